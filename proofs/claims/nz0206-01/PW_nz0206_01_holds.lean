import PyProof.Rows.All
import Wide.All
import OpenK.AllK
import Wide.FinOn
import PyProof.TableCode
import Lean
import PySem.Challenge.RW_nz0206_01
set_option Elab.async false
set_option maxRecDepth 100000
set_option linter.unusedVariables false
set_option tactic.hygienic false
set_option genSizeOf false
set_option genInjectivity false
set_option bootstrap.genMatcherCode false
set_option backward.match.sparseCases false
set_option backward.eqns.nonrecursive false
set_option backward.eqns.deepRecursiveSplit false
namespace Mine.Internal
noncomputable section
set_option genCtorIdx false
set_option compiler.extract_closed false
set_option compiler.reuse false
@[elab_as_elim]theorem rwl{A:Sort u}{P:A->Prop}{a b:A}(h:a=b)(q:P b):P a:=h▸q
@[elab_as_elim]theorem rwr{A:Sort u}{P:A->Prop}{a b:A}(h:a=b)(q:P a):P b:=h▸q
open Lean in
def rwf(x:Array Syntax)(w:String):Syntax:=((w.splitOn " ").foldl (λ l w=>let p:=w.splitOn "/";let n:=p.getLast!.length;if p.length==1 then .atom .none w::l else if p.head!="" then x[n]!::l else .node .none p.head!.toName (l.take n).reverse.toArray::l.drop n) []).head!
open Lean in
local macro_rules (kind:=Lean.Parser.Tactic.rwSeq)
 |s=>if s[1][0].getNumArgs+s[3].getNumArgs>0 then Macro.throwUnsupported else pure (s[2][1].getArgs.foldr (λ r q=>if r.isAtom then q else rwf #[mkIdent (if r[0].getNumArgs==0 then `rwl else `rwr),r[1],.node .none `Lean.Parser.Tactic.rewriteSeq #[s[0],s[1],s[2].setArg 1 (.node .none `null #[r]),s[3]],q] "( first | refine / /- .. Lean.Parser.Term.ellipsis/- null/- Lean.Parser.Term.app/-- ? _ Lean.Parser.Term.syntheticHole/-- null/-- Lean.Parser.Term.app/-- Lean.Parser.Tactic.refine/-- null/- Lean.Parser.Tactic.tacticSeq1Indented/- Lean.Parser.Tactic.tacticSeq/- group/-- | /-- null/- Lean.Parser.Tactic.tacticSeq1Indented/- Lean.Parser.Tactic.tacticSeq/- group/-- null/-- Lean.Parser.Tactic.first/-- ; /--- null/--- Lean.Parser.Tactic.tacticSeq1Indented/- Lean.Parser.Tactic.tacticSeq/- ) Lean.Parser.Tactic.paren/---") (rwf #[] "try with_reducible rfl Lean.Parser.Tactic.tacticRfl/- null/- Lean.Parser.Tactic.tacticSeq1Indented/- Lean.Parser.Tactic.tacticSeq/- Lean.Parser.Tactic.withReducible/-- null/- Lean.Parser.Tactic.tacticSeq1Indented/- Lean.Parser.Tactic.tacticSeq/- Lean.Parser.Tactic.tacticTry_/--"))
theorem ah:type_of% @Nat.le_trans:=@Nat.le_trans
theorem aT:type_of% @if_pos:=@if_pos
theorem a9:type_of% @if_neg:=@if_neg
theorem bx:type_of% @Nat.le_refl:=@Nat.le_refl
theorem bB:type_of% @congrArg:=@congrArg
theorem bC:type_of% @Nat.not_lt_zero:=@Nat.not_lt_zero
theorem bR:type_of% @List.length_append:=@List.length_append
theorem bZ:type_of% @PySem.wpAny_bind:=@PySem.wpAny_bind
theorem cB:type_of% @Nat.le_antisymm:=@Nat.le_antisymm
theorem cI:type_of% @Nat.le_of_not_lt:=@Nat.le_of_not_lt
theorem cM:type_of% @List.length_map:=@List.length_map
theorem c':type_of% @Option.some.inj:=@Option.some.inj
theorem df:type_of% @Nat.zero_le:=@Nat.zero_le
theorem dD:type_of% @Nat.le_add_right:=@Nat.le_add_right
theorem dN:type_of% @PySem.wpAny_pure:=@PySem.wpAny_pure
theorem dR:type_of% @Int.ofNat_lt:=@Int.ofNat_lt
theorem d7:type_of% @Nat.lt_of_lt_of_le:=@Nat.lt_of_lt_of_le
theorem el:type_of% @List.append_assoc:=@List.append_assoc
theorem eo:type_of% @Nat.lt_succ_self:=@Nat.lt_succ_self
theorem ew:type_of% @List.mem_cons:=@List.mem_cons
theorem ez:type_of% @Nat.add_assoc:=@Nat.add_assoc
theorem eC:type_of% @beq_self_eq_true:=@beq_self_eq_true
theorem e0:type_of% @List.cons.inj:=@List.cons.inj
theorem e7:type_of% @Nat.add_le_add_left:=@Nat.add_le_add_left
theorem e8:type_of% @List.map_append:=@List.map_append
theorem e':type_of% @Nat.ne_of_lt:=@Nat.ne_of_lt
theorem fi:type_of% @decide_eq_true:=@decide_eq_true
theorem fF:type_of% @beq_eq_false_iff_ne:=@beq_eq_false_iff_ne
theorem fG:type_of% @List.mem_singleton:=@List.mem_singleton
theorem fH:type_of% @List.mem_append:=@List.mem_append
theorem fN:type_of% @PySem.wpAny_mono:=@PySem.wpAny_mono
theorem fV:type_of% @Nat.add_le_add:=@Nat.add_le_add
theorem fW:type_of% @List.length_cons:=@List.length_cons
theorem f9:type_of% @List.mem_cons_self:=@List.mem_cons_self
theorem gg:type_of% @of_decide_eq_true:=@of_decide_eq_true
theorem gh:type_of% @List.not_mem_nil:=@List.not_mem_nil
theorem gm:type_of% @Option.bind_eq_some_iff:=@Option.bind_eq_some_iff
theorem gr:type_of% @Nat.zero_add:=@Nat.zero_add
theorem gC:type_of% @Nat.le_add_left:=@Nat.le_add_left
theorem gS:type_of% @Option.map_eq_some_iff:=@Option.map_eq_some_iff
theorem gT:type_of% @List.append_nil:=@List.append_nil
theorem gU:type_of% @List.mem_cons_of_mem:=@List.mem_cons_of_mem
theorem ha:type_of% @Nat.exists_eq_add_of_le':=@Nat.exists_eq_add_of_le'
theorem hq:type_of% @Nat.le_succ:=@Nat.le_succ
theorem hr:type_of% @Nat.sub_le:=@Nat.sub_le
theorem hs:type_of% @List.length_set:=@List.length_set
theorem hK:type_of% @List.getElem?_eq_getElem:=@List.getElem?_eq_getElem
theorem hU:type_of% @Int.ofNat_le:=@Int.ofNat_le
theorem hV:type_of% @Nat.ne_of_gt:=@Nat.ne_of_gt
theorem h_:type_of% @decide_eq_false:=@decide_eq_false
theorem h':type_of% @Nat.succ_le_succ:=@Nat.succ_le_succ
theorem iy:type_of% @beq_iff_eq:=@beq_iff_eq
theorem iz:type_of% @List.getElem?_eq_some_iff:=@List.getElem?_eq_some_iff
theorem iQ:type_of% @List.length_nil:=@List.length_nil
theorem i5:type_of% @Int.natCast_nonneg:=@Int.natCast_nonneg
theorem jl:type_of% @Array.length_toList:=@Array.length_toList
theorem jm:type_of% @PySem.wpAny_holding:=@PySem.wpAny_holding
theorem jn:type_of% @List.length_drop:=@List.length_drop
theorem jF:type_of% @Nat.le_of_eq:=@Nat.le_of_eq
theorem jG:type_of% @Int.not_lt:=@Int.not_lt
theorem jH:type_of% @List.map_cons:=@List.map_cons
theorem jI:type_of% @Nat.succ_pos:=@Nat.succ_pos
theorem j':type_of% @Nat.lt_succ_of_lt:=@Nat.lt_succ_of_lt
theorem ka:type_of% @List.mem_of_getElem?:=@List.mem_of_getElem?
theorem kb:type_of% @List.getElem?_map:=@List.getElem?_map
theorem kc:type_of% @Nat.le_of_lt:=@Nat.le_of_lt
theorem kd:type_of% @Nat.lt_succ_of_le:=@Nat.lt_succ_of_le
theorem kz:type_of% @List.all_eq_true:=@List.all_eq_true
theorem k1:type_of% @Nat.le_of_succ_le_succ:=@Nat.le_of_succ_le_succ
theorem k2:type_of% @Bool.and_eq_true:=@Bool.and_eq_true
theorem k3:type_of% @Int.ofNat_inj:=@Int.ofNat_inj
theorem k4:type_of% @List.lookup_cons:=@List.lookup_cons
theorem lK:type_of% @Nat.not_lt:=@Nat.not_lt
theorem lL:type_of% @List.take_add_one:=@List.take_add_one
theorem mn:type_of% @Nat.lt_of_succ_lt:=@Nat.lt_of_succ_lt
theorem mT:type_of% @List.drop_zero:=@List.drop_zero
theorem nI:type_of% @PySem.wpAny_ite_false:=@PySem.wpAny_ite_false
theorem nJ:type_of% @PySem.Heap.dictOf_iff:=@PySem.Heap.dictOf_iff
theorem nK:type_of% @List.length_take:=@List.length_take
theorem nL:type_of% @List.take_length:=@List.take_length
theorem nM:type_of% @List.drop_drop:=@List.drop_drop
theorem oQ:type_of% @List.nil_append:=@List.nil_append
theorem nN:type_of% @List.mem_map:=@List.mem_map
theorem nO:type_of% @Prod.mk.injEq:=@Prod.mk.injEq
theorem nP:type_of% @Nat.le_of_lt_succ:=@Nat.le_of_lt_succ
theorem nQ:type_of% @Nat.add_comm:=@Nat.add_comm
theorem oR:type_of% @List.getElem?_eq_none:=@List.getElem?_eq_none
theorem oS:type_of% @List.drop_eq_getElem_cons:=@List.drop_eq_getElem_cons
theorem oT:type_of% @Nat.le_succ_of_le:=@Nat.le_succ_of_le
theorem pW:type_of% @Nat.mul_le_mul_right:=@Nat.mul_le_mul_right
theorem pX:type_of% @Nat.lt_of_not_le:=@Nat.lt_of_not_le
theorem pY:type_of% @PySem.wpAny_standAt:=@PySem.wpAny_standAt
theorem pZ:type_of% @List.cons_append:=@List.cons_append
theorem p0:type_of% @Nat.le_of_succ_le:=@Nat.le_of_succ_le
theorem p1:type_of% @Bool.beq_comm:=@Bool.beq_comm
theorem p2:type_of% @List.length_reverse:=@List.length_reverse
theorem rf:type_of% @PySem.Heap.get?_push_size:=@PySem.Heap.get?_push_size
theorem rg:type_of% @List.mem_of_mem_take:=@List.mem_of_mem_take
theorem rh:type_of% @of_decide_eq_false:=@of_decide_eq_false
theorem ri:type_of% @Nat.le_max_left:=@Nat.le_max_left
theorem rd:type_of% @Nat.le_max_right:=@Nat.le_max_right
theorem sk:type_of% @Nat.le_of_ble_eq_true:=@Nat.le_of_ble_eq_true
theorem sl:type_of% @Bool.and_eq_true_iff:=@Bool.and_eq_true_iff
theorem sm:type_of% @Nat.lt_of_succ_lt_succ:=@Nat.lt_of_succ_lt_succ
theorem so:type_of% @Nat.lt_of_le_of_lt:=@Nat.lt_of_le_of_lt
theorem sq:type_of% @List.getElem?_drop:=@List.getElem?_drop
theorem sr:type_of% @List.nodup_cons:=@List.nodup_cons
theorem su:type_of% @List.drop_eq_nil_of_le:=@List.drop_eq_nil_of_le
theorem sv:type_of% @List.forIn_cons:=@List.forIn_cons
theorem sx:type_of% @Nat.succ_lt_succ:=@Nat.succ_lt_succ
theorem sy:type_of% @List.length_replicate:=@List.length_replicate
theorem sz:type_of% @List.length_take_le':=@List.length_take_le'
theorem uj:type_of% @Nat.mul_le_mul_left:=@Nat.mul_le_mul_left
theorem uk:type_of% @Int.eq_ofNat_of_zero_le:=@Int.eq_ofNat_of_zero_le
theorem um:type_of% @List.map_inj_left:=@List.map_inj_left
theorem uo:type_of% @Nat.lt_or_gt_of_ne:=@Nat.lt_or_gt_of_ne
theorem vW:type_of% @List.length_eq_zero_iff:=@List.length_eq_zero_iff
theorem vX:type_of% @Nat.succ_add_eq_add_succ:=@Nat.succ_add_eq_add_succ
theorem vY:type_of% @Nat.sub_eq_zero_of_le:=@Nat.sub_eq_zero_of_le
theorem vZ:type_of% @Nat.add_le_add_right:=@Nat.add_le_add_right
theorem yt:type_of% @List.getElem?_append_right:=@List.getElem?_append_right
theorem aH{p q:Prop}(h:p=q)(k:q):p:=h▸k
section
noncomputable abbrev b':=PySem.Str.ofString "at"
noncomputable abbrev e3:=PySem.Str.ofString "text"
noncomputable abbrev g6:=PySem.Str.ofString "row"
noncomputable abbrev g7:=PySem.Str.ofString "groups"
noncomputable abbrev hC:=PySem.Str.ofString "skips"
noncomputable abbrev h6:=PySem.Str.ofString "registers"
noncomputable abbrev iw:=PySem.Str.ofString "add"
noncomputable abbrev iY:=PySem.Str.ofString "pile"
noncomputable abbrev jx:=PySem.Str.ofString "append"
noncomputable abbrev km:=PySem.Str.ofString "rows"
noncomputable abbrev mF:=PySem.Str.ofString "peek"
noncomputable abbrev oj:=PySem.Str.ofString "most"
noncomputable abbrev om:=PySem.Str.ofString "node"
noncomputable abbrev oo:=PySem.Str.ofString "names"
noncomputable abbrev oq:=PySem.Str.ofString "depth"
noncomputable abbrev pD:=PySem.Str.ofString "run"
noncomputable abbrev pE:=PySem.Str.ofString "steps"
noncomputable abbrev qT:=PySem.Str.ofString "fresh"
noncomputable abbrev qU:=PySem.Str.ofString "state"
noncomputable abbrev r1:=PySem.Str.ofString "join"
noncomputable abbrev r2:=PySem.Str.ofString "program"
noncomputable abbrev tD:=PySem.Str.ofString "found"
noncomputable abbrev tE:=PySem.Str.ofString "flags"
noncomputable abbrev vv:=PySem.Str.ofString "find"
noncomputable abbrev vw:=PySem.Str.ofString "setdefault"
noncomputable abbrev vx:=PySem.Str.ofString "word"
noncomputable abbrev xC:=PySem.Str.ofString "split"
noncomputable abbrev xD:=PySem.Str.ofString "pop"
noncomputable abbrev xE:=PySem.Str.ofString "law"
noncomputable abbrev xF:=PySem.Str.ofString "least"
noncomputable abbrev xG:=PySem.Str.ofString "least_end"
noncomputable abbrev xH:=PySem.Str.ofString "spoken"
noncomputable abbrev Ab:=PySem.Str.ofString "lower"
noncomputable abbrev Ac:=PySem.Str.ofString "begin"
noncomputable abbrev Ad:=PySem.Str.ofString "start"
noncomputable abbrev Ae:=PySem.Str.ofString "maker"
noncomputable abbrev Af:=PySem.Str.ofString "width"
noncomputable abbrev Ag:=PySem.Str.ofString "begun"
noncomputable abbrev Ah:=PySem.Str.ofString "is_folded"
noncomputable abbrev EA:=PySem.Str.ofString "is_negated"
noncomputable abbrev jW:List Nat:=[103,114,111,117,112]
noncomputable abbrev oc:List Nat:=[98,97,99,107]
noncomputable abbrev pj:List Nat:=[97,116,111,109,105,99]
noncomputable abbrev pk:List Nat:=[115,101,116]
noncomputable abbrev qC:List Nat:=[114,101,112]
noncomputable abbrev qD:List Nat:=[114,97,110,103,101]
noncomputable abbrev qE:List Nat:=[108,111,111,107]
noncomputable abbrev rS:List Nat:=[115,112,108,105,116]
noncomputable abbrev rT:List Nat:=[112,108,97,99,101]
noncomputable abbrev rU:List Nat:=[111,110,101]
noncomputable abbrev tl:List Nat:=[115,105,103,110]
noncomputable abbrev tm:List Nat:=[114,111,119]
noncomputable abbrev ve:List Nat:=[106,117,109,112]
noncomputable abbrev vf:List Nat:=[97,103,97,105,110]
noncomputable abbrev xb:List Nat:=[116,114,121]
noncomputable abbrev xc:List Nat:=[109,97,114,107]
noncomputable abbrev zQ:List Nat:=[114,101,103,105,115,116,101,114]
noncomputable abbrev zR:List Nat:=[109,111,114,101]
noncomputable abbrev zS:List Nat:=[108,101,115,115]
noncomputable abbrev zT:List Nat:=[99,108,97,115,115]
noncomputable abbrev DO:List Nat:=[103,114,101,101,100,121]
noncomputable abbrev DP:List Nat:=[98,114,97,110,99,104,101,115]
noncomputable abbrev DQ:List Nat:=[114,111,117,110,100,115]
end
section
open PySem (Str Scope NameKind BoolOp Operator UnaryOp CmpOp Const Stmt Comprehension Pos Program)
open PySem (Expr)
section
section
theorem ae{a b:Nat}(h:Nat.ble a b=true):a<=b:=sk h
section
variable{aA dB ay bA aR F:Type}
theorem cv{P:aA->dB->Prop}(a b)(h:P a b):∃a b,P a b:=⟨a,b,h⟩
theorem gw{P:aA->dB->ay->Prop}(a b c)(h:P a b c):∃a b c,P a b c:=cv a b ⟨c,h⟩
theorem h2{P:aA->dB->ay->bA->Prop}(a b c o)(h:P a b c o):∃a b c o,P a b c o:=gw a b c ⟨o,h⟩
theorem IG{P:aA->dB->ay->bA->aR->Prop}(a b c o d)(h:P a b c o d):∃a b c o d,P a b c o d:=h2 a b c o ⟨d,h⟩
theorem IH{P:aA->dB->ay->bA->aR->F->Prop}(a b c o d f)(h:P a b c o d f):∃a b c o d f,P a b c o d f:=IG a b c o d ⟨f,h⟩
end
@[elab_as_elim]
theorem nc{P:Nat->Prop}(a:P 0)(b:P 1)(c:P 2)(o:P 3)(d:P 4)(f:∀n,P (n+5)):∀n,P n
 |0=>a
 |1=>b
 |2=>c
 |3=>o
 |4=>d
 |n+5=>f n
theorem fu{k n:Nat}(h:k<=n):∃m,n=m+k:=⟨n-k,(Nat.sub_add_cancel h).symm⟩
theorem i7{P:Nat->Prop}{k n:Nat}(h:k<=n)(f:∀m,P (m+k)):P n:=rwr (Nat.sub_add_cancel h) (f _)
theorem iH{P:Nat->Prop}{k n:Nat}(h:k+1<=n)(f:∀m,k<=m->P (m+1)):P n:=by
 obtain⟨m,rfl⟩:=fu (ah (gC 1 k) h)
 exact f m (k1 h)
theorem D3{P:Nat->Prop}{k n:Nat}(h:k+2<=n)(f:∀m,k<=m->P (m+2)):P n:=by
 obtain⟨m,rfl⟩:=fu (ah (gC 2 k) h)
 exact f m (k1 (k1 h))
section
variable{T mR E W X ky:Type}{A:Prop}{e5 hT oH nu t7 yb Fu Fw:Prop}{hl gz fC lF t8 gZ yd Fx:T->Prop}{hS fm jj mL ya mi:T->mR->Prop}{hn i2 ks jA oK jC:T->mR->E->Prop}{oD lE q2 t6 Fp:T->mR->E->W->Prop}{Fe Fg:T->mR->E->W->X->ky->Prop}
theorem bf(h:e5/\hT)(f:e5->hT->A):A:=by obtain⟨a,b⟩:=h;exact f a b
theorem a7(h:∃t,hl t)(f:∀t,hl t->A):A:=by obtain⟨a,b⟩:=h;exact f a b
theorem e_(h:e5/\hT/\oH)(f:e5->hT->oH->A):A:=by obtain⟨a,b,c⟩:=h;exact f a b c
theorem LH(h:e5/\∃t,hl t)(f:e5->∀t,hl t->A):A:=by obtain⟨a,b,c⟩:=h;exact f a b c
theorem ba(h:∃t,hl t/\gz t)(f:∀t,hl t->gz t->A):A:=by obtain⟨a,b,c⟩:=h;exact f a b c
theorem EX(h:∃t u,hS t u)(f:∀t u,hS t u->A):A:=by obtain⟨a,b,c⟩:=h;exact f a b c
theorem f5(h:e5/\hT/\oH/\nu)(f:e5->hT->oH->nu->A):A:=by obtain⟨a,b,c,o⟩:=h;exact f a b c o
theorem EV(h:e5/\hT/\∃t,hl t)(f:e5->hT->∀t,hl t->A):A:=by obtain⟨a,b,c,o⟩:=h;exact f a b c o
theorem Ay(h:e5/\∃t u,hS t u)(f:e5->∀t u,hS t u->A):A:=by obtain⟨a,b,c,o⟩:=h;exact f a b c o
theorem fz(h:∃t,hl t/\gz t/\fC t)(f:∀t,hl t->gz t->fC t->A):A:=by obtain⟨a,b,c,o⟩:=h;exact f a b c o
theorem xU(h:∃t,hl t/\∃u,hS t u)(f:∀t,hl t->∀u,hS t u->A):A:=by obtain⟨a,b,c,o⟩:=h;exact f a b c o
theorem fA(h:∃t u,hS t u/\fm t u)(f:∀t u,hS t u->fm t u->A):A:=by obtain⟨a,b,c,o⟩:=h;exact f a b c o
theorem vD(h:e5/\hT/\oH/\nu/\t7)(f:e5->hT->oH->nu->t7->A):A:=by obtain⟨a,b,c,o,d⟩:=h;exact f a b c o d
theorem xS(h:e5/\∃t,hl t/\gz t/\fC t)(f:e5->∀t,hl t->gz t->fC t->A):A:=by obtain⟨a,b,c,o,d⟩:=h;exact f a b c o d
theorem pJ(h:e5/\∃t u,hS t u/\fm t u)(f:e5->∀t u,hS t u->fm t u->A):A:=by obtain⟨a,b,c,o,d⟩:=h;exact f a b c o d
theorem LI(h:e5/\∃t u v,hn t u v)(f:e5->∀t u v,hn t u v->A):A:=by obtain⟨a,b,c,o,d⟩:=h;exact f a b c o d
theorem xT(h:∃t,hl t/\gz t/\fC t/\lF t)(f:∀t,hl t->gz t->fC t->lF t->A):A:=by obtain⟨a,b,c,o,d⟩:=h;exact f a b c o d
theorem jd(h:∃t u,hS t u/\fm t u/\jj t u)(f:∀t u,hS t u->fm t u->jj t u->A):A:=by obtain⟨a,b,c,o,d⟩:=h;exact f a b c o d
theorem xV(h:∃t u v,hn t u v/\i2 t u v)(f:∀t u v,hn t u v->i2 t u v->A):A:=by obtain⟨a,b,c,o,d⟩:=h;exact f a b c o d
theorem EU(h:e5/\hT/\oH/\nu/\t7/\yb)(f:e5->hT->oH->nu->t7->yb->A):A:=by obtain⟨a,b,c,o,d,g⟩:=h;exact f a b c o d g
theorem afy(h:e5/\hT/\∃t u v,hn t u v)(f:e5->hT->∀t u v,hn t u v->A):A:=by obtain⟨a,b,c,o,d,g⟩:=h;exact f a b c o d g
theorem afz(h:e5/\∃t,hl t/\gz t/\fC t/\lF t)(f:e5->∀t,hl t->gz t->fC t->lF t->A):A:=by obtain⟨a,b,c,o,d,g⟩:=h;exact f a b c o d g
theorem LK(h:∃t,hl t/\gz t/\fC t/\lF t/\t8 t)(f:∀t,hl t->gz t->fC t->lF t->t8 t->A):A:=by obtain⟨a,b,c,o,d,g⟩:=h;exact f a b c o d g
theorem tO(h:∃t u,hS t u/\fm t u/\jj t u/\mL t u)(f:∀t u,hS t u->fm t u->jj t u->mL t u->A):A:=by obtain⟨a,b,c,o,d,g⟩:=h;exact f a b c o d g
theorem afC(h:∃t u,hS t u/\fm t u/\∃v,hn t u v)(f:∀t u,hS t u->fm t u->∀v,hn t u v->A):A:=by obtain⟨a,b,c,o,d,g⟩:=h;exact f a b c o d g
theorem fg(h:∃t u v,hn t u v/\i2 t u v/\ks t u v)(f:∀t u v,hn t u v->i2 t u v->ks t u v->A):A:=by obtain⟨a,b,c,o,d,g⟩:=h;exact f a b c o d g
theorem AA(h:∃t u v w,oD t u v w/\lE t u v w)(f:∀t u v w,oD t u v w->lE t u v w->A):A:=by obtain⟨a,b,c,o,d,g⟩:=h;exact f a b c o d g
theorem Ax(h:e5/\hT/\∃t u v,hn t u v/\i2 t u v)(f:e5->hT->∀t u v,hn t u v->i2 t u v->A):A:=by obtain⟨a,b,c,o,d,g,i⟩:=h;exact f a b c o d g i
theorem Az(h:e5/\∃t u,hS t u/\fm t u/\jj t u/\mL t u)(f:e5->∀t u,hS t u->fm t u->jj t u->mL t u->A):A:=by obtain⟨a,b,c,o,d,g,i⟩:=h;exact f a b c o d g i
theorem tP(h:∃t u,hS t u/\fm t u/\jj t u/\mL t u/\ya t u)(f:∀t u,hS t u->fm t u->jj t u->mL t u->ya t u->A):A:=by obtain⟨a,b,c,o,d,g,i⟩:=h;exact f a b c o d g i
theorem j5(h:∃t u v,hn t u v/\i2 t u v/\ks t u v/\jA t u v)(f:∀t u v,hn t u v->i2 t u v->ks t u v->jA t u v->A):A:=by obtain⟨a,b,c,o,d,g,i⟩:=h;exact f a b c o d g i
theorem r9(h:∃t u v w,oD t u v w/\lE t u v w/\q2 t u v w)(f:∀t u v w,oD t u v w->lE t u v w->q2 t u v w->A):A:=by obtain⟨a,b,c,o,d,g,i⟩:=h;exact f a b c o d g i
theorem LF(h:e5/\hT/\oH/\nu/\t7/\yb/\Fu/\Fw)(f:e5->hT->oH->nu->t7->yb->Fu->Fw->A):A:=by obtain⟨a,b,c,o,d,g,i,y⟩:=h;exact f a b c o d g i y
theorem afx(h:e5/\hT/\∃t u,hS t u/\fm t u/\jj t u/\mL t u)(f:e5->hT->∀t u,hS t u->fm t u->jj t u->mL t u->A):A:=by obtain⟨a,b,c,o,d,g,i,y⟩:=h;exact f a b c o d g i y
theorem tN(h:e5/\∃t u v,hn t u v/\i2 t u v/\ks t u v/\jA t u v)(f:e5->∀t u v,hn t u v->i2 t u v->ks t u v->jA t u v->A):A:=by obtain⟨a,b,c,o,d,g,i,y⟩:=h;exact f a b c o d g i y
theorem afA(h:∃t,hl t/\gz t/\fC t/\lF t/\t8 t/\gZ t/\yd t)(f:∀t,hl t->gz t->fC t->lF t->t8 t->gZ t->yd t->A):A:=by obtain⟨a,b,c,o,d,g,i,y⟩:=h;exact f a b c o d g i y
theorem afB(h:∃t,hl t/\∃u v w,oD t u v w/\lE t u v w/\q2 t u v w)(f:∀t,hl t->∀u v w,oD t u v w->lE t u v w->q2 t u v w->A):A:=by obtain⟨a,b,c,o,d,g,i,y⟩:=h;exact f a b c o d g i y
theorem ox(h:∃t u,hS t u/\fm t u/\jj t u/\mL t u/\ya t u/\mi t u)(f:∀t u,hS t u->fm t u->jj t u->mL t u->ya t u->mi t u->A):A:=by obtain⟨a,b,c,o,d,g,i,y⟩:=h;exact f a b c o d g i y
theorem LM(h:∃t u v,hn t u v/\i2 t u v/\ks t u v/\jA t u v/\oK t u v)(f:∀t u v,hn t u v->i2 t u v->ks t u v->jA t u v->oK t u v->A):A:=by obtain⟨a,b,c,o,d,g,i,y⟩:=h;exact f a b c o d g i y
theorem afD(h:∃t u v w,oD t u v w/\lE t u v w/\q2 t u v w/\t6 t u v w)(f:∀t u v w,oD t u v w->lE t u v w->q2 t u v w->t6 t u v w->A):A:=by obtain⟨a,b,c,o,d,g,i,y⟩:=h;exact f a b c o d g i y
theorem afE(h:∃t u v w x H,Fe t u v w x H/\Fg t u v w x H)(f:∀t u v w x H,Fe t u v w x H->Fg t u v w x H->A):A:=by obtain⟨a,b,c,o,d,g,i,y⟩:=h;exact f a b c o d g i y
theorem LL(h:∃t,hl t/\gz t/\fC t/\lF t/\t8 t/\gZ t/\yd t/\Fx t)(f:∀t,hl t->gz t->fC t->lF t->t8 t->gZ t->yd t->Fx t->A):A:=by obtain⟨a,b,c,o,d,g,i,y,k⟩:=h;exact f a b c o d g i y k
theorem r8(h:∃t u v,hn t u v/\i2 t u v/\ks t u v/\jA t u v/\oK t u v/\jC t u v)(f:∀t u v,hn t u v->i2 t u v->ks t u v->jA t u v->oK t u v->jC t u v->A):A:=by obtain⟨a,b,c,o,d,g,i,y,k⟩:=h;exact f a b c o d g i y k
theorem vE(h:∃t u v w,oD t u v w/\lE t u v w/\q2 t u v w/\t6 t u v w/\Fp t u v w)(f:∀t u v w,oD t u v w->lE t u v w->q2 t u v w->t6 t u v w->Fp t u v w->A):A:=by obtain⟨a,b,c,o,d,g,i,y,k⟩:=h;exact f a b c o d g i y k
theorem LG(h:e5/\hT/\∃t u v,hn t u v/\i2 t u v/\ks t u v/\jA t u v/\oK t u v)(f:e5->hT->∀t u v,hn t u v->i2 t u v->ks t u v->jA t u v->oK t u v->A):A:=by obtain⟨a,b,c,o,d,g,i,y,k,l⟩:=h;exact f a b c o d g i y k l
theorem LJ(h:e5/\∃t u v,hn t u v/\i2 t u v/\ks t u v/\jA t u v/\oK t u v/\jC t u v)(f:e5->∀t u v,hn t u v->i2 t u v->ks t u v->jA t u v->oK t u v->jC t u v->A):A:=by obtain⟨a,b,c,o,d,g,i,y,k,l⟩:=h;exact f a b c o d g i y k l
theorem EW(h:e5/\hT/\∃t u v,hn t u v/\i2 t u v/\ks t u v/\jA t u v/\oK t u v/\jC t u v)(f:e5->hT->∀t u v,hn t u v->i2 t u v->ks t u v->jA t u v->oK t u v->jC t u v->A):A:=by obtain⟨a,b,c,o,d,g,i,y,k,l,m⟩:=h;exact f a b c o d g i y k l m
end
inductive gd where
 |at(i:Nat)|tj (n:Nat)|yA (n:Nat)|ad (a b:gd)|l1 (k:Nat) (a:gd)
inductive kX where
 |go (a b:gd)|b_ (c:Nat) (a b:gd) (r:kX)
noncomputable def zO(ai:List Nat):Nat->Nat:=List.rec (λ z=>0) (λ x z a i=>Nat.rec x (λ y z=>a y) i) ai
noncomputable def EI(n:Nat):Nat:=Nat.rec 0 (λ z m=>m.succ) n
theorem ae5(n:Nat):EI n=n:=Nat.rec rfl (λ z=>bB _) n
noncomputable def gd.den(ai:List Nat)(d:gd):Nat:=gd.rec (λ i=>zO ai i) EI (λ n=>n) (λ z z a b=>a+b) (λ k z a=>k*a) d
noncomputable def gd.co(d:gd):Nat->Nat:=gd.rec (λ i y=>(i.beq y).rec 0 1) (λ z z=>0) (λ z z=>0) (λ z z a b y=>a y+b y) (λ k z a y=>k*a y) d
noncomputable def gd.lY(d:gd):Nat:=gd.rec (λ z=>0) (λ n=>n) (λ n=>n) (λ z z a b=>a+b) (λ k z a=>k*a) d
noncomputable def iv(ai:List Nat):(Nat->Nat)->Nat:=List.rec (λ z=>0) (λ x z a f=>f 0*x+a (λ i=>f (i+1))) ai
noncomputable def u6(ai:List Nat):(Nat->Nat)->(Nat->Nat)->Bool:=List.rec (λ z z=>true) (λ z z a f g=>((f 0).ble (g 0)).rec false (a (λ i=>f (i+1)) (λ i=>g (i+1)))) ai
def kX.Den(ai:List Nat)(q:kX):Prop:=kX.rec (λ a b=>a.den ai<=b.den ai) (λ z a b z c=>a.den ai<=b.den ai->c) q
noncomputable def kX.ok(ai:List Nat)(q:kX):gd->gd->Bool:=kX.rec (λ a b c_ R=>((gd.ad a R).lY.ble (gd.ad b c_).lY).rec false (u6 ai (gd.ad a R).co (gd.ad b c_).co)) (λ c a b z d c_ R=>d (.ad (.l1 c a) c_) (.ad (.l1 c b) R)) q
theorem ac9(ai:List Nat):∀f g,u6 ai f g=true->iv ai f<=iv ai g:=by
 induction ai with
 |nil=>exact λ z z z=>bx _
 |cons x ai c=>
  intro f g h
  have C:∀b,Bool.rec false (u6 ai (λ i=>f (i+1)) λ i=>g (i+1)) b=true->b=true/\u6 ai (λ i=>f (i+1)) (λ i=>g (i+1))=true:=by
   intro b a;rcases b with _|_
   ·exact(Bool.false_ne_true a).elim
   ·exact⟨rfl,a⟩
  have I:=C _ h
  exact fV (pW _ (sk I.1)) (c _ _ I.2)
theorem ac8(ai:List Nat):∀f g,iv ai (λ i=>f i+g i)=iv ai f+iv ai g:=by
 induction ai with
 |nil=>exact λ z z=>rfl
 |cons x ai a=>
  intro f g
  show(f 0+g 0)*x+iv ai _=f 0*x+iv ai _+(g 0*x+iv ai _)
  rw[a _ _,Nat.add_mul,Nat.add_add_add_comm]
theorem ac_(k:Nat)(ai:List Nat):∀f,iv ai (λ i=>k*f i)=k*iv ai f:=by
 induction ai with
 |nil=>exact λ z=>rfl
 |cons x ai a=>
  intro f
  show k*f 0*x+iv ai _=k*(f 0*x+iv ai _)
  rw[a _,Nat.mul_add,Nat.mul_assoc]
theorem Ez(ai:List Nat):iv ai (λ z=>0)=0:=by
 induction ai with
 |nil=>rfl
 |cons x ai a=>show 0*x+iv ai _=0;rw[a,Nat.zero_mul]
set_option tactic.hygienic true in
theorem ac'(ai:List Nat):∀i,iv ai (gd.at i).co=zO ai i:=by
 induction ai with
 |nil=>exact λ z=>rfl
 |cons x ai a=>
  intro i;(rcases i with _|_;(case zero=>show 1*x+iv ai (λ z=>0)=x;rw[Ez,Nat.one_mul,Nat.add_zero]);(case succ i=>show 0*x+iv ai (gd.at i).co=zO ai i;rw[a,Nat.zero_mul,gr]))
theorem gd.GU(ai:List Nat)(d:gd):d.den ai=d.lY+iv ai d.co:=by
 induction d with
 |«at» i=>show zO ai i=0+iv ai _;rw[ac',gr]
 |tj n=>show EI n=n+iv ai λ z=>0;rw[Ez];exact ae5 n
 |yA n=>show n=n+iv ai λ z=>0;rw[Ez];rfl
 |ad a b c e=>
  show a.den ai+b.den ai=a.lY+b.lY+iv ai λ i=>a.co i+b.co i
  rw[c,e,ac8,Nat.add_add_add_comm]
 |l1 k a f=>
  show k*a.den ai=k*a.lY+iv ai λ i=>k*a.co i
  rw[f,ac_,Nat.mul_add]
theorem kX.aaA(ai:List Nat)(q:kX):∀c_ R:gd,q.ok ai c_ R=true->c_.den ai<=R.den ai->q.Den ai:=by
 induction q with
 |go a b=>
  intro c_ R h d
  have C:∀c,Bool.rec false (u6 ai (gd.ad a R).co (gd.ad b c_).co) c=true->c=true/\u6 ai (gd.ad a R).co (gd.ad b c_).co=true:=by
   intro b e;rcases b with _|_
   ·exact(Bool.false_ne_true e).elim
   ·exact⟨rfl,e⟩
  have I:=C _ h
  have af:(gd.ad a R).den ai<=(gd.ad b c_).den ai:=by
   rw[gd.GU,gd.GU ai _]
   exact fV (sk I.1) (ac9 ai _ _ I.2)
  exact Nat.le_of_add_le_add_right (ah af (e7 d _))
 |b_ c a b r f=>
  exact λ c_ R h d C=>f _ _ h (fV (uj c C) d)
noncomputable def zZ(f:Nat):Nat->(cc:Type)->(gd->Nat->cc)->cc:=
 Nat.rec (λ n z k=>k (.tj 0) n) (λ z a n cc k=>
  Nat.rec (a (n/32) cc λ x n=>a n cc λ H n=>k (.ad x H) n)
   (λ o z=>Nat.rec (a (n/1024) cc λ x m=>k (.l1 (n/32%32) x) m)
    (λ o z=>Nat.rec (k (.tj (n/32%32)) (n/1024))
     (λ o z=>Nat.rec (k (.yA (n/1024%32^(n/32%32))) (n/1024/32^(n/32%32)))
      (λ o z=>k (.at o) (n/32)) o) o) o) (n%32)) f
noncomputable def GS(f:Nat):Nat->kX:=
 Nat.rec (λ z=>.go (.tj 1) (.tj 0)) (λ z c n=>
  Nat.rec (zZ 30 (n/32) kX λ a n=>zZ 30 n kX λ b z=>.go a b)
   (λ o z=>zZ 30 (n/32) kX λ a n=>zZ 30 n kX λ b n=>.b_ (o+1) a b (c n)) (n%32)) f
theorem J(ai:List Nat)(n:Nat)(h:(GS 30 n).ok ai (.tj 0) (.tj 0)=true):(GS 30 n).Den ai:=
 kX.aaA ai _ _ _ h (bx _)
theorem L:true=true:=rfl
theorem cm{cc:Type}{a b:cc}(h:some a=some b):a=b:=c' h
theorem aL{a b:Nat}(h:a=b):a<=b:=rwr h (bx _)
theorem d2(a b:Nat):a<=(a-b)+b:=Nat.sub_le_iff_le_add.1 (bx _)
theorem dj{a b:Nat}(h:b<=a):(a-b)+b<=a:=jF (Nat.sub_add_cancel h)
inductive L7(aA:Type) where
 |len|ord|chr|max|min|sum
inductive SP(aA:Type) where
 |str|range|list
abbrev t2:=L7 Unit
abbrev TI:=SP Unit
noncomputable def t2.name:t2->String
 |.len=>"len"|.ord=>"ord"|.chr=>"chr"|.max=>"max"|.min=>"min"|.sum=>"sum"
noncomputable def TI.name:TI->String
 |.str=>"str"|.range=>"range"|.list=>"list"
inductive E where
 |none|bool (b:Bool)|int (i:Int)|str (j:List Nat)
 |tup (B:List E)|lst (B:List E)|dct (az:List (List Nat)) (B:List E)|rng (a b c:Int)
 |ref (i:Nat)|fn (k:Nat)|cls (k:Nat)|bi (b:t2)|typ (t:TI)
 deriving Inhabited
noncomputable def E.ctorIdx(x:E):Nat:=E.casesOn x 0 (λ z=>1) (λ z=>2) (λ z=>3) (λ z=>4) (λ z=>5) (λ z z=>6) (λ z z z=>7) (λ z=>8) (λ z=>9) (λ z=>10) (λ z=>11) (λ z=>12)
inductive dm where
 |list (B:List E)
 |flist (B:List E)
 |dict (az:List (List Nat)) (B:List E)
 |inst (c:Nat) (az:List Str) (B:List E)
noncomputable def dm.ctorIdx(x:dm):Nat:=dm.casesOn x (λ z=>0) (λ z=>1) (λ z z=>2) (λ z z z=>3)
structure U where
 next:Nat
 get:Nat->Option dm
noncomputable def U.alloc(e:U)(p:dm):U:=⟨e.next+1,λ y=>if y=e.next then some p else e.get y⟩
noncomputable def U.upd(e:U)(i:Nat)(p:dm):U:=⟨e.next,λ y=>if y=i then some p else e.get y⟩
abbrev bo:=E->U->Prop
abbrev q':=bo->U->Prop
abbrev kx:=(Bool->U->Prop)->U->Prop
abbrev Loc:=List (Str×Option E)
noncomputable def getL:Loc->Str->Option E
 |[],_=>none
 |(H,v)::r,x=>match x==H with|true=>v|false=>getL r x
theorem Xp{H x:Str}{v:Option E}{r:Loc}:getL ((H,v)::r) x=bif x==H then v else getL r x:=rfl
noncomputable def l_:Loc->Str->E->Loc
 |[],_,_=>[]
 |(H,w)::r,x,v=>match x==H with|true=>(H,some v)::r|false=>(H,w)::l_ r x v
inductive r' where
 |next|brk|cont|ret (v:E)
noncomputable def r'.ctorIdx(x:r'):Nat:=r'.casesOn x 0 1 2 (λ z=>3)
abbrev ei:=r'->Loc->U->Prop
structure q3 where
 name:Str
 params:List Str
 defaults:List E
 body:List Stmt
 scope:Scope
structure eW where
 glob:Str->Option E
 fn:Nat->Option q3
 init:Nat->Option Nat
 b0:Nat->Str->Option Nat
noncomputable def c7:Nat:=8000000
theorem a8.{u} {cc:Type u} {a:cc} {s:Prop} (h:none=some a):s:=(by injection h)
theorem zq{cc:Type}{a v:cc}{i:Nat}(h:[a][i]?=some v):i=0/\v=a:=by
 rcases i with _|i
 ·exact⟨rfl,(c' h).symm⟩
 ·exact a8 h
theorem cq{s:Prop}(h:false=true):s:=(Bool.noConfusion h)
theorem qu.{u} {cc:Type u} {c:Prop} [Decidable c] {p:Option cc} {v:cc} (h:(if c then p else none)=some v):c/\p=some v:=by
 by_cases k:c
 ·exact⟨k,(aT k).symm.trans h⟩
 ·exact a8 ((a9 k).symm.trans h)
theorem DK.{u} {cc:Type u} {c:Prop} [Decidable c] {p:Option cc} {v:cc} (h:(if c then none else p)=some v):¬c/\p=some v:=by
 by_cases k:c
 ·exact a8 ((aT k).symm.trans h)
 ·exact⟨k,(a9 k).symm.trans h⟩
theorem i6{a b:Bool}(h:(a&&b)=true):a=true:=(sl.mp h).1
theorem ke{a b:Bool}(h:(a&&b)=true):b=true:=(sl.mp h).2
noncomputable def fO:E->Option Int
 |.int x=>some x
 |_=>none
noncomputable def ia:E->Option (List Nat)
 |.str x=>some x
 |_=>none
noncomputable def mW:E->Option (List E)
 |.tup x=>some x
 |_=>none
theorem yu{a:E}{x:Int}(h:fO a=some x):a=.int x:=by rcases a with _|_<;>first|exact bB _ (c' h)|exact a8 h
theorem yw{a:E}{x:List Nat}(h:ia a=some x):a=.str x:=by rcases a with _|_<;>first|exact bB _ (c' h)|exact a8 h
theorem yx{a:E}{x:List E}(h:mW a=some x):a=.tup x:=by rcases a with _|_<;>first|exact bB _ (c' h)|exact a8 h
theorem jo{cc:Type}{a:E}{f:Int->Option cc}{r:cc}(h:(fO a).bind f=some r):∃x,a=.int x/\f x=some r:=ba (gm.mp h) λ x C I=>⟨x,yu C,I⟩
theorem oU{cc:Type}{a:E}{f:List Nat->Option cc}{r:cc}(h:(ia a).bind f=some r):∃x,a=.str x/\f x=some r:=ba (gm.mp h) λ x C I=>⟨x,yw C,I⟩
theorem TG{cc:Type}{a:E}{f:List E->Option cc}{r:cc}(h:(mW a).bind f=some r):∃x,a=.tup x/\f x=some r:=ba (gm.mp h) λ x C I=>⟨x,yx C,I⟩
noncomputable def k6(x:Str):List Nat:=x.cps.toList
noncomputable def xu(e:U):E->Option (List E)
 |.tup B=>some B
 |.lst B=>some B
 |.ref i=>match e.get i with
  |some (.list B)=>some B
  |some (.flist B)=>some B
  |_=>none
 |_=>none
noncomputable def Dr:Option dm->Option (List E)
 |some (.list B)=>some B
 |some (.flist B)=>some B
 |_=>none
noncomputable def GW:Option dm->Option (List (List Nat)×List E)
 |some (.dict az B)=>some (az,B)
 |_=>none
theorem Zg{p:Option dm}{B:List E}{G:Prop}(h:Dr p=some B)(a:p=some (.list B)->G)(b:p=some (.flist B)->G):G:=by
 rcases p with _|p
 ·exact a8 h
 ·rcases p with l|l|_|_
  ·exact a (bB (some<|dm.list ·) (c' h))
  ·exact b (bB (some<|dm.flist ·) (c' h))
  ·exact a8 h
  ·exact a8 h
theorem VP{p:Option dm}{az:List (List Nat)}{B:List E}(h:GW p=some (az,B)):p=some (.dict az B):=by
 rcases p with _|p
 ·exact a8 h
 ·rcases p with l|l|_|_
  ·exact a8 h
  ·exact a8 h
  ·have h:=Prod.mk.inj (c' h);rw[h.1,h.2]
  ·exact a8 h
noncomputable def listOf(e:U):E->Option (List E)
 |.lst B=>some B
 |.ref i=>match e.get i with
  |some (.list B)=>some B
  |some (.flist B)=>some B
  |_=>none
 |_=>none
noncomputable def j0(a b c:Int):List E:=
 if c=1 then(List.range (b-a).toNat).map λ(k:Nat)=>E.int (a+k)
 else if c=-1 then(List.range (a-b).toNat).map λ(k:Nat)=>E.int (a-k)
 else[]
noncomputable def dU(k:Int):Bool:=decide (-1000000000<=k)&&decide (k<=1000000000)
noncomputable def ascii(j:List Nat):Bool:=j.all (·<128)
noncomputable def hy(e:U):E->Option (List E)
 |.tup B=>some B
 |.lst B=>some B
 |.str j=>if ascii j then some (j.map λ c=>E.str [c]) else none
 |.rng a b c=>if dU a&&dU b&&(c==1||c==-1) then some (j0 a b c) else none
 |.ref i=>match e.get i with
  |some (.list B)=>some B
  |some (.flist B)=>some B
  |_=>none
 |_=>none
noncomputable def j4(f:E->E->Option Bool):List E->List E->Option Bool
 |a::r,b::q=>match f a b,j4 f r q with
  |some x,some H=>some (x&&H)
  |_,_=>none
 |_,_=>some true
noncomputable def aaq:E->Option Bool
 |.none=>some true
 |.tup _=>some false
 |.lst _=>some false
 |_=>none
noncomputable def zo:E->Option Bool
 |.none=>some false
 |_=>none
noncomputable def FY:E->Option Bool
 |.bool x=>some x
 |_=>none
noncomputable def mq:E->Option (List E)
 |.lst x=>some x
 |_=>none
theorem yv{a:E}{x:List E}(h:mq a=some x):a=.lst x:=by rcases a with _|_<;>first|exact bB _ (c' h)|exact a8 h
theorem TF{a:E}{x:Bool}(h:FY a=some x):a=.bool x:=by rcases a with _|_<;>first|exact bB _ (c' h)|exact a8 h
theorem YK{a:E}{x:Bool}(h:zo a=some x):a=.none/\x=false:=by rcases a with _|_<;>first|exact⟨rfl,c' h.symm⟩|exact a8 h
noncomputable def vC(a b:E):Option Bool:=match a with
 |.none=>aaq b
 |.bool x=>(FY b).map λ H=>x==H
 |.int x=>(fO b).map λ H=>x==H
 |.str x=>(ia b).map λ H=>x==H
 |.tup _=>zo b
 |.lst _=>zo b
 |_=>none
noncomputable def gk:Nat->E->E->Option Bool
 |0,a,b=>vC a b
 |n+1,a,b=>match mW a,mW b with
  |some x,some H=>match x.length==H.length with
   |true=>j4 (gk n) x H
   |false=>none
  |_,_=>match mq a,mq b with
   |some x,some H=>match x.length==H.length with
    |true=>j4 (gk n) x H
    |false=>some false
   |_,_=>vC a b
theorem afa{n:Nat}{a b:E}{r:Bool}{G:Prop}(h:gk (n+1) a b=some r)(s:∀x H,mW a=some x->mW b=some H->(x.length==H.length)=true->j4 (gk n) x H=some r->G)
  (q:∀x H,mq a=some x->mq b=some H->(x.length==H.length)=true->j4 (gk n) x H=some r->G) (f:∀x H,mq a=some x->mq b=some H->(x.length==H.length)=false->false=r->G) (o:vC a b=some r->G):G:=by
 have k:(match mq a,mq b with|some x,some H=>(match x.length==H.length with|true=>j4 (gk n) x H|false=>some false)|_,_=>vC a b)=some r->G:=by
  rcases c:mq a with _|x
  ·exact o
  ·rcases e:mq b with _|H
   ·exact o
   ·show(match x.length==H.length with|true=>j4 (gk n) x H|false=>some false)=some r->G
    rcases d:x.length==H.length with _|_
    ·exact λ h=>f _ _ c e d (cm h)
    ·exact q _ _ c e d
 revert h k
 show(match mW a,mW b with|some x,some H=>(match x.length==H.length with|true=>j4 (gk n) x H|false=>none)|_,_=>(match mq a,mq b with|some x,some H=>(match x.length==H.length with|true=>j4 (gk n) x H|false=>some false)|_,_=>vC a b))=some r->_->G
 rcases c:mW a with _|x
 ·exact λ h k=>k h
 ·rcases e:mW b with _|H
  ·exact λ h k=>k h
  ·show(match x.length==H.length with|true=>j4 (gk n) x H|false=>none)=some r->_->G
   rcases d:x.length==H.length with _|_
   ·exact λ h=>a8 h
   ·exact λ h z=>s _ _ c e d h
noncomputable def hW:List (List Nat)->List E->List Nat->Option E
 |k::az,v::B,x=>match x==k with|true=>some v|false=>hW az B x
 |_,_,_=>none
noncomputable def kg:List (List Nat)->List E->List Nat->E->List (List Nat)×List E
 |k::az,v::B,x,H=>match x==k with
  |true=>(k::az,H::B)
  |false=>let r:=kg az B x H;(k::r.1,v::r.2)
 |_,_,x,H=>([x],[H])
noncomputable def qe:List Str->List E->Str->Option E
 |k::az,v::B,x=>match x==k with|true=>some v|false=>qe az B x
 |_,_,_=>none
noncomputable def o5:List Str->List E->Str->E->List Str×List E
 |k::az,v::B,x,H=>match x==k with
  |true=>(k::az,H::B)
  |false=>let r:=o5 az B x H;(k::r.1,v::r.2)
 |_,_,x,H=>([x],[H])
theorem V1{k:List Nat}{az:List (List Nat)}{v:E}{B:List E}{x:List Nat}:hW (k::az) (v::B) x=bif x==k then some v else hW az B x:=rfl
theorem V3{k:List Nat}{az:List (List Nat)}{v H:E}{B:List E}{x:List Nat}:kg (k::az) (v::B) x H=bif x==k then(k::az,H::B) else(k::(kg az B x H).1,v::(kg az B x H).2):=rfl
theorem Hm{k:Str}{az:List Str}{v:E}{B:List E}{x:Str}:qe (k::az) (v::B) x=bif x==k then some v else qe az B x:=rfl
theorem Hr{k:Str}{az:List Str}{v H:E}{B:List E}{x:Str}:o5 (k::az) (v::B) x H=bif x==k then(k::az,H::B) else(k::(o5 az B x H).1,v::(o5 az B x H).2):=rfl
noncomputable def gE(e:U)(v:E):E:=match v with
 |.ref i=>match e.get i with
  |some (.list B)=>.lst B
  |some (.flist B)=>.lst B
  |_=>v
 |_=>v
set_option tactic.hygienic true in
theorem VK{e:U}{v:E}{F:E->Prop}(a:F v)(b:∀i B,v=.ref i->(e.get i=some (.list B)\/e.get i=some (.flist B))->F (.lst B)):F (gE e v):=by
 cases v
 case ref i=>
  show F (match e.get i with|some (.list B)=>.lst B|some (.flist B)=>.lst B|_=>.ref i)
  rcases d:e.get i with _|p
  ·exact a
  ·cases p<;>first|exact b _ _ rfl (.inl d)|exact b _ _ rfl (.inr d)|exact a
 all_goals exact a
noncomputable def ig(e:U)(v:E):Option (List (List Nat)×List E):=match v with
 |.dct az B=>some (az,B)
 |.ref i=>match e.get i with
  |some (.dict az B)=>some (az,B)
  |_=>none
 |_=>none
noncomputable def mZ(e:U)(ls:List (List Nat))(aV:List E):List (List Nat)->List E->Option Bool
 |k::az,v::B=>match hW ls aV k with
  |none=>some false
  |some w=>match gk 10 (gE e v) (gE e w),mZ e ls aV az B with
   |some x,some H=>some (x&&H)
   |_,_=>none
 |_,_=>some true
theorem FT{p s:Option Bool}{r:Bool}{G:Prop}(h:(match p,s with|some x,some H=>some (x&&H)|_,_=>none)=some r)(b:∀x H,p=some x->s=some H->(x&&H)=r->G):G:=by
 rcases p with _|x
 ·exact a8 h
 ·rcases s with _|H
  ·exact a8 h
  ·exact b x H rfl rfl (cm h)
theorem VQ{e:U}{ls az:List (List Nat)}{aV B:List E}{k:List Nat}{v:E}{r:Bool}{G:Prop}(h:mZ e ls aV (k::az) (v::B)=some r)(a:hW ls aV k=none->false=r->G)
  (b:∀w x H,hW ls aV k=some w->gk 10 (gE e v) (gE e w)=some x->mZ e ls aV az B=some H->(x&&H)=r->G):G:=by
 revert h
 show(match hW ls aV k with|none=>some false|some w=>match gk 10 (gE e v) (gE e w),mZ e ls aV az B with|some x,some H=>some (x&&H)|_,_=>none)=some r->G
 rcases d:hW ls aV k with _|w
 ·exact λ h=>a d (cm h)
 ·exact λ h=>FT h λ x H=>b w x H d
theorem afd{f:E->E->Option Bool}{v w:E}{B aV:List E}{r:Bool}{G:Prop}(h:j4 f (v::B) (w::aV)=some r)(b:∀x H,f v w=some x->j4 f B aV=some H->(x&&H)=r->G):G:=FT h b
noncomputable def jP(e:U)(a b:E):Option Bool:=match ig e a,ig e b with
 |some (az,B),some (ls,aV)=>match az.length==ls.length with
  |true=>mZ e ls aV az B
  |false=>some false
 |_,_=>gk 10 (gE e a) (gE e b)
theorem Wb{e:U}{a b:E}{r:Bool}{G:Prop}(h:jP e a b=some r)(s:∀az B ls aV,ig e a=some (az,B)->ig e b=some (ls,aV)->(az.length==ls.length)=true->mZ e ls aV az B=some r->G)
  (iq:∀az B ls aV,ig e a=some (az,B)->ig e b=some (ls,aV)->(az.length==ls.length)=false->false=r->G) (q:gk 10 (gE e a) (gE e b)=some r->G):G:=by
 delta jP at h
 revert h
 rcases c:ig e a with _|⟨az,B⟩
 ·exact q
 ·rcases f:ig e b with _|⟨ls,aV⟩
  ·exact q
  ·show(match az.length==ls.length with|true=>mZ e ls aV az B|false=>some false)=some r->G
   rcases d:az.length==ls.length with _|_
   ·exact λ h=>iq _ _ _ _ c f d (cm h)
   ·exact s _ _ _ _ c f d
noncomputable def jK(a:E):List E->Option Bool
 |[]=>some false
 |b::r=>match gk 10 b a,jK a r with
  |some x,some H=>some (x||H)
  |_,_=>none
theorem Tw{a b:E}{r:List E}{d:Bool}{G:Prop}(h:jK a (b::r)=some d)(k:∀x H,gk 10 b a=some x->jK a r=some H->(x||H)=d->G):G:=by
 revert h
 show(match gk 10 b a,jK a r with|some x,some H=>some (x||H)|_,_=>none)=some d->G
 rcases c:gk 10 b a with _|x
 ·exact λ h=>a8 h
 ·rcases e:jK a r with _|H
  ·exact λ h=>a8 h
  ·exact λ h=>k x H c e (cm h)
noncomputable def iu(x:List Nat):List Nat->Bool
 |[]=>x.isEmpty
 |a::r=>x.isPrefixOf (a::r)||iu x r
noncomputable def C7(a:E):dm->Option Bool
 |.list B=>jK a B
 |.flist B=>jK a B
 |.dict az _=>(ia a).bind λ j=>some (az.contains j)
 |.inst _ _ _=>none
noncomputable def C8(e:U)(a b:E):Option Bool:=match b with
 |.str t=>(ia a).bind λ j=>some (iu j t)
 |.tup B=>jK a B
 |.lst B=>jK a B
 |.dct az _=>(ia a).bind λ j=>some (az.contains j)
 |.ref i=>match e.get i with
  |some p=>C7 a p
  |none=>none
 |_=>none
noncomputable def isNone:E->Bool
 |.none=>true
 |_=>false
noncomputable def Dc(a b:E):Option Bool:=match b with|.none=>some (isNone a)|_=>none
noncomputable def ZD(a b:E):Option Bool:=match a with
 |.int x=>(fO b).bind λ H=>some (decide (x<H))
 |.str x=>(ia b).bind λ H=>some (decide (x<H))
 |_=>none
noncomputable def Za(a b:E):Option Bool:=match a with
 |.int x=>(fO b).bind λ H=>some (decide (x<=H))
 |.str x=>(ia b).bind λ H=>some (!decide (H<x))
 |_=>none
noncomputable def lO(e:U)(c:CmpOp)(a b:E):Option Bool:=match c with
 |.Eq=>jP e a b
 |.NotEq=>(jP e a b).map (!·)
 |.In=>C8 e a b
 |.NotIn=>(C8 e a b).map (!·)
 |.Is=>Dc a b
 |.IsNot=>(Dc a b).map (!·)
 |.Lt=>ZD a b
 |.LtE=>Za a b
 |.Gt=>(fO a).bind λ x=>(fO b).bind λ H=>some (decide (H<x))
 |.GtE=>(fO a).bind λ x=>(fO b).bind λ H=>some (decide (H<=x))
noncomputable def small(a:Int):Bool:=decide (a.natAbs<18446744073709551616)
noncomputable def jZ{cc:Type}(ai:List cc):Nat->List cc
 |0=>[]
 |n+1=>ai++jZ ai n
theorem D7{cc:Type}{ai:List cc}{n:Nat}:jZ ai (n+1)=ai++jZ ai n:=rfl
noncomputable def Td(a b:E):Option E:=match a with
 |.int x=>(fO b).bind λ H=>some (.int (x+H))
 |.str x=>(ia b).bind λ H=>if x.length+H.length<=c7 then some (.str (x++H)) else none
 |.tup x=>(mW b).bind λ H=>if x.length+H.length<=c7 then some (.tup (x++H)) else none
 |_=>none
noncomputable def Z8(a b:E):Option E:=match a with
 |.int x=>(fO b).bind λ H=>if small x&&small H then some (.int (x*H)) else none
 |.tup x=>(fO b).bind λ n=>if x.length*n.toNat<=c7&&dU n then some (.tup (jZ x n.toNat)) else none
 |_=>none
noncomputable def IS(a:Operator)(x H:Int):Option E:=match a with
 |.Sub=>some (.int (x-H))
 |.Mod=>if H=0 then none else some (.int (x.fmod H))
 |.FloorDiv=>if H=0 then none else if dU H then some (.int (x.fdiv H)) else none
 |.Pow=>if 0<=H&&H<=1000&&small x then some (.int (x^H.toNat)) else none
 |_=>none
noncomputable def mX(c:Operator)(a b:E):Option E:=match c with
 |.Add=>Td a b
 |.Mult=>Z8 a b
 |c=>(fO a).bind λ x=>(fO b).bind λ H=>IS c x H
def bw(c:Operator)(a b:E)(A:bo)(e:U):Prop:=match mX c a b with
 |some v=>A v e
 |none=>match c with
  |.Add=>match listOf e a,listOf e b with
   |some x,some H=>x.length+H.length<=c7/\A (.ref e.next) (e.alloc (.list (x++H)))
   |_,_=>False
  |.Mult=>match listOf e a,fO b with
   |some x,some n=>x.length*n.toNat<=c7/\dU n=true/\A (.ref e.next) (e.alloc (.list (jZ x n.toNat)))
   |_,_=>False
  |_=>False
theorem UT{c:Operator}{a b:E}{A:bo}{e:U}{G:Prop}(h:bw c a b A e)(s:∀v,mX c a b=some v->A v e->G)(q:∀x H,c=.Add->listOf e a=some x->listOf e b=some H->x.length+H.length<=c7->A (.ref e.next) (e.alloc (.list (x++H)))->G)
  (t:∀x n,c=.Mult->listOf e a=some x->fO b=some n->x.length*n.toNat<=c7->dU n=true->A (.ref e.next) (e.alloc (.list (jZ x n.toNat)))->G):G:=by
 delta bw at h
 revert h
 rcases d:mX c a b with _|v
 ·cases c
  case Add=>
   show(match listOf e a,listOf e b with|some x,some H=>_|_,_=>False)->G
   rcases f:listOf e a with _|x
   ·exact False.elim
   ·rcases g:listOf e b with _|H
    ·exact False.elim
    ·exact λ h=>q _ _ rfl f g h.1 h.2
  case Mult=>
   show(match listOf e a,fO b with|some x,some n=>_|_,_=>False)->G
   rcases f:listOf e a with _|x
   ·exact False.elim
   ·rcases g:fO b with _|H
    ·exact False.elim
    ·exact λ h=>t _ _ rfl f g h.1 h.2.1 h.2.2
  all_goals exact False.elim
 ·exact s _ d
def C9(i:Nat)(p:dm)(b:E)(A:bo)(e:U):Prop:=match p with
 |.list x=>match listOf e b with
  |some H=>x.length+H.length<=c7/\A (.ref i) (e.upd i (.list (x++H)))
  |none=>False
 |_=>False
def eR(c:Operator)(a b:E)(A:bo)(e:U):Prop:=match a with
 |.ref i=>match c with
  |.Add=>match e.get i with
   |some p=>C9 i p b A e
   |none=>False
  |_=>False
 |.int x=>match b with
  |.int H=>match c with
   |.Add=>A (.int (x+H)) e
   |.Sub=>A (.int (x-H)) e
   |_=>False
  |_=>False
 |_=>False
def Lm(c:UnaryOp)(a:E)(A:bo)(e:U):Prop:=match c with
 |.Not=>match a with
  |.bool b=>A (.bool (!b)) e
  |_=>False
 |.USub=>match a with
  |.int x=>A (.int (-x)) e
  |_=>False
 |_=>False
noncomputable def sD{cc:Type}(l:List cc)(i:E):Option cc:=(fO i).bind λ k=>if 0<=k&&dU k then l[k.toNat]? else none
noncomputable def u2(p:dm)(i:E):Option E:=match p with
 |.list B=>sD B i
 |.flist B=>sD B i
 |.dict az B=>(ia i).bind λ x=>hW az B x
 |.inst _ _ _=>none
noncomputable def n_(e:U)(p i:E):Option E:=match p with
 |.str j=>(sD j i).map λ c=>.str [c]
 |.tup B=>sD B i
 |.lst B=>sD B i
 |.dct az B=>(ia i).bind λ x=>hW az B x
 |.ref y=>match e.get y with
  |some a=>u2 a i
  |none=>none
 |_=>none
noncomputable def cut{cc:Type}(ai:List cc)(lo:Nat)(a:Option Nat):List cc:=match a with
 |some h=>(ai.take h).drop lo
 |none=>ai.drop lo
noncomputable def jL:Option E->Option (Option Nat)
 |none=>some none
 |some (.int k)=>if 0<=k&&dU k then some (some k.toNat) else none
 |_=>none
noncomputable def pB(e:U)(p:E)(l u:Option E):Option E:=match jL l,jL u with
 |some l,some u=>match p with
  |.str j=>if j.length<=c7 then some (.str (cut j (l.getD 0) u)) else none
  |.tup B=>if B.length<=c7 then some (.tup (cut B (l.getD 0) u)) else none
  |p=>match listOf e p with
   |some B=>if B.length<=c7 then some (.lst (cut B (l.getD 0) u)) else none
   |none=>none
 |_,_=>none
def gM(p i v:E)(A:U->Prop)(e:U):Prop:=match p with
 |.ref y=>match e.get y with
  |some (.list B)=>match fO i with
   |some k=>0<=k/\k.toNat<B.length/\dU k=true/\A (e.upd y (.list (B.set k.toNat v)))
   |none=>False
  |some (.dict az B)=>match ia i with
   |some x=>az.length<=1000/\A (let r:=kg az B x v;e.upd y (.dict r.1 r.2))
   |none=>False
  |_=>False
 |_=>False
theorem ab8{p i v:E}{A:U->Prop}{e:U}{G:Prop}(h:gM p i v A e)(a:∀y B k,p=.ref y->i=.int k->e.get y=some (.list B)->0<=k->k.toNat<B.length->dU k=true->A (e.upd y (.list (B.set k.toNat v)))->G)
  (b:∀y az B x,p=.ref y->i=.str x->e.get y=some (.dict az B)->az.length<=1000->A (let r:=kg az B x v;e.upd y (.dict r.1 r.2))->G):G:=by
 obtain⟨y,rfl⟩:∃y,p=.ref y:=by rcases p with _|_<;>first|exact⟨_,rfl⟩|exact h.elim
 unfold gM at h
 dsimp only at h
 rcases d:e.get y with _|p
 ·rw[d] at h;exact h.elim
 ·rw[d] at h
  rcases p with B|_|⟨az,B⟩|_
  ·rcases q:fO i with _|k
   ·dsimp only at h;rw[q] at h;exact h.elim
   ·dsimp only at h;rw[q] at h;exact a _ _ _ rfl (yu q) d h.1 h.2.1 h.2.2.1 h.2.2.2
  ·exact h.elim
  ·rcases q:ia i with _|k
   ·dsimp only at h;rw[q] at h;exact h.elim
   ·dsimp only at h;rw[q] at h;exact b _ _ _ _ rfl (yw q) d h.1 h.2
  ·exact h.elim
noncomputable def BW:List String:=["at","row","pile","registers","groups","text","begin","least_end","most","steps","program","rows","names","width","depth","items","total","spoken"]
noncomputable def pl(x:Str):Bool:=(BW.map Str.ofString).contains x
def a6(p:E)(x:Str)(A:bo)(e:U):Prop:=match p with
 |.ref y=>match e.get y with
  |some (.inst _ az B)=>match qe az B x with
   |some v=>A v e
   |none=>False
  |_=>False
 |_=>False
set_option tactic.hygienic true
theorem JM{p:E}{F:Nat->Prop}{G:Prop}(h:match p with|.ref y=>F y|_=>False)(k:∀y,p=.ref y->F y->G):G:=by
 cases p
 case ref y=>exact k y rfl h
 all_goals exact h.elim
theorem IQ{p:Option dm}{F:Nat->List Str->List E->Prop}{G:Prop}(h:match p with|some (.inst c az B)=>F c az B|_=>False)(k:∀c az B,p=some (.inst c az B)->F c az B->G):G:=by
 rcases p with _|p
 ·exact h.elim
 ·cases p
  case inst c az B=>exact k c az B rfl h
  all_goals exact h.elim
set_option tactic.hygienic false
def cL(p:E)(x:Str)(v:E)(A:U->Prop)(e:U):Prop:=match p with
 |.ref y=>match e.get y with
  |some (.inst c az B)=>match pl x with
   |true=>az.length<=100/\A (let r:=o5 az B x v;e.upd y (.inst c r.1 r.2))
   |false=>False
  |_=>False
 |_=>False
noncomputable def gG(v:E)(e:U):E×U:=match v with
 |.ref i=>match e.get i with
  |some (.list B)=>(.lst B,e.upd i (.flist B))
  |some (.flist B)=>(.lst B,e)
  |_=>(v,e)
 |_=>(v,e)
set_option tactic.hygienic true in
theorem WT{e:U}{v:E}{F:E×U->Prop}(a:F (v,e))(b:∀i B,v=.ref i->e.get i=some (.list B)->F (.lst B,e.upd i (.flist B)))(c:∀i B,v=.ref i->e.get i=some (.flist B)->F (.lst B,e)):F (gG v e):=by
 cases v
 case ref i=>
  show F (match e.get i with|some (.list B)=>(.lst B,e.upd i (.flist B))|some (.flist B)=>(.lst B,e)|_=>(.ref i,e))
  rcases d:e.get i with _|p
  ·exact a
  ·cases p<;>first|exact b _ _ rfl d|exact c _ _ rfl d|exact a
 all_goals exact a
noncomputable def hY:List E->U->List E×U
 |[],e=>([],e)
 |v::r,e=>let s:=gG v e;let q:=hY r s.2;(s.1::q.1,q.2)
theorem WV{v:E}{r:List E}{e:U}:hY (v::r) e=((gG v e).1::(hY r (gG v e).2).1,(hY r (gG v e).2).2):=rfl
def tupK(B:List E)(A:bo)(e:U):Prop:=let s:=hY B e;A (.tup s.1) s.2
noncomputable def fj(k:Nat):List Nat:=if k<10 then[48+k] else if k<100 then[48+k/10,48+k%10] else[48+k/100,48+k/10%10,48+k%10]
noncomputable def vs(j:List Nat):Option (List (List Nat)):=
 if j=[49,44,50] then some [[49],[50]] else if j=[50] then some [[50]] else if j=[48,44,50] then some [[48],[50]] else none
noncomputable def iU(x:List Nat):List Nat->Nat->Option Nat
 |[],k=>if x.isEmpty then some k else none
 |a::r,k=>if x.isPrefixOf (a::r) then some k else iU x r (k+1)
theorem Wv{x:List Nat}{k:Nat}:iU x [] k=if x.isEmpty then some k else none:=rfl
theorem Wu{x r:List Nat}{a k:Nat}:iU x (a::r) k=if x.isPrefixOf (a::r) then some k else iU x r (k+1):=rfl
theorem ac5{x r:List Nat}{a:Nat}:iu x (a::r)=(x.isPrefixOf (a::r)||iu x r):=rfl
noncomputable def pf(c:Nat):Nat:=if 65<=c/\c<=90 then c+32 else c
noncomputable def vy(c:Nat):Nat:=if 65<=c/\c<=90 then c+32 else if 97<=c/\c<=122 then c-32 else c
noncomputable def ij(a:List Nat):List (List Nat)->List Nat
 |[]=>[]
 |[x]=>x
 |x::r=>x++a++ij a r
theorem YQ{a x H:List Nat}{r:List (List Nat)}:ij a (x::H::r)=x++a++ij a (H::r):=rfl
noncomputable def vu:List E->Option (List (List Nat))
 |[]=>some []
 |v::r=>(ia v).bind λ j=>(vu r).map (j::·)
noncomputable def qs:List E->Option (List Int)
 |[]=>some []
 |v::r=>(fO v).bind λ j=>(qs r).map (j::·)
noncomputable def mV:List E->Option E
 |[v]=>some v
 |_=>none
set_option tactic.hygienic true in
theorem nR{cc:Type}{B:List E}{f:E->Option cc}{r:cc}(h:(mV B).bind f=some r):∃v,B=[v]/\f v=some r:=by
 refine ba (gm.mp h) λ v C I=>?_
 rcases B with _|_
 case nil=>exact a8 C
 case cons w r=>(clear h;rcases r with _|_;(case nil=>obtain rfl:=c' C;exact⟨_,rfl,I⟩);(case cons _ _=>exact a8 C))
noncomputable def aaI(e:U)(v:E):Option E:=(listOf e v).bind λ l=>(mV l).bind λ x=>(fO x).bind λ a=>some (.int a)
noncomputable def adL(v w:E)(f:Int->Int->Int):Option E:=(fO v).bind λ a=>(fO w).bind λ b=>some (.int (f a b))
noncomputable def BS(e:U)(f:Int->Int->Int):List E->Option E
 |[]=>none
 |v::r=>match r with
  |[]=>aaI e v
  |w::q=>match q with
   |[]=>adL v w f
   |_=>none
noncomputable def Zc(e:U)(v:E):Option E:=match v with
 |.str j=>if j.length<=c7 then some (.int j.length) else none
 |v=>(xu e v).bind λ x=>if x.length<=c7 then some (.int x.length) else none
noncomputable def aaT:List Nat->Option E
 |[c]=>some (.int c)
 |_=>none
noncomputable def Bm(e:U)(b:t2)(B:List E):Option E:=match b with
 |.len=>(mV B).bind (Zc e)
 |.ord=>(mV B).bind λ v=>(ia v).bind aaT
 |.chr=>(mV B).bind λ v=>(fO v).bind λ k=>if 0<=k&&k<128 then some (.str [k.toNat]) else none
 |.max=>BS e (λ a b=>if a<b then b else a) B
 |.min=>BS e (λ a b=>if b<a then b else a) B
 |.sum=>(mV B).bind λ v=>(listOf e v).bind λ l=>(qs l).map λ l=>.int l.sum
noncomputable def xm(a b c:E):Option E:=(fO a).bind λ a=>(fO b).bind λ b=>(fO c).bind λ c=>if dU a&&dU b&&(c==1||c==-1) then some (.rng a b c) else none
noncomputable def aby:List E->Option E
 |[]=>none
 |b::r=>match r with
  |[]=>xm (.int 0) b (.int 1)
  |c::q=>match q with
   |[]=>xm b c (.int 1)
   |o::s=>match s with
    |[]=>xm b c o
    |_=>none
noncomputable def r4(t:TI)(B:List E):Option E:=match t with
 |.str=>(mV B).bind λ v=>(fO v).bind λ k=>if 0<=k&&k<1000 then some (.str (fj k.toNat)) else none
 |.range=>aby B
 |.list=>none
inductive fp where
 |join|lower|swapcase|find|index|split|append|pop|extend|setdefault|fn (k:Nat)
noncomputable def fp.ctorIdx(x:fp):Nat:=fp.casesOn x 0 1 2 3 4 5 6 7 8 9 (λ z=>10)
noncomputable def A1(p:Option E):List E->Option E
 |[]=>p
 |_=>none
theorem FW{p:Option E}{B:List E}{v:E}(h:A1 p B=some v):B=[]/\p=some v:=by
 rcases B with _|_
 case nil=>exact⟨rfl,h⟩
 case cons _ _=>exact a8 h
noncomputable def BX:Option Nat->Int
 |some y=>y
 |none=>-1
noncomputable def Ww(j:List Nat):List E->Option E
 |[]=>none
 |x::r=>(ia x).bind λ x=>(mV r).bind λ k=>(fO k).bind λ k=>if 0<=k&&dU k&&k<=j.length then some (.int (BX (iU x (j.drop k.toNat) k.toNat))) else none
noncomputable def oi(e:U)(j:List Nat)(m:fp)(B:List E):Option E:=match m with
 |.join=>(mV B).bind λ v=>(listOf e v).bind λ l=>(vu l).bind λ l=>if(ij j l).length+l.length*(j.length+1)<=c7 then some (.str (ij j l)) else none
 |.lower=>A1 (if ascii j&&decide (j.length<=1000) then some (.str (j.map pf)) else none) B
 |.swapcase=>A1 (if ascii j&&decide (j.length<=1000) then some (.str (j.map vy)) else none) B
 |.find=>Ww j B
 |.index=>(mV B).bind λ v=>(ia v).bind λ x=>(iU x j 0).bind λ y=>some (.int (y:Int))
 |.split=>(mV B).bind λ v=>(ia v).bind λ x=>if x=[44] then(vs j).bind λ l=>some (.lst (l.map .str)) else none
 |_=>none
abbrev dq:=Nat->List E->bo->U->Prop
def lq{cc:Type}(p:Option cc)(f:cc->Prop):Prop:=match p with
 |some x=>f x
 |none=>False
theorem qI{cc:Type}{p:Option cc}{f:cc->Prop}{G:Prop}(h:lq p f)(k:∀x,p=some x->f x->G):G:=by
 rcases p with _|x
 ·exact h.elim
 ·exact k x rfl h
theorem qH{cc:Type}{p:Option cc}{f:cc->Prop}{x:cc}(h:p=some x)(q:f x):lq p f:=by rw[h];exact q
noncomputable def La(t:TI)(B:List E):Option (List E):=match t with
 |.list=>(mV B).bind mW
 |_=>none
def cJ(P:eW)(R:dq)(f:E)(B:List E)(A:bo)(e:U):Prop:=match f with
 |.fn k=>R k B A e
 |.cls c=>lq (P.init c) λ k=>R k (.ref e.next::B) (λ r M=>match r with|.none=>A (.ref e.next) M|_=>False) (e.alloc (.inst c [] []))
 |.bi b=>lq (Bm e b B) λ v=>A v e
 |.typ t=>match r4 t B with
  |some v=>A v e
  |none=>lq (La t B) λ ai=>ai.length<=c7/\A (.ref e.next) (e.alloc (.list ai))
 |_=>False
theorem adM{t:TI}{B ai:List E}(h:La t B=some ai):t=.list/\B=[.tup ai]:=by
 rcases t with _|_|_
 ·exact a8 h
 ·exact a8 h
 ·refine ba (nR h) λ v d h=>?_
  exact⟨rfl,d.trans (bB (λ v=>[v]) (yx h))⟩
noncomputable def Ex(m:Str):Option fp:=if m==r1 then some .join
 else if m==Ab then some .lower
 else if m==(Str.ofString "swapcase") then some .swapcase
 else if m==vv then some .find
 else if m==(Str.ofString "index") then some .index
 else if m==xC then some .split
 else none
noncomputable def Dp(m:Str):Option fp:=if m==jx then some .append
 else if m==xD then some .pop
 else if m==(Str.ofString "extend") then some .extend
 else none
noncomputable def xd(P:eW)(m:Str):dm->Option fp
 |.inst c _ _=>(P.b0 c m).map .fn
 |.dict _ _=>if m==vw then some .setdefault else none
 |.list _=>Dp m
 |.flist _=>none
noncomputable def zF(P:eW)(e:U)(p:E)(m:Str):Option fp:=match p with
 |.str _=>Ex m
 |.ref i=>match e.get i with
  |some a=>xd P m a
  |none=>none
 |_=>none
theorem oW{b:Bool}{a v:fp}{p:Option fp}{G:Prop}(h:(if b then some a else p)=some v)(c:b=true->a=v->G)(d:p=some v->G):G:=by
 rcases b with _|_
 case true=>exact c rfl (c' h)
 case false=>exact d h
theorem Dd.{u} {cc:Type u} {c:Prop} [Decidable c] {a v:cc} {p:Option cc} {G:Prop} (h:(if c then some a else p)=some v) (b:c->a=v->G) (d:p=some v->G):G:=by
 by_cases k:c
 ·exact b k (c' ((aT k).symm.trans h))
 ·exact d ((a9 k).symm.trans h)
def Dq(i:Nat)(ai:List E)(m:fp)(B:List E)(A:bo)(e:U):Prop:=match m with
 |.append=>match B with
  |[v]=>ai.length<=c7/\A .none (e.upd i (.list (ai++[v])))
  |_=>False
 |.pop=>match B with
  |[]=>match ai.getLast? with
   |some v=>ai.length<=c7/\A v (e.upd i (.list ai.dropLast))
   |none=>False
  |_=>False
 |.extend=>match B with
  |[v]=>match listOf e v with
   |some dd=>ai.length+dd.length<=c7/\A .none (e.upd i (.list (ai++dd)))
   |none=>False
  |_=>False
 |_=>False
theorem Jk{B:List E}{F:E->Prop}{G:Prop}(h:match B with|[v]=>F v|_=>False)(k:∀v,B=[v]->F v->G):G:=by
 rcases B with _|⟨v,_|_⟩
 ·exact h.elim
 ·exact k v rfl h
 ·exact h.elim
theorem lstK{p:Option (List E)}{F:List E->Prop}{G:Prop}(h:match p with|some v=>F v|none=>False)(k:∀v,p=some v->F v->G):G:=by
 rcases p with _|v
 ·exact h.elim
 ·exact k v rfl h
theorem aai{B:List E}{F G:Prop}(h:match B with|[]=>F|_=>False)(k:B=[]->F->G):G:=by
 rcases B with _|_
 ·exact k rfl h
 ·exact h.elim
noncomputable def FX:List E->Option (List Nat×E)
 |[a,v]=>(ia a).map λ x=>(x,v)
 |_=>none
theorem TA{B:List E}{x:List Nat}{v:E}(h:FX B=some (x,v)):B=[.str x,v]:=by
 rcases B with _|⟨a,_|⟨w,_|_⟩⟩
 ·exact a8 h
 ·exact a8 h
 ·refine ba (gS.mp h) λ H d h=>?_
  rw[yw d,(Prod.mk.inj h).1,(Prod.mk.inj h).2]
 ·exact a8 h
def BE(i:Nat)(az:List (List Nat))(aV:List E)(m:fp)(B:List E)(A:bo)(e:U):Prop:=match m with
 |.setdefault=>lq (FX B) λ s=>az.length<=1000/\match hW az aV s.1 with
  |some w=>A w e
  |none=>A s.2 (e.upd i (let r:=kg az aV s.1 s.2;.dict r.1 r.2))
 |_=>False
def bY(R:dq)(cP:fp)(p:E)(B:List E)(A:bo)(e:U):Prop:=match cP with
 |.fn k=>R k (p::B) A e
 |cP=>match p with
  |.str j=>match oi e j cP B with
   |some v=>A v e
   |none=>False
  |.ref i=>match e.get i with
   |some (.list ai)=>Dq i ai cP B A e
   |some (.dict az aV)=>BE i az aV cP B A e
   |_=>False
  |_=>False
set_option tactic.hygienic true
theorem acY{p:E}{F:List Nat->Prop}{c:Nat->Prop}{G:Prop}(h:match p with|.str j=>F j|.ref i=>c i|_=>False)(a:∀j,p=.str j->F j->G)(b:∀i,p=.ref i->c i->G):G:=by
 cases p
 case str j=>exact a j rfl h
 case ref i=>exact b i rfl h
 all_goals exact h.elim
theorem aaw{p:Option dm}{F:List E->Prop}{bA:List (List Nat)->List E->Prop}{G:Prop}(h:match p with|some (.list ai)=>F ai|some (.dict az aV)=>bA az aV|_=>False)(a:∀ai,p=some (.list ai)->F ai->G)(b:∀az aV,p=some (.dict az aV)->bA az aV->G):G:=by
 rcases p with _|p
 ·exact h.elim
 ·cases p
  case list ai=>exact a ai rfl h
  case dict az aV=>exact b az aV rfl h
  all_goals exact h.elim
set_option tactic.hygienic false
theorem KC{p:Option E}{F:E->Prop}{G:Prop}(h:match p with|some v=>F v|none=>False)(k:∀v,p=some v->F v->G):G:=by
 rcases p with _|v
 ·exact h.elim
 ·exact k v rfl h
set_option tactic.hygienic true in
theorem ZV{R:dq}{cP:fp}{p:E}{B:List E}{A:bo}{e:U}{G:Prop}(h:bY R cP p B A e)(a:∀k,cP=.fn k->R k (p::B) A e->G)(b:∀j v,p=.str j->oi e j cP B=some v->A v e->G)
  (c:∀i ai,p=.ref i->e.get i=some (.list ai)->Dq i ai cP B A e->G) (o:∀i az aV,p=.ref i->e.get i=some (.dict az aV)->BE i az aV cP B A e->G):G:=by
 cases cP
 case fn k=>exact a k rfl h
 all_goals exact acY h (λ j D h=>KC h λ v d=>b j v D d) λ i D h=>aaw h (λ ai d=>c i ai D d) λ az aV d=>o i az aV D d
structure fD where
 sc:Scope
 loc:Loc
 out:Loc
noncomputable def oa(P:eW)(c:fD)(x:Str):Option E:=match c.sc.names.lookup x with
 |some .local=>getL c.loc x
 |some .cell=>getL c.loc x
 |some .free=>getL c.out x
 |some .globalImplicit=>P.glob x
 |_=>none
theorem aab{P:eW}{c:fD}{x:Str}{v:E}{G:Prop}(h:oa P c x=some v)(a:c.sc.names.lookup x=some .local->getL c.loc x=some v->G)(b:c.sc.names.lookup x=some .cell->getL c.loc x=some v->G)
  (o:c.sc.names.lookup x=some .free->getL c.out x=some v->G) (g:c.sc.names.lookup x=some .globalImplicit->P.glob x=some v->G):G:=by
 delta oa at h
 revert h
 rcases d:c.sc.names.lookup x with _|k
 ·exact λ h=>a8 h
 ·cases k<;>first|exact a d|exact b d|exact o d|exact g d|exact λ h=>a8 h
abbrev j7:=fD->Expr->q'
abbrev lI:=fD->Expr->kx
noncomputable def w_:Expr->Bool
 |.Call (.Name _ _) [] [] _=>false
 |_=>true
noncomputable def rR:List Expr->Bool
 |[]=>true
 |.Starred _ _::_=>false
 |_::r=>rR r
noncomputable def pA(sc:Scope):Bool:=sc.kind==.function&&!sc.isGenerator&&!sc.isCoroutine&&sc.names.all λ s=>s.1 !=(Str.ofString "__debug__")&&s.1 !=(Str.ofString "__classdict__")&&s.1 !=(Str.ofString "__class__")
noncomputable def qd(ev:j7)(c:fD):List Expr->(List E->U->Prop)->U->Prop
 |[],A,e=>A [] e
 |d::r,A,e=>match d with
  |.Starred _ _=>False
  |d=>ev c d (λ v a=>qd ev c r (λ B b=>A (v::B) b) a) e
noncomputable def yL(ev:j7)(c:fD)(a:E):List CmpOp->List Expr->kx
 |[g],[d],A,e=>ev c d (λ b f=>match lO f g a b with|some r=>A r f|none=>False) e
 |g::h::i,d::j::k,A,e=>ev c d (λ b f=>match lO f g a b with
  |some r=>match r with
   |true=>yL ev c b (h::i) (j::k) A f
   |false=>A false f
  |none=>False) e
 |_,_,_,_=>False
noncomputable def yC(ev:j7)(c:fD)(b:BoolOp):List Expr->q'
 |[],_,_=>False
 |[d],A,e=>ev c d A e
 |d::r,A,e=>ev c d (λ v a=>match b,v with
  |.And,.bool false=>A v a
  |.And,.bool true=>yC ev c b r A a
  |.Or,.bool true=>A v a
  |.Or,.bool false=>yC ev c b r A a
  |_,_=>False) e
noncomputable def DY(ev:j7)(c:fD):Option Expr->(Option E->U->Prop)->U->Prop
 |none,A,e=>A none e
 |some d,A,e=>ev c d (λ v a=>A (some v) a) e
noncomputable def w7:Expr->Option Str
 |.Name x _=>some x
 |_=>none
theorem DA{d:Expr}{x:Str}(h:w7 d=some x):∃s,d=.Name x s:=by
 rcases d with _|_<;>first|exact a8 h|(obtain rfl:=c' h;exact⟨_,rfl⟩)
noncomputable def KS:Option Expr->Option Str
 |some (.Constant (.str x) _ _)=>some x
 |_=>none
set_option tactic.hygienic true in
theorem acW{d:Option Expr}{x:Str}(h:KS d=some x):∃a b,d=some (.Constant (.str x) a b):=by
 rcases d with _|_
 case none=>exact a8 h
 case some d=>(rcases d with _|_;(case Constant k a b=>rcases k with _|_<;>first|exact a8 h|(obtain rfl:=c' h;exact cv a b rfl));(all_goals exact a8 h))
noncomputable def yS(P:eW)(c:fD):List (Option Expr)->List Expr->Option (List (List Nat)×List E)
 |[],a=>match a with
  |[]=>some ([],[])
  |_=>none
 |k::b,a=>match a with
  |[]=>none
  |d::b1=>(KS k).bind λ x=>(w7 d).bind λ H=>(oa P c H).bind λ v=>(yS P c b b1).bind λ s=>if s.1.contains (k6 x) then none else some (k6 x::s.1,v::s.2)
inductive oJ(P:eW)(c:fD):List (Option Expr)->List Expr->List (List Nat)->List E->Prop
 |nil:oJ P c [] [] [] []
 |cons {x H:Str} {a:Nat} {b s:Pos} {v:E} {rI:List (Option Expr)} {b1:List Expr} {az:List (List Nat)} {B:List E} (ao:oa P c H=some v) (ag:k6 x∉az) (h:oJ P c rI b1 az B):oJ P c (some (.Constant (.str x) a b)::rI) (.Name H s::b1) (k6 x::az) (v::B)
set_option tactic.hygienic true in
theorem VX{P:eW}{c:fD}{f:List (Option Expr)}:∀{e:List Expr}{az:List (List Nat)}{B:List E},yS P c f e=some (az,B)->oJ P c f e az B:=by
 induction f with
 |nil=>
  intro e az B h
  rcases e with _|_
  case nil=>(injection c' h with a3 bL;subst a3 bL);exact .nil
  case cons _ _=>exact a8 h
 |cons k n g=>
  intro e az B h
  rcases e with _|_
  case nil=>exact a8 h
  case cons d b1=>
   refine ba (gm.mp h) λ x C h=>ba (gm.mp h) λ H I h=>ba (gm.mp h) λ v af h=>ba (gm.mp h) λ s i h=>bf (DK h) λ j h=>?_
   (injection c' h with a3 bL;subst a3 bL)
   refine EX (acW C) λ a b l=>?_;clear C;subst l
   refine a7 (DA I) λ q m=>?_;clear I h;subst m
   exact .cons af (λ D=>j (List.contains_iff_mem.mpr D)) (g i)
noncomputable def C3(eg:lI)(c:fD):List Expr->kx
 |[],A,e=>A true e
 |d::r,A,e=>eg c d (λ b a=>match b with|true=>C3 eg c r A a|false=>A false a) e
noncomputable def ux(d:E->kx)(f:E->q')(c:U->Prop):List E->List E->(List E->U->Prop)->U->Prop
 |[],a,A,e=>c e/\A a e
 |v::r,a,A,e=>c e/\a.length<=c7/\d v (λ b g=>match b with
  |true=>f v (λ w h=>ux d f c r (a++[w]) A h) g
  |false=>ux d f c r a A g) e
noncomputable def uv(ev:j7)(eg:lI)(c:fD)(x:Str)(ifs:List Expr)(a:Expr)(b:U->Prop):List E->List E->(List E->U->Prop)->U->Prop:=
 ux (λ v=>C3 eg {c with loc:=l_ c.loc x v} ifs) (λ v=>ev {c with loc:=l_ c.loc x v} a) b
noncomputable def m7(sc:Scope)(x:Str):Bool:=match sc.names.lookup x with
 |some .local=>true
 |some .cell=>true
 |_=>false
theorem IW{sc:Scope}{x:Str}{G:Prop}(h:m7 sc x=true)(a:sc.names.lookup x=some .local->G)(b:sc.names.lookup x=some .cell->G):G:=by
 delta m7 at h
 revert h
 rcases d:sc.names.lookup x with _|k
 ·exact λ h=>cq h
 ·cases k<;>first|exact λ z=>a d|exact λ z=>b d|exact λ h=>cq h
noncomputable def YN:Expr->Bool
 |.Set _ _ _=>true
 |_=>false
noncomputable def uw(c:fD)(sc:Scope)(x:Str)(a:Expr):Bool:=pA sc&&sc.names.lookup x==some .local&&!YN a&&sc.names.all λ s=>match s.2 with
 |.cell=>false
 |.local=>sc.names.lookup s.1==some .local
 |.free=>sc.names.lookup s.1==some .free&&c.sc.names.lookup s.1==some .cell&&(getL c.loc s.1).isSome
 |_=>true
noncomputable def aaH(g:Comprehension):Option (Str×Expr×List Expr):=if g.is_async=0 then(w7 g.target).map λ x=>(x,g.iter,g.ifs) else none
noncomputable def DU:List Comprehension->Option (Str×Expr×List Expr)
 |[g]=>aaH g
 |_=>none
set_option tactic.hygienic true in
theorem aaG{gens:List Comprehension}{x:Str}{a:Expr}{ifs:List Expr}(h:DU gens=some (x,a,ifs)):∃s,gens=[⟨.Name x s,a,ifs,0⟩]:=by
 rcases gens with _|_
 case nil=>exact a8 h
 case cons g r=>
  rcases r with _|_
  case cons _ _=>exact a8 h
  case nil=>
   refine bf (qu (h)) λ c h=>ba (gS.mp h) λ H k d=>a7 (DA k) λ s k=>?_
   obtain⟨t,b,e,n⟩:=g
   cases c;cases k;cases d
   exact⟨s,rfl⟩
def hQ(v:E)(items:List E)(e:U):Prop:=match v with
 |.ref _=>hy e v=some items
 |_=>True
noncomputable def qy(sc:Scope):Loc:=sc.names.filterMap λ s=>match s.2 with
 |.local=>some (s.1,none)
 |.cell=>some (s.1,none)
 |_=>none
noncomputable def A6:Expr->Option (Expr×Str×Pos)
 |.Attribute p m s=>some (p,m,s)
 |_=>none
noncomputable def El:Expr->Option (Option Expr×Option Expr)
 |.Slice l u none _=>some (l,u)
 |_=>none
theorem TN{f p:Expr}{m:Str}{s:Pos}(h:A6 f=some (p,m,s)):f=.Attribute p m s:=by
 rcases f with _|_<;>first|exact a8 h|(cases c' h;rfl)
set_option tactic.hygienic true in
theorem acm{i:Expr}{l u:Option Expr}(h:El i=some (l,u)):∃s,i=.Slice l u none s:=by
 rcases i with _|_
 case Slice a b c s=>(rcases c with _|_;(case none=>(injection c' h with a3 bL;subst a3 bL);exact⟨s,rfl⟩);(case some _=>exact a8 h))
 all_goals exact a8 h
def wk(P:eW)(R:dq)(ev:j7)(eg:lI)(c:fD)(d:Expr)(A:bo)(e:U):Prop:=match d with
 |.Constant k _ _=>match k with
  |.none=>A .none e
  |.bool b=>A (.bool b) e
  |.int i=>A (.int i) e
  |.str j=>A (.str (k6 j)) e
  |_=>False
 |.Name x _=>match oa P c x with
  |some v=>A v e
  |none=>False
 |.BoolOp q n _=>yC ev c q n A e
 |.BinOp l q r _=>ev c l (λ a g=>ev c r (λ b h=>bw q a b A h) g) e
 |.UnaryOp q x _=>ev c x (λ a g=>Lm q a A g) e
 |.IfExp t b p _=>eg c t (λ r g=>match r with|true=>ev c b A g|false=>ev c p A g) e
 |.Dict az n _=>match yS P c az n with
  |some (az,B)=>(az.length=0\/az.length=19)/\A (.ref e.next) (e.alloc (.dict az B))
  |none=>False
 |.List n _=>qd ev c n (λ B g=>B.length<=c7/\A (.ref g.next) (g.alloc (.list B))) e
 |.Tuple n _ _=>qd ev c n (λ B g=>B.length<=c7/\tupK B A g) e
 |.ListComp y gens sc _=>match DU gens with
  |some (x,s,ifs)=>match uw c sc x s with
   |true=>ev c s (λ v g=>match hy g v with
    |some items=>uv ev eg ⟨sc,qy sc,c.loc⟩ x ifs y (hQ v items) items [] (λ B h=>A (.lst B) h) g
    |none=>False) e
   |false=>False
  |none=>False
 |.Compare l C n _=>ev c l (λ a g=>yL ev c a C n (λ b h=>A (.bool b) h) g) e
 |.Call f args D cz=>match D with
  |[]=>match A6 f with
   |some (p,m,E)=>match w_ p&&E.endLine==cz.line&&decide (args.length<20)&&rR args with
    |true=>ev c p (λ o g=>match zF P g o m with
     |some cP=>qd ev c args (λ B h=>bY R cP o B A h) g
     |none=>False) e
    |false=>False
   |none=>match rR args with
    |true=>ev c f (λ F g=>qd ev c args (λ B h=>cJ P R F B A h) g) e
    |false=>False
  |_=>False
 |.Attribute p x _=>match w_ p with
  |true=>ev c p (λ o g=>a6 o x A g) e
  |false=>False
 |.Subscript p i _=>match El i with
  |some (l,u)=>ev c p (λ o g=>DY ev c l (λ G h=>DY ev c u (λ H w=>match pB w o G H with
   |some v=>A v w
   |none=>False) h) g) e
  |none=>ev c p (λ o g=>ev c i (λ I h=>match n_ h o I with
   |some v=>A v h
   |none=>False) g) e
 |_=>False
noncomputable def AX(eg:lI)(c:fD)(a:BoolOp):List Expr->kx
 |[],A,e=>A (a==.And) e
 |d::r,A,e=>eg c d (λ b f=>match a,b with
  |.And,false=>A false f
  |.Or,true=>A true f
  |_,_=>AX eg c a r A f) e
def K7(ev:j7)(eg:lI)(c:fD)(d:Expr)(A:Bool->U->Prop)(e:U):Prop:=match d with
 |.UnaryOp .Not x _=>eg c x (λ b f=>A (!b) f) e
 |.BoolOp h g _=>AX eg c h g A e
 |.IfExp t b p _=>eg c t (λ r f=>match r with|true=>eg c b A f|false=>eg c p A f) e
 |.Compare l i g _=>ev c l (λ a f=>yL ev c a i g A f) e
 |d=>ev c d (λ v f=>match v with|.bool b=>A b f|_=>False) e
noncomputable def BR(P:eW)(R:dq):Nat->j7×lI
 |0=>(λ z z z z=>False,λ z z z z=>False)
 |n+1=>let s:=BR P R n;(wk P R s.1 s.2,K7 s.1 s.2)
noncomputable def ev(P:eW)(R:dq)(n:Nat):j7:=(BR P R n).1
noncomputable def eg(P:eW)(R:dq)(n:Nat):lI:=(BR P R n).2
noncomputable def sC(sc:Scope):List Expr->List E->Loc->Option Loc
 |[],B,ak=>match B with|[]=>some ak|_::_=>none
 |d::a,B,ak=>match B with
  |[]=>none
  |v::B=>(w7 d).bind λ x=>match m7 sc x with
   |true=>sC sc a B (l_ ak x v)
   |false=>none
def p5(P:eW)(R:dq)(sc:Scope)(t:Expr)(v:E)(ak:Loc)(K:Loc->U->Prop)(e:U):Prop:=match t with
 |.Name x _=>match m7 sc x with
  |true=>K (l_ ak x v) e
  |false=>False
 |.Attribute p x _=>ev P R 40 ⟨sc,ak,[]⟩ p (λ a b=>cL a x v (K ak) b) e
 |.Subscript p i _=>ev P R 40 ⟨sc,ak,[]⟩ p (λ a b=>ev P R 40 ⟨sc,ak,[]⟩ i (λ c d=>gM a c v (K ak) d) b) e
 |.Tuple f _ _=>match v with
  |.tup B=>match sC sc f B ak with
   |some g=>K g e
   |none=>False
  |_=>False
 |_=>False
noncomputable def tc(d:Loc->kx)(body:Loc->ei->U->Prop):Nat->Loc->ei->U->Prop
 |0,_,_,_=>False
 |k+1,ak,K,e=>d ak (λ b f=>match b with
  |true=>body ak (λ fl a c=>match fl with
   |.next=>tc d body k a K c
   |.cont=>tc d body k a K c
   |.brk=>K .next a c
   |.ret v=>K (.ret v) a c) f
  |false=>K .next ak f) e
noncomputable def o4(d:E->Loc->(Loc->U->Prop)->U->Prop)(body:Loc->ei->U->Prop)(a:U->Prop):List E->Loc->ei->U->Prop
 |[],ak,K,e=>a e/\K .next ak e
 |v::r,ak,K,e=>a e/\d v ak (λ f g=>body f (λ fl b c=>match fl with
  |.next=>o4 d body a r b K c
  |.cont=>o4 d body a r b K c
  |.brk=>K .next b c
  |.ret w=>K (.ret w) b c) g) e
noncomputable def m1(ex:Stmt->Loc->ei->U->Prop):List Stmt->Loc->ei->U->Prop
 |[],ak,K,e=>K .next ak e
 |j::r,ak,K,e=>ex j ak (λ fl a M=>match fl with
  |.next=>m1 ex r a K M
  |fl=>K fl a M) e
noncomputable def zl:Expr->Bool
 |.ListComp _ _ _ _=>true
 |.SetComp _ _ _ _=>true
 |.DictComp _ _ _ _ _=>true
 |_=>false
noncomputable def IX:Expr->Bool
 |.Slice _ _ _ _=>true
 |_=>false
noncomputable def u1:Expr->Bool
 |.Tuple _ _ _=>true
 |.List _ _=>true
 |_=>false
def Hb(P:eW)(R:dq)(sc:Scope)(ex:Stmt->Loc->ei->U->Prop)(j:Stmt)(ak:Loc)(K:ei)(e:U):Prop:=match j with
 |.Expr d _=>match zl d with
  |false=>ev P R 40 ⟨sc,ak,[]⟩ d (λ z c=>K .next ak c) e
  |true=>False
 |.Pass _=>K .next ak e
 |.Break _=>K .brk ak e
 |.Continue _=>K .cont ak e
 |.Return none _=>K (.ret .none) ak e
 |.Return (some d) _=>ev P R 40 ⟨sc,ak,[]⟩ d (λ v c=>K (.ret v) ak c) e
 |.Assign [t] d _=>match u1 t&&u1 d with
  |false=>ev P R 40 ⟨sc,ak,[]⟩ d (λ v c=>p5 P R sc t v ak (λ o f=>K .next o f) c) e
  |true=>False
 |.AugAssign (.Name x _) g d _=>match m7 sc x,oa P ⟨sc,ak,[]⟩ x with
  |true,some a=>ev P R 40 ⟨sc,ak,[]⟩ d (λ b c=>eR g a b (λ r f=>K .next (l_ ak x r) f) c) e
  |_,_=>False
 |.AugAssign (.Attribute p x _) g d _=>ev P R 40 ⟨sc,ak,[]⟩ p (λ h c=>a6 h x (λ a f=>ev P R 40 ⟨sc,ak,[]⟩ d (λ b l=>eR g a b (λ r m=>cL h x r (K .next ak) m) l) f) c) e
 |.AugAssign (.Subscript p i _) g d _=>match IX i with
  |false=>ev P R 40 ⟨sc,ak,[]⟩ p (λ h c=>ev P R 40 ⟨sc,ak,[]⟩ i (λ n f=>match n_ f h n with
   |some a=>ev P R 40 ⟨sc,ak,[]⟩ d (λ b l=>eR g a b (λ r m=>gM h n r (K .next ak) m) l) f
   |none=>False) c) e
  |true=>False
 |.If t b p _=>eg P R 40 ⟨sc,ak,[]⟩ t (λ r c=>match r with|true=>m1 ex b ak K c|false=>m1 ex p ak K c) e
 |.While t b [] _=>∃k,tc (λ ak=>eg P R 40 ⟨sc,ak,[]⟩ t) (m1 ex b) k ak K e
 |.For t q b [] _=>ev P R 40 ⟨sc,ak,[]⟩ q (λ v c=>match hy c v with
  |some items=>o4 (p5 P R sc t) (m1 ex b) (hQ v items) items ak K c
  |none=>False) e
 |_=>False
noncomputable def ex(P:eW)(R:dq)(sc:Scope):Nat->Stmt->Loc->ei->U->Prop
 |0=>λ z z z z=>False
 |n+1=>Hb P R sc (ex P R sc n)
noncomputable def vq:List Str->List E->Loc->Loc
 |x::ai,v::B,ak=>vq ai B (l_ ak x v)
 |_,_,ak=>ak
noncomputable def ow(n:Nat)(B fI:List E):List E:=B++fI.drop (B.length+fI.length-n)
noncomputable def Run(P:eW):Nat->dq
 |0,_,_,_,_=>False
 |n+1,k,B,A,e=>match P.fn k with
  |none=>False
  |some o=>match(ow o.params.length B o.defaults).length==o.params.length&&decide (B.length<=o.params.length) with
   |false=>False
   |true=>m1 (ex P (Run P n) o.scope 12) o.body (vq o.params (ow o.params.length B o.defaults) (qy o.scope)) (λ fl z M=>match fl with
    |.ret v=>A v M
    |.next=>A .none M
    |_=>False) e
section
variable{G gZ:Prop}
theorem aaB{p:Option q3}{b:q3->Bool}{F:q3->Prop}{G:Prop}(h:match p with|none=>False|some o=>match b o with|false=>False|true=>F o)(f:∀o,p=some o->b o=true->F o->G):G:=by
 rcases p with _|o
 ·exact h.elim
 ·revert h
  show(match b o with|false=>False|true=>F o)->G
  have:=f o rfl
  revert this
  rcases b o with _|_
  ·exact λ z=>False.elim
  ·exact λ q=>q rfl
set_option tactic.hygienic true
theorem xi{p:Option E}{F:E->Prop}(h:match p with|some v=>F v|none=>False)(k:∀v,p=some v->F v->G):G:=by
 rcases p with _|_
 case some v=>exact k v rfl h
 case none=>exact h.elim
theorem aaS{p:Option (List (List Nat)×List E)}{F:List (List Nat)->List E->Prop}(h:match p with|some (az,B)=>F az B|none=>False)(k:∀az B,p=some (az,B)->F az B->G):G:=by
 rcases p with _|_
 case some s=>exact k _ _ rfl h
 case none=>exact h.elim
set_option tactic.hygienic false
theorem xM{b:Bool}(h:match b with|true=>gZ|false=>False)(k:b=true->gZ->G):G:=by
 rcases b with _|_
 case true=>exact k rfl h
 case false=>exact h.elim
theorem BV{b:Bool}(h:match b with|false=>gZ|true=>False)(k:b=false->gZ->G):G:=by
 rcases b with _|_
 case false=>exact k rfl h
 case true=>exact h.elim
end
end
end
end
section
open PySem (Str Scope NameKind BoolOp Operator UnaryOp CmpOp Const Stmt Comprehension Pos Program Expr)
noncomputable def K3:List Stmt:=PySem.Challenge.pw_nz0206_01.main.body
noncomputable def Ew(fI:List E):Stmt->Option q3
 |.FunctionDef name args body _ _ _ sc _ _ _=>some ⟨name,args.args.map (·.arg),fI,body,sc⟩
 |_=>none
theorem acS{fI:List E}{j:Stmt}{o:q3}(h:Ew fI j=some o):∃a b c x H D f g i y,j=.FunctionDef a b c x H D f g i y/\o=⟨a,b.args.map (·.arg),fI,c,f⟩:=by
 rcases j with _|_<;>first|exact a8 h|exact⟨_,_,_,_,_,_,_,_,_,_,rfl,(c' h).symm⟩
noncomputable def Vr:Stmt->List Stmt
 |.ClassDef _ _ _ b _ _ _ _ _ _ _=>b
 |_=>[]
noncomputable def iT:List (Nat×Nat):=[(7,120),(8,127),(9,134),(10,141),(11,146),(12,153),(13,160),(14,167),(15,174),(18,202),(19,209),(20,216),(21,223),(22,230),(23,237),(24,244),(25,251),(26,258),(27,265),(28,272),(29,279),(30,286),(31,293),(32,300),(33,307),(34,312),(35,319),(36,326),(37,333),(38,340),(39,347),(40,354),(41,361),(42,368),(43,375),(44,382),(51,468),(52,475),(53,482),(54,489),(55,496),(56,503),(57,510),(65,553),(66,560),(67,567),(70,586),(72,598),(73,605),(74,612),(75,619),(76,626),(81,637),(82,644),(83,651),(84,656),(85,661),(86,668),(87,675),(88,682),(89,689),(90,694),(96,710),(97,715),(98,722),(99,729),(100,736),(101,743),(102,750),(103,757),(104,764),(105,771),(106,778),(107,785),(108,790),(110,797),(112,804),(113,811),(114,818),(115,823),(116,828),(117,833),(118,838),(119,843),(120,850),(121,857),(122,864),(123,871),(124,876),(125,881),(126,886),(1170,188),(1460,397),(1490,419),(1500,440),(1501,447),(1502,454),(1640,525),(1641,532),(1642,539)]
noncomputable def kf:List (Nat×Nat):=[(17,191),(46,400),(49,422),(50,457),(64,542)]
noncomputable def xy(k:Nat):Option Stmt:=if k<1000 then K3[k]? else(K3[(k-1000)/10]?).bind λ j=>(Vr j)[(k-1000)%10]?
noncomputable def ED(k:Nat):Option q3:=(iT.lookup k).bind λ z=>(xy k).bind (Ew (if k=1460 then[.int 64,.int 50,.int 1000000,.int 100000,.int 10000] else[]))
noncomputable def Aj(c:Nat):Option Nat:=if c=17\/c=46\/c=49\/c=50\/c=64 then some (1000+10*c) else none
noncomputable def Ak(c:Nat)(x:Str):Option Nat:=
 if c=50 then(if x==iw then some 1501 else if x==qT then some 1502 else none)
 else if c=64 then(if x==mF then some 1641 else if x==hC then some 1642 else none)
 else none
noncomputable def S(x:String):E:=.str (k6 (Str.ofString x))
noncomputable def defNames:List (String×Nat):=[("is_word_sign",7),("in_class",8),("other_case",9),("same_sign",10),("posix_items",11),("item_holds",12),("items_hold",13),("set_holds",14),("sign_fits",15),
 ("set_register",18),("go_on",19),("row_test",20),("run_end",21),("row_run",22),("place_holds",23),("row_at",24),("row_back",25),("row_open",26),("row_close",27),("row_jump",28),("row_split",29),("row_zero",30),
 ("row_loop",31),("row_again",32),("row_mark",33),("row_cut",34),("undo_entry",35),("row_refuse",36),("row_place",37),("row_return",38),("row_behind",39),("row_words",40),("take_more",41),("back_up",42),("match_from",43),
 ("search_pattern",44),("add_node",51),("add_branches",52),("add_atomic",53),("add_repeats",54),("add_loop",55),("add_look",56),("compile_tree",57),("run_of",65),("number_of_run",66),("until_sign",67),
 ("read_plain_escape",70),("read_posix",72),("read_member",73),("is_one_sign",74),("read_range_end",75),("read_set",76),("count_groups",81),("behind_set",82),("opens_capture",83),("is_name_text",84),("braces_count",85),("take_count",86),
 ("speak_of",87),("read_named_back",88),("read_numbered_back",89),("width_of",90),("skip_unseen",96),("read_flags",97),("read_inline",98),("read_alternation",99),("read_branch",100),("read_atom",101),("read_counted",102),
 ("read_inner",103),("read_capture",104),("read_look",105),("read_group",106),("read_escape",107),("parse_pattern",108),("compile_pattern",110),("_law_ones",112),("_law_counts",113),("_law_draw",114),("_law_wide",115),("_law_node",116),
 ("_law_row",117),("_law_spelt",118),("_law_once",119),("_law_rounds",120),("_law_same",121),("_law_place",122),("_law_set",123),("_law_look",124),("_law_ways",125)]
noncomputable def GF:List (String×Nat):=[("MatchRun",17),("Limits",46),("Program",49),("RowMaker",50),("PatternText",64)]
noncomputable def constNames:List (String×E):=[("BLANKS",S " \t\n\r\x0c\x0b"),("ONE_SIGN",.tup [S "sign",S "any",S "set"]),("OCTAL_FIGURES",S "01234567"),("HEX_FIGURES",S "0123456789abcdef"),("CLASS_LETTERS",S "dDwWsShHvV"),("MOST_CODE",.int 1114111),
 ("FIGURES",S "0123456789"),("MOST_COUNT",.int 32766),("COUNT_SIGNS",.dct [[42],[43],[63]] [.tup [.int 0,.int (-1)],.tup [.int 1,.int (-1)],.tup [.int 0,.int 1]]),("FLAG_LETTERS",S "imsx"),("MOST_NESTED",.int 40),
 ("LOOKS",.lst [.tup [S "(?=",.bool false,.bool false],.tup [S "(?!",.bool false,.bool true],.tup [S "(?<=",.bool true,.bool false],.tup [S "(?<!",.bool true,.bool true]]),
 ("NAME_SIGNS",.lst [.tup [S "(?<",S ">"],.tup [S "(?P<",S ">"],.tup [S "(?'",S "'"]]),
 ("len",.bi .len),("ord",.bi .ord),("chr",.bi .chr),("max",.bi .max),("min",.bi .min),("sum",.bi .sum),("range",.typ .range),("str",.typ .str),("list",.typ .list)]
noncomputable def EE:List (Str×E):=(defNames.map λ s=>(Str.ofString s.1,E.fn s.2))++(GF.map λ s=>(Str.ofString s.1,E.cls s.2))++constNames.map λ s=>(Str.ofString s.1,s.2)
noncomputable def cp:eW:=⟨λ x=>EE.lookup x,ED,Aj,Ak⟩
abbrev call(n:Nat):dq:=Run cp n
end
section
open PySem PySem.W PySem.Calls PyProof.Rows
noncomputable def xK(ok:Thread->Bool)(st:SharedT->Thread->Option (SharedT×Thread)):Nat->SharedT->Thread->Option SharedT
 |0,_,_=>none
 |n+1,j,t=>match through t with
  |true=>some j
  |false=>match ok t with
   |false=>none
   |true=>match st j t with
    |some (a,b)=>xK ok st n a b
    |none=>none
theorem adD{ok:Thread->Bool}{st:SharedT->Thread->Option (SharedT×Thread)}{n:Nat}{j:SharedT}{t:Thread}:xK ok st (n+1) j t=match through t with|true=>some j|false=>match ok t with|false=>none|true=>match st j t with|some (a,b)=>xK ok st n a b|none=>none:=rfl
theorem K4{hD:String->Option Builtin}{s:Program}{w:World}{c:Nat}{d:Option Value}:∀{n:Nat}{j a:SharedT}{t:Thread},xK (stepOk c d) (stepT (denote hD) s w) n j t=some a->topRun hD s w c d n j.abs t=some a.abs
 |0,_,_,_,h=>by exact a8 h
 |n+1,j,a,t,h=>by
  rw[adD] at h
  unfold topRun
  rcases cZ:through t with _|_
  case true=>rw[cZ] at h;obtain rfl:=cm h;rfl
  case false=>
   have h:=cZ▸h
   rcases e:stepOk _ _ t with _|_
   case false=>have h:=e▸h;exact a8 h
   case true=>
    have h:=e▸h
    rcases b:stepT _ s w j t with _|_
    case none=>have h:=b▸h;exact a8 h
    case some r=>rw[b] at h;exact stepT_spec b▸K4 h
noncomputable def EG:Nat->List Obj->Nat->Nat->BT
 |0,_,_,_=>.nil
 |k+1,l,a,b=>match l[b]? with
  |some p=>.node p (EG k l (2*a) (a+b)) (EG k l (2*a) (2*a+b))
  |none=>.nil
abbrev hO:Program:=PySem.Challenge.pw_nz0206_01
noncomputable def Gm(w:World)(os:OsState):SharedT:=⟨EG 12 (boot_heap w.params).objs.toList 1 0,11,(boot_heap w.params).life,#[],boot_drawn,boot_toks,os⟩
theorem U9(w:World)(os:OsState):(Gm w os).abs=⟨boot_heap w.params,#[],boot_drawn,boot_toks,os⟩:=by kernel_rfl
noncomputable def EF(w:World)(os:OsState):Option SharedT:=
 xK (PySem.W.Fast.tw6613529449190102663 11 (some (.ref 6))) (PySem.W.Fast.tw10156331382660048174 (PySem.W.Fast.tw11892475500146522536 PySem.W.Fast.tw14364793385576792824) hO w) 5660 (Gm w os) (topStub hO)
theorem adC{w:World}{os:OsState}{j:SharedT}(h:EF w os=some j):topRun treeTable hO w 11 (some (.ref 6)) 5660 ⟨boot_heap w.params,#[],boot_drawn,boot_toks,os⟩ (topStub hO)=some j.abs:=by
 unfold EF at h
 rw[<-PySem.W.Fast.te6613529449190102663,<-PySem.W.Fast.te10156331382660048174,<-PySem.W.Fast.te11892475500146522536,<-PySem.W.Fast.te14364793385576792824] at h
 rw[<-U9]
 exact K4 h
noncomputable def ts:Program:=view hO [126]
noncomputable def zC:List Str:=(hO.main.scope.names.map (·.1)).dropLast
theorem Jw:importedModules hO.main.body=[]:=by kernel_rfl
noncomputable def Zx(w:World)(j:Shared):=(staticsOk [] (boot_heap w.params) j.heap&&namesBound hO j.heap&&gensDone j&&laidKept (boot_heap w.params) j.heap,PySem.W.Fast.tw4187177175401517315 ts zC [] (λ z=>true) true j)
section
structure c5 where
 jr:Nat->Addr
 ca:Nat->Addr
 prog:Program
 w:World
 h₀:Heap
 gens:Array GenState
 os:OsState
 cls:Nat->Prop
structure bg where
 F:Addr->Option Obj
 G:Addr->Option Obj
 adr:Nat->Addr
 fq:Nat->Addr
 n:Nat
noncomputable def strOf(j:List Nat):Str:=⟨j.toArray⟩
abbrev c5.knd(T:c5):KeyKind T.prog T.w Str:=strKind T.prog T.w
noncomputable def pS:List Str->List DictEntry->Prop
 |[],[]=>True
 |k::az,d::a=>(∃t,d.key=.str k t)/\pS az a
 |_,_=>False
mutual
noncomputable def RelV(T:c5)(W:bg):E->Value->Prop
 |.none,x=>x=.none
 |.bool b,x=>x=.bool b
 |.int i,x=>∃t,x=.int i t
 |.str j,x=>∃t,x=.str (strOf j) t
 |.tup B,x=>∃a items cg,x=.ref a/\W.F a=some {cls:=.type "tuple",data:=.seq items cg}/\bK T W B items.toList
 |.lst B,x=>∃a items cg,x=.ref a/\W.F a=some {cls:=.type "list",data:=.seq items cg}/\bK T W B items.toList
 |.dct az B,x=>∃a p d,x=.ref a/\(a==sysModules)=false/\W.F a=some p/\p.IsDictOf T.knd d/\d.map (·.1)=az.map strOf/\bK T W B (d.map (·.2))
 |.rng a b c,x=>∃r e hD f,x=.ref r/\W.F r=some {cls:=.type "range",data:=.fields #[.int a e,.int b hD,.int c f]}
 |.ref i,x=>i<W.n/\x=.ref (W.adr i)
 |.fn k,x=>x=.ref (T.jr k)
 |.cls c,x=>x=.ref (T.ca c)
 |.bi b,x=>x=.builtin b.name/\handedIn x=true
 |.typ t,x=>x=.type t.name
noncomputable def bK(T:c5)(W:bg):List E->List Value->Prop
 |[],[]=>True
 |v::B,x::ai=>RelV T W v x/\bK T W B ai
 |_,_=>False
end
structure de(fr:Addr->Prop)(W aO:bg):Prop where
 F:∀a p,W.F a=some p->aO.F a=some p
 G:∀a,¬fr a->aO.G a=W.G a
 n:W.n<=aO.n
 adr:∀i,i<W.n->aO.adr i=W.adr i
abbrev gA:=de (λ z=>False)
theorem de.refl(fr:Addr->Prop)(W:bg):de fr W W:=⟨λ z z h=>h,λ z z=>rfl,bx _,λ z z=>rfl⟩
theorem de.trans{fr:Addr->Prop}{W aO c:bg}(a:de fr W aO)(b:de fr aO c):de fr W c:=
 ⟨λ x p h=>b.F x p (a.F x p h),λ x h=>(b.G x h).trans (a.G x h),ah a.n b.n,λ i h=>(b.adr i (d7 h a.n)).trans (a.adr i h)⟩
theorem de.mono{fr b:Addr->Prop}{W aO:bg}(a:de fr W aO)(h:∀x,fr x->b x):de b W aO:=⟨a.F,λ x c=>a.G x λ H=>c (h x H),a.n,a.adr⟩
theorem de.wide{fr:Addr->Prop}{W aO:bg}(a:gA W aO):de fr W aO:=a.mono λ z h=>h.elim
set_option tactic.hygienic true
theorem bK.ind{T:c5}{W:bg}{bh:List E->List Value->Prop}(nil:bh [] [])(cons:∀v x B ai,RelV T W v x->bK T W B ai->bh B ai->bh (v::B) (x::ai)){B:List E}:∀{ai:List Value},bK T W B ai->bh B ai:=by
 induction B with
 |nil=>intro ai h;(rcases ai with _|_;(case nil=>exact nil);(case cons _ _=>exact h.elim))
 |cons v B a=>intro ai h;(rcases ai with _|_;(case nil=>exact h.elim);(case cons x ai=>exact cons v x B ai h.1 h.2 (a h.2)))
theorem RelV.mono{T:c5}{W aO:bg}(d:∀a p,W.F a=some p->aO.F a=some p)(Y:W.n<=aO.n)(e:∀i,i<W.n->aO.adr i=W.adr i)(v:E):∀x,RelV T W v x->RelV T aO v x:=by
 refine E.rec (motive_2:=λ B=>∀ai,bK T W B ai->bK T aO B ai) ?_ ?_ ?_ ?_ ?_ ?_ ?_ ?_ ?_ ?_ ?_ ?_ ?_ ?_ ?_ v
 ·exact λ z h=>h
 ·exact λ z z h=>h
 ·exact λ z z h=>h
 ·exact λ z z h=>h
 ·intro B b x h;exact fg h λ a items cg C I c=>gw a items cg ⟨C,d _ _ I,b _ c⟩
 ·intro B b x h;exact fg h λ a items cg C I c=>gw a items cg ⟨C,d _ _ I,b _ c⟩
 ·intro az B b x h;exact r8 h λ a p f C g I af c j=>gw a p f ⟨C,g,d _ _ I,af,c,b _ j⟩
 ·intro _ _ _ x h;exact AA h λ r k hD l C I=>h2 r k hD l ⟨C,d _ _ I⟩
 ·exact λ i x h=>⟨d7 h.1 Y,h.2.trans (bB _ (e i h.1).symm)⟩
 ·exact λ z z h=>h
 ·exact λ z z h=>h
 ·exact λ z z h=>h
 ·exact λ z z h=>h
 ·intro ai h;(rcases ai with _|_;(case nil=>exact h);(case cons _ _=>exact h.elim))
 ·intro v B m o ai h;(rcases ai with _|_;(case nil=>exact h.elim);(case cons x ai=>exact⟨m x h.1,o ai h.2⟩))
set_option tactic.hygienic false
theorem bK.mono{T:c5}{W aO:bg}(b:∀a p,W.F a=some p->aO.F a=some p)(Y:W.n<=aO.n)(c:∀i,i<W.n->aO.adr i=W.adr i)(B:List E)(ai:List Value)(h:bK T W B ai):bK T aO B ai:=
 h.ind trivial λ v x z z r z d=>⟨RelV.mono b Y c v x r,d⟩
theorem RelV.le{T:c5}{fr:Addr->Prop}{W aO:bg}{v:E}{x:Value}(h:RelV T W v x)(l:de fr W aO):RelV T aO v x:=RelV.mono l.F l.n l.adr v x h
theorem bK.le{T:c5}{fr:Addr->Prop}{W aO:bg}{v:List E}{x:List Value}(h:bK T W v x)(l:de fr W aO):bK T aO v x:=bK.mono l.F l.n l.adr v x h
section
variable{T:c5}{W:bg}{B:List E}{ai:List Value}
theorem bK.length(h:bK T W B ai):B.length=ai.length:=h.ind (bh:=λ B ai=>B.length=ai.length) rfl λ z z z z z z=>bB _
theorem bK.append{aV:List E}{dd:List Value}(h:bK T W B ai)(k:bK T W aV dd):bK T W (B++aV) (ai++dd):=h.ind (bh:=λ B ai=>bK T W (B++aV) (ai++dd)) k λ z z z z r z a=>⟨r,a⟩
set_option tactic.hygienic true
theorem bK.get{i:Nat}{v:E}(h:bK T W B ai):B[i]?=some v->∃x,ai[i]?=some x/\RelV T W v x:=by
 refine h.ind (bh:=λ B ai=>∀i,B[i]?=some v->∃x,ai[i]?=some x/\RelV T W v x) (λ z=>a8) (λ w x aV dd r z a i d=>?_) i
 rcases i with _|_
 case zero=>exact⟨x,rfl,rwr (c' d) r⟩
 case succ i=>exact a i d
theorem bK.set{i:Nat}{v:E}{x:Value}(h:bK T W B ai)(r:RelV T W v x):bK T W (B.set i v) (ai.set i x):=by
 refine h.ind (bh:=λ B ai=>∀i,bK T W (B.set i v) (ai.set i x)) (λ z=>trivial) (λ w H aV dd k az a i=>?_) i
 rcases i with _|_
 case zero=>exact⟨r,az⟩
 case succ i=>exact⟨k,a i⟩
theorem bK.drop(k:Nat)(h:bK T W B ai):bK T W (B.drop k) (ai.drop k):=by
 refine h.ind (bh:=λ B ai=>∀k,bK T W (B.drop k) (ai.drop k)) λ k=>by rcases k with _|_<;>trivial (λ w H aV dd r a b k=>?_) k
 rcases k with _|_
 case zero=>exact⟨r,a⟩
 case succ k=>exact b k
theorem bK.take(k:Nat)(h:bK T W B ai):bK T W (B.take k) (ai.take k):=by
 refine h.ind (bh:=λ B ai=>∀k,bK T W (B.take k) (ai.take k)) λ k=>by rcases k with _|_<;>trivial (λ w H aV dd r b a k=>?_) k
 rcases k with _|_
 case zero=>trivial
 case succ k=>exact⟨r,a k⟩
set_option tactic.hygienic false
end
noncomputable def kY:dm->Prop
 |.flist _=>False
 |_=>True
noncomputable def mO(T:c5)(W:bg)(h:Heap)(i:Nat):dm->Prop
 |.list B=>W.fq i=W.adr i/\∃items cg,h.get? (W.adr i)=some {cls:=.type "list",data:=.seq items cg}/\bK T W B items.toList
 |.flist B=>∃items cg,W.F (W.adr i)=some {cls:=.type "list",data:=.seq items cg}/\bK T W B items.toList
 |.dict az B=>W.fq i=W.adr i/\∃p a,h.get? (W.adr i)=some p/\p.IsDictOf T.knd a/\a.map (·.1)=az.map strOf/\bK T W B (a.map (·.2))
 |.inst c az B=>(T.cls c/\∀k∈az,pl k=true)/\W.F (W.adr i)=some (instObj (T.ca c) (W.fq i))/\∃p b cg,h.get? (W.fq i)=some p/\p.cls=.type "dict"/\p.data=.dict b cg/\pS az b.toList/\bK T W B (b.toList.map (·.val))
structure Inv(T:c5)(W:bg)(e:U)(j:Shared):Prop where
 fy:∀a p,W.F a=some p->j.heap.get? a=some p
 gq:∀a p,W.G a=some p->j.heap.get? a=some p
 apart:∀a p,W.G a=some p->W.F a=none
 base:∀a p,T.h₀.get? a=some p->W.F a=some p
 n:W.n=e.next
 lt:∀i p,e.get i=some p->i<e.next
 obj:∀i p,e.get i=some p->mO T W j.heap i p
 free:∀i p,e.get i=some p->kY p->W.F (W.fq i)=none/\W.G (W.fq i)=none
 inj:∀i y p fs,e.get i=some p->e.get y=some fs->kY p->kY fs->i≠y->W.fq i≠W.fq y
 gens:j.gens=T.gens
 os:j.os=T.os
end
section
section
variable{T:c5}{W:bg}{e:U}{j:Shared}
theorem mO.keeps{h a:Heap}{i:Nat}{p:dm}(r:mO T W h i p)(k:kY p->∀x,h.get? (W.fq i)=some x->a.get? (W.fq i)=some x):mO T W a i p:=by
 rcases p with _|_
 case list=>exact pJ r λ d items cg C I=>⟨d,items,cg,(rwr d (k trivial _ (rwl d C))),I⟩
 case flist=>exact r
 case dict=>exact pJ r λ d p b C I=>⟨d,p,b,(rwr d (k trivial _ (rwl d C))),I⟩
 case inst=>exact Ax r λ g d p c cg C I=>⟨g,d,p,c,cg,k trivial _ C,I⟩
theorem mO.le{fr:Addr->Prop}{aO:bg}{h:Heap}{i:Nat}(l:de fr W aO)(a:aO.adr i=W.adr i)(b:aO.fq i=W.fq i){p:dm}(r:mO T W h i p):mO T aO h i p:=by
 rcases p with _|_
 case list=>exact pJ r λ d items cg C I=>⟨by rw[a,b,d],items,cg,rwl a C,I.le l⟩
 case flist=>exact fA r λ items cg C I=>cv items cg ⟨rwl a (l.F _ _ C),I.le l⟩
 case dict=>exact Az r λ d p e C I c af=>⟨by rw[a,b,d],p,e,rwl a C,I,c,af.le l⟩
 case inst=>exact LG r λ g d p f cg C I af c j=>⟨g,by rw[a,b];exact l.F _ _ d,p,f,cg,rwl b C,I,af,c,j.le l⟩
theorem Inv.grow(Q:Inv T W e j){c:Heap}{tk:Nat}(k:∀b p,j.heap.get? b=some p->c.get? b=some p):Inv T W e {j with heap:=c,toks:=tk}:=
 ⟨λ a p d=>k a p (Q.fy a p d),λ a p d=>k a p (Q.gq a p d),Q.apart,Q.base,Q.n,Q.lt,λ i p d=>(Q.obj i p d).keeps λ z=>k _,Q.free,Q.inj,Q.gens,Q.os⟩
theorem Inv.tok(Q:Inv T W e j){tk:Nat}:Inv T W e {j with toks:=tk}:=Q.grow λ z z d=>d
theorem Inv.push(Q:Inv T W e j)(p:Obj){tk:Nat}:Inv T W e {j with heap:=j.heap.push p,toks:=tk}:=Q.grow λ z z=>Heap.get?_push_of_some _
set_option tactic.hygienic true
theorem Inv.tf(Q:Inv T W e j):W.F j.heap.objs.size=none:=by
 rcases d:W.F _ with _|_
 case none=>rfl
 case some p=>exact((Nat.lt_irrefl _) (Heap.lt_size (Q.fy _ _ d))).elim
theorem Inv.tg(Q:Inv T W e j):W.G j.heap.objs.size=none:=by
 rcases d:W.G _ with _|_
 case none=>rfl
 case some p=>exact((Nat.lt_irrefl _) (Heap.lt_size (Q.gq _ _ d))).elim
set_option tactic.hygienic false
theorem mO.at{h:Heap}{i:Nat}{p:dm}(r:mO T W h i p)(m:kY p):∃x,h.get? (W.fq i)=some x:=by
 rcases p with _|_
 case list=>exact pJ r λ d z z C z=>⟨_,rwl d C⟩
 case flist=>exact m.elim
 case dict=>exact pJ r λ d z z C z=>⟨_,rwl d C⟩
 case inst=>exact Ax r λ z z z z z C z=>⟨_,C⟩
theorem Inv.vb(Q:Inv T W e j){i:Nat}{p:dm}(d:e.get i=some p)(m:kY p):W.fq i<j.heap.objs.size:=a7 ((Q.obj i p d).at m) λ x=>Heap.lt_size
noncomputable def bg.k0(W:bg)(a:Addr)(p:Obj):bg:={W with F:=λ b=>if b=a then some p else W.F b}
theorem bg.ys(fr:Addr->Prop)(W:bg)(a:Addr)(p:Obj)(h:W.F a=none\/W.F a=some p):de fr W (W.k0 a p):=by
 refine⟨λ b x d=>?_,λ z z=>rfl,bx _,λ z z=>rfl⟩
 show(if b=a then some p else W.F b)=some x
 split
 ·rename_i q;subst q;rcases h with h|h
  ·have d:=h▸d;exact a8 d
  ·rw[<-h,d]
 ·exact d
theorem Inv.k0(Q:Inv T W e j){a:Addr}{p:Obj}(c:j.heap.get? a=some p)(f:W.F a=none)(g:W.G a=none)(h:∀i x,e.get i=some x->kY x->W.fq i≠a):Inv T (W.k0 a p) e j:=by
 have l:=bg.ys (λ z=>False) W a p (.inl f)
 refine⟨λ b x d=>?_,Q.gq,λ b x d=>?_,λ b x d=>l.F _ _ (Q.base b x d),Q.n,Q.lt,λ i x d=>(Q.obj i x d).le l rfl rfl,λ i x d m=>⟨?_,(Q.free i x d m).2⟩,Q.inj,Q.gens,Q.os⟩
 ·have d:(if b=a then some p else W.F b)=some x:=d
  split at d
  ·rename_i q;obtain rfl:=cm d;exact rwl q c
  ·exact Q.fy b x d
 ·show(if b=a then some p else W.F b)=none
  rw[a9]
  ·exact Q.apart b x d
  ·intro q;clear c f l;subst q;have d:=d;have d:=g▸d;exact a8 d
 ·show(if W.fq i=a then some p else W.F _)=none
  rw[a9 (h i x d m)]
  exact(Q.free i x d m).1
theorem Inv.z1(Q:Inv T W e j)(p:Obj)(a:p.isFreed=false){tk:Nat}:Inv T (W.k0 j.heap.objs.size p) e {j with heap:=j.heap.push p,toks:=tk}/\gA W (W.k0 j.heap.objs.size p):=⟨Q.push p (tk:=tk).k0 (rf _ a) Q.tf Q.tg λ i x d m=>e' (Q.vb d m),bg.ys _ W _ p (.inl Q.tf)⟩
noncomputable def bg.eT(W:bg)(a:Addr)(p:Option Obj):bg:={W with G:=λ b=>if b=a then p else W.G b}
theorem bg.gx(W:bg)(a:Addr)(p:Option Obj):de (·=a) W (W.eT a p):=
 ⟨λ z z d=>d,λ b h=>a9 h,bx _,λ z z=>rfl⟩
theorem RelV.eT{a:Addr}{p:Option Obj}{v:E}{x:Value}(h:RelV T W v x):RelV T (W.eT a p) v x:=h.le (bg.gx W a p)
theorem bK.eT{a:Addr}{p:Option Obj}{v:List E}{x:List Value}(h:bK T W v x):bK T (W.eT a p) v x:=h.le (bg.gx W a p)
theorem Inv.eT(Q:Inv T W e j){a:Addr}{p:Obj}(c:j.heap.get? a=some p)(f:W.F a=none)(g:∀i x,e.get i=some x->kY x->W.fq i≠a):Inv T (W.eT a (some p)) e j:=by
 refine⟨Q.fy,λ b x d=>?_,λ b x d=>?_,Q.base,Q.n,Q.lt,λ i x d=>(Q.obj i x d).le (bg.gx W a _) rfl rfl,λ i x d m=>⟨(Q.free i x d m).1,?_⟩,Q.inj,Q.gens,Q.os⟩
 ·have d:(if b=a then some p else W.G b)=some x:=d
  split at d
  ·rename_i q;obtain rfl:=cm d;exact rwl q c
  ·exact Q.gq b x d
 ·have d:(if b=a then some p else W.G b)=some x:=d
  split at d
  ·rename_i q;rw[q];exact f
  ·exact Q.apart b x d
 ·show(if W.fq i=a then some p else W.G _)=none
  rw[a9 (g i x d m)]
  exact(Q.free i x d m).2
theorem Inv.qL(Q:Inv T W e j)(p:Obj)(a:p.isFreed=false){tk:Nat}:Inv T (W.eT j.heap.objs.size (some p)) e {j with heap:=j.heap.push p,toks:=tk}:=
 Q.push p (tk:=tk).eT (rf _ a) Q.tf λ i x d m=>e' (Q.vb d m)
theorem Inv.yT(Q:Inv T W e j)(a:Addr):Inv T (W.eT a none) e j:=by
 refine⟨Q.fy,λ b x d=>?_,λ b x d=>?_,Q.base,Q.n,Q.lt,λ i x d=>(Q.obj i x d).le (bg.gx W a _) rfl rfl,λ i x d m=>⟨(Q.free i x d m).1,?_⟩,Q.inj,Q.gens,Q.os⟩
 ·have d:(if b=a then none else W.G b)=some x:=d
  split at d
  ·exact a8 d
  ·exact Q.gq b x d
 ·have d:(if b=a then none else W.G b)=some x:=d
  split at d
  ·exact a8 d
  ·exact Q.apart b x d
 ·show(if W.fq i=a then none else W.G _)=none
  split
  ·rfl
  ·exact(Q.free i x d m).2
theorem Inv.qR(Q:Inv T W e j){a:Addr}{p fs:Obj}{c:Heap}{tk:Nat}(g:W.G a=some p)(f:Heap.SameBut a j.heap c)(l:c.get? a=some fs):Inv T (W.eT a (some fs)) e {j with heap:=c,toks:=tk}:=by
 have h:=Q.apart a p g
 have ne:∀b x,W.F b=some x->b≠a:=λ b x d q=>by rw[q,h] at d;exact a8 d
 have k:∀i x,e.get i=some x->kY x->W.fq i≠a:=λ i x d m q=>by have:=(Q.free i x d m).2;rw[q,g] at this;injection this
 refine⟨λ b x d=>(f.2 b (ne b x d)).trans (Q.fy b x d),λ b x d=>?_,λ b x d=>?_,Q.base,Q.n,Q.lt,λ i x d=>((Q.obj i x d).keeps λ m H=>(f.2 _ (k i x d m)).trans).le (bg.gx W a _) rfl rfl,λ i x d m=>⟨(Q.free i x d m).1,?_⟩,Q.inj,Q.gens,Q.os⟩
 ·have d:(if b=a then some fs else W.G b)=some x:=d
  split at d
  ·rename_i q;obtain rfl:=cm d;exact rwl q l
  ·rename_i q;exact(f.2 b q).trans (Q.gq b x d)
 ·have d:(if b=a then some fs else W.G b)=some x:=d
  split at d
  ·rename_i q;rw[q];exact h
  ·exact Q.apart b x d
 ·show(if W.fq i=a then some fs else W.G _)=none
  exact rwl (a9 (k i x d m)) ((Q.free i x d m).2)
theorem U.dH(e:U)(i:Nat)(p:dm)(y:Nat):(e.upd i p).get y=if y=i then some p else e.get y:=rfl
theorem U.fR(e:U)(p:dm)(y:Nat):(e.alloc p).get y=if y=e.next then some p else e.get y:=rfl
theorem Inv.mut(Q:Inv T W e j){i:Nat}{p fs:dm}{g:Heap}{tk:Nat}(d:e.get i=some p)(m:kY p)(s:kY fs)(h:Heap.SameBut (W.fq i) j.heap g)(o:mO T W g i fs):
  Inv T W (e.upd i fs) {j with heap:=g,toks:=tk}:=by
 have fr:=Q.free i p d m
 refine⟨λ b x d=>(h.2 b ((λ b x d q=>by rw[q,fr.1] at d;exact a8 d) b x d)).trans (Q.fy b x d),λ b x d=>(h.2 b ((λ b x d q=>by rw[q,fr.2] at d;exact a8 d) b x d)).trans (Q.gq b x d),Q.apart,Q.base,Q.n,λ y x a=>?_,λ y x a=>?_,λ y x a c=>?_,λ y k x H a f c mk l=>?_,Q.gens,Q.os⟩
 ·rw[U.dH] at a
  split at a
  ·rename_i q;rw[q];exact Q.lt i p d
  ·exact Q.lt y x a
 ·rw[U.dH] at a
  split at a
  ·rename_i q;obtain rfl:=cm a;exact rwl q o
  ·rename_i q
   exact(Q.obj y x a).keeps λ c H b_=>(h.2 _ (Q.inj y i x p a d c m q)).trans b_
 ·rw[U.dH] at a
  split at a
  ·rename_i q;exact rwl q fr
  ·exact Q.free y x a c
 ·rw[U.dH] at a f
  split at a<;>split at f
  ·rename_i q r;exact(l (q.trans r.symm)).elim
  ·rename_i q r;rw[q];exact λ D=>Q.inj k i H p f d mk m r D.symm
  ·rename_i q r;rw[r];exact Q.inj y i x p a d c m q
  ·exact Q.inj y k x H a f c mk l
theorem Inv.frozen(Q:Inv T W e j){i:Nat}{B:List E}(d:e.get i=some (.list B)):
  ∃items cg,Inv T (W.k0 (W.adr i) {cls:=.type "list",data:=.seq items cg}) (e.upd i (.flist B)) j/\gA W (W.k0 (W.adr i) {cls:=.type "list",data:=.seq items cg})/\
   RelV T (W.k0 (W.adr i) {cls:=.type "list",data:=.seq items cg}) (.lst B) (.ref (W.adr i)):=by
 refine pJ (Q.obj i _ d) λ g items cg C I=>?_
 have fr:=Q.free i _ d trivial
 have fr:=g▸fr
 have l:=bg.ys (λ z=>False) W _ {cls:=.type "list",data:=.seq items cg} (.inl fr.1)
 have self:(W.k0 (W.adr i) _).F _=some {cls:=.type "list",data:=.seq items cg}:=aT rfl
 refine cv items cg ⟨⟨λ b x gi=>?_,Q.gq,λ b x gi=>?_,λ b x gi=>l.F _ _ (Q.base b x gi),Q.n,λ y x a=>?_,λ y x a=>?_,λ y x a c=>?_,λ y k x H a f c mk h=>?_,Q.gens,Q.os⟩,l,_,items,cg,rfl,self,I.le l⟩
 ·have gi:(if b=W.adr i then some _ else W.F b)=some x:=gi
  split at gi
  ·rename_i q;obtain rfl:=cm gi;exact rwl q C
  ·exact Q.fy b x gi
 ·show(if b=W.adr i then some _ else W.F b)=none
  rw[a9]
  ·exact Q.apart b x gi
  ·intro q;subst q;have gi:=gi;have gi:=fr.2▸gi;exact a8 gi
 ·rw[U.dH] at a
  split at a
  ·rename_i q;rw[q];exact Q.lt i _ d
  ·exact Q.lt y x a
 ·rw[U.dH] at a
  split at a
  ·rename_i q;obtain rfl:=cm a;rw[q];exact cv items cg ⟨self,I.le l⟩
  ·exact(Q.obj y x a).le l rfl rfl
 ·rw[U.dH] at a
  split at a
  ·obtain rfl:=cm a;exact c.elim
  ·rename_i q
   have:=Q.free y x a c
   refine⟨?_,this.2⟩
   show(if W.fq y=W.adr i then some _ else W.F _)=none
   rw[a9]
   ·exact this.1
   ·rw[<-g];exact Q.inj y i x _ a d c trivial q
 ·rw[U.dH] at a f
  split at a<;>split at f
  ·rename_i q r;exact(h (q.trans r.symm)).elim
  ·obtain rfl:=cm a;exact c.elim
  ·obtain rfl:=cm f;exact mk.elim
  ·exact Q.inj y k x H a f c mk h
noncomputable def bg.new(W:bg)(a m:Addr):bg:={W with adr:=λ i=>if i=W.n then a else W.adr i,fq:=λ i=>if i=W.n then m else W.fq i,n:=W.n+1}
theorem bg.th(fr:Addr->Prop)(W:bg)(a m:Addr):de fr W (W.new a m):=
 ⟨λ z z d=>d,λ z z=>rfl,hq _,λ i h=>a9 (e' h)⟩
theorem Inv.new(Q:Inv T W e j){a m:Addr}{p:dm}(o:mO T (W.new a m) j.heap W.n p)(s:W.F m=none)(t:W.G m=none)(h:∀i x,e.get i=some x->kY x->W.fq i≠m):Inv T (W.new a m) (e.alloc p) j:=by
 have c:=λ y x d=>e' (Q.n▸Q.lt y x d)
 refine⟨Q.fy,Q.gq,Q.apart,Q.base,bB _ Q.n,λ y x b=>?_,λ y x b=>?_,λ y x b g=>?_,λ y k x H b f g mk l=>?_,Q.gens,Q.os⟩
 ·rw[U.fR] at b
  split at b
  ·rename_i q;rw[q];exact eo _
  ·exact j' (Q.lt y x b)
 ·rw[U.fR] at b
  split at b
  ·rename_i q;obtain rfl:=cm b;rw[q,<-Q.n];exact o
  ·exact(Q.obj y x b).le (bg.th (λ z=>False) W a m) (a9 (c y x b)) (a9 (c y x b))
 ·rw[U.fR] at b
  show W.F (if y=W.n then m else W.fq y)=none/\W.G (if y=W.n then m else W.fq y)=none
  split at b
  ·rename_i q;rw[aT (q.trans Q.n.symm)];exact⟨s,t⟩
  ·rw[a9 (c y x b)];exact Q.free y x b g
 ·rw[U.fR] at b f
  show(if y=W.n then m else W.fq y)≠if k=W.n then m else W.fq k
  split at b<;>split at f
  ·rename_i q r;exact(l (q.trans r.symm)).elim
  ·rename_i q r;rw[aT (q.trans Q.n.symm),a9 (c k H f)];exact(h k H f mk).symm
  ·rename_i q r;rw[aT (r.trans Q.n.symm),a9 (c y x b)];exact h y x b g
  ·rw[a9 (c y x b),a9 (c k H f)];exact Q.inj y k x H b f g mk l
theorem Inv.z2(Q:Inv T W e j)(a m:Addr):RelV T (W.new a m) (.ref e.next) (.ref a):=
 ⟨by show e.next<W.n+1;exact rwr Q.n (eo _),by show _=Value.ref (if e.next=W.n then a else W.adr _);rw[aT Q.n.symm]⟩
end
end
section
structure AN(aA:Around)(n:Nat):Prop where
 handled:aA.handled=none
 depth:aA.depth+2*n+2<recursionLimit
 units:aA.units+40*n+120<cLine
structure AI(K:Frag)(T:c5)(P:eW)(c:Nat):Prop where
 makes:makesIn K (T.ca c)=true
 ga:findIn K (.ref (T.ca c)) "__getattribute__"=some (some (.builtin "object.__getattribute__"))
 Xi:findIn K (.ref (T.ca c)) "__getattr__"=some none
 abZ:findIn K (.ref (T.ca c)) "__setattr__"=some (some (.builtin "object.__setattr__"))
 over:plainOver K (T.ca c)=true
 has:∃mr,clsIn K (T.ca c)=some mr/\mr.hasDict=true
 attr:∀x,pl x=true->findIn K (.ref (T.ca c)) x=some none
 init:∀k,P.init c=some k->findIn K (.ref (T.ca c)) "__init__"=some (some (.ref (T.jr k)))/\typeIn K (.ref (T.jr k))=some (.type "function")
 b0:∀m k,P.b0 c m=some k->findIn K (.ref (T.ca c)) m=some (some (.ref (T.jr k)))/\typeIn K (.ref (T.jr k))=some (.type "function")/\pl m=false
structure Fs(T:c5)(o:q3)(a:Addr)(fJ:FuncData):Prop where
 get:∃p,T.h₀.get? a=some p/\p.data=.func fJ
 body:fJ.body=.stmts o.body
 scope:fJ.scope=o.scope
 ok:pA o.scope=true
 nY:fJ.globals=mainGlobals
 oX:fJ.builtins=builtinsNs
 Vs:fJ.closure=[]
 code:T.h₀.CodeRec fJ.code fJ.qualname
 rQ:∀x,o.scope.names.lookup x≠some .free
 params:∀s∈o.params,o.scope.names.lookup s=some .local\/o.scope.names.lookup s=some .cell
 binds:∀(W:bg)(j:Shared)(B:List E)(ai:List Value),(∀b p,T.h₀.get? b=some p->W.F b=some p)->(∀b p,T.h₀.get? b=some p->j.heap.get? b=some p)->bK T W B ai->B.length<=o.params.length->(ow o.params.length B o.defaults).length=o.params.length->
  ∃dd,bK T W (ow o.params.length B o.defaults) dd/\BindsTo j fJ ⟨ai,[]⟩ (o.params.zip dd)
structure St(T:c5)(K:Frag)(P:eW):Prop where
 sys:∃p,T.h₀.get? sysModules=some p
 pd:K.In T.h₀
 nolimit:T.h₀.NoLimit
 glob:∃ip jT,T.h₀.Ns mainGlobals ip/\T.h₀.Ns builtinsNs jT/\∀x v,P.glob x=some v->
  (∃H,ip x=some H/\∀W:bg,(∀a p,T.h₀.get? a=some p->W.F a=some p)->RelV T W v H)\/(ip x=none/\∃H,jT x=some H/\∀W:bg,RelV T W v H)
 cls:∀c,T.cls c->AI K T P c
 YI:∀c k,P.init c=some k->T.cls c
 fn:∀k o,P.fn k=some o->∃fJ,Fs T o (T.jr k) fJ
inductive c3(T:c5)(W:bg)(A:bo)(x:Value)(bu:Shared):Prop
 |of (aO:bg) (v:E) (M:U) (l:gA W aO) (Q:Inv T aO M bu) (r:RelV T aO v x) (q:A v M)
inductive FC(T:c5)(W:bg)(A:List E->U->Prop)(x:List Value)(bu:Shared):Prop
 |of (aO:bg) (v:List E) (M:U) (l:gA W aO) (Q:Inv T aO M bu) (r:bK T aO v x) (q:A v M)
inductive pQ(T:c5)(W:bg)(A:Bool->U->Prop)(b:Bool)(bu:Shared):Prop
 |of (aO:bg) (M:U) (l:gA W aO) (Q:Inv T aO M bu) (q:A b M)
inductive yh(T:c5)(W:bg)(A:U->Prop)(u:Unit)(bu:Shared):Prop
 |of (aO:bg) (M:U) (l:gA W aO) (Q:Inv T aO M bu) (q:A M)
theorem c3.le{T:c5}{W aO:bg}{A:bo}{x:Value}{j:Shared}(l:gA W aO)(h:c3 T aO A x j):c3 T W A x j:=by cases h with|of a v e dV Q r q=>exact⟨a,v,e,l.trans dV,Q,r,q⟩
theorem pQ.le{T:c5}{W aO:bg}{A:Bool->U->Prop}{x:Bool}{j:Shared}(l:gA W aO)(h:pQ T aO A x j):pQ T W A x j:=by cases h with|of a e dV Q q=>exact⟨a,e,l.trans dV,Q,q⟩
section
variable{bh:Model}{aA:Around}{aR:Value->Shared->Prop}{j:Shared}{T:c5}{W:bg}{cc:Type}
theorem fk{m:Sem Value}{A:bo}{R:Value->Shared->Prop}(h:wpAny bh aA m (c3 T W A) aR j)(k:∀aO v M x a,gA W aO->Inv T aO M a->RelV T aO v x->A v M->R x a):wpAny bh aA m R aR j:=
 fN h (λ x a ⟨aO,v,M,l,Q,r,q⟩=>k aO v _ x a l Q r q) λ z z d=>d
theorem xJ{m:Sem (List Value)}{A:List E->U->Prop}{R:List Value->Shared->Prop}(h:wpAny bh aA m (FC T W A) aR j)(k:∀aO v M x a,gA W aO->Inv T aO M a->bK T aO v x->A v M->R x a):wpAny bh aA m R aR j:=
 fN h (λ x a ⟨aO,v,M,l,Q,r,q⟩=>k aO v _ x a l Q r q) λ z z d=>d
theorem r3{m:Sem Bool}{A:Bool->U->Prop}{R:Bool->Shared->Prop}(h:wpAny bh aA m (pQ T W A) aR j)(k:∀aO b M a,gA W aO->Inv T aO M a->A b M->R b a):wpAny bh aA m R aR j:=
 fN h (λ b a ⟨aO,M,l,Q,q⟩=>k aO b _ a l Q q) λ z z d=>d
theorem Al{m:Sem Unit}{A:U->Prop}{R:Unit->Shared->Prop}(h:wpAny bh aA m (yh T W A) aR j)(k:∀aO M a,gA W aO->Inv T aO M a->A M->R () a):wpAny bh aA m R aR j:=
 fN h (λ b a ⟨aO,M,l,Q,q⟩=>k aO _ a l Q q) λ z z d=>d
end
def uf(p:Obj)(m:Str->Option Value):Prop:=∃a cg,p.data=.dict a cg/\StrKeys a/\∀name,nsFind a name=m name
theorem uf.ns{h:Heap}{a:Addr}{p:Obj}{m:Str->Option Value}(x:uf p m)(b:h.get? a=some p):h.Ns a m:=EX x λ c cg r=>(gw p c cg ⟨b,r⟩)
theorem DN{h:Heap}{a:Addr}{m:Str->Option Value}(x:h.Ns a m):∃p,h.get? a=some p/\uf p m:=xV x λ p b cg c r=>⟨p,c,b,cg,r⟩
structure fo(T:c5)(W:bg)(c:fD)(aJ:Env):Prop where
 kind:aJ.scope.kind=.function
 names:∀x k,c.sc.names.lookup x=some k->aJ.kindOf x=some k\/(k=.free/\aJ.kindOf x=some .cell)
 ok:pA c.sc=true
 nY:aJ.globals=mainGlobals
 oX:aJ.builtins=builtinsNs
 loc:∃p m,W.G aJ.locals=some p/\uf p m/\∀x v,c.sc.names.lookup x=some .local->getL c.loc x=some v->∃H,m x=some H/\RelV T W v H
 cell:∀x v,c.sc.names.lookup x=some .cell->getL c.loc x=some v->∃a p H,aJ.cells.lookup x=some a/\W.G a=some p/\p.data=.cell (some H)/\RelV T W v H
 free:∀x v,c.sc.names.lookup x=some .free->getL c.out x=some v->∃a p H,aJ.cells.lookup x=some a/\W.G a=some p/\p.data=.cell (some H)/\RelV T W v H
theorem fo.le{T:c5}{W aO:bg}{c:fD}{aJ:Env}(d:fo T W c aJ)(l:gA W aO):fo T aO c aJ:=by
 refine⟨d.kind,d.names,d.ok,d.nY,d.oX,?_,λ x v C I=>?_,λ x v C I=>?_⟩
 ·exact jd d.loc λ p m C I af=>cv p m ⟨(l.G _ id).trans C,I,λ x v a b=>ba (af x v a b) λ H s q=>⟨H,s,q.le l⟩⟩
 ·exact j5 (d.cell x v C I) λ a p H bG e f g=>⟨a,p,H,bG,(l.G _ id).trans e,f,g.le l⟩
 ·exact j5 (d.free x v C I) λ a p H bG e f g=>⟨a,p,H,bG,(l.G _ id).trans e,f,g.le l⟩
theorem vn{sc:Scope}(h:pA sc=true):sc.kind=.function:=by
 simp only[pA,k2,iy] at h;exact h.1.1.1
theorem vo{sc:Scope}(h:pA sc=true){x:Str}{k:NameKind}(a:sc.names.lookup x=some k):(x==("__debug__":Str))=false/\(x==("__classdict__":Str))=false/\(x==("__class__":Str))=false:=by
 simp only[pA,k2,kz] at h
 have:=h.2 _ (mem_of_lookup a)
 simp only[bne_iff_ne,ne_eq] at this
 exact⟨fF.mpr this.1.1,fF.mpr this.1.2,fF.mpr this.2⟩
section
variable{T:c5}{K:Frag}{P:eW}{aA:Around}{aR:Value->Shared->Prop}{W:bg}{e:U}{j:Shared}{c:fD}{aJ:Env}{A:bo}
theorem Inv.h₀(Q:Inv T W e j):∀b p,T.h₀.get? b=some p->j.heap.get? b=some p:=λ b p d=>Q.fy b p (Q.base b p d)
theorem Inv.pd(S:St T K P)(Q:Inv T W e j):K.In j.heap:=Frag.In.keeps S.pd Q.h₀
theorem Inv.nolimit(S:St T K P)(Q:Inv T W e j):j.heap.NoLimit:=S.nolimit.keeps Q.h₀
theorem c3.mk{aO:bg}{M:U}{a:Shared}{v:E}{x:Value}(l:gA W aO)(Q:Inv T aO M a)(r:RelV T aO v x)(q:A v M):c3 T W A x a:=⟨aO,v,M,l,Q,r,q⟩
theorem c3.now(Q:Inv T W e j){v:E}{x:Value}(r:RelV T W v x)(q:A v e):c3 T W A x j:=⟨W,v,e,de.refl _ _,Q,r,q⟩
theorem Kx{x:Str}{cz:Pos}{v:E}(S:St T K P)(f:oa P c x=some v)(q:A v e)(Q:Inv T W e j)(d:fo T W c aJ):wpAny (model T.prog T.w) aA (eval (.Name x cz) aJ) (c3 T W A) aR j:=by
 have g:=d.kind
 have plain:∀{k:NameKind},c.sc.names.lookup x=some k->k≠.free->aJ.kindOf x=some k:=λ b o=>(d.names x _ b).resolve_right λ D=>o D.1
 refine aab f (λ b f=>?_) (λ b f=>?_) (λ b f=>?_) λ b f=>?_
 ·exact jd d.loc λ p m C I af=>ba (af x v b f) λ H s r=>wpAny_Name (wpAny_loadName_local g (plain b (by decide)) (I.ns (Q.gq _ _ C)) s (.now Q r q)) (vo d.ok b).1
 ·exact j5 (d.cell x v b f) λ a p H bG h i l=>wpAny_Name (wpAny_loadName_cell g (plain b (by decide)) bG ⟨p,Q.gq _ _ h,i⟩ (.now Q l q)) (vo d.ok b).1
 ·refine j5 (d.free x v b f) λ a p H bG h i l=>?_
  rcases d.names x _ b with k|⟨-,k⟩
  ·exact wpAny_Name (wpAny_loadName_free g k bG ⟨p,Q.gq _ _ h,i⟩ (.now Q l q) (vo d.ok b).2.1) (vo d.ok b).1
  ·exact wpAny_Name (wpAny_loadName_cell g k bG ⟨p,Q.gq _ _ h,i⟩ (.now Q l q)) (vo d.ok b).1
 ·refine jd S.glob λ ip jT n t u=>Name_function_global g (plain b (by decide)) ?_ (vo d.ok b).1
  rcases u x v f with⟨H,C,I⟩|⟨y,H,C,I⟩
  ·exact loadGlobal_global (by exact rwl d.nY (n.keeps Q.h₀)) C (.now Q (I W Q.base) q)
  ·exact loadGlobal_builtin (by exact rwl d.nY (n.keeps Q.h₀)) y (by exact rwl d.oX (t.keeps Q.h₀)) C (.now Q (I W) q)
end
end
noncomputable def WS:List Nat:=iT.map (·.2)++kf.map (·.2)++[190,399,421,456,541]
noncomputable def fragOf(g:Addr->Option Obj):Frag:=WS.filterMap λ a=>(g a).map λ p=>(a,p)
noncomputable def EL:Value->Option Addr
 |.ref a=>some a
 |_=>none
noncomputable def Lu:Value->Option Str
 |.str x _=>some x
 |_=>none
noncomputable def yO:Data->Option (Array Value)
 |.seq B _=>some B
 |_=>none
noncomputable def wc:Data->Option (Array DictEntry)
 |.dict B _=>some B
 |_=>none
noncomputable def By:Data->Option (Array Value)
 |.fields B=>some B
 |_=>none
noncomputable def Bz:Data->Option FuncData
 |.func f=>some f
 |_=>none
theorem Ls{v:Value}{a:Addr}(h:EL v=some a):v=.ref a:=by
 rcases v with _|_<;>first|exact a8 h|exact bB _ (c' h)
theorem ae'{v:Value}{a:Str}(h:Lu v=some a):∃t,v=.str a t:=by
 rcases v with _|_<;>first|exact a8 h|(obtain rfl:=cm h;exact⟨_,rfl⟩)
theorem VJ{o:Data}{x:Array Value}(h:yO o=some x):∃n,o=.seq x n:=by
 rcases o with _|_<;>first|exact a8 h|exact⟨_,bB (Data.seq · _) (c' h)⟩
theorem z7{a:Type}{G:Prop}{p:Option Obj}{f:Obj->Array Value->Option a}{r:a}(h:(p.bind λ p=>(yO p.data).bind (f p))=some r)(k:∀c o x n a_,p=some ⟨c,o,.seq x n,a_⟩->f ⟨c,o,.seq x n,a_⟩ x=some r->G):G:=
 ba (gm.mp h) λ⟨c,o,b,a_⟩ C h=>ba (gm.mp h) λ x I=>by
  refine a7 (VJ (o:=b) I) λ n d=>?_;clear I;subst d;exact k _ _ _ _ _ C
theorem VG{o:Data}{x:Array DictEntry}(h:wc o=some x):∃n,o=.dict x n:=by
 rcases o with _|_<;>first|exact a8 h|exact⟨_,bB (Data.dict · _) (c' h)⟩
theorem BD{a:Type}{G:Prop}{p:Option Obj}{f:Obj->Array DictEntry->Option a}{r:a}(h:(p.bind λ p=>(wc p.data).bind (f p))=some r)(k:∀c o x n a_,p=some ⟨c,o,.dict x n,a_⟩->f ⟨c,o,.dict x n,a_⟩ x=some r->G):G:=
 ba (gm.mp h) λ⟨c,o,b,a_⟩ C h=>ba (gm.mp h) λ x I=>by
  refine a7 (VG (o:=b) I) λ n d=>?_;clear I;subst d;exact k _ _ _ _ _ C
theorem VH{o:Data}{x:Array Value}(h:By o=some x):o=.fields x:=by
 rcases o with _|_<;>first|exact a8 h|exact bB Data.fields (c' h)
theorem Wo{a:Type}{G:Prop}{p:Option Obj}{f:Obj->Array Value->Option a}{r:a}(h:(p.bind λ p=>(By p.data).bind (f p))=some r)(k:∀c o x a_,p=some ⟨c,o,.fields x,a_⟩->f ⟨c,o,.fields x,a_⟩ x=some r->G):G:=
 ba (gm.mp h) λ⟨c,o,b,a_⟩ C h=>ba (gm.mp h) λ x I=>by
  obtain rfl:=VH (o:=b) I;exact k _ _ _ _ C
theorem VI{o:Data}{x:FuncData}(h:Bz o=some x):o=.func x:=by
 rcases o with _|_<;>first|exact a8 h|exact bB Data.func (c' h)
theorem WY{a:Type}{G:Prop}{p:Option Obj}{f:Obj->FuncData->Option a}{r:a}(h:(p.bind λ p=>(Bz p.data).bind (f p))=some r)(k:∀c o x a_,p=some ⟨c,o,.func x,a_⟩->f ⟨c,o,.func x,a_⟩ x=some r->G):G:=
 ba (gm.mp h) λ⟨c,o,b,a_⟩ C h=>ba (gm.mp h) λ x I=>by
  obtain rfl:=VI (o:=b) I;exact k _ _ _ _ C
noncomputable def GH(g:Addr->Option Obj)(a:Value)(q:Str):Bool:=((EL a).bind λ c=>(g c).bind λ p=>(By p.data).bind λ B=>(B[1]?).bind Lu)==some q
noncomputable def wR:List Value->List Int
 |[]=>[]
 |.int i _::r=>i::wR r
 |_::_=>[]
noncomputable def zp:Value->Bool
 |.none=>true
 |_=>false
theorem YL{v:Value}(h:zp v=true):v=.none:=by
 rcases v with _|_<;>first|rfl|exact cq h
noncomputable def we(g:Addr->Option Obj)(o:Value):Option (Option (Nat×List Int)):=match zp o with
 |true=>some none
 |false=>(EL o).bind λ t=>(g t).bind λ p=>(yO p.data).bind λ B=>some (some (B.size,wR B.toList))
theorem VM{g:Addr->Option Obj}{o:Value}{n:Nat}{l:List Int}{G:Prop}(h:we g o=some (some (n,l)))(k:∀t c a x d a_,o=.ref t->g t=some ⟨c,a,.seq x d,a_⟩->x.size=n->wR x.toList=l->G):G:=by
 unfold we at h
 rcases q:zp o with _|_
 ·rw[q] at h
  exact ba (gm.mp h) λ t C h=>z7 h λ c a x d a_ I h=>k _ _ _ _ _ _ (Ls C) I (bB Prod.fst (c' (c' h))) (bB Prod.snd (c' (c' h)))
 ·rw[q] at h;exact a8 (c' h)
theorem VL{g:Addr->Option Obj}{o:Value}(h:we g o=some none):o=.none:=by
 unfold we at h
 rcases q:zp o with _|_
 ·rw[q] at h
  exact ba (gm.mp h) λ t C h=>z7 h λ c a x d a_ I h=>a8 (c' h).symm
 ·exact YL q
abbrev AK:=FuncBody×Scope×Addr×Addr×Nat×Arguments×Bool×Option (Option (Nat×List Int))
noncomputable def Hp(g:Addr->Option Obj)(a:Addr):Option AK:=(g a).bind λ p=>(Bz p.data).bind λ b=>some (b.body,b.scope,b.globals,b.builtins,b.closure.length,b.params,GH g b.code b.qualname,we g b.defaults)
noncomputable def B2(k:Nat):Option AK:=match xy k with
 |some (.FunctionDef _ args body _ _ _ sc _ _ _)=>some (.stmts body,sc,mainGlobals,builtinsNs,0,args,true,some (if k=1460 then some (5,[64,50,1000000,100000,10000]) else none))
 |_=>none
noncomputable def WH(K:Frag)(k:Nat):Option Value:=typeIn K (.ref ((iT.lookup k).getD 0))
abbrev AH:=Bool×Option (Option Value)×Option (Option Value)×Option (Option Value)×Bool×Option Bool×List (Option (Option Value))×List (Option (Option Value)×Option Value)
noncomputable def yJ(K:Frag)(a:Addr)(b:List (String×Nat)):AH:=
 (makesIn K a,findIn K (.ref a) "__getattribute__",findIn K (.ref a) "__getattr__",findIn K (.ref a) "__setattr__",plainOver K a,(clsIn K a).map (·.hasDict),BW.map λ x=>findIn K (.ref a) (Str.ofString x),
  b.map λ m=>(findIn K (.ref a) (Str.ofString m.1),WH K m.2))
noncomputable def yI(a:List (String×Nat)):AH:=(true,some (some (.builtin "object.__getattribute__")),some none,some (some (.builtin "object.__setattr__")),true,some true,BW.map λ z=>some none,
 a.map λ m=>(some (some (.ref ((iT.lookup m.2).getD 0))),some (.type "function")))
noncomputable def yK:List (Nat×List (String×Nat)):=[(191,[("__init__",1170)]),(400,[("__init__",1460)]),(422,[("__init__",1490)]),(457,[("__init__",1500),("add",1501),("fresh",1502)]),(542,[("__init__",1640),("peek",1641),("skips",1642)])]
noncomputable def strip:Value->E
 |.str x _=>.str (k6 x)
 |.int i _=>.int i
 |.bool b=>.bool b
 |.ref a=>.ref a
 |_=>.none
abbrev yk:=Value×Bool×Nat×List E
noncomputable def rZ(g:Addr->Option Obj)(a:Addr):Option yk:=(g a).bind λ p=>(yO p.data).bind λ items=>some (p.cls,p.dict.isNone,p.slots.size,items.toList.map strip)
noncomputable def Am:List (Nat×List E):=[(405,[S "sign",S "any",S "set"]),(628,[.int 0,.int (-1)]),(629,[.int 1,.int (-1)]),(630,[.int 0,.int 1]),(695,[S "(?=",.bool false,.bool false]),(696,[S "(?!",.bool false,.bool true]),(697,[S "(?<=",.bool true,.bool false]),(698,[S "(?<!",.bool true,.bool true]),
 (700,[S "(?<",S ">"]),(701,[S "(?P<",S ">"]),(702,[S "(?'",S "'"])]
abbrev Fo:=Value×Bool×Nat×List (Int×E×Value)
noncomputable def BA(g:Addr->Option Obj)(a:Addr):Option Fo:=(g a).bind λ p=>(wc p.data).bind λ b=>some (p.cls,p.dict.isNone,p.slots.size,b.toList.map λ d=>(d.hash,strip d.key,d.val))
noncomputable def xa:List (E×E):=[(S "__name__",S "law_nz0206_01"),(S "__doc__",.none),(S "__package__",.none),(S "__loader__",.none),(S "__spec__",.none),(S "__annotations__",.ref 6),(S "__builtins__",.ref 4),(S "__file__",S "/claim/cut.py"),(S "__cached__",.none),(S "PerlError",.ref 31),(S "BadPattern",.ref 51),(S "TooLong",.ref 70),(S "BLANKS",S " \t\n\x0d\x0c\x0b"),(S "POSIX_RANGES",.ref 73),(S "is_word_sign",.ref 120),(S "in_class",.ref 127),(S "other_case",.ref 134),(S "same_sign",.ref 141),(S "posix_items",.ref 146),(S "item_holds",.ref 153),(S "items_hold",.ref 160),(S "set_holds",.ref 167),(S "sign_fits",.ref 174),(S "MatchRun",.ref 191),(S "set_register",.ref 202),(S "go_on",.ref 209),(S "row_test",.ref 216),(S "run_end",.ref 223),(S "row_run",.ref 230),(S "place_holds",.ref 237),(S "row_at",.ref 244),(S "row_back",.ref 251),(S "row_open",.ref 258),(S "row_close",.ref 265),(S "row_jump",.ref 272),(S "row_split",.ref 279),(S "row_zero",.ref 286),(S "row_loop",.ref 293),(S "row_again",.ref 300),(S "row_mark",.ref 307),(S "row_cut",.ref 312),(S "undo_entry",.ref 319),(S "row_refuse",.ref 326),(S "row_place",.ref 333),(S "row_return",.ref 340),(S "row_behind",.ref 347),(S "row_words",.ref 354),(S "take_more",.ref 361),(S "back_up",.ref 368),(S "match_from",.ref 375),(S "search_pattern",.ref 382),(S "Limits",.ref 400),(S "ONE_SIGN",.ref 405),(S "Program",.ref 422),(S "RowMaker",.ref 457),(S "add_node",.ref 468),(S "add_branches",.ref 475),(S "add_atomic",.ref 482),(S "add_repeats",.ref 489),(S "add_loop",.ref 496),(S "add_look",.ref 503),(S "compile_tree",.ref 510),(S "PLAIN_ESCAPES",.ref 511),(S "OCTAL_FIGURES",S "01234567"),(S "HEX_FIGURES",S "0123456789abcdef"),(S "CLASS_LETTERS",S "dDwWsShHvV"),(S "MOST_CODE",.int 1114111),(S "PatternText",.ref 542),(S "run_of",.ref 553),(S "number_of_run",.ref 560),(S "until_sign",.ref 567),(S "sign_of_code",.ref 574),(S "read_hex_sign",.ref 579),(S "read_plain_escape",.ref 586),(S "read_control",.ref 593),(S "read_posix",.ref 598),(S "read_member",.ref 605),(S "is_one_sign",.ref 612),(S "read_range_end",.ref 619),(S "read_set",.ref 626),(S "FIGURES",S "0123456789"),(S "MOST_COUNT",.int 32766),(S "COUNT_SIGNS",.ref 627),(S "count_groups",.ref 637),(S "behind_set",.ref 644),(S "opens_capture",.ref 651),(S "is_name_text",.ref 656),(S "braces_count",.ref 661),(S "take_count",.ref 668),(S "speak_of",.ref 675),(S "read_named_back",.ref 682),(S "read_numbered_back",.ref 689),(S "width_of",.ref 694),(S "FLAG_LETTERS",S "imsx"),(S "MOST_NESTED",.int 40),(S "LOOKS",.ref 699),(S "NAME_SIGNS",.ref 703),(S "skip_unseen",.ref 710),(S "read_flags",.ref 715),(S "read_inline",.ref 722),(S "read_alternation",.ref 729),(S "read_branch",.ref 736),(S "read_atom",.ref 743),(S "read_counted",.ref 750),(S "read_inner",.ref 757),(S "read_capture",.ref 764),(S "read_look",.ref 771),(S "read_group",.ref 778),(S "read_escape",.ref 785),(S "parse_pattern",.ref 790),(S "compile_pattern",.ref 797),(S "_law_ones",.ref 804),(S "_law_counts",.ref 811),(S "_law_draw",.ref 818),(S "_law_wide",.ref 823),(S "_law_node",.ref 828),(S "_law_row",.ref 833),(S "_law_spelt",.ref 838),(S "_law_once",.ref 843),(S "_law_rounds",.ref 850),(S "_law_same",.ref 857),(S "_law_place",.ref 864),(S "_law_set",.ref 871),(S "_law_look",.ref 876),(S "_law_ways",.ref 881),(S "law",.ref 886)]
noncomputable def nsLook(g:Addr->Option Obj)(a:Addr):Option (List (E×E)):=(g a).bind λ p=>(wc p.data).bind λ b=>some (b.toList.map λ d=>(strip d.key,strip d.val))
noncomputable def Bg(g:Addr->Option Obj)(x:Str):Option Value:=(g builtinsNs).bind λ p=>(wc p.data).bind λ a=>nsFind a x
noncomputable def v7:List (String×Value):=[("len",.builtin "len"),("ord",.builtin "ord"),("chr",.builtin "chr"),("max",.builtin "max"),("min",.builtin "min"),("sum",.builtin "sum"),("range",.type "range"),("str",.type "str"),("list",.type "list")]
abbrev Look:=(List (Option AK)×List AH×List Bool)×(List (Option yk)×Option yk×Option yk×Option Fo)×Option (List (E×E))×List (Option Value)×Bool
noncomputable def w2(g:Addr->Option Obj):Look:=
 let K:=fragOf g
 ((iT.map λ s=>Hp g s.2,yK.map λ s=>yJ K s.1 s.2,iT.map (λ s=>keepIn K (.ref s.2))++kf.map λ s=>keepIn K (.ref s.2)),
  (Am.map λ s=>rZ g s.1,rZ g 699,rZ g 703,BA g 627),
  nsLook g mainGlobals,
  v7.map (λ s=>Bg g (Str.ofString s.1)),(g sysModules).isSome)
noncomputable def zz(w:World):Look:=
 ((iT.map λ s=>B2 s.1,yK.map λ s=>yI s.2,iT.map (λ z=>true)++kf.map λ z=>true),
  (Am.map λ s=>some (.type "tuple",true,0,s.2),some (.type "list",true,0,[.ref 695,.ref 696,.ref 697,.ref 698]),some (.type "list",true,0,[.ref 700,.ref 701,.ref 702]),
   some (.type "dict",true,0,[(hashStr w (strOf [42]),.str [42],.ref 628),(hashStr w (strOf [43]),.str [43],.ref 629),(hashStr w (strOf [63]),.str [63],.ref 630)])),
  some xa,
  v7.map (λ s=>some s.2),true)
noncomputable def Cf(t:BT)(n:Nat)(a:Addr):Option Obj:=match Nat.blt a n with
 |true=>alive ((t.get a).getD default)
 |false=>none
theorem Xr(t:BT)(n:Nat)(l:Life):(absHeap t n l).get?=Cf t n:=by
 funext a
 unfold Heap.get? Cf
 rw[absHeap_at]
 rcases q:Nat.blt a n with _|_
 case true=>
  rw[aT (show a<n from sk q)]
  obtain⟨c,o,b,a_⟩:=(t.get a).getD _
  rcases b with _|_<;>rfl
 case false=>
  rw[a9 (λ D=>by rw[show Nat.blt a n=true from Nat.ble_eq_true_of_le D] at q;injection q)]
end
section
open PySem PySem.W PySem.Calls PyProof.Rows PySem.MeetsSeq
section
section
variable{T:c5}{K:Frag}{P:eW}{aA:Around}{aR:Value->Shared->Prop}{W:bg}{e:U}{j:Shared}{c:fD}{aJ:Env}{A:bo}
theorem z9:sizeLine=16777216:=by rw[sizeLine_eq]
theorem v5{n:Nat}(h:n<=c7):n<=sizeLine:=ah h (ae rfl)
theorem Ey(x H:List Nat):strOf (x++H)=strOf x++strOf H:=by
 show(⟨(x++H).toArray⟩:Str)=⟨x.toArray++H.toArray⟩
 simp
theorem r0(x:List Nat):(strOf x).length=x.length:=by simp [strOf,Str.length]
theorem xA(x:Str):strOf (k6 x)=x:=by simp [strOf,k6]
theorem acX(x H:List Nat):(strOf x==strOf H)=(x==H):=by
 by_cases h:x=H
 ·subst h;simp
 ·have:strOf x≠strOf H:=λ d=>h (by have:=bB (λ D=>D.cps.toList) d;simpa [strOf] using this)
  rw[fF.mpr h,fF.mpr this]
theorem vt{x H:List Nat}(d:strOf x=strOf H):x=H:=by have:=bB (λ D=>D.cps.toList) d;simpa [strOf] using this
theorem Inv.newList(Q:Inv T W e j){B:List E}{items:Array Value}{cg tk:Nat}(r:bK T W B items.toList):
  ∃aO,gA W aO/\Inv T aO (e.alloc (.list B)) {j with heap:=j.heap.push {cls:=.type "list",data:=.seq items cg},toks:=tk}/\RelV T aO (.ref e.next) (.ref j.heap.objs.size):=by
 have bT:=Q.push {cls:=.type "list",data:=.seq items cg} (tk:=tk)
 have l:=bg.th (λ z=>False) W j.heap.objs.size j.heap.objs.size
 refine⟨_,l,bT.new ⟨?_,items,cg,?_,r.le l⟩ Q.tf Q.tg λ i x d m=>e' (Q.vb d m),bT.z2 _ _⟩
 ·show(if W.n=W.n then _ else _)=if W.n=W.n then _ else _
  rw[aT rfl,aT rfl]
 ·show(j.heap.push _).get? (if W.n=W.n then _ else _)=_
  exact rwl (aT rfl) (rf _ rfl)
theorem Inv.w9(Q:Inv T W e j){B:List E}{items:Array Value}{cg tk:Nat}(r:bK T W B items.toList):
  ∃aO,gA W aO/\Inv T aO e {j with heap:=j.heap.push {cls:=.type "tuple",data:=.seq items cg},toks:=tk}/\RelV T aO (.tup B) (.ref j.heap.objs.size):=by
 exact bf (Q.z1 _ rfl) λ bT l=>⟨_,l,bT,_,items,cg,rfl,aT rfl,r.le l⟩
theorem Inv.DE(Q:Inv T W e j){B:List E}{items:Array Value}{cg tk:Nat}(r:bK T W B items.toList):
  ∃aO,gA W aO/\Inv T aO e {j with heap:=j.heap.push {cls:=.type "list",data:=.seq items cg},toks:=tk}/\RelV T aO (.lst B) (.ref j.heap.objs.size):=by
 exact bf (Q.z1 _ rfl) λ bT l=>⟨_,l,bT,_,items,cg,rfl,aT rfl,r.le l⟩
set_option tactic.hygienic true in
theorem lZ(Q:Inv T W e j){v:E}{x:Value}{B:List E}(r:RelV T W v x)(h:listOf e v=some B):∃a items cg,x=.ref a/\IsL j.heap a items cg/\bK T W B items.toList:=by
 rcases v with _|_
 case lst l=>
  obtain rfl:=cm h
  refine fg r λ a items cg b I af=>?_;clear r;subst b
  exact gw a items cg ⟨rfl,Q.fy _ _ I,af⟩
 case ref i=>
  refine bf r λ z c=>?_;clear r;subst c
  refine Zg (show Dr (e.get i)=some B from h) (λ d=>?_) λ d=>?_
  ·refine pJ (Q.obj _ _ d) λ z items cg C I=>?_
   exact gw _ items cg ⟨rfl,C,I⟩
  ·refine fA (Q.obj _ _ d) λ items cg C I=>?_
   exact gw _ items cg ⟨rfl,Q.fy _ _ C,I⟩
 all_goals exact a8 h
theorem acs{x:Int}(h:small x=true):Builtin.Int.intBits x<=64:=by
 have:=gg h
 exact intBits_le_64 (by lia) (by lia)
theorem bK.rep{B:List E}{ai:List Value}(r:bK T W B ai):∀n,bK T W (jZ B n) (jZ ai n)
 |0=>trivial
 |n+1=>r.append (r.rep n)
theorem foldl_rep(items:Array Value):∀(n:Nat)(a:Array Value),(List.foldl (λ hk pI=>hk++pI) a (List.replicate n items)).toList=a.toList++jZ items.toList n
 |0,a=>(gT _).symm
 |n+1,a=>by rw[List.replicate_succ,List.foldl_cons,foldl_rep _ n,D7];simp
theorem D6{cc:Type}:∀n,jZ ([]:List cc) n=[]
 |0=>rfl
 |n+1=>by rw[D7,D6 n];rfl
theorem WJ(items:Array Value)(n:Nat):(List.foldl (λ hk pI=>hk++pI) #[] (List.replicate (if items.isEmpty=true then 0 else n) items)).toList=jZ items.toList n:=by
 rw[foldl_rep]
 split
 ·rename_i h
  have:=by simpa using h
  clear h;subst this
  exact(D6 n).symm
 ·simp
theorem bK.sum{v w:List E}{i y:Array Value}(ab:bK T W v i.toList)(aU:bK T W w y.toList):v.length+w.length=i.size+y.size:=by rw[ab.length,aU.length];rfl
theorem rz{n:Int}(h:dU n=true):-1000000000<=n/\n<=1000000000:=⟨gg (i6 h),gg (ke h)⟩
theorem WA{n:Int}(h:dU n=true):n.natAbs<1073741824:=by have:=rz h;lia
theorem lj{c:Prop}[Decidable c]{x v:E}(h:(if c then some x else none)=some v):c/\x=v:=(qu h).imp id c'
theorem UU{d:Operator}{a b:Int}{t u:Tok}{v:E}(h:mX d (.int a) (.int b)=some v)(q:A v e)(Q:Inv T W e j):wpAny (model T.prog T.w) aA (binaryOp d (.int a t) (.int b u)) (c3 T W A) aR j:=by
 rcases d with _|_
 case Add=>
  obtain rfl:=c' (h)
  exact PyProof.Rows.add_int (.now (v:=.int _) Q.tok ⟨_,rfl⟩ q)
 case Sub=>
  obtain rfl:=c' (h)
  exact PyProof.Rows.sub_int (.now (v:=.int _) Q.tok ⟨_,rfl⟩ q)
 case Mult=>
  refine bf (lj h) λ c g=>?_;subst g
  exact PyProof.Rows.mul_int (.now (v:=.int _) Q.tok ⟨_,rfl⟩ q) (IntMulOk.of_left (acs (i6 c)))
 case Mod=>
  refine bf (DK h) λ f h=>?_
  obtain rfl:=c' h
  exact PyProof.Rows.mod_int f (.now (v:=.int _) Q.tok ⟨_,rfl⟩ q)
 case FloorDiv=>
  refine bf (DK h) λ f h=>bf (lj h) λ c i=>?_;subst i
  exact PyProof.Rows.floordiv_int f (.now (v:=.int _) Q.tok ⟨_,rfl⟩ q) (Or.inl (PyProof.noPylong_small (WA c)))
 case Pow=>
  refine bf (lj h) λ c k=>?_;subst k
  have I:=i6 c
  exact PyProof.Rows.pow_int_small (gg (i6 I)) (Int.le_trans (gg (ke I)) (by decide)) (gg (ke c)) (.now (v:=.int _) Q.tok ⟨_,rfl⟩ q)
 all_goals exact a8 h
theorem UZ{x H:List Nat}{t u:Tok}(a:x.length+H.length<=c7)(q:A (.str (x++H)) e)(Q:Inv T W e j):wpAny (model T.prog T.w) aA (binaryOp .Add (.str (strOf x) t) (.str (strOf H) u)) (c3 T W A) aR j:=PyProof.Rows.add_str (λ b tk=>.now (v:=.str _) Q.tok ⟨b,by rw[Ey]⟩ q) (v5 a)
theorem U1{x H:List E}{a b:Value}(n:x.length+H.length<=c7)(bM:RelV T W (.tup x) a)(d:RelV T W (.tup H) b)(q:A (.tup (x++H)) e)(Q:Inv T W e j):wpAny (model T.prog T.w) aA (binaryOp .Add a b) (c3 T W A) aR j:=by
 refine fg (id bM) λ a f cC o p ab=>?_;subst o
 refine fg (id d) λ b g di s t aU=>?_;subst s
 have C:=Q.fy _ _ p
 have I:=Q.fy _ _ t
 have c:∀{v:List E}{i:Array _},bK T W v _->(i.isEmpty=true↔v=[]):=λ r=>by rw[Array.isEmpty_iff_size_eq_zero,<-jl,<-r.length,vW]
 by_cases h:x=[]
 ·subst h
  exact concat_meets ⟨_,C,rfl⟩ ⟨_,I,rfl⟩ noFill_tuple_add seq_tuple_add PySem.F.slot_tuple_add PySem.F.entry_tuple_add (PySem.F.args_tuple_add_2 _ _)
   (tuple_addW0 a b f g cC di _ _ _ _ ((c ab).mpr rfl)) ⟨C,I,.now Q d q⟩
 ·have k:=λ D=>h ((c ab).mp D)
  by_cases m:H=[]
  ·clear d;subst m
   rw[gT] at q
   exact concat_meets ⟨_,C,rfl⟩ ⟨_,I,rfl⟩ noFill_tuple_add seq_tuple_add PySem.F.slot_tuple_add PySem.F.entry_tuple_add (PySem.F.args_tuple_add_2 _ _)
    (tuple_addW1 a b f g cC di _ _ _ _ k ((c aU).mpr rfl)) ⟨C,I,.now Q bM q⟩
  ·exact fz (Q.w9 (by rw[Array.toList_append];exact ab.append aU)) λ aO l bT r=>PySem.P.add_tuple C I k (λ D=>m ((c aU).mp D)) ⟨aO,_,_,l,bT,r,q⟩ (rwr (ab.sum aU) (v5 n))
theorem UX{x H:List E}{c d:E}{a b:Value}(f:x.length+H.length<=c7)(bM:RelV T W c a)(g:listOf e c=some x)(h:RelV T W d b)(i:listOf e d=some H)(q:A (.ref e.next) (e.alloc (.list (x++H))))(Q:Inv T W e j):
  wpAny (model T.prog T.w) aA (binaryOp .Add a b) (c3 T W A) aR j:=by
 refine fg (lZ Q bM g) λ a n cC k C ab=>?_;subst k
 refine fg (lZ Q h i) λ b o di m I aU=>?_;subst m
 exact fz (Q.newList (by rw[Array.toList_append];exact ab.append aU)) λ aO l bT r=>PySem.P.add_list C I ⟨aO,_,_,l,bT,r,q⟩ (rwr (ab.sum aU) (v5 f))
theorem UW{x:List E}{c:E}{a:Value}{n:Int}{t:Tok}(d:x.length*n.toNat<=c7)(Y:dU n=true)(bM:RelV T W c a)(f:listOf e c=some x)(q:A (.ref e.next) (e.alloc (.list (jZ x n.toNat))))(Q:Inv T W e j):
  wpAny (model T.prog T.w) aA (binaryOp .Mult a (.int n t)) (c3 T W A) aR j:=by
 refine fg (lZ Q bM f) λ a b cC g C ab=>?_;clear bM;subst g
 have aX:=ab.length
 have i:=rz Y
 have D:b.size*n.toNat<=8000000:=by rw[<-jl,<-aX];exact d
 exact fz (Q.newList (by rw[WJ];exact ab.rep _)) λ aO l bT r=>wpAny_binaryOp_repeat_ref rfl ⟨_,C,rfl⟩ (λ h=>typeIs_int h n t) noFill_list_mul PySem.F.fills_int_mul PySem.F.slot_int_rmul repeat_list PySem.F.slot_int_index.lookup
  (call_meets PySem.F.slot_int_rmul (typeIs_int j n t) PySem.F.entry_int_rmul (PySem.F.args_int_rmul_2 _ _) (int___rmul___int_list n t a b cC)
   ⟨C,rfl,⟨_,C,rfl⟩,call_meets PySem.F.slot_list_mul ⟨_,C,rfl⟩ PySem.F.entry_list_mul (PySem.F.args_list_mul_2 _ _)
    (AutoListH.list___mul___list_int_3 a b cC n t (by simp [Builtin.List.listFitsIndex];lia) (by lia) (by simp [Builtin.List.listTooLong,sizeLine];exact J [_] 0x2000000519007a120028c81 L D))
    ⟨C,⟨aO,_,_,l,bT,r,q⟩⟩⟩)
theorem aak:fillsNumberSlot (.type "tuple") "mul"=pure false:=
 PySem.fillsNumberSlot_seq PySem.F.slot_tuple_mul.lookup (by decide+kernel) PySem.F.slot_tuple_rmul.lookup (by decide+kernel)
theorem abG:seqRepeat? (.type "tuple")=pure (some (.builtin "tuple.__mul__")):=by
 unfold seqRepeat?
 rfl
theorem YG(a:Int)(t:Tok)(l:Addr)(items:Array Value)(n:Nat):
  Meets (Builtin.«int.__rmul__» ⟨[.int a t,.ref l],[]⟩) (λ z R j=>j.heap.get? l=some {cls:=.type "tuple",dict:=none,data:=.seq items n,slots:=#[]}/\R (.ok (.ret Value.notImplemented)) j):=
 .of_wp λ prog w aA R j h=>by refine bf h λ b h=>?_;wp_walk;exact⟨_,rfl,h⟩
theorem adK(l:Addr)(items:Array Value)(n:Nat)(x:Int)(u:Tok)(a:¬(decide (x< -(2^63))||decide (x>=2^63))=true)(c:(items.isEmpty||x==1)=true):
  Meets (Builtin.«tuple.__mul__» ⟨[.ref l,.int x u],[]⟩) (λ z R j=>j.heap.get? l=some {cls:=.type "tuple",dict:=none,data:=.seq items n,slots:=#[]}/\R (.ok (.ret (Value.ref l))) j):=
 .of_wp λ prog w aA R j h=>by
  refine bf h λ b h=>nI (h_ a) ?_;wp_walk using wpAny_loadPart' b;exact⟨_,rfl,h⟩
theorem adJ(l:Addr)(items:Array Value)(n:Nat)(x:Int)(u:Tok)(a:¬(decide (x< -(2^63))||decide (x>=2^63))=true)(c:¬(items.isEmpty||x==1)=true)(d:(decide (x<=0)||items.isEmpty)=true):
  Meets (Builtin.«tuple.__mul__» ⟨[.ref l,.int x u],[]⟩) (λ z R j=>j.heap.get? l=some {cls:=.type "tuple",dict:=none,data:=.seq items n,slots:=#[]}/\R (.ok (.ret (.ref j.heap.objs.size))) {j with heap:=j.heap.push {cls:=.type "tuple",data:=.seq #[]}}):=
 .of_wp λ prog w aA R j h=>by
  refine bf h λ b h=>nI (h_ a) ?_;wp_walk using wpAny_loadPart' b;exact⟨_,rfl,h⟩
theorem adI(l:Addr)(items:Array Value)(n:Nat)(x:Int)(u:Tok)(b:¬(decide (x< -(2^63))||decide (x>=2^63))=true)(d:¬(items.isEmpty||x==1)=true)(e:¬(decide (x<=0)||items.isEmpty)=true)
  (c:¬(items.size:Int)*x>(2^63-1)/8) (f:¬Builtin.Tuple.tupleTooMany (items.size*x)=true) (hsz:(List.foldl (λ hk pI=>hk++pI) #[] (List.replicate x.toNat items)).size<=sizeLine):
  Meets (Builtin.«tuple.__mul__» ⟨[.ref l,.int x u],[]⟩) (λ z R j=>j.heap.get? l=some {cls:=.type "tuple",dict:=none,data:=.seq items n,slots:=#[]}/\R (.ok (.ret (.ref j.heap.objs.size))) {j with heap:=j.heap.push {cls:=.type "tuple",data:=.seq (List.foldl (λ hk pI=>hk++pI) #[] (List.replicate x.toNat items))}}):=
 .of_wp λ prog w aA R j h=>by
  refine bf h λ a h=>nI (h_ b) ?_;wp_walk using wpAny_loadPart' a;refine nI (h_ c) ?_;wp_walk using wpAny_loadPart' a;exact⟨_,rfl,h⟩
theorem J'{cc:Type}(ai:List cc):∀n,(jZ ai n).length=ai.length*n
 |0=>rfl
 |n+1=>by rw[D7,bR,J' ai n];exact cB (J [_,_] 4462907392 L) (J [_,_] 4462907392 L)
theorem U0{x:List E}{a:Value}{n:Int}{t:Tok}(h:x.length*n.toNat<=c7)(Y:dU n=true)(bM:RelV T W (.tup x) a)(q:A (.tup (jZ x n.toNat)) e)(Q:Inv T W e j):
  wpAny (model T.prog T.w) aA (binaryOp .Mult a (.int n t)) (c3 T W A) aR j:=by
 refine fg (id bM) λ a b cC k m ab=>?_;subst k
 have C:=Q.fy _ _ m
 have aX:=ab.length
 have o:=rz Y
 have D:b.size*n.toNat<=8000000:=by rw[<-jl,<-aX];exact h
 have g:¬(decide (n< -2^63)||decide (n>=2^63))=true:=by
  lia
 refine wpAny_binaryOp_repeat_ref rfl ⟨_,C,rfl⟩ (λ p=>typeIs_int p n t) aak PySem.F.fills_int_mul PySem.F.slot_int_rmul abG PySem.F.slot_int_index.lookup
  (call_meets PySem.F.slot_int_rmul (typeIs_int j n t) PySem.F.entry_int_rmul (PySem.F.args_int_rmul_2 _ _) (YG n t a b cC)
   ⟨C,rfl,⟨_,C,rfl⟩,?_⟩)
 by_cases f:(b.isEmpty||n==1)=true
 ·refine call_meets PySem.F.slot_tuple_mul ⟨_,C,rfl⟩ PySem.F.entry_tuple_mul (PySem.F.args_tuple_mul_2 _ _) (adK a b cC n t g f) ⟨C,?_⟩
  have d:jZ x n.toNat=x:=by
   rcases Bool.or_eq_true_iff.mp f with c|c
   ·have:=by
     have:b.size=0:=by simpa using c
     exact vW.mp (by rw[aX,jl,this])
    rw[this,D6]
   ·have:=iy.mp c
    clear h Y o;subst this
    show x++[]=x
    rw[gT]
  rw[d] at q
  exact c3.now Q bM q
 ·by_cases en:(decide (n<=0)||b.isEmpty)=true
  ·refine call_meets PySem.F.slot_tuple_mul ⟨_,C,rfl⟩ PySem.F.entry_tuple_mul (PySem.F.args_tuple_mul_2 _ _) (adJ a b cC n t g f en) ⟨C,?_⟩
   have hz:n.toNat=0:=by
    rw[Bool.or_eq_true,not_or] at f
    rcases Bool.or_eq_true_iff.mp en with c|c
    ·lia
    ·exact(f.1 c).elim
   have q:=hz▸q
   exact fz (Q.w9 (B:=jZ x 0) (items:=#[]) trivial) λ aO l bT r=>⟨aO,_,_,l,bT,r,q⟩
  ·have hsz:(List.foldl (λ hk pI=>hk++pI) #[] (List.replicate n.toNat b)).size<=sizeLine:=by
    rw[<-jl,foldl_rep,bR,J'];simp;exact J [_] 0x2000000519007a120028c81 L D
   have i:b.size*n=b.size*n.toNat:=by
    have:n=n.toNat:=by lia
    rw[this];simp
   exact call_meets PySem.F.slot_tuple_mul ⟨_,C,rfl⟩ PySem.F.entry_tuple_mul (PySem.F.args_tuple_mul_2 _ _) (adI a b cC n t g f en (by rw[i];lia) (by unfold Builtin.Tuple.tupleTooMany;rw[i,decide_eq_true_eq];exact λ s=>bC _ (J [_] 0x20880408a000000518027a120028c81 L D (dR.mp s))) hsz) ⟨C,fz (Q.w9 (by rw[foldl_rep];simpa using ab.rep _)) λ aO l bT r=>⟨aO,_,_,l,bT,r,q⟩⟩
theorem Ws:fillsInplaceSlot (.type "list") "add" (Operator.Add==.Add)=pure false:=by
 show(typeLookup _ _>>=λ a=>pure _)=pure _
 show(pure _:Sem _)=pure _
 exact bB _ (by decide+kernel)
theorem ab6:seqSlot? (.type "list") (dunderI "add")=pure (some (.builtin "list.__iadd__")):=PySem.seqSlot_of PySem.F.slot_list_iadd.lookup (by decide+kernel)
theorem ae8{h:Heap}{a:Addr}{items:Array Value}{n:Nat}(b:IsL h a items n)(f:Array Value->Array Value):
 Heap.SameBut a h (h.update a (Obj.mapSeq f))/\∃m,(h.update a (Obj.mapSeq f)).get? a=some {cls:=.type "list",data:=.seq (f items) m}:=⟨Heap.SameBut.update ..,_,b.update f⟩
theorem Inv.xv(Q:Inv T W e j){i:Nat}{B c2:List E}{items:Array Value}{n tk:Nat}(d:e.get i=some (.list B))(b:IsL j.heap (W.adr i) items n)(f:Array Value->Array Value)(r:bK T W c2 (f items).toList):
  Inv T W (e.upd i (.list c2)) {j with heap:=j.heap.update (W.adr i) (Obj.mapSeq f),toks:=tk}:=by
 exact bf (Q.obj i _ d) λ a h=>LH (ae8 b f) λ c m g=>Q.mut d trivial trivial (by rw[a];exact c) ⟨a,f _,m,g,r⟩
theorem Inv.listAt(Q:Inv T W e j){i:Nat}{B:List E}(d:e.get i=some (.list B)):∃items n,IsL j.heap (W.adr i) items n/\bK T W B items.toList:=pJ (Q.obj i _ d) λ a items n C I=>cv items n ⟨C,I⟩
theorem YE{i:Nat}{x H:List E}{c:E}{b:Value}(d:e.get i=some (.list x))(h:x.length+H.length<=c7)(f:RelV T W c b)(k:listOf e c=some H)(q:A (.ref i) (e.upd i (.list (x++H))))(Q:Inv T W e j):
  wpAny (model T.prog T.w) aA (inplaceOp .Add (.ref (W.adr i)) b) (c3 T W A) aR j:=by
 refine fA (Q.listAt d) λ g cC C ab=>fg (lZ Q f k) λ b a di l I aU=>?_;clear f;subst l
 have D:g.size+a.size<=8000000:=by rw[<-jl,<-jl,<-ab.length,<-aU.length];exact h
 refine jm (bZ (wpAny_typeOf ⟨_,C,rfl⟩ (bZ (wpAny_of_eq Ws (bZ (wpAny_binaryOp1_none ⟨_,C,rfl⟩ ⟨_,I,rfl⟩ noFill_list_add (bZ (wpAny_of_eq ab6 (bZ (wpAny_rule (call_meets PySem.F.slot_list_iadd ⟨_,C,rfl⟩ PySem.F.entry_list_iadd (PySem.F.args_list_iadd_2 _ _) (AutoSeq1.list___iadd___list_list_0 _ g cC b a di (by simp [Builtin.List.listTooLong,sizeLine];lia) (J [_,_] 0x800000146401e84800a329001 L D) (J [_,_] 0x114000000a30148001e84800a329001 L D)) ⟨C,I,?_⟩)))))))))))
 exact⟨W,.ref i,_,de.refl _ _,Q.xv d C (λ D=>D++a) (tk:=j.toks) (by rw[Array.toList_append];exact ab.append aU),⟨rwl Q.n (Q.lt i _ d),rfl⟩,q⟩
theorem YD{a b:Int}{t u:Tok}(q:A (.int (a+b)) e)(Q:Inv T W e j):wpAny (model T.prog T.w) aA (inplaceOp .Add (.int a t) (.int b u)) (c3 T W A) aR j:=
 PyProof.Rows.iadd_int (.now (v:=.int _) Q.tok ⟨_,rfl⟩ q)
theorem YF{a b:Int}{t u:Tok}(q:A (.int (a-b)) e)(Q:Inv T W e j):wpAny (model T.prog T.w) aA (inplaceOp .Sub (.int a t) (.int b u)) (c3 T W A) aR j:=
 PyProof.Rows.isub_int (.now (v:=.int _) Q.tok ⟨_,rfl⟩ q)
end
end
end
section
open PySem PySem.W PySem.Calls PyProof.Rows PySem.MeetsSeq PySem.SeqAt
section
section
variable{T:c5}{W:bg}{j:Shared}
theorem bK.size{B:List E}{items:Array Value}(r:bK T W B items.toList):B.length=items.size:=r.length.trans jl
noncomputable def nh(h:Heap):Value->Option (List Value)
 |.ref l=>match h.get? l with
  |some ⟨_,_,.seq items _,_⟩=>some items.toList
  |_=>none
 |_=>none
noncomputable def v3:Value->Value->Bool
 |.bool a,.bool b=>a==b
 |.int a _,.int b _=>a==b
 |.str a _,.str b _=>a==b
 |_,_=>false
noncomputable def jV(h:Heap):Nat->Value->Value->Bool
 |0,H,x=>H==x||v3 H x
 |n+1,H,x=>H==x||match nh h H,nh h x with
  |some a,some b=>a.length==b.length&&(List.range a.length).all λ y=>jV h n (a.getD y .none) (b.getD y .none)
  |_,_=>v3 H x
theorem vp{h:Heap}{l:Addr}{c:Value}{i:Array Value}{n:Nat}(d:h.get? l=some {cls:=c,data:=.seq i n}):nh h (.ref l)=some i.toList:=by
 show(match h.get? l with|some ⟨_,_,.seq items _,_⟩=>some _|_=>none)=_
 rw[d]
set_option tactic.hygienic true in
theorem JA(h:Heap)(n:Nat)(H:Value):jV h n H H=true:=by
 rcases n with _|_
 case zero=>exact(bB (·||_) (eC H)).trans (Bool.true_or _)
 case succ n=>exact(bB (·||_) (eC H)).trans (Bool.true_or _)
theorem Z9{h:Heap}{n:Nat}{H x:Value}{a b:List Value}(c:nh h H=some a)(d:nh h x=some b):jV h (n+1) H x=(H==x||(a.length==b.length&&(List.range a.length).all λ y=>jV h n (a.getD y .none) (b.getD y .none))):=by
 show(H==x||match nh h H,nh h x with|some a,some b=>_|_,_=>v3 H x)=_
 rw[c,d]
theorem JY{s q:Bool}(h:s=true->q=true):(s||q)=q:=by rcases s with _|_;rfl;exact(h rfl).symm
set_option tactic.hygienic true in
theorem te{h:Heap}{n:Nat}{H x:Value}{r:Bool}(d:nh h H=none\/nh h x=none)(k:H=x->r=true)(a:v3 H x=r):r=jV h n H x:=by
 have D:(H==x||v3 H x)=r:=by rw[a];exact JY λ q=>k (eq_of_beq q)
 rcases n with _|_
 case zero=>exact D.symm
 case succ n=>
  refine D.symm.trans (bB _ ?_)
  rcases d with d|d
  ·rw[d]
  ·rw[d];cases nh h H<;>rfl
structure AJ(aA:Around)(j:Shared)(n:Nat)(x H:Value)(r:Bool):Prop where
 rc:RcAt aA j x H r
 eq:EqAt aA j x H r
 ne:RcNeAt aA j x H (!r)
 jV:r=jV j.heap n x H
set_option tactic.hygienic true
theorem Lw{n:Nat}{aA:Around}{a b:E}{x H:Value}{r:Bool}(sub:∀c p,W.F c=some p->j.heap.get? c=some p)(b6:aA.units<cLine)(h:vC a b=some r)(bM:RelV T W a x)(e:RelV T W b H):AJ aA j n x H r:=by
 have N:∀{b:E}{H:Value}{r:Bool},zo b=some r->RelV T W b H->H=.none/\r=false:=λ h r=>by refine bf (YK h) λ g k=>?_;subst g;subst k;exact⟨r,rfl⟩
 rcases a with _|_
 case none=>
  subst bM
  rcases b with _|_
  case none=>obtain rfl:=cm h;subst e;exact⟨RcAt.none_none,EqAt.same _,RcNeAt.none_none,(JA ..).symm⟩
  case tup _=>
   obtain rfl:=cm h;refine fg e λ l i n m f z=>?_;clear e;subst m
   have t:j.heap.IsTuple l i:=⟨_,sub _ _ f,rfl,_,rfl⟩
   exact⟨RcAt.none_tuple t b6,EqAt.none_tuple t b6,RcNeAt.none_tuple t b6,te (.inl rfl) (λ d=>nomatch d) rfl⟩
  case lst _=>
   obtain rfl:=cm h;refine fg e λ l i n o f z=>?_;clear e;subst o
   have t:j.heap.IsList l i:=⟨_,sub _ _ f,rfl,_,rfl⟩
   exact⟨RcAt.none_list t b6,EqAt.none_list t b6,RcNeAt.none_list t b6,te (.inl rfl) (λ d=>nomatch d) rfl⟩
  all_goals exact a8 h
 case bool s=>
  subst bM
  refine ba (gS.mp h) λ q d v=>?_;subst v
  obtain rfl:=TF d
  subst e
  exact⟨RcAt.bool_bool _ _,EqAt.bool_bool _ _,RcNeAt.bool_bool _ _,te (.inl rfl) (λ d=>iy.mpr (Value.bool.inj d)) rfl⟩
 case int s=>
  refine a7 bM λ t w=>?_;clear bM;subst w
  refine ba (gS.mp h) λ q d y=>?_;subst y
  obtain rfl:=yu d
  refine a7 e λ u A=>?_;clear e;subst A
  exact⟨RcAt.int_int _ _ _ _,EqAt.int_int _ _ _ _,RcNeAt.int_int _ _ _ _,te (.inl rfl) (λ d=>iy.mpr (Value.int.inj d).1) rfl⟩
 case str s=>
  refine a7 bM λ t B=>?_;clear bM;subst B
  refine ba (gS.mp h) λ q d C=>?_;subst C
  obtain rfl:=yw d
  refine a7 e λ u D=>?_;clear e;subst D
  rw[<-acX]
  exact⟨RcAt.str_str _ _ _ _,EqAt.str_str _ _ _ _,RcNeAt.str_str _ _ _ _,te (.inl rfl) (λ d=>iy.mpr (Value.str.inj d).1) rfl⟩
 case tup s=>
  refine bf (N h e) λ G I=>?_;subst G;subst I
  refine fg bM λ l i n J f z=>?_;clear bM;subst J
  have t:j.heap.IsTuple l i:=⟨_,sub _ _ f,rfl,_,rfl⟩
  exact⟨RcAt.tuple_none t b6,EqAt.tuple_none t b6,RcNeAt.tuple_none t b6,te (.inr rfl) (λ d=>nomatch d) rfl⟩
 case lst s=>
  refine bf (N h e) λ K L=>?_;subst K;subst L
  refine fg bM λ l i n M f z=>?_;clear bM;subst M
  have t:j.heap.IsList l i:=⟨_,sub _ _ f,rfl,_,rfl⟩
  exact⟨RcAt.list_none t b6,EqAt.list_none t b6,RcNeAt.list_none t b6,te (.inr rfl) (λ d=>nomatch d) rfl⟩
 all_goals exact a8 h
theorem afe{f:E->E->Option Bool}{g:Value->Value->Bool}{aA:Around}(e:∀{a b:E}{s q:Value}{d:Bool},f a b=some d->RelV T W a s->RelV T W b q->EqAt aA j s q d/\d=g s q){B:List E}:
  ∀{aV:List E}{ai dd:List Value}{r:Bool},B.length=aV.length->j4 f B aV=some r->bK T W B ai->bK T W aV dd->
   (∀y,y<ai.length->EqAt aA j (ai.getD y .none) (dd.getD y .none) (g (ai.getD y .none) (dd.getD y .none)))/\r=(List.range ai.length).all λ y=>g (ai.getD y .none) (dd.getD y .none):=by
 induction B with
 |nil=>
  intro aV ai dd r _ h ab _
  rcases ai with _|_
  case nil=>obtain rfl:=cm h;exact⟨λ y dE=>((bC y) dE).elim,rfl⟩
  case cons _ _=>exact ab.elim
 |cons v B i=>
  intro aV ai dd r c h ab aU
  rcases ai with _|_
  case nil=>exact ab.elim
  case cons x ai=>
   rcases aV with _|_
   case nil=>exact((Nat.succ_ne_zero _) c).elim
   case cons w aV=>
    rcases dd with _|_
    case nil=>exact aU.elim
    case cons H dd=>
     refine afd h λ s q k l d=>?_
     refine bf (e k ab.1 aU.1) λ m n=>?_;subst n
     refine bf (i (Nat.succ.inj c) l ab.2 aU.2) λ o p=>⟨λ y dE=>?_,?_⟩
     ·rcases y with _|_
      case zero=>exact m
      case succ y=>exact o y (sm dE)
     ·rw[<-d,fW,List.range_succ_eq_map,List.all_cons,List.all_map,p];rfl
set_option tactic.hygienic false
theorem HG{i:Array Value}{y:Nat}(h:y<i.size):i.toList.getD y .none=i[y]:=by
 rw[List.getD_eq_getElem?_getD,Array.getElem?_toList,Array.getElem?_eq_getElem h];rfl
theorem Dz{h:Heap}{n:Nat}{l dV:Addr}{a b:List Value}{r:Bool}(c:nh h (.ref l)=some a)(e:nh h (.ref dV)=some b)(d:r=(a.length==b.length&&(List.range a.length).all λ y=>jV h n (a.getD y .none) (b.getD y .none))):r=jV h (n+1) (.ref l) (.ref dV)/\(l=dV->r=true):=by
 have k:l=dV->r=true:=λ q=>by
  subst q
  obtain rfl:=cm (c.symm.trans e)
  rw[d,eC,Bool.true_and,kz]
  exact λ y z=>JA ..
 refine⟨?_,k⟩
 rw[Z9 c e]
 exact(JY λ q=>d▸k (Value.ref.inj (eq_of_beq q))).symm▸d
theorem Dy{aA:Around}{n:Nat}{l dV:Addr}{r:Bool}(rc:RcAt aA j (.ref l) (.ref dV) r)(ne:RcNeAt aA j (.ref l) (.ref dV) (!r))(m:r=jV j.heap n (.ref l) (.ref dV)/\(l=dV->r=true)):AJ aA j n (.ref l) (.ref dV) r:=by
 refine⟨rc,?_,ne,m.1⟩
 by_cases q:l=dV
 ·rw[m.2 q,q];exact EqAt.same _
 ·exact EqAt.of_refs q rc
theorem EM(sub:∀c p,W.F c=some p->j.heap.get? c=some p)(n:Nat):∀{aA:Around}{a b:E}{x H:Value}{r:Bool},aA.units+n<cLine->gk n a b=some r->RelV T W a x->RelV T W b H->AJ aA j n x H r:=by
 induction n with
 |zero=>exact λ b6 h bM o=>Lw sub b6 h bM o
 |succ n N=>
  intro aA a b x H r b6 h bM o
  have s:=so (dD ..) b6
  have items:∀{v w:List E}{i y:Array _},v.length=w.length->j4 (gk n) v w=some r->bK T W v i.toList->bK T W w y.toList->
    i.size=y.size/\(∀k (C:k<i.size)(I:k<y.size),EqAt aA.in1 j i[k] y[k] (jV j.heap n (i.toList.getD k .none) (y.toList.getD k .none)))/\r=(List.range i.size).all λ k=>jV j.heap n (i.toList.getD k .none) (y.toList.getD k .none):=by
   intro v w i y m h ab aU
   exact bf (afe (λ C I af=>(λ D=>⟨D.eq,D.jV⟩) (N (by rw[Around.in1_units,vX];exact b6) C I af)) m h ab aU) λ t q=>⟨ab.size.symm.trans (m.trans aU.size),λ k C I=>by have:=t k C;rwa [HG C,HG I] at this⊢,q⟩
  have len:∀{i y:Array Value}{g:Nat->Bool},i.size=y.size->r=(List.range _).all g->r=(i.toList.length==y.toList.length&&(List.range i.toList.length).all g):=λ d k=>by rw[jl,jl,d,eC,<-d];exact k
  refine afa h (λ v w B G m J=>?_) (λ v w B G m J=>?_) (λ v w B G m J=>?_) λ h=>Lw sub s h bM o
  ·obtain rfl:=yx B;obtain rfl:=yx G
   refine fg bM λ l u cC O e ab=>?_;subst O
   refine fg o λ dV A di P f aU=>?_;clear o;subst P
   have e:=sub _ _ e
   have f:=sub _ _ f
   refine e_ (items (iy.mp m) J ab aU) λ D t q=>?_
   have hj:j.heap.IsTuple l u:=⟨_,e,rfl,_,rfl⟩
   have jc:j.heap.IsTuple dV A:=⟨_,f,rfl,_,rfl⟩
   have d:((List.range (min u.size A.size)).all (λ k=>jV j.heap n (u.toList.getD k .none) (A.toList.getD k .none))&&u.size==A.size)=r:=by rw[<-D,Nat.min_self,eC,Bool.and_true];exact q.symm
   exact Dy (d▸RcAt.tuples hj jc s t) (d▸RcNeAt.tuples hj jc s t) (Dz (vp e) (vp f) (len D q))
  ·obtain rfl:=yv B;obtain rfl:=yv G
   refine fg bM λ l u cC K e ab=>?_;clear bM;subst K
   refine fg o λ dV A di L f aU=>?_;clear o;subst L
   have e:=sub _ _ e
   have f:=sub _ _ f
   exact e_ (items (iy.mp m) J ab aU) λ D t q=>Dy (q▸RcAt.lists ⟨_,e,rfl,_,rfl⟩ ⟨_,f,rfl,_,rfl⟩ D s t) (q▸RcNeAt.lists ⟨_,e,rfl,_,rfl⟩ ⟨_,f,rfl,_,rfl⟩ D s t) (Dz (vp e) (vp f) (len D q))
  ·obtain rfl:=yv B;obtain rfl:=yv G
   refine fg bM λ l u cC K e ab=>?_;clear bM;subst K
   refine fg o λ dV A di L f aU=>?_;clear o;subst L J
   have e:=sub _ _ e
   have f:=sub _ _ f
   rw[ab.size,aU.size] at m
   have M:=bB (!·) m
   exact Dy (RcAt.lists_lengths ⟨_,e,rfl,_,rfl⟩ ⟨_,f,rfl,_,rfl⟩ M s) (RcNeAt.lists_lengths ⟨_,e,rfl,_,rfl⟩ ⟨_,f,rfl,_,rfl⟩ M s) (Dz (vp e) (vp f) (by rw[jl,jl,m];rfl))
end
end
section
section
variable{T:c5}{K:Frag}{P:eW}{aA:Around}{aR:Value->Shared->Prop}{W:bg}{e:U}{j:Shared}{n:Nat}
noncomputable def bg.now(W:bg)(h:Heap):bg:={W with F:=λ a=>h.get? a}
theorem Inv.DL(Q:Inv T W e j):gA W (W.now j.heap):=⟨Q.fy,λ z z=>rfl,bx _,λ z z=>rfl⟩
theorem Inv.gE(Q:Inv T W e j){v:E}{x:Value}(r:RelV T W v x):RelV T (W.now j.heap) (gE e v) x:=by
 refine VK (F:=λ v=>RelV T (W.now j.heap) v x) (r.le Q.DL) λ i B D d=>?_
 subst D
 refine bf (id r) λ z a=>?_;subst a
 rcases d with d|d
 ·exact pJ (Q.obj _ _ d) λ z items cg C I=>⟨_,items,cg,rfl,C,I.le Q.DL⟩
 ·exact fA (Q.obj _ _ d) λ items cg C I=>⟨_,items,cg,rfl,Q.fy _ _ C,I.le Q.DL⟩
set_option tactic.hygienic true in
theorem ro(Q:Inv T W e j)(f:∃p,T.h₀.get? sysModules=some p){v:E}{x:Value}{az:List (List Nat)}{B:List E}(r:RelV T W v x)(h:ig e v=some (az,B)):
  ∃a b,x=.ref a/\(a==sysModules)=false/\j.heap.DictOf T.knd a b/\b.map (·.1)=az.map strOf/\bK T W B (b.map (·.2)):=by
 rcases v with _|_
 case dct eG c2=>
  have d:=Prod.mk.inj (c' h)
  obtain⟨rfl,rfl⟩:=d
  refine r8 r λ a p b g k C I af c=>?_;clear r;subst g
  exact cv a b ⟨rfl,k,nJ.mpr ⟨p,Q.fy _ _ C,I⟩,af,c⟩
 case ref i=>
  refine bf r λ z l=>?_;clear r;subst l
  have d:=VP (show GW (e.get i)=some (az,B) from h)
  refine Az (Q.obj _ _ d) λ m p b C I af c=>?_
  refine cv _ b ⟨rfl,?_,nJ.mpr ⟨p,C,I⟩,af,c⟩
  refine a7 f λ os n=>?_;clear f
  have:=(Q.free _ _ d trivial).1
  rw[m] at this
  rw[fF]
  intro q
  rw[q,Q.base _ _ n] at this
  injection this
 all_goals exact a8 h
theorem Lv(k:Str)(H:Value)(r:List (Str×Value))(x:Str):valueAt ((k,H)::r) x=if k=x then some H else valueAt r x:=by
 unfold valueAt
 by_cases h:k=x
 ·simp [h]
 ·simp [h]
set_option tactic.hygienic true in
theorem BH(x:List Nat){az:List (List Nat)}:∀{B:List E}{a:List (Str×Value)},a.map (·.1)=az.map strOf->bK T W B (a.map (·.2))->
  match hW az B x with|some v=>∃H,valueAt a (strOf x)=some H/\RelV T W v H|none=>valueAt a (strOf x)=none:=by
 induction az with
 |nil=>
  intro B a b _
  obtain rfl:=List.map_eq_nil_iff.mp b
  rfl
 |cons k az c=>
  intro B a b h
  rcases a with _|_
  case nil=>injection b
  case cons d a=>
   rcases B with _|_
   case nil=>exact h.elim
   case cons v B=>
    have b:=e0 b
    have c:=c b.2 h.2
    rw[V1,Lv _ _,show d.1=strOf k from b.1]
    by_cases q:x=k
    ·rw[q,eC,aT rfl]
     exact⟨d.2,rfl,h.1⟩
    ·rw[fF.mpr q,a9 λ D=>q (vt D).symm]
     exact c
theorem sL:∀{az:List (List Nat)}{a:List (Str×Value)},a.map (·.1)=az.map strOf->a.length=az.length:=λ h=>by
 have:=bB List.length h
 simpa using this
set_option tactic.hygienic true
theorem VR{f:Around}(Q:Inv T W e j)(b6:f.units+10<cLine){ls:List (List Nat)}{aV:List E}{c1:List (Str×Value)}(g:c1.map (·.1)=ls.map strOf)(i:bK T W aV (c1.map (·.2))){az:List (List Nat)}:
  ∀{B:List E}{a:List (Str×Value)}{r:Bool},a.map (·.1)=az.map strOf->bK T W B (a.map (·.2))->mZ e ls aV az B=some r->KeqHits f j c1 a r:=by
 induction az with
 |nil=>
  intro B a r b _ h
  obtain rfl:=List.map_eq_nil_iff.mp b
  obtain rfl:=cm h
  exact .nil
 |cons k az l=>
  intro B a r b c h
  rcases a with _|_
  case nil=>injection b
  case cons m a=>
   rcases B with _|_
   case nil=>exact c.elim
   case cons v B=>
    have b:=e0 b
    have c_:=BH k g i
    obtain⟨n,H⟩:=m
    obtain rfl:n=strOf k:=b.1
    refine VQ h (λ q d=>?_) λ t u w q o p d=>?_
    ·subst d
     rw[q] at c_
     exact .miss c_
    ·subst d
     rw[q] at c_
     exact ba c_ λ D hz s=>.hit hz (EM (λ z z d=>d) 10 b6 o (Q.gE c.1) (Q.gE s)).eq (l b.2 c.2 p)
theorem KV(x:List Nat):∀t,iu x t=true↔∃i,i+x.length<=t.length/\((t.drop i).take x.length==x)=true
 |[]=>by
  show x.isEmpty=true↔_
  rcases x with _|_
  case nil=>simp
  case cons a r=>simp
 |a::t=>by
  rw[ac5,Bool.or_eq_true,KV x t,List.isPrefixOf_iff_prefix]
  constructor
  ·rintro(h|⟨i,C,I⟩)
   ·refine a7 h λ r V=>⟨0,?_,?_⟩
    ·rw[<-V];simp
    ·rw[<-V];simp
   ·exact⟨i+1,J [_,_,_] 0x88c0284440000629001 L C,by simpa using I⟩
  ·intro b;refine ba b λ i C I=>?_
   rcases i with _|_
   case zero=>
    left
    rw[mT,iy] at I
    rw[<-I];exact List.take_prefix ..
   case succ i=>right;exact⟨i,J [_,_,_] 0x31480004460142220001 L C,by simpa using I⟩
set_option tactic.hygienic false
theorem JO(x t:List Nat):(!(Builtin.Str.occurrences (strOf t) (strOf x) 0 (strOf t).length 1).isEmpty)=iu x t:=by
 rw[Bool.eq_iff_iff,StrLaws.found_iff,KV]
 simp only[StrLaws.subAt_eq,r0]
 simp [strOf]
set_option tactic.hygienic true in
theorem Tx{e:Around}{a:E}{x:Value}(sub:∀c p,W.F c=some p->j.heap.get? c=some p)(b6:e.units+10<cLine)(bM:RelV T W a x){B:List E}:
  ∀{ai:List Value}{r:Bool},bK T W B ai->jK a B=some r->(∀H∈ai,EqAt e j H x (jV j.heap 10 H x))/\ai.any (λ H=>jV j.heap 10 H x)=r:=by
 induction B with
 |nil=>
  intro ai r C h
  rcases ai with _|_
  case nil=>exact⟨λ H b_=>absurd b_ gh,c' h⟩
  case cons _ _=>exact C.elim
 |cons b B f=>
  intro ai r C h
  rcases ai with _|_
  case nil=>exact C.elim
  case cons H ai=>
   refine Tw h λ s q g i d=>?_
   ·have k:=EM sub 10 b6 g C.1 bM
    refine bf (f C.2 i) λ l m=>⟨λ D hz=>?_,?_⟩
    ·rcases ew.mp hz with rfl|hz
     ·exact rwr k.jV k.eq
     ·exact l D hz
    ·rw[List.any_cons,m,<-k.jV];exact d
end
end
section
section
variable{T:c5}{K:Frag}{P:eW}{aA:Around}{aR:Value->Shared->Prop}{W:bg}{e:U}{j:Shared}{n:Nat}
theorem Ll(b6:aA.units+40<cLine):aA.in1.units+10<cLine:=so (e7 (ae rfl:1+10<=40) _) b6
theorem G6(S:St T K P)(Q:Inv T W e j)(b6:aA.units+40<cLine){a b:E}{x H:Value}{r:Bool}(h:jP e a b=some r)(bM:RelV T W a x)(n:RelV T W b H):
  (∀{A:Value->Shared->Prop},A (.bool r) j->wpAny (model T.prog T.w) aA (compareOp .Eq x H) A aR j)/\∀{A:Value->Shared->Prop},A (.bool (!r)) j->wpAny (model T.prog T.w) aA (compareOp .NotEq x H) A aR j:=by
 have Lb:aA.units+10<cLine:=so (e7 (by decide) _) b6
 have l:=so (dD ..) b6
 refine Wb h (λ az B ls aV C I f h=>?_) (λ az B ls aV C I f h=>?_) λ h=>?_
 ·refine tP (ro Q S.sys bM C) λ eL c a3 h3 g m p=>?_;subst a3
  refine tP (ro Q S.sys n I) λ ed c1 bL d' i gi s=>?_;subst bL
  have o:(c.length==c1.length)=(az.length==ls.length):=by rw[sL m,sL gi]
  have k:=λ(_:c.length=c1.length)=>VR Q (Ll b6) gi s m p h
  have d:(c.length==c1.length&&r)=r:=by rw[o,f,Bool.true_and]
  exact⟨λ q=>keq_eq h3 d' g i l k (rwl d q),λ q=>keq_ne h3 d' g i l k (rwl d q)⟩
 ·refine tP (ro Q S.sys bM C) λ eL c a3 h3 g m p=>?_;subst a3
  refine tP (ro Q S.sys n I) λ ed c1 bL d' i gi s=>?_;subst bL
  have o:(c.length==c1.length)=(az.length==ls.length):=by rw[sL m,sL gi]
  subst h
  have f:=o.trans f
  have k:c.length=c1.length->KeqHits aA.in1 j c1 c true:=λ d=>cq (f.symm.trans (iy.mpr d))
  have d:(c.length==c1.length&&true)=false:=by rw[f,Bool.false_and]
  exact⟨λ q=>keq_eq h3 d' g i l k (rwl d q),λ q=>keq_ne h3 d' g i l k (rwl d q)⟩
 ·have k:=EM (λ z z d=>d) 10 Lb h (Q.gE bM) (Q.gE n)
  exact⟨λ q=>EqBoolInt.of_rc k.rc q,λ q=>k.ne _ _ _ _ q⟩
set_option tactic.hygienic true in
theorem Jc(k:List Nat){az:List (List Nat)}:∀{b:List (Str×Value)},b.map (·.1)=az.map strOf->(valueAt b (strOf k)).isSome=az.contains k:=by
 induction az with
 |nil=>intro b a;obtain rfl:=List.map_eq_nil_iff.mp a;rfl
 |cons D az c=>
  intro b a
  rcases b with _|_
  case nil=>injection a
  case cons s b=>
   have a:=e0 a
   rw[Lv _ _,List.contains_cons,show s.1=strOf D from a.1]
   by_cases hz:k=D
   ·rw[hz,aT rfl,eC];rfl
   ·rw[a9 λ d=>hz (vt d).symm,fF.mpr hz];exact c a.2
def AL(T:c5)(aA:Around)(aR:Value->Shared->Prop)(j:Shared)(x H:Value)(r:Bool):Prop:=
 ∀A:Value->Shared->Prop,((∀tk,A (.bool r) {j with toks:=tk})->wpAny (model T.prog T.w) aA (compareOp .In x H) A aR j)/\((∀tk,A (.bool (!r)) {j with toks:=tk})->wpAny (model T.prog T.w) aA (compareOp .NotIn x H) A aR j)
theorem in_dict{a:E}{x:Value}{r:Bool}{az:List (List Nat)}{l:Addr}{b:List (Str×Value)}(bM:RelV T W a x)(h:(ia a).bind (λ k=>some (az.contains k))=some r)(Y:(l==sysModules)=false)(c:j.heap.DictOf T.knd l b)(d:b.map (·.1)=az.map strOf):AL T aA aR j x (.ref l) r:=by
 refine ba (oU h) λ k f V=>?_;clear h;subst f
 obtain rfl:=c' V
 refine a7 bM λ t g=>?_;clear bM;subst g
 have e:=eC (strOf k)
 exact λ A=>⟨λ q=>wpAny_in_of e Y c.mapOf (Jc k d▸q _),λ q=>wpAny_notIn_of e Y c.mapOf (Jc k d▸q _)⟩
set_option tactic.hygienic true in
theorem IL(S:St T K P)(Q:Inv T W e j)(b6:aA.units+40<cLine){a b:E}{x H:Value}{r:Bool}(h:C8 e a b=some r)(bM:RelV T W a x)(c:RelV T W b H):AL T aA aR j x H r:=by
 have any:∀{B:List E}{items:Array _},jK a B=some r->bK T W B _->(∀H∈items,EqAt _ j H x _)/\items.any _=r:=λ h ab=>
  (Tx Q.fy (Ll b6) bM ab h).imp (λ k H b_=>k H (Array.mem_toList_iff.mpr b_)) λ k=>by rw[<-Array.any_toList];exact k
 have lists:∀{B:List E}{l:Addr}{items:Array _}{cg:Nat},jK a B=some r->IsL j.heap l items cg->bK T W B items.toList->AL T aA aR j x (.ref l) r:=by
  intro B l items cg h o ab A
  have fa:j.heap.IsList l _:=⟨_,o,rfl,_,rfl⟩
  exact bf (any h ab) λ g V=>⟨λ q=>in_listAt _ fa g (rwl V (q _)),λ q=>notIn_listAt _ fa g (rwl V (q _))⟩
 rcases b with _|_
 case str t=>
  refine ba (oU h) λ k s V=>?_;subst s
  obtain rfl:=c' V
  refine a7 bM λ L u=>?_;subst u
  refine a7 c λ M v=>?_;clear c;subst v
  exact λ A=>⟨λ q=>PySem.P.in_str (JO k t▸q _),λ q=>PySem.P.notIn_str (JO k t▸q _)⟩
 case tup B=>
  refine fg c λ l items cg w f ab=>?_;subst w
  have fa:j.heap.IsTuple l _:=⟨_,Q.fy _ _ f,rfl,_,rfl⟩
  exact bf (any h ab) λ g V=>λ A=>⟨λ q=>in_tupleAt _ fa g (rwl V (q _)),λ q=>notIn_tupleAt _ fa g (rwl V (q _))⟩
 case lst B=>
  refine fg c λ l items cg y f ab=>?_;subst y
  exact lists h (Q.fy _ _ f) ab
 case dct az B=>
  refine tP (ro Q S.sys c rfl) λ l D F Y m n z=>?_;subst F
  exact in_dict bM h Y m n
 case ref i=>
  have h:(match e.get i with|some p=>C7 a p|none=>none)=some r:=h
  rcases d:e.get i with _|_
  case none=>rw[d] at h;exact a8 h
  case some p=>
   rw[d] at h
   rcases p with _|_
   case list B=>
    refine bf c λ z G=>?_;clear c;subst G
    exact pJ (Q.obj _ _ d) λ z items cg=>lists h
   case flist B=>
    refine bf c λ z I=>?_;clear c;subst I
    exact fA (Q.obj _ _ d) λ items cg C=>lists h (Q.fy _ _ C)
   case dict az B=>
    refine tP (ro Q S.sys c (az:=az) (B:=B) (by unfold ig;simp only[d])) λ l D J Y m n z=>?_;subst J
    exact in_dict bM h Y m n
   case inst _ _ _=>exact a8 h
 all_goals exact a8 h
theorem YM{a:E}(d:isNone a=true):a=.none:=by rcases a with _|_<;>first|rfl|exact cq d
set_option tactic.hygienic true in
theorem abD{a:E}(bM:RelV T W a .none):a=.none:=by
 rcases a with _|_
 case none=>rfl
 case bool b=>injection bM
 case fn k=>injection bM
 case cls k=>injection bM
 case bi k=>exact(Value.noConfusion bM.1)
 case typ k=>cases bM
 case rng i y k=>exact AA bM λ z z z z d z=>nomatch d
 case tup i=>exact xV bM λ z z z d z=>nomatch d
 case lst i=>exact xV bM λ z z z d z=>nomatch d
 case dct i y=>exact xV bM λ z z z d z=>nomatch d
 case int i=>exact(Value.noConfusion bM.choose_spec)
 case str i=>exact(Value.noConfusion bM.choose_spec)
 case ref i=>exact(Value.noConfusion bM.2)
theorem IZ{a b:E}{x H:Value}{r:Bool}(h:Dc a b=some r)(bM:RelV T W a x)(e:RelV T W b H){A:Value->Shared->Prop}:
  (A (.bool r) j->wpAny (model T.prog T.w) aA (compareOp .Is x H) A aR j)/\(A (.bool (!r)) j->wpAny (model T.prog T.w) aA (compareOp .IsNot x H) A aR j):=by
 rcases b with _|_
 case none=>
  obtain rfl:=c' h
  subst e
  rcases d:isNone a with _|_
  case true=>obtain rfl:=YM d;subst bM;exact⟨wpAny_is_self rfl,wpAny_isNot_self rfl⟩
  case false=>
   have c:x≠.none:=λ D=>by subst D;have d:=abD bM▸d;injection d
   exact⟨is_none_ne c,isnot_none_ne c⟩
 all_goals exact a8 h
theorem DD{f:Option Bool}{r:Bool}(h:f.map (!·)=some r):f=some (!r):=by refine ba (gS.mp h) λ q k a=>?_;clear h;subst a;rw[k,Bool.not_not]
set_option tactic.hygienic true in
theorem Br(S:St T K P)(Q:Inv T W e j)(b6:aA.units+40<cLine){d:CmpOp}{a b:E}{x H:Value}{r:Bool}{A:Value->Shared->Prop}(h:lO e d a b=some r)(bM:RelV T W a x)(c:RelV T W b H)(q:∀tk,A (.bool r) {j with toks:=tk}):
  wpAny (model T.prog T.w) aA (compareOp d x H) A aR j:=by
 have g:∀{f:Int->Int->Option _},(fO a).bind (λ x=>(fO b).bind (f x))=some r->∃i t y u,x=.int i t/\H=.int y u/\f i y=some r:=λ k=>by
  refine ba (jo k) λ i n k=>ba (jo k) λ y o k=>?_
  subst n o
  refine a7 bM λ t p=>?_;clear bM;subst p
  refine a7 c λ u s=>?_;clear c;subst s
  exact h2 i t y u ⟨rfl,rfl,k⟩
 have l:∀{f:Int->Option _},(fO b).bind f=some r->∃y u,H=.int y u/\f y=some r:=λ k=>by
  refine ba (jo k) λ y v k=>?_;subst v
  refine a7 c λ u B=>?_;subst B
  exact cv y u ⟨rfl,k⟩
 have m:∀{f:List _->Option _},(ia b).bind f=some r->∃y u,H=.str (strOf y) u/\f y=some r:=λ k=>by
  refine ba (oU k) λ y C k=>?_;subst C
  refine a7 c λ u D=>?_;clear c;subst D
  exact cv y u ⟨rfl,k⟩
 rcases d with _|_
 case Eq=>exact(G6 S Q b6 h bM c).1 (q _)
 case NotEq=>exact(G6 S Q b6 (DD h) bM c).2 (rwl (Bool.not_not r) (q _))
 case In=>exact(IL S Q b6 h bM c A).1 q
 case NotIn=>exact(IL S Q b6 (DD h) bM c A).2 (rwl (Bool.not_not r) q)
 case Is=>exact(IZ h bM c).1 (q _)
 case IsNot=>exact(IZ (DD h) bM c).2 (rwl (Bool.not_not r) (q _))
 case Lt=>
  rcases a with _|_
  case int i=>refine fA (l h) λ y u F h=>?_;subst F;refine a7 bM λ t G=>?_;clear bM;subst G;obtain rfl:=c' h;exact PyProof.Rows.lt_int (q _)
  case str i=>refine fA (m h) λ y u I h=>?_;subst I;refine a7 bM λ t J=>?_;clear bM;subst J;obtain rfl:=c' h;exact PySem.P.lt_str (q _)
  all_goals exact a8 h
 case LtE=>
  rcases a with _|_
  case int i=>refine fA (l h) λ y u L h=>?_;subst L;refine a7 bM λ t M=>?_;clear bM;subst M;obtain rfl:=c' h;exact PyProof.Rows.le_int (q _)
  case str i=>refine fA (m h) λ y u N h=>?_;subst N;refine a7 bM λ t O=>?_;clear bM;subst O;obtain rfl:=c' h;exact PySem.P.le_str (q _)
  all_goals exact a8 h
 case Gt=>refine r9 (g h) λ i t y u R U h=>?_;subst R;subst U;obtain rfl:=c' h;exact PyProof.Rows.gt_int (q _)
 case GtE=>refine r9 (g h) λ i t y u V X h=>?_;subst V;clear c l m g;subst X;obtain rfl:=c' h;exact PyProof.Rows.ge_int (q _)
end
end
section
section
variable{T:c5}{K:Frag}{P:eW}{aA:Around}{aR:Value->Shared->Prop}{W:bg}{e:U}{j:Shared}{A:bo}
set_option tactic.hygienic true
theorem ae4(Q:Inv T W e j){c:UnaryOp}{a:E}{x:Value}(bM:RelV T W a x)(h:Lm c a A e):wpAny (model T.prog T.w) aA (unaryOp c x) (c3 T W A) aR j:=by
 rcases c with _|_
 case Not=>
  rcases a with _|_
  case bool b=>
   subst bM
   exact not_of (wpAny_truthy_bool (c3.now (v:=.bool _) Q rfl h))
  all_goals exact h.elim
 case USub=>
  rcases a with _|_
  case int i=>
   refine a7 bM λ t d=>?_;clear bM;subst d
   exact neg_int (c3.now (v:=.int _) Q.tok ⟨_,rfl⟩ h)
  all_goals exact h.elim
 all_goals exact h.elim
theorem U2(Q:Inv T W e j){l:Operator}{a b v:E}{x H:Value}(bM:RelV T W a x)(g:RelV T W b H)(d:mX l a b=some v)(h:A v e):wpAny (model T.prog T.w) aA (binaryOp l x H) (c3 T W A) aR j:=by
 have m:∀{c o:Int},a=.int c->b=.int o->wpAny (model T.prog T.w) aA (binaryOp l x H) (c3 T W A) aR j:=λ n f=>by
  subst n f
  refine a7 bM λ t p=>?_;clear bM;subst p;refine a7 g λ u q=>?_;subst q
  exact UU d h Q
 have r:(fO a).bind (λ c=>(fO b).bind (IS l c))=some v->wpAny _ aA _ _ aR j:=λ k=>by
  exact ba (jo k) λ c n k=>ba (jo k) λ o f z=>m n f
 rcases l with _|_
 case Add=>
  rcases a with _|_
  case int c=>exact ba (jo d) λ o f z=>m rfl f
  case str c=>
   refine ba (oU d) λ o s d=>?_;subst s
   refine bf (lj d) λ i y=>?_;subst y
   refine a7 bM λ t B=>?_;clear bM;subst B;refine a7 g λ u C=>?_;clear g;subst C
   exact UZ i h Q
  case tup c=>
   refine ba (TG d) λ o D d=>?_;subst D
   refine bf (lj d) λ i F=>?_;subst F
   exact U1 i bM g h Q
  all_goals exact a8 d
 case Mult=>
  rcases a with _|_
  case int c=>exact ba (jo d) λ o f z=>m rfl f
  case tup c=>
   refine ba (jo d) λ o G d=>?_;subst G
   refine bf (lj d) λ i I=>?_;subst I
   refine a7 g λ u J=>?_;clear g;clear m;subst J
   exact U0 (gg (i6 i)) (ke i) bM h Q
  all_goals exact a8 d
 all_goals exact r d
set_option tactic.hygienic false
theorem UY(Q:Inv T W e j){i:Operator}{a b:E}{x H:Value}(bM:RelV T W a x)(c:RelV T W b H)(h:bw i a b A e):wpAny (model T.prog T.w) aA (binaryOp i x H) (c3 T W A) aR j:=by
 refine UT h (λ v d h=>U2 Q bM c d h) (λ z z d f g h q=>?_) λ z z d f g C k q=>?_
 ·exact rwl d (UX h bM f c g q Q)
 ·obtain rfl:=yu g
  refine a7 c λ u l=>?_;clear c;subst l
  exact rwl d (UW C k bM f q Q)
set_option tactic.hygienic true in
theorem C_(Q:Inv T W e j){c:Operator}{a b:E}{x H:Value}(bM:RelV T W a x)(f:RelV T W b H)(h:eR c a b A e):wpAny (model T.prog T.w) aA (inplaceOp c x H) (c3 T W A) aR j:=by
 rcases a with _|_
 case ref i=>
  refine bf bM λ z g=>?_;clear bM;subst g
  rcases c with _|_
  case Add=>
   have h:match e.get i with|some p=>C9 i p b A e|none=>False:=h
   rcases d:e.get i with _|_
   case none=>rw[d] at h;exact h.elim
   case some p=>
    rw[d] at h
    rcases p with _|_
    case list x=>
     have h:match listOf e b with|some H=>x.length+H.length<=c7/\A _ _|none=>False:=h
     split at h
     ·rename_i k
      exact YE d h.1 f k h.2 Q
     ·exact h.elim
    all_goals exact h.elim
  all_goals exact h.elim
 case int x=>
  refine a7 bM λ t l=>?_;clear bM;subst l
  rcases b with _|_
  case int H=>
   refine a7 f λ u m=>?_;subst m
   rcases c with _|_
   case Add=>exact YD h Q
   case Sub=>exact YF h Q
   all_goals exact h.elim
  all_goals exact h.elim
 all_goals exact h.elim
theorem IF{k:Int}{n:Nat}(a:0<=k)(h:k.toNat<n):seqIndex? k n=some k.toNat:=by
 unfold seqIndex?
 exact rwl (a9 (jG.mpr a)) (aT (sl.mpr ⟨fi a,fi (Int.lt_of_not_ge λ D=>lK.mpr ((Int.le_toNat a).mpr D) h)⟩))
theorem yW{k:Int}(h:dU k=true):-(2^63)<=k/\k<2^63:=⟨Int.le_trans (by decide) (rz h).1,Int.lt_of_le_of_lt (rz h).2 (by decide)⟩
theorem getI_str{x:List Nat}{k:Int}{t u:Tok}{c:Nat}{R:Value->Shared->Prop}(b:0<=k)(d:dU k=true)(a:x[k.toNat]?=some c)(q:∀t tk,R (.str (strOf [c]) t) {j with toks:=tk}):
  wpAny (model T.prog T.w) aA (getItem (.str (strOf x) t) (.int k u)) R aR j:=by
 refine PySem.P.getItem_str (by simp;exact yW d) ?_ (q _ _)
 rw[r0,IF b (iz.mp a).1]
 simpa [strOf] using a
theorem Xm{l:Addr}{items:Array Value}{n:Nat}{k:Int}{u:Tok}{x:Value}{R:Value->Shared->Prop}(a:IsL j.heap l items n)(b:0<=k)(c:dU k=true)(d:items.toList[k.toNat]?=some x)(q:R x j):
  wpAny (model T.prog T.w) aA (getItem (.ref l) (.int k u)) R aR j:=
 wpAny_getItem_list ⟨_,a,rfl,_,rfl⟩ b (yW c).2 (Array.getElem?_toList.symm.trans d) q
theorem Xn{l:Addr}{items:Array Value}{n:Nat}{k:Int}{u:Tok}{x:Value}{R:Value->Shared->Prop}(c:j.heap.get? l=some {cls:=.type "tuple",data:=.seq items n})(d:0<=k)(a:dU k=true)(b:items.toList[k.toNat]?=some x)(q:R x j):
  wpAny (model T.prog T.w) aA (getItem (.ref l) (.int k u)) R aR j:=
 PyProof.Rows.getItem_tuple ⟨_,c,rfl,_,rfl⟩ (yW a).1 (yW a).2 (IF d (iz.mp b).1) (Array.getElem?_toList.symm.trans b) q
def t'(T:c5)(aA:Around)(aR:Value->Shared->Prop)(p i:Value)(R:Value->Shared->Prop)(j:Shared):Prop:=
 ∃a id,j.TypeIs p a/\typeLookup (.type a) "__getitem__"=pure (some (.builtin id))/\wpAny (model T.prog T.w) aA (getItem p i) R aR j
theorem A4{cc:Type}{l:List cc}{i:E}{r:cc}(h:sD l i=some r):∃k,i=.int k/\0<=k/\dU k=true/\l[k.toNat]?=some r:=ba (jo h) λ k d h=>bf (qu h) λ c h=>⟨k,d,gg (i6 c),ke c,h⟩
set_option tactic.hygienic true in
theorem I1(S:St T K P)(Q:Inv T W e j){p i v:E}{x H:Value}(h:n_ e p i=some v)(b:RelV T W p x)(c:RelV T W i H)(q:A v e):t' T aA aR x H (c3 T W A) j:=by
 have lists:∀{B:List E}{l:Addr}{items:Array _}{n:Nat},sD B i=some v->IsL j.heap l items n->bK T W B items.toList->t' T aA aR (.ref l) H (c3 T W A) j:=by
  intro B l items n h G r
  obtain⟨k,rfl,g,en,h⟩:=A4 h
  obtain⟨u,rfl⟩:=c
  refine ba (r.get h) λ D hz m=>?_
  exact cv ("list") _ ⟨⟨_,G,rfl⟩,slot_list_getitem.lookup,Xm G g en hz (.now Q m q)⟩
 have I:∀{az:List _}{B:List E},ig e p=some (az,B)->(ia i).bind (hW az B)=some v->t' T aA aR x H (c3 T W A) j:=by
  intro az B L h
  refine ba (oU h) λ k M N=>?_;subst M
  refine a7 c λ u O=>?_;clear c;subst O
  refine tP (ro Q S.sys b L) λ a b2 R Y J U V=>?_;subst R
  have c_:=BH k U V
  rw[N] at c_
  exact ba c_ λ D hz m=>cv ("dict") _ ⟨J.typeIs,slot_dict_getitem.lookup,wpAny_getItem_of (eC _) J.mapOf hz (.now Q.tok m q)⟩
 rcases p with _|_
 case str w=>
  refine ba (gS.mp h) λ cU o X=>?_;subst X
  obtain⟨k,rfl,g,en,o⟩:=A4 o
  obtain⟨t,rfl⟩:=b;obtain⟨u,rfl⟩:=c
  exact cv ("str") _ ⟨typeIs_str _ _ _,PySem.F.slot_str_getitem.lookup,getI_str g en o λ t tk=>.now (v:=.str _) Q.tok ⟨_,rfl⟩ q⟩
 case tup B=>
  obtain⟨k,rfl,g,en,h⟩:=A4 h
  refine fg b λ l items n Z f r=>?_;subst Z
  obtain⟨u,rfl⟩:=c
  refine ba (r.get h) λ D hz m=>?_
  exact cv ("tuple") _ ⟨⟨_,Q.fy _ _ f,rfl⟩,slot_tuple_getitem.lookup,Xn (Q.fy _ _ f) g en hz (.now Q m q)⟩
 case lst B=>
  refine fg b λ l items n tX f r=>?_;clear b;subst tX
  exact lists h (Q.fy _ _ f) r
 case dct az B=>exact I rfl h
 case ref y=>
  have h:(match e.get y with|some s=>u2 s i|none=>none)=some v:=h
  rcases d:e.get y with _|_
  case none=>rw[d] at h;exact a8 h
  case some s=>
   rw[d] at h
   rcases s with _|_
   case list B=>
    refine bf b λ z tY=>?_;clear b;subst tY
    exact fA (Q.listAt d) λ items n=>lists h
   case flist B=>
    refine bf b λ z E7=>?_;clear b;subst E7
    exact fA (Q.obj _ _ d) λ items n C=>lists h (Q.fy _ _ C)
   case dict az B=>exact I (by unfold ig;simp only[d]) h
   case inst _ _ _=>exact a8 h
 all_goals exact a8 h
end
end
section
noncomputable def kI(n:Nat):Option Nat->Nat
 |none=>n
 |some h=>min h n
theorem IK(k n:Nat):min (k:Int) (n:Int)=((min k n:Nat):Int):=by
 by_cases h:k<=n
 ·rw[Nat.min_eq_left h,Int.min_eq_left (hU.mpr h)]
 ·rw[Nat.min_eq_right (Nat.le_of_not_le h),Int.min_eq_right (hU.mpr (Nat.le_of_not_le h))]
theorem imax(k n:Nat):max (0:Int) (min (k:Int) (n:Int))=((min k n:Nat):Int):=by
 rw[IK];exact Int.max_eq_right (i5 _)
set_option tactic.hygienic true in
theorem uz{cc:Type}(ai:List cc)(l:Nat)(u:Option Nat):cut ai l u=(ai.drop (min l ai.length)).take (kI ai.length u-min l ai.length):=by
 apply List.ext_getElem?
 intro i
 rcases u with _|_
 case none=>
  simp only[cut,kI,sq,List.getElem?_take]
  by_cases h:l<=ai.length
  ·rw[Nat.min_eq_left h]
   split
   ·rfl
   ·rw[oR (by lia)]
  ·rw[Nat.min_eq_right (by exact J [_,_] 5635165982721 L (pX h))]
   rw[oR (by exact J [_,_,_] 6931458909343745 L (pX h))]
   split
   ·lia
   ·rfl
 case some h=>
  simp only[cut,kI,sq,List.getElem?_take]
  by_cases c:l+i<ai.length
  ·rw[Nat.min_eq_left (show l<=ai.length by exact J [_,_,_] 6896344234065921 L c)]
   by_cases o:l+i<h
   ·rw[aT o,aT (by lia)]
   ·rw[a9 o,a9 (by lia)]
  ·rw[oR (cI c),ite_self,oR (by exact(Nat.le_total _ _).elim (λ a=>J [_,_,_,_] 0x6380803942628081 L (cI c) (Nat.le_min.2 ⟨bx _,a⟩)) λ a=>J [_,_,_] 211531338881 L (Nat.le_min.2 ⟨a,bx _⟩)),ite_self]
theorem GR{cc:Type}(ai:List cc)(l:Nat)(u:Option Nat):(cut ai l u).length<=ai.length:=by
 rw[uz,nK,jn];exact J [_,_,_] 6734715327617 L (Nat.min_le_right _ _) (hr _ _)
section
variable{T:c5}{K:Frag}{P:eW}{aA:Around}{aR:Value->Shared->Prop}{W:bg}{e:U}{j:Shared}{A:bo}
set_option tactic.hygienic true in
theorem bK.cut{B:List E}{ai:List Value}(r:bK T W B ai)(l:Nat)(u:Option Nat):bK T W (cut B l u) (cut ai l u):=by
 rcases u with _|_
 case none=>exact r.drop l
 case some h=>exact(r.take h).drop l
def yi(l:Option E)(x:Value):Prop:=match l with
 |none=>x=.none
 |some v=>∃k t,v=.int k/\x=.int k t
set_option tactic.hygienic true
theorem Gn{l:Option E}{x:Value}{p:Option Nat}(h:jL l=some p)(r:yi l x):∃t,x=partValue (p.map λ k=>((k:Int),t))/\IsPart x (p.map λ k=>(k:Int))/\∀k,p=some k->dU (k:Int)=true:=by
 rcases l with _|_
 case none=>
  obtain rfl:=cm h
  subst r
  exact⟨0,rfl,.none,λ k=>a8⟩
 case some v=>
  refine fA r λ k t a b=>?_;clear r;subst a;subst b
  simp only[jL] at h
  split at h
  ·rename_i c
   simp only[k2,decide_eq_true_eq] at c
   obtain rfl:=cm h
   have d:=Int.toNat_of_nonneg c.1
   refine⟨t,?_,?_,λ y dE=>?_⟩
   ·show _=Value.int _ t
    rw[d]
   ·show IsPart _ (some _)
    rw[d];exact .int k t
   ·obtain rfl:=cm dE;rw[d];exact c.2
  ·exact a8 h
theorem GB(n:Nat)(p:Option Nat)(o:Nat):(p.map λ k=>(k:Int)).elim o (clipAt n)=p.elim o λ k=>min k n:=by
 rcases p with _|_
 case none=>rfl
 case some k=>exact clipAt_nat n k
set_option tactic.hygienic false
theorem aaZ(items:Array Value)(lo a:Option Nat):slicePick items (lo.map λ k=>(k:Int)) (a.map λ k=>(k:Int)) none=(cut items.toList (lo.getD 0) a).toArray:=by
 rw[slicePick_plain,GB,GB,uz]
 rw[(by rcases lo with _|_<;>simp:(lo.elim 0 λ k=>min k items.size)=min (lo.getD 0) items.toList.length),(by rcases a with _|_<;>simp [kI]:(a.elim items.size λ k=>min k items.size)=kI items.toList.length a)]
theorem acV(lo a:Option Nat)(n:Nat):Builtin.Str.strSliceIndices (lo.map λ k=>(k:Int)) (a.map λ k=>(k:Int)) 1 n=(List.range (kI n a-min (lo.getD 0) n)).map (min (lo.getD 0) n+·):=by
 have C:∀k:Nat,¬(k:Int)<0:=λ k=>λ b=>bC _ (J [_] 0x8220004111001 L (dR.mp b))
 have:Builtin.Str.strSliceIndices (lo.map λ k=>k) (a.map λ k=>k) 1 n=sliceRange (min (lo.getD 0) n:Nat) (kI n a) 1:=by
  unfold Builtin.Str.strSliceIndices
  rcases lo with _|_<;>rcases a with _|_<;>simp [kI,C,λ k=>imax k n]
 rw[this,sliceRange_one]
theorem acr(x:List Nat)(lo a:Option Nat)(t:Tok)(iM b:Tok):(if(((none:Option (Int×Tok)).map (·.1)).getD 1==1&&(slicePicked (strOf x) (lo.map λ k=>((k:Int),iM)) (a.map λ k=>((k:Int),b)) none).length==(strOf x).length)=true then strOf x else
   (⟨((slicePicked (strOf x) (lo.map λ k=>((k:Int),iM)) (a.map λ k=>((k:Int),b)) none).filterMap ((strOf x).cps[·]?)).toArray⟩:Str))=strOf (cut x (lo.getD 0) a):=by
 have d:slicePicked (strOf x) (lo.map λ k=>(k,iM)) (a.map λ k=>(k,b)) none=(List.range (kI x.length a-min (lo.getD 0) x.length)).map (min (lo.getD 0) x.length+·):=by
  unfold slicePicked
  rw[Option.map_map,Option.map_map]
  exact acV lo a _
 rw[d,pick_run]
 have e:(strOf x).cps.toList=x:=by simp [strOf]
 rw[e,<-uz]
 split
 ·rename_i c
  simp only[Option.map_none,Option.getD_none,eC,Bool.true_and,iy,cM,List.length_range,r0] at c
  have f:min (lo.getD 0) x.length=0\/x.length=0:=by
   have:kI x.length a<=x.length:=by rcases a with _|_<;>simp [kI];exact Nat.min_le_right _ _
   lia
  have:cut x (lo.getD 0) a=x:=by
   rw[uz,c]
   rcases f with h|h
   ·rw[h,mT,nL]
   ·have:=vW.mp h
    clear d e c h;subst this;simp
  rw[this]
 ·rfl
noncomputable def tB(a b:Value):Obj:={cls:=.type "slice",data:=.fields #[a,b,.none]}
theorem acq{x:List Nat}{t:Tok}{lo a:Option Nat}{b c:Value}{R:Value->Shared->Prop}{iM d:Tok}(hz:x.length<=c7)(e:b=partValue (lo.map λ k=>((k:Int),iM)))(f:c=partValue (a.map λ k=>((k:Int),d)))
  (q:∀t tk,R (.str (strOf (cut x (lo.getD 0) a)) t) {j with heap:=j.heap.push (tB b c),toks:=tk}):
  wpAny (model T.prog T.w) aA (getItem (.str (strOf x) t) (.ref j.heap.objs.size)) R aR {j with heap:=j.heap.push (tB b c)}:=by
 subst e f
 refine wpAny_getItem_str_slice (st:=none) ⟨_,rf _ rfl,rfl,rfl⟩ rfl (post_val_or_str ?_)
 rw[acr (t:=t)]
 refine⟨?_,λ g k=>q _ _⟩
 have:=GR x (lo.getD 0) a
 exact J [_,_] 0x100000028ca021427a120028c81 L hz this
set_option tactic.hygienic true in
theorem Ky{v:Value}{k:Option Int}(a:IsPart v k){R:Option Int->Shared->Prop}(h:R k j):wpAny (model T.prog T.w) aA (Builtin.Slice.slicePartIndex v) R aR j:=by
 rcases a with _|_
 case none=>exact slicePart_none h
 case int i t=>exact slicePart_int h
theorem Tf(lo a:Option Nat)(n:Nat):Builtin.Slice.sliceAdjust (lo.map λ k=>(k:Int)) (a.map λ k=>(k:Int)) 1 (n:Int)=(((min (lo.getD 0) n:Nat):Int),((kI n a:Nat):Int)):=by
 have C:∀k:Nat,¬(k:Int)<0:=λ k=>λ b=>bC _ (J [_] 0x8220004111001 L (dR.mp b))
 unfold Builtin.Slice.sliceAdjust
 rcases lo with _|_<;>rcases a with _|_<;>simp [kI,C,λ k=>IK k n]
theorem aa6(a b:Nat):Builtin.Slice.slicePlaces (a:Int) (b:Int) 1=b-a:=by
 unfold Builtin.Slice.slicePlaces
 have C:(1:Int)>0:=dR.mpr (J [] 36542875648 L)
 simp only[C,if_true,Int.ediv_one]
 split<;>lia
theorem aa0(ai:Array Value)(a k:Nat):((List.range k).filterMap λ(y:Nat)=>ai[((a:Int)+(y:Int)*1).toNat]?)=(ai.toList.drop a).take k:=by
 rw[<-pick_run,List.filterMap_map]
 congr 1
 funext y
 have:(a+(y:Int)*1).toNat=a+y:=by lia
 rw[this];rfl
theorem ack{a_:Addr}{lo a:Option Nat}{b c:Value}{n:Nat}{R:Int×Int×Nat->Shared->Prop}(f:j.heap.IsSliceOf a_ b c .none)(bU:IsPart b (lo.map λ k=>(k:Int)))(g:IsPart c (a.map λ k=>(k:Int)))
  (h:R (((min (lo.getD 0) n:Nat):Int),1,kI n a-min (lo.getD 0) n) j):wpAny (model T.prog T.w) aA (Builtin.Slice.sliceApplied (.ref a_) (pure (n:Int))) R aR j:=by
 refine fz (id f) λ os d i e=>bZ (bZ (wpAny_field d e (x:=b) rfl (bZ (wpAny_field d e (x:=c) rfl (bZ (wpAny_field d e (x:=.none) rfl (dN (bZ (slicePart_none (bZ (Ky bU (bZ (Ky g (bZ (dN ?_)))))))))))))))
 show wpAny _ _ (match Builtin.Slice.sliceAdjust _ _ 1 _ with|(lo,a)=>pure (lo,(1:Int),Builtin.Slice.slicePlaces lo a 1)) _ _ j
 rw[Tf]
 show wpAny _ _ (pure _) _ _ j
 rw[aa6]
 exact dN h
theorem Xo{t a_:Addr}{items:Array Value}{lo a:Option Nat}{b d:Value}{R:Value->Shared->Prop}(cZ:IsTup j.heap t items)(e:j.heap.IsSliceOf a_ b d .none)(bU:IsPart b (lo.map λ k=>(k:Int)))(f:IsPart d (a.map λ k=>(k:Int)))
  (hsz:items.size<=sizeLine) (C:cut items.toList (lo.getD 0) a=items.toList->R (.ref t) j)
  (h:R (.ref j.heap.objs.size) {j with heap:=j.heap.push {cls:=.type "tuple",data:=.seq (cut items.toList (lo.getD 0) a).toArray}}):wpAny (model T.prog T.w) aA (getItem (.ref t) (.ref a_)) R aR j:=by
 have g:=by
  have:=GR items.toList (lo.getD 0) a
  exact ah this hsz
 refine fz (id e) λ os i l n=>?_
 unfold getItem
 try with_reducible refine jm ?_
 refine bZ (wpAny_sequenceKey cZ.typeIs rfl (bZ (wpAny_callSpecial?_slot cZ.typeIs slot_tuple_getitem
  (wpAny_call_entry slot_tuple_getitem cZ.typeIs entry_tuple_getitem ?_ (args_tuple_getitem _ _)))))
 show wpAny _ _ (Builtin.Tuple.tupleItemsOf _>>=_) _ _ j
 refine bZ (tupleItemsOf_ cZ (bZ (wpAny_typeOf ⟨os,i,l⟩ (bZ (ack e bU f ?_)))))
 have cg:((List.range (kI items.size a-min (lo.getD 0) items.size)).filterMap λ(k:Nat)=>items[(min (lo.getD 0) items.size+(k:Int)*1).toNat]?).toArray=(cut items.toList (lo.getD 0) a).toArray:=by
  rw[aa0,uz,jl]
 by_cases c:(((min (lo.getD 0) items.size:Nat):Int)==0&&(1:Int)==1&&kI items.size a-min (lo.getD 0) items.size==items.size)=true
 ·show wpAny _ _ (if _ then _ else _) _ _ j
  rw[aT c]
  simp only[k2,iy] at c
  refine bZ (bZ (wpAny_typeOf cZ.typeIs (dN ?_)))
  have m:cut items.toList (lo.getD 0) a=items.toList:=by
   rw[uz,jl]
   rcases Nat.eq_zero_or_pos items.size with D|D
   ·have:=vW.mp (by rw[jl,D])
    rw[this];simp
   ·rw[c.2,show min _ _=0 by exact cB (aL (k3.mp c.1.1)) (aL (k3.mp c.1.1).symm),mT,<-jl,nL]
  have fin:=C m
  first
   |exact bZ _
   |exact bZ (wpAny_rule (dN ⟨_,rfl,dN fin⟩))
   |trace_state
 ·show wpAny _ _ (if _ then _ else _) _ _ j
  rw[a9 c,cg]
  first
   |exact bZ _
   |exact bZ (wpAny_newObj_type (bZ (dN (dN ⟨_,rfl,dN h⟩))) g)
   |exact bZ _
   |exact bZ _
end
end
section
section
variable{T:c5}{K:Frag}{P:eW}{aA:Around}{aR:Value->Shared->Prop}{W:bg}{e:U}{j:Shared}{A:bo}
theorem Inv.TK(Q:Inv T W e j){p:Obj}:Inv T W e {j with heap:=j.heap.push p}:=Q.push p
set_option tactic.hygienic true in
theorem acp(Q:Inv T W e j){p v:E}{l u:Option E}{x b c:Value}(h:pB e p l u=some v)(g:RelV T W p x)(cQ:yi l b)(G:yi u c)(q:A v e):
  t' T aA aR x (.ref j.heap.objs.size) (c3 T W A) {j with heap:=j.heap.push (tB b c)}:=by
 have bT:Inv T W e {j with heap:=j.heap.push (tB b c)}:=Q.TK
 have r:(j.heap.push (tB b c)).IsSliceOf _ b c _:=Heap.IsSliceOf.new ..
 unfold pB at h
 split at h
 ·rename_i lo k H I
  refine fz (Gn H cQ) λ iM K bU R=>fz (Gn I G) λ S M s U=>?_;have lists:∀{B:List E},listOf e p=some B->(if B.length<=c7 then some (E.lst (cut B (lo.getD 0) k)) else none)=some v->t' T aA aR x (.ref j.heap.objs.size) (c3 T W A) {j with heap:=j.heap.push (tB b c)}:=by
   intro B m h
   split at h
   ·rename_i hz
    obtain rfl:=cm h
    refine fg (lZ Q g m) λ a items cg N C ab=>?_;subst N
    have y:(j.heap.push (tB b c)).get? a=_:=Heap.get?_push_of_some _ C
    have D:items.size<=sizeLine:=by have:=ab.size;exact J [_,_] 0x100000028ca021427a120028c81 L hz (aL this.symm)
    refine fz (bT.DE (items:=(cut _ (lo.getD 0) k).toArray) (cg:=0) (tk:=j.toks) (ab.cut _ _)) λ aO dV o ej=>cv ("list") _ ⟨⟨_,y,rfl⟩,slot_list_getitem.lookup,wpAny_getItem_list_slice ⟨_,y,rfl,_,rfl⟩ r bU s .none (by simp) ?_ D⟩
    rw[aaZ]
    exact⟨aO,_,_,dV,o,ej,q⟩
   ·exact a8 h
  rcases p with _|_
  case str w=>
   simp only at h
   split at h
   ·rename_i hz
    obtain rfl:=cm h
    refine a7 g λ t O=>?_;subst O
    exact cv ("str") _ ⟨typeIs_str _ _ _,PySem.F.slot_str_getitem.lookup,acq hz K M λ t tk=>c3.now (v:=.str _) (bT.tok) ⟨_,rfl⟩ q⟩
   ·exact a8 h
  case tup B=>
   simp only at h
   split at h
   ·rename_i hz
    obtain rfl:=cm h
    refine fg (id g) λ a items n P f ab=>?_;clear g;subst P
    have C:=bT.fy _ _ f
    refine cv ("tuple") _ ⟨⟨_,C,rfl⟩,slot_tuple_getitem.lookup,Xo ⟨_,C,rfl,_,rfl⟩ r bU s (by have:=ab.size;exact J [_,_] 0x100000028ca021427a120028c81 L hz (aL this.symm):items.size<=sizeLine) (λ d=>?_) ?_⟩
    ·have aU:=ab.cut (lo.getD 0) k
     rw[d] at aU
     exact c3.now (v:=.tup _) bT (gw a items n ⟨rfl,f,aU⟩) q
    ·exact fz (bT.w9 (ab.cut _ _)) λ aO dV o ej=>⟨aO,_,_,dV,o,ej,q⟩
   ·exact a8 h
  case lst B=>exact lists rfl h
  case ref i=>
   simp only at h
   split at h
   ·rename_i m;exact lists m h
   ·exact a8 h
  all_goals exact a8 h
 ·exact a8 h
theorem bK.setAt{B:List E}{items:Array Value}{k:Nat}{v:E}{H:Value}(r:bK T W B items.toList)(a:RelV T W v H):bK T W (B.set k v) (items.setIfInBounds k H).toList:=by
 rw[Array.toList_setIfInBounds];exact r.set a
theorem acT(a:Str)(D:Value)(b:List (Str×Value))(k:Str)(v:Value)(Y:((a,D)::b).map (·.1)|>.Nodup):stored ((a,D)::b) k v=if a=k then(a,v)::b else(a,D)::stored b k v:=by
 unfold stored
 by_cases h:a=k
 ·subst h
  simp only[List.any_cons,decide_true,Bool.true_or,if_true,jH]
  have:∀s∈b,(if s.1=a then(s.1,v) else s)=id s:=λ s c=>a9 λ d=>(by simpa using(sr.mp Y).1:a∉b.map (·.1)) (by rw[<-d];exact List.mem_map_of_mem c)
  rw[List.map_congr_left this,List.map_id]
 ·simp only[List.any_cons,h,decide_false,Bool.false_or,if_false,jH]
  split<;>rfl
theorem V2{az:List (List Nat)}:∀{B:List E}{c:List (Str×Value)}(k:List Nat){v:E}{H:Value},c.map (·.1)=az.map strOf->bK T W B (c.map (·.2))->(c.map (·.1)).Nodup->RelV T W v H->
  (stored c (strOf k) H).map (·.1)=(kg az B k v).1.map strOf/\bK T W (kg az B k v).2 ((stored c (strOf k) H).map (·.2)):=by
 induction az with
 |nil=>
  intro B c k v H e h Y f
  obtain rfl:=List.map_eq_nil_iff.mp e
  rcases B with _|_
  ·exact⟨rfl,f,trivial⟩
  ·exact h.elim
 |cons D az i=>
  intro B c k v H e h Y f
  rcases c with _|⟨⟨g,x⟩,c⟩
  ·injection e
  ·rcases B with _|⟨w,B⟩
   ·exact h.elim
   ·have e:=e0 e
    have d:g=strOf D:=e.1
    rw[acT _ _ _ _ _ Y,V3]
    by_cases q:k=D
    ·subst q
     rw[eC,aT d]
     exact⟨by show g::_=strOf k::_;rw[d,e.2],f,h.2⟩
    ·rw[fF.mpr q,a9 λ j=>q (vt (d.symm.trans j)).symm]
     exact bf (i k e.2 h.2 (sr.mp Y).2 f) λ a b=>⟨by show g::_=strOf D::_;rw[d,a],h.1,b⟩
theorem Inv.Ks(Q:Inv T W e j){i:Nat}{az:List (List Nat)}{B:List E}{k:List Nat}{v:E}{H:Value}{c:List (Str×Value)}{f:Heap}{tk:Nat}(d:e.get i=some (.dict az B))
  (h:f.DictOf T.knd (W.adr i) (stored c (strOf k) H)) (l:Heap.SameBut (W.adr i) j.heap f) (m:c.map (·.1)=az.map strOf) (n:bK T W B (c.map (·.2))) (Y:(c.map (·.1)).Nodup) (o:RelV T W v H):
  Inv T W (e.upd i (let r:=kg az B k v;.dict r.1 r.2)) {j with heap:=f,toks:=tk}:=by
 exact bf (Q.obj i _ d) λ g t=>bf (V2 k m n Y o) λ a b=>ba (nJ.mp h) λ p q s=>Q.mut d trivial trivial (by exact rwl g l) ⟨g,p,_,q,s,a,b⟩
theorem Kt(S:St T K P)(Q:Inv T W e j){p i v:E}{x H D:Value}{f:U->Prop}(g:RelV T W p x)(c:RelV T W i H)(A:RelV T W v D)(h:gM p i v f e):wpAny (model T.prog T.w) aA (setItem x H D) (yh T W f) aR j:=by
 refine ab8 h (λ y B k l o d s G F q=>?_) (λ y az B k l o d b q=>?_)
 ·subst l o;refine bf (id g) λ dE t=>?_;subst t
  ·clear h
   refine a7 c λ u M=>?_;clear c;subst M
   refine fA (Q.listAt d) λ items n C ab=>?_
   have N:=rz F
   have b:j.heap.IsList (W.adr y) items:=⟨_,C,rfl,_,rfl⟩
   unfold setItem
   try with_reducible refine jm ?_
   first|refine bZ (dN ?_)|skip
   refine bZ (wpAny_sequenceKey b.typeIs rfl ?_)
   refine bZ (wpAny_callSpecial?_slot (name:=(Str.ofString "__setitem__")) b.typeIs slot_list_setitem
    (wpAny_call_entry slot_list_setitem b.typeIs entry_list_setitem ?_ (args_list_setitem _ _ _)))
   show wpAny _ _ (Builtin.List.listSubscript? (.int k u)>>=_) _ _ j
   refine bZ (wpAny_listSubscript_int (fitsIndex_of s (by lia)) ?_)
   clear N F
   refine a7 (uk s) λ m O=>?_;clear s;subst O
   have R:m<items.size:=by have:(Int.toNat (m:Int))=m:=rfl;exact J [_,_,_,_] 0xa111c0031c24088c009481 L (aL ab.size) G (aL this.symm)
   show wpAny _ _ ((seqItemAt (W.adr y) m>>=λ r=>pure (r.map (m,·)))>>=_) _ _ j
   refine bZ (bZ (wpAny_seqItemAt C rfl (dN ?_)))
   rw[Array.getElem?_eq_getElem R]
   show wpAny _ _ (setSeqItemAt (W.adr y) m D>>=_) _ _ j
   have bT:=Q.xv d C (c2:=B.set m v) (λ a=>a.setIfInBounds m D) (tk:=j.toks) (ab.setAt A)
   have fin:yh T W f () {j with heap:=j.heap.update (W.adr y) (Obj.mapSeq λ a=>a.setIfInBounds m D)}:=⟨W,_,de.refl _ _,bT,q⟩
   refine bZ (wpAny_setSeqItemAt C rfl ?_)
   first
    |exact bZ (dN (dN (cv .none rfl (dN fin))))
    |exact dN ⟨.none,rfl,dN fin⟩
 ·subst l o;refine bf (id g) λ dE t=>?_;clear g;subst t
  ·clear h
   refine a7 c λ u V=>?_;clear c;subst V
   refine Az (Q.obj _ _ d) λ iS p b2 C I af X=>?_
   refine wpAny_setItem_pairs (knd:=T.knd) (k:=strOf k) (by show((strOf k)==(strOf k))=true;exact eC _) (nJ.mpr ⟨p,C,I⟩) (λ aY Y Z=>?_) (by rw[sL af,z9];exact J [_] 0x4000000a3203e810c81 L b)
   exact⟨W,_,de.refl _ _,Q.Ks d Y Z af X (keysNodup_of_isDictOf I) A,q⟩
end
end
section
section
variable{T:c5}{K:Frag}{P:eW}{aA:Around}{aR:Value->Shared->Prop}{W:bg}{e:U}{j:Shared}{A:bo}
theorem lV{x H:Value}(h:x=H)(g:handedIn H=true):handedIn x=true:=rwl h g
theorem RelV.handed{v:E}{x:Value}(h:RelV T W v x):handedIn x=true:=by
 rcases v with _|_
 case none=>exact lV h rfl
 case bool=>exact lV h rfl
 case int=>exact h.elim λ z h=>lV h rfl
 case str=>exact h.elim λ z h=>lV h rfl
 case tup=>exact h.elim λ z h=>h.elim λ z h=>h.elim λ z h=>lV h.1 rfl
 case lst=>exact h.elim λ z h=>h.elim λ z h=>h.elim λ z h=>lV h.1 rfl
 case dct=>exact h.elim λ z h=>h.elim λ z h=>h.elim λ z h=>lV h.1 rfl
 case rng=>exact h.elim λ z h=>h.elim λ z h=>h.elim λ z h=>h.elim λ z h=>lV h.1 rfl
 case ref=>exact lV h.2 rfl
 case fn=>exact lV h rfl
 case cls=>exact lV h rfl
 case bi=>exact h.2
 case typ=>exact lV h rfl
theorem IY(k:Str)(t:Tok)(x:Str):(Value.str k t).isStr x=(k==x):=by
 simp [Value.isStr]
theorem WG{az:List Str}:∀{B:List E}{a:List DictEntry}(x:Str),pS az a->bK T W B (a.map (·.val))->
  match qe az B x with|some v=>∃d,a.find? (·.key.isStr x)=some d/\RelV T W v d.val|none=>a.find? (·.key.isStr x)=none:=by
 induction az with
 |nil=>
  intro B a x C I
  rcases a with _|_
  ·rfl
  ·exact C.elim
 |cons k az b=>
  intro B a x C I
  rcases a with _|⟨d,a⟩
  ·exact C.elim
  ·rcases B with _|⟨v,B⟩
   ·exact I.elim
   ·refine a7 C.1 λ t c=>?_
    have b:=b x C.2 I.2
    rw[Hm]
    by_cases q:x=k
    ·subst q
     rw[eC]
     exact⟨d,by rw[List.find?_cons,c,IY,eC],I.1⟩
    ·refine rwl (fF.mpr q) ?_
     have:d.key.isStr x=false:=by(refine rwl c ?_);exact fF.mpr λ D=>q D.symm
     refine rwl List.find?_cons (rwl this ?_)
     exact b
theorem Hn{az:List Str}:∀{B:List E}{x:Str},x∉az->qe az B x=none:=by
 induction az with
 |nil=>exact λ z=>rfl
 |cons k az a=>
  intro B x h
  rcases B with _|⟨v,B⟩
  ·rfl
  ·rw[Hm,fF.mpr λ d=>h (by exact rwl d (f9 ..))]
   exact a λ d=>h (gU _ d)
theorem Dh:∀{az:List Str}{a:List DictEntry},pS az a->a.any (·.refKey)=false
 |[],[],_=>rfl
 |[],_::_,h=>h.elim
 |_::_,[],h=>h.elim
 |k::az,d::a,⟨⟨t,b⟩,h⟩=>by
  (refine rwl List.any_cons (rwl ((Dh h)) ?_))
  unfold DictEntry.refKey;exact rwl b rfl
set_option tactic.hygienic true in
theorem lookIn_dict{p:Obj}{a:Array DictEntry}{cg:Nat}{az:List Str}{B:List E}(x:Str)(c:p.data=.dict a cg)(b:pS az a.toList)(e:bK T W B (a.toList.map (·.val))):
  match qe az B x with|some v=>∃H,lookIn x p=some (some H)/\RelV T W v H|none=>lookIn x p=some none:=by
 have c_:=WG x b e
 unfold lookIn
 refine rwl c ?_
 dsimp only
 rcases d:qe az B x with _|_
 case some v=>
  rw[d] at c_
  exact ba c_ λ f g r=>rwl g (⟨f.val,rfl,r⟩)
 case none=>
  refine(d▸c_).symm▸rwl ((Dh b)) ?_
  rfl
theorem Inv.inst(Q:Inv T W e j){y c:Nat}{az:List Str}{B:List E}(d:e.get y=some (.inst c az B)):
  T.cls c/\(∀k∈az,pl k=true)/\∃p a cg,j.heap.get? (W.fq y)=some p/\p.cls=.type "dict"/\p.data=.dict a cg/\pS az a.toList/\bK T W B (a.toList.map (·.val))/\
   InstAt j.heap (W.adr y) (instObj (T.ca c) (W.fq y)) (T.ca c) (some p):=by
 exact LG (Q.obj _ _ d) λ b C p a cg I af f g h=>bf b λ cV dG=>⟨cV,dG,p,a,cg,I,af,f,g,h,⟨Q.fy _ _ C,rfl,rfl,I⟩⟩
set_option tactic.hygienic true in
theorem HF(S:St T K P)(Q:Inv T W e j){p:E}{x:Value}{name:Str}{g:Bool}(b:RelV T W p x)(h:a6 p name A e):wpAny (model T.prog T.w) aA (getAttr x name g) (c3 T W A) aR j:=by
 refine JM h λ y D h=>?_;subst D
 refine bf b λ z i=>?_;clear b;subst i
 refine IQ h λ c az B d h=>xi h λ v a h=>?_
 refine EW (Q.inst d) λ k l f G cg C I af m n o=>?_
 have ay:=S.cls _ k
 have c_:=lookIn_dict name af m n
 rw[a] at c_
 refine ba c_ λ H b_ l7=>?_;have r:name∈az:=by
  by_cases q:name∈az
  ·exact q
  ·have a:=Hn q▸a;exact a8 a
 refine ba ay.has λ s t u=>?_
 have F:findObj K (T.ca c) (some f) name=some (.value H):=by
  delta findObj
  rw[t,ay.attr _ (l _ r)]
  show(PySem.W.ownOf s (some f) name).bind _=_
  unfold PySem.W.ownOf
  rw[u,aT rfl]
  show(PySem.W.lookIn _ _).bind _=_
  rw[b_];rfl
 exact get_value (Q.pd S) o ay.ga F l7.handed (.now Q.tok l7 h)
theorem aa'{p:Obj}{a:Array DictEntry}{n:Nat}(name:Str)(b:Int)(key v:Value)(d:p.data=.dict a n):
  (Obj.putName name b key v p).cls=p.cls/\∃e,(Obj.putName name b key v p).data=.dict (putL name b key v a.toList).toArray e:=by
 obtain⟨c,o,f,a_⟩:=p
 subst d
 have g:dictOf a.toList n={cls:=.type "dict",data:=.dict a n}:=by simp [dictOf]
 have:=bB Obj.data (putName_dict name b key v a.toList n)
 rw[Obj.putName_eq] at this⊢
 unfold Obj.putNameByArray at this⊢
 dsimp only at this⊢
 cases q:a.findIdx? _ with
 |none=>rw[q] at this;exact⟨rfl,_,this⟩
 |some i=>rw[q] at this;exact⟨rfl,_,this⟩
theorem WO{az:List Str}:∀{B:List E}{c:List DictEntry}(x:Str)(e:Int)(t:Tok){v:E}{H:Value},pS az c->bK T W B (c.map (·.val))->RelV T W v H->
  pS (o5 az B x v).1 (putL x e (.str x t) H c)/\bK T W (o5 az B x v).2 ((putL x e (.str x t) H c).map (·.val)):=by
 induction az with
 |nil=>
  intro B c x e t v H C I f
  rcases c with _|_
  ·rcases B with _|_
   ·exact⟨⟨⟨t,rfl⟩,trivial⟩,f,trivial⟩
   ·exact I.elim
  ·exact C.elim
 |cons k az h=>
  intro B c x e t v H C I f
  rcases c with _|⟨d,c⟩
  ·exact C.elim
  ·rcases B with _|⟨w,B⟩
   ·exact I.elim
   ·refine a7 C.1 λ tk g=>?_
    rw[Hr];unfold putL
    by_cases q:x=k
    ·subst q
     have:d.key.isStr x=true:=by rw[g,IY,eC]
     (rewrite[eC];refine rwl (aT this) ?_)
     exact⟨⟨⟨tk,g⟩,C.2⟩,f,I.2⟩
    ·have:¬d.key.isStr x=true:=by(refine rwl g ?_);exact λ D=>q (iy.mp D).symm
     exact(fF.mpr q).symm▸(a9 this).symm▸bf (h x _ t C.2 I.2 f) λ a b=>⟨⟨⟨tk,g⟩,a⟩,I.1,b⟩
theorem Ej:∀{az:List Str}{a:List DictEntry},pS az a->az.length=a.length
 |[],[],_=>rfl
 |[],_::_,h=>h.elim
 |_::_,[],h=>h.elim
 |k::az,d::a,⟨_,h⟩=>bB _ (Ej h)
theorem WQ{az:List Str}:∀{B:List E}(x:Str)(v:E){s:Str->Prop},(∀k∈az,s k)->s x->∀k∈(o5 az B x v).1,s k:=by
 induction az with
 |nil=>exact λ x v z z b k a=>rwl (fG.mp a) b
 |cons D az c=>
  intro B x v s h b k a
  rcases B with _|⟨w,B⟩
  ·exact rwl (fG.mp a) b
  ·rw[Hr] at a
   rcases d:x==D with _|_
   ·rw[d] at a
    rcases ew.mp a with rfl|a
    ·exact h _ f9 ..
    ·exact c x v (λ k a=>h k (gU _ a)) b k a
   ·rw[d] at a;exact h k a
set_option tactic.hygienic true in
theorem Kr(S:St T K P)(Q:Inv T W e j){p v:E}{x H:Value}{name:Str}{k:U->Prop}(t:RelV T W p x)(u:RelV T W v H)(h:cL p name v k e):wpAny (model T.prog T.w) aA (setAttr x name H) (yh T W k) aR j:=by
 refine JM h λ y D h=>?_;subst D
 refine bf t λ z A=>?_;subst A
 refine IQ h λ c az B d h=>xM h λ l h=>?_
 refine bf h λ hz q=>EW (Q.inst d) λ m F G a cg C I af g M i=>?_
 have ay:=S.cls _ m
 refine ba ay.has λ mr N O=>?_
 refine set_plain (Q.pd S) i ay.abZ ?_
 have n:Inv T W e {j with toks:=j.toks+1}:=Q.tok
 refine osa_open (n.pd S) i ay.over (by unfold takerIn;refine(ay.attr _ l).symm▸?_;rfl:takerIn K (T.ca c) name=some none) λ b=>?_
 have R:=i.at_
 refine bZ (dN (bZ (bZ (wpAny_loadPart R (bZ ((looks_clsIn (n.pd S) N).here (O.symm▸dN (bZ (dN (bZ (bZ (bZ (wpAny_askSetting (dN (bZ (wpAny_mkText (bZ (wpAny_loadPart C (af.symm▸?_)))))))))))))))))))
 dsimp only
 have V:(!a.any (·.key.isStr name)&&a.any (·.refKey))=false:=by
  rw[(by exact(rwr Array.any_toList (Dh g)):a.any (·.refKey)=false),Bool.and_false]
 (rewrite[aRefKeyMayBeTheName_at];refine(rwr V.symm ?_))
 refine wpAny_updatePart C (LH (aa' name (PyData.keyHash T.w.params name) (.str name (j.toks+1)) H af) λ bG X f=>?_)
 have o:=Heap.get?_update_self (Obj.putName name (PyData.keyHash T.w.params name) (.str name (j.toks+1)) H) C (by
  obtain⟨mS,pU,ui,sj⟩:=G;revert f;generalize Obj.putName _ _ _ _ _=Y;intro f;obtain⟨_,_,_,_⟩:=Y;cases f;rfl)
 refine bf (WO name (PyData.keyHash T.w.params name) (j.toks+1) g M u) λ s Z=>?_
 have bT:=Q.mut (fs:=let r:=o5 az B _ v;.inst c _ r.2) (tk:=j.toks+1+1) d trivial trivial (Heap.SameBut.update ..)
  ⟨⟨m,WQ _ v F l⟩,(Q.obj _ _ d).2.1,_,_,X,o,bG.trans I,f,s,Z⟩
 refine bZ (wpAny_lookBehind o (by
  refine(rwr f.symm (pastItsLine_dict ?_))
  have:=Ej s
  have:(putL name (PyData.keyHash T.w.params name) (.str name (j.toks+1)) H a.toList).length<=a.toList.length+1:=by
   induction a.toList with
   |nil=>simp [putL]
   |cons d a av=>unfold putL;split<;>simp;exact av
  exact J [_,_,_] 0x4500000028c0600445018242846410c81 L hz (aL (Ej g).symm) this) ?_)
 exact dN ⟨W,_,de.refl _ _,bT,q⟩
end
end
section
theorem VW:∀k,k<1000->Str.ofString (toString ((k:Nat):Int))=strOf (fj k):=by decide+kernel
theorem acu(k:Nat)(h:k<1000):(k:Int).natAbs.log2<1920:=by
 have:(k:Int).natAbs=k:=rfl
 rcases Nat.eq_zero_or_pos k with d|d
 ·subst d;decide
 ·have:=(Nat.log2_lt λ a=>bC _ (J [_] 0x822000440902200801 L d (aL a))).mpr (d7 h (by
   calc 1000<=2^10:=ae rfl
    _<=2^1920:=Nat.pow_le_pow_right (ae rfl) (ae rfl)))
  exact this
theorem KU(j:List Nat):(strOf j).cps.toList=j:=by simp [strOf]
theorem F0{j:List Nat}(h:ascii j=true):∀c∈(strOf j).cps.toList,c<128:=by
 intro c a
 exact gg (kz.mp h c a)
theorem ZA{j:List Nat}(h:ascii j=true):Txt.lower (strOf j)=strOf (j.map pf):=by
 rw[lower_ascii (F0 h)]
 rw[List.map_toArray];rfl
theorem ade:∀c,c<128->(if Unicode.isUpper c then[pf c] else if Unicode.isLower c then Unicode.upperOf c else[c])=[vy c]:=by decide+kernel
theorem adf{j:List Nat}(h:ascii j=true):Txt.swapcase (strOf j)=strOf (j.map vy):=by
 unfold Txt.swapcase
 rw[placed_single _ _ _ λ i c b=>by
  have e:=by simpa using b
  have a:=F0 h c (ka b)
  have d:Unicode.lowerAt (strOf j).cps i=[pf c]:=by
   unfold Unicode.lowerAt
   rw[e]
   simp only[(by rw[fF];exact λ f=>bC _ (J [_] 0x822013a310c240086111001 L a (aL f.symm)):(c==0x3A3)=false),Bool.false_and,Bool.false_eq_true,if_false]
   exact lowerOf_ascii c a
  exact rwl d (ade c a)]
 show(⟨j.toArray.map _⟩:Str)=⟨(j.map _).toArray⟩
 rw[List.map_toArray]
theorem I3(a:List Nat):∀l:List (List Nat),Str.join (strOf a) (l.map strOf)=strOf (ij a l)
 |[]=>rfl
 |[x]=>rfl
 |x::H::r=>by
  show strOf x++strOf _++Str.join _ _=strOf (x++a++ij _ _)
  rw[I3 a (H::r),Ey,Ey]
theorem YR(a:List Nat)(l:List (List Nat)):Txt.join (strOf a) (l.map strOf)=strOf (ij a l):=by
 show Builtin.Str.glued _ _=_
 rw[StrLaws.glued_eq_join,I3]
theorem I4(a:List Nat):∀l:List (List Nat),(l.map (·.length)).sum<=(ij a l).length
 |[]=>bx _
 |[x]=>bx x.length
 |x::H::r=>by
  have b:=I4 a (H::r)
  simp only[jH,List.sum_cons,YQ,bR] at b⊢
  exact J [_,_,_,_,_] 0x320e0014803800629001 L b
theorem joinOk_of{a:List Nat}{l:List (List Nat)}(h:(ij a l).length+l.length*(a.length+1)<=c7):JoinOk (strOf a) (l.map strOf)=true:=by
 unfold JoinOk
 rw[StrLaws.joinTotal]
 have:=I4 a l
 have d:((l.map strOf).map (·.length)).sum=(l.map (·.length)).sum:=by
  rw[List.map_map];exact bB _ (List.map_congr_left λ x z=>r0 x)
 rw[d,cM]
 unfold Builtin.Str.tooLong
 rw[Bool.not_eq_true',decide_eq_false_iff_not]
 exact λ b=>bC _ (J [_,_,_,_] 0x41100c4004500000028c013d09001467300a009481 L this h b)
set_option tactic.hygienic true in
theorem Hi(x:List Nat):∀(t:List Nat)(k:Nat),match iU x t k with
  |some y=>k<=y/\y-k+x.length<=t.length/\(t.drop (y-k)).take x.length=x/\∀i,i<y-k->¬(i+x.length<=t.length/\(t.drop i).take x.length=x)
  |none=>∀i,¬(i+x.length<=t.length/\(t.drop i).take x.length=x)
 |[],k=>by
  rw[Wv]
  rcases x with _|_<;>simp
 |a::t,k=>by
  have b:=Hi x t (k+1)
  rw[Wu]
  by_cases h:x.isPrefixOf (a::t)=true
  ·rw[aT h]
   rw[List.isPrefixOf_iff_prefix] at h
   refine a7 h λ r V=>⟨bx _,?_,?_,λ i c=>absurd c λ e=>bC _ (J [_,_,_] 0x822018c5004a111001 L c (dj (J [_] 4224 L)))⟩
   ·rw[<-V];simp
   ·rw[<-V];simp
  ·rw[a9 h]
   have f:¬(0+x.length<=(a::t).length/\((a::t).drop 0).take x.length=x):=λ e=>bf e λ z d=>h (by
    rw[List.isPrefixOf_iff_prefix,<-d];exact List.take_prefix ..)
   rcases q:iU x t _ with _|_
   case none=>
    have b:=q▸b
    intro i ⟨C,I⟩
    rcases i with _|_
    case zero=>exact f ⟨C,I⟩
    case succ i=>exact b i ⟨J [_,_,_] 0x31480004460142220001 L C,by simpa using I⟩
   case some y=>
    rw[q] at b
    refine f5 b λ C I af g=>?_;have d:y-k=y-(k+1)+1:=cB (J [_,_,_,_] 0x44501c0431c01088c028081 L (d2 _ _) (dj (J [_,_] 5635165982721 L C))) (J [_,_,_,_] 0x142238004088c03802628081 L (d2 _ _) (dj C))
    refine⟨J [_,_] 5635165982721 L C,J [_,_,_,_] 0x446014e00044401c2629001 L I (aL d),by rw[d];simpa using af,λ i c ⟨cV,dG⟩=>?_⟩
    cases i with
    |zero=>exact f ⟨cV,dG⟩
    |succ i=>exact g i (J [_,_,_] 0x5088c001022088c00042228081 L (aL d) c) ⟨J [_,_,_] 0x31480004460142220001 L cV,by simpa using dG⟩
theorem A5(x t:List Nat)(i:Nat):StrLaws.At (strOf t) (strOf x) (strOf t).length i↔i+x.length<=t.length/\(t.drop i).take x.length=x:=by
 unfold StrLaws.At
 rw[StrLaws.subAt_eq,r0,r0,KU,KU,iy]
set_option tactic.hygienic true in
theorem JN(x t:List Nat)(lo:Nat)(m:lo<=t.length):
  match iU x (t.drop lo) lo with
  |some y=>∃r,Builtin.Str.occurrences (strOf t) (strOf x) lo (strOf t).length 1=y::r
  |none=>Builtin.Str.occurrences (strOf t) (strOf x) lo (strOf t).length 1=[]:=by
 have F:=Hi x (t.drop lo) lo
 have h:∀i,lo<=i->(i+x.length<=t.length/\(t.drop i).take _=x↔i-lo+x.length<=(t.drop lo).length/\((t.drop lo).drop _).take x.length=x):=λ i e=>by
  rw[nM,jn,show lo+(i-lo)=i by exact cB (J [_,_,_] 0xc42800629001 L (dj e)) (J [_,_,_] 0xa60100628081 L (d2 _ _))]
  constructor
  ·rintro⟨a,b⟩;exact⟨J [_,_,_,_,_,_] 0x3952001109005070182629001 L a (d2 _ _) (dj e),b⟩
  ·rintro⟨a,b⟩;exact⟨J [_,_,_,_,_,_] 0x494e0025060050401c2629001 L a (d2 _ _) (dj m),b⟩
 rcases StrLaws.occ_head_from _ _ lo 1 (bx _) with⟨j,Y⟩|⟨i,r,j,e,n,o⟩
 ·rcases q:iU x _ lo with _|_
  case none=>exact j
  case some y=>
   have F:=q▸F
   exact f5 F λ d f g k=>((Y y d) ((A5 x t y).mpr ((h y d).mpr ⟨f,g⟩))).elim
 ·have l:=(h i e).mp ((A5 x t i).mp n)
  rcases q:iU x _ lo with _|_
  case none=>exact(((q▸F) _) l).elim
  case some y=>
   rw[q] at F
   refine f5 F λ d f g k=>?_;clear F
   have:i=y:=by
    rcases Nat.lt_trichotomy i y with c|c|c
    ·exact absurd l (k _ (J [_,_,_,_,_] 0xc11200021d0009cc0284a111001 L c (d2 _ _) (dj e)))
    ·exact c
    ·exact((o y d c) ((A5 x t y).mpr ((h y d).mpr ⟨f,g⟩))).elim
   clear q d f g k;subst this
   exact⟨r,j⟩
theorem acz{j:List Nat}{l:List (List Nat)}(h:vs j=some l):
  (decide ((strOf j).length<(strOf [44]).length)||decide (Builtin.Str.strKind (strOf j)<Builtin.Str.strKind (strOf [44])))=false/\(strOf j).length<=sizeLine/\
  (((Builtin.Str.occurrences (strOf j) (strOf [44]) 0 (strOf j).length ((strOf j).length+1)).isEmpty=true/\l=[j])\/
   ((Builtin.Str.occurrences (strOf j) (strOf [44]) 0 (strOf j).length ((strOf j).length+1)).isEmpty=false/\
    Builtin.Str.partsBetween (strOf j) (Builtin.Str.occurrences (strOf j) (strOf [44]) 0 (strOf j).length ((strOf j).length+1)) (strOf [44]).length=l.map strOf/\l.length<=2)):=by
 refine Dd h (λ d k=>?_) λ h=>Dd h (λ d k=>?_) λ h=>Dd h (λ d k=>?_) a8
 ·subst d k;exact⟨by decide+kernel,by decide+kernel,.inr ⟨by decide+kernel,by decide+kernel,ae rfl⟩⟩
 ·subst d k;exact⟨by decide+kernel,by decide+kernel,.inl ⟨by decide+kernel,rfl⟩⟩
 ·clear h;subst d k;exact⟨by decide+kernel,by decide+kernel,.inr ⟨by decide+kernel,by decide+kernel,ae rfl⟩⟩
section
variable{T:c5}{K:Frag}{P:eW}{aA:Around}{aR:Value->Shared->Prop}{W:bg}{e:U}{j:Shared}{A:bo}
set_option tactic.hygienic true
theorem YH{B:List E}:∀{ai:List Value}{ns:List Int},bK T W B ai->qs B=some ns->∃g4:List (Int×Tok),ai=g4.map (λ s=>.int s.1 s.2)/\g4.map (·.1)=ns:=by
 induction B with
 |nil=>
  intro ai ns r h
  rcases ai with _|_
  case nil=>exact⟨[],rfl,c' h⟩
  case cons _ _=>exact r.elim
 |cons v B a=>
  intro ai ns r h
  rcases ai with _|_
  case nil=>exact r.elim
  case cons x ai=>
   refine ba (jo h) λ i b h=>?_;subst b
   refine ba (gS.mp h) λ g c d=>?_;clear h;subst d
   obtain⟨⟨t,rfl⟩,r⟩:=r
   refine ba (a r c) λ g4 e f=>?_
   exact⟨(i,t)::g4,bB _ e,bB _ f⟩
theorem ac2{B:List E}:∀{ai:List Value}{ns:List (List Nat)},bK T W B ai->vu B=some ns->∃g4:List (Str×Tok),ai=strValues g4/\g4.map (·.1)=ns.map strOf:=by
 induction B with
 |nil=>
  intro ai ns r h
  rcases ai with _|_
  case nil=>obtain rfl:=c' h;exact⟨[],rfl,rfl⟩
  case cons _ _=>exact r.elim
 |cons v B a=>
  intro ai ns r h
  rcases ai with _|_
  case nil=>exact r.elim
  case cons x ai=>
   refine ba (oU h) λ i b h=>?_;subst b
   refine ba (gS.mp h) λ g c d=>?_;clear h;subst d
   obtain⟨⟨t,rfl⟩,r⟩:=r
   refine ba (a r c) λ g4 e f=>?_
   exact⟨(strOf i,t)::g4,bB _ e,bB _ f⟩
theorem ac3{l:List (Str×Tok)}:∀{ns:List (List Nat)},l.map (·.1)=ns.map strOf->bK T W (ns.map E.str) (strValues l):=by
 induction l with
 |nil=>intro ns h;obtain rfl:=List.map_eq_nil_iff.mp h.symm;trivial
 |cons s l a=>
  intro ns h
  rcases ns with _|_
  case nil=>injection h
  case cons n ns=>
   have h:=e0 h
   exact⟨⟨s.2,bB (Value.str · _) h.1⟩,a h.2⟩
theorem ab7(Q:Inv T W e j){v:E}{x:Value}{B:List E}(r:RelV T W v x)(h:xu e v=some B):∃a items cg c,x=.ref a/\(c="list"\/c="tuple")/\j.heap.get? a=some {cls:=.type c,data:=.seq items cg}/\bK T W B items.toList:=by
 rcases v with _|_
 case tup aV=>
  obtain rfl:=cm h
  refine fg r λ a items cg b f ab=>?_;clear r;subst b
  exact⟨a,items,cg,_,rfl,.inr rfl,Q.fy _ _ f,ab⟩
 case lst aV=>
  obtain rfl:=cm h
  refine fg r λ a items cg d f ab=>?_;clear r;subst d
  exact⟨a,items,cg,_,rfl,.inl rfl,Q.fy _ _ f,ab⟩
 case ref i=>
  refine fg (lZ Q r h) λ a items cg g f ab=>?_;clear r;subst g
  exact h2 a items cg _ ⟨rfl,.inl rfl,f,ab⟩
 all_goals exact a8 h
theorem bK.one{v:E}{ai:List Value}(r:bK T W [v] ai):∃x,ai=[x]/\RelV T W v x:=by
 rcases ai with _|_
 case nil=>exact r.elim
 case cons x ai=>(rcases ai with _|_;(case nil=>exact⟨x,rfl,r.1⟩);(case cons _ _=>exact r.2.elim))
theorem bK.two{v w:E}{ai:List Value}(r:bK T W [v,w] ai):∃x H,ai=[x,H]/\RelV T W v x/\RelV T W w H:=by
 rcases ai with _|_
 case nil=>exact r.elim
 case cons x ai=>
  refine ba (bK.one r.2) λ H a h=>?_;subst a
  exact cv x H ⟨rfl,r.1,h⟩
theorem Hd(Q:Inv T W e j){f:Int->Int->Int}{nm:String}(P:∀a b,f a b=a\/f a b=b){B:List E}{ai:List Value}{v:E}(g:bK T W B ai)(h:BS e f B=some v)(q:A v e)
  (C:∀(l:Addr)(a:Int)(t:Tok),j.heap.IsList l (intItems #[(a,t)])->(∀c tk,(∀b p,j.heap.get? b=some p->c.get? b=some p)->c3 T W A (.int a t) {j with heap:=c,toks:=tk})->wpAny (model T.prog T.w) aA (PySem.call (.builtin nm) [.ref l]) (c3 T W A) aR j)
  (I:∀(a b:Int)(t u:Tok),(∀d c tk,(d=t\/d=u)->(∀b p,j.heap.get? b=some p->c.get? b=some p)->c3 T W A (.int (f a b) d) {j with heap:=c,toks:=tk})->wpAny (model T.prog T.w) aA (PySem.call (.builtin nm) [.int a t,.int b u]) (c3 T W A) aR j):
  wpAny (model T.prog T.w) aA (PySem.call (.builtin nm) ai) (c3 T W A) aR j:=by
 rcases B with _|_
 case nil=>exact a8 h
 case cons dc B=>
  rcases B with _|_
  case nil=>
   refine ba g.one λ x k r=>?_;subst k
   refine ba (gm.mp (h)) λ w m h=>ba (nR h) λ H n h=>?_;subst n
   refine ba (jo h) λ a o h=>?_;subst o
   obtain rfl:=c' h
   refine fg (lZ Q r m) λ l items cg s y F=>?_;clear r;subst s
   refine xU F.one λ D hz t G=>?_;subst G
   exact C l a t ⟨_,(Array.toList_inj.mp (hz.trans (by simp [intItems])):items=intItems #[(a,t)])▸y,rfl,_,rfl⟩ λ c tk i=>c3.now (v:=.int _) (Q.grow i) ⟨_,rfl⟩ q
  case cons dY B=>
   rcases B with _|_
   case cons _ _=>exact a8 h
   case nil=>
    refine ba (jo (h)) λ a J h=>ba (jo h) λ b K h=>?_
    subst J K
    obtain rfl:=c' h
    refine afC g.two λ x H L M u N=>?_;subst L;refine a7 M λ t O=>?_;subst O;clear g;subst N
    exact I a b t u λ d c tk z i=>c3.now (v:=.int _) (Q.grow i) ⟨_,rfl⟩ q
set_option tactic.hygienic false
theorem US(Q:Inv T W e j)(fa:aA.handled=none){b:t2}{B:List E}{ai:List Value}{v:E}(i:bK T W B ai)(h:Bm e b B=some v)(q:A v e):
  wpAny (model T.prog T.w) aA (PySem.call (Value.builtin b.name) ai) (c3 T W A) aR j:=by
 rcases b with _|_
 case len=>
  refine ba (nR h) λ w s h=>?_;subst s
  refine ba i.one λ x y ab=>?_;subst y
  have seq:(xu e w).bind (λ x=>if x.length<=c7 then some (E.int x.length) else none)=some v->wpAny (model T.prog T.w) aA (PySem.call _ [x]) _ aR j:=λ h=>by
   refine ba (gm.mp h) λ aV n h=>bf (lj h) λ hz F=>?_;subst F
   refine afD (ab7 Q ab n) λ a items cg c G I C m=>?_;subst G
   rw[m.size] at hz q
   have hz:=ah hz (by decide:c7<=2^63-1)
   have fin:c3 T W A (.int _ (j.toks+1)) {j with toks:=j.toks+1+1}:=c3.now (v:=.int _) Q.tok ⟨_,rfl⟩ q
   rcases I with rfl|rfl
   ·exact call_len_list ⟨_,C,rfl,_,rfl⟩ (by lia) fin
   ·exact PyProof.Rows.len_tuple ⟨_,C,rfl,_,rfl⟩ (by lia) fin
  cases w with
  |str H=>
   refine a7 ab λ t J=>?_;clear ab;subst J
   refine bf (lj h) λ hz K=>?_;subst K
   have hz:=ah hz (by decide:c7<=2^63-1)
   exact PySem.P.len_str (by rw[r0];lia) (c3.now (v:=.int _) Q.tok ⟨_,rfl⟩ q)
  |_=>exact seq h
 case ord=>
  refine ba (nR h) λ w L h=>?_;subst L
  refine ba (oU h) λ x M h=>?_;subst M
  refine xU i.one λ z N t O=>?_;subst N;subst O
  cases x with
  |nil=>exact a8 h
  |cons c r=>cases r with
   |nil=>obtain rfl:=c' h;exact PySem.P.ord_of_char (c3.now (v:=.int _) Q.tok ⟨_,rfl⟩ q)
   |cons _ _=>exact a8 h
 case chr=>
  refine ba (nR h) λ w R h=>?_;subst R
  refine ba (jo h) λ k S h=>?_;subst S
  refine xU i.one λ z U t V=>?_;subst U;subst V
  refine bf (lj h) λ c X=>?_;subst X
  exact PySem.P.chr_of_int (by lia) (c3.now (v:=.str _) Q.tok ⟨_,rfl⟩ q)
 case max=>
  refine Hd Q (λ a b=>by split;exact .inr rfl;exact .inl rfl) i h q (λ l a t o k=>max_intList fa o (jI _) λ v f tk g d=>?_) λ a b t u k=>max_two_ints fa λ f tk d=>?_
  ·have g:(intItems _)[0]?=some v:=g
   simp [intItems] at g
   exact g▸k f tk d
  ·by_cases D:a<b
   ·have k:=k u f tk (.inr rfl) d
    rw[aT D] at k⊢;exact k
   ·have k:=k t f tk (.inl rfl) d
    rw[a9 D] at k⊢;exact k
 case min=>
  refine Hd Q (λ a b=>by split;exact .inr rfl;exact .inl rfl) i h q (λ l a t o k=>min_intList fa o (jI _) λ v f tk g d=>?_) λ a b t u k=>min_two_ints fa λ f tk d=>?_
  ·have g:(intItems _)[0]?=some v:=g
   simp [intItems] at g
   exact g▸k f tk d
  ·by_cases D:b<a
   ·have k:=k u f tk (.inr rfl) d
    rw[aT D] at k⊢;exact k
   ·have k:=k t f tk (.inl rfl) d
    rw[a9 D] at k⊢;exact k
 case sum=>
  refine ba (nR h) λ w Z h=>?_;subst Z
  refine ba (gm.mp h) λ aV n h=>ba (gS.mp h) λ ns Y E8=>?_;clear h;subst E8
  refine ba i.one λ H E9 ab=>?_;subst E9
  refine fg (lZ Q ab n) λ l items cg E_ C m=>?_;clear ab i;subst E_
  refine ba (YH m Y) λ g4 p a'=>?_
  have sO:items=intItems g4.toArray:=by apply Array.toList_inj.mp;rw[p];simp [intItems]
  clear m p;subst sO
  refine sum_intListG fa ⟨_,C,rfl,_,rfl⟩ λ f tk ma d=>?_
  have:preSum (numAt g4.toArray) g4.toArray.size=ns.sum:=by
   rw[preSum_eq,<-a']
   rw[List.take_of_length_le (by simp)]
  exact rwl this (c3.now (v:=.int _) (Q.grow d) ⟨_,rfl⟩ q)
end
end
section
section
variable{T:c5}{K:Frag}{P:eW}{aA:Around}{aR:Value->Shared->Prop}{W:bg}{e:U}{j:Shared}{A:bo}
set_option tactic.hygienic true in
theorem abC{v w u:E}{ai:List Value}(r:bK T W [v,w,u] ai):∃x H D,ai=[x,H,D]/\RelV T W v x/\RelV T W w H/\RelV T W u D:=by
 rcases ai with _|_
 case nil=>exact r.elim
 case cons H dd=>refine fA (bK.two r.2) λ D a b h=>?_;subst b;exact gw H D a ⟨rfl,r.1,h⟩
theorem D5{ai:List Value}(r:bK T W [] ai):ai=[]:=by
 rcases ai with _|_
 case nil=>rfl
 case cons _ _=>exact r.elim
theorem Inv.DF(Q:Inv T W e j){a b c:Int}{d hD f tk:Tok}(q:A (.rng a b c) e):
  c3 T W A (.ref j.heap.objs.size) {j with heap:=j.heap.push {cls:=.type "range",data:=.fields #[.int a d,.int b hD,.int c f]},toks:=tk}:=by
 exact bf (Q.z1 _ rfl) λ bT l=>⟨_,.rng a b c,_,l,bT,(h2 _ d hD f ⟨rfl,aT rfl⟩),q⟩
set_option tactic.hygienic true in
theorem adN(Q:Inv T W e j){t:TI}{B:List E}{ai:List Value}{v:E}(d:bK T W B ai)(h:r4 t B=some v)(q:A v e):wpAny (model T.prog T.w) aA (PySem.call (Value.type t.name) ai) (c3 T W A) aR j:=by
 rcases t with _|_
 case str=>
  refine ba (nR h) λ w G h=>?_;subst G
  refine ba (jo h) λ k I h=>?_;subst I
  refine xU (bK.one d) λ x J t K=>?_;subst J;subst K
  refine bf (lj h) λ c L=>?_;subst L
  refine a7 (uk (gg (i6 c))) λ n M=>?_;subst M
  have Y:=dR.mp (gg (ke c))
  exact PySem.P.str_of_int (acu n Y) (c3.now (v:=.str _) Q.tok ⟨_,by rw[VW n Y];rfl⟩ q)
 case range=>
  have g:∀{a b c:E},xm a b c=some v->∃i y k,a=.int i/\b=.int y/\c=.int k/\v=.rng i y k/\(dU i=true/\dU y=true)/\(k=1\/k=-1):=λ h=>by
   exact ba (jo h) λ i l h=>ba (jo h) λ y N h=>ba (jo h) λ k f h=>bf (lj h) λ c O=>gw i y k ⟨l,N,f,O.symm,⟨i6 (i6 c),ke (i6 c)⟩,(Bool.or_eq_true_iff.mp (ke c)).imp eq_of_beq eq_of_beq⟩
  rcases B with _|_
  case nil=>exact a8 h
  case cons b B=>
   rcases B with _|_
   case nil=>
    refine r8 (g (show xm (.int 0) b _=some v from h)) λ i y k l R f S z z=>?_;subst R;subst S
    (injection l with a3;subst a3);(injection f with a3;subst a3)
    refine xU (bK.one d) λ x U t V=>?_;subst U;subst V
    exact call_range_1 (Q.DF q)
   case cons c B=>
    rcases B with _|_
    case nil=>
     refine r8 (g (h)) λ i y k X Z f afU z z=>?_;subst X;subst Z;subst afU
     (injection f with a3;subst a3)
     refine jd (bK.two d) λ x H jy m p=>?_;subst jy;refine a7 m λ t afV=>?_;clear m;subst afV;refine a7 p λ u afW=>?_;clear p;subst afW
     exact call_range_2 (Q.DF q)
    case cons o B=>
     rcases B with _|_
     case cons _ _=>exact a8 h
     case nil=>
      refine r8 (g (h)) λ i y k kq afX afY afZ z r=>?_;subst kq;subst afX;subst afY;clear g;subst afZ
      refine j5 (abC d) λ x H D jh s C F=>?_;subst jh;refine a7 s λ t xY=>?_;clear s;subst xY;refine a7 C λ u af0=>?_;clear C;subst af0;refine a7 F λ w af1=>?_;clear F;clear d;subst af1
      exact call_range_3 (by rcases r with rfl|rfl<;>decide) (Q.DF q) (Or.inl (PyProof.noPylong_small (by rcases r with rfl|rfl<;>decide)))
 case list=>exact a8 h
theorem Zh(Q:Inv T W e j){B:List E}{ai:List Value}(a:bK T W [.tup B] ai)(hz:B.length<=c7)(q:A (.ref e.next) (e.alloc (.list B))):wpAny (model T.prog T.w) aA (PySem.call (Value.type "list") ai) (c3 T W A) aR j:=by
 refine afB (bK.one a) λ x b l items n c f r=>?_;subst b;clear a;subst c
 refine call_list_seq (hsz:=(by have:=r.size;rw[z9];simp only[c7] at hz;lia)) l (.inr rfl) (Q.fy _ _ f) rfl rfl λ g h k o=>?_
 have bT:=Q.grow (tk:=j.toks) k
 have aX:=bg.th (λ z=>False) W j.heap.objs.size j.heap.objs.size
 have s:=bT.new (p:=.list B) ⟨by show(if W.n=W.n then _ else _)=if W.n=W.n then _ else _;rw[aT rfl,aT rfl],items,h,by show g.get? (if W.n=W.n then _ else _)=_;exact rwl (aT rfl) o,r.le aX⟩
  Q.tf Q.tg λ i x d m=>e' (Q.vb d m)
 exact⟨_,_,_,aX,s,bT.z2 _ _,q⟩
noncomputable def fp.val(T:c5):fp->Value
 |.join=>.builtin "str.join"|.lower=>.builtin "str.lower"|.swapcase=>.builtin "str.swapcase"|.find=>.builtin "str.find"|.index=>.builtin "str.index"|.split=>.builtin "str.split"
 |.append=>.builtin "list.append"|.pop=>.builtin "list.pop"|.extend=>.builtin "list.extend"|.setdefault=>.builtin "dict.setdefault"
 |.fn k=>.ref (T.jr k)
theorem pC{m:Str}{x:String}(h:(m==Str.ofString x)=true):m=Str.ofString x:=iy.mp h
set_option tactic.hygienic true
set_option maxHeartbeats 2000000 in
theorem Xq(S:St T K P)(Q:Inv T W e j){p:E}{x:Value}{m:Str}{cP:fp}{bU:Sem Bool}{R:Value×List Value->Shared->Prop}(h:zF P e p m=some cP)(f:RelV T W p x)(q:R (cP.val T,[x]) j):
  wpAny (model T.prog T.w) aA (getMethod x m bU) R aR j:=by
 rcases p with _|_
 case str w=>
  refine a7 f λ t r=>?_;subst r
  have h:=h
  refine oW h (λ c d=>?_) λ C=>?_
  ·subst d;exact rwl (pC c) (GM.join q)
  clear h
  refine oW C (λ c d=>?_) λ h=>?_
  ·subst d;exact rwl (pC c) (GM.lower q)
  clear C
  refine oW h (λ c d=>?_) λ C=>?_
  ·subst d;exact rwl (pC c) (GM.swapcase q)
  clear h
  refine oW C (λ c d=>?_) λ h=>?_
  ·subst d;exact rwl (pC c) (GM.find q)
  clear C
  refine oW h (λ c d=>?_) λ C=>?_
  ·subst d;rw[pC c];exact GM.index q
  clear h
  refine oW C (λ c d=>?_) (a8)
  subst d;rw[pC c];exact GM.split q
 case ref i=>
  have h:(match e.get i with|some b=>xd P m b|none=>none)=some cP:=h
  rcases d:e.get i with _|_
  case none=>rw[d] at h;exact a8 h
  case some b=>
   rw[d] at h
   refine bf f λ z s=>?_;clear f;subst s
   rcases b with _|_
   case inst c az B=>
    refine ba (gS.mp h) λ k u v=>?_;subst v
    refine EW (Q.inst d) λ y A b O cg C I af g G H=>?_
    have ay:=S.cls _ y
    refine e_ (ay.b0 m k u) λ J L l=>?_
    refine method_fn (Q.pd S) H ay.ga ay.Xi J L ?_ q
    have c_:=lookIn_dict m af g G
    have Y:m∉az:=λ M=>by rw[A m M] at l;injection l
    rw[Hn Y] at c_
    have c_:lookIn m b=some none:=c_
    unfold shadowIn
    dsimp only
    rw[c_];rfl
   case dict az B=>
    have h:(if(m==vw)=true then some fp.setdefault else none)=some cP:=h
    refine oW h (λ c D=>?_) a8
    subst D
    refine Az (Q.obj _ _ d) λ U p N C I af g=>?_
    have o:j.heap.DictOf T.knd (W.adr i) N:=nJ.mpr ⟨p,C,I⟩
    rw[pC c]
    exact getMethod_builtin o.typeIs PySem.F.plainAttrs_dict PySem.F.slot_dict_setdefault PySem.F.type_dict_setdefault o.mapOf.noDict q
   case list B=>
    refine fA (Q.listAt d) λ items n C ab=>?_
    have Y:∀a,Value.ref (W.adr i)=.ref a->∃b,j.heap.get? a=some b/\b.dict=none:=λ a d=>by(injection d with a3;subst a3);exact⟨_,C,rfl⟩
    have h:Dp m=some cP:=h
    unfold Dp at h
    refine oW h (λ c D=>?_) λ h=>oW h (λ c D=>?_) λ h=>oW h (λ c D=>?_) a8
    ·subst D;rw[pC c];exact getMethod_builtin ⟨_,C,rfl⟩ PySem.F.plainAttrs_list PySem.F.slot_list_append PySem.F.type_list_append Y q
    ·subst D;rw[pC c];exact getMethod_builtin ⟨_,C,rfl⟩ PySem.F.plainAttrs_list PySem.F.slot_list_pop PySem.F.type_list_pop Y q
    ·subst D;rw[pC c];exact getMethod_builtin ⟨_,C,rfl⟩ PySem.F.plainAttrs_list PySem.F.slot_list_extend PySem.F.type_list_extend Y q
   case flist _=>exact a8 h
 all_goals exact a8 h
theorem Wx{w x:List Nat}{n:Nat}(Y:n<=w.length):Txt.find3 (strOf w) (strOf x) (n:Int)=BX (iU x (w.drop n) n):=by
 have kv:=JN x w n Y
 unfold Txt.find3 fromIndex
 have b:(max 0 (if(n:Int)<0 then(n:Int)+((strOf w).length:Nat) else(n:Int))).toNat=n:=by
  rw[a9 (jG.mpr (i5 n)),Int.max_eq_right (i5 n)];rfl
 rw[b]
 rcases a:iU x (w.drop n) n with _|_
 case none=>rw[a] at kv;rw[kv];rfl
 case some y=>rw[a] at kv;refine a7 kv λ r V=>?_;clear kv;rw[V];rfl
theorem ac1(Q:Inv T W e j){w:List Nat}{t:Tok}{cP:fp}{B:List E}{ai:List Value}{v:E}(b:bK T W B ai)(h:oi e w cP B=some v)(q:A v e):
  wpAny (model T.prog T.w) aA (PySem.call (cP.val T) (.str (strOf w) t::ai)) (c3 T W A) aR j:=by
 have line:w.length<=1000->(strOf w).length<=1000:=λ h=>rwr (r0 w) h
 rcases cP with _|_
 case join=>
  refine ba (nR h) λ dc I h=>?_;subst I
  refine ba (bK.one b) λ x J ab=>?_;subst J
  refine ba (gm.mp h) λ l g h=>?_
  refine ba (gm.mp h) λ ns Y h=>?_
  refine bf (lj h) λ hz K=>?_;subst K
  refine fg (lZ Q ab g) λ a items cg L C aU=>?_;clear ab;subst L
  refine ba (ac2 aU Y) λ g4 f i=>?_
  have M:items=(strValues g4).toArray:=Array.toList_inj.mp f
  clear aU;subst M
  refine SC.join (texts:=ns.map strOf) ⟨_,C,rfl,_,rfl⟩ i (joinOk_of hz) λ ma k=>?_
  rw[YR]
  exact c3.now (v:=.str _) Q.tok ⟨_,rfl⟩ q
 case lower=>
  refine bf (FW h) λ N h=>?_;subst N
  obtain rfl:=D5 b
  refine bf (lj h) λ c O=>?_;subst O
  refine SC.lower (fit_lower (ah (line (gg (ke c))) (by decide))) ?_
  rw[ZA (i6 c)]
  exact c3.now (v:=.str _) Q.tok ⟨_,rfl⟩ q
 case swapcase=>
  refine bf (FW h) λ P h=>?_;subst P
  obtain rfl:=D5 b
  refine bf (lj h) λ c R=>?_;subst R
  refine SC.swapcase (fit_swapcase (ah (line (gg (ke c))) (by decide))) ?_
  rw[adf (i6 c)]
  exact c3.now (v:=.str _) Q.tok ⟨_,rfl⟩ q
 case find=>
  rcases B with _|_
  case nil=>exact a8 h
  case cons dc B=>
   refine ba (oU (show(ia dc).bind _=some v from h)) λ x S h=>?_;subst S
   refine ba (nR h) λ dY U h=>?_;subst U
   refine ba (jo h) λ k X h=>?_;subst X
   refine jd (bK.two b) λ H D Z o p=>?_;subst Z;refine a7 o λ hj af_=>?_;clear o;subst af_;refine a7 p λ jc af'=>?_;clear p;subst af'
   refine bf (lj h) λ c E8=>?_;subst E8
   refine a7 (uk (gg (i6 (i6 c)))) λ n E9=>?_;subst E9
   refine SC.find3 ?_
   rw[Wx (hU.mp (gg (ke c)))]
   exact c3.now (v:=.int _) Q.tok ⟨_,rfl⟩ q
 case index=>
  refine ba (nR h) λ dc E_ h=>?_;subst E_
  refine ba (oU h) λ x agb h=>?_;subst agb
  refine ba (bK.one b) λ H agc s=>?_;subst agc;refine a7 s λ hj agd=>?_;clear s;subst agd
  refine ba (gm.mp h) λ y dE h=>?_
  obtain rfl:=c' h
  have kv:=JN x w 0 (df _)
  rw[mT,dE] at kv
  refine a7 kv λ r V=>?_;clear kv
  exact SC.index V (c3.now (v:=.int _) Q.tok ⟨_,rfl⟩ q)
 case split=>
  refine ba (nR h) λ dc age h=>?_;subst age
  refine ba (oU h) λ x agf h=>?_;subst agf
  refine ba (bK.one b) λ H agg u=>?_;subst agg;refine a7 u λ hj agh=>?_;clear u;subst agh
  refine bf (qu h) λ c h=>?_
  clear b;subst c
  refine ba (gm.mp h) λ l g h=>?_
  obtain rfl:=c' h
  refine e_ (acz g) λ f i d=>?_
  rcases d with⟨d,rfl⟩|⟨d,G,fQ⟩
  ·refine call_meets PySem.F.slot_str_split (typeIs_str _ _ _) PySem.F.entry_str_split (PySem.F.args_str_split_2 _ _) (meets_str_split_not_found (strOf w) (strOf [44]) t hj f rfl d) ?_
   refine fz (Q.DE (B:=[E.str w]) (items:=#[.str (strOf w) t]) (cg:=0) (tk:=j.toks) ⟨⟨t,rfl⟩,trivial⟩) λ aO dV m ej=>?_
   exact⟨aO,_,_,dV,m,ej,q⟩
  ·refine call_meets PySem.F.slot_str_split (typeIs_str _ _ _) PySem.F.entry_str_split (PySem.F.args_str_split_2 _ _) (meets_str_split_sep (strOf w) (strOf [44]) t hj f rfl d i (by rw[G,cM,z9];exact ah fQ (ae rfl))) ?_
   show c3 T W A (.ref j.heap.objs.size) {j with toks:=_,heap:=j.heap.push {cls:=.type "list",data:=.seq (strsFrom j.toks (Builtin.Str.partsBetween _ _ _)).toArray}}
   rw[strsFrom_eq,G]
   refine fz (Q.DE (B:=l.map E.str) (items:=(strValues (numbered j.toks (l.map strOf))).toArray) (cg:=0) (tk:=j.toks+(l.map strOf).length) (ac3 (numbered_texts _ _))) λ aO dV m ej=>?_
   exact⟨aO,_,_,dV,m,ej,q⟩
 all_goals exact a8 h
set_option tactic.hygienic false
end
end
section
section
variable{T:c5}{K:Frag}{P:eW}{aA:Around}{aR:Value->Shared->Prop}{W:bg}{e:U}{j:Shared}{A:bo}
set_option tactic.hygienic true in
theorem Zf(Q:Inv T W e j){i:Nat}{a:List E}{cP:fp}{B:List E}{ai:List Value}(d:e.get i=some (.list a))(c:bK T W B ai)(h:Dq i a cP B A e):
  wpAny (model T.prog T.w) aA (PySem.call (cP.val T) (.ref (W.adr i)::ai)) (c3 T W A) aR j:=by
 refine fA (Q.listAt d) λ items n C ab=>?_
 have hsz:=ab.size
 have g:j.TypeIs (.ref _) _:=⟨_,C,rfl⟩
 rcases cP with _|_
 case append=>
  refine Jk h λ v D h=>?_;subst D
  refine bf h λ hz q=>ba (bK.one c) λ x m f=>?_;subst m
  have D:items.size<=sizeLine:=J [_,_] 0x100000028c803d0900146509481 L (aL hsz.symm) hz
  refine call_meets PySem.F.slot_list_append g PySem.F.entry_list_append (PySem.F.args_list_append_2 _ _) (list_append _ _ n x D) ⟨C,?_⟩
  have bT:=Q.xv d C (c2:=a++[v]) (λ D=>D.push x) (tk:=j.toks) (by rw[Array.toList_push];exact ab.append ⟨f,trivial⟩)
  exact⟨W,.none,_,de.refl _ _,bT,rfl,q⟩
 case pop=>
  refine aai h λ D h=>?_;subst D
  obtain rfl:=D5 c
  refine KC h λ v k h=>?_
  refine bf h λ hz q=>?_;clear h
  have D:items.size<=sizeLine:=J [_,_] 0x100000028c803d0900146509481 L (aL hsz.symm) hz
  have o:a≠[]:=by rintro rfl;exact a8 k
  rw[List.getLast?_eq_getElem?] at k
  refine ba (ab.get k) λ H b_ l7=>?_
  refine call_meets PySem.F.slot_list_pop g PySem.F.entry_list_pop (PySem.F.args_list_pop_1 _) (list_pop_last _ _ n H (by rw[<-hsz];simpa using b_:items[items.size-1]?=some H) D) ⟨C,?_⟩
  have bT:=Q.xv d C (c2:=a.dropLast) (λ D=>D.eraseIdxIfInBounds _) (tk:=j.toks) (by
   have:(items.eraseIdxIfInBounds (items.size-1)).toList=items.toList.take (items.size-1):=by
    unfold Array.eraseIdxIfInBounds
    rw[dif_pos (dj (J [_,_] 0xa1100811004009481 L (aL hsz) (List.length_pos_iff.mpr o))),Array.toList_eraseIdx,List.eraseIdx_eq_take_drop_succ,su (by exact d2 _ _),gT]
   rw[this,List.dropLast_eq_take,hsz]
   exact ab.take _)
  exact⟨W,v,_,de.refl _ _,bT,l7,q⟩
 case extend=>
  refine Jk h λ v D h=>?_;subst D
  refine ba (bK.one c) λ x p f=>?_;subst p
  refine lstK h λ dd b_ h=>?_
  refine bf h λ hz q=>fg (lZ Q f b_) λ b l di r I aU=>?_;clear f c;subst r
  have s:=aU.size
  simp only[c7] at hz
  refine call_meets PySem.F.slot_list_extend g PySem.F.entry_list_extend (PySem.F.args_list_extend_2 _ _) (AutoSeq1.list_extend_list_list_0 _ _ n b l di (by simp [Builtin.List.listTooLong,sizeLine];lia) (J [_,_,_] 0x4000000a3200f424005198a009481 L (aL hsz.symm) hz) (J [_,_,_,_] 0x4500000028c0720006384f424005198a009481 L (aL hsz.symm) hz (aL s.symm))) ⟨C,I,?_⟩
  exact⟨W,.none,_,de.refl _ _,Q.xv d C (λ D=>D++l) (tk:=j.toks) (by rw[Array.toList_append];exact ab.append aU),rfl,q⟩
 all_goals exact h.elim
theorem VS(S:St T K P)(Q:Inv T W e j){i:Nat}{az:List (List Nat)}{aV:List E}{cP:fp}{B:List E}{ai:List Value}(d:e.get i=some (.dict az aV))(l:bK T W B ai)(h:BE i az aV cP B A e):
  wpAny (model T.prog T.w) aA (PySem.call (cP.val T) (.ref (W.adr i)::ai)) (c3 T W A) aR j:=by
 rcases cP with _|_
 case setdefault=>
  refine qI (show lq _ _ from h) λ⟨k,v⟩ G h=>?_
  ·obtain rfl:=TA G
   refine bf h λ hz q=>?_;clear h
   refine jd (bK.two l) λ x H M m o=>?_;subst M;refine a7 m λ t N=>?_;clear m;clear l;subst N
   refine afx (And.intro (Q.lt i _ d) (Q.obj _ _ d)) λ O Z p f C I af r=>?_
   have s:j.heap.DictOf T.knd (W.adr i) f:=nJ.mpr ⟨p,C,I⟩
   have R:(W.adr i==sysModules)=false:=by
    refine jd (ro Q S.sys (v:=.ref i) (x:=.ref (W.adr i)) (az:=az) (B:=aV) ⟨rwl Q.n O,rfl⟩ (by unfold ig;simp only[d])) λ a agI U V z=>?_
    (injection U with a3;subst a3);exact V
   have c_:=BH (T:=T) (W:=W) k af r
   refine call_meetsIn PySem.F.slot_dict_setdefault s.typeIs PySem.F.entry_dict_setdefault (PySem.F.args_dict_setdefault_3 _ _ _) (kt_meets_setdefault T.knd (W.adr i) (by show((strOf k)==(strOf k))=true;exact eC _:T.knd.is (strOf k) (.str (strOf k) t)=true) R H) ⟨f,s,by rw[sL af,z9];exact J [_] 0x4000000a3203e810c81 L hz,λ r5 c=>?_,λ u aY X Y=>?_⟩
   ·split at q
    ·rename_i w b
     rw[b] at c_
     refine ba c_ λ D g y=>?_;clear c_
     rw[g] at c;obtain rfl:=cm c
     exact c3.now Q.tok y q
    ·rename_i b
     rw[b] at c_
     have c_:valueAt f (strOf k)=none:=c_
     rw[c_] at c;exact a8 c
   ·split at q
    ·rename_i w b
     rw[b] at c_
     refine ba c_ λ D g y=>?_;clear c_
     rw[g] at u;injection u
    ·exact⟨W,v,_,de.refl _ _,Q.Ks d X Y af r (keysNodup_of_isDictOf I) o,o,q⟩
 all_goals exact h.elim
set_option backward.match.sparseCases true in
def pM(T:c5)(P:eW)(aA:Around)(R:dq):Prop:=∀(k:Nat)(B:List E)(A:bo)(e:U),R k B A e->(∃o,P.fn k=some o)/\
 ∀(W:bg)(j:Shared)(ai:List Value)(aR:Value->Shared->Prop),Inv T W e j->bK T W B ai->
  codeAny (model T.prog T.w) aA (.call (.ref (T.jr k)) ⟨ai,[]⟩) (λ r a=>match r with|.ok (.ret v)=>c3 T W A v a|.ok _=>False|.error d=>aR d a) j
theorem ZY(S:St T K P){R:dq}(dt:pM T P aA R)(Q:Inv T W e j){p:E}{x:Value}{cP:fp}{B:List E}{ai:List Value}(a:RelV T W p x)(b:bK T W B ai)(h:bY R cP p B A e):
  wpAny (model T.prog T.w) aA (PySem.call (cP.val T) (x::ai)) (c3 T W A) aR j:=by
 refine ZV h (λ k d h=>?_) (λ z z d f q=>?_) (λ i ai D d q=>?_) λ i az aV D d q=>?_
 ·subst d;exact wpAny_call ((dt _ _ _ _ h).2 W j _ aR Q ⟨a,b⟩)
 ·subst d
  refine a7 a λ t g=>?_;clear a;subst g
  exact ac1 Q b f q
 ·subst D
  refine bf a λ z c=>?_;clear a;subst c
  exact Zf Q d b q
 ·subst D
  refine bf a λ z c=>?_;clear a;subst c
  exact VS S Q d b q
theorem WU(Q:Inv T W e j){v:E}{x:Value}(r:RelV T W v x):∃aO,gA W aO/\Inv T aO (gG v e).2 j/\RelV T aO (gG v e).1 x:=by
 refine WT (F:=λ s=>∃aO,gA W aO/\Inv T aO s.2 j/\RelV T aO s.1 x) ⟨W,de.refl _ _,Q,r⟩ (λ i B D d=>?_) λ i B D d=>?_
 ·subst D
  refine bf (id r) λ z a=>?_;subst a
  exact jd (Q.frozen d) λ items cg bT l ej=>⟨_,l,bT,ej⟩
 ·subst D
  refine bf (id r) λ z a=>?_;subst a
  exact fA (Q.obj _ _ d) λ items cg C I=>⟨W,de.refl _ _,Q,_,items,cg,rfl,C,I⟩
theorem Hu:∀{B:List E}{ai:List Value}{W:bg}{e:U},Inv T W e j->bK T W B ai->∃aO,gA W aO/\Inv T aO (hY B e).2 j/\bK T aO (hY B e).1 ai
 |[],[],W,e,Q,r=>⟨W,de.refl _ _,Q,r⟩
 |[],_::_,_,_,_,r=>r.elim
 |_::_,[],_,_,_,r=>r.elim
 |v::B,x::ai,W,e,Q,⟨ab,aU⟩=>by
  exact fz (WU Q ab) λ g aX a b=>fz (Hu a (aU.le aX)) λ c bS d f=>⟨c,aX.trans bS,d,b.le bS,f⟩
end
end
section
section
variable{T:c5}{K:Frag}{P:eW}{aA:Around}{aR:Value->Shared->Prop}{W:bg}{e:U}{j:Shared}{A:bo}{ev:j7}{eg:lI}{R:dq}{c:fD}{aJ:Env}
def mh(T:c5)(aA:Around)(ev:j7):Prop:=∀(c:fD)(d:Expr)(A:bo)(e:U)(W:bg)(j:Shared)(aJ:Env)(aR:Value->Shared->Prop),ev c d A e->Inv T W e j->fo T W c aJ->wpAny (model T.prog T.w) aA (eval d aJ) (c3 T W A) aR j
def pT(T:c5)(aA:Around)(eg:lI):Prop:=∀(c:fD)(d:Expr)(A:Bool->U->Prop)(e:U)(W:bg)(j:Shared)(aJ:Env)(aR:Value->Shared->Prop),eg c d A e->Inv T W e j->fo T W c aJ->wpAny (model T.prog T.w) aA (PySem.isTrue d aJ (eval d aJ)) (pQ T W A) aR j
theorem Eu(d:Expr)(r:List Expr)(aJ:Env)(h:∀x s,d≠.Starred x s):starEach (d::r) aJ=(false,eval d aJ)::starEach r aJ:=by
 rcases d with _|_<;>first|rfl|exact((h _ _) rfl).elim
theorem wm(a:mh T aA ev){cz:Pos}:∀{b:List Expr}{A:List E->U->Prop}{e:U}{W:bg}{j:Shared},qd ev c b A e->Inv T W e j->fo T W c aJ->wpAny (model T.prog T.w) aA (spliced (backTo cz (starEach b aJ))) (FC T W A) aR j
 |[],A,e,W,j,h,Q,d=>spliced_nil ⟨W,[],e,de.refl _ _,Q,trivial,h⟩
 |x::r,A,e,W,j,h,Q,d=>by
  have f:ev c x (λ v=>qd ev c r (λ B=>A (v::B))) e:=by
   rcases x with _|_<;>first|exact h|exact h.elim
  exact rwl ((Eu x r _ (by rintro H s rfl;exact h))) (spliced_cons (fk (a c x _ e W j _ aR f Q d) λ m v n H o aX g ab C=>xJ (wm a C g (d.le aX)) λ i B k dd p bS l aU q=>⟨i,v::B,k,aX.trans bS,l,⟨ab.le bS,aU⟩,q⟩))
theorem DJ{cz:Pos}{aJ:Env}:∀{args:List Expr},rR args=true->(backTo cz (starEach args aJ)).any (·.1)=false/\(backTo cz (starEach args aJ)).all (λ x=>!x.1)=true
 |[],_=>⟨rfl,rfl⟩
 |x::r,h=>by
  obtain⟨a,b⟩:=DJ (by rcases x with _|_<;>first|exact h|exact cq h)
  exact rwl ((Eu x r _ (by rintro H s rfl;exact cq h))) (⟨by show(false||_)=false;exact a,by show(true&&_)=true;exact b⟩)
set_option tactic.hygienic true in
theorem F3{p:Expr}{m:Str}{a:Sem Value}(h:w_ p=true):attributeBase p m aJ a=a:=by
 rcases p with _|_
 case Call f args b s=>
  rcases f with _|_
  case Name id q=>
   rcases args with _|_
   case nil=>(rcases b with _|_;(case nil=>exact cq h);(case cons _ _=>rfl))
   case cons _ _=>rfl
  all_goals rfl
 all_goals rfl
def nz(bh:Model)(K:Frag)(f:Value):Prop:=∀h,K.In h->∃k,(k=Keeper.frame\/k=Keeper.machine\/k=Keeper.boundFrame)/\Looks bh h (keeperOf f) k
theorem Ja{bh:Model}(id:String):nz bh K (.builtin id):=λ h z=>⟨.machine,.inr (.inl rfl),.now⟩
theorem YW{bh:Model}(id:String):nz bh K (.type id):=λ h z=>⟨.machine,.inr (.inl rfl),.now⟩
set_option tactic.hygienic true in
theorem Gy(S:St T K P){cz:Pos}{f:Value}{first:List Value}{args:List Expr}{b:Value->Shared->Prop}(c:rR args=true)
  (h:wpAny (model T.prog T.w) aA (spliced (backTo cz (starEach args aJ))) (λ ai a=>(K.In a.heap/\nz (model T.prog T.w) K f)/\wpAny (model T.prog T.w) aA (PySem.call f (first++ai)) b aR a) aR j):
  wpAny (model T.prog T.w) aA (callWith cz f first (backTo cz (starEach args aJ)) []) b aR j:=by
 refine callWith_of (P:=λ h=>K.In h/\nz _ K f) (by refine rwl ((DJ (cz:=cz) (aJ:=aJ) c).1) ?_;rfl) (λ h x=>x.2 h x.1) ?_
 rcases args with _|_
 case nil=>
  exact bZ (fN h (λ ai a C=>bZ (dN (jm (bZ (dN (bZ (dN (dN C)))))))) λ z z x=>x)
 case cons d r=>
  have e:∀H s,d≠.Starred H s:=by rintro H s rfl;exact cq c
  rw[Eu d r _ e] at h⊢
  exact evalArgs_plain h
theorem ZZ(S:St T K P){p:Expr}{m:Str}{b cz:Pos}{args:List Expr}{c:Value->Shared->Prop}(C:w_ p=true)(I:(b.endLine==cz.line)=true)(af:args.length<20)(g:rR args=true)
  (h:wpAny (model T.prog T.w) aA (eval p aJ) (λ d e=>∀bU,wpAny (model T.prog T.w) aA (getMethod d m bU) (λ a f=>wpAny (model T.prog T.w) aA (callWith cz a.1 a.2 (backTo cz (starEach args aJ)) []) c aR f) aR e) aR j):
  wpAny (model T.prog T.w) aA (eval (.Call (.Attribute p m b) args [] cz) aJ) c aR j:=by
 have i:methodCallForm (args.length+([]:List Keyword).length) (backTo cz (starEach args aJ)) (backToKw cz (keywordEach [] aJ))=true:=by
  unfold methodCallForm
  refine rwl ((DJ g).2) ?_
  rw[fi (by exact J [_] 0xf082200802200000504111001 L af)];rfl
 (rewrite[arm_eval_Call];refine rwl ((F3 C)) ?_)
 refine bZ (fN h (λ d e k=>bZ (pY ?_)) λ z z x=>x)
 unfold methodCall
 refine rwl i (bZ (jm ?_))
 unfold calleeOf
 refine fN (k _) (λ a f l=>?_) λ z z x=>x
 unfold methodCallPos
 exact rwl I (bZ (dN l))
set_option tactic.hygienic true
theorem ZU(S:St T K P)(g:mh T aA ev)(dt:pM T P aA R)(rC:∀k o,P.fn k=some o->nz (model T.prog T.w) K (.ref (T.jr k))){p:Expr}{m:Str}{i cz:Pos}{args:List Expr}(C:w_ p=true)(I:(i.endLine==cz.line)=true)(af:args.length<20)(l:rR args=true)
  (h:ev c p (λ a b=>match zF P b a m with
   |some cP=>qd ev c args (λ B n=>bY R cP a B A n) b
   |none=>False) e) (Q:Inv T W e j) (d:fo T W c aJ):
  wpAny (model T.prog T.w) aA (eval (.Call (.Attribute p m i) args [] cz) aJ) (c3 T W A) aR j:=by
 refine ZZ S C I af l (fk (g c p _ e W j _ aR h Q d) λ u a b x v aX r ab f bU=>?_)
 split at f
 ·rename_i cP s
  refine Xq S r s ab (Gy S l (xJ (wm g f r (d.le aX)) λ y B n ai E bS t aU q=>⟨⟨t.pd S,?_⟩,?_⟩))
  ·clear s;rcases cP with _|_
   case fn k=>
    exact a7 (dt k _ _ _ q).1 (rC k)
   all_goals exact Ja _
  ·exact fN (ZY S dt t (ab.le bS) aU q) (λ z z D=>D.le (aX.trans bS)) λ z z D=>D
 ·exact f.elim
theorem Vl(S:St T K P)(dt:pM T P aA R)(wz:∀ay O,pM T P (aA.under (.builtin "type.__call__" ⟨.ref ay::O,[]⟩)) R)(fa:aA.handled=none)
  (Q:Inv T W e j) {f:E} {x:Value} {B:List E} {ai:List Value} (u:RelV T W f x) (y:bK T W B ai) (h:cJ P R f B A e):wpAny (model T.prog T.w) aA (PySem.call x ai) (c3 T W A) aR j:=by
 rcases f with _|_
 case fn k=>
  have u:x=.ref (T.jr k):=u
  subst u
  exact wpAny_call ((dt _ _ _ _ h).2 W j ai aR Q y)
 case cls c=>
  have u:x=.ref (T.ca c):=u
  subst u
  refine qI (show lq _ _ from h) λ k C h=>?_
  ·have I:=S.YI c k C
   have ay:=S.cls c I
   refine bf (ay.init k C) λ U V=>?_
   have X:=Q.pd S
   obtain⟨s,g,o,t,os⟩:=j
   refine wpAny_call (make_core (makes_of X ay.makes) (looks_findIn X U) (λ self=>bind_fn X self V) (.inl rfl) ?_)
   have hsz:(s.push emptyDict).objs.size=s.objs.size+1:=Heap.size_push ..
   refine bf (Q.push emptyDict (tk:=t).z1 (instObj (T.ca c) s.objs.size) rfl (tk:=t)) λ G bS=>?_
   have ag:((s.push emptyDict).push (instObj (T.ca c) s.objs.size)).get? (s.objs.size+1)=some (instObj (T.ca c) s.objs.size):=by refine(rwr hsz ?_);exact rf _ rfl
   dsimp only at G bS
   rw[hsz] at G bS
   have Y:(W.k0 (s.objs.size+1) (instObj (T.ca c) s.objs.size)).F s.objs.size=none:=by
    show(if s.objs.size=s.objs.size+1 then _ else W.F s.objs.size)=none
    rw[a9 (λ Z=>bC _ (J [_] 71537110618113 L (aL Z.symm)))];exact Q.tf
   have SJ:=G.new (a:=s.objs.size+1) (m:=s.objs.size) (p:=.inst c [] []) ⟨⟨I,λ k C=>(gh C).elim⟩,by
     show(if(if W.n=W.n then s.objs.size+1 else _)=s.objs.size+1 then some (instObj (T.ca c) s.objs.size) else _)=some (instObj (T.ca c) (if W.n=W.n then s.objs.size else _))
     exact rwl (aT rfl) (rwl (aT rfl) (rwl ((aT rfl)) rfl)),emptyDict,#[],0,by
     show((s.push emptyDict).push _).get? (if W.n=W.n then s.objs.size else _)=_
     refine rwl ((aT rfl)) ?_;exact Heap.get?_push_of_some _ (rf _ rfl),rfl,rfl,trivial,trivial⟩ Y Q.tg (λ i x d m=>e' (Q.vb d m))
   have N:RelV T ((W.k0 (s.objs.size+1) (instObj (T.ca c) s.objs.size)).new (s.objs.size+1) s.objs.size) (.ref e.next) (.ref (s.objs.size+1)):=G.z2 _ _
   have l:gA W ((W.k0 (s.objs.size+1) (instObj (T.ca c) s.objs.size)).new (s.objs.size+1) s.objs.size):=bS.trans (bg.th (λ z=>False) (W.k0 (s.objs.size+1) (instObj (T.ca c) s.objs.size)) (s.objs.size+1) s.objs.size)
   refine codeAny_mono ((wz (T.ca c) ai _ _ _ _ h).2 _ _ (.ref (s.objs.size+1)::ai) aR SJ ⟨N,y.le l⟩) λ r bu D=>?_
   rcases r with d|(_|_|_|v)
   ·exact D
   ·exact D.elim
   ·exact D.elim
   ·exact D.elim
   ·obtain⟨aO,r5,M,dV,pN,ej,q⟩:=D
    rcases r5 with _|_
    case none=>
     exact⟨ej,aO,.ref e.next,M,l.trans dV,pN,N.le dV,q⟩
    all_goals exact q.elim
 case bi b=>
  refine bf u λ fB q1=>?_;clear u;subst fB;clear q1
  exact qI (show lq _ _ from h) λ v=>US Q fa y
 case typ t=>
  subst u
  have h:(match r4 t B with|some v=>A v e|none=>_):=h
  rcases H:r4 t B with _|v
  ·rw[H] at h
   refine qI h λ ai d h=>?_
   obtain⟨rfl,rfl⟩:=adM d
   exact Zh Q y h.1 h.2
  ·rw[H] at h;exact adN Q y H h
 all_goals exact h.elim
theorem Vk(S:St T K P)(g:mh T aA ev)(dt:pM T P aA R)(wz:∀ay u,pM T P (aA.under (.builtin "type.__call__" ⟨.ref ay::u,[]⟩)) R)(fa:aA.handled=none)
  (rC:∀k o,P.fn k=some o->nz (model T.prog T.w) K (.ref (T.jr k))) (wI:∀c k,P.init c=some k->nz (model T.prog T.w) K (.ref (T.ca c))) {f:Expr} {cz:Pos} {args:List Expr} (v:∀p m s,f≠.Attribute p m s) (y:rR args=true)
  (h:ev c f (λ a i=>qd ev c args (λ B l=>cJ P R a B A l) i) e) (Q:Inv T W e j) (d:fo T W c aJ):
  wpAny (model T.prog T.w) aA (eval (.Call f args [] cz) aJ) (c3 T W A) aR j:=by
 have C:eval (.Call f args [] cz) aJ=(do callWith cz (<-eval f aJ) [] (backTo cz (starEach args aJ)) []):=by
  rcases f with _|_<;>first|rfl|exact((v _ _ _) rfl).elim
 refine rwl C ?_
 refine bZ (fk (g c f _ e W j aJ aR h Q d) λ J a i x L aX E ab n=>?_)
 refine Gy S y ?_
 refine xJ (wm g n E (d.le aX)) λ M B l ai N bS r aU q=>⟨⟨r.pd S,?_⟩,?_⟩
 ·clear n;rcases a with _|_
  case fn k=>
   have ab:x=.ref (T.jr k):=ab
   subst ab
   refine a7 ((dt k B _ _ q).1) λ o F=>?_
   exact rC k o F
  case cls c=>
   have ab:x=.ref (T.ca c):=ab
   subst ab
   exact qI (show lq _ _ from q) λ k G z=>wI c k G
  case bi b=>refine bf ab λ H I=>?_;clear ab;subst H;clear I;exact Ja _
  case typ t=>have ab:x=.type t.name:=ab;subst ab;exact YW _
  all_goals exact q.elim
 ·exact fN (Vl S dt wz fa r (ab.le bS) aU q) (λ z z D=>D.le (aX.trans bS)) λ z z D=>D
set_option tactic.hygienic false
end
end
section
section
variable{T:c5}{K:Frag}{P:eW}{aA:Around}{aR:Value->Shared->Prop}{W:bg}{e:U}{j:Shared}{A:bo}{ev:j7}{eg:lI}{R:dq}{c:fD}{aJ:Env}
def vS(ev:j7):Prop:=∀c d A e a,behindInMarks a d=true->ev c d A e->False
theorem yH(S:St T K P)(p:mh T aA ev)(t:vS ev)(b6:aA.units+40<cLine){cz:Pos}:∀{l:List CmpOp}{g:List Expr}{a:E}{x:Value}{A:Bool->U->Prop}{e:U}{W:bg}{j:Shared},
  yL ev c a l g A e->RelV T W a x->Inv T W e j->fo T W c aJ->
  wpAny (model T.prog T.w) aA (compareChain cz x l (markedEach l g (evalEach g aJ))) (c3 T W λ v M=>∃b,v=.bool b/\A b M) aR j/\
  wpAny (model T.prog T.w) aA (testChain cz x l (markedEach l g (evalEach g aJ))) (pQ T W A) aR j
 |[],_,_,_,_,_,_,_,h,_,_,_=>by cases‹List _›<;>exact h.elim
 |[_],[],_,_,_,_,_,_,h,_,_,_=>h.elim
 |_::_::_,[],_,_,_,_,_,_,h,_,_,_=>h.elim
 |[n],[d],a,x,A,e,W,j,h,bM,Q,b1=>by
  have I:behindInMarks n d=false:=by
   rcases q:behindInMarks n d with _|_
   case false=>rfl
   case true=>exact(t c d _ e n q h).elim
  have u:markedEach [n] [d] (evalEach [d] aJ)=[eval d aJ]:=by
   show[markedBehindIn n d _]=_
   rw[markedBehindIn_of_false I]
  rw[u]
  have go:∀{C:Value->Shared->Prop},(∀f m b,gA W f->(∃i,Inv T f i m/\A b i)->C (.bool b) m)->wpAny _ aA _ (λ H=>wpAny _ aA _ C aR) aR j:=λ dt=>by
   refine fk (p c d _ e W j _ aR h Q b1) λ f b i H m aX k ab q=>?_
   split at q
   ·rename_i r V
    exact Br S k b6 V (bM.le aX) ab λ tk=>dt f _ r aX ⟨i,k.tok,q⟩
   ·exact q.elim
  constructor
  ·refine chain_last (go λ f m b aX ⟨i,k,q⟩=>⟨f,.bool b,i,aX,k,rfl,b,rfl,q⟩)
  ·refine bZ (jm (fN (go λ f m b aX ⟨i,k,q⟩=>wpAny_truthy_bool ⟨f,i,aX,k,q⟩) (λ b L J=>bZ (pY (bZ (wpAny_operate' (fN J (λ v N=>jm) λ z z x=>x))))) λ z z x=>x))
 |_::_::_,[_],_,_,_,_,_,_,h,_,_,_=>h.elim
 |[_],_::_::_,_,_,_,_,_,_,h,_,_,_=>h.elim
 |n::y::l,d::o::g,a,x,A,e,W,j,h,bM,Q,b1=>by
  have h:=h
  have u:markedEach (n::y::l) (d::o::g) (evalEach (d::o::g) aJ)=eval d aJ::markedEach (y::l) (o::g) (evalEach (o::g) aJ):=by
   rcases l with _|_<;>rfl
  obtain⟨F,G,B⟩:∃F G,markedEach (y::l) (o::g) (evalEach (o::g) aJ)=F::G:=by
   rcases l with _|_
   case nil=>(rcases g with _|_;(case nil=>exact cv _ _ rfl);(case cons _ _=>exact cv _ _ rfl))
   case cons _ _=>exact cv _ _ rfl
  rw[u,B]
  constructor
  ·refine chain_link (fk (p c d _ e W j _ aR h Q b1) λ f b i H m aX k ab q=>?_)
   split at q
   ·rename_i r V
    refine Br S k b6 V (bM.le aX) ab λ tk=>?_
    have s:Inv T f _ {m with toks:=tk}:=k.tok
    refine wpAny_truthy_bool ?_
    rcases r with _|_
    case true=>
     rw[<-B]
     exact fN (yH S p t b6 q ab s (b1.le aX)).1 (λ z z D=>D.le aX) λ z z D=>D
    case false=>exact⟨f,.bool _,i,aX,s,rfl,false,rfl,q⟩
   ·exact q.elim
  ·refine test_link (fk (p c d _ e W j _ aR h Q b1) λ f b i H m aX k ab q=>?_)
   split at q
   ·rename_i r V
    refine Br S k b6 V (bM.le aX) ab λ tk=>?_
    have s:Inv T f _ {m with toks:=tk}:=k.tok
    refine wpAny_truthy_bool ?_
    rcases r with _|_
    case true=>
     rw[<-B]
     exact fN (yH S p t b6 q ab s (b1.le aX)).2 (λ z z D=>D.le aX) λ z z D=>D
    case false=>exact⟨f,i,aX,s,q⟩
   ·exact q.elim
set_option tactic.hygienic true in
theorem Bi(a:mh T aA ev){cz:Pos}{f:BoolOp}:∀{i:List Expr}{A:bo}{e:U}{W:bg}{j:Shared},yC ev c f i A e->Inv T W e j->fo T W c aJ->wpAny (model T.prog T.w) aA (PySem.boolOp cz f (evalEach i aJ)) (c3 T W A) aR j
 |[],_,_,_,_,h,_,_=>h.elim
 |[d],A,e,W,j,h,Q,b1=>a c d A e W j _ aR h Q b1
 |d::m::i,A,e,W,j,h,Q,b1=>by
  refine bZ (fk (a c d _ e W j _ aR h Q b1) λ k v l H n aX g ab q=>?_)
  rcases v with _|_
  case bool b=>
   subst ab
   refine bZ (pY (bZ (jm (wpAny_truthy_bool ?_))))
   rcases f with _|_<;>rcases b with _|_
   ·exact dN ⟨k,.bool _,l,aX,g,rfl,q⟩
   ·exact fN (Bi a q g (b1.le aX)) (λ z z D=>D.le aX) λ z z D=>D
   ·exact fN (Bi a q g (b1.le aX)) (λ z z D=>D.le aX) λ z z D=>D
   ·exact dN ⟨k,.bool _,l,aX,g,rfl,q⟩
  all_goals clear h;rcases f with _|_<;>exact q.elim
theorem AY(f:pT T aA eg){g:BoolOp}:∀{i:List Expr}{A:Bool->U->Prop}{e:U}{W:bg}{j:Shared},AX eg c g i A e->Inv T W e j->fo T W c aJ->wpAny (model T.prog T.w) aA (allTrue g i aJ) (pQ T W A) aR j
 |[],A,e,W,j,h,Q,b1=>dN ⟨W,e,de.refl _ _,Q,h⟩
 |d::i,A,e,W,j,h,Q,b1=>by
  refine bZ (r3 (f c d _ e W j _ aR h Q b1) λ k b l m aX a q=>?_)
  clear h;rcases g with _|_<;>rcases b with _|_
  ·exact dN ⟨k,l,aX,a,q⟩
  ·exact fN (AY f q a (b1.le aX)) (λ z z D=>D.le aX) λ z z D=>D
  ·exact fN (AY f q a (b1.le aX)) (λ z z D=>D.le aX) λ z z D=>D
  ·exact dN ⟨k,l,aX,a,q⟩
set_option tactic.hygienic true in
theorem adF(S:St T K P)(n:mh T aA ev)(k:pT T aA eg)(s:vS ev)(b6:aA.units+40<cLine):pT T aA (K7 ev eg):=by
 intro c d A e W j aJ aR h Q b1
 have plain:∀{d:Expr},ev c d (λ v g=>match v with|.bool b=>A b g|_=>False) e->wpAny _ aA _ (λ v=>wpAny (model T.prog T.w) aA (truthy v) (pQ T W A) aR) aR j:=λ{d} h=>by
  refine fk (n c d _ e W j _ aR h Q b1) λ i v g H m aX f ab q=>?_
  rcases v with _|_
  case bool b=>
   subst ab
   exact wpAny_truthy_bool ⟨i,g,aX,f,q⟩
  all_goals exact q.elim
 rcases d with _|_
 case UnaryOp o x cz=>
  rcases o with _|_
  case Not=>
   exact wpAny_isTrue_Not (r3 (k c x _ e W j _ aR h Q b1) λ i b g m aX f q=>⟨i,g,aX,f,q⟩)
  all_goals exact wpAny_isTrue_value (plain h) rfl
 case BoolOp o u cz=>exact wpAny_isTrue_BoolOp (AY k h Q b1)
 case IfExp t b p cz=>
  refine bZ (r3 (k c t _ e W j _ aR h Q b1) λ i r g m aX f q=>?_)
  rcases r with _|_
  case true=>exact fN (k c b _ _ i m _ aR q f (b1.le aX)) (λ z z D=>D.le aX) λ z z D=>D
  case false=>exact fN (k c p _ _ i m _ aR q f (b1.le aX)) (λ z z D=>D.le aX) λ z z D=>D
 case Compare l y u cz=>
  exact bZ (fk (n c l _ e W j _ aR h Q b1) λ i a g x m aX f ab q=>fN (yH S n s b6 q ab f (b1.le aX)).2 (λ z z D=>D.le aX) λ z z D=>D)
 all_goals exact wpAny_isTrue_value (plain h) rfl
end
end
section
section
variable{T:c5}{K:Frag}{P:eW}{aA:Around}{aR:Value->Shared->Prop}{W:bg}{e:U}{j:Shared}
theorem Inv.extBut(Q:Inv T W e j){a:Addr}{p:Obj}{f:Heap}{tk:Nat}(g:W.G a=some p)(c:∀b x,b≠a->j.heap.get? b=some x->f.get? b=some x):Inv T (W.eT a none) e {j with heap:=f,toks:=tk}:=by
 have ne:∀b x,W.F b=some x->b≠a:=λ b x d q=>by rw[q,Q.apart a p g] at d;exact a8 d
 have h:∀i x,e.get i=some x->kY x->W.fq i≠a:=λ i x d m q=>by have:=(Q.free i x d m).2;rw[q,g] at this;injection this
 refine⟨λ b x d=>c b x (ne b x d) (Q.fy b x d),λ b x d=>?_,λ b x d=>?_,Q.base,Q.n,Q.lt,λ i x d=>((Q.obj i x d).keeps λ m H=>c _ _ (h i x d m)).le (bg.gx W a _) rfl rfl,λ i x d m=>⟨(Q.free i x d m).1,?_⟩,Q.inj,Q.gens,Q.os⟩
 ·have d:(if b=a then none else W.G b)=some x:=d
  split at d
  ·injection d
  ·rename_i q;exact c b x q (Q.gq b x d)
 ·have d:(if b=a then none else W.G b)=some x:=d
  split at d
  ·injection d
  ·exact Q.apart b x d
 ·show(if W.fq i=a then none else W.G _)=none
  split
  ·rfl
  ·exact(Q.free i x d m).2
def oL(v:E)(x:Value)(i:Nat)(p:Obj):Prop:=match v with
 |.tup _=>∃a,x=.ref a/\p.cls=.type "tuple_iterator"/\p.data=.fields #[.ref a,.int i 0]
 |.str w=>∃t,x=.str (strOf w) t/\p.cls=.type "str_ascii_iterator"/\p.data=.fields #[.str (strOf w) t,.int i 0]
 |.rng a b c=>p={cls:=.type "range_iterator",dict:=none,data:=.fields #[rawInt (a+c*i),rawInt (Builtin.Range.rangeSize a b c-i),rawInt c],slots:=#[]}
 |_=>∃a,x=.ref a/\p.cls=.type "list_iterator"/\p.data=.fields #[.ref a,.int i 0]
theorem KP{v:E}{items:List E}{M:U}(h:hy e v=some items)(a:hQ v items M):hy M v=some items:=by
 rcases v with _|_<;>first|exact h|exact a
theorem Kb{a b c:Int}(d:c=1\/c=-1):Builtin.Range.rangeSize a b c=(j0 a b c).length:=by
 unfold j0 Builtin.Range.rangeSize
 rcases d with rfl|rfl
 ·simp;lia
 ·simp;lia
theorem abH{a b c:Int}{i:Nat}{v:E}(e:c=1\/c=-1)(h:(j0 a b c)[i]?=some v):v=.int (a+c*i):=by
 unfold j0 at h
 rcases e with rfl|rfl
 ·simp only[if_true,kb,gS] at h
  refine ba h λ k d f=>?_;clear h;subst f
  obtain⟨_,rfl⟩:=iz.mp d
  simp
 ·simp only[show¬-1=1 by decide,if_false,if_true,kb,gS] at h
  refine ba h λ k d g=>?_;clear h;subst g
  obtain⟨_,rfl⟩:=iz.mp d
  simp;lia
theorem Kd{c:Int}(h:(c==1||c==-1)=true):c=1\/c=-1:=(Bool.or_eq_true_iff.mp h).imp eq_of_beq eq_of_beq
theorem abK{a b c:Int}(e:-1000000000<=a/\a<=1000000000)(f:-1000000000<=b/\b<=1000000000)(d:c=1\/c=-1):(j0 a b c).length<=2000000000:=by
 unfold j0
 rcases d with rfl|rfl<;>simp<;>omega
theorem abN{a b c:Int}(e:-1000000000<=a/\a<=1000000000)(f:-1000000000<=b/\b<=1000000000)(d:c=1\/c=-1):Builtin.Range.small a b c=true:=by
 have k:=abK e f d
 unfold Builtin.Range.small Builtin.Range.rangeFitsLong
 rw[Kb d]
 generalize (j0 a b c).length=n at k
 rcases d with rfl|rfl<;>simp<;>omega
theorem abJ{D:Int}{n i:Nat}(h:D=n)(a:i<n):0<D-(i:Int):=by lia
theorem abL{D:Int}{n i:Nat}(h:D=n)(a:n<=i):D-(i:Int)<=0:=by lia
set_option tactic.hygienic true
theorem I2(Q:Inv T W e j){v:E}{x:Value}{items:List E}{R:Value->Shared->Prop}(g:RelV T W v x)(h:hy e v=some items)
  (dt:∀p,oL v x 0 p->Inv T (W.eT j.heap.objs.size (some p)) e {j with heap:=j.heap.push p}->R (.ref j.heap.objs.size) {j with heap:=j.heap.push p}):wpAny (model T.prog T.w) aA (pyIter x) R aR j:=by
 have lists:∀{l:Addr}{m:Array _}{n:Nat},x=.ref l->IsL j.heap l m n->(∀p,p.cls=.type "list_iterator"->p.data=.fields #[.ref l,.int 0 0]->oL v x 0 p)->wpAny (model T.prog T.w) aA (pyIter x) R aR j:=by
  intro l m n d o q
  subst d
  exact wpAny_pyIter_list ⟨_,o,rfl,_,rfl⟩ (dt _ (q _ rfl rfl) (Q.qL _ rfl))
 rcases v with _|_
 case tup B=>
  refine fg g λ a m n s f r=>?_;clear g;subst s
  exact wpAny_pyIter_tuple ⟨_,Q.fy _ _ f,rfl,_,rfl⟩ (dt _ ⟨a,rfl,rfl,rfl⟩ (Q.qL _ rfl))
 case lst B=>
  exact fg (lZ Q g h) λ a m n d o z=>lists d o λ p C I=>⟨a,d,C,I⟩
 case str w=>
  refine bf (qu h) λ c z=>a7 g λ t u=>?_;subst u
  exact wpAny_pyIter_ascii (by rw[<-Array.all_toList];exact c) (dt _ ⟨t,rfl,rfl,rfl⟩ (Q.qL _ rfl))
 case rng a b c=>
  refine bf (qu h) λ k z=>AA g λ r A hD D y f=>?_;clear g;subst y
  refine wpAny_pyIter_range (Q.fy _ _ f) (abN (rz (i6 (i6 k))) (rz (ke (i6 k))) (Kd (ke k))) (dt _ ?_ (Q.qL _ rfl))
  show _=_
  simp
 case ref i=>
  exact fg (lZ Q g h) λ a m n d o z=>lists d o λ p C I=>⟨a,d,C,I⟩
 all_goals exact a8 h
theorem JE(Q:Inv T W e j)(fa:aA.handled=none){v:E}{x:Value}{items:List E}{D:Addr}{i:Nat}{p:Obj}{R:Option Value->Shared->Prop}(F:RelV T W v x)(h:hy e v=some items)(o:W.G D=some p)(u:oL v x i p)
  (dt:∀a,items[i]?=some a->∀H fs g tk,oL v x (i+1) fs->Inv T (W.eT D (some fs)) e {j with heap:=g,toks:=tk}->RelV T W a H->R (some H) {j with heap:=g,toks:=tk})
  (N:items[i]?=none->∀g tk,Inv T (W.eT D none) e {j with heap:=g,toks:=tk}->R none {j with heap:=g,toks:=tk}):wpAny (model T.prog T.w) aA (pyNext (.ref D)) R aR j:=by
 have hit:=Q.gq _ _ o
 have lists:∀{l:Addr}{A:Array _}{n:Nat},x=.ref l->IsL j.heap l A n->bK T W items A.toList->p.cls=.type "list_iterator"->p.data=.fields #[.ref l,.int i 0]->
   (∀p,p.cls=.type "list_iterator"->p.data=.fields #[.ref l,.int (i+1:Nat) 0]->oL v x (i+1) p)->wpAny (model T.prog T.w) aA (pyNext (.ref D)) R aR j:=by
  intro l A n d J r C I O
  have K:j.heap.IsList l _:=⟨_,J,rfl,_,rfl⟩
  rcases q:items[i]? with _|_
  case some a=>
   refine ba (r.get q) λ H b_ l7=>wpAny_pyNext_list_item ⟨p,hit,C,I⟩ K (by simpa using b_) λ g ⟨fs,cV,dG,L⟩ m=>dt a q H fs g _ (O fs dG L) (Q.qR o m cV) l7
  case none=>
   refine wpAny_pyNext_list_end fa ⟨p,hit,C,I⟩ K ?_ λ g m=>N q g _ (Q.extBut o m)
   rw[List.getElem?_eq_none_iff] at q
   exact Array.getElem?_eq_none (by rw[<-r.size];exact q)
 cases v with
 |tup B=>
  refine fz u λ eL s C I=>fg F λ a A n P f r=>?_;subst P
  cases s
  cases h
  have K:j.heap.IsTuple eL _:=⟨_,Q.fy _ _ f,rfl,_,rfl⟩
  rcases q:items[i]? with _|_
  case some w=>
   refine ba (r.get q) λ H b_ l7=>wpAny_pyNext_tuple_item ⟨p,hit,C,I⟩ K (by simpa using b_) λ g ⟨fs,cV,dG,L⟩ m=>dt w q H fs g _ ⟨eL,rfl,dG,L⟩ (Q.qR o m cV) l7
  case none=>
   refine wpAny_pyNext_tuple_end fa ⟨p,hit,C,I⟩ K ?_ λ g m=>N q g _ (Q.extBut o m)
   rw[List.getElem?_eq_none_iff] at q
   exact Array.getElem?_eq_none (by rw[<-r.size];exact q)
 |lst B=>
  refine fz u λ eL s C I=>?_;clear u
  refine fg (lZ Q F h) λ a A n M J r=>?_
  subst s
  (injection M with a3;subst a3)
  exact lists rfl J r C I λ p C I=>⟨_,rfl,C,I⟩
 |str w=>
  refine fz u λ X s C I=>?_;clear u
  refine a7 F λ t S=>?_;clear F;clear S;cases s
  refine bf (qu h) λ z h=>?_
  obtain rfl:=c' h
  rcases q:w[i]? with _|_
  case some c=>
   have U:(strOf w).cps[i]?=some c:=by simpa [strOf] using q
   exact wpAny_pyNext_ascii_item ⟨p,hit,C,I⟩ U λ g ⟨fs,cV,dG,L⟩ m=>dt (.str _) (by rw[kb,q];rfl) _ fs g _ ⟨_,rfl,dG,L⟩ (Q.qR o m cV) ⟨_,rfl⟩
  case none=>
   exact wpAny_pyNext_ascii_end fa ⟨p,hit,C,I⟩ (by simpa [strOf] using q) λ g m=>N (by rw[kb,q];rfl) g _ (Q.extBut o m)
 |rng a b c=>
  refine bf (qu h) λ k h=>?_
  have V:=c' h;subst V
  have k:=Kd (ke k)
  subst u
  have hz:=Kb (a:=a) (b:=b) k
  rcases q:(j0 a b c)[i]? with _|_
  case some w=>
   refine wpAny_pyNext_range_item hit (abJ hz (iz.mp q).1) λ g cV m=>dt w q _ _ g _ ?_ (Q.qR o m cV) (by rw[abH k q];exact⟨_,rfl⟩)
   show _=_
   have s:a+c*i+c=a+c*(i+1:Nat):=by rw[Int.natCast_succ,Int.mul_add,Int.mul_one,Int.add_assoc]
   have M:Builtin.Range.rangeSize a b c-i-1=Builtin.Range.rangeSize a b c-(i+1:Nat):=Int.sub_sub ..
   rw[s,M]
  case none=>exact wpAny_pyNext_range_end fa hit (abL hz (List.getElem?_eq_none_iff.mp q)) λ g m=>N q g _ (Q.extBut o m)
 |ref y=>
  refine fz u λ eL s C I=>?_;clear u
  refine fg (lZ Q F h) λ a A n M J r=>?_
  subst s
  (injection M with a3;subst a3)
  exact lists rfl J r C I λ p C I=>⟨_,rfl,C,I⟩
 |_=>exact a8 h
set_option tactic.hygienic false
end
end
section
theorem Ce{H x:Str}{u:Option E}{r:Loc}:getL ((H,u)::r) x=if x=H then u else getL r x:=by
 show(match x==H with|true=>u|false=>getL r x)=_
 by_cases h:x=H
 ·rw[h,eC,aT rfl]
 ·rw[fF.mpr h,a9 h]
theorem ab_{H x:Str}{u:Option E}{r:Loc}{v:E}:l_ ((H,u)::r) x v=if x=H then(H,some v)::r else(H,u)::l_ r x v:=by
 show(match x==H with|true=>(H,some v)::r|false=>(H,u)::l_ r x v)=_
 by_cases h:x=H
 ·rw[h,eC,aT rfl]
 ·rw[fF.mpr h,a9 h]
theorem uP{v:E}{x D:Str}{w:E}{ak:Loc}:getL (l_ ak x v) D=some w->(D=x/\w=v)\/(D≠x/\getL ak D=some w):=by
 induction ak with
 |nil=>exact a8
 |cons s r a=>
  intro h
  rw[ab_] at h
  rw[Ce]
  by_cases q:x=s.1
  ·rw[aT q,Ce] at h
   by_cases k:D=s.1
   ·rw[aT k] at h;exact .inl ⟨k.trans q.symm,c' h.symm⟩
   ·rw[a9 k] at h;rw[a9 k];exact .inr ⟨λ d=>k (d.trans q),h⟩
  ·rw[a9 q,Ce] at h
   by_cases k:D=s.1
   ·rw[aT k] at h;rw[aT k];exact .inr ⟨λ d=>q (d.symm.trans k),h⟩
   ·rw[a9 k] at h;rw[a9 k];exact a h
section
variable{T:c5}{K:Frag}{P:eW}{aA:Around}{aR:Value->Shared->Prop}{W aO:bg}{e:U}{j:Shared}{c:fD}{aJ:Env}{A:bo}{ev:j7}{eg:lI}
theorem fo.wX{fr:Addr->Prop}(d:fo T W c aJ)(l:de fr W aO)(C:¬fr aJ.locals)(I:∀x a,aJ.cells.lookup x=some a->¬fr a):fo T aO c aJ:=by
 refine⟨d.kind,d.names,d.ok,d.nY,d.oX,?_,λ x v g h=>?_,λ x v g h=>?_⟩
 ·exact jd d.loc λ p m bG e f=>cv p m ⟨(l.G _ C).trans bG,e,λ x v a b=>ba (f x v a b) λ H s q=>⟨H,s,q.le l⟩⟩
 ·exact j5 (d.cell x v g h) λ a p H bG e f i=>⟨a,p,H,bG,(l.G _ (I x a bG)).trans e,f,i.le l⟩
 ·exact j5 (d.free x v g h) λ a p H bG e f i=>⟨a,p,H,bG,(l.G _ (I x a bG)).trans e,f,i.le l⟩
theorem fo.aar(d:fo T W c aJ):(aJ.scope.kind==.class||(aJ.scope.kind==.module&&aJ.locals !=aJ.globals))=false:=by
 rw[d.kind];rfl
theorem KR(d:fo T W c aJ)(Q:Inv T W e j){x:Str}{v:E}{H:Value}(k:c.sc.names.lookup x=some .local)(n:∀D a,aJ.cells.lookup D=some a->a≠aJ.locals)(r:RelV T W v H){R:Unit->Shared->Prop}{bh:Model}
  (dt:∀aO o,de (·=aJ.locals) W aO->Inv T aO e o->fo T aO {c with loc:=l_ c.loc x v} aJ->R () o):wpAny bh aA (storeName aJ x H) R aR j:=by
 refine jd d.loc λ p m bG s t=>?_
 refine wpAny_storeName_local ((d.names x _ k).resolve_right λ D=>(NameKind.noConfusion D.1)) (s.ns (Q.gq _ _ bG)) (λ A Y u=>ba (DN Y) λ fs cV dG=>?_) d.aar
 have l:=bg.gx W aJ.locals (some fs)
 refine dt _ _ l (Q.qR bG u cV) ⟨d.kind,d.names,d.ok,d.nY,d.oX,(cv fs _ ⟨aT rfl,dG,λ D w C I=>?_⟩),λ D w C I=>?_,λ D w C I=>?_⟩
 ·rcases uP I with⟨rfl,rfl⟩|⟨q,I⟩
  ·exact⟨H,aT rfl,r.eT⟩
  ·exact ba (t D w C I) λ b af y=>⟨b,by exact rwl (a9 q) af,y.eT⟩
 ·rcases uP I with⟨rfl,rfl⟩|⟨q,I⟩
  ·have C:=k▸C;cases C
  ·exact j5 (d.cell D w C I) λ a p b f g h i=>gw a p b ⟨f,(l.G a (n D a f)).trans g,h,i.eT⟩
 ·exact j5 (d.free D w C I) λ a p b f g h i=>gw a p b ⟨f,(l.G a (n D a f)).trans g,h,i.eT⟩
def iP(aJ:Env)(a:Addr):Prop:=a=aJ.locals\/∃x,aJ.cells.lookup x=some a
structure g_(T:c5)(W:bg)(c:fD)(aJ:Env):Prop where
 b1:fo T W c aJ
 apart:∀x a,aJ.cells.lookup x=some a->a≠aJ.locals
 inj:∀x H a,aJ.cells.lookup x=some a->aJ.cells.lookup H=some a->x=H
 sG:∀x a,aJ.cells.lookup x=some a->∃p v,W.G a=some p/\p.data=.cell v
 has:∀x,c.sc.names.lookup x=some .cell->∃a,aJ.cells.lookup x=some a
 rQ:∀x,c.sc.names.lookup x≠some .free
theorem g_.le{fr:Addr->Prop}(d:g_ T W c aJ)(l:de fr W aO)(h:∀a,fr a->W.G a=none):g_ T aO c aJ:=by
 have C:¬fr _:=λ D=>by refine jd d.b1.loc λ p m bG b e=>?_;have bG:=h _ D▸bG;exact a8 bG
 have I:∀x a,aJ.cells.lookup x=some a->¬fr a:=λ x a q D=>by refine fA (d.sG x a q) λ p v bG b=>?_;have bG:=h _ D▸bG;exact a8 bG
 exact⟨d.b1.wX l C I,d.apart,d.inj,λ x a q=>fA (d.sG x a q) λ p v bG b=>(cv p v ⟨(l.G a (I x a q)).trans bG,b⟩),d.has,d.rQ⟩
theorem z'(d:g_ T W c aJ)(Q:Inv T W e j){x:Str}{v:E}{H:Value}(F:m7 c.sc x=true)(r:RelV T W v H){R:Unit->Shared->Prop}{bh:Model}
  (dt:∀aO h,de (iP aJ) W aO->Inv T aO e h->g_ T aO {c with loc:=l_ c.loc x v} aJ->R () h):wpAny bh aA (storeName aJ x H) R aR j:=by
 refine IW F (λ g=>?_) λ g=>?_
 ·exact KR d.b1 Q g d.apart r λ aO h l J K=>dt aO h (l.mono λ z=>.inl) J ⟨K,d.apart,d.inj,λ D a q=>fA (d.sG D a q) λ p v bG k=>(cv p v ⟨(l.G a (d.apart D a q)).trans bG,k⟩),d.has,d.rQ⟩
 ·refine a7 (d.has x g) λ a f=>fA (d.sG x a f) λ p w cV dG=>?_
  refine wpAny_storeName_cell d.b1.kind ((d.b1.names x _ g).resolve_right λ D=>(NameKind.noConfusion D.1)) f ⟨p,Q.gq _ _ cV,dG⟩ λ V s t=>ba s λ fs u y=>?_;have l:=bg.gx W a (some fs)
  refine jd d.b1.loc λ L M bG k N=>dt _ _ (l.mono λ b q=>.inr ⟨x,rwl q f⟩) (Q.qR cV t u) ⟨⟨d.b1.kind,d.b1.names,d.b1.ok,d.b1.nY,d.b1.oX,(cv L M ⟨(l.G _ (d.apart x a f).symm).trans bG,k,λ D w C I=>?_⟩),λ D w C I=>?_,λ D w C I=>absurd C (d.rQ D)⟩,d.apart,d.inj,λ D b q=>?_,d.has,d.rQ⟩
  ·rcases uP I with⟨rfl,rfl⟩|⟨A,I⟩
   ·have C:=g▸C;cases C
   ·exact ba (N D w C I) λ m af O=>⟨m,af,O.eT⟩
  ·rcases uP I with⟨rfl,rfl⟩|⟨A,I⟩
   ·exact gw a fs H ⟨f,aT rfl,y,r.eT⟩
   ·exact j5 (d.b1.cell D w C I) λ b n m i o P S=>gw b n m ⟨i,(l.G b λ q=>A (d.inj D x b i (rwl q f))).trans o,P,S.eT⟩
  ·by_cases B:b=a
   ·clear f cV s t u;subst B;exact cv fs _ ⟨aT rfl,y⟩
   ·exact fA (d.sG D b q) λ n U i o=>cv n U ⟨(l.G b B).trans i,o⟩
theorem II{R:Bool->Shared->Prop}{bh:Model}:∀{ifs:List Expr}{j:Shared},R false j->
  wpAny bh aA (forIn ifs false λ c r=>if r=true then do let ok<-PySem.isTrue c aJ (eval c aJ);pure (ForInStep.yield ok) else pure (ForInStep.yield r)) R aR j
 |[],j,h=>dN h
 |d::r,j,h=>by
  rw[sv]
  exact bZ (dN (II h))
theorem IJ(a:pT T aA eg):∀{ifs:List Expr}{A:Bool->U->Prop}{e:U}{W:bg}{j:Shared},C3 eg c ifs A e->Inv T W e j->fo T W c aJ->
  wpAny (model T.prog T.w) aA (forIn ifs true λ c r=>if r=true then do let ok<-PySem.isTrue c aJ (eval c aJ);pure (ForInStep.yield ok) else pure (ForInStep.yield r)) (pQ T W A) aR j
 |[],A,e,W,j,h,Q,d=>dN ⟨W,e,de.refl _ _,Q,h⟩
 |x::r,A,e,W,j,h,Q,d=>by
  rw[sv]
  refine bZ (bZ (r3 (a c x _ e W j _ aR h Q d) λ g b i k aX f q=>dN ?_))
  rcases b with _|_
  case true=>exact fN (IJ a q f (d.le aX)) (λ z z D=>D.le aX) λ z z D=>D
  case false=>exact II ⟨g,i,aX,f,q⟩
theorem fo.bare{sc:Scope}{ak a out:Loc}(d:fo T W ⟨sc,a,out⟩ aJ)(h:∀D w,getL ak D=some w->False):fo T W ⟨sc,ak,out⟩ aJ:=
 jd d.loc λ p m bG b z=>⟨d.kind,d.names,d.ok,d.nY,d.oX,(cv p m ⟨bG,b,λ x v z q=>(h x v q).elim⟩),λ x v z q=>(h x v q).elim,d.free⟩
inductive Fn(T:c5)(ev:j7)(eg:lI)(Bu:fD)(x:Str)(ifs:List Expr)(eP:Expr)(v:E)(items:List E)(A:List E->U->Prop)(c0 bA:Addr)(oy:Value)(oY:Env)(fr:Addr->Prop)(lJ:bg)(n:Nat)(j:Shared):Prop
 |mk {aO:bg} {bJ:List E} {M:U} {i:Nat} {p:Obj} {ih:Array Value} {k:Nat} (Y:(items.drop i).length=n) (h:uv ev eg Bu x ifs eP (hQ v items) (items.drop i) bJ A M) (Q:Inv T aO M j) (bO:aO.G c0=some p) (bQ:oL v oy i p)
  (lR:aO.G bA=some {cls:=.type "list",data:=.seq ih k}) (bV:bK T aO bJ ih.toList) (b1:fo T aO Bu oY) (l:de fr lJ aO):Fn T ev eg Bu x ifs eP v items A c0 bA oy oY fr lJ n j
theorem Vx{b:E->kx}{c:E->q'}{a:U->Prop}{l d:List E}{A:List E->U->Prop}(h:ux b c a l d A e):a e:=by rcases l with _|_<;>exact h.1
theorem BL{cc:Type}{l:List cc}{i:Nat}{a:cc}(h:l[i]?=some a):l.drop i=a::l.drop (i+1):=by
 obtain⟨b,rfl⟩:=iz.mp h
 exact oS _
theorem BK{cc:Type}{l:List cc}{i:Nat}{a:cc}(h:l[i]?=some a):(l.drop (i+1)).length<(l.drop i).length:=by rw[BL h];exact eo _
theorem Vw(dx:mh T aA ev)(hN:pT T aA eg)(fa:aA.handled=none){sc:Scope}{out:Loc}{x:Str}{h4 cz:Pos}{iter O:Expr}{ifs:List Expr}{v:E}{u:Value}{items:List E}{c ay bA:Addr}{o:Env}{A:List E->U->Prop}{R:Result->Shared->Prop}{fr:Addr->Prop}
  (P:fr c) (cx:fr ay) (eQ:fr bA) (ag:sc.names.lookup x=some .local) (gb:o.locals=ay) (C:c≠ay) (I:c≠bA) (af:bA≠ay) (r:∀D a,o.cells.lookup D=some a->a≠ay/\a≠c/\a≠bA) {d:bg}
  (dt:∀aO M S y s k,de fr d aO->Inv T aO M S->aO.G c=none->aO.G bA=some {cls:=.type "list",data:=.seq s k}->bK T aO y s.toList->(∃p m,aO.G ay=some p/\uf p m)->A y M->R (.ok .next) S)
  {loc:Loc} {p:Obj} (V:∀D w,getL loc D=some w->False) (Q:Inv T d e j) (aM:hy e v=some items) (eU:RelV T d v u) (B:d.G c=some p) (F:oL v u 0 p) (t:d.G bA=some {cls:=.type "list",data:=.seq #[] 0}) (b1:fo T d ⟨sc,loc,out⟩ o)
  (h:uv ev eg ⟨sc,loc,out⟩ x ifs O (hQ v items) items [] A e):
  codeAny (model T.prog T.w) aA (.compLoop (.ListComp O [⟨.Name x h4,iter,ifs,0⟩] sc cz) 0 (.ref c) (.ref bA) o) R j:=by
 subst gb
 refine codeAny_compLoop_tests (Fn T ev eg _ x _ _ v _ A c bA u _ fr _) ?_ _ (.mk (i:=0) rfl h Q B F t trivial b1 (de.refl _ _))
 intro n j aP
 cases aP with|@mk aO y M i p s k Y h Q B F t W b1 l=>
 subst Y
 refine JE Q fa (eU.le l) (KP aM (Vx h)) B F (λ a f H fs aY tk X J bM=>?_) λ f aY tk J=>?_
 ·rw[BL f] at h
  refine e_ h λ me wC h=>?_;have aX:=bg.gx aO c (some fs)
  refine wpAny_assign_Name (KR (b1.wX aX C.symm λ D b q=>(r D b q).2.1) J ag (λ D b q=>(r D b q).1) bM.eT λ fE c8 bS dF Z=>r3 (IJ hN h dF Z) λ i4 b c9 iJ dv e6 q=>?_)
  have s_:=((aX.mono λ z q=>rwl q P).trans (bS.mono λ z q=>q▸cx)).trans dv.wide
  have HH:=(dv.G c id).trans ((bS.G c C).trans (aT rfl))
  have uN:=(dv.G bA id).trans ((bS.G bA af).trans ((aX.G bA I.symm).trans t))
  have K:=Z.le dv
  have L:=W.le s_
  have Jd:=l.trans s_
  rcases b with _|_
  case true=>
   refine fk (dx _ _ _ _ i4 iJ _ _ q e6 K) λ nE w f6 xW ir g jD od fT=>?_
   have jN:=(g.G bA id).trans uN
   refine append_at (hsz:=ah (jF (L.length.trans jl).symm) (ah wC (ae rfl))) (jD.gq _ _ jN) λ cY Yn Cy=>?_
   have N:=bg.gx nE bA (some {cls:=.type "list",data:=.seq (s.push xW) (k+1)})
   refine⟨_,BK f,.mk rfl fT (jD.qR jN Yn Cy) ((N.G c I).trans ((g.G c id).trans HH)) X (aT rfl) ?_ (((K.le g).bare V).wX N af.symm λ D b q=>(r D b q).2.2) (Jd.trans (g.wide.trans (N.mono λ z q=>rwl q eQ)))⟩
   rw[Array.toList_push];exact((L.le g).append (aV:=[w]) (dd:=[xW]) ⟨od,trivial⟩).eT
  case false=>
   exact⟨_,BK f,.mk rfl q e6 HH X uN L (K.bare V) Jd⟩
 ·rw[su (List.getElem?_eq_none_iff.mp f)] at h
  have aX:=bg.gx aO c none
  exact jd (b1.wX aX C.symm λ D b q=>(r D b q).2.1).loc λ tn td ea en vG=>dt _ _ _ _ _ k (l.trans (aX.mono λ z q=>rwl q P)) J (aT rfl) ((aX.G bA I.symm).trans t) W.eT (cv tn td ⟨ea,en⟩) h.2
end
end
section
theorem Bq{aJ:Env}(f:Str×NameKind->List (Str×Addr)->Sem (ForInStep (List (Str×Addr))))(i:∀n k e,f (n,k) e=if(k==.free)=true then(do let a<-cellOf aJ n;pure (.yield ((n,a)::e))) else pure (.yield e)):
  ∀(names:List (Str×NameKind))(e:List (Str×Addr)),(∀s∈names,s.2=.free->∃a,aJ.cells.lookup s.1=some a)->
  ∃g,forIn names e f=(pure g:Sem _)/\(∀n a,g.lookup n=some a->e.lookup n=some a\/((n,.free)∈names/\aJ.cells.lookup n=some a))/\(∀n,((n,.free)∈names\/(e.lookup n).isSome=true)->(g.lookup n).isSome=true)
 |[],e,_=>⟨e,rfl,λ z z=>.inl,λ n h=>h.resolve_left (by simp)⟩
 |(n,k)::r,e,h=>by
  rw[sv,i]
  by_cases j:k=.free
  ·subst j
   refine a7 (h _ f9 rfl) λ a o=>fz (Bq f i r ((n,a)::e) λ s l=>h s (gU _ l)) λ g d C I=>?_
   refine⟨g,?_,λ m b c=>?_,λ m c=>?_⟩
   ·rw[(by unfold cellOf;rw[o]:cellOf aJ n=pure a)];exact d
   ·rcases C m b c with D|⟨a3,bL⟩
    ·simp only[k4] at D
     rcases q:m==n with _|_
     case true=>rw[q] at D;obtain rfl:=cm D;rw[eq_of_beq q];exact .inr ⟨f9,o⟩
     case false=>rw[q] at D;exact .inl D
    ·exact .inr ⟨gU _ a3,bL⟩
   ·refine I m ?_
    simp only[k4]
    rcases q:m==n with _|_
    case true=>exact .inr rfl
    case false=>
     rcases c with c|c
     ·rcases ew.mp c with D|D
      ·cases D;rw[eC] at q;injection q
      ·exact .inl D
     ·exact .inr c
  ·refine fz (Bq f i r e λ s l=>h s (gU _ l)) λ g d C I=>?_
   have p:((k==.free)=true)=False:=by simpa using j
   refine⟨g,?_,λ m b c=>(C m b c).imp_right λ D=>⟨gU _ D.1,D.2⟩,λ m c=>I m ?_⟩
   ·simp only[p,if_false];exact d
   ·rcases c with c|c
    ·rcases ew.mp c with D|D
     ·(injection D with a3 bL;clear h p;subst a3 bL);exact(j rfl).elim
     ·exact .inl D
    ·exact .inr c
theorem GD{aJ:Env}{sc:Scope}(h:∀s∈sc.names,s.2=.free->∃a,aJ.cells.lookup s.1=some a):
  ∃b,closureFor sc aJ=pure b/\(∀n a,b.lookup n=some a->(n,.free)∈sc.names/\aJ.cells.lookup n=some a)/\(∀n,(n,.free)∈sc.names->(b.lookup n).isSome=true):=by
 refine fz (Bq (λ x c=>if(x.2==.free)=true then do let a<-cellOf _ x.1;pure (.yield ((x.1,a)::c)) else pure (.yield c)) (λ z z z=>rfl) _ [] h) λ b d C I=>⟨b,Eq.trans ?_ (bB (λ m=>m>>=pure) d),λ n a q=>(C n a q).resolve_left a8,λ n q=>I n (.inl q)⟩
 congr 1
theorem abE{sc:Scope}{aJ:Env}{x:Str}{k:NameKind}(h:sc.names.lookup x=some k):(relabel sc aJ).names.lookup x=some k\/(k=.free/\(relabel sc aJ).names.lookup x=some .cell):=by
 have go:∀{names:List _},names.lookup x=some k->
   (names.map λ(n,k)=>if k==NameKind.free&&aJ.scope.kind==.function&&aJ.kindOf n==some .cell then(n,NameKind.cell) else(n,k)).lookup x=some k\/
   k=.free/\(names.map λ(n,k)=>if k==NameKind.free&&aJ.scope.kind==.function&&aJ.kindOf n==some .cell then(n,NameKind.cell) else(n,k)).lookup x=some .cell:=by
  intro names
  induction names with
  |nil=>intro h;exact a8 h
  |cons s r c=>
   obtain⟨n,d⟩:=s
   intro h
   simp only[jH,k4] at h⊢
   cases b:x==n with
   |true=>
    rw[b] at h
    cases h
    by_cases a:(k==NameKind.free&&aJ.scope.kind==.function&&aJ.kindOf n==some .cell)=true
    ·rw[aT a]
     simp only[k2,iy] at a
     right
     refine⟨a.1.1,?_⟩
     rw[k4,b]
    ·rw[a9 a];left
     rw[k4,b]
   |false=>
    rw[b] at h
    by_cases a:(d==NameKind.free&&aJ.scope.kind==.function&&aJ.kindOf n==some .cell)=true
    ·rw[aT a]
     rw[k4,b]
     exact c h
    ·rw[a9 a]
     rw[k4,b]
     exact c h
 exact go h
section
variable{T:c5}{K:Frag}{P:eW}{aA:Around}{aR:Value->Shared->Prop}{W aO:bg}{e:U}{j:Shared}{c:fD}{aJ:Env}{A:bo}{ev:j7}{eg:lI}
set_option tactic.hygienic true in
theorem YO{v:E}{x:Value}{g:Addr}{p:Obj}{items:List E}(d:j.heap.get? g=some p)(i:hy e v=some items)(f:oL v x 0 p){R:Value->Shared->Prop}(h:R (.ref g) j):wpAny (model T.prog T.w) aA (pyIter (.ref g)) R aR j:=by
 rcases v with _|_
 case tup B=>exact fz f λ a k C I=>wpAny_pyIter_tupleiter ⟨p,d,C,I⟩ h
 case lst B=>exact fz f λ a l C I=>wpAny_pyIter_listiter ⟨p,d,C,I⟩ h
 case str B=>exact fz f λ a m C I=>wpAny_pyIter_striter_ascii ⟨p,d,C,I⟩ h
 case rng a b c=>
  subst f
  exact wpAny_pyIter_rangeiter d h
 case ref B=>exact fz f λ a n C I=>wpAny_pyIter_listiter ⟨p,d,C,I⟩ h
 all_goals exact a8 i
theorem u7:∀{names:List (Str×NameKind)}{x:Str}{v:E},getL (names.filterMap λ s=>match s.2 with
 |.local=>some (s.1,none)
 |.cell=>some (s.1,none)
 |_=>none) x=some v->False
 |[],_,_,h=>a8 h
 |(n,k)::r,x,v,h=>by
  have a:=@u7 r x v
  rw[List.filterMap_cons] at h
  rcases k with _|_<;>first|exact a h|skip
  all_goals
   dsimp only at h
   rw[Xp] at h
   revert h
   rcases x==_ with _|_
   ·exact a
   ·exact λ h=>a8 h
theorem Bs{sc:Scope}{x:Str}{b:Expr}(h:uw c sc x b=true):pA sc=true/\sc.names.lookup x=some .local/\(∀aJ H,foldedSetIterable b aJ H=pure H)/\(∀s∈sc.names,s.2≠.cell)/\
  (∀s∈sc.names,s.2=.local->sc.names.lookup s.1=some .local)/\(∀s∈sc.names,s.2=.free->sc.names.lookup s.1=some .free/\c.sc.names.lookup s.1=some .cell/\∃w,getL c.loc s.1=some w):=by
 simp only[uw,k2,kz,iy] at h
 refine bf h λ e d=>?_;clear h;refine bf e λ f af=>?_;clear e;refine bf f λ C I=>⟨C,I,λ aJ H=>?_,λ s a q=>?_,λ s a q=>?_,λ s a q=>?_⟩
 ·rcases b with _|_<;>first|rfl|exact cq af
 ·have:=d s a;rw[q] at this;exact cq this
 ·have:=d s a;rw[q] at this;simpa using this
 ·have:=d s a;rw[q] at this
  simp only[k2,iy] at this
  exact⟨this.1.1,this.1.2,Option.isSome_iff_exists.mp this.2⟩
set_option tactic.hygienic true
theorem GI(dx:mh T aA ev)(hN:pT T aA eg)(fa:aA.handled=none)(b1:fo T W c aJ){sc:Scope}{x:Str}{h4 cz:Pos}{iter eP:Expr}{ifs:List Expr}(ok:uw c sc x iter=true)
  {l:List (Str×Addr)} (uS:(∀n a,l.lookup n=some a->(n,.free)∈sc.names/\aJ.cells.lookup n=some a)/\(∀n,(n,.free)∈sc.names->(l.lookup n).isSome=true))
  (Q:Inv T W e j) {v:E} {oy:Value} {items:List E} (eU:RelV T W v oy) (aM:hy e v=some items) {A:List E->U->Prop}
  (h:uv ev eg ⟨sc,qy sc,c.loc⟩ x ifs eP (hQ v items) items [] A e) {hH:Value->Addr->Result->Shared->Prop}
  (dt:∀aO M bu r bA ay,de (·=ay) W aO->W.G ay=none->Inv T aO M bu->(∃p m,aO.G ay=some p/\uf p m)->RelV T aO (.lst r) (.ref bA)->A r M->hH (.ref bA) ay (.ok .next) bu):
  wpAny (model T.prog T.w) aA (pyIter oy) (λ c0 adi=>wpAny (model T.prog T.w) aA (newList []) (λ r adj=>wpAny (model T.prog T.w) aA (newFunctionEnv sc aJ.globals l [] aJ.qual none .none (some aJ)) (λ oY adk=>
   codeAny (model T.prog T.w) aA (.compStart (.ListComp eP [⟨.Name x h4,iter,ifs,0⟩] sc cz) 0 c0 r {oY with scope:=relabel sc aJ}) (hH r oY.locals) adk) aR adj) aR adi) aR j:=by
 refine EU (Bs ok) λ da dr kU ik iV mA=>I2 Q eU aM λ p bQ bW=>?_
 obtain⟨u,g,o,t,os⟩:=j
 have a3:(u.push p).objs.size=u.objs.size+1:=Heap.size_push ..
 have bL:((u.push p).push {cls:=.type "list",dict:=none,data:=.seq [].toArray}).objs.size=u.objs.size+2:=by rw[Heap.size_push,a3]
 refine wpAny_newObj_type ?_
 have O:=bW.qL {cls:=.type "list",dict:=none,data:=.seq [].toArray} rfl (tk:=t)
 refine wpAny_newFunctionEnv ik (λ H b_=>(gh b_).elim) (λ aY Y P=>?_) (vn da)
 have y:=O.qL {cls:=.type "dict",data:=.dict #[]} rfl (tk:=t)
 dsimp only at O y Y P⊢
 rw[a3] at O y⊢
 rw[bL] at y Y P⊢
 refine ba (DN Y) λ tn ea en=>?_
 have jD:=y.qR (aT rfl) P ea (tk:=t+([]:List (Str×Value)).length)
 have b:∀a,u.objs.size<=a->W.G a=none:=λ a f=>by
  rcases q:W.G a with _|_
  case none=>rfl
  case some p=>exact((lK.mpr f) (Heap.lt_size (Q.gq _ _ q))).elim
 generalize nW:u.objs.size=n at bW O y jD b P Y ea⊢
 have B:de (λ a=>a=n\/a=n+1\/a=n+2) W ((((W.eT n (some p)).eT _ (some {cls:=.type "list",dict:=none,data:=.seq [].toArray})).eT _ (some {cls:=.type "dict",data:=.dict #[]})).eT _ (some tn)):=
  ((((bg.gx W n _).mono λ z=>.inl).trans ((bg.gx _ _ _).mono λ z q=>.inr (.inl q))).trans ((bg.gx _ _ _).mono λ z q=>.inr (.inr q))).trans ((bg.gx _ _ _).mono λ z q=>.inr (.inr q))
 have Bv:n≠n+1:=λ S=>bC _ (J [_] 71537110618113 L (aL S.symm))
 have yN:n≠n+2:=λ S=>bC _ (J [_] 71537111666689 L (aL S.symm))
 have V:n+1≠n+2:=λ S=>bC _ (J [_] 0x2088011100211001 L (aL S.symm))
 have Jg:n<=n+1:=J [_] 35782784 L
 have Dl:n<=n+2:=J [_] 69337216 L
 generalize y6:(((W.eT n _).eT (n+1) _).eT (n+2) _).eT (n+2) _=nE at jD B
 have Cg:nE.G n=some p:=by
  rw[<-y6]
  show(if n=n+2 then _ else if n=n+2 then _ else if n=n+1 then _ else if n=n then some p else _)=_
  rw[a9 yN,a9 yN,a9 Bv,aT rfl]
 have HB:nE.G (n+1)=some {cls:=.type "list",data:=.seq #[] 0}:=by
  rw[<-y6]
  show(if n+1=n+2 then _ else if n+1=n+2 then _ else if n+1=n+1 then _ else _)=_
  rw[a9 V,a9 V,aT rfl]
 have HA:nE.G (n+2)=some tn:=by
  rw[<-y6]
  show(if n+2=n+2 then _ else _)=_
  rw[aT rfl]
 have HV:∀D a,l.lookup D=some a->∃X w,aJ.cells.lookup D=some a/\getL _ D=some w/\c.sc.names.lookup D=some _/\W.G a=some X:=λ D a q=>by
  refine bf (uS.1 D a q) λ K N=>EV (mA _ K rfl) λ jy eZ w fT=>j5 (b1.cell D w eZ fT) λ eL X H bG dz fb gK=>?_
  rw[N] at bG;obtain rfl:=cm bG
  exact cv X w ⟨N,fT,eZ,dz⟩
 have CS:∀D a,l.lookup D=some a->a≠n+2/\a≠n/\a≠n+1:=λ D a q=>by
  refine tO (HV D a q) λ X w jh tR xY s=>?_;clear jh;refine⟨λ d=>?_,λ d=>?_,λ d=>?_⟩<;>subst d
  ·rw[b _ Dl] at s;injection s
  ·have s:=b _ (bx _)▸s;injection s
  ·have s:=b _ Jg▸s;injection s
 have G8:fo T nE ⟨sc,qy sc,c.loc⟩ {newEnv sc (n+2) aJ.globals l aJ.qual none .none (some aJ) builtinsNs with scope:=relabel sc aJ}:=by
  refine⟨show sc.kind=_ from vn da,λ H k=>abE,da,b1.nY,b1.oX,(cv tn _ ⟨HA,en,λ H w z Z=>(u7 Z).elim⟩),λ H w z Z=>(u7 Z).elim,λ H w b_ Z=>?_⟩
  refine a7 (Option.isSome_iff_exists.mp (uS.2 H (mem_of_lookup b_))) λ a f=>tO (HV H a f) λ X lB K N eZ fT=>j5 (b1.cell H w eZ Z) λ eL zV oz bG dz fb gK=>?_
  rw[K] at bG;obtain rfl:=cm bG
  refine gw a zV oz ⟨f,(B.G a λ D=>e_ (CS H a f) λ cC di fL=>?_).trans dz,fb,gK.le B⟩
  rcases D with D|D|D
  ·exact di D
  ·exact fL D
  ·exact cC D
 have loop:=Vw (h4:=h4) (cz:=cz) (iter:=iter) dx hN fa (R:=hH (.ref (n+1)) (n+2)) (fr:=λ a=>a=n+2\/a=n\/a=n+1) (.inr (.inl rfl)) (.inl rfl) (.inr (.inr rfl)) dr rfl yN Bv V CS
  (λ aO M bu r ih k i' nx cV dG tu hM q=>?_) (λ D w q=>u7 q) jD aM (eU.le B) Cg bQ HB G8 h
 ·refine codeAny_compStart_list loop (YO (jD.gq _ _ Cg) aM bQ loop)
 ·
  have ye:=nx.yT (n+1)
  have BU:=nx.apart _ _ dG
  have Ih:∀i x,M.get i=some x->kY x->aO.fq i≠n+1:=λ i x d m q=>by have:=(nx.free i x d m).2;rw[q,dG] at this;injection this
  have Fz:=ye.k0 (nx.gq _ _ dG) BU (aT rfl) Ih
  have s':=bg.ys (λ z=>False) (aO.eT (n+1) none) _ {cls:=.type "list",data:=.seq ih k} (.inl BU)
  refine fA hM λ aau td C I=>?_;clear hM
  refine dt _ _ bu _ _ _ ?_ (b _ Dl) Fz (cv aau td ⟨(s'.G _ id).trans ((a9 V.symm).trans C),I⟩) (gw (n+1) ih k ⟨rfl,aT rfl,tu.eT.le s'⟩) q
  have ta:=(B.trans (i'.mono λ z q=>q.elim (λ q=>.inr (.inr q)) λ q=>q.elim .inl λ q=>.inr (.inl q))).trans ((bg.gx aO _ none).mono λ z q=>.inr (.inl q))
  have tb:=ta.trans (s'.mono λ z q=>q.elim)
  refine⟨tb.F,λ a f=>?_,tb.n,tb.adr⟩
  by_cases K:a=n
  ·clear nW bW O y P Y ea yN V Dl y6 B Cg HB HA CS G8 i' dG ye BU Ih Fz C ta;subst K
   refine((s'.G _ id).trans ((a9 Bv).trans cV)).trans (b _ (bx _)).symm
  ·by_cases N:a=n+1
   ·subst N
    exact((s'.G _ id).trans (aT rfl)).trans (b _ Jg).symm
   ·exact tb.G a λ D=>D.elim K λ D=>D.elim N f
theorem Vz(i:mh T aA ev)(o:pT T aA eg)(fa:aA.handled=none)(b1:fo T W c aJ){sc:Scope}{x:Str}{h4 cz:Pos}{iter k:Expr}{ifs:List Expr}(ok:uw c sc x iter=true)(Q:Inv T W e j)
  (h:ev c iter (λ v b=>match hy b v with
   |some items=>uv ev eg ⟨sc,qy sc,c.loc⟩ x ifs k (hQ v items) items [] (λ B f=>A (.lst B) f) b
   |none=>False) e):wpAny (model T.prog T.w) aA (eval (.ListComp k [⟨.Name x h4,iter,ifs,0⟩] sc cz) aJ) (c3 T W A) aR j:=by
 refine EU (Bs ok) λ r R t S u y=>?_
 obtain⟨U,C,D⟩:=GD λ s E q=>by
  exact EV (y s E q) λ V I w J=>j5 (b1.cell _ w I J) λ eL X H bG Y Z gK=>⟨eL,bG⟩
 refine wpAny_comprehension_free rfl (t _) C (vn r) u (fk (i c _ _ e W j _ aR h Q b1) λ cS v b oy b7 aX K ab q=>?_)
 split at q
 ·rename_i items L
  refine GI i o fa (b1.le aX) ok D K ab L q λ M f c8 bJ bA ay bS N l ⟨tn,O,cV,dG⟩ aU P=>⟨O,dG.ns (l.gq _ _ cV),λ aY m=>?_⟩
  have dv:=bg.gx M ay none
  refine⟨_,.lst _,f,aX.trans ⟨λ a p d=>dv.F _ _ (bS.F a p d),λ a z=>?_,bS.n,bS.adr⟩,l.extBut cV m.extBut,aU.eT,P⟩
  by_cases g:a=ay
  ·clear cV m;subst g;exact(aT rfl).trans N.symm
  ·exact(dv.G a g).trans (bS.G a g)
 ·exact q.elim
set_option tactic.hygienic false
end
end
section
theorem Cd(f:(Option (Sem Value)×Sem Value)->(Option Addr×List (Sem Value×Sem Value))->Sem (ForInStep (Option Addr×List (Sem Value×Sem Value))))
  (a:∀(s:Sem Value×Sem Value) m (run:List (Sem Value×Sem Value)),run.length+1<17->f (some s.1,s.2) (m,run)=pure (.yield (m,run++[s]))) (bl:List (Option (Sem Value)×Sem Value)) (m:Option Addr):
  ∀(items run:List (Sem Value×Sem Value)),run.length+items.length<17->forIn ((items.map λ s=>(some s.1,s.2))++bl) (m,run) f=forIn bl (m,run++items) f
 |[],run,_=>by simp
 |s::r,run,h=>by
  rw[jH,pZ,sv,a s m _ (J [_,_] 0x222088222000088822088a020001 L h),pure_bind]
  have:=Cd f a bl m r (run++[s]) (by simp at h⊢;exact J [_,_] 0x88822284440000088822088a020001 L h)
  simpa using this
theorem Xj(f:(Option (Sem Value)×Sem Value)->(Option Addr×List (Sem Value×Sem Value))->Sem (ForInStep (Option Addr×List (Sem Value×Sem Value))))(c:List (Sem Value×Sem Value)->Option Addr->Sem (Option Addr))
  (d:∀(s:Sem Value×Sem Value) m (run:List (Sem Value×Sem Value)),run.length+1<17->f (some s.1,s.2) (m,run)=pure (.yield (m,run++[s])))
  (e:∀(s:Sem Value×Sem Value) m (run:List (Sem Value×Sem Value)),run.length+1=17->f (some s.1,s.2) (m,run)=(do let a<-c (run++[s]) m;pure (.yield (a,[]))))
  (l r:List (Sem Value×Sem Value)) (s:Sem Value×Sem Value) (m:Option Addr) (b:l.length=16) (V:r.length<17):
  forIn ((l++s::r).map λ s=>(some s.1,s.2)) (m,([]:List (Sem Value×Sem Value))) f=(do let a<-c (l++[s]) m;pure (a,r)):=by
 rw[e8,Cd f d _ m l [] (by simp;exact J [_] 0x44411100080881 L (aL b)),jH,sv,e s m _ (by simp;exact cB (aL b) (aL b.symm))]
 simp only[bind_assoc,pure_bind,oQ]
 refine bind_congr λ o=>?_
 have:=Cd f d [] o r [] (by simpa using V)
 simpa using this
theorem V0(l r:List (Sem Value×Sem Value))(s:Sem Value×Sem Value)(b:l.length=16)(c:r≠[])(V:r.length<17):
  dictDisplay ((l++s::r).map λ s=>(some s.1,s.2))=(do
   let o<-subDict (l++[s])
   let sub<-holding [.ref o] (subDict r)
   (holding [.ref o,.ref sub] (mergeMapping o (.ref sub) false)).onRaise λ x=>do let _<-holding [.ref o,x] (runValue (.builtin "proto.let_go" {}))
   pure (.ref o)):=by
 unfold dictDisplay
 dsimp only
 rw[Xj _ (λ run main=>if run.isEmpty then pure main else match main with
  |none=>do let o<-subDict run;pure (some o)
  |some o=>do
   let sub<-holding [.ref o] (subDict run)
   (holding [.ref o,.ref sub] (mergeMapping o (.ref sub) _)).onRaise λ x=>do let _<-holding [.ref o,x] _
   pure (some o)) λ s m run h=>by
  have a:((run++[(s.1,s.2)]).length==17)=false:=by simp;exact λ d=>bC _ (J [_] 0x4110090106220882220001 L h (aL d.symm))
  simp only[a,Bool.false_eq_true,if_false] λ s m run h=>by
  have a:((run++[(s.1,s.2)]).length==17)=true:=by simp;exact cB (J [_] 0x40440444111001 L (aL h)) (J [_] 5068749749109825 L (aL h.symm))
  simp only[a,if_true]
  rfl l r s _ b V]
 simp [c]
section
variable{T:c5}{K:Frag}{P:eW}{aA:Around}{aR:Value->Shared->Prop}{W aO:bg}{e:U}{j:Shared}{c:fD}{aJ:Env}{A:bo}
theorem aaU{prog:Program}{w:World}{K:Type}[DecidableEq K]{knd:KeyKind prog w K}{b:List DictEntry}{c:List (K×Value)}(h:Pairs knd b c):∀{i:Nat}{a:K×Value},c[i]?=some a->∃d,b[i]?=some d/\knd.is a.1 d.key=true/\d.val=a.2:=by
 induction h with
 |nil=>intro i a h;exact a8 h
 |cons C I _ e=>
  intro i a h
  rcases i with _|_
  case zero=>obtain rfl:=cm h;exact⟨_,rfl,C,I⟩
  case succ i=>exact e (by simpa using h)
theorem VT{o:Addr}{c:List (Str×Value)}{k:Str}{key H:Value}{R:Unit->Shared->Prop}(s:j.heap.DictOf T.knd o c)(f:T.knd.is k key=true)(l:k∉c.map (·.1))(hsz:c.length<=100)
  (dt:∀g,g.DictOf T.knd o (c++[(k,H)])->Heap.SameBut o j.heap g->R () {j with heap:=g}):wpAny (model T.prog T.w) aA (dictPut o (T.knd.hash k) key H) R aR j:=by
 refine r8 s λ p m cg h t e n i Y=>?_;refine bZ (wpAny_dictFind_of f h e n ?_)
 have u:(m.findIdx? λ d=>T.knd.is k d.key)=none:=by
  have:(m.toList.findIdx? λ d=>T.knd.is k d.key)=none:=by
   rw[i.findIdx k,List.findIdx?_eq_none_iff]
   intro x v
   exact h_ λ q=>l (rwr q (nN.mpr ⟨x,v,rfl⟩))
  simpa using this
 rw[u]
 refine wpAny_updateDictKeys (hz:=ah (J [_,_] 0xc82194042846410c81 L hsz (aL i.length)) (show 100<=sizeLine by decide)) h e (dt _ (gw _ _ (cg+1) ⟨Heap.get?_update_self _ h (Obj.isFreed_of_dict (Obj.data_mapDictKeys e _)),t.mapDictKeys _,Obj.data_mapDictKeys e _,n.push f _,?_,?_⟩) (Heap.SameBut.update ..))
 ·have:=i.append f (T.knd.hash k) H
  simpa using this
 ·rw[e8,List.nodup_append]
  exact⟨Y,by simp,λ a y b r q=>l (by simp at r;rw[<-r,<-q];exact y)⟩
theorem abz{bh:Model}{f:Nat->PUnit->Sem (ForInStep PUnit)}{n:Nat}{R:PUnit->Shared->Prop}(bT:Nat->Shared->Prop)(c:bT 0 j)(step:∀i a,i<n->bT i a->wpAny bh aA (f i ⟨⟩) (λ r b=>r=.yield ⟨⟩/\bT (i+1) b) aR a)
  (done:∀a,bT n a->R ⟨⟩ a):wpAny bh aA (forIn (List.range n) PUnit.unit f) R aR j:=by
 have go:∀(m i:Nat)(j:Shared),i+m=n->bT i j->wpAny bh aA (forIn (List.range' i m) PUnit.unit f) R aR j:=by
  intro m
  induction m with
  |zero=>intro i j d h;exact dN (done _ (by rw[<-d];exact h))
  |succ m e=>
   intro i j d h
   rw[List.range'_succ,sv]
   refine bZ (fN (step i j (J [_,_,_] 0xc1110003044501001 L (aL d)) h) (λ r b D=>?_) λ z z D=>D)
   obtain⟨rfl,D⟩:=D
   exact e _ _ (cB (J [_,_,_] 0x31422200003044501001 L (aL d)) (J [_,_,_] 0x3044500080088c028081 L (aL d.symm))) D
 exact rwl List.range_eq_range' (go n 0 j (gr n) c)
theorem ZT{o b:Addr}{c a:List (Str×Value)}{R:Unit->Shared->Prop}(F:j.heap.DictOf T.knd o c)(m:j.heap.DictOf T.knd b a)(G:c≠[])(n:b≠o)(H:(b==sysModules)=false)(Y:((c++a).map (·.1)).Nodup)(hsz:c.length+a.length<=100)
  (dt:∀e,e.DictOf T.knd o (c++a)->Heap.SameBut o j.heap e->R () {j with heap:=e}):wpAny (model T.prog T.w) aA (mergeMapping o (.ref b) false) R aR j:=by
 have r:=m.typeIs
 refine r8 F λ p K cg s M t N u O=>r8 m λ dp P agr k agw f Q v o'=>?_;refine bZ (wpAny_isInstance r (b:=true) rfl (wpAny_ite_true rfl (bZ (wpAny_specialOf r rfl (bZ (dN ?_))))))
 have a0:(some (Value.builtin "dict.__iter__")==some (Value.builtin "dict.__iter__"))=true:=rfl
 refine nI (h_ λ D=>cq (H.symm.trans D)) (bZ (wpAny_dictEntries s t (nI (h_ λ q=>G (vW.mp (u.length.symm.trans (by rw[Array.isEmpty_iff.mp q];rfl)))) (bZ (wpAny_dictEntries k f (bZ (wpAny_dictEpoch k f ?_)))))))
 rw[(by rw[<-v.length,jl]:P.size=a.length)]
 refine bZ (abz (λ i l=>∃h,l={j with heap:=h}/\h.DictOf T.knd o (c++a.take i)/\Heap.SameBut o _ h) ⟨j.heap,rfl,?_,Heap.SameBut.refl _ _⟩ ?_ ?_)
 ·rw[List.take_zero,gT];exact gw p K cg ⟨s,M,t,N,u,O⟩
 ·rintro i l S ⟨h,rfl,C,I⟩
  have x:=(I.2 b n).trans k
  refine a7 (⟨_,hK S⟩:∃g,a[i]?=some g) λ g y=>?_
  refine fz (aaU v y) λ d U A V=>?_
  have B:=by simpa using U
  refine ba (Q d (Array.mem_of_getElem? B)) λ W X Z=>?_
  obtain rfl:g.1=W:=T.knd.inj _ _ _ A X
  refine bZ (wpAny_dictEntries x f ?_)
  rw[B]
  refine bZ (jm ?_)
  rw[Z,V]
  have cZ:a.take (i+1)=a.take i++[g]:=by rw[lL,y];rfl
  refine VT C A ?_ (by rw[bR,nK];exact J [_,_,_] 0xc8219880014c11904329001 L hsz (Nat.min_le_right _ _)) λ e cV dG=>?_
  ·have E:((c++a.take (i+1)).map (·.1)).Nodup:=by
    refine List.Nodup.sublist (List.Sublist.map _ (List.Sublist.append_left (List.take_sublist _ _) _)) Y
   rw[cZ,<-el,e8,List.nodup_append] at E
   exact λ q=>E.2.2 _ q _ (by simp) rfl
  ·exact bZ (wpAny_dictEpoch ((dG.2 b n).trans x) f (nI (h_ λ D=>cq ((bne_self_eq_false _).symm.trans D)) (dN ⟨rfl,e,rfl,by rw[cZ,<-el];exact cV,I.trans dG⟩)))
 ·rintro l ⟨h,rfl,C,I⟩
  exact dN (dt h (by rw[nL] at C;exact C) I)
end
end
section
section
variable{T:c5}{K:Frag}{P:eW}{aA:Around}{aR:Value->Shared->Prop}{W aO:bg}{e:U}{j:Shared}{c:fD}{aJ:Env}{A:bo}
def mg(T:c5)(W:bg)(o:Addr)(az:List (List Nat))(B:List E):Prop:=∃p a,W.G o=some p/\p.IsDictOf T.knd a/\a.map (·.1)=az.map strOf/\bK T W B (a.map (·.2))
theorem mg.le{fr:Addr->Prop}{o:Addr}{az:List (List Nat)}{B:List E}(h:mg T W o az B)(l:de fr W aO)(a:¬fr o):mg T aO o az B:=
 tO h λ p b C I af c=>(cv p b ⟨(l.G o a).trans C,I,af,c.le l⟩)
theorem WX{a:List (Str×Value)}{az:List (List Nat)}{k:List Nat}(h:a.map (·.1)=az.map strOf)(b:k∉az):strOf k∉a.map (·.1):=by
 rw[h,nN]
 rintro⟨x,c,d⟩
 exact b (rwr (vt d) c)
theorem acU{a:List (Str×Value)}{k:Str}(h:k∉a.map (·.1))(H:Value):stored a k H=a++[(k,H)]:=by
 unfold stored
 rw[a9]
 rw[List.any_eq_true]
 intro b;refine ba b λ x c d=>?_
 exact h (nN.mpr ⟨x,c,gg d⟩)
theorem mg.put(Q:Inv T W e j){o:Addr}{a:List (Str×Value)}{p:Obj}{eG:List (List Nat)}{c2:List E}{b:Heap}{tk:Nat}(c:W.G o=some p)(d:b.DictOf T.knd o a)(f:Heap.SameBut o j.heap b)
  (g:a.map (·.1)=eG.map strOf) (h:bK T W c2 (a.map (·.2))):∃aO,de (·=o) W aO/\Inv T aO e {j with heap:=b,toks:=tk}/\mg T aO o eG c2:=by
 refine ba (nJ.mp d) λ fs i k=>?_
 exact⟨_,bg.gx W o _,Q.qR c f i,fs,a,aT rfl,k,g,h.eT⟩
theorem JB{x:Str}{cz:Pos}{v:E}(S:St T K P)(f:oa P c x=some v)(Q:Inv T W e j)(d:fo T W c aJ){R:Value->Shared->Prop}(dt:∀aO H a,gA W aO->Inv T aO e a->RelV T aO v H->R H a):wpAny (model T.prog T.w) aA (eval (.Name x cz) aJ) R aR j:=
 fk (A:=λ b M=>b=v/\M=e) (Kx S f ⟨rfl,rfl⟩ Q d) λ aO b M H a l g r q=>by
  obtain⟨rfl,rfl⟩:=q
  exact dt aO H a l g r
theorem Jb(x:Str)(t:Tok):T.knd.is (strOf (k6 x)) (.str x t)=true:=eC _
theorem fo.Jf{fr:Addr->Prop}(d:fo T W c aJ)(l:de fr W aO)(h:∀a,fr a->W.G a=none):fo T aO c aJ:=by
 refine⟨d.kind,d.names,d.ok,d.nY,d.oX,?_,λ x v g i=>?_,λ x v g i=>?_⟩
 ·refine jd d.loc λ p m bG e f=>?_
  exact cv p m ⟨(l.G _ λ D=>by have bG:=h _ D▸bG;exact a8 bG).trans bG,e,λ x v a b=>ba (f x v a b) λ H s q=>⟨H,s,q.le l⟩⟩
 ·obtain⟨a,p,H,bG,e,f,j⟩:=d.cell x v g i
  exact⟨a,p,H,bG,(l.G _ λ D=>by rw[h _ D] at e;cases e).trans e,f,j.le l⟩
 ·obtain⟨a,p,H,bG,e,f,j⟩:=d.free x v g i
  exact⟨a,p,H,bG,(l.G _ λ D=>by rw[h _ D] at e;cases e).trans e,f,j.le l⟩
theorem de.close{fr:Addr->Prop}(l:de fr W aO)(h:∀a,fr a->aO.G a=W.G a):gA W aO:=
 ⟨l.F,λ a z=>by by_cases q:fr a;exact h a q;exact l.G a q,l.n,l.adr⟩
theorem Wq(S:St T K P){d:bg}(b1:fo T d c aJ){o:Addr}(J:d.G o=none){cz:Pos}{f:(Sem Value×Sem Value)->PUnit->Sem (ForInStep PUnit)}
  (L:∀k v r,f (k,v) r=(do
   let g<-k
   let y<-holding [g] v
   holding [g,y] (dictSet o g y)
   pure (.yield ⟨⟩))) {R:PUnit->Shared->Prop}:
  ∀{i:List (Option Expr)}{m:List Expr}{eG:List (List Nat)}{c2:List E},oJ P c i m eG c2->∀{az:List (List Nat)}{B:List E}{W:bg}{j:Shared},de (·=o) d W->Inv T W e j->mg T W o az B->(∀k∈eG,k∉az)->az.length+eG.length<=100->
  (∀aO A,de (·=o) d aO->Inv T aO e A->mg T aO o (az++eG) (B++c2)->R ⟨⟩ A)->
  wpAny (model T.prog T.w) aA (forIn (pairTrees i m aJ cz) PUnit.unit f) R aR j:=by
 intro i m eG c2 h
 induction h with
 |nil=>
  intro az B W j l Q bA n t dt
  rw[gT,gT] at dt
  exact dN (dt W j l Q bA)
 |@cons x H a b s v M Wd YY nk N O I U=>
  intro az B W j l Q bA n t dt
  show wpAny _ _ (forIn ((_,_)::pairTrees M _ _ _) _ _) _ _ _
  rw[sv,L]
  refine bZ (bZ (wpAny_Constant_str (bZ (jm (bZ (JB S N Q.tok (b1.Jf l λ a q=>rwl q J) λ cS D b7 aX C ab=>bZ (pY (dN ?_))))))))
  refine tO (bA.le aX id) λ p b2 cV dG u V=>?_
  refine bZ (jm (wpAny_dictSet_pairs (Jb x _) (nJ.mpr ⟨p,C.gq _ _ cV,dG⟩) (λ aY F X=>?_) (ah (jF (sL u)) (ah (ah (dD ..) t) (show 100<=sizeLine by decide)))))
  rw[acU (WX u (n _ f9))] at F
  obtain⟨fE,bS,Y,mL⟩:=mg.put C (eG:=az++[k6 x]) (c2:=B++[v]) cV F X (by rw[e8,e8,u];rfl) (by rw[e8];exact V.append ⟨ab,trivial⟩)
  refine dN (U ((l.trans aX.wide).trans bS) Y mL (λ k q=>?_) (by rw[bR];exact(ah (jF (vX ..)) t)) λ Z iJ dv e6 jA=>?_)
  ·rw[fH,fG]
   rintro(D|rfl)
   ·exact n k (gU _ q) D
   ·exact O q
  ·rw[el,el] at jA
   exact dt Z iJ dv e6 jA
theorem Wj(S:St T K P){cz:Pos}{f:List (Option Expr)}{g:List Expr}{eG:List (List Nat)}{c2:List E}(h:oJ P c f g eG c2):∀{W:bg}{j:Shared}{R:List (Value×Value)->Shared->Prop},Inv T W e j->fo T W c aJ->
  (∀aO i g4 d,gA W aO->Inv T aO e i->Carries T.knd g4 d->d.map (·.1)=eG.map strOf->bK T aO c2 (d.map (·.2))->R g4 i)->
  wpAny (model T.prog T.w) aA (evalPairs (pairTrees f g aJ cz)) R aR j:=by
 induction h with
 |nil=>exact λ Q b1 dt=>evalPairs_nil (dt _ _ [] [] (de.refl _ _) Q trivial rfl trivial)
 |@cons x H a b s v u y A B k C I l=>
  intro W j R Q b1 dt
  exact pairTrees_cons_walk (wpAny_Constant_str (JB S k Q.tok b1 λ F D G aX m ab=>l m (b1.le aX) λ n o g4 d bS p q r t=>dt n o _ ((strOf _,D)::d) (aX.trans bS) p ⟨Jb x _,rfl,q⟩ (bB _ r) ⟨ab.le bS,t⟩))
theorem BG{b:List (Option Expr)}{d:List Expr}{az:List (List Nat)}{B:List E}(h:oJ P c b d az B):b.length=az.length/\d.length=az.length/\b.all (·.isSome)=true/\az.Nodup:=by
 induction h with
 |nil=>exact⟨rfl,rfl,rfl,List.nodup_nil⟩
 |cons f e h a=>exact⟨bB _ a.1,bB _ a.2.1,a.2.2.1,sr.mpr ⟨e,a.2.2.2⟩⟩
set_option tactic.hygienic true in
theorem VZ{a:List (Option Expr)}{b:List Expr}{az:List (List Nat)}{B:List E}(h:oJ P c a b az B):∀n,
  oJ P c (a.take n) (b.take n) (az.take n) (B.take n)/\oJ P c (a.drop n) (b.drop n) (az.drop n) (B.drop n)/\∀aJ cz,pairTrees a b aJ cz=pairTrees (a.take n) (b.take n) aJ cz++pairTrees (a.drop n) (b.drop n) aJ cz:=by
 induction h with
 |nil=>intro n;rcases n with _|_<;>exact⟨.nil,.nil,λ z z=>rfl⟩
 |cons d e h f=>
  intro n
  rcases n with _|_
  case zero=>exact⟨.nil,.cons d e h,λ z z=>rfl⟩
  case succ n=>
   refine e_ (f n) λ C I af=>?_
   exact⟨.cons d (λ D=>e (rg D)) C,I,λ aJ cz=>bB _ (af _ _)⟩
theorem FP(Q:Inv T W e j){o:Addr}{az:List (List Nat)}{B:List E}(bA:mg T W o az B):Inv T ((W.eT o none).new o o) (e.alloc (.dict az B)) j/\RelV T ((W.eT o none).new o o) (.ref e.next) (.ref o):=by
 refine tO bA λ p a C I af b=>?_
 have bT:=Q.yT o
 refine⟨bT.new ⟨?_,p,a,?_,I,af,b.eT.le (bg.th (λ z=>False) _ _ _)⟩ (Q.apart o p C) (aT rfl) λ i x d m q=>?_,bT.z2 o o⟩
 ·show(if W.n=W.n then _ else _)=if W.n=W.n then _ else _
  rw[aT rfl,aT rfl]
 ·show j.heap.get? (if W.n=W.n then _ else _)=_
  exact rwl (aT rfl) (Q.gq _ _ C)
 ·have:=(Q.free i x d m).2
  have q:W.fq i=o:=q
  rw[q,C] at this;injection this
theorem ac4{a:List (Sem Value×Sem Value)}{R:Addr->Shared->Prop}{bh:Model}(e:¬a.length<=15)
  (h:∀f:(Sem Value×Sem Value)->PUnit->Sem (ForInStep PUnit),(∀k v r,f (k,v) r=(do
   let b<-k
   let c<-holding [b] v
   holding [b,c] (dictSet j.heap.objs.size b c)
   pure (.yield ⟨⟩)))->wpAny bh aA (forIn a PUnit.unit f) (λ z d=>R j.heap.objs.size d) aR {j with heap:=j.heap.push {cls:=.type "dict",data:=.dict #[]}}):wpAny bh aA (subDict a) R aR j:=by
 refine bZ (wpAny_alloc (bZ (jm ?_)))
 rw[a9 e]
 refine bZ (wpAny_rule (bZ (fN (h _ λ k v r=>rfl) (λ z d D=>dN (dN D)) λ z z D=>D)))
theorem VY(S:St T K P)(b1:fo T W c aJ)(Q:Inv T W e j){I:List (Option Expr)}{M:List Expr}{az:List (List Nat)}{B:List E}{cz:Pos}(h:yS P c I M=some (az,B))(g:az.length=0\/az.length=19)(q:A (.ref e.next) (e.alloc (.dict az B))):
  wpAny (model T.prog T.w) aA (eval (.Dict I M cz) aJ) (c3 T W A) aR j:=by
 have x:=Q.tg
 have h:=VX h
 rcases g with g|g
 ·rcases h with _|_
  case nil=>
   refine wpAny_Dict_empty ?_
   have bT:=Q.qL {cls:=.type "dict",data:=.dict #[]} rfl (tk:=j.toks)
   refine ba (nJ.mp (Heap.DictOf.new (knd:=T.knd) j.heap)) λ p n y=>?_
   refine bf (FP bT (cv _ ([]) ⟨aT rfl,by rw[rf _ rfl] at n;obtain rfl:=cm n;exact y,rfl,trivial⟩:mg T (W.eT j.heap.objs.size _) _ [] [])) λ ny r=>?_
   have l:=((bg.gx W _ (some {cls:=.type "dict",data:=.dict #[]})).trans (bg.gx _ _ none)).trans (bg.th (·=j.heap.objs.size) _ j.heap.objs.size j.heap.objs.size)
   refine⟨_,_,_,l.close λ a q=>?_,ny,r,q⟩
   subst q
   exact(aT rfl).trans x.symm
  case cons _ _ _=>injection g
 ·refine f5 (BG h) λ cC di fL iF=>?_
  refine e_ (VZ h 17) λ k N iJ=>?_
  rw[arm_eval_Dict,zip_pairTrees _ _ _ _ fL (cC.trans di.symm),iJ]
  refine f5 (BG k) λ Z u' zD agM=>?_
  refine f5 (BG N) λ Jq ZH ZI ZJ=>?_
  have m:=pairTrees_length _ _ aJ cz zD (Z.trans u'.symm)
  have dt:=pairTrees_length _ _ aJ cz ZI (Jq.trans ZH.symm)
  rw[Z,nK] at m
  rw[Jq,jn] at dt
  refine bZ (pY ?_)
  obtain⟨l,s,C⟩:∃l s,pairTrees (I.take 17) (M.take 17) aJ cz=l++[s]:=by
   rcases List.eq_nil_or_concat (pairTrees _ _ _ _) with D|⟨l,s,D⟩
   ·rw[D,iQ] at m;lia
   ·exact cv l s (by rw[D,List.concat_eq_append])
  have m:=C▸m
  rw[C,el]
  rw[show l++([s]++pairTrees _ _ _ _)=l++s::pairTrees _ _ _ _ from rfl,V0 l _ s (by rw[bR] at m;exact cB (J [_,_] 0x20220222284a111001 L (aL m) (Nat.min_le_left _ _)) ((Nat.le_total _ _).elim (λ t=>J [_,_] 0xb0100911042228081 L (aL m.symm) (Nat.le_min.2 ⟨bx _,t⟩)) λ t=>cI λ i=>bC _ (J [_,_,_] 0x10440808223002520422300a124c41 L (aL g.symm) (aL m.symm) (Nat.le_min.2 ⟨t,bx _⟩) i))) (λ D=>by rw[D] at dt;exact bC _ (J [_,_] 0x411022228081008a124c41 L (aL g.symm) (aL dt.symm) (d2 _ _))) (cI λ i=>bC _ (J [_,_,_] 0x822004450045110024888c0098a198881 L (aL g) (aL dt) (dj (cI λ i=>bC _ (J [_] 0x822044411100124c41 L (aL g.symm) i))) i)),<-C]
  refine ba (nJ.mp (Heap.DictOf.new (knd:=T.knd) j.heap)) λ p n y=>?_
  have nu:mg T (W.eT j.heap.objs.size _) _ [] []:=cv _ ([]) ⟨aT rfl,by rw[rf _ rfl] at n;obtain rfl:=cm n;exact y,rfl,trivial⟩
  refine bZ (ac4 (by exact rwl C (λ i=>bC _ ((Nat.le_total _ _).elim (λ t=>J [_,_] 0x822012220bc4509481 L (aL m.symm) i (Nat.le_min.2 ⟨bx _,t⟩)) λ t=>J [_,_,_] 0x41100a40bc46098a124c41 L (aL g.symm) (aL m.symm) i (Nat.le_min.2 ⟨t,bx _⟩)))) λ f cy=>Wq S b1 x cy k (bg.gx W _ _) (Q.qL {cls:=.type "dict",data:=.dict #[]} rfl (tk:=j.toks)) nu (λ z z D=>nomatch D) (by rw[nK];exact J [_] 0x3208640080088881 L (Nat.min_le_left _ _)) λ O k aX F lF=>?_)
  generalize j.heap.objs.size=o at x nu lF aX⊢
  rw[oQ] at lF
  have UJ:=F.tf
  have R:=F.tg
  refine tO lF λ b3 da cV Xk HI XA=>?_
  have v:k.heap.objs.size≠o:=λ d=>by rw[d,cV] at R;injection R
  have bS:de (λ a=>a=o\/a=k.heap.objs.size) W (O.eT _ (some {cls:=.type "dict",data:=.dict #[]})):=(aX.mono λ z=>.inl).trans ((bg.gx O _ _).mono λ z=>.inr)
  have y':∀a,a=o\/a=k.heap.objs.size->W.G a=none:=by
   rintro a (rfl|rfl)
   ·exact x
   ·exact(aX.G _ v).symm.trans R
  have Vb:(k.heap.objs.size==sysModules)=false:=fF.mpr λ d=>by
   obtain⟨p,n⟩:=S.sys
   have:=F.base _ _ n
   rw[<-d,UJ] at this;injection this
  refine bZ (jm (wpAny_subDict (knd:=T.knd) (by exact rwl dt (cI λ i=>bC _ (J [_,_] 0x208805089e2004911140198881 L (aL g) (dj (cI λ i=>bC _ (J [_] 0x822044411100124c41 L (aL g.symm) i))) i))) (Wj S N (F.qL {cls:=.type "dict",data:=.dict #[]} rfl (tk:=k.toks)) (b1.Jf bS y') λ fE N g4 dr dv dF aG U zi=>?_)))
  have HC:=(dv.G _ id).trans (aT rfl)
  have zd:∀{a:List _},a.Nodup->(a.map _).Nodup:=λ h=>List.Pairwise.map _ (λ a b h d=>h (vt d)) h
  refine⟨dr,aG,nJ.mpr ⟨_,dF.gq _ _ HC,by have:=Heap.DictOf.new (knd:=T.knd) k.heap;rw[rf _ rfl] at n;obtain rfl:=cm n;exact y⟩,λ aY V cK=>?_⟩
  rw[merged_nil_of_nodup _ (by rw[U];exact zd ZJ)] at V
  obtain⟨i4,H,e6,jA⟩:=mg.put dF HC V cK U zi
  have HD:=(H.G o v.symm).trans ((dv.G o id).trans ((a9 v.symm).trans cV))
  have X:(da++dr).map (·.1)=az.map strOf:=by rw[e8,HI,U,<-e8,List.take_append_drop]
  refine bZ (wpAny_onRaise (jm (ZT (nJ.mpr ⟨b3,e6.gq _ _ HD,Xk⟩) V (λ D=>?_) v Vb (by exact rwl X (zd iF)) ?_ λ agu eZ fT=>?_)))
  ·have u:=bB List.length HI
   rw[D] at u
   simp at u;exact bC _ ((Nat.le_total _ _).elim (λ Y=>J [_] 73254018449672321 L (aL u.symm) (Nat.le_min.2 ⟨bx _,Y⟩)) λ Y=>J [_,_] 0x82201481008a124c41 L (aL g.symm) (aL u.symm) (Nat.le_min.2 ⟨Y,bx _⟩))
  ·have u:=bB List.length X
   simp at u;exact J [_,_,_] 0x320866280043140198881 L (aL g) (aL u)
  ·obtain⟨nE,i',jD,t6⟩:=mg.put e6 (c2:=B) HD eZ fT X (by
    rw[e8,<-List.take_append_drop 17 B]
    exact(XA.le ((bg.gx O _ _).trans (dv.wide.trans H))).append (zi.le H))
   have mB:=bg.gx nE k.heap.objs.size none
   refine bf (FP (jD.yT k.heap.objs.size) (t6.le mB v.symm)) λ bT r=>?_
   refine dN ⟨_,_,_,(((((bS.trans dv.wide).trans (H.mono λ z=>.inr)).trans (i'.mono λ z=>.inl)).trans (mB.mono λ z=>.inr)).trans (((bg.gx _ o none).mono λ z=>.inl).trans (bg.th _ _ o o))).close λ a q=>?_,bT,r,‹A _ _›⟩
   rw[y' a q]
   rcases q with rfl|rfl
   ·exact aT rfl
   ·exact(a9 v).trans (aT rfl)
end
end
section
structure oF(T:c5)(K:Frag)(P:eW)(aA:Around)(R:dq):Prop where
 S:St T K P
 fa:aA.handled=none
 b6:aA.units+40<cLine
 dt:pM T P aA R
 wz:∀ay lA,pM T P (aA.under (.builtin "type.__call__" ⟨.ref ay::lA,[]⟩)) R
 rC:∀k o,P.fn k=some o->nz (model T.prog T.w) K (.ref (T.jr k))
 wI:∀c k,P.init c=some k->nz (model T.prog T.w) K (.ref (T.ca c))
section
variable{T:c5}{K:Frag}{P:eW}{aA:Around}{aR:Value->Shared->Prop}{W aO:bg}{e:U}{j:Shared}{c:fD}{aJ:Env}{A:bo}{ev:j7}{eg:lI}{R:dq}
set_option tactic.hygienic true
theorem ac6{slice:Expr}{p i:Value}:∃a,subscripted slice false p i=operate a (getItem p i):=by
 rcases slice with _|_
 case Slice l u st s=>rcases st with _|_<;>exact⟨_,rfl⟩
 all_goals exact⟨_,rfl⟩
theorem JX(g:mh T aA ev){p:Option Expr}{a:Option E->U->Prop}{b:Value->Shared->Prop}(h:DY ev c p a e)(Q:Inv T W e j)(b1:fo T W c aJ)
  (dt:∀aO M f v x,gA W aO->Inv T aO M f->(v=none/\x=.none\/∃w,v=some w/\RelV T aO w x)->a v M->b x f):wpAny (model T.prog T.w) aA (evalPart p aJ) b aR j:=by
 rcases p with _|_
 case none=>exact dN (dt W e j _ _ (de.refl _ _) Q (.inl ⟨rfl,rfl⟩) h)
 case some d=>exact fk (g c d _ e W j _ aR h Q b1) λ i v m x k aX l ab=>dt i _ k _ x aX l (.inr ⟨v,rfl,ab⟩)
theorem J_{v:Option E}{x:Value}{p:Option Nat}(h:jL v=some p)(r:v=none/\x=.none\/∃w,v=some w/\RelV T W w x):yi v x:=by
 rcases r with⟨rfl,rfl⟩|⟨w,rfl,r⟩
 ·rfl
 ·rcases w with _|_
  case int k=>refine a7 r λ t a=>?_;clear r;subst a;exact cv k t ⟨rfl,rfl⟩
  all_goals exact a8 h
theorem aco{e:U}{p v:E}{l u:Option E}(h:pB e p l u=some v):∃a b,jL l=some a/\jL u=some b:=by
 unfold pB at h
 rcases C:jL l with _|_
 case none=>exact a8 (C▸h)
 case some a=>
  rcases I:jL u with _|_
  case none=>rw[C,I] at h;exact a8 h
  case some b=>exact cv a b ⟨rfl,rfl⟩
theorem GK{b:Expr}{gens:List Comprehension}{sc:Scope}{cz:Pos}{G:Prop}(h:wk P R ev eg c (.ListComp b gens sc cz) A e)(k:∀x h4 a ifs,gens=[⟨.Name x h4,a,ifs,0⟩]->uw c sc x a=true->ev c a (λ v f=>match hy f v with
   |some items=>uv ev eg ⟨sc,qy sc,c.loc⟩ x ifs b (hQ v items) items [] (λ B g=>A (.lst B) g) f
   |none=>False) e->G):G:=by
 have h:match DU _ with|some (x,a,ifs)=>_|none=>_:=h
 split at h
 ·rename_i x a ifs i
  exact a7 (aaG i) λ h4 d=>xM h (k x h4 a _ d)
 ·exact h.elim
theorem Wh:vS (wk P R ev eg):=by
 intro c d A e a C I
 rcases d with _|_
 case Set b k s=>exact I
 all_goals exact cq C
theorem Wi(X:oF T K P aA R)(g:mh T aA ev)(V:pT T aA eg)(qr:vS ev):mh T aA (wk P R ev eg):=by
 intro c d A e W j aJ aR h Q b1
 have S:=X.S
 rcases d with _|_
 case Constant k n cz=>
  rcases k with _|_
  case none=>exact wpAny_Constant_none (c3.now (v:=.none) Q rfl h)
  case bool b=>exact wpAny_Constant_bool (c3.now (v:=.bool b) Q rfl h)
  case int i=>exact wpAny_Constant_int (c3.now (v:=.int i) Q.tok ⟨_,rfl⟩ h)
  case str x=>exact wpAny_Constant_str (c3.now (v:=.str _) Q.tok ⟨j.toks,by rw[xA]⟩ h)
  all_goals exact h.elim
 case Name x cz=>
  exact xi h λ v G h=>Kx S G h Q b1
 case BoolOp Y N cz=>exact Bi g h Q b1
 case BinOp l Y r cz=>
  exact wpAny_BinOp (fk (g c l _ e W j _ aR h Q b1) λ w a J x y aX o ab q=>fk (g c r _ _ w y _ aR q o (b1.le aX)) λ L b M H Z bS E aU F=>
   fN (UY E (ab.le bS) aU F) (λ z z D=>D.le (aX.trans bS)) λ z z D=>D)
 case UnaryOp Y x cz=>
  exact wpAny_UnaryOp (fk (g c x _ e W j _ aR h Q b1) λ w a J H y aX o ab q=>fN (ae4 o ab q) (λ z z D=>D.le aX) λ z z D=>D)
 case IfExp t b p cz=>
  refine wpAny_IfExp (r3 (V c t _ e W j _ aR h Q b1) λ w r J y aX o q=>?_)
  rcases r with _|_
  case true=>exact fN (g c b A _ w y _ aR q o (b1.le aX)) (λ z z D=>D.le aX) λ z z D=>D
  case false=>exact fN (g c p A _ w y _ aR q o (b1.le aX)) (λ z z D=>D.le aX) λ z z D=>D
 case Dict hA g8 cz=>
  exact aaS h λ az B G h=>VY S b1 Q G h.1 h.2
 case List N cz=>
  refine wpAny_List (xJ (wm g h Q b1) λ w B J ai y aX o ab q=>⟨?_,?_⟩)
  ·rw[<-ab.length];exact v5 q.1
  ·exact fz (o.newList (by simpa using ab)) λ L bS E aU=>.mk (aX.trans bS) E aU q.2
 case Tuple N k cz=>
  refine wpAny_Tuple (xJ (wm g h Q b1) λ w B J ai y aX o ab q=>⟨?_,?_⟩)
  ·rw[<-ab.length];exact v5 q.1
  ·refine fz (Hu o ab) λ L bS E aU=>?_
   obtain⟨i4,dv,O,hP⟩:=E.w9 (by simpa using aU)
   exact .mk ((aX.trans bS).trans dv) O hP q.2
 case ListComp eP gens sc cz=>
  exact GK h λ x h4 c0 ifs d ok q=>by subst d;exact Vz g V X.fa b1 ok Q q
 case Compare l iG N cz=>
  refine bZ (fk (g c l _ e W j _ aR h Q b1) λ w a J x y aX o ab q=>fN (yH S g qr X.b6 q ab o (b1.le aX)).1 (λ z z D=>?_) λ z z D=>D)
  obtain⟨L,v,M,bS,E,aU,b,rfl,F⟩:=D
  exact⟨L,_,M,aX.trans bS,E,aU,F⟩
 case Call f args wW cz=>
  rcases wW with _|_
  case cons k r=>exact h.elim
  case nil=>
   have h:match A6 f with|some (p,m,p3)=>_|none=>_:=h
   split at h
   ·rename_i p m p3 d
    obtain rfl:=TN d
    refine xM h λ ok h=>?_
    have k:=i6 ok
    have dr:=i6 k
    exact ZU S g X.dt X.rC (i6 dr) (ke dr) (gg (ke k)) (ke ok) h Q b1
   ·rename_i d
    exact xM h λ ok h=>Vk S g X.dt X.wz X.fa X.rC X.wI (λ p m s D=>a8 (D▸d).symm) ok h Q b1
 case Attribute p x cz=>
  refine xM h λ ok h=>?_
  rw[arm_eval_Attribute,F3 ok]
  exact bZ (fk (g c p _ e W j _ aR h Q b1) λ w v J H y aX o ab q=>bZ (pY (bZ (jm (fN (HF S o ab q) (λ z z D=>bZ (wpAny_letTemporaryGo (dN (D.le aX)))) λ z z D=>D)))))
 case Subscript p i cz=>
  have fin:∀{x H:Value}{j:Shared}{w:bg},gA W w->t' T aA aR x H (c3 T w A) j->wpAny _ aA (subscriptTail p i x H) (c3 T W A) aR j:=λ l ⟨yl,id,cV,dG,hM⟩=>by
   obtain⟨iG,d⟩:=ac6
   exact tail_any cV dG (fN hM (λ z z D=>D.le l) λ z z D=>D) d
  have h:match El i with|some (l,u)=>_|none=>_:=h
  split at h
  ·rename_i l u d
   refine a7 (acm d) λ s gQ=>?_;clear d;subst gQ
   exact Subscript_ (fk (g c p _ e W j _ aR h Q b1) λ w fS J x y aX o ab q=>wpAny_Slice (JX g q o (b1.le aX) λ L M Z Jo i0 bS E cQ F=>JX g F E ((b1.le aX).le bS) λ i4 c9 iJ Lq i1 dv O Ea U=>dN (xi U λ v G U=>fA (aco G) λ a b C I=>fin (aX.trans (bS.trans dv)) (acp O G (ab.le (bS.trans dv)) (J_ C cQ) (J_ I Ea) U))))
  ·exact Subscript_ (fk (g c p _ e W j _ aR h Q b1) λ w fS J x y aX o ab q=>fk (g c i _ _ w y _ aR q o (b1.le aX)) λ L lX M H Z bS E aU F=>xi F λ v G F=>fin (aX.trans bS) (I1 S E G (ab.le bS) aU F))
 all_goals exact h.elim
set_option tactic.hygienic false
theorem sP(X:oF T K P aA R):∀n,mh T aA (Internal.ev P R n)/\pT T aA (Internal.eg P R n)/\vS (Internal.ev P R n)
 |0=>⟨λ z z z z z z z z h=>h.elim,λ z z z z z z z z h=>h.elim,λ z z z z z z h=>h⟩
 |n+1=>e_ (sP X n) λ a b o=>⟨Wi X a b o,adF X.S a b o X.b6,Wh⟩
end
end
section
section
variable{T:c5}{K:Frag}{P:eW}{aA:Around}{aR:Value->Shared->Prop}{W aO:bg}{e:U}{j:Shared}{c:fD}{aJ:Env}{A:bo}{R:dq}{sc:Scope}{ak:Loc}
theorem g_.J0(F:g_ T W c aJ){a:Addr}(h:iP aJ a):∃p,W.G a=some p:=by
 rcases h with rfl|⟨x,h⟩
 ·exact fA F.b1.loc λ p m s b=>⟨p,s⟩
 ·exact fA (F.sG x a h) λ p v s d=>⟨p,s⟩
theorem g_.wY{fr:Addr->Prop}(d:g_ T W c aJ)(l:de fr W aO)(h:∀a,fr a->¬iP aJ a):g_ T aO c aJ:=by
 have I:∀x a,aJ.cells.lookup x=some a->¬fr a:=λ x a q D=>h _ D (.inr ⟨x,q⟩)
 exact⟨d.b1.wX l (λ D=>h _ D (.inl rfl)) I,d.apart,d.inj,λ x a q=>fA (d.sG x a q) λ p v bG b=>(cv p v ⟨(l.G a (I x a q)).trans bG,b⟩),d.has,d.rQ⟩
theorem g_.jX(d:g_ T W c aJ)(l:gA W aO):g_ T aO c aJ:=d.wY l λ z h=>h.elim
theorem de.GC{fr b:Addr->Prop}(l:de (λ a=>fr a\/b a) W aO)(h:∀a,b a->aO.G a=W.G a):de fr W aO:=
 ⟨l.F,λ a c=>by by_cases q:b a;exact h a q;exact l.G a λ D=>D.elim c q,l.n,l.adr⟩
theorem Zq{x:Str}{v:E}(h:m7 c.sc x=true)(b:oa P c x=some v)(Q:Inv T W e j)(d:fo T W c aJ){g:Value->Shared->Prop}(dt:∀H,RelV T W v H->g H j):wpAny (model T.prog T.w) aA (loadName aJ x) g aR j:=by
 delta oa at b
 refine IW h (λ f=>?_) λ f=>?_
 ·have b:=f▸b
  exact jd d.loc λ p m C I af=>ba (af x v f b) λ H s r=>wpAny_loadName_local d.kind ((d.names x _ f).resolve_right λ D=>nomatch D.1) (I.ns (Q.gq _ _ C)) s (dt H r)
 ·have b:=f▸b
  exact j5 (d.cell x v f b) λ a p H bG i k l=>wpAny_loadName_cell d.kind ((d.names x _ f).resolve_right λ D=>nomatch D.1) bG ⟨p,Q.gq _ _ i,k⟩ (dt H l)
theorem zL{a:List Expr}{B:List E}{ak b:Loc}(h:sC sc a B ak=some b):
  (a=[]/\B=[]/\b=ak)\/∃x s c v c2,a=.Name x s::c/\B=v::c2/\m7 sc x=true/\sC sc c c2 (l_ ak x v)=some b:=by
 rcases a with _|⟨d,a⟩
 ·rcases B with _|_
  ·exact .inl ⟨rfl,rfl,(c' h).symm⟩
  ·exact a8 h
 ·rcases B with _|⟨v,B⟩
  ·exact a8 h
  ·refine ba (gm.mp (show((w7 d).bind _)=_ from h)) λ x e k=>?_
   obtain⟨s,rfl⟩:=DA e
   rcases q:m7 sc x with _|_
   ·rw[q] at k;exact a8 k
   ·rw[q] at k;exact .inr (IG _ _ _ _ _ ⟨rfl,rfl,q,k⟩)
set_option tactic.hygienic true in
theorem aae{a:List Expr}:∀{B:List E}{ai:List Value}{ak b:Loc}{W:bg}{j:Shared}{c:Unit->Shared->Prop},sC sc a B ak=some b->bK T W B ai->Inv T W e j->g_ T W ⟨sc,ak,[]⟩ aJ->
  (∀aO f,de (iP aJ) W aO->Inv T aO e f->g_ T aO ⟨sc,b,[]⟩ aJ->c () f)->wpAny (model T.prog T.w) aA (assignInOrder ((assignEach a aJ).map (·.2)) ai) c aR j:=by
 induction a with
 |nil=>
  intro B ai ak b W j c h r Q F dt
  rcases zL h with⟨-,rfl,rfl⟩|⟨_,_,_,_,_,h,_⟩
  ·rcases ai with _|_
   case nil=>exact dN (dt W j (de.refl _ _) Q F)
   case cons _ _=>exact r.elim
  ·injection h
 |cons d a g=>
  intro B ai ak b W j c h r Q F dt
  rcases zL h with⟨h,_⟩|⟨x,s,n,v,c2,C,rfl,i,I⟩
  ·injection h
  ·(injection C with a3 bL;clear h;subst a3 bL)
   rcases ai with _|_
   case nil=>exact r.elim
   case cons H dd=>exact wpAny_assignInOrder_more (wpAny_assign_Name (z' F Q i r.1 λ o p aX k gZ=>g I (r.2.le aX) k gZ λ l m bS=>dt l m (aX.trans bS)))
theorem aad{c:List Expr}:∀{B:List E}{ak e:Loc},sC sc c B ak=some e->(assignEach c aJ).length=B.length/\(assignEach c aJ).findIdx? (·.1)=none:=by
 induction c with
 |nil=>
  intro B ak e h
  rcases zL h with⟨-,rfl,rfl⟩|⟨_,_,_,_,_,h,_⟩
  ·exact⟨rfl,rfl⟩
  ·injection h
 |cons d c f=>
  intro B ak e h
  rcases zL h with⟨h,_⟩|⟨x,s,i,v,c2,C,rfl,j,I⟩
  ·injection h
  ·(injection C with a3 bL;clear h;subst a3 bL)
   refine bf (f I) λ a b=>?_
   have g:assignEach (.Name x s::c) _=(false,assign _ _)::assignEach c aJ:=rfl
   exact rwr g (⟨bB _ a,by rw[List.findIdx?_cons,b];rfl⟩)
set_option tactic.hygienic true in
theorem F1(X:oF T K P aA R){t:Expr}{v:E}{H:Value}{KK:Loc->U->Prop}{C:Unit->Shared->Prop}(h:p5 P R sc t v ak KK e)(Q:Inv T W e j)(F:g_ T W ⟨sc,ak,[]⟩ aJ)(r:RelV T W v H)
  (dt:∀aO M G l,de (iP aJ) W aO->Inv T aO M G->g_ T aO ⟨sc,l,[]⟩ aJ->KK l M->C () G):wpAny (model T.prog T.w) aA (assign t aJ H) C aR j:=by
 have y:=(sP X 40).1
 rcases t with _|_
 case Name x s=>
  have h:match m7 sc x with|true=>KK _ e|false=>False:=h
  split at h
  ·rename_i J
   exact wpAny_assign_Name (z' F Q J r λ m n aX c gZ=>dt m e n _ aX c gZ h)
  ·exact h.elim
 case Attribute p x s=>
  exact bZ (jm (fk (y _ p _ e W j _ aR h Q F.b1) λ m L N D n aX c ab q=>bZ (pY (bZ (jm (Al (Kr X.S c ab (r.le aX) q) λ o O u bS g A=>wpAny_release (dt o _ u ak (aX.trans bS).wide g ((F.jX aX).jX bS) A)))))))
 case Subscript p i s=>
  exact bZ (jm (fk (y _ p _ e W j _ aR h Q F.b1) λ m L N D n aX c ab q=>bZ (jm (fk (y _ i _ _ m n _ aR q c (F.jX aX).b1) λ o lX O w u bS g aU A=>bZ (pY (bZ (jm
   (Al (Kt X.S g (ab.le bS) aU (r.le (aX.trans bS)) A) λ V c9 Z dv e6 eZ=>wpAny_release (dt V _ Z ak ((aX.trans bS).trans dv).wide e6 (((F.jX aX).jX bS).jX dv) eZ)))))))))
 case Tuple bc k s=>
  rcases v with _|_
  case tup B=>
   have h:match sC sc bc B ak with|some l=>KK _ e|none=>False:=h
   split at h
   ·rename_i l Y
    refine fg r λ a items cg fB f I=>?_;clear r;subst fB
    refine bf (aad Y) λ cC di=>wpAny_assign_Tuple X.fa ⟨_,Q.fy _ _ f,rfl,_,rfl⟩ (by rw[cC,I.length,jl]) di λ aY bE=>?_
    exact aae Y I (Q.grow (tk:=j.toks) λ b p d=>bE b p (e' (Heap.lt_size d)) d) F λ o u bS g mi=>dt o e u _ bS g mi h
   ·exact h.elim
  all_goals exact h.elim
 all_goals exact h.elim
end
end
section
section
variable{T:c5}{K:Frag}{P:eW}{aA:Around}{aR:Value->Shared->Prop}{W aO:bg}{e:U}{j:Shared}{c:fD}{aJ:Env}{A:bo}{R:dq}{sc:Scope}{ak:Loc}{KK:ei}
noncomputable def SI(T:c5)(W:bg):r'->Flow->Prop
 |.next,f=>f=.next
 |.brk,f=>f=.brk
 |.cont,f=>f=.cont
 |.ret v,f=>∃x,f=.ret x/\RelV T W v x
inductive nC(T:c5)(sc:Scope)(aJ:Env)(W:bg)(KK:ei)(f:Flow)(bu:Shared):Prop
 |of (aO:bg) (fl:r') (cH:Loc) (M:U) (l:de (iP aJ) W aO) (Q:Inv T aO M bu) (F:g_ T aO ⟨sc,cH,[]⟩ aJ) (h:SI T aO fl f) (q:KK fl cH M)
theorem nC.le{f:Flow}(l:de (iP aJ) W aO)(h:nC T sc aJ aO KK f j):nC T sc aJ W KK f j:=by cases h with|of a fl b M dV Q F h q=>exact⟨a,fl,b,M,l.trans dV,Q,F,h,q⟩
abbrev vM:=Stmt->Loc->ei->U->Prop
def t9(T:c5)(aA:Around)(sc:Scope)(aJ:Env)(ex:vM):Prop:=∀(st:Stmt)(ak:Loc)(KK:ei)(e:U)(W:bg)(j:Shared)(aR:Value->Shared->Prop),ex st ak KK e->Inv T W e j->g_ T W ⟨sc,ak,[]⟩ aJ->wpAny (model T.prog T.w) aA (exec st aJ) (nC T sc aJ W KK) aR j
set_option tactic.hygienic true in
theorem uF{ex:vM}(k:t9 T aA sc aJ ex):∀{b:List Stmt}{ak:Loc}{KK:ei}{e:U}{W:bg}{j:Shared}{aR:Value->Shared->Prop},m1 ex b ak KK e->Inv T W e j->g_ T W ⟨sc,ak,[]⟩ aJ->wpAny (model T.prog T.w) aA (execs b aJ) (nC T sc aJ W KK) aR j
 |[],ak,KK,e,W,j,aR,h,Q,F=>wpAny_execs_nil ⟨W,.next,ak,e,de.refl _ _,Q,F,rfl,h⟩
 |st::r,ak,KK,e,W,j,aR,h,Q,F=>by
  refine wpAny_execs_cons (fN (k st ak _ e W j aR h Q F) (λ f m D=>?_) λ z z D=>D)
  obtain⟨d,fl,g,i,aX,c,gZ,a,q⟩:=D
  rcases fl with _|_
  case next=>subst a;exact fN (uF k q c gZ) (λ z z D=>D.le aX) λ z z D=>D
  case brk=>subst a;exact⟨d,.brk,g,i,aX,c,gZ,rfl,q⟩
  case cont=>subst a;exact⟨d,.cont,g,i,aX,c,gZ,rfl,q⟩
  case ret v=>refine ba a λ x l r=>?_;clear a;subst l;exact⟨d,.ret v,g,i,aX,c,gZ,⟨x,rfl,r⟩,q⟩
theorem adg{t d:Expr}(h:(u1 t&&u1 d)=false):swappedStores [t] d aJ=pure none:=by
 rcases t with _|_
 case Tuple _ _ _=>rcases d with _|_<;>first|rfl|injection h
 case List _ _=>rcases d with _|_<;>first|rfl|injection h
 all_goals rfl
set_option tactic.hygienic true in
theorem V_{t:Expr}:(∃x s,t=.Starred x s)\/(assignEach [t] aJ).map (·.2)=[assign t aJ]:=by
 rcases t with _|_
 case Starred x s=>exact .inl (cv x s rfl)
 all_goals exact .inr rfl
theorem JI{d:Expr}{t:Option Expr}{l:Nat}(h:zl d=false):swapsWith d t l aJ=pure false:=by rcases d with _|_<;>first|rfl|exact cq h.symm
theorem Vy{d:Expr}{c:fD}(h:zl d=true):(∃a gens b s,d=.ListComp a gens b s)\/(Internal.ev P R 40 c d A e->False):=by
 rcases d with _|_<;>first|exact cq h|exact .inl (h2 _ _ _ _ rfl)|exact .inr λ h=>h
theorem aal{t:Expr}{a:Expr}{gens:List Comprehension}{b:Scope}{s:Pos}{l:Nat}:(∃x h4,t=.Name x h4)\/swapsWith (.ListComp a gens b s) (some t) l aJ=pure false:=by
 rcases t with _|_<;>first|exact .inr rfl|exact .inl (cv _ _ rfl)
theorem TH(X:oF T K P aA R){f:Expr}{gens:List Comprehension}{g:Scope}{s h4 cz:Pos}{x:Str}
  (c:swapsWith (.ListComp f gens g s) (some (.Name x h4)) cz.line aJ=pure true) (h:Internal.ev P R 40 ⟨sc,ak,[]⟩ (.ListComp f gens g s) (λ v r=>p5 P R sc (.Name x h4) v ak (λ A i=>KK .next A i) r) e) (Q:Inv T W e j) (F:g_ T W ⟨sc,ak,[]⟩ aJ):
  wpAny (model T.prog T.w) aA (exec (.Assign [.Name x h4] (.ListComp f gens g s) cz) aJ) (nC T sc aJ W KK) aR j:=by
 refine e_ (sP X 39) λ t B dZ=>?_;rw[exec_Assign_Name_used x h4 _ _ c]
 have h:wk P R (Internal.ev P R 39) (Internal.eg P R 39) _ (.ListComp _ _ _ s) (λ v=>p5 P R sc _ v ak _) e:=h
 refine GK h λ H agV C ifs d ok E=>?_
 subst d
 refine EU (Bs ok) λ I dr J ik L M=>?_
 obtain⟨iA,N,O⟩:=GD λ s S q=>by
  exact EV (M s S q) λ ey U w V=>j5 (F.b1.cell _ w U V) λ eL dp H bG dz fb gK=>⟨eL,bG⟩
 refine bZ (pY (bZ (bZ (wpAny_comprehension_free rfl (J _) N (vn I) L (fk (t _ C _ e W j _ aR E Q F.b1) λ cS v r oy b7 aX Y ab q=>?_)))))
 split at q
 ·rename_i items Z
  have gZ:=F.jX aX
  refine GI t B X.fa gZ.b1 ok O Y ab Z q λ fE i c8 bJ bA ay bS k dF ⟨tn,td,cV,dG⟩ aU b=>?_
  have b:match m7 sc x with|true=>KK _ _ _|false=>False:=b
  split at b
  ·rename_i ag
   refine wpAny_assign_Name (z' (gZ.le bS λ a D=>by exact rwl D k) dF ag aU λ i4 iJ dv u jC=>?_)
   have l:¬iP _ ay:=λ D=>by refine a7 (gZ.J0 D) λ p m=>?_;have m:=k▸m;exact a8 m
   have n:=(dv.G ay l).trans cV
   refine⟨td,dG.ns (u.gq _ _ n),λ aY c=>?_⟩
   have o:=bg.gx i4 ay none
   have y:=u.extBut (tk:=iJ.toks) n c.extBut
   have c_:de (λ a=>iP _ a\/a=ay) W _:=((aX.wide.trans (bS.mono λ z=>.inr)).trans (dv.mono λ z=>.inl)).trans (o.mono λ z=>.inr)
   refine dN (dN ⟨_,.next,_,i,c_.GC λ a D=>?_,y,jC.wY o λ a D=>rwl D l,rfl,b⟩)
   clear bS cV l n c o y c_;subst D
   exact(aT rfl).trans (k.symm.trans (aX.G _ id))
  ·exact b.elim
 ·exact q.elim
theorem TJ(X:oF T K P aA R){t d:Expr}{cz:Pos}(Y:(u1 t&&u1 d)=false)(h:Internal.ev P R 40 ⟨sc,ak,[]⟩ d (λ v c=>p5 P R sc t v ak (λ a b=>KK .next a b) c) e)(Q:Inv T W e j)(F:g_ T W ⟨sc,ak,[]⟩ aJ):
  wpAny (model T.prog T.w) aA (exec (.Assign [t] d cz) aJ) (nC T sc aJ W KK) aR j:=by
 have main:swapsWith d _ _ _=pure _->wpAny (model _ _) aA (exec _ _) (nC T sc _ W KK) aR j:=λ i=>by
  rw[exec_Assign]
  refine bZ (pY (bZ (wpAny_of_eq (show swapsWithSole [t] d cz.line _=pure false from i) (bZ (fk ((sP X 40).1 _ d _ e W j _ aR h Q F.b1) λ u v c H y aX l ab q=>bZ (wpAny_of_eq (adg Y) ?_))))))
  rcases V_ (t:=t) with⟨_,_,rfl⟩|m
  ·exact q.elim
  ·rw[m]
   exact bZ (F1 X q l (F.jX aX) ab λ n b A a bS o mi p=>dN ⟨n,.next,a,b,aX.wide.trans bS,o,mi,rfl,p⟩)
 rcases f:zl d with _|_
 case false=>exact main (JI f)
 case true=>
  rcases Vy f with⟨B,gens,r,s,rfl⟩|k
  ·rcases aal (t:=t) with⟨x,h4,rfl⟩|k
   ·rcases g:aJ.blockKind==.function&&aJ.kindOf x==some _&&h4.line==s.line&&!r.names.any _ with _|_
    case false=>exact main (bB pure g)
    case true=>exact TH X (bB pure g) h Q F
   ·exact main k
  ·exact(k h).elim
end
end
section
section
variable{T:c5}{K:Frag}{P:eW}{aA:Around}{aR:Value->Shared->Prop}{W aO:bg}{e:U}{j:Shared}{c:fD}{aJ:Env}{A:bo}{R:dq}{sc:Scope}{ak:Loc}{KK:ei}
inductive SR(T:c5)(gN:Loc->kx)(body:Loc->ei->U->Prop)(sc:Scope)(aJ:Env)(KK:ei)(W:bg)(n:Nat)(j:Shared):Prop
 |of (ak:Loc) (e:U) (aO:bg) (h:tc gN body n ak KK e) (Q:Inv T aO e j) (F:g_ T aO ⟨sc,ak,[]⟩ aJ) (l:de (iP aJ) W aO)
inductive Ft(T:c5)(iR:E->Loc->(Loc->U->Prop)->U->Prop)(body:Loc->ei->U->Prop)(sc:Scope)(aJ:Env)(KK:ei)(v:E)(x:Value)(items:List E)(c0:Addr)(W:bg)(n:Nat)(j:Shared):Prop
 |of (i:Nat) (p:Obj) (ak:Loc) (e:U) (aO:bg) (Y:(items.drop i).length=n) (h:o4 iR body (hQ v items) (items.drop i) ak KK e) (Q:Inv T aO e j) (g:aO.G c0=some p) (bQ:oL v x i p) (F:g_ T aO ⟨sc,ak,[]⟩ aJ) (l:de (λ a=>iP aJ a\/a=c0) W aO)
noncomputable def WK(c:E->Loc->(Loc->U->Prop)->U->Prop)(body:Loc->ei->U->Prop)(d:U->Prop)(r:List E)(KK:ei):ei:=λ fl a b=>match fl with
 |.next=>o4 c body d r a KK b
 |.cont=>o4 c body d r a KK b
 |.brk=>KK .next a b
 |.ret w=>KK (.ret w) a b
theorem WL{b:E->Loc->(Loc->U->Prop)->U->Prop}{body:Loc->ei->U->Prop}{a:U->Prop}{r:List E}(h:o4 b body a r ak KK e):a e:=by rcases r with _|_<;>exact h.1
theorem afj(X:oF T K P aA R){ex:vM}(s:t9 T aA sc aJ ex){t:Expr}{b:List Stmt}{cz:Pos}{k:Nat}(h:tc (λ ak=>Internal.eg P R 40 ⟨sc,ak,[]⟩ t) (m1 ex b) k ak KK e)(Q:Inv T W e j)(F:g_ T W ⟨sc,ak,[]⟩ aJ):
  wpAny (model T.prog T.w) aA (exec (.While t b [] cz) aJ) (nC T sc aJ W KK) aR j:=by
 refine wpAny_While (codeAny_whileLoop (SR T _ _ sc _ KK W) ?_ k ⟨ak,e,W,h,Q,F,de.refl _ _⟩)
 intro n u y
 cases y with|of A I B h C gZ aX=>
 rcases n with _|_
 case zero=>exact h.elim
 case succ n=>
  refine r3 ((sP X 40).2.1 _ t _ _ B u _ _ h C gZ.b1) λ E ed G J bS o q=>?_
  have mi:=gZ.jX bS
  have p:=aX.trans bS.wide
  rcases ed with _|_
  case true=>
   refine fN (uF s q o mi) (λ f L D=>?_) λ z z D=>D
   cases D with|of c fl d g dv i jC a l=>
   have m:=p.trans dv
   rcases fl with _|_
   case next=>subst a;exact⟨n,eo n,d,g,c,l,i,jC,m⟩
   case cont=>subst a;exact⟨n,eo n,d,g,c,l,i,jC,m⟩
   case brk=>subst a;exact⟨c,.next,d,g,m,i,jC,rfl,l⟩
   case ret v=>refine ba a λ x H r=>?_;clear a;subst H;exact⟨c,.ret v,d,g,m,i,jC,⟨x,rfl,r⟩,l⟩
  case false=>
   exact wpAny_execs_nil ⟨E,.next,A,G,p,o,mi,rfl,q⟩
set_option tactic.hygienic true
theorem Xw{t:Expr}{H:Value}{b:Addr}{c:Unit->Shared->Prop}{bh:Model}{n:String}{B:Array Value}{o:Option Addr}{a_:Array (Option Value)}(d:j.heap.get? b=some ⟨.type n,o,.fields B,a_⟩)(af:(["enumerate","zip","dict_itemiterator","dict_reverseitemiterator","odict_iterator","itertools.zip_longest","itertools.pairwise"].contains n)=false)(h:c () j):wpAny bh aA (letOwnedTupleGo t (.ref b) H) c aR j:=by
 have q:∀{a:Addr},(["enumerate","zip","dict_itemiterator","dict_reverseitemiterator","odict_iterator","itertools.zip_longest","itertools.pairwise"].contains n&&B[0]?==some (rawInt a))=false:=λ{a}=>by rw[af,Bool.false_and]
 rcases t with _|_
 case Tuple _ _ _=>
  rcases H with _|_
  case ref a=>exact bZ (wpAny_load d (nI (h_ λ D=>cq (q.symm.trans D)) (dN h)))
  all_goals exact dN h
 case List _ _=>
  rcases H with _|_
  case ref a=>exact bZ (wpAny_load d (nI (h_ λ D=>cq (q.symm.trans D)) (dN h)))
  all_goals exact dN h
 all_goals exact dN h
theorem adH{t:Expr}{v:E}{x H:Value}{i:Nat}{items:List E}{g:Addr}{p:Obj}{f:Unit->Shared->Prop}{bh:Model}(k:j.heap.get? g=some p)(l:hy e v=some items)(d:oL v x i p)(h:f () j):wpAny bh aA (letOwnedTupleGo t (.ref g) H) f aR j:=by
 have go:∀{n:String}{B:Array _},p.cls=.type n->p.data=.fields B->["enumerate","zip","dict_itemiterator","dict_reverseitemiterator","odict_iterator","itertools.zip_longest","itertools.pairwise"].contains n=false->wpAny bh aA (letOwnedTupleGo t _ H) f aR j:=λ C I af=>by
  obtain⟨cls,o,data,a_⟩:=p
  obtain rfl:cls=_:=C
  obtain rfl:data=_:=I
  exact Xw k af h
 rcases v with _|_
 case tup B=>exact fz d λ a m C I=>go C I rfl
 case lst B=>exact fz d λ a q C I=>go C I rfl
 case str B=>exact fz d λ a r C I=>go C I rfl
 case rng a b c=>
  subst d
  exact go rfl rfl rfl
 case ref B=>exact fz d λ a s C I=>go C I rfl
 all_goals exact a8 l
theorem WN(X:oF T K P aA R){ex:vM}(n4:t9 T aA sc aJ ex){t iter:Expr}{b:List Stmt}{cz:Pos}(qr:∀x,foldedSetIterable iter aJ x=pure x)
  (h:Internal.ev P R 40 ⟨sc,ak,[]⟩ iter (λ v o=>match hy o v with
   |some items=>o4 (p5 P R sc t) (m1 ex b) (hQ v items) items ak KK o
   |none=>False) e) (Q:Inv T W e j) (F:g_ T W ⟨sc,ak,[]⟩ aJ):
  wpAny (model T.prog T.w) aA (exec (.For t iter b [] cz) aJ) (nC T sc aJ W KK) aR j:=by
 refine wpAny_For (fk ((sP X 40).1 _ _ _ e W j _ aR h Q F.b1) λ u v o x b7 aX C ab q=>?_) qr
 split at q
 ·rename_i items E
  have gZ:=F.jX aX
  have B:=C.tg
  refine I2 C ab E λ p d I=>?_
  generalize b7.heap.objs.size=c at B I⊢
  have s:¬iP _ c:=λ D=>by refine a7 (gZ.J0 D) λ p d=>?_;have d:=B▸d;exact a8 d
  have fin:∀{aO:bg},de _ u aO->de (iP aJ) W _:=λ{aO} l=>aX.wide.trans ((l.trans ((bg.gx aO c _).mono λ z=>.inr)).GC λ a D=>by rw[D,B];exact aT rfl)
  have bS:=bg.gx u c (some p)
  refine codeAny_forLoop_any (Ft T _ _ sc _ KK v x _ c u) ?_ _ ⟨0,p,ak,o,_,rfl,q,I,aT rfl,d,gZ.wY bS λ a D=>rwl D s,bS.mono λ z=>.inr⟩
  intro n c8 aP
  cases aP with|of i p cH M aO Y h Q bO d F l=>
  subst Y
  have J:=KP E (WL h)
  have jC:=λ fs=>F.wY (bg.gx aO c fs) λ a D=>rwl D s
  refine JE Q X.fa (ab.le l) J bO d (λ a y H fs aY tk L A bM=>?_) λ y aY tk A=>?_
  ·rw[BL y] at h
   refine adH (A.gq c fs (aT rfl)) J L (F1 (KK:=λ kV o=>m1 ex b _ (WK _ _ _ _ KK) _) X h.2 A (jC _) bM.eT λ nE f6 ir ag7 N jD SH fT=>?_)
   refine fN (uF n4 fT jD SH) (λ f vm D=>?_) λ z z D=>D
   cases D with|of O fl agm lD S U V g k=>
   have c_:=((l.trans ((bg.gx aO c _).mono λ z=>.inr)).trans (N.mono λ z=>.inl)).trans (S.mono λ z=>.inl)
   have stop:=λ{fl:r'}{f:Flow} g q=>nC.of (KK:=KK) (f:=f) _ fl _ _ (fin c_) (U.yT c) (V.wY (bg.gx O c _) λ a D=>rwl D s) g q
   have Z:=λ k=>(⟨_,BK y,i+1,fs,agm,lD,O,rfl,k,U,(S.G c s).trans ((N.G c s).trans (aT rfl)),L,V,c_⟩:∃m,m<(items.drop i).length/\Ft T (p5 P R sc t) (m1 ex b) sc _ KK v x _ c u m vm)
   rcases fl with _|_
   case next=>subst g;exact Z k
   case cont=>subst g;exact Z k
   case brk=>subst g;exact stop (fl:=.next) rfl k
   case ret w=>refine ba g λ D gQ r=>?_;clear g;subst gQ;exact stop (fl:=.ret w) ⟨D,rfl,r.eT⟩ k
  ·rw[su (List.getElem?_eq_none_iff.mp y)] at h
   exact wpAny_execs_nil ⟨_,.next,cH,M,fin l,A,jC _,rfl,h.2⟩
 ·exact q.elim
set_option tactic.hygienic false
theorem aam{i:Expr}(h:IX i=false):∀a b new,augStore i a b new=(do holding [new,a,b] (setItem a b new);release [new,a,b] [];pure .next):=by rcases i with _|_<;>first|exact λ z z z=>rfl|exact cq h.symm
set_option tactic.hygienic true in
theorem Wk(X:oF T K P aA R){ex:vM}(G:t9 T aA sc aJ ex):t9 T aA sc aJ (Hb P R sc ex):=by
 intro st ak KK e W j aR h Q F
 refine e_ (sP X 40) λ f hN j6=>?_;have S:=X.S
 rcases st with _|_
 case Expr d cz=>
  refine BV h λ aG h=>wpAny_Expr_any (fk (f _ d _ e W j _ aR h Q F.b1) λ l v o x y aX c ab q=>⟨l,.next,ak,o,aX.wide,c,F.jX aX,rfl,q⟩) ?_ (JI aG)
  unfold interactive;rw[F.b1.kind];rfl
 case Pass cz=>exact wpAny_Pass ⟨W,.next,ak,e,de.refl _ _,Q,F,rfl,h⟩
 case Break cz=>exact wpAny_Break ⟨W,.brk,ak,e,de.refl _ _,Q,F,rfl,h⟩
 case Continue cz=>exact wpAny_Continue ⟨W,.cont,ak,e,de.refl _ _,Q,F,rfl,h⟩
 case Return v cz=>
  rcases v with _|_
  case none=>exact wpAny_Return_none ⟨W,.ret .none,ak,e,de.refl _ _,Q,F,⟨_,rfl,rfl⟩,h⟩
  case some d=>exact wpAny_Return_some (fk (f _ d _ e W j _ aR h Q F.b1) λ l v o x y aX c ab q=>⟨l,.ret v,ak,o,aX.wide,c,F.jX aX,⟨x,rfl,ab⟩,q⟩)
 case Assign eg d cz=>
  rcases eg with _|⟨t,_|⟨_,_⟩⟩
  ·exact h.elim
  ·exact BV h λ Y h=>TJ X Y h Q F
  ·exact h.elim
 case AugAssign t b4 d cz=>
  rcases t with _|_
  case Name x h4=>
   have h:match m7 sc x,oa P _ x with
    |true,some a=>Internal.ev P R 40 _ d _ e
    |_,_=>False:=h
   split at h
   ·rename_i a ag ao
    exact wpAny_AugAssign_Name (Zq ag ao Q F.b1 λ H l7=>fk (f _ d _ e W j _ aR h Q F.b1) λ l b o D y aX c ab q=>fk (C_ c (l7.le aX) ab q) λ L r I w N bS B aU s=>z' ((F.jX aX).jX bS) B ag aU λ J O dv E jC=>⟨J,.next,_,I,(aX.trans bS).wide.trans dv,E,jC,rfl,s⟩)
   ·exact h.elim
  case Attribute p x h4=>
   exact wpAny_AugAssign_AttributeAny (fk (f _ p _ e W j _ aR h Q F.b1) λ l fS o H y aX c ab q=>fk (HF S c ab q) λ L a I D N bS B aU s=>fk (f _ d _ _ L N _ aR s B (F.b1.le (aX.trans bS))) λ J b c9 w O dv E U eZ=>
    fk (C_ E (aU.le dv) U eZ) λ nE r f6 u ir m V Z fT=>Al (Kr S V (ab.le (bS.trans (dv.trans m))) Z fT) λ vU lD vm C nx pv=>
    ⟨vU,.next,ak,lD,(aX.trans (bS.trans (dv.trans (m.trans C)))).wide,nx,F.jX (aX.trans (bS.trans (dv.trans (m.trans C)))),rfl,pv⟩)
  case Subscript p i h4=>
   refine BV h λ aN h=>wpAny_AugAssign_SubscriptAny (fk (f _ p _ e W j _ aR h Q F.b1) λ l fS o H y aX c ab q=>fk (f _ i _ _ l y _ aR q c (F.b1.le aX)) λ L lX I D N bS B aU s=>xi s λ a au s=>jd (I1 (A:=λ v M=>v=a/\M=I) S B au (ab.le bS) aU ⟨rfl,rfl⟩) λ yl id hF nr g=>fk g λ J eL c9 w O dv E U cT=>bf cT λ kU E0=>?_) (aam aN);clear cT;subst kU;clear B au g;subst E0
   exact fk (f _ d _ _ J O _ aR s E (F.b1.le (aX.trans (bS.trans dv)))) λ nE b f6 u ir m V Z fT=>fk (C_ V (U.le m) Z fT) λ vU r lD n vm C nx tu pv=>
    Al (Kt S nx (ab.le (bS.trans (dv.trans (m.trans C)))) (aU.le (dv.trans (m.trans C))) tu pv) λ SQ vI tw mB ye abb=>
    have c_:=aX.trans (bS.trans (dv.trans (m.trans (C.trans mB))));⟨SQ,.next,ak,vI,c_.wide,ye,F.jX c_,rfl,abb⟩
  all_goals exact h.elim
 case If t b p cz=>
  refine wpAny_If (r3 (hN _ t _ e W j _ aR h Q F.b1) λ l r o y aX c q=>?_)
  rcases r with _|_
  case true=>exact fN (uF G q c (F.jX aX)) (λ z z D=>D.le aX.wide) λ z z D=>D
  case false=>exact fN (uF G q c (F.jX aX)) (λ z z D=>D.le aX.wide) λ z z D=>D
 case While t b p cz=>
  rcases p with _|_
  case nil=>exact a7 h λ k h=>afj X G h Q F
  case cons _ _=>exact h.elim
 case For t iter b p cz=>
  rcases p with _|_
  case nil=>exact WN X G (λ x=>by rcases iter with _|_<;>first|rfl|exact False.elim h) h Q F
  case cons _ _=>exact h.elim
 all_goals exact h.elim
theorem Hc(X:oF T K P aA R):∀n,t9 T aA sc aJ (Internal.ex P R sc n)
 |0=>λ z z z z z z z h=>h.elim
 |n+1=>Wk X (Hc X n)
end
end
section
section
variable{T:c5}{K:Frag}{P:eW}{aA:Around}{aR:Value->Shared->Prop}{W aO:bg}{e:U}{j:Shared}{c:fD}{aJ:Env}{A:bo}{R:dq}{sc:Scope}{ak:Loc}{KK:ei}
theorem yG:∀(names:List (Str×NameKind))(n:Nat)(a:List (Str×Addr))(x:Str),((x,NameKind.cell)∈names\/(a.lookup x).isSome=true)->((cellsFrom n names a).lookup x).isSome=true
 |[],_,_,_,h=>h.resolve_left λ D=>(gh D).elim
 |(H,k)::r,n,a,x,h=>by
  unfold cellsFrom
  by_cases b:(k==NameKind.cell)=true
  ·rw[aT b]
   refine yG r _ _ x ?_
   rw[k4]
   rcases q:x==H with _|_
   case true=>exact .inr rfl
   case false=>
    refine h.imp_left λ D=>?_
    rcases ew.mp D with D|D
    ·(injection D with a3 bL;subst a3 bL);rw[eC] at q;injection q
    ·exact D
  ·rw[a9 b]
   refine yG r _ _ x (h.imp_left λ D=>?_)
   rcases ew.mp D with D|D
   ·(injection D with a3 bL;clear h;subst a3 bL);exact(b rfl).elim
   ·exact D
theorem U5{lY:Str->Option NameKind}{g4:List Str}:∀{B:List E}{dd:List Value}{ak:Loc}{m mY:Str->Option Value},bK T W B dd->
  (∀x v,lY x=some .local->getL ak x=some v->∃H,m x=some H/\RelV T W v H)->(∀x v,lY x=some .cell->getL ak x=some v->∃H,mY x=some H/\RelV T W v H)->
  (∀x v,lY x=some .local->getL (vq g4 B ak) x=some v->∃H,bindL lY (g4.zip dd) m x=some H/\RelV T W v H)/\(∀x v,lY x=some .cell->getL (vq g4 B ak) x=some v->∃H,bindC lY (g4.zip dd) mY x=some H/\RelV T W v H):=by
 induction g4 with
 |nil=>intro B dd ak m mY r C I;rcases B with _|_<;>exact⟨C,I⟩
 |cons s g4 e=>
  intro B dd ak m mY r C I
  rcases B with _|⟨v,B⟩
  ·rcases dd with _|_
   ·exact⟨C,I⟩
   ·exact r.elim
  ·rcases dd with _|⟨H,dd⟩
   ·exact r.elim
   ·refine e r.2 (λ x w b a=>?_) λ x w b a=>?_
    ·rcases uP a with⟨rfl,rfl⟩|⟨c,a⟩
     ·rw[aT b];exact⟨H,aT rfl,r.1⟩
     ·refine ba (C x w b a) λ D af d=>⟨D,?_,d⟩
      split
      ·exact(a9 c).trans af
      ·exact af
    ·rcases uP a with⟨rfl,rfl⟩|⟨c,a⟩
     ·rw[a9 (by rw[b];decide)];exact⟨H,aT rfl,r.1⟩
     ·refine ba (I x w b a) λ D af d=>⟨D,?_,d⟩
      split
      ·exact af
      ·exact(a9 c).trans af
open Classical in
noncomputable def bg.frame(W:bg)(j9:Addr->Prop)(g:Addr->Option Obj):bg:={W with G:=λ a=>if j9 a then g a else W.G a}
theorem bg.B5(W:bg)(j9:Addr->Prop)(g:Addr->Option Obj):de j9 W (W.frame j9 g):=⟨λ z z d=>d,λ a D=>a9 D,bx _,λ z z=>rfl⟩
set_option tactic.hygienic true in
theorem Inv.Ht(bT:Inv T W e j){j9:Addr->Prop}{g:Addr->Option Obj}(b:∀a p,j9 a->g a=some p->j.heap.get? a=some p/\W.F a=none/\∀i x,e.get i=some x->kY x->W.fq i≠a):Inv T (W.frame j9 g) e j:=by
 have c:∀{a:Addr},j9 a->(W.frame j9 g).G a=g a:=λ D=>aT D
 have f:∀{a:Addr},¬j9 a->(W.frame j9 g).G a=W.G a:=λ D=>a9 D
 refine⟨bT.fy,λ a p d=>?_,λ a p d=>?_,bT.base,bT.n,bT.lt,λ i p d=>mO.le (bg.B5 W j9 g) rfl rfl (bT.obj i p d),λ i p d m=>⟨(bT.free i p d m).1,?_⟩,bT.inj,bT.gens,bT.os⟩
 ·by_cases q:j9 a
  ·rw[c q] at d;exact(b a p q d).1
  ·rw[f q] at d;exact bT.gq a p d
 ·by_cases q:j9 a
  ·rw[c q] at d;exact(b a p q d).2.1
  ·rw[f q] at d;exact bT.apart a p d
 ·show(W.frame j9 g).G (W.fq i)=none
  by_cases q:j9 (W.fq i)
  ·rw[c q]
   rcases D:g _ with _|_
   case none=>rfl
   case some H=>exact(((b _ H q D).2.2 i p d m) rfl).elim
  ·rw[f q];exact(bT.free i p d m).2
theorem adO(ay:Addr)(a:List Value):(Code.builtin "type.__call__" ⟨.ref ay::a,[]⟩).weight=1/\(Code.builtin "type.__call__" ⟨.ref ay::a,[]⟩).cUnits<=30:=by
 have h:(Code.builtin "type.__call__" ⟨.ref ay::a,[]⟩).cUnits=1+3*(Code.builtin "type.__call__" ⟨[],[]⟩).frames:=rfl
 exact⟨rfl,by rw[h];exact ae rfl⟩
set_option tactic.hygienic true in
theorem abX(S:St T K P)(rC:∀k o,P.fn k=some o->nz (model T.prog T.w) K (.ref (T.jr k)))(wI:∀c k,P.init c=some k->nz (model T.prog T.w) K (.ref (T.ca c))):∀(n:Nat)(aA:Around),AN aA n->pM T P aA (Run P n):=by
 intro n
 induction n with
 |zero=>intro aA r k B A e h;exact h.elim
 |succ n V=>
  intro aA r k B A e h
  refine aaB h λ o Y y h=>⟨⟨o,Y⟩,λ W j ai aR Q bV=>?_⟩
  rw[k2,iy,decide_eq_true_eq] at y
  refine a7 (S.fn k o Y) λ fJ b=>ba b.get λ p bQ XR=>ba (b.binds W j B ai Q.base Q.h₀ bV y.2 y.1) λ dd l7 ax=>?_
  have s:=b.ok
  have Z:o.scope.isGenerator=false/\o.scope.isCoroutine=false:=by
   simp only[pA,k2,Bool.not_eq_true'] at s
   exact⟨s.1.1.2,s.1.2⟩
  refine codeAny_call_function (by have:=r.depth;exact J [_,_,_] 0xc11100030442104450082400001 L this) (Q.h₀ _ _ bQ) XR (by rw[b.scope];exact Z.2) (by rw[b.scope];exact Z.1) b.body (b.code.keeps Q.h₀) (ax _ _ _ _ ?_)
  rw[b.Vs,b.scope,b.nY,b.oX]
  have X8:∀x∈o.params.zip dd,o.scope.names.lookup _=some _\/o.scope.names.lookup _=some _/\((cellsFrom (j.heap.objs.size+1) _ []).lookup _).isSome=true:=λ x l=>by
   rcases b.params _ (List.of_mem_zip l).1 with D|D
   ·exact .inl D
   ·exact .inr ⟨D,yG _ _ _ _ (.inl (mem_of_lookup D))⟩
  refine wpAny_newFunctionEnv_cells (vn s) X8 λ aJ u b7 X=>?_
  have FJ:=X.cell;have FI:=X.above
  obtain⟨⟨t,tk,rfl⟩,SU,FL,FK⟩:=X.toInCall
  refine⟨(Q.nolimit S).keeps FL,codeAny_func ?_⟩
  have E:∀a,iP aJ a->j.heap.objs.size<=a:=by
   rintro a (rfl|⟨x,l⟩)
   ·exact FK
   ·exact ah FK (kc (FI x a (mem_of_lookup l)))
  have bW:=(Q.grow (tk:=tk) FL).Ht (g:=t.get?) λ a p q d=>⟨d,by
    rcases D:W.F a with _|_
    case none=>rfl
    case some p=>exact((lK.mpr (E a q)) (Heap.lt_size (Q.fy a p D))).elim,λ i x d m D=>absurd (Q.vb d m) (lK.mpr (rwl D (E a q)))⟩
  have aX:=bg.B5 W (iP aJ) t.get?
  have M:∀{a:Addr},iP _ a->(W.frame (iP aJ) t.get?).G a=t.get? a:=λ D=>aT D
  have Iu:aJ.scope=o.scope:=by rw[u];rfl
  have N:aJ.kindOf=λ x=>o.scope.names.lookup x:=by unfold Env.kindOf;rw[Iu]
  refine bf (U5 (lY:=aJ.kindOf) (g4:=o.params) (ak:=qy o.scope) (m:=λ z=>none) (mY:=λ z=>none) (l7.le aX) (λ x v z D=>(u7 D).elim) λ x v z D=>(u7 D).elim) λ fP gs=>ba (DN SU) λ aav Yh Yg=>?_
  have has:∀x,o.scope.names.lookup x=some _->∃a,aJ.cells.lookup x=some a:=λ x l=>by
   rw[(by rw[u];rfl:aJ.cells=cellsFrom (j.heap.objs.size+1) o.scope.names [])];exact Option.isSome_iff_exists.mp (yG _ _ _ _ (.inl (mem_of_lookup l)))
  have b1:fo T (W.frame (iP aJ) t.get?) ⟨o.scope,vq o.params (ow o.params.length B o.defaults) (qy o.scope),[]⟩ aJ:=by
   exact⟨by exact rwl Iu (vn s),λ x k l=>.inl (by rw[N];exact l),s,by rw[u];rfl,by rw[u];rfl,(cv aav _ ⟨(M (.inl rfl)).trans Yh,Yg,λ x v C I=>fP x v (by rw[N];exact C) I⟩),λ x v C I=>a7 (has x C) λ a O=>ba (FJ x a O) λ R cV dG=>ba (gs x v (by rw[N];exact C) I) λ H hM o6=>gw a R H ⟨O,(M (.inr ⟨x,O⟩)).trans cV,by rw[dG,hM],o6⟩,λ x v C I=>((b.rQ x) C).elim⟩
  have F:g_ T (W.frame (iP aJ) t.get?) ⟨o.scope,vq o.params (ow o.params.length B o.defaults) (qy o.scope),[]⟩ aJ:=by
   refine⟨b1,λ x a l d=>?_,λ x H a l b_=>name_of_addr X.apart (mem_of_lookup l) (mem_of_lookup b_),λ x a l=>?_,has,b.rQ⟩
   ·have:=FI x a (mem_of_lookup l)
    rw[d] at this
    exact Nat.lt_irrefl _ this
   ·exact ba (FJ x a l) λ R cV dG=>cv R _ ⟨(M (.inr ⟨x,l⟩)).trans cV,dG⟩
  have ab:AN (aA.deeper aJ) n:=⟨r.handled,by have:=r.depth;exact J [_,_,_] 0x3044211441088800000030442104450082400001 L this,by show aA.units+3+40*n+120<_;have:=r.units;lia⟩
  have SS:oF T K P _ _:=⟨S,ab.handled,by have:=ab.units;lia,V _ ab,λ ay lA=>V _ ⟨ab.handled,by
    show aA.depth+1+_+2*n+2<_
    have:=r.depth;exact J [_,_,_] 0x1822108a208441110000000030442104450082400001 L this,by
    show aA.units+3+_+40*n+120<_
    have:=(adO ay lA).2;have:=r.units;lia⟩,rC,wI⟩
  refine fN (uF (Hc SS 12) h bW F) (λ f c8 D=>?_) λ z z D=>D
  obtain⟨fE,fl,pL,aS,bS,dF,mi,U,q⟩:=D
  have e6:=dF.Ht (j9:=iP aJ) λ a p z=>a8
  have dv:=bg.B5 fE (iP aJ) λ z=>none
  have c_:=((aX.trans bS).trans dv).close λ a D=>by
   refine(aT D).trans (Eq.symm ?_)
   rcases d:W.G a with _|_
   case none=>rfl
   case some p=>exact((lK.mpr (E a D)) (Heap.lt_size (Q.gq a p d))).elim
  rcases fl with _|_
  case next=>subst U;exact⟨_,.none,aS,c_,e6,rfl,q⟩
  case ret v=>refine ba U λ x kp r=>?_;clear U;subst kp;exact⟨_,v,aS,c_,e6,r.le dv,q⟩
  case brk=>exact q.elim
  case cont=>exact q.elim
end
end
end
section
open PySem PySem.W PySem.Calls PyProof.Rows
section
section
variable{cc:Type}
set_option tactic.hygienic true in
theorem zB{ns:List Str}:∀{B:List cc}{i:Nat}{n:Str},ns.Nodup->ns[i]?=some n->(ns.zip B).lookup n=B[i]?:=by
 induction ns with
 |nil=>intro B i n _ h;exact a8 h
 |cons m ns a=>
  intro B i n Y h
  refine bf (sr.mp Y) λ C I=>?_
  rcases B with _|_
  case nil=>simp
  case cons v B=>
   rw[List.zip_cons_cons,k4]
   rcases i with _|_
   case zero=>obtain rfl:=cm h;rw[eC];rfl
   case succ i=>
    have:(n==m)=false:=fF.mpr λ d=>C (rwr d (ka h))
    rw[this,a I h]
    simp
theorem Jn{l r:List (Str×cc)}{n:Str}:(l++r).lookup n=(l.lookup n).or (r.lookup n):=by
 induction l with
 |nil=>simp
 |cons s l a=>
  obtain⟨m,v⟩:=s
  rw[pZ,k4,k4]
  rcases n==m with _|_
  case true=>rfl
  case false=>exact a
theorem Zy{l:List (Str×cc)}{s:Str->Bool}{n:Str}(h:s n=true):(l.filter λ x=>s x.1).lookup n=l.lookup n:=by
 induction l with
 |nil=>rfl
 |cons q l a=>
  obtain⟨m,v⟩:=q
  rw[List.filter_cons,k4]
  rcases d:n==m with _|_
  case true=>
   have:=eq_of_beq d
   subst this
   simp only[h,if_true,k4,eC]
  case false=>
   split
   ·rw[k4,d];exact a
   ·exact a
set_option tactic.hygienic true in
theorem Wt{ns:List Str}{f:Str->Option cc}:∀{B:List cc},ns.length=B.length->(∀(i:Nat)(n:Str),ns[i]?=some n->f n=B[i]?)->(ns.filterMap λ n=>(f n).map λ x=>(n,x))=ns.zip B:=by
 induction ns with
 |nil=>intro B h _;rcases B with _|_<;>rfl
 |cons m ns b=>
  intro B h a
  rcases B with _|_
  case nil=>injection h
  case cons v B=>
   rw[List.filterMap_cons,a 0 m rfl]
   exact bB _ (b (by simpa using h) λ i n d=>by have:=a (i+1) n (by simpa using d);simpa using this)
end
set_option tactic.hygienic true in
theorem Wr(f:Str×Value->List (Str×Value)->Sem (ForInStep (List (Str×Value))))(c:∀x r,f x r=if(r.lookup x.1).isNone=true then pure (.yield (r++[(x.1,x.2)])) else pure (.yield r))(ns:List Str):
  ∀(fI:List Value)(a:List (Str×Value)),ns.Nodup->forIn (ns.zip fI) a f=pure (a++(ns.zip fI).filter λ s=>(a.lookup s.1).isNone):=by
 induction ns with
 |nil=>intro fI a _;rw[List.zip_nil_left,List.forIn_nil,List.filter_nil,gT]
 |cons n ns b=>
  intro fI a Y
  refine bf (sr.mp Y) λ C I=>?_
  rcases fI with _|_
  case nil=>rw[List.zip_nil_right,List.forIn_nil,List.filter_nil,gT]
  case cons o fI=>
   rw[List.zip_cons_cons,sv,c,List.filter_cons]
   by_cases d:(a.lookup n).isNone=true
   ·have k:∀s∈ns.zip fI,((a++[(n,o)]).lookup _).isNone=(a.lookup _).isNone:=λ s e=>by
     rw[Jn,k4,(fF.mpr λ q=>C ((rwr q ((List.of_mem_zip e).1))):(s.1==n)=false)]
     exact bB _ Option.or_none
    rw[aT d,aT d]
    exact(b fI _ I).trans (bB _ ((bB _ (List.filter_congr k)).trans (el ..)))
   ·rw[a9 d,a9 d]
    exact b fI _ I
theorem U4{n x o:Nat}(h:x<=n)(c:o<=n)(b:n<=x+o):n=x+(o-(x+o-n)):=cB (J [_,_,_,_,_] 0x5400e0220073002628081 L (d2 _ _) (dj b)) ((Nat.le_total _ _).elim (λ a=>J [_,_,_,_,_] 0x7410002990009cc029001 L (d2 _ _) (dj a)) λ a=>J [_,_,_] 0x298800004609481 L h (aL (vY a)))
theorem U3{n x o i:Nat}(a:o<=n)(b:n<=x+o)(h:x<=i)(c:i<n):n-o+(x+o-n+(i-x))=i:=cB (J [_,_,_,_,_,_,_] 0x524e02000a424012a0063802629001 L (dj a) (dj b) (dj h)) (J [_,_,_,_,_,_,_] 0x520050240750121220063802628081 L (d2 _ _) (d2 _ _) (d2 _ _))
theorem U6{j:Shared}{b:FuncData}{ai:List Value}{names:List Str}{o2:Option (Array Value)}(C:b.params.posonlyargs=[])(I:b.params.args.map (·.arg)=names)(af:b.params.kwonlyargs=[])(h:b.params.vararg=none)(k:b.params.kwarg=none)
  (l:∀(bh:Model)(aA:Around)(aR:Value->Shared->Prop)(A:Option (Array Value)->Shared->Prop),A o2 j->wpAny bh aA (seqItems? b.defaults) A aR j) (Y:names.Nodup) {fI:List Value} (t:(o2.getD #[]).toList=fI) (o:ai.length<=names.length) (g:fI.length<=names.length) (e:names.length<=ai.length+fI.length):
  BindsTo j b ⟨ai,[]⟩ (names.zip (ai++fI.drop (ai.length+fI.length-names.length))):=by
 intro bh aA aR A u
 have v:List.filter (λ n=>(List.lookup n (names.zip ai)).isNone) (names.take (names.length-fI.length))=[]:=by
  rw[List.filter_eq_nil_iff]
  intro n w
  refine a7 (List.mem_iff_getElem?.mp w) λ i c=>bf (qu (List.getElem?_take.symm.trans c)) λ y c=>?_
  rw[zB Y c,hK (d7 y (Nat.sub_le_of_le_add e))]
  exact Bool.false_ne_true
 have V:=Wt (ns:=names) (f:=λ n=>(names.zip ai++((names.drop _).zip fI).filter _).lookup n) (B:=ai++fI.drop _) (by rw[bR,jn];exact U4 o g e) λ i n c=>by
  rw[Jn,zB Y c]
  by_cases q:i<ai.length
  ·rw[List.getElem?_append_left q,hK q];rfl
  ·have q:=cI q
   rw[oR q,yt q,sq,Zy (s:=λ m=>(List.lookup m _).isNone) (by rw[zB Y c,oR q];rfl)]
   exact zB (Y.sublist (List.drop_sublist _ _)) (by rw[sq,U3 g e q (iz.mp c).1];exact c)
 obtain⟨E,F,s,G,H,J,K⟩:=b
 obtain⟨bG,d,L,M,N,O⟩:=s
 dsimp only at C I af h k l
 clear e;subst C I af h k
 unfold bindArgs
 dsimp only[List.map,List.nil_append]
 have p:(o2.getD #[]).toList.drop ((o2.getD #[]).toList.length-(d.map (·.arg)).length)=fI:=by rw[t,vY g,mT]
 refine bZ (dN (bZ (l _ _ _ _ (nI (h_ ?_) (nI (h_ ?_) (bZ (wpAny_of_eq (a:=(d.map (·.arg)).zip ai++(((d.map (·.arg)).drop ((d.map (·.arg)).length-fI.length)).zip fI).filter λ s=>(((d.map (·.arg)).zip ai).lookup s.1).isNone) ?_ (bZ (dN (nI rfl (dN ?_)))))))))))
 ·rw[k2,decide_eq_true_eq];exact λ D=>lK.mpr o D.1
 ·rw[p,v];exact Bool.false_ne_true
 ·exact rwr p (Wr _ (λ x r=>rfl) _ _ _ (Y.sublist (List.drop_sublist _ _)))
 ·rw[gT]
  exact rwl V u
end
noncomputable def kn(w:World)(j:Shared):c5:=⟨λ k=>(iT.lookup k).getD 0,λ c=>(kf.lookup c).getD 0,hO,w,j.heap,j.gens,j.os,λ c=>(kf.lookup c).isSome=true⟩
def Seen(w:World)(h:Heap):Prop:=∃g:Addr->Option Obj,w2 g=zz w/\∀a p,g a=some p->h.get? a=some p
set_option tactic.hygienic true in
theorem B4{g:Addr->Option Obj}{a:Addr}{p:Obj}:∀{l:List Nat},(l.filterMap λ a=>(g a).map λ p=>(a,p)).lookup a=some p->g a=some p
 |[],h=>a8 h
 |b::l,h=>by
  rw[List.filterMap_cons] at h
  rcases d:g b with _|_
  case none=>rw[d] at h;exact B4 h
  case some x=>
   rw[d] at h
   have h:((b,x)::l.filterMap _).lookup a=some p:=h
   rw[k4] at h
   rcases q:a==b with _|_
   case true=>rw[q] at h;obtain rfl:=cm h;exact rwl (eq_of_beq q) d
   case false=>rw[q] at h;exact B4 h
noncomputable def KJ:Option Stmt->Bool
 |some (.FunctionDef _ args _ _ _ _ sc _ _ _)=>pA sc&&sc.names.all (λ s=>s.2 !=.free)&&args.posonlyargs.isEmpty&&args.kwonlyargs.isEmpty&&args.vararg.isNone&&args.kwarg.isNone&&decide (args.args.map (·.arg)).Nodup&&
  args.args.all λ s=>sc.names.lookup s.arg==some .local||sc.names.lookup s.arg==some .cell
 |_=>false
theorem acB:iT.all (λ s=>KJ (xy s.1))=true:=by kernel_rfl
theorem codeRec_of{g:Addr->Option Obj}{h:Heap}(sub:∀a p,g a=some p->h.get? a=some p){b:Value}{q:Str}(d:GH g b q=true):h.CodeRec b q:=by
 refine ba (gm.mp (eq_of_beq (show(_==some q)=true from d))) λ c C e=>?_
 obtain rfl:=Ls C
 refine Wo e λ l o B a_ f i=>?_
 refine ba (gm.mp i) λ v j k=>?_
 obtain⟨t,rfl⟩:=ae' k
 exact h2 c _ B t ⟨rfl,sub _ _ f,rfl,j⟩
set_option tactic.hygienic true in
theorem IT{T:c5}{W:bg}:∀{B:List Value}{l:List Int},wR B=l->B.length=l.length->bK T W (l.map .int) B
 |[],[],_,_=>trivial
 |[],_::_,_,h=>(Nat.noConfusion h)
 |v::B,l,d,h=>by
  rcases v with _|_
  case int i t=>
   have d:i::wR B=l:=d
   subst d
   exact⟨⟨t,rfl⟩,IT rfl (by simpa using h)⟩
  all_goals
   subst d
   cases h
theorem WI{w:World}{j:Shared}{g:Addr->Option Obj}(sub:∀a p,g a=some p->j.heap.get? a=some p)(d:(iT.map λ s=>Hp g s.2)=iT.map λ s=>B2 s.1):∀k o,cp.fn k=some o->∃e,Fs (kn w j) o ((kn w j).jr k) e:=by
 intro k o c
 have c:(iT.lookup k).bind (λ z=>(xy k).bind (Ew (if k=1460 then[.int 64,.int 50,.int 1000000,.int 100000,.int 10000] else[])))=some o:=c
 refine ba (gm.mp c) λ a m c=>?_
 refine ba (gm.mp c) λ st n c=>?_
 have r:(k,a)∈iT:=by
  have:=List.lookup_eq_some_iff.mp m
  refine fA this λ aX bS d z=>?_;clear this
  rw[d];simp
 have b:=um.mp d _ r
 have f:=kz.mp acB _ r
 dsimp only at b f
 rw[n] at f
 unfold B2 at b
 rw[n] at b
 obtain⟨name,args,body,_,_,_,sc,_,_,_,T,U⟩:=acS c
 ·subst T U
  simp only[KJ,k2,kz,decide_eq_true_eq,List.isEmpty_iff,Option.isNone_iff_eq_none] at f
  refine bf f λ G V=>?_;clear f;refine bf G λ H X=>?_;clear G;refine bf H λ K Y=>?_;clear H;refine bf K λ M Z=>?_;clear K;refine bf M λ N Bn=>?_;clear M;refine bf N λ O v8=>?_;clear N;refine bf O λ ea en=>?_;clear O
  refine WY b λ cls yP e a_ bQ b=>?_
  ·simp only[Option.some.injEq,nO] at b
   refine LF b λ aX bS dv fw i' h s' l=>?_;clear b
   refine⟨e,?_⟩
   have P:(kn w j).jr k=a:=by show(iT.lookup k).getD 0=a;rw[m];rfl
   rw[P]
   refine⟨⟨_,sub _ _ bQ,rfl⟩,aX,bS,ea,dv,fw,vW.mp i',codeRec_of sub s',λ x ag=>?_,λ s Q=>?_,λ W u B ai base l4 R C I=>?_⟩
   ·have:=en _ (PySem.mem_of_lookup ag)
    simp at this
   ·refine ba (nN.mp Q) λ q mw ey=>?_;clear Q;subst ey
    have:=V q mw
    simpa using this
   ·have v:=R.length
    have go:∀{o2:Option (Array Value)}{fI:List Value}{i:List E},(∀(bh:Model)(aA:Around)(aR:Value->Shared->Prop)(A:Option (Array Value)->Shared->Prop),A o2 u->wpAny bh aA (seqItems? e.defaults) A aR u)->(o2.getD #[]).toList=fI->bK (kn w j) W i fI->B.length<=(args.args.map (·.arg)).length->
      i.length<=(args.args.map (·.arg)).length->(ow (args.args.map (·.arg)).length B i).length=(args.args.map (·.arg)).length->∃dd,bK (kn w j) W (ow (args.args.map (·.arg)).length B i) dd/\BindsTo u e ⟨ai,[]⟩ ((args.args.map (·.arg)).zip dd):=by
     intro o2 fI i cV dG S o6 Xc y
     have D:=S.length
     refine⟨ai++fI.drop (ai.length+fI.length-(args.args.map (·.arg)).length),?_,?_⟩
     ·unfold ow
      rw[<-v,<-D]
      exact R.append (S.drop _)
     ·refine U6 (by rw[h];exact v8) (by rw[h]) (by rw[h];exact Bn) (by rw[h];exact Z) (by rw[h];exact Y) cV X dG (by rw[<-v];exact o6) (by rw[<-D];exact Xc) ?_
      unfold ow at y
      rw[bR,jn] at y
      rw[<-v,<-D];exact J [_,_,_,_] 0x7280803982628081 L (aL y.symm) (hr _ _)
    by_cases F:k=1460
    ·clear m r b c P;subst F
     rw[aT rfl] at l
     refine VM l λ t z z items z z cZ Yp a3 bL=>?_
     have Cn:5<=(args.args.map (·.arg)).length:=by
      have I:(ow (args.args.map (·.arg)).length B [.int 64,.int 50,.int 1000000,.int 100000,.int 10000]).length=_:=I
      have af:(match xy 1460 with|some (.FunctionDef _ args _ _ _ _ _ _ _ _)=>decide (5<=(args.args.map (·.arg)).length)|_=>false)=true:=by kernel_rfl
      rw[n] at af
      exact gg af
     exact go (o2:=some items) (fI:=items.toList) (λ bh aA aR A q=>by rw[cZ];exact wpAny_seqItems (l4 _ _ (sub _ _ Yp)) rfl q) rfl (IT bL (by rw[jl,a3];rfl)) C Cn I
    ·rw[a9 F] at l
     dsimp only at I⊢
     rw[a9 F] at I⊢
     exact go (o2:=none) (fI:=[]) (λ bh aA aR A q=>by rw[VL l];exact bZ (dN (dN q))) rfl trivial C (df _) I
section
theorem gW{cc:Type}{l:List cc}{x:cc}(i:Nat)(h:l[i]?=some x):x∈l:=ka h
section
variable{w:World}{j:Shared}{g:Addr->Option Obj}
theorem wa{K:Frag}{c a:Nat}{d:List (String×Nat)}(h:yJ K a d=yI d)(i:(kf.lookup c).getD 0=a)(l:∀k,Aj c=some k->("__init__",k)∈d)(n:∀m k,Ak c m=some k->∃x,(x,k)∈d/\m=Str.ofString x/\pl m=false):AI K (kn w j) cp c:=by
 simp only[yJ,yI,nO] at h
 refine LF h λ C I af o p q r s=>?_;have b:(kn w j).ca c=a:=i
 have g:=um.mp s
 refine⟨by exact rwl b C,by exact rwl b I,by exact rwl b af,by exact rwl b o,by exact rwl b p,?_,λ x f=>?_,λ k e=>?_,λ m k e=>?_⟩
 ·exact rwl b (gS.mp q)
 ·rw[b]
  refine ba (nN.mp (List.contains_iff_mem.mp f)) λ H b_ t=>?_;subst t
  exact um.mp r H b_
 ·have:=g _ (l k e)
  simp only[nO] at this
  exact rwl b this
 ·refine fz (n m k e) λ x f u v=>?_;clear e;subst u
  have:=g _ f
  simp only[nO] at this
  exact rwl b (⟨this.1,this.2,v⟩)
theorem Vt{K:Frag}(d:(yK.map λ s=>yJ K s.1 s.2)=yK.map λ s=>yI s.2):∀c,(kn w j).cls c->AI K (kn w j) cp c:=by
 intro c l
 have e:=um.mp d
 refine a7 (Option.isSome_iff_exists.mp (show(kf.lookup c).isSome=true from l)) λ a n=>?_
 refine fA (List.lookup_eq_some_iff.mp n) λ aX bS o z=>?_
 have g:(c,a)∈kf:=by rw[o];simp
 have two:∀{c:Nat}{x H:String}{i y:Nat},(∀m k,Ak c m=some k->(m==Str.ofString x)=true/\k=i\/(m==Str.ofString H)=true/\k=y)->pl (Str.ofString x)=false->pl (Str.ofString H)=false->∀{f:List (String×Nat)},(x,i)∈f->(H,y)∈f->
   ∀m k,Ak c m=some k->∃x,(x,k)∈f/\m=Str.ofString x/\pl m=false:=by
  intro c x H i y h C I f p r m k b
  rcases h m k b with⟨d,rfl⟩|⟨d,rfl⟩
  ·exact⟨x,p,eq_of_beq d,by rw[eq_of_beq d];exact C⟩
  ·exact⟨H,r,eq_of_beq d,by rw[eq_of_beq d];exact I⟩
 have ifs:∀{s q:Bool}{i y k:Nat},(if s=true then some i else if q=true then some y else none)=some k->s=true/\k=i\/q=true/\k=y:=by
  intro s q i y k h
  rcases s with _|_
  case true=>obtain rfl:=cm h;exact .inl ⟨rfl,rfl⟩
  case false=>
   rcases q with _|_
   case true=>obtain rfl:=cm h;exact .inr ⟨rfl,rfl⟩
   case false=>exact a8 h
 simp only[kf,ew,nO,gh,or_false] at g
 rcases g with⟨rfl,rfl⟩|⟨rfl,rfl⟩|⟨rfl,rfl⟩|⟨rfl,rfl⟩|⟨rfl,rfl⟩
 ·exact wa (e (191,[("__init__",1170)]) (.head _)) rfl (λ k b=>by obtain rfl:=cm b;exact .head _) λ m k b=>by exact a8 b
 ·exact wa (e (400,[("__init__",1460)]) (gW 1 rfl)) rfl (λ k b=>by obtain rfl:=cm b;exact .head _) λ m k b=>by exact a8 b
 ·exact wa (e (422,[("__init__",1490)]) (gW 2 rfl)) rfl (λ k b=>by obtain rfl:=cm b;exact .head _) λ m k b=>by exact a8 b
 ·exact wa (e (457,[("__init__",1500),("add",1501),("fresh",1502)]) (gW 3 rfl)) rfl (λ k b=>by obtain rfl:=cm b;exact .head _) (two (c:=50) (x:="add") (H:="fresh") (i:=1501) (y:=1502) (λ m k b=>ifs (show(if(m==iw)=true then some 1501 else if(m==qT)=true then some 1502 else none)=some k from b)) (by kernel_rfl) (by kernel_rfl) (gW 1 rfl) (gW 2 rfl))
 ·exact wa (e (542,[("__init__",1640),("peek",1641),("skips",1642)]) (gW 4 rfl)) rfl (λ k b=>by obtain rfl:=cm b;exact .head _) (two (c:=64) (x:="peek") (H:="skips") (i:=1641) (y:=1642) (λ m k b=>ifs (show(if(m==mF)=true then some 1641 else if(m==hC)=true then some 1642 else none)=some k from b)) (by kernel_rfl) (by kernel_rfl) (gW 1 rfl) (gW 2 rfl))
set_option tactic.hygienic true
theorem ou{T:c5}{W:bg}(sub:∀a p,g a=some p->W.F a=some p){a:Nat}{B:List E}(h:rZ g a=some (.type "tuple",true,0,B))(d:B.all (λ v=>match v with|.str _=>true|.int _=>true|.bool _=>true|_=>false)=true):RelV T W (.tup B) (.ref a):=by
 refine z7 h λ c o items n a_ e h=>?_
 ·simp only[Option.some.injEq,nO,Option.isNone_iff_eq_none] at h
  refine f5 h λ f j af k=>?_;clear h;subst f;subst j;clear h;subst k
  have m:a_=#[]:=Array.eq_empty_of_size_eq_zero af
  clear af;subst m
  refine gw a items n ⟨rfl,sub _ _ e,?_⟩
  generalize items.toList=l at d
  induction l with
  |nil=>trivial
  |cons x l q=>
   rw[jH,List.all_cons,k2] at d
   refine⟨?_,q d.2⟩
   have C:=d.1
   clear d;rcases x with _|_
   case str x t=>exact⟨t,by rw[xA]⟩
   case int i t=>exact⟨t,rfl⟩
   case bool b=>rfl
   all_goals exact cq C
theorem abB{l:List Value}:∀{as:List Nat},l.map strip=as.map E.ref->l=as.map Value.ref:=by
 induction l with
 |nil=>intro as h;(rcases as with _|_;(case nil=>rfl);(case cons _ _=>injection h))
 |cons x l c=>
  intro as h
  rcases as with _|_
  case nil=>injection h
  case cons a as=>
   rw[jH,jH,List.cons.injEq] at h
   rw[c h.2]
   rcases x with _|_
   case ref b=>(injection h.1 with a3;subst a3);rfl
   all_goals exact(E.noConfusion h.1)
set_option tactic.hygienic false
theorem Jl{T:c5}{W:bg}(sub:∀a p,g a=some p->W.F a=some p){a:Nat}{B:List E}{as:List Nat}(h:rZ g a=some (.type "list",true,0,as.map E.ref))(V:bK T W B (as.map Value.ref)):RelV T W (.lst B) (.ref a):=by
 refine z7 h λ c o items n a_ b h=>?_
 ·simp only[Option.some.injEq,nO,Option.isNone_iff_eq_none] at h
  refine f5 h λ d e af f=>?_;clear h;subst d;subst e
  have i:a_=#[]:=Array.eq_empty_of_size_eq_zero af
  clear af;subst i
  exact gw a items n ⟨rfl,sub _ _ b,by rw[abB f];exact V⟩
set_option tactic.hygienic true in
theorem J1{T:c5}:∀{a:List DictEntry}{l:List (Int×List Nat×Value)},(a.map λ d=>(d.hash,strip d.key,d.val))=l.map (λ s=>(s.1,E.str s.2.1,s.2.2))->(∀s∈l,s.1=hashStr T.w (strOf s.2.1))->Pairs T.knd a (l.map λ s=>(strOf s.2.1,s.2.2))/\∀d∈a,∃k,T.knd.is k d.key=true/\d.hash=T.knd.hash k
 |[],[],_,_=>⟨.nil,λ z h=>(gh h).elim⟩
 |[],_::_,h,_=>(by injection h)
 |_::_,[],h,_=>(by injection h)
 |d::a,(i,k,v)::l,h,fa=>by
  rw[jH,jH,List.cons.injEq,nO,nO] at h
  refine bf h λ c g=>?_;clear h;refine e_ c λ C I af=>?_;clear c
  refine bf (J1 g λ s j=>fa s (gU _ j)) λ s q=>?_
  have e:T.knd.is (strOf k) d.key=true:=by
   rcases f:d.key with _|_
   case str x t=>
    rw[f] at I
    have:k6 x=k:=by cases I;rfl
    rw[<-this]
    exact eC _
   all_goals rw[f] at I;exact E.noConfusion I
  refine⟨.cons e af s,λ m b=>?_⟩
  rcases ew.mp b with rfl|b
  ·exact⟨strOf k,e,C.trans (fa _ f9)⟩
  ·exact q _ b
theorem VU{T:c5}{W:bg}(sub:∀a p,g a=some p->W.F a=some p){a:Nat}{az:List (List Nat)}{B:List E}{l:List (Int×List Nat×Value)}(h:BA g a=some (.type "dict",true,0,l.map λ s=>(s.1,E.str s.2.1,s.2.2)))(fa:∀s∈l,s.1=hashStr T.w (strOf s.2.1))
  (e:l.map (·.2.1)=az) (Y:az.Nodup) (f:(a==sysModules)=false) (V:bK T W B (l.map (·.2.2))):RelV T W (.dct az B) (.ref a):=by
 refine BD h λ c o i n a_ j h=>?_
 ·simp only[Option.some.injEq,nO,Option.isNone_iff_eq_none] at h
  refine f5 h λ k m af r=>?_;clear h;subst k;subst m
  have t:a_=#[]:=Array.eq_empty_of_size_eq_zero af
  clear af;subst t
  refine bf (J1 (T:=T) r fa) λ s q=>?_
  refine gw a _ (l.map λ s=>(strOf s.2.1,s.2.2)) ⟨rfl,f,sub _ _ j,(cv i n ⟨⟨rfl,rfl,rfl⟩,rfl,λ d u=>q d (Array.mem_toList_iff.mpr u),s,?_⟩),?_,?_⟩
  ·rw[List.map_map,show((λ x:Str×Value=>x.1)∘λ s:Int×List Nat×Value=>(strOf s.2.1,s.2.2))=strOf∘(·.2.1) from rfl,<-List.map_map,e]
   exact List.Pairwise.map strOf (λ a b h d=>h (vt d)) Y
  ·rw[List.map_map,show((λ x:Str×Value=>x.1)∘λ s:Int×List Nat×Value=>(strOf s.2.1,s.2.2))=strOf∘(·.2.1) from rfl,<-List.map_map,e]
  ·rw[List.map_map];exact V
end
end
section
noncomputable def IV(x:Str):E->Bool
 |.str j=>j==k6 x
 |_=>false
noncomputable def w4(a:List (E×E))(x:Str):Option E:=(a.find? λ s=>IV x s.1).map (·.2)
theorem Vv(x H:Str):(k6 H==k6 x)=(H==x):=by
 by_cases h:H=x
 ·subst h;rw[eC,eC]
 ·rw[fF.mpr h,fF.mpr λ d=>h (by rw[<-xA H,<-xA x,d])]
set_option tactic.hygienic true in
theorem YJ(x:Str)(k:Value):IV x (strip k)=k.isStr x:=by
 rcases k with _|_
 case str H t=>exact Vv x H
 all_goals rfl
section
variable{w:World}{j:Shared}{g:Addr->Option Obj}{ip jT:Str->Option Value}
theorem JJ{h:Heap}{a:Addr}{m:Str->Option Value}{b:List (E×E)}(sub:∀a p,g a=some p->h.get? a=some p)(N:h.Ns a m)(d:nsLook g a=some b)(x:Str):(m x).map strip=w4 b x:=by
 refine BD d λ c o f n a_ e d=>?_
 ·obtain rfl:=cm d
  refine j5 N λ p i cg C I z af=>?_;clear N
  rw[sub _ _ e] at C
  obtain rfl:=cm C
  (injection I with a3 bL;subst a3 bL)
  rw[<-af x]
  unfold nsFind findBy w4
  rw[<-Array.find?_toList,List.find?_map]
  simp only[Option.map_map,Function.comp_def,YJ]
theorem U8{h:Heap}{m:Str->Option Value}(sub:∀a p,g a=some p->h.get? a=some p)(N:h.Ns builtinsNs m){x:Str}{v:Value}(d:Bg g x=some v):m x=some v:=by
 refine BD d λ c o e n a_ b d=>?_
 ·refine j5 N λ p f cg C I z af=>?_;clear N
  rw[sub _ _ b] at C
  obtain rfl:=cm C
  (injection I with a3 bL;subst a3 bL)
  rw[<-af x];exact d
noncomputable def A2:E->Option Nat
 |.ref a=>some a
 |_=>none
theorem FZ{v:E}{a:Nat}(h:A2 v=some a):v=.ref a:=by
 rcases v with _|_<;>first|exact a8 h|exact bB E.ref (c' h)
theorem Xu:defNames.all (λ s=>(w4 xa (Str.ofString s.1)).bind A2==some ((iT.lookup s.2).getD 0))=true:=by kernel_rfl
theorem Xs:GF.all (λ s=>(w4 xa (Str.ofString s.1)).bind A2==some ((kf.lookup s.2).getD 0))=true:=by kernel_rfl
def t_(T:c5)(ip jT:Str->Option Value)(x:Str)(v:E):Prop:=
 (∃H,ip x=some H/\∀W:bg,(∀a p,T.h₀.get? a=some p->W.F a=some p)->RelV T W v H)\/(ip x=none/\∃H,jT x=some H/\∀W:bg,RelV T W v H)
set_option tactic.hygienic true
theorem uM{T:c5}{x:Str}{l:List Nat}(h:(ip x).map strip=some (.str l)):t_ T ip jT x (.str l):=by
 refine ba (gS.mp h) λ H d h=>?_
 rcases H with _|_
 case str D t=>(injection h with a3;subst a3);exact .inl ⟨_,d,λ z z=>⟨t,by rw[xA]⟩⟩
 all_goals injection h
theorem Ca{T:c5}{x:Str}{i:Int}(h:(ip x).map strip=some (.int i)):t_ T ip jT x (.int i):=by
 refine ba (gS.mp h) λ H d h=>?_
 rcases H with _|_
 case int D t=>(injection h with a3;subst a3);exact .inl ⟨_,d,λ z z=>⟨t,rfl⟩⟩
 all_goals injection h
set_option tactic.hygienic false
theorem uL{T:c5}{x:Str}{a:Nat}{v:E}(h:(ip x).map strip=some (.ref a))(r:∀W:bg,(∀a p,T.h₀.get? a=some p->W.F a=some p)->RelV T W v (.ref a)):t_ T ip jT x v:=by
 refine ba (gS.mp h) λ H d h=>?_
 rcases H with _|_
 case ref b=>(injection h with a3;clear b;subst a3);exact .inl ⟨_,d,r⟩
 all_goals injection h
theorem qf{T:c5}{x:Str}{H:Value}{v:E}(h:(ip x).map strip=none)(a:jT x=some H)(r:∀W:bg,RelV T W v H):t_ T ip jT x v:=
 .inr ⟨Option.map_eq_none_iff.mp h,H,a,r⟩
theorem Xv(sub:∀a p,g a=some p->j.heap.get? a=some p)(k:j.heap.Ns mainGlobals ip)(m:j.heap.Ns builtinsNs jT)(n:nsLook g mainGlobals=some xa)(o:v7.map (λ s=>Bg g (Str.ofString s.1))=v7.map λ s=>some s.2)
  (q:(Am.map λ s=>rZ g s.1)=Am.map λ s=>some (.type "tuple",true,0,s.2)) (r:rZ g 699=some (.type "list",true,0,[.ref 695,.ref 696,.ref 697,.ref 698])) (t:rZ g 703=some (.type "list",true,0,[.ref 700,.ref 701,.ref 702]))
  (u:BA g 627=some (.type "dict",true,0,[(hashStr w (strOf [42]),.str [42],.ref 628),(hashStr w (strOf [43]),.str [43],.ref 629),(hashStr w (strOf [63]),.str [63],.ref 630)])):
  ∀x v,cp.glob x=some v->t_ (kn w j) ip jT x v:=by
 have look:=JJ sub k n
 have blt:∀s∈v7,jT (Str.ofString s.1)=some s.2:=λ s f=>U8 sub m (um.mp o s f)
 have tup:=um.mp q
 have c:∀{W:bg},(∀a p,(kn w j).h₀.get? a=some p->W.F a=some p)->∀a p,g a=some p->W.F a=some p:=λ b a p d=>b a p (sub a p d)
 intro x v i
 have i:EE.lookup x=some v:=i
 have e:=PySem.mem_of_lookup i
 unfold EE at e
 rcases fH.mp e with e|e
 ·rcases fH.mp e with e|e
  ·refine ba (nN.mp e) λ s f d=>?_
   (injection d with a3 bL;subst a3 bL)
   have h:=kz.mp Xu s f
   obtain⟨v,i,h⟩:=gm.mp (eq_of_beq h)
   obtain rfl:=FZ h
   exact uL ((look _).trans i) λ W z=>rfl
  ·refine ba (nN.mp e) λ s f d=>?_
   (injection d with a3 bL;subst a3 bL)
   have h:=kz.mp Xs s f
   obtain⟨v,i,h⟩:=gm.mp (eq_of_beq h)
   obtain rfl:=FZ h
   exact uL ((look _).trans i) λ W z=>rfl
 ·refine ba (nN.mp e) λ s f d=>?_
  (injection d with a3 bL;clear i e;subst a3 bL)
  have all:∀s∈constNames,t_ (kn w j) ip jT (Str.ofString s.1) s.2:=by
   unfold constNames
   simp only[List.forall_mem_cons,gh,false_implies,implies_true,and_true]
   refine⟨uM ((look _).trans (by kernel_rfl)),uL (a:=405) ((look _).trans (by kernel_rfl)) λ W b=>ou (c b) (tup (405,_) (.head _)) (by kernel_rfl),uM ((look _).trans (by kernel_rfl)),uM ((look _).trans (by kernel_rfl)),uM ((look _).trans (by kernel_rfl)),Ca ((look _).trans (by kernel_rfl)),uM ((look _).trans (by kernel_rfl)),Ca ((look _).trans (by kernel_rfl)),?_,uM ((look _).trans (by kernel_rfl)),Ca ((look _).trans (by kernel_rfl)),?_,?_,?_⟩
   ·refine uL (a:=627) ((look _).trans (by kernel_rfl)) λ W b=>VU (c b) (l:=[(hashStr w (strOf [42]),[42],.ref 628),(hashStr w (strOf [43]),[43],.ref 629),(hashStr w (strOf [63]),[63],.ref 630)]) u (λ s f=>?_) rfl (by decide) rfl
     ⟨ou (c b) (tup (628,_) (gW 1 rfl)) (by kernel_rfl),ou (c b) (tup (629,_) (gW 2 rfl)) (by kernel_rfl),ou (c b) (tup (630,_) (gW 3 rfl)) (by kernel_rfl),trivial⟩
    simp only[ew,gh,or_false] at f
    rcases f with rfl|rfl|rfl<;>rfl
   ·exact uL (a:=699) ((look _).trans (by kernel_rfl)) λ W b=>Jl (c b) (as:=[695,696,697,698]) r ⟨ou (c b) (tup (695,_) (gW 4 rfl)) (by kernel_rfl),ou (c b) (tup (696,_) (gW 5 rfl)) (by kernel_rfl),ou (c b) (tup (697,_) (gW 6 rfl)) (by kernel_rfl),ou (c b) (tup (698,_) (gW 7 rfl)) (by kernel_rfl),trivial⟩
   ·exact uL (a:=703) ((look _).trans (by kernel_rfl)) λ W b=>Jl (c b) (as:=[700,701,702]) t ⟨ou (c b) (tup (700,_) (gW 8 rfl)) (by kernel_rfl),ou (c b) (tup (701,_) (gW 9 rfl)) (by kernel_rfl),ou (c b) (tup (702,_) (gW 10 rfl)) (by kernel_rfl),trivial⟩
   ·exact⟨qf ((look _).trans (by kernel_rfl)) (blt _ (.head _)) λ W=>⟨rfl,by kernel_rfl⟩,qf ((look _).trans (by kernel_rfl)) (blt _ (gW 1 rfl)) λ W=>⟨rfl,by kernel_rfl⟩,qf ((look _).trans (by kernel_rfl)) (blt _ (gW 2 rfl)) λ W=>⟨rfl,by kernel_rfl⟩,qf ((look _).trans (by kernel_rfl)) (blt _ (gW 3 rfl)) λ W=>⟨rfl,by kernel_rfl⟩,qf ((look _).trans (by kernel_rfl)) (blt _ (gW 4 rfl)) λ W=>⟨rfl,by kernel_rfl⟩,qf ((look _).trans (by kernel_rfl)) (blt _ (gW 5 rfl)) λ W=>⟨rfl,by kernel_rfl⟩,qf ((look _).trans (by kernel_rfl)) (blt _ (gW 6 rfl)) λ W=>rfl,qf ((look _).trans (by kernel_rfl)) (blt _ (gW 7 rfl)) λ W=>rfl,qf ((look _).trans (by kernel_rfl)) (blt _ (gW 8 rfl)) λ W=>rfl⟩
  exact all s f
set_option tactic.hygienic true in
theorem acG(ky:Seen w j.heap)(f:j.heap.Ns mainGlobals ip)(m:j.heap.Ns builtinsNs jT)(y:j.heap.NoLimit):∃K:Frag,St (kn w j) K cp/\(∀k o,cp.fn k=some o->keepIn K (.ref ((kn w j).jr k))=true)/\(∀c k,cp.init c=some k->keepIn K (.ref ((kn w j).ca c))=true)/\ip xE=some (.ref 886):=by
 refine ba ky λ g d sub=>?_;clear ky
 unfold w2 zz at d
 simp only[nO] at d
 refine vD d λ n r t en A=>?_;clear d;refine e_ n λ B C u=>?_;clear n;refine f5 r λ fP gs D E=>?_;clear r
 have i:∀c k,cp.init c=some k->(c,(kf.lookup c).getD 0)∈kf:=by
  intro c k h
  have h:(if c=17\/c=46\/c=49\/c=50\/c=64 then some (1000+10*c) else none)=some k:=h
  split at h
  ·rename_i q
   rcases q with rfl|rfl|rfl|rfl|rfl
   ·exact .head _
   ·exact .tail _ (.head _)
   ·exact .tail _ (gW 1 rfl)
   ·exact .tail _ (gW 2 rfl)
   ·exact .tail _ (gW 3 rfl)
  ·exact a8 h
 have v:∀s,s∈iT\/s∈kf->keepIn (fragOf g) (.ref s.2)=true:=by
  have e:(iT.map (λ s=>keepIn (fragOf g) (.ref s.2))++kf.map λ s=>keepIn (fragOf g) (.ref s.2))=(iT++kf).map λ s=>keepIn (fragOf g) (.ref s.2):=(e8 ..).symm
  rw[e,(e8 ..).symm] at u
  intro s F
  exact um.mp u s (fH.mpr F)
 refine a7 (Option.isSome_iff_exists.mp A) λ p G=>?_
 refine⟨fragOf g,⟨⟨p,sub _ _ G⟩,λ a p d=>sub a p (B4 d),y,(cv ip jT ⟨f,m,Xv sub f m t en fP gs D E⟩),Vt C,λ c k h=>?_,WI sub B⟩,λ k o l=>?_,λ c k h=>v _ (.inr (i c k h)),?_⟩
 ·refine EX (List.append_of_mem (i c k h)) λ aX bS e=>?_
  show(kf.lookup c).isSome=true
  rcases q:kf.lookup c with _|_
  case some a=>rfl
  case none=>
   have:=List.lookup_eq_none_iff.mp q _ (i c k h)
   simp at this
 ·have l:(iT.lookup k).bind _=some o:=l
  refine ba (gm.mp l) λ a x I=>?_;clear I
  have:(kn w j).jr k=a:=by show(iT.lookup k).getD 0=a;rw[x];rfl
  rw[this]
  refine fA (List.lookup_eq_some_iff.mp x) λ aX bS e z=>?_
  exact v (k,a) (.inl (by rw[e];simp))
 ·refine ba (gS.mp ((JJ sub f t xE).trans (show w4 xa xE=some (.ref 886) by kernel_rfl))) λ H d h=>?_
  rcases H with _|_
  case ref b=>(injection h with a3;subst a3);exact d
  all_goals injection h
end
end
def Cz(w:World):Prop:=∀os:OsState,(EF w os).map (λ j=>(Zx w j.abs,w2 (Cf j.tree j.n)))=some ((true,openGood ts zC),zz w)
theorem XW(w:World):Cz (w.withFollow "special-get-raises" false):=λ os=>by kernel_rfl
theorem XX(w:World):Cz (w.withFollow "special-get-raises" true):=λ os=>by kernel_rfl
theorem XU(w:World):Cz w:=byRow2 "special-get-raises" XW XX w
theorem aaQ:opening hO=plainProg hO.main.scope.names:=by kernel_rfl
theorem Wn(j:Shared):fenceModules? hO j=some j:=by kernel_rfl
theorem acj(w:World):((boot_heap w.params).isNs mainGlobals,(boot_heap w.params).objs.size,(boot_heap w.params).nsMap mainGlobals "__annotations__")=(true,11,some (.ref 6)):=by kernel_rfl
theorem left:LeftO hO ts zC (λ z=>true) (λ j=>w2 j.heap.get?) zz 12000:=λ w=>by
 obtain⟨⟨h,O,o,k,os⟩,d,e⟩:=gS.mp (boot_open (N:=12000) aaQ rfl Wn w)
 obtain⟨rfl,rfl,rfl,rfl⟩:h=boot_heap w.params/\O=#[]/\o=boot_drawn/\k=boot_toks:=by simpa using e
 obtain⟨a3,bL,g9⟩:_/\_/\_:=by simpa only[nO] using acj w
 obtain⟨j,f,a⟩:=gS.mp (XU w os)
 obtain⟨a,b⟩:=Prod.mk.inj a
 obtain⟨g,c⟩:=Prod.mk.inj a
 have r:=topRun_mono (12000-5660) _ _ _ _ (adC f)
 have t:topFrom treeTable hO w 12000 ⟨boot_heap w.params,#[],boot_drawn,boot_toks,os⟩=some j.abs:=by
  unfold topFrom
  dsimp only
  rw[a3,bL,g9,r,Jw]
  show(match staticsOk [] (boot_heap w.params) j.abs.heap&&namesBound hO j.abs.heap&&gensDone j.abs&&laidKept (boot_heap w.params) j.abs.heap with|true=>_|false=>_)=_
  rw[g]
 unfold openEnds
 rw[d]
 show(topFrom treeTable hO w 12000 _).map _=_
 rw[t,Jw]
 rw[<-PySem.W.Fast.te4187177175401517315] at c
 refine bB some (Prod.ext c ?_)
 show w2 (absHeap j.tree j.n j.life).get?=_
 rw[Xr]
 exact b
theorem Zj:Fast.tw11788848310118352699 hO.main=true:=by kernel_rfl
theorem Zk:R.filterR (Fast.tw13343964577679436407 hO hO.main.body) [⟨⟨[118,97,114,115]⟩⟩,⟨⟨[100,105,114]⟩⟩,⟨⟨[108,111,99,97,108,115]⟩⟩]=[]:=by kernel_rfl
theorem Zl:(Fast.tw17119622794617984870 hO hO.main.body λ z n=>Fast.tw17868728402115742887 n)=true:=by kernel_rfl
theorem Zm:(Fast.tw8326940854005059898 {strict:=!R.allR (Fast.tw5923862056798008813 hO.main.body) (Fast.tw3471404346716756564 Fast.tw17691160309236699985),foot:=none,bare:=[]} hO.main.body)=true:=by kernel_rfl
theorem Zn:looksOpen hO=true:=by
 rw[Fast.te12908688711261696721];delta Fast.tw12908688711261696721;dsimp only
 refine look_both (look_both (look_both (look_both (look_both Zj ?_) ?_) ?_) ?_) Zl
 ·kernel_rfl
 ·kernel_rfl
 ·kernel_rfl
 ·rw[Zk];exact Zm
theorem Zo:(PySem.Challenge.rw_nz0206_01.row).wellSaid=true:=by
 delta OpenRow.wellSaid OpenRow.partSaid
 repeat' (with_reducible refine look_both ?_ ?_)
 ·show looksOpen hO=true
  exact Zn
 all_goals kernel_rfl
theorem Zp:Fast.tw17960256430627541270 (Fast.tw2368527892694137696 PySem.Challenge.rw_nz0206_01)=true:=by rw[<-Fast.te17960256430627541270,<-Fast.te2368527892694137696];exact Zo
theorem Y8:PySem.Challenge.rw_nz0206_01.wellSaid=true:=by
 rw[Fast.te9446332074065402090];delta Fast.tw9446332074065402090;dsimp only
 repeat' (with_reducible refine look_both ?_ ?_)
 ·with_reducible exact Zp
 all_goals kernel_rfl
abbrev mD:OpenRow:=PySem.Challenge.rw_nz0206_01.row
noncomputable def qw:DefRec×List (Str×Expr):=match defOf ts xE with
 |some x=>x
 |none=>(⟨(Str.ofString ""),⟨[],[],none,[],[],none,[]⟩,[],default,default⟩,[])
theorem Y1:defOf ts mD.name=some (qw.1,qw.2):=by kernel_rfl
theorem Y_:mD.prog.theDef mD.name=some (qw.1.params,qw.1.body,qw.1.scope):=by kernel_rfl
theorem Y3:kwWritten? qw.1.params.kwonlyargs qw.1.params.kw_defaults=some qw.2:=by kernel_rfl
theorem Y5:(chainsOk ts&&opensWell mD.prog&&(frees mD.toRowW&&mD.within.isEmpty))=true:=by kernel_rfl
theorem Y':(!mD.writes||mD.records.isEmpty)=true:=by kernel_rfl
theorem Y0:mD.prog.bare:=⟨rfl,rfl,rfl,rfl,rfl,by kernel_rfl⟩
theorem Y6:mD.toRowW.promised:=⟨[.list []],by kernel_rfl,by kernel_rfl⟩
theorem Y4:qw.1.name=xE:=by kernel_rfl
theorem TC{R:WRecords}{P:Params}{h:Heap}{ai:List WData}:∀{B:List Value},WShape.hasItems R ai .int=true->WellAll P h B ai->∃l:List Int,ai=l.map .int/\∀(T:c5)(W:bg),bK T W (l.map .int) B:=by
 induction ai with
 |nil=>intro B c w;cases w;exact⟨[],rfl,λ z z=>trivial⟩
 |cons x ai d=>
  intro B c w
  have c:=sl.mp (show(WShape.has R x .int&&WShape.hasItems R ai .int)=true by simpa [WShape.hasItems] using c)
  obtain⟨i,rfl⟩:=hasW_int c.1
  cases w with
  |cons a b=>
   obtain⟨l,rfl,r⟩:=d c.2 b
   cases a with
   |int i t=>exact⟨i::l,rfl,λ T W=>⟨⟨t,rfl⟩,r T W⟩⟩
theorem TB{P:Params}{h:Heap}{args:List WData}{b:List Value}(c:mD.toRowW.claim.pre args=true)(e:WellAll P h b args):
  ∃(l:List Int)(a:Addr)(B:List Value),l.length<=63/\b=[.ref a]/\h.get? a=some {cls:=.type "list",data:=.seq B.toArray}/\∀(T:c5)(W:bg),bK T W (l.map .int) B:=by
 obtain⟨C,I⟩:=pre_splitW c
 obtain⟨o,r,rfl,af,f⟩:=hasAllW_cons (show WShape.hasAll [] args [.list .int]=true from C)
 obtain rfl:=hasAllW_nil f
 obtain⟨ai,rfl,g⟩:=hasW_list af
 cases e with
 |cons iN mH=>
  cases mH
  cases iN with
  |list i j=>
   obtain⟨l,rfl,V⟩:=TC g j
   refine⟨l,_,_,?_,rfl,i,V⟩
   have I:(WTm.and (.not (.lt (.lit (.int (63:Nat))) (.len (.arg 0)))) (.lit (.bool true))).holds [] {args:=[WData.list (l.map .int)]}=true:=I
   by_cases q:l.length<=63
   ·exact q
   ·exfalso
    have q:(63:Int)<((l.map WData.int).length:Int):=by rw[cM];omega
    have d:less? (.int 63) (.int l.length)=some true:=by
     show some (decide ((63:Int)<l.length))=_
     rw[fi (by rw[cM] at q;exact q)]
    simp [WTm.holds,WTm.value,d] at I
theorem abO:AN callerA 100:=⟨rfl,by decide,by decide⟩
theorem agB(main:∀l:List Int,l.length<=63->Run cp 100 126 [.lst (l.map .int)] (λ v z=>v=.bool true) ⟨0,λ z=>none⟩):PySem.Challenge.rw_nz0206_01.Holds:=by
 refine holds_law Y8 λ t=>?_
 refine holds_open (r:=mD) (q:=ts) (loose:=zC) (Xt:=λ z=>true) (XP:=λ z z=>True) (YP:=λ w h=>Seen w h) (N:=12000) left (λ w j d=>⟨j.heap.get?,d,λ z z h=>h⟩) (λ w h L ⟨g,d,sub⟩ k=>⟨g,d,λ a p q=>k a p (sub a p q)⟩) (λ z z=>trivial) (λ z z z z z=>trivial)
  Y1 Y_ Y3 (λ j z=>recFacts_nil rfl) Y' t Y5 Y0 Y6 ?_
 intro w i e ip jT G ky jr p O P R U V W m Y Z n u args lA as x agz agC y uY
 obtain⟨l,a,B,A,rfl,C,E⟩:=TB x y
 obtain⟨K,S,F,H,I⟩:=acG (j:=e) ky G.T.g G.T.b G.T.nolimit
 rw[Y4,I] at n
 cases n
 have ay:=abX S (λ k o m h X=>keeps_K (F k o m) h X) (λ c k J h X=>keeps_K (H c k J) h X) 100 callerA abO
 have Q:Inv (kn w e) ⟨e.heap.get?,λ z=>none,λ z=>0,λ z=>0,0⟩ ⟨0,λ z=>none⟩ e:=
  ⟨λ z z d=>d,λ z z d=>(nomatch d),λ z z d=>(nomatch d),λ z z d=>d,rfl,λ z z d=>(nomatch d),λ z z d=>(nomatch d),λ z z d=>(nomatch d),λ z z z z d=>(nomatch d),rfl,rfl⟩
 refine wpAny_call (codeAny_mono ((ay 126 _ _ _ (main l A)).2 _ e [.ref a] (λ d s=>GoodWG mD.claim (classAt i.heap) (ExcName.means i.heap) args e (.error d) s) Q ⟨⟨a,B.toArray,0,rfl,C,by simpa using E _ _⟩,trivial⟩) λ r s D=>?_)
 rcases r with d|(_|_|_|v)
 ·exact D
 ·exact D.elim
 ·exact D.elim
 ·exact D.elim
 ·obtain⟨aO,r5,M,dV,f,ej,rfl⟩:=D
  have ej:v=.bool true:=ej
  subst ej
  refine⟨.inl ⟨.bool true,.bool true,[],rfl,λ z=>rfl,.bool true,?_,λ z=>⟨List.nodup_nil,λ z h=>nomatch h⟩⟩,.of_keep f.h₀,f.os,.of_eq (f.gens.trans u)⟩
  show(WShape.has [] (.bool true) .bool&&_)=true
  kernel_rfl
end
section
open PySem (Str Scope Stmt Expr Operator CmpOp BoolOp UnaryOp)
section
def item(p i:E)(k:bo)(e:U):Prop:=match n_ e p i with|some v=>k v e|none=>False
def eN(p:E)(l u:Option E)(k:bo)(e:U):Prop:=match pB e p l u with|some v=>k v e|none=>False
def aE(c:CmpOp)(a b:E)(k:Bool->U->Prop)(e:U):Prop:=match lO e c a b with|some r=>k r e|none=>False
def aW(r:Bool)(t f:U->Prop)(e:U):Prop:=match r with|true=>t e|false=>f e
def f_(a:BoolOp)(v:E)(k:bo)(bl:U->Prop)(e:U):Prop:=match a,v with
 |.And,.bool false=>k v e
 |.And,.bool true=>bl e
 |.Or,.bool true=>k v e
 |.Or,.bool false=>bl e
 |_,_=>False
def cw(a:BoolOp)(b:Bool)(k:Bool->U->Prop)(bl:U->Prop)(e:U):Prop:=match a,b with
 |.And,false=>k false e
 |.Or,true=>k true e
 |_,_=>bl e
def ek(v:E)(k:Bool->U->Prop)(e:U):Prop:=match v with|.bool b=>k b e|_=>False
def b0(p:E)(m:Str)(k:fp->U->Prop)(e:U):Prop:=match zF cp e p m with|some cP=>k cP e|none=>False
def dI(B:List E)(k:bo)(e:U):Prop:=B.length<=c7/\k (.ref e.next) (e.alloc (.list B))
def b9(B:List E)(k:bo)(e:U):Prop:=B.length<=c7/\tupK B k e
def yR(az:List (List Nat))(B:List E)(k:bo)(e:U):Prop:=(az.length=0\/az.length=19)/\k (.ref e.next) (e.alloc (.dict az B))
def ib(v:E)(a:E->kx)(b:E->q')(k:bo)(e:U):Prop:=match hy e v with
 |some items=>ux a b (hQ v items) items [] (λ B c=>k (.lst B) c) e
 |none=>False
def forM(v:E)(a:E->Loc->(Loc->U->Prop)->U->Prop)(body:Loc->ei->U->Prop)(ak:Loc)(K:ei)(e:U):Prop:=match hy e v with
 |some items=>o4 a body (hQ v items) items ak K e
 |none=>False
def ko(a:Loc->kx)(body:Loc->ei->U->Prop)(ak:Loc)(K:ei)(e:U):Prop:=∃m,tc a body m ak K e
def d0(f:bo->U->Prop)(k:bo):U->Prop:=f k
def eF(f:(Bool->U->Prop)->U->Prop)(k:Bool->U->Prop):U->Prop:=f k
noncomputable def fc(bl:Loc->ei->U->Prop)(K:ei):ei:=λ fl a M=>match fl with
 |.next=>bl a K M
 |fl=>K fl a M
noncomputable def eX(A:bo):ei:=λ fl z M=>match fl with
 |.ret v=>A v M
 |.next=>A .none M
 |_=>False
noncomputable def Ef(k:Nat):Scope:=match ED k with|some o=>o.scope|none=>⟨.function,[],false,false,[]⟩
noncomputable def Bh(k:Nat):List Stmt:=match ED k with|some o=>o.body|none=>[]
noncomputable def YC:Stmt->Nat->List Stmt
 |.If _ b _ _,0=>b
 |.If _ _ p _,_=>p
 |.While _ b _ _,_=>b
 |.For _ _ b _ _,_=>b
 |_,_=>[]
noncomputable def yB:List Stmt->List (Nat×Nat)->List Stmt
 |b,[]=>b
 |b,(i,w)::r=>match b[i]? with
  |some j=>yB (YC j w) r
  |none=>[]
noncomputable def bq(k:Nat)(s:List (Nat×Nat))(i:Nat)(R:dq):Loc->ei->U->Prop:=m1 (ex cp R (Ef k) (12-s.length)) ((yB (Bh k) s).drop i)
noncomputable def JH:Expr:=.Tuple [] 0 ⟨0,0,0,0⟩
noncomputable def d6(k:Nat)(s:List (Nat×Nat))(i:Nat)(R:dq):E->Loc->(Loc->U->Prop)->U->Prop:=p5 cp R (Ef k) (match(yB (Bh k) s)[i]? with
 |some (.For t _ _ _ _)=>t
 |some (.Assign [t] _ _)=>t
 |_=>JH)
noncomputable def hE(k:Nat)(s:List (Nat×Nat))(i:Nat)(R:dq)(ak:Loc):kx:=eg cp R 40 ⟨Ef k,ak,[]⟩ (match(yB (Bh k) s)[i]? with
 |some (.While t _ _ _)=>t
 |_=>JH)
end
end
section
open PySem (Str)
section
noncomputable def yF:E:=.tup [S "sign",S "any",S "set"]
noncomputable def Gr:E:=S "0123456789abcdef"
noncomputable def Gp:E:=S "dDwWsShHvV"
noncomputable def yE:E:=S "0123456789"
noncomputable def v9:E:=.dct [[42],[43],[63]] [.tup [.int 0,.int (-1)],.tup [.int 1,.int (-1)],.tup [.int 0,.int 1]]
noncomputable def v_:E:=S "imsx"
noncomputable def Gs:E:=.lst [.tup [S "(?=",.bool false,.bool false],.tup [S "(?!",.bool false,.bool true],.tup [S "(?<=",.bool true,.bool false],.tup [S "(?<!",.bool true,.bool true]]
noncomputable def Gw:E:=.lst [.tup [S "(?<",S ">"],.tup [S "(?P<",S ">"],.tup [S "(?'",S "'"]]
variable(n:Nat)(R:dq)(A:bo)(K:ei)(bA:Bool->U->Prop)(f g h:bo)(F G dB:Bool->U->Prop)(bh N:fp)(j:U)(s q:Bool)(k b3 cX fx kP agN agO agP agQ agR:Option E)(hk pI ag3:U->Prop)(dc dY:E->E->U->Prop)(hj jc:Option E->Option E->U->Prop)(iN mH:E->Option E->U->Prop)(a3 bL g9:Loc->ei->U->Prop)(a b c o d i y l m p r t u v w x H D aA ay aR Q bT c_ kv P S T mR W X ky Z:E)
def O7:=d0 (λ o=>aE .Eq a b λ d=>f_ .Or (.bool d) o (d0 (λ i=>f_ .And c i (R 9 [b] λ y=>aE .Eq a y λ l=>i (.bool l))) o)) A
theorem Lb:call (n+1) 10 [a,b,c] A j=O7 (call n) A a b c j:=by kernel_rfl
def QC:=a6 a h6 λ d=>item d b λ i=>b9 [(.str zQ),b,i] λ y=>bY R bh o [y] λ l=>a6 a h6 λ m=>gM m b c (A E.none)
def QB:=a6 a iY λ o=>b0 o jx λ d=>QC R A d a b c o
theorem aef:call (n+1) 18 [a,b,c] A j=QB (call n) A a b c j:=by kernel_rfl
def QD:=a6 a g6 λ b=>eR .Add b (.int 1) λ c=>cL a g6 c (A (.bool true))
theorem aeg:call (n+1) 19 [a] A j=QD A a j:=by kernel_rfl
def QF:=aE .GtE c o λ d=>cw .Or d F (a6 a e3 λ i=>a6 a b' λ y=>item i y λ l=>R 15 [b,l] λ m=>ek m λ p=>cw .Or (!p) F (F false))
def QE:=eF (λ c=>a6 a b' λ o=>a6 a e3 λ d=>cJ cp R (.bi .len) [d] λ i=>QF R c a b o i) λ y=>aW y (A (.bool false)) (a6 a b' λ l=>eR .Add l (.int 1) λ m=>cL a b' m (R 19 [a] A))
theorem aeh:call (n+1) 20 [a,b] A j=QE (call n) A a b j:=by kernel_rfl
noncomputable def se(a b c o d:Option E):Loc:=[(pD,a),((Str.ofString "test"),b),(b',c),(oj,o),((Str.ofString "stop"),d)]
def QH:=aE .Lt c (.int 0) λ o=>aW o (a6 a e3 λ d=>cJ cp R (.bi .len) [d] f) (a6 a e3 λ i=>cJ cp R (.bi .len) [i] λ y=>bw .Add b c λ l=>cJ cp R (.bi .min) [y,l] f)
def QG:=d0 (λ d=>QH R d a c o) λ i=>ko (hE 21 [] 1 R) (bq 21 [(1,0)] 0 R) (se a b c o i) (fc (bq 21 [] 2 R) (eX A))
theorem aei:call (n+1) 21 [a,b,c,o] A j=QG (call n) A a b c o j:=by kernel_rfl
def Nc:=eR .Add c (.int 1) λ i=>K .next (se a b i o d)
theorem T':bq 21 [(1,0)] 0 R (se a b c o d) K j=Nc K a b c o d j:=by kernel_rfl
def Nd:=K (.ret c) (se a b c o d)
theorem F9:bq 21 [] 2 R (se a b c o d) K j=Nd K a b c o d j:=by kernel_rfl
def OW:=eF (λ i=>aE .Lt c d λ y=>cw .And y i (a6 a e3 λ l=>item l c λ m=>R 15 [b,m] λ p=>ek p λ r=>cw .And r i (i true))) bA
theorem adm:hE 21 [] 1 R (se a b c o d) bA j=OW R bA a b c d j:=by kernel_rfl
noncomputable def ub(a b c o d i y l m:Option E):Loc:=[(pD,a),(g6,b),(vx,c),((Str.ofString "test"),o),(xF,d),(oj,i),((Str.ofString "is_lazy"),y),((Str.ofString "low"),l),((Str.ofString "end"),m)]
def QI:=d6 22 [] 0 R b (ub a b none none none none none none none) λ ak=>bq 22 [] 1 R ak (eX A)
theorem aej:call (n+1) 22 [a,b] A j=QI (call n) A a b j:=by kernel_rfl
def Ng:=d0 (λ y=>aE .Lt c (.int 0) λ l=>aW l (y (.int (-1))) (bw .Sub c b y)) λ m=>b9 [(.str zR),i,a,o,m] λ p=>bY R bh d [p] λ r=>hk
def Nh:=eF (λ l=>ek d λ m=>cw .And m l (aE .NotEq o c λ p=>cw .And p l (l true))) λ r=>aW r (a6 a iY λ t=>b0 t jx λ u=>a6 a g6 λ v=>Ng R u hk b c o y t v) (aE .Gt y i λ w=>aW w (a6 a iY λ x=>b0 x jx λ H=>a6 a g6 λ D=>b9 [(.str zS),D,i,y] λ aA=>bY R H x [aA] λ ay=>hk) hk)
def Ni:=cL a g6 p ((λ(r:U->Prop)=>Nh R r a o d i y l m) (cL a b' m (K (.ret (.bool true)) (ub a b c o d i y l m))))
def Nj:=aE .Lt m l λ p=>aW p (K (.ret (.bool false)) (ub a b c o d i y l m)) (a6 a g6 λ r=>eR .Add r (.int 1) λ t=>Ni R K a b c o d i y l m t)
def Nk:=a6 a b' λ m=>d0 (λ p=>ek y λ r=>aW r (p d) (p i)) λ t=>R 21 [a,o,m,t] λ u=>Nj R K a b c o d i y l u
def Nf:=a6 a b' λ l=>bw .Add l d λ m=>Nk R K a b c o d i y m
theorem Ua:bq 22 [] 1 R (ub a b c o d i y none none) K j=Nf R K a b c o d i y j:=by kernel_rfl
def QK:=d0 (λ c=>cJ cp R (.bi .len) [b] λ o=>bw .Sub o (.int 1) λ d=>aE .Eq a d λ i=>f_ .And (.bool i) c (item b a λ y=>aE .Eq y (.str [10]) λ l=>c (.bool l))) f
def QL:=d0 (λ c=>cJ cp R (.bi .len) [b] λ o=>aE .Lt a o λ d=>f_ .And (.bool d) c (bw .Sub a (.int 1) λ i=>item b i λ y=>aE .Eq y (.str [10]) λ l=>c (.bool l))) f
def QM:=d0 (λ d=>aE .Gt b (.int 0) λ i=>f_ .And (.bool i) d (bw .Sub b (.int 1) λ y=>item c y λ l=>R 7 [l] d)) λ m=>aE .NotEq o m λ p=>aE .Eq a (.str [98]) λ r=>aE .Eq (.bool p) (.bool r) λ t=>A (.bool t)
def QN:=aE .Eq b (.str [65]) λ d=>aW d (aE .Eq c (.int 0) λ i=>A (.bool i)) (aE .Eq b (.str [122]) λ y=>aW y (cJ cp R (.bi .len) [o] λ l=>aE .Eq c l λ m=>A (.bool m)) (aE .Eq b (.str [90]) λ p=>aW p (d0 (λ r=>cJ cp R (.bi .len) [o] λ t=>aE .Eq c t λ u=>f_ .Or (.bool u) r (QK R r c o)) A) (aE .Eq b (.str [94,109]) λ v=>aW v (d0 (λ w=>aE .Eq c (.int 0) λ x=>f_ .Or (.bool x) w (QL R w c o)) A) (aE .Eq b (.str [36,109]) λ H=>aW H (d0 (λ D=>cJ cp R (.bi .len) [o] λ aA=>aE .Eq c aA λ ay=>f_ .Or (.bool ay) D (item o c λ aR=>aE .Eq aR (.str [10]) λ Q=>D (.bool Q))) A) (aE .Eq b (.str [71]) λ bT=>aW bT (a6 a Ac λ c_=>aE .Eq c c_ λ kv=>A (.bool kv)) (d0 (λ P=>cJ cp R (.bi .len) [o] λ S=>aE .Lt c S λ T=>f_ .And (.bool T) P (item o c λ mR=>R 7 [mR] P)) λ W=>QM R A b c o W))))))
def QJ:=a6 a b' λ c=>a6 a e3 λ o=>QN R A a b c o
theorem aek:call (n+1) 23 [a,b] A j=QJ (call n) A a b j:=by kernel_rfl
def QO:=d0 (λ c=>item b (.int 1) λ o=>R 23 [a,o] λ d=>f_ .And d c (R 19 [a] c)) A
theorem ael:call (n+1) 24 [a,b] A j=QO (call n) A a b j:=by kernel_rfl
noncomputable def iO(a b c o d i:Option E):Loc:=[(pD,a),(g6,b),((Str.ofString "n"),c),(Ac,o),((Str.ofString "end"),d),((Str.ofString "k"),i)]
def QP:=item b (.int 1) λ c=>forM c (d6 25 [] 0 R) (bq 25 [(0,0)] 0 R) (iO a b none none none none) (fc (bq 25 [] 1 R) (eX A))
theorem aem:call (n+1) 25 [a,b] A j=QP (call n) A a b j:=by kernel_rfl
def Nm:=aE .IsNot o E.none λ d=>aW d (a6 a g7 λ i=>item i c λ y=>d6 25 [(0,0),(0,0)] 0 R y (iO a b c k b3 cX) λ ak=>bq 25 [(0,0),(0,0)] 1 R ak (fc (bq 25 [(0,0)] 1 R) K)) (K .next (iO a b c k b3 cX))
def Nl:=a6 a g7 λ o=>item o c λ d=>Nm R K k b3 cX a b c d
theorem Uc:bq 25 [(0,0)] 0 R (iO a b c k b3 cX) K j=Nl R K k b3 cX a b c j:=by kernel_rfl
def Nw:=K (.ret (.bool false)) (iO a b k b3 cX fx)
theorem Uh:bq 25 [] 1 R (iO a b k b3 cX fx) K j=Nw K k b3 cX fx a b j:=by kernel_rfl
def Np:=cJ cp R (.typ .range) [i] λ y=>forM y (d6 25 [(0,0),(0,0)] 2 R) (bq 25 [(0,0),(0,0),(2,0)] 0 R) (iO a b c o d k) (fc (bq 25 [(0,0),(0,0)] 3 R) K)
def Nq:=cJ cp R (.bi .len) [y] λ l=>aE .Gt i l λ m=>aW m (K (.ret (.bool false)) (iO a b c o d k)) (bw .Sub d o λ p=>Np R K k a b c o d p)
def Nn:=a6 a b' λ i=>bw .Add i d λ y=>bw .Sub y o λ l=>a6 a e3 λ m=>Nq R K k a b c o d l m
theorem Ud:bq 25 [(0,0),(0,0)] 1 R (iO a b c o d k) K j=Nn R K k a b c o d j:=by kernel_rfl
def Nt:=R 10 [y,l,m] λ p=>ek p λ r=>aW (!r) (K (.ret (.bool false)) (iO a b c o d i)) (K .next (iO a b c o d i))
def Nu:=item y l λ m=>a6 a e3 λ p=>bw .Add o i λ r=>item p r λ t=>item b (.int 2) λ u=>Nt R K a b c o d i m t u
def Nr:=a6 a e3 λ y=>a6 a b' λ l=>bw .Add l i λ m=>Nu R K a b c o d i y m
theorem Ue:bq 25 [(0,0),(0,0),(2,0)] 0 R (iO a b c o d i) K j=Nr R K a b c o d i j:=by kernel_rfl
def Nv:=a6 a b' λ i=>bw .Sub d o λ y=>eR .Add i y λ l=>cL a b' l (R 19 [a] λ m=>K (.ret m) (iO a b c o d k))
theorem Ug:bq 25 [(0,0),(0,0)] 3 R (iO a b c o d k) K j=Nv R K k a b c o d j:=by kernel_rfl
def QQ:=item b (.int 1) λ c=>a6 a b' λ o=>R 18 [a,c,o] λ d=>R 19 [a] A
theorem aen:call (n+1) 26 [a,b] A j=QQ (call n) A a b j:=by kernel_rfl
def QS:=item c o λ d=>a6 a b' λ i=>b9 [d,i] λ y=>a6 a g7 λ l=>item b (.int 1) λ m=>gM l m y (R 19 [a] A)
def QT:=item d i λ y=>b9 [(.str jW),o,y] λ l=>bY R bh c [l] λ m=>a6 a h6 λ p=>item b (.int 2) λ r=>QS R A a b p r
def QR:=a6 a iY λ c=>b0 c jx λ o=>item b (.int 1) λ d=>a6 a g7 λ i=>item b (.int 1) λ y=>QT R A o a b c d i y
theorem aeo:call (n+1) 27 [a,b] A j=QR (call n) A a b j:=by kernel_rfl
def QU:=item b (.int 1) λ c=>cL a g6 c (A (.bool true))
theorem aep:call (n+1) 28 [a,b] A j=QU A a b j:=by kernel_rfl
def QW:=item b (.int 2) λ o=>a6 a b' λ d=>b9 [(.str xb),o,d] λ i=>bY R bh c [i] λ y=>item b (.int 1) λ l=>cL a g6 l (A (.bool true))
def QV:=a6 a iY λ c=>b0 c jx λ o=>QW R A o a b c
theorem aeq:call (n+1) 29 [a,b] A j=QV (call n) A a b j:=by kernel_rfl
def QX:=item b (.int 1) λ c=>R 18 [a,c,(.int 0)] λ o=>item b (.int 2) λ d=>R 18 [a,d,(.int (-1))] λ i=>R 19 [a] A
theorem aes:call (n+1) 30 [a,b] A j=QX (call n) A a b j:=by kernel_rfl
noncomputable def uc(a b c o d i y l m p r:Option E):Loc:=[(pD,a),(g6,b),(vx,c),((Str.ofString "count"),o),((Str.ofString "place"),d),(xF,i),(oj,y),((Str.ofString "is_lazy"),l),((Str.ofString "again"),m),((Str.ofString "behind"),p),((Str.ofString "rounds"),r)]
def QY:=d6 31 [] 0 R b (uc a b none none none none none none none none none) λ ak=>bq 31 [] 1 R ak (eX A)
theorem aet:call (n+1) 31 [a,b] A j=QY (call n) A a b j:=by kernel_rfl
def Ny:=a6 a b' λ d=>aE .Eq o d λ i=>cw .Or i F (eF (λ y=>aE .LtE (.int 0) b λ l=>aW l (aE .LtE b c y) (y false)) λ m=>cw .Or m F (F false))
def Nz:=b0 o jx λ d=>a6 a b' λ i=>b9 [(.str xb),b,i] λ y=>bY R d o [y] λ l=>cL a g6 c hk
def NA:=eF (λ l=>a6 a h6 λ m=>item m b λ p=>Ny l a c y p) λ r=>aW r (cL a g6 i hk) (ek o λ t=>aW t (a6 a iY λ u=>Nz R hk a d i u) (a6 a iY λ v=>b0 v jx λ w=>a6 a b' λ x=>b9 [(.str xb),i,x] λ H=>bY R w v [H] λ D=>hk))
def NB:=cL a g6 m (aE .Lt r i λ t=>aW t (K (.ret (.bool true)) (uc a b c o d i y l m p r)) ((λ(u:U->Prop)=>NA R u a d y l m p r) (K (.ret (.bool true)) (uc a b c o d i y l m p r))))
def Nx:=a6 a h6 λ r=>item r o λ t=>NB R K a b c o d i y l m p t
theorem Uj:bq 31 [] 1 R (uc a b c o d i y l m p none) K j=Nx R K a b c o d i y l m p j:=by kernel_rfl
def Q0:=bw .Add o (.int 1) λ d=>R 18 [a,c,d] λ i=>item b (.int 2) λ y=>a6 a b' λ l=>R 18 [a,y,l] λ m=>item b (.int 3) λ p=>cL a g6 p (A (.bool true))
def QZ:=item b (.int 1) λ c=>a6 a h6 λ o=>item b (.int 1) λ d=>item o d λ i=>Q0 R A a b c i
theorem aeu:call (n+1) 32 [a,b] A j=QZ (call n) A a b j:=by kernel_rfl
def Q2:=R 18 [a,c,(.int 0)] λ o=>a6 a iY λ d=>cJ cp R (.bi .len) [d] λ i=>a6 a h6 λ y=>item b (.int 1) λ l=>gM y l i (R 19 [a] A)
def Q1:=item b (.int 1) λ c=>Q2 R A a b c
theorem aev:call (n+1) 33 [a,b] A j=Q1 (call n) A a b j:=by kernel_rfl
def Q4:=item a (.int 0) λ b=>aE .Eq b (.str jW) λ c=>cw .Or c F (item a (.int 0) λ o=>aE .Eq o (.str zQ) λ d=>cw .Or d F (F false))
def Q5:=ib c (λ o d=>eF (λ i=>Q4 i o) λ y=>aW y (d true) (d false)) (λ o l=>l o) λ m=>a6 a iY λ p=>eN p none (some b) λ r=>bw .Add r m λ t=>cL a iY t (R 19 [a] A)
def Q3:=a6 a h6 λ c=>item b (.int 1) λ o=>item c o λ d=>a6 a iY λ i=>eN i (some d) none λ y=>Q5 R A a d y
theorem aew:call (n+1) 34 [a,b] A j=Q3 (call n) A a b j:=by kernel_rfl
def Q7:=aE .Eq c (.str zQ) λ o=>aW o (item b (.int 2) λ d=>a6 a h6 λ i=>item b (.int 1) λ y=>gM i y d (A E.none)) (A E.none)
def Q8:=aE .Eq c (.str jW) λ o=>aW o (item b (.int 2) λ d=>a6 a g7 λ i=>item b (.int 1) λ y=>gM i y d (A E.none)) (item b (.int 0) λ l=>Q7 A a b l)
def Q6:=item b (.int 0) λ c=>Q8 A a b c
theorem aex:call (n+1) 35 [a,b] A j=Q6 A a b j:=by kernel_rfl
noncomputable def sf(a b c:Option E):Loc:=[(pD,a),(g6,b),((Str.ofString "height"),c)]
def Q9:=a6 a h6 λ c=>item b (.int 1) λ o=>item c o λ d=>ko (hE 36 [] 1 R) (bq 36 [(1,0)] 0 R) (sf a b d) (fc (bq 36 [] 2 R) (eX A))
theorem aey:call (n+1) 36 [a,b] A j=Q9 (call n) A a b j:=by kernel_rfl
def NC:=a6 a iY λ o=>b0 o xD λ d=>bY R d o [] λ i=>R 35 [a,i] λ y=>K .next (sf a b c)
theorem Uk:bq 36 [(1,0)] 0 R (sf a b c) K j=NC R K a b c j:=by kernel_rfl
def ND:=K (.ret (.bool false)) (sf a b c)
theorem Ul:bq 36 [] 2 R (sf a b c) K j=ND K a b c j:=by kernel_rfl
def OX:=a6 a iY λ o=>cJ cp R (.bi .len) [o] λ d=>aE .Gt d c bA
theorem adn:hE 36 [] 1 R (sf a b c) bA j=OX R bA a c j:=by kernel_rfl
def Q_:=item b (.int 1) λ c=>a6 a b' λ o=>R 18 [a,c,o] λ d=>R 19 [a] A
theorem aez:call (n+1) 37 [a,b] A j=Q_ (call n) A a b j:=by kernel_rfl
def Q':=a6 a h6 λ c=>item b (.int 1) λ o=>item c o λ d=>cL a b' d (R 19 [a] A)
theorem aeA:call (n+1) 38 [a,b] A j=Q' (call n) A a b j:=by kernel_rfl
def Rb:=item b (.int 1) λ o=>aE .Lt c o λ d=>aW d (A (.bool false)) (a6 a b' λ i=>item b (.int 1) λ y=>eR .Sub i y λ l=>cL a b' l (R 19 [a] A))
def Ra:=a6 a b' λ c=>Rb R A a b c
theorem aeB:call (n+1) 39 [a,b] A j=Ra (call n) A a b j:=by kernel_rfl
def Rc:=yR [[115,105,103,110],[97,110,121],[115,101,116],[114,117,110],[97,116],[98,97,99,107],[111,112,101,110],[99,108,111,115,101],[106,117,109,112],[115,112,108,105,116],[122,101,114,111],[108,111,111,112],[97,103,97,105,110],[109,97,114,107],[99,117,116],[114,101,102,117,115,101],[112,108,97,99,101],[114,101,116,117,114,110],[98,101,104,105,110,100]] [(.fn 20),(.fn 20),(.fn 20),(.fn 22),(.fn 24),(.fn 25),(.fn 26),(.fn 27),(.fn 28),(.fn 29),(.fn 30),(.fn 31),(.fn 32),(.fn 33),(.fn 34),(.fn 36),(.fn 37),(.fn 38),(.fn 39)] A
theorem aeC:call (n+1) 40 [] A j=Rc A j:=by kernel_rfl
noncomputable def ud(a b c o d i y:Option E):Loc:=[(pD,a),((Str.ofString "entry"),b),(vx,c),(g6,o),((Str.ofString "test"),d),(b',i),((Str.ofString "left"),y)]
def Rd:=d6 41 [] 0 R b (ud a b none none none none none) λ ak=>bq 41 [] 1 R ak (eX A)
theorem aeD:call (n+1) 41 [a,b] A j=Rd (call n) A a b j:=by kernel_rfl
def NG:=cJ cp R (.bi .len) [o] λ d=>aE .GtE c d λ i=>cw .Or i F (a6 a e3 λ y=>item y c λ l=>R 15 [b,l] λ m=>ek m λ p=>cw .Or (!p) F (F false))
def NH:=d0 (λ i=>aE .Gt c (.int 0) λ y=>aW y (bw .Sub c (.int 1) i) (i (.int (-1)))) λ l=>b9 [(.str zR),a,b,d,l] λ m=>bY R bh o [m] λ p=>hk
def NI:=aE .NotEq d (.int 1) λ i=>aW i (a6 a iY λ y=>b0 y jx λ l=>bw .Add o (.int 1) λ m=>NH R l hk b c d y m) hk
def NF:=eF (λ l=>a6 a e3 λ m=>NG R l a d i m) λ p=>aW p (K (.ret (.bool false)) (ud a b c o d i y)) ((λ(r:U->Prop)=>NI R r a o d i y) (cL a g6 o (bw .Add i (.int 1) λ t=>cL a b' t (K (.ret (.bool true)) (ud a b c o d i y)))))
theorem Um:bq 41 [] 1 R (ud a b c o d i y) K j=NF R K a b c o d i y j:=by kernel_rfl
noncomputable def nB(a b:Option E):Loc:=[(pD,a),((Str.ofString "entry"),b)]
def Rf:=ko (hE 42 [] 0 R) (bq 42 [(0,0)] 0 R) (nB a none) (fc (bq 42 [] 1 R) (eX A))
theorem aeE:call (n+1) 42 [a] A j=Rf (call n) A a j:=by kernel_rfl
def NK:=b0 c jx λ o=>item b (.int 1) λ d=>item b (.int 2) λ i=>a6 a b' λ y=>b9 [(.str zS),d,i,y] λ l=>bY R o c [l] λ m=>hk
def NL:=cL a b' c ((λ(o:U->Prop)=>a6 a b' λ d=>item b (.int 2) λ i=>aE .Gt d i λ y=>aW y (a6 a iY λ l=>NK R o a b l) o) (K (.ret (.bool true)) (nB a b)))
def NM:=aE .Eq c (.str zR) λ o=>aW o (R 41 [a,b] λ d=>ek d λ i=>aW i (K (.ret (.bool true)) (nB a b)) (K .next (nB a b))) (R 35 [a,b] λ y=>K .next (nB a b))
def NN:=aE .Eq c (.str zS) λ o=>aW o (item b (.int 1) λ d=>cL a g6 d (item b (.int 3) λ i=>bw .Sub i (.int 1) λ y=>NL R K a b y)) (item b (.int 0) λ l=>NM R K a b l)
def NO:=aE .Eq c (.str xb) λ o=>aW o (item b (.int 1) λ d=>cL a g6 d (item b (.int 2) λ i=>cL a b' i (K (.ret (.bool true)) (nB a b)))) (item b (.int 0) λ y=>NN R K a b y)
def NJ:=a6 a iY λ b=>b0 b xD λ c=>bY R c b [] λ o=>item o (.int 0) λ d=>NO R K a o d
theorem Un:bq 42 [(0,0)] 0 R (nB a k) K j=NJ R K a j:=by kernel_rfl
def NP:=K (.ret (.bool false)) (nB a k)
theorem Uo:bq 42 [] 1 R (nB a k) K j=NP K k a j:=by kernel_rfl
def OY:=a6 a iY λ b=>dI [] λ c=>aE .NotEq b c bA
theorem ado:hE 42 [] 0 R (nB a k) bA j=OY bA a j:=by kernel_rfl
noncomputable def q5(a b c o d:Option E):Loc:=[(pD,a),((Str.ofString "words"),b),(Ad,c),(g6,o),((Str.ofString "is_right"),d)]
def Rh:=a6 d h6 λ i=>bw .Mult o i λ y=>cL a h6 y (ko (hE 43 [] 5 R) (bq 43 [(5,0)] 0 R) (q5 a b c none none) (fc (bq 43 [] 6 R) (eX A)))
def Ri:=a6 d g7 λ i=>bw .Add i (.int 1) λ y=>bw .Mult o y λ l=>cL a g7 l (dI [(.int (-1))] λ m=>a6 a r2 λ p=>Rh R A a b c m p)
def Rg:=cL a b' c (cL a g6 (.int 0) (dI [] λ o=>cL a iY o (dI [E.none] λ d=>a6 a r2 λ i=>Ri R A a b c d i)))
theorem aeF:call (n+1) 43 [a,b,c] A j=Rg (call n) A a b c j:=by kernel_rfl
def NR:=ek (.bool s) λ d=>aW d (a6 a b' λ i=>b9 [c,i] λ y=>a6 a g7 λ l=>gM l (.int 0) y (K (.ret (.bool true)) (q5 a b c o (some (.bool s))))) (f (.bool s))
def NS:=aE .Eq d (.str [101,110,100]) λ i=>aW i (a6 a b' λ y=>a6 a xG λ l=>aE .GtE y l λ m=>NR K f m a b c o) (item o (.int 0) λ p=>item b p λ r=>cJ cp R r [a,o] f)
def NT:=eF (λ i=>ek d λ y=>cw .And (!y) i (R 42 [a] λ l=>ek l λ m=>cw .And (!m) i (i true))) λ p=>aW p (K (.ret (.bool false)) (q5 a b c o d)) (K .next (q5 a b c o d))
def NU:=a6 a g6 λ d=>item o d λ i=>(λ(y:E->U->Prop)=>item i (.int 0) λ l=>NS R K y a b c i l) (λ(m:E)=>NT R K a b c i m)
def NV:=a6 a oj λ d=>aE .Gt o d λ i=>aW i (λ z=>False) (a6 a r2 λ y=>a6 y km λ l=>NU R K a b c l)
def NQ:=a6 a pE λ o=>eR .Add o (.int 1) λ d=>cL a pE d (a6 a pE λ i=>NV R K a b c i)
theorem Up:bq 43 [(5,0)] 0 R (q5 a b c k b3) K j=NQ R K a b c j:=by kernel_rfl
def OZ:=bA true
theorem adp:hE 43 [] 5 R (q5 a b c k b3) bA j=OZ bA j:=by kernel_rfl
noncomputable def oM(a b c o d i y l:Option E):Loc:=[(r2,a),(e3,b),(b',c),((Str.ofString "limits"),o),(xG,d),(pD,i),((Str.ofString "words"),y),(Ad,l)]
def Rk:=cJ cp R (.typ .range) [c,l] λ m=>forM m (d6 44 [] 2 R) (bq 44 [(2,0)] 0 R) (oM a b c o d i y none) (fc (bq 44 [] 3 R) (eX A))
def Rl:=cJ cp R (.cls 17) [a,b,c,d,i] λ y=>R 40 [] λ l=>cJ cp R (.bi .len) [b] λ m=>bw .Add m (.int 1) λ p=>Rk R A a b c o d y l p
def Rj:=a6 o pE λ i=>Rl R A a b c o d i
theorem aeG:call (n+1) 44 [a,b,c,o,d] A j=Rj (call n) A a b c o d j:=by kernel_rfl
def NX:=ek m λ p=>aW p (a6 i g7 λ r=>K (.ret r) (oM a b c o d i y l)) (K .next (oM a b c o d i y l))
def NW:=R 43 [i,y,l] λ m=>NX K a b c o d i y l m
theorem Uq:bq 44 [(2,0)] 0 R (oM a b c o d i y l) K j=NW R K a b c o d i y l j:=by kernel_rfl
def NY:=K (.ret E.none) (oM a b c o d i y k)
theorem Ur:bq 44 [] 3 R (oM a b c o d i y k) K j=NY K k a b c o d i y j:=by kernel_rfl
noncomputable def mM(a b c o d:Option E):Loc:=[(Ae,a),(om,b),(vx,c),((Str.ofString "one"),o),((Str.ofString "register"),d)]
def Rn:=forM o (d6 51 [(1,1),(0,0)] 0 R) (bq 51 [(1,1),(0,0),(0,0)] 0 R) (mM a b c none none) (fc (bq 51 [(1,1),(0,0)] 1 R) (fc (bq 51 [(1,1)] 1 R) (fc (bq 51 [] 2 R) (eX A))))
def Ro:=R 51 [a,o] λ d=>b0 a iw λ i=>item b (.int 1) λ y=>b9 [(.str [99,108,111,115,101]),y,c] λ l=>bY R i a [l] λ m=>A E.none
def Rp:=bY R bh a [] λ c=>b0 a iw λ o=>b9 [(.str [111,112,101,110]),c] λ d=>bY R o a [d] λ i=>item b (.int 2) λ y=>Ro R A a b c y
def Rq:=aE .In c o λ d=>aW d (b0 a iw λ i=>bY R i a [b] λ y=>A E.none) (aE .Eq c (.str [115,101,113]) λ l=>aW l (item b (.int 1) λ m=>Rn R A a b c m) (aE .Eq c (.str [97,108,116]) λ p=>aW p (item b (.int 1) λ r=>R 52 [a,r] λ t=>A E.none) (aE .Eq c (.str jW) λ u=>aW u (b0 a qT λ v=>Rp R A v a b) (aE .Eq c (.str qC) λ w=>aW w (R 54 [a,b] λ x=>A E.none) (aE .Eq c (.str pj) λ H=>aW H (item b (.int 1) λ D=>R 53 [a,D] λ aA=>A E.none) (R 56 [a,b] λ ay=>A E.none))))))
def Rm:=item b (.int 0) λ c=>b9 [(.str tl),(.str [97,110,121]),(.str pk),(.str [97,116]),(.str oc)] λ o=>Rq R A a b c o
theorem qX:call (n+1) 51 [a,b] A j=Rm (call n) A a b j:=by kernel_rfl
def NZ:=R 51 [a,o] λ d=>K .next (mM a b c o none)
theorem F_:bq 51 [(1,1),(0,0),(0,0)] 0 R (mM a b c o none) K j=NZ R K a b c o j:=by kernel_rfl
def N0:=K .next (mM a b c k none)
theorem F':bq 51 [(1,1),(0,0)] 1 R (mM a b c k none) K j=N0 K k a b c j:=by kernel_rfl
def N1:=K .next (mM a b c k none)
theorem Ga:bq 51 [(1,1)] 1 R (mM a b c k none) K j=N1 K k a b c j:=by kernel_rfl
def N2:=K .next (mM a b c k none)
theorem Gb:bq 51 [] 2 R (mM a b c k none) K j=N2 K k a b c j:=by kernel_rfl
noncomputable def lG(a b c o d i:Option E):Loc:=[(Ae,a),((Str.ofString "branches"),b),((Str.ofString "jumps"),c),((Str.ofString "one"),o),(xC,d),(b',i)]
def Rt:=cJ cp R (.bi .len) [b] λ o=>bw .Sub o (.int 1) λ d=>eN b none (some d) λ i=>forM i (d6 52 [] 1 R) (bq 52 [(1,0)] 0 R) (lG a b c none none none) (fc (bq 52 [] 2 R) (eX A))
def Rr:=dI [] λ c=>Rt R A a b c
theorem aeH:call (n+1) 52 [a,b] A j=Rr (call n) A a b j:=by kernel_rfl
def N4:=cJ cp R (.bi .len) [y] λ l=>b9 [(.str rS),i,l] λ m=>a6 a km λ p=>gM p d m (K .next (lG a b c o d none))
def N5:=b9 [(.str ve),(.int 0)] λ i=>bY R N a [i] λ y=>bY R bh c [y] λ l=>bw .Add d (.int 1) λ m=>a6 a km λ p=>N4 R K a b c o d m p
def N6:=bY R bh a [d] λ i=>R 51 [a,o] λ y=>b0 c jx λ l=>b0 a iw λ m=>N5 R K l m a b c o i
def N3:=b0 a iw λ d=>b9 [(.str rS),(.int 0),(.int 0)] λ i=>N6 R K d a b c o i
theorem Us:bq 52 [(1,0)] 0 R (lG a b c o k none) K j=N3 R K a b c o j:=by kernel_rfl
def N8:=bw .Sub o (.int 1) λ d=>item b d λ i=>R 51 [a,i] λ y=>forM c (d6 52 [] 3 R) (bq 52 [(3,0)] 0 R) (lG a b c k b3 none) (fc (bq 52 [] 4 R) K)
def N7:=cJ cp R (.bi .len) [b] λ o=>N8 R K k b3 a b c o
theorem Ut:bq 52 [] 2 R (lG a b c k b3 none) K j=N7 R K k b3 a b c j:=by kernel_rfl
def N_:=cJ cp R (.bi .len) [d] λ i=>b9 [(.str ve),i] λ y=>a6 a km λ l=>gM l o y (K .next (lG a b c k b3 o))
def N9:=a6 a km λ d=>N_ R K k b3 a b c o d
theorem Uu:bq 52 [(3,0)] 0 R (lG a b c k b3 o) K j=N9 R K k b3 a b c o j:=by kernel_rfl
def N':=K .next (lG a b c k b3 cX)
theorem Uv:bq 52 [] 4 R (lG a b c k b3 cX) K j=N' K k b3 cX a b c j:=by kernel_rfl
def Rv:=b9 [(.str xc),c] λ o=>bY R bh a [o] λ d=>R 51 [a,b] λ i=>b0 a iw λ y=>b9 [(.str [99,117,116]),c] λ l=>bY R y a [l] λ m=>A E.none
def Ru:=b0 a qT λ c=>bY R c a [] λ o=>b0 a iw λ d=>Rv R A d a b o
theorem aeI:call (n+1) 53 [a,b] A j=Ru (call n) A a b j:=by kernel_rfl
noncomputable def sg(a b c o d i y:Option E):Loc:=[(Ae,a),(om,b),(vx,c),((Str.ofString "inner"),o),(xF,d),(oj,i),((Str.ofString "mode"),y)]
def Rw:=d6 54 [] 0 R b (sg a b none none none none none) λ ak=>bq 54 [] 1 R ak (eX A)
theorem Lj:call (n+1) 54 [a,b] A j=Rw (call n) A a b j:=by kernel_rfl
def Ob:=aE .Eq y (.str [108,97,122,121]) λ l=>b9 [(.str [114,117,110]),o,d,i,(.bool l)] λ m=>bY R bh a [m] λ p=>K .next (sg a b c o d i y)
def Oc:=aE .In l yF λ m=>aW m (b0 a iw λ p=>Ob R K p a b c o d i y) (aE .Eq y (.str [108,97,122,121]) λ r=>R 55 [a,o,d,i,(.bool r)] λ t=>K .next (sg a b c o d i y))
def Oa:=aE .Eq y (.str [111,119,110]) λ l=>aW l (b9 [c,o,d,i,(.str DO)] λ m=>R 53 [a,m] λ p=>K .next (sg a b c o d i y)) (item o (.int 0) λ r=>Oc R K a b c o d i y r)
theorem Gd:bq 54 [] 1 R (sg a b c o d i y) K j=Oa R K a b c o d i y j:=by kernel_rfl
def Ry:=a6 a km λ m=>cJ cp R (.bi .len) [m] λ p=>b9 [(.str [108,111,111,112]),d,i,b,c,o,l,p] λ r=>a6 a km λ t=>gM t y r (A E.none)
def Rz:=R 51 [a,b] λ p=>b0 a iw λ r=>b9 [(.str ve),l] λ t=>bY R r a [t] λ u=>Ry R A a c o d i y l m
def RA:=b0 a iw λ m=>bw .Add l (.int 2) λ p=>b9 [(.str vf),i,y,p] λ r=>bY R m a [r] λ t=>Rz R A a b c o d i y l t
def RB:=bY R bh a [l] λ m=>b0 a iw λ p=>b9 [(.str [108,111,111,112])] λ r=>bY R p a [r] λ t=>RA R A a b c o d i y t
def RC:=b0 a qT λ y=>bY R y a [] λ l=>b0 a iw λ m=>b9 [(.str [122,101,114,111]),i,l] λ p=>RB R A m a b c o d i l p
def Rx:=b0 a qT λ i=>bY R i a [] λ y=>RC R A a b c o d y
theorem aeJ:call (n+1) 55 [a,b,c,o,d] A j=Rx (call n) A a b c o d j:=by kernel_rfl
noncomputable def ue(a b c o d i y l m p:Option E):Loc:=[(Ae,a),(om,b),(vx,c),((Str.ofString "inner"),o),((Str.ofString "is_behind"),d),(EA,i),(Af,y),((Str.ofString "place"),l),((Str.ofString "mark"),m),(xC,p)]
def RD:=d6 56 [] 0 R b (ue a b none none none none none none none none) λ ak=>bq 56 [] 1 R ak (eX A)
theorem aeK:call (n+1) 56 [a,b] A j=RD (call n) A a b j:=by kernel_rfl
def Oe:=a6 a km λ t=>gM t p r (K .next (ue a b c o d i y l m p))
def Of:=a6 a km λ t=>cJ cp R (.bi .len) [t] λ u=>b9 [(.str rS),r,u] λ v=>Oe K a b c o d i y l m p v
def Og:=b9 [(.str [114,101,102,117,115,101]),m] λ r=>bY R bh a [r] λ t=>bw .Add p (.int 1) λ u=>Of R K a b c o d i y l m p u
def Oh:=b9 [(.str [114,101,116,117,114,110]),l] λ r=>bY R bh a [r] λ t=>K .next (ue a b c o d i y l m p)
def Oi:=ek i λ r=>aW r (b0 a iw λ t=>Og R K t a b c o d i y l m p) (b0 a iw λ u=>b9 [(.str [99,117,116]),m] λ v=>bY R u a [v] λ w=>b0 a iw λ x=>Oh R K x a b c o d i y l m p)
def Oj:=(λ(r:U->Prop)=>ek d λ t=>aW t (b0 a iw λ u=>b9 [(.str [98,101,104,105,110,100]),y] λ v=>bY R u a [v] λ w=>r) r) (R 51 [a,o] λ x=>Oi R K a b c o d i y l m p)
abbrev Ol:=(λ(p:E->U->Prop)=>ek i λ r=>aW r (b0 a iw λ t=>b9 [(.str rS),(.int 0),(.int 0)] λ u=>bY R t a [u] p) (p (.int (-1)))) (λ(v:E)=>Oj R K a b c o d i y l m v)
def Om:=bY R bh a [p] λ r=>b0 a iw λ t=>b9 [(.str xc),m] λ u=>bY R t a [u] λ v=>Ol R K a b c o d i y l m
def Oo:=b0 a qT λ m=>bY R m a [] λ p=>b0 a iw λ r=>b9 [(.str rT),l] λ t=>Om R K r a b c o d i y l p t
def Od:=b0 a qT λ l=>bY R l a [] λ m=>Oo R K a b c o d i y m
theorem Uw:bq 56 [] 1 R (ue a b c o d i y none none none) K j=Od R K a b c o d i y j:=by kernel_rfl
def RF:=b9 [(.str [101,110,100])] λ o=>bY R bh c [o] λ d=>a6 c km λ i=>a6 c h6 λ y=>cJ cp R (.cls 49) [i,a,y,b] A
def RE:=cJ cp R (.cls 50) [] λ o=>R 51 [o,a] λ d=>b0 o iw λ i=>RF R A i b c o
theorem aeL:call (n+1) 57 [a,b,c] A j=RE (call n) A a b c j:=by kernel_rfl
noncomputable def q6(a b c o:Option E):Loc:=[(qU,a),((Str.ofString "signs"),b),(oj,c),(Ag,o)]
def RG:=a6 a b' λ o=>ko (hE 65 [] 1 R) (bq 65 [(1,0)] 0 R) (q6 a b c o) (fc (bq 65 [] 2 R) (eX A))
theorem aeM:call (n+1) 65 [a,b,c] A j=RG (call n) A a b c j:=by kernel_rfl
def Oq:=a6 a b' λ d=>eR .Add d (.int 1) λ i=>cL a b' i (K .next (q6 a b c o))
theorem Uy:bq 65 [(1,0)] 0 R (q6 a b c o) K j=Oq K a b c o j:=by kernel_rfl
def Ot:=a6 a e3 λ d=>a6 a b' λ i=>eN d (some o) (some i) λ y=>K (.ret y) (q6 a b c o)
theorem Uz:bq 65 [] 2 R (q6 a b c o) K j=Ot K a b c o j:=by kernel_rfl
def O1:=item d i λ y=>aE .In y b λ l=>cw .And l F (a6 a b' λ m=>bw .Sub m o λ p=>aE .NotEq p c λ r=>cw .And r F (F true))
def O2:=cJ cp R (.bi .len) [i] λ y=>aE .Lt d y λ l=>cw .And l F (a6 a e3 λ m=>a6 a b' λ p=>O1 F a b c o m p)
def O0:=eF (λ d=>a6 a b' λ i=>a6 a e3 λ y=>O2 R d a b c o i y) bA
theorem adq:hE 65 [] 1 R (q6 a b c o) bA j=O0 R bA a b c o j:=by kernel_rfl
noncomputable def q7(a b c o:Option E):Loc:=[(pD,a),((Str.ofString "base"),b),(tD,c),((Str.ofString "sign"),o)]
def RH:=forM a (d6 66 [] 1 R) (bq 66 [(1,0)] 0 R) (q7 a b (some (.int 0)) none) (fc (bq 66 [] 2 R) (eX A))
theorem aeN:call (n+1) 66 [a,b] A j=RH (call n) A a b j:=by kernel_rfl
def Ov:=bY R N c [] λ d=>bY R bh Gr [d] λ i=>bw .Add o i λ y=>bw .Add (.int 1114111) (.int 1) λ l=>cJ cp R (.bi .min) [y,l] λ m=>K .next (q7 a b m c)
def Ou:=bw .Mult c b λ d=>b0 Gr (Str.ofString "index") λ i=>b0 o Ab λ y=>Ov R K i y a b o d
theorem UA:bq 66 [(1,0)] 0 R (q7 a b c o) K j=Ou R K a b c o j:=by kernel_rfl
def Ow:=K (.ret c) (q7 a b c k)
theorem UB:bq 66 [] 2 R (q7 a b c k) K j=Ow K k a b c j:=by kernel_rfl
def RJ:=aE .Lt b (.int 0) λ c=>aW c (λ z=>False) (a6 a e3 λ o=>a6 a b' λ d=>eN o (some d) (some b) λ i=>bw .Add b (.int 1) λ y=>cL a b' y (A i))
def RI:=a6 a e3 λ c=>b0 c vv λ o=>a6 a b' λ d=>bY R o c [b,d] λ i=>RJ A a i
theorem aeO:call (n+1) 67 [a,b] A j=RI (call n) A a b j:=by kernel_rfl
def RL:=a6 a b' λ d=>bw .Add d (.int 2) λ i=>eN c (some o) (some i) λ y=>aE .NotEq y (.str [91,58]) λ l=>cw .Or l F (aE .Lt b (.int 0) λ m=>cw .Or m F (F false))
def RM:=eF (λ b=>aE .LtE (.str [97]) a λ c=>aW c (aE .LtE a (.str [122]) b) (b false)) λ o=>cw .Or o F (aE .Eq a (.str [94]) λ d=>cw .Or d F (F false))
def RN:=cL a b' o (d0 (λ d=>eN b none (some (.int 1)) λ i=>aE .Eq i (.str [94]) λ y=>aW y (b9 [(.str [110,111,110,101]),c] λ l=>dI [l] d) (d c)) A)
def RO:=aE .Eq o d λ i=>aW i (ib c (λ y l=>eF (λ m=>RM m y) λ p=>aW (!p) (l true) (l false)) (λ y r=>r y) λ t=>dI [] λ u=>aE .NotEq t u λ v=>aW v (A E.none) (λ z=>False)) (bw .Add b (.int 2) λ w=>RN A a c o w)
def RP:=d0 (λ o=>eN c none (some (.int 1)) λ d=>aE .Eq d (.str [94]) λ i=>aW i (eN c (some (.int 1)) none o) (o c)) λ y=>R 11 [y] λ l=>dI [] λ m=>RO A a b c l m
def RQ:=eF (λ c=>a6 a e3 λ o=>a6 a b' λ d=>RL c a b o d) λ i=>aW i (A E.none) (a6 a e3 λ y=>a6 a b' λ l=>bw .Add l (.int 2) λ m=>eN y (some m) (some b) λ p=>RP R A a b p)
def RK:=a6 a e3 λ b=>b0 b vv λ c=>a6 a b' λ o=>bY R c b [(.str [58,93]),o] λ d=>RQ R A a d
theorem aeP:call (n+1) 72 [a] A j=RK (call n) A a j:=by kernel_rfl
def RS:=eF (λ c=>aE .NotEq b (.str []) λ o=>cw .And o c (aE .In b Gp λ d=>cw .And d c (c true))) λ i=>aW i (a6 a b' λ y=>eR .Add y (.int 1) λ l=>cL a b' l (b9 [(.str zT),b] λ m=>dI [m] A)) (R 70 [a] λ p=>aE .Eq b (.str [98]) λ r=>aW r (iN (.str [8]) (some b)) (iN p (some b)))
def RT:=cL a b' c ((λ(o:E->Option E->U->Prop)=>aE .Eq b (.str [92]) λ d=>aW d (b0 a mF λ i=>bY R i a [] λ y=>RS R A o a y) (o b none)) (λ(l:E)(m:Option E)=>cJ cp R (.bi .ord) [l] λ p=>cJ cp R (.bi .ord) [l] λ r=>b9 [(.str qD),p,r] λ t=>dI [t] A))
def RU:=aE .IsNot b E.none λ c=>aW c (A b) (b0 a mF λ o=>bY R o a [] λ d=>a6 a b' λ i=>eR .Add i (.int 1) λ y=>RT R A a d y)
def RR:=R 72 [a] λ b=>RU R A a b
theorem aeQ:call (n+1) 73 [a] A j=RR (call n) A a j:=by kernel_rfl
def RW:=aE .Eq b (.str qD) λ c=>f_ .And (.bool c) f (item a (.int 0) λ o=>item o (.int 1) λ d=>item a (.int 0) λ i=>item i (.int 2) λ y=>aE .Eq d y λ l=>f (.bool l))
def RV:=d0 (λ b=>cJ cp R (.bi .len) [a] λ c=>aE .Eq c (.int 1) λ o=>f_ .And (.bool o) b (item a (.int 0) λ d=>item d (.int 0) λ i=>RW b a i)) A
theorem aeR:call (n+1) 74 [a] A j=RV (call n) A a j:=by kernel_rfl
noncomputable def q8(a b c o d i y l:Option E):Loc:=[(qU,a),(Ah,b),(Ag,c),(EA,o),((Str.ofString "items"),d),((Str.ofString "is_first"),i),(tD,y),((Str.ofString "behind"),l)]
def RY:=bY R bh a [(.str [94])] λ o=>dI [] λ d=>ko (hE 76 [] 5 R) (bq 76 [(5,0)] 0 R) (q8 a b c o d (some (.bool true)) none none) (fc (bq 76 [] 6 R) (eX A))
def RX:=a6 a b' λ c=>a6 a b' λ o=>eR .Add o (.int 1) λ d=>cL a b' d (b0 a hC λ i=>RY R A i a b c)
theorem aeS:call (n+1) 76 [a,b] A j=RX (call n) A a b j:=by kernel_rfl
def Oy:=aE .Eq b (.str [45]) λ c=>cw .And c F (aE .NotEq a (.str [45,93]) λ o=>cw .And o F (cJ cp R (.bi .len) [a] λ d=>aE .Eq d (.int 2) λ i=>cw .And i F (F true)))
def Oz:=eF (λ o=>R 74 [b] λ d=>ek d λ i=>cw .And i o (eN c none (some (.int 1)) λ y=>Oy R o c y)) λ l=>aW l (R 75 [a,b] f) (f b)
def OA:=b0 d (Str.ofString "extend") λ l=>bY R l d [y] λ m=>K .next (q8 a b c o d (some (.bool false)) (some y) (some i))
def OB:=bw .Add m (.int 2) λ p=>eN y (some l) (some p) λ r=>(λ(t:E->U->Prop)=>Oz R t a i r) (λ(u:E)=>OA R K a b c o d r u)
def OC:=aE .Eq i (.str []) λ y=>aW y (λ z=>False) (R 73 [a] λ l=>a6 a e3 λ m=>a6 a b' λ p=>a6 a b' λ r=>OB R K a b c o d l m p r)
def Ox:=b0 a mF λ y=>bY R y a [] λ l=>OC R K a b c o d l
theorem UC:bq 76 [(5,0)] 0 R (q8 a b c o d i k b3) K j=Ox R K a b c o d j:=by kernel_rfl
def OE:=cL a b' y (b9 [(.str pk),d,o,b] λ l=>K (.ret l) (q8 a b c o d i k b3))
def OD:=a6 a b' λ y=>eR .Add y (.int 1) λ l=>OE K k b3 a b c o d i l
theorem UD:bq 76 [] 6 R (q8 a b c o d i k b3) K j=OD K k b3 a b c o d i j:=by kernel_rfl
def O3:=eF (λ y=>ek i λ l=>cw .Or l y (b0 a mF λ m=>bY R m a [] λ p=>aE .NotEq p (.str [93]) λ r=>cw .Or r y (y false))) bA
theorem KZ:hE 76 [] 5 R (q8 a b c o d i k b3) bA j=O3 R bA a i j:=by kernel_rfl
noncomputable def q9(a b c:Option E):Loc:=[(e3,a),(tD,b),(b',c)]
def RZ:=ko (hE 81 [] 2 R) (bq 81 [(2,0)] 0 R) (q9 a (some (.int 0)) (some (.int 0))) (fc (bq 81 [] 3 R) (eX A))
theorem aeT:call (n+1) 81 [a] A j=RZ (call n) A a j:=by kernel_rfl
def OG:=aE .Eq c (.str [40]) λ o=>cw .And o F (bw .Add b (.int 1) λ d=>bw .Add b (.int 4) λ i=>eN a (some d) (some i) λ y=>R 83 [y] λ l=>ek l λ m=>cw .And m F (F true))
def OH:=aE .Eq o (.str [91]) λ d=>aW d (R 82 [a,c] λ i=>dc b i) (eF (λ y=>item a c λ l=>OG R y a c l) λ m=>aW m (eR .Add b (.int 1) λ p=>dc p c) (dc b c))
def OF:=(λ(o:E->E->U->Prop)=>item a c λ d=>aE .Eq d (.str [92]) λ i=>aW i (eR .Add c (.int 1) λ y=>o b y) (item a c λ l=>OH R o a b c l)) (λ(m:E)(p:E)=>eR .Add p (.int 1) λ r=>K .next (q9 a m r))
theorem UE:bq 81 [(2,0)] 0 R (q9 a b c) K j=OF R K a b c j:=by kernel_rfl
def OI:=K (.ret b) (q9 a b c)
theorem UG:bq 81 [] 3 R (q9 a b c) K j=OI K a b c j:=by kernel_rfl
def O4:=cJ cp R (.bi .len) [a] λ o=>aE .Lt c o bA
theorem ads:hE 81 [] 2 R (q9 a b c) bA j=O4 R bA a c j:=by kernel_rfl
noncomputable def sh(a b:Option E):Loc:=[(e3,a),(b',b)]
def R1:=(λ(c:E->U->Prop)=>bw .Add b (.int 1) λ o=>eN a (some b) (some o) λ d=>aE .Eq d (.str [93]) λ i=>aW i (eR .Add b (.int 1) c) (c b)) (λ(y:E)=>ko (hE 82 [] 3 R) (bq 82 [(3,0)] 0 R) (sh a y) (fc (bq 82 [] 4 R) (eX A)))
def R2:=(λ(c:E->U->Prop)=>bw .Add b (.int 1) λ o=>eN a (some b) (some o) λ d=>aE .Eq d (.str [94]) λ i=>aW i (eR .Add b (.int 1) c) (c b)) (λ(y:E)=>R1 R A a y)
def R0:=eR .Add b (.int 1) λ c=>R2 R A a c
theorem aeU:call (n+1) 82 [a,b] A j=R0 (call n) A a b j:=by kernel_rfl
def OJ:=d0 (λ c=>item a b λ o=>aE .Eq o (.str [92]) λ d=>aW d (c (.int 2)) (c (.int 1))) λ i=>eR .Add b i λ y=>K .next (sh a y)
theorem UH:bq 82 [(3,0)] 0 R (sh a b) K j=OJ K a b j:=by kernel_rfl
def OK:=K (.ret b) (sh a b)
theorem Ge:bq 82 [] 4 R (sh a b) K j=OK K a b j:=by kernel_rfl
def O5:=eF (λ c=>cJ cp R (.bi .len) [a] λ o=>aE .Lt b o λ d=>cw .And d c (item a b λ i=>aE .NotEq i (.str [93]) λ y=>cw .And y c (c true))) bA
theorem adt:hE 82 [] 3 R (sh a b) bA j=O5 R bA a b j:=by kernel_rfl
def R4:=eN a (some (.int 2)) (some (.int 3)) λ b=>aE .NotEq b (.str [61]) λ c=>f_ .And (.bool c) f (eN a (some (.int 2)) (some (.int 3)) λ o=>aE .NotEq o (.str [33]) λ d=>f (.bool d))
def R5:=aE .Eq b (.str [63,80,60]) λ c=>f_ .Or (.bool c) f (d0 (λ o=>eN a none (some (.int 2)) λ d=>aE .Eq d (.str [63,60]) λ i=>f_ .And (.bool i) o (R4 o a)) f)
def R6:=aE .NotEq b (.str [63]) λ c=>aW c (A (.bool true)) (d0 (λ o=>eN a none (some (.int 2)) λ d=>aE .Eq d (.str [63,39]) λ i=>f_ .Or (.bool i) o (eN a none (some (.int 3)) λ y=>R5 o a y)) A)
def R3:=eN a none (some (.int 1)) λ b=>R6 A a b
theorem aeV:call (n+1) 83 [a] A j=R3 A a j:=by kernel_rfl
def R8:=f_ .And (.bool s) f (ib a (λ b c=>R 7 [b] λ o=>ek o λ d=>aW (!d) (c true) (c false)) (λ b i=>i b) λ y=>dI [] λ l=>aE .Eq y l λ m=>f (.bool m))
def R7:=d0 (λ b=>aE .NotEq a (.str []) λ c=>f_ .And (.bool c) b (item a (.int 0) λ o=>aE .NotIn o yE λ d=>R8 R b d a)) A
theorem aeW:call (n+1) 84 [a] A j=R7 (call n) A a j:=by kernel_rfl
def R_:=aE .GtE c (.int 0) λ o=>aW o (bw .Add b (.int 1) λ d=>eN a (some d) (some c) λ i=>b0 i xC λ y=>bY R y i [(.str [44])] f) (dI [] f)
def R':=aE .Lt b (.int 1) λ c=>cw .Or c F (cJ cp R (.bi .len) [a] λ o=>aE .Gt o (.int 2) λ d=>cw .Or d F (item a (.int 0) λ i=>aE .Eq i (.str []) λ y=>cw .Or y F (F false)))
def Sa:=aE .Eq o (.int 1) λ d=>aW d (bw .Add a (.int 1) λ i=>b9 [c,c,i] A) (d0 (λ y=>item b (.int 1) λ l=>aE .Eq l (.str []) λ m=>aW m (y (.int (-1))) (item b (.int 1) λ p=>R 66 [p,(.int 10)] y)) λ r=>bw .Add a (.int 1) λ t=>b9 [c,r,t] A)
def Sb:=ib c (λ o d=>aE .NotIn o yE λ i=>aW i (d true) (d false)) (λ o y=>y o) λ l=>dI [] λ m=>aE .NotEq l m λ p=>aW p (A E.none) (item b (.int 0) λ r=>R 66 [r,(.int 10)] λ t=>cJ cp R (.bi .len) [b] λ u=>Sa R A a b t u)
def Sd:=eF (λ c=>cJ cp R (.bi .len) [b] λ o=>R' R c b o) λ d=>aW d (A E.none) (b0 (.str []) r1 λ i=>bY R i (.str []) [b] λ y=>Sb R A a b y)
def R9:=b0 a vv λ c=>bY R c a [(.str [125]),b] λ o=>d0 (λ d=>R_ R d a b o) λ i=>Sd R A o i
theorem aeX:call (n+1) 85 [a,b] A j=R9 (call n) A a b j:=by kernel_rfl
noncomputable def vP(a b c o d i:Option E):Loc:=[(qU,a),((Str.ofString "sign"),b),(tD,c),(xF,o),(oj,d),((Str.ofString "behind"),i)]
def Sf:=eF (λ c=>aE .NotEq b (.str []) λ o=>cw .And o c (aE .In b v9 λ d=>cw .And d c (c true))) λ i=>aW i (a6 a b' λ y=>eR .Add y (.int 1) λ l=>cL a b' l (item v9 b A)) (d0 (λ m=>aE .Eq b (.str [123]) λ p=>aW p (a6 a e3 λ r=>a6 a b' λ t=>R 85 [r,t] m) (m E.none)) λ u=>aE .Is u E.none λ v=>aW v (A E.none) (d6 86 [] 4 R u (vP a b u none none none) λ ak=>bq 86 [] 5 R ak (eX A)))
def Se:=b0 a mF λ b=>bY R b a [] λ c=>Sf R A a c
theorem Ap:call (n+1) 86 [a] A j=Se (call n) A a j:=by kernel_rfl
def OM:=aE .Gt y (.int 32766) λ l=>aW l (λ z=>False) (eF (λ m=>aE .LtE (.int 0) d λ p=>aW p (aE .Lt d o m) (m false)) λ r=>aW r (λ z=>False) (cL a b' i (b9 [o,d] λ t=>K (.ret t) (vP a b c o d i))))
def OL:=cJ cp R (.bi .max) [o,d] λ y=>OM K a b c o d i y
theorem UI:bq 86 [] 5 R (vP a b c o d i) K j=OL R K a b c o d i j:=by kernel_rfl
def Sg:=a6 a xH λ o=>b0 o jx λ d=>b9 [b,c] λ i=>bY R d o [i] λ y=>A b
theorem aeY:call (n+1) 87 [a,b,c] A j=Sg (call n) A a b c j:=by kernel_rfl
noncomputable def q_(a b c o d:Option E):Loc:=[(qU,a),(b',b),((Str.ofString "opening"),c),((Str.ofString "close"),o),((Str.ofString "name"),d)]
def Si:=b9 [(.str [60]),(.str [62])] λ o=>b9 [(.str [39]),(.str [39])] λ d=>dI [c,o,d] λ i=>forM i (d6 88 [] 0 R) (bq 88 [(0,0)] 0 R) (q_ a b none none none) (fc (bq 88 [] 1 R) (eX A))
def Sh:=b9 [(.str [123]),(.str [125])] λ c=>Si R A a b c
theorem aeZ:call (n+1) 88 [a,b] A j=Sh (call n) A a b j:=by kernel_rfl
def OO:=b0 i vw λ y=>dI [] λ l=>bY R y i [d,l] λ m=>R 87 [a,m,b] λ p=>K (.ret p) (q_ a b c o d)
def OP:=ek d λ i=>aW i (R 67 [a,o] λ y=>R 84 [y] λ l=>ek l λ m=>aW (!m) (λ z=>False) (a6 a oo λ p=>OO R K a b c o y p)) (K .next (q_ a b c o k))
def ON:=b0 a hC λ d=>bY R d a [c] λ i=>OP R K k a b c o i
theorem Gf:bq 88 [(0,0)] 0 R (q_ a b c o k) K j=ON R K k a b c o j:=by kernel_rfl
def Sk:=eF (λ c=>ek b λ o=>cw .And o c (b0 a hC λ d=>bY R d a [(.str [125])] λ i=>ek i λ y=>cw .And (!y) c (c true))) λ l=>cw .Or l F (F false)
def Sl:=d0 (λ d=>ek c λ i=>aW i (a6 a g7 λ y=>bw .Add y (.int 1) λ l=>bw .Sub l o d) (d o)) λ m=>dI [m] λ p=>R 87 [a,p,b] A
def Sm:=eF (λ y=>aE .Eq i (.str []) λ l=>cw .Or l y (Sk R y a o)) λ m=>aW m (cL a b' c (R 88 [a,b] A)) (R 66 [i,(.int 10)] λ p=>Sl R A a b d p)
def Sn:=bY R bh a [(.str [123])] λ o=>b0 a hC λ d=>bY R d a [(.str [45])] λ i=>R 65 [a,yE,(.int (-1))] λ y=>Sm R A a b c o i y
def Sj:=a6 a b' λ c=>b0 a hC λ o=>Sn R A o a b c
theorem ae0:call (n+1) 89 [a,b] A j=Sj (call n) A a b j:=by kernel_rfl
def Sp:=eF (λ c=>aE .GtE b (.int 0) λ o=>cw .And o c (item a (.int 2) λ d=>item a (.int 3) λ i=>aE .Eq d i λ y=>cw .And y c (c true))) λ l=>aW l (item a (.int 2) λ m=>bw .Mult b m f) (f (.int (-1)))
def Sq:=ib a (λ b c=>item a (.int 0) λ o=>aE .NotEq b o λ d=>aW d (c true) (c false)) (λ b i=>i b) λ y=>dI [] λ l=>aE .Eq y l λ m=>aW m (item a (.int 0) f) (f (.int (-1)))
def Sr:=ib b (λ c o=>o true) (λ c d=>R 90 [c] d) λ i=>aE .Eq a (.str [115,101,113]) λ y=>aW y (d0 (λ l=>aE .In (.int (-1)) i λ m=>aW m (l (.int (-1))) (cJ cp R (.bi .sum) [i] l)) A) (d0 (λ p=>Sq p i) A)
def Ss:=aE .In b c λ o=>aW o (A (.int 0)) (aE .Eq b (.str oc) λ d=>aW d (A (.int (-1))) (aE .Eq b (.str qC) λ i=>aW i (item a (.int 1) λ y=>R 90 [y] λ l=>d0 (λ m=>Sp m a l) A) (eF (λ p=>aE .Eq b (.str jW) λ r=>cw .Or r p (aE .Eq b (.str pj) λ t=>cw .Or t p (p false))) λ u=>aW u (cJ cp R (.bi .len) [a] λ v=>bw .Sub v (.int 1) λ w=>item a w λ x=>R 90 [x] A) (item a (.int 1) λ H=>Sr R A b H))))
def Su:=b9 [(.str tl),(.str [97,110,121]),(.str pk)] λ c=>aE .In b c λ o=>aW o (A (.int 1)) (b9 [(.str [97,116]),(.str qE)] λ d=>Ss R A a b d)
def So:=item a (.int 0) λ b=>Su R A a b
theorem EH:call (n+1) 90 [a] A j=So (call n) A a j:=by kernel_rfl
def Sw:=d0 (λ c=>aE .Lt b (.int 0) λ o=>aW o (a6 a e3 λ d=>cJ cp R (.bi .len) [d] c) (bw .Add b (.int 1) c)) λ i=>cL a b' i (A (.bool true))
def Sx:=aE .Eq b (.str [35]) λ c=>aW c (a6 a e3 λ o=>b0 o vv λ d=>a6 a b' λ i=>bY R d o [(.str [10]),i] λ y=>Sw R A a y) (R 65 [a,(.str [32,9,10,13,12,11]),(.int (-1))] λ l=>aE .NotEq l (.str []) λ m=>A (.bool m))
def Sy:=ek c λ o=>aW o (R 67 [a,(.str [41])] λ d=>A (.bool true)) (aE .NotIn (.str [120]) b λ i=>aW i (A (.bool false)) (b0 a mF λ y=>bY R y a [] λ l=>Sx R A a l))
def Sv:=b0 a hC λ c=>bY R c a [(.str [40,63,35])] λ o=>Sy R A a b o
theorem ae1:call (n+1) 96 [a,b] A j=Sv (call n) A a b j:=by kernel_rfl
def Sz:=eF (λ d=>aE .In o a λ i=>cw .Or i d (aE .In o b λ y=>cw .Or y d (d false))) λ l=>cw .And l F (aE .NotIn o c λ m=>cw .And m F (F true))
def Fj:=ib v_ (λ o d=>eF (λ i=>Sz i a b c o) λ y=>aW y (d true) (d false)) (λ o l=>l o) λ m=>bY R bh (.str []) [m] A
def Fl:=d0 (λ o=>b0 a hC λ d=>bY R d a [(.str [45])] λ i=>ek i λ y=>aW y (R 65 [a,v_,(.int (-1))] o) (o (.str []))) λ l=>b0 (.str []) r1 λ m=>Fj R A m b c l
def Fi:=R 65 [a,v_,(.int (-1))] λ c=>Fl R A a b c
theorem ae2:call (n+1) 97 [a,b] A j=Fi (call n) A a b j:=by kernel_rfl
def SD:=bw .Add b (.int 2) λ o=>aE .Gt c o λ d=>cw .And d F (b0 a hC λ i=>bY R i a [(.str [41])] λ y=>ek y λ l=>cw .And l F (F true))
def SE:=ek o λ d=>aW (!d) (A E.none) (R 97 [a,b] λ i=>eF (λ y=>a6 a b' λ l=>SD R y a c l) λ m=>aW m (A i) (cL a b' c (A E.none)))
def SA:=a6 a b' λ c=>b0 a hC λ o=>bY R o a [(.str [40,63])] λ d=>SE R A a b c d
theorem ae3:call (n+1) 98 [a,b] A j=SA (call n) A a b j:=by kernel_rfl
noncomputable def mN(a b c o:Option E):Loc:=[(qU,a),(tE,b),((Str.ofString "branches"),c),(om,o)]
def SF:=dI [] λ c=>ko (hE 99 [] 1 R) (bq 99 [(1,0)] 0 R) (mN a b c none) (fc (bq 99 [] 2 R) (eX A))
theorem Lk:call (n+1) 99 [a,b] A j=SF (call n) A a b j:=by kernel_rfl
def OQ:=R 100 [a,b] λ o=>d6 99 [(1,0)] 0 R o (mN a b c k) λ ak=>bq 99 [(1,0)] 1 R ak K
theorem A':bq 99 [(1,0)] 0 R (mN a b c k) K j=OQ R K k a b c j:=by kernel_rfl
def O6:=bA true
theorem EB:hE 99 [] 1 R (mN a b c k) bA j=O6 bA j:=by kernel_rfl
def OS:=ek d λ i=>aW (!i) (d0 (λ y=>cJ cp R (.bi .len) [c] λ l=>aE .Eq l (.int 1) λ m=>aW m (item c (.int 0) y) (b9 [(.str [97,108,116]),c] y)) λ p=>K (.ret p) (mN a b c o)) (K .next (mN a b c o))
def OR:=b0 c jx λ d=>bY R d c [o] λ i=>b0 a hC λ y=>bY R y a [(.str [124])] λ l=>OS R K a b c o l
theorem Ba:bq 99 [(1,0)] 1 R (mN a b c o) K j=OR R K a b c o j:=by kernel_rfl
noncomputable def pO(a b c o:Option E):Loc:=[(qU,a),(tE,b),((Str.ofString "parts"),c),((Str.ofString "changed"),o)]
def O8:=dI [] λ c=>ko (hE 100 [] 1 R) (bq 100 [(1,0)] 0 R) (pO a b c none) (fc (bq 100 [] 2 R) (eX A))
theorem adP:call (n+1) 100 [a,b] A j=O8 (call n) A a b j:=by kernel_rfl
def L9:=aE .IsNot o E.none λ d=>aW d (K .cont (pO a o c o)) (b0 c jx λ i=>R 101 [a,b] λ y=>R 102 [a,b,y] λ l=>bY R i c [l] λ m=>K .next (pO a b c o))
def L8:=R 96 [a,b] λ o=>ek o λ d=>aW d (K .cont (pO a b c k)) (R 98 [a,b] λ i=>L9 R K a b c i)
theorem TO:bq 100 [(1,0)] 0 R (pO a b c k) K j=L8 R K k a b c j:=by kernel_rfl
def L_:=b9 [(.str [115,101,113]),c] λ o=>b9 [o,b] λ d=>K (.ret d) (pO a b c k)
theorem TP:bq 100 [] 2 R (pO a b c k) K j=L_ K k a b c j:=by kernel_rfl
def OT:=b0 a mF λ o=>bY R o a [] λ d=>b9 [(.str []),(.str [124]),(.str [41])] λ i=>aE .NotIn d i bA
theorem KX:hE 100 [] 1 R (pO a b c k) bA j=OT R bA a j:=by kernel_rfl
def O_:=aE .Eq b (.str [123]) λ c=>cw .And c F (a6 a e3 λ o=>a6 a b' λ d=>R 85 [o,d] λ i=>aE .IsNot i E.none λ y=>cw .And y F (F true))
def O':=cL a b' o (aE .Eq c (.str [46]) λ d=>aW d (aE .In (.str [115]) b λ i=>b9 [(.str [97,110,121]),(.bool i)] A) (aE .Eq c (.str [94]) λ y=>aW y (d0 (λ l=>aE .In (.str [109]) b λ m=>aW m (l (.str [94,109])) (l (.str [65]))) λ p=>b9 [(.str [97,116]),p] A) (aE .Eq c (.str [36]) λ r=>aW r (d0 (λ t=>aE .In (.str [109]) b λ u=>aW u (t (.str [36,109])) (t (.str [90]))) λ v=>b9 [(.str [97,116]),v] A) (aE .In (.str [105]) b λ w=>b9 [(.str tl),c,(.bool w)] A))))
def Pa:=aE .Eq c (.str [40]) λ o=>aW o (R 106 [a,b] A) (aE .Eq c (.str [91]) λ d=>aW d (aE .In (.str [105]) b λ i=>R 76 [a,(.bool i)] A) (aE .Eq c (.str [92]) λ y=>aW y (R 107 [a,b] A) (eF (λ l=>aE .In c v9 λ m=>cw .Or m l (eF (λ p=>O_ R p a c) λ r=>cw .Or r l (l false))) λ t=>aW t (λ z=>False) (a6 a b' λ u=>eR .Add u (.int 1) λ v=>O' A a b c v))))
def O9:=b0 a mF λ c=>bY R c a [] λ o=>Pa R A a b o
theorem Ao:call (n+1) 101 [a,b] A j=O9 (call n) A a b j:=by kernel_rfl
noncomputable def nA(a b c o d i:Option E):Loc:=[(qU,a),(tE,b),(om,c),((Str.ofString "count"),o),((Str.ofString "mode"),d),(Ag,i)]
def Pb:=ko (hE 102 [] 0 R) (bq 102 [(0,0)] 0 R) (nA a b c none none none) (fc (bq 102 [] 1 R) (eX A))
theorem Lc:call (n+1) 102 [a,b,c] A j=Pb (call n) A a b c j:=by kernel_rfl
def Ma:=ek b λ c=>aW c (f (.str [108,97,122,121])) (b0 a hC λ o=>bY R o a [(.str [43])] λ d=>ek d λ i=>aW i (f (.str [111,119,110])) (f (.str DO)))
def Mb:=aE .Is o E.none λ d=>aW d (K (.ret c) (nA a b c o none none)) ((λ(i:E->U->Prop)=>b0 a hC λ y=>bY R y a [(.str [63])] λ l=>Ma R i a l) (λ(m:E)=>ko (hE 102 [] 5 R) (bq 102 [(5,0)] 0 R) (nA a b c o m none) (fc (bq 102 [] 6 R) K)))
def L':=R 86 [a] λ o=>Mb R K a b c o
theorem F4:bq 102 [] 1 R (nA a b c none none none) K j=L' R K a b c j:=by kernel_rfl
def OU:=R 96 [a,b] λ o=>ek o bA
theorem KY:hE 102 [] 0 R (nA a b c none none none) bA j=OU R bA a b j:=by kernel_rfl
def Md:=aE .IsNot y E.none λ l=>aW l (λ z=>False) (item o (.int 0) λ m=>item o (.int 1) λ p=>b9 [(.str qC),c,m,p,d] λ r=>K (.ret r) (nA a b c o d i))
def Mc:=a6 a b' λ i=>R 86 [a] λ y=>Md K a b c o d i y
theorem TQ:bq 102 [] 6 R (nA a b c o d none) K j=Mc R K a b c o d j:=by kernel_rfl
def OV:=R 96 [a,b] λ i=>ek i bA
theorem adl:hE 102 [] 5 R (nA a b c o d none) bA j=OV R bA a b j:=by kernel_rfl
def Pd:=a6 a oq λ c=>eR .Sub c (.int 1) λ o=>cL a oq o (b0 a hC λ d=>bY R d a [(.str [41])] λ i=>ek i λ y=>aW (!y) (λ z=>False) (A b))
def Pe:=aE .Eq c (.int 40) λ o=>aW o (λ z=>False) (a6 a oq λ d=>eR .Add d (.int 1) λ i=>cL a oq i (R 99 [a,b] λ y=>Pd R A a y))
def Pc:=a6 a oq λ o=>Pe R A a b o
theorem adQ:call (n+1) 103 [a,b,c] A j=Pc (call n) A a b j:=by kernel_rfl
def Pg:=aE .NotEq b (.str []) λ o=>aW o (a6 a oo λ d=>b0 d vw λ i=>dI [] λ y=>bY R i d [b,y] λ l=>b0 l jx λ m=>bY R m l [c] λ p=>hk) hk
def Ph:=cL a g7 d (a6 a g7 λ i=>(λ(y:U->Prop)=>Pg R y a o i) (R 103 [a,b,c] λ l=>b9 [(.str jW),i,l] A))
def Pf:=a6 a g7 λ d=>eR .Add d (.int 1) λ i=>Ph R A a b c o i
theorem adR:call (n+1) 104 [a,b,c,o] A j=Pf (call n) A a b c o j:=by kernel_rfl
def Pk:=d0 (λ o=>ek a λ d=>aW d (R 90 [c] o) (o (.int 0))) λ i=>aE .Lt i (.int 0) λ y=>aW y (λ z=>False) (b9 [(.str qE),c,a,b,i] A)
def Pj:=R 103 [a,b,c] λ i=>Pk R A o d i
theorem adS:call (n+1) 105 [a,b,c,o,d] A j=Pj (call n) A a b c o d j:=by kernel_rfl
noncomputable def h9(a b c o d i y l m:Option E):Loc:=[(qU,a),(tE,b),(Ag,c),((Str.ofString "opening"),o),((Str.ofString "is_behind"),d),(EA,i),((Str.ofString "close"),y),((Str.ofString "name"),l),((Str.ofString "changed"),m)]
def Pl:=a6 a b' λ c=>forM Gs (d6 106 [] 1 R) (bq 106 [(1,0)] 0 R) (h9 a b c none none none none none none) (fc (bq 106 [] 2 R) (eX A))
theorem Ld:call (n+1) 106 [a,b] A j=Pl (call n) A a b j:=by kernel_rfl
def Mf:=ek y λ l=>aW l (R 105 [a,b,c,d,i] λ m=>K (.ret m) (h9 a b c o d i none none none)) (K .next (h9 a b c o d i none none none))
def Me:=b0 a hC λ y=>bY R y a [o] λ l=>Mf R K a b c o d i l
theorem A7:bq 106 [(1,0)] 0 R (h9 a b c o d i none none none) K j=Me R K a b c o d i j:=by kernel_rfl
def Mh:=ek o λ d=>aW d (R 103 [a,b,c] λ i=>b9 [(.str pj),i] λ y=>K (.ret y) (h9 a b c k b3 cX none none none)) (forM Gw (d6 106 [] 3 R) (bq 106 [(3,0)] 0 R) (h9 a b c k b3 cX none none none) (fc (bq 106 [] 4 R) K))
def Mg:=b0 a hC λ o=>bY R o a [(.str [40,63,62])] λ d=>Mh R K k b3 cX a b c d
theorem A8:bq 106 [] 2 R (h9 a b c k b3 cX none none none) K j=Mg R K k b3 cX a b c j:=by kernel_rfl
def Mj:=ek y λ l=>aW (!l) (λ z=>False) (R 104 [a,b,c,i] λ m=>K (.ret m) (h9 a b c o k b3 d i none))
def Mk:=ek i λ y=>aW y (R 67 [a,d] λ l=>R 84 [l] λ m=>Mj R K k b3 a b c o d l m) (K .next (h9 a b c o k b3 d cX none))
def Mi:=b0 a hC λ i=>bY R i a [o] λ y=>Mk R K k b3 cX a b c o d y
theorem F5:bq 106 [(3,0)] 0 R (h9 a b c o k b3 d cX none) K j=Mi R K k b3 cX a b c o d j:=by kernel_rfl
def Mm:=eR .Add o (.int 1) λ d=>cL a b' d (R 104 [a,b,c,(.str [])] λ i=>K (.ret i) (h9 a b c k b3 cX fx kP none))
def Mn:=bY R bh a [(.str [58])] λ d=>ek d λ i=>aW (!i) (λ z=>False) (R 103 [a,o,c] λ y=>K (.ret y) (h9 a b c k b3 cX fx kP o))
def Mo:=ek o λ d=>aW (!d) (a6 a b' λ i=>Mm R K k b3 cX fx kP a b c i) (R 97 [a,b] λ y=>b0 a hC λ l=>Mn R K l k b3 cX fx kP a b c y)
def Ml:=b0 a hC λ o=>bY R o a [(.str [40,63])] λ d=>Mo R K k b3 cX fx kP a b c d
theorem F6:bq 106 [] 4 R (h9 a b c k b3 cX fx kP none) K j=Ml R K k b3 cX fx kP a b c j:=by kernel_rfl
def Pn:=eR .Add c (.int 1) λ o=>cL a b' o (b9 [(.str zT),b] λ d=>dI [d] λ i=>b9 [(.str pk),i,(.bool false),(.bool false)] A)
def Po:=eF (λ d=>aE .Lt o (.int 10) λ i=>cw .Or i d (a6 a (Str.ofString "total") λ y=>aE .LtE o y λ l=>cw .Or l d (d false))) λ m=>aW m (dI [o] λ p=>R 87 [a,p,b] λ r=>b9 [(.str oc),r,(.bool s)] A) (cL a b' c (hj (some c) (some o)))
def Pp:=eF (λ o=>aE .NotEq c (.str []) λ d=>cw .And d o (aE .In c (.str [49,50,51,52,53,54,55,56,57]) λ i=>cw .And i o (o true))) λ y=>aW y (a6 a b' λ l=>R 65 [a,yE,(.int (-1))] λ m=>R 66 [m,(.int 10)] λ p=>Po R A s hj a b l p) (hj none none)
def Pq:=eF (λ c=>aE .NotEq b (.str []) λ o=>cw .And o c (aE .In b (.str [112,80,75,82,88]) λ d=>cw .And d c (c true))) λ i=>aW i (λ z=>False) (R 70 [a] λ y=>b9 [(.str tl),y,(.bool s)] A)
def Pr:=ek o λ d=>aW d (R 88 [a,b] λ i=>b9 [(.str oc),i,(.bool s)] A) ((λ(y:Option E->Option E->U->Prop)=>Pp R A s y a b c) (λ(l:Option E)(m:Option E)=>Pq R A s a c))
def Pt:=ek o λ d=>aW d (R 89 [a,b] λ i=>b9 [(.str oc),i,(.bool s)] A) (b0 a hC λ y=>bY R y a [(.str [107])] λ l=>Pr R A s a b c l)
def Pu:=eF (λ o=>aE .NotEq c (.str []) λ d=>cw .And d o (bw .Add Gp (.str [78]) λ i=>aE .In c i λ y=>cw .And y o (o true))) λ l=>aW l (a6 a b' λ m=>Pn A a c m) (eF (λ p=>aE .NotEq c (.str []) λ r=>cw .And r p (aE .In c (.str [65,122,90,98,66,71]) λ t=>cw .And t p (p true))) λ u=>aW u (a6 a b' λ v=>eR .Add v (.int 1) λ w=>cL a b' w (b9 [(.str [97,116]),c] A)) (b0 a hC λ x=>bY R x a [(.str [103])] λ H=>Pt R A s a b c H))
def Pw:=a6 a b' λ c=>eR .Add c (.int 1) λ o=>cL a b' o (b0 a mF λ d=>bY R d a [] λ i=>Pu R A s a b i)
def Pm:=a6 a b' λ c=>aE .In (.str [105]) b λ o=>Pw R A o a c
theorem Le:call (n+1) 107 [a,b] A j=Pm (call n) A a b j:=by kernel_rfl
noncomputable def q4(a b c o d i:Option E):Loc:=[(e3,a),(tE,b),(qU,c),(om,o),((Str.ofString "numbers"),d),(b',i)]
def Py:=aE .Lt d i λ y=>aW y (λ z=>False) (a6 c xH λ l=>forM l (d6 108 [] 3 R) (bq 108 [(3,0)] 0 R) (q4 a b c o none none) (fc (bq 108 [] 4 R) (eX A)))
def Fh:=ib v_ (λ o d=>aE .In o b λ i=>aW i (d true) (d false)) (λ o y=>y o) λ l=>bY R bh (.str []) [l] λ m=>R 99 [c,m] λ p=>a6 c b' λ r=>cJ cp R (.bi .len) [a] λ t=>Py R A a b c p r t
def Px:=R 81 [a] λ c=>cJ cp R (.cls 64) [a,c] λ o=>b0 (.str []) r1 λ d=>Fh R A d a b o
theorem adT:call (n+1) 108 [a,b] A j=Px (call n) A a b j:=by kernel_rfl
def Mq:=cJ cp R (.bi .min) [b] λ c=>aE .Lt c (.int 1) λ o=>cw .Or o F (cJ cp R (.bi .max) [b] λ d=>a6 a g7 λ i=>aE .Gt d i λ y=>cw .Or y F (F false))
def Mp:=eF (λ y=>dI [] λ l=>aE .Eq d l λ m=>cw .Or m y (Mq R y c d)) λ p=>aW p (λ z=>False) (K .next (q4 a b c o d i))
theorem TR:bq 108 [(3,0)] 0 R (q4 a b c o d i) K j=Mp R K a b c o d i j:=by kernel_rfl
def Mr:=a6 c g7 λ d=>a6 c oo λ i=>b9 [o,d,i] λ y=>K (.ret y) (q4 a b c o k b3)
theorem TS:bq 108 [] 4 R (q4 a b c o k b3) K j=Mr K k b3 a b c o j:=by kernel_rfl
noncomputable def vO(a b c o d:Option E):Loc:=[(e3,a),(tE,b),(om,c),(g7,o),(oo,d)]
def Pz:=R 108 [a,b] λ c=>d6 110 [] 0 R c (vO a b none none none) λ ak=>bq 110 [] 1 R ak (eX A)
theorem adU:call (n+1) 110 [a,b] A j=Pz (call n) A a b j:=by kernel_rfl
def Ms:=R 57 [c,o,d] λ i=>K (.ret i) (vO a b c o d)
theorem TV:bq 110 [] 1 R (vO a b c o d) K j=Ms R K a b c o d j:=by kernel_rfl
def PB:=b9 [(.str [91,97,98,93]),(.str [97,98]),(.bool false)] λ o=>b9 [(.str [92,119]),(.str [97,98,65,49]),(.bool false)] λ d=>b9 [(.str [91,94,97,93]),(.str [97]),(.bool true)] λ i=>dI [a,b,c,o,d,i] A
def PA:=b9 [(.str [97]),(.str [97]),(.bool false)] λ a=>b9 [(.str [98]),(.str [98]),(.bool false)] λ b=>b9 [(.str [46]),(.str [10]),(.bool true)] λ c=>PB A a b c
theorem adV:call (n+1) 112 [] A j=PA A j:=by kernel_rfl
def PD:=b9 [(.int 1),(.int 2),(.str [123,49,44,50,125])] λ o=>b9 [(.int 2),(.int 2),(.str [123,50,125])] λ d=>b9 [(.int 0),(.int 2),(.str [123,48,44,50,125])] λ i=>dI [a,b,c,o,d,i] A
def PC:=b9 [(.int 0),(.int (-1)),(.str [42])] λ a=>b9 [(.int 1),(.int (-1)),(.str [43])] λ b=>b9 [(.int 0),(.int 1),(.str [63])] λ c=>PD A a b c
theorem adW:call (n+1) 113 [] A j=PC A j:=by kernel_rfl
def PF:=aE .Lt c o λ d=>aW d (item a (.int 0) λ i=>item i c λ y=>bw .Mod y b A) (item a (.int 2) λ l=>bw .Mult (.int 7) c λ m=>bw .Add l m λ p=>bw .Mult c c λ r=>bw .FloorDiv r (.int 3) λ t=>bw .Add p t λ u=>bw .Mod u b A)
def PE:=item a (.int 1) λ c=>bw .Add c (.int 1) λ o=>gM a (.int 1) o (item a (.int 0) λ d=>cJ cp R (.bi .len) [d] λ i=>PF A a b c i)
theorem adX:call (n+1) 114 [a,b] A j=PE (call n) A a b j:=by kernel_rfl
def PH:=ib b (λ c o=>o true) (λ c d=>R 112 [] λ i=>R 114 [a,(.int 6)] λ y=>item i y λ l=>b9 [(.str rU),l] d) λ m=>b9 [(.str tm),m] A
def PG:=aE .Eq b (.int 0) λ c=>aW c (dI [(.str [92,98]),(.str [94])] λ o=>R 114 [a,(.int 2)] λ d=>item o d λ i=>b9 [(.str rT),i] A) (cJ cp R (.typ .range) [b] λ y=>PH R A a y)
theorem adY:call (n+1) 115 [a,b] A j=PG (call n) A a b j:=by kernel_rfl
noncomputable def AM(a b c o d i y l m:Option E):Loc:=[((Str.ofString "pen"),a),((Str.ofString "deep"),b),((Str.ofString "loops"),c),((Str.ofString "way"),o),(xF,d),(oj,i),((Str.ofString "mark"),y),((Str.ofString "number"),l),(Af,m)]
def PJ:=R 114 [a,(.int 6)] λ i=>item d i λ y=>d6 116 [(2,0)] 1 R y (AM a b c o none none none none none) λ ak=>bq 116 [(2,0)] 2 R ak (fc (bq 116 [] 3 R) (eX A))
def PK:=bw .Sub b (.int 1) λ d=>R 117 [a,d,c] λ i=>R 114 [a,(.int 3)] λ y=>aE .Eq y (.int 2) λ l=>b9 [(.str jW),o,i,(.bool l)] A
def PL:=ib o (λ d i=>i true) (λ d y=>bw .Sub b (.int 1) λ l=>R 117 [a,l,c] y) λ m=>b9 [(.str DP),m] A
def PM:=eF (λ d=>aE .Lt o (.int 2) λ i=>cw .Or i d (aE .Eq b (.int 0) λ y=>cw .Or y d (d false))) λ l=>aW l (R 112 [] λ m=>R 114 [a,(.int 6)] λ p=>item m p λ r=>b9 [(.str rU),r] A) (eF (λ t=>aE .Lt o (.int 5) λ u=>cw .And u t (aE .Gt c (.int 0) λ v=>cw .And v t (item a (.int 4) λ w=>aE .Lt w (.int 3) λ x=>cw .And x t (t true)))) λ H=>aW H (item a (.int 4) λ D=>eR .Add D (.int 2) λ aA=>gM a (.int 4) aA (R 113 [] λ ay=>PJ R A a b c o ay)) (aE .Lt o (.int 8) λ aR=>aW aR (item a (.int 3) λ Q=>eR .Add Q (.int 1) λ bT=>gM a (.int 3) bT (item a (.int 3) λ c_=>PK R A a b c c_)) (eF (λ kv=>aE .Eq o (.int 8) λ P=>cw .And P kv (item a (.int 3) λ S=>aE .Gt S (.int 0) λ T=>cw .And T kv (kv true))) λ mR=>aW mR (item a (.int 3) λ W=>R 114 [a,W] λ X=>bw .Add (.int 1) X λ ky=>R 114 [a,(.int 2)] λ Z=>b9 [(.str vf),ky,Z] A) (eF (λ e=>aE .Eq o (.int 9) λ g=>cw .And g e (item a (.int 4) λ ac=>aE .Lt ac (.int 4) λ ad=>cw .And ad e (e true))) λ h=>aW h (item a (.int 4) λ j=>eR .Add j (.int 1) λ k=>gM a (.int 4) k (cJ cp R (.typ .range) [(.int 2)] λ n=>PL R A a b c n)) (aE .Eq o (.int 10) λ q=>aW q (bw .Sub b (.int 1) λ s=>R 117 [a,s,c] λ B=>b9 [(.str pj),B] A) (aE .Eq o (.int 11) λ bd=>aW bd (bw .Sub b (.int 1) λ C=>R 117 [a,C,(.int 0)] λ E=>R 114 [a,(.int 2)] λ yA=>aE .Eq yA (.int 1) λ F=>b9 [(.str qE),E,(.int (-1)),(.bool F)] A) (aE .Eq o (.int 12) λ ca=>aW ca (R 114 [a,(.int 3)] λ f=>R 115 [a,f] λ G=>R 114 [a,(.int 2)] λ I=>aE .Eq I (.int 1) λ J=>b9 [(.str qE),G,f,(.bool J)] A) (dI [(.str [94]),(.str [36]),(.str [92,98])] λ K=>R 114 [a,(.int 3)] λ L=>item K L λ M=>b9 [(.str rT),M] A))))))))
def PI:=R 114 [a,(.int 13)] λ o=>PM R A a b c o
theorem Lf:call (n+1) 116 [a,b,c] A j=PI (call n) A a b c j:=by kernel_rfl
def Mu:=item m p λ r=>b9 [(.str DQ),l,d,i,y,r] λ t=>K (.ret t) (AM a b c o d i y none none)
def Mv:=bw .Sub c (.int 1) λ m=>R 116 [a,l,m] λ p=>dI [(.str []),(.str [63]),(.str [43])] λ r=>R 114 [a,(.int 3)] λ t=>Mu K a b c o d i y p r t
def Mt:=bw .Sub b (.int 1) λ l=>Mv R K a b c o d i y l
theorem TX:bq 116 [(2,0)] 2 R (AM a b c o d i y none none) K j=Mt R K a b c o d i y j:=by kernel_rfl
def PN:=R 114 [a,(.int 4)] λ o=>cJ cp R (.typ .range) [o] λ d=>ib d (λ i y=>y true) (λ i l=>R 116 [a,b,c] l) λ m=>b9 [(.str tm),m] A
theorem adZ:call (n+1) 117 [a,b,c] A j=PN (call n) A a b c j:=by kernel_rfl
def PR:=ib b (λ c o=>o true) (λ c d=>R 118 [c,a] d) λ i=>bY R bh (.str [124]) [i] λ y=>bw .Add (.str [40,63,58]) y λ l=>bw .Add l (.str [41]) A
def PY:=ek c λ o=>aW o (item a (.int 1) λ d=>dI [d] λ i=>item a (.int 1) λ y=>cJ cp R (.typ .str) [y] λ l=>bw .Add (.str [110]) l λ m=>gM b m i hk) hk
def PZ:=ek b λ c=>aW c (item a (.int 1) λ o=>cJ cp R (.typ .str) [o] λ d=>bw .Add (.str [40,63,60,110]) d λ i=>bw .Add i (.str [62]) f) (f (.str [40]))
def P0:=aE .Eq c (.int 1) λ o=>cw .And o F (item a (.int 1) λ d=>cJ cp R (.typ .str) [d] λ i=>bw .Add (.str [110]) i λ y=>aE .In y b λ l=>cw .And l F (F true))
def P1:=eF (λ b=>item a (.int 2) λ c=>aE .Eq c (.int 0) λ o=>cw .And o b (item a (.int 1) λ d=>aE .Lt d (.int 10) λ i=>cw .And i b (b true))) λ y=>aW y (item a (.int 1) λ l=>cJ cp R (.typ .str) [l] λ m=>bw .Add (.str [40,63,58,92]) m λ p=>bw .Add p (.str [41]) f) (item a (.int 1) λ r=>cJ cp R (.typ .str) [r] λ t=>bw .Add (.str [92,103,123]) t λ u=>bw .Add u (.str [125]) f)
def P2:=d0 (λ o=>item a (.int 3) λ d=>ek d λ i=>aW i (o (.str [33])) (o (.str [61]))) λ y=>bw .Add c y λ l=>item a (.int 1) λ m=>R 118 [m,b] λ p=>bw .Add l p λ r=>bw .Add r (.str [41]) A
def P4:=b9 [(.str rU),(.str jW)] λ c=>aE .In b c λ o=>aW o (f a) (bw .Add (.str [40,63,58]) a λ d=>bw .Add d (.str [41]) f)
def P5:=d0 (λ c=>item a (.int 1) λ o=>item o (.int 0) λ d=>P4 c b d) λ i=>item a (.int 4) λ y=>bw .Add i y λ l=>item a (.int 5) λ m=>bw .Add l m A
def P6:=aE .Eq c (.str qE) λ o=>aW o (d0 (λ d=>item a (.int 2) λ i=>aE .GtE i (.int 0) λ y=>aW y (d (.str [60])) (d (.str []))) λ l=>bw .Add (.str [40,63]) l λ m=>P2 R A a b m) (item a (.int 1) λ p=>R 118 [p,b] λ r=>P5 A a r)
def PS:=aE .Eq c (.str pj) λ o=>aW o (item a (.int 1) λ d=>R 118 [d,b] λ i=>bw .Add (.str [40,63,62]) i λ y=>bw .Add y (.str [41]) A) (item a (.int 0) λ l=>P6 R A a b l)
def PT:=aE .Eq c (.str vf) λ o=>aW o (eF (λ d=>item a (.int 2) λ i=>P0 R d a b i) λ y=>aW y (item a (.int 1) λ l=>cJ cp R (.typ .str) [l] λ m=>bw .Add (.str [92,107,60,110]) m λ p=>bw .Add p (.str [62]) A) (d0 (λ r=>P1 R r a) A)) (item a (.int 0) λ t=>PS R A a b t)
def PU:=aE .Eq c (.str jW) λ o=>aW o ((λ(d:U->Prop)=>item a (.int 3) λ i=>PY R d a b i) (d0 (λ y=>item a (.int 3) λ l=>PZ R y a l) λ m=>item a (.int 2) λ p=>R 118 [p,b] λ r=>bw .Add m r λ t=>bw .Add t (.str [41]) A)) (item a (.int 0) λ u=>PT R A a b u)
def PV:=aE .Eq c (.str DP) λ o=>aW o (b0 (.str [124]) r1 λ d=>item a (.int 1) λ i=>PR R A d b i) (item a (.int 0) λ y=>PU R A a b y)
def PW:=aE .Eq c (.str tm) λ o=>aW o (b0 (.str []) r1 λ d=>item a (.int 1) λ i=>ib i (λ y l=>l true) (λ y m=>R 118 [y,b] m) λ p=>bY R d (.str []) [p] A) (item a (.int 0) λ r=>PV R A a b r)
def PX:=aE .Eq c (.str rU) λ o=>aW o (item a (.int 1) λ d=>item d (.int 0) A) (item a (.int 0) λ i=>aE .Eq i (.str rT) λ y=>aW y (item a (.int 1) A) (item a (.int 0) λ l=>PW R A a b l))
def PQ:=item a (.int 0) λ c=>PX R A a b c
theorem qW:call (n+1) 118 [a,b] A j=PQ (call n) A a b j:=by kernel_rfl
def P8:=cJ cp R (.typ .range) [b] λ c=>ib c (λ o d=>item a o λ i=>eN a none (some o) λ y=>aE .NotIn i y λ l=>aW l (d true) (d false)) (λ o m=>item a o m) A
def P7:=cJ cp R (.bi .len) [a] λ b=>P8 R A a b
theorem ad1:call (n+1) 119 [a] A j=P7 (call n) A a j:=by kernel_rfl
noncomputable def mj(a b c o d i y l m:Option E):Loc:=[(om,a),(e3,b),((Str.ofString "pair"),c),(Ah,o),((Str.ofString "done"),d),((Str.ofString "last"),i),(b',y),((Str.ofString "more"),l),(tD,m)]
def P_:=eF (λ c=>item a (.int 3) λ o=>aE .Lt o (.int 0) λ d=>cw .Or d c (item a (.int 3) λ i=>aE .Lt b i λ y=>cw .Or y c (c false))) λ l=>cw .And l F (F true)
def P':=forM m (d6 120 [(2,0)] 0 R) (bq 120 [(2,0),(0,0)] 0 R) (mj a b c o d i y l none) (fc (bq 120 [(2,0)] 1 R) (fc (bq 120 [] 3 R) (eX A)))
def Qa:=eF (λ m=>item a (.int 2) λ p=>aE .Lt d p λ r=>cw .Or r m (eF (λ t=>aE .NotEq i y λ u=>cw .And u t (P_ t a d)) λ v=>cw .Or v m (m false))) λ w=>aW w (item a (.int 1) λ x=>R 125 [x,b,c,o] λ H=>P' R A a b c o d i y l H) hk
def Qb:=aE .Lt c d λ i=>aW i (R 119 [o] A) (d0 (λ y=>item a (.int 5) λ l=>aE .Eq l (.str [63]) λ m=>aW m (dI [b] λ p=>bw .Add p o y) (dI [b] λ r=>bw .Add o r y)) λ t=>R 119 [t] A)
def P9:=item c (.int 0) λ y=>dI [] λ l=>(λ(m:U->Prop)=>Qa R A m a b c o d i y l) (item a (.int 2) λ p=>Qb R A a c d l p)
theorem ad2:call (n+1) 120 [a,b,c,o,d,i] A j=P9 (call n) A a b c o d i j:=by kernel_rfl
def Mx:=R 120 [a,b,m,o,p,y] λ r=>eR .Add l r λ t=>K .next (mj a b c o d i y t m)
def Mw:=bw .Add d (.int 1) λ p=>Mx R K a b c o d i y l m p
theorem TY:bq 120 [(2,0),(0,0)] 0 R (mj a b c o d i y l m) K j=Mw R K a b c o d i y l m j:=by kernel_rfl
def My:=K .next (mj a b c o d i y l k)
theorem TZ:bq 120 [(2,0)] 1 R (mj a b c o d i y l k) K j=My K k a b c o d i y l j:=by kernel_rfl
def MA:=aE .Lt d m λ p=>aW p (R 119 [l] λ r=>K (.ret r) (mj a b c o d i y l k)) (d0 (λ t=>item a (.int 5) λ u=>aE .Eq u (.str [63]) λ v=>aW v (dI [c] λ w=>bw .Add w l t) (dI [c] λ x=>bw .Add l x t)) λ H=>R 119 [H] λ D=>K (.ret D) (mj a b c o d i y l k))
def Mz:=item a (.int 2) λ m=>MA R K k a b c o d i y l m
theorem T1:bq 120 [] 3 R (mj a b c o d i y l k) K j=Mz R K k a b c o d i y l j:=by kernel_rfl
def Qd:=f_ .And c f (b0 a Ab λ o=>bY R o a [] λ d=>b0 b Ab λ i=>bY R i b [] λ y=>aE .Eq d y λ l=>f (.bool l))
def Qc:=d0 (λ o=>aE .Eq a b λ d=>f_ .Or (.bool d) o (d0 (λ i=>Qd R i a b c) o)) A
theorem ad3:call (n+1) 121 [a,b,c] A j=Qc (call n) A a b c j:=by kernel_rfl
def Qf:=bw .Add b (.int 1) λ c=>eN a (some b) (some c) λ o=>b9 [(.str [97]),(.str [98]),(.str [65]),(.str [49])] λ d=>aE .In o d λ i=>aE .NotEq (.bool s) (.bool i) λ y=>A (.bool y)
def Qg:=cJ cp R (.bi .max) [c,(.int 0)] λ o=>eN a (some o) (some b) λ d=>b9 [(.str [97]),(.str [98]),(.str [65]),(.str [49])] λ i=>aE .In d i λ y=>Qf A y a b
def Qe:=aE .Eq a (.str [94]) λ o=>aW o (aE .Eq c (.int 0) λ d=>A (.bool d)) (aE .Eq a (.str [36]) λ i=>aW i (eN b (some c) none λ y=>b9 [(.str []),(.str [10])] λ l=>aE .In y l λ m=>A (.bool m)) (bw .Sub c (.int 1) λ p=>Qg R A b c p))
theorem ad4:call (n+1) 122 [a,b,c] A j=Qe (call n) A a b c j:=by kernel_rfl
def Qh:=bw .Sub b (.int 1) λ o=>eN a none (some o) λ d=>b9 [c] λ i=>bw .Add d i λ y=>eN a (some b) none λ l=>bw .Add y l A
theorem ad5:call (n+1) 123 [a,b,c] A j=Qh A a b c j:=by kernel_rfl
noncomputable def ua(a b c o d i y l:Option E):Loc:=[(om,a),(e3,b),((Str.ofString "pair"),c),(Ah,o),(b',d),(g7,i),(Ad,y),(tD,l)]
def Qi:=d6 124 [] 0 R c (ua a b c o none none none none) λ ak=>bq 124 [] 1 R ak (eX A)
theorem ad6:call (n+1) 124 [a,b,c,o] A j=Qi (call n) A a b c o j:=by kernel_rfl
def MC:=aE .GtE d (.int 0) λ i=>aW i (item a (.int 1) λ y=>b9 [d,o] λ l=>R 125 [y,b,l,c] λ m=>eN m none (some (.int 1)) f) (dI [] f)
def MD:=ek m λ p=>aW p (d0 (λ r=>dI [] λ t=>aE .Eq l t λ u=>aW u (dI [c] r) (dI [] r)) λ v=>K (.ret v) (ua a b c o d i y l)) (ib l (λ w x=>x true) (λ w H=>item w (.int 1) λ D=>b9 [d,D] H) λ aA=>K (.ret aA) (ua a b c o d i y l))
def ME:=cJ cp R (.bi .max) [y,(.int 0)] λ l=>bw .Sub d l λ m=>d0 (λ p=>MC R p a b o i m) λ r=>item a (.int 3) λ t=>MD K a b c o d i m r t
def MB:=item a (.int 2) λ y=>ME R K a b c o d i y
theorem T2:bq 124 [] 1 R (ua a b c o d i none none) K j=MB R K a b c o d i j:=by kernel_rfl
noncomputable def gc(a b c o d i y l m p r t:Option E):Loc:=[(om,a),(e3,b),((Str.ofString "pair"),c),(Ah,o),(b',d),(g7,i),(tD,y),((Str.ofString "one"),l),((Str.ofString "span"),m),((Str.ofString "end"),p),((Str.ofString "pairs"),r),((Str.ofString "later"),t)]
def Qj:=d6 125 [] 0 R c (gc a b c o none none none none none none none none) λ ak=>bq 125 [] 1 R ak (eX A)
theorem ad7:call (n+1) 125 [a,b,c,o] A j=Qj (call n) A a b c o j:=by kernel_rfl
def MH:=item c (.int 1) λ o=>aE .In b o λ d=>f_ .And (.bool d) f (item a (.int 1) λ i=>item i (.int 0) λ y=>item y (.int 0) λ l=>aE .NotEq l (.str [92]) λ m=>f (.bool m))
def MS:=d0 (λ d=>f_ .And c d (item b o λ i=>b0 i (Str.ofString "swapcase") λ y=>bY R y i [] λ l=>item a (.int 1) λ m=>MH d a l m)) f
def MT:=item a (.int 1) λ d=>item d (.int 2) λ i=>aE .NotEq o i λ y=>aW y (bw .Add b (.int 1) λ l=>b9 [l,c] λ m=>dI [m] f) (dI [] f)
def MU:=aE .Eq d y λ l=>aW l (dI [] λ m=>K (.ret m) (gc a b c o d i none none none none none none)) (d0 (λ p=>item b d λ r=>item a (.int 1) λ t=>item t (.int 1) λ u=>aE .In r u λ v=>f_ .Or (.bool v) p (MS R p a b o d)) λ w=>d0 (λ x=>MT x a d i w) λ H=>K (.ret H) (gc a b c o d i w none none none none none))
def MV:=d0 (λ l=>item a (.int 5) λ m=>aE .Eq m (.str [43]) λ p=>aW p (l (.int 1)) (bw .Pow (.int 10) (.int 6) l)) λ r=>eN y none (some r) λ t=>K (.ret t) (gc a b c o d i none none none none none none)
def MW:=item c (.int 0) λ o=>item c (.int 1) λ d=>item a (.int 1) λ i=>item c (.int 0) λ y=>b9 [b,y] λ l=>R 123 [d,i,l] λ m=>b9 [o,m] f
def MX:=ib y (λ l m=>m true) (λ l p=>MW R p a d l) λ r=>R 119 [r] λ t=>K (.ret t) (gc a b c o d i none none none none none none)
def MY:=eN a (some c) (some d) λ i=>item o (.int 0) λ y=>item o (.int 1) λ l=>eN a (some y) (some l) λ m=>R 121 [i,m,b] λ p=>ek p λ r=>cw .Or (!r) F (F false)
def MZ:=eF (λ m=>aE .Is y E.none λ p=>cw .Or p m (cJ cp R (.bi .len) [b] λ r=>aE .Gt l r λ t=>cw .Or t m (MY R m b o d y l))) λ u=>aW u (dI [] λ v=>K (.ret v) (gc a b c o d i none none y l none none)) (b9 [l,i] λ w=>dI [w] λ x=>K (.ret x) (gc a b c o d i none none y l none none))
def MI:=d0 (λ l=>aE .Is y E.none λ m=>aW m (l d) (item y (.int 1) λ p=>bw .Add d p λ r=>item y (.int 0) λ t=>bw .Sub r t l)) λ u=>MZ R K a b c o d i y u
def MJ:=R 125 [y,b,c,o] λ l=>eN l none (some (.int 1)) λ m=>K (.ret m) (gc a b c o d i none none none none none none)
def MK:=item a (.int 1) λ l=>forM l (d6 125 [] 9 R) (bq 125 [(9,0)] 0 R) (gc a b c o d i none none none none y none) (fc (bq 125 [] 10 R) K)
def ML:=aE .Eq y (.str qE) λ l=>aW l (R 124 [a,b,c,o] λ m=>K (.ret m) (gc a b c o d i none none none none none none)) (d0 (λ p=>item a (.int 0) λ r=>aE .Eq r (.str tm) λ t=>aW t (dI [c] p) (dI [] p)) λ u=>MK R K a b c o d i u)
def MM:=aE .Eq y (.str pj) λ l=>aW l (item a (.int 1) λ m=>MJ R K a b c o d i m) (item a (.int 0) λ p=>ML R K a b c o d i p)
def MN:=aE .Eq y (.str vf) λ l=>aW l (item a (.int 1) λ m=>bw .Sub m (.int 1) λ p=>item i p λ r=>MI R K a b c o d i r) (item a (.int 0) λ t=>MM R K a b c o d i t)
def MO:=aE .Eq y (.str jW) λ l=>aW l (item a (.int 2) λ m=>R 125 [m,b,c,o] λ p=>MX R K a b c o d i p) (item a (.int 0) λ r=>MN R K a b c o d i r)
def MP:=aE .Eq y (.str DQ) λ l=>aW l (R 120 [a,b,c,o,(.int 0),(.int (-1))] λ m=>MV K a b c o d i m) (item a (.int 0) λ p=>MO R K a b c o d i p)
def MQ:=aE .Eq y (.str rT) λ l=>aW l (d0 (λ m=>item a (.int 1) λ p=>R 122 [p,b,d] λ r=>ek r λ t=>aW t (dI [c] m) (dI [] m)) λ u=>K (.ret u) (gc a b c o d i none none none none none none)) (item a (.int 0) λ v=>MP R K a b c o d i v)
def MR:=aE .Eq y (.str rU) λ l=>aW l (cJ cp R (.bi .len) [b] λ m=>MU R K a b c o d i m) (item a (.int 0) λ p=>MQ R K a b c o d i p)
def MF:=item a (.int 0) λ y=>MR R K a b c o d i y
theorem p6:bq 125 [] 1 R (gc a b c o d i none none none none none none) K j=MF R K a b c o d i j:=by kernel_rfl
def M1:=forM l (d6 125 [(9,0),(0,0)] 1 R) (bq 125 [(9,0),(0,0),(1,0)] 0 R) (gc a b c o d i k y none none l m) (fc (bq 125 [(9,0),(0,0)] 2 R) (fc (bq 125 [(9,0)] 1 R) K))
def M3:=aE .Eq m (.str tm) λ p=>aW p (dI [] λ r=>M1 R K k a b c o d i y l r) (R 125 [y,b,c,o] λ t=>bw .Add l t λ u=>R 119 [u] λ v=>K .next (gc a b c o d i k y none none v b3))
def M0:=item a (.int 0) λ m=>M3 R K k b3 a b c o d i y l m
theorem F8:bq 125 [(9,0)] 0 R (gc a b c o d i k y none none l b3) K j=M0 R K k b3 a b c o d i y l j:=by kernel_rfl
def MG:=K (.ret y) (gc a b c o d i k b3 none none y cX)
theorem F7:bq 125 [] 10 R (gc a b c o d i k b3 none none y cX) K j=MG K k b3 cX a b c o d i y j:=by kernel_rfl
def M4:=R 125 [l,b,y,o] λ r=>eR .Add p r λ t=>K .next (gc a b c o d i y l none none m t)
theorem T3:bq 125 [(9,0),(0,0),(1,0)] 0 R (gc a b c o d i y l none none m p) K j=M4 R K a b c o d i y l m p j:=by kernel_rfl
def M5:=R 119 [m] λ p=>K .next (gc a b c o d i k y none none p m)
theorem T4:bq 125 [(9,0),(0,0)] 2 R (gc a b c o d i k y none none l m) K j=M5 R K k a b c o d i y m j:=by kernel_rfl
def M6:=K .next (gc a b c o d i k y none none l m)
theorem T5:bq 125 [(9,0)] 1 R (gc a b c o d i k y none none l m) K j=M6 K k a b c o d i y l m j:=by kernel_rfl
noncomputable def ml(a b c o d i y l m p r t:Option E):Loc:=[((Str.ofString "script"),a),((Str.ofString "pen"),b),(tE,c),((Str.ofString "code"),o),(e3,d),(om,i),((Str.ofString "named"),y),((Str.ofString "spelt"),l),(r2,m),((Str.ofString "due"),p),(Ad,r),((Str.ofString "pairs"),t)]
def Ql:=a6 c g7 λ o=>item a (.int 3) λ d=>aE .NotEq o d λ i=>cw .Or i F (a6 c oo λ y=>aE .NotEq y b λ l=>cw .Or l F (F false))
def Qm:=cJ cp R (.typ .range) [p,(.int (-1)),(.int (-1))] λ r=>forM r (d6 126 [] 10 R) (bq 126 [(10,0)] 0 R) (ml a b c o d i y l m (some E.none) none none) (fc (bq 126 [] 11 R) (eX A))
def Qn:=R 118 [i,y] λ l=>R 110 [l,c] λ m=>eF (λ p=>Ql p b y m) λ r=>aW r (A (.bool false)) (cJ cp R (.bi .len) [d] λ t=>Qm R A a b c o d i y l m t)
def Qo:=ib d (λ i y=>y true) (λ i l=>bw .FloorDiv o (.int 5) λ m=>bw .Pow (.int 5) i λ p=>bw .FloorDiv m p λ r=>bw .Mod r (.int 5) λ t=>item (.str [97,98,97,65,10]) t l) λ u=>bY R bh (.str []) [u] λ v=>R 117 [b,(.int 3),(.int 2)] λ w=>yR [] [] λ x=>Qn R A a b c o v w x
def Qp:=bw .Mult o (.int 5) λ d=>R 114 [b,d] λ i=>b0 (.str []) r1 λ y=>bw .Mod i (.int 5) λ l=>cJ cp R (.typ .range) [l] λ m=>Qo R A y a b c i m
def Qq:=dI [b,(.int 0),c,(.int 0),(.int 0)] λ o=>dI [(.str []),(.str []),(.str [105])] λ d=>R 114 [o,(.int 3)] λ i=>item d i λ y=>bw .Pow (.int 5) (.int 4) λ l=>Qp R A a o y l
def Qk:=eN a none (some (.int 30)) λ b=>eN a none (some (.int 30)) λ c=>cJ cp R (.bi .sum) [c] λ o=>bw .Mod o (.int 997) λ d=>Qq R A a b d
theorem ad8:call (n+1) 126 [a] A j=Qk (call n) A a j:=by kernel_rfl
def M8:=cJ cp R (.typ .list) [u] λ v=>bw .Add t v λ w=>K .next (ml a b c o d i y l m w p r)
def M9:=item t (.int 0) λ u=>b9 [p,u] λ v=>dI [v] λ w=>item r (.int 0) λ x=>item x (.int 1) λ H=>M8 R K a b c o d i y l m p r w H
def M_:=aE .NotEq t u λ v=>aW v (item t (.int 0) λ w=>M9 R K a b c o d i y l m r t w) (K .next (ml a b c o d i y l m p r t))
def M':=aE .Eq c (.str [105]) λ u=>R 125 [i,d,t,(.bool u)] λ v=>eN v none (some (.int 1)) λ w=>dI [] λ x=>M_ R K a b c o d i y l m p r w x
def M7:=b9 [E.none] λ t=>item b (.int 3) λ u=>bw .Mult t u λ v=>b9 [r,v] λ w=>M' R K a b c o d i y l m p r w
theorem T6:bq 126 [(10,0)] 0 R (ml a b c o d i y l m p r k) K j=M7 R K a b c o d i y l m p r j:=by kernel_rfl
def Nb:=R 44 [m,d,(.int 0),r,(.int 0)] λ t=>aE .Eq t p λ u=>K (.ret (.bool u)) (ml a b c o d i y l m p k b3)
def Na:=cJ cp R (.cls 46) [] λ r=>Nb R K k b3 a b c o d i y l m p r
theorem T7:bq 126 [] 11 R (ml a b c o d i y l m p k b3) K j=Na R K k b3 a b c o d i y l m p j:=by kernel_rfl
def PO:=cL a r2 b (cL a e3 c (cL a Ac o (cL a xG d (cL a oj i (cL a pE (.int 0) (cL a b' o (cL a g6 (.int 0) (dI [] λ y=>cL a g7 y (dI [] λ l=>cL a h6 l (dI [] λ m=>cL a iY m (A E.none)))))))))))
theorem ad0:call (n+1) 1170 [a,b,c,o,d,i] A j=PO A a b c o d i j:=by kernel_rfl
def Qr:=cL a Af (.int 64) (cL a oq (.int 50) (cL a pE (.int 1000000) (cL a e3 (.int 100000) (cL a (Str.ofString "items") (.int 10000) (A E.none)))))
theorem ad9:call (n+1) 1460 [a] A j=Qr A a j:=by kernel_rfl
def Qs:=cL a km b (cL a g7 c (cL a h6 o (cL a oo d (A E.none))))
theorem ad_:call (n+1) 1490 [a,b,c,o,d] A j=Qs A a b c o d j:=by kernel_rfl
def Qt:=dI [] λ b=>cL a km b (cL a h6 (.int 0) (A E.none))
theorem ad':call (n+1) 1500 [a] A j=Qt A a j:=by kernel_rfl
def Qu:=a6 a km λ c=>b0 c jx λ o=>bY R o c [b] λ d=>a6 a km λ i=>cJ cp R (.bi .len) [i] λ y=>bw .Sub y (.int 1) A
theorem aea:call (n+1) 1501 [a,b] A j=Qu (call n) A a b j:=by kernel_rfl
def Qv:=a6 a h6 λ b=>eR .Add b (.int 1) λ c=>cL a h6 c (a6 a h6 λ o=>bw .Sub o (.int 1) A)
theorem aeb:call (n+1) 1502 [a] A j=Qv A a j:=by kernel_rfl
def Qw:=cL a e3 b (cL a (Str.ofString "total") c (cL a b' (.int 0) (cL a g7 (.int 0) (cL a oq (.int 0) (yR [] [] λ o=>cL a oo o (dI [] λ d=>cL a xH d (A E.none)))))))
theorem aec:call (n+1) 1640 [a,b,c] A j=Qw A a b c j:=by kernel_rfl
def Qx:=a6 a e3 λ b=>a6 a b' λ c=>a6 a b' λ o=>bw .Add o (.int 1) λ d=>eN b (some c) (some d) A
theorem aed:call (n+1) 1641 [a] A j=Qx A a j:=by kernel_rfl
def Qz:=aE .NotEq c b λ o=>aW o (A (.bool false)) (a6 a b' λ d=>cJ cp R (.bi .len) [b] λ i=>eR .Add d i λ y=>cL a b' y (A (.bool true)))
def QA:=a6 a b' λ o=>a6 a b' λ d=>cJ cp R (.bi .len) [b] λ i=>bw .Add d i λ y=>eN c (some o) (some y) λ l=>Qz R A a b l
def Qy:=a6 a e3 λ c=>QA R A a b c
theorem aee:call (n+1) 1642 [a,b] A j=Qy (call n) A a b j:=by kernel_rfl
end
section
section
variable{e M x7:U}{k:bo}{i y:Nat}{v w p:E}
theorem J7{k n:Nat}(h:k+1<=n):∃m,n=m+1/\k<=m:=by
 refine a7 (ha (ah (gC 1 k) h)) λ m a=>?_;subst a
 exact⟨m,rfl,k1 h⟩
theorem C'{a:Nat}(h:0<a):((a:Int)-1)=((a-1:Nat):Int):=(Int.ofNat_sub h).symm
theorem u9{P:Nat->Prop}{k:Nat}(h:k<6)(a:P 0)(C:P 1)(I:P 2)(af:P 3)(b:P 4)(c:P 5):P k:=by
 rcases k with _|_|_|_|_|_|k
 ·exact a
 ·exact C
 ·exact I
 ·exact af
 ·exact b
 ·exact c
 ·exact absurd h (lK.mpr (gC 6 k))
theorem Ds{P:Nat->Prop}{k:Nat}(h:k<5)(a:P 0)(C:P 1)(I:P 2)(af:P 3)(b:P 4):P k:=by
 rcases k with _|_|_|_|_|k
 ·exact a
 ·exact C
 ·exact I
 ·exact af
 ·exact b
 ·exact absurd h (lK.mpr (gC 5 k))
theorem rL{P:Nat->Prop}{k:Nat}(h:k<3)(a:P 0)(C:P 1)(I:P 2):P k:=by
 rcases k with _|_|_|k
 ·exact a
 ·exact C
 ·exact I
 ·exact absurd h (lK.mpr (gC 3 k))
theorem dH(e:U)(i:Nat)(p:dm):(e.upd i p).get i=some p:=aT rfl
theorem ef{p:dm}(h:y≠i):(e.upd i p).get y=e.get y:=a9 h
theorem fR(e:U)(p:dm):(e.alloc p).get e.next=some p:=aT rfl
theorem iB{p:dm}(h:y≠e.next):(e.alloc p).get y=e.get y:=a9 h
structure Fr(S:Nat->Prop)(e M:U):Prop where
 next:e.next<=M.next
 same:∀y,y<e.next->¬S y->M.get y=e.get y
abbrev eh:=Fr λ z=>False
theorem Fr.refl(S:Nat->Prop)(e:U):Fr S e e:=⟨bx _,λ z z z=>rfl⟩
theorem Fr.trans{S:Nat->Prop}(a:Fr S e M)(b:Fr S M x7):Fr S e x7:=⟨ah a.next b.next,λ y C I=>(b.same y (d7 C a.next) I).trans (a.same y C I)⟩
theorem Fr.mono{S b:Nat->Prop}(a:Fr S e M)(h:∀y,y<e.next->S y->b y):Fr b e M:=⟨a.next,λ y C I=>a.same y C λ D=>I (h y C D)⟩
theorem Fr.alloc(S:Nat->Prop)(e:U)(p:dm):Fr S e (e.alloc p):=⟨hq _,λ y h z=>iB (e' h)⟩
theorem Fr.upd(S:Nat->Prop)(e:U)(p:dm)(h:S i):Fr S e (e.upd i p):=⟨bx _,λ y z I=>ef λ d=>I (rwl d h)⟩
theorem Fr.get{S:Nat->Prop}(a:Fr S e M){p:dm}(h:e.get y=some p)(b:y<e.next)(c:¬S y):M.get y=some p:=(a.same y b c).trans h
theorem I0{a:dm}(h:e.get y=some a)(i:E):n_ e (.ref y) i=u2 a i:=by
 show(match e.get y with|some a=>u2 a i|none=>none)=_
 exact rwl h rfl
theorem rH{a:dm}(h:e.get y=some a){x:E}(b:u2 a x=some v)(q:k v e):item (.ref y) x k e:=by unfold item;rw[I0 h,b];exact q
theorem bz{x:E}(a:n_ e p x=some v)(q:k v e):item p x k e:=by unfold item;exact rwl a q
theorem dg{c:PySem.Operator}{a b:E}(h:mX c a b=some v)(q:k v e):bw c a b k e:=by unfold bw;exact rwl h q
theorem bj{c:PySem.CmpOp}{a b:E}{r:Bool}{c1:Bool->U->Prop}(h:lO e c a b=some r)(q:c1 r e):aE c a b c1 e:=by unfold aE;exact rwl h q
theorem jM{b:Bool}{t f:U->Prop}(C:b=true->t e)(I:b=false->f e):aW b t f e:=by rcases b with _|_;exact I rfl;exact C rfl
theorem k5{s:Prop}[Decidable s]{t f:U->Prop}(C:s->t e)(I:¬s->f e):aW (decide s) t f e:=jM (λ h=>C (gg h)) λ h=>I (rh h)
theorem U_{a b:Int}{t f:U->Prop}(C:a=b->t e)(I:a≠b->f e):aW (a==b) t f e:=jM (λ h=>C (eq_of_beq h)) λ h=>I (by rintro rfl;rw[eC] at h;injection h)
theorem tx{B:List E}{x:Int}{A:U->Prop}(h:e.get y=some (.list B))(a:0<=x)(b:x.toNat<B.length)(c:dU x=true)(q:A (e.upd y (.list (B.set x.toNat v)))):gM (.ref y) (.int x) v A e:=by
 unfold gM;dsimp only;rw[h];exact⟨a,b,c,q⟩
theorem ab9{az:List (List Nat)}{B:List E}{x:List Nat}{A:U->Prop}(h:e.get y=some (.dict az B))(a:az.length<=1000)(q:A (e.upd y (.dict (kg az B x v).1 (kg az B x v).2))):gM (.ref y) (.str x) v A e:=by
 unfold gM;dsimp only;rw[h];exact⟨a,q⟩
theorem gV{c:Nat}{az:List Str}{B:List E}{x:Str}(h:e.get y=some (.inst c az B))(a:qe az B x=some v)(q:k v e):a6 (.ref y) x k e:=by
 unfold a6;simp only[h,a];exact q
theorem e9{c:Nat}{az eG:List Str}{B c2:List E}{x:Str}{A:U->Prop}(h:e.get y=some (.inst c az B))(a:pl x=true)(b:az.length<=100)(d:o5 az B x v=(eG,c2))(q:A (e.upd y (.inst c eG c2))):cL (.ref y) x v A e:=by
 unfold cL;simp only[h,a,d];exact⟨b,q⟩
theorem vc{j:List Nat}{m:Str}{cP:fp}{K:fp->U->Prop}(h:Ex m=some cP)(q:K cP e):b0 (.str j) m K e:=by
 show match Ex m with|some cP=>K cP e|none=>False
 exact rwl h q
theorem rN{m:Str}{a:dm}{cP:fp}{K:fp->U->Prop}(b:e.get y=some a)(h:xd cp m a=some cP)(q:K cP e):b0 (.ref y) m K e:=by
 show match match e.get y with|some a=>xd _ m a|none=>none with|some cP=>K cP e|none=>False
 rw[b,show(match some a with|some a=>xd _ m a|none=>none)=some cP from h];exact q
theorem xl{b:Int}(h:dU b=true):r4 .range [.int b]=some (.rng 0 b 1):=by
 show(if(dU 0&&dU b&&(1==1||1==-1))=true then some _ else none)=_
 rw[h];rfl
theorem e2{B:List E}(h:B.length<=c7)(q:k (.ref e.next) (e.alloc (.list B))):dI B k e:=⟨h,q⟩
noncomputable def fM:E->Bool
 |.ref _=>false
 |_=>true
theorem B6:∀{B:List E},B.all fM=true->hY B e=(B,e)
 |[],_=>rfl
 |v::r,h=>by
  rw[List.all_cons,k2] at h
  rw[WV,(by rcases v with _|_<;>first|rfl|exact cq h.1:gG v e=(v,e))]
  dsimp only
  rw[B6 h.2]
theorem cb{B:List E}(a:B.length<=c7)(h:B.all fM=true)(q:k (.tup B) e):b9 B k e:=by
 refine⟨a,?_⟩
 unfold tupK
 exact rwl (B6 h) q
theorem Em{l u:Option E}(h:pB e p l u=some v)(q:k v e):eN p l u k e:=by unfold eN;exact rwl h q
theorem cE{t f:U->Prop}(q:t e):aW true t f e:=q
theorem bt{t f:U->Prop}(q:f e):aW false t f e:=q
theorem xk{c1:Bool->U->Prop}{r:U->Prop}(q:c1 true e):cw .Or true c1 r e:=q
theorem iX{c1:Bool->U->Prop}{r:U->Prop}(q:r e):cw .Or false c1 r e:=q
theorem gD{c1:Bool->U->Prop}{r:U->Prop}(q:r e):cw .And true c1 r e:=q
theorem mU{c1:Bool->U->Prop}{r:U->Prop}(q:c1 false e):cw .And false c1 r e:=q
theorem d_{f:(Bool->U->Prop)->U->Prop}{c1:Bool->U->Prop}(h:f c1 e):eF f c1 e:=h
theorem fX{f:bo->U->Prop}(h:f k e):d0 f k e:=h
section
variable{c1:Bool->U->Prop}{x H:Int}
theorem jO(q:c1 (x==H) e):aE .Eq (.int x) (.int H) c1 e:=q
theorem ru(h:x=H)(q:c1 true e):aE .Eq (.int x) (.int H) c1 e:=jO (by exact rwl (iy.mpr h) q)
theorem wi(h:x≠H)(q:c1 false e):aE .Eq (.int x) (.int H) c1 e:=jO (by exact rwl (fF.mpr h) q)
theorem iE(q:c1 (decide (x<H)) e):aE .Lt (.int x) (.int H) c1 e:=q
theorem u_(h:x<H)(q:c1 true e):aE .Lt (.int x) (.int H) c1 e:=iE (by exact rwl (fi h) q)
theorem rM(h:¬x<H)(q:c1 false e):aE .Lt (.int x) (.int H) c1 e:=iE (by exact rwl (h_ h) q)
theorem n1(q:c1 (decide (H<x)) e):aE .Gt (.int x) (.int H) c1 e:=q
theorem HL(h:H<x)(q:c1 true e):aE .Gt (.int x) (.int H) c1 e:=n1 (by exact rwl (fi h) q)
theorem wy(h:¬H<x)(q:c1 false e):aE .Gt (.int x) (.int H) c1 e:=n1 (by exact rwl (h_ h) q)
theorem Dn(q:c1 (decide (x<=H)) e):aE .LtE (.int x) (.int H) c1 e:=q
theorem uO(q:c1 (decide (H<=x)) e):aE .GtE (.int x) (.int H) c1 e:=q
theorem HE(h:H<=x)(q:c1 true e):aE .GtE (.int x) (.int H) c1 e:=uO (by exact rwl (fi h) q)
theorem Xl(h:¬H<=x)(q:c1 false e):aE .GtE (.int x) (.int H) c1 e:=uO (by exact rwl (h_ h) q)
theorem hv{a b:List Nat}(q:c1 (a==b) e):aE .Eq (.str a) (.str b) c1 e:=q
theorem lN{R:dq}{b:t2}{B:List E}(h:Bm e b B=some v)(q:k v e):cJ cp R (.bi b) B k e:=qH (f:=λ v=>k v e) h q
theorem qV{R:dq}{t:TI}{B:List E}(h:r4 t B=some v)(q:k v e):cJ cp R (.typ t) B k e:=by
 show(match r4 t B with|some v=>k v e|none=>_)
 rw[h];exact q
end
theorem GJ{g:E->kx}{i:E->q'}{j:U->Prop}{A:List E->U->Prop}(bT:List E->List E->U->Prop)(c:∀r a e,bT r a e->j e)
  (step:∀v r a e (d:List E->U->Prop),bT (v::r) a e->(∀f M,bT r f M->d f M)->a.length<=c7/\g v (λ b k=>match b with|true=>i v (λ w l=>d (a++[w]) l) k|false=>d a k) e)
  (done:∀a e,bT [] a e->A a e):∀(items a:List E)(e:U),bT items a e->ux g i j items a A e
 |[],a,e,h=>⟨c _ _ _ h,done _ _ h⟩
 |v::r,a,e,h=>⟨c _ _ _ h,step v r _ e _ h λ f M=>GJ bT c step done r _ _⟩
theorem uy{v:E}{d:E->kx}{f:E->q'}{items:List E}(i:hy e v=some items)(bT:List E->List E->U->Prop)(j:bT items [] e)(l:∀r a M,bT r a M->hQ v items M)
  (step:∀x r a e (c:List E->U->Prop),bT (x::r) a e->(∀g M,bT r g M->c g M)->a.length<=c7/\d x (λ b h=>match b with|true=>f x (λ w m=>c (a++[w]) m) h|false=>c a h) e)
  (done:∀a e,bT [] a e->k (.lst a) e):ib v d f k e:=by
 unfold ib
 exact rwl i (GJ bT l step done _ [] e j)
theorem B3{d:E->Loc->(Loc->U->Prop)->U->Prop}{body:Loc->ei->U->Prop}{f:U->Prop}{K:ei}(bT:List E->Loc->U->Prop)(c:∀r ak e,bT r ak e->f e)
  (step:∀v r ak e (b:ei),bT (v::r) ak e->(∀a M,bT r a M->b .next a M)->(∀a M,bT r a M->b .cont a M)->(∀a M,K .next a M->b .brk a M)->(∀w a M,K (.ret w) a M->b (.ret w) a M)->d v ak (λ g i=>body g b i) e)
  (done:∀ak e,bT [] ak e->K .next ak e):∀(items:List E)(ak:Loc)(e:U),bT items ak e->o4 d body f items ak K e
 |[],ak,e,h=>⟨c _ _ _ h,done _ _ h⟩
 |v::r,ak,e,h=>⟨c _ _ _ h,step v r ak e _ h (λ a M=>B3 bT c step done r _ _) (λ a M=>B3 bT c step done r _ _) (λ z z D=>D) λ z z z D=>D⟩
theorem WM{v:E}{c:E->Loc->(Loc->U->Prop)->U->Prop}{body:Loc->ei->U->Prop}{K:ei}{ak:Loc}{items:List E}(d:hy e v=some items)(bT:List E->Loc->U->Prop)(f:bT items ak e)(g:∀r ak M,bT r ak M->hQ v items M)
  (step:∀v r ak e (b:ei),bT (v::r) ak e->(∀a M,bT r a M->b .next a M)->(∀a M,bT r a M->b .cont a M)->(∀a M,K .next a M->b .brk a M)->(∀w a M,K (.ret w) a M->b (.ret w) a M)->c v ak (λ h i=>body h b i) e)
  (done:∀ak e,bT [] ak e->K .next ak e):forM v c body ak K e:=by
 unfold forM
 exact rwl d (B3 bT g step done _ ak e f)
theorem md{g:Loc->kx}{body:Loc->ei->U->Prop}{K:ei}(bT:Nat->Loc->U->Prop)
  (step:∀m ak e (c:ei),bT m ak e->(∀d a M,d<m->bT d a M->c .next a M/\c .cont a M)->(∀a M,K .next a M->c .brk a M)->(∀w a M,K (.ret w) a M->c (.ret w) a M)->
   g ak (λ b i=>match b with|true=>body ak c i|false=>K .next ak i) e) {m:Nat} {ak:Loc} (h:bT m ak e):ko g body ak K e:=by
 suffices go:∀n m ak e,m<n->bT m ak e->tc _ _ n ak K e from⟨m+1,go _ m ak e (eo m) h⟩
 intro n
 induction n with
 |zero=>intro m ak e f;exact((bC m) f).elim
 |succ n j=>
  intro m ak e f h
  exact step m ak e _ h (λ d a M C I=>⟨j d _ _ (d7 C (nP f)) I,j d _ _ (d7 C (nP f)) I⟩) (λ z z D=>D) λ z z z D=>D
end
end
section
section
variable{e:U}{k:bo}{v:E}
theorem sH{g:E->kx}{j:E->q'}{items:List E}(m:hy e v=some items)(bT:Nat->List E->U->Prop)(n:bT 0 [] e)(o:∀i a M,bT i a M->hQ v items M)
  (step:∀i x a e (c:List E->U->Prop),items[i]?=some x->bT i a e->(∀f M,bT (i+1) f M->c f M)->a.length<=c7/\g x (λ b d=>match b with|true=>j x (λ w p=>c (a++[w]) p) d|false=>c a d) e)
  (done:∀a e,bT items.length a e->k (.lst a) e):ib v g j k e:=by
 refine uy m (λ r a M=>∃i,r=items.drop i/\i<=items.length/\bT i a M) ⟨0,rfl,df _,n⟩ (λ r a M ⟨i,_,_,h⟩=>o i _ _ h) (λ x r a d c ⟨i,C,I,af⟩ q=>?_) λ a d ⟨i,C,I,af⟩=>?_
 ·have l:i<items.length:=by
   refine pX λ D=>?_
   rw[su D] at C
   injection C
  rw[oS l] at C
  (injection C with a3 bL;subst a3 bL)
  exact step i _ _ _ c (hK _) af λ f M h=>q _ _ ⟨i+1,rfl,l,h⟩
 ·have:=List.drop_eq_nil_iff.mp C.symm
  rw[cB I this] at af
  exact done _ _ af
theorem k_{f:E->Loc->(Loc->U->Prop)->U->Prop}{body:Loc->ei->U->Prop}{K:ei}{ak:Loc}{items:List E}(g:hy e v=some items)(bT:Nat->Loc->U->Prop)(j:bT 0 ak e)(k:∀i ak M,bT i ak M->hQ v items M)
  (step:∀i x ak e (b:ei),items[i]?=some x->bT i ak e->(∀a M,bT (i+1) a M->b .next a M/\b .cont a M)->(∀a M,K .next a M->b .brk a M)->(∀w a M,K (.ret w) a M->b (.ret w) a M)->f x ak (λ l c=>body l b c) e)
  (done:∀ak e,bT items.length ak e->K .next ak e):forM v f body ak K e:=by
 refine WM g (λ r ak M=>∃i,r=items.drop i/\i<=items.length/\bT i ak M) ⟨0,rfl,df _,j⟩ (λ r ak M ⟨i,_,_,h⟩=>k i ak _ h) (λ x r ak c b ⟨i,C,I,af⟩ Y m n V=>?_) λ ak c ⟨i,C,I,af⟩=>?_
 ·have d:i<items.length:=by
   refine pX λ D=>?_
   rw[su D] at C
   injection C
  rw[oS d] at C
  (injection C with a3 bL;subst a3 bL)
  exact step i _ ak _ b (hK _) af (λ a M h=>⟨Y _ _ ⟨i+1,rfl,d,h⟩,m _ _ ⟨i+1,rfl,d,h⟩⟩) n V
 ·have:=List.drop_eq_nil_iff.mp C.symm
  rw[cB I this] at af
  exact done ak _ af
theorem js{n:Nat}(h:n<=1000000000):dU (n:Int)=true:=by
 unfold dU;rw[fi (by lia),fi (by exact hU.mpr h)];rfl
theorem zr{n:Nat}(h:n<=1000000000):hy e (.rng 0 n 1)=some (j0 0 n 1):=by
 show(if(dU 0&&dU n&&(1==1||1==-1))=true then _ else _)=_
 refine rwl ((js h)) ?_
 rfl
theorem xn(n:Nat):(j0 0 n 1).length=n:=by
 unfold j0;simp
theorem z3{n i:Nat}{x:E}(h:(j0 0 n 1)[i]?=some x):i<n/\x=.int i:=by
 have a:i<n:=by
  refine pX λ D=>?_
  rw[oR (by rw[xn];exact D)] at h
  exact a8 h
 refine⟨a,?_⟩
 unfold j0 at h
 rw[aT rfl,kb,List.getElem?_range (by lia)] at h
 obtain rfl:=cm h
 show E.int _=_
 rw[Int.zero_add]
def dw(e:U)(r:E)(B:List E):Prop:=listOf e r=some B/\∀i,r=.ref i->i<e.next
theorem iW(e:U)(i:Nat):listOf e (.ref i)=Dr (e.get i):=rfl
theorem dw.lst{B:List E}:dw e (.lst B) B:=⟨rfl,λ z h=>(E.noConfusion h)⟩
theorem dw.new{B:List E}:dw (e.alloc (.list B)) (.ref e.next) B:=⟨by rw[iW,fR];rfl,λ i h=>by(injection h with a3;subst a3);exact eo _⟩
set_option tactic.hygienic true in
theorem dw.fr{S:Nat->Prop}{M:U}{r:E}{B:List E}(h:dw e r B)(f:Fr S e M)(a:∀i,r=.ref i->¬S i):dw M r B:=by
 refine bf h λ C I=>?_;clear h
 refine⟨?_,λ i d=>d7 (I i d) f.next⟩
 rcases r with _|_
 case ref i=>
  have:=f.same i (I i rfl) (a i rfl)
  rw[iW] at C⊢
  exact rwl this C
 all_goals exact C
theorem dw.ext{M:U}{r:E}{B:List E}(h:dw e r B)(f:eh e M):dw M r B:=h.fr f λ z z D=>D
set_option tactic.hygienic true
theorem dw.items{r:E}{B:List E}(h:dw e r B):hy e r=some B:=by
 have C:=h.1
 clear h;rcases r with _|_
 case lst l=>exact C
 case ref i=>exact C
 all_goals exact a8 C
theorem dw.hQ{r:E}{B:List E}(h:dw e r B):hQ r B e:=by
 rcases r with _|_
 case ref i=>exact h.items
 all_goals trivial
theorem dw.len{R:dq}{r:E}{B:List E}(h:dw e r B)(a:B.length<=c7)(q:k (.int B.length) e):cJ cp R (.bi .len) [r] k e:=by
 refine lN ?_ q
 have C:=h.1
 clear h;rcases r with _|_
 case lst l=>obtain rfl:=cm C;exact aT a
 case ref i=>
  show(xu e _).bind _=_
  have:xu e (.ref i)=some B:=C
  exact rwl this (aT a)
 all_goals exact a8 C
theorem dw.item{r x:E}{B:List E}{i:Nat}(h:dw e r B)(b:i<=1000000000)(c:B[i]?=some x)(q:k x e):Internal.item r (.int i) k e:=by
 refine bz ?_ q
 have C:=h.1
 have d:(if 0<=i&&dU i then B[(i:Int).toNat]? else none)=some x:=by
  exact rwl (js b) (rwl (fi (i5 i)) c)
 clear h;rcases r with _|_
 case lst l=>obtain rfl:=cm C;exact d
 case ref y=>
  rw[iW] at C
  rcases a:e.get y with _|_
  case none=>rw[a] at C;exact a8 C
  case some p=>
   rw[a] at C
   rw[I0 a]
   clear a;rcases p with _|_
   case list l=>obtain rfl:=cm C;exact d
   case flist l=>obtain rfl:=cm C;exact d
   all_goals exact a8 C
 all_goals exact a8 C
set_option tactic.hygienic false
theorem eM{n:Nat}(h:n<=1000000000):jL (some (.int n))=some (some n):=by
 show(if 0<=n&&dU n then some _ else none)=_
 refine rwl (js h) (rwl (fi (i5 n)) ?_)
 rfl
set_option tactic.hygienic true in
theorem dw.slice{r:E}{B:List E}{l u:Option E}{dV ly:Option Nat}(h:dw e r B)(a:B.length<=c7)(b:jL l=some dV)(c:jL u=some ly)(q:k (.lst (cut B (dV.getD 0) ly)) e):eN r l u k e:=by
 refine Em ?_ q
 have C:=h.1
 unfold pB
 refine rwl b (rwl c ?_)
 clear h;rcases r with _|_
 case lst l=>obtain rfl:=cm C;exact aT a
 case ref y=>
  dsimp only
  exact rwl C (aT a)
 all_goals exact a8 C
def acw(k:bo)(e:U)(p:Option E):Prop:=match p with|some v=>k v e|none=>False
theorem vr{p:Option E}{v:E}(h:p=some v)(q:k v e):acw k e p:=by exact rwl h q
theorem z_{R:dq}{cP:fp}{j:List Nat}{B:List E}{v:E}(h:oi e j cP B=some v)(q:k v e):bY R cP (.str j) B k e:=by
 rcases cP with _|_
 case join=>exact vr h q
 case lower=>exact vr h q
 case swapcase=>exact vr h q
 case find=>exact vr h q
 case index=>exact vr h q
 case split=>exact vr h q
 all_goals exact a8 h
theorem dw.add{a b:E}{x H:List E}(c:dw e a x)(d:dw e b H)(f:x.length+H.length<=c7)(q:k (.ref e.next) (e.alloc (.list (x++H)))):bw .Add a b k e:=by
 have C:=c.1
 unfold bw
 exact(by clear c;rcases a with _|_<;>first|rfl|exact a8 C:mX .Add a b=none).symm▸C.symm▸d.1.symm▸⟨f,q⟩
theorem IM{y:Nat}{b:E}{x H:List E}(a:e.get y=some (.list x))(c:dw e b H)(d:x.length+H.length<=c7)(q:k (.ref y) (e.upd y (.list (x++H)))):eR .Add (.ref y) b k e:=by
 show match e.get y with|some p=>C9 y p b k e|none=>False
 refine rwl a ?_
 show match listOf e b with|some H=>x.length+H.length<=c7/\k _ _|none=>False
 exact rwl c.1 (⟨d,q⟩)
theorem Fr.j3{S:Nat->Prop}{aI:U}{i:Nat}{p:dm}(f:Fr S aI e)(h:aI.next<=i):Fr S aI (e.upd i p):=
 ⟨f.next,λ y C I=>(ef (e' (d7 C h))).trans (f.same y C I)⟩
theorem Fr.jJ{S:Nat->Prop}{aI:U}{p:dm}(f:Fr S aI e):Fr S aI (e.alloc p):=f.trans (.alloc _ _ _)
theorem mz{f:bo->U->Prop}(P:E->U->Prop)(C:∀a,(∀r M,P r M->a r M)->f a e)(I:∀r M,P r M->k r M):d0 f k e:=C k I
theorem iD{x H:Int}(q:k (.int (x+H)) e):eR .Add (.int x) (.int H) k e:=q
theorem IP{x H:Int}(q:k (.int (x-H)) e):eR .Sub (.int x) (.int H) k e:=q
theorem dk{b:Bool}{c1:Bool->U->Prop}(q:c1 b e):ek (.bool b) c1 e:=q
theorem yD{r:U->Prop}(q:r e):f_ .Or (.bool false) k r e:=q
theorem Bk{r:U->Prop}(q:k (.bool true) e):f_ .Or (.bool true) k r e:=q
theorem p7{r:U->Prop}(q:r e):f_ .And (.bool true) k r e:=q
theorem ur{r:U->Prop}(q:k (.bool false) e):f_ .And (.bool false) k r e:=q
theorem f3{bl:Loc->ei->U->Prop}{K:ei}{ak:Loc}(q:bl ak K e):fc bl K .next ak e:=q
theorem gn{ak:Loc}{w:E}(q:k w e):eX k (.ret w) ak e:=q
theorem rA{ak:Loc}(q:k .none e):eX k .next ak e:=q
theorem Gh{s:Prop}[Decidable s]{r:U->Prop}(C:s->r e)(I:¬s->k (.bool false) e):f_ .And (.bool (decide s)) k r e:=by
 by_cases h:s
 ·exact rwl (fi h) (C h)
 ·exact rwl (h_ h) (I h)
theorem K8{s:Prop}[Decidable s]{c1:Bool->U->Prop}{r:U->Prop}(C:s->c1 true e)(I:¬s->r e):cw .Or (decide s) c1 r e:=by
 by_cases h:s
 ·exact rwl (fi h) (C h)
 ·exact rwl (h_ h) (I h)
theorem j2{R:dq}{j:List Nat}(a:j.length<=c7)(q:k (.int j.length) e):cJ cp R (.bi .len) [.str j] k e:=lN (aT a) q
theorem kl{j:List Nat}{i c:Nat}(a:i<=1000000000)(b:j[i]?=some c)(q:k (.str [c]) e):item (.str j) (.int i) k e:=by
 refine bz ?_ q
 show(if 0<=i&&dU i then j[(i:Int).toNat]? else none).map _=_
 refine rwl (js a) (rwl (fi (i5 i)) (rwl b ?_))
 rfl
theorem kT{j:List Nat}{l u:Option E}{dV ly:Option Nat}(a:j.length<=c7)(b:jL l=some dV)(c:jL u=some ly)(q:k (.str (cut j (dV.getD 0) ly)) e):eN (.str j) l u k e:=by
 refine Em ?_ q
 unfold pB
 exact b.symm▸c.symm▸aT a
theorem K_{j:List E}{l u:Option E}{dV ly:Option Nat}(a:j.length<=c7)(b:jL l=some dV)(c:jL u=some ly)(q:k (.tup (cut j (dV.getD 0) ly)) e):eN (.tup j) l u k e:=by
 refine Em ?_ q
 unfold pB
 exact b.symm▸c.symm▸aT a
theorem K9{x H:List E}(a:x.length+H.length<=c7)(q:k (.tup (x++H)) e):bw .Add (.tup x) (.tup H) k e:=dg (aT a) q
theorem qS{x H:List Nat}(a:x.length+H.length<=c7)(q:k (.str (x++H)) e):bw .Add (.str x) (.str H) k e:=dg (aT a) q
theorem o1{j:List Nat}{a n:Nat}:cut j a (some (a+n))=(j.drop a).take n:=rwl List.take_drop rfl
end
end
section
inductive br where
 |one (k:Nat)|place (w:Nat)|rounds (x:br) (c m:Nat)|group (n:Nat) (r:br) (nm:Bool)|again (n a:Nat)
 |d4 (ab aU:br)|atomic (r:br)|look (x:br) (w:Option Nat) (cW:Bool)
 |nil|cons (x r:br)
noncomputable def jY:Nat->E
 |0=>.tup [.str [97],.str [97],.bool false]
 |1=>.tup [.str [98],.str [98],.bool false]
 |2=>.tup [.str [46],.str [10],.bool true]
 |3=>.tup [.str [91,97,98,93],.str [97,98],.bool false]
 |4=>.tup [.str [92,119],.str [97,98,65,49],.bool false]
 |_=>.tup [.str [91,94,97,93],.str [97],.bool true]
noncomputable def f':Nat->Int×Int×List Nat
 |0=>(0,-1,[42])
 |1=>(1,-1,[43])
 |2=>(0,1,[63])
 |3=>(1,2,[123,49,44,50,125])
 |4=>(2,2,[123,50,125])
 |_=>(0,2,[123,48,44,50,125])
noncomputable def ju:Nat->List Nat
 |0=>[]
 |1=>[63]
 |_=>[43]
noncomputable def rX:Nat->List Nat
 |0=>[94]
 |1=>[36]
 |_=>[92,98]
noncomputable def xo(l:List E):E:=.tup [.str tm,.lst l]
mutual
noncomputable def br.v:br->E
 |.one k=>.tup [.str rU,jY k]
 |.place w=>.tup [.str rT,.str (rX w)]
 |.rounds x c m=>.tup [.str DQ,x.v,.int (f' c).1,.int (f' c).2.1,.str (f' c).2.2,.str (ju m)]
 |.group n r nm=>.tup [.str jW,.int n,r.v,.bool nm]
 |.again n a=>.tup [.str vf,.int n,.int a]
 |.d4 ab aU=>.tup [.str DP,.lst [ab.v,aU.v]]
 |.atomic r=>.tup [.str pj,r.v]
 |.look x w cW=>.tup [.str [108,111,111,107],x.v,.int (match w with|some w=>w|none=>-1),.bool cW]
 |.nil=>xo []
 |.cons x r=>xo (x.v::r.B)
noncomputable def br.B:br->List E
 |.cons x r=>x.v::r.B
 |_=>[]
end
inductive jB:Nat->br->Prop
 |nil:jB 0 .nil
 |cons {w:Nat} {k:Nat} {r:br}:k<6->jB w r->jB (w+1) (.cons (.one k) r)
theorem u5{a b c G:Nat}(h:a+(b+c)<=G):a+b+c<=G:=ah (jF (ez ..)) h
noncomputable def d5:br->Bool
 |.nil=>true
 |.cons _ _=>true
 |_=>false
noncomputable def dX:br->Nat
 |.rounds x _ _=>dX x
 |.group _ r _=>1+dX r
 |.d4 ab aU=>dX ab+dX aU
 |.atomic r=>dX r
 |.look x _ _=>dX x
 |.cons x r=>dX x+dX r
 |_=>0
noncomputable def d':br->Nat
 |.rounds x _ _=>2+d' x
 |.group _ r _=>d' r
 |.d4 ab aU=>1+(d' ab+d' aU)
 |.atomic r=>d' r
 |.look x _ _=>d' x
 |.cons x r=>d' x+d' r
 |_=>0
noncomputable def gP:br->Nat
 |.cons _ r=>gP r+1
 |_=>0
noncomputable def gB:br->Nat->Prop
 |.one k,_=>k<6
 |.place w,_=>w<3
 |.rounds x c m,g=>c<6/\m<3/\d5 x=false/\gB x g
 |.group n r _,g=>n=g+1/\d5 r=true/\gB r (g+1)
 |.again n a,g=>0<n/\n<=g/\a<2
 |.d4 ab aU,g=>(d5 ab=true/\d5 aU=true)/\gB ab g/\gB aU (g+dX ab)
 |.atomic r,g=>d5 r=true/\gB r g
 |.look x none _,g=>d5 x=true/\gB x g
 |.look x (some w) _,g=>(w<3/\((0<w/\jB w x)\/(w=0/\∃u,u<3/\u≠1/\x=.place u)))/\gB x g
 |.nil,_=>True
 |.cons x r,g=>(d5 x=false/\d5 r=true)/\gB x g/\gB r (g+dX x)
structure nD(bA:Prop)(r:br):Prop where
 row:d5 r=true
 len:gP r<=3
 k7:bA
noncomputable def h8:br->Nat->Prop
 |.one _,_=>True
 |.place _,o=>0<o
 |.rounds x c _,o=>0<o/\c<6/\d5 x=false/\h8 x (o-1)
 |.group _ r _,o=>0<o/\nD (h8 r (o-1)) r
 |.again _ _,o=>0<o
 |.d4 ab aU,o=>0<o/\nD (h8 ab (o-1)) ab/\nD (h8 aU (o-1)) aU
 |.atomic r,o=>0<o/\nD (h8 r (o-1)) r
 |.look x p _,o=>0<o/\((p=none/\nD (h8 x (o-1)) x)\/(∃w,w<3/\jB w x)\/∃u,x=.place u)
 |.nil,_=>True
 |.cons x r,o=>(d5 x=false/\d5 r=true)/\h8 x o/\h8 r o
theorem jB.wf{w:Nat}{r:br}(h:jB w r):(d5 r=true/\gP r=w/\d' r=0/\∀o,h8 r o)/\dX r=0/\∀g,gB r g:=by
 induction h with
 |nil=>exact⟨⟨rfl,rfl,rfl,λ z=>trivial⟩,rfl,λ z=>trivial⟩
 |cons b _ a=>exact⟨⟨rfl,bB _ a.1.2.1,(gr _).trans a.1.2.2.1,λ o=>⟨⟨rfl,a.1.1⟩,trivial,a.1.2.2.2 o⟩⟩,(gr _).trans a.2.1,λ g=>⟨⟨rfl,a.1.1⟩,b,a.2.2 _⟩⟩
structure Drawn(o g b:Nat)(x:br)(bN ed:Nat):Prop where
 k7:h8 x o
 wf:gB x g
 rr:bN=g+dX x
 gi:ed=b+d' x
 four:b<=4->ed<=4
def ho(o a g b:Nat)(x:br)(bN ed:Nat):Prop:=d5 x=false/\Drawn o g b x bN ed
def ft(o a n g b:Nat)(x:br)(bN ed:Nat):Prop:=(d5 x=true/\gP x<=n)/\Drawn o g b x bN ed
section
variable{o l n g b bN ed cV fP dG gs c m k w a:Nat}{x r ab aU:br}{nm cW:Bool}
theorem ft.rw(h:ft o l 3 g b r bN ed):nD (h8 r o) r:=⟨h.1.1,h.1.2,h.2.k7⟩
theorem ho.one(h:k<6):ho o l g b (.one k) g b:=⟨rfl,trivial,h,rfl,rfl,id⟩
theorem ho.rounds(C:b<3)(I:c<6)(af:m<3)(h:ho o l g (b+2) x bN ed):ho (o+1) (l+1) g b (.rounds x c m) bN ed:=⟨rfl,⟨jI o,I,h.1,h.2.k7⟩,⟨I,af,h.1,h.2.wf⟩,h.2.rr,h.2.gi.trans (ez ..),λ z=>h.2.four (h' (Nat.succ_le_of_lt C))⟩
theorem ho.group(h:ft o l 3 (g+1) b r bN ed):ho (o+1) l g b (.group (g+1) r nm) bN ed:=⟨rfl,⟨jI o,h.rw⟩,⟨rfl,h.1.1,h.2.wf⟩,h.2.rr.trans (ez ..),h.2.gi,h.2.four⟩
theorem ho.again(C:0<n)(I:n<=g)(af:a<2):ho (o+1) l g b (.again n a) g b:=⟨rfl,jI o,⟨C,I,af⟩,rfl,rfl,id⟩
theorem ho.d4(h:b<4)(C:ft o l 3 g (b+1) ab cV fP)(I:ft o l 3 cV fP aU dG gs):ho (o+1) l g b (.d4 ab aU) dG gs:=by
 refine bf C λ c k=>?_;clear C;refine bf c λ a d=>?_;obtain⟨e,f,rfl,rfl,i⟩:=k
 exact⟨rfl,⟨jI o,⟨a,d,e⟩,I.rw⟩,⟨⟨a,I.1.1⟩,f,I.2.wf⟩,I.2.rr.trans (ez ..),I.2.gi.trans ((bB (·+_) (ez ..)).trans ((ez ..).trans (bB _ (ez ..)))),λ z=>I.2.four (i h)⟩
theorem ho.atomic(h:ft o l 3 g b r bN ed):ho (o+1) l g b (.atomic r) bN ed:=⟨rfl,⟨jI o,h.rw⟩,⟨h.1.1,h.2.wf⟩,h.2.rr,h.2.gi,h.2.four⟩
theorem ho.look(h:ft o 0 3 g b r bN ed):ho (o+1) l g b (.look r none cW) bN ed:=⟨rfl,⟨jI o,.inl ⟨rfl,h.rw⟩⟩,⟨h.1.1,h.2.wf⟩,h.2.rr,h.2.gi,h.2.four⟩
theorem ho.wide(h:w<3)(a:jB w x)(c:0<w):ho (o+1) l g b (.look x (some w) cW) g b:=e_ a.wf λ d e f=>f5 d λ j k i m=>⟨rfl,⟨jI o,.inr (.inl ⟨w,h,a⟩)⟩,⟨⟨h,.inl ⟨c,a⟩⟩,f _⟩,bB (g+·) e.symm,bB (b+·) i.symm,id⟩
theorem ho.flat(h:w<3)(C:w≠1):ho (o+1) l g b (.look (.place w) (some 0) cW) g b:=⟨rfl,⟨jI o,.inr (.inr ⟨_,rfl⟩)⟩,⟨⟨ae rfl,.inr ⟨rfl,w,h,C,rfl⟩⟩,h⟩,rfl,rfl,id⟩
theorem ho.place(h:w<3):ho (o+1) l g b (.place w) g b:=⟨rfl,jI o,h,rfl,rfl,id⟩
theorem ft.nil:ft o l n g b .nil g b:=⟨⟨rfl,df n⟩,trivial,trivial,rfl,rfl,id⟩
theorem ft.cons(C:ho o l g b x cV fP)(I:ft o l n cV fP r dG gs):ft o l (n+1) g b (.cons x r) dG gs:=by
 obtain⟨a,c,d,rfl,rfl,e⟩:=C
 exact⟨⟨rfl,h' I.1.2⟩,⟨⟨a,I.1.1⟩,c,I.2.k7⟩,⟨⟨a,I.1.1⟩,d,I.2.wf⟩,I.2.rr.trans (ez ..),I.2.gi.trans (ez ..),λ h=>I.2.four (e h)⟩
theorem ft.wf(h:ft o l n g b x bN ed):gB x g/\bN=g+dX x:=⟨h.2.wf,h.2.rr⟩
theorem ft.abS(h:ft o l n g b x bN ed):d5 x=true:=h.1.1
theorem ft.more(h:ft o l n g b r bN ed)(Y:n<=m):ft o l m g b r bN ed:=⟨⟨h.1.1,ah h.1.2 Y⟩,h.2⟩
end
noncomputable def br.snoc:br->br->br
 |.cons x r,H=>.cons x (r.snoc H)
 |_,H=>.cons H .nil
theorem KA{r H:br}:d5 (r.snoc H)=true:=by rcases r with _|_<;>rfl
theorem EK{r:br}(h:d5 r=true):r.v=xo r.B:=by rcases r with _|_<;>first|rfl|exact cq h
theorem Ly(r H:br):(r.snoc H).B=r.B++[H.v]:=by
 induction r with
 |cons _ _ _ a=>exact bB _ a
 |_=>rfl
theorem jB.snoc{w k:Nat}{r:br}(h:jB w r)(a:k<6):jB (w+1) (r.snoc (.one k)):=by
 induction h with
 |nil=>exact .cons a .nil
 |cons C _ b=>exact .cons C b
theorem ft.ae6{o l n g b bN ed:Nat}{x r:br}(h:ft o l n g b (.cons x r) bN ed):∃m cV fP,n=m+1/\ho o l g b x cV fP/\ft o l m cV fP r bN ed:=by
 obtain⟨⟨_,c⟩,⟨⟨bG,d⟩,e,f⟩,⟨_,iN,mH⟩,i,a,k⟩:=h
 refine a7 (ha (ah (jI _) c)) λ m j=>?_;subst j
 have a:=a.trans (ez ..).symm
 exact gw m _ _ ⟨rfl,⟨bG,e,iN,rfl,rfl,λ D=>ah (ah (dD ..) (jF a.symm)) (k D)⟩,⟨d,k1 c⟩,f,mH,i.trans (ez ..).symm,a,λ D=>k (ah (dD ..) D)⟩
theorem ft.snoc{o l cV fP dG gs:Nat}{r x:br}(a:ho o l cV fP x dG gs):∀{n g b:Nat},ft o l n g b r cV fP->ft o l (n+1) g b (r.snoc x) dG gs:=by
 induction r with
 |nil=>intro n g b h;obtain rfl:=h.2.rr;obtain rfl:=h.2.gi;exact .cons a .nil
 |cons H r _ c=>intro n g b h;refine fg h.ae6 λ m z z d C I=>?_;subst d;exact .cons C (c I)
 |_=>intro n g b h;exact cq h.1.1
def eu(e:U)(s m g b:Nat):Prop:=s<e.next/\∃sc c,∃a:Nat,a+m<=100000/\(∀v∈sc,∃i,v=.int i)/\sc.length<=100/\e.get s=some (.list [.lst sc,.int a,.int c,.int g,.int b])
theorem eu.mono{e:U}{s m a g b:Nat}(h:eu e s m g b)(c:a<=m):eu e s a g b:=
 bf h λ d h=>xV h λ sc f i j C=>⟨d,sc,f,i,ah (e7 c _) j,C⟩
theorem eu.same{e M:U}{s m g b:Nat}(h:eu e s m g b)(Y:s<M.next)(a:M.get s=e.get s):eu M s m g b:=
 tN h λ z sc c d f C I af=>⟨Y,sc,c,d,f,C,I,a.trans af⟩
theorem cn{n:Nat}(h:n<=100):n<=c7:=ah h (ae rfl)
theorem DM(o:Nat):List.all [E.str rU,jY o] fM=true:=by
 refine nc ?_ ?_ ?_ ?_ ?_ (λ z=>?_) o<;>rfl
theorem WC{i:Int}(a:-1000000000<=i)(C:i<=1000000000):dU i=true:=by
 unfold dU;rw[fi a,fi C];rfl
theorem Kz{i:Int}(a:0<=i)(C:i<=1000000000000):small i=true:=by
 refine fi ?_;lia
theorem G4{x m:Int}(h:0<m):0<=x.fmod m/\x.fmod m<m:=⟨Int.fmod_nonneg_of_pos x h,Int.fmod_lt_of_pos x h⟩
theorem acA{j m:Nat}(h:j+m<=100000):(0<=(j:Int)/\(j:Int)<=1000000000)/\small (j:Int)=true:=⟨⟨i5 j,hU.mpr (J [_,_] 0xee6b2800c320061a808329001 L h)⟩,Kz (i5 j) (hU.mpr (J [_,_] 0x3a3529440010320061a808329001 L h))⟩
theorem B0{i:Int}(h:0<=i/\i<=1000000000):dU i=true:=WC (Int.le_trans (by decide) h.1) h.2
theorem nV{n s m g b:Nat}{k:Int}{A:bo}{e:U}(B:eu e s (m+1) g b)(l:0<k)
  (q:∀(o:Nat) M,(o:Int)<k->eu M s m g b->Fr (·=s) e M->A (.int o) M):call (n+1) 114 [.ref s,.int k] A e:=by
 refine tN B λ C sc p d r t u h=>bf (acA r) λ D w=>?_
 have f:=dH e s (.list [.lst sc,.int (d+1),.int p,.int g,.int b])
 have fin:∀{x:Int},A (.int (x.fmod _)) (e.upd s _):=λ{x}=>by
  refine bf (G4 (x:=x) l) λ a c=>a7 (uk a) λ o E=>?_
  rw[E] at c⊢
  exact q o _ c ⟨C,sc,p,d+1,ah (jF (vX ..)) r,t,u,f⟩ (Fr.upd _ _ _ rfl)
 have y:∀{x:Int},mX .Mod (.int x) (.int _)=some _:=a9 (Int.ne_of_gt l)
 refine aH (adX ..) (rH h rfl (tx h (by decide) (show 1<5 by decide) rfl (rH f rfl (lN (aT (ah u (ae rfl))) (iE (k5 (λ j=>?_) λ z=>?_))))))
 ·refine rH f rfl ?_
  have j:=dR.mp j
  refine a7 (t _ (List.getElem_mem j)) λ i F=>bz (v:=.int i) ?_ (dg y fin)
  show(if 0<=(d:Int)&&dU _ then sc[(d:Int).toNat]? else none)=_
  rw[B0 D]
  show sc[d]?=_
  rw[hK j,F]
 ·exact rH f rfl (dg (aT (by rw[w];rfl)) (dg rfl (dg (aT (by rw[w];rfl)) (dg rfl (dg rfl (dg y fin))))))
theorem eu.alloc{e:U}{s m g b:Nat}(h:eu e s m g b)(p:dm):eu (e.alloc p) s m g b:=h.same (j' h.1) (iB (e' h.1))
theorem w'(x:br):fM x.v=true:=by rcases x with _|_<;>rfl
theorem mb{b:Bool}{k:Bool->U->Prop}{bl:U->Prop}{e:U}(C:b=true->k true e)(I:b=false->bl e):cw .Or b k bl e:=by rcases b with _|_;exact I rfl;exact C rfl
theorem iZ{b:Bool}{k:Bool->U->Prop}{bl:U->Prop}{e:U}(C:b=true->bl e)(I:b=false->k false e):cw .And b k bl e:=by rcases b with _|_;exact I rfl;exact C rfl
theorem aaO{n:Nat}{A:bo}{e:U}(q:A (.ref e.next) (e.alloc (.list [jY 0,jY 1,jY 2,jY 3,jY 4,jY 5]))):call (n+1) 112 [] A e:=aH (adV ..) (cb (ae rfl) rfl (cb (ae rfl) rfl (cb (ae rfl) rfl (cb (ae rfl) rfl (cb (ae rfl) rfl (cb (ae rfl) rfl (e2 (ae rfl) q)))))))
noncomputable def mu(c:Nat):E:=.tup [.int (f' c).1,.int (f' c).2.1,.str (f' c).2.2]
theorem VE{n:Nat}{A:bo}{e:U}(q:A (.ref e.next) (e.alloc (.list [mu 0,mu 1,mu 2,mu 3,mu 4,mu 5]))):call (n+1) 113 [] A e:=aH (adW ..) (cb (ae rfl) rfl (cb (ae rfl) rfl (cb (ae rfl) rfl (cb (ae rfl) rfl (cb (ae rfl) rfl (cb (ae rfl) rfl (e2 (ae rfl) q)))))))
theorem aaf{o:Nat}{B:List E}{v:E}(a:B.length<=100)(h:B[o]?=some v):u2 (.list B) (.int o)=some v:=by
 show(if 0<=(o:Int)&&dU o then B[(o:Int).toNat]? else none)=_
 rw[(B0 ⟨i5 o,Int.le_trans (hU.mpr (ah (kc (iz.mp h).1) a)) (by decide)⟩)]
 exact h
theorem vi{n s m g b:Nat}{B:List E}{k:bo}{e aI:U}{a:Nat}(h:e.get a=some (.list B))(i:a≠s)(j:a<e.next){l:Nat}(c:B.length=l)(p:0<l)(r:l<=100)(t:eu e s (m+1) g b)(u:Fr (·=s) aI e)
  (q:∀(o:Nat) v M,B[o]?=some v->eu M s m g b->Fr (·=s) aI M->k v M):call (n+1) 114 [.ref s,.int l] (λ o=>item (.ref a) o k) e:=by
 refine nV t (dR.mpr p) λ o M w x f=>?_
 have d:=hK (rwl c (dR.mp w))
 exact rH (f.get h j i) (aaf (rwl c r) d) (q o _ _ d x (u.trans f))
theorem aaK{o:Nat}{v:E}(h:[jY 0,jY 1,jY 2,jY 3,jY 4,jY 5][o]?=some v):o<6/\v=jY o:=by
 match o,h with
 |0,h=>obtain rfl:=cm h;exact⟨ae rfl,rfl⟩
 |1,h=>obtain rfl:=cm h;exact⟨ae rfl,rfl⟩
 |2,h=>obtain rfl:=cm h;exact⟨ae rfl,rfl⟩
 |3,h=>obtain rfl:=cm h;exact⟨ae rfl,rfl⟩
 |4,h=>obtain rfl:=cm h;exact⟨ae rfl,rfl⟩
 |5,h=>obtain rfl:=cm h;exact⟨ae rfl,rfl⟩
theorem Vu{o:Nat}{v:E}(h:[mu 0,mu 1,mu 2,mu 3,mu 4,mu 5][o]?=some v):o<6/\v=mu o:=by
 match o,h with
 |0,h=>obtain rfl:=cm h;exact⟨ae rfl,rfl⟩
 |1,h=>obtain rfl:=cm h;exact⟨ae rfl,rfl⟩
 |2,h=>obtain rfl:=cm h;exact⟨ae rfl,rfl⟩
 |3,h=>obtain rfl:=cm h;exact⟨ae rfl,rfl⟩
 |4,h=>obtain rfl:=cm h;exact⟨ae rfl,rfl⟩
 |5,h=>obtain rfl:=cm h;exact⟨ae rfl,rfl⟩
theorem D1{n s m g b:Nat}{k:bo}{e aI:U}(c:eu e s (m+1) g b)(d:Fr (·=s) aI e)(q:∀(o:Nat) M,o<6->eu M s m g b->Fr (·=s) aI M->k (jY o) M):
  call (n+1) 112 [] (λ a=>call (n+1) 114 [.ref s,.int 6] λ o=>item a o k) e:=by
 refine aaO (vi (l:=6) (fR ..) (hV c.1) (eo _) rfl (ae rfl) (ae rfl) (c.alloc _) (d.trans (Fr.alloc _ _ _)) λ o v M h i f=>bf (aaK h) λ C j=>?_);clear h;subst j
 exact q o _ C i f
theorem Kc{e:U}{w:Nat}(h:w<=100):hy e (.rng 0 w 1)=some (j0 0 w 1)/\(j0 0 w 1).length=w/\dU (w:Int)=true:=by
 have a:=B0 ⟨i5 w,Int.le_trans (hU.mpr h) (by decide)⟩
 refine⟨?_,?_,a⟩
 ·show(if(dU 0&&dU w&&(1==1||1==-1))=true then _ else _)=_
  rw[a]
  rfl
 ·unfold j0;simp
theorem Ki{x:br}{a:List E}(C:d5 x=true)(I:x.B=a):E.tup [.str tm,.lst a]=x.v:=by rw[EK C,I];rfl
theorem afk{n s m g b w:Nat}{A:bo}{e:U}(d:eu e s (m+3) g b)(i:w<3)
  (q:∀x M,(w=0->∃u,u<3/\u≠1/\x=.place u)->(0<w->jB w x)->eu M s m g b->Fr (·=s) e M->A x.v M):call (n+2) 115 [.ref s,.int w] A e:=by
 refine aH (adY ..) (jO (U_ (λ h=>?_) λ h=>?_))
 ·have h:=k3.mp h
  refine e2 (ae rfl) (vi (l:=2) (fR ..) (hV d.1) (eo _) rfl (ae rfl) (by decide) (d.alloc _) (Fr.alloc _ _ _) λ o v M a t f=>?_)
  have fin:∀{u},u<3->u≠1->A _ _:=λ C I=>q _ _ (λ z=>⟨_,C,I,rfl⟩) (λ D=>((hV D) h).elim) (t.mono (dD ..)) f
  match o,a with
  |0,a=>obtain rfl:=cm a;exact cb (ae rfl) rfl (fin (u:=2) (ae rfl) (by decide))
  |1,a=>obtain rfl:=cm a;exact cb (ae rfl) rfl (fin (u:=0) (ae rfl) (by decide))
 ·refine e_ (Kc (ah (kc i) (by decide))) λ ab aU y=>qV (xl y) (uy ab (λ r c M=>∃x,jB c.length x/\x.B=c/\c.length+r.length=w/\eu M s (m+1+r.length) g b/\Fr (·=s) e M) ⟨.nil,.nil,rfl,(gr _).trans aU,d.mono (rwl aU (ah (e7 (nP i) _) (jF (ez ..)))),.refl _ _⟩ (λ z z z z=>trivial) (λ v r c E J j F=>?_) λ c E j=>?_)
  ·refine LK j λ x C I af k p=>⟨cn (ah (ah (dD ..) (jF af)) (ah (kc i) (by decide))),D1 k p λ o K a G H=>cb (cn (n:=2) (by decide)) (DM o) (F _ _ ⟨x.snoc (.one o),?_,(Ly x _).trans (by rw[I];rfl),?_,G,H⟩)⟩
   ·rw[bR];exact C.snoc a
   ·rw[bR];exact(vX ..).trans af
  ·refine LK j λ x C I af k p=>?_;have af:c.length=w:=af
   have C:=af▸C
   refine cb (cn (n:=2) (by decide)) rfl ?_
   exact rwl (Ki C.wf.1.1 I) (q x _ (λ D=>((hV (Nat.pos_of_ne_zero λ D=>h (bB _ D))) D).elim) (λ z=>C) (k.mono (dD ..)) p)
noncomputable def nU:Nat->Nat
 |0=>6
 |o+1=>6*nU o+8
def NodeOk(o:Nat):Prop:=∀(l s m g b n:Nat)(A:bo)(e:U),2*o+4<=n->eu e s (m+nU o) g b->
 (∀x bN ed M,ho o l g b x bN ed->eu M s m bN ed->Fr (·=s) e M->A x.v M)->call n 116 [.ref s,.int o,.int l] A e
theorem vl{o:Nat}(i:NodeOk o){l s m g b n:Nat}{A:bo}{e:U}(Y:2*o+5<=n)(j:eu e s (m+(3*nU o+1)) g b)
  (q:∀x bN ed M,ft o l 3 g b x bN ed->eu M s m bN ed->Fr (·=s) e M->A x.v M):call n 117 [.ref s,.int o,.int l] A e:=by
 refine a7 (ha (ah (gC 1 _) Y)) λ n p=>?_;subst p
 have Y:=k1 Y
 refine a7 (ha (ah (gC 1 _) Y)) λ n t=>?_;subst t
 refine aH (adZ ..) (nV j (by decide) λ k J a u w=>?_)
 have a:=nP (dR.mp a)
 refine e_ (Kc (ah a (by decide))) λ ab aU y=>qV (xl y) (uy ab (λ r c M=>∃x bN ed,ft o l c.length g b x bN ed/\x.B=c/\c.length+r.length=k/\eu M s (m+nU o*r.length) bN ed/\Fr _ e M) (gw .nil g b ⟨.nil,rfl,(gr _).trans aU,u.mono (e7 (aU.symm▸rwr (Nat.mul_comm ..) (pW _ a)) m),w⟩) (λ z z z z=>trivial) (λ v r c D K d E=>?_) λ c D d=>?_)
 ·refine LM d λ x bN ed C I af f h=>⟨cn (ah (ah (dD ..) (jF af)) (ah a (by decide))),i l s _ bN ed _ _ _ Y (f.mono (jF (ez ..))) λ H dG gs L b_ F G=>E _ _ (gw (x.snoc H) dG gs ⟨?_,(Ly x _).trans (by rw[I]),?_,F,h.trans G⟩)⟩
  ·rw[bR];exact ft.snoc b_ C
  ·rw[bR];exact(vX ..).trans af
 ·refine LM d λ x bN ed C I af f h=>?_;have af:c.length=k:=af
  refine cb (cn (n:=2) (by decide)) rfl ?_
  exact rwl (Ki C.1.1 I) (q x bN ed _ (C.more (rwl af a)) f h)
theorem eu.sR{e:U}{s m g b:Nat}(h:eu e s m g b){k:bo}(q:k (.int g) e):item (.ref s) (.int 3) k e:=tN h λ z sc a c z z z h=>rH h rfl q
theorem eu.uq{e:U}{s m g b:Nat}(h:eu e s m g b){k:bo}(q:k (.int b) e):item (.ref s) (.int 4) k e:=tN h λ z sc a c z z z h=>rH h rfl q
theorem eu.acg{e:U}{s m g b bN:Nat}{x:Int}(h:eu e s m g b)(a:x=bN){A:U->Prop}(q:∀M,eu M s m bN b->Fr (·=s) e M->A M):gM (.ref s) (.int 3) (.int x) A e:=by
 refine tN h λ c sc d f i C I h=>?_
 subst a
 exact tx h (by decide) (show 3<5 by exact ae rfl) rfl (q _ ⟨c,sc,d,f,i,C,I,dH ..⟩ (Fr.upd _ _ _ rfl))
theorem eu.Kw{e:U}{s m g b ed:Nat}{x:Int}(h:eu e s m g b)(a:x=ed){A:U->Prop}(q:∀M,eu M s m g ed->Fr (·=s) e M->A M):gM (.ref s) (.int 4) (.int x) A e:=by
 refine tN h λ c sc d f i C I h=>?_
 subst a
 exact tx h (by decide) (show 4<5 by exact ae rfl) rfl (q _ ⟨c,sc,d,f,i,C,I,dH ..⟩ (Fr.upd _ _ _ rfl))
theorem tC{o:Nat}{k:bo}{e:U}(q:k (.int o) e):bw .Sub (.int (o+1:Nat)) (.int 1) k e:=dg (bB _ (bB _ (Int.add_sub_cancel o 1))) q
end
theorem aap{l s m g b n:Nat}{A:bo}{e:U}(Y:4<=n)(a:eu e s (m+6) g b)
  (q:∀k M,k<6->eu M s m g b->Fr (·=s) e M->A (br.one k).v M):call n 116 [.ref s,.int (0:Nat),.int l] A e:=by
 refine a7 (ha (ah (by decide:2<=4) Y)) λ n c=>?_;clear Y;subst c
 refine aH (Lf ..) (nV a (by decide) λ w r t d f=>?_)
 refine d_ (iE (mb (λ z=>cE ?_) λ z=>ru rfl (xk (cE ?_))))
 all_goals exact(λ(k:bo)(h:∀o M,o<6->eu _ s _ g b->Fr _ e _->k _ _)=>D1 (n:=n) d f h) _ λ o u i j p=>cb (cn (n:=2) (ae rfl)) (DM o) (q o _ i (j.mono (dD ..)) p)
theorem aaW(m c:Nat):m+3+c<=m+(6*c+6):=J [_,_] 0x1845304040146220000 L
theorem aaX(m c:Nat):m+4+(3*c+1)<=m+(6*c+7):=J [_,_] 0x388a608080088a30808220000 L
theorem aaY(m c:Nat):m+(3*c+1)+(3*c+1)<=m+(6*c+7):=J [_,_] 0x388a608080088a30802228c2020000 L
theorem HM{x H:Nat}(h:¬x<H):¬(x:Int)<H:=λ D=>h (dR.mp D)
theorem neN{x H:Nat}(h:x≠H):(x:Int)≠H:=λ D=>h (k3.mp D)
theorem Z2{m:Nat}{v:E}(a:[E.str [],.str [63],.str [43]][m]?=some v):m<3/\v=.str (ju m):=by
 match m,a with
 |0,a=>obtain rfl:=cm a;exact⟨ae rfl,rfl⟩
 |1,a=>obtain rfl:=cm a;exact⟨ae rfl,rfl⟩
 |2,a=>obtain rfl:=cm a;exact⟨ae rfl,rfl⟩
theorem aa2{m:Nat}{v:E}(a:[E.str [94],.str [36],.str [92,98]][m]?=some v):m<3/\v=.str (rX m):=by
 match m,a with
 |0,a=>obtain rfl:=cm a;exact⟨ae rfl,rfl⟩
 |1,a=>obtain rfl:=cm a;exact⟨ae rfl,rfl⟩
 |2,a=>obtain rfl:=cm a;exact⟨ae rfl,rfl⟩
theorem aao{o:Nat}(K:NodeOk o):NodeOk (o+1):=by
 intro l s m g b n A e Y ar q
 refine a7 (ha (ah (ah (by decide:3<=6) (gC 6 _)) Y)) λ n eI=>?_;subst eI
 have Y:=k1 (k1 (k1 Y))
 have O:=h' (h' Y)
 refine aH (Lf ..) (nV ar (by decide) λ w aw aD d D=>?_)
 have rows:=d.mono (aaX m _)
 by_cases I:w<2
 ·exact d_ (bj (bB _ (fi (dR.mpr I))) (D1 d D λ k G aC f j=>cb (cn (n:=2) (ae rfl)) (DM k) (q _ g b _ (.one aC) (f.mono (dD ..)) j)))
 refine d_ (rM (HM I) (iX (wi (neN (Nat.succ_ne_zero o)) (iX (bt ?_)))))
 by_cases U:w<5/\0<l/\b<3
 ·refine e_ U λ W Q R=>?_;clear U
  refine a7 (ha Q) λ l eV=>?_;subst eV
  refine d_ (u_ (dR.mpr W) (gD (HL (dR.mpr Q) (gD (d.uq (u_ (dR.mpr R) (gD (cE (d.uq (d.Kw rfl λ G f j=>VE (vi (l:=6) (fR ..) (hV f.1) (eo _) rfl (ae rfl) (by decide) (f.alloc _) ((D.trans j).trans (Fr.alloc _ _ _)) λ c v E L p t=>bf (Vu L) λ XN fh=>?_)))))))))));subst fh
  refine aH (TX _ _ _ _ _ _ _ _ _ _) (tC (tC (K l s _ g _ _ _ _ (oT (h' Y)) (p.mono (aaW m _)) λ x bN ed J ag y B=>e2 (cn (n:=3) (by decide)) (vi (l:=3) (fR ..) (hV y.1) (eo _) rfl (ae rfl) (by decide) (y.alloc _) ((t.trans B).trans (Fr.alloc _ _ _)) λ cP v lD L ze rx=>bf (Z2 L) λ N ey=>?_))));subst ey
  exact cb (cn (n:=6) (by decide)) (by show(true&&(fM _&&true))=true;rw[w'];rfl) (q _ bN ed _ (.rounds R XN N ag) (ze.mono (dD ..)) rx)
 refine(λ F=>d_ (iE (iZ (λ W=>n1 (iZ (λ Q=>d.uq (iE (iZ (λ R=>(U ⟨dR.mp (gg W),dR.mp (gg Q),dR.mp (gg R)⟩).elim) λ z=>F))) λ z=>F)) λ z=>F))) ?_
 refine bt ?_
 by_cases hg:w<8
 ·exact u_ (dR.mpr hg) (cE (rows.sR (rows.acg (bN:=g+1) rfl λ G f j=>f.sR (tC (vl K O f λ r bN ed E V p t=>nV p (by decide) λ cP J N y B=>jO (cb (cn (n:=4) (by decide)) (by show(true&&true&&(fM _&&true))=true;rw[w'];rfl) (q _ bN ed _ (.group V) (y.mono (dD ..)) (((D.trans j).trans t).trans B))))))))
 refine rM (HM hg) (bt ?_)
 by_cases S:w=8/\0<g
 ·exact d_ (ru (bB _ S.1) (gD (d.sR (HL (dR.mpr S.2) (gD (cE (d.sR (nV d (dR.mpr S.2) λ i G aM f j=>dg (bB _ (bB _ (Int.add_comm 1 _))) (nV f (by decide) λ a E au p t=>cb (cn (n:=3) (by decide)) rfl (q _ g b _ (.again (jI i) (dR.mp aM) (dR.mp au)) (p.mono (dD ..)) ((D.trans j).trans t)))))))))))
 refine(λ F=>d_ (jO (iZ (λ h=>d.sR (n1 (iZ (λ X=>(S ⟨k3.mp (eq_of_beq h),dR.mp (gg X)⟩).elim) λ z=>F))) λ z=>F))) ?_
 refine bt ?_
 by_cases T:w=9/\b<4
 ·refine d_ (ru (bB Int.ofNat T.1) (gD (d.uq (u_ (dR.mpr T.2) (gD (cE (d.uq (d.Kw (ed:=b+1) rfl λ G f j=>qV (v:=.rng 0 2 1) rfl ?_))))))))
  have f:=f.mono (aaY m (nU o))
  have j:=D.trans j
  clear d rows D
  refine uy (items:=j0 0 2 1) rfl (λ r P M=>(r.length=2/\P=[]/\M=G)\/(r.length=1/\∃ab cV fP,ft o l 3 g (b+1) ab cV fP/\P=[ab.v]/\eu M s (m+(3*nU o+1)) cV fP/\Fr (·=s) e M)\/
   (r.length=0/\∃ab aU dG gs,ho (o+1) l g b (.d4 ab aU) dG gs/\P=[ab.v,aU.v]/\eu M s m dG gs/\Fr (·=s) e M)) (.inl ⟨rfl,rfl,rfl⟩) (λ z z z z=>trivial) (λ v r P E g' Z ct=>?_) λ P E Z=>?_
  ·rcases Z with⟨V,rfl,rfl⟩|⟨V,ab,cV,fP,C,rfl,p,t⟩|⟨V,_⟩
   ·exact⟨cn (n:=0) (ae rfl),tC (vl K (l:=l) O f λ ab cV fP J C y B=>ct _ _ (.inr (.inl ⟨Nat.succ.inj V,ab,cV,fP,C,rfl,y,j.trans B⟩)))⟩
   ·exact⟨cn (n:=1) (ae rfl),tC (vl K (l:=l) O p λ aU dG gs J I y B=>ct _ _ (.inr (.inr ⟨Nat.succ.inj V,ab,aU,dG,gs,.d4 T.2 C I,rfl,y,t.trans B⟩)))⟩
   ·exact((Nat.succ_ne_zero _) V).elim
  ·rcases Z with⟨V,_⟩|⟨V,_⟩|⟨_,ab,aU,dG,gs,C,rfl,p,t⟩
   ·injection V
   ·injection V
   ·exact cb (cn (n:=2) (ae rfl)) rfl (q (.d4 ab aU) dG gs E C p t)
 refine(λ F=>d_ (jO (iZ (λ h=>d.uq (iE (iZ (λ X=>(T ⟨k3.mp (eq_of_beq h),dR.mp (gg X)⟩).elim) λ z=>F))) λ z=>F))) ?_
 refine bt ?_
 by_cases HN:w=10
 ·refine ru (bB Int.ofNat HN) (cE (tC (vl K (l:=l) O rows λ r bN ed E V p t=>?_)))
  exact cb (cn (n:=2) (ae rfl)) (by show(true&&(fM r.v&&true))=true;rw[w'];rfl) (q (.atomic r) bN ed E (.atomic V) (p.mono (dD ..)) (D.trans t))
 refine wi (neN HN) (bt ?_)
 by_cases HO:w=11
 ·refine ru (bB Int.ofNat HO) (cE (tC (vl K (l:=0) O rows λ r bN ed E V p t=>nV (m:=m+3) p (by decide) λ cP J N y B=>jO ?_)))
  exact cb (cn (n:=4) (by decide)) (by show(true&&(fM r.v&&true))=true;rw[w'];rfl) (q (.look r none ((cP:Int)==1)) bN ed J (.look V) (y.mono (dD ..)) ((D.trans t).trans B))
 refine wi (neN HO) (bt ?_)
 by_cases HP:w=12
 ·refine ru (bB Int.ofNat HP) (cE (nV (m:=m+(6*nU o+6)) d (by decide) λ u G b6 f j=>afk (m:=m+(6*nU o+3)) f (dR.mp b6) λ x E IC Yu p t=>nV (m:=m+(6*nU o+2)) p (by decide) λ cP J N y B=>jO ?_))
  refine cb (cn (n:=4) (by decide)) (by show(true&&(fM x.v&&true))=true;rw[w'];rfl) (q (.look x (some u) ((cP:Int)==1)) g b J ?_ (y.mono (dD ..)) (((D.trans j).trans t).trans B))
  rcases Nat.eq_zero_or_pos u with rfl|bD
  ·refine fz (IC rfl) λ H C I fB=>?_;clear IC;subst fB
   exact .flat C I
  ·exact .wide (dR.mp b6) (Yu bD) bD
 refine wi (neN HP) (bt (e2 (cn (n:=3) (by decide)) (vi (l:=3) (m:=m+(6*nU o+6)) (fR ..) (hV d.1) (eo _) rfl (ae rfl) (by decide) (d.alloc _) (D.trans (Fr.alloc _ _ _)) λ cP v G L f j=>(bf (aa2 L) λ N gQ=>?_))));clear L;subst gQ
 exact cb (cn (n:=2) (ae rfl)) rfl (q (.place cP) g b G (.place N) (f.mono (dD ..)) j)
theorem aan(o:Nat):NodeOk o:=by
 induction o with
 |zero=>exact λ l s m g b n A e Y a q=>aap Y a λ k M c=>q (.one k) g b M (.one c)
 |succ o d=>exact aao d
end
section
section
abbrev cA:=List (Option (Nat×Nat))
abbrev ck:=Nat×cA
noncomputable def pq:Nat->List Nat
 |0=>[97]
 |1=>[98]
 |2=>[10]
 |3=>[97,98]
 |4=>[97,98,65,49]
 |_=>[97]
noncomputable def DV:Nat->Bool
 |0=>false
 |1=>false
 |2=>true
 |3=>false
 |4=>false
 |_=>true
noncomputable def qJ(f:Bool)(k j:Nat):Bool:=((pq k).contains j||(f&&(pq k).contains (vy j)&&k !=4))!=DV k
noncomputable def r7(j:List Nat):Bool:=j==[97]||j==[98]||j==[65]||j==[49]
noncomputable def kR(w:Nat)(T:List Nat)(a:Nat):Bool:=match w with
 |0=>a==0
 |1=>T.drop a==[]||T.drop a==[10]
 |_=>r7 ((T.take a).drop (a-1))!=r7 ((T.drop a).take 1)
noncomputable def oh(f:Bool)(x H:List Nat):Bool:=x==H||(f&&x.map pf==H.map pf)
noncomputable def dh(c:Nat):Nat:=(f' c).1.toNat
noncomputable def dW(c:Nat):Int:=(f' c).2.1
noncomputable def gL(F:Nat->cA->List ck)(bF:Nat)(a4:Int)(lazy:Bool):Nat->Nat->Int->Nat->cA->List ck
 |0,_,_,_,_=>[]
 |n+1,done,b,a,O=>
  if done<bF then(F a O).flatMap λ w=>gL F bF a4 lazy n (done+1) a w.1 w.2
  else if b=a\/(0<=a4/\a4<=done) then[(a,O)]
  else if lazy then(a,O)::(F a O).flatMap λ w=>gL F bF a4 lazy n (done+1) a w.1 w.2
  else((F a O).flatMap λ w=>gL F bF a4 lazy n (done+1) a w.1 w.2)++[(a,O)]
theorem tv{F:Nat->cA->List ck}{bF:Nat}{a4:Int}{lazy:Bool}{n done:Nat}{b:Int}{a:Nat}{O:cA}:gL F bF a4 lazy (n+1) done b a O=if done<bF then(F a O).flatMap λ w=>gL F bF a4 lazy n (done+1) a w.1 w.2
 else if b=a\/(0<=a4/\a4<=done) then[(a,O)]
 else if lazy then(a,O)::(F a O).flatMap λ w=>gL F bF a4 lazy n (done+1) a w.1 w.2
 else((F a O).flatMap λ w=>gL F bF a4 lazy n (done+1) a w.1 w.2)++[(a,O)]:=rfl
noncomputable def m8:br->Bool
 |.one _=>true
 |_=>false
section
variable(T:List Nat)(f:Bool)
noncomputable def bI:br->Nat->cA->List ck
 |.one k,a,O=>match T[a]? with
  |some c=>if qJ f k c then[(a+1,O)] else[]
  |none=>[]
 |.place w,a,O=>if kR w T a then[(a,O)] else[]
 |.rounds x c m,a,O=>if m=2 then(gL (bI x) (dh c) (dW c) (m==1) 12 0 (-1) a O).take 1 else gL (bI x) (dh c) (dW c) (m==1) 12 0 (-1) a O
 |.group n r _,a,O=>(bI r a O).map λ w=>(w.1,w.2.set (n-1) (some (a,w.1)))
 |.again n _,a,O=>match O[n-1]? with
  |some (some (b,d))=>if a+(d-b)<=T.length/\oh f ((T.drop a).take (d-b)) ((T.drop b).take (d-b))=true then[(a+(d-b),O)] else[]
  |_=>[]
 |.d4 ab aU,a,O=>bI ab a O++bI aU a O
 |.atomic r,a,O=>(bI r a O).take 1
 |.look x w cW,a,O=>
  if cW then(match if w.getD 0<=a then(bI x (a-w.getD 0) O).take 1 else[] with
   |[]=>[(a,O)]
   |_=>[])
  else(if w.getD 0<=a then(bI x (a-w.getD 0) O).take 1 else[]).map λ v=>(a,v.2)
 |.nil,a,O=>[(a,O)]
 |.cons x r,a,O=>(bI x a O).flatMap λ w=>bI r w.1 w.2
noncomputable def oZ(F:Nat->cA->List ck)(G:Nat->cA->Nat)(bF:Nat)(a4:Int):Nat->Nat->Int->Nat->cA->Nat
 |0,_,_,_,_=>0
 |n+1,done,b,a,O=>
  if done<bF\/¬(b=a\/(0<=a4/\a4<=done)) then 2+G a O+((F a O).map λ w=>1+oZ F G bF a4 n (done+1) a w.1 w.2).sum
  else 1
theorem Gu{F:Nat->cA->List ck}{G:Nat->cA->Nat}{bF:Nat}{a4:Int}{n done:Nat}{b:Int}{a:Nat}{O:cA}:oZ F G bF a4 (n+1) done b a O=if done<bF\/¬(b=a\/(0<=a4/\a4<=done)) then 2+G a O+((F a O).map λ w=>1+oZ F G bF a4 n (done+1) a w.1 w.2).sum else 1:=rfl
noncomputable def eE:br->Nat->cA->Nat
 |.one _,_,_=>1
 |.place _,_,_=>1
 |.rounds x c m,a,O=>3+oZ (bI T f x) (eE x) (dh c) (dW c) 12 0 (-1) a O
 |.group _ r _,a,O=>1+eE r a O+(bI T f r a O).length
 |.again _ _,_,_=>1
 |.d4 ab aU,a,O=>1+eE ab a O+(bI T f ab a O).length+eE aU a O
 |.atomic r,a,O=>2+eE r a O
 |.look x w cW,a,O=>5+(if w.getD 0<=a then eE x (a-w.getD 0) O else 0)
 |.nil,_,_=>0
 |.cons x r,a,O=>eE x a O+((bI T f x a O).map λ w=>eE r w.1 w.2).sum
end
section
variable{T:List Nat}{f:Bool}{x ab aU:br}{a n w c m:Nat}{O:cA}{p:Option Nat}{b:Bool}
theorem xR:bI T f (.place w) a O=if kR w T a then[(a,O)] else[]:=rfl
theorem ES:bI T f (.rounds x c m) a O=if m=2 then(gL (bI T f x) (dh c) (dW c) (m==1) 12 0 (-1) a O).take 1 else gL (bI T f x) (dh c) (dW c) (m==1) 12 0 (-1) a O:=rfl
theorem ER:bI T f (.group n x b) a O=(bI T f x a O).map λ w=>(w.1,w.2.set (n-1) (some (a,w.1))):=rfl
theorem Au:bI T f (.again n m) a O=match O[n-1]? with
 |some (some (b,d))=>if a+(d-b)<=T.length/\oh f ((T.drop a).take (d-b)) ((T.drop b).take (d-b))=true then[(a+(d-b),O)] else[]
 |_=>[]:=rfl
theorem EP:bI T f (.d4 ab aU) a O=bI T f ab a O++bI T f aU a O:=rfl
theorem afg:bI T f (.atomic x) a O=(bI T f x a O).take 1:=rfl
theorem xQ:bI T f (.look x p b) a O=if b then(match if p.getD 0<=a then(bI T f x (a-p.getD 0) O).take 1 else[] with
  |[]=>[(a,O)]
  |_=>[])
 else(if p.getD 0<=a then(bI T f x (a-p.getD 0) O).take 1 else[]).map λ v=>(a,v.2):=rfl
theorem Vj:eE T f (.group n x b) a O=1+eE T f x a O+(bI T f x a O).length:=rfl
theorem Vi:eE T f (.d4 ab aU) a O=1+eE T f ab a O+(bI T f ab a O).length+eE T f aU a O:=rfl
theorem Gx:eE T f (.look x p b) a O=5+(if p.getD 0<=a then eE T f x (a-p.getD 0) O else 0):=rfl
end
inductive cu where
 |test (k:Nat)|run (k bF:Nat) (a4:Int) (lazy:Bool)|plc (w:Nat)|back (n:Nat)|opn (k:Nat)|close (n k:Nat)
 |jump (s:Nat)|split (s q:Nat)|zero (c s:Nat)|loop (c s bF:Nat) (a4:Int) (lazy:Bool) (jk ht:Nat)|again (c s r:Nat)
 |mark (k:Nat)|cut (k:Nat)|refuse (k:Nat)|place (k:Nat)|ret (k:Nat)|behind (w:Nat)|fin
noncomputable def d1:br->Nat
 |.rounds x _ m=>(if m=2 then 1 else 0)+(if m8 x then 0 else 2+d1 x)
 |.group _ r _=>1+d1 r
 |.d4 ab aU=>d1 ab+d1 aU
 |.atomic r=>1+d1 r
 |.look x _ _=>2+d1 x
 |.cons x r=>d1 x+d1 r
 |_=>0
noncomputable def m9(ay:Nat->Nat->List cu)(bF:Nat)(a4:Int)(lazy:Bool)(s k:Nat):List cu:=
 .zero k (k+1)::.loop k (k+1) bF a4 lazy (s+2) (s+4+(ay (s+3) (k+2)).length)::.again k (k+1) (s+3)::(ay (s+3) (k+2)++[.jump (s+1)])
noncomputable def oV(ay:Nat->Nat->List cu)(s k:Nat):List cu:=.mark k::(ay (s+1) (k+1)++[.cut k])
noncomputable def l5(x:br)(ay:Nat->Nat->List cu)(c:Nat)(lazy:Bool):Nat->Nat->List cu:=match x with
 |.one i=>λ z z=>[.run i (dh c) (dW c) lazy]
 |_=>m9 ay (dh c) (dW c) lazy
noncomputable def eD(w:Option Nat):List cu:=match w with
 |none=>[]
 |some w=>[.behind w]
noncomputable def code:br->Nat->Nat->List cu
 |.one i,_,_=>[.test i]
 |.place w,_,_=>[.plc w]
 |.rounds x c m,s,k=>if m=2 then oV (l5 x (code x) c false) s k else l5 x (code x) c (m==1) s k
 |.group n r _,s,k=>.opn k::(code r (s+1) (k+1)++[.close n k])
 |.again n _,_,_=>[.back n]
 |.d4 ab aU,s,k=>.split (s+1) (s+2+(code ab (s+1) k).length)::(code ab (s+1) k++
   .jump (s+2+(code ab (s+1) k).length+(code aU (s+2+(code ab (s+1) k).length) (k+d1 ab)).length)::code aU (s+2+(code ab (s+1) k).length) (k+d1 ab))
 |.atomic r,s,k=>oV (code r) s k
 |.look x w cW,s,k=>if cW then
   .place k::.mark (k+1)::.split (s+3) (s+4+(eD w).length+(code x (s+3+(eD w).length) (k+2)).length)::(eD w++(code x (s+3+(eD w).length) (k+2)++[.refuse (k+1)]))
  else .place k::.mark (k+1)::(eD w++(code x (s+2+(eD w).length) (k+2)++[.cut (k+1),.ret k]))
 |.nil,_,_=>[]
 |.cons x r,s,k=>code x s k++code r (s+(code x s k).length) (k+d1 x)
section
variable{x ab aU:br}{s k c m:Nat}{p:Option Nat}
theorem I_:code (.rounds x c m) s k=if m=2 then oV (l5 x (code x) c false) s k else l5 x (code x) c (m==1) s k:=rfl
theorem YU:code (.d4 ab aU) s k=.split (s+1) (s+2+(code ab (s+1) k).length)::(code ab (s+1) k++
 .jump (s+2+(code ab (s+1) k).length+(code aU (s+2+(code ab (s+1) k).length) (k+d1 ab)).length)::code aU (s+2+(code ab (s+1) k).length) (k+d1 ab)):=rfl
theorem I9{cW:Bool}:code (.look x p cW) s k=if cW then
  .place k::.mark (k+1)::.split (s+3) (s+4+(eD p).length+(code x (s+3+(eD p).length) (k+2)).length)::(eD p++(code x (s+3+(eD p).length) (k+2)++[.refuse (k+1)]))
 else .place k::.mark (k+1)::(eD p++(code x (s+2+(eD p).length) (k+2)++[.cut (k+1),.ret k])):=rfl
end
inductive cG where
 |jt (n:Nat) (p:Option (Nat×Nat))|dK (k:Nat) (v:Int)|hR (row a:Nat)|less (row low a:Nat)|more (row k a:Nat) (left:Int)
noncomputable def cG.ctorIdx(x:cG):Nat:=cG.casesOn x (λ z z=>0) (λ z z=>1) (λ z z=>2) (λ z z z=>3) (λ z z z z=>4)
structure gf where
 a:Nat
 row:Nat
 O:cA
 aj:List Int
 aF:List cG
noncomputable def cG.log:cG->Bool
 |.jt _ _=>true
 |.dK _ _=>true
 |_=>false
noncomputable def gO:List cG->cA->List Int->cA×List Int
 |[],g,r=>(g,r)
 |.jt n p::s,g,r=>gO s (g.set (n-1) p) r
 |.dK k v::s,g,r=>gO s g (r.set k v)
 |_::s,g,r=>gO s g r
noncomputable def gf.zU(j:gf):gf:={j with row:=j.row+1}
noncomputable def l'(j:gf)(k:Nat)(v:Int):gf:={j with aj:=j.aj.set k v,aF:=.dK k (j.aj[k]?.getD 0)::j.aF}
noncomputable def runN(f:Bool)(k:Nat):List Nat->Nat->Nat
 |c::r,m+1=>if qJ f k c then runN f k r m+1 else 0
 |_,_=>0
theorem Eb{f:Bool}{k c m:Nat}{r:List Nat}:runN f k (c::r) (m+1)=if qJ f k c then runN f k r m+1 else 0:=rfl
section
variable(T:List Nat)(f:Bool)
noncomputable def jR(a:Nat)(a4:Int):Nat:=if a4<0 then T.length-a else a4.toNat
noncomputable def gF(k a:Nat):Bool:=match T[a]? with
 |some c=>qJ f k c
 |none=>false
noncomputable def fe:cu->gf->Option (Bool×gf)
 |.test k,j=>some (if gF T f k j.a then(true,{j with a:=j.a+1,row:=j.row+1}) else(false,j))
 |.run k bF a4 lazy,j=>some (if runN f k (T.drop j.a) (jR T j.a (if lazy then bF else a4))<bF then(false,j) else(true,{j with
   a:=j.a+runN f k (T.drop j.a) (jR T j.a (if lazy then bF else a4)),row:=j.row+1,
   aF:=if lazy&&a4 !=bF then .more (j.row+1) k (j.a+runN f k (T.drop j.a) (jR T j.a (if lazy then bF else a4))) (if a4<0 then-1 else a4-bF)::j.aF
    else if bF<runN f k (T.drop j.a) (jR T j.a (if lazy then bF else a4)) then .less (j.row+1) (j.a+bF) (j.a+runN f k (T.drop j.a) (jR T j.a (if lazy then bF else a4)))::j.aF else j.aF}))
 |.plc w,j=>some (if kR w T j.a then(true,j.zU) else(false,j))
 |.back n,j=>match j.O[n-1]? with
  |some (some (b,d))=>if b<=d/\d<=T.length then some (if j.a+(d-b)<=T.length/\oh f ((T.drop j.a).take (d-b)) ((T.drop b).take (d-b))=true then(true,{j with a:=j.a+(d-b),row:=j.row+1}) else(false,j)) else none
  |some none=>some (false,j)
  |none=>none
 |.opn k,j=>if k<j.aj.length then some (true,(l' j k j.a).zU) else none
 |.close n k,j=>match j.aj[k]?,j.O[n-1]? with
  |some v,some p=>if 0<=v then some (true,{j with row:=j.row+1,O:=j.O.set (n-1) (some (v.toNat,j.a)),aF:=.jt n p::j.aF}) else none
  |_,_=>none
 |.jump s,j=>some (true,{j with row:=s})
 |.split s q,j=>some (true,{j with row:=s,aF:=.hR q j.a::j.aF})
 |.zero c s,j=>if c<j.aj.length/\s<j.aj.length then some (true,(l' (l' j c 0) s (-1)).zU) else none
 |.loop c s bF a4 lazy e g,j=>match j.aj[c]?,j.aj[s]? with
  |some rounds,some place=>some (true,if rounds<bF then{j with row:=e} else if place=j.a\/(0<=a4/\a4<=rounds) then{j with row:=g}
   else if lazy then{j with row:=g,aF:=.hR e j.a::j.aF} else{j with row:=e,aF:=.hR g j.a::j.aF})
  |_,_=>none
 |.again c s r,j=>match j.aj[c]? with
  |some v=>if s<j.aj.length then some (true,{l' (l' j c (v+1)) s j.a with row:=r}) else none
  |none=>none
 |.mark k,j=>if k<j.aj.length then some (true,{l' j k 0 with row:=j.row+1,aj:=(j.aj.set k 0).set k ((j.aF.length+1:Nat):Int)}) else none
 |.cut k,j=>match j.aj[k]? with
  |some h=>if 0<=h/\h.toNat<=j.aF.length then some (true,{j with row:=j.row+1,aF:=(j.aF.take (j.aF.length-h.toNat)).filter cG.log++j.aF.drop (j.aF.length-h.toNat)}) else none
  |none=>none
 |.refuse k,j=>match j.aj[k]? with
  |some h=>if 0<=h/\h.toNat<=j.aF.length then some (false,{j with
    O:=(gO (j.aF.take (j.aF.length-h.toNat)) j.O j.aj).1,aj:=(gO (j.aF.take (j.aF.length-h.toNat)) j.O j.aj).2,aF:=j.aF.drop (j.aF.length-h.toNat)}) else none
  |none=>none
 |.place k,j=>if k<j.aj.length then some (true,(l' j k j.a).zU) else none
 |.ret k,j=>match j.aj[k]? with
  |some v=>if 0<=v/\v.toNat<=T.length then some (true,{j with a:=v.toNat,row:=j.row+1}) else none
  |none=>none
 |.behind w,j=>some (if j.a<w then(false,j) else(true,{j with a:=j.a-w,row:=j.row+1}))
 |.fin,_=>none
noncomputable def lM:List cG->cA->List Int->Option gf
 |[],_,_=>none
 |.hR r a::s,g,b=>some ⟨a,r,g,b,s⟩
 |.less r low a::s,g,b=>some ⟨a-1,r,g,b,if low<a-1 then .less r low (a-1)::s else s⟩
 |.more r k a left::s,g,b=>if gF T f k a then some ⟨a+1,r,g,b,if left=1 then s else .more r k (a+1) (if 0<left then left-1 else-1)::s⟩ else lM s g b
 |.jt n p::s,g,b=>lM s (g.set (n-1) p) b
 |.dK k v::s,g,b=>lM s g (b.set k v)
abbrev hI:=Option (Nat×cA)
variable(rows:List cu)
noncomputable def qt:cu->Bool
 |.fin=>true
 |_=>false
theorem zm{r:cu}(h:qt r=true):r=.fin:=by
 rcases r with _|_<;>first|rfl|exact cq h
def xj{cc:Type}(p:Option cc)(D:Prop)(f:cc->Prop):Prop:=match p with
 |some x=>f x
 |none=>D
theorem JW{cc:Type}{p:Option cc}{D:Prop}{f g:cc->Prop}(h:xj p D f)(k:∀x,f x->g x):xj p D g:=by
 rcases p with _|x
 ·exact h
 ·exact k x h
noncomputable def eJ:Nat->gf->hI->Prop
 |0,_,_=>False
 |c+1,j,r=>lq rows[j.row]? λ row=>match qt row with
  |true=>r=some (j.a,j.O)
  |false=>lq (fe T f row j) λ s=>match s.1 with
   |true=>eJ c s.2 r
   |false=>xj (lM T f s.2.aF s.2.O s.2.aj) (r=none) λ b=>eJ c b r
def ji(c:Nat)(g:cA)(a:List Int)(s:List cG)(r:hI):Prop:=xj (lM T f s g a) (r=none) λ j=>eJ T f rows c j r
variable{T f rows}
theorem Wl{bh:Nat}{j:gf}{r:hI}{X:Prop}(h:eJ T f rows (bh+1) j r)(fin:rows[j.row]?=some .fin->r=some (j.a,j.O)->X)
  (step:∀row b c,rows[j.row]?=some row->row≠.fin->fe T f row j=some (b,c)->(b=true->eJ T f rows bh c r)->(b=false->ji T f rows bh c.O c.aj c.aF r)->X):X:=by
 refine qI (show lq _ _ from h) λ row d h=>?_
 rcases q:qt row with _|_
 ·rw[q] at h
  refine qI h λ⟨b,c⟩ e h=>?_
  rcases b with _|_
  ·exact step row false c d (λ D=>by rw[D] at q;exact cq q.symm) e cq λ z=>h
  ·exact step row true c d (λ D=>by rw[D] at q;exact cq q.symm) e (λ z=>h) λ D=>cq D.symm
 ·rw[q] at h;exact fin (rwr (zm q) d) h
end
end
section
noncomputable def At(rows:List cu):Nat->List cu->Prop
 |_,[]=>True
 |s,a::l=>rows[s]?=some a/\At rows (s+1) l
theorem nT{rows:List cu}:∀{l m:List cu}{s:Nat},At rows s (l++m)↔At rows s l/\At rows (s+l.length) m
 |[],m,s=>⟨λ h=>⟨trivial,h⟩,And.right⟩
 |a::l,m,s=>by
  show _/\At _ _ (l++m)↔(_/\_)/\_
  rw[nT,and_assoc,show s+(a::l).length=s+1+l.length by exact cB (J [_,_] 0x5088800044501000 L) (J [_,_] 0x1114040142220000 L)]
section
variable{T:List Nat}{f:Bool}{rows:List cu}
theorem nX:∀{c e:Nat}{j:gf}{r:hI},eJ T f rows c j r->c<=e->eJ T f rows e j r
 |0,_,_,_,h,_=>h.elim
 |c+1,e,j,r,h,g=>by
  refine a7 ((⟨e-1,cB ((d2 _ _)) ((dj (J [_,_] 0xa1100a111001 L g)))⟩:∃o,e=o+1)) λ o l=>?_;subst l
  have i:=k1 g
  refine qI (show lq _ _ from h) λ row d h=>?_
  refine qH (f:=λ row=>match qt row with|true=>r=some (j.a,j.O)|false=>_) d ?_
  rcases q:qt row with _|_
  ·rw[q] at h
   refine qI h λ s k h=>qH k ?_
   obtain⟨b,m⟩:=s
   clear k;rcases b with _|_
   ·exact JW h λ z h=>nX h i
   ·exact nX h i
  ·rw[q] at h;exact h
theorem U7{c a:Nat}{g:cA}{b:List Int}{s:List cG}{r:hI}(h:ji T f rows c g b s r)(d:c<=a):ji T f rows a g b s r:=JW h λ z h=>nX h d
theorem hL{c:Nat}{j a:gf}{r:hI}{row:cu}(C:rows[j.row]?=some row)(I:fe T f row j=some (true,a))(h:eJ T f rows c a r):eJ T f rows (1+c) j r:=by
 rw[nQ]
 refine qH C ?_
 rcases q:qt row with _|_
 ·exact qH I h
 ·rw[zm q] at I;exact a8 I
theorem rv{c:Nat}{j a:gf}{r:hI}{row:cu}(C:rows[j.row]?=some row)(I:fe T f row j=some (false,a))(h:ji T f rows c a.O a.aj a.aF r):eJ T f rows (1+c) j r:=by
 rw[nQ]
 refine qH C ?_
 rcases q:qt row with _|_
 ·exact qH I h
 ·rw[zm q] at I;exact a8 I
theorem pG:∀(s q:List cG)(g:cA)(a:List Int),gO (s++q) g a=gO q (gO s g a).1 (gO s g a).2
 |[],_,_,_=>rfl
 |.jt _ _::s,q,_,_=>pG s q _ _
 |.dK _ _::s,q,_,_=>pG s q _ _
 |.hR _ _::s,q,_,_=>pG s q _ _
 |.less _ _ _::s,q,_,_=>pG s q _ _
 |.more _ _ _ _::s,q,_,_=>pG s q _ _
theorem tK:∀(s:List cG)(g:cA)(a:List Int),gO (s.filter cG.log) g a=gO s g a
 |[],_,_=>rfl
 |.jt _ _::s,_,_=>tK s _ _
 |.dK _ _::s,_,_=>tK s _ _
 |.hR _ _::s,_,_=>tK s _ _
 |.less _ _ _::s,_,_=>tK s _ _
 |.more _ _ _ _::s,_,_=>tK s _ _
theorem uu{c:Nat}{r:hI}{e:List cG}{s:List cG}:∀{g:cA}{b:List Int},s.all cG.log=true->ji T f rows c (gO s g b).1 (gO s g b).2 e r->ji T f rows c g b (s++e) r:=by
 induction s with
 |nil=>exact λ z h=>h
 |cons d s i=>
  intro g b a h
  rcases d with _|_|_|_|_
  ·exact i a h
  ·exact i a h
  ·exact cq a
  ·exact cq a
  ·exact cq a
def f7(k b:Nat)(a ab:List Int):Prop:=ab.length=a.length/\∀i,i<k\/b<=i->ab[i]?=a[i]?
theorem f7.refl{k a:Nat}{r:List Int}:f7 k a r r:=⟨rfl,λ z z=>rfl⟩
theorem f7.trans{k c:Nat}{d ab aU:List Int}(a:f7 k c d ab)(b:f7 k c ab aU):f7 k c d aU:=⟨b.1.trans a.1,λ i h=>(b.2 i h).trans (a.2 i h)⟩
theorem f7.wide{k b y c:Nat}{d ab:List Int}(a:f7 k b d ab)(h:y<=k)(e:b<=c):f7 y c d ab:=⟨a.1,λ i f=>a.2 i (by lia)⟩
theorem f7.set{k a i:Nat}{r:List Int}{v:Int}(h:k<=i)(c:i<a):f7 k a r (r.set i v):=⟨hs,λ y dE=>List.getElem?_set_ne λ b=>bC _ (dE.elim (J [_,_,_] 0x1044020446004c509481 L h (aL b)) (J [_,_,_] 0x1044031424304a111001 L c (aL b.symm)))⟩
variable(T f rows)
noncomputable def c6(q k g:Nat):List ck->cA->List Int->List cG->(Nat->hI->Prop)->Nat->Prop
 |[],e,a,b,X,c=>∀d r,ji T f rows d e a b r->X (c+d) r
 |w::aV,e,a,b,X,c=>∃h en ab bG,h+en<=c/\(∀d r,eJ T f rows d ⟨w.1,q,w.2,ab,bG++b⟩ r->X (h+d) r)/\f7 k g a ab/\gO bG w.2 ab=(e,a)/\
  c6 q k g aV e a b (λ c r=>ji T f rows c w.2 ab (bG++b) r) en
variable{T f rows}
def vQ(X:Nat->hI->Prop):Prop:=∀c a r,X c r->c<=a->X a r
theorem qA{j:gf}:vQ λ c r=>eJ T f rows c j r:=λ z z z=>nX
theorem Z4{g:cA}{a:List Int}{s:List cG}:vQ λ c r=>ji T f rows c g a s r:=λ z z z=>U7
set_option tactic.hygienic true
theorem c6.weak{q k a:Nat}{aV:List ck}{b:cA}{d:List Int}{e:List cG}{X:Nat->hI->Prop}{c g:Nat}(j:vQ X)(h:c6 T f rows q k a aV b d e X c)(i:c<=g):c6 T f rows q k a aV b d e X g:=by
 rcases aV with _|_
 case nil=>exact λ o r l=>j _ _ _ (h o r l) (vZ i _)
 case cons w aV=>
  exact AA h λ m en ab bG C I=>h2 m en ab bG ⟨ah C i,I⟩
theorem c6.pre{q k b o:Nat}{aV:List ck}{d:cA}{e:List Int}{g:List cG}{X ky:Nat->hI->Prop}{c:Nat}(i:∀c r,ky c r->X (o+c) r)(h:c6 T f rows q k b aV d e g ky c):c6 T f rows q k b aV d e g X (o+c):=by
 rcases aV with _|_
 case nil=>intro a r j;rw[ez];exact i _ _ (h a r j)
 case cons w aV=>
  exact r9 h λ l en ab bG C I af=>h2 (o+l) en ab bG ⟨J [_,_,_,_] 0xc7014870000629001 L C,λ a r m=>by rw[ez];exact i _ _ (I a r m),af⟩
set_option tactic.hygienic false
theorem c6.wide{q k e y g:Nat}(dE:y<=k)(i:e<=g):∀{aV:List ck}{a:cA}{b:List Int}{d:List cG}{X:Nat->hI->Prop}{c:Nat},c6 T f rows q k e aV a b d X c->c6 T f rows q y g aV a b d X c:=by
 intro aV;induction aV with
 |nil=>exact λ h=>h
 |cons w aV j=>
  intro a b d X c h
  exact vE h λ l en ab bG C I af m n=>h2 l en ab bG ⟨C,I,af.wide dE i,m,j n⟩
theorem c6.app{q k a:Nat}{e cV:cA}{b ab:List Int}{d bG:List cG}(g:f7 k a b ab)(b6:gO bG cV ab=(e,b)):∀{B aV:List ck}{ky:Nat->hI->Prop}{c en:Nat},c6 T f rows q k a B cV ab (bG++d) ky c->c6 T f rows q k a aV e b d (λ c r=>ji T f rows c cV ab (bG++d) r) en->
  c6 T f rows q k a (B++aV) e b d ky (c+en):=by
 intro B;induction B with
 |nil=>exact c6.pre
 |cons v B i=>
  intro aV ky c en h j
  exact vE h λ l m aU n o p s t u=>h2 l (m+en) aU (n++bG) ⟨J [_,_,_,_] 0xe601ca02000629001 L o,by rw[el];exact p,g.trans s,by rw[pG,t];exact b6,by rw[el];exact i u j⟩
theorem c6.bind{q i k d y e:Nat}(dE:k<=y)(n:e<=d){g:cA}{a:List Int}{b:List cG}{F:ck->List ck}{o:ck->Nat}:∀{aV:List ck}{X:Nat->hI->Prop}{c:Nat},vQ X->c6 T f rows q y e aV g a b X c->
  (∀w∈aV,∀ab bG,f7 y e a ab->gO bG w.2 ab=(g,a)->c6 T f rows i k d (F w) w.2 ab (bG++b) (λ c r=>eJ T f rows c ⟨w.1,q,w.2,ab,bG++b⟩ r) (o w))->
  c6 T f rows i k d (aV.flatMap F) g a b X (c+(aV.map o).sum):=by
 intro aV;induction aV with
 |nil=>exact λ z h z=>h
 |cons w aV p=>
  intro X c s h j
  refine vE h λ B en ab bG t u l m x=>?_
  exact c6.weak s (c6.app (l.wide dE n) m (c6.pre u (j w (f9 ..) ab bG l m)) (p Z4 x λ v A=>j v (gU _ A))) (J [_,_,_,_,_] 0x10701808280e40000629001 L t)
theorem c6.one{q k d c:Nat}{w:ck}{e:cA}{a ab:List Int}{g bG:List cG}{X:Nat->hI->Prop}(h:∀b r,eJ T f rows b ⟨w.1,q,w.2,ab,bG++g⟩ r->X (c+b) r)(i:f7 k d a ab)(b6:gO bG w.2 ab=(e,a))(j:bG.all cG.log=true):
  c6 T f rows q k d [w] e a g X c:=
 (h2 c 0 ab bG ⟨bx _,h,i,b6,λ b r l=>by rw[gr];exact uu j (by exact rwl b6 l)⟩)
theorem c6.base{q k a c:Nat}{aV:List ck}{d cV:cA}{b ab:List Int}{e bG:List cG}{X:Nat->hI->Prop}(g:f7 k a b ab)(b6:gO bG cV ab=(d,b))(i:bG.all cG.log=true)(h:c6 T f rows q k a aV cV ab (bG++e) X c):
  c6 T f rows q k a aV d b e X c:=by
 have:=c6.app (aV:=[]) g b6 h λ l r j=>by rw[gr];exact uu i (by exact rwl b6 j)
 rw[gT] at this
 exact this
theorem c6.to{q e k a:Nat}{g:cA}{d:List Int}{b:List cG}{X:Nat->hI->Prop}{aV:List ck}{c:Nat}(i:vQ X)(h:c6 T f rows q k a aV g d b X c)
  (j:∀w∈aV,∀ab bG c r,f7 k a d ab->eJ T f rows c ⟨w.1,e,w.2,ab,bG++b⟩ r->eJ T f rows (1+c) ⟨w.1,q,w.2,ab,bG++b⟩ r):c6 T f rows e k a aV g d b X (c+aV.length):=by
 have:=c6.bind (bx k) (bx a) i h λ w l ab bG m z=>c6.one (bG:=[]) (λ n r=>j w l ab bG n r m) f7.refl rfl rfl
 rw[List.flatMap_singleton',show(aV.map _).sum=aV.length by simp [List.map_const']] at this
 exact this
end
end
section
def hG(T:List Nat)(O:cA):Prop:=∀b d,some (b,d)∈O->b<=d/\d<=T.length
def kZ(T:List Nat)(a:Nat)(O:cA)(w:ck):Prop:=a<=w.1/\w.1<=T.length/\hG T w.2/\w.2.length=O.length
def sa(T:List Nat)(F:Nat->cA->List ck):Prop:=∀a O w,a<=T.length->hG T O->w∈F a O->kZ T a O w
section
variable{T:List Nat}{f:Bool}
theorem kZ.here{a:Nat}{O:cA}(h:a<=T.length)(g:hG T O):kZ T a O (a,O):=⟨bx _,h,g,rfl⟩
theorem kZ.trans{a:Nat}{O:cA}{v w:ck}(h:kZ T a O v)(b:kZ T v.1 v.2 w):kZ T a O w:=⟨ah h.1 b.1,b.2.1,b.2.2.1,b.2.2.2.trans h.2.2.2⟩
theorem Hl{a:Nat}{O:cA}{w:ck}{l:List ck}{F:ck->List ck}(b:∀v∈l,kZ T a O v)(c:∀v,kZ T a O v->∀w∈F v,kZ T v.1 v.2 w)(h:w∈l.flatMap F):kZ T a O w:=ba (List.mem_flatMap.mp h) λ v C I=>(b v C).trans (c v (b v C) w I)
theorem z4{F:Nat->cA->List ck}(d:sa T F){bF:Nat}{a4:Int}{lazy:Bool}:∀n done e,sa T (gL F bF a4 lazy n done e)
 |0,_,_,a,O,w,_,_,h=>(gh h).elim
 |n+1,done,e,a,O,w,b,c,h=>by
  have more:w∈((F a O).flatMap λ w=>gL F bF a4 lazy n (done+1) a _ _)->kZ T a O w:=Hl (λ v=>d a O v b c) λ v f w=>z4 d n _ _ _ _ w f.2.1 f.2.2.1
  rw[tv] at h
  split at h
  ·exact more h
  ·split at h
   ·obtain rfl:=fG.mp h;exact .here b c
   ·split at h
    ·rcases ew.mp h with rfl|h
     ·exact .here b c
     ·exact more h
    ·rcases fH.mp h with h|h
     ·exact more h
     ·obtain rfl:=fG.mp h;exact .here b c
theorem Xx{O:cA}{n b d:Nat}(h:hG T O)(C:b<=d)(I:d<=T.length):hG T (O.set n (some (b,d))):=by
 intro ed c a
 rcases List.mem_or_eq_of_mem_set a with a|a
 ·exact h _ _ a
 ·cases a;exact⟨C,I⟩
theorem xg(k a:Nat)(O:cA):bI T f (.one k) a O=if gF T f k a then[(a+1,O)] else[]:=by
 show(match T[a]? with|some c=>if qJ f k c then[(a+1,O)] else[]|none=>[])=_;unfold gF
 rcases T[a]? with _|_<;>rfl
theorem o3{k a:Nat}(h:gF T f k a=true):a<T.length:=by
 unfold gF at h
 refine Decidable.by_contra λ Y=>?_
 rw[oR (cI Y)] at h
 exact cq h
theorem ix:∀x,sa T (bI T f x)
 |.one k,a,O,w,e,b,h=>by
  rw[xg] at h
  split at h<;>rename_i d
  ·obtain rfl:=fG.mp h;exact⟨hq _,o3 d,b,rfl⟩
  ·exact(gh h).elim
 |.place s,a,O,w,e,b,h=>by
  rw[xR] at h
  split at h
  ·obtain rfl:=fG.mp h;exact .here e b
  ·exact(gh h).elim
 |.rounds x c m,a,O,w,e,b,h=>by
  rw[ES] at h
  split at h
  ·exact z4 (ix x) _ _ _ a O w e b (rg h)
  ·exact z4 (ix x) _ _ _ a O w e b h
 |.group n r _,a,O,w,e,b,h=>by
  refine ba (nN.mp h) λ v C q=>?_;subst q
  exact f5 (ix r a O v e b C) λ g i j l=>⟨g,i,Xx j g i,by rw[hs];exact l⟩
 |.again n _,a,O,w,e,b,h=>by
  rw[Au] at h
  split at h
  ·split at h<;>rename_i d
   ·obtain rfl:=fG.mp h;exact⟨dD _ _,d.1,b,rfl⟩
   ·exact(gh h).elim
  ·exact(gh h).elim
 |.d4 ab aU,a,O,w,e,b,h=>by
  rcases fH.mp h with h|h
  ·exact ix ab a O w e b h
  ·exact ix aU a O w e b h
 |.atomic r,a,O,w,e,b,h=>by
  exact ix r a O w e b (rg h)
 |.look x p cW,a,O,w,e,b,h=>by
  rw[xQ] at h
  split at h
  ·split at h
   ·obtain rfl:=fG.mp h;exact .here e b
   ·exact(gh h).elim
  ·refine ba (nN.mp h) λ v C t=>?_;subst t
   split at C
   ·exact f5 (ix x _ O v (ah (hr _ _) e) b (rg C)) λ g i j l=>⟨bx _,e,j,l⟩
   ·exact(gh C).elim
 |.nil,a,O,w,e,b,h=>by
  obtain rfl:=fG.mp h;exact .here e b
 |.cons x r,a,O,w,e,b,h=>by
  exact Hl (λ v=>ix x a O v e b) (λ v o w=>ix r _ _ w o.2.1 o.2.2.1) h
end
noncomputable def nF:br->Nat->Prop
 |.rounds x _ _,G=>nF x G
 |.group n r _,G=>0<n/\n<=G/\nF r G
 |.again n _,G=>0<n/\n<=G
 |.d4 ab aU,G=>nF ab G/\nF aU G
 |.atomic r,G=>nF r G
 |.look x _ _,G=>nF x G
 |.cons x r,G=>nF x G/\nF r G
 |_,_=>True
section
variable{T:List Nat}{f:Bool}{a s:Nat}{O:cA}{aj:List Int}{aF:List cG}
theorem acM{k:Nat}(d:gF T f k a=true):fe T f (.test k) ⟨a,s,O,aj,aF⟩=some (true,⟨a+1,s+1,O,aj,aF⟩):=bB _ (aT d)
theorem acN{k:Nat}(d:¬gF T f k a=true):fe T f (.test k) ⟨a,s,O,aj,aF⟩=some (false,⟨a,s,O,aj,aF⟩):=bB _ (a9 d)
theorem acI{w:Nat}(d:kR w T a=true):fe T f (.plc w) ⟨a,s,O,aj,aF⟩=some (true,⟨a,s+1,O,aj,aF⟩):=bB _ (aT d)
theorem acJ{w:Nat}(d:¬kR w T a=true):fe T f (.plc w) ⟨a,s,O,aj,aF⟩=some (false,⟨a,s,O,aj,aF⟩):=bB _ (a9 d)
theorem KL{n:Nat}(h:O[n-1]?=some none):fe T f (.back n) ⟨a,s,O,aj,aF⟩=some (false,⟨a,s,O,aj,aF⟩):=by
 show(match O[n-1]? with|some (some (b,d))=>_|some none=>_|none=>_)=_
 rw[h]
theorem Ep{n b d:Nat}(h:O[n-1]?=some (some (b,d)))(c:b<=d/\d<=T.length):fe T f (.back n) ⟨a,s,O,aj,aF⟩=some (if a+(d-b)<=T.length/\oh f ((T.drop a).take (d-b)) ((T.drop b).take (d-b))=true then(true,⟨a+(d-b),s+1,O,aj,aF⟩) else(false,⟨a,s,O,aj,aF⟩)):=by
 show(match O[n-1]? with|some (some (b,d))=>_|some none=>_|none=>_)=_
 exact rwl h (aT c)
theorem acH{k:Nat}(h:k<aj.length):fe T f (.opn k) ⟨a,s,O,aj,aF⟩=some (true,⟨a,s+1,O,aj.set k a,.dK k (aj[k]?.getD 0)::aF⟩):=aT h
theorem KO{k:Nat}(h:k<aj.length):fe T f (.place k) ⟨a,s,O,aj,aF⟩=some (true,⟨a,s+1,O,aj.set k a,.dK k (aj[k]?.getD 0)::aF⟩):=aT h
theorem Er{k:Nat}(h:k<aj.length):fe T f (.mark k) ⟨a,s,O,aj,aF⟩=some (true,⟨a,s+1,O,(aj.set k 0).set k ((aF.length+1:Nat):Int),.dK k (aj[k]?.getD 0)::aF⟩):=aT h
theorem acF{n k b:Nat}{p:Option (Nat×Nat)}(h:aj[k]?=some (b:Int))(c:O[n-1]?=some p):fe T f (.close n k) ⟨a,s,O,aj,aF⟩=some (true,⟨a,s+1,O.set (n-1) (some (b,a)),aj,.jt n p::aF⟩):=by
 show(match aj[k]?,O[n-1]? with|some v,some p=>_|_,_=>_)=_
 rw[h,c]
 exact aT (i5 b)
theorem acO{c q:Nat}(h:c<aj.length)(b:q<aj.length):fe T f (.zero c q) ⟨a,s,O,aj,aF⟩=some (true,⟨a,s+1,O,(aj.set c 0).set q (-1),.dK q ((aj.set c 0)[q]?.getD 0)::.dK c (aj[c]?.getD 0)::aF⟩):=aT ⟨h,b⟩
theorem xx{c q bF:Nat}{a4:Int}{lazy:Bool}{b d:Nat}{rounds place:Int}(h:aj[c]?=some rounds)(e:aj[q]?=some place):fe T f (.loop c q bF a4 lazy b d) ⟨a,s,O,aj,aF⟩=some (true,if rounds<bF then⟨a,b,O,aj,aF⟩ else if place=a\/(0<=a4/\a4<=rounds) then⟨a,d,O,aj,aF⟩
  else if lazy then⟨a,d,O,aj,.hR b a::aF⟩ else⟨a,b,O,aj,.hR d a::aF⟩):=by
 show(match aj[c]?,aj[q]? with|some rounds,some place=>_|_,_=>_)=_
 rw[h,e]
theorem acC{c q r:Nat}{v:Int}(h:aj[c]?=some v)(b:q<aj.length):fe T f (.again c q r) ⟨a,s,O,aj,aF⟩=some (true,⟨a,r,O,(aj.set c (v+1)).set q a,.dK q ((aj.set c (v+1))[q]?.getD 0)::.dK c (aj[c]?.getD 0)::aF⟩):=by
 show(match aj[c]? with|some v=>_|none=>_)=_
 exact h▸(aT b).trans (by rw[l',l',h])
theorem KN{k:Nat}{bG b:List cG}(c:aj[k]?=some ((b.length:Nat):Int)):fe T f (.cut k) ⟨a,s,O,aj,bG++b⟩=some (true,⟨a,s+1,O,aj,bG.filter cG.log++b⟩):=by
 show(match aj[k]? with|some h=>_|none=>_)=_
 rw[c]
 refine(aT ⟨i5 _,by rw[bR];exact J [_,_] 4358272 L⟩).trans ?_
 rw[Int.toNat_natCast,bR,Nat.add_sub_cancel,List.take_left,List.drop_left]
theorem acK{k:Nat}{bG b:List cG}{bN:cA}{ej:List Int}(c:aj[k]?=some ((b.length:Nat):Int))(b6:gO bG O aj=(bN,ej)):fe T f (.refuse k) ⟨a,s,O,aj,bG++b⟩=some (false,⟨a,s,bN,ej,b⟩):=by
 show(match aj[k]? with|some h=>_|none=>_)=_
 rw[c]
 refine(aT ⟨i5 _,by rw[bR];exact J [_,_] 4358272 L⟩).trans ?_
 rw[Int.toNat_natCast,bR,Nat.add_sub_cancel,List.take_left,List.drop_left,b6]
theorem acL{k v:Nat}(h:aj[k]?=some (v:Int))(b:v<=T.length):fe T f (.ret k) ⟨a,s,O,aj,aF⟩=some (true,⟨v,s+1,O,aj,aF⟩):=by
 show(match aj[k]? with|some h=>_|none=>_)=_
 exact rwl h (aT ⟨i5 _,b⟩)
theorem acD{w:Nat}(h:w<=a):fe T f (.behind w) ⟨a,s,O,aj,aF⟩=some (true,⟨a-w,s+1,O,aj,aF⟩):=bB _ (a9 (lK.mpr h))
theorem acE{w:Nat}(h:¬w<=a):fe T f (.behind w) ⟨a,s,O,aj,aF⟩=some (false,⟨a,s,O,aj,aF⟩):=bB _ (aT (pX h))
end
section
variable{T:List Nat}{f:Bool}{rows:List cu}
def gR(T:List Nat)(f:Bool)(rows:List cu)(G s q k b:Nat)(F:Nat->cA->List ck)(ay:Nat->cA->Nat):Prop:=∀a O aj aF,b<=aj.length->a<=T.length->hG T O->O.length=G->
 c6 T f rows q k b (F a O) O aj aF (λ c r=>eJ T f rows c ⟨a,s,O,aj,aF⟩ r) (ay a O)
theorem Bc{aj:List Int}{k:Nat}{v w:Int}(h:k<aj.length):((aj.set k v).set k w).set k (aj[k]?.getD 0)=aj:=by
 rw[List.set_set,List.set_set,hK h]
 exact List.set_getElem_self h
theorem sE{aj:List Int}{k:Nat}{v:Int}(h:k<aj.length):(aj.set k v).set k (aj[k]?.getD 0)=aj:=by
 rw[List.set_set,hK h]
 exact List.set_getElem_self h
theorem xw{aj:List Int}{k:Nat}{v:Int}(h:k<aj.length):(aj.set k v)[k]?=some v:=by rw[List.getElem?_set_self h]
theorem afQ{G s k:Nat}{i:Nat}(h:rows[s]?=some (.test i)):gR T f rows G s (s+1) k k (bI T f (.one i)) (eE T f (.one i)):=by
 intro a O aj aF V c e g
 rw[xg]
 split<;>rename_i d
 ·exact c6.one (bG:=[]) (λ b r=>hL h (acM d)) .refl rfl rfl
 ·exact λ b r=>rv h (acN d)
theorem afR{G s k:Nat}{i:Nat}(h:rows[s]?=some (.plc i)):gR T f rows G s (s+1) k k (bI T f (.place i)) (eE T f (.place i)):=by
 intro a O aj aF V c e g
 rw[xR]
 split<;>rename_i d
 ·exact c6.one (bG:=[]) (λ b r=>hL h (acI d)) .refl rfl rfl
 ·exact λ b r=>rv h (acJ d)
theorem afH{G s k:Nat}{n m:Nat}(h:rows[s]?=some (.back n))(i:0<n)(Y:n<=G):gR T f rows G s (s+1) k k (bI T f (.again n m)) (eE T f (.again n m)):=by
 intro a O aj aF V u j l
 refine a7 (⟨_,hK (J [_,_,_,_] 0xc111c0020447004c509481 L Y (aL l.symm) (dj (J [_] 4540987353335809 L i)))⟩:∃p,O[n-1]?=some p) λ p c=>?_
 rw[Au]
 rw[c]
 rcases p with _|⟨b,d⟩
 ·exact λ e r=>rv h (KL c)
 ·have g:=j b d (ka c)
  dsimp only
  split<;>rename_i q
  ·exact c6.one (bG:=[]) (λ e r o=>hL h ((Ep c g).trans (bB _ (aT q))) o) .refl rfl rfl
  ·exact λ e r t=>rv h ((Ep c g).trans (bB _ (a9 q))) t
theorem afJ{G s q d k b c:Nat}{x r:br}(j:gR T f rows G s q k b (bI T f x) (eE T f x))(V:gR T f rows G q d b c (bI T f r) (eE T f r))(C:k<=b)(I:b<=c):gR T f rows G s d k c (bI T f (.cons x r)) (eE T f (.cons x r)):=by
 intro a O aj aF e g h i
 exact c6.bind (bx k) I qA (j a O _ _ (J [_,_,_] 6734715327617 L I e) g h i) λ w l ab bG m b6=>f5 (ix x a O w g h l) λ t n o p=>(V _ _ ab _ (by exact rwl m.1 e) n o (p.trans i)).wide C (bx _)
theorem afK{G s q k b n:Nat}{x:br}{nm:Bool}(h:rows[s]?=some (.opn k))(j:rows[q]?=some (.close n k))(l:gR T f rows G (s+1) q (k+1) b (bI T f x) (eE T f x))(m:k<b)(y:0<n)(Y:n<=G):
  gR T f rows G s (q+1) k b (bI T f (.group n x nm)) (eE T f (.group n x nm)):=by
 intro a O aj aF o e g t
 rw[ER,Vj]
 have d:k<aj.length:=by lia
 have I:=c6.bind (bx _) (bx b) (F:=λ w=>[(w.1,w.2.set _ _)]) qA (l a O (aj.set k a) (.dK k (aj[k]?.getD 0)::aF) (by rw[hs];exact o) e g t) λ w u ab bG v b6=>by
  refine f5 (ix x a O w e g u) λ A B C D=>a7 (⟨_,hK (by lia)⟩:∃p,w.2[n-1]?=some p) λ p i=>?_
  refine c6.one (bG:=[.jt n p]) (λ E r=>hL j (acF (by rw[v.2 k (.inl (eo k))];exact xw d) i)) .refl ?_ rfl
  show((w.2.set _ _).set _ p,ab)=_
  rw[List.set_set,<-List.getElem_eq_iff (h:=by lia).mpr i,List.set_getElem_self]
 rw[<-List.map_eq_flatMap,show((bI T f x a O).map _).sum=(bI T f x a O).length by simp [List.map_const']] at I
 rw[ez]
 exact c6.pre (λ c r=>hL h (acH d)) (c6.base (bG:=[.dK k (aj[k]?.getD 0)]) (f7.set (bx k) m) (show(O,(aj.set k _).set k _)=_ by rw[sE d]) rfl (I.wide (hq k) (bx _)))
theorem afI{G s q d k b e:Nat}{ab aU:br}(h:rows[s]?=some (.split (s+1) (q+1)))(n:rows[q]?=some (.jump d))(C:gR T f rows G (s+1) q k b (bI T f ab) (eE T f ab))(I:gR T f rows G (q+1) d b e (bI T f aU) (eE T f aU))(o:k<=b)(g:b<=e):
  gR T f rows G s d k e (bI T f (.d4 ab aU)) (eE T f (.d4 ab aU)):=by
 intro a O aj aF i j l m
 rw[EP,Vi]
 rw[show 1+eE T f ab a O+(bI T f ab a O).length+eE T f aU a O=1+(eE T f ab a O+(bI T f ab a O).length+eE T f aU a O) by exact cB (J [_,_,_] 0x629000088062902200000 L) (J [_,_,_] 0x629022000062900008800 L)]
 exact c6.pre (λ c r p=>hL h rfl p) (c6.app (bG:=[.hR _ a]) .refl rfl (((C a O _ (.hR (q+1) a::aF) (J [_,_,_] 6734715327617 L g i) j l m).to qA λ w z ab bG c r z=>hL n rfl).wide (bx k) g) ((I a O _ _ i j l m).wide o (bx _)))
set_option tactic.hygienic true in
theorem afG{s q k e a c:Nat}{O:cA}{aj:List Int}{aF:List cG}{aV:List ck}(h:rows[s]?=some (.mark k))(o:rows[q]?=some (.cut k))(g:k<e)(p:e<=aj.length)
  (l:c6 T f rows q (k+1) e aV O ((aj.set k 0).set k ((aF.length+1:Nat):Int)) (.dK k (aj[k]?.getD 0)::aF) (λ c r=>eJ T f rows c ⟨a,s+1,O,(aj.set k 0).set k ((aF.length+1:Nat):Int),.dK k (aj[k]?.getD 0)::aF⟩ r) c):
  c6 T f rows (q+1) k e (aV.take 1) O aj aF (λ c r=>eJ T f rows c ⟨a,s,O,aj,aF⟩ r) (2+c):=by
 have i:k<aj.length:=J [_,_,_] 0x182220006284a111001 L g p
 rw[show 2+c=1+(1+c) by exact cB (J [_] 0x204400880410800 L) (J [_] 0x208402044008800 L)]
 refine c6.pre (λ c r b=>hL (T:=T) (f:=f) (c:=c) (r:=r) (j:=⟨a,s,O,aj,aF⟩) h (Er i) b) ?_
 have b6:gO [.dK k (aj[k]?.getD 0)] O ((aj.set k 0).set k (aF.length+1:Nat))=(O,aj):=by show(O,_)=_;rw[Bc i]
 rcases aV with _|_
 case nil=>exact λ m r t=>nX (l m r (uu rfl (by rw[b6];exact t))) (J [_,_] 0xa40880029000 L)
 case cons w aV=>
  refine vE l λ u en ab bG v x n y A=>?_;refine c6.weak qA (c6.one (c:=u+1) (bG:=bG.filter cG.log++[.dK k (aj[k]?.getD 0)]) (λ m r b=>?_) (((f7.set (bx k) g).trans (f7.set (bx k) g)).trans (n.wide (hq k) (bx _))) ?_ ?_) (J [_,_,_] 0xc1100222000629001 L v)
  ·rw[ez]
   refine x _ _ (hL o ?_ b)
   exact(KN (by rw[n.2 k (.inl (eo k))];exact xw (by rw[hs];exact i):ab[k]?=some (aF.length+1:Int))).trans (by rw[el];rfl)
  ·rw[pG,tK,y]
   exact b6
  ·rw[List.all_append,k2];exact⟨kz.mpr λ d b=>(List.mem_filter.mp b).2,rfl⟩
theorem LQ{G s q k b:Nat}{F:Nat->cA->List ck}{ay:Nat->cA->Nat}(h:rows[s]?=some (.mark k))(d:rows[q]?=some (.cut k))(e:k<b)(g:gR T f rows G (s+1) q (k+1) b F ay):
  gR T f rows G s (q+1) k b (λ a O=>(F a O).take 1) (λ a O=>2+ay a O):=by
 intro a O aj aF c i j l
 exact afG h d e c (g a O _ _ (by rw[hs,hs];exact c) i j l)
end
end
section
section
variable{T:List Nat}{f:Bool}{rows:List cu}
theorem afO{G k b y d h:Nat}{F:Nat->cA->List ck}{ay:Nat->cA->Nat}(s:sa T F)(t:rows[d]?=some (.again k (k+1) (d+1)))(dE:rows[y]?=some (.jump h))
  (u:gR T f rows G (d+1) y (k+2) b F ay) (e:k+2<=b) {i done a:Nat} {O:cA} {aj:List Int} {aF:List cG} {mi:ck->List ck} {j:ck->Nat}
  (V:b<=aj.length) (l:a<=T.length) (m:hG T O) (v:O.length=G) (x:aj[k]?=some (done:Int))
  (I:∀w,kZ T a O w->∀ab bG,ab.length=aj.length->ab[k]?=some ((done+1:Nat):Int)->ab[k+1]?=some (a:Int)->c6 T f rows i k b (mi w) w.2 ab bG (λ c r=>eJ T f rows c ⟨w.1,h,w.2,ab,bG⟩ r) (j w)):
  c6 T f rows i k b ((F a O).flatMap mi) O aj aF (λ c r=>eJ T f rows c ⟨a,d,O,aj,aF⟩ r) (1+ay a O+((F a O).map λ w=>1+j w).sum):=by
 have n:k<aj.length:=J [_,_,_] 0x182220006284a211001 L e V
 have o:k+1<aj.length:=J [_,_,_] 0xc11044400006284a211001 L e V
 have p:k+1<(aj.set k (done+1)).length:=by rw[hs];exact o
 have q:f7 k b _ ((aj.set k (done+1)).set (k+1) a):=(f7.set (bx k) (J [_,_] 0x28444000a211001 L e)).trans (f7.set (hq k) (J [_,_] 0x142208880000a211001 L e))
 have af:=c6.bind (by exact J [_] 69337216 L) (bx b) qA (u a O ((aj.set k (done+1)).set (k+1) a) (.dK (k+1) ((aj.set k (done+1))[k+1]?.getD 0)::.dK k (aj[k]?.getD 0)::aF) (by rw[hs,hs];exact V) l m v) λ w A ab bG g b6=>by
  refine c6.pre (λ c r=>hL dE rfl) (I w (s a O w l m A) ab _ (g.1.trans q.1) ?_ ?_)
  ·rw[g.2 k (.inl (J [_] 2272038817792 L)),List.getElem?_set_ne (by exact λ B=>bC _ (J [_] 71537110618113 L (aL B))),List.getElem?_set_self n];rfl
  ·rw[g.2 _ (.inl (by exact J [_] 74450167882973184 L)),List.getElem?_set_self p]
 rw[ez]
 refine c6.pre (λ c r=>hL t (acC x o)) (c6.base (bG:=[_,_]) q ?_ rfl af)
 show(O,(((aj.set k _).set _ _).set _ _).set k _)=_
 rw[sE p,sE n]
noncomputable def l1(n bF:Nat)(done:Nat)(b:Int)(a:Nat):Nat:=(bF-done)+(n-a)+(if b=a/\bF<=done then 0 else 1)
theorem Jy{N bF done a b:Nat}{d:Int}(e:done<bF\/¬d=(a:Int))(C:a<=b)(I:b<=N):l1 N bF (done+1) a b<l1 N bF done d a:=by
 unfold l1
 rw[a9 (c:=d=a/\bF<=done) λ D=>e.elim (λ h=>Nat.not_le.mpr h D.2) λ h=>h D.1]
 have le:=Nat.sub_le_sub_left (hq done) bF
 have t:(if(a:Int)=b/\bF<=done+1 then 0 else 1)<=1:=by split<;>decide
 rcases Nat.eq_or_lt_of_le C with rfl|h
 ·by_cases k:bF<=done+1
  ·rw[aT ⟨rfl,k⟩]
   exact kd (vZ le _)
  ·exact Nat.add_lt_add_of_lt_of_le (Nat.add_lt_add_right (Nat.sub_lt_sub_left (mn (Nat.not_le.mp k)) (eo _)) _) t
 ·exact Nat.add_lt_add_of_lt_of_le (Nat.add_lt_add_of_le_of_lt le (Nat.sub_lt_sub_left (d7 h I) h)) t
theorem GL(c x:Nat):2+c+x=1+(1+c+x):=by rw[<-ez,<-ez]
theorem afM{G k o y b q bF:Nat}{a4:Int}{lazy:Bool}{F:Nat->cA->List ck}{ay:Nat->cA->Nat}(B:sa T F)(h:rows[b]?=some (.loop k (k+1) bF a4 lazy (b+1) q))(C:rows[b+1]?=some (.again k (k+1) (b+2)))(dE:rows[y]?=some (.jump b))
  (E:gR T f rows G (b+2) y (k+2) o F ay) (H:k+2<=o) (n:Nat):∀(done:Nat)(g:Int)(a:Nat)(O:cA)(aj:List Int)(aF:List cG),l1 T.length bF done g a<n->o<=aj.length->a<=T.length->hG T O->O.length=G->aj[k]?=some (done:Int)->aj[k+1]?=some g->
  c6 T f rows q k o (gL F bF a4 lazy n done g a O) O aj aF (λ c r=>eJ T f rows c ⟨a,b,O,aj,aF⟩ r) (oZ F ay bF a4 n done g a O):=by
 induction n with
 |zero=>exact λ z z z z z z s=>((bC _) s).elim
 |succ n v=>
  intro done g a O aj aF s V I J x l p
  have more:=λ K aF=>afO (aF:=aF) B C dE E H V I J x l λ w m ab bG L=>v _ a _ _ ab bG (d7 (Jy K m.1 m.2.1) (nP s)) (rwl L V) m.2.1 m.2.2.1 (m.2.2.2.trans x)
  have st:=λ M d A r (t:eJ T f _ A M r)=>hL (j:=⟨a,b,O,aj,aF⟩) h d t
  rw[tv,Gu]
  by_cases i:done<bF
  ·rw[aT i,aT (.inl i),GL]
   exact c6.pre (st _ ((xx l p).trans (by rw[aT (dR.mpr i)]))) (more (.inl i) _)
  ·have u:=λ D=>i (dR.mp D)
   rw[a9 i]
   by_cases e:g=a\/0<=a4/\a4<=done
   ·rw[aT e,a9 λ D=>D.elim i λ D=>D e]
    exact c6.one (bG:=[]) (st _ ((xx l p).trans (by rw[a9 u,aT e];rfl))) .refl rfl rfl
   ·rw[a9 e,aT (c:=done<bF\/¬(g=a\/0<=a4/\a4<=done)) (.inr e),GL]
    have more:=more (.inr λ D=>e (.inl D))
    clear h v;rcases lazy with _|_
    case true=>exact h2 1 _ aj ([.hR _ a]) ⟨bx _,st _ ((xx l p).trans (by rw[a9 u,a9 e];rfl)),.refl,rfl,more _⟩
    case false=>
     exact c6.pre (st _ ((xx l p).trans (by rw[a9 u,a9 e];rfl))) (c6.app (bG:=[.hR q a]) (en:=0) .refl rfl (more _) (c6.one (λ A r t=>by rw[gr];exact t) .refl rfl rfl))
theorem afN{G s k d y c:Nat}{lazy:Bool}{F:Nat->cA->List ck}{ay:Nat->cA->Nat}(v:T.length<=4)(j:sa T F)(l:rows[s]?=some (.zero k (k+1)))(h:rows[s+1]?=some (.loop k (k+1) (dh c) (dW c) lazy (s+2) (y+1)))(m:rows[s+2]?=some (.again k (k+1) (s+3)))(dE:rows[y]?=some (.jump (s+1)))
  (n:gR T f rows G (s+3) y (k+2) d F ay) (b:k+2<=d):gR T f rows G s (y+1) k d (λ a O=>gL F (dh c) (dW c) lazy 12 0 (-1) a O) (λ a O=>1+oZ F ay (dh c) (dW c) 12 0 (-1) a O):=by
 intro a O aj aF V o p q
 have e:k<aj.length:=J [_,_,_] 0x182220006284a211001 L b V
 have g:k+1<aj.length:=J [_,_,_] 0xc11044400006284a211001 L b V
 have i:k+1<(aj.set k 0).length:=by rw[hs];exact g
 have w:dh c<=2:=by
  refine nc ?_ ?_ ?_ ?_ ?_ (λ z=>?_) c<;>exact ae rfl
 have t:l1 T.length (dh c) 0 (-1) a<12:=by
  unfold l1
  split<;>lia
 refine c6.pre (λ c r=>hL l (acO e g)) (c6.base (bG:=[_,_]) ((f7.set (bx k) (J [_,_] 0x28444000a211001 L b)).trans (f7.set (hq k) (J [_,_] 0x142208880000a211001 L b))) ?_ rfl (afM j h m dE n b 12 0 _ a O _ _ t (by rw[hs,hs];exact V) o p q ?_ ?_))
 ·show(O,(((aj.set k _).set _ _).set _ _).set k _)=_
  rw[sE i,sE e]
 ·rw[List.getElem?_set_ne (by exact λ u=>bC _ (J [_] 71537110618113 L (aL u))),List.getElem?_set_self e];rfl
 ·rw[List.getElem?_set_self i]
set_option tactic.hygienic true
theorem afL{G s k m i q w:Nat}{p:Option Nat}{x:br}(E:rows[s]?=some (.place k))(C:rows[s+1]?=some (.mark (k+1)))(y:∀a O aj aF,(p.getD 0<=a->∀c r,eJ T f rows c ⟨a-p.getD 0,i,O,aj,aF⟩ r->eJ T f rows (1+c) ⟨a,s+2,O,aj,aF⟩ r)/\(¬p.getD 0<=a->∀c r,ji T f rows c O aj aF r->eJ T f rows (1+c) ⟨a,s+2,O,aj,aF⟩ r))
  (F:rows[q]?=some (.cut (k+1))) (V:rows[q+1]?=some (.ret k)) (H:gR T f rows G i q (k+2) m (bI T f x) (eE T f x)) (j:k+2<=m):gR T f rows G s (q+2) k m (bI T f (.look x p false)) (eE T f (.look x p false)):=by
 intro a O aj aF n A I K
 have o:k<aj.length:=J [_,_,_] 0x182220006284a211001 L j n
 have t:k+1<(aj.set k a).length:=by rw[hs];exact J [_,_,_] 0xc11044400006284a211001 L j n
 have B:f7 k m _ (((aj.set k a).set (k+1) 0).set (k+1) ((cG.dK k (aj[k]?.getD 0)::aF).length+1:Nat)):=((f7.set (bx k) (J [_,_] 0x28444000a211001 L j)).trans (f7.set (hq k) (J [_,_] 0x142208880000a211001 L j))).trans (f7.set (hq k) (J [_,_] 0x142208880000a211001 L j))
 have b6:gO [.dK (k+1) ((aj.set k a)[k+1]?.getD 0),.dK k (aj[k]?.getD 0)] O (((aj.set k a).set (k+1) 0).set (k+1) ((cG.dK k (aj[k]?.getD 0)::aF).length+1:Nat))=(O,aj):=by
  show(O,((((aj.set k _).set _ _).set _ _).set _ _).set k _)=_
  rw[Bc t,sE o]
 have st:∀c r,eJ T f _ c ⟨a,s+2,O,((aj.set k _).set _ 0).set _ ((cG.dK k (aj[k]?.getD 0)::aF).length+1:Nat),.dK _ ((aj.set k _)[k+1]?.getD 0)::.dK k (aj[k]?.getD 0)::aF⟩ r->eJ T f _ _ _ r:=λ c r b=>hL E (KO o) (hL C (Er t) b)
 rw[xQ,Gx]
 by_cases e:p.getD 0<=a
 ·rw[aT e,aT e]
  have g:=H (a-p.getD 0) O _ (.dK (k+1) ((aj.set k a)[k+1]?.getD 0)::.dK k (aj[k]?.getD 0)::aF) (by exact rwl B.1 n) (ah (hr _ _) A) I K
  have g:=c6.pre (X:=λ c r=>eJ T f _ c _ r) (λ c r b=>by
   exact rwl (show 3+c=1+(1+(1+c)) by exact cB (J [_] 0x1022004400880418800 L) (J [_] 0x1062010220044008800 L)) (st _ _ ((y a _ _ _).1 e _ _ b))) g
  rcases D:bI T f x _ O with _|_
  case nil=>
   rw[D] at g
   exact λ l r e=>nX (g l r (uu rfl (by rw[b6];exact e))) (J [_,_] 0x5214400148310000 L)
  case cons w aV=>
   rw[D] at g
   refine vE g λ M en ab bG N P u Q R=>c6.weak qA (c6.one (c:=M+2) (bG:=bG.filter cG.log++[.dK (k+1) ((aj.set k a)[k+1]?.getD 0),.dK k (aj[k]?.getD 0)]) (λ l r b=>?_) (B.trans (u.wide (J [_] 69337216 L) (bx _))) ?_ ?_) (J [_,_,_] 0x6288021100030c4029001 L N)
   ·rw[ez,show 2+l=1+(1+l) by exact cB (J [_] 0x204400880410800 L) (J [_] 0x208402044008800 L)]
    refine P _ _ (hL F (KN ?_) (hL V (acL ?_ A) ?_))
    ·rw[u.2 _ (.inl (by exact J [_] 74450167882973184 L))];exact xw (by rw[hs];exact t)
    ·rw[u.2 k (.inl (J [_] 2272038817792 L)),List.getElem?_set_ne (by exact λ v=>bC _ (J [_] 71537110618113 L (aL v))),List.getElem?_set_ne (by exact λ v=>bC _ (J [_] 71537110618113 L (aL v)))];exact xw o
    ·rw[el] at b;exact b
   ·rw[pG,tK,Q]
    exact b6
   ·rw[List.all_append,k2];exact⟨kz.mpr λ d b=>(List.mem_filter.mp b).2,rfl⟩
 ·rw[a9 e,a9 e]
  intro l r h
  refine nX (st _ _ ((y a _ _ _).2 e _ _ (uu rfl (by rw[b6];exact h)))) (by exact J [_] 0x8011440010220044008800 L)
theorem afP{G s k g i q w:Nat}{p:Option Nat}{x:br}(A:rows[s]?=some (.place k))(C:rows[s+1]?=some (.mark (k+1)))(I:rows[s+2]?=some (.split (s+3) (q+1)))
  (t:∀a O aj aF,(p.getD 0<=a->∀c r,eJ T f rows c ⟨a-p.getD 0,i,O,aj,aF⟩ r->eJ T f rows (1+c) ⟨a,s+3,O,aj,aF⟩ r)/\(¬p.getD 0<=a->∀c r,ji T f rows c O aj aF r->eJ T f rows (1+c) ⟨a,s+3,O,aj,aF⟩ r))
  (B:rows[q]?=some (.refuse (k+1))) (D:gR T f rows G i q (k+2) g (bI T f x) (eE T f x)) (j:k+2<=g):gR T f rows G s (q+1) k g (bI T f (.look x p true)) (eE T f (.look x p true)):=by
 intro a O aj aF m E F H
 have u:k<aj.length:=J [_,_,_] 0x182220006284a211001 L j m
 have n:k+1<(aj.set k a).length:=by rw[hs];exact J [_,_,_] 0xc11044400006284a211001 L j m
 have v:f7 k g _ (((aj.set k a).set (k+1) 0).set (k+1) ((cG.dK k (aj[k]?.getD 0)::aF).length+1:Nat)):=((f7.set (bx k) (J [_,_] 0x28444000a211001 L j)).trans (f7.set (hq k) (J [_,_] 0x142208880000a211001 L j))).trans (f7.set (hq k) (J [_,_] 0x142208880000a211001 L j))
 have b6:gO [.dK (k+1) ((aj.set k a)[k+1]?.getD 0),.dK k (aj[k]?.getD 0)] O (((aj.set k a).set (k+1) 0).set (k+1) ((cG.dK k (aj[k]?.getD 0)::aF).length+1:Nat))=(O,aj):=by
  show(O,((((aj.set k _).set _ _).set _ _).set _ _).set k _)=_
  rw[Bc n,sE u]
 have st:∀c r,eJ T f _ c ⟨a,s+3,O,((aj.set k _).set _ 0).set _ ((cG.dK k (aj[k]?.getD 0)::aF).length+1:Nat),.hR _ a::.dK _ ((aj.set k _)[k+1]?.getD 0)::.dK k (aj[k]?.getD 0)::aF⟩ r->eJ T f _ _ _ r:=λ c r o=>hL A (KO u) (hL C (Er n) (hL I rfl o))
 have out:∀{c X},(∀d r,ji T f _ d O (((aj.set k _).set _ 0).set _ ((cG.dK k (aj[k]?.getD 0)::aF).length+1:Nat)) (.hR _ a::.dK _ ((aj.set k _)[k+1]?.getD 0)::.dK k (aj[k]?.getD 0)::aF) r->X (c+d) r)->c6 T f rows (q+1) k g [(a,O)] O _ _ X c:=λ{c X} h=>
  c6.one (bG:=[_,_]) (h) v b6 rfl
 rw[xQ,Gx]
 by_cases b:p.getD 0<=a
 ·rw[aT b,aT b]
  have e:=D (a-p.getD 0) O _ (.hR (q+1) a::.dK (k+1) ((aj.set k a)[k+1]?.getD 0)::.dK k (aj[k]?.getD 0)::aF) (by rw[v.1];exact m) (ah (hr _ _) E) F H
  have e:=c6.pre (X:=λ c r=>eJ T f _ c _ r) (λ c r o=>by
   exact rwl (show 4+c=1+(1+(1+(1+c))) by exact cB (J [_] 0x8110022004400880420800 L) (J [_] 0x8410081100220044008800 L)) (st _ _ ((t a _ _ _).1 b _ _ o))) e
  rcases y:bI T f x _ O with _|_
  case nil=>
   rw[y] at e
   exact c6.weak qA (out e) (J [_] 4571997014016 L)
  case cons w aV=>
   rw[y] at e
   refine vE e λ R en ab bG K M N P S=>?_;intro d r b
   have Q:fe T f (.refuse (k+1)) ⟨w.1,q,w.2,ab,bG++.hR (q+1) a::cG.dK (k+1) ((aj.set k a)[k+1]?.getD 0)::.dK k (aj[k]?.getD 0)::aF⟩=some (false,⟨w.1,q,O,((aj.set k a).set (k+1) 0).set (k+1) ((cG.dK k (aj[k]?.getD 0)::aF).length+1:Nat),cG.dK (k+1) ((aj.set k a)[k+1]?.getD 0)::.dK k (aj[k]?.getD 0)::aF⟩):=by
    rw[show∀l,bG++cG.hR _ a::l=bG++[cG.hR (q+1) a]++l by simp]
    refine acK ?_ (by rewrite[pG,P];rfl)
    rw[N.2 (k+1) (.inl (J [_] 74450167882973184 L))];exact xw (by rw[hs];exact n)
   exact nX (M _ r (rv (c:=d) B Q (uu rfl (by rw[b6];exact b)))) (J [_,_,_,_] 0x73144001c22010003104029001 L K)
 ·rw[a9 b,a9 b]
  refine c6.weak qA (out (c:=4) λ d r h=>?_) (J [] 2317357120 L)
  exact rwl (show 4+d=1+(1+(1+(1+d))) by exact cB (J [_] 0x8110022004400880420800 L) (J [_] 0x8410081100220044008800 L)) (st _ _ ((t a _ _ _).2 b _ _ h))
set_option tactic.hygienic false
end
end
section
section
variable{T:List Nat}{f:Bool}{rows:List cu}
theorem z5{k a m:Nat}:runN f k (T.drop a) (m+1)=if gF T f k a then runN f k (T.drop (a+1)) m+1 else 0:=by
 unfold gF
 by_cases h:a<T.length
 ·rw[oS h,hK h]
  rfl
 ·rw[su (cI h),oR (cI h)]
  rfl
theorem Ed{k:Nat}(l:List Nat):runN f k l 0=0:=by rcases l with _|_<;>rfl
theorem Ec{k:Nat}:∀(l:List Nat)(m:Nat),runN f k l m<=m/\runN f k l m<=l.length
 |[],m=>⟨df _,df _⟩
 |_::_,0=>⟨df _,df _⟩
 |c::r,m+1=>by
  obtain⟨C,I⟩:=Ec r m
  rw[Eb]
  split
  ·exact⟨J [_,_] 0x88a00888001481 L C,by simp;exact I⟩
  ·exact⟨df _,df _⟩
noncomputable def sN(O:cA)(low:Nat):Nat->List ck
 |0=>[]
 |m+1=>(low+m,O)::sN O low m
theorem G0(O:cA)(low:Nat):∀m,sN O (low+1) m++[(low,O)]=sN O low (m+1)
 |0=>rfl
 |m+1=>by
  show(low+1+m,O)::(sN O _ m++[(low,O)])=(low+(m+1),O)::sN O _ _
  rw[G0 O _ m,ez,nQ 1 m]
theorem DW{k a:Nat}{O:cA}{F:ck->List ck}:(bI T f (.one k) a O).flatMap F=if gF T f k a then F (a+1,O) else[]:=by
 rw[xg]
 split
 ·simp
 ·rfl
noncomputable def qx(n a:Nat)(a4:Int)(done:Nat):Nat:=if a4<0 then n-a else a4.toNat-done
theorem xq{o l:Nat}(h:o<l):l-o=l-(o+1)+1:=(Nat.succ_pred_eq_of_pos (Nat.sub_pos_of_lt h)).symm
theorem xr{o l:Nat}(h:l<=o):l-o=0:=vY h
theorem Zd{n a o:Nat}{a4:Int}(h:0<=a4/\a4<=o):qx n a a4 o=0:=by
 unfold qx;rw[a9 (jG.mpr h.1)];exact xr (Int.toNat_le.mpr h.2)
theorem Ze{a4:Int}{o:Nat}(h:¬a4<0)(a:¬(0<=a4/\a4<=o)):a4.toNat-o=a4.toNat-(o+1)+1:=xq (Int.lt_toNat.mpr (Int.not_le.mp λ D=>a ⟨jG.mp h,D⟩))
theorem Jx{a4:Int}{o:Nat}(a:¬(0<=a4/\a4<=o)):a4<0\/((o+1:Nat):Int)<=a4:=(Int.lt_or_le _ 0).imp id λ h=>Int.add_one_le_of_lt (Int.not_le.mp λ D=>a ⟨h,D⟩)
theorem Z7{a4:Int}{o l:Nat}(b:a4<0\/(l:Int)<=a4)(a:0<=a4/\a4<=o):l<=o:=b.elim (λ h=>((Int.not_le.mpr h) a.1).elim) λ h=>hU.mp (Int.le_trans h a.2)
theorem Di{b a4:Int}{a o:Nat}(c:b<a)(d:¬(0<=a4/\a4<=o)):¬(b=a\/(0<=a4/\a4<=o)):=λ D=>D.elim (Int.ne_of_lt c) d
theorem Bo(a:Nat):(a:Int)<((a+1:Nat):Int):=dR.mpr (eo a)
set_option tactic.hygienic true in
theorem Kh{k bF:Nat}{a4:Int}(i:a4<0\/(bF:Int)<=a4):∀(n done:Nat)(e:Int)(a:Nat)(O:cA),T.length-a<n->e<a->a<=T.length->(a4<0\/(done:Int)<=a4)->
  gL (bI T f (.one k)) bF a4 false n done e a O=sN O (a+(bF-done)) (runN f k (T.drop a) (qx T.length a a4 done)+1-(bF-done))
 |0,_,_,_,_,h,_,_,_=>((bC _) h).elim
 |n+1,done,e,a,O,Y,j,r,s=>by
  have c:=Kh (k:=k) i n (done+1) a (a+1) O
  rw[tv]
  rw[DW]
  by_cases b:0<=a4/\a4<=done
  ·have l:=Z7 i b
   rw[a9 (lK.mpr l),aT (.inr b),Zd b,Ed,xr l]
   rfl
  ·by_cases d:gF T f k a=true
   ·have g:=o3 d
    refine fz (show∃m,qx T.length a a4 done=m+1/\qx T.length (a+1) a4 (done+1)=m/\True from ?_) λ m o p z=>?_
    ·unfold qx
     split
     ·exact⟨_,xq g,rfl,trivial⟩
     ·exact⟨_,Ze (by assumption) b,rfl,trivial⟩
    have c:=c (d7 (Nat.lt_of_lt_of_eq (eo _) (xq g).symm) (nP Y)) (Bo a) g (Jx b)
    rw[p] at c
    rw[aT d,o,z5,aT d]
    split
    ·rename_i h
     rw[c,xq h,Nat.add_sub_add_right,Nat.add_right_comm]
     rfl
    ·rename_i h
     rw[a9 (Di j b),c,xr (oT (cI h)),xr (cI h),G0]
     rfl
   ·have q:runN f k (T.drop a) (qx T.length a a4 done)=0:=by
     rcases qx _ a _ _ with _|_
     case zero=>exact Ed _
     case succ m=>rw[z5,a9 d]
    rw[a9 d,q]
    split
    ·rename_i h
     rw[xq h,Nat.add_sub_add_right,Nat.zero_sub];rfl
    ·rename_i h
     rw[a9 (Di j b),xr (cI h)]
     rfl
theorem Gl{c:Nat}{g:cA}{b:List Int}{s:List cG}{q low a:Nat}{r:hI}:ji T f rows c g b (.less q low a::s) r=eJ T f rows c ⟨a-1,q,g,b,if low<a-1 then .less q low (a-1)::s else s⟩ r:=rfl
theorem Bf{c:Nat}{g:cA}{b:List Int}{s:List cG}{q k a:Nat}{left:Int}{r:hI}:ji T f rows c g b (.more q k a left::s) r=xj (if gF T f k a then some ⟨a+1,q,g,b,if left=1 then s else .more q k (a+1) (if 0<left then left-1 else-1)::s⟩ else lM T f s g b) (r=none) (λ j=>eJ T f rows c j r):=rfl
theorem LO{q k low:Nat}{O:cA}{aj:List Int}{aF:List cG}:∀m,c6 T f rows q k k (sN O low (m+1)) O aj aF (λ c r=>ji T f rows c O aj (.less q low (low+(m+1))::aF) r) 0
 |0=>h2 0 0 aj ([]) ⟨bx _,λ a r b=>by
  refine aH Gl ?_;rw[a9 (by exact λ d=>bC _ (J [_,_] 0x41100220080400445004a111001 L d (dj (J [_] 37385547023424 L)))),gr a]
  exact b,.refl,rfl,λ a r h=>by rw[gr];exact h⟩
 |m+1=>h2 0 0 aj ([.less q low (low+(m+1))]) ⟨bx _,λ a r b=>by
  rw[gr]
  refine aH Gl ?_;rw[aT (by exact J [_,_,_] 0x304440002230022088a001001 L (d2 _ _))]
  exact b,.refl,rfl,LO m⟩
noncomputable def sA(T:List Nat)(f:Bool)(k:Nat)(O:cA):Nat->Nat->Int->List ck
 |0,_,_=>[]
 |n+1,a,left=>if left≠0/\gF T f k a=true then(a+1,O)::sA T f k O n (a+1) (if 0<left then left-1 else-1) else[]
theorem A3{T:List Nat}{f:Bool}{k:Nat}{O:cA}{n a:Nat}{left:Int}:sA T f k O (n+1) a left=if left≠0/\gF T f k a=true then(a+1,O)::sA T f k O n (a+1) (if 0<left then left-1 else-1) else[]:=rfl
theorem Kf{k bF:Nat}{a4:Int}:∀(n done:Nat)(d:Int)(a:Nat)(O:cA),T.length-a<n->d<a->bF<=done->(a4<0\/(done:Int)<=a4)->
  gL (bI T f (.one k)) bF a4 true n done d a O=(a,O)::sA T f k O n a (if a4<0 then-1 else a4-done)
 |0,_,_,_,_,h,_,_,_=>((bC _) h).elim
 |n+1,done,d,a,O,Y,g,e,j=>by
  rw[tv,A3]
  rw[DW,a9 (by exact λ i=>bC _ (J [_,_] 0x208804088a009481 L e i))]
  by_cases c:0<=a4/\a4<=done
  ·rw[aT (.inr c),a9 (by rw[a9 (jG.mpr c.1)];lia)]
  ·rw[a9 (Di g c),aT rfl]
   by_cases b:gF T f k a=true
   ·rw[aT b,aT ⟨by split<;>lia,b⟩,Kf n (done+1) a _ O (by exact J [_,_,_,_,_] 0x28448000c111c08004e4018211140111001 L Y (d2 _ _) (dj (o3 b))) (Bo a) (oT e) (Jx c)]
    split<;>split<;>lia
   ·rw[a9 b,a9 λ D=>b D.2]
theorem Kg{k bF:Nat}{a4:Int}(i:a4<0\/(bF:Int)<=a4):∀(o n done:Nat)(d:Int)(a:Nat)(O:cA),T.length-a<n->d<a->bF=done+o->a<=T.length->
  gL (bI T f (.one k)) bF a4 true n done d a O=if runN f k (T.drop a) o<o then[] else(a+o,O)::sA T f k O (n-o) (a+o) (if a4<0 then-1 else a4-bF)
 |0,n,done,d,a,O,Y,e,b,j=>by
  rw[Kf n _ _ a O Y e (by exact J [_,_] 5634999353473 L (aL b)) (by lia),b]
  rfl
 |o+1,0,_,_,_,_,Y,_,_,_=>((bC _) Y).elim
 |o+1,n+1,done,d,a,O,Y,e,b,j=>by
  rw[tv]
  rw[DW,aT (by exact J [_,_,_] 0xc1110003044501001 L (aL b.symm)),z5]
  by_cases c:gF T f k a=true
  ·have g:=o3 c
   rw[aT c,aT c,Kg i o n _ a _ O (by exact J [_,_,_,_,_] 0x28448000c111c08004e4018211140111001 L Y (d2 _ _) (dj g)) (Bo a) (by exact cB (J [_,_,_] 0x3044500080088c028081 L (aL b)) (J [_,_,_] 0x31422200003044501001 L (aL b.symm))) g,Nat.add_sub_add_right,show a+1+o=a+(o+1) by exact cB (J [_,_] 0x1114040142220000 L) (J [_,_] 0x5088800044501000 L)]
   by_cases h:runN f k (T.drop (a+1)) o<o
   ·rw[aT h,aT (sx h)]
   ·rw[a9 h,a9 λ D=>h (sm D)]
  ·rw[a9 c,a9 c,aT (jI o)]
set_option tactic.hygienic true in
theorem LP{q k i:Nat}{O:cA}{aj:List Int}{aF:List cG}:∀n a (left:Int),T.length-a<n->left≠0->c6 T f rows q k k (sA T f i O n a left) O aj aF (λ c r=>ji T f rows c O aj (.more q i a left::aF) r) 0
 |0,_,_,h,_=>((bC _) h).elim
 |n+1,a,left,Y,g=>by
  rw[A3]
  by_cases b:gF T f i a=true
  ·have j:=o3 b
   rw[aT ⟨g,b⟩]
   by_cases C:left=1
   ·subst C
    refine⟨0,0,aj,[],bx _,λ d r e=>?_,.refl,rfl,?_⟩
    ·rw[gr]
     refine aH Bf ?_;rw[aT b,aT rfl]
     exact e
    ·rcases n with _|_
     case zero=>exact λ d r h=>by rw[gr];exact h
     case succ n=>
      rw[A3,a9 (λ D=>D.1 (by decide))]
      exact λ d r h=>by rw[gr];exact h
   ·refine⟨0,0,aj,[.more q i (a+1) (if 0<left then left-1 else-1)],bx _,λ d r e=>?_,.refl,rfl,LP n _ _ (J [_,_,_,_,_] 0x28448000c111c08004e4018211140111001 L Y (d2 _ _) (dj j)) (by split<;>lia)⟩
    rw[gr]
    refine aH Bf ?_;rw[aT b,a9 C]
    exact e
  ·rw[a9 λ D=>b D.2]
   intro d r h
   rw[gr]
   refine aH Bf ?_;rw[a9 b]
   exact h
theorem Bt(c:Nat):dh c<=2/\(dW c<0\/(dh c:Int)<=dW c):=by
 refine nc ?_ ?_ ?_ ?_ ?_ (λ z=>?_) c<;>first|decide|exact⟨df 2,.inr (by decide:(0:Int)<=2)⟩
theorem Et{k bF:Nat}{a4:Int}{lazy:Bool}{a s:Nat}{O:cA}{aj:List Int}{aF:List cG}(d:runN f k (T.drop a) (jR T a (if lazy then bF else a4))<bF):fe T f (.run k bF a4 lazy) ⟨a,s,O,aj,aF⟩=some (false,⟨a,s,O,aj,aF⟩):=bB _ (aT d)
theorem Es{k bF d:Nat}{a4:Int}{lazy:Bool}{a s:Nat}{O:cA}{aj:List Int}{aF:List cG}(b:runN f k (T.drop a) (jR T a (if lazy then bF else a4))=d)(h:¬d<bF):fe T f (.run k bF a4 lazy) ⟨a,s,O,aj,aF⟩=some (true,⟨a+d,s+1,O,aj,if lazy&&a4 !=bF then .more (s+1) k (a+d) (if a4<0 then-1 else a4-bF)::aF else if bF<d then .less (s+1) (a+bF) (a+d)::aF else aF⟩):=by
 subst b
 exact bB _ (a9 h)
set_option tactic.hygienic true in
theorem afS{G s k i c:Nat}{lazy:Bool}(t:T.length<=4)(h:rows[s]?=some (.run i (dh c) (dW c) lazy)):gR T f rows G s (s+1) k k (λ a O=>gL (bI T f (.one i)) (dh c) (dW c) lazy 12 0 (-1) a O) (λ z z=>1):=by
 intro a O aj aF x u y A
 obtain⟨l,v⟩:=Bt c
 have w:T.length-a<12:=J [_,_] 0x182088a0010a120881 L t (hr _ _)
 rcases lazy with _|_
 case false=>
  dsimp only
  rw[Kh v 12 0 _ a O w (by lia) u (by lia),show qx _ a _ 0=jR T a _ from rfl,Nat.sub_zero]
  by_cases b:runN f i (T.drop a) (jR T a (dW c))<dh c
  ·rw[show∀d,d<dh c->d+1-dh c=0 from λ d e=>cB ((Nat.le_total _ _).elim (λ o=>J [_,_,_] 0x230022200a6004a111001 L e (dj o)) λ o=>aL (vY o)) (J [_] 131136 L)]
   ·exact λ g r=>rv h (Et b)
   ·exact b
  ·refine a7 (⟨_,(Nat.add_sub_of_le (lK.mp b)).symm⟩:∃m,runN f i _ (jR T a (dW c))=dh c+m) λ m p=>?_
   have st:=Es (lazy:=false) (O:=O) (aj:=aj) (aF:=aF) (s:=s) (bF:=dh c) (a4:=dW c) p λ j=>bC _ (J [_,_] 73254001274126337 L j)
   rw[a9 (by simp)] at st
   rw[p,show dh c+m+1-dh c=m+1 by exact cB (J [_,_,_] 0x88c0200223140029001 L (dj (J [_,_] 36679188608 L))) (J [_,_,_] 0x30445000860044520001 L (d2 _ _))]
   clear p;rcases m with _|_
   case zero=>
    rw[a9 (by exact λ j=>bC _ (J [_] 0x2088001100111001 L j))] at st
    exact c6.one (bG:=[]) (λ g r=>hL h st) .refl rfl rfl
   case succ m=>
    rw[aT (by exact J [_,_] 0x4450100111000 L),<-ez] at st
    exact h2 1 0 aj ([.less _ _ _]) ⟨bx _,λ g r=>hL h st,.refl,rfl,LO m⟩
 case true=>
  dsimp only
  rw[Kg v _ 12 0 _ a O w (by lia) (gr _).symm u]
  have B:jR T a (dh c)=dh c:=by unfold jR;rfl
  by_cases b:runN f i (T.drop a) (dh c)<dh c
  ·exact rwl (aT b) (λ g r=>rv h (Et (show runN f i _ (jR T a (dh c))<dh c by exact b)))
  ·have st:=Es (lazy:=true) (O:=O) (aj:=aj) (aF:=aF) (s:=s) (a4:=dW c) (show runN f i _ (jR T a (dh c))=dh c by exact cB (Ec _ _).1 (lK.mp b)) (Nat.lt_irrefl _)
   rw[a9 b]
   by_cases q:dW c=dh c
   ·rw[a9 (by rw[q];simp),a9 (Nat.lt_irrefl _)] at st
    rw[a9 (by lia),q,Int.sub_self,show sA T f i O _ _ 0=[] by
     refine a7 (⟨11-dh c,cB (J [_,_,_] 0x22200c0608a6004a402c41 L (d2 _ _) (dj (J [_] 414598629505 L l))) (J [_,_,_] 0x8111800588a6004a403041 L (d2 _ _) (dj (J [_] 380238891137 L l)))⟩:∃n,12-dh c=n+1) λ n Y=>?_
     exact rwl Y (a9 λ D=>D.1 rfl)]
    exact c6.one (bG:=[]) (λ g r e=>hL h st e) .refl rfl rfl
   ·rw[aT (by simpa using q)] at st
    exact h2 1 0 aj ([.more _ i _ _]) ⟨bx _,λ g r e=>hL h st e,.refl,rfl,LP _ _ _ (cI λ j=>bC _ (J [_,_,_,_] 0x4110022300223802538182090c1108a120881 L t l (hr _ _) (d2 _ _) j)) (by split<;>lia)⟩
theorem gR.weak{G s q k b:Nat}{F:Nat->cA->List ck}{ay c:Nat->cA->Nat}(h:gR T f rows G s q k b F ay)(d:∀a O,ay a O<=c a O):gR T f rows G s q k b F c:=
 λ a O aj aF C I af e=>c6.weak qA (h a O _ _ C I af e) (d a O)
set_option tactic.hygienic true in
theorem LR{G s k c:Nat}{lazy:Bool}{x:br}(b:T.length<=4)(d:∀s k,At rows s (code x s k)->gR T f rows G s (s+(code x s k).length) k (k+d1 x) (bI T f x) (eE T f x))(h:At rows s (l5 x (code x) c lazy s k)):
  gR T f rows G s (s+(l5 x (code x) c lazy s k).length) k (k+(if m8 x then 0 else 2+d1 x)) (λ a O=>gL (bI T f x) (dh c) (dW c) lazy 12 0 (-1) a O) (λ a O=>1+oZ (bI T f x) (eE T f x) (dh c) (dW c) 12 0 (-1) a O):=by
 have loop:At _ s (m9 _ _ _ _ s k)->gR T f _ G s (s+(m9 _ _ _ _ s k).length) k (k+(2+d1 x)) (gL _ _ (dW c) lazy 12 0 _) _:=λ h=>by
  refine f5 h λ e C I af=>?_
  refine e_ (nT.mp af) λ af g z=>?_
  rw[show s+(m9 _ (dh c) (dW c) lazy s k).length=s+3+(code x _ _).length+1 by unfold m9;simp;exact cB (J [_,_] 0x1114622000008822088222800001000 L) (J [_,_] 0x11044110445000002002228c4400000 L),show k+(2+d1 x)=k+2+d1 x by exact cB (J [_,_] 0x5108800144201000 L) (J [_,_] 0x5108040144220000 L)]
  rw[show s+4+(code x _ _).length=s+3+(code x _ _).length+1 by exact cB (J [_,_] 0x88a3110000148220000 L) (J [_,_] 0x290440002228c4400000 L)] at C
  exact afN b (ix x) e C I g (d _ _ af) (dD _ _)
 clear d;rcases x with _|_
 case one i=>exact(afS b h.1).weak λ z z=>dD _ _
 all_goals exact loop h
theorem wZ(x H:cu)(l:List cu):(x::(l++[H])).length=l.length+2:=by simp
set_option tactic.hygienic true
theorem afF(y:T.length<=4)(G:Nat):∀(x:br),nF x G->∀s k,At rows s (code x s k)->gR T f rows G s (s+(code x s k).length) k (k+d1 x) (bI T f x) (eE T f x):=by
 intro x;induction x with
 |one i=>exact λ z s k h=>afQ h.1
 |place w=>exact λ z s k h=>afR h.1
 |again n m=>exact λ d s k h=>afH h.1 d.1 d.2
 |nil=>exact λ z s k h=>λ a O aj aF V N P Q=>c6.one (bG:=[]) (λ R r u=>nX u (gC _ _)) .refl rfl rfl
 |cons x r l o=>
  intro d s k h
  obtain⟨C,I⟩:=nT.mp (show At rows s (code x s k++code r (s+(code x s k).length) (k+d1 x)) from h)
  have:=afJ (l d.1 s k C) (o d.2 _ _ I) (dD _ _) (dD _ _)
  rw[show(code (.cons x r) s k).length=(code x s k).length+(code r (s+(code x s k).length) (k+d1 x)).length from bR,<-ez,show k+d1 (.cons x r)=k+d1 x+d1 r from(ez ..).symm]
  exact this
 |group n r nm o=>
  intro d s k h
  refine bf h λ e C=>?_
  refine e_ (nT.mp C) λ C I z=>?_
  have:=afK (nm:=nm) e I (o d.2.2 (s+1) (k+1) C) (J [_,_] 5667020369629184 L) d.1 d.2.1
  rw[show s+(code (.group n r nm) s k).length=s+1+(code r (s+1) (k+1)).length+1 by show s+(cu.opn k::(code r (s+1) (k+1)++[cu.close n k])).length=_;rw[wZ];exact cB (J [_,_] 0x88a1110000084501000 L) (J [_,_] 0x108a0200222844400000 L),show k+d1 (.group n r nm)=k+1+d1 r from(ez ..).symm]
  exact this
 |d4 ab aU K M=>
  intro d s k h
  refine bf h λ e C=>?_
  refine e_ (nT.mp C) λ C I af=>?_
  rw[show s+2+(code ab (s+1) k).length=s+1+(code ab (s+1) k).length+1 by exact cB (J [_,_] 0x88a1110000144220000 L) (J [_,_] 0x28844000222844400000 L)] at e I af
  have:=afI e I (K d.1 (s+1) k C) (M d.2 _ _ af) (dD _ _) (dD _ _)
  rw[show s+(code (.d4 ab aU) s k).length=s+1+(code ab (s+1) k).length+1+(code aU (s+1+(code ab (s+1) k).length+1) (k+d1 ab)).length by
   rw[YU]
   rw[show s+2+(code ab (s+1) k).length=s+1+(code ab (s+1) k).length+1 by exact cB (J [_,_] 0x88a1110000144220000 L) (J [_,_] 0x28844000222844400000 L)];simp;exact cB (J [_,_,_] 0x1822284440000008822300a001000 L) (J [_,_,_] 0x4411180500080304450888000000 L),show k+d1 (.d4 ab aU)=k+d1 ab+d1 aU from(ez ..).symm]
  exact this
 |atomic r o=>
  intro d s k h
  refine bf h λ e C=>?_
  refine e_ (nT.mp C) λ C I z=>?_
  have:=LQ e I (J [_,_] 5667020369629184 L) (o d (s+1) (k+1) C)
  rw[show s+(code (.atomic r) s k).length=s+1+(code r (s+1) (k+1)).length+1 by show s+(cu.mark k::(code r (s+1) (k+1)++[cu.cut k])).length=_;rw[wZ];exact cB (J [_,_] 0x88a1110000084501000 L) (J [_,_] 0x108a0200222844400000 L),show k+d1 (.atomic r)=k+1+d1 r from(ez ..).symm]
  exact this
 |rounds x c m l=>
  intro d s k h
  have q:=l d
  have A:bI T f (.rounds x c m)=λ a O=>if m=2 then(gL (bI T f x) (dh c) (dW c) (m==1) 12 0 (-1) a O).take 1 else gL (bI T f x) (dh c) (dW c) (m==1) 12 0 (-1) a O:=rfl
  rw[A,show d1 (.rounds x c m)=(if m=2 then 1 else 0)+(if m8 x then 0 else 2+d1 x) from rfl]
  rw[I_] at h⊢
  by_cases B:m=2
  ·clear A;subst B
   simp only[aT] at h⊢
   refine bf h λ e C=>?_
   refine e_ (nT.mp C) λ C I z=>?_
   have:=LQ e I (J [_,_] 5667020369629184 L) (LR y q C)
   rw[show s+(oV (l5 x (code x) c false) s k).length=s+1+(l5 x (code x) c false (s+1) (k+1)).length+1 by unfold oV;simp;exact cB (J [_,_] 0x4450888000022088a001000 L) (J [_,_] 0x44111400200222844400000 L),<-ez]
   refine this.weak λ a O=>?_
   show _<=3+_
   exact J [_] 0x20c402044010800 L
  ·simp only[a9 B] at h⊢
   rw[gr]
   refine(LR y q h).weak λ a O=>?_
   show _<=3+_
   exact J [_] 4503277438976 L
 |look x p cW l=>
  intro d s k h
  have q:=l d
  rw[I9] at h⊢
  rw[(ez ..).symm]
  have E:∀{j:Nat},At rows j (eD p)->∀a O aj aF,(p.getD 0<=a->∀c r,eJ T f rows c ⟨a-p.getD 0,j+(eD p).length,O,aj,aF⟩ r->eJ T f rows (1+c) ⟨a,j,O,aj,aF⟩ r)/\(¬p.getD 0<=a->∀c r,ji T f rows c O aj aF r->eJ T f rows (1+c) ⟨a,j,O,aj,aF⟩ r):=by
   intro j F a O aj aF
   rcases p with _|_
   case none=>exact⟨λ z c r u=>nX u (gC _ _),λ D=>(D (df a)).elim⟩
   case some w=>exact⟨λ v c r=>hL (j:=⟨a,j,O,aj,aF⟩) F.1 (acD v),λ v c r=>rv (j:=⟨a,j,O,aj,aF⟩) F.1 (acE v)⟩
  clear d;rcases cW with _|_
  case true=>
   rw[aT rfl] at h⊢
   refine f5 h λ e C I af=>?_
   refine bf (nT.mp af) λ af g=>?_
   refine e_ (nT.mp g) λ g t z=>?_
   rw[show s+1+1+1=s+3 from rfl] at af g t
   rw[show s+4+(eD p).length+(code x (s+3+(eD p).length) (k+2)).length=s+3+(eD p).length+(code x (s+3+(eD p).length) (k+2)).length+1 by exact cB (J [_,_,_] 0x88c518880000062904400000 L) (J [_,_,_] 0x3148220000088c51888000000 L)] at I⊢
   have:=afP (w:=0) e C I (E af) t (q _ _ g) (dD _ _)
   rw[show∀(a b c:cu),s+(a::b::c::(eD p++(code x (s+3+(eD p).length) (k+2)++[.refuse (k+1)]))).length=s+3+(eD p).length+(code x (s+3+(eD p).length) (k+2)).length+1 by intro a b c;simp;exact cB (J [_,_,_] 0x1118a3110000002208822088c02800001000 L) (J [_,_,_] 0x110441104460140000080088c51888000000 L)]
   exact this
  case false=>
   rw[a9 (by decide)] at h⊢
   refine e_ h λ e C af=>?_
   obtain⟨af,g⟩:=nT.mp af
   refine f5 (nT.mp g) λ g t H z=>?_
   rw[show s+1+1=s+2 from rfl] at af g t H
   have:=afL (w:=0) e C (E af) t H (q _ _ g) (dD _ _)
   rw[show∀(a b:cu),s+(a::b::(eD p++(code x (s+2+(eD p).length) (k+2)++[.cut (k+1),.ret k]))).length=s+2+(eD p).length+(code x (s+2+(eD p).length) (k+2)).length+2 by intro a b;simp;exact cB (J [_,_,_] 0x42314422000000441108460140001000 L) (J [_,_,_] 0x2208842300a000080108c51088000000 L)]
   exact this
theorem ZN(e:T.length<=4){x:br}{G:Nat}(g:nF x G)(i:At rows 0 (code x 0 0))(j:rows[(code x 0 0).length]?=some .fin){a:Nat}(k:a<=T.length){aj:List Int}(V:d1 x<=aj.length):
  eJ T f rows (eE T f x a (List.replicate G none)+1) ⟨a,0,List.replicate G none,aj,[]⟩ (bI T f x a (List.replicate G none)).head?:=by
 have h:=afF (f:=f) e G x g 0 0 i a (List.replicate G none) aj [] (J [_,_] 5635064206465 L V) k (λ b d h=>by simp at h) sy
 rcases c:bI T f x a (List.replicate G none) with _|_
 case nil=>
  rw[c] at h
  exact h 1 none rfl
 case cons w aV=>
  rw[c] at h
  refine r9 h λ n en ab bG l m z=>?_
  refine nX (m 1 (some w) ?_) (J [_,_,_] 0x22300222000629001 L l)
  exact qH (by rw[gr];exact j) rfl
set_option tactic.hygienic false
end
end
section
noncomputable def pr(F:Nat->Nat):Nat->Nat
 |0=>0
 |j+1=>F j
noncomputable def m_(W:Nat->Nat)(bF:Nat)(a4:Int):Nat->Nat->Bool->Nat->Nat
 |0,_,_,_=>0
 |n+1,done,a,r=>
  if done<bF then W r*max (m_ W bF a4 n (done+1) true r) (pr (m_ W bF a4 n (done+1) false) r)
  else if a=true\/(0<=a4/\a4<=done) then 1
  else 1+W r*max (m_ W bF a4 n (done+1) true r) (pr (m_ W bF a4 n (done+1) false) r)
theorem Du{W:Nat->Nat}{bF:Nat}{a4:Int}{n done:Nat}{a:Bool}{r:Nat}:m_ W bF a4 (n+1) done a r=if done<bF then W r*max (m_ W bF a4 n (done+1) true r) (pr (m_ W bF a4 n (done+1) false) r)
 else if a=true\/(0<=a4/\a4<=done) then 1
 else 1+W r*max (m_ W bF a4 n (done+1) true r) (pr (m_ W bF a4 n (done+1) false) r):=rfl
noncomputable def rJ(W ay:Nat->Nat)(bF:Nat)(a4:Int):Nat->Nat->Bool->Nat->Nat
 |0,_,_,_=>0
 |n+1,done,a,r=>
  if done<bF\/¬(a=true\/(0<=a4/\a4<=done)) then 2+ay r+W r*(1+max (rJ W ay bF a4 n (done+1) true r) (pr (rJ W ay bF a4 n (done+1) false) r))
  else 1
theorem Dj{W ay:Nat->Nat}{bF:Nat}{a4:Int}{n done:Nat}{a:Bool}{r:Nat}:rJ W ay bF a4 (n+1) done a r=if done<bF\/¬(a=true\/(0<=a4/\a4<=done)) then 2+ay r+W r*(1+max (rJ W ay bF a4 n (done+1) true r) (pr (rJ W ay bF a4 n (done+1) false) r)) else 1:=rfl
noncomputable def Z':List (List (List Nat)):=[[[0,1,1,1,1],[0,0,0,0,0],[0,0,0,0,0],[0,0,0,0,0],[0,0,0,0,0]],[[1,1,1,1,1],[2,2,2,2,2],[1,2,3,4,5],[1,1,1,1,1],[1,1,1,1,1]],[[1,1,1,1,1],[2,2,2,2,2],[4,4,4,5,6],[8,8,15,31,63],[9,9,16,65,326]],[[1,1,1,1,1],[2,2,2,2,2],[4,4,4,5,6],[8,8,15,31,63],[16,21,85,426,2557]]]
noncomputable def Z_:List (List (List Nat)):=[[[1,1,1,1,1],[0,0,0,0,0],[0,0,0,0,0],[0,0,0,0,0],[0,0,0,0,0]],[[7,8,8,8,8],[6,8,8,8,8],[6,12,14,18,22],[6,8,8,8,8],[6,8,8,8,8]],[[26,29,29,29,29],[44,50,50,50,50],[58,67,67,87,108],[72,85,95,183,375],[85,101,141,535,2692]],[[83,92,92,92,92],[158,176,176,176,176],[271,304,304,383,463],[497,558,981,2013,4093],[857,966,1746,7362,44273]]]
noncomputable def abe:List (List (List (List Nat))):=[[[[1,1,1,1,1],[0,0,0,0,0],[0,0,0,0,0],[0,0,0,0,0],[0,0,0,0,0]],[[1,1,1,1,1],[0,0,0,0,0],[0,0,0,0,0],[0,0,0,0,0],[0,0,0,0,0]],[[1,1,1,1,1],[0,0,0,0,0],[0,0,0,0,0],[0,0,0,0,0],[0,0,0,0,0]],[[1,1,1,1,1],[0,0,0,0,0],[0,0,0,0,0],[0,0,0,0,0],[0,0,0,0,0]]],[[[1,1,1,1,1],[0,0,0,0,0],[0,0,0,0,0],[0,0,0,0,0],[0,0,0,0,0]],[[1,1,1,1,1],[2,2,2,2,2],[1,2,3,4,5],[1,1,1,1,1],[1,1,1,1,1]],[[1,1,1,1,1],[2,2,2,2,2],[4,4,4,4,5],[2,4,6,8,10],[2,4,9,16,25]],[[1,1,1,1,1],[2,2,2,2,2],[4,4,4,4,5],[8,8,8,8,10],[4,8,12,16,25]]],[[[1,1,1,1,1],[0,0,0,0,0],[0,0,0,0,0],[0,0,0,0,0],[0,0,0,0,0]],[[1,1,1,1,1],[2,2,2,2,2],[4,4,4,5,6],[8,8,15,31,63],[9,9,16,65,326]],[[1,1,1,1,1],[2,2,2,2,2],[4,4,4,5,6],[8,8,15,31,63],[16,16,30,65,326]],[[1,1,1,1,1],[2,2,2,2,2],[4,4,4,5,6],[8,8,15,31,63],[16,16,30,65,326]]],[[[1,1,1,1,1],[0,0,0,0,0],[0,0,0,0,0],[0,0,0,0,0],[0,0,0,0,0]],[[1,1,1,1,1],[2,2,2,2,2],[4,4,4,5,6],[8,8,15,31,63],[16,21,85,426,2557]],[[1,1,1,1,1],[2,2,2,2,2],[4,4,4,5,6],[8,8,15,31,63],[16,21,85,426,2557]],[[1,1,1,1,1],[2,2,2,2,2],[4,4,4,5,6],[8,8,15,31,63],[16,21,85,426,2557]]]]
noncomputable def abd:List (List (List (List Nat))):=[[[[0,0,0,0,0],[0,0,0,0,0],[0,0,0,0,0],[0,0,0,0,0],[0,0,0,0,0]],[[1,1,1,1,1],[1,1,1,1,1],[1,1,1,1,1],[1,1,1,1,1],[1,1,1,1,1]],[[1,2,2,2,2],[1,2,2,2,2],[1,2,2,2,2],[1,2,2,2,2],[1,2,2,2,2]],[[1,3,3,3,3],[1,3,3,3,3],[1,3,3,3,3],[1,3,3,3,3],[1,3,3,3,3]]],[[[0,0,0,0,0],[0,0,0,0,0],[0,0,0,0,0],[0,0,0,0,0],[0,0,0,0,0]],[[7,8,8,8,8],[7,8,8,8,8],[7,12,14,18,22],[7,12,14,18,22],[7,12,14,18,22]],[[14,16,16,16,16],[20,24,24,24,24],[20,28,38,50,62],[20,32,38,50,62],[20,36,56,90,132]],[[21,24,24,24,24],[34,40,40,40,40],[46,56,62,82,102],[46,64,86,114,142],[46,72,128,218,332]]],[[[0,0,0,0,0],[0,0,0,0,0],[0,0,0,0,0],[0,0,0,0,0],[0,0,0,0,0]],[[26,29,29,29,29],[44,50,50,50,50],[58,67,67,87,108],[72,85,95,183,375],[85,101,141,535,2692]],[[52,58,58,58,58],[96,108,108,108,108],[162,183,183,232,282],[280,317,530,1082,2202],[424,485,845,2420,12146]],[[78,87,87,87,87],[148,166,166,166,166],[266,299,299,377,456],[488,549,965,1981,4029],[840,949,1715,4305,21600]]],[[[0,0,0,0,0],[0,0,0,0,0],[0,0,0,0,0],[0,0,0,0,0],[0,0,0,0,0]],[[83,92,92,92,92],[158,176,176,176,176],[271,304,304,383,463],[497,558,981,2013,4093],[857,966,1746,7362,44273]],[[166,184,184,184,184],[324,360,360,360,360],[603,672,672,843,1015],[1161,1294,2361,4865,9889],[2185,2898,9566,46554,279517]],[[249,276,276,276,276],[490,544,544,544,544],[935,1040,1040,1303,1567],[1825,2030,3741,7717,15685],[3513,4830,17386,85746,514761]]]]
noncomputable def kj(o dB r:Nat):Nat:=((Z'.getD o []).getD dB []).getD r 0
noncomputable def m'(o dB r:Nat):Nat:=((Z_.getD o []).getD dB []).getD r 0
noncomputable def kS(o n dB r:Nat):Nat:=(((abe.getD o []).getD n []).getD dB []).getD r 0
noncomputable def kk(o n dB r:Nat):Nat:=(((abd.getD o []).getD n []).getD dB []).getD r 0
theorem K1:∀o<4,∀dB<5,∀r<4,(kj o dB r<=kj o dB (r+1)/\m' o dB r<=m' o dB (r+1))/\∀n<4,kS o n dB r<=kS o n dB (r+1)/\kk o n dB r<=kk o n dB (r+1):=by decide+kernel
theorem ady:∀o<4,∀r<5,(if r=0 then 0 else 1)<=kj o 0 r/\1<=m' o 0 r:=by decide+kernel
theorem adw:∀o<3,∀r<5,1<=kj (o+1) 0 r/\7<=m' (o+1) 0 r:=by decide+kernel
theorem EC:∀o<3,∀dB<5,∀r<5,kS o 3 dB r<=kj (o+1) dB r/\1+kk o 3 dB r+kS o 3 dB r<=m' (o+1) dB r/\5+kk o 3 dB r<=m' (o+1) dB r/\1<=kj (o+1) dB r:=by decide+kernel
theorem adu:∀o<3,∀gz<4,∀fm<4,4<=gz+fm\/∀r<5,kS o 3 gz r+kS o 3 fm r<=kj (o+1) (1+gz+fm) r/\1+kk o 3 gz r+kS o 3 gz r+kk o 3 fm r<=m' (o+1) (1+gz+fm) r:=by decide+kernel
theorem adz:∀o<3,∀dB<3,∀c<6,∀r<5,m_ (kj o dB) (dh c) (dW c) 12 0 false r<=kj (o+1) (2+dB) r/\3+rJ (kj o dB) (m' o dB) (dh c) (dW c) 12 0 false r<=m' (o+1) (2+dB) r/\1<=kj (o+1) (2+dB) r:=by decide+kernel
set_option synthInstance.maxSize 1000 in
set_option synthInstance.maxHeartbeats 400000 in
theorem adv:∀o<4,∀n<3,∀gz<5,∀fm<5,5<=gz+fm\/∀r<5,kj o gz r*kS o n fm r<=kS o (n+1) (gz+fm) r/\m' o gz r+kj o gz r*kk o n fm r<=kk o (n+1) (gz+fm) r:=by decide+kernel
theorem adx:∀o<4,∀n<4,∀r<5,1<=kS o n 0 r:=by decide+kernel
theorem K2:∀dB<5,kk 3 3 dB 0+kk 3 3 dB 1+kk 3 3 dB 2+kk 3 3 dB 3+kk 3 3 dB 4+5<=1000000/\∀r<5,kS 3 3 dB r<=1000000:=by decide+kernel
def oO(W:Nat->Nat):Prop:=∀r j,r<=j->j<5->W r<=W j
theorem tL{W:Nat->Nat}(h:∀r<4,W r<=W (r+1)):oO W:=by
 intro r j a b
 induction j with
 |zero=>exact rwr (Nat.le_zero.mp a) (bx _)
 |succ j c=>
  rcases Nat.lt_or_eq_of_le a with D|rfl
  ·exact ah (c (nP D) (J [_] 0x510444000a20882220001 L b)) (h j (J [_] 0x410444000a20882220001 L b))
  ·exact bx _
set_option tactic.hygienic true in
theorem J6{W:Nat->Nat}(a:oO W):oO (pr W):=tL λ r V=>by
 rcases r with _|_
 case zero=>exact df _
 case succ r=>exact a _ _ (hq r) (J [_] 0x2882208880000820882220001 L V)
theorem Js{a b c o:Nat}(h:a<=b)(d:c<=o):max a c<=max b o:=Nat.max_le.mpr ⟨ah h (ri ..),ah d (rd ..)⟩
theorem Dv{W:Nat->Nat}(a:oO W){bF:Nat}{a4:Int}:∀n done b,oO (m_ W bF a4 n done b)
 |0,_,_=>λ z z z z=>bx _
 |n+1,done,b=>tL λ r V=>by
  have h:=Nat.mul_le_mul (a _ _ (hq r) (sx V)) (Js (Dv a (bF:=bF) (a4:=a4) n (done+1) true _ _ (hq r) (sx V)) (J6 (Dv a (bF:=bF) (a4:=a4) n (done+1) false) _ _ (hq r) (sx V)))
  rw[Du,Du]
  split
  ·exact h
  ·split
   ·exact bx _
   ·exact e7 h 1
theorem Dk{W ay:Nat->Nat}(a:oO W)(b:oO ay){bF:Nat}{a4:Int}:∀n done c,oO (rJ W ay bF a4 n done c)
 |0,_,_=>λ z z z z=>bx _
 |n+1,done,c=>tL λ r V=>by
  rw[Dj,Dj]
  split
  ·exact fV (e7 (b _ _ (hq r) (sx V)) 2) (Nat.mul_le_mul (a _ _ (hq r) (sx V)) (e7 (Js (Dk a b (bF:=bF) (a4:=a4) n (done+1) true _ _ (hq r) (sx V)) (J6 (Dk a b (bF:=bF) (a4:=a4) n (done+1) false) _ _ (hq r) (sx V))) 1))
  ·exact bx _
theorem wt{cc a:Type}{F:cc->List a}{K:Nat}:∀{l:List cc},(∀w∈l,(F w).length<=K)->(l.flatMap F).length<=l.length*K
 |[],_=>df _
 |w::l,h=>by
  rw[List.flatMap_cons,bR,fW,Nat.add_mul,Nat.one_mul,nQ]
  exact fV (wt λ v b=>h v (gU _ b)) (h w f9 ..)
theorem Aa{cc:Type}{F:cc->Nat}{K:Nat}:∀{l:List cc},(∀w∈l,F w<=K)->(l.map F).sum<=l.length*K
 |[],_=>df _
 |w::l,h=>by
  rw[jH,List.sum_cons,fW,Nat.add_mul,Nat.one_mul,nQ]
  exact fV (Aa λ v a=>h v (gU _ a)) (h w f9 ..)
section
variable{T:List Nat}{f:Bool}
def vL(T:List Nat)(F:Nat->cA->List ck)(G:Nat->cA->Nat)(W ay:Nat->Nat):Prop:=∀a O,a<=T.length->hG T O->(F a O).length<=W (T.length-a)/\G a O<=ay (T.length-a)
theorem Gi(e:T.length<=4){F:Nat->cA->List ck}{G:Nat->cA->Nat}{W ay:Nat->Nat}(q:sa T F)(m:oO W)(r:oO ay)(h:vL T F G W ay){bF:Nat}{a4:Int}{lazy:Bool}:∀n done (c:Int),
  ∀a O,a<=T.length->hG T O->(gL F bF a4 lazy n done c a O).length<=m_ W bF a4 n done (c==a) (T.length-a)/\oZ F G bF a4 n done c a O<=rJ W ay bF a4 n done (c==a) (T.length-a)
 |0,_,_,_,_,_,_=>⟨bx _,bx _⟩
 |n+1,done,c,a,O,s,t=>by
  refine bf (h a O s t) λ C I=>?_
  have u:∀w∈F a O,(gL F _ _ _ n _ a w.1 _).length<=max _ (pr _ (T.length-a))/\
    oZ F G _ _ n _ a w.1 _<=max _ (pr _ (T.length-a)):=λ w f=>by
   refine f5 (q a O w s t f) λ o i v x=>bf (Gi e q m r h (bF:=bF) (a4:=a4) (lazy:=lazy) n (done+1) a _ _ i v) λ k l=>?_
   by_cases d:w.1=a
   ·rw[d,eC] at k l
    rw[d]
    exact⟨ah k (ri ..),ah l (ri ..)⟩
   ·rw[fF.mpr λ D=>d (k3.mp D).symm] at k l
    refine a7 (⟨T.length-a-1,cB (d2 _ _) ((uo d).elim (J [_,_,_,_] 0xe11180020445004e609481 L o (hr _ _)) λ b=>dj (J [_,_,_,_] 0xc11008111c013980509481 L i (d2 _ _) b))⟩:∃j,T.length-a=j+1) λ j g=>?_
    rw[g]
    exact⟨ah k (ah (Dv m n _ _ _ j ((uo d).elim (λ b=>J [_,_,_,_,_] 0x20e02844601087098a420881 L e o (hr _ _) b) λ b=>J [_,_,_,_,_,_] 0x5480c848028088e009c803042228081 L (aL g) (d2 _ _) b (dj i)) (J [_,_,_] 0x2882228004304c11140120881 L e (aL g.symm) (hr _ _))) (rd ..)),ah l (ah (Dk m r n _ _ _ j ((uo d).elim (λ b=>J [_,_,_,_,_] 0x20e02844601087098a420881 L e o (hr _ _) b) λ b=>J [_,_,_,_,_,_] 0x5480c848028088e009c803042228081 L (aL g) (d2 _ _) b (dj i)) (J [_,_,_] 0x2882228004304c11140120881 L e (aL g.symm) (hr _ _))) (rd ..))⟩
  have p:=ah (wt λ w f=>(u w f).1) (pW _ C)
  rw[tv,Gu,Du,Dj]
  simp only[(by rw[iy]:(c==a)=true\/0<=a4/\a4<=done↔c=a\/0<=a4/\a4<=done)]
  constructor
  ·split
   ·exact p
   ·split
    ·exact bx _
    ·split
     ·rw[fW,nQ];exact e7 p 1
     ·rw[bR,nQ];exact e7 p 1
  ·split
   ·exact fV (e7 I 2) (ah (Aa λ w f=>e7 (u w f).2 1) (pW _ C))
   ·exact bx _
theorem vA{cc:Type}(l:List cc):(l.take 1).length<=1:=by rw[nK];exact Nat.min_le_left _ _
theorem Dt{x:br}{p:Option Nat}{cW:Bool}{a:Nat}{O:cA}:(bI T f (.look x p cW) a O).length<=1:=by
 rw[xQ]
 split
 ·split
  ·exact bx _
  ·exact df _
 ·rw[cM]
  split
  ·exact vA _
  ·exact df _
def t5(T:List Nat)(f:Bool)(x:br)(o:Nat):Prop:=vL T (bI T f x) (eE T f x) (kj o (d' x)) (m' o (d' x))
def x_(T:List Nat)(f:Bool)(x:br)(o:Nat):Prop:=∀n,gP x<=n->n<=3->vL T (bI T f x) (eE T f x) (kS o n (d' x)) (kk o n (d' x))
theorem l0(b:T.length<=4)(a:Nat):T.length-a<5:=kd (ah (hr ..) b)
theorem JV{k a:Nat}{O:cA}:(bI T f (.one k) a O).length<=if T.length-a=0 then 0 else 1:=by
 rw[xg]
 split
 ·rename_i d
  rw[a9 (Nat.sub_ne_zero_of_lt (o3 d))];exact bx _
 ·exact df _
theorem V4{w:Nat}{x:br}(h:jB w x):∀a O,eE T f x a O<=w:=by
 induction h with
 |nil=>exact λ z z=>bx _
 |@cons w k r c _ b=>
  intro a O
  have I:=ah (Aa λ v z=>b v.1 v.2) (pW w (ah JV (by split<;>decide):(bI T f (.one k) a O).length<=1))
  rw[Nat.one_mul] at I
  exact(rwl (nQ w 1) (e7 I 1))
theorem UO(c:T.length<=4){x r:br}{o:Nat}(e:o<4)(d:d' x+d' r<=4)(l:t5 T f x o)(V:x_ T f r o):x_ T f (.cons x r) o:=by
 intro n g Y a O i j
 refine a7 (ha (ah (jI _) g)) λ n m=>?_;subst m
 have aW:=kd (ah (gC ..) d)
 refine bf (l a O i j) λ iN p=>?_
 refine bf ((adv o e n Y _ (kd (ah (dD ..) d)) _ aW).resolve_left (Nat.not_le.mpr (kd d)) _ (l0 c a)) λ hj jc=>?_
 have k:=λ r h=>(K1 o e _ aW r h).2 n (d7 Y (ae rfl))
 have bl:∀w∈bI T f x a O,(bI T f r _ _).length<=kS o n _ _/\eE T f r _ _<=kk o n _ _:=λ w b=>by
  refine f5 (ix x a O w i j b) λ q s t y=>bf (V n (k1 g) (p0 Y) _ _ s t) λ u v=>?_
  have le:=Nat.sub_le_sub_left q T.length
  exact⟨ah u (tL (λ r h=>(k r h).1) _ _ le (l0 c a)),ah v (tL (λ r h=>(k r h).2) _ _ le (l0 c a))⟩
 exact⟨ah (ah (wt λ w b=>(bl w b).1) (pW _ iN)) hj,ah (fV p (ah (Aa λ w b=>(bl w b).2) (pW _ iN))) jc⟩
theorem nD.bd{bA:Prop}{r:br}{o:Nat}(h:nD bA r)(a:bA->x_ T f r o):vL T (bI T f r) (eE T f r) (kS o 3 (d' r)) (kk o 3 (d' r)):=a h.k7 3 h.len (bx 3)
theorem yy(b:T.length<=4){x:br}{o:Nat}(c:o+1<4)(d:d' x=0)(h:∀a O,(bI T f x a O).length<=1/\eE T f x a O<=7):t5 T f x (o+1):=by
 unfold t5
 exact rwl d (λ a O z z=>(adw o (sm c) _ (l0 b a)).imp (ah (h a O).1) (ah (h a O).2))
theorem UP(b:T.length<=4){k o:Nat}(c:o<4):t5 T f (.one k) o:=λ a O z z=>(ady o c _ (l0 b a)).imp (ah JV) id
theorem Gj(b:T.length<=4){x:br}{c o a:Nat}{O:cA}{lazy:Bool}(d:o+1<4)(fm:d' x<=2)(e:c<6)(h:t5 T f x o)(g:a<=T.length)(i:hG T O):
  (gL (bI T f x) (dh c) (dW c) lazy 12 0 (-1) a O).length<=kj (o+1) (2+d' x) (T.length-a)/\3+oZ (bI T f x) (eE T f x) (dh c) (dW c) 12 0 (-1) a O<=m' (o+1) (2+d' x) (T.length-a)/\1<=kj (o+1) (2+d' x) (T.length-a):=by
 have mono:=K1 o (mn d) _ (so fm (ae rfl))
 exact e_ (adz o (sm d) _ (kd fm) c e _ (l0 b a)) λ hj jc j=>bf (Gi b (ix x) (tL λ r V=>(mono r V).1.1) (tL λ r V=>(mono r V).1.2) h 12 0 _ a O g i) λ k l=>⟨ah k hj,ah (e7 l 3) jc,j⟩
theorem Be(i:T.length<=4)(x:br):∀o,o<4->d' x<=4->h8 x o->(d5 x=false->t5 T f x o)/\(d5 x=true->x_ T f x o):=by
 have A:∀{b},b<=4->b<5:=kd
 induction x with
 |one k=>exact λ o e z z=>⟨λ z=>UP i e,cq⟩
 |place w=>
  intro o e _ d
  refine a7 (ha d) λ o D=>?_;subst D
  refine⟨λ z=>yy i e rfl λ a O=>⟨?_,(by decide:1<=7)⟩,cq⟩
  rw[xR]
  split
  ·exact bx _
  ·exact df _
 |again n k=>
  intro o e _ d
  refine a7 (ha d) λ o E=>?_;subst E
  refine⟨λ z=>yy i e rfl λ a O=>⟨?_,(by decide:1<=7)⟩,cq⟩
  rw[Au]
  split
  ·split
   ·exact bx _
   ·exact df _
  ·exact df _
 |nil=>
  refine λ o e z z=>⟨λ h=>cq h.symm,λ z n z Y a O z z=>⟨adx o e n (kd Y) _ (l0 i a),df _⟩⟩
 |cons x r F G=>
  intro o e g d
  exact⟨λ h=>cq h.symm,λ z=>UO i e g ((F o e (ah (dD ..) g) d.2.1).1 d.1.1) ((G o e (ah (gC ..) g) d.2.2).2 d.1.2)⟩
 |rounds x c m q=>
  intro o e g d
  refine a7 (ha d.1) λ o H=>?_;subst H
  refine⟨λ z a O j l=>?_,cq⟩
  have fm:d' x<=2:=Nat.le_of_add_le_add_left g
  refine e_ (Gj i e fm d.2.1 ((q o (mn e) (ah fm (ae rfl)) d.2.2.2).1 d.2.2.1) (lazy:=m==1) j l) λ hj jc v=>⟨?_,jc⟩
  rw[ES]
  split
  ·exact ah (vA _) v
  ·exact hj
 |group n r nm q=>
  intro o e g d
  refine a7 (ha d.1) λ o I=>?_;subst I
  refine⟨λ z a O j l=>f5 (EC o (sm e) (d' r) (A g) _ (l0 i a)) λ hj jc v y=>bf (d.2.bd (λ k=>(q o (mn e) g k).2 d.2.row) a O j l) λ s t=>⟨?_,ah (fV (e7 t 1) s) jc⟩,cq⟩
  rw[ER]
  rw[cM]
  exact ah s hj
 |d4 ab aU J K=>
  intro o e g d
  refine a7 (ha d.1) λ o L=>?_;subst L
  refine⟨λ z a O j l=>?_,cq⟩
  have C:=mn e
  have B:d' ab+d' aU<=3:=Nat.le_of_add_le_add_left g
  have fP:=ah (dD ..) B
  have gs:=ah (gC ..) B
  refine bf ((adu o (sm e) _ (kd fP) _ (kd gs)).resolve_left (Nat.not_le.mpr (kd B)) _ (l0 i a)) λ hj jc=>?_
  rw[ez 1 (d' ab)] at hj jc
  refine bf (d.2.1.bd (λ k=>(J o C (oT fP) k).2 d.2.1.row) a O j l) λ s t=>bf (d.2.2.bd (λ k=>(K o C (oT gs) k).2 d.2.2.row) a O j l) λ M N=>⟨?_,ah (fV (fV (e7 t 1) s) N) jc⟩
  rw[EP]
  rw[bR]
  exact ah (fV s M) hj
 |atomic r q=>
  intro o e g d
  refine a7 (ha d.1) λ o P=>?_;subst P
  exact⟨λ z a O j l=>f5 (EC o (sm e) (d' r) (A g) _ (l0 i a)) λ hj jc v y=>bf (d.2.bd (λ k=>(q o (mn e) g k).2 d.2.row) a O j l) λ s t=>⟨ah (vA _) y,ah (fV (ae rfl) t) v⟩,cq⟩
 |look x p cW q=>
  intro o e g d
  refine a7 (ha d.1) λ o Q=>?_;subst Q
  refine⟨λ z=>?_,cq⟩
  rcases d.2 with⟨rfl,h⟩|⟨w,R,h⟩|⟨u,rfl⟩
  ·intro a O j l
   exact f5 (EC o (sm e) (d' x) (A g) _ (l0 i a)) λ hj jc v y=>bf (h.bd (λ k=>(q o (mn e) g k).2 h.row) a O j l) λ s t=>⟨ah Dt y,ah (e7 t 5) v⟩
  ·refine yy i e h.wf.1.2.2.1 λ a O=>⟨Dt,e7 (m:=2) ?_ 5⟩
   split
   ·exact ah (V4 h _ O) (nP R)
   ·exact df _
  ·refine yy i e rfl λ a O=>⟨Dt,e7 (m:=2) ?_ 5⟩
   split
   ·exact show 1<=2 by decide
   ·exact df _
end
end
noncomputable def go(pre:List ck):List ck->List ck
 |[]=>[]
 |x::r=>if x∈pre then go (pre++[x]) r else x::go (pre++[x]) r
noncomputable def dJ(l:List ck):List ck:=go [] l
theorem qg(s:List ck)(x:ck)(r:List ck):go s (x::r)=if x∈s then go (s++[x]) r else x::go (s++[x]) r:=rfl
theorem yX:∀(l:List ck){s q:List ck},(∀x,x∈s↔x∈q)->go s l=go q l
 |[],_,_,_=>rfl
 |x::r,s,q,h=>by
  rw[qg,qg,(yX r λ H=>by rw[fH,fH,h H]:go (s++[x]) r=go (q++[x]) r)]
  by_cases a:x∈s
  ·rw[aT a,aT ((h x).mp a)]
  ·rw[a9 a,a9 λ D=>a ((h x).mpr D)]
theorem sS:∀(l m s:List ck),go s (l++m)=go s l++go (s++l) m
 |[],m,s=>by rw[gT];rfl
 |x::r,m,s=>by
  show go s (x::(r++m))=_
  rw[qg,qg,sS r m _,el]
  split<;>rfl
theorem Ci:∀(l s:List ck),(go s l).length<=l.length
 |[],_=>bx _
 |x::r,s=>by
  rw[qg]
  split
  ·exact oT (Ci r _)
  ·exact h' (Ci r _)
theorem wx:∀(l s:List ck),(∀x∈l,x∈s)->go s l=[]
 |[],_,_=>rfl
 |x::r,s,h=>by
  rw[qg]
  exact rwl (aT (h x f9 ..)) (wx r _ λ H b_=>List.mem_append_left _ (h H (gU _ b_)))
theorem Dx:∀(l s:List ck)(H:ck),H∈go s l->H∈l
 |x::r,s,H,h=>by
  rw[qg] at h
  split at h
  ·exact gU _ (Dx r _ H h)
  ·rcases ew.mp h with rfl|h
   ·exact f9 ..
   ·exact gU _ (Dx r _ H h)
theorem Cj:∀(l s:List ck)(H:ck),H∈l->H∈s\/H∈go s l
 |x::r,s,H,h=>by
  unfold go
  by_cases a:x∈s
  ·rw[aT a]
   rcases ew.mp h with rfl|h
   ·exact .inl a
   ·rcases Cj r _ H h with D|D
    ·rcases fH.mp D with D|D
     ·exact .inl D
     ·rw[fG.mp D];exact .inl a
    ·exact .inr D
  ·rw[a9 a]
   rcases ew.mp h with rfl|h
   ·exact .inr f9 ..
   ·rcases Cj r _ H h with D|D
    ·rcases fH.mp D with D|D
     ·exact .inl D
     ·rw[fG.mp D];exact .inr f9 ..
    ·exact .inr (gU _ D)
theorem n'{l:List ck}{H:ck}:H∈dJ l↔H∈l:=⟨Dx l [] H,λ h=>(Cj l [] H h).resolve_left λ D=>(gh D).elim⟩
theorem yY{F:ck->List ck}:∀(l s:List ck)(q:List ck),(∀x∈s,∀H∈F x,H∈q)->go q ((go s l).flatMap F)=go q (l.flatMap F)
 |[],_,_,_=>rfl
 |x::r,s,q,h=>by
  have d:∀a:List _,(∀H∈q,H∈a)->(∀H∈F x,H∈a)->∀D∈s++[x],∀H∈F D,H∈a:=λ a C I D hz H b_=>by
   rcases fH.mp hz with hz|hz
   ·exact C H (h D hz H b_)
   ·rw[fG.mp hz] at b_;exact I H b_
  rw[List.flatMap_cons,sS,qg]
  by_cases b:x∈s
  ·rw[aT b]
   have c:=h x b
   rw[yY r _ q (d q (λ z D=>D) c),wx _ q c]
   exact yX _ λ H=>⟨List.mem_append_left _,λ D=>(fH.mp D).elim id (c H)⟩
  ·rw[a9 b,List.flatMap_cons,sS,yY r _ _ (d _ (λ z=>List.mem_append_left _) λ z=>List.mem_append_right _)]
theorem DT{F:ck->List ck}(l:List ck):dJ ((dJ l).flatMap F)=dJ (l.flatMap F):=yY l [] [] λ z h=>(gh h).elim
theorem yZ:∀(l s q:List ck),(∀x∈s,x∈q)->go q (go s l)=go q l:=λ l s q h=>by
 have:=yY l s q λ x a H b_=>by rw[fG.mp b_];exact h x a
 rwa [List.flatMap_singleton',List.flatMap_singleton'] at this
theorem aaC(l:List ck):dJ (dJ l)=dJ l:=yZ l [] [] λ z h=>(gh h).elim
theorem xf(l m:List ck):dJ (dJ l++dJ m)=dJ (l++m):=by
 show go [] (go [] l++go [] m)=go [] _
 rw[sS,sS,yZ l [] [] (λ z h=>nomatch h),yZ m [] _ λ z h=>nomatch h]
 congr 1
 exact yX _ λ H=>n'
theorem HJ{F:ck->List ck}:∀(l q:List ck),go q (l.flatMap λ w=>dJ (F w))=go q (l.flatMap F)
 |[],_=>rfl
 |x::r,q=>by
  rw[List.flatMap_cons,List.flatMap_cons,sS,sS,show go q (dJ _)=go q _ from yZ _ [] q (λ z h=>nomatch h),HJ r]
  congr 1
  exact yX _ λ H=>by rw[fH,fH];exact or_congr Iff.rfl n'
theorem JS{F:ck->List ck}(l:List ck):dJ (l.flatMap λ w=>dJ (F w))=dJ (l.flatMap F):=HJ l []
theorem aaD{F:ck->ck}(l:List ck):dJ ((dJ l).map F)=dJ (l.map F):=by
 rw[List.map_eq_flatMap,DT,<-List.map_eq_flatMap]
set_option tactic.hygienic true in
theorem zX(l:List ck):(dJ l).take 1=l.take 1:=by
 rcases l with _|_
 case nil=>rfl
 case cons x r=>
  show(go [] _).take 1=_
  unfold go
  rfl
theorem rW{l:List ck}(h:l.length<=1):dJ l=l:=by
 match l,h with
 |[],_=>rfl
 |[x],_=>
  show go [] _=_
  unfold go
  rfl
theorem nf(l:List ck):(dJ l).length<=l.length:=Ci l []
end
section
open PySem (Str)
noncomputable def hB:Option (Nat×Nat)->E
 |none=>.none
 |some (b,d)=>.tup [.int b,.int d]
noncomputable def m2(O:cA):E:=.tup (O.map hB)
noncomputable def eO(w:ck):E:=.tup [.int w.1,m2 w.2]
theorem s9(a b:Nat):((a:Int)==(b:Int))=decide (a=b):=by
 by_cases h:a=b
 ·rw[h,eC,fi rfl]
 ·rw[fF.mpr λ D=>h (k3.mp D),h_ h]
theorem afb(n:Nat)(a b:Option (Nat×Nat)):gk (n+2) (hB a) (hB b)=some (decide (a=b)):=by
 rcases a with _|⟨fP,c⟩<;>rcases b with _|⟨gs,d⟩
 ·rfl
 ·rfl
 ·rfl
 ·show some ((fP:Int)==gs&&((c:Int)==d&&true))=_
  rw[s9,s9,Bool.and_true,<-Bool.decide_and]
  exact bB _ (decide_eq_decide.mpr (by simp))
theorem EN(n:Nat):∀a b:cA,a.length=b.length->j4 (gk (n+2)) (a.map hB) (b.map hB)=some (decide (a=b))
 |[],[],_=>rfl
 |x::a,H::b,h=>by
  show(match gk _ _ _,j4 _ _ _ with|some x,some H=>some _|_,_=>none)=_
  rw[afb,EN n a b (Nat.succ.inj h)]
  show some _=_
  rw[<-Bool.decide_and]
  exact bB _ (decide_eq_decide.mpr (by simp))
theorem afc(v w:ck)(h:v.2.length=w.2.length):gk 10 (eO v) (eO w)=some (decide (v=w)):=by
 obtain⟨a,g⟩:=v
 obtain⟨b,bN⟩:=w
 have d:gk 9 (m2 g) (m2 bN)=some (decide (g=bN)):=by
  show(match(g.map _).length==(bN.map _).length with|true=>j4 _ _ _|false=>none)=_
  rw[cM,cM,h,eC]
  exact EN 6 g bN h
 show(match some ((a:Int)==b),match gk 9 _ _,some _ with|some x,some H=>some (x&&H)|_,_=>none with|some x,some H=>some _|_,_=>none)=_
 rw[d,s9]
 show some _=_
 rw[Bool.and_true,<-Bool.decide_and]
 exact bB _ (decide_eq_decide.mpr (by simp))
theorem FV(w:ck):∀l:List ck,(∀v∈l,v.2.length=w.2.length)->jK (eO w) (l.map eO)=some (decide (w∈l))
 |[],_=>rfl
 |v::l,h=>by
  show(match gk 10 _ _,jK _ _ with|some x,some H=>some _|_,_=>none)=_
  rw[afc v w (h v f9 ..),FV w l λ u b6=>h u (gU _ b6)]
  show some _=_
  rw[<-Bool.decide_or]
  exact bB _ (decide_eq_decide.mpr (by rw[ew,eq_comm]))
theorem w5{aV:List ck}{i:Nat}:(aV.map eO)[i]?=(aV[i]?).map eO:=kb ..
theorem tp{n G:Nat}{A:bo}{e:U}{r:E}{aV:List ck}(h:dw e r (aV.map eO))(j:∀w∈aV,w.2.length=G)(b:aV.length<=8000000)(q:A (.lst ((dJ aV).map eO)) e):call (n+1) 119 [r] A e:=by
 have k:(aV.map eO).length<=c7:=by rw[cM];exact b
 refine aH (ad1 ..) (h.len k (qV (v:=.rng 0 aV.length 1) ?_ ?_))
 ·rw[cM];exact xl (js (ah b (by decide)))
 refine sH (zr (ah b (by decide))) (λ i c M=>M=e/\c++(go (aV.take i) (aV.drop i)).map _=(dJ aV).map eO) ⟨rfl,rfl⟩ (λ z z z z=>trivial) (λ i x c o s p a l=>?_) λ c o a=>?_
 ·obtain⟨rfl,a⟩:=a
  obtain⟨d,rfl⟩:=z3 p
  have g:i<=1000000000:=kc (d7 d (ah b (by decide)))
  have m:=hK d
  have f:(aV.map eO)[i]?=some (eO aV[i]):=by rw[w5,m];rfl
  have cZ:aV.take (i+1)=aV.take i++[aV[i]]:=by rw[lL,m];rfl
  rw[oS d,qg] at a
  refine⟨?_,h.item g f (h.slice k rfl (eM g) (bj (r:=decide (aV[i]∉aV.take i)) ?_ (k5 (λ Y=>?_) λ Y=>?_)))⟩
  ·have:=bB List.length a
   rw[bR,cM (as:=dJ aV)] at this
   have:=nf aV
   show c.length<=8000000
   lia
  ·show(jK _ (((aV.map _).take i).drop 0)).map _=_
   rw[mT,<-List.map_take,FV _ _ λ v f=>(j v (rg f)).trans (j _ (List.getElem_mem d)).symm]
   show some (!decide _)=_
   rw[<-decide_not]
  ·rw[a9 Y] at a
   refine h.item g f (l _ _ ⟨rfl,?_⟩)
   rw[el,cZ]
   exact a
  ·rw[aT (Decidable.not_not.mp Y)] at a
   refine l _ _ ⟨rfl,?_⟩
   rw[cZ]
   exact a
 ·obtain⟨rfl,a⟩:=a
  rw[xn,List.drop_length] at a
  rw[<-a,show go _ []=[] from rfl,List.map_nil,gT] at q
  exact q
def fU(T:List Nat):Prop:=∀c∈T,c=97\/c=98\/c=65\/c=10
theorem fU.take{T:List Nat}(h:fU T)(n:Nat):fU (T.take n):=λ c a=>h c (rg a)
theorem fU.drop{T:List Nat}(h:fU T)(n:Nat):fU (T.drop n):=λ c a=>h c (List.mem_of_mem_drop a)
theorem fU.ascii{T:List Nat}(h:fU T):ascii T=true:=kz.mpr λ c a=>fi (by rcases h c a with rfl|rfl|rfl|rfl<;>decide)
theorem ab3{n:Nat}{A:bo}{e:U}{x H:List Nat}{f:Bool}(c:fU x)(b_:fU H)(d:x.length<=1000)(g:H.length<=1000)(q:A (.bool (oh f x H)) e):call (n+1) 121 [.str x,.str H,.bool f] A e:=by
 refine aH (ad3 ..) (fX (hv ?_))
 unfold oh at q
 rcases b:x==H with _|_
 ·rw[b] at q
  refine yD (fX ?_)
  rcases f with _|_
  ·exact ur q
  ·have a:∀{j:List _},fU j->j.length<=1000->oi e j .lower []=some _:=λ h a=>aT (by rw[h.ascii,fi a];rfl)
   show match oi e x _ [] with|some v=>_|none=>False
   rw[a c d]
   show match oi e H _ [] with|some v=>_|none=>False
   exact rwl (a b_ g) (hv q)
 ·rw[b] at q
  exact q
theorem aa5{n w a:Nat}{A:bo}{e:U}{T:List Nat}(h:w<3)(b:T.length<=4)(c:a<=T.length)(q:A (.bool (kR w T a)) e):call (n+1) 122 [.str (rX w),.str T,.int a] A e:=by
 have d:T.length<=c7:=ah b (ae rfl)
 have g:=λ j=>by
  show some ([97]==j||([98]==j||([65]==j||([49]==j||false))))=some (j==[97]||j==[98]||j==[65]||j==[49])
  rw[Bool.or_false,p1 (a:=j),p1 (a:=j),p1 (a:=j),p1 (a:=j),Bool.or_assoc,Bool.or_assoc]
 refine aH (ad4 ..) ?_
 revert q;apply rL h<;>intro q
 ·
  refine bj rfl (cE (jO ?_))
  exact rwl (show((a:Int)==0)=kR 0 T a by show(a==((0:Nat):Int))=(a==0);rw[s9];rfl) q
 ·
  refine bj rfl (bt (bj rfl (cE (kT d (eM (ah c (ah b (by decide)))) rfl (cb (ae rfl) rfl (bj ?_ q))))))
  show some ([]==T.drop a||([10]==T.drop a||false))=some (T.drop a==[]||T.drop a==[10])
  rw[Bool.or_false,p1 (a:=T.drop a),p1 (a:=T.drop a)]
 ·
  have f:a<=1000000000:=ah c (ah b (by decide))
  refine bj rfl (bt (bj rfl (bt (dg rfl (lN ?_ (kT d (eM (ah (hr _ _) f)) (eM f) (cb (by decide) rfl (bj (r:=r7 _) (g _) (dg rfl
   (kT d (eM f) (eM (ah (h' (ah c b)) (ae rfl))) (cb (by decide) rfl (bj ?_ (bj rfl q)))))))))))))
  ·show some (E.int (if(a:Int)-1<0 then 0 else a-1))=_
   congr 2
   split<;>omega
  ·rw[show(some a).getD 0=a from rfl,o1]
   exact g _
theorem acd{n m b d:Nat}{A:bo}{e:U}{O:cA}(c:0<m)(f:m<=O.length)(a:O.length<=100000)(q:A (m2 (O.set (m-1) (some (b,d)))) e):call (n+1) 123 [m2 O,.int m,.tup [.int b,.int d]] A e:=by
 have g:(O.map hB).length<=c7:=by rw[cM];exact ah a (ae rfl)
 have h:m<=1000000000:=ah f (ah a (ae rfl))
 refine aH (ad5 ..) (dg (bB _ (bB _ (C' (by assumption)))) (K_ g rfl (eM (ah (hr _ _) h)) (cb (cn (n:=1) (ae rfl)) rfl (K9 ?_ (K_ g (eM h) rfl (K9 ?_ ?_))))))
 ·show(((O.map _).take _).drop 0).length+1<=8000000
  rw[mT,nK,cM];exact J [_,_] 0x1e84800a3088a0010a1186a020c81 L a (Nat.min_le_right _ _)
 ·show(((O.map _).take _).drop 0++[_]).length+((O.map _).drop m).length<=8000000
  rw[mT,bR,nK,jn,cM];exact J [_,_,_] 0x3d09001466088a000086090a1186a020c82 L a (Nat.min_le_right _ _) (hr _ _)
 ·refine Eq.mp (bB (λ D=>A _ e) ?_) q
  rw[List.map_set,List.set_eq_take_append_cons_drop,aT (by rw[cM];exact J [_,_,_] 0x142230004088c009481 L f (dj (J [_] 4540987353335809 L c))),show m-1+1=m by exact cB (dj (J [_] 4540987353335809 L c)) (d2 _ _)]
  show _=((O.map _).take _).drop 0++[_]++(O.map _).drop m
  rw[el]
  rfl
section
theorem W2(R:dq)(K:Loc->U->Prop)(e:U)(v:E)(a b c o d f g h p:Option E):d6 120 [(2,0)] 0 R v (mj a b c o d f g h p) K e=K (mj a b c o d f g h (some v)) e:=by kernel_rfl
theorem W3(R:dq)(K:Loc->U->Prop)(e:U)(v w:E)(a b c o d f g h:Option E):d6 124 [] 0 R (.tup [v,w]) (ua a b c o d f g h) K e=K (ua a b c o (some v) (some w) g h) e:=by kernel_rfl
theorem W4(R:dq)(K:Loc->U->Prop)(e:U)(v w:E)(a b c o d f g h i y k l:Option E):d6 125 [] 0 R (.tup [v,w]) (gc a b c o d f g h i y k l) K e=K (gc a b c o (some v) (some w) g h i y k l) e:=by kernel_rfl
theorem Hw(R:dq)(K:Loc->U->Prop)(e:U)(v:E)(a b c o d f g h i y k l:Option E):d6 125 [] 9 R v (gc a b c o d f g h i y k l) K e=K (gc a b c o d f g (some v) i y k l) e:=by kernel_rfl
theorem W5(R:dq)(K:Loc->U->Prop)(e:U)(v:E)(a b c o d f g h i y k l:Option E):d6 125 [(9,0),(0,0)] 1 R v (gc a b c o d f g h i y k l) K e=K (gc a b c o d f (some v) h i y k l) e:=by kernel_rfl
def hJ(T:List Nat)(f:Bool)(N:Nat)(x:br)(G:Nat):Prop:=∀(n a:Nat)(O:cA)(A:bo)(e:U),N<=n->a<=T.length->hG T O->O.length=G->
 (∀r M,dw M r ((dJ (bI T f x a O)).map eO)->(∀i,r=.ref i->e.next<=i)->eh e M->A r M)->call n 125 [x.v,.str T,eO (a,O),.bool f] A e
theorem Jh(c:Nat):(f' c).1=(dh c:Int):=by
 refine nc ?_ ?_ ?_ ?_ ?_ (λ z=>?_) c<;>rfl
section
variable{T:List Nat}{f:Bool}
theorem Ke{n c m a G:Nat}{x:br}{done:Nat}{O:cA}{k:bo}{e aI:U}{r:E}{more:List ck}(o:m<3)(V:dw e r (more.map eO))(d:more.length<=7500000)(f:∀w∈more,w.2.length=G)(g:O.length=G)(i:eh aI e)
  (q:∀M,eh aI M->k (.lst ((dJ (if done<dh c then more else if m=1 then(a,O)::more else more++[(a,O)])).map eO)) M):
  (item (br.rounds x c m).v (.int 2) λ p=>(aE .Lt (.int done) p λ s=>aW s (call (n+1) 119 [r] λ t=>(k t)) (d0 (λ l=>(item (br.rounds x c m).v (.int 5) λ u=>(aE .Eq u (.str [63]) λ y=>aW y (dI [eO (a,O)] λ A=>(bw .Add A r λ B=>(l B))) (dI [eO (a,O)] λ C=>(bw .Add r C λ F=>(l F)))))) λ H=>(call (n+1) 119 [H] λ I=>(k I))))) e:=by
 refine bz rfl ?_
 rw[Jh]
 refine iE (k5 (λ h=>?_) λ h=>?_)
 ·rw[aT (dR.mp h)] at q
  exact tp V f (ah d (ae rfl)) (q _ i)
 ·rw[a9 λ D=>h (dR.mpr D)] at q
  refine fX (bz rfl (hv (jM (λ h=>?_) λ h=>?_)))
  ·have j:m=1:=by
    clear q g
    revert h
    apply rL o<;>intro h
    ·exact cq h
    ·rfl
    ·exact cq h
   rw[aT j] at q
   refine e2 (cn (n:=1) (by decide)) (dw.add .new (V.ext (.alloc _ _ _)) ?_ (tp (G:=G) .new ?_ ?_ (q _ i.jJ.jJ)))
   ·rw[cM];exact J [_] 0x7a120028c8110007270e028c81 L d
   ·intro w b
    rcases ew.mp b with rfl|b
    ·exact g
    ·exact f w b
   ·exact J [_] 0x7a120028c2220007270e028c81 L d
  ·have j:m≠1:=by rintro rfl;cases h
   rw[a9 j] at q
   refine e2 (cn (n:=1) (by decide)) (dw.add (V.ext (.alloc _ _ _)) .new ?_ (tp (G:=G) ?_ ?_ ?_ (q _ i.jJ.jJ)))
   ·rw[cM];exact J [_] 0x7a120028c2220007270e028c81 L d
   ·rw[e8];exact .new
   ·intro w b
    rcases fH.mp b with b|b
    ·exact f w b
    ·exact rwl (fG.mp b) g
   ·rw[bR];exact J [_] 0x7a120028c2220007270e028c81 L d
theorem WE{cc a:Type}{F:cc->List a}{l:List cc}{w:cc}(h:w∈l):(F w).length<=(l.flatMap F).length:=by
 induction l with
 |nil=>exact(gh h).elim
 |cons x l b=>
  rw[List.flatMap_cons,bR]
  rcases ew.mp h with rfl|h
  ·exact dD ..
  ·exact ah (b h) (gC ..)
theorem aaE{aA dB:List ck}(h:dJ aA=dJ dB)(s:ck):dJ (s::aA)=dJ (s::dB):=((xf [s] aA).symm.trans (by rw[h])).trans (xf _ dB)
theorem aaF{aA dB:List ck}(h:dJ aA=dJ dB)(s:ck):dJ (aA++[s])=dJ (dB++[s]):=((xf aA _).symm.trans (by rw[h])).trans (xf dB _)
inductive SN(dc dY et e4 ff lz ov:E)(e:U)(aV:List ck)(F:ck->List ck)(y:Nat)(i:Nat)(ak:Loc)(M:U):Prop
 |of (p:Option E) (d:ak=mj (some dc) (some dY) (some et) (some e4) (some ff) (some lz) (some ov) (some (.ref y)) p) (g:M.get y=some (.list (((aV.take i).flatMap F).map eO))) (f:Fr (·=y) e M)
theorem abP{n y:Nat}{dc m o:E}{a:Nat}{O:cA}{done:Nat}{p:Option E}{aV:List ck}{F:ck->List ck}{ab:E}{e:U}{K:ei}(V:dw e ab (aV.map eO))(dE:∀i,ab=.ref i->i≠y)(B:y<e.next)(C:e.get y=some (.list []))(g:aV.length<=2557)(s:∀w∈aV,(F w).length<=2557)(G:m=.int done)
  (H:∀w∈aV,∀(A:bo)(e:U),(∀M,eh e M->A (.lst ((F w).map eO)) M)->call n 120 [dc,.str T,eO w,.bool f,.int ((done+1:Nat):Int),.int (a:Nat)] A e)
  (q:∀p M,M.get y=some (.list ((aV.flatMap F).map eO))->(aV.flatMap F).length<=6538249->Fr (·=y) e M->K .next (mj (some dc) (some (.str T)) (some (eO (a,O))) (some (.bool f)) (some m) (some o) (some (.int (a:Nat))) (some (.ref y)) p) M):
  forM ab (d6 120 [(2,0)] 0 (call n)) (bq 120 [(2,0),(0,0)] 0 (call n)) (mj (some dc) (some (.str T)) (some (eO (a,O))) (some (.bool f)) (some m) (some o) (some (.int (a:Nat))) (some (.ref y)) p) K e:=by
 have t:∀l:List _,(∀w∈l,w∈aV)->l.length<=2557->(l.flatMap F).length<=6538249:=λ l g h=>ah (wt λ w j=>s w (g w j)) (pW _ h)
 subst G
 refine k_ V.items (SN dc _ _ _ _ o _ e aV F y) ⟨p,rfl,C,.refl _ _⟩ (λ i ak M c=>?_) (λ i v ak M L r c I z z=>?_) λ ak M c=>?_
 ·cases c with|of _ _ _ b=>exact(V.fr b dE).hQ
 ·cases c with|of p d k b=>
  subst d
  rw[w5] at r
  refine ba (gS.mp r) λ w j J=>?_;clear r;subst J
  have u:=ka j
  refine aH (W2 ..) (aH (TY ..) (dg rfl (H w u _ _ λ N x=>IM (x.get k (d7 B b.next) λ D=>D) .lst ?_ (I _ _ ⟨_,rfl,?_,(b.trans (x.mono λ z z D=>D.elim)).trans (.upd _ _ _ rfl)⟩).1)))
  ·rw[cM,cM]
   exact ah (fV (t _ (λ w=>rg) (ah (sz ..) g)) (s w u)) (ae rfl)
  ·rw[lL,j,List.flatMap_append,e8,show(some w).toList=[w] from rfl,List.flatMap_singleton]
   exact dH ..
 ·cases c with|of p d k b=>
  subst d
  rw[cM,nL] at k
  exact q _ _ k (t _ (λ z h=>h) g) b
theorem GG{b:Int}{a:Nat}(h:(!(b==(a:Int)))=true):¬b=a:=λ D=>by rw[D,eC] at h;exact cq h
theorem abR{N c m G:Nat}{x:br}(Q:m<3)(ag:hJ T f N x G)(aN:∀a O,a<=T.length->hG T O->(bI T f x a O).length<=2557)(g:Nat):∀(done:Nat)(j:Int)(a:Nat)(O:cA)(n:Nat)(A:bo)(e:U),
  l1 T.length (dh c) done j a<g->(gL (bI T f x) (dh c) (dW c) (m==1) g done j a O).length<=2557->N+g+2<=n->a<=T.length->hG T O->O.length=G->
  (∀M,eh e M->A (.lst ((dJ (gL (bI T f x) (dh c) (dW c) (m==1) g done j a O)).map eO)) M)->call n 120 [(br.rounds x c m).v,.str T,eO (a,O),.bool f,.int done,.int j] A e:=by
 induction g with
 |zero=>exact λ z z z z z z z h=>((bC _) h).elim
 |succ g av=>
  intro done j a O n A e CO t Y u B l q
  refine a7 (ha (ah (gC 2 _) Y)) λ n eI=>?_;subst eI
  have Y:=k1 (k1 Y)
  rw[tv] at t q
  refine aH (ad2 ..) (bz (v:=.int a) rfl (e2 (ae rfl) ?_))
  have R:eh e (e.alloc (.list [])):=.alloc _ _ _
  have S:decide _=false->¬done<dh c:=λ h D=>((rh h) (dR.mpr D)).elim
  refine(λ(E:done<dh c\/¬(j=a\/0<=dW c/\dW c<=done)->_)(V:¬done<dh c->j=a\/0<=dW c/\dW c<=done->_)=>
   d_ (bz (by rw[<-Jh];rfl) (iE (mb (λ h=>E (.inl (dR.mp (gg h)))) λ h=>d_ (bj rfl (iZ (λ C=>d_ (bz rfl (iE (mb
    (λ I=>E (.inr λ D=>D.elim (GG C) λ D=>((jG.mpr D.1) (gg I)).elim))
    λ I=>bz rfl (iE (mb (λ af=>E (.inr λ D=>D.elim (GG C) λ D=>((jG.mpr D.2) (gg af)).elim))
     λ af=>V (S h) (.inr ⟨jG.mp (rh I),jG.mp (rh af)⟩))))))) λ C=>V (S h) (.inl (eq_of_beq (Bool.not_eq_eq_eq_not.mp C))))))))) ?_ ?_
  ·intro F
   refine cE (bz rfl (ag _ a O _ _ (ah (ah (dD N _) (hq _)) (oT Y)) u B l λ ab aw kK y' r=>?_))
   have W:=λ w b=>ix (f:=f) x a O w u B (n'.mp b)
   generalize XG:(λ w:ck=>gL _ _ _ _ _ _ a _ _)=J at t q
   have K:=(congrFun XG)
   have aaz:=λ w b v ao=>by
    have b:=W w b
    exact((z4 (ix (T:=T) (f:=f) x) (bF:=dh c) (a4:=dW c) (lazy:=m==1) g (done+1) a) _ _ v b.2.1 b.2.2.1 (rwl (K w) (n'.mp ao))).2.2.2.trans (b.2.2.2.trans l)
   have X:∀w∈dJ _,(J w).length<=2557:=λ w b=>by
    refine ah (WE (n'.mp b)) (ah ?_ t)
    split
    ·exact bx _
    ·rename_i C
     rw[a9 (F.resolve_left C)]
     split
     ·exact hq _
     ·rw[bR];exact dD ..
   have L:dJ ((dJ (bI T f x a O)).flatMap λ w=>dJ (J w))=dJ ((bI T f x a O).flatMap J):=by rw[JS,DT]
   have Z:=d7 (eo _) r.next
   refine abP kK (λ i d D=>absurd (y' i d) (rwl D (Nat.not_succ_le_self _))) Z (r.get (fR ..) (eo _) λ D=>D) (ah (nf _) (aN a O u B)) (λ w b=>ah (nf _) (X w b)) rfl (λ w b A e q=>(λ w b C A e=>have k:=W w b;av _ a _ _ _ A e (d7 (Jy (F.imp id λ D H=>D (.inl H)) k.1 k.2.1) (nP CO)) C (h' Y) k.2.1 k.2.2.1 (k.2.2.2.trans l)) w b (rwl (K w) (X w b)) A e (rwl (K w) q)) λ p M n5 X' eQ=>?_
   have cj:=d7 Z eQ.next
   refine f3 (aH (TZ ..) (f3 (aH (T1 ..) (Ke (k:=A) Q ⟨by rw[iW,n5];rfl,λ i d=>by(injection d with a3;subst a3);exact cj⟩ (ah X' (ae rfl)) (λ w b=>?_) l (⟨kc cj,λ y C I=>(eQ.same y (d7 (j' C) r.next) (e' C)).trans ((R.trans r).same y C I)⟩) λ c9 P=>Eq.mp (bB (λ D=>A (.lst _) _) ?_) (q _ P)))))
   ·exact ba (List.mem_flatMap.mp b) λ v C I=>aaz v C w I
   ·by_cases o:done<dh c
    ·rw[aT o,aT o];exact L.symm
    ·rw[a9 o,a9 o,a9 (F.resolve_left o)]
     by_cases s:m=1
     ·rw[aT (iy.mpr s),aT s]
      exact(aaE L _).symm
     ·rw[a9 λ D=>s (iy.mp D),a9 s]
      exact(aaF L _).symm
  ·intro C I
   rw[a9 C,aT I] at q
   refine Ke (more:=[]) Q .new (df _) (λ z h=>(gh h).elim) l R λ c9 P=>Eq.mp (bB (λ D=>A _ _) ?_) (q _ P)
   rw[a9 C]
   split<;>rfl
end
end
section
theorem K0:∀o<4,∀dB<5,∀r<5,kj o dB r<=2557/\∀n<4,kS o n dB r<=2557:=by decide+kernel
section
variable{e:U}{k:bo}
theorem iL{j:List Nat}{l:List E}{t f:U->Prop}(q:t e):(item (.tup (.str j::l)) (.int 0) λ a=>aE .Eq a (.str j) λ b=>aW b t f) e:=bz rfl (hv (by rw[eC];exact q))
theorem cO{j u:List Nat}{l:List E}{t f:U->Prop}(h:(j==u)=false)(q:f e):(item (.tup (.str j::l)) (.int 0) λ a=>aE .Eq a (.str u) λ b=>aW b t f) e:=bz rfl (hv (by rw[h];exact q))
theorem xB(c:Nat):∀l:List Nat,iu [c] l=l.contains c
 |[]=>rfl
 |a::r=>by
  show(c==a&&true||iu _ r)=_
  rw[xB c r,Bool.and_true]
  rfl
noncomputable def JT:Nat->Nat
 |0=>97
 |1=>98
 |2=>46
 |3=>91
 |4=>92
 |_=>91
theorem JU(i:Nat):∃j,jY i=.tup [.str (JT i::j),.str (pq i),.bool (DV i)]/\([JT i]==[92])=(i==4):=by
 refine nc ?_ ?_ ?_ ?_ ?_ (λ z=>?_) i<;>exact⟨_,rfl,rfl⟩
theorem aaJ{R:dq}{T:List Nat}{f:Bool}{i a c:Nat}(r:T.length<=4)(s:fU T)(b:T[a]?=some c)(q:k (.bool ((pq i).contains c||(f&&(pq i).contains (vy c)&&i !=4))) e):
  (d0 (λ h=>(item (.str T) (.int a) λ t=>(item (br.one i).v (.int 1) λ nH=>(item nH (.int 1) λ u=>(aE .In t u λ w=>(f_ .Or (.bool w) h (d0 (λ d=>(f_ .And (.bool f) d (item (.str T) (.int a) λ l=>(b0 l (Str.ofString "swapcase") λ y=>(bY R y l [] λ A=>(item (br.one i).v (.int 1) λ B=>(item B (.int 1) λ E=>(aE .In A E λ F=>(f_ .And (.bool F) d (item (br.one i).v (.int 1) λ G=>(item G (.int 0) λ H=>(item H (.int 0) λ J=>(aE .NotEq J (.str [92]) λ K=>(d (.bool K))))))))))))))) λ L=>(h L)))))))) k) e:=by
 refine ba (JU i) λ j C I=>?_
 have m:a<=1000000000:=by
  refine kc (d7 (pX λ D=>?_) (ah r (ae rfl)))
  rw[oR D] at b
  exact a8 b
 have g:n_ e (br.one i).v (.int 1)=some _:=rfl
 have n:n_ e (jY i) (.int 1)=some (.str (pq i)):=by rw[C];rfl
 refine fX (kl m b (bz g (bz n (bj (bB _ (xB c _)) ?_))))
 rcases o:(pq i).contains c with _|_
 ·rw[o] at q
  refine yD (fX ?_)
  rcases f with _|_
  ·exact ur q
  ·refine p7 (kl m b ?_)
   show match oi e _ _ [] with|some v=>_|none=>False
   rw[show oi e [c] .swapcase []=some _ from aT (by
    rw[fU.ascii λ x M=>by exact rwl (fG.mp M) (s c (ka b))];rfl)]
   refine bz g (bz n (bj (bB _ (xB _ _)) ?_))
   rcases p:(pq i).contains _ with _|_
   ·rw[p] at q
    exact ur q
   ·rw[p] at q
    refine p7 (bz g (bz (by rw[C];rfl) (kl (ae rfl) rfl (bj ?_ q))))
    show some _=some !i==4
    rw[<-I]
 ·rw[o] at q
  exact Bk q
end
end
noncomputable def gX(f:Bool):Nat->E
 |0=>.tup [.str tl,.str [97],.bool f]
 |1=>.tup [.str tl,.str [98],.bool f]
 |2=>.tup [.str [97,110,121],.bool false]
 |3=>.tup [.str pk,.lst [.tup [.str qD,.int 97,.int 97],.tup [.str qD,.int 98,.int 98]],.bool false,.bool f]
 |4=>.tup [.str pk,.lst [.tup [.str zT,.str [119]]],.bool false,.bool false]
 |_=>.tup [.str pk,.lst [.tup [.str qD,.int 97,.int 97]],.bool true,.bool f]
def uh(c:Nat):Prop:=c=97\/c=98\/c=65\/c=10
noncomputable def ym:Nat->Prop->Prop
 |0,s=>s
 |n+1,s=>True/\ym n s
theorem K6{s:Prop}(h:s):∀n,ym n s
 |0=>h
 |n+1=>⟨trivial,K6 h n⟩
noncomputable def Jr:Nat->Bool->Nat->Nat
 |3,_,97=>1
 |3,_,98=>2
 |3,false,_=>3
 |3,true,65=>4
 |3,true,_=>6
 |4,_,10=>2
 |4,_,_=>1
 |5,_,97=>1
 |5,false,_=>2
 |5,true,65=>3
 |5,true,_=>4
 |_,_,_=>0
theorem WB{n k c:Nat}{f:Bool}{A:bo}{e:U}(a:k<6)(b:uh c):call (n+6) 15 [gX f k,.str [c]] A e=ym (Jr k f c) (A (.bool (qJ f k c)) e):=by
 refine u9 (P:=λ k=>call _ 15 [gX f k,.str _] A e=ym (Jr k f c) (A (.bool (qJ f k c)) e)) a ?_ ?_ ?_ ?_ ?_ ?_<;>(rcases b with rfl|rfl|rfl|rfl<;>rcases f with _|_<;>kernel_rfl)
theorem B1{n k c:Nat}{f:Bool}{A:bo}{e:U}(a:k<6)(b:uh c)(q:A (.bool (qJ f k c)) e):call (n+6) 15 [gX f k,.str [c]] A e:=aH (WB a b) (K6 q _)
theorem ab2{n c o:Nat}{f:Bool}{A:bo}{e:U}(a:uh c)(b:uh o):call (n+2) 10 [.str [c],.str [o],.bool f] A e=A (.bool (oh f [c] [o])) e:=by
 rcases a with rfl|rfl|rfl|rfl<;>rcases b with rfl|rfl|rfl|rfl<;>rcases f with _|_<;>kernel_rfl
theorem LB{n c:Nat}{A:bo}{e:U}(a:uh c):call (n+1) 7 [.str [c]] A e=A (.bool (r7 [c])) e:=by
 rcases a with rfl|rfl|rfl|rfl<;>kernel_rfl
section
noncomputable def J5:Nat->List Nat
 |0=>[65]
 |1=>[90]
 |_=>[98]
noncomputable def cu.v(f:Bool):cu->E
 |.test k=>gX f k
 |.run k bF a4 lazy=>.tup [.str [114,117,110],gX f k,.int bF,.int a4,.bool lazy]
 |.plc w=>.tup [.str [97,116],.str (J5 w)]
 |.back n=>.tup [.str oc,.lst [.int n],.bool f]
 |.opn k=>.tup [.str [111,112,101,110],.int k]
 |.close n k=>.tup [.str [99,108,111,115,101],.int n,.int k]
 |.jump s=>.tup [.str ve,.int s]
 |.split s q=>.tup [.str rS,.int s,.int q]
 |.zero c s=>.tup [.str [122,101,114,111],.int c,.int s]
 |.loop c s bF a4 lazy a b=>.tup [.str [108,111,111,112],.int c,.int s,.int bF,.int a4,.bool lazy,.int a,.int b]
 |.again c s r=>.tup [.str vf,.int c,.int s,.int r]
 |.mark k=>.tup [.str xc,.int k]
 |.cut k=>.tup [.str [99,117,116],.int k]
 |.refuse k=>.tup [.str [114,101,102,117,115,101],.int k]
 |.place k=>.tup [.str rT,.int k]
 |.ret k=>.tup [.str [114,101,116,117,114,110],.int k]
 |.behind w=>.tup [.str [98,101,104,105,110,100],.int w]
 |.fin=>.tup [.str [101,110,100]]
noncomputable def cG.v(f:Bool):cG->E
 |.jt n p=>.tup [.str jW,.int n,hB p]
 |.dK k v=>.tup [.str zQ,.int k,.int v]
 |.hR r a=>.tup [.str xb,.int r,.int a]
 |.less r low a=>.tup [.str zS,.int r,.int low,.int a]
 |.more r k a left=>.tup [.str zR,.int r,gX f k,.int a,.int left]
noncomputable def jb:List Str:=[r2,e3,Ac,xG,oj,pE,b',g6,g7,h6,iY]
noncomputable def Ee(bb:Nat)(T:List Nat)(cf a row:Int)(g b5 bU:E):dm:=.inst 17 jb [.ref bb,.str T,.int 0,.int 0,.int 1000000,.int cf,.int a,.int row,g,b5,bU]
structure cN(aI e:U)(y bb g b5 bU:Nat)(T:List Nat)(f:Bool)(cf:Nat)(j:gf):Prop where
 run:e.get y=some (Ee bb T cf j.a j.row (.ref g) (.ref b5) (.ref bU))
 jQ:e.get g=some (.list (.none::j.O.map hB))
 l6:e.get b5=some (.list (j.aj.map .int))
 pr:e.get bU=some (.list (j.aF.reverse.map (cG.v f)))
 cC:g≠b5
 di:g≠bU
 fL:b5≠bU
 iF:g≠y
 kO:b5≠y
 l2:bU≠y
 aX:aI.next<=g
 bS:aI.next<=b5
 dv:aI.next<=bU
 dE:y<e.next
 C:g<e.next
 I:b5<e.next
 af:bU<e.next
 fr:Fr (·=y) aI e
section
variable{aI e:U}{y bb g b5 bU cf:Nat}{T:List Nat}{f:Bool}{j:gf}{k:bo}{R:dq}
theorem cN.at_(h:cN aI e y bb g b5 bU T f cf j)(q:k (.int j.a) e):a6 (.ref y) b' k e:=gV h.run (by kernel_rfl) q
theorem cN.xp(h:cN aI e y bb g b5 bU T f cf j)(q:k (.int j.row) e):a6 (.ref y) g6 k e:=gV h.run (by kernel_rfl) q
theorem cN.h7(h:cN aI e y bb g b5 bU T f cf j)(q:k (.str T) e):a6 (.ref y) e3 k e:=gV h.run (by kernel_rfl) q
theorem cN.KQ(h:cN aI e y bb g b5 bU T f cf j)(q:k (.int cf) e):a6 (.ref y) pE k e:=gV h.run (by kernel_rfl) q
theorem cN.Z6(h:cN aI e y bb g b5 bU T f cf j)(q:k (.int 1000000) e):a6 (.ref y) oj k e:=gV h.run (by kernel_rfl) q
theorem cN.Zb(h:cN aI e y bb g b5 bU T f cf j)(q:k (.int 0) e):a6 (.ref y) xG k e:=gV h.run (by kernel_rfl) q
theorem cN.aa_(h:cN aI e y bb g b5 bU T f cf j)(q:k (.ref bb) e):a6 (.ref y) r2 k e:=gV h.run (by kernel_rfl) q
theorem cN.n0(h:cN aI e y bb g b5 bU T f cf j)(q:k (.ref g) e):a6 (.ref y) g7 k e:=gV h.run (by kernel_rfl) q
theorem cN.oe(h:cN aI e y bb g b5 bU T f cf j)(q:k (.ref b5) e):a6 (.ref y) h6 k e:=gV h.run (by kernel_rfl) q
theorem cN.kQ(h:cN aI e y bb g b5 bU T f cf j)(q:k (.ref bU) e):a6 (.ref y) iY k e:=gV h.run (by kernel_rfl) q
theorem cN.EJ(h:cN aI e y bb g b5 bU T f cf j){b:Nat}{eL ej:Nat}:cN aI (e.upd y (Ee bb T b eL ej (.ref g) (.ref b5) (.ref bU))) y bb g b5 bU T f b {j with a:=eL,row:=ej} where
 run:=dH ..
 jQ:=(ef h.iF).trans h.jQ
 l6:=(ef h.kO).trans h.l6
 pr:=(ef h.l2).trans h.pr
 cC:=h.cC
 di:=h.di
 fL:=h.fL
 iF:=h.iF
 kO:=h.kO
 l2:=h.l2
 aX:=h.aX
 bS:=h.bS
 dv:=h.dv
 dE:=h.dE
 C:=h.C
 I:=h.I
 af:=h.af
 fr:=h.fr.trans (.upd _ _ _ rfl)
theorem cN.ae9(h:cN aI e y bb g b5 bU T f cf j){Cm:cA}:cN aI (e.upd g (.list (.none::Cm.map hB))) y bb g b5 bU T f cf {j with O:=Cm} where
 run:=(ef h.iF.symm).trans h.run
 jQ:=dH ..
 l6:=(ef h.cC.symm).trans h.l6
 pr:=(ef h.di.symm).trans h.pr
 cC:=h.cC
 di:=h.di
 fL:=h.fL
 iF:=h.iF
 kO:=h.kO
 l2:=h.l2
 aX:=h.aX
 bS:=h.bS
 dv:=h.dv
 dE:=h.dE
 C:=h.C
 I:=h.I
 af:=h.af
 fr:=h.fr.j3 h.aX
theorem cN.ae_(h:cN aI e y bb g b5 bU T f cf j){ej:List Int}:cN aI (e.upd b5 (.list (ej.map .int))) y bb g b5 bU T f cf {j with aj:=ej} where
 run:=(ef h.kO.symm).trans h.run
 jQ:=(ef h.cC).trans h.jQ
 l6:=dH ..
 pr:=(ef h.fL.symm).trans h.pr
 cC:=h.cC
 di:=h.di
 fL:=h.fL
 iF:=h.iF
 kO:=h.kO
 l2:=h.l2
 aX:=h.aX
 bS:=h.bS
 dv:=h.dv
 dE:=h.dE
 C:=h.C
 I:=h.I
 af:=h.af
 fr:=h.fr.j3 h.bS
theorem cN.Lp(h:cN aI e y bb g b5 bU T f cf j){iq:List cG}:cN aI (e.upd bU (.list (iq.reverse.map (cG.v f)))) y bb g b5 bU T f cf {j with aF:=iq} where
 run:=(ef h.l2.symm).trans h.run
 jQ:=(ef h.di).trans h.jQ
 l6:=(ef h.fL).trans h.l6
 pr:=dH ..
 cC:=h.cC
 di:=h.di
 fL:=h.fL
 iF:=h.iF
 kO:=h.kO
 l2:=h.l2
 aX:=h.aX
 bS:=h.bS
 dv:=h.dv
 dE:=h.dE
 C:=h.C
 I:=h.I
 af:=h.af
 fr:=h.fr.j3 h.dv
theorem cN.ext{M:U}(h:cN aI e y bb g b5 bU T f cf j)(d:eh e M):cN aI M y bb g b5 bU T f cf j where
 run:=d.get h.run h.dE id
 jQ:=d.get h.jQ h.C id
 l6:=d.get h.l6 h.I id
 pr:=d.get h.pr h.af id
 cC:=h.cC
 di:=h.di
 fL:=h.fL
 iF:=h.iF
 kO:=h.kO
 l2:=h.l2
 aX:=h.aX
 bS:=h.bS
 dv:=h.dv
 dE:=d7 h.dE d.next
 C:=d7 h.C d.next
 I:=d7 h.I d.next
 af:=d7 h.af d.next
 fr:=h.fr.trans (d.mono λ z z D=>D.elim)
theorem cN.aag(h:cN aI e y bb g b5 bU T f cf j){iq:List cG}{i:Nat}(c:e.get i=some (.list (iq.reverse.map (cG.v f))))(d:i<e.next)(k:aI.next<=i)(l:g≠i)(m:b5≠i)(b:i≠y):cN aI (e.upd y (Ee bb T cf j.a j.row (.ref g) (.ref b5) (.ref i))) y bb g b5 i T f cf {j with aF:=iq} where
 run:=dH ..
 jQ:=(ef h.iF).trans h.jQ
 l6:=(ef h.kO).trans h.l6
 pr:=(ef b).trans c
 cC:=h.cC
 di:=l
 fL:=m
 iF:=h.iF
 kO:=h.kO
 l2:=b
 aX:=h.aX
 bS:=h.bS
 dv:=k
 dE:=h.dE
 C:=h.C
 I:=h.I
 af:=d
 fr:=h.fr.trans (.upd _ _ _ rfl)
theorem cN.h5(h:cN aI e y bb g b5 bU T f cf j){x:Int}{eL:Nat}(b:x=eL){A:U->Prop}(q:∀M,cN aI M y bb g b5 bU T f cf {j with a:=eL}->A M):cL (.ref y) b' (.int x) A e:=by
 subst b
 exact e9 h.run (by kernel_rfl) (ae rfl) (by kernel_rfl) (q _ h.EJ)
theorem cN.ni(h:cN aI e y bb g b5 bU T f cf j){x:Int}{eL:Nat}(a:x=eL){A:U->Prop}(q:∀M,cN aI M y bb g b5 bU T f cf {j with row:=eL}->A M):cL (.ref y) g6 (.int x) A e:=by
 subst a
 exact e9 h.run (by kernel_rfl) (ae rfl) (by kernel_rfl) (q _ h.EJ)
theorem cN.ace(h:cN aI e y bb g b5 bU T f cf j){x:Int}{eL:Nat}(a:x=eL){A:U->Prop}(q:∀M,cN aI M y bb g b5 bU T f eL j->A M):cL (.ref y) pE (.int x) A e:=by
 subst a
 exact e9 h.run (by kernel_rfl) (ae rfl) (by kernel_rfl) (q _ h.EJ)
theorem qz{i:Nat}{B:List E}{K:fp->U->Prop}(h:e.get i=some (.list B))(q:K .append e):b0 (.ref i) jx K e:=rN h (by kernel_rfl) q
theorem ZX{i:Nat}{B:List E}{K:fp->U->Prop}(h:e.get i=some (.list B))(q:K .pop e):b0 (.ref i) xD K e:=rN h (by kernel_rfl) q
theorem p4{i:Nat}{B:List E}{v:E}(h:e.get i=some (.list B))(a:B.length<=c7)(q:k .none (e.upd i (.list (B++[v])))):bY R .append (.ref i) [v] k e:=by
 unfold bY
 simp only[h]
 exact⟨a,q⟩
theorem aa7{i:Nat}{B:List E}{v:E}(h:e.get i=some (.list (B++[v])))(a:B.length<c7)(q:k v (e.upd i (.list B))):bY R .pop (.ref i) [] k e:=by
 unfold bY
 simp only[h]
 show match(B++[v]).getLast? with|some v=>_|none=>False
 rw[List.getLast?_concat]
 rw[List.dropLast_concat]
 exact⟨by rw[bR];exact a,q⟩
theorem cN.app(h:cN aI e y bb g b5 bU T f cf j){K:fp->U->Prop}(q:K .append e):b0 (.ref bU) jx K e:=qz h.pr q
theorem cN.push(h:cN aI e y bb g b5 bU T f cf j){v:E}(d:cG)(a:v=d.v f)(b:j.aF.length<=7000000)(q:∀M,cN aI M y bb g b5 bU T f cf {j with aF:=d::j.aF}->k .none M):bY R .append (.ref bU) [v] k e:=by
 subst a
 refine p4 h.pr (by rw[cM,p2];exact ah b (ae rfl)) ?_
 have:=h.Lp (iq:=d::j.aF)
 rw[List.reverse_cons,e8] at this
 exact q _ this
theorem cN.pop(h:cN aI e y bb g b5 bU T f cf j){d:cG}{s:List cG}(a:j.aF=d::s)(b:j.aF.length<=7000000){K:bo}(q:∀M,cN aI M y bb g b5 bU T f cf {j with aF:=s}->K (d.v f) M):(b0 (.ref bU) xD λ cP=>bY R cP (.ref bU) [] K) e:=by
 refine ZX h.pr ?_
 have c:=h.pr
 rw[a,List.reverse_cons,e8] at c
 refine aa7 c ?_ (q _ h.Lp)
 rw[a] at b
 rw[cM,p2]
 exact d7 (Nat.lt_of_succ_le b) (ae rfl)
theorem cN.dK(h:cN aI e y bb g b5 bU T f cf j){i:Nat}{v:Int}(a:i<=1000000000)(b:j.aj[i]?=some v)(q:k (.int v) e):item (.ref b5) (.int i) k e:=
 dw.item ⟨by rw[iW,h.l6];rfl,λ i d=>by(injection d with a3;subst a3);exact h.I⟩ a (by rw[kb,b];rfl) q
theorem cN.jt(h:cN aI e y bb g b5 bU T f cf j){i:Nat}{v:Option (Nat×Nat)}(b:0<i)(c:i<=1000000000)(a:j.O[i-1]?=some v)(q:k (hB v) e):item (.ref g) (.int i) k e:=
 dw.item ⟨by rw[iW,h.jQ];rfl,λ i d=>by(injection d with a3;subst a3);exact h.C⟩ c (by
  refine a7 (fu (k:=1) (J [_] 4540987353335809 L b)) λ i l=>?_;subst l
  show(j.O.map _)[i]?=_
  rw[kb]
  rw[Nat.add_sub_cancel] at a
  rw[a];rfl) q
theorem cN.Eg(h:cN aI e y bb g b5 bU T f cf j){i:Nat}{v:Int}(a:i<j.aj.length)(b:i<=1000000000){A:U->Prop}(q:∀M,cN aI M y bb g b5 bU T f cf {j with aj:=j.aj.set i v}->A M):gM (.ref b5) (.int i) (.int v) A e:=by
 refine tx h.l6 (i5 i) (by rw[cM];exact a) (js b) ?_
 have:=h.ae_ (ej:=j.aj.set i v)
 rw[List.map_set] at this
 exact q _ this
theorem cN.Kv(h:cN aI e y bb g b5 bU T f cf j){i:Nat}{v:Option (Nat×Nat)}(a:0<i)(b:i<=j.O.length)(c:i<=1000000000){A:U->Prop}(q:∀M,cN aI M y bb g b5 bU T f cf {j with O:=j.O.set (i-1) v}->A M):gM (.ref g) (.int i) (hB v) A e:=by
 refine tx h.jQ (i5 i) (by rw[fW,cM];exact kd b) (js c) ?_
 have:=h.ae9 (Cm:=j.O.set (i-1) v)
 refine Eq.mp (bB _ (a7 (fu (k:=1) (J [_] 4540987353335809 L a)) λ i d=>?_)) (q _ (List.map_set▸this));subst d
 rfl
theorem tA{n:Nat}(h:cN aI e y bb g b5 bU T f cf j){i:Nat}{v:Int}(a:i<j.aj.length)(b:i<=1000000000)(d:j.aF.length<=7000000){A:bo}(q:∀M,cN aI M y bb g b5 bU T f cf (l' j i v)->A .none M):call (n+1) 18 [.ref y,.int i,.int v] A e:=by
 have c:=hK a
 refine aH (aef ..) (h.kQ (h.app (h.oe (h.dK b c (cb (cn (n:=3) (ae rfl)) rfl (h.push (.dK i _) rfl d λ k C=>C.oe (C.Eg a b λ l I=>q _ ?_)))))))
 unfold l'
 exact rwl c I
theorem nZ{n:Nat}(h:cN aI e y bb g b5 bU T f cf j){A:bo}(q:∀M,cN aI M y bb g b5 bU T f cf {j with row:=j.row+1}->A (.bool true) M):call (n+1) 19 [.ref y] A e:=aH (aeg ..) (h.xp (iD (h.ni rfl λ M=>q _)))
end
end
section
theorem W7(R:dq)(K:Loc->U->Prop)(e:U)(dc dY j k l:E)(a b c o d f g h i:Option E):d6 22 [] 0 R (.tup [dc,dY,j,k,l]) (ub a b c o d f g h i) K e=K (ub a b (some dc) (some dY) (some j) (some k) (some l) h i) e:=by kernel_rfl
theorem W8(R:dq)(K:Loc->U->Prop)(e:U)(v:E)(a b c o d f:Option E):d6 25 [] 0 R v (iO a b c o d f) K e=K (iO a b (some v) o d f) e:=by kernel_rfl
theorem W9(R:dq)(K:Loc->U->Prop)(e:U)(v w:E)(a b c o d f:Option E):d6 25 [(0,0),(0,0)] 0 R (.tup [v,w]) (iO a b c o d f) K e=K (iO a b c (some v) (some w) f) e:=by kernel_rfl
theorem W_(R:dq)(K:Loc->U->Prop)(e:U)(v:E)(a b c o d f:Option E):d6 25 [(0,0),(0,0)] 2 R v (iO a b c o d f) K e=K (iO a b c o d (some v)) e:=by kernel_rfl
theorem W'(R:dq)(K:Loc->U->Prop)(e:U)(dc dY j l m n p q:E)(a b c o d f g h i y k:Option E):d6 31 [] 0 R (.tup [dc,dY,j,l,m,n,p,q]) (uc a b c o d f g h i y k) K e=K (uc a b (some dc) (some dY) (some j) (some l) (some m) (some n) (some p) (some q) k) e:=by kernel_rfl
theorem Xa(R:dq)(K:Loc->U->Prop)(e:U)(dc dY h i j:E)(a b c o d f g:Option E):d6 41 [] 0 R (.tup [dc,dY,h,i,j]) (ud a b c o d f g) K e=K (ud a b (some dc) (some dY) (some h) (some i) (some j)) e:=by kernel_rfl
def nv(G N n:Nat):cG->Prop
 |.jt m _=>0<m/\m<=G
 |.dK k _=>k<N
 |.hR _ a=>a<=n
 |.less _ low a=>low<a/\a<=n
 |.more _ k a _=>k<6/\a<=n
structure j8(G N n:Nat)(j:gf):Prop where
 a:j.a<=n
 O:j.O.length=G
 aj:j.aj.length=N
 aF:∀d∈j.aF,nv G N n d
def mQ(G:Nat):cu->Prop
 |.test k=>k<6
 |.run k bF a4 _=>k<6/\bF<=2/\(a4<0\/(bF:Int)<=a4)
 |.plc w=>w<3
 |.back n=>0<n/\n<=G
 |.close n _=>0<n/\n<=G
 |_=>True
noncomputable def Hq:cu->Nat
 |.test _=>20
 |.run _ _ _ _=>22
 |.plc _=>24
 |.back _=>25
 |.opn _=>26
 |.close _ _=>27
 |.jump _=>28
 |.split _ _=>29
 |.zero _ _=>30
 |.loop _ _ _ _ _ _ _=>31
 |.again _ _ _=>32
 |.mark _=>33
 |.cut _=>34
 |.refuse _=>36
 |.place _=>37
 |.ret _=>38
 |.behind _=>39
 |.fin=>0
section
variable{aI e:U}{y bb g b5 bU cf G N:Nat}{T:List Nat}{f:Bool}{j:gf}{A:bo}
def jE(aI:U)(y bb:Nat)(T:List Nat)(f:Bool)(cf G N:Nat)(r:cu):Prop:=∀(n:Nat)(A:bo)(e:U)(g b5 bU:Nat)(j:gf)(b:Bool)(a:gf),8<=n->cN aI e y bb g b5 bU T f cf j->j8 G N T.length j->j.aF.length<=6000000->N<=1000000->G<=1000000->fe T f r j=some (b,a)->
 (∀M bN c d,cN aI M y bb bN c d T f cf a->A (.bool b) M)->call n (Hq r) [.ref y,r.v f] A e
theorem fU.at{T:List Nat}(b:fU T){a c:Nat}(h:T[a]?=some c):uh c:=b c (ka h)
theorem o7{T:List Nat}{a:Nat}(h:a<T.length):∃c,T[a]?=some c:=⟨_,hK h⟩
theorem uH{k a c:Nat}(h:T[a]?=some c):gF T f k a=qJ f k c:=by unfold gF;rw[h]
theorem rP{a:Nat}(b:T.length<=4)(h:a<=T.length):a<=1000000000:=ah h (ah b (ae rfl))
theorem p8(a:T.length<=4):T.length<=c7:=ah a (ae rfl)
theorem abv(m:T.length<=4)(o:fU T){i:Nat}(p:i<6):jE aI y bb T f cf G N (.test i):=by
 intro n A e g b5 bU j b t Y h ok u v w k q
 apply i7 Y;intro n
 have k:=c' k
 refine aH (aeh ..) (d_ (h.at_ (h.h7 (j2 (p8 m) (uO (mb (λ C=>cE ?_) λ C=>?_))))))
 ·rw[a9 λ D=>((lK.mpr (hU.mp (gg C))) (o3 D)).elim] at k
  (injection k with a3 bL;subst a3 bL)
  exact q _ _ _ _ h
 ·refine a7 (o7 (pX λ D=>rh C (hU.mpr D))) λ c l=>h.h7 (h.at_ (kl (rP m ok.a) l (B1 p (o.at l) (dk (mb (λ I=>cE ?_) λ I=>bt (h.at_ (iD (h.h5 rfl λ x r=>nZ r λ B s=>?_))))))))
  ·rw[<-uH l] at I
   rw[a9 λ D=>by rw[D] at I;exact cq I] at k
   (injection k with a3 bL;subst a3 bL)
   exact q _ _ _ _ h
  ·rw[<-uH l] at I
   rw[aT (by rcases d:gF T f i _ with _|_;rw[d] at I;exact(Bool.noConfusion I);rfl)] at k
   (injection k with a3 bL;clear k;subst a3 bL)
   exact q _ _ _ _ s
theorem abp(o:T.length<=4)(t:fU T){w:Nat}(B:w<3):jE aI y bb T f cf G N (.plc w):=by
 intro n A e g b5 bU j b R Y h ok S U W m q
 apply i7 Y;intro n
 have m:=c' m
 have fin:∀(s:bo),(∀v M,s v M=A v M)->f_ .And (.bool (kR w T _)) s (call (n+7) 19 [.ref y] s) e:=λ s u=>by
  rcases d:kR w T _ with _|_
  ·rw[a9 λ D=>by rw[d] at D;exact cq D] at m
   (injection m with a3 bL;subst a3 bL)
   exact ur (by rw[u];exact q _ _ _ _ h)
  ·rw[aT d] at m
   (injection m with a3 bL;clear m;subst a3 bL)
   exact p7 (nZ h λ X C=>by rw[u];exact q _ _ _ _ C)
 refine aH (ael ..) (fX (bz rfl (aH (aek ..) (h.at_ (h.h7 ?_)))))
 revert fin;apply rL B<;>intro fin
 ·
  refine bj rfl (cE (jO ?_))
  exact rwl (show((j.a:Int)==0)=kR 0 T _ by show(j.a==((0:Nat):Int))=(j.a==0);rw[s9];rfl) (fin _ λ z z=>rfl)
 ·
  refine bj rfl (bt (bj rfl (bt (bj rfl (cE (fX (j2 (p8 o) (jO ?_))))))))
  rw[s9]
  by_cases C:j.a=T.length
  ·rw[fi C]
   have d:kR 1 T j.a=true:=by
    show(T.drop _==[]||_)=true
    rw[C,List.drop_length];rfl
   have:=fin
   rw[d] at this
   exact Bk (this _ λ z z=>rfl)
  ·rw[h_ C]
   have i:=Nat.lt_of_le_of_ne ok.a C
   refine a7 (o7 i) λ c k=>?_
   have x:T.drop j.a=c::T.drop (j.a+1):=by rw[oS i];rw[hK i] at k;obtain rfl:=cm k;rfl
   refine yD (fX (j2 (p8 o) (dg rfl (jO ?_))))
   by_cases I:j.a+1=T.length
   ·rw[iy.mpr (by lia)]
    refine p7 (kl (rP o ok.a) k (hv ?_))
    have d:kR 1 T j.a=([c]==[10]):=by
     show(T.drop _==[]||T.drop _==[10])=_
     rw[x,I,List.drop_length];rfl
    rw[<-d]
    exact fin _ λ z z=>rfl
   ·rw[fF.mpr (by lia)]
    have d:kR 1 T j.a=false:=by
     show(T.drop _==[]||T.drop _==[10])=_
     rw[x]
     rcases E:T.drop _ with _|_
     case nil=>have:=List.drop_eq_nil_iff.mp E;exact(bC _ ((uo I).elim (J [_,_] 0x82201022088a00042228081 L this) (J [_,_] 0x8220044400445004a111001 L i))).elim
     case cons H l=>
      show(false||c==10&&false)=false
      rw[Bool.and_false];rfl
    have:=fin
    rw[d] at this
    exact ur (this _ λ z z=>rfl)
 ·
  refine bj rfl (bt (bj rfl (bt (bj rfl (bt (bj rfl (bt (bj rfl (bt (bj rfl (bt (mz (λ r M=>r=.bool (r7 ((T.drop j.a).take 1))/\M=e) (λ F p=>j2 (p8 o) (iE (Gh (λ C=>?_) λ C=>?_))) λ r M V=>?_))))))))))))
  ·have i:=dR.mp C
   refine a7 (o7 i) λ c k=>kl (rP o ok.a) k (aH (LB (t.at k)) (p _ _ ⟨?_,rfl⟩))
   rw[oS i]
   rw[hK i] at k
   obtain rfl:=cm k
   rfl
  ·refine p _ _ ⟨?_,rfl⟩
   rw[su (hU.mp (jG.mp C))]
   rfl
  ·refine bf V λ K O=>?_;clear V;subst K;subst O
   refine mz (λ r x7=>r=.bool (r7 ((T.take j.a).drop (j.a-1)))/\x7=M) (λ F p=>n1 (Gh (λ C=>?_) λ C=>?_)) λ r x7 V=>?_
   ·have i:j.a-1<T.length:=by have:=ok.a;exact J [_,_,_] 0x142230004088c009481 L this (dj (J [_] 4540987353335809 L (dR.mp C)))
    refine a7 (o7 i) λ c k=>dg (bB some (bB _ (by lia))) (kl (rP o (kc i)) k (aH (LB (t.at k)) (p _ _ ⟨?_,rfl⟩)))
    have d:T.take j.a=T.take (j.a-1)++[c]:=by
     conv=>lhs;rw[show j.a=j.a-1+1 by exact cB (d2 _ _) (dj (J [_] 4540987353335809 L (dR.mp C)))]
     rw[lL,k];rfl
    rw[d,List.drop_append,su (List.length_take_le ..),nK,Nat.min_eq_left (kc i),Nat.sub_self]
    rfl
   ·refine p _ _ ⟨?_,rfl⟩
    rw[show j.a=0 by exact cB (hU.mp (jG.mp C)) (J [_] 131136 L)]
    rfl
   ·refine bf V λ P Q=>?_;clear V;subst P;clear h;subst Q
    refine bj (r:=kR 2 T j.a) ?_ (bj rfl (bj ?_ (fin _ λ z z=>rfl)))
    ·show some _=some !r7 _==r7 _
     rw[p1]
    ·cases kR 2 T _<;>rfl
theorem abn{k:Nat}:jE aI y bb T f cf G N (.opn k):=by
 intro n A e g b5 bU j b l Y h ok d i m a q
 apply i7 Y;intro n
 by_cases c:k<j.aj.length
 ·have a:=c' ((aT c).symm.trans a)
  (injection a with a3 bL;subst a3 bL)
  exact aH (aen ..) (bz rfl (h.at_ (tA h c (by have:=ok.aj;exact J [_,_,_] 0x77359400619404304c111401f424020c81 L i c (aL this)) (ah d (ae rfl)) λ o C=>nZ C λ p I=>q _ _ _ _ I)))
 ·exact a8 ((a9 c).symm.trans a)
theorem abo{k:Nat}:jE aI y bb T f cf G N (.place k):=by
 intro n A e g b5 bU j b l Y h ok d i m a q
 apply i7 Y;intro n
 by_cases c:k<j.aj.length
 ·have a:=c' ((aT c).symm.trans a)
  (injection a with a3 bL;subst a3 bL)
  exact aH (aez ..) (bz rfl (h.at_ (tA h c (by have:=ok.aj;exact J [_,_,_] 0x77359400619404304c111401f424020c81 L i c (aL this)) (ah d (ae rfl)) λ o C=>nZ C λ p I=>q _ _ _ _ I)))
 ·exact a8 ((a9 c).symm.trans a)
end
end
section
section
variable{aI e:U}{y bb g b5 bU cf G N:Nat}{T:List Nat}{f:Bool}{j:gf}{A:bo}
set_option tactic.hygienic true in
theorem abi{i k:Nat}(m:0<i)(o:i<=G):jE aI y bb T f cf G N (.close i k):=by
 intro n A e g b5 bU j b H Y h ok w x B c q
 apply i7 Y;intro n
 have t:=ok.O
 have D:=ok.aj
 refine a7 (⟨_,hK (J [_,_,_,_] 0xc111c0020447004c509481 L o (aL t.symm) (dj (J [_] 4540987353335809 L m)))⟩:∃p,j.O[i-1]?=some p) λ p r=>?_
 rcases l:j.aj[k]? with _|_
 case none=>
  have:fe T f (.close i k) j=none:=by
   show(match j.aj[k]?,j.O[i-1]? with|some v,some p=>_|_,_=>_)=_
   exact l.symm▸rfl
  exact a8 (this.symm.trans c)
 case some v=>
  have F:k<N:=by
   exact rwr D ((iz.mp l).1)
  have d:fe T f (.close i k) j=if 0<=v then some (true,⟨j.a,j.row+1,j.O.set (i-1) (some (v.toNat,j.a)),j.aj,.jt i p::j.aF⟩) else none:=by
   show(match j.aj[k]?,j.O[i-1]? with|some v,some p=>_|_,_=>_)=_
   exact l.symm▸r.symm▸rfl
  rw[d] at c
  by_cases s:0<=v
  ·rw[aT s] at c
   cases c
   have u:i<=1000000000:=J [_,_] 0x1dcd6500186407a120106509481 L o B
   exact aH (aeo ..) (h.kQ (h.app (bz rfl (h.n0 (bz rfl (h.jt m u r (cb (cn (n:=3) (ae rfl)) (by clear r d;rcases p with _|_<;>rfl) (h.push (.jt i p) rfl (ah w (ae rfl)) λ K C=>C.oe (bz rfl (C.dK (J [_,_] 0xee6b2800c32808111401f424020c81 L x F) l (C.at_ (cb (cn (n:=2) (ae rfl)) rfl (C.n0 (bz rfl ((rwl (show E.tup _=hB (some (v.toNat,j.a)) by show _=E.tup _;rw[Int.toNat_of_nonneg s]) (C.Kv m (J [_,_,_] 6734715327617 L o (aL t.symm)) u λ M I=>nZ I λ P af=>q _ _ _ _ af)))))))))))))))))
  ·rw[a9 s] at c
   exact a8 c
theorem abk{s:Nat}:jE aI y bb T f cf G N (.jump s):=by
 intro n A e g b5 bU j b c Y h ok d i k a q
 apply i7 Y;intro n
 cases a
 exact aH (aep ..) (bz rfl (h.ni rfl λ l=>q _ _ _ _))
theorem abu{s iq:Nat}:jE aI y bb T f cf G N (.split s iq):=by
 intro n A e g b5 bU j b d Y h ok a i k c q
 apply i7 Y;intro n
 cases c
 exact aH (aeq ..) (h.kQ (h.app (bz rfl (h.at_ (cb (cn (n:=3) (ae rfl)) rfl (h.push _ rfl (ah a (ae rfl)) λ l C=>bz rfl (C.ni rfl λ m I=>q _ _ _ _ I)))))))
theorem abw{c s:Nat}:jE aI y bb T f cf G N (.zero c s):=by
 intro n A e g b5 bU j b m Y h ok i k o d q
 apply i7 Y;intro n
 have l:=ok.aj
 by_cases a:c<j.aj.length/\s<j.aj.length
 ·have d:=c' ((aT a).symm.trans d)
  (injection d with a3 bL;subst a3 bL)
  exact aH (aes ..) (bz rfl (tA h a.1 (J [_,_,_] 0x77359400619805088c0090a1f424020c81 L k (aL l) a.1) (ah i (ae rfl)) λ p C=>bz rfl (tA C ((rwl hs a.2)) (J [_,_,_] 0x77359400619805088c0090a1f424020c81 L k (aL l) a.2) (Nat.succ_le_of_lt (so i (by exact ae rfl))) λ r I=>nZ I λ t af=>q _ _ _ _ af)))
 ·exact a8 ((a9 a).symm.trans d)
set_option tactic.hygienic true
theorem abf{c s r:Nat}:jE aI y bb T f cf G N (.again c s r):=by
 intro n A e g b5 bU j b u Y h ok t m w i q
 apply i7 Y;intro n
 have o:=ok.aj
 rcases k:j.aj[c]? with _|_
 case none=>
  have:fe T f (.again c s r) j=none:=by
   show(match j.aj[c]? with|some v=>_|none=>_)=_
   exact k.symm▸rfl
  exact a8 (this.symm.trans i)
 case some v=>
  have p:=(iz.mp k).1
  have d:fe T f (.again c s r) j=if s<j.aj.length then some (true,{l' (l' j c (v+1)) s j.a with row:=r}) else none:=by
   show(match j.aj[c]? with|some v=>_|none=>_)=_
   exact k.symm▸rfl
  rw[d] at i
  by_cases l:s<j.aj.length
  ·rw[aT l] at i
   cases i
   exact aH (aeu ..) (bz rfl (h.oe (bz rfl (h.dK (J [_,_,_] 0x77359400619805088c0090a1f424020c81 L m (aL o) p) k (dg rfl (tA h p (J [_,_,_] 0x77359400619805088c0090a1f424020c81 L m (aL o) p) (ah t (ae rfl)) λ x C=>bz rfl (C.at_ (tA C ((rwl hs l)) (J [_,_,_] 0x77359400619805088c0090a1f424020c81 L m (aL o) l) (Nat.succ_le_of_lt (so t (by exact ae rfl))) λ B I=>
    bz rfl (I.ni rfl λ D af=>q _ _ _ _ af)))))))))
  ·rw[a9 l] at i
   exact a8 i
theorem abl{c s bF:Nat}{a4:Int}{lazy:Bool}{m o:Nat}:jE aI y bb T f cf G N (.loop c s bF a4 lazy m o):=by
 intro n A e g b5 bU j b K Y h ok H B M i q
 have E:j.aF.length<=7000000:=ah H (ae rfl)
 apply i7 Y;intro n
 have F:=ok.aj
 rcases k:j.aj[c]? with _|_
 case none=>
  have:fe T f (.loop c s bF a4 lazy m o) j=none:=by
   show(match j.aj[c]?,j.aj[s]? with|some v,some p=>_|_,_=>_)=_
   exact k.symm▸rfl
  exact a8 (this.symm.trans i)
 case some v=>
  rcases l:j.aj[s]? with _|_
  case none=>
   have:fe T f (.loop c s bF a4 lazy m o) j=none:=by
    show(match j.aj[c]?,j.aj[s]? with|some v,some p=>_|_,_=>_)=_
    exact k.symm▸l.symm▸rfl
   exact a8 (this.symm.trans i)
  case some w=>
   have d:=(xx k l).symm.trans i
   have d:=c' d
   refine aH (aet ..) (aH (W' ..) (aH (Uj ..) (h.oe (h.dK (J [_,_,_] 0x77359400619805088c0090a1f424020c81 L B (aL F) (iz.mp k).1) k (h.ni rfl λ O C=>iE (k5 (λ r=>?_) λ r=>?_))))))
   ·rw[aT r] at d
    (injection d with a3 bL;subst a3 bL)
    exact gn (q _ _ _ _ C)
   ·rw[a9 r] at d
    refine d_ (C.oe (C.dK (J [_,_,_] 0x77359400619805088c0090a1f424020c81 L B (aL F) (iz.mp l).1) l (C.at_ (jO (mb (λ a=>cE ?_) λ a=>d_ (Dn (k5 (λ t=>Dn (K8 (λ u=>cE ?_) λ u=>bt ?_)) λ t=>iX (bt ?_))))))))
    ·have a:=eq_of_beq a
     rw[aT (.inl a)] at d
     (injection d with a3 bL;subst a3 bL)
     exact C.ni rfl λ x I=>gn (q _ _ _ _ I)
    ·rw[aT (.inr ⟨t,u⟩)] at d
     (injection d with a3 bL;clear i;subst a3 bL)
     exact C.ni rfl λ x I=>gn (q _ _ _ _ I)
    all_goals
     rw[a9 (by rintro(D|D)<;>first|exact(λ D=>by rw[D,eC] at a;injection a) D|exact u D.2|exact t D.1)] at d
     clear i;rcases lazy with _|_
     case true=>
      (injection d with a3 bL;subst a3 bL)
      exact dk (cE (C.kQ (C.app (C.at_ (cb (cn (n:=3) (ae rfl)) rfl (C.push _ rfl E λ x I=>I.ni rfl λ P af=>gn (q _ _ _ _ af)))))))
     case false=>
      (injection d with a3 bL;subst a3 bL)
      exact dk (bt (C.kQ (C.app (C.at_ (cb (cn (n:=3) (ae rfl)) rfl (C.push _ rfl E λ x I=>gn (q _ _ _ _ I)))))))
set_option tactic.hygienic false
theorem abm{k:Nat}:jE aI y bb T f cf G N (.mark k):=by
 intro n A e g b5 bU j b s Y h ok l m t c q
 apply i7 Y;intro n
 have o:=ok.aj
 by_cases a:k<j.aj.length
 ·have c:=c' ((aT a).symm.trans c)
  (injection c with a3 bL;subst a3 bL)
  refine aH (aev ..) (bz rfl (tA h a (J [_,_,_] 0x77359400619805088c0090a1f424020c81 L m (aL o) a) (ah l (ae rfl)) λ p C=>C.kQ ?_))
  have r:dw p (.ref bU) ((l' j k 0).aF.reverse.map (cG.v f)):=⟨by(rewrite[iW];refine(rwl C.pr ?_));rfl,λ i d=>by(injection d with a3;subst a3);exact C.af⟩
  refine r.len (by(rewrite[cM];refine(rwl p2 ?_));exact ah (h' l) (by exact ae rfl)) (C.oe (bz rfl ?_))
  (rewrite[cM];refine(rwl p2 ?_))
  exact C.Eg (by exact(rwl hs a)) (J [_,_,_] 0x77359400619805088c0090a1f424020c81 L m (aL o) a) λ u I=>nZ I λ w af=>q _ _ _ _ af
 ·exact a8 ((a9 a).symm.trans c)
set_option tactic.hygienic true in
theorem abr(r:T.length<=4){k:Nat}:jE aI y bb T f cf G N (.ret k):=by
 intro n A e g b5 bU j b s Y h ok t m u c q
 apply i7 Y;intro n
 have o:=ok.aj
 rcases i:j.aj[k]? with _|_
 case none=>
  have:fe T f (.ret k) j=none:=by
   show(match j.aj[k]? with|some v=>_|none=>_)=_
   exact i.symm▸rfl
  exact a8 (this.symm.trans c)
 case some v=>
  have p:=(iz.mp i).1
  have d:fe T f (.ret k) j=if 0<=v/\v.toNat<=T.length then some (true,{j with a:=v.toNat,row:=j.row+1}) else none:=by
   show(match j.aj[k]? with|some v=>_|none=>_)=_
   exact i.symm▸rfl
  rw[d] at c
  by_cases l:0<=v/\v.toNat<=T.length
  ·rw[aT l] at c
   cases c
   exact aH (aeA ..) (h.oe (bz rfl (h.dK (J [_,_,_] 0x77359400619805088c0090a1f424020c81 L m (aL o) p) i (h.h5 (Int.toNat_of_nonneg l.1).symm λ w C=>nZ C λ x=>q _ _ _ _))))
  ·rw[a9 l] at c
   exact a8 c
theorem abh{w:Nat}:jE aI y bb T f cf G N (.behind w):=by
 intro n A e g b5 bU j b d Y h ok i k l a q
 apply i7 Y;intro n
 have a:=c' a
 refine aH (aeB ..) (h.at_ (bz rfl (iE (k5 (λ C=>?_) λ C=>?_))))
 ·rw[aT (dR.mp C)] at a
  (injection a with a3 bL;subst a3 bL)
  exact q _ _ _ _ h
 ·rw[a9 λ D=>C (dR.mpr D)] at a
  (injection a with a3 bL;subst a3 bL)
  exact h.at_ (bz rfl (IP (h.h5 (by lia) λ m c=>nZ c λ o=>q _ _ _ _)))
end
end
section
section
variable{aI e:U}{y bb g b5 bU cf G N:Nat}{T:List Nat}{f:Bool}{j:gf}{A:bo}
theorem Zr(d:cG):∃w l,d.v f=.tup (.str w::l)/\(w==[103,114,111,117,112]||(w==[114,101,103,105,115,116,101,114]||false))=d.log:=by
 rcases d with _|_<;>exact cv _ _ ⟨rfl,rfl⟩
theorem cN.z0(h:cN aI e y bb g b5 bU T f cf j):dw e (.ref bU) (j.aF.reverse.map (cG.v f)):=⟨by rw[iW,h.pr];rfl,λ i d=>by(injection d with a3;subst a3);exact h.af⟩
set_option tactic.hygienic true
theorem abj{k:Nat}:jE aI y bb T f cf G N (.cut k):=by
 intro n A e g b5 bU j b bu Y h ok Q R bO c q
 have a:j.aF.length<=7000000:=ah Q (ae rfl)
 apply i7 Y;intro n
 rcases r:j.aj[k]? with _|_
 case none=>
  have:fe T f (.cut k) j=none:=by
   show(match j.aj[k]? with|some v=>_|none=>_)=_
   exact rwl r rfl
  exact a8 (this.symm.trans c)
 case some v=>
  have d:fe T f (.cut k) j=if 0<=v/\v.toNat<=j.aF.length then some (true,{j with row:=j.row+1,aF:=(j.aF.take (j.aF.length-v.toNat)).filter cG.log++j.aF.drop (j.aF.length-v.toNat)}) else none:=by
   show(match j.aj[k]? with|some v=>_|none=>_)=_
   exact rwl r rfl
  rw[d] at c
  by_cases s:0<=v/\v.toNat<=j.aF.length
  ·rw[aT s] at c
   cases c
   refine a7 (uk s.1) λ m S=>?_;clear d;subst S
   have D:m<=1000000000:=ah s.2 (ah a (ae rfl))
   have E:(j.aF.reverse.map (cG.v f)).length<=c7:=by rw[cM,p2];exact ah a (by decide)
   refine aH (aew ..) (h.oe (bz rfl (h.dK (J [_,_,_] 0x77359400619805088c0090a1f424020c81 L R (aL ok.aj) (iz.mp r).1) r (h.kQ (h.z0.slice E (eM D) rfl ?_)))))
   show ib (.lst ((j.aF.reverse.map _).drop m)) _ _ _ e
   rw[(by rw[<-List.map_drop,List.drop_reverse]:(j.aF.reverse.map (cG.v f)).drop m=(j.aF.take (j.aF.length-m)).reverse.map (cG.v f))]
   refine sH rfl (λ i t M=>M=e/\t=(((j.aF.take (j.aF.length-m)).reverse.take i).filter cG.log).map (cG.v f)) ⟨rfl,rfl⟩ (λ z z z z=>trivial) (λ i x t F H u p K=>?_) λ t F p=>?_
   ·refine bf p λ U V=>?_;clear p;subst U;subst V
    rw[(λ i=>kb ..)] at u
    refine ba (gS.mp u) λ o W X=>?_;clear u;subst X
    refine fA (Zr (f:=f) o) λ w l Z B=>?_
    have cZ:(j.aF.take (j.aF.length-m)).reverse.take (i+1)=(j.aF.take (j.aF.length-m)).reverse.take i++[o]:=by rw[lL,W];rfl
    have O:n_ F (o.v f) (.int 0)=some (.str w):=by rw[Z];rfl
    have P:o.log=true->H ((((j.aF.take _).reverse.take i).filter _).map _++[o.v f]) _:=λ a=>K _ _ ⟨rfl,by rw[cZ,List.filter_append,e8,List.filter_cons_of_pos a];rfl⟩
    have a8:o.log=false->H ((((j.aF.take _).reverse.take i).filter _).map _) _:=λ a=>K _ _ ⟨rfl,by rw[cZ,List.filter_append,e8,List.filter_cons_of_neg (by rw[a];decide)];exact(gT _).symm⟩
    refine⟨?_,d_ (bz O (hv (mb (λ C=>cE (P ?_)) λ C=>bz O (hv (mb (λ I=>cE (P ?_)) λ I=>bt (a8 ?_))))))⟩
    ·rw[cM]
     refine ah (List.length_filter_le ..) (ah (sz ..) ?_)
     rw[p2]
     exact ah (sz ..) (ah a (by decide))
    ·rw[<-B,C];rfl
    ·rw[<-B,I,Bool.true_or,Bool.or_true]
    ·rw[<-B,C,I];rfl
   ·refine bf p λ fh mK=>?_;clear p;subst fh;subst mK
    rw[cM,nL]
    refine h.kQ (h.z0.slice E rfl (eM D) ?_)
    show bw _ (.lst (((j.aF.reverse.map _).take m).drop 0)) _ _ _
    rw[mT,(by rw[<-List.map_take,List.take_reverse]:(j.aF.reverse.map (cG.v f)).take m=(j.aF.drop (j.aF.length-m)).reverse.map (cG.v f))]
    refine dw.add .lst .lst ?_ ?_
    ·rw[cM,cM,p2,List.filter_reverse,p2]
     refine ah (e7 (ah (List.length_filter_le ..) (List.length_take_le ..)) _) ?_
     rw[jn]
     exact ah (dj (hr _ _)) (ah a (by decide))
    ·have C:=h.ext (.alloc _ _ (.list ((j.aF.drop (j.aF.length-m)).reverse.map (cG.v f)++((j.aF.take (j.aF.length-m)).reverse.filter cG.log).map (cG.v f))))
     refine e9 C.run (by kernel_rfl) (ae rfl) (by kernel_rfl) (nZ (C.aag (iq:=(j.aF.take (j.aF.length-m)).filter _++j.aF.drop (j.aF.length-m)) ?_ (eo _) h.fr.next (e' h.C) (e' h.I) (hV h.dE)) λ aS I=>q _ _ _ _ I)
     rw[fR,List.reverse_append,e8,List.filter_reverse]
  ·rw[a9 s] at c
   exact a8 c
theorem Lo{n:Nat}(h:cN aI e y bb g b5 bU T f cf j){d:cG}(ok:nv G N T.length d)(b:j.O.length=G)(c:j.aj.length=N)(i:G<=1000000)(l:N<=1000000)
  (q:∀M,cN aI M y bb g b5 bU T f cf {j with O:=(gO [d] j.O j.aj).1,aj:=(gO [d] j.O j.aj).2}->A .none M):call (n+1) 35 [.ref y,d.v f] A e:=by
 refine aH (aex ..) ?_
 rcases d with _|_
 case jt m p=>exact iL (bz rfl (h.n0 (bz rfl (h.Kv ok.1 (by rw[b];exact ok.2) (by have:=ok.2;exact J [_,_] 0x1dcd65001865010a1f424020c81 L i this) λ o=>q _))))
 case dK k v=>exact cO rfl (iL (bz rfl (h.oe (bz rfl (h.Eg (by rw[c];exact ok) (by have:=ok;exact J [_,_] 0xee6b2800c32808111401f424020c81 L l this) λ o=>q _)))))
 case hR r a=>exact cO rfl (cO rfl (q _ h))
 case less r low a=>exact cO rfl (cO rfl (q _ h))
 case more r k a left=>exact cO rfl (cO rfl (q _ h))
set_option tactic.hygienic false
theorem mG:∀(s:List cG)(g:cA)(r:List Int),(gO s g r).1.length=g.length/\(gO s g r).2.length=r.length
 |[],_,_=>⟨rfl,rfl⟩
 |.jt _ _::s,g,r=>⟨(mG s _ _).1.trans hs,(mG s _ _).2⟩
 |.dK _ _::s,g,r=>⟨(mG s _ _).1,(mG s _ _).2.trans hs⟩
 |.hR _ _::s,g,r=>mG s _ _
 |.less _ _ _::s,g,r=>mG s _ _
 |.more _ _ _ _::s,g,r=>mG s _ _
set_option tactic.hygienic true in
theorem abq{k:Nat}:jE aI y bb T f cf G N (.refuse k):=by
 intro n A e g b5 bU j b S Y h ok F s H c q
 have t:j.aF.length<=7000000:=ah F (ae rfl)
 apply i7 Y;intro n
 rcases l:j.aj[k]? with _|_
 case none=>
  have:fe T f (.refuse k) j=none:=by
   show(match j.aj[k]? with|some v=>_|none=>_)=_
   exact rwl l rfl
  exact a8 (this.symm.trans c)
 case some v=>
  have d:fe T f (.refuse k) j=if 0<=v/\v.toNat<=j.aF.length then some (false,{j with O:=(gO (j.aF.take (j.aF.length-v.toNat)) j.O j.aj).1,aj:=(gO (j.aF.take (j.aF.length-v.toNat)) j.O j.aj).2,aF:=j.aF.drop (j.aF.length-v.toNat)}) else none:=by
   show(match j.aj[k]? with|some v=>_|none=>_)=_
   exact rwl l rfl
  rw[d] at c
  by_cases o:0<=v/\v.toNat<=j.aF.length
  ·rw[aT o] at c
   cases c
   refine a7 (uk o.1) λ m K=>?_;subst K
   refine aH (aey ..) (h.oe (bz rfl (h.dK (J [_,_,_] 0x77359400619805088c0090a1f424020c81 L s (aL ok.aj) (iz.mp l).1) l (md (λ bh ak M=>bh<=j.aF.length/\m<=bh/\ak=sf _ _ _/\cN aI M y bb g b5 bU T f cf {j with O:=(gO (j.aF.take (j.aF.length-bh)) j.O j.aj).1,aj:=(gO (j.aF.take (j.aF.length-bh)) j.O j.aj).2,aF:=j.aF.drop (j.aF.length-bh)}) (λ bh ak U V u w z z=>?_) ⟨bx _,o.2,rfl,?_⟩))))
   ·refine f5 u λ a B P C=>?_;clear u;subst P
    have p:(j.aF.drop (j.aF.length-bh)).length=bh:=by rw[jn];exact cB (J [_,_,_,_] 0x6380853802628081 L (d2 _ _) (dj (hr _ _))) (J [_,_,_,_] 0x5380873002628081 L (d2 _ _) (dj a))
    refine aH (adn ..) (C.kQ (C.z0.len (by rw[cM,p2];rw[p];exact ah a (ah t (by decide))) (n1 ?_)))
    rw[cM,p2,p]
    by_cases i:m<bh
    ·rw[fi (dR.mpr i)]
     refine a7 (⟨bh-1,cB (d2 _ _) (dj (J [_,_] 0xa1100a111001 L i))⟩:∃x,bh=x+1) λ bh Q=>?_;subst Q
     have r:j.aF.length-(bh+1)<j.aF.length:=J [_,_,_] 0xc1110003044501001 L (dj a)
     have E:=oS r
     rw[show j.aF.length-(bh+1)+1=j.aF.length-bh by exact cB (J [_,_,_,_] 0x142238004088c03802628081 L (d2 _ _) (dj a)) (J [_,_,_,_] 0x44501c0431c01088c028081 L (d2 _ _) (dj (J [_,_] 5635165982721 L a)))] at E
     refine aH (Uk ..) (C.kQ (C.pop E (by rw[p];exact ah a t) λ W I=>Lo I (ok.aF _ (List.getElem_mem r)) ((mG _ _ _).1.trans ok.O) ((mG _ _ _).2.trans ok.aj) H s λ X af=>(w bh _ _ (eo bh) ⟨p0 a,nP i,rfl,?_⟩).1))
     have R:j.aF.take (j.aF.length-bh)=j.aF.take (j.aF.length-(bh+1))++[j.aF[j.aF.length-(bh+1)]]:=by
      rw[show j.aF.length-bh=j.aF.length-(bh+1)+1 by exact cB (J [_,_,_,_] 0x44501c0431c01088c028081 L (d2 _ _) (dj (J [_,_] 5635165982721 L a))) (J [_,_,_,_] 0x142238004088c03802628081 L (d2 _ _) (dj a)),lL,hK r];rfl
     rw[R,pG]
     exact af
    ·rw[h_ λ D=>i (dR.mp D)]
     have:=cB (cI i) B
     clear l d w B i;subst this
     exact f3 (aH (Ul ..) (gn (q _ _ _ _ C)))
   ·rw[Nat.sub_self];exact h
  ·rw[a9 o] at c
   exact a8 c
end
end
section
section
variable{aI e:U}{y bb g b5 bU cf G N:Nat}{T:List Nat}{f:Bool}{j:gf}{A:bo}
noncomputable def B'(f:Bool)(c:Nat):Nat:=if f then pf c else c
theorem Gk{cc:Type}[BEq cc][LawfulBEq cc][DecidableEq cc](a b:cc):(a==b)=decide (a=b):=by
 by_cases h:a=b
 ·rw[h,eC,fi rfl]
 ·rw[fF.mpr h,h_ h]
theorem z6(f:Bool)(x H:List Nat):oh f x H=decide (x.map (B' f)=H.map (B' f)):=by
 unfold oh
 rw[Gk,Gk]
 rcases f with _|_
 ·rw[Bool.false_and,Bool.or_false]
  refine decide_eq_decide.mpr ?_
  show _↔x.map id=H.map id
  rw[List.map_id,List.map_id]
 ·rw[Bool.true_and,<-Bool.decide_or]
  refine decide_eq_decide.mpr ⟨?_,.inr⟩
  rintro(rfl|h)
  ·rfl
  ·exact h
theorem abg(t:T.length<=4)(K:fU T){i:Nat}(E:0<i)(P:i<=G):jE aI y bb T f cf G N (.back i):=by
 intro n A e g b5 bU j b bu Y h ok gI bH X F q
 apply i7 Y;intro n
 have Q:i<=1000000000:=J [_,_] 0x1dcd6500186407a120106509481 L P X
 refine a7 (⟨_,hK (J [_,_,_,_] 0xc111c0020447004c509481 L P (aL ok.O.symm) (dj (J [_] 4540987353335809 L E)))⟩:∃p,j.O[i-1]?=some p) λ p u=>?_
 refine aH (aem ..) (bz rfl ⟨trivial,aH (W8 ..) (aH (Uc ..) (h.n0 (h.jt E Q u ?_)))⟩)
 rcases p with _|⟨x,d⟩
 ·have d:=(KL u).symm.trans F
  cases d
  exact bj rfl (bt ⟨trivial,f3 (aH (Uh ..) (gn (q _ _ _ _ h)))⟩)
 ·refine bj rfl (cE (h.n0 (h.jt E Q u (aH (W9 ..) (aH (Ud ..) (h.at_ (dg rfl (dg rfl (h.h7 (j2 (p8 t) ?_))))))))))
  by_cases r:x<=d/\d<=T.length
  ·have s:=c' ((Ep u r).symm.trans F)
   refine n1 (k5 (λ C=>?_) λ C=>?_)
   ·rw[a9 λ D=>by lia] at s
    (injection s with a3 bL;subst a3 bL)
    exact q _ _ _ _ h
   ·have w:j.a+(d-x)<=T.length:=by lia
    refine dg (bB some (bB _ (by lia))) (qV (v:=.rng 0 (d-x:Nat) 1) (xl (js (J [_,_,_] 0x773594006198043140120881 L t w))) ?_)
    have R:∀c k,c+(d-x)<=T.length->k<d-x->∃o,T[c+k]?=some o/\((T.drop c).take _)[k]?=some o:=λ c k C I=>by
     exact a7 (o7 (a:=c+k) (J [_,_,_,_] 0x182239000014223802629001 L C I)) λ o S=>⟨o,S,by rw[List.getElem?_take,aT I,sq,S]⟩
    refine k_ (zr (J [_,_,_] 0x773594006198043140120881 L t w)) (λ k ak M=>M=e/\(∃p,ak=iO _ _ _ _ _ p)/\(((T.drop j.a).take (d-x)).take k).map _=(((T.drop x).take (d-x)).take k).map (B' f)) ⟨rfl,⟨none,rfl⟩,rfl⟩ (λ z z z z=>trivial) (λ k v ak Z d3 ao m ct z V=>?_) λ ak Z m=>?_
    ·obtain⟨rfl,⟨p,rfl⟩,m⟩:=m
     obtain⟨B,rfl⟩:=z3 ao
     refine ba (R _ k w B) λ hb hj jc=>?_
     refine ba (R x k (J [_,_,_,_] 0x531c0021cc009481 L r.2 (dj r.1)) B) λ eb U W=>?_
     refine aH (W_ ..) (aH (Ue ..) (h.h7 (h.at_ (dg rfl (kl (rP t (J [_,_,_,_] 0x31c80014223802629001 L w B)) hj (h.h7 (dg rfl (kl (rP t (J [_,_,_,_,_] 0x14c80008838027088c009481 L r.2 B (dj r.1))) U (bz rfl (aH (ab2 (K.at hj) (K.at U)) (dk (jM (λ I=>V _ _ _ ?_) λ I=>(ct _ _ ⟨rfl,⟨_,rfl⟩,?_⟩).1))))))))))))
     ·have a':oh f ((T.drop j.a).take (d-x)) ((T.drop x).take (d-x))=false:=by
       rw[z6]
       refine h_ λ D=>?_
       have D:=bB (λ l=>l[k]?) D
       simp only[kb] at D
       rw[jc,W] at D
       rw[z6,show[hb].map _=[eb].map _ from bB (λ H=>[H]) (c' D),fi rfl] at I
       exact cq I
      rw[a9 λ D=>by rw[a'] at D;exact cq D.2] at s
      (injection s with a3 bL;subst a3 bL)
      exact q _ _ _ _ h
     ·rw[z6] at I
      have I:=Decidable.byContradiction λ D=>by rw[h_ D] at I;injection I
      rw[lL,lL,jc,W,e8,e8,m]
      exact bB _ I
    ·obtain⟨rfl,⟨p,rfl⟩,m⟩:=m
     rw[xn,List.take_of_length_le (List.length_take_le ..),List.take_of_length_le (List.length_take_le ..)] at m
     rw[aT ⟨w,by rw[z6];exact fi m⟩] at s
     (injection s with a3 bL;subst a3 bL)
     exact f3 (aH (Ug ..) (h.at_ (dg (v:=.int (d-x:Nat)) (bB some (bB _ (by lia))) (iD (h.h5 (k3.mpr (cB (J [_,_] 5503094784 L) (J _ 5503094784 L))) λ aS I=>nZ I λ c9=>q _ _ _ _)))))
  ·have:fe T f (.back i) j=none:=by
    show(match j.O[i-1]? with|some (some (b,d))=>_|some none=>_|none=>_)=_
    exact rwl u (a9 r)
   exact(by injection (this.symm.trans F))
end
end
section
section
variable{aI e:U}{y bb g b5 bU cf G N:Nat}{T:List Nat}{f:Bool}{j:gf}{A:bo}
theorem zN(f:Bool)(k:Nat):fM (gX f k)=true:=by
 refine nc ?_ ?_ ?_ ?_ ?_ (λ z=>?_) k<;>rfl
theorem Kn{k:Nat}:∀(l:List Nat)(m:Nat),runN f k l m=runN f k l (min l.length m)
 |[],m=>by rcases m with _|_<;>rfl
 |c::r,0=>rfl
 |c::r,m+1=>by
  rw[fW,Nat.succ_min_succ,Eb,Eb,Kn r m]
theorem Z0(n b:Nat):(if(b:Int)<(n:Int) then(b:Int) else(n:Int))=((min n b:Nat):Int):=by
 by_cases h:b<n
 ·rw[aT (dR.mpr h),Nat.min_eq_right (kc h)]
 ·rw[a9 (mt dR.mp h),Nat.min_eq_left (cI h)]
theorem abY{n k a:Nat}(o:T.length<=4)(B:fU T)(h:cN aI e y bb g b5 bU T f cf j)(E:k<6)(r:a<=T.length)(a4:Int)(q:A (.int ((a+runN f k (T.drop a) (jR T a a4):Nat):Int)) e):call (n+7) 21 [.ref y,gX f k,.int a,.int a4] A e:=by
 have key:∀(st:Nat),st<=T.length->a<=st->runN f k (T.drop a) (st-a)=runN f k _ _->ko (hE 21 [] 1 (call (n+6))) (bq 21 [(1,0)] 0 (call (n+6))) _ (fc (bq 21 [] 2 (call (n+6))) (eX A)) e:=λ st s t u=>by
  rw[<-u] at q
  refine md (λ bh ak M=>M=e/\∃b,b<=st/\bh=st-b/\ak=se (some (.ref y)) (some (gX f k)) (some (.int b)) (some (.int a4)) (some (.int st))/\b+runN f k (T.drop b) (st-b)=a+runN f k _ _) (λ bh ak F G d w z z=>?_) ⟨rfl,a,t,rfl,rfl,rfl⟩
  obtain⟨rfl,b,i,rfl,rfl,d⟩:=d
  refine aH (adm ..) (d_ (iE (iZ (λ C=>?_) λ C=>?_)))
  ·have p:=dR.mp (gg C)
   refine a7 (o7 (d7 (by assumption) (by assumption))) λ c l=>?_
   have x:runN f k (T.drop b) (st-b)=if gF T f k b then runN f k (T.drop (b+1)) (st-(b+1))+1 else 0:=by
    rw[show st-b=st-(b+1)+1 by exact cB (J [_,_,_,_] 0x44501c0431c01088c028081 L (d2 _ _) (dj i)) (J [_,_,_,_] 0x142238004088c03802628081 L (d2 _ _) (dj p))];exact z5
   refine h.h7 (kl (rP o (J [_,_,_] 5703857116289 L s i)) l (B1 E (B.at l) (dk (iZ (λ I=>?_) λ I=>?_))))
   ·rw[x,uH l,aT I] at d
    exact aH (T' ..) (iD (w (st-(b+1)) _ _ (J [_,_,_,_] 0x142238004088c03802628081 L (d2 _ _) (dj p)) ⟨rfl,b+1,p,rfl,rfl,cB (J [_,_,_,_] 0x3980508880000e60044501001 L (aL d)) (J [_,_,_,_] 0x38446000a400022380c029001 L (aL d.symm))⟩).1)
   ·rw[x,uH l,a9 (by rw[I];decide)] at d
    rw[<-d] at q
    exact f3 (aH (F9 ..) (gn q))
  ·have:=cB i (hU.mp (jG.mp (rh C)))
   clear s t u i w;subst this
   rw[Nat.sub_self,Ed] at d
   rw[<-d] at q
   exact f3 (aH (F9 ..) (gn q))
 refine aH (aei ..) (fX (iE (k5 (λ C=>h.h7 (j2 (p8 o) ?_)) λ C=>h.h7 (j2 (p8 o) (dg rfl (lN (v:=.int (min T.length (a+a4.toNat):Nat)) ?_ ?_))))))
 ·exact key _ (bx _) r (by unfold jR;rw[aT C])
 ·obtain⟨m,rfl⟩:=uk (jG.mp C)
  exact bB (λ D=>some _) (Z0 _ _)
 ·refine key _ (Nat.min_le_left ..) (Nat.le_min.mpr ⟨r,dD _ _⟩) ?_
  unfold jR
  rw[a9 C,Kn _ a4.toNat,jn,<-Nat.sub_min_sub_right,Nat.add_sub_cancel_left]
theorem abt(s:T.length<=4)(t:fU T){k bF:Nat}{a4:Int}{lazy:Bool}(u:k<6)(P:a4<0\/(bF:Int)<=a4):jE aI y bb T f cf G N (.run k bF a4 lazy):=by
 intro n A e g b5 bU j b v Y h ok w Q R o q
 have p:j.aF.length<=7000000:=ah w (ae rfl)
 apply i7 Y;intro n
 refine aH (aej ..) (aH (W7 ..) (aH (Ua ..) (h.at_ (dg rfl (h.at_ (mz (λ r M=>r=.int (if lazy then bF else a4)/\M=e) (λ x i=>dk (jM (λ d=>i _ _ ⟨by rw[d];rfl,rfl⟩) λ d=>i _ _ ⟨by rw[d];rfl,rfl⟩)) λ r M V=>bf V λ B E=>?_))))));clear V;subst B;subst E
 refine abY s t h u ok.a _ (iE (k5 (λ C=>?_) λ C=>?_))
 ·have d:=(Et (J [_,_,_] 0x30445000c40044520001 L (dR.mp C))).symm.trans o
  cases d
  exact gn (q _ _ _ _ h)
 ·have d:=c' ((Es rfl λ m=>bC _ (J [_,_,_] 0x208805088c00988029001 L (hU.mp (jG.mp C)) m)).symm.trans o)
  generalize S:runN f k _ _=aR at d C⊢
  refine h.xp (iD (h.ni rfl λ F c=>?_))
  have fin:∀{l:U}{iq:List _},cN aI l y bb g b5 bU T f cf ⟨j.a,j.row+1,j.O,j.aj,iq⟩->(true,⟨j.a+aR,j.row+1,j.O,j.aj,iq⟩)=(b,v)->cL _ _ _ _ l:=λ I d=>by
   (injection d with a3 bL;subst a3 bL)
   exact I.h5 rfl λ W=>q _ _ _ _
  refine d_ (dk (iZ (λ hz=>bj rfl (iZ (λ I=>?_) λ I=>?_)) λ hz=>?_))
  ·rw[aT (by rw[hz];exact I)] at d
   refine cE (c.kQ (c.app (c.xp (mz (λ r M=>r=.int (if a4<0 then-1 else a4-bF)/\M=F) (λ x i=>iE (k5 (λ d=>i _ _ ⟨by rw[aT d],rfl⟩) λ d=>dg rfl (i _ _ ⟨by rw[a9 d],rfl⟩))) λ r M V=>bf V λ H K=>?_))));clear V;subst H;subst K
   exact cb (cn (n:=5) (ae rfl)) (by show(true&&true&&(fM _&&(true&&true&&true)))=true;rw[zN];rfl) (c.push _ rfl p λ l I=>fin I d)
  all_goals
   rw[a9 (by first|(rw[hz,Bool.false_and];intro D;exact cq D)|(rw[hz];intro D;exact cq (I.symm.trans D)))] at d
   refine bt (n1 (k5 (λ af=>?_) λ af=>?_))
   ·rw[aT (by exact J [_,_,_] 0x30445000c40044520001 L (dR.mp af))] at d
    exact c.kQ (c.app (c.xp (cb (cn (n:=4) (ae rfl)) rfl (c.push (.less (j.row+1) (j.a+bF) (j.a+aR)) rfl p λ l I=>fin I d))))
   ·rw[a9 (by exact λ m=>bC _ (J [_,_,_] 0x208805088c00988029001 L (hU.mp (jG.mp af)) m))] at d
    exact fin c d
theorem wj{e:U}{r:E}{B:List E}(h:dw e r B):jP (e.alloc (.list [])) r (.ref e.next)=some B.isEmpty:=by
 have h:=h.ext (.alloc _ _ (.list []))
 have C:=h.1
 have d:ig (e.alloc (.list [])) r=none:=by
  cases r with
  |lst dV=>rfl
  |ref y=>
   rw[iW] at C
   unfold ig
   dsimp only
   cases a:(e.alloc (.list [])).get y with
   |none=>rfl
   |some b=>
    rw[a] at C
    rcases b with _|_
    case dict _ _=>exact a8 C
    all_goals rfl
  |_=>exact a8 C
 have c:gE (e.alloc (.list [])) r=.lst B:=by
  cases r with
  |lst dV=>obtain rfl:=cm C;rfl
  |ref y=>
   rw[iW] at C
   unfold gE
   dsimp only
   cases a:(e.alloc (.list [])).get y with
   |none=>rw[a] at C;exact a8 C
   |some b=>
    rw[a] at C
    clear a;rcases b with _|_
    case list dV=>obtain rfl:=cm C;rfl
    case flist dV=>obtain rfl:=cm C;rfl
    all_goals exact a8 C
  |_=>exact a8 C
 unfold jP
 rw[d]
 show gk 10 (gE _ r) (match(e.alloc (.list [])).get e.next with|some (.list B)=>E.lst B|some (.flist B)=>E.lst B|_=>_)=_
 rw[fR,c]
 clear h C c;rcases B with _|_<;>rfl
theorem Z5{n r k a:Nat}{left:Int}(o:T.length<=4)(q:fU T)(h:cN aI e y bb g b5 bU T f cf j)(s:k<6)(t:a<=T.length)(u:j.aF.length<=7000000)
  (i:gF T f k a=true->∀M,cN aI M y bb g b5 bU T f cf ⟨a+1,r,j.O,j.aj,if left=1 then j.aF else .more r k (a+1) (if 0<left then left-1 else-1)::j.aF⟩->A (.bool true) M)
  (l:¬gF T f k a=true->A (.bool false) e):call (n+7) 41 [.ref y,cG.v f (.more r k a left)] A e:=by
 refine aH (aeD ..) (aH (Xa ..) (aH (Um ..) (d_ (h.h7 (j2 (p8 o) (uO (K8 (λ C=>cE ?_) λ C=>?_)))))))
 ·exact gn (l λ D=>absurd (o3 D) (λ w=>bC _ (J [_,_] 0x208804088a009481 L (hU.mp C) w)))
 ·refine a7 (o7 (T:=T) (a:=a) ((dR.mp (Int.not_le.mp C)))) λ c b=>?_
  refine h.h7 (kl (rP o t) b (B1 (n:=n) s (q.at b) (dk (mb (λ I=>cE ?_) λ I=>bt ?_))))
  ·rw[<-uH b] at I
   exact gn (l λ D=>by rw[D] at I;exact cq I)
  ·rw[<-uH b] at I
   have i:=i (by rcases d:gF T f k a with _|_;rw[d] at I;exact nomatch I;rfl)
   have fin:∀{m:U}{iq:List cG},cN aI m y bb g b5 bU T f cf {j with aF:=iq}->iq=(if left=1 then j.aF else .more r k (a+1) (if 0<left then left-1 else-1)::j.aF)->(cL (.ref y) g6 (.int r) (bw .Add (.int a) (.int 1) λ x=>cL (.ref y) b' x (A (.bool true)))) m:=λ I d=>by
    subst d
    exact I.ni rfl λ G af=>dg (v:=.int ((a+1:Nat):Int)) rfl (af.h5 rfl λ H=>i _)
   refine bj (r:=!(left==1)) rfl (jM (λ af=>?_) λ af=>?_)
   ·refine h.kQ (h.app (dg (v:=.int ((a+1:Nat):Int)) rfl ?_))
    refine mz (λ r M=>r=.int (if 0<left then left-1 else-1)/\M=e) (λ K p=>n1 (k5 (λ d=>dg (v:=.int (left-1)) rfl (p _ _ ⟨by rw[aT d],rfl⟩)) λ d=>p _ _ ⟨by rw[a9 d],rfl⟩)) λ ej M V=>?_
    refine bf V λ B E=>?_;clear V;subst B;clear l;subst E
    exact cb (cn (n:=5) (by exact ae rfl)) (by show(true&&(true&&(fM (gX f k)&&(true&&(true&&true)))))=true;rw[zN];rfl) (h.push (.more r k (a+1) (if 0<left then left-1 else-1)) rfl u λ m I=>fin I (by rw[a9 (λ D=>by rw[D] at af;exact cq af:¬left=1)]))
   ·have F:left=1:=by
     have:(left==1)=true:=by rcases d:(left==1) with _|_;rw[d] at af;exact nomatch af;rfl
     exact eq_of_beq this
    exact fin h (by rw[aT F])
end
end
section
section
variable{aI e:U}{y bb g b5 bU cf G N:Nat}{T:List Nat}{f:Bool}{j:gf}{A:bo}
theorem BZ{k a:Nat}(h:gF T f k a=true):a+1<=T.length:=o3 h
theorem j8.put{a r:Nat}{O:cA}{b:List Int}{s:List cG}(ok:j8 G N T.length j)(c:a<=T.length)(e:O.length=j.O.length)(V:b.length=j.aj.length)(f:∀d∈s,d∈j.aF\/nv G N T.length d):j8 G N T.length ⟨a,r,O,b,s⟩:=
 ⟨c,e.trans ok.O,V.trans ok.aj,λ d g=>(f d g).elim (ok.aF d) id⟩
theorem Jt{d x:cG}{s:List cG}(h:nv G N T.length x)(a:d∈x::s):d∈s\/nv G N T.length d:=(ew.mp a).elim (λ D=>.inr (rwl D h)) .inl
theorem ZS{d x H:cG}{s:List cG}(a:nv G N T.length x)(b_:nv G N T.length H)(b:d∈x::H::s):d∈s\/nv G N T.length d:=(ew.mp b).elim (λ D=>.inr (rwl D a)) (Jt b_)
def mm(G N c_ m:Nat)(j:gf):Prop:=j8 G N c_ j/\j.aF.length<=m
def mP(G N c_ m:Nat):Option (Bool×gf)->Prop
 |some r=>mm G N c_ m r.2
 |none=>True
section
variable{c:Prop}[Decidable c]{m:Nat}
theorem pn{x H:Option (Bool×gf)}(C:c->mP G N T.length m x)(I:¬c->mP G N T.length m H):mP G N T.length m (if c then x else H):=by
 by_cases h:c
 ·rw[aT h];exact C h
 ·rw[a9 h];exact I h
theorem xe{x H:Bool×gf}(C:c->mm G N T.length m x.2)(I:¬c->mm G N T.length m H.2):mP G N T.length m (some (if c then x else H)):=by
 by_cases h:c
 ·rw[aT h];exact C h
 ·rw[a9 h];exact I h
theorem DS{x H:gf}(C:c->mm G N T.length m x)(I:¬c->mm G N T.length m H):mm G N T.length m (if c then x else H):=by
 by_cases h:c
 ·rw[aT h];exact C h
 ·rw[a9 h];exact I h
theorem JR{a r:Nat}{O:cA}{b:List Int}{s q:List cG}(C:c->mm G N T.length m ⟨a,r,O,b,s⟩)(I:¬c->mm G N T.length m ⟨a,r,O,b,q⟩):mm G N T.length m ⟨a,r,O,b,if c then s else q⟩:=by
 by_cases h:c
 ·rw[aT h];exact C h
 ·rw[a9 h];exact I h
end
theorem vg(ok:j8 G N T.length j):mm G N T.length (j.aF.length+2) j:=⟨ok,dD ..⟩
theorem qG{a r:Nat}(ok:j8 G N T.length j)(b:a<=T.length):mm G N T.length (j.aF.length+2) ⟨a,r,j.O,j.aj,j.aF⟩:=⟨⟨b,ok.O,ok.aj,ok.aF⟩,dD ..⟩
theorem qF{a r:Nat}{O:cA}{b:List Int}{x:cG}(ok:j8 G N T.length j)(c:a<=T.length)(e:O.length=j.O.length)(V:b.length=j.aj.length)(f:nv G N T.length x):mm G N T.length (j.aF.length+2) ⟨a,r,O,b,x::j.aF⟩:=⟨ok.put c e V λ d=>Jt f,hq _⟩
theorem JQ{a r:Nat}{O:cA}{b:List Int}{x H:cG}(ok:j8 G N T.length j)(c:a<=T.length)(e:O.length=j.O.length)(V:b.length=j.aj.length)(f:nv G N T.length x)(b_:nv G N T.length H):mm G N T.length (j.aF.length+2) ⟨a,r,O,b,x::H::j.aF⟩:=⟨ok.put c e V λ d=>ZS f b_,bx _⟩
set_option tactic.hygienic true in
theorem acR{r:cu}(V:mQ G r)(ok:j8 G N T.length j):mP G N T.length (j.aF.length+2) (fe T f r j):=by
 have b5:∀{k:Nat},k<j.aj.length->k<N:=λ h=>rwr ok.aj h
 have bS:∀{l:List _}{k y:Nat}{v w:Int},((l.set k v).set y w).length=l.length:=hs.trans hs
 rcases r with _|_
 case test k=>exact xe (λ d=>qG ok (BZ d)) λ z=>vg ok
 case run k bF a4 lazy=>
  refine xe (λ z=>vg ok) λ z=>?_
  have g:=by
   have C:=(Ec (f:=f) (k:=k) (T.drop j.a) (jR T j.a (if lazy then bF else a4))).2
   rw[jn] at C
   exact ah (e7 C _) (jF (Nat.add_sub_cancel' ok.a))
  exact JR (λ z=>qF ok g rfl rfl ⟨V.1,g⟩) λ z=>JR (λ h=>qF ok g rfl rfl ⟨Nat.add_lt_add_left h _,g⟩) λ z=>qG ok g
 case plc w=>exact xe (λ z=>qG ok ok.a) λ z=>vg ok
 case back i=>
  show mP _ _ _ _ (match j.O[i-1]? with|some (some (b,d))=>_|some none=>_|none=>_)
  split
  ·exact pn (λ z=>xe (λ d=>qG ok d.1) λ z=>vg ok) λ z=>trivial
  ·exact vg ok
  ·trivial
 case opn k=>exact pn (λ h=>qF ok ok.a rfl hs (b5 h)) λ z=>trivial
 case place k=>exact pn (λ h=>qF ok ok.a rfl hs (b5 h)) λ z=>trivial
 case close i k=>
  show mP _ _ _ _ (match j.aj[k]?,j.O[i-1]? with|some v,some p=>_|_,_=>_)
  split
  ·exact pn (λ z=>qF ok ok.a hs rfl V) λ z=>trivial
  ·trivial
 case jump s=>exact qG ok ok.a
 case split s q=>exact qF ok ok.a rfl rfl ok.a
 case zero c s=>exact pn (λ h=>JQ ok ok.a rfl bS (b5 h.2) (b5 h.1)) λ z=>trivial
 case loop c s bF a4 lazy n o=>
  show mP _ _ _ _ (match j.aj[c]?,j.aj[s]? with|some v,some p=>_|_,_=>_)
  split
  ·exact DS (λ z=>qG ok ok.a) λ z=>DS (λ z=>qG ok ok.a) λ z=>DS (λ z=>qF ok ok.a rfl rfl ok.a) λ z=>qF ok ok.a rfl rfl ok.a
  ·trivial
 case again c s r=>
  show mP _ _ _ _ (match j.aj[c]? with|some v=>_|none=>_)
  split
  ·rename_i v m
   exact pn (λ h=>JQ ok ok.a rfl bS (b5 h) (b5 (iz.mp m).1)) λ z=>trivial
  ·trivial
 case mark k=>exact pn (λ h=>qF ok ok.a rfl bS (b5 h)) λ z=>trivial
 case cut k=>
  show mP _ _ _ _ (match j.aj[k]? with|some v=>_|none=>_)
  split
  ·refine pn (λ z=>⟨ok.put ok.a rfl rfl λ d e=>.inl ?_,?_⟩) λ z=>trivial
   ·rcases fH.mp e with e|e
    ·exact rg (List.mem_filter.mp e).1
    ·exact List.mem_of_mem_drop e
   ·rw[bR]
    refine ah (vZ (List.length_filter_le ..) _) ?_
    rw[<-bR,List.take_append_drop]
    exact dD ..
  ·trivial
 case refuse k=>
  show mP _ _ _ _ (match j.aj[k]? with|some v=>_|none=>_)
  split
  ·exact pn (λ z=>⟨ok.put ok.a (mG _ _ _).1 (mG _ _ _).2 λ d e=>.inl (List.mem_of_mem_drop e),ah (List.Sublist.length_le (List.drop_sublist ..)) (dD ..)⟩) λ z=>trivial
  ·trivial
 case ret k=>
  show mP _ _ _ _ (match j.aj[k]? with|some v=>_|none=>_)
  split
  ·exact pn (λ d=>qG ok d.2) λ z=>trivial
  ·trivial
 case behind w=>exact xe (λ z=>vg ok) λ z=>qG ok (ah (hr _ _) ok.a)
 case fin=>trivial
theorem acQ{r:cu}{b:Bool}{a:gf}(V:mQ G r)(ok:j8 G N T.length j)(h:fe T f r j=some (b,a)):j8 G N T.length a/\a.aF.length<=j.aF.length+2:=by
 have k:=acR (f:=f) V ok
 rw[h] at k
 exact k
set_option tactic.hygienic true in
theorem UL(X:T.length<=4)(Y:fU T)(Z:G<=1000000)(bH:N<=1000000){n:Nat}(h:cN aI e y bb g b5 bU T f cf j)(ok:j8 G N T.length j)(Q:j.aF.length<=7000000)
  (F:∀u,lM T f j.aF j.O j.aj=some u->j8 G N T.length u->u.aF.length<=j.aF.length->∀M,cN aI M y bb g b5 bU T f cf u->A (.bool true) M) (cK:lM T f j.aF j.O j.aj=none->∀M u,cN aI M y bb g b5 bU T f cf u->A (.bool false) M):call (n+8) 42 [.ref y] A e:=by
 refine aH (aeE ..) (md (λ bh ak M=>∃c p,ak=nB _ p/\bh=c.aF.length/\bh<=j.aF.length/\cN _ M y bb g b5 bU T f _ c/\j8 G N _ c/\lM T f c.aF c.O c.aj=lM T f _ _ _) (λ bh ak aw d3 R w z V=>ox R λ c p dM mJ P h ok b=>?_) (cv j none ⟨rfl,rfl,bx _,h,ok,rfl⟩));clear R;subst dM;subst mJ
 refine aH (ado ..) (h.kQ (e2 (ae rfl) (bj (r:=!(c.aF.reverse.map _).isEmpty) (by show(jP _ _ _).map _=_;rw[wj h.z0];rfl) ?_)))
 have h:=h.ext (.alloc _ _ (.list []))
 rcases i:c.aF with _|_
 case nil=>
  rw[i] at b
  exact f3 (aH (Uo ..) (gn (cK b.symm _ _ h)))
 case cons d s=>
  have H:=ok.aF d (by rw[i];exact f9 ..:d∈c.aF)
  have l:s.length+1<=j.aF.length:=by rw[i] at P;exact P
  have o:=λ x B=>ok.aF x (by rw[i];exact gU _ B)
  have S:s.length<=7000000:=J [_,_] 0x3567e014650102228026acfc028c81 L Q l
  rw[show(!((d::s).reverse.map _).isEmpty)=true by rw[List.reverse_cons,e8];cases s.reverse.map _<;>rfl]
  refine aH (Un ..) (h.kQ (h.pop i (ah P Q) λ aS I=>?_))
  have U:∀K,(∀v q,cN _ q y bb g b5 bU T f _ _->K v q)->call (n+7) 35 _ K _:=λ K w=>Lo I H ok.O ok.aj Z bH λ q af=>w _ _ af
  rw[i] at b
  rcases d with _|_
  case hR r a=>
   exact iL (bz rfl (I.ni rfl λ q af=>bz rfl (af.h5 rfl λ f6 t=>V _ _ _ (F _ b.symm ⟨H,ok.O,ok.aj,o⟩ (p0 l) _ t))))
  case less r low a=>
   refine bf H λ b3 cX=>cO rfl (iL (bz rfl (I.ni rfl λ q af=>bz rfl (dg (bB _ (bB _ (C' (so (df _) (by assumption))))) (af.h5 rfl λ f6 t=>t.at_ (bz rfl (n1 (k5 (λ C=>?_) λ C=>?_))))))))
   ·have W:low<a-1:=dR.mp C
    have b:some _=lM T f _ _ _:=b
    rw[aT W] at b
    exact t.kQ (t.app (bz rfl (bz rfl (t.at_ (cb (cn (n:=4) (ae rfl)) rfl (t.push _ rfl S λ lD C=>V _ _ _ (F _ b.symm ⟨J [_,_,_] 5703857116289 L cX (hr _ _),ok.O,ok.aj,λ x B=>(ew.mp B).elim (λ D=>rwl D (⟨W,J [_,_,_] 5703857116289 L cX (hr _ _)⟩)) (o x)⟩ l _ C)))))))
   ·have b:some _=lM T f _ _ _:=b
    rw[a9 (λ D=>C (dR.mpr D))] at b
    exact V _ _ _ (F _ b.symm ⟨J [_,_,_] 5703857116289 L cX (hr _ _),ok.O,ok.aj,o⟩ (p0 l) _ t)
  case more r k a left=>
   refine bf H λ b3 cX=>?_
   have a0:lM T f (.more r k a _::s) _ _=if gF T f k a then some ⟨a+1,r,c.O,c.aj,if left=1 then s else .more r k _ _::s⟩ else lM T f s _ _:=rfl
   rw[a0] at b
   refine cO rfl (cO rfl (iL (Z5 X Y I b3 cX S (λ E q af=>?_) λ E=>?_)))
   ·rw[aT E] at b
    refine dk (cE (V _ _ _ (F _ b.symm ⟨BZ E,ok.O,ok.aj,?_⟩ ?_ _ af)))
    ·split
     ·exact o
     ·exact λ x B=>(ew.mp B).elim (λ D=>rwl D (⟨b3,BZ E⟩)) (o x)
    ·split
     ·exact p0 l
     ·exact l
   ·rw[a9 E] at b
    exact dk (bt (w _ _ _ (by rw[i];exact eo _) (cv _ _ ⟨rfl,rfl,p0 l,I,⟨ok.a,ok.O,ok.aj,o⟩,b⟩)).1)
  case jt m p=>
   refine cO rfl (cO rfl (cO rfl (U _ λ v q af=>(w s.length _ _ (by rw[i];exact eo _) (cv _ _ ⟨rfl,rfl,p0 l,af,⟨ok.a,(mG _ _ _).1.trans ok.O,ok.aj,o⟩,b⟩)).1)))
  case dK k v=>
   refine cO rfl (cO rfl (cO rfl (U _ λ z q af=>(w s.length _ _ (by rw[i];exact eo _) (cv _ _ ⟨rfl,rfl,p0 l,af,⟨ok.a,ok.O,(mG _ _ _).2.trans ok.aj,o⟩,b⟩)).1)))
end
end
section
theorem Xb(R:dq)(K:Loc->U->Prop)(e:U)(v:E)(a b c o d f g h:Option E):d6 44 [] 2 R v (oM a b c o d f g h) K e=K (oM a b c o d f g (some v)) e:=by kernel_rfl
noncomputable def xO:List (List Nat):=[[115,105,103,110],[97,110,121],[115,101,116],[114,117,110],[97,116],[98,97,99,107],[111,112,101,110],[99,108,111,115,101],[106,117,109,112],[115,112,108,105,116],[122,101,114,111],[108,111,111,112],[97,103,97,105,110],[109,97,114,107],[99,117,116],[114,101,102,117,115,101],[112,108,97,99,101],[114,101,116,117,114,110],[98,101,104,105,110,100]]
noncomputable def xP:List E:=[.fn 20,.fn 20,.fn 20,.fn 22,.fn 24,.fn 25,.fn 26,.fn 27,.fn 28,.fn 29,.fn 30,.fn 31,.fn 32,.fn 33,.fn 34,.fn 36,.fn 37,.fn 38,.fn 39]
noncomputable def vh:List Str:=[km,g7,h6,oo]
set_option tactic.hygienic true in
theorem Kl(f:Bool)(r:cu){X:Prop}(q:∀t l,r.v f=.tup (.str t::l)->(t==[101,110,100])=qt r->(qt r=false->hW xO xP t=some (.fn (Hq r)))->X):X:=by
 rcases r with _|_
 case test k=>
  revert q;refine nc ?_ ?_ ?_ ?_ ?_ (λ z=>?_) k<;>intro q<;>exact q _ _ rfl rfl λ z=>rfl
 case fin=>exact q _ _ rfl rfl λ h=>cq h.symm
 all_goals exact q _ _ rfl rfl λ z=>rfl
section
variable{aI e:U}{y bb bM nq cf G N:Nat}{T:List Nat}{f:Bool}{A:bo}{rows:List cu}
set_option tactic.hygienic true in
theorem abT(a:T.length<=4)(d:fU T){r:cu}(V:mQ G r):jE aI y bb T f cf G N r:=by
 rcases r with _|_
 case test k=>exact abv a d V
 case run k bF a4 lazy=>exact abt a d V.1 V.2.2
 case plc w=>exact abp a d V
 case back i=>exact abg a d V.1 V.2
 case opn k=>exact abn
 case close i k=>exact abi V.1 V.2
 case jump s=>exact abk
 case split s q=>exact abu
 case zero c s=>exact abw
 case loop c s bF a4 lazy m o=>exact abl
 case again c s r=>exact abf
 case mark k=>exact abm
 case cut k=>exact abj
 case refuse k=>exact abq
 case place k=>exact abo
 case ret k=>exact abr a
 case behind w=>exact abh
 case fin=>intro n A e g b5 bU j b p Y h ok t u v l q;exact a8 l
structure pP(e:U)(bb bM:Nat)(rows:List cu)(G N:Nat)(f:Bool):Prop where
 zY:∃v,e.get bb=some (.inst 49 vh [.ref bM,.int G,.int N,v])
 JZ:e.get bM=some (.list (rows.map (cu.v f)))
 C:bb<e.next
 I:bM<e.next
theorem pP.fr{S:Nat->Prop}{M:U}(h:pP e bb bM rows G N f)(fr:Fr S e M)(cC:¬S bb)(di:¬S bM):pP M bb bM rows G N f:=
 ⟨a7 h.zY λ v d=>⟨v,fr.get d h.C cC⟩,fr.get h.JZ h.I di,d7 h.C fr.next,d7 h.I fr.next⟩
theorem D8{cc:Type}(v:cc):∀n,jZ [v] n=List.replicate n v
 |0=>rfl
 |n+1=>by
  show[v]++jZ _ n=_
  rw[D8 v n]
  rfl
theorem Jz{e:U}{k:bo}{r v:E}{n:Nat}(h:dw e r [v])(Y:n<=1000001)(q:k (.ref e.next) (e.alloc (.list (List.replicate n v)))):bw .Mult r (.int n) k e:=by
 have C:=h.1
 have d:mX .Mult r (.int n)=none:=by clear h;rcases r with _|_<;>first|rfl|exact a8 C
 unfold bw
 rw[d]
 rw[C]
 rw[<-D8] at q
 exact⟨by show 1*n<=8000000;lia,js (ah (by assumption) (ae rfl)),q⟩
noncomputable def lr(bb:Nat)(T:List Nat)(cf:Int)(dc dY a b c:E):dm:=.inst 17 jb [.ref bb,.str T,.int 0,.int 0,.int 1000000,.int cf,dc,dY,a,b,c]
inductive FA(nq start:Nat)(aI:U)(y bb:Nat)(T:List Nat)(f:Bool)(G N:Nat)(rows:List cu)(r:hI)(c_:Nat)(bh:Nat)(ak:Loc)(M:U):Prop
 |of {j:gf} {st g b5 bU:Nat} {b3 cX:Option E} (d:ak=q5 (some (.ref y)) (some (.ref nq)) (some (.int start)) b3 cX) (h:cN aI M y bb g b5 bU T f st j) (ok:j8 G N T.length j) (ag:eJ T f rows bh j r) (b8:st+bh<=c_) (ar:j.aF.length<=2*st):FA nq start aI y bb T f G N rows r c_ bh ak M
set_option tactic.hygienic true in
theorem Zz(L:T.length<=4)(O:fU T)(P:N<=1000000)(Q:G<=1000000)(Z:∀r∈rows,mQ G r)(h1:rows.length<=1000000000){n start c g b5 bU:Nat}{j:gf}{r:hI}(kF:pP aI bb bM rows G N f)(aD:aI.get nq=some (.dict xO xP))(m5:nq<aI.next)(cC:bb≠y)(di:bM≠y)(fL:nq≠y)
  (h:cN aI e y bb g b5 bU T f cf j) (ok:j8 G N T.length j) (m:j.aF.length<=2*cf) (a:eJ T f rows c j r) (aG:cf+c<=1000000)
  (tr:r=none->∀M (st:Nat) j g b5 bU,cN aI M y bb g b5 bU T f st j->st<=cf+c->A (.bool false) M)
  (dA:∀w,r=some w->∀M (st:Nat) g dc dY e4 ff,M.get y=some (lr bb T st dc dY (.ref g) e4 ff)->g<M.next->M.get g=some (.list (.tup [.int start,.int w.1]::w.2.map hB))->Fr (·=y) aI M->A (.bool true) M):
  ko (hE 43 [] 5 (call (n+9))) (bq 43 [(5,0)] 0 (call (n+9))) (q5 (some (.ref y)) (some (.ref nq)) (some (.int start)) none none) (fc (bq 43 [] 6 (call (n+9))) (eX A)) e:=by
 refine md (FA nq _ _ y bb T f G N _ r _) (λ bh ak aw d3 aP R z S=>?_) (.of rfl h ok a (bx _) m)
 cases aP with|@of j st g b5 bU b3 cX d h ok a U m=>
 subst d
 rcases bh with _|_
 case zero=>exact a.elim
 case succ bh=>
  have s:=ah (ah (e7 (h' (df bh)) st) U) aG
  have u:=vX st bh▸U
  refine aH (adp ..) (aH (Up ..) (h.KQ (iD (h.ace rfl λ aS I=>I.KQ (I.Z6 (wy (jG.mpr (hU.mpr s)) (bt (I.aa_ ?_))))))))
  have o:=kF.fr I.fr cC di
  refine a7 o.zY λ v wN=>gV wN (v:=.ref bM) (by kernel_rfl) (I.xp ?_)
  have n6:dw _ _ _:=⟨by rw[iW,o.JZ];rfl,λ i d=>by(injection d with a3;subst a3);exact o.I⟩
  have at_:=λ{row:cu}(V:rows[j.row]?=some _){K:bo}(q:K _ _)=>n6.item (ah (kc (iz.mp V).1) h1) (x:=row.v f) (by rw[kb,V];rfl) q
  refine Wl a (λ V cy=>?_) λ row b bu V X0 B cZ k=>?_
  ·refine at_ V (Kl f _ λ t l p D E=>bz (by rw[p];rfl) (hv ?_))
   rw[D]
   exact cE (I.at_ (I.Zb (uO (dk (cE (I.at_ (cb (cn (n:=2) (ae rfl)) rfl (I.n0 (tx I.jQ (by decide) (jI _) rfl (S _ _ _ (dA _ cy _ _ g _ _ _ _ ((ef I.iF.symm).trans I.run) I.C (dH ..) (I.fr.j3 I.aX))))))))))))
  ·refine at_ V (Kl f row λ t l p D E=>?_)
   have F:n_ aS (row.v f) (.int 0)=some (.str t):=by rw[p];rfl
   have W:=Bool.eq_false_iff.mpr λ d=>X0 (zm d)
   refine bz F (hv ?_)
   rw[D.trans W]
   refine bt (bz F (rH (I.fr.get aD m5 fL) (E W) ?_))
   have X:=Z _ (ka V)
   refine bf (acQ X ok B) λ Y sX=>?_
   have H:=ah sX (vZ m 2)
   refine abT L O X _ _ _ g b5 bU j b bu (ah (ae rfl) (gC 9 n)) I ok (ah m (ah (uj 2 (p0 s)) (ae rfl))) P Q B λ c9 bN Ka J4 af=>?_
   clear I B p E F at_ o
   refine d_ (dk ?_)
   rcases b with _|_
   case true=>exact(R bh _ _ (eo bh) (.of rfl af Y (cZ rfl) u H)).1
   case false=>
    have a:=k rfl
    unfold ji at a
    refine gD (UL L O Q P af Y (ah H (ah (uj 2 s) (ae rfl))) (λ c8 k aay zc f6 J=>dk ?_) λ k f6 c8 J=>dk ?_)
    ·rw[k] at a
     exact(R bh _ _ (eo bh) (.of rfl J aay a u (ah zc H))).1
    ·have a:=k▸a
     exact S _ _ _ (tr a _ _ _ _ _ _ J (ah (dD ..) u))
theorem ZM(bp:T.length<=4)(ec:fU T)(Q:N<=1000000)(R:G<=1000000)(qp:∀r∈rows,mQ G r)(h1:rows.length<=1000000000){n start c:Nat}{r:hI}{dc dY o i q:E}(K:pP e bb bM rows G N f)(aD:e.get nq=some (.dict xO xP))(m5:nq<e.next)(cC:bb≠y)(di:bM≠y)(fL:nq≠y)
  (bD:e.get y=some (lr bb T cf dc dY o i q)) (dE:y<e.next) (aN:start<=T.length) (ag:eJ T f rows c ⟨start,0,List.replicate G none,List.replicate N (-1),[]⟩ r) (aG:cf+c<=1000000)
  (tr:r=none->∀M (st:Nat) dc dY o i q,M.get y=some (lr bb T st dc dY o i q)->Fr (·=y) e M->st<=cf+c->A (.bool false) M)
  (dA:∀w,r=some w->∀M (st:Nat) g dc dY i q,M.get y=some (lr bb T st dc dY (.ref g) i q)->g<M.next->M.get g=some (.list (.tup [.int start,.int w.1]::w.2.map hB))->Fr (·=y) e M->A (.bool true) M):
  call (n+10) 43 [.ref y,.ref nq,.int start] A e:=by
 have u:∀(e:U)(p:dm),Fr (·=y) e (e.upd y p):=λ e p=>.upd _ _ _ rfl
 have a:∀(e:U)(p:dm),Fr (·=y) e (e.alloc p):=λ e p=>.alloc _ _ _
 refine aH (aeF ..) (e9 bD (eG:=jb) (c2:=[.ref bb,.str T,.int 0,.int 0,.int 1000000,.int cf,.int start,dY,o,i,q]) (by kernel_rfl) (by decide) (by kernel_rfl) (e9 (dH ..) (eG:=jb) (c2:=[.ref bb,.str T,.int 0,.int 0,.int 1000000,.int cf,.int start,.int 0,o,i,q]) (by kernel_rfl) (by decide) (by kernel_rfl) (e2 (ae rfl) ?_)))
 generalize S:U.upd _ y _=k
 have t:Fr (·=y) e k:=by rw[<-S];exact(u _ _).trans (u _ _)
 have L:=d7 dE t.next
 refine e9 ((iB (e' L)).trans (by rw[<-S];exact dH ..)) (eG:=jb) (c2:=[.ref bb,.str T,.int 0,.int 0,.int 1000000,.int cf,.int start,.int 0,o,i,.ref k.next]) (by kernel_rfl) (by decide) (by kernel_rfl) (e2 (ae rfl) ?_)
 generalize V:U.upd _ y _=b
 have x:Fr (·=y) (k.alloc (.list [])) b:=by rw[<-V];exact u _ _
 have W:b.get y=some (lr bb T cf (.int start) (.int 0) o i (.ref k.next)):=by rw[<-V];exact dH ..
 have X:=d7 (eo _) x.next
 have D:=Nat.lt_trans L X
 refine a7 (K.fr (((t.trans (a _ _)).trans x).trans (a _ _)) cC di).zY λ aff O=>gV ((iB (e' D)).trans W) (by kernel_rfl) (gV O (v:=.int G) (by kernel_rfl) (dg rfl (Jz .new (h' R) ?_)))
 generalize F:U.alloc (U.alloc b _) _=s
 have Y:Fr (·=y) b s:=by rw[<-F];exact(a _ _).trans (a _ _)
 have hX:(U.alloc b (.list [E.none])).next=b.next+1:=rfl
 have Z:b.next+1<s.next:=by rw[<-F];exact eo _
 have D4:s.get y=some (lr bb T cf (.int start) (.int 0) o i (.ref k.next)):=by
  rw[<-F]
  exact(iB (e' (j' D))).trans ((iB (e' D)).trans W)
 refine e9 D4 (eG:=jb) (c2:=[.ref bb,.str T,.int 0,.int 0,.int 1000000,.int cf,.int start,.int 0,.ref (b.next+1),i,.ref k.next]) (by kernel_rfl) (by decide) (by kernel_rfl) (e2 (ae rfl) ?_)
 generalize It:U.upd s y _=l
 have B:Fr (·=y) s l:=by rw[<-It];exact u _ _
 have uK:l.get y=some (lr bb T cf (.int start) (.int 0) (.ref (b.next+1)) i (.ref k.next)):=by rw[<-It];exact dH ..
 have P:=d7 (Nat.lt_trans (j' D) Z) B.next
 refine a7 (K.fr (((((t.trans (a _ _)).trans x).trans Y).trans B).trans (a _ _)) cC di).zY λ aff O=>gV ((iB (e' P)).trans uK) (by kernel_rfl) (gV O (by kernel_rfl) (Jz .new (oT Q) ?_))
 generalize H:U.alloc (U.alloc l _) _=m
 have BN:(U.alloc l (.list [E.int (-1)])).next=l.next+1:=rfl
 have Hh:Fr (·=y) l m:=by rw[<-H];exact(a _ _).trans (a _ _)
 have tb:l.next+1<m.next:=by rw[<-H];exact eo _
 have abc:m.get y=some (lr bb T cf (.int start) (.int 0) (.ref (b.next+1)) i (.ref k.next)):=by
  rw[<-H]
  exact(iB (e' (j' P))).trans ((iB (e' P)).trans uK)
 refine e9 abc (eG:=jb) (c2:=[.ref bb,.str T,.int 0,.int 0,.int 1000000,.int cf,.int start,.int 0,.ref (b.next+1),.ref (l.next+1),.ref k.next]) (by kernel_rfl) (by decide) (by kernel_rfl) ?_
 have Hf:=(Y.trans B).trans (Hh.trans (u m (lr bb T cf (.int start) (.int 0) (.ref (b.next+1)) (.ref (l.next+1)) (.ref k.next))))
 have J:=t.next
 have agJ:=B.next
 have h:cN e (m.upd y (lr bb T _ (.int start) (.int 0) _ _ _)) y bb _ _ _ T f _ ⟨start,0,List.replicate G none,List.replicate N _,[]⟩:={
  run:=dH ..
  jQ:=by
   have:=(B.trans (Hh.trans (u m (lr bb T cf (.int start) (.int 0) (.ref (b.next+1)) (.ref (l.next+1)) (.ref k.next))))).get (by rw[<-F];exact fR ..:s.get (b.next+1)=some (.list (List.replicate (G+1) E.none))) Z (by lia)
   rw[this,List.map_replicate];rfl
  l6:=by
   have:=(u m (lr bb T cf (.int start) (.int 0) (.ref (b.next+1)) (.ref (l.next+1)) (.ref k.next))).get (by rw[<-H];exact fR ..:m.get (l.next+1)=some (.list (List.replicate N (E.int (-1))))) tb (by lia)
   rw[this,List.map_replicate]
  pr:=Hf.get (x.get (fR ..) (eo _) (hV L)) X (by lia)
  cC:=by lia
  di:=by lia
  fL:=by lia
  iF:=by lia
  kO:=by lia
  l2:=by lia
  aX:=by lia
  bS:=by lia
  dv:=J
  dE:=by show y<m.next;lia
  C:=by show b.next+1<m.next;lia
  I:=tb
  af:=by show k.next<m.next;lia
  fr:=((t.trans (a _ _)).trans x).trans Hf}
 exact Zz bp ec Q R qp h1 K aD m5 cC di fL h ⟨aN,sy,sy,λ d bE=>(gh bE).elim⟩ (df _) ag aG (λ d M st j g b5 bU aY=>tr d _ st _ _ _ _ _ aY.run aY.fr) dA
end
end
section
theorem abM{a b:Int}(h:dU a=true)(I:dU b=true):r4 .range [.int a,.int b]=some (.rng a b 1):=aT (by rw[h,I];rfl)
theorem abx{e:U}{k:bo}{R:dq}(n:Nat)(h:n<=1000000000)(q:k (.rng 0 n 1) e):cJ cp R (.typ .range) [.int 0,.int n] k e:=qV (abM rfl (js h)) q
theorem ac0{e:U}{k:bo}{R:dq}{j:List Nat}{D:Int}(hz:D=j.length)(a:j.length<=c7)(q:k (.int D) e):cJ cp R (.bi .len) [.str j] k e:=by
 subst hz
 exact j2 a q
theorem v'{e:U}{k:bo}{R:dq}{B:List E}(c:Nat){m:Nat}(a:Aj c=some m)(q:R m (.ref e.next::B) (λ r M=>match r with|.none=>k (.ref e.next) M|_=>False) (e.alloc (.inst c [] []))):cJ cp R (.cls c) B k e:=by
 show lq (Aj c) _
 exact qH a q
theorem BF{e:U}{k:bo}{az:List (List Nat)}{B:List E}(h:az.length=0\/az.length=19)(q:k (.ref e.next) (e.alloc (.dict az B))):yR az B k e:=⟨h,q⟩
theorem Fr.drop{e c M:U}{y:Nat}(a:eh e c)(b:Fr (·=y) c M)(h:e.next<=y):eh e M:=
 ⟨ah a.next b.next,λ i C z=>(b.same i (d7 C a.next) (e' (d7 C h))).trans (a.same i C id)⟩
noncomputable def sumTo(c:Nat->Nat):Nat->Nat
 |0=>0
 |i+1=>sumTo c i+c i
theorem ada(c:Nat->Nat){i n:Nat}(h:i<=n):sumTo c i<=sumTo c n:=by
 induction n with
 |zero=>exact rwr (Nat.le_zero.mp h) (bx _)
 |succ n a=>
  rcases Nat.lt_or_eq_of_le h with D|rfl
  ·exact ah (a (nP D)) (dD ..)
  ·exact bx _
section
variable{e:U}{bb bM G N:Nat}{T:List Nat}{f:Bool}{A:bo}{rows:List cu}
theorem abW{n:Nat}{k:bo}(r:bb<e.next)(q:∀b l m o,eh e b->e.next<b.next->b.get e.next=some (lr bb T (0:Nat) (.int 0) (.int 0) l m o)->k (.ref e.next) b):cJ cp (call (n+1)) (.cls 17) [.ref bb,.str T,.int 0,.int 0,.int 1000000] k e:=by
 refine v' 17 (by kernel_rfl) (aH (ad0 ..) ?_)
 have u:∀(b:U)(p:dm),eh e b->eh e (b.upd _ p):=λ b p d=>d.j3 (bx _)
 have a:∀(b:U)(p:dm),eh e b->eh e (b.alloc p):=λ b p d=>d.jJ
 refine e9 (fR ..) (eG:=jb.take 1) (c2:=[.ref bb]) (by kernel_rfl) (ae rfl) (by kernel_rfl) (e9 (dH ..) (eG:=jb.take 2) (c2:=[.ref bb,.str T]) (by kernel_rfl) (ae rfl) (by kernel_rfl) (e9 (dH ..) (eG:=jb.take 3) (c2:=[.ref bb,.str T,.int 0]) (by kernel_rfl) (ae rfl) (by kernel_rfl) (e9 (dH ..) (eG:=jb.take 4) (c2:=[.ref bb,.str T,.int 0,.int 0]) (by kernel_rfl) (ae rfl) (by kernel_rfl) (e9 (dH ..) (eG:=jb.take 5) (c2:=[.ref bb,.str T,.int 0,.int 0,.int 1000000]) (by kernel_rfl) (ae rfl) (by kernel_rfl) (e9 (dH ..) (eG:=jb.take 6) (c2:=[.ref bb,.str T,.int 0,.int 0,.int 1000000,.int 0]) (by kernel_rfl) (ae rfl) (by kernel_rfl) (e9 (dH ..) (eG:=jb.take 7) (c2:=[.ref bb,.str T,.int 0,.int 0,.int 1000000,.int 0,.int 0]) (by kernel_rfl) (ae rfl) (by kernel_rfl) (e9 (dH ..) (eG:=jb.take 8) (c2:=[.ref bb,.str T,.int 0,.int 0,.int 1000000,.int (0:Nat),.int 0,.int 0]) (by kernel_rfl) (ae rfl) (by kernel_rfl) ?_)))))))
 generalize h:U.upd _ _ _=c
 have cC:e.next<c.next:=by rw[<-h];exact eo _
 refine e2 (by decide) (e9 ((iB (e' cC)).trans (by rw[<-h];exact dH ..:c.get e.next=some (.inst 17 (jb.take 8) [.ref bb,.str T,.int 0,.int 0,.int 1000000,.int (0:Nat),.int 0,.int 0]))) (eG:=jb.take 9) (c2:=[.ref bb,.str T,.int 0,.int 0,.int 1000000,.int (0:Nat),.int 0,.int 0,.ref c.next]) (by kernel_rfl) (ae rfl) (by kernel_rfl) (e2 (by decide) ?_))
 generalize i:U.upd _ _ _=f
 have di:e.next<f.next:=by rw[<-i];exact j' cC
 refine e9 ((iB (e' di)).trans (by rw[<-i];exact dH ..:f.get e.next=some (.inst 17 (jb.take 9) [.ref bb,.str T,.int 0,.int 0,.int 1000000,.int (0:Nat),.int 0,.int 0,.ref c.next]))) (eG:=jb.take 10) (c2:=[.ref bb,.str T,.int 0,.int 0,.int 1000000,.int (0:Nat),.int 0,.int 0,.ref c.next,.ref f.next]) (by kernel_rfl) (ae rfl) (by kernel_rfl) (e2 (by decide) ?_)
 generalize j:U.upd _ _ _=g
 have fL:e.next<g.next:=by rw[<-j];exact j' di
 exact e9 ((iB (e' fL)).trans (by rw[<-j];exact dH ..:g.get e.next=some (.inst 17 (jb.take 10) [.ref bb,.str T,.int 0,.int 0,.int 1000000,.int (0:Nat),.int 0,.int 0,.ref c.next,.ref f.next]))) (c2:=[.ref bb,.str T,.int 0,.int 0,.int _,.int _,.int 0,.int 0,.ref c.next,.ref f.next,.ref g.next]) (by kernel_rfl) (ae rfl) (by kernel_rfl) (q _ _ _ _ (u _ _ (a _ _ (by rw[<-j];exact u _ _ (a _ _ (by rw[<-i];exact u _ _ (a _ _ (by rw[<-h];exact u _ _ (u _ _ (u _ _ (u _ _ (u _ _ (u _ _ (u _ _ (u _ _ (.alloc _ _ _)))))))):eh e c)):eh e f)):eh e g))) (j' fL) (dH ..))
noncomputable def rK:List Str:=[Af,oq,pE,e3,(Str.ofString "items")]
theorem ab4(q:T.length<=4)(ec:fU T)(bH:N<=1000000)(bO:G<=1000000)(qp:∀r∈rows,mQ G r)(h1:rows.length<=1000000000){n K:Nat}(t:pP e bb bM rows G N f)(CJ:e.get K=some (.inst 46 rK [.int 64,.int 50,.int 1000000,.int 100000,.int 10000]))
  {r:Nat->hI} (c:Nat->Nat) (ag:∀a,a<=T.length->eJ T f rows (c a) ⟨a,0,List.replicate G none,List.replicate N (-1),[]⟩ (r a)) (aG:sumTo c (T.length+1)<=1000000)
  (tr:(∀a,a<=T.length->r a=none)->∀M,eh e M->A .none M)
  (dA:∀a w,a<=T.length->(∀b,b<a->r b=none)->r a=some w->∀M g,g<M.next->M.get g=some (.list (.tup [.int a,.int w.1]::w.2.map hB))->eh e M->A (.ref g) M)
  {s k:U} (O:e.next<s.next) (u:eh e k) (X4:k.get s.next=some (.dict xO xP)) (x:s.next<k.next) {y B F:E} (dG:k.get e.next=some (lr bb T (0:Nat) (.int 0) (.int 0) y B F)):
  (cJ cp (call (n+10)) (.bi .len) [.str T] λ yo=>(bw .Add yo (.int 1) λ yp=>(cJ cp (call (n+10)) (.typ .range) [.int 0,yp] λ sj=>(forM sj (d6 44 [] 2 (call (n+10))) (bq 44 [(2,0)] 0 (call (n+10))) (oM (some (.ref bb)) (some (.str T)) (some (.int 0)) (some (.ref K)) (some (.int 0)) (some (.ref e.next)) (some (.ref s.next)) none) (fc (bq 44 [] 3 (call (n+10))) (eX A)))))) k:=by
 refine a7 (⟨_,rfl⟩:∃c_,c_=T.length+1) λ c_ l=>a7 (⟨_,rfl⟩:∃D:Int,D=T.length) λ D hz=>ac0 hz (p8 q) (dg (by rw[hz,l];rfl) (abx c_ (J [_,_] 0xee6b2800c328022200a120881 L q (aL l)) ?_))
 have P:=e' t.C
 have Q:=e' t.I
 have R:=hV O
 refine k_ (zr (J [_,_] 0xee6b2800c328022200a120881 L q (aL l))) (λ i ak M=>(∃p,ak=oM _ _ _ _ _ _ _ p)/\(∃(st:Nat)(dc dY y B F:E),M.get _=some (lr bb T st dc dY y B F)/\st<=sumTo c i)/\Fr (·=e.next) _ M/\∀b,b<i->r b=none)
  ⟨⟨none,rfl⟩,(IH 0 _ _ _ _ _ ⟨dG,bx _⟩),.refl _ _,λ b h=>((bC b) h).elim⟩ (λ z z z z=>trivial) (λ i v ak aw d3 S m ct z V=>?_) λ ak aw m=>?_
 ·refine f5 m λ W X d o=>?_;clear m;refine a7 W λ p kr=>?_;clear W;subst kr;refine afE X λ st iN mH EO ag0 ag1 aq b8=>?_;clear X
  refine bf (z3 S) λ j eV=>?_;clear S;subst eV
  have j:i<=T.length:=J [_,_,_] 0x14c0204460042228081 L (aL l) j
  have Z:st+c i<=sumTo c (i+1):=vZ b8 _
  refine aH (Xb ..) (aH (Uq ..) (ZM q ec bH bO qp h1 ((t.fr u id id).fr d P Q) (d.get X4 x R) (d7 x d.next) P Q R aq (d7 (Nat.lt_trans O x) d.next) j (ag i j) (ah Z (ah (ada c (h' j)) aG)) (λ Y aS KI tJ Lg aer Lh Li I H gJ=>?_) λ w aD aS KI g tJ Lg Lh Li I CB za H=>?_))
  ·refine dk (bt (ct _ _ ⟨⟨_,rfl⟩,(IH KI tJ Lg aer Lh Li ⟨I,ah gJ Z⟩),d.trans H,λ b qj=>?_⟩).1)
   rcases Nat.lt_or_eq_of_le (nP qj) with D|rfl
   ·exact o b D
   ·exact Y
  ·exact dk (cE (gV I (by kernel_rfl) (V _ _ _ (dA i w j o aD _ g CB za (Fr.drop u (d.trans H) (bx _))))))
 ·refine f5 m λ fh z d o=>?_;clear m;refine a7 fh λ p mK=>?_;clear fh;subst mK
  rw[xn,l] at o
  exact f3 (aH (Ur ..) (gn (tr (λ a au=>o a (kd au)) _ (Fr.drop u d (bx _)))))
theorem ab5(k:T.length<=4)(l:fU T)(m:N<=1000000)(o:G<=1000000)(p:∀r∈rows,mQ G r)(q:rows.length<=1000000000){n d:Nat}(h:pP e bb bM rows G N f)(i:e.get d=some (.inst 46 rK [.int 64,.int 50,.int 1000000,.int 100000,.int 10000]))
  {r:Nat->hI} (c:Nat->Nat) (s:∀a,a<=T.length->eJ T f rows (c a) ⟨a,0,List.replicate G none,List.replicate N (-1),[]⟩ (r a)) (t:sumTo c (T.length+1)<=1000000)
  (u:(∀a,a<=T.length->r a=none)->∀M,eh e M->A .none M)
  (v:∀a w,a<=T.length->(∀b,b<a->r b=none)->r a=some w->∀M g,g<M.next->M.get g=some (.list (.tup [.int a,.int w.1]::w.2.map hB))->eh e M->A (.ref g) M):
  call (n+11) 44 [.ref bb,.str T,.int 0,.ref d,.int 0] A e:=by
 exact aH (aeG ..) (gV i (by kernel_rfl) (abW h.C λ y D E F x j cV=>aH (aeC ..) (BF (az:=xO) (B:=xP) (.inr (by kernel_rfl)) (ab4 k l m o p q h i c s t u v j x.jJ (fR ..) (eo _) ((iB (e' j)).trans cV)))))
end
end
section
noncomputable def gy(l:List E):E:=.tup [.str [115,101,113],.lst l]
noncomputable def zH:Nat->List Nat
 |0=>[103,114,101,101,100,121]
 |1=>[108,97,122,121]
 |_=>[111,119,110]
noncomputable def kL:br->Bool
 |.one _=>true
 |.group _ _ _=>true
 |_=>false
noncomputable def sF(f:Bool)(n:Nat):E:=.tup [.str oc,.lst [.int n],.bool f]
section
variable(f:Bool)
mutual
noncomputable def e1:br->E
 |.one k=>gX f k
 |.place w=>.tup [.str [97,116],.str (J5 w)]
 |.rounds x c m=>.tup [.str qC,if kL x then e1 x else gy [e1 x],.int (dh c),.int (dW c),.str (zH m)]
 |.group n r _=>.tup [.str jW,.int n,e1 r]
 |.again n a=>if a=0/\n<10 then gy [sF f n] else sF f n
 |.d4 ab aU=>.tup [.str [97,108,116],.lst [e1 ab,e1 aU]]
 |.atomic r=>.tup [.str pj,e1 r]
 |.look x w cW=>.tup [.str qE,if d5 x then e1 x else gy [e1 x],.bool w.isSome,.bool cW,.int (w.getD 0:Nat)]
 |.nil=>gy []
 |.cons x r=>gy (e1 x::nS r)
noncomputable def nS:br->List E
 |.cons x r=>e1 x::nS r
 |_=>[]
end
end
theorem AU{f:Bool}{n a:Nat}:e1 f (.again n a)=if a=0/\n<10 then gy [sF f n] else sF f n:=rfl
noncomputable def cZ:br->Nat
 |.rounds x _ _=>cZ x+12
 |.group _ r _=>cZ r+4
 |.d4 ab aU=>max (cZ ab) (cZ aU)+4
 |.atomic r=>cZ r+4
 |.look x _ _=>cZ x+6
 |.cons x r=>max (cZ x+1) (cZ r)
 |_=>5
noncomputable def cR:br->Nat
 |.rounds x _ _=>30+cR x
 |.group _ r _=>30+cR r
 |.d4 ab aU=>30+cR ab+cR aU
 |.atomic r=>30+cR r
 |.look x _ _=>30+cR x
 |.cons x r=>cR x+cR r
 |.nil=>0
 |_=>20
theorem jq:∀(x:br)(s k:Nat),(code x s k).length<=cR x
 |.one _,_,_=>(by decide:1<=20)
 |.place _,_,_=>(by decide:1<=20)
 |.again _ _,_,_=>(by decide:1<=20)
 |.nil,_,_=>bx 0
 |.cons x r,s,k=>by
  show(code x s k++code r _ _).length<=cR x+cR r
  rw[bR]
  exact fV (jq x _ _) (jq r _ _)
 |.group n r _,s,k=>by
  show(cu.opn k::(code r _ _++[cu.close n k])).length<=30+cR r
  rw[wZ]
  have:=jq r (s+1) (k+1)
  exact J [_,_] 0x2f8401088001481 L this
 |.atomic r,s,k=>by
  show(cu.mark k::(code r _ _++[cu.cut k])).length<=30+cR r
  rw[wZ]
  have:=jq r (s+1) (k+1)
  exact J [_,_] 0x2f8401088001481 L this
 |.d4 ab aU,s,k=>by
  show(cu.split _ _::(code ab _ k++cu.jump _::code aU _ _)).length<=30+cR ab+cR aU
  rw[fW,bR,fW]
  have:=jq ab (s+1) k
  have:=jq aU (s+2+(code ab (s+1) k).length) (k+d1 ab)
  lia
 |.rounds x c m,s,k=>by
  have h:∀lazy s k,(l5 x (code x) c lazy s k).length<=5+cR x:=λ lazy s k=>by
   have:∀lazy,(m9 _ (dh c) (dW c) lazy s k).length<=5+cR x:=λ lazy=>by
    have:=jq x (s+3) (k+2)
    unfold m9
    simp only[fW,bR,iQ]
    exact J [_,_] 0x294400882208822008040000001481 L this
   rcases x with _|_<;>first|exact this _|(exact J [_] 4464837696 L)
  show(if m=2 then oV _ s k else l5 x _ c _ s k).length<=30+cR x
  split
  ·show(cu.mark k::(l5 x _ c _ _ _++[cu.cut k])).length<=30+cR x
   rw[wZ]
   have:=h false (s+1) (k+1)
   exact J [_,_] 0x17c200844000a510081 L this
  ·have:=h (m==1) s k
   exact J [_,_] 0x2f840200a510081 L this
 |.look x p cW,s,k=>by
  have a:(eD p).length<=1:=by rcases p with _|_;exact df 1;exact bx 1
  show(if cW=true then cu.place k::.mark _::.split _ _::(eD p++(code x _ _++[.refuse _])) else cu.place k::.mark _::(eD p++(code x _ _++[.cut _,.ret k]))).length<=30+cR x
  split<;>simp only[fW,bR,iQ]<;>(first|exact J [_,_,_] 0xde1002208822088020140400000018a108881 L a (jq x (s+3+(eD p).length) (k+2))|exact J [_,_,_] 0xde100220882208802000a020000018a108881 L a (jq x (s+2+(eD p).length) (k+2)))
theorem qM:∀x:br,d1 x<=cR x
 |.one _=>df _
 |.place _=>df _
 |.again _ _=>df _
 |.nil=>df _
 |.cons x r=>fV (qM x) (qM r)
 |.group _ r _=>fV (by decide) (qM r)
 |.atomic r=>fV (by decide) (qM r)
 |.d4 ab aU=>fV (ah (qM ab) (gC ..)) (qM aU)
 |.look x _ _=>fV (ae rfl) (qM x)
 |.rounds x _ m=>by
  have:=qM x
  show(if m=2 then 1 else 0)+(if m8 x then 0 else 2+d1 x)<=30+cR x
  split<;>split<;>lia
noncomputable def zG:List Str:=[km,h6]
structure eK(aI e:U)(mk cQ:Nat)(B:List E)(k:Nat):Prop where
 nd:e.get mk=some (.inst 50 zG [.ref cQ,.int k])
 ps:e.get cQ=some (.list B)
 ne:mk≠cQ
 C:mk<e.next
 I:cQ<e.next
 fr:Fr (λ i=>i=mk\/i=cQ) aI e
section
variable{aI e:U}{mk cQ k:Nat}{B:List E}{K:bo}
theorem eK.ext{M:U}(h:eK aI e mk cQ B k)(d:eh e M):eK aI M mk cQ B k:=
 ⟨d.get h.nd h.C id,d.get h.ps h.I id,h.ne,d7 h.C d.next,d7 h.I d.next,h.fr.trans (d.mono λ z z D=>D.elim)⟩
theorem eK.rows(h:eK aI e mk cQ B k)(q:K (.ref cQ) e):a6 (.ref mk) km K e:=gV h.nd (by kernel_rfl) q
theorem eK.ls(h:eK aI e mk cQ B k):dw e (.ref cQ) B:=⟨by rw[iW,h.ps];rfl,λ i d=>by(injection d with a3;subst a3);exact h.I⟩
theorem eK.J9(h:eK aI e mk cQ B k)(c2:List E):eK aI (e.upd cQ (.list c2)) mk cQ c2 k:=
 ⟨(ef h.ne).trans h.nd,dH ..,h.ne,h.C,h.I,h.fr.trans (.upd _ _ _ (.inr rfl))⟩
theorem eK.aba(h:eK aI e mk cQ B k)(a:Nat):eK aI (e.upd mk (.inst 50 zG [.ref cQ,.int a])) mk cQ B a:=
 ⟨dH ..,(ef h.ne.symm).trans h.ps,h.ne,h.C,h.I,h.fr.trans (.upd _ _ _ (.inl rfl))⟩
theorem eK.ja(h:eK aI e mk cQ B k){K:fp->U->Prop}(q:K (.fn 1501) e):b0 (.ref mk) iw K e:=rN h.nd (by kernel_rfl) q
theorem eK.va(h:eK aI e mk cQ B k){K:fp->U->Prop}(q:K (.fn 1502) e):b0 (.ref mk) qT K e:=rN h.nd (by kernel_rfl) q
theorem zE{R:dq}{m:Nat}{p:E}{B:List E}(q:R m (p::B) K e):bY R (.fn m) p B K e:=q
theorem eK.add{n:Nat}(h:eK aI e mk cQ B k){v:E}(b:B.length<=1000000)(q:∀M,eK aI M mk cQ (B++[v]) k->K (.int B.length) M):bY (call (n+1)) (.fn 1501) (.ref mk) [v] K e:=by
 refine zE (aH (aea ..) (h.rows (qz h.ps (p4 h.ps (ah b (ae rfl)) ?_))))
 have a:=h.J9 (B++[v])
 refine a.rows (a.ls.len (by rw[bR];exact ah (h' b) (ae rfl)) (dg ?_ (q _ a)))
 rw[bR]
 exact bB some (bB _ (by show(B.length+1:Int)-1=_;lia))
theorem eK.fresh{n:Nat}(h:eK aI e mk cQ B k)(q:∀M,eK aI M mk cQ B (k+1)->K (.int k) M):bY (call (n+1)) (.fn 1502) (.ref mk) [] K e:=by
 have a:=h.aba (k+1)
 exact zE (aH (aeb ..) (gV h.nd (v:=.int k) (by kernel_rfl) (iD (e9 h.nd (by kernel_rfl) (ae rfl) (by kernel_rfl) (gV a.nd (v:=.int (k+1)) (by kernel_rfl) (dg (bB some (bB _ (by lia))) (q _ a)))))))
theorem eK.set(h:eK aI e mk cQ B k){i:Nat}{v:E}{A:U->Prop}(a:i<B.length)(b:B.length<=1000000)(q:∀M,eK aI M mk cQ (B.set i v) k->A M):gM (.ref cQ) (.int i) v A e:=
 tx h.ps (i5 i) a (js (J [_,_] 0xee6b2800c3203d090083284a111001 L a b)) (q _ (h.J9 _))
end
end
section
theorem Hx(R:dq)(K:Loc->U->Prop)(e:U)(v:E)(a b c o d:Option E):d6 51 [(1,1),(0,0)] 0 R v (mM a b c o d) K e=K (mM a b c (some v) d) e:=by kernel_rfl
theorem Xd(R:dq)(K:Loc->U->Prop)(e:U)(v:E)(a b c o d f:Option E):d6 52 [] 1 R v (lG a b c o d f) K e=K (lG a b c (some v) d f) e:=by kernel_rfl
theorem Xe(R:dq)(K:Loc->U->Prop)(e:U)(v:E)(a b c o d f:Option E):d6 52 [] 3 R v (lG a b c o d f) K e=K (lG a b c o d (some v)) e:=by kernel_rfl
theorem Hy(R:dq)(K:Loc->U->Prop)(e:U)(dc dY h i j:E)(a b c o d f g:Option E):d6 54 [] 0 R (.tup [dc,dY,h,i,j]) (sg a b c o d f g) K e=K (sg a b (some dc) (some dY) (some h) (some i) (some j)) e:=by kernel_rfl
theorem Xf(R:dq)(K:Loc->U->Prop)(e:U)(dc dY j k l:E)(a b c o d f g h i y:Option E):d6 56 [] 0 R (.tup [dc,dY,j,k,l]) (ue a b c o d f g h i y) K e=K (ue a b (some dc) (some dY) (some j) (some k) (some l) h i y) e:=by kernel_rfl
section
variable{f:Bool}
def gY(f:Bool)(N:Nat)(v:E)(ay:Nat->Nat->List cu)(a j:Nat):Prop:=∀(n:Nat)(aI e:U)(mk cQ k:Nat)(B:List E)(A:bo),N<=n->eK aI e mk cQ B k->B.length+j<=900000->
 (∀M,eK aI M mk cQ (B++(ay B.length k).map (cu.v f)) (k+a)->A .none M)->call n 51 [.ref mk,v] A e
theorem eK.re{aI e:U}{mk cQ k:Nat}{B:List E}(h:eK aI e mk cQ B k):eK e e mk cQ B k:=⟨h.nd,h.ps,h.ne,h.C,h.I,.refl _ _⟩
theorem eK.hR{aI e M:U}{mk cQ k b:Nat}{B c2:List E}(h:eK aI e mk cQ B k)(a:eK e M mk cQ c2 b):eK aI M mk cQ c2 b:=⟨a.nd,a.ps,a.ne,a.C,a.I,h.fr.trans a.fr⟩
theorem gY.mono{N ku:Nat}{v:E}{ay:Nat->Nat->List cu}{a j b:Nat}(h:gY f N v ay a j)(c:N<=ku)(d:j<=b):gY f ku v ay a b:=
 λ n aI e mk cQ k B A Y g i=>h n _ e mk cQ k B A (ah c Y) g (ah (e7 d _) i)
theorem rj{t:List Nat}{l:List E}{j:Nat}(cZ:jK (.str t) [.str tl,.str [97,110,121],.str pk,.str [97,116],.str oc]=some true)(r:Nat->Nat->cu)(V:∀s k,(r s k).v f=.tup (.str t::l)):gY f 2 (.tup (.str t::l)) (λ s k=>[r s k]) 0 (j+1):=by
 intro n aI e mk cQ k B A Y h a q
 apply i7 Y;intro n
 refine aH (qX ..) (bz rfl (cb (ae rfl) rfl (bj cZ (cE (h.ja (h.add (J [_,_] 0x1e848041901b774041844501001 L a) λ b C=>q _ ?_))))))
 show eK _ _ mk cQ (B++[(r _ k).v f]) k
 rw[V]
 exact C
theorem Tu(i:Nat):gY f 2 (gX f i) (code (.one i)) 0 20:=by
 match i with
 |0=>exact rj rfl _ λ z z=>rfl
 |1=>exact rj rfl _ λ z z=>rfl
 |2=>exact rj rfl _ λ z z=>rfl
 |3=>exact rj rfl _ λ z z=>rfl
 |4=>exact rj rfl _ λ z z=>rfl
 |i+5=>exact rj rfl _ λ z z=>rfl
inductive oE(f:Bool)(N:Nat):br->Prop
 |nil:oE f N .nil
 |cons {x r:br}:gY f N (e1 f x) (code x) (d1 x) (cR x)->oE f N r->oE f N (.cons x r)
theorem oE.mono{N ku:Nat}{r:br}(h:oE f N r)(a:N<=ku):oE f ku r:=by
 induction h with
 |nil=>exact .nil
 |cons C _ b=>exact .cons (C.mono a (bx _)) b
set_option tactic.hygienic true in
theorem FR{N:Nat}{r:br}(V:oE f N r):gY f (N+1) (gy (nS f r)) (code r) (d1 r) (cR r):=by
 intro n aI e mk cQ k B A Y h u q
 refine a7 (fu (k:=1) (J [_,_] 0xa1100a111001 L Y)) λ n w=>?_;subst w
 refine aH (qX ..) (bz rfl (cb (ae rfl) rfl (bj (r:=false) rfl (bt (bj (r:=true) rfl (cE (bz rfl (k_ rfl (λ i ak M=>(∃p,ak=mM _ _ _ p _)/\∃H c2 a,oE f N H/\nS f H=(nS f r).drop i/\eK _ M mk cQ c2 a/\
  c2++(code H c2.length a).map _=B++(code r _ k).map (cu.v f)/\a+d1 H=k+d1 r/\c2.length+cR H<=900000) ⟨⟨none,rfl⟩,r,B,k,V,rfl,h,rfl,rfl,u⟩ (λ z z z z=>trivial) (λ i v ak x G c d y z z=>?_) λ ak x d=>?_))))))))
 ·refine LJ d λ m H c2 a b_ b C j l g=>?_;clear d;refine a7 m λ p E=>?_;clear m;subst E
  have o:=pX λ D=>by rw[oR D] at c;exact a8 c
  rw[oS o] at b
  rw[hK o] at c
  rcases b_ with _|_
  case nil=>injection b
  case cons D H hz b_=>
   have ev:v=e1 f D:=by obtain rfl:=cm c;exact(e0 b).1.symm
   clear c;subst ev
   have hsz:cR (.cons D H)=cR D+cR H:=rfl
   refine aH (Hx ..) (aH (F_ ..) (hz n _ _ mk cQ a _ _ (J [_,_] 0x290011140111001 L Y) C (J [_,_,_,_] 0x1b7740419880014e60076ee808329001 L g (aL hsz.symm)) λ K I=>(y _ _ ⟨⟨_,rfl⟩,H,_,_,b_,(e0 b).2,I,?_,?_,?_⟩).1))
   ·rw[<-j,show code (.cons D H) _ a=code D _ a++code H _ _ from rfl,e8,el,bR,cM]
   ·rw[<-l];exact ez ..
   ·have:=jq D c2.length a
    rw[bR,cM]
    exact J [_,_,_,_,_] 0x36ee80833a080000c8094e60076ee808329001 L g (aL hsz.symm) this
 ·refine LJ d λ s H c2 a b_ b C j l g=>?_;clear d;refine a7 s λ p F=>?_;clear s;subst F
  rw[List.drop_length] at b
  clear V Y g;rcases b_ with _|_
  case nil=>
   have t:c2++[]=B++(code r _ k).map _:=j
   rw[gT] at t
   subst l
   exact f3 (aH (F' ..) (f3 (aH (Ga ..) (f3 (aH (Gb ..) (rA (q _ (rwr t C))))))))
  case cons _ _=>injection b
theorem A0{N:Nat}{v:E}{ay:Nat->Nat->List cu}{a j:Nat}(b:gY f N v ay a j):gY f (N+1) (gy [v]) ay a j:=by
 intro n aI e mk cQ k B A Y h c q
 refine a7 (fu (k:=1) (J [_,_] 0xa1100a111001 L Y)) λ n d=>?_;subst d
 exact aH (qX ..) (bz rfl (cb (ae rfl) rfl (bj (r:=false) rfl (bt (bj (r:=true) rfl (cE (bz rfl ⟨trivial,aH (Hx ..) (aH (F_ ..) (b n _ e mk cQ k B _ (J [_,_] 0x290011140111001 L Y) h c λ g I=>⟨trivial,f3 (aH (F' ..) (f3 (aH (Ga ..) (f3 (aH (Gb ..) (rA (q _ I)))))))⟩))⟩)))))))
theorem Tr{N i:Nat}{v:E}{ay:Nat->Nat->List cu}{a j:Nat}(d:∀s k,(ay s k).length<=j)(g:gY f (N+2) v ay a j):gY f (N+3) (.tup [.str jW,.int i,v]) (λ s k=>.opn k::(ay (s+1) (k+1)++[.close i k])) (1+a) (j+5):=by
 intro n aI e mk cQ k B A Y h c q
 refine a7 (fu (k:=3) (J [_,_] 0xa3100a311001 L Y)) λ n l=>?_;subst l
 refine aH (qX ..) (bz rfl (cb (ae rfl) rfl (bj (r:=false) rfl (bt (bj (r:=false) rfl (bt (bj (r:=false) rfl (bt (bj (r:=true) rfl (cE (h.va (h.fresh λ m C=>C.ja (cb (cn (n:=2) (ae rfl)) rfl (C.add (J [_,_] 0x1e848041901b774041944501001 L c) λ o I=>bz rfl (g _ _ _ mk cQ _ _ _ (J [_,_] 0x4228042200031140311001 L Y) I (by rw[bR];exact J [_,_] 0x36ee8083284440001b774041944501001 L c) λ p af=>af.ja (bz rfl (cb (cn (n:=3) (ae rfl)) rfl (af.add ?_ λ t b=>q _ ?_))))))))))))))))))
 ·have:=d (B++[E.tup [.str [111,112,101,110],.int k]]).length (k+1)
  rw[bR,cM] at*
  rw[bR] at*
  exact J [_,_,_] 0xf424020cc110040200002983b774041944501001 L c this
 ·rw[bR] at b
  rw[show k+1+a=k+(1+a) by exact cB (J [_,_] 0x5088040142220000 L) (J [_,_] 0x5088800142201000 L)] at b
  simp only[jH,e8,el,pZ,oQ,List.map_nil,cu.v] at b⊢
  exact b
theorem FQ{N:Nat}{v:E}{ay:Nat->Nat->List cu}{a j:Nat}(d:∀s k,(ay s k).length<=j)(g:gY f (N+2) v ay a j)(n:Nat)(aI e:U)(mk cQ k:Nat)(B:List E)(A:bo)(Y:N+3<=n)(h:eK aI e mk cQ B k)(c:B.length+(j+5)<=900000)
  (q:∀M,eK aI M mk cQ (B++(oV ay B.length k).map (cu.v f)) (k+(1+a))->A .none M):call n 53 [.ref mk,v] A e:=by
 refine a7 (fu (k:=3) (J [_,_] 0xa3100a311001 L Y)) λ n i=>?_;subst i
 refine aH (aeI ..) (h.va (h.fresh λ l C=>C.ja (cb (cn (n:=2) (ae rfl)) rfl (C.add (J [_,_] 0x1e848041901b774041944501001 L c) λ m I=>g _ _ _ mk cQ _ _ _ (J [_,_] 0x4228042200031140311001 L Y) I (by rw[bR];exact J [_,_] 0x36ee8083284440001b774041944501001 L c) λ o af=>af.ja (cb (cn (n:=2) (ae rfl)) rfl (af.add ?_ λ p b=>q _ ?_))))))
 ·have:=d (B++[E.tup [.str xc,.int k]]).length (k+1)
  rw[bR,cM] at*
  rw[bR] at*
  exact J [_,_,_] 0xf424020cc110040200002983b774041944501001 L c this
 ·rw[bR] at b
  rw[show k+1+a=k+(1+a) by exact cB (J [_,_] 0x5088040142220000 L) (J [_,_] 0x5088800142201000 L)] at b
  unfold oV
  simp only[jH,e8,el,pZ,oQ,List.map_nil,cu.v] at b⊢
  exact b
end
end
section
section
variable{f:Bool}
theorem z8{cc:Type}(a b:List cc)(x H:cc):(a++x::b).set a.length H=a++H::b:=by
 induction a with
 |nil=>rfl
 |cons D a c=>exact bB _ c
structure oN(aI e:U)(mk cQ:Nat)(B:List E)(k y:Nat)(l:List E):Prop where
 m:eK aI e mk cQ B k
 g:e.get y=some (.list l)
 lt:y<e.next
 cC:y≠mk
 di:y≠cQ
 lo:aI.next<=y
theorem oN.step{aI e M:U}{mk cQ k b y:Nat}{B c2 l:List E}(h:oN aI e mk cQ B k y l)(a:eK e M mk cQ c2 b):oN aI M mk cQ c2 b y l:=
 ⟨h.m.hR a,a.fr.get h.g h.lt λ D=>D.elim h.cC h.di,d7 h.lt a.fr.next,h.cC,h.di,h.lo⟩
theorem oN.ls{aI e:U}{mk cQ k y:Nat}{B l:List E}(h:oN aI e mk cQ B k y l):dw e (.ref y) l:=⟨by rw[iW,h.g];rfl,λ i d=>by(injection d with a3;subst a3);exact h.lt⟩
theorem oN.put{aI e:U}{mk cQ k y:Nat}{B l:List E}(h:oN aI e mk cQ B k y l)(dV:List E):oN aI (e.upd y (.list dV)) mk cQ B k y dV:=
 ⟨⟨(ef h.cC.symm).trans h.m.nd,(ef h.di.symm).trans h.m.ps,h.m.ne,h.m.C,h.m.I,h.m.fr.j3 h.lo⟩,dH ..,h.lt,h.cC,h.di,h.lo⟩
theorem Tp{N:Nat}{dc dY:E}{fC jj:Nat->Nat->List cu}{cC di j l:Nat}(u:∀s k,(fC s k).length<=j)(w:∀s k,(jj s k).length<=l)(C:gY f (N+2) dc fC cC j)(I:gY f (N+2) dY jj di l):
  gY f (N+4) (.tup [.str [97,108,116],.lst [dc,dY]]) (λ s k=>.split (s+1) (s+2+(fC (s+1) k).length)::(fC (s+1) k++.jump (s+2+(fC (s+1) k).length+(jj (s+2+(fC (s+1) k).length) (k+cC)).length)::jj (s+2+(fC (s+1) k).length) (k+cC))) (cC+di) (j+l+5):=by
 intro n aI e mk cQ k B A Y h d q
 obtain⟨n,rfl⟩:=fu (k:=4) (J [_,_] 0xa4100a411001 L Y)
 refine aH (qX ..) (bz rfl (cb (ae rfl) rfl (bj (r:=false) rfl (bt (bj (r:=false) rfl (bt (bj (r:=true) rfl (cE (bz rfl (aH (aeH ..) (e2 (ae rfl) ?_)))))))))))
 have a:oN _ _ mk cQ B k _ []:=⟨h.ext (.alloc _ _ _),fR ..,eo _,hV h.C,hV h.I,h.fr.next⟩
 generalize e.next=y at a⊢
 have fP:=u (B.length+1) k
 refine dw.len .lst (show 2<=8000000 by decide) (dg rfl (dw.slice .lst (show 2<=8000000 by decide) rfl (eM (n:=1) (ae rfl)) ⟨trivial,aH (Xd ..) (aH (Us ..) (a.m.ja (cb (cn (n:=3) (by decide)) rfl (a.m.re.add (J [_,_,_] 0x7a120106406ddd01065118a001001 L d) λ T x=>?_))))⟩))
 have a:=a.step x
 generalize o:(fC _ k).map (cu.v f)=aA
 have c:aA.length=(fC (B.length+1) k).length:=by rw[<-o,cM]
 refine C _ _ _ mk cQ _ _ _ (J [_,_] 0x4228042200041140411001 L Y) a.m.re (by rw[bR];exact J [_,_,_] 0xdbba020ca11100006ddd01065118a001001 L d) λ U F=>?_
 have a:=a.step F
 rw[bR,show B.length+[E.tup _].length=B.length+1 from rfl,o] at a
 refine qz a.g (a.m.ja (cb (cn (n:=2) (by decide)) rfl (a.m.re.add (by simp only[bR,fW,iQ];exact J [_,_,_,_,_] 0x1e848041a0220080400007404a70eddd01065118a001001 L d fP (aL c)) λ V G=>?_)))
 have a:=a.step G
 refine p4 a.g (df _) ?_
 have a:=a.put ([]++[.int (B++[E.tup [E.str rS,.int 0,.int 0]]++aA).length])
 refine dg (v:=.int (B.length+1:Nat)) rfl (a.m.rows (a.m.ls.len (by simp only[bR,fW,iQ];exact ah (show _<=1000000 by exact J [_,_,_,_,_] 0x7a120106110040404401008000007404a70eddd01065118a001001 L d fP (aL c)) (by decide)) (cb (cn (n:=3) (by decide)) rfl (a.m.rows (a.m.re.set (by simp only[bR,fW,iQ];exact J [_,_] 0x880201422008040000111000 L) (by simp only[bR,fW,iQ];exact J [_,_,_,_,_] 0x7a120106110040404401008000007404a70eddd01065118a001001 L d fP (aL c)) λ W H=>⟨trivial,f3 (aH (Ut ..) ?_)⟩)))))
 have a:=a.step H
 have K:(B++[E.tup [E.str rS,.int 0,.int 0]]++aA++[E.tup [.str ve,.int 0]]).length=B.length+2+(fC (B.length+1) k).length:=by
  simp only[bR,fW,iQ];exact cB (J [_,_,_] 0x5108c00044010081100403000001481 L (aL c)) (J [_,_,_] 0x11004028440100c0000821180001481 L (aL c.symm))
 have O:(B++[E.tup [E.str rS,.int 0,.int 0]]++aA).length=B.length+1+(fC (B.length+1) k).length:=by
  simp only[bR,fW,iQ];exact cB (J [_,_,_] 0x142230004088020180001481 L (aL c)) (J [_,_,_] 0x142200806000811180001481 L (aL c.symm))
 rw[K,O] at a
 rw[show(B++[E.tup _]++aA++[E.tup _]).set _ _=B++((cu.split _ _).v f::aA++[E.tup _]) by
  rewrite[el,el,List.singleton_append,z8];rfl] at a
 have J:(B++((cu.split (B.length+1) (B.length+2+(fC (B.length+1) k).length)).v f::aA++[E.tup [.str ve,.int 0]])).length=B.length+2+(fC (B.length+1) k).length:=by
  simp only[bR,fW,iQ];exact cB (J [_,_,_] 0xa2118000880200444000c001481 L (aL c)) (J [_,_,_] 0x220080111400300821180001481 L (aL c.symm))
 have gs:=w (B.length+2+(fC (B.length+1) k).length) (k+cC)
 refine I _ _ _ mk cQ _ _ _ (by lia) a.m.re (by rw[J];lia) λ X P=>?_
 have a:=a.step P
 rw[J] at a
 generalize t:(jj _ _).map _=dB at a
 have Z:dB.length=(jj (B.length+2+(fC (B.length+1) k).length) (k+cC)).length:=by rw[<-t,cM]
 refine k_ a.ls.items (λ i ak M=>(∃p,ak=lG _ _ _ _ _ p)/\∃bT,oN _ M mk cQ (B++((cu.split _ _).v f::aA++[bT])++dB) _ y _/\
  (i=1->bT=(cu.jump (B.length+2+(fC (B.length+1) k).length+dB.length)).v f)) ⟨⟨none,rfl⟩,_,a,λ D=>absurd D (by decide)⟩ (λ i ak M D=>ba D.2 λ z h z=>h.ls.hQ) (λ i v ak M d3 Q b R z z=>?_) λ ak M b=>?_
 ·obtain⟨⟨p,rfl⟩,bT,b,_⟩:=b
  obtain⟨rfl,rfl⟩:i=0/\v=.int (B.length+1+(fC (B.length+1) k).length:Nat):=zq Q
  have lt:(B++((cu.split (B.length+1) (B.length+2+(fC (B.length+1) k).length)).v f::aA++[bT])++dB).length=B.length+2+(fC (B.length+1) k).length+dB.length:=by
   simp only[bR,fW,iQ];lia
  refine aH (Xe ..) (aH (Uu ..) (b.m.rows (b.m.ls.len (by rw[lt];exact ah (show _<=1000000 by lia) (by decide)) (cb (cn (n:=2) (by decide)) rfl (b.m.rows (b.m.re.set (by rw[lt];lia) (by rw[lt];lia) λ Fd S=>(R _ _ ⟨⟨_,rfl⟩,_,?_,λ z=>rfl⟩).1))))))
  have:=b.step S
  rw[lt,show B.length+1+(fC _ k).length=(B++(cu.split _ _).v f::aA).length by simp only[bR,fW];lia,
   show B++((cu.split _ _).v f::aA++[bT])++dB=B++(cu.split (B.length+1) (B.length+2+(fC (B.length+1) k).length)).v f::aA++bT::dB by simp only[el,pZ,oQ],z8] at this
  rw[show B.length+1+(fC _ k).length=(B++(cu.split _ _).v f::aA).length by simp only[bR,fW];lia]
  simp only[el,pZ,oQ] at this⊢
  exact this
 ·obtain⟨⟨p,rfl⟩,bT,b,dE⟩:=b
  have dE:=dE rfl
  subst dE
  refine f3 (aH (Uv ..) (rA (q _ ?_)))
  have:=b.m
  rw[<-o,<-t,cM] at this
  rw[<-ez]
  simp only[jH,e8,el,pZ,oQ] at this⊢
  exact this
end
end
section
section
variable{f:Bool}
theorem Tt{N:Nat}{v:E}{ay:Nat->Nat->List cu}{i j:Nat}(y:∀s k,(ay s k).length<=j)(D:gY f (N+2) v ay i j)(c:Nat)(lazy:Bool)(n:Nat)(aI e:U)(mk cQ k:Nat)(B:List E)(A:bo)(Y:N+3<=n)(h:eK aI e mk cQ B k)(d:B.length+(j+8)<=900000)
  (q:∀M,eK aI M mk cQ (B++(m9 ay (dh c) (dW c) lazy B.length k).map (cu.v f)) (k+(2+i))->A .none M):call n 55 [.ref mk,v,.int (dh c),.int (dW c),.bool lazy] A e:=by
 refine a7 (fu (k:=3) (J [_,_] 0xa3100a311001 L Y)) λ n F=>?_;subst F
 have fP:=y (B.length+3) (k+1+1)
 refine aH (aeJ ..) (h.va (h.fresh λ H C=>C.va (C.fresh λ K I=>I.ja (cb (cn (n:=3) (ae rfl)) rfl (I.add (J [_,_] 0x1e848041901b774041a04501001 L d) λ O af=>af.ja (cb (cn (ae rfl)) rfl (af.add (by rw[bR];exact J [_,_] 0xf424020c222001b774041a04501001 L d) λ P x=>x.ja ?_)))))))
 have p:∀a,(B++[a]).length=B.length+1:=λ a=>bR
 have u:∀a b,(B++[a]++[b]).length=B.length+2:=λ a b=>by rw[bR,p];rfl
 have r:∀a b c,(B++[a]++[b]++[c]).length=B.length+3:=λ a b c=>by rw[bR,u];rfl
 rw[p]
 refine dg (v:=.int (B.length+3:Nat)) rfl (cb (cn (n:=4) (ae rfl)) rfl (x.add (by rw[u];exact J [_,_] 0xf424020c422001b774041a04501001 L d) λ Q G=>?_))
 rw[u]
 refine D _ _ _ mk cQ _ _ _ (J [_,_] 0x4228042200031140311001 L Y) G (by rw[r];exact J [_,_] 0x36ee808328c440001b774041a04501001 L d) λ R w=>?_
 rw[r] at w
 refine w.ja (cb (cn (n:=2) (ae rfl)) rfl (w.add (by rw[bR,r,cM];exact J [_,_,_] 0x1e8480419862200002983b774041a04501001 L d fP) λ S t=>?_))
 have lt:∀a b c o,(B++[a]++[b]++[c]++(ay (B.length+3) (k+2)).map (cu.v f)++[o]).length=B.length+4+(ay _ _).length:=λ a b c o=>by
  rw[bR,bR,r,cM];exact cB (J [_,_] 0x290440002228c4400000 L) (J [_,_] 0x88a3110000148220000 L)
 refine t.rows (t.ls.len ((λ l h=>ah h (ae rfl):∀l:List E,l.length<=1000000->l.length<=c7) _ (by rw[lt];exact J [_,_,_] 0x1e8480419882200002983b774041a04501001 L d fP)) (cb (cn (n:=8) (ae rfl)) rfl (t.rows (t.set (by rw[lt];exact J [_,_] 0xa4110000882220000 L) (by rw[lt];exact J [_,_,_] 0x1e8480419882200002983b774041a04501001 L d fP) λ T g=>q _ ?_))))
 rw[lt] at g
 rw[show k+1+1+i=k+(2+i) by exact cB (J [_,_] 0x28840200a11044400000 L) (J [_,_] 0x28441110000144201000 L)] at g
 rw[show∀a b c,∀l,B++[a]++[b]++[c]++l=B++[a]++b::c::l from λ a b c l=>by simp,show∀a b c,∀l m,B++[a]++b::c::l++m=B++[a]++b::(c::l++m) from λ a b c l m=>by simp] at g
 rw[<-p _,z8] at g
 unfold m9
 rw[p] at g
 simp only[jH,e8,el,pZ,oQ,List.map_nil,cu.v] at g⊢
 exact g
theorem aaN(i:Nat):∃t l,gX f i=.tup (.str t::l)/\(∀e,lO e .In (.str t) yF=some true):=by
 refine nc ?_ ?_ ?_ ?_ ?_ (λ z=>?_) i<;>exact cv _ _ ⟨rfl,λ e=>by kernel_rfl⟩
theorem AZ{N c:Nat}{x:br}{lazy:Bool}{v:E}{cP:List Nat}(m:gY f (N+2) v (code x) (d1 x) (cR x))(C:∀i,x=.one i->v=gX f i)(I:m8 x=false->∃t l,v=.tup (.str t::l)/\∀e,lO e .In (.str t) yF=some false)(p:(cP==[111,119,110])=false)(o:(cP==[108,97,122,121])=lazy):
  gY f (N+6) (.tup [.str qC,v,.int (dh c),.int (dW c),.str cP]) (l5 x (code x) c lazy) (if m8 x then 0 else 2+d1 x) (cR x+10):=by
 intro n aI e mk cQ k B A Y h b q
 refine a7 (fu (k:=6) (J [_,_] 0xa6100a611001 L Y)) λ n s=>?_;subst s
 refine aH (qX ..) (bz rfl (cb (ae rfl) rfl (bj (r:=false) rfl (bt (bj rfl (bt (bj rfl (bt (bj rfl (bt (bj rfl (cE (aH (Lj ..) (aH (Hy ..) (aH (Gd ..) (hv ?_))))))))))))))))
 rw[p]
 refine bt ?_
 by_cases a:m8 x=true
 ·refine a7 (by rcases x with _|_<;>first|exact⟨_,rfl⟩|exact cq a:∃i,x=.one i) λ i u=>?_;subst u
  obtain rfl:=C i rfl
  refine fA (aaN i) λ t l g j=>bz (by rw[g];rfl) (bj (j e) (cE (h.ja (hv ?_))))
  rw[o]
  refine cb (cn (n:=5) (ae rfl)) (by show(true&&fM _&&(true&&true&&(true&&true)))=true;rw[zN];rfl) (h.add (J [_,_] 0x1e848041901b774041a84501001 L b) λ w C=>rA (q _ C))
 ·have a:m8 x=false:=by rcases d:m8 x with _|_;rfl;exact(a d).elim
  refine fA (I a) λ t l g j=>bz (by rw[g];rfl) (bj (j e) (bt (hv ?_)))
  rw[o]
  refine Tt (jq x) m c _ _ _ e mk cQ k B _ (J [_,_] 0x8228062200061140611001 L Y) h (J [_,_] 0x36ee8083408a02001b774041a84501001 L b) λ w C=>rA (q _ ?_)
  clear m I b q;rcases x with _|_
  case one i=>exact Bool.noConfusion a
  all_goals exact C
theorem Tv{N c:Nat}{v:E}{ay:Nat->Nat->List cu}{a j:Nat}(b:∀s k,(ay s k).length<=j)(d:gY f (N+2) (.tup [.str qC,v,.int (dh c),.int (dW c),.str DO]) ay a j)(g:fM v=true){cP:List Nat}(i:(cP==[111,119,110])=true):
  gY f (N+6) (.tup [.str qC,v,.int (dh c),.int (dW c),.str cP]) (oV ay) (1+a) (j+5):=by
 intro n aI e mk cQ k B A Y h l q
 refine a7 (fu (k:=6) (J [_,_] 0xa6100a611001 L Y)) λ n m=>?_;subst m
 refine aH (qX ..) (bz rfl (cb (ae rfl) rfl (bj (r:=false) rfl (bt (bj rfl (bt (bj rfl (bt (bj rfl (bt (bj rfl (cE (aH (Lj ..) (aH (Hy ..) (aH (Gd ..) (hv ?_))))))))))))))))
 rw[i]
 exact cb (cn (n:=5) (ae rfl)) (by show(true&&fM v&&(true&&true&&(true&&true)))=true;rw[g];rfl) (FQ b d _ _ e mk cQ k B _ (J [_,_] 0x8228062200061140611001 L Y) h l λ o C=>rA (q _ C))
theorem Ts{N:Nat}{v:E}{ay:Nat->Nat->List cu}{D j:Nat}(P:∀s k,(ay s k).length<=j)(Q:gY f (N+2) v ay D j)(p:Option Nat)(cW:Bool):
  gY f (N+5) (.tup [.str qE,v,.bool p.isSome,.bool cW,.int (p.getD 0:Nat)]) (λ s k=>if cW then
   .place k::.mark (k+1)::.split (s+3) (s+4+(eD p).length+(ay (s+3+(eD p).length) (k+2)).length)::(eD p++(ay (s+3+(eD p).length) (k+2)++[.refuse (k+1)]))
  else .place k::.mark (k+1)::(eD p++(ay (s+2+(eD p).length) (k+2)++[.cut (k+1),.ret k]))) (2+D) (j+10):=by
 intro n aI e mk cQ k B A Y h d q
 refine a7 (fu (k:=5) (J [_,_] 0xa5100a511001 L Y)) λ n T=>?_;subst T
 refine aH (qX ..) (bz rfl (cb (ae rfl) rfl (bj (r:=false) rfl (bt (bj rfl (bt (bj rfl (bt (bj rfl (bt (bj rfl (bt (bj rfl (bt (aH (aeK ..) (aH (Xf ..) (aH (Uw ..) ?_)))))))))))))))))
 have t:(eD p).length<=1:=by rcases p with _|_;exact df 1;exact bx 1
 have R:∀a,(B++[a]).length=B.length+1:=λ a=>bR
 have i:∀a b,(B++[a]++[b]).length=B.length+2:=λ a b=>by rw[bR,R];rfl
 refine h.va (h.fresh λ aw C=>C.va (C.fresh λ aS I=>I.ja (cb (cn (n:=2) (ae rfl)) rfl (I.add (J [_,_] 0x1e848041901b774041a84501001 L d) λ c9 af=>af.ja (cb (cn (n:=2) (ae rfl)) rfl (af.add (by rw[R];exact J [_,_] 0xf424020c222001b774041a84501001 L d) λ f6 G=>dk ?_))))))
 have S:∀{e:U}{aV:List E}{H:Nat}(y:U->Prop),eK aI e mk cQ aV H->aV.length<=900010->(∀M,eK _ M mk cQ (aV++(eD p).map _) H->y M)->(ek (.bool p.isSome) λ V=>aW V (b0 _ _ λ W=>b9 [.str _,.int (p.getD 0)] λ X=>bY (call (n+2+1)) W _ [X] λ FO=>y) y) e:=λ{e aV H} y K d dE=>by
  rcases p with _|_
  case none=>exact dk (bt (dE _ (by rw[show(eD _).map (cu.v f)=[] from rfl,gT];exact K)))
  case some w=>exact dk (cE (K.ja (cb (cn (n:=2) (ae rfl)) rfl (K.add (J [_] 0xf424020c80dbbaa20c81 L d) λ M Z=>dE _ Z))))
 rcases cW with _|_
 case false=>
  refine bt (S _ G (by rw[i];exact J [_,_] 0xdbbaa20c422001b774041a84501001 L d) λ lD O=>?_)
  have ae:=P (B.length+2+(eD p).length) (k+2)
  refine Q _ _ _ mk cQ _ _ _ (J [_,_] 0x6228042200051140511001 L Y) O (by rw[bR,i,cM];exact J [_,_,_] 0xdbba020ca610880000011183b774041a84501001 L d t) λ vI u=>dk (bt ?_)
  rw[bR,i,cM] at u
  refine u.ja (cb (cn (n:=2) (by decide)) rfl (u.add (by rw[bR,bR,i,cM,cM];exact J [_,_,_,_] 0x7a1201067308440000029c211183b774041a84501001 L d t ae) λ Fd x=>x.ja (cb (cn (n:=2) (by decide)) rfl (x.add (by rw[bR,bR,bR,i,cM,cM];exact J [_,_,_,_] 0x3d090083088e6108800000029c211183b774041a84501001 L d t ae) λ L6 g=>rA (q _ ?_)))))
  rw[show k+1+1+D=k+(2+D) by exact cB (J [_,_] 0x28840200a11044400000 L) (J [_,_] 0x28441110000144201000 L)] at g
  dsimp only
  rw[a9 (by decide)]
  simp only[jH,e8,el,pZ,oQ,List.map_nil,cu.v] at g⊢
  exact g
 case true=>
  have F:∀a b c,(B++[a]++[b]++[c]).length=B.length+3:=λ a b c=>by rw[bR,i];rfl
  refine cE (G.ja (cb (cn (n:=3) (ae rfl)) rfl (G.add (by rw[i];exact J [_,_] 0xf424020c422001b774041a84501001 L d) λ ag8 XC=>?_)))
  rw[i]
  refine S _ XC (by rw[F];exact J [_,_] 0xdbbaa20c622001b774041a84501001 L d) λ lD O=>?_
  have ae:=P (B.length+3+(eD p).length) (k+2)
  refine Q _ _ _ mk cQ _ _ _ (J [_,_] 0x6228042200051140511001 L Y) O (by rw[bR,F,cM];exact J [_,_,_] 0xdbba020ca618880000011183b774041a84501001 L d t) λ vI u=>dk (cE ?_)
  rw[bR,F,cM] at u
  refine u.ja (cb (cn (n:=2) (by decide)) rfl (u.add (by rw[bR,bR,F,cM,cM];exact J [_,_,_,_] 0x7a120106730c440000029c211183b774041a84501001 L d t ae) λ Fd x=>dg (v:=.int ((B.length+3:Nat):Int)) rfl ?_))
  have lt:∀a b c o:E,(B++[a]++[b]++[c]++(eD p).map (cu.v f)++(ay (B.length+3+(eD p).length) (k+2)).map (cu.v f)++[o]).length=B.length+4+(eD p).length+(ay (B.length+3+(eD p).length) (k+2)).length:=λ a b c o=>by
   rw[bR,bR,bR,F,cM,cM];show B.length+3+_+_+1=_;exact cB (J [_,_,_] 0x3148220000088c51888000000 L) (J [_,_,_] 0x88c518880000062904400000 L)
  refine x.rows (x.ls.len (ah (show _<=1000000 by rw[lt];exact J [_,_,_,_] 0x7a1201067310440000029c211183b774041a84501001 L d t ae) (by decide)) (cb (cn (n:=3) (by decide)) rfl (x.rows (x.set (by rw[lt];exact J [_,_,_] 0x31482200000884220000 L) (by rw[lt];exact J [_,_,_,_] 0x7a1201067310440000029c211183b774041a84501001 L d t ae) λ L6 g=>rA (q _ ?_)))))
  rw[lt] at g
  rw[show k+1+1+D=k+(2+D) by exact cB (J [_,_] 0x28840200a11044400000 L) (J [_,_] 0x28441110000144201000 L)] at g
  rw[show∀a b c:E,∀l m r,(B++[a]++[b]++[c]++l++m++r)=(B++[a]++[b])++c::(l++(m++r)) from λ a b c l m r=>by simp] at g
  rw[<-i (E.tup [.str rT,.int k]) (E.tup [.str xc,.int ((k+1:Nat):Int)]),z8] at g
  dsimp only
  rw[aT rfl]
  simp only[jH,e8,el,pZ,oQ,List.map_nil,cu.v] at g⊢
  exact g
end
end
section
theorem gB.afi{x:br}:∀{g G:Nat},gB x g->g+dX x<=G->nF x G:=by
 induction x with
 |rounds _ _ _ b=>exact λ h=>b h.2.2.2
 |group n r _ b=>
  intro g G h a
  refine e_ h λ e z I=>?_;clear h;subst e
  have a:=u5 a
  exact⟨jI g,ah (dD ..) a,b I a⟩
 |again n _=>exact λ h a=>⟨h.1,ah h.2.1 a⟩
 |d4 ab aU c d=>
  intro g G h a
  have a:=u5 a
  exact⟨c h.2.1 (ah (dD ..) a),d h.2.2 a⟩
 |atomic _ b=>exact λ h=>b h.2
 |look _ p _ b=>rcases p with _|_<;>exact λ h=>b h.2
 |cons x r c d=>
  intro g G h a
  have a:=u5 a
  exact⟨c h.2.1 (ah (dD ..) a),d h.2.2 a⟩
 |_=>exact λ z z=>trivial
section
variable{f:Bool}
set_option tactic.hygienic true
theorem ti(x:br):fM (e1 f x)=true:=by
 rcases x with _|_
 case one k=>exact zN f k
 case again n a=>rw[AU];split<;>rfl
 all_goals rfl
theorem abF{x:br}(a:∀s k,(code x s k).length<=cR x)(c:Nat)(lazy:Bool)(s k:Nat):(l5 x (code x) c lazy s k).length<=cR x+10:=by
 have:(m9 (code x) (dh c) (dW c) lazy s k).length<=cR x+10:=by
  have:=a (s+3) (k+2)
  unfold m9
  simp only[fW,bR,iQ]
  exact J [_,_] 0x508a00882208822008040000001481 L this
 clear a;rcases x with _|_
 case one i=>exact gC 1 _
 all_goals exact this
set_option tactic.hygienic false
theorem Tq{N:Nat}{v:E}{ay:Nat->Nat->List cu}{a j:Nat}(b:∀s k,(ay s k).length<=j)(c:gY f (N+2) v ay a j):gY f (N+4) (.tup [.str pj,v]) (oV ay) (1+a) (j+5):=by
 intro n aI e mk cQ k B A Y h d q
 refine a7 (fu (k:=4) (J [_,_] 0xa4100a411001 L Y)) λ n g=>?_;subst g
 exact aH (qX ..) (bz rfl (cb (ae rfl) rfl (bj (r:=false) rfl (bt (bj (r:=false) rfl (bt (bj (r:=false) rfl (bt (bj (r:=false) rfl (bt (bj (r:=false) rfl (bt (bj (r:=true) rfl (cE (bz rfl (FQ b c _ _ e mk cQ k B _ (J [_,_] 0x6228062200041140411001 L Y) h d q))))))))))))))))
set_option tactic.hygienic true in
theorem p_:∀(x:br)(g:Nat),gB x g->gY f (cZ x+1) (e1 f x) (code x) (d1 x) (cR x)/\(d5 x=true->oE f (cZ x) x)
 |.one i,g,_=>⟨(Tu i).mono (by decide:2<=6) (bx _),cq⟩
 |.place w,g,_=>⟨(rj rfl _ λ z z=>rfl).mono (by decide:2<=6) (bx _),cq⟩
 |.again n a,g,_=>⟨by
   have h:gY f 2 (sF f n) _ 0 20:=rj rfl (λ z z=>.back n) λ z z=>rfl
   rw[AU]
   split
   ·exact(A0 h).mono (ae rfl:3<=6) (bx _)
   ·exact h.mono (by decide:2<=6) (bx _),cq⟩
 |.nil,g,_=>⟨FR .nil,λ z=>.nil⟩
 |.cons x r,g,h=>by
  have b:=p_ x g h.2.1
  have k:oE f _ _:=.cons (b.1.mono (ri ..) (bx _)) (((p_ r _ h.2.2).2 h.1.2).mono (rd ..))
  exact⟨FR k,λ z=>k⟩
 |.group n r nm,g,h=>⟨(Tr (jq r) ((p_ r _ h.2.2).1.mono (e7 (by decide) _) (bx _))).mono (e7 (ae rfl:3<=5) _) (J [_] 5430991458304 L),cq⟩
 |.atomic r,g,h=>⟨(Tq (jq r) ((p_ r g h.2).1.mono (e7 (by decide) _) (bx _))).mono (e7 (ae rfl:4<=5) _) (J [_] 5430991458304 L),cq⟩
 |.d4 ab aU,g,h=>⟨(Tp (jq ab) (jq aU) ((p_ ab g h.2.1).1.mono (fV (ri ..) (by decide)) (bx _)) ((p_ aU _ h.2.2).1.mono (fV (rd ..) (by decide)) (bx _))).mono (hq _) (J [_,_] 0x5278400144520000 L),cq⟩
 |.look x p cW,g,h=>by
  have b:=(p_ x g (by rcases p with _|_<;>exact h.2)).1
  have j:gY f (cZ x+2) (if d5 x then e1 f x else gy [e1 f x]) (code x) (d1 x) (cR x):=by
   split
   ·exact b.mono (e7 (by decide) _) (bx _)
   ·exact A0 b
  exact⟨(Ts (jq x) j p _).mono (e7 (ae rfl:5<=7) _) (J [_] 5430996701184 L),cq⟩
 |.rounds x c m,g,h=>by
  have b:=(p_ x g h.2.2.2).1
  have j:gY f (cZ x+2) (if kL x then e1 f x else gy [e1 f x]) (code x) (d1 x) (cR x):=by
   split
   ·exact b.mono (e7 (by decide) _) (bx _)
   ·exact A0 b
  have C:∀i,x=.one i->(if kL x then e1 f x else gy [e1 f x])=gX f i:=λ i d=>by clear b;subst d;rfl
  have I:m8 x=false->∃t l,(if kL x then e1 f x else gy [e1 f x])=.tup (.str t::l)/\∀e,lO e .In (.str t) yF=some false:=λ o=>by
   clear b;rcases x with _|_
   case one i=>exact Bool.noConfusion o
   case group n r nm=>exact cv _ _ ⟨rfl,λ e=>by kernel_rfl⟩
   all_goals exact cv ([115,101,113]) _ ⟨rfl,λ e=>by kernel_rfl⟩
  refine⟨?_,(cq)⟩
  match m,h.2.1 with
  |0,_=>
   rw[show d1 _=if m8 x then 0 else 2+d1 x from gr _]
   exact(AZ j C I rfl rfl).mono (e7 (by decide:6<=13) _) (J [_] 5430996701184 L)
  |1,_=>
   rw[show d1 _=if m8 x then 0 else 2+d1 x from gr _]
   exact(AZ j C I rfl rfl).mono (e7 (by decide:6<=13) _) (J [_] 5430996701184 L)
  |2,_=>exact(Tv (abF (jq x) c _) (AZ j C I rfl rfl) (by split;exact ti x;rfl) rfl).mono (e7 (ae rfl:10<=13) _) (J [_] 0x278402894220000 L)
theorem adE{e:U}{x:br}{G n:Nat}{names:E}{A:bo}(l:gB x 0)(Y:cZ x+3<=n)(p:cR x<=800000)(q:∀M bb bM,eh e M->e.next<=bb->bb<M.next->bM<M.next->M.get bb=some (.inst 49 vh [.ref bM,.int G,.int (d1 x),names])->M.get bM=some (.list ((code x 0 0++[cu.fin]).map (cu.v f)))->A (.ref bb) M):
  call n 57 [e1 f x,.int G,names] A e:=by
 refine a7 (fu (k:=3) (J [_,_] 0xa3100a311001 L Y)) λ n m=>?_;subst m
 have b:=jq x 0 0
 refine aH (aeL ..) (v' 50 (by kernel_rfl) (aH (ad' ..) (e2 (ae rfl) (e9 ((iB (e' (eo _))).trans (fR ..)) (eG:=zG.take 1) (c2:=[.ref (e.next+1)]) (by kernel_rfl) (by decide) (by kernel_rfl) (e9 (dH ..) (eG:=zG) (c2:=[.ref (e.next+1),.int 0]) (by kernel_rfl) (ae rfl) (by kernel_rfl) ?_)))))
 generalize h:U.upd _ _ _=c
 have g:eh e c:=by
  rw[<-h]
  exact(((Fr.alloc _ e _).trans (.alloc _ _ _)).j3 (bx _)).j3 (bx _)
 have o:eK c c e.next (e.next+1) [] 0:=by
  rw[<-h]
  exact⟨dH ..,(ef (Nat.succ_ne_self _)).trans ((ef (Nat.succ_ne_self _)).trans (fR _ _)),(Nat.succ_ne_self _).symm,j' (eo _),eo _,.refl _ _⟩
 refine(p_ x 0 l).1 _ c c _ _ _ _ _ (J [_,_] 0x4228022200031140311001 L Y) o (by show 0+cR x<=_;lia) λ r C=>?_
 rw[oQ,gr] at C
 refine C.ja (cb (cn (ae rfl)) rfl (C.add (by rw[cM];show(code x 0 0).length<=_;lia) λ s I=>I.rows (gV I.nd (v:=.int (d1 x)) (by kernel_rfl) (v' 49 (by kernel_rfl) (aH (ad_ ..) ?_)))))
 have j:eh e _:=⟨ah g.next I.fr.next,λ i a b=>(I.fr.same i (d7 a g.next) (by rintro(D|D)<;>lia)).trans (g.same i a b)⟩
 refine e9 (fR ..) (eG:=vh.take 1) (c2:=[.ref (e.next+1)]) (by kernel_rfl) (by decide) (by kernel_rfl) (e9 (dH ..) (eG:=vh.take 2) (c2:=[.ref (e.next+1),.int G]) (by kernel_rfl) (ae rfl) (by kernel_rfl) (e9 (dH ..) (eG:=vh.take 3) (c2:=[.ref (e.next+1),.int G,.int (d1 x)]) (by kernel_rfl) (ae rfl) (by kernel_rfl) (e9 (dH ..) (by kernel_rfl) (ae rfl) (by kernel_rfl) (q _ _ _ ?_ j.next (eo _) (j' I.I) (dH ..) ?_))))
 ·exact j.trans (((((Fr.alloc _ _ _).j3 (bx _)).j3 (bx _)).j3 (bx _)).j3 (bx _))
 ·have d:=e' I.I
  refine(ef d).trans ((ef d).trans ((ef d).trans ((ef d).trans ((iB d).trans ?_))))
  rw[I.ps,e8]
  rfl
theorem px:∀(x:br)(g G s k:Nat),gB x g->g+dX x<=G->∀r∈code x s k,mQ G r
 |.one i,g,G,s,k,h,b,r,V=>by obtain rfl:=fG.mp V;exact h
 |.place i,g,G,s,k,h,b,r,V=>by obtain rfl:=fG.mp V;exact h
 |.again i a,g,G,s,k,h,b,r,V=>by obtain rfl:=fG.mp V;exact⟨h.1,ah h.2.1 b⟩
 |.nil,g,G,s,k,h,b,r,V=>(gh V).elim
 |.cons x H,g,G,s,k,h,b,r,V=>by
  rcases fH.mp V with V|V
  ·exact px x g G _ _ h.2.1 (J [_,_,_,_] 0x3948001cc501001 L b) r V
  ·exact px H _ G _ _ h.2.2 (J [_,_,_,_] 0xe62900001cc501001 L b) r V
 |.group i H nm,g,G,s,k,⟨C,_,I⟩,b,r,V=>by
  rcases ew.mp V with rfl|V
  ·trivial
  ·rcases fH.mp V with V|V
   ·exact px H _ G _ _ I (J [_,_,_] 0x31422200003142201001 L b) r V
   ·obtain rfl:=fG.mp V;exact⟨J [_,_] 0x508802000a111001 L (aL C.symm),J [_,_,_,_] 0x7200e6088050042228081 L (aL C) b⟩
 |.atomic H,g,G,s,k,h,b,r,V=>by
  rcases ew.mp V with rfl|V
  ·trivial
  ·rcases fH.mp V with V|V
   ·exact px H _ G _ _ h.2 b r V
   ·obtain rfl:=fG.mp V;trivial
 |.d4 H D,g,G,s,k,h,b,r,V=>by
  rcases ew.mp V with rfl|V
  ·trivial
  ·rcases fH.mp V with V|V
   ·exact px H _ G _ _ h.2.1 (J [_,_,_,_] 0x3948001cc501001 L b) r V
   ·rcases ew.mp V with rfl|V
    ·trivial
    ·exact px D _ G _ _ h.2.2 (J [_,_,_,_] 0xe62900001cc501001 L b) r V
 |.look H p cW,g,G,s,k,h,b,r,V=>by
  have d:=by rcases p with _|_<;>exact h.2
  have e:∀r∈eD p,mQ G r:=λ r V=>by
   rcases p with _|_
   case none=>cases V
   case some w=>obtain rfl:=fG.mp V;trivial
  rw[I9] at V
  rcases cW with _|_
  case true=>
   rcases ew.mp V with rfl|V
   ·trivial
   rcases ew.mp V with rfl|V
   ·trivial
   rcases ew.mp V with rfl|V
   ·trivial
   rcases fH.mp V with V|V
   ·exact e r V
   rcases fH.mp V with V|V
   ·exact px H _ G _ _ d b r V
   ·obtain rfl:=fG.mp V;trivial
  case false=>
   rcases ew.mp V with rfl|V
   ·trivial
   rcases ew.mp V with rfl|V
   ·trivial
   rcases fH.mp V with V|V
   ·exact e r V
   rcases fH.mp V with V|V
   ·exact px H _ G _ _ d b r V
   ·rcases ew.mp V with rfl|V
    ·trivial
    ·obtain rfl:=fG.mp V;trivial
 |.rounds H c m,g,G,s,k,h,b,r,V=>by
  have rep:∀lazy s k,∀r∈l5 H (code H) c lazy s k,mQ G r:=λ lazy s k r V=>by
   have loop:∀r∈m9 (code H) (dh c) (dW c) lazy s k,mQ G r:=λ r V=>by
    rcases ew.mp V with rfl|V
    ·trivial
    rcases ew.mp V with rfl|V
    ·trivial
    rcases ew.mp V with rfl|V
    ·trivial
    rcases fH.mp V with V|V
    ·exact px H _ G _ _ h.2.2.2 b r V
    ·obtain rfl:=fG.mp V;trivial
   clear b;rcases H with _|_
   case one i=>obtain rfl:=fG.mp V;exact⟨h.2.2.2,Bt c⟩
   all_goals exact loop r V
  rw[I_] at V
  split at V
  ·rcases ew.mp V with rfl|V
   ·trivial
   rcases fH.mp V with V|V
   ·exact rep _ _ _ r V
   ·obtain rfl:=fG.mp V;trivial
  ·exact rep _ _ _ r V
end
end
section
noncomputable def dQ(n:Nat):List Nat:=110::fj n
noncomputable def qK:List Str:=[e3,(Str.ofString "total"),b',g7,oq,oo,xH]
noncomputable def J8(t:List Nat)(cD:Int)(a g o aZ a_:Nat):dm:=.inst 64 qK [.str t,.int cD,.int a,.int g,.int o,.ref aZ,.ref a_]
noncomputable def hp(e:U)(lo st aZ a_:Nat):List Nat->List E->Prop
 |n::nm,v::B=>(∃r,v=.ref r/\(e.get r=some (.list [.int n])\/e.get r=some (.flist [.int n]))/\r<e.next/\lo<=r/\r≠st/\r≠aZ/\r≠a_)/\hp e lo st aZ a_ nm B
 |[],[]=>True
 |_,_=>False
def SO(g:Nat)(cF:List E):Prop:=∀v∈cF,∃(n:Nat)(b:Int),v=.tup [.lst [.int n],.int b]/\0<n/\n<=g
structure bP(aI e:U)(st aZ a_:Nat)(t:List Nat)(cD:Int)(pr:List (Nat×dm))(a g o:Nat)(nm:List Nat)(u:Nat):Prop where
 ex:∃B cF,e.get aZ=some (.dict (nm.map dQ) B)/\hp e aI.next st aZ a_ nm B/\e.get a_=some (.list cF)/\SO g cF/\cF.length<=u/\(∀s∈pr,E.ref s.1∉B)
 p:e.get st=some (J8 t cD a g o aZ a_)
 cC:st≠aZ
 di:st≠a_
 fL:aZ≠a_
 C:st<e.next
 I:aZ<e.next
 af:a_<e.next
 aX:aI.next<=st
 bS:aI.next<=aZ
 dv:aI.next<=a_
 iI:∀s∈pr,e.get s.1=some s.2/\s.1<e.next/\s.1≠st/\s.1≠aZ/\s.1≠a_
 fr:eh aI e
 iM:t.length<=500000
 al:a<=t.length
set_option tactic.hygienic true in
theorem hp.ind{e:U}{lo st aZ a_:Nat}{bh:List Nat->List E->Prop}(nil:bh [] [])(cons:∀(n:Nat)(nm:List Nat)(r:Nat)(B:List E),(e.get r=some (.list [.int n])\/e.get r=some (.flist [.int n]))->r<e.next->(lo<=r/\r≠st/\r≠aZ/\r≠a_)->hp e lo st aZ a_ nm B->bh nm B->bh (n::nm) (.ref r::B)){nm:List Nat}{B:List E}(h:hp e lo st aZ a_ nm B):bh nm B:=by
 induction nm generalizing B with
 |nil=>(rcases B with _|_;(case nil=>exact nil);(case cons _ _=>exact h.elim))
 |cons n nm a=>(rcases B with _|_;(case nil=>exact h.elim);(case cons x ai=>exact xT h.1 λ r d C I af=>rwl d (cons n nm r ai C I af h.2 (a h.2))))
theorem hp.ext{e M:U}{lo st aZ a_:Nat}(b:∀i,i<e.next->i≠st->i≠aZ->i≠a_->M.get i=e.get i)(Y:e.next<=M.next){nm:List Nat}{B:List E}(h:hp e lo st aZ a_ nm B):hp M lo st aZ a_ nm B:=
 h.ind trivial λ n nm r B I af a z c=>⟨⟨r,rfl,rwl ((b r af a.2.1 a.2.2.1 a.2.2.2)) I,d7 af Y,a⟩,c⟩
section
variable{aI e:U}{st aZ a_ a g o u:Nat}{t:List Nat}{cD:Int}{pr:List (Nat×dm)}{nm:List Nat}{k:bo}
theorem bP.at_(h:bP aI e st aZ a_ t cD pr a g o nm u)(q:k (.int a) e):a6 (.ref st) b' k e:=gV h.p (by kernel_rfl) q
theorem bP.h7(h:bP aI e st aZ a_ t cD pr a g o nm u)(q:k (.str t) e):a6 (.ref st) e3 k e:=gV h.p (by kernel_rfl) q
theorem bP.n0(h:bP aI e st aZ a_ t cD pr a g o nm u)(q:k (.int g) e):a6 (.ref st) g7 k e:=gV h.p (by kernel_rfl) q
theorem bP.BB(h:bP aI e st aZ a_ t cD pr a g o nm u)(q:k (.int o) e):a6 (.ref st) oq k e:=gV h.p (by kernel_rfl) q
theorem bP.DC(h:bP aI e st aZ a_ t cD pr a g o nm u)(q:k (.ref aZ) e):a6 (.ref st) oo k e:=gV h.p (by kernel_rfl) q
theorem bP.KD(h:bP aI e st aZ a_ t cD pr a g o nm u)(q:k (.ref a_) e):a6 (.ref st) xH k e:=gV h.p (by kernel_rfl) q
theorem bP.put(h:bP aI e st aZ a_ t cD pr a g o nm u){eL bN p':Nat}(c:eL<=t.length)(d:g<=bN):bP aI (e.upd st (J8 t cD eL bN p' aZ a_)) st aZ a_ t cD pr eL bN p' nm u where
 ex:=by
  refine ox h.ex λ B cF f j k l m q=>?_
  exact⟨B,cF,(ef h.cC.symm).trans f,j.ext (λ i z D z z=>ef D) (bx _),(ef h.di.symm).trans k,λ v r=>let⟨n,b,a3,bL,g9⟩:=l v r;⟨n,b,a3,bL,ah g9 d⟩,m,q⟩
 p:=dH ..
 cC:=h.cC
 di:=h.di
 fL:=h.fL
 C:=h.C
 I:=h.I
 af:=h.af
 aX:=h.aX
 bS:=h.bS
 dv:=h.dv
 iI:=λ s w=>let⟨a3,bL,g9,x⟩:=h.iI s w;⟨(ef g9).trans a3,bL,g9,x⟩
 fr:=h.fr.j3 h.aX
 iM:=h.iM
 al:=c
theorem bP.ext{M:U}(h:bP aI e st aZ a_ t cD pr a g o nm u)(d:eh e M):bP aI M st aZ a_ t cD pr a g o nm u where
 ex:=by
  refine ox h.ex λ B cF b c f j k l=>?_
  exact⟨B,cF,d.get b h.I id,c.ext (λ i D z z z=>d.same i D id) d.next,d.get f h.af id,j,k,l⟩
 p:=d.get h.p h.C id
 cC:=h.cC
 di:=h.di
 fL:=h.fL
 C:=d7 h.C d.next
 I:=d7 h.I d.next
 af:=d7 h.af d.next
 aX:=h.aX
 bS:=h.bS
 dv:=h.dv
 iI:=λ s m=>let⟨a3,bL,g9⟩:=h.iI s m;⟨d.get a3 bL id,d7 bL d.next,g9⟩
 fr:=h.fr.trans d
 iM:=h.iM
 al:=h.al
theorem bP.h5(h:bP aI e st aZ a_ t cD pr a g o nm u){x:Int}{eL:Nat}(b:x=eL)(c:eL<=t.length){A:U->Prop}(q:∀M,bP aI M st aZ a_ t cD pr eL g o nm u->A M):cL (.ref st) b' (.int x) A e:=by
 subst b
 exact e9 h.p (by kernel_rfl) (ae rfl) (by kernel_rfl) (q _ (h.put c (bx _)))
theorem bP.acb(h:bP aI e st aZ a_ t cD pr a g o nm u){x:Int}{bN:Nat}(b:x=bN)(c:g<=bN){A:U->Prop}(q:∀M,bP aI M st aZ a_ t cD pr a bN o nm u->A M):cL (.ref st) g7 (.int x) A e:=by
 subst b
 exact e9 h.p (by kernel_rfl) (ae rfl) (by kernel_rfl) (q _ (h.put h.al c))
theorem bP.Ku(h:bP aI e st aZ a_ t cD pr a g o nm u){x:Int}{p':Nat}(b:x=p'){A:U->Prop}(q:∀M,bP aI M st aZ a_ t cD pr a g p' nm u->A M):cL (.ref st) oq (.int x) A e:=by
 subst b
 exact e9 h.p (by kernel_rfl) (ae rfl) (by kernel_rfl) (q _ (h.put h.al (bx _)))
theorem bP.ZK(h:bP aI e st aZ a_ t cD pr a g o nm u){K:fp->U->Prop}(q:K (.fn 1641) e):b0 (.ref st) mF K e:=rN h.p (by kernel_rfl) q
theorem bP.ZL(h:bP aI e st aZ a_ t cD pr a g o nm u){K:fp->U->Prop}(q:K (.fn 1642) e):b0 (.ref st) hC K e:=rN h.p (by kernel_rfl) q
theorem bP.nH(h:bP aI e st aZ a_ t cD pr a g o nm u){y:Nat}(dE:y<=1000):a+y<=1000000000:=by
 have:=h.al
 have:=h.iM
 lia
theorem bP.hD(h:bP aI e st aZ a_ t cD pr a g o nm u):t.length<=c7:=ah h.iM (ae rfl)
theorem bP.nG(h:bP aI e st aZ a_ t cD pr a g o nm u):a<=1000000000:=h.nH (df _)
theorem bP.peek(h:bP aI e st aZ a_ t cD pr a g o nm u){n:Nat}(Y:1<=n){w:List Nat}(b:(t.drop a).take 1=w)(q:k (.str w) e):(b0 (.ref st) mF λ cP=>bY (call n) cP (.ref st) [] k) e:=by
 apply iH Y;intro n c
 refine h.ZK (zE (aH (aed ..) (h.h7 (h.at_ (h.at_ (dg rfl (kT h.hD (eM h.nG) (eM (h.nH (ae rfl))) ?_)))))))
 rw[show(some a).getD 0=a from rfl,o1,b]
 exact q
theorem bP.Ek(h:bP aI e st aZ a_ t cD pr a g o nm u){n:Nat}(Y:1<=n)(w:List Nat)(b:w.length<=10)(j:(t.drop a).take w.length=w->∀M,bP aI M st aZ a_ t cD pr (a+w.length) g o nm u->k (.bool true) M)(l:(t.drop a).take w.length≠w->k (.bool false) e):
  (b0 (.ref st) hC λ cP=>bY (call n) cP (.ref st) [.str w] k) e:=by
 apply iH Y;intro n q
 have c:w.length<=c7:=ah b (ae rfl)
 refine h.ZL (zE (aH (aee ..) (h.h7 (h.at_ (h.at_ (j2 c (dg rfl (kT h.hD (eM h.nG) (eM (h.nH (ah b (ae rfl)))) ?_))))))))
 rw[show(some a).getD 0=a from rfl,o1]
 refine bj (r:=!(t.drop a).take _==w) rfl (jM (λ d=>?_) λ d=>?_)
 ·exact l λ D=>by rw[D,eC] at d;exact cq d
 ·have f:=by
   have:((t.drop a).take w.length==w)=true:=by rcases m:(t.drop a).take _==w with _|_;rw[m] at d;exact(Bool.noConfusion d);rfl
   exact eq_of_beq this
  have i:=bB List.length f
  rw[nK,jn] at i
  have:=h.al
  exact h.at_ (j2 c (iD (h.h5 rfl (J [_,_,_,_,_] 0x410e0020e6004c509481 L (aL i.symm) (Nat.min_le_right _ _) (dj this)) λ M p=>j f _ p)))
theorem bP.lu(h:bP aI e st aZ a_ t cD pr a g o nm u){n:Nat}(Y:1<=n){w bl:List Nat}(V:t.drop a=w++bl)(b:w.length<=10)(q:∀M,bP aI M st aZ a_ t cD pr (a+w.length) g o nm u->t.drop (a+w.length)=bl->k (.bool true) M):
  (b0 (.ref st) hC λ cP=>bY (call n) cP (.ref st) [.str w] k) e:=
 h.Ek Y w b (λ z M c=>q _ c (by rw[<-nM,V,List.drop_left])) (absurd (by rw[V,List.take_left]))
theorem bP.jw(h:bP aI e st aZ a_ t cD pr a g o nm u){n:Nat}(Y:1<=n){w:List Nat}(b:w.length<=10)(c:(t.drop a).take w.length≠w)(q:k (.bool false) e):(b0 (.ref st) hC λ cP=>bY (call n) cP (.ref st) [.str w] k) e:=
 h.Ek Y w b (λ D=>(c D).elim) λ z=>q
end
end
section
theorem Xg(R:dq)(K:Loc->U->Prop)(e:U)(v:E)(a b c o:Option E):d6 66 [] 1 R v (q7 a b c o) K e=K (q7 a b c (some v)) e:=by kernel_rfl
theorem Gq:v_=.str [105,109,115,120]:=by kernel_rfl
section
variable{aI e:U}{st aZ a_ a g o u:Nat}{t:List Nat}{cD:Int}{pr:List (Nat×dm)}{nm:List Nat}{k:bo}{A:bo}
theorem yM{j:List Nat}{s:Nat->Bool}{g:E->kx}(o:ascii j=true)(p:j.length<=1000)(cZ:∀c∈j,∀c1:Bool->U->Prop,c1 (s c) e->g (.str [c]) c1 e)(q:k (.lst ((j.filter s).map λ c=>E.str [c])) e):ib (.str j) g (λ v k=>k v) k e:=by
 have h:hy e (.str j)=some _:=aT o
 refine sH h (λ i b M=>M=e/\b=((j.take i).filter s).map λ c=>E.str [c]) ⟨rfl,rfl⟩ (λ z z z z=>trivial) (λ i x b r B f a l=>?_) λ b r a=>?_
 ·refine bf a λ t u=>?_;clear a;subst t;subst u
  rw[kb] at f
  refine ba (gS.mp f) λ c m w=>?_;clear f;subst w
  have d:j.take (i+1)=j.take i++[c]:=by rw[lL,m];rfl
  refine⟨?_,cZ c (ka m) _ ?_⟩
  ·rw[cM]
   exact ah (List.length_filter_le ..) (ah (sz ..) (ah p (ae rfl)))
  ·rcases n:s c with _|_
   ·exact l _ _ ⟨rfl,by rw[d,List.filter_append,List.filter_cons_of_neg (by rw[n];decide),e8];exact(gT _).symm⟩
   ·exact l _ _ ⟨rfl,by rw[d,List.filter_append,List.filter_cons_of_pos n,e8];rfl⟩
 ·refine bf a λ y A=>?_;clear a;clear cZ h;subst y;subst A
  rw[cM,nL]
  exact q
set_option tactic.hygienic true in
theorem bP.run(h:bP aI e st aZ a_ t cD pr a g o nm u){n:Nat}(Y:1<=n){signs w bl:List Nat}(V:t.drop a=w++bl)(D:∀c∈w,signs.contains c=true)(E:∀c r,bl=c::r->signs.contains c=false)(q:∀M,bP aI M st aZ a_ t cD pr (a+w.length) g o nm u->t.drop (a+w.length)=bl->A (.str w) M):
  call n 65 [.ref st,.str signs,.int (-1)] A e:=by
 apply iH Y;intro n Q
 have F:a+w.length+bl.length=t.length:=by
  have:=bB List.length V
  rw[jn,bR] at this
  have:=h.al
  lia
 have s:∀M,bP _ _ st aZ a_ t _ pr _ g o nm u->fc (bq 65 [] 2 (call n)) (eX A) _ (q6 _ (some (.str signs)) (some (.int (-1))) _) _:=λ M d=>by
  refine f3 (aH (Uz ..) (d.h7 (d.at_ (kT h.hD (eM h.nG) (eM d.nG) (gn ?_)))))
  rw[show(some a).getD 0=a from rfl,o1,V,List.take_left]
  exact q M d (by rw[<-nM,V,List.drop_left])
 refine aH (aeM ..) (h.at_ (md (λ bh ak M=>ak=q6 _ _ _ _/\∃i,i<=w.length/\bh=w.length-i/\bP _ M st aZ a_ t _ pr (a+i) g o nm u) (λ bh ak R S v y z z=>xS v λ G i f H C=>?_) ⟨rfl,0,df _,rfl,h⟩));clear v;subst G;subst H
 have m:t.drop (a+i)=w.drop i++bl:=by rewrite[<-nM,V,List.drop_append,show i-w.length=0 by exact cB ((Nat.le_total _ _).elim (λ p=>J [_,_,_] 0x8c0214c009481 L f (dj p)) λ p=>aL (vY p)) (J [_] 131136 L),mT];rfl
 have wx:i<w.length->∃c,t[a+i]?=some c/\c∈w:=λ B=>by
  refine⟨w[i],?_,List.getElem_mem _⟩
  have:=bB (λ l=>l[0]?) m
  simp only[sq,Nat.add_zero] at this
  rw[this,oS _];rfl
 refine aH (adq ..) (d_ (C.at_ (C.h7 (j2 h.hD (iE (iZ (λ j=>?_) λ j=>?_))))))
 ·have B:=dR.mp (gg j)
  by_cases b:i<w.length
  ·refine ba (wx b) λ c k K=>C.h7 (C.at_ (kl C.nG k (bj (bB _ ((xB c _).trans (D c K))) (gD (C.at_ (dg rfl (bj (bB some ?_) (gD ?_))))))))
   ·show(!a+i-(a:Int)==-1)=true
    rw[fF.mpr (by lia)];rfl
   ·exact aH (Uy ..) (C.at_ (iD (C.h5 (eL:=a+i+1) (k3.mpr (cB (J [_,_] 0x1114040044520000 L) (J [_,_] 0x1114800044501000 L))) (by assumption) λ T I=>(y _ _ _ (J [_,_,_,_] 0x142238004088c03802628081 L (d2 _ _) (dj b)) ⟨rfl,i+1,b,rfl,I⟩).1)))
  ·have N:=cB f (cI b)
   clear b;subst N
   refine a7 (o7 B) λ c k=>?_
   have O:∃r,bl=c::r:=by
    have:=bB (λ l=>l[0]?) m
    simp only[sq,Nat.add_zero] at this
    rw[k,List.drop_length] at this
    clear V q;rcases bl with _|_
    case nil=>injection this
    case cons x r=>obtain rfl:=cm this;exact⟨r,rfl⟩
   exact a7 O λ r P=>C.h7 (C.at_ (kl C.nG k (bj (bB _ ((xB c _).trans (E c r P))) (mU (s _ C)))))
 ·have:=cB f (J [_,_,_,_,_] 0x20a04100709cc520001 L (aL F) (hU.mp (jG.mp (rh j))))
  clear f y m wx j;subst this
  exact s _ C
theorem BY{c:Nat}:∀(w:List Nat){bl:List Nat}{y:Nat},c∉w->iU [c] (w++c::bl) y=some (y+w.length)
 |[],bl,y,_=>by
  show(if[c].isPrefixOf _=true then some y else _)=_
  rw[aT (by show(c==c&&true)=true;rw[eC];rfl)]
  rfl
 |x::w,bl,y,h=>by
  show(if[c].isPrefixOf _=true then some y else iU _ (w++c::bl) _)=_
  rw[a9 (by show¬(c==x&&true)=true;rw[fF.mpr (λ D=>h (rwr D (f9 ..)):c≠x)];decide),BY w λ D=>h (gU _ D)]
  congr 1
  exact cB (J [_,_] 0x1114040142220000 L) (J [_,_] 0x5088800044501000 L)
theorem Wy{R:dq}{j x:List Nat}{a:Nat}{r:Option Nat}{D:Int}(hz:D=a)(b:a<=j.length)(c:a<=1000000000)(h:iU x (j.drop a) a=r)(q:k (.int (BX r)) e):(b0 (.str j) vv λ cP=>bY R cP (.str j) [.str x,.int D] k) e:=by
 subst hz
 show match if(decide _&&dU a&&decide _)=true then some _ else none with|some v=>k v e|none=>False
 rw[js c,fi (hU.mpr b),Int.toNat_natCast,h]
 exact q
theorem bP.until(h:bP aI e st aZ a_ t cD pr a g o nm u){n c:Nat}(Y:1<=n){w bl:List Nat}(V:t.drop a=w++c::bl)(d:c∉w)(q:∀M,bP aI M st aZ a_ t cD pr (a+w.length+1) g o nm u->t.drop (a+w.length+1)=bl->A (.str w) M):call n 67 [.ref st,.str [c]] A e:=by
 apply iH Y;intro n j
 have b:a+w.length+1+bl.length=t.length:=by
  have:=bB List.length V
  rw[jn,bR,fW] at this
  lia
 have iM:=h.iM
 refine aH (aeO ..) (h.h7 (vc (cP:=.find) (by kernel_rfl) (h.at_ ?_)))
 show match if(decide _&&dU a&&decide _)=true then some (E.int _) else none with|some v=>_|none=>False
 rw[js h.nG,fi (hU.mpr h.al),Int.toNat_natCast,(by exact rwl V (BY w d):iU [c] (t.drop a) a=some (a+w.length))]
 refine rM (λ f=>bC _ (J [_,_] 0x2088001044520001 L (dR.mp f))) (bt (h.h7 (h.at_ (kT h.hD (eM h.nG) (eM (J [_,_,_,_] 0x3b9aca0030ca4001e848083384e6088a400001 L (aL b) iM)) ?_))))
 rw[show(some a).getD 0=a from rfl,o1,V,List.take_left]
 exact dg rfl (h.h5 rfl (J [_,_,_,_] 0xe111480000e6088a400001 L (aL b)) λ M i=>q _ i (by rw[ez,<-nM,V,show w.length+1=(w++[c]).length by simp,show w++c::bl=w++[c]++bl by simp,List.drop_left]))
end
end
section
section
variable{aI e:U}{st aZ a_ a g o u:Nat}{t:List Nat}{cD:Int}{pr:List (Nat×dm)}{nm:List Nat}{k:bo}{A:bo}
def mf(c:Nat):Prop:=48<=c/\c<58
theorem yQ{P:Nat->Prop}(a:P 48)(C:P 49)(I:P 50)(af:P 51)(b:P 52)(d:P 53)(e:P 54)(f:P 55)(g:P 56)(i:P 57){c:Nat}(h:mf c):P c:=by
 obtain⟨k,rfl⟩:=fu h.1
 rcases k with _|_|_|_|_|_|_|_|_|_|k
 ·exact a
 ·exact C
 ·exact I
 ·exact af
 ·exact b
 ·exact d
 ·exact e
 ·exact f
 ·exact g
 ·exact i
 ·exact absurd (Nat.lt_of_add_lt_add_right h.2) (lK.mpr (gC 10 k))
noncomputable def val(j:List Nat):Nat:=j.foldl (λ v c=>v*10+(c-48)) 0
theorem XZ{c:Nat}(h:mf c):iU [pf c] [48,49,50,51,52,53,54,55,56,57,97,98,99,100,101,102] 0=some (c-48):=by
 refine yQ (P:=λ c=>iU [pf c] _ 0=some (c-48)) ?_ ?_ ?_ ?_ ?_ ?_ ?_ ?_ ?_ ?_ h<;>kernel_rfl
theorem zP{j:List Nat}(k:∀c∈j,mf c)(s:j.length<=3){n:Nat}(Y:1<=n)(q:A (.int (val j)) e):call n 66 [.str j,.int 10] A e:=by
 apply iH Y;intro n H
 have l:hy e (.str j)=some _:=aT (kz.mpr λ c a=>fi (by have:=k c a;exact J [_] 0x8010c2220001d086111001 L this.2))
 refine aH (aeN ..) (k_ l (λ i ak M=>M=e/\(∃p,ak=q7 _ _ (some (.int (val (j.take i)))) p)/\val (j.take i)<10^i) ⟨rfl,⟨none,rfl⟩,(ae rfl:0<1)⟩ (λ z z z z=>trivial) (λ i x ak h I f b t z z=>?_) λ ak h b=>?_)
 ·refine e_ b λ u m o=>?_;clear b;subst u;refine a7 m λ p w=>?_;clear m;subst w
  rw[kb] at f
  refine ba (gS.mp f) λ c a y=>?_;subst y
  have g:=k c (ka a)
  have K:=d7 (iz.mp a).1 s
  have d:val (j.take (i+1))=val (j.take i)*10+(c-48):=by
   unfold val
   rw[lL,a,List.foldl_append];rfl
  have N:c-48<10:=J [_,_] 0x50822280040c04328021d086111001 L g.2 (dj g.1)
  have B:10^i<=100:=by
   rcases(by lia:i=0\/i=1\/i=2) with rfl|rfl|rfl<;>decide
  have C:=d7 o B
  refine aH (Xg ..) (aH (UA ..) (dg (v:=.int (val (j.take i)*10:Nat)) ?_ ?_))
  ·show(if(small _&&small 10)=true then some _ else none)=_
   rw[Kz (by exact hU.mpr (J [_] 131136 L)) (by exact hU.mpr (J [_] 0x1d1a94a20008190032086111001 L C))]
   rfl
  have D:oi h [c] .lower []=some _:=aT (by
   rw[show ascii _=true from kz.mpr λ x f=>fi (by rw[fG.mp f];exact J [_] 0x8010c2220001d086111001 L g.2)];rfl)
  have E:oi h [48,49,50,51,52,53,54,55,56,57,97,98,99,100,101,102] .index [.str [pf c]]=some (.int (c-48:Nat)):=by
   show(iU _ _ 0).bind _=_
   rw[XZ g];rfl
  exact vc (by kernel_rfl) (vc (by kernel_rfl) (z_ D (z_ E (dg (v:=.int _) (by rw[d];rfl) (dg rfl (lN (bB _ (bB _ (a9 (show¬1114112<(val _:Int) by lia)))) (t _ _ ⟨rfl,⟨_,rfl⟩,(by rw[d,Nat.pow_succ];lia)⟩).1))))))
 ·refine e_ b λ F r o=>?_;clear b;clear l;subst F;refine a7 r λ p G=>?_;clear r;subst G
  rw[cM,nL]
  exact f3 (aH (UB ..) (gn q))
noncomputable def VN(n:Nat):Bool:=(fj n).all (λ c=>Nat.ble 48 c&&Nat.ble (c+1) 58)&&Nat.ble (fj n).length 3&&Nat.beq (val (fj n)) n&&!(fj n).isEmpty
theorem VO:(List.range 1000).all VN=true:=by decide+kernel
theorem sI{n:Nat}(h:n<1000):(∀c∈fj n,mf c)/\(fj n).length<=3/\val (fj n)=n/\fj n≠[]:=by
 have k:=sl.mp (kz.mp VO n (List.mem_range.mpr h))
 have a:=sl.mp k.1
 have b:=sl.mp a.1
 refine⟨λ c e=>?_,sk b.2,Nat.eq_of_beq_eq_true a.2,λ D=>?_⟩
 ·have d:=sl.mp (kz.mp b.1 c e)
  exact⟨sk d.1,sk d.2⟩
 ·exact cq (k.2.symm.trans (bB (λ l=>!l.isEmpty) D)).symm
theorem afp{n c:Nat}(h:mf c\/c=110):call (n+1) 7 [.str [c]] A e=A (.bool true) e:=by
 rcases h with h|rfl
 ·refine yQ (P:=λ c=>call _ 7 [.str [c]] A e=A _ e) ?_ ?_ ?_ ?_ ?_ ?_ ?_ ?_ ?_ ?_ h<;>kernel_rfl
 ·kernel_rfl
theorem JC{m:Nat}(b:m<1000){n:Nat}(Y:2<=n)(q:∀M,eh e M->A (.bool true) M):call n 84 [.str (dQ m)] A e:=by
 apply D3 Y;intro n i
 refine f5 (sI b) λ d f j k=>?_
 have a:∀c∈dQ m,mf c\/c=110:=λ c a=>(ew.mp a).elim .inr λ D=>.inl (d c D)
 refine aH (aeW ..) (fX (bj (r:=true) rfl (p7 (bz rfl (bj (by kernel_rfl) (p7 (yM (kz.mpr λ c h=>fi (by rcases a c h with h|h;exact J [_] 0x8010c2220001d086111001 L h.2;exact J [_] 0x1002184440006e10c81 L (aL h))) (J [_] 0x1f408611100018881 L f) (λ c h c1 g=>aH (afp (a c h)) (dk (bt g))) ?_)))))))
 rw[List.filter_eq_nil_iff.mpr λ z z=>by decide]
 exact e2 (ae rfl) (bj (wj .lst) (q _ (.alloc _ _ _)))
noncomputable def eA(f:Bool):List Nat:=if f then[105] else[]
theorem Hk(f:Bool):([105,109,115,120].filter λ c=>iu [c] (eA f))=eA f:=by rcases f with _|_<;>kernel_rfl
theorem I5{R:dq}{f:Bool}(q:k (.str (eA f)) e):bY R .join (.str []) [.lst ((eA f).map λ c=>E.str [c])] k e:=by
 rcases f with _|_<;>exact q
theorem u3{K:fp->U->Prop}{j:List Nat}(q:K .join e):b0 (.str j) r1 K e:=vc (by kernel_rfl) q
theorem bP.Ar(h:bP aI e st aZ a_ t cD pr a g o nm u){n:Nat}(Y:2<=n){f:Bool}(V:(t.drop a).take 3≠[40,63,35])(q:A (.bool false) e):call n 96 [.ref st,.str (eA f)] A e:=by
 apply iH Y;intro n b
 refine aH (ae1 ..) (h.jw (by assumption) (ae rfl) V (dk (bt (bj ?_ (cE q)))))
 rcases f with _|_<;>kernel_rfl
set_option tactic.hygienic true in
theorem bP.flags(h:bP aI e st aZ a_ t cD pr a g o nm u){n:Nat}(Y:2<=n){f:Bool}(b:∀c r,t.drop a=c::r->[105,109,115,120].contains c=false/\c≠45)(q:∀M,bP aI M st aZ a_ t cD pr a g o nm u->A (.str (eA f)) M):call n 97 [.ref st,.str (eA f)] A e:=by
 apply iH Y;intro n k
 refine aH (ae2 ..) ?_
 delta Fi Fl Fj;rw[Gq]
 refine h.run (w:=[]) (by assumption) rfl (λ c b=>(gh b).elim) (λ c r d=>(b c r d).1) λ l C z=>fX (C.jw (by assumption) (ae rfl) (λ D=>?_) (dk (bt (u3 ?_))))
 ·rcases j:t.drop a with _|_
  case nil=>rw[show a+[].length=a from rfl,j] at D;injection D
  case cons c r=>
   rw[show a+[].length=a from rfl,j] at D
   exact(b c r j).2 (e0 D).1
 ·refine yM (s:=λ c=>iu [c] (eA f)) rfl (ae rfl) (λ c b c1 i=>d_ (d_ (bj rfl (mb (λ d=>gD ?_) λ d=>?_)))) ?_
  ·rw[d] at i
   exact bj rfl (gD (cE i))
  ·rw[d] at i
   exact bj rfl (iX (mU (bt i)))
  ·rw[Hk]
   exact I5 (q _ C)
end
end
section
theorem Xh(R:dq)(K:Loc->U->Prop)(e:U)(dc dY g:E)(a b c o d f:Option E):d6 86 [] 4 R (.tup [dc,dY,g]) (vP a b c o d f) K e=K (vP a b c (some dc) (some dY) (some g)) e:=by kernel_rfl
def sb(bl:List Nat):Prop:=(∀c r,bl=c::r->c≠42/\c≠43/\c≠63/\c≠123/\(c<48\/57<c))/\bl.take 3≠[40,63,35]
section
variable{aI e:U}{st aZ a_ a g o u:Nat}{t:List Nat}{cD:Int}{pr:List (Nat×dm)}{nm:List Nat}{k:bo}{A:bo}
theorem bP.inline(h:bP aI e st aZ a_ t cD pr a g o nm u){n:Nat}(Y:3<=n){f:Bool}(V:(t.drop a).take 2=[40,63]->∀c r,t.drop (a+2)=c::r->[105,109,115,120].contains c=false/\c≠45)(q:∀M,bP aI M st aZ a_ t cD pr a g o nm u->A .none M):call n 98 [.ref st,.str (eA f)] A e:=by
 apply iH Y;intro n b
 refine aH (ae3 ..) (h.at_ (h.Ek (ah (ae rfl) b) _ (ae rfl) (λ d i C=>dk (bt ?_)) λ z=>dk (cE (q e h))))
 exact C.flags (by assumption) (V d) λ j I=>d_ (I.at_ (dg rfl (wy (Int.lt_irrefl _) (mU (bt (I.h5 rfl h.al λ k af=>q _ af))))))
theorem VF{t body bl:List Nat}{a:Nat}(V:t.drop a=123::(body++125::bl)):cut t (a+1) (some (a+1+body.length))=body:=by
 rw[o1,<-nM,V]
 show(body++_).take _=body
 rw[List.take_left]
theorem acy{R:dq}{body:List Nat}{a:List (List Nat)}(b:vs body=some a)(q:k (.lst (a.map .str)) e):(b0 (.str body) xC λ cP=>bY R cP (.str body) [.str [44]] k) e:=by
 refine vc (cP:=.split) (by kernel_rfl) (z_ ?_ q)
 show(if[44]=[44] then(vs _).bind _ else none)=_
 exact rwl b (aT rfl)
theorem strs_map:∀l:List (List Nat),vu (l.map E.str)=some l
 |[]=>rfl
 |x::l=>by
  show(vu _).map _=_
  rw[strs_map l];rfl
theorem zu{R:dq}{l:List (List Nat)}{j:List Nat}(a:(ij j l).length+l.length*(j.length+1)<=c7)(q:k (.str (ij j l)) e):bY R .join (.str j) [.lst (l.map .str)] k e:=by
 refine z_ ?_ q
 show(vu _).bind _=_
 rw[strs_map]
 exact aT a
noncomputable def Kq(x:List Nat):List (List Nat)->Nat
 |[]=>val x
 |H::_=>val H
theorem U'{n:Nat}{D:Int}(hz:D=a)(Y:2<=n)(cZ:t.length<=500000)(j:a<=t.length){body bl x:List Nat}{dd:List (List Nat)}(V:t.drop a=123::(body++125::bl))(N:125∉body)(v:vs body=some (x::dd))(b_:dd=[]\/∃H,dd=[H]/\H≠[]/\(∀c∈H,mf c)/\H.length<=3)(O:x≠[])(k:x.length<=3)(l:∀c∈x,mf c)
  (q:∀M,eh e M->A (.tup [.int (val x),.int (Kq x dd),.int ((a+(body.length+2):Nat):Int)]) M):call n 85 [.str t,.int D] A e:=by
 apply iH Y;intro n dn
 have w:=by
  have:=bB List.length V
  rw[jn,fW,bR] at this
  exact cB (J [_,_,_,_,_] 0x105108803800041cc009822088a020001 L (aL this.symm) (dj j)) (J [_,_,_,_,_] 0xc211408000e041007084411180500081 L (aL this) (d2 _ _))
 refine a7 (⟨_,rfl⟩:∃y,y=a+(body.length+1)) λ y dE=>a7 (⟨_,rfl⟩:∃b,b=a+1) λ b m=>?_
 have Q:iU [125] (t.drop a) a=some y:=by
  rw[V,dE]
  exact BY (123::body) (by intro D;rcases ew.mp D with D|D;exact absurd D (by decide);exact N D)
 have nH:∀y,y<=t.length->y<=1000000000:=λ y=>J [_,_] 0x1dcd65001865010a17a12020c81 L cZ
 have o:∀c∈ij [] (x::dd),mf c:=by
  intro c B
  rcases b_ with rfl|⟨H,rfl,_,I,_⟩
  ·exact l c B
  ·rcases fH.mp (B) with h|h
   ·exact l c (by simpa using h)
   ·exact I c h
 have g:(ij [] (x::dd)).length<=6/\dd.length<=1:=by
  rcases b_ with rfl|⟨H,rfl,_,_,af⟩
  ·exact⟨ah k (ae rfl),ae rfl⟩
  ·refine⟨?_,bx 1⟩
   show(x++[]++H).length<=6
   rw[gT,bR];exact J [_,_] 0xc229000188a118881 L k af
 refine aH (aeX ..) (Wy hz j (nH _ j) Q (mz (λ r M=>r=.lst ((x::dd).map .str)/\M=e) (λ R p=>HE (i5 _) (cE (dg (by rw[hz,m];rfl) (kT (ah cZ (ae rfl)) (eM (n:=b) (nH _ (cI λ f=>bC _ (J [_,_,_,_,_] 0x411010111c0108880404e6108a020001 L (aL w) (aL m) f)))) (eM (nH _ (J [_,_,_,_,_] 0x74002228080404e6108a020001 L (aL w) (aL dE)))) ?_)))) λ r M C=>?_))
 ·rw[show(some b).getD 0=a+1 from m,show y=a+1+body.length by exact cB (J [_,_,_] 0x3044500080088c028081 L (aL dE)) (J [_,_,_] 0x31422200003044501001 L (aL dE.symm)),VF V]
  exact acy v (p _ _ ⟨rfl,rfl⟩)
 refine bf C λ S T=>?_;clear C;subst S;subst T
 have u:((x::dd).map E.str).length=dd.length+1:=by rw[cM];rfl
 have i:((x::dd).map E.str).length<=c7:=by rw[u];exact ah (h' g.2) (ae rfl)
 refine d_ (dw.lst.len i (rM (λ f=>bC _ (J [_] 0x41100220882220001 L (dR.mp f))) (iX (dw.lst.len i (wy (by rw[u];exact λ f=>bC _ (J [_] 0x4110022200221080108881 L g.2 (dR.mp f))) (iX (bz rfl (hv ?_))))))))
 rw[(by rcases x with _|_;exact absurd rfl O;rfl:(x==[])=false)]
 refine iX (bt (u3 (zu (by show _+(dd.length+1)*1<=8000000;lia) (yM (s:=λ c=>!iu [c] [48,49,50,51,52,53,54,55,56,57]) (kz.mpr λ c h=>fi (by have:=o c h;exact J [_] 0x8010c2220001d086111001 L this.2)) (J [_] 0x3e810c8030881 L g.1) (λ c h c1 F=>?_) ?_))))
 ·refine bj (r:=!iu _ [48,49,50,51,52,53,54,55,56,57]) rfl (jM (λ d=>?_) λ d=>?_)<;>(rw[d] at F;exact F)
 rw[List.filter_eq_nil_iff.mpr λ c h=>by
  rw[yQ (P:=λ c=>iu [c] _=true) rfl rfl rfl rfl rfl rfl rfl rfl rfl rfl (o c h)];decide]
 refine e2 (ae rfl) (bj (by show(jP _ (.lst []) _).map _=_;rw[wj .lst];rfl) (bt (bz rfl (zP l k (by assumption) (dw.lst.len i (jO ?_))))))
 have d:=Fr.alloc (λ z=>False) M (.list [])
 rcases b_ with rfl|⟨H,rfl,U,W,X⟩
 ·exact cE (dg (by rw[dE];rfl) (cb (cn (n:=3) (by decide)) rfl (q _ d)))
 ·have Z:(H==[])=false:=by clear v o g u i;rcases H with _|_;exact absurd rfl U;rfl
  refine bt (mz (λ r G=>r=.int (val H)/\eh M G) (λ R p=>bz rfl (hv ?_)) λ r G K=>?_)
  ·exact rwl Z (bt (bz rfl (zP W X (by assumption) (p _ _ ⟨rfl,d⟩))))
  ·refine bf K λ eV a'=>?_;clear K;subst eV
   exact dg (by rw[dE];rfl) (cb (cn (n:=3) (by decide)) rfl (q _ a'))
inductive SG(c:Nat):Prop where
 |one (j:Nat) (a0:(f' c).2.2=[j]) (a':∀e,lO e .In (.str [j]) v9=some true) (fQ:∀e,n_ e v9 (.str [j])=some (.tup [.int (dh c),.int (dW c)]))
 |Bl (body x:List Nat) (dd:List (List Nat)) (a0:(f' c).2.2=123::(body++[125])) (a':125∉body) (cT:vs body=some (x::dd)) (ep:dd=[]\/∃H,dd=[H]/\H≠[]/\(∀c∈H,mf c)/\H.length<=3) (fQ:x≠[]) (hX:x.length<=3) (rq:∀c∈x,mf c) (G3:val x=dh c) (BN:((Kq x dd:Nat):Int)=dW c) (V7:dh c<=2) (G2:0<=dW c) (V8:dW c<=2) (V9:(dh c:Int)<=dW c)
theorem wg{n:Nat}(h:mf n):∀c∈[n],mf c:=λ c a=>rwl (fG.mp a) h
theorem Vq{c:Nat}(h:c<6):SG c:=
 u9 h (.one 42 rfl λ z=>by kernel_rfl λ z=>by kernel_rfl) (.one 43 rfl λ z=>by kernel_rfl λ z=>by kernel_rfl) (.one 63 rfl λ z=>by kernel_rfl λ z=>by kernel_rfl)
  (.Bl [49,44,50] _ _ rfl (by decide) rfl (.inr ⟨[50],rfl,by decide,wg ⟨by decide,by decide⟩,by decide⟩) (by decide) (ae rfl) (wg ⟨ae rfl,ae rfl⟩) rfl rfl (ae rfl) (by decide) (by decide) (by decide))
  (.Bl [50] _ [] rfl (by decide) rfl (.inl rfl) (by decide) (by decide) (wg ⟨by decide,by decide⟩) rfl rfl (ae rfl) (by decide) (by decide) (by decide))
  (.Bl [48,44,50] _ _ rfl (by decide) rfl (.inr ⟨[50],rfl,by decide,wg ⟨by decide,by decide⟩,by decide⟩) (by decide) (ae rfl) (wg ⟨ae rfl,ae rfl⟩) rfl rfl (ae rfl) (by decide) (by decide) (by decide))
theorem bP.count(h:bP aI e st aZ a_ t cD pr a g o nm u){n c:Nat}(Y:3<=n)(s:c<6){bl:List Nat}(V:t.drop a=(f' c).2.2++bl)(q:∀M,bP aI M st aZ a_ t cD pr (a+(f' c).2.2.length) g o nm u->t.drop (a+(f' c).2.2.length)=bl->A (.tup [.int (dh c),.int (dW c)]) M):call n 86 [.ref st] A e:=by
 apply iH Y;intro n l
 have d:a+(f' c).2.2.length+bl.length=t.length:=by
  have:=bB List.length V
  rw[jn,bR] at this
  have:=h.al
  lia
 have f:t.drop (a+(f' c).2.2.length)=bl:=by rw[<-nM,V,List.drop_left]
 rcases Vq s with⟨j,b,i,k⟩|⟨body,x,dd,b,i,y,B,k,D,E,F,G,S,H,T,U⟩
 ·rw[b] at V d q
  refine aH (Ap ..) (h.peek (ah (ae rfl) l) (by rw[V];rfl) (d_ (bj (r:=true) rfl (gD (bj (i _) (gD (cE (h.at_ (iD (h.h5 (eL:=a+1) rfl (J [_,_,_] 0xc1110003142220001 L (aL d)) λ K C=>bz (k _) (q _ C (by rw[b] at f;exact f))))))))))))
 ·have m:t.drop a=123::(body++125::bl):=by rw[V,b];simp
  have N:(f' c).2.2.length=body.length+2:=by rw[b];simp
  rw[N] at q d f
  refine aH (Ap ..) (h.peek (ah (ae rfl) l) (w:=[123]) (by rw[m];rfl) (d_ (bj rfl (gD (bj (by kernel_rfl) (mU (bt (mz (λ r M=>r=.tup _/\bP _ M st aZ a_ t _ pr a g o nm u) (λ W O=>hv (cE (h.h7 (h.at_ (U' rfl (by assumption) h.iM h.al m i y B k D E λ K P=>O _ _ ⟨by rw[F,G],h.ext P⟩))))) λ r M p=>bf p λ Q R=>?_))))))));clear p;subst Q
  refine bj rfl (bt (aH (Xh ..) (aH (UI ..) (lN (v:=.int (dW c)) ?_ (wy (by lia) (bt (d_ (Dn ?_))))))))
  ·exact bB _ (bB _ (by show(if dh c<dW c then dW c else dh c)=dW c;split<;>lia))
  ·rw[fi H]
   refine cE (rM (by lia) (bt (R.h5 (eL:=a+(body.length+2)) rfl (J [_,_,_,_] 0xe211404000e6108a020001 L (aL d)) λ X I=>cb (cn (n:=2) (ae rfl)) rfl (gn (q _ I f)))))
set_option tactic.hygienic true in
theorem bP.GP(h:bP aI e st aZ a_ t cD pr a g o nm u){n:Nat}(Y:3<=n)(i:sb (t.drop a))(q:A .none e):call n 86 [.ref st] A e:=by
 apply iH Y;intro n f
 rcases b:t.drop a with _|_
 case nil=>exact aH (Ap ..) (h.peek (ah (ae rfl) f) (w:=[]) (by rw[b];rfl) (d_ (bj rfl (mU (bt (fX (bj rfl (bt (bj rfl (cE q))))))))))
 case cons c r=>
  refine vD (i.1 c r b) λ j en k l z=>?_
  have m:=by
   have d:∀x,c≠x->([c]==[x])=false:=λ x p=>fF.mpr λ D=>p (e0 D).1
   show some ([c]==[42]||([c]==[43]||([c]==[63]||false)))=some false
   rw[d 42 j,d 43 en,d 63 k];rfl
  have s:=by
   show some ([c]==[123])=some false
   rw[fF.mpr λ D=>l (e0 D).1]
  exact aH (Ap ..) (h.peek (ah (ae rfl) f) (by rw[b];rfl) (d_ (bj (r:=true) rfl (gD (bj m (mU (bt (fX (bj s (bt (bj rfl (cE q))))))))))))
end
end
section
theorem Hz(R:dq)(K:Loc->U->Prop)(e:U)(dc dY:E)(a b c o d:Option E):d6 88 [] 0 R (.tup [dc,dY]) (q_ a b c o d) K e=K (q_ a b (some dc) (some dY) d) e:=by kernel_rfl
section
variable{aI e:U}{st aZ a_ a g o u:Nat}{t:List Nat}{cD:Int}{pr:List (Nat×dm)}{nm:List Nat}{k:bo}{A:bo}{f:Bool}
theorem bP.GQ(h:bP aI e st aZ a_ t cD pr a g o nm u){n:Nat}{v:E}(Y:5<=n)(b:sb (t.drop a))(q:A v e):call n 102 [.ref st,.str (eA f),v] A e:=by
 apply iH Y;intro n c
 refine aH (Lc ..) (md (m:=0) (λ bh ak M=>M=e/\ak=nA _ _ _ _ _ _) (λ bh ak k l d z z z=>bf d λ i j=>?_) ⟨rfl,rfl⟩);clear d;subst i;subst j
 exact aH (KY ..) (h.Ar (ah (ae rfl) c) b.2 (dk (f3 (aH (F4 ..) (h.GP (ah (ae rfl) c) b (bj rfl (cE (gn q))))))))
set_option tactic.hygienic true in
theorem bP.VD(h:bP aI e st aZ a_ t cD pr a g o nm u){n c m:Nat}{v:E}(Y:5<=n)(F:c<6)(G:m<3)(J:fM v=true){bl:List Nat}(V:t.drop a=(f' c).2.2++(ju m++bl))(s:sb bl)(K:(t.drop a).take 3≠[40,63,35])
  (q:∀M,bP aI M st aZ a_ t cD pr (a+(f' c).2.2.length+(ju m).length) g o nm u->t.drop (a+(f' c).2.2.length+(ju m).length)=bl->A (.tup [.str qC,v,.int (dh c),.int (dW c),.str (zH m)]) M):call n 102 [.ref st,.str (eA f),v] A e:=by
 apply iH Y;intro n i
 refine aH (Lc ..) (md (m:=0) (λ bh ak M=>M=e/\ak=nA _ _ _ _ _ _) (λ bh ak S L l z z z=>bf l λ N O=>?_) ⟨rfl,rfl⟩);clear l;subst N;subst O
 refine aH (KY ..) (h.Ar (ah (ae rfl) i) K (dk (f3 (aH (F4 ..) (h.count (ah (ae rfl) i) F V λ T I j=>bj rfl (bt ?_))))))
 generalize B:E.tup _=w
 have fin:∀p (b:Nat),bP _ _ st aZ a_ t _ pr b g o nm u->t.drop b=bl->b=a+(f' c).2.2.length+(ju m).length->ko _ (bq 102 [(5,0)] 0 (call n)) _ (fc (bq 102 [] 6 (call n)) (eX A)) _:=λ p b af k d=>by
  refine md (m:=0) (λ bh ak M=>M=p/\ak=nA (some (.ref st)) (some (.str (eA f))) (some v) (some w) (some (.str (zH m))) none) (λ bh ak U L l z z z=>bf l λ P Q=>?_) ⟨rfl,rfl⟩;clear l;subst P;subst Q
  refine aH (adl ..) (af.Ar (ah (ae rfl) i) (by rw[k];exact s.2) (dk (f3 (aH (TQ ..) (af.at_ (af.GP (ah (ae rfl) i) (by rw[k];exact s) (bj rfl (bt (bz (by rw[<-B];rfl) (bz (by rw[<-B];rfl) (cb (cn (n:=5) (ae rfl)) (by show(true&&fM v&&(true&&true&&(true&&true)))=true;rw[J];rfl) (gn ?_))))))))))))
  subst d
  exact q _ af k
 revert j fin;apply rL G<;>intro j fin
 ·
  have C:∀x,x=63\/x=43->(t.drop _).take 1≠[x]:=λ x R D=>by
   rw[j] at D
   rcases y:bl with _|_
   case nil=>rw[y] at D;injection D
   case cons H r=>
    rw[y] at D
    have:=s.1 H r y
    have d:=(e0 D).1
    rcases R with rfl|rfl
    ·exact this.2.2.1 d
    ·exact this.2.1 d
  exact I.jw (ah (by decide) i) (by decide) (C 63 (.inl rfl)) (dk (bt (I.jw (ah (by decide) i) (by decide) (C 43 (.inr rfl)) (dk (bt (fin _ _ I (by rw[j];rfl) rfl))))))
 ·exact I.lu (ah (by decide) i) j (by decide) λ p af k=>dk (cE (fin _ _ af k rfl))
 ·exact I.jw (ah (by decide) i) (by decide) (λ D=>by rw[j] at D;exact absurd (e0 D).1 (by decide)) (dk (bt (I.lu (ah (by decide) i) j (by decide) λ p af k=>dk (cE (fin _ _ af k rfl)))))
theorem Zi{p:Option dm}{m x:Nat}(h:p=some (.list [.int m])\/p=some (.flist [.int m]))(a:p=some (.list [.int x])\/p=some (.flist [.int x])):m=x:=by
 rcases h with h|h
 ·rcases a with a|a
  ·have d:=c' (h.symm.trans a)
   injection d with d;injection d with d;injection d with d
   exact k3.mp d
  ·exact absurd (h.symm.trans a) (by simp)
 ·rcases a with a|a
  ·exact absurd (h.symm.trans a) (by simp)
  ·have d:=c' (h.symm.trans a)
   injection d with d;injection d with d;injection d with d
   exact k3.mp d
theorem bP.En(h:bP aI e st aZ a_ t cD pr a g o nm u){n m:Nat}{b:Int}{v:E}(Y:1<=n)(O:0<m)(P:m<=g)(b6:u<=900000)(f:∃r,v=.ref r/\(e.get r=some (.list [.int m])\/e.get r=some (.flist [.int m]))/\r<e.next/\aI.next<=r/\r≠st/\r≠aZ/\r≠a_/\(∀s∈pr,s.1≠r))
  (q:∀M,bP aI M st aZ a_ t cD pr a g o nm (u+1)->e.next<=M.next->(∃r,v=.ref r/\M.get r=some (.flist [.int m]))->A v M):call n 87 [.ref st,v,.int b] A e:=by
 apply iH Y;intro n dn
 refine LL f λ r Q V ab aU R S w T=>?_;clear f;subst Q
 refine ox h.ex λ B cF U W F X G Z=>aH (aeY ..) (h.KD (qz F ?_))
 have key:∀c,c.next=e.next->(∀i,i≠r->c.get i=e.get i)->c.get r=some _->bY (call n) _ _ [.tup _] (λ z=>A _) c:=λ c j k H=>by
  refine p4 ((k a_ w.symm).trans F) (ah (ah G b6) (ae rfl)) (q _ ?_ (jF j.symm) ⟨r,rfl,(ef w).trans H⟩)
  have CP:∀{nm:List _}{B:List E},hp e aI.next st aZ a_ nm B->hp (c.upd a_ (.list (cF++[.tup [.lst [.int m],.int b]]))) aI.next st aZ a_ nm B:=by
   intro nm
   induction nm with
   |nil=>intro B h;(rcases B with _|_;(case nil=>trivial);(case cons _ _=>exact h.elim))
   |cons x nm av=>
    intro B h
    rcases B with _|_
    case nil=>exact h.elim
    case cons v B=>
     refine bf h λ J EZ=>?_;clear h;refine afA J λ ej a3 bL g9 y l EY K=>?_;clear J
     refine⟨⟨ej,a3,?_,by show ej<c.next;rw[j];exact g9,y,l,EY,K⟩,av EZ⟩
     rw[ef K]
     by_cases L:ej=r
     ·clear ab w q;subst L
      have:=Zi V bL
      subst this
      exact .inr H
     ·exact rwl (k ej L) bL
  exact{
   ex:=cv B (cF++[.tup _]) ⟨(ef h.fL).trans ((k aZ S.symm).trans U),CP W,dH ..,λ v f=>by
    rcases fH.mp f with f|f
    ·exact X v f
    ·rw[fG.mp f];exact cv m b ⟨rfl,O,P⟩,by rw[bR];exact h' G,Z⟩
   p:=(ef h.di).trans ((k st R.symm).trans h.p)
   cC:=h.cC
   di:=h.di
   fL:=h.fL
   C:=by show st<c.next;rw[j];exact h.C
   I:=by show aZ<c.next;rw[j];exact h.I
   af:=by show a_<c.next;rw[j];exact h.af
   aX:=h.aX
   bS:=h.bS
   dv:=h.dv
   iI:=λ s N=>vD (h.iI s N) λ a3 bL g9 y l=>⟨(ef l).trans ((k _ (T s N)).trans a3),by show s.1<c.next;rw[j];exact bL,g9,y,l⟩
   fr:=⟨by show aI.next<=c.next;rw[j];exact h.fr.next,λ i D z=>(ef (e' (d7 D h.dv))).trans ((k i (e' (d7 D aU))).trans (h.fr.same i D id))⟩
   iM:=h.iM
   al:=h.al}
 refine⟨cn (n:=2) (ae rfl),?_⟩
 unfold tupK
 rcases V with V|V
 ·have d:hY [.ref r,.int b] e=([.lst [.int m],.int b],e.upd r (.flist [.int m])):=by
   show((gG _ e).1::(hY _ _).1,(hY _ _).2)=_
   have:gG (.ref r) e=(.lst [.int m],e.upd r (.flist [.int m])):=by
    unfold gG
    simp only[V]
   rw[this]
   rfl
  rw[d]
  exact key _ rfl (λ i=>ef) (dH ..)
 ·have d:hY [.ref r,.int b] e=([.lst [.int m],.int b],e):=by
   show((gG _ e).1::(hY _ _).1,(hY _ _).2)=_
   have:gG (.ref r) e=(.lst [.int m],e):=by
    unfold gG
    simp only[V]
   rw[this]
   rfl
  rw[d]
  exact key _ rfl (λ z z=>rfl) V
theorem Bd{r m:Nat}(V:e.get r=some (.flist [.int m]))(q:k (sF f m) e):b9 [.str oc,.ref r,.bool f] k e:=by
 refine⟨cn (n:=3) (ae rfl),?_⟩
 unfold tupK
 have d:hY [.str oc,.ref r,.bool f] e=([.str oc,.lst [.int m],.bool f],e):=by
  have:gG (.ref r) e=(.lst [.int m],e):=by
   unfold gG
   simp only[V]
  show(E.str _::(gG _ e).1::(hY _ _).1,(hY _ (gG (.ref r) e).2).2)=_
  rw[this]
  rfl
 exact rwl d q
end
end
section
section
variable{aI e:U}{st aZ a_ a g o u:Nat}{t:List Nat}{cD:Int}{pr:List (Nat×dm)}{nm:List Nat}{k:bo}{A:bo}{f:Bool}
theorem hp.ref{lo st aZ a_ r:Nat}{nm:List Nat}{B:List E}(h:hp e lo st aZ a_ nm B):E.ref r∈B->r<e.next:=
 h.ind (bh:=λ z B=>E.ref r∈B->r<e.next) (λ D=>(gh D).elim) λ z z z z z af z z a b=>(ew.mp b).elim (λ d=>by injection d with D;exact rwl D af) a
theorem hp.put{lo st aZ a_ i:Nat}{a:dm}{nm:List Nat}{B:List E}(h:hp e lo st aZ a_ nm B):(∀r,E.ref r∈B->r≠i)->hp (e.upd i a) lo st aZ a_ nm B:=
 h.ind (bh:=λ nm B=>(∀r,E.ref r∈B->r≠i)->hp (e.upd i a) lo st aZ a_ nm B) (λ z=>trivial) λ n nm r B I af b z c V=>⟨⟨r,rfl,(ef (V r (f9 ..))).symm▸I,af,b⟩,c λ r h=>V r (gU _ h)⟩
theorem bP.new(h:bP aI e st aZ a_ t cD pr a g o nm u)(c:dm):bP aI (e.alloc c) st aZ a_ t cD ((e.next,c)::pr) a g o nm u:=
 have f:=h.ext (.alloc _ e c)
 {f with
  ex:=by
   refine ox h.ex λ B cF l j m n p q=>?_
   have d:=Fr.alloc (λ z=>False) e c
   refine cv B cF ⟨d.get l h.I id,j.ext (λ i D z z z=>d.same i D id) d.next,d.get m h.af id,n,p,λ s b k=>?_⟩
   rcases ew.mp b with rfl|b
   ·exact((Nat.lt_irrefl _) (j.ref k)).elim
   ·exact q s b k
  iI:=λ s b=>by
   rcases ew.mp b with rfl|b
   ·exact⟨fR ..,eo _,hV h.C,hV h.I,hV h.af⟩
   ·exact f.iI s b}
theorem bP.forget{s:Nat×dm}(h:bP aI e st aZ a_ t cD (s::pr) a g o nm u):bP aI e st aZ a_ t cD pr a g o nm u:=
 {h with
  ex:=by
   exact ox h.ex λ B cF c d f i j k=>cv B cF ⟨c,d,f,i,j,λ s b=>k s (gU _ b)⟩
  iI:=λ s b=>h.iI s (gU _ b)}
theorem bP.upd{i:Nat}{d:dm}(h:bP aI e st aZ a_ t cD ((i,d)::pr) a g o nm u)(l:aI.next<=i)(m:∀s∈pr,s.1≠i)(f:dm):bP aI (e.upd i f) st aZ a_ t cD ((i,f)::pr) a g o nm u:=by
 refine vD (h.iI _ f9 ..) λ a3 bL g9 j k=>?_
 exact{h with
  ex:=by
   exact ox h.ex λ B cF n q v w x c=>cv B cF ⟨(ef j.symm).trans n,q.put λ r V D=>c _ (f9 ..) (rwr D V),(ef k.symm).trans v,w,x,λ s b=>by
    rcases ew.mp b with rfl|b
    ·exact c (i,d) (f9 ..)
    ·exact c s (gU _ b)⟩
  p:=(ef g9.symm).trans h.p
  C:=h.C
  I:=h.I
  af:=h.af
  iI:=λ s b=>by
   rcases ew.mp b with rfl|b
   ·exact⟨dH ..,bL,g9,j,k⟩
   ·exact bf (h.iI s (gU _ b)) λ y A=>⟨(ef (m s b)).trans y,A⟩
  fr:=h.fr.j3 l}
theorem bP.top{i:Nat}{b:dm}(h:bP aI e st aZ a_ t cD ((i,b)::pr) a g o nm u):e.get i=some b:=(h.iI _ f9 ..).1
theorem bP.fresh(h:bP aI e st aZ a_ t cD pr a g o nm u):aI.next<=e.next/\∀s∈pr,s.1≠e.next:=⟨h.fr.next,λ s b=>e' (h.iI s b).2.1⟩
theorem WW{i:Nat}{B ai dd:List E}(b:e.get i=some (.list B))(a:ai.all fM=true)(b_:dd.all fM=true):hY (ai++.ref i::dd) e=(ai++.lst B::dd,e.upd i (.flist B)):=by
 induction ai with
 |nil=>
  show((gG _ e).1::(hY dd _).1,(hY dd _).2)=_
  have:gG (.ref i) e=(.lst B,e.upd i (.flist B)):=by
   unfold gG
   simp only[b]
  rw[this,B6 b_]
  rfl
 |cons x ai c=>
  rw[List.all_cons,k2] at a
  have d:gG x e=(x,e):=by
   have:=a.1
   rcases x with _|_<;>first|rfl|exact cq this
  show((gG x e).1::(hY (ai++.ref i::dd) _).1,(hY (ai++.ref i::dd) _).2)=_
  rw[d]
  rw[c a.2]
  rfl
theorem An{i:Nat}{B ai dd:List E}(a:e.get i=some (.list B))(b:ai.all fM=true)(b_:dd.all fM=true)(c:(ai++.ref i::dd).length<=100)(q:k (.tup (ai++.lst B::dd)) (e.upd i (.flist B))):b9 (ai++.ref i::dd) k e:=by
 refine⟨cn c,?_⟩
 unfold tupK
 rw[WW a b b_]
 exact q
theorem lW{c:Nat}{j:List Nat}{b:Bool}(h:iu [c] j=b):lO e .In (.str [c]) (.str j)=some b:=bB _ h
theorem bP.member(h:bP aI e st aZ a_ t cD pr a g o nm u){n c:Nat}(Y:4<=n){bl:List Nat}(V:t.drop a=c::bl)(d:c=97\/c=98)(q:∀M i,bP aI M st aZ a_ t cD ((i,.list [.tup [.str qD,.int c,.int c]])::pr) (a+1) g o nm u->t.drop (a+1)=bl->A (.ref i) M):call n 73 [.ref st] A e:=by
 apply iH Y;intro n f
 have j:a+1+bl.length=t.length:=by
  have:=bB List.length V
  rw[jn,fW] at this
  lia
 have l:∀K,K .none e->call n 72 _ K e:=λ K m=>by
  refine a7 (fu (k:=1) (cI λ p=>bC _ (J [_] 0x822004411100120c41 L f p))) λ n r=>?_;subst r
  refine aH (aeP ..) (h.h7 (vc (cP:=.find) (by kernel_rfl) (h.at_ ?_)))
  show match if(decide _&&dU a&&decide _)=true then some (E.int _) else none with|some v=>_|none=>False
  rw[js h.nG,fi (hU.mpr h.al)]
  refine d_ (h.h7 (h.at_ (h.at_ (dg rfl (kT h.hD (eM h.nG) (eM (h.nH (ae rfl))) ?_)))))
  rw[show(some a).getD 0=a from rfl,o1,V]
  refine bj ?_ (xk (cE m))
  show some (!(c::bl).take 2==[91,58])=some _
  rw[fF.mpr λ D=>by
   have:=(e0 D).1
   exact bC _ (d.elim (λ b=>J [_] 0x1044020c221845b10c81 L (aL this) (aL b.symm)) λ b=>J [_] 0x1044020c421845b10c81 L (aL this) (aL b.symm))]
  rfl
 refine aH (aeQ ..) (l _ (bj rfl (bt (h.peek (ah (ae rfl) f) (w:=[c]) (by rw[V];rfl) (h.at_ (iD (h.h5 (eL:=a+1) rfl (J [_,_,_] 0xc1110003142220001 L (aL j)) λ s C=>bj ?_ (bt (lN rfl (lN rfl (cb (cn (n:=3) (ae rfl)) rfl (e2 (cn (n:=1) (ae rfl)) (q _ _ (C.new _) (by rw[<-nM,V];rfl))))))))))))))
 show some ([c]==[92])=some _
 rw[fF.mpr λ D=>by have:=(e0 D).1;exact bC _ (d.elim (λ b=>J [_] 0x1044020c221845c10c81 L (aL this) (aL b.symm)) λ b=>J [_] 0x1044020c421845c10c81 L (aL this) (aL b.symm))]
end
end
section
section
variable{aI e:U}{st aZ a_ a g o u:Nat}{t:List Nat}{cD:Int}{pr:List (Nat×dm)}{nm:List Nat}{k:bo}{A:bo}{f:Bool}
theorem wq(f:Bool):iu [105] (eA f)=f:=by rcases f with _|_<;>rfl
theorem WD(f:Bool):iu [115] (eA f)=false:=by rcases f with _|_<;>rfl
theorem Hj(f:Bool):iu [109] (eA f)=false:=by rcases f with _|_<;>rfl
theorem sM{c:Nat}{r:List Nat}(h:t.drop a=c::r)(b:a<=t.length):t.drop (a+1)=r/\a+1<=t.length:=by
 refine⟨by refine rwr nM (rwl h ?_);rfl,?_⟩
 have:=bB List.length h
 rw[jn] at this
 exact J [_,_,_,_] 0x7088c001cc5004a111001 L (aL this.symm) (dj b)
theorem ne_str{c x:Nat}(h:c≠x):(([c]:List Nat)==[x])=false:=fF.mpr λ D=>h (e0 D).1
theorem kC{c x:Nat}{c1:Bool->U->Prop}(h:c≠x)(q:c1 false e):aE .Eq (.str [c]) (.str [x]) c1 e:=hv (by exact rwl ((ne_str h)) q)
theorem uD{c:Nat}{c1:Bool->U->Prop}(q:c1 true e):aE .Eq (.str [c]) (.str [c]) c1 e:=hv (by rw[eC];exact q)
theorem aa1{c:Nat}{aA dB ay bA aR:Prop}(a:(c=97/\aA)\/(c=98/\dB)\/(c=46/\ay)\/(c=94/\bA)\/(c=36/\aR)):c≠40/\c≠91/\c≠92/\c≠42/\c≠43/\c≠63/\c≠123:=by
 rcases a with h|h|h|h|h<;>(refine rwl h.1 ?_;decide)
theorem bP.plain(h:bP aI e st aZ a_ t cD pr a g o nm u){n c:Nat}{v:E}(Y:3<=n){bl:List Nat}(V:t.drop a=c::bl)(d:(c=97/\v=gX f 0)\/(c=98/\v=gX f 1)\/(c=46/\v=gX f 2)\/(c=94/\v=e1 f (.place 0))\/(c=36/\v=e1 f (.place 1)))
  (q:∀M,bP aI M st aZ a_ t cD pr (a+1) g o nm u->A v M):call n 101 [.ref st,.str (eA f)] A e:=by
 apply iH Y;intro n i
 refine bf (sM V h.al) λ l j=>?_
 have b:=aa1 d
 have k:=by
  show some ([c]==[42]||([c]==[43]||([c]==[63]||false)))=some false
  refine rwl (ne_str b.2.2.2.1) (rwl (ne_str b.2.2.2.2.1) (rwl (ne_str b.2.2.2.2.2.1) ?_));rfl
 refine aH (Ao ..) (h.peek (ah (ae rfl) i) (by refine(rwl V ?_);rfl) (kC b.1 (bt (kC b.2.1 (bt (kC b.2.2.1 (bt (d_ (bj k (iX (d_ (kC b.2.2.2.2.2.2 (mU (iX (bt (h.at_ (iD (h.h5 rfl j λ m C=>?_))))))))))))))))))
 have q:=q _ C
 rcases d with⟨rfl,rfl⟩|⟨rfl,rfl⟩|⟨rfl,rfl⟩|⟨rfl,rfl⟩|⟨rfl,rfl⟩
 ·exact kC (by decide) (bt (kC (by decide) (bt (kC (by decide) (bt (bj (lW (wq f)) (cb (cn (n:=3) (by decide)) rfl q)))))))
 ·exact kC (by decide) (bt (kC (by decide) (bt (kC (by decide) (bt (bj (lW (wq f)) (cb (cn (n:=3) (by decide)) rfl q)))))))
 ·exact uD (cE (bj (lW (WD f)) (cb (cn (n:=2) (by decide)) rfl q)))
 ·exact kC (by decide) (bt (uD (cE (fX (bj (lW (Hj f)) (bt (cb (cn (n:=2) (by decide)) rfl q)))))))
 ·exact kC (by decide) (bt (kC (by decide) (bt (uD (cE (fX (bj (lW (Hj f)) (bt (cb (cn (n:=2) (by decide)) rfl q)))))))))
theorem bP.escape(h:bP aI e st aZ a_ t cD pr a g o nm u){n:Nat}(Y:1<=n){bl:List Nat}(V:t.drop a=92::bl)(q:∀m,m+1=n->call m 107 [.ref st,.str (eA f)] A e):call n 101 [.ref st,.str (eA f)] A e:=by
 refine ba (J7 Y) λ n d c=>?_;subst d
 by_cases b:1<=n
 ·exact aH (Ao ..) (h.peek b (by refine rwl V ?_;rfl) (kC (by decide) (bt (kC (by decide) (bt (uD (cE (q n rfl))))))))
 ·have:n=0:=cB (J [_] 74767932657665 L (pX b)) c
  clear c Y b;subst this
  exact(q 0 rfl).elim
theorem bP.G'(h:bP aI e st aZ a_ t cD pr a g o nm u){n c:Nat}{v:E}(Y:2<=n){bl:List Nat}(V:t.drop a=92::c::bl)(j:(c=119/\v=gX f 4)\/(c=98/\v=e1 f (.place 2)))(q:∀M,bP aI M st aZ a_ t cD pr (a+2) g o nm u->A v M):call n 107 [.ref st,.str (eA f)] A e:=by
 apply iH Y;intro n l
 refine bf (sM V h.al) λ b d=>bf (sM b d) λ m i=>aH (Le ..) (h.at_ (bj (lW (wq f)) (h.at_ (iD (h.h5 rfl d λ p C=>C.peek (by assumption) (w:=[c]) (by refine rwl b ?_;rfl) (d_ (bj rfl (gD ?_))))))))
 refine qS (ae rfl) ?_
 rcases j with⟨rfl,rfl⟩|⟨rfl,rfl⟩
 ·refine bj (lW rfl) (gD (cE (C.at_ (iD (C.h5 (eL:=a+2) rfl i λ k I=>cb (cn (n:=2) (by decide)) rfl (e2 (cn (ae rfl)) ?_))))))
  have af:=I.new (.list [.tup [.str zT,.str [119]]])
  exact An (ai:=[.str _]) af.top rfl rfl (show 4<=100 by decide) (q _ (af.upd I.fresh.1 I.fresh.2 _).forget)
 ·refine bj (lW rfl) (mU (bt (d_ (bj rfl (gD (bj (lW rfl) (gD (cE (C.at_ (iD (C.h5 (eL:=a+2) rfl i λ k I=>cb (cn (n:=2) (by decide)) rfl (q _ I))))))))))))
theorem one_sign{n c:Nat}{i:Nat}(Y:1<=n)(f:e.get i=some (.list [.tup [.str qD,.int c,.int c]]))(g:i<e.next)(q:A (.bool true) e):call n 74 [.ref i] A e:=by
 apply iH Y;intro n h
 have b:dw e (.ref i) [.tup [.str qD,.int c,.int c]]:=⟨by(rewrite[iW];refine rwl f ?_);rfl,λ y d=>by(injection d with a3;subst a3);exact g⟩
 have a:∀(K:bo),K _ e->item _ _ K e:=λ K=>b.item (i:=0) (ae rfl) rfl
 refine aH (aeR ..) (fX (b.len (show 1<=8000000 by decide) (bj rfl (p7 (a _ (bz rfl (bj rfl (p7 (a _ (bz rfl (a _ (bz rfl (jO ?_)))))))))))))
 rw[eC]
 exact q
noncomputable def vk(c:Nat):E:=.tup [.str qD,.int c,.int c]
theorem ZW{i:Nat}{B:List E}{K:fp->U->Prop}(h:e.get i=some (.list B))(q:K .extend e):b0 (.ref i) (Str.ofString "extend") K e:=rN h (by kernel_rfl) q
set_option tactic.hygienic true in
theorem bP.ab'(h:bP aI e st aZ a_ t cD pr a g o nm u){n:Nat}{cW:Bool}{j:List Nat}(Y:6<=n)(K:∀c∈j,c=97\/c=98)(Q:j≠[])(R:j.length<=9){bl:List Nat}(V:t.drop a=91::((if cW then[94] else[])++(j++93::bl)))(q:∀M,bP aI M st aZ a_ t cD pr (a+(if cW then 1 else 0)+j.length+2) g o nm u->A (.tup [.str pk,.lst (j.map vk),.bool cW,.bool f]) M):call n 76 [.ref st,.bool f] A e:=by
 apply iH Y;intro n l
 refine bf (sM V h.al) λ E aa=>aH (aeS ..) (h.at_ (h.at_ (iD (h.h5 rfl aa λ aw C=>?_))))
 have N:∀x b,bP _ _ st aZ a_ t _ pr b g o nm u->t.drop b=j++93::bl->b=a+1+(if cW then 1 else 0)->(dI [] λ yp=>ko _ _ _ (fc (bq 76 [] 6 (call n)) (eX A))) x:=λ x b I F S=>by
  have eY:b+j.length+1+bl.length=t.length:=by
   have:=bB List.length F
   rw[jn,bR,fW] at this
   have:=I.al
   omega
  refine e2 (ae rfl) (md (λ bh ak M=>∃i b3 cX,i<=j.length/\bh=j.length-i/\ak=q8 (some (.ref st)) (some (.bool f)) (some (.int a)) (some (.bool cW)) (some (.ref x.next)) (some (.bool (i==0))) b3 cX/\bP aI M st aZ a_ t cD ((x.next,.list ((j.take i).map vk))::pr) (b+i) g o nm u) (λ bh ak c9 d3 T U z z=>j5 T λ i b3 cX G ey tZ af=>?_) (gw 0 none none ⟨df _,rfl,rfl,I.new _⟩));clear T;subst ey;subst tZ
  have m:t.drop (b+i)=j.drop i++93::bl:=(rwr nM (rwl F (rwl List.drop_append (rwl ((show i-j.length=0 by exact cB ((Nat.le_total _ _).elim (λ p=>J [_,_,_] 0x8c0214c009481 L G (dj p)) λ p=>aL (vY p)) (J [_] 131136 L))) (rwl mT rfl)))))
  by_cases s:i<j.length
  ·have O:=K _ (List.getElem_mem s)
   rw[oS s] at m
   generalize aG:j[i]=c at m O
   have body:bq 76 [(5,0)] 0 (call n) (q8 (some (.ref st)) (some (.bool f)) (some (.int a)) (some (.bool cW)) (some (.ref x.next)) (some (.bool (i==0))) b3 cX) d3 c9:=by
    refine aH (UC ..) (af.peek (ah (by decide) l) (w:=[c]) (by refine rwl m ?_;rfl) (bj rfl (bt (af.member (ah (ae rfl) l) m O λ f6 y k W=>?_))))
    refine a7 (⟨_,rfl⟩:∃d,d=b+i+1) λ d X=>?_
    rw[<-X] at k W
    refine k.h7 (k.at_ (k.at_ (dg rfl (kT k.hD (eM k.nG) (eM (k.nH (ae rfl))) (e_ (k.iI _ f9 ..) λ Z De z=>d_ (one_sign (ah (by decide) l) Z De (dk (gD (rwl ((show(some d).getD 0=d from rfl)) (rwl o1 (rwl W ?_)))))))))))
    refine kT (ah (List.length_take_le ..) (ae rfl):((j.drop (i+1)++93::bl).take 2).length<=c7) rfl (eM (ae rfl)) (bj ?_ (mU (bt ?_)))
    ·rcases ag:j.drop _ with _|_
     case nil=>rfl
     case cons H r=>
      show some ([H]==[45])=some _
      rw[ne_str (by exact λ B=>bC _ ((K H (List.mem_of_mem_drop (rwl ag (f9 ..)))).elim (λ P=>J [_] 0x1044020c221842d10c81 L (aL B) (aL P.symm)) λ P=>J [_] 0x1044020c421842d10c81 L (aL B) (aL P.symm)))]
    ·have v:=k.forget
     refine ZW v.top ?_
     unfold bY
     simp only[v.top]
     show match listOf _ _ with|some dd=>_|none=>False
     (rewrite[iW];refine rwl Z ?_)
     refine⟨?_,(U (j.length-(i+1)) _ _ (J [_,_,_,_] 0x142238004088c03802628081 L (d2 _ _) (dj s)) (gw (i+1) _ _ ⟨s,rfl,rfl,?_⟩)).1⟩
     ·rw[cM]
      have:=List.length_take_le i j
      exact J [_,_,_] 0xf42400518446000a6090a148881 L R G this
     ·have fv:=v.upd I.fresh.1 I.fresh.2 (.list ((j.take i).map vk++[vk c]))
      refine lL.symm▸(hK s).symm▸aG.symm▸e8.symm▸?_
      rw[X] at fv
      exact fv
   refine aH (KZ ..) (d_ (dk (mb (λ d=>body) λ d=>af.peek (ah (by decide) l) (w:=[c]) (by refine rwl m ?_;rfl) (bj ?_ (xk body)))))
   show some (![c]==[93])=some _
   rw[ne_str (by exact λ B=>bC _ (O.elim (λ p=>J [_] 0x1044020c221845d10c81 L (aL B) (aL p.symm)) λ p=>J [_] 0x1044020c421845d10c81 L (aL B) (aL p.symm)))];rfl
  ·have CC:=cB G (cI s)
   clear G U s;subst CC
   rw[List.drop_length] at m
   have hz:(j.length==0)=false:=by
    rcases j with _|_
    case nil=>exact(Q rfl).elim
    case cons _ _=>rfl
   refine aH (KZ ..) (d_ (dk (rwl hz (iX (af.peek (ah (by decide) l) (w:=[93]) (by refine rwl m ?_;rfl) (bj rfl (iX (f3 (aH (UD ..) (af.at_ (iD (af.h5 (eL:=b+j.length+1) rfl (J [_,_,_,_] 0xe111480000e6088a400001 L (aL eY)) λ f6 k=>?_))))))))))))
   refine An (ai:=[.str _]) k.top rfl rfl (show 4<=100 by decide) (gn ?_)
   have v:=(k.upd I.fresh.1 I.fresh.2 (.flist ((j.take j.length).map vk))).forget
   rw[nL] at v⊢
   rw[show b+j.length+1=a+(if cW then 1 else 0)+j.length+2 by exact cB (J [_,_,_,_] 0x8473140000447200003044500081 L (aL S)) (J [_,_,_,_] 0x4473000211ca4000003142220001 L (aL S.symm))] at v
   exact q _ v
 rcases cW with _|_
 case true=>exact C.lu (ah (by decide) l) E (by decide) λ x I F=>N _ _ I F rfl
 case false=>
  refine C.jw (ah (by decide) l) (by decide) (λ D=>?_) (N _ _ C E rfl)
  rw[E] at D
  clear R V q E N;rcases j with _|_
  case nil=>exact Q rfl
  case cons c r=>
   have:=K c f9 ..
   have:=(e0 D).1
   lia
end
end
section
section
variable{aI e:U}{st aZ a_ a g o u:Nat}{t:List Nat}{cD:Int}{pr:List (Nat×dm)}{nm:List Nat}{k:bo}{A:bo}{f:Bool}
theorem zJ{m n:Nat}(a:m<1000)(Y:n<1000)(h:dQ m=dQ n):m=n:=by
 have d:=bB val (e0 h).2
 rw[(sI a).2.2.1,(sI Y).2.2.1] at d
 exact d
theorem hp.look{lo st aZ a_ m:Nat}(c:m<1000){nm:List Nat}{B:List E}(h:hp e lo st aZ a_ nm B):(∀x∈nm,x<1000)->m∈nm->∃r,hW (nm.map dQ) B (dQ m)=some (.ref r)/\E.ref r∈B/\(e.get r=some (.list [.int m])\/e.get r=some (.flist [.int m]))/\r<e.next/\lo<=r/\r≠st/\r≠aZ/\r≠a_:=
 h.ind (bh:=λ nm B=>(∀x∈nm,x<1000)->m∈nm->∃r,hW (nm.map _) B _=some (.ref r)/\E.ref r∈B/\(e.get r=some _\/e.get r=some _)/\r<e.next/\lo<=r/\r≠st/\r≠aZ/\r≠a_) (λ z a=>(gh a).elim) λ n nm r B I af f z g b a=>by
  by_cases d:n=m
  ·subst d
   refine⟨r,?_,f9 ..,I,af,f⟩
   show(match dQ n==dQ n with|true=>some _|false=>_)=_
   rw[eC]
  ·refine fz (g (λ x i=>b x (gU _ i)) ((ew.mp a).resolve_left λ D=>d D.symm)) λ ej a3 bL g9=>⟨ej,?_,gU _ bL,g9⟩
   show(match dQ m==dQ n with|true=>some _|false=>hW _ B _)=_
   exact rwl (fF.mpr λ D=>d (zJ c (b n f9 ..) D).symm) a3
theorem Ju{i:Nat}{az:List (List Nat)}{B:List E}{K:fp->U->Prop}(h:e.get i=some (.dict az B))(q:K .setdefault e):b0 (.ref i) vw K e:=rN h (by kernel_rfl) q
theorem bP.named(h:bP aI e st aZ a_ t cD pr a g o nm u){n m:Nat}{b:Int}(Y:4<=n)(G:0<m)(H:m<=g)(k:m<1000)(K:∀x∈nm,x<1000)(N:m∈nm)(O:nm.length<=1000)(b6:u<=900000){bl:List Nat}(V:t.drop a=60::(dQ m++62::bl))
  (q:∀M r,bP aI M st aZ a_ t cD pr (a+(dQ m).length+2) g o nm (u+1)->M.get r=some (.flist [.int m])->A (.ref r) M):call n 88 [.ref st,.int b] A e:=by
 apply iH Y;intro n c
 refine aH (aeZ ..) (cb (cn (n:=2) (by decide)) rfl (cb (cn (n:=2) (by decide)) rfl (cb (cn (n:=2) (by decide)) rfl (e2 (cn (ae rfl)) ?_))))
 have C:=h.new (.list [.tup [.str [123],.str [125]],.tup [.str [60],.str [62]],.tup [.str [39],.str [39]]])
 have l:dw _ (.ref e.next) [.tup [.str [123],.str [125]],.tup [.str [60],.str [62]],.tup [.str [39],.str [39]]]:=.new
 generalize U.alloc e _=P at C l⊢
 refine k_ l.items (λ i ak M=>M=P/\(i=0/\ak=q_ _ _ _ _ _\/i=1/\ak=q_ (some (.ref st)) (some (.int b)) (some (.str [123])) (some (.str [125])) none)) ⟨rfl,.inl ⟨rfl,rfl⟩⟩ (λ i ak M f=>by exact rwl f.1 l.hQ) (λ i v ak M d3 w f Q z R=>?_) λ ak M f=>?_
 ·obtain⟨rfl,⟨rfl,rfl⟩|⟨rfl,rfl⟩⟩:=f
  ·obtain rfl:=cm w
   exact aH (Hz ..) (aH (Gf ..) (C.jw (ah (by decide) c) (ae rfl) (λ D=>by rw[V] at D;exact absurd (e0 D).1 (by decide)) (dk (bt (Q _ _ ⟨rfl,.inr ⟨rfl,rfl⟩⟩).1))))
  ·obtain rfl:=cm w
   refine aH (Hz ..) (aH (Gf ..) (C.lu (ah (by decide) c) V (ae rfl) λ aS I S=>dk (cE (I.until (ah (by decide) c) S ?_ λ c9 af hc=>JC k (ah (ae rfl) c) λ T W=>dk (bt ?_)))))
   ·intro D
    rcases ew.mp D with D|D
    ·exact absurd D (by decide)
    ·have:=(sI k).1 62 D
     exact bC _ (J [] 0x104400e8430883e10c01 L this.2)
   have j:=(af.ext W).forget
   refine ox j.ex λ B cF y X cT ep fQ Z=>LL (X.look k K N) λ r a3 bL g9 E oA EY AD EZ=>j.DC (Ju y (e2 (ae rfl) ?_))
   have d:=Fr.alloc (λ z=>False) T (.list [])
   unfold bY
   simp only[(d.get y j.I id)]
   refine⟨?_,?_⟩
   ·rw[cM]
    exact O
   rw[a3]
   refine(j.ext d).En (ah (by decide) c) G H b6 ⟨r,rfl,by rw[d.same r E id];exact g9,d7 E d.next,oA,EY,AD,EZ,λ s ar D=>Z s ar (rwl D bL)⟩ λ vI F z p=>ba p λ ej rq p=>?_
   (injection rq with a3;subst a3)
   refine R _ _ _ (q _ r ?_ p)
   rw[show a+[60].length+(dQ m).length+1=a+(dQ m).length+2 by exact cB (J [_,_] 0x108a4000222844400000 L) (J [_,_] 0x88a1110000084520000 L)] at F
   exact F
 ·obtain⟨_,⟨D,_⟩|⟨D,_⟩⟩:=f
  ·injection D
  ·cases D
set_option tactic.hygienic true in
theorem bP.numbered(h:bP aI e st aZ a_ t cD pr a g o nm u){n m:Nat}{b:Int}(Y:4<=n)(w:0<m)(x:m<=g)(y:m<1000)(b6:u<=900000){bl:List Nat}(V:t.drop a=123::(fj m++125::bl))
  (q:∀M r,bP aI M st aZ a_ t cD pr (a+(fj m).length+2) g o nm (u+1)->M.get r=some (.flist [.int m])->A (.ref r) M):call n 89 [.ref st,.int b] A e:=by
 apply iH Y;intro n f
 refine f5 (sI y) λ i B E l=>?_
 refine aH (ae0 ..) (h.at_ (h.lu (ah (by decide) f) V (ae rfl) λ K C p=>C.jw (ah (by decide) f) (ae rfl) (λ D=>?_) ?_))
 ·rw[p] at D
  rcases j:fj m with _|_
  case nil=>exact l j
  case cons c r=>
   rw[j] at D
   have:=i c (rwl j (f9 ..))
   have d:=(e0 D).1
   exact bC _ (J [_] 0x104400b4432048180861 L this.1 (aL d))
 refine C.run (ah (by decide) f) p (λ c F=>yQ (P:=λ c=>[48,49,50,51,52,53,54,55,56,57].contains c=true) rfl rfl rfl rfl rfl rfl rfl rfl rfl rfl (i c F)) λ c r d=>by(injection d with a3 bL;subst a3 bL);rfl λ N I G=>d_ (bj ?_ (iX (d_ (dk (gD (I.lu (ah (by decide) f) G (ae rfl) λ O af Q=>dk (mU (iX (bt (zP i B (ah (by decide) f) ?_))))))))))
 ·show some (fj m==[])=some _
  rw[fF.mpr l]
 rw[E]
 refine fX (dk (bt (e2 (cn (n:=1) (ae rfl)) ?_)))
 have s:=af.new (.list [.int m])
 refine s.forget.En (ah (by decide) f) w x b6 ⟨_,rfl,.inl s.top,eo _,af.fresh.1,?_,?_,?_,af.fresh.2⟩ λ R v z k=>?_
 ·exact hV af.C
 ·exact hV af.I
 ·exact hV af.af
 ·refine ba k λ ej H k=>?_
  (injection H with a3;subst a3)
  refine q _ _ ?_ k
  rw[show a+[123].length+(fj m).length+[125].length=a+(fj m).length+2 by exact cB (J [_,_] 0x108a4000222844400000 L) (J [_,_] 0x88a1110000084520000 L)] at v
  exact v
theorem BC:∀c<58,48<=c->([48,49,50,51,52,53,54,55,56,57]:List Nat).contains c=true/\(49<=c->iu [c] [49,50,51,52,53,54,55,56,57]=true/\iu [c] ([100,68,119,87,115,83,104,72,118,86]++[78])=false/\iu [c] [65,122,90,98,66,71]=false):=by decide+kernel
theorem aas{c:Nat}(h:c<48\/57<c):([48,49,50,51,52,53,54,55,56,57]:List Nat).contains c=false:=by
 rcases d:[48,49,50,51,52,53,54,55,56,57].contains c with _|_
 case false=>rfl
 case true=>
  exact(((by decide:∀x∈[48,49,50,51,52,53,54,55,56,57],¬(x<48\/57<x)) c (List.contains_iff_mem.mp d)) h).elim
theorem Wf{m:Nat}{w bl:List Nat}{s:Prop}(a:0<m)(b:(w=107::60::(dQ m++[62])/\s)\/w=103::123::(fj m++[125])\/(m<10/\w=fj m/\∀c r,bl=c::r->c<48\/57<c)):
  ∃c d,w=c::d/\iu [c] ([100,68,119,87,115,83,104,72,118,86]++[78])=false/\iu [c] [65,122,90,98,66,71]=false:=by
 rcases b with⟨rfl,_⟩|rfl|⟨C,rfl,_⟩
 ·exact cv _ _ ⟨rfl,rfl,rfl⟩
 ·exact cv _ _ ⟨rfl,rfl,rfl⟩
 ·exact cv (48+m) ([]) ⟨aT C,((BC _ (Nat.add_lt_add_left C 48) (dD ..)).2 (e7 a 48)).2⟩
theorem VV{m c:Nat}{b:List Nat}(e:0<m)(a:m<10)(d:fj m=c::b):c<58/\49<=c:=(rwr ((e0 ((aT a).symm.trans d)).1) (⟨Nat.add_lt_add_left a 48,e7 e 48⟩))
theorem Ji(a x H D:Nat)(w:List Nat):a+1+[x].length+w.length+2=a+(x::H::(w++[D])).length+1:=by simp;exact cB (J [_,_] 0x1104411140001001114220888000000 L) (J [_,_] 0x1114220888000001104411140001000 L)
theorem bP.G_(h:bP aI e st aZ a_ t cD pr a g o nm u){n m:Nat}{w:List Nat}(Y:6<=n)(b:0<m)(k:m<=g)(p:m<1000)(O:∀x∈nm,x<1000)(P:nm.length<=1000)(b6:u<=900000){bl:List Nat}(V:t.drop a=92::(w++bl))
  (F:(w=107::60::(dQ m++[62])/\m∈nm)\/w=103::123::(fj m++[125])\/(m<10/\w=fj m/\∀c r,bl=c::r->c<48\/57<c))
  (q:∀M,bP aI M st aZ a_ t cD pr (a+w.length+1) g o nm (u+1)->A (sF f m) M):call n 107 [.ref st,.str (eA f)] A e:=by
 refine a7 (ha (ah (ae rfl:1<=6) Y)) λ n Q=>?_;subst Q
 have Y:=k1 Y
 have cC:1<=n:=ah (ae rfl) Y
 have iF:4<=n:=ah (ae rfl) Y
 refine bf (sM V h.al) λ i R=>jd (Wf b F) λ c lB j G H=>aH (Le ..) (h.at_ (bj (lW (wq f)) (h.at_ (iD (h.h5 rfl R λ aw C=>C.peek cC (by rw[i,j];rfl) (d_ (bj (r:=true) rfl (gD (qS (ae rfl) (bj (lW G) (mU (bt (d_ (bj rfl (gD (bj (lW H) (mU (bt ?_))))))))))))))))))
 have first:∀x,x≠c->(t.drop _).take 1≠[x]:=λ x S D=>by
  rw[i,j] at D
  exact S (e0 D).1.symm
 rcases F with⟨rfl,T⟩|rfl|⟨J,rfl,U⟩
 ·(injection j with a3 bL;clear G H;subst a3 bL)
  refine C.jw cC (by decide) (first _ (by decide)) (dk (bt (C.lu cC (i.trans (bB (λ l=>107::60::l) (el ..))) (by decide) λ K I s=>dk (cE (I.named iF b k p O T P b6 s λ W r af v=>Bd v (q _ (rwr (Ji a _ 60 62 _) af)))))))
 ·exact C.lu cC (i.trans (bB (λ l=>103::123::l) (el ..))) (by decide) λ K I s=>dk (cE (I.numbered iF b k p b6 s λ W r af v=>Bd v (q _ (rwr (Ji a _ _ _ _) af))))
 ·refine f5 (sI p) λ y X Z jN=>bf (VV b J j) λ B en=>?_
  refine C.jw cC (by decide) (first _ (hV (Nat.lt_trans B (ae rfl)))) (dk (bt (C.jw cC (by decide) (first _ (hV (Nat.lt_trans B (ae rfl)))) (dk (bt (d_ (bj rfl (gD (bj (lW ((BC c B (p0 en)).2 en).1) (gD (cE (C.at_ (C.run cC i (λ c L=>(BC c (y c L).2 (y c L).1).1) (λ c r d=>aas (U c r d)) λ K I a'=>zP y X cC ?_)))))))))))))
  rw[Z]
  refine d_ (u_ (dR.mpr J) (xk (cE (e2 (cn (n:=1) (ae rfl)) ?_))))
  have N:=I.new (.list [.int m])
  refine N.forget.En cC b k b6 ⟨_,rfl,.inl N.top,eo _,I.fresh.1,hV I.C,hV I.I,hV I.af,I.fresh.2⟩ λ lD cY z E=>ba E λ ej rq E=>?_
  (injection rq with a3;subst a3)
  exact Bd E (q _ (rwr (Nat.add_right_comm a 1 _) cY))
end
end
theorem B_(R:dq)(K:Loc->U->Prop)(e:U)(dc dY:E)(a b c o:Option E):d6 99 [(1,0)] 0 R (.tup [dc,dY]) (mN a b c o) K e=K (mN a (some dY) c (some dc)) e:=by kernel_rfl
structure jz where
 aI:U
 st:Nat
 aZ:Nat
 a_:Nat
 t:List Nat
 cD:Int
 f:Bool
abbrev jz.P(ay:jz)(e:U)(pr:List (Nat×dm))(a g o:Nat)(nm:List Nat)(u:Nat):Prop:=bP ay.aI e ay.st ay.aZ ay.a_ ay.t ay.cD pr a g o nm u
def si(ay:jz)(k:Nat)(args:List E)(ok:List Nat->Prop)(N bA:Nat)(w:List Nat)(v:E)(g bN:Nat)(nm c:List Nat)(b:Nat):Prop:=
 ∀(n:Nat)(pr:List (Nat×dm))(a o u:Nat)(e:U)(K:bo)(bl:List Nat),N<=n->o+bA<=39->ay.P e pr a g o nm u->ay.t.drop a=w++bl->ok bl->u+b<=900000->
  (∀M,ay.P M pr (a+w.length) bN o c (u+b)->ay.t.drop (a+w.length)=bl->K v M)->call n k (.ref ay.st::args) K e
def oG(ay:jz)(N bA:Nat)(w:List Nat)(v:E)(g bN:Nat)(nm c:List Nat)(b:Nat):Prop:=
 ∀(n:Nat)(pr:List (Nat×dm))(a o u:Nat)(e:U)(K:bo)(bl:List Nat),N<=n->o+bA<=39->ay.P e pr a g o nm u->ay.t.drop a=w++bl->sb bl->u+b<=900000->
  (∀M,ay.P M pr (a+w.length) bN o c (u+b)->ay.t.drop (a+w.length)=bl->K v M)->call n 101 [.ref ay.st,.str (eA ay.f)] (λ d=>call n 102 [.ref ay.st,.str (eA ay.f),d] K) e
def Ff(_:List Nat):Prop:=True
abbrev lH(ay:jz):=si ay 101 [.str (eA ay.f)] Ff
theorem lH.atom{ay:jz}{N bA:Nat}{w:List Nat}{v:E}{g bN:Nat}{nm b:List Nat}{c:Nat}(f:7<=N)(h:lH ay N bA w v g bN nm b c):oG ay N bA w v g bN nm b c:=
 λ n pr a o u e K bl Y i j V k b6 q=>h n pr a o u e _ _ Y i j V trivial b6 λ M d p'=>bP.GQ d (cI λ l=>bC _ (J [_,_] 0x41100a2088a00948121c41 L f Y l)) (by exact rwl p' k) (q _ d p')
def pR(j:List Nat):Prop:=(∃c r,j=c::r/\c≠124/\c≠41)/\sb j/\(j.take 2=[40,63]->∀c r,j.drop 2=c::r->[105,109,115,120].contains c=false/\c≠45)
def t4(bl:List Nat):Prop:=∀c r,bl=c::r->c=124\/c=41
set_option tactic.hygienic true in
theorem t4.uN{bl:List Nat}(h:t4 bl):sb bl:=⟨λ c r d=>by rcases h c r d with rfl|rfl<;>decide,λ D=>by
 rcases bl with _|_
 case nil=>injection D
 case cons c r=>have:=h c r rfl;have d:=(e0 D).1;exact bC _ (this.elim (λ a=>J [_] 0x1044020f821842810c81 L (aL d) (aL a.symm)) λ a=>J [_] 0x10440205221842810c81 L (aL d) (aL a.symm))⟩
inductive i3(ay:jz)(N bA:Nat):List Nat->List E->Nat->Nat->List Nat->List Nat->Nat->Prop
 |nil {g:Nat} {nm:List Nat}:i3 ay N bA [] [] g g nm nm 0
 |cons {w lB:List Nat} {v:E} {B:List E} {g cV dG:Nat} {nm l3 vd:List Nat} {dS BM:Nat}:oG ay N bA w v g cV nm l3 dS->(∀bl,pR (w++bl))->i3 ay N bA lB B cV dG l3 vd BM->i3 ay N bA (w++lB) (v::B) g dG nm vd (dS+BM)
theorem i3.uN{ay:jz}{N bA:Nat}{w:List Nat}{B:List E}{g bN:Nat}{nm a:List Nat}{b:Nat}(h:i3 ay N bA w B g bN nm a b){bl:List Nat}(V:t4 bl):sb (w++bl):=by
 cases h with
 |nil=>exact V.uN
 |cons _ C _=>rw[el];exact(C _).2.1
abbrev yj(ay:jz):=si ay 100 [.str (eA ay.f)] t4
inductive FF(ay:jz)(N bA:Nat)(i:Nat)(pr:List (Nat×dm))(o bN:Nat)(dC bl:List Nat)(c_ mR:Nat)(B:List E)(bh:Nat)(ak:Loc)(M:U):Prop
 |of {mS tJ:Nat} {iN:List Nat} {nk:List E} {cV:Nat} {l3:List Nat} {rp:Nat} {BI:List E} {p:Option E} (aG:i3 ay N bA iN nk cV bN l3 dC rp) (kE:nk.length=bh) (wF:BI++nk=B) (h:ay.P M ((i,.list BI)::pr) mS cV o l3 tJ) (agq:ay.t.drop mS=iN++bl) (k8:mS+iN.length=c_) (qc:tJ+rp=mR)
  (He:ak=pO (some (.ref ay.st)) (some (.str (eA ay.f))) (some (.ref i)) p):FF ay N bA i pr o bN dC bl c_ mR B bh ak M
theorem row_more{j:List Nat}{c:Nat}{r:List Nat}{e:U}(d:j=c::r)(C:c≠124)(I:c≠41):lO e .NotIn (.str (j.take 1)) (.tup [.str [],.str [124],.str [41]])=some true:=by
 rw[d]
 show some (!([]==[c]||([124]==[c]||([41]==[c]||false))))=_
 rw[ne_str C.symm,ne_str I.symm]
 rfl
set_option tactic.hygienic true in
theorem abU{j:List Nat}{e:U}(h:t4 j):lO e .NotIn (.str (j.take 1)) (.tup [.str [],.str [124],.str [41]])=some false:=by
 rcases j with _|_
 case nil=>rfl
 case cons c r=>rcases h c r rfl with rfl|rfl<;>rfl
theorem D_{ay:jz}{N bA:Nat}{w:List Nat}{B:List E}{g bN:Nat}{nm t:List Nat}{x:Nat}(M:7<=N)(i:i3 ay N bA w B g bN nm t x)(O:B.length<=1000):yj ay (N+1) bA w (.tup [gy B,.str (eA ay.f)]) g bN nm t x:=by
 intro n pr a o u e K bl Y P m V y b6 q
 apply iH Y;intro n A
 have j:=ah M A
 refine aH (adP ..) (e2 (ae rfl) (md (FF ay N bA _ pr o bN _ _ _ _ B) (λ bh ak aw d3 Q R z n8=>?_) (.of i rfl rfl (m.new _) V rfl rfl rfl)))
 have D:=m.fresh.1
 have F:=m.fresh.2
 cases Q with|@of S T iN nk cV l3 U BI p i W k C b s l X=>
 subst W X
 cases i with
 |nil=>
  refine aH (KX ..) (C.peek (ah (by decide) j) rfl (cb (cn (n:=3) (by decide)) rfl (bj (r:=false) (rwl b (abU y)) (f3 (aH (TP ..) (An (ai:=[.str _]) C.top rfl rfl (show 2<=100 by decide) (cb (cn (n:=2) (by decide)) rfl (gn ?_))))))))
  rw[gT] at k
  clear i;subst k
  cases s
  cases l
  exact q _ (C.upd D F _).forget b
 |@cons iN Z v c2 _ dG _ _ vd _ U BM n3 b8 G=>
  rw[el] at b
  refine e_ (b8 (Z++bl)) λ dM H J=>jd dM λ c r L c8 iJ=>?_;rw[<-b] at L H J
  rw[bR,<-ez] at s
  rw[<-ez] at l
  exact aH (KX ..) (C.peek (ah (by decide) j) rfl (cb (cn (n:=3) (by decide)) rfl (bj (row_more L c8 iJ) (aH (TO ..) (C.Ar (ah (ae rfl) j) H.2 (dk (bt (C.inline (ah (ae rfl) j) (λ d c r h=>J d c r (by rw[nM];exact h)) λ aS I=>bj rfl (bt (qz I.top (n3 n _ S o T _ _ _ A P I b (G.uN y) (ah (dD _ _) (rwl l b6)) λ c9 af hc=>p4 af.top (ah (ah (ah (dD ..) (jF (bR.symm.trans (bB _ k)))) O) (ae rfl)) (R _ _ _ (eo _) (.of G rfl ((el ..).trans k) (af.upd D F _) hc s l rfl)).1)))))))))))
def Cl(bl:List Nat):Prop:=∀c r,bl=c::r->c=41
theorem Cl.bar{bl:List Nat}(h:Cl bl):t4 bl:=λ c r d=>.inr (h c r d)
abbrev nt(ay:jz):=si ay 99 [.str (eA ay.f)] Cl
set_option tactic.hygienic true
theorem Tn{ay:jz}{N bA:Nat}{w:List Nat}{B:List E}{g bN:Nat}{nm m:List Nat}{p:Nat}(s:7<=N)(h:yj ay N bA w (.tup [gy B,.str (eA ay.f)]) g bN nm m p):nt ay (N+1) bA w (gy B) g bN nm m p:=by
 intro n pr a o u e K bl Y y b V t b6 q
 refine a7 (fu (k:=1) (cI λ j=>bC _ (J [_,_] 0x20880110445004a11100121c41 L s Y j))) λ n A=>?_;subst A
 refine aH (Lk ..) (e2 (ae rfl) (md (λ bh ak M=>bh=0/\ay.P M _ a g o nm u/\ak=mN _ _ _ _) (λ bh ak H O v Q z F=>e_ v λ R C G=>?_) ⟨rfl,b.new _,rfl⟩));clear v;subst G
 refine aH (EB ..) (aH (A' ..) (h n _ a o u _ _ _ (J [_,_] 0x290011140111001 L Y) y C V t.bar b6 λ S I l=>aH (B_ ..) (aH (Ba ..) (qz I.top (p4 I.top (df _) ?_)))))
 have af:=I.upd b.fresh.1 b.fresh.2 (.list ([]++[gy B]))
 have x:dw _ _ _:=⟨by rw[iW,af.top];rfl,λ i d=>by(injection d with a3;subst a3);exact(af.iI _ f9 ..).2.1⟩
 refine af.jw (cI λ j=>bC _ (J [_,_] 0x104400882228021114011100121c41 L s Y j)) (ae rfl) (λ D=>?_) (dk (cE (fX (x.len (show 1<=8000000 by decide) (bj (r:=true) rfl (cE (x.item (ae rfl) rfl (F _ _ _ (q _ af.forget l)))))))))
 rw[l] at D
 clear V q l;rcases bl with _|_
 case nil=>injection D
 case cons c r=>have:=t c r rfl;exact bC _ (J [_] 0x1044020f821842910c81 L (aL this) (aL ((e0 D).1).symm))
theorem To{ay:jz}{N bA:Nat}{iN mH:List Nat}{l v:List E}{g cV dG:Nat}{nm y G:List Nat}{A H:Nat}(B:7<=N)(C:yj ay N bA iN (.tup [gy l,.str (eA ay.f)]) g cV nm y A)(I:yj ay N bA mH (.tup [gy v,.str (eA ay.f)]) cV dG y G H):
  nt ay (N+1) bA (iN++124::mH) (.tup [.str [97,108,116],.lst [gy l,gy v]]) g dG nm G (A+H):=by
 intro n pr a o u e K bl Y O h V Q b6 q
 refine a7 (fu (k:=1) (cI λ m=>bC _ (J [_,_] 0x20880110445004a11100121c41 L B Y m))) λ n T=>?_;subst T
 rw[el] at V
 refine aH (Lk ..) (e2 (ae rfl) (md (λ bh ak M=>bh=1/\ay.P M _ a g o nm u/\ak=mN _ _ _ _\/bh=0/\∃b p,ay.P M ((e.next,.list [gy l])::pr) b cV o y (u+A)/\ay.t.drop b=mH++bl/\b=a+iN.length+1/\ak=mN (some (.ref ay.st)) (some (.str (eA ay.f))) (some (.ref e.next)) p) (λ bh ak aw d3 U R z W=>?_) (.inl ⟨rfl,h.new _,rfl⟩)))
 rcases U with⟨rfl,F,rfl⟩|⟨rfl,b,p,F,S,gi,rfl⟩
 ·refine aH (EB ..) (aH (A' ..) (C n _ a o u _ _ _ (J [_,_] 0x290011140111001 L Y) O F V (λ c r d=>by(injection d with a3 bL;subst a3 bL);exact .inl rfl) (J [_,_,_] 0x36ee808329000dbba020cc501001 L b6) λ X j w=>aH (B_ ..) (aH (Ba ..) (qz j.top (p4 j.top (df _) ?_)))))
  exact(j.upd h.fresh.1 h.fresh.2 _).lu (cI λ m=>bC _ (J [_,_] 0x104400882228021114011100121c41 L B Y m)) w (ae rfl) λ f6 x Z=>dk (bt (R 0 _ _ (ae rfl) (.inr ⟨rfl,_,_,x,Z,rfl,rfl⟩)).1)
 ·refine aH (EB ..) (aH (A' ..) (I n _ b o _ _ _ _ (J [_,_] 0x290011140111001 L Y) O F S Q.bar (J [_,_,_] 0xdbba020cc520000dbba020cc501001 L b6) λ X j w=>aH (B_ ..) (aH (Ba ..) (qz j.top (p4 j.top (show 1<=8000000 by decide) ?_)))))
  have s:=j.upd h.fresh.1 h.fresh.2 (.list ([gy l]++[gy v]))
  have aa:dw _ _ _:=⟨by rw[iW,s.top];rfl,λ i d=>by(injection d with a3;subst a3);exact(s.iI _ f9 ..).2.1⟩
  refine s.jw (cI λ m=>bC _ (J [_,_] 0x104400882228021114011100121c41 L B Y m)) (ae rfl) (λ D=>?_) (dk (cE (fX (aa.len (show 2<=8000000 by decide) (bj rfl (bt (An (ai:=[.str _]) s.top rfl rfl (show 2<=100 by decide) (W _ _ _ (q _ ?_ ?_)))))))))
  ·rw[w] at D
   clear V q R S;rcases bl with _|_
   case nil=>injection D
   case cons c r=>have:=Q c r rfl;exact bC _ (J [_] 0x1044020f821842910c81 L (aL this) (aL (e0 D).1.symm))
  ·have x:=(s.upd h.fresh.1 h.fresh.2 (.flist ([gy l]++[gy v]))).forget
   rw[show b+mH.length=a+(iN++124::mH).length by rw[bR];exact cB (J [_,_,_,_] 0x88e0300a039000088c500081 L (aL gi)) (J [_,_,_,_] 0x3980111c05010003044520001 L (aL gi.symm)),ez] at x
   exact x
  ·rw[show a+(iN++124::mH).length=b+mH.length by rw[bR];exact cB (J [_,_,_,_] 0x3980111c05010003044520001 L (aL gi.symm)) (J [_,_,_,_] 0x88e0300a039000088c500081 L (aL gi))]
   exact w
set_option tactic.hygienic false
theorem zk{ay:jz}{N bA:Nat}{w:List Nat}{v:E}{g bN:Nat}{nm l:List Nat}{m:Nat}(p:7<=N)(h:nt ay N bA w v g bN nm l m)(b:E):si ay 103 [.str (eA ay.f),b] Ff (N+1) (bA+1) (w++[41]) v g bN nm l m:=by
 intro n pr a o u e K bl Y s i V _ b6 q
 refine a7 (fu (k:=1) (cI λ j=>bC _ (J [_,_] 0x20880110445004a11100121c41 L p Y j))) λ n t=>?_;subst t
 rw[el] at V
 refine aH (adQ ..) (i.BB (wi (by lia) (bt (i.BB (iD (i.Ku rfl λ B C=>h n pr a (o+1) u _ _ _ (J [_,_] 0x290011140111001 L Y) (J [_,_] 0x2710ca111000004e21844501001 L s) C V λ c r d=>by(injection d with a3 bL;subst a3 bL);rfl b6 λ D I x=>I.BB (IP (I.Ku (p':=o) (by lia) λ F af=>af.lu (cI λ j=>bC _ (J [_,_] 0x104400882228021114011100121c41 L p Y j)) x (ae rfl) λ G y A=>dk (bt (q _ ?_ ?_))))))))))
 all_goals
  have d:a+(w++[41]).length=a+w.length+[41].length:=by rw[bR];exact(ez ..).symm
 ·exact rwl d y
 ·exact rwl d A
section
theorem B8(R:dq)(K:Loc->U->Prop)(e:U)(dc dY j:E)(a b c o d f g h i:Option E):d6 106 [] 1 R (.tup [dc,dY,j]) (h9 a b c o d f g h i) K e=K (h9 a b c (some dc) (some dY) (some j) g h i) e:=by kernel_rfl
theorem Hv(R:dq)(K:Loc->U->Prop)(e:U)(dc dY:E)(a b c o d f g h i:Option E):d6 106 [] 3 R (.tup [dc,dY]) (h9 a b c o d f g h i) K e=K (h9 a b c (some dc) d f (some dY) h i) e:=by kernel_rfl
noncomputable def kN:List (List Nat×Bool×Bool):=[([40,63,61],false,false),([40,63,33],false,true),([40,63,60,61],true,false),([40,63,60,33],true,true)]
theorem Gv:Gs=.lst (kN.map λ x=>.tup [.str x.1,.bool x.2.1,.bool x.2.2]):=by kernel_rfl
noncomputable def zK:List (List Nat×List Nat):=[([40,63,60],[62]),([40,63,80,60],[62]),([40,63,39],[39])]
theorem Vh:Gw=.lst (zK.map λ x=>.tup [.str x.1,.str x.2]):=by kernel_rfl
section
variable{ay:jz}{e:U}{a g o u:Nat}{pr:List (Nat×dm)}{nm:List Nat}{k:bo}{A:bo}
theorem zA(h:ay.P e pr a g o nm u){n:Nat}(Y:2<=n)(j:∀x∈kN,(ay.t.drop a).take x.1.length≠x.1)(q:∀b3 cX fx,bq 106 [] 2 (call n) (h9 (some (.ref ay.st)) (some (.str (eA ay.f))) (some (.int a)) b3 cX fx none none none) (eX A) e):call (n+1) 106 [.ref ay.st,.str (eA ay.f)] A e:=by
 refine aH (Ld ..) (h.at_ ?_)
 rw[Gv]
 refine k_ rfl (λ i ak M=>M=e/\∃b3 cX fx,ak=h9 _ _ _ b3 cX fx _ _ _) ⟨rfl,none,none,none,rfl⟩ (λ z z z z=>trivial) (λ i v ak M B c b k z z=>?_) λ ak M b=>?_
 ·refine LI b λ l b3 cX fx m=>?_;clear b;subst l;subst m
  rw[kb] at c
  refine ba (gS.mp c) λ x p r=>?_;clear c;subst r
  have d:=ka p
  have s:=by
   have:∀x∈kN,x.1.length<=10:=by decide
   exact this x d
  exact aH (B8 ..) (aH (A7 ..) (h.jw (ah (ae rfl) Y) s (j x d) (dk (bt (k _ _ ⟨rfl,_,_,_,rfl⟩).1))))
 ·refine LI b λ w b3 cX fx y=>?_;clear b;clear h;subst w;subst y
  exact f3 (q b3 cX fx)
theorem Zu(h:ay.P e pr a g o nm u){n:Nat}(Y:2<=n){w bl:List Nat}{b cW:Bool}(E:(w,b,cW)∈kN)(V:ay.t.drop a=w++bl)(q:∀M (K:bo),(∀v j,A v j->K v j)->ay.P M pr (a+w.length) g o nm u->ay.t.drop (a+w.length)=bl->call n 105 [.ref ay.st,.str (eA ay.f),.int a,.bool b,.bool cW] K M):call (n+1) 106 [.ref ay.st,.str (eA ay.f)] A e:=by
 refine aH (Ld ..) (h.at_ ?_)
 rw[Gv]
 refine a7 (List.mem_iff_getElem?.mp E) λ y dE=>?_
 have F:∀i x,i<y->kN[i]?=some x->(ay.t.drop a).take x.1.length≠x.1:=by
  intro i x p c D
  have r:=(iz.mp dE).1
  have:=((by decide:∀i<4,∀y<4,y<=i\/(kN[y]?.getD ([],false,false)).1.take (kN[i]?.getD ([],false,false)).1.length≠(kN[i]?.getD ([],false,false)).1/\(kN[i]?.getD ([],false,false)).1.length<=(kN[y]?.getD ([],false,false)).1.length) i (J [_,_] 0x208222000410445004a111001 L p r) y r).resolve_left λ k=>bC _ (J [_,_] 0x208804284a111001 L p k)
  rw[c,dE] at this
  have this:w.take _≠x.1/\x.1.length<=w.length:=this
  rw[V,List.take_append_of_le_length this.2] at D
  exact this.1 D
 refine k_ rfl (λ i ak M=>M=e/\i<=y/\∃b3 cX fx,ak=h9 _ _ _ b3 cX fx _ _ _) ⟨rfl,df _,none,none,none,rfl⟩ (λ z z z z=>trivial) (λ i v ak M S l d G z H=>?_) λ ak M d=>?_
 ·refine afy d λ N m b3 cX fx O=>?_;clear d;subst N;subst O
  rw[kb] at l
  refine ba (gS.mp l) λ x c Q=>?_;clear l;subst Q
  have s:=ka c
  have B:∀x∈kN,x.1.length<=10:=by decide
  rcases Nat.lt_or_eq_of_le m with C|rfl
  ·exact aH (B8 ..) (aH (A7 ..) (h.jw (ah (ae rfl) Y) (B x s) (F i x C c) (dk (bt (G _ _ ⟨rfl,C,_,_,_,rfl⟩).1))))
  ·rw[dE] at c
   obtain rfl:=cm c
   exact aH (B8 ..) (aH (A7 ..) (h.lu (ah (ae rfl) Y) V (B _ s) λ j I R=>dk (cE (q _ _ (λ v T af=>H _ _ _ af) I R))))
 ·exact e_ d λ z m z=>absurd m (λ k=>bC _ (J [_] 0x822010820904111001 L (iz.mp dE).1 k))
theorem JD(h:ay.P e pr a g o nm u){n:Nat}(Y:2<=n)(j:(ay.t.drop a).take 3≠[40,63,62])(k:∀x∈zK,(ay.t.drop a).take x.1.length≠x.1){b3 cX fx:Option E}(q:∀b3 kP,bq 106 [] 4 (call n) (h9 (some (.ref ay.st)) (some (.str (eA ay.f))) (some (.int a)) b3 cX fx kP none none) (eX A) e):
  bq 106 [] 2 (call n) (h9 (some (.ref ay.st)) (some (.str (eA ay.f))) (some (.int a)) b3 cX fx none none none) (eX A) e:=by
 refine aH (A8 ..) (h.jw (ah (ae rfl) Y) (ae rfl) j (dk (bt ?_)))
 rw[Vh]
 refine k_ rfl (λ i ak M=>M=e/\∃b3 kP,ak=h9 _ _ _ b3 cX fx kP _ _) ⟨rfl,_,none,rfl⟩ (λ z z z z=>trivial) (λ i v ak M B c b l z z=>?_) λ ak M b=>?_
 ·refine Ay b λ m b3 kP p=>?_;clear b;subst m;subst p
  rw[kb] at c
  refine ba (gS.mp c) λ x r s=>?_;clear c;subst s
  have d:=ka r
  exact aH (Hv ..) (aH (F5 ..) (h.jw (ah (ae rfl) Y) ((by decide:∀x∈zK,x.1.length<=10) x d) (k x d) (dk (bt (l _ _ ⟨rfl,_,_,rfl⟩).1))))
 ·refine Ay b λ w b3 kP y=>?_;clear b;clear h;subst w;subst y
  exact f3 (q b3 kP)
theorem vT{n:Nat}(h:ay.P e pr a g o nm u)(Y:1<=n){bl:List Nat}(V:ay.t.drop a=40::bl)(q:∀m,m+1=n->call m 106 [.ref ay.st,.str (eA ay.f)] A e)(b:2<=n):call n 101 [.ref ay.st,.str (eA ay.f)] A e:=by
 refine ba (J7 Y) λ n c d=>?_;subst c
 exact aH (Ao ..) (h.peek (J [_] 4540984167761985 L b) (by rw[V];rfl) (uD (cE (q n rfl))))
theorem qa{w r:List Nat}{t:List Nat}(h:t.drop a=w++r):t.drop (a+w.length)=r:=by rw[<-nM,h,List.drop_left]
theorem zv(a x H D:Nat)(w:List Nat):a+([x,H,D]++w).length=a+3+w.length:=by
 rewrite[bR,ez]
 rfl
theorem zw(a:Nat)(p w:List Nat):a+(p++w).length=a+p.length+w.length:=by rw[bR,ez]
theorem D2{N bA:Nat}{w:List Nat}{v:E}{bN:Nat}{s:List Nat}{y:Nat}(f:7<=N)(h:nt ay N bA w v g bN nm s y):lH ay (N+3) (bA+1) ([40,63,58]++(w++[41])) v g bN nm s y:=by
 intro n pr a o u e K bl Y O l V _ b6 q
 rw[el] at V
 refine vT l (cI λ b=>bC _ (J [_,_] 0x20880110445004a31100121c41 L f Y b)) V (λ m i=>a7 (⟨m-1,cB (d2 _ _) (dj (cI λ b=>bC _ (J [_,_,_] 0x8220044111801088c0284a31100121c41 L f Y (aL i.symm) b)))⟩:∃k,m=k+1) λ m B=>?_) (cI λ b=>bC _ (J [_,_] 0x20880210445004a31100121c41 L f Y b));subst B
 have tk:∀{x:List _},[40,63,58].take _≠x->x.length<=4->(x.length=4->[40,63,58]≠x.take 3)->(ay.t.drop a).take x.length≠x:=λ{x} C I af D=>by
  rw[V] at D
  by_cases j:x.length=4
  ·rw[j] at D
   refine af j ?_
   rw[<-D]
   rfl
  ·rw[List.take_append_of_le_length ((uo j).elim (λ p=>J [_] 0xc440104111001 L p) λ p=>J [_] 0xc44010222080120882 L I p)] at D
   exact C D
 refine zA l (cI λ b=>bC _ (J [_,_,_] 0x4110042088c00844111800284a31100121c41 L f Y (aL i.symm) b)) (λ x F=>tk (by revert x;decide) (by revert x;decide) (by revert x;decide)) λ b3 cX fx=>JD l (cI λ b=>bC _ (J [_,_,_] 0x4110042088c00844111800284a31100121c41 L f Y (aL i.symm) b)) (tk (x:=[40,63,62]) (by decide) (ae rfl) (by decide)) (λ x F=>tk (by revert x;decide) (by revert x;decide) (by revert x;decide)) λ b3 kP=>aH (F6 ..) (l.lu (cI λ b=>bC _ (J [_,_,_] 0x4110022088c00844111800284a31100121c41 L f Y (aL i.symm) b)) V (ae rfl) λ P I A=>dk (bt (I.flags (cI λ b=>bC _ (J [_,_,_] 0x4110042088c00844111800284a31100121c41 L f Y (aL i.symm) b)) (λ c r d=>by rw[A] at d;(injection d with a3 bL;subst a3 bL);exact⟨rfl,by decide⟩) λ Q af=>af.lu (cI λ b=>bC _ (J [_,_,_] 0x4110022088c00844111800284a31100121c41 L f Y (aL i.symm) b)) A (ae rfl) λ R j G=>dk (bt (zk f h _ m pr (a+3) o u _ _ _ (J [_,_,_] 0x6088800044111800284a311001 L Y (aL i.symm)) (by assumption) j G trivial b6 λ S H M=>gn (q _ ?_ ?_))))))
 ·rw[zv];exact H
 ·rw[zv];exact M
theorem TL{N bA:Nat}{w:List Nat}{v:E}{bN:Nat}{l:List Nat}{p:Nat}(c:7<=N)(h:nt ay N bA w v g bN nm l p)(r:fM v=true):lH ay (N+3) (bA+1) ([40,63,62]++(w++[41])) (.tup [.str pj,v]) g bN nm l p:=by
 intro n pr a o u e K bl Y F f V _ b6 q
 rw[el] at V
 refine vT f (cI λ b=>bC _ (J [_,_] 0x20880110445004a31100121c41 L c Y b)) V (λ m d=>a7 (⟨m-1,cB (d2 _ _) (dj (cI λ b=>bC _ (J [_,_,_] 0x8220044111801088c0284a31100121c41 L c Y (aL d.symm) b)))⟩:∃k,m=k+1) λ m s=>?_) (cI λ b=>bC _ (J [_,_] 0x20880210445004a31100121c41 L c Y b));subst s
 have tk:∀{x:List _},[40,63,62].take _≠x->x.length<=4->(x.length=4->[40,63,62]≠x.take 3)->(ay.t.drop a).take x.length≠x:=λ{x} C I af D=>by
  rw[V] at D
  by_cases i:x.length=4
  ·rw[i] at D
   refine af i ?_
   rw[<-D]
   rfl
  ·rw[List.take_append_of_le_length ((uo i).elim (λ j=>J [_] 0xc440104111001 L j) λ j=>J [_] 0xc44010222080120882 L I j)] at D
   exact C D
 refine zA f (cI λ b=>bC _ (J [_,_,_] 0x4110042088c00844111800284a31100121c41 L c Y (aL d.symm) b)) (λ x G=>tk (by revert x;decide) (by revert x;decide) (by revert x;decide)) λ b3 cX fx=>aH (A8 ..) (f.lu (cI λ b=>bC _ (J [_,_,_] 0x4110022088c00844111800284a31100121c41 L c Y (aL d.symm) b)) V (ae rfl) λ H I y=>dk (cE (zk c h _ m pr _ o u _ _ _ (J [_,_,_] 0x6088800044111800284a311001 L Y (aL d.symm)) (by assumption) I y trivial b6 λ M A B=>cb (cn (n:=2) (ae rfl)) (by show(true&&fM v&&true)=true;rw[r];rfl) (gn (q _ ?_ ?_)))))
 ·rw[zv];exact A
 ·rw[zv];exact B
set_option tactic.hygienic true in
theorem Zv{N bA:Nat}{p w:List Nat}{v:E}{b cW:Bool}{j:Nat}{bN:Nat}{s:List Nat}{t:Nat}(f:7<=N)(y:(p,b,cW)∈kN)(h:nt ay N bA w v g bN nm s t)(F:fM v=true)(G:b=true->∀n e (K:bo),N<=n->K (.int j) e->call n 90 [v] K e)(O:b=false->j=0):
  lH ay (N+4) (bA+1) (p++(w++[41])) (.tup [.str qE,v,.bool b,.bool cW,.int j]) g bN nm s t:=by
 intro n pr a o u e K bl Y aB A V _ b6 q
 rw[el] at V
 have l:∃r,p=40::r:=by
  have:∀x∈kN,∃r,x.1=40::r:=by
   intro x P
   have d:∀x∈kN,x.1.head?=some 40:=by decide
   have d:=d x P
   rcases C:x.1 with _|_
   case nil=>rw[C] at d;exact a8 d
   case cons H r=>rw[C] at d;obtain rfl:=cm d;exact⟨r,rfl⟩
  exact this _ y
 refine a7 l λ es l=>vT A (cI λ c=>bC _ (J [_,_] 0x20880110445004a41100121c41 L f Y c)) (by rw[V,l];rfl) (λ m i=>a7 (⟨m-1,cB (d2 _ _) (dj (cI λ c=>bC _ (J [_,_,_] 0x8220044111801088c0284a41100121c41 L f Y (aL i.symm) c)))⟩:∃k,m=k+1) λ m Q=>?_) (cI λ c=>bC _ (J [_,_] 0x20880210445004a41100121c41 L f Y c));subst Q
 refine Zu A (cI λ c=>bC _ (J [_,_,_] 0x4110042088c00844111800284a41100121c41 L f Y (aL i.symm) c)) y V λ aS SK R I S=>a7 (⟨m-1,cB (d2 _ _) (dj (cI λ c=>bC _ (J [_,_,_] 0x4110022088c00844111800284a41100121c41 L f Y (aL i.symm) c)))⟩:∃k,m=k+1) λ m T=>?_;subst T
 refine aH (adS ..) (zk f h _ m pr _ o u _ _ _ (J [_,_,_] 0x30444000220882230000284a411001 L Y (aL i.symm)) (by assumption) I S trivial b6 λ U af W=>mz (λ r M=>r=.int j/\M=U) (λ bk B=>dk (jM (λ d=>G d m _ _ (J [_,_,_] 0x6200220882230000284a411001 L Y (aL i.symm)) (B _ _ ⟨rfl,rfl⟩)) λ d=>B _ _ ⟨by rw[O d];rfl,rfl⟩)) λ r M D=>bf D λ X Z=>?_);clear D;subst X;subst Z
 refine rM (jG.mpr (i5 _)) (bt (cb (cn (n:=5) (ae rfl)) (by show(true&&fM v&&(true&&true&&true&&true))=true;rw[F];rfl) (R _ _ (q _ ?_ ?_))))
 ·rw[zw a p];exact af
 ·rw[zw a p];exact W
end
end
section
section
variable{ay:jz}{e:U}{a g o u:Nat}{pr:List (Nat×dm)}{nm:List Nat}{k:bo}{A:bo}
theorem BJ:∀{nm:List Nat}{B:List E}{n:Nat}{v:E},n<1000->(∀x∈nm,x<1000)->n∉nm->B.length=nm.length->kg (nm.map dQ) B (dQ n) v=(nm.map dQ++[dQ n],B++[v])/\hW (nm.map dQ) B (dQ n)=none
 |[],[],n,v,_,_,_,_=>⟨rfl,rfl⟩
 |x::nm,H::B,n,v,Y,a,b,c=>by
  obtain⟨e,f⟩:=BJ Y (λ D hz=>a D (gU _ hz)) (λ D=>b (gU _ D)) (Nat.succ.inj c)
  have d:=fF.mpr λ D=>b (rwl (zJ Y (a x f9 ..) D) (f9 ..))
  constructor
  ·show(match dQ n==dQ x with|true=>(dQ x::nm.map _,v::B)|false=>(dQ x::(kg _ B _ v).1,H::(kg _ B _ v).2))=_
   rw[d,e]
   rfl
  ·show(match dQ n==dQ x with|true=>some H|false=>hW _ B _)=_
   exact rwl d f
 |[],_::_,_,_,_,_,_,h=>(Nat.noConfusion h)
 |_::_,[],_,_,_,_,_,h=>(Nat.noConfusion h)
theorem acf{R:dq}{i:Nat}{az:List (List Nat)}{B:List E}{x:List Nat}{v:E}(h:e.get i=some (.dict az B))(a:az.length<=1000)(Y:hW az B x=none)(q:k v (e.upd i (.dict (kg az B x v).1 (kg az B x v).2))):bY R .setdefault (.ref i) [.str x,v] k e:=by
 unfold bY
 simp only[h]
 exact⟨a,rwl Y q⟩
theorem hp.len{lo st aZ a_:Nat}{nm:List Nat}{B:List E}(h:hp e lo st aZ a_ nm B):B.length=nm.length:=
 h.ind (bh:=λ nm B=>B.length=nm.length) rfl λ z z z z z z z z a=>bB _ a
theorem hp.snoc{lo st aZ a_ r n:Nat}{nm:List Nat}{B:List E}(h:hp e lo st aZ a_ nm B)(C:e.get r=some (.list [.int n]))(I:r<e.next)(af:lo<=r)(a:r≠st)(b:r≠aZ)(c:r≠a_):hp e lo st aZ a_ (nm++[n]) (B++[.ref r]):=
 h.ind (bh:=λ nm B=>hp e lo st aZ a_ (nm++[n]) (B++[E.ref r])) ⟨⟨r,rfl,.inl C,I,af,a,b,c⟩,trivial⟩ λ n nm r B dG d f z g=>⟨⟨r,rfl,dG,d,f⟩,g⟩
theorem Te(h:ay.P e pr a g o nm u){m n:Nat}(S:1<=m)(Y:n<1000)(w:∀x∈nm,x<1000)(A:n∉nm)(D:nm.length<=1000){y:U->Prop}(q:∀M,ay.P M pr a g o (nm++[n]) u->y M):
  (a6 (.ref ay.st) oo λ k=>(b0 k vw λ F=>(dI [] λ G=>(bY (call m) F k [.str (dQ n),G] λ l=>(b0 l jx λ H=>(bY (call m) H l [.int n] λ T=>y)))))) e:=by
 refine ox h.ex λ B cF r t J K L N=>?_
 refine h.DC (Ju r (e2 (ae rfl) ?_))
 have d:=Fr.alloc (λ z=>False) e (.list [])
 obtain⟨bG,O⟩:=BJ Y w A t.len
 have b:∀i,i<e.next->i≠e.next:=λ i Q=>e' Q
 refine acf (d.get r h.I id) (by rw[cM];exact D) O ?_
 rw[bG]
 have jQ:((e.alloc _).upd _ (.dict (nm.map dQ++[dQ n]) (B++[.ref e.next]))).get _=some (.list []):=(ef (b _ h.I).symm).trans (fR ..)
 refine qz jQ (p4 jQ (df _) (q _ ?_))
 have f:∀i,i<e.next->i≠ay.aZ->(((e.alloc (.list [])).upd _ (.dict (nm.map dQ++[dQ n]) (B++[.ref e.next]))).upd _ (.list ([]++[E.int n]))).get i=e.get i:=λ i C I=>(ef (b i C)).trans ((ef I).trans (iB (b i C)))
 exact{
  ex:=by
   refine cv (B++[.ref e.next]) cF ⟨?_,?_,(f _ h.af h.fL.symm).trans J,K,L,λ s j c=>?_⟩
   ·exact e8▸(ef (b _ h.I)).trans (dH ..)
   ·exact(t.ext (λ i C z af z=>f i C af) (hq _)).snoc (dH ..) (eo _) h.fr.next (b _ h.C).symm (b _ h.I).symm (b _ h.af).symm
   ·rcases fH.mp c with c|c
    ·exact N s j c
    ·have:=fG.mp c
     injection this with this
     exact((b _ (h.iI s j).2.1) this).elim
  p:=(f _ h.C h.cC).trans h.p
  cC:=h.cC
  di:=h.di
  fL:=h.fL
  C:=j' h.C
  I:=j' h.I
  af:=j' h.af
  aX:=h.aX
  bS:=h.bS
  dv:=h.dv
  iI:=λ s j=>vD (h.iI s j) λ a3 bL g9 v R=>⟨(f _ bL v).trans a3,j' bL,g9,v,R⟩
  fr:=((h.fr.trans d).j3 h.bS).j3 h.fr.next
  iM:=h.iM
  al:=h.al}
theorem Jj(a x H D c:Nat)(j w:List Nat):a+([x,H,D]++(j++c::w)).length=a+[x,H,D].length+j.length+1+w.length:=by
 simp only[bR,fW,iQ];exact cB (J [_,_,_] 0x6088a1104411004000080000011180500441104401000001000 L) (J [_,_,_] 0x11180500441104401000001006088a110441100400008000000 L)
theorem Gz{N bA:Nat}{w:List Nat}{v:E}{bN:Nat}{c r:List Nat}{d:Nat}{name:List Nat}(i:7<=N)(h:nt ay N bA w v (g+1) bN c r d)(y:fM v=true)(B:g+1<1000)(D:∀x∈nm,x<1000)(F:nm.length<=1000)(G:(name=[]/\c=nm)\/(name=dQ (g+1)/\c=nm++[g+1]/\g+1∉nm)){m:Nat}(j:N+2<=m){bl:List Nat}{b:E}(H:o+(bA+1)<=39)(s:ay.P e pr a g o nm u)(V:ay.t.drop a=w++[41]++bl)(b6:u+d<=900000)
  (q:∀M,ay.P M pr (a+(w++[41]).length) bN o r (u+d)->ay.t.drop (a+(w++[41]).length)=bl->A (.tup [.str jW,.int ((g+1:Nat):Int),v]) M):call m 104 [.ref ay.st,.str (eA ay.f),b,.str name] A e:=by
 refine a7 (⟨m-1,cB (d2 _ _) (dj (cI λ l=>bC _ (J [_,_] 0x20880110445004a21100121c41 L i j l)))⟩:∃k,m=k+1) λ m K=>?_;subst K
 refine aH (adR ..) (s.n0 (iD (s.acb (bN:=g+1) rfl (hq g) λ S C=>C.n0 ?_)))
 have fin:∀p,ay.P _ pr a _ o _ u->(call m _ _ λ O=>b9 [.str _,.int _,O] _) _:=λ p I=>zk i h b m pr a o u p _ _ (J [_,_] 0x1422200011140211001 L j) H I V trivial b6 λ T af Q=>cb (cn (n:=3) (ae rfl)) (by show(true&&true&&(fM v&&true))=true;rw[y];rfl) (q _ af Q)
 rcases G with⟨rfl,rfl⟩|⟨rfl,rfl,R⟩
 ·exact bj rfl (bt (fin _ C))
 ·exact bj rfl (cE (Te C (cI λ l=>bC _ (J [_,_] 0x104400882228021114021100121c41 L i j l)) B D R F λ p I=>fin _ I))
set_option tactic.hygienic true in
theorem Xy{N bA:Nat}{w:List Nat}{v:E}{bN:Nat}{p:List Nat}{s:Nat}(j:7<=N)(h:nt ay N bA w v (g+1) bN nm p s)(A:fM v=true)(B:g+1<1000)(F:∀x∈nm,x<1000)(G:nm.length<=1000)(M:∀c r,w++[41]=c::r->c≠63):
  lH ay (N+4) (bA+1) ([40]++(w++[41])) (.tup [.str jW,.int ((g+1:Nat):Int),v]) g bN nm p s:=by
 intro n pr a o u e K bl Y O i V _ b6 q
 refine vT i (cI λ f=>bC _ (J [_,_] 0x20880110445004a41100121c41 L j Y f)) V (λ m l=>?_) (cI λ f=>bC _ (J [_,_] 0x20880210445004a41100121c41 L j Y f))
 obtain⟨m,rfl⟩:∃k,m=k+1:=⟨m-1,cB (d2 _ _) (dj (cI λ f=>bC _ (J [_,_,_] 0x8220044111801088c0284a41100121c41 L j Y (aL l.symm) f)))⟩
 obtain⟨c,r,d⟩:∃c r,w++[41]=c::r:=by
  rcases w with _|_
  case nil=>exact cv _ _ rfl
  case cons c r=>exact cv _ _ rfl
 have y:=M c r d
 have tk:∀{x:List _},(∃H r,x=40::63::H::r\/x=[40,63])->(ay.t.drop a).take x.length≠x:=λ{x} b D=>by
  rw[V,d] at D
  obtain⟨H,ej,rfl|rfl⟩:=b
  ·have:=(e0 (e0 D).2).1
   exact y this
  ·have:=(e0 (e0 D).2).1
   exact y this
 have P:∀x∈kN,∃H r,x.1=40::63::H::r\/x.1=[40,63]:=by
  intro x b
  rcases ew.mp b with rfl|b
  ·exact cv _ _ (.inl rfl)
  rcases ew.mp b with rfl|b
  ·exact cv _ _ (.inl rfl)
  rcases ew.mp b with rfl|b
  ·exact cv _ _ (.inl rfl)
  obtain rfl:=fG.mp b
  exact cv _ _ (.inl rfl)
 have Q:∀x∈zK,∃H r,x.1=40::63::H::r\/x.1=[40,63]:=by
  intro x b
  rcases ew.mp b with rfl|b
  ·exact cv _ _ (.inl rfl)
  rcases ew.mp b with rfl|b
  ·exact cv _ _ (.inl rfl)
  obtain rfl:=fG.mp b
  exact cv _ _ (.inl rfl)
 refine zA i (cI λ f=>bC _ (J [_,_,_] 0x4110042088c00844111800284a41100121c41 L j Y (aL l.symm) f)) (λ x b=>tk (P x b)) λ b3 cX fx=>JD i (cI λ f=>bC _ (J [_,_,_] 0x4110042088c00844111800284a41100121c41 L j Y (aL l.symm) f)) (tk (x:=[40,63,62]) (cv _ _ (.inl rfl))) (λ x b=>tk (Q x b)) λ b3 kP=>?_
 refine aH (F6 ..) (i.jw (cI λ f=>bC _ (J [_,_,_] 0x4110022088c00844111800284a41100121c41 L j Y (aL l.symm) f)) (ae rfl) (tk ⟨0,[],.inr rfl⟩) (dk (cE (i.at_ (iD (i.h5 rfl (sM V i.al).2 λ S C=>Gz j h A B F G (.inl ⟨rfl,rfl⟩) (J [_,_,_] 0x6108800044111800284a411001 L Y (aL l.symm)) O C (sM V i.al).1 b6 λ T I R=>gn (q _ ?_ ?_)))))))
 ·rw[zw a _];exact I
 ·rw[zw a _];exact R
theorem aac{N bA:Nat}{w:List Nat}{v:E}{bN:Nat}{j:List Nat}{l:Nat}(c:7<=N)(h:nt ay N bA w v (g+1) bN (nm++[g+1]) j l)(p:fM v=true)(i:g+1<1000)(r:∀x∈nm,x<1000)(s:nm.length<=1000)(y:g+1∉nm):
  lH ay (N+4) (bA+1) ([40,63,60]++(dQ (g+1)++62::(w++[41]))) (.tup [.str jW,.int ((g+1:Nat):Int),v]) g bN nm j l:=by
 intro n pr a o u e K bl Y A f V _ b6 q
 rw[el] at V
 refine vT f (cI λ b=>bC _ (J [_,_] 0x20880110445004a41100121c41 L c Y b)) V (λ m d=>?_) (cI λ b=>bC _ (J [_,_] 0x20880210445004a41100121c41 L c Y b))
 obtain⟨m,rfl⟩:∃k,m=k+1:=⟨m-1,cB (d2 _ _) (dj (cI λ b=>bC _ (J [_,_,_] 0x8220044111801088c0284a41100121c41 L c Y (aL d.symm) b)))⟩
 have tk:∀{x:List _},[40,63,60,110].take _≠x->x.length<=4->(ay.t.drop a).take _≠x:=λ{x} C I D=>by
  rw[V,show[40,63,60]++(dQ _++62::(w++[41])++bl)=[40,63,60,110]++(fj _++62::(w++[41])++bl) from rfl,List.take_append_of_le_length I] at D
  exact C D
 refine zA f (cI λ b=>bC _ (J [_,_,_] 0x4110042088c00844111800284a41100121c41 L c Y (aL d.symm) b)) (λ x O=>tk (by revert x;decide) (by revert x;decide)) λ b3 cX fx=>aH (A8 ..) (f.jw (cI λ b=>bC _ (J [_,_,_] 0x4110022088c00844111800284a41100121c41 L c Y (aL d.symm) b)) (ae rfl) (tk (by decide) (ae rfl)) (dk (bt ⟨trivial,aH (Hv ..) (aH (F5 ..) (f.lu (cI λ b=>bC _ (J [_,_,_] 0x4110022088c00844111800284a41100121c41 L c Y (aL d.symm) b)) (w:=[40,63,60]) (bl:=dQ _++62::(w++[41]++bl)) (by rw[V];simp) (ae rfl) λ P C B=>dk (cE (C.until (cI λ b=>bC _ (J [_,_,_] 0x4110022088c00844111800284a41100121c41 L c Y (aL d.symm) b)) B ?_ λ Q I F=>JC i (cI λ b=>bC _ (J [_,_,_] 0x4110042088c00844111800284a41100121c41 L c Y (aL d.symm) b)) λ R G=>dk (bt ?_)))))⟩)))
 ·intro D
  rcases ew.mp D with D|D
  ·exact absurd D (by decide)
  ·have:=(sI i).1 62 D
   exact bC _ (J [] 0x104400e8430883e10c01 L this.2)
 ·refine Gz c h p i r s (.inr ⟨rfl,rfl,y⟩) (J [_,_,_] 0x6108800044111800284a411001 L Y (aL d.symm)) A (I.ext G) F b6 λ S H M=>q _ ?_ ?_
  ·rw[Jj];exact H
  ·rw[Jj];exact M
theorem afn{n k:Nat}{f:Bool}(q:A (.int 1) e):call (n+1) 90 [gX f k] A e:=by
 have:∀t l,(match t==[115,105,103,110],t==[97,110,121],t==[115,101,116] with|a,b,c=>a||(b||c))=true->call (n+1) 90 [.tup (.str t::l)] A e:=λ t l cZ=>by
  refine aH (EH ..) (bz rfl (cb (ae rfl) rfl (bj ?_ (cE q))))
  show some ([115,105,103,110]==t||([97,110,121]==t||([115,101,116]==t||false)))=some _
  rw[Bool.or_false,p1,p1 (b:=t),p1 (b:=t)]
  exact bB _ cZ
 refine nc ?_ ?_ ?_ ?_ ?_ (λ z=>?_) k<;>exact this _ _ rfl
theorem Tz(aV:List Nat):jK (.int (-1)) (aV.map λ w=>E.int (w:Nat))=some false:=by
 induction aV with
 |nil=>rfl
 |cons w aV a=>
  show(match some ((w:Int)==-1),jK _ _ with|some x,some H=>some _|_,_=>none)=_
  rw[a]
  rfl
theorem IU(aV:List Nat):qs (aV.map λ w=>E.int (w:Nat))=some (aV.map λ(w:Nat)=>(w:Int))/\(aV.map λ(w:Nat)=>(w:Int)).sum=((aV.sum:Nat):Int):=by
 induction aV with
 |nil=>exact⟨rfl,rfl⟩
 |cons w aV a=>
  constructor
  ·show(qs _).map _=_
   rw[a.1];rfl
  ·rw[jH,List.sum_cons,a.2];exact k3.mpr (cB (J [_,_] 5503094784 L) (J [_,_] 5503094784 L))
theorem LA{n:Nat}{l:List E}{aV:List Nat}(c:l.length=aV.length)(g:aV.length<=1000)(h:∀(i:Nat)(x:E)(w:Nat),l[i]?=some x->aV[i]?=some w->∀K:bo,K (.int w) e->call n 90 [x] K e)(q:A (.int aV.sum) e):call (n+1) 90 [gy l] A e:=by
 refine aH (EH ..) (bz rfl (cb (ae rfl) rfl (bj (r:=false) rfl (bt (cb (ae rfl) rfl (bj (r:=false) rfl (bt (bj rfl (bt (bj rfl (bt (d_ (bj rfl (iX (bj rfl (iX (bt (bz rfl (sH rfl (λ i a M=>M=e/\a=(aV.take i).map λ w=>E.int (w:Nat)) ⟨rfl,rfl⟩ (λ z z z z=>trivial) (λ i x a j m d b k=>?_) λ a j b=>?_)))))))))))))))))))
 ·obtain⟨rfl,rfl⟩:=b
  have f:i<aV.length:=by rw[<-c];exact(iz.mp d).1
  refine⟨?_,h i x _ d (hK f) _ (k _ _ ⟨rfl,?_⟩)⟩
  ·rw[cM];exact ah (sz ..) (ah g (ae rfl))
  ·rw[lL,hK f,e8];rfl
 ·obtain⟨rfl,rfl⟩:=b
  rw[c,nL]
  refine bj rfl (cE (fX (bj (Tz aV) (bt (lN ?_ q)))))
  show(qs _).map _=_
  exact rwl ((IU aV).1) (bB (λ D=>some _) (IU aV).2)
end
end
noncomputable def tq:Nat->List Nat
 |0=>[97]
 |1=>[98]
 |2=>[46]
 |3=>[91,97,98,93]
 |4=>[92,119]
 |_=>[91,94,97,93]
noncomputable def w3(b cW:Bool):List Nat:=match b,cW with
 |false,false=>[40,63,61]
 |false,true=>[40,63,33]
 |true,false=>[40,63,60,61]
 |true,true=>[40,63,60,33]
noncomputable def er:br->List Nat
 |.rounds x _ _=>er x
 |.group n r b=>(if b then[n] else[])++er r
 |.d4 ab aU=>er ab++er aU
 |.atomic r=>er r
 |.look x _ _=>er x
 |.cons x r=>er x++er r
 |_=>[]
noncomputable def cF:br->List Nat->List Nat
 |.one k,_=>tq k
 |.place w,_=>rX w
 |.rounds x c m,nm=>(if kL x then cF x nm else[40,63,58]++(cF x nm++[41]))++((f' c).2.2++ju m)
 |.group n r b,nm=>if b then[40,63,60]++(dQ n++62::(cF r (nm++[n])++[41])) else[40]++(cF r nm++[41])
 |.again n a,nm=>if a=1/\n∈nm then 92::107::60::(dQ n++[62]) else if a=0/\n<10 then[40,63,58]++((92::fj n)++[41]) else 92::103::123::(fj n++[125])
 |.d4 ab aU,nm=>[40,63,58]++((cF ab nm++124::cF aU (nm++er ab))++[41])
 |.atomic r,nm=>[40,63,62]++(cF r nm++[41])
 |.look x w cW,nm=>w3 w.isSome cW++(cF x nm++[41])
 |.nil,_=>[]
 |.cons x r,nm=>cF x nm++cF r (nm++er x)
theorem xt{n a:Nat}{nm:List Nat}:cF (.again n a) nm=if a=1/\n∈nm then 92::107::60::(dQ n++[62]) else if a=0/\n<10 then[40,63,58]++((92::fj n)++[41]) else 92::103::123::(fj n++[125]):=rfl
noncomputable def h3:br->Nat
 |.again _ _=>1
 |.rounds x _ _=>h3 x
 |.group _ r _=>h3 r
 |.d4 ab aU=>h3 ab+h3 aU
 |.atomic r=>h3 r
 |.look x _ _=>h3 x
 |.cons x r=>h3 x+h3 r
 |_=>0
noncomputable def eS:br->Nat
 |.again _ _=>1
 |.rounds x _ _=>eS x+1
 |.group _ r _=>eS r+1
 |.d4 ab aU=>max (eS ab) (eS aU)+1
 |.atomic r=>eS r+1
 |.look x _ _=>eS x+1
 |.cons x r=>max (eS x) (eS r)
 |_=>0
noncomputable def Short:br->Prop
 |.rounds x _ _=>Short x
 |.group _ r _=>Short r/\gP r<=3
 |.d4 ab aU=>(Short ab/\gP ab<=3)/\Short aU/\gP aU<=3
 |.atomic r=>Short r/\gP r<=3
 |.look x _ _=>Short x/\gP x<=3
 |.cons x r=>Short x/\Short r
 |_=>True
theorem rk{f:Bool}:∀x:br,(nS f x).length=gP x
 |.cons x r=>bB _ (rk r)
 |.one _=>rfl
 |.place _=>rfl
 |.rounds _ _ _=>rfl
 |.group _ _ _=>rfl
 |.again _ _=>rfl
 |.d4 _ _=>rfl
 |.atomic _=>rfl
 |.look _ _ _=>rfl
 |.nil=>rfl
theorem rY{f:Bool}{x:br}(h:d5 x=true):e1 f x=gy (nS f x):=by
 rcases x with _|_<;>first|rfl|exact cq h
def Fy(c:Nat):Prop:=c=97\/c=98\/c=46\/c=91\/c=92\/c=94\/c=36
theorem XQ{c:Nat}(h:Fy c):(c≠124/\c≠41)/\(c≠42/\c≠43/\c≠63/\c≠123/\(c<48\/57<c))/\c≠40:=by
 rcases h with h|h|h|h|h|h|h<;>(rw[h];decide)
theorem nj{c:Nat}{r:List Nat}(h:Fy c):pR (c::r):=
 have k:=XQ h
 ⟨(cv c r ⟨rfl,k.1.1,k.1.2⟩),⟨λ a ej d=>(rwr ((e0 d).1) k.2.1),λ D=>k.2.2 (e0 D).1⟩,λ D=>(k.2.2 (e0 D).1).elim⟩
theorem qP{c:Nat}{r:List Nat}(h:c=58\/c=60\/c=62\/c=61\/c=33):pR (40::63::c::r):=by
 refine⟨(cv 40 _ ⟨rfl,by decide,by decide⟩),⟨λ a ej d=>by(injection d with a3 bL;subst a3 bL);decide,λ D=>?_⟩,λ z a ej d=>?_⟩
 ·have:=(e0 (e0 (e0 D).2).2).1;lia
 ·(injection d with a3 bL;subst a3 bL)
  rcases h with rfl|rfl|rfl|rfl|rfl<;>exact⟨rfl,by decide⟩
theorem aci{c:Nat}{r:List Nat}(h:c≠63):pR (40::c::r):=by
 refine⟨(cv 40 _ ⟨rfl,by decide,by decide⟩),⟨λ a ej d=>by(injection d with a3 bL;subst a3 bL);decide,λ D=>?_⟩,λ D=>?_⟩
 ·exact h (e0 (e0 D).2).1
 ·exact(h (e0 (e0 D).2).1).elim
theorem acx{x:br}{nm:List Nat}{g:Nat}(h:gB x g)(e:d5 x=false):∃c r,cF x nm=c::r/\c≠63:=by
 induction x generalizing nm g with
 |nil=>injection e
 |cons _ _=>injection e
 |one k=>exact u9 (P:=λ k=>∃c r,tq k=c::r/\c≠63) h (cv _ _ ⟨rfl,by decide⟩) (cv _ _ ⟨rfl,by decide⟩) (cv _ _ ⟨rfl,by decide⟩) (cv _ _ ⟨rfl,by decide⟩) (cv _ _ ⟨rfl,by decide⟩) (cv _ _ ⟨rfl,by decide⟩)
 |place w=>exact rL (P:=λ w=>∃c r,rX w=c::r/\c≠63) h (cv _ _ ⟨rfl,by decide⟩) (cv _ _ ⟨rfl,by decide⟩) (cv _ _ ⟨rfl,by decide⟩)
 |rounds x c m f=>
  refine fA (f (nm:=nm) h.2.2.2 h.2.2.1) λ l r d i=>?_
  show∃j ej,(if kL x then cF x nm else[40,63,58]++(cF x nm++[41]))++((f' c).2.2++ju m)=j::ej/\_
  split
  ·rw[d];exact cv _ _ ⟨rfl,i⟩
  ·exact cv _ _ ⟨rfl,by decide⟩
 |group n r b _=>rcases b with _|_<;>exact cv _ _ ⟨rfl,by decide⟩
 |again n a=>
  rw[xt]
  split
  ·exact cv _ _ ⟨rfl,by decide⟩
  ·split<;>exact cv _ _ ⟨rfl,by decide⟩
 |d4 _ _ _ _=>exact cv _ _ ⟨rfl,by decide⟩
 |atomic _ _=>exact cv _ _ ⟨rfl,by decide⟩
 |look x p cW _=>clear h e;rcases p with _|_<;>rcases cW with _|_<;>exact cv _ _ ⟨rfl,by decide⟩
set_option tactic.hygienic true
theorem Kj{x:br}{nm:List Nat}{g:Nat}(h:gB x g)(V:d5 x=true):∀c r,cF x nm++[41]=c::r->c≠63:=by
 intro c r d
 rcases x with _|_
 case nil=>(injection d with a3 bL;subst a3 bL);decide
 case cons x H=>
  refine fA (acx (nm:=nm) h.2.1 h.1.1) λ e ej a b=>?_
  rw[show cF _ nm=cF x nm++cF H _ from rfl,a] at d
  (injection d with a3 bL;subst a3 bL)
  exact b
 all_goals exact cq V
theorem Eh{x:br}{nm:List Nat}{g:Nat}(h:gB x g)(e:d5 x=false)(bl:List Nat):pR (cF x nm++bl):=by
 induction x generalizing nm g bl with
 |nil=>injection e
 |cons _ _=>injection e
 |one k=>exact u9 (P:=λ k=>pR (tq k++bl)) h (nj (.inl rfl)) (nj (.inr (.inl rfl))) (nj (.inr (.inr (.inl rfl)))) (nj (.inr (.inr (.inr (.inl rfl))))) (nj (.inr (.inr (.inr (.inr (.inl rfl)))))) (nj (.inr (.inr (.inr (.inl rfl)))))
 |place w=>exact rL (P:=λ w=>pR (rX w++bl)) h (nj (.inr (.inr (.inr (.inr (.inr (.inl rfl))))))) (nj (.inr (.inr (.inr (.inr (.inr (.inr rfl))))))) (nj (.inr (.inr (.inr (.inr (.inl rfl))))))
 |rounds x c m f=>
  by_cases i:kL x=true
  ·have d:cF (.rounds x c m) nm=cF x nm++((f' c).2.2++ju m):=by
    show(if kL x then cF x nm else _)++_=_
    rw[aT i]
   rw[d,el]
   exact f h.2.2.2 h.2.2.1 _
  ·have d:cF (.rounds x c m) nm=([40,63,58]++(cF x nm++[41]))++((f' c).2.2++ju m):=by
    show(if kL x then cF x nm else _)++_=_
    rw[a9 i]
   rw[d]
   exact qP (.inl rfl)
 |group n r b f=>
  rcases b with _|_
  case true=>exact qP (.inr (.inl rfl))
  case false=>
   show pR (40::(cF r nm++[41])++bl)
   rcases d:cF r nm++[41] with _|_
   case nil=>exact absurd d (by simp)
   case cons c ej=>exact aci (Kj h.2.2 h.2.1 c ej d)
 |again n a=>
  rw[xt]
  split
  ·exact nj (.inr (.inr (.inr (.inr (.inl rfl)))))
  ·split
   ·exact qP (.inl rfl)
   ·exact nj (.inr (.inr (.inr (.inr (.inl rfl)))))
 |d4 _ _=>exact qP (.inl rfl)
 |atomic _=>exact qP (.inr (.inr (.inl rfl)))
 |look x p cW=>
  clear h e;rcases p with _|_<;>rcases cW with _|_
  ·exact qP (.inr (.inr (.inr (.inl rfl))))
  ·exact qP (.inr (.inr (.inr (.inr rfl))))
  ·exact qP (.inr (.inl rfl))
  ·exact qP (.inr (.inl rfl))
set_option tactic.hygienic false
theorem DH{a b:List Nat}{g u v:Nat}(C:∀n∈a,g<n/\n<=g+u)(I:∀n∈b,g+u<n/\n<=g+u+v):∀n∈a++b,g<n/\n<=g+(u+v):=λ n h=>
 (fH.mp h).elim (λ h=>⟨(C n h).1,J [_,_,_,_] 0x398050100628081 L (C n h).2⟩) λ h=>⟨J [_,_,_] 0xc1110003044520001 L (I n h).1,J [_,_,_,_] 0xe60140401cc500081 L (I n h).2⟩
theorem qB(x:br)(g:Nat)(a:gB x g):∀n∈er x,g<n/\n<=g+dX x:=by
 induction x generalizing g with
 |one _=>exact λ z h=>(gh h).elim
 |place _=>exact λ z h=>(gh h).elim
 |again _ _=>exact λ z h=>(gh h).elim
 |nil=>exact λ z h=>(gh h).elim
 |rounds x _ _ c=>exact c g a.2.2.2
 |group m r b c=>
  refine DH (λ n h=>?_) (c _ a.2.2)
  rcases b with _|_
  ·cases h
  ·rw[fG.mp h,a.1];exact⟨eo g,bx _⟩
 |d4 ab aU d e=>exact DH (d g a.2.1) (e _ a.2.2)
 |atomic r c=>exact c g a.2
 |look x p _ c=>rcases p with _|_<;>exact c g a.2
 |cons x r d e=>exact DH (d g a.2.1) (e _ a.2.2)
theorem DI(x:br):(er x).length<=dX x:=by
 induction x with
 |one _=>exact bx 0
 |place _=>exact bx 0
 |again _ _=>exact bx 0
 |nil=>exact bx 0
 |rounds _ _ _ a=>exact a
 |group m r b a=>
  show((if b then[m] else[])++er r).length<=1+dX r
  rw[bR]
  refine fV ?_ a
  rcases b with _|_
  ·exact df _
  ·exact bx _
 |d4 ab aU c d=>exact ah (jF bR ..) (fV c d)
 |atomic _ a=>exact a
 |look _ _ _ a=>exact a
 |cons x r c d=>exact ah (jF bR ..) (fV c d)
section
section
variable{ay:jz}
theorem si.mono{k:Nat}{args:List E}{ok:List Nat->Prop}{N ku bA oI:Nat}{w:List Nat}{v:E}{g bN:Nat}{nm b:List Nat}{c:Nat}(h:si ay k args ok N bA w v g bN nm b c)(d:N<=ku)(f:bA<=oI):si ay k args ok ku oI w v g bN nm b c:=
 λ n pr a o u e K bl Y i=>h n pr a o u e K _ (ah d Y) (J [_,_,_] 0x4e2190c0004e2194c009481 L f i)
theorem oG.mono{N ku bA oI:Nat}{w:List Nat}{v:E}{g bN:Nat}{nm b:List Nat}{c:Nat}(h:oG ay N bA w v g bN nm b c)(d:N<=ku)(f:bA<=oI):oG ay ku oI w v g bN nm b c:=
 λ n pr a o u e K bl Y i=>h n pr a o u e K _ (ah d Y) (J [_,_,_] 0x4e2190c0004e2194c009481 L f i)
theorem i3.mono{N ku bA oI:Nat}{w:List Nat}{B:List E}{g bN:Nat}{nm a:List Nat}{b:Nat}(h:i3 ay N bA w B g bN nm a b)(c:N<=ku)(d:bA<=oI):i3 ay ku oI w B g bN nm a b:=by
 induction h with
 |nil=>exact .nil
 |cons C I _ e=>exact .cons (C.mono c d) I e
theorem i3.one{N bA:Nat}{w:List Nat}{v:E}{g bN:Nat}{nm a:List Nat}{b:Nat}(h:oG ay N bA w v g bN nm a b)(c:∀bl,pR (w++bl)):i3 ay N bA w [v] g bN nm a b:=by
 have:=i3.cons h c (.nil)
 rwa [gT] at this
theorem rn{N bA:Nat}{w:List Nat}{B:List E}{g bN:Nat}{nm a:List Nat}{b:Nat}(c:7<=N)(h:i3 ay N bA w B g bN nm a b)(d:B.length<=1000):nt ay (N+2) bA w (gy B) g bN nm a b:=Tn (cI λ e=>bC _ (J [_] 0x41100e2088222000121c41 L c e)) (D_ c h d)
theorem VB{c:Nat}{r:List Nat}(a:c<6):((f' c).2.2++r).take 3≠[40,63,35]:=
 u9 (P:=λ c=>((f' c).2.2++r).take 3≠[40,63,35]) a (λ D=>absurd (e0 D).1 (by decide)) (λ D=>absurd (e0 D).1 (by decide)) (λ D=>absurd (e0 D).1 (by decide)) (λ D=>absurd (e0 D).1 (by decide)) (λ D=>absurd (e0 D).1 (by decide)) λ D=>absurd (e0 D).1 (by decide)
theorem GN{N bA c m:Nat}{w:List Nat}{v:E}{g bN:Nat}{nm b:List Nat}{f:Nat}(k:7<=N)(i:c<6)(l:m<3)(p:fM v=true)(h:lH ay N bA w v g bN nm b f):oG ay N bA (w++((f' c).2.2++ju m)) (.tup [.str qC,v,.int (dh c),.int (dW c),.str (zH m)]) g bN nm b f:=by
 intro n pr a o u e K bl Y r s V t b6 q
 rw[el,el] at V
 refine h n pr a o u e _ _ Y r s V trivial b6 λ A C j=>bP.VD C (cI λ x=>bC _ (J [_,_] 0x41100a2088a00948121c41 L k Y x)) i l p j t (λ D=>?_) λ B I y=>?_
 ·rw[j] at D
  exact VB i D
 ·have d:a+(w++((f' c).2.2++ju m)).length=a+w.length+(f' c).2.2.length+(ju m).length:=by
   rw[bR,bR];exact cB (J [_,_,_,_] 0x1cc5200003980501000 L) (J [_,_,_,_] 0x1cc028080398a400000 L)
  refine q _ ?_ ?_
  ·rw[d];exact I
  ·rw[d];exact y
inductive SM(f:Bool)(k:Nat):Prop where
 |bU (c:Nat) (d:tq k=[c]) (h:(c=97/\gX f k=gX f 0)\/(c=98/\gX f k=gX f 1)\/(c=46/\gX f k=gX f 2))
 |st (cW:Bool) (ee:List Nat) (d:tq k=91::((if cW then[94] else[])++(ee++[93]))) (C:∀c∈ee,c=97\/c=98) (I:ee≠[]) (af:ee.length<=9) (a5:gX f k=.tup [.str pk,.lst (ee.map vk),.bool cW,.bool f])
 |afh (d:k=4)
theorem aax{f:Bool}{k:Nat}(h:k<6):SM f k:=
 u9 h (.bU 97 rfl (.inl ⟨rfl,rfl⟩)) (.bU 98 rfl (.inr (.inl ⟨rfl,rfl⟩))) (.bU 46 rfl (.inr (.inr ⟨rfl,rfl⟩))) (.st _ [97,98] rfl (by decide) (by decide) (ae rfl) rfl) (.afh rfl) (.st _ [97] rfl (by decide) (by decide) (ae rfl) rfl)
theorem aaL{k g:Nat}{nm:List Nat}(s:k<6):lH ay 7 0 (tq k) (gX ay.f k) g g nm nm 0:=by
 intro n pr a o u e K bl Y B b V _ b6 q
 rcases aax s with⟨c,d,v⟩|⟨cW,l,d,C,I,af,p⟩|d
 ·rw[d] at V q
  refine bP.plain b (ah (ae rfl) Y) V ?_ λ r C=>q _ C (qa V)
  rcases v with h|h|h
  ·exact .inl h
  ·exact .inr (.inl h)
  ·exact .inr (.inr (.inl h))
 ·refine a7 (fu (k:=1) (cI λ i=>bC _ (J [_] 0x822004411100121c41 L Y i))) λ n w=>?_;subst w
  have j:ay.t.drop a=91::((if cW then[94] else[])++(l++93::bl)):=by rw[V,d];simp
  refine aH (Ao ..) (bP.peek b (cI λ i=>bC _ (J [_] 0x4110022088800844401c41 L Y i)) (by rw[j];rfl) (kC (by decide) (bt (uD (cE (bj (lW (wq _)) (bP.ab' b (J [_] 4716906028211265 L Y) C I af j λ r x=>?_)))))))
  rw[<-p]
  have y:(tq k).length=(if cW then 1 else 0)+l.length+2:=by
   rw[d];clear p j;rcases cW with _|_<;>simp<;>(exact cB (J [_] 4434554851328 L) (J [_] 1172530300928 L))
  refine q _ ?_ (qa V)
  rw[y,<-ez,<-ez]
  exact x
 ·subst d
  exact bP.escape b (ah (ae rfl) Y) V λ m A=>bP.G' b (cI λ i=>bC _ (J [_,_] 0x20880210445004222808121c41 L Y (aL A.symm) i)) V (.inl ⟨rfl,rfl⟩) λ r C=>q _ C (qa V)
theorem aa3{w g:Nat}{nm:List Nat}(d:w<3):lH ay 7 0 (rX w) (e1 ay.f (.place w)) g g nm nm 0:=by
 intro n pr a o u e K bl Y j b V _ b6 q
 revert V q;apply rL d<;>intro V q
 ·exact bP.plain b (ah (ae rfl) Y) V (.inr (.inr (.inr (.inl ⟨rfl,rfl⟩)))) λ c C=>q _ C (qa V)
 ·exact bP.plain b (ah (ae rfl) Y) V (.inr (.inr (.inr (.inr ⟨rfl,rfl⟩)))) λ c C=>q _ C (qa V)
 ·exact bP.escape b (ah (ae rfl) Y) V λ m h=>bP.G' b (cI λ i=>bC _ (J [_,_] 0x20880210445004222808121c41 L Y (aL h.symm) i)) V (.inr ⟨rfl,rfl⟩) λ c C=>q _ C (qa V)
theorem afl{n u:Nat}{f:Bool}{e:U}{A:bo}(q:A (.int 0) e):call (n+1) 90 [e1 f (.place u)] A e:=
 aH (EH ..) (bz rfl (cb (ae rfl) rfl (bj (r:=false) rfl (bt (cb (ae rfl) rfl (bj (r:=true) rfl (cE q)))))))
set_option tactic.hygienic true in
theorem V5{f:Bool}{w:Nat}{x:br}(h:jB w x):(nS f x).length=w/\∀(i:Nat)(v:E),(nS f x)[i]?=some v->∃k,v=gX f k:=by
 induction h with
 |nil=>exact⟨rfl,λ i v h=>a8 h⟩
 |@cons w k r b _ a=>
  refine⟨bB _ a.1,λ i v h=>?_⟩
  rcases i with _|_
  case zero=>obtain rfl:=cm h;exact⟨k,rfl⟩
  case succ i=>exact a.2 i v h
theorem afm{f:Bool}{w n:Nat}{x:br}{e:U}{A:bo}(h:jB w x)(c:w<3)(Y:2<=n)(q:A (.int w) e):call n 90 [e1 f x] A e:=by
 apply D3 Y;intro n j
 rw[rY h.wf.1.1]
 refine bf (V5 h) λ C I=>LA (aV:=List.replicate w 1) (by rw[C,sy]) (by exact rwl sy (J [_] 0x1f4086400c4111001 L c)) (λ i v l b a K d=>?_) ?_
 ·refine a7 (I i v b) λ k g=>?_;clear b;subst g
  have:=iz.mp a
  obtain⟨m,a⟩:=this
  rw[List.getElem_replicate] at a
  subst a
  exact afn d
 ·rw[show(List.replicate w 1).sum=w by simp]
  exact q
theorem Zs(b cW:Bool):(w3 b cW,b,cW)∈kN:=by rcases b with _|_<;>rcases cW with _|_<;>decide
set_option tactic.hygienic true in
theorem abA:∀(x:br)(g:Nat)(nm:List Nat),gB x g->Short x->g+dX x<=900->(∀H∈nm,H<=g)->nm.length<=g->
  (d5 x=false->(∀H c m,x≠.rounds H c m)->lH ay (7+6*eS x) (eS x) (cF x nm) (e1 ay.f x) g (g+dX x) nm (nm++er x) (h3 x))/\
  (d5 x=false->oG ay (7+6*eS x) (eS x) (cF x nm) (e1 ay.f x) g (g+dX x) nm (nm++er x) (h3 x))/\
  (d5 x=true->i3 ay (7+6*eS x) (eS x) (cF x nm) (nS ay.f x) g (g+dX x) nm (nm++er x) (h3 x)):=by
 have G:∀{x:br}{g:Nat}{nm:List _},d5 x=false->lH ay _ _ _ _ g _ nm _ _->(d5 x=false->(∀H c m,x≠.rounds H c m)->lH ay _ _ _ _ g _ nm _ _)/\
  (d5 x=false->oG ay (7+6*eS x) (eS x) (cF x nm) (e1 ay.f x) g (g+dX x) nm (nm++er x) (h3 x))/\
  (d5 x=true->i3 ay (7+6*eS x) (eS x) (cF x nm) (nS ay.f x) g (g+dX x) nm (nm++er x) (h3 x)):=λ aM h=>⟨λ z z=>h,λ z=>h.atom (dD ..),λ D=>by rw[aM] at D;exact cq D⟩
 intro x
 induction x with
 |one k=>exact λ g nm h l j t s=>G rfl (by rw[show nm++er _=nm from gT _];exact aaL h)
 |place w=>exact λ g nm h l j t s=>G rfl (by rw[show nm++er _=nm from gT _];exact aa3 h)
 |nil=>exact λ g nm h l j t s=>⟨λ D=>((Bool.noConfusion D)),λ D=>((Bool.noConfusion D)),λ z=>by rw[show nm++er _=nm from gT _];exact .nil⟩
 |cons x r C5 C4=>
  intro g nm h l j t s
  have F:dX (.cons x r)=dX x+dX r:=rfl
  have A:=(C5 g nm h.2.1 l.1 (J [_,_,_,_] 0x1c208662000539801e104329001 L j (aL F.symm)) t s).2.1 h.1.1
  have V:=(C4 _ _ h.2.2 l.2 (J [_,_,_,_] 0x708219cc40000539801e104329001 L j (aL F.symm)) (λ H b_=>by
   rcases fH.mp b_ with b_|b_
   ·have:=t H b_;exact J [_,_,_] 211531338881 L this
   ·exact(qB x g h.2.1 H b_).2) (by rw[bR];exact fV s (DI x))).2.2 h.1.2
  refine⟨λ D=>((Bool.noConfusion D)),λ D=>((Bool.noConfusion D)),λ z=>?_⟩
  have X:=i3.cons (A.mono (e7 (uj 6 (ri ..)) 7) (ri ..)) (Eh h.2.1 h.1.1) (V.mono (e7 (uj 6 (rd ..)) 7) (rd ..))
  rw[ez,el] at X
  exact X
 |group n r b E=>
  intro g nm h l j t s
  refine e_ h λ fh C I=>?_;clear h;subst fh
  have F:dX (.group (g+1) r b)=1+dX r:=rfl
  have Z:7<=7+6*eS r+2:=J [_] 74456770352782400 L
  have rF:7+6*eS (.group (g+1) r b)=7+6*eS r+2+4:=cB (J [_] 0x821088609c4000022200c138800 L) (J [_] 0x22200c13880410844304e200000 L)
  have O:∀x∈nm,x<1000:=λ x A=>by have:=t x A;exact J [_,_,_] 0xfa043088c0010c1e104329001 L j this
  refine G rfl ?_
  clear rF;rcases b with _|_
  case true=>
   have V:=(E _ _ I l.1 (J [_,_,_] 0x1c2086608880000a608801e104329001 L j (aL F.symm)) (λ H b_=>by
    rcases fH.mp b_ with b_|b_
    ·have:=t H b_;exact J [_,_] 1173604013185 L this
    ·obtain rfl:=fG.mp b_;exact bx _) (by rw[bR];exact h' s)).2.2 C
   have y:=rn (J [_] 4605515668544 L) V (by rw[rk];have:=l.2;exact J [_] 0x3e810c8018881 L this)
   rw[<-rY C,el,ez g 1] at y
   exact aac Z y (ti r) (J [_,_] 0xfa0430882220000e104329001 L j) O (J [_,_,_] 0x1f4086407082198a009481 L s j) λ D=>by have:=t _ D;exact bC _ (J [_] 71537110618113 L this)
  case false=>
   have V:=(E _ nm I l.1 (J [_,_,_] 0x1c2086608880000a608801e104329001 L j (aL F.symm)) (λ H b_=>by have:=t H b_;exact J [_,_] 1173604013185 L this) (J [_,_] 1173604013185 L s)).2.2 C
   have y:=rn (J [_] 4605515668544 L) V (by rw[rk];have:=l.2;exact J [_] 0x3e810c8018881 L this)
   rw[<-rY C,ez g 1] at y
   exact Xy Z y (ti r) (J [_,_] 0xfa0430882220000e104329001 L j) O (J [_,_,_] 0x1f4086407082198a009481 L s j) (Kj I C)
 |atomic r E=>
  intro g nm h l j t s
  have V:=(E g nm h.2 l.1 j t s).2.2 h.1
  have y:=rn (J [_] 4605515668544 L) V (by rw[rk];have:=l.2;exact J [_] 0x3e810c8018881 L this)
  rw[<-rY h.1] at y
  exact G rfl ((TL (J [_] 74456770352782400 L) y (ti r)).mono (J _ 0x22200c13880310844304e200000 L) (bx _))
 |d4 ab aU ic ie=>
  intro g nm h l j t s
  have F:dX (.d4 ab aU)=dX ab+dX aU:=rfl
  have M:=(ic g nm h.2.1 l.1.1 (J [_,_,_,_] 0x1c208662000539801e104329001 L j (aL F.symm)) t s).2.2 h.1.1
  have en:=(ie _ _ h.2.2 l.2.1 (J [_,_,_,_] 0x708219cc40000539801e104329001 L j (aL F.symm)) (λ H b_=>by
   rcases fH.mp b_ with b_|b_
   ·have:=t H b_;exact J [_,_,_] 211531338881 L this
   ·exact(qB ab g h.2.1 H b_).2) (by rw[bR];exact fV s (DI ab))).2.2 h.1.2
  have y:=D2 (J [_] 0x441110c13880001c40 L) (To (J _ 0x888609c4001c40 L) (D_ (J [_] 4605515668544 L) (M.mono (ku:=7+6*max _ (eS aU)) (oI:=max _ (eS aU)) (e7 (uj 6 (ri ..)) 7) (ri ..)) (by rw[rk];have:=l.1.2;exact J [_] 0x3e810c8018881 L this)) (D_ (J [_] 4605515668544 L) (en.mono (ku:=7+6*max (eS ab) _) (oI:=max (eS ab) _) (e7 (uj 6 (rd ..)) 7) (rd ..)) (by rw[rk];have:=l.2.2;exact J [_] 0x3e810c8018881 L this)))
  rw[<-rY h.1.1,<-rY h.1.2,ez g,show nm++er ab++er aU=nm++(er ab++er aU) from el ..] at y
  exact G rfl (y.mono (J _ 0x11100609c40188220888609c4000000 L) (bx _))
 |again n a=>
  intro g nm h l j t s
  refine G rfl ?_
  rw[show nm++er _=nm from gT _]
  have O:∀x∈nm,x<1000:=λ x A=>by have:=t x A;exact J [_,_,_] 0xfa043088c0010c1e104329001 L j this
  have Y:=h.2.1
  have G9:∀(w:List _),(∀bl,w=107::60::(dQ n++[62])/\n∈nm\/w=103::123::(fj n++[125]))->lH ay 7 1 (92::w) _ g g nm nm 1:=λ w P=>by
   intro m pr a o u e K bl N R Q V _ b6 q
   refine bP.escape Q (cI λ B=>bC _ (J [_] 0x822004411100121c41 L N B)) V λ jS S=>bP.G_ Q (J [_,_] 0xa6100222808121c41 L N (aL S.symm)) h.1 Y (J [_,_,_] 0xfa043088c0010c1e104329001 L j Y) O (J [_,_,_] 0x1f40866010c1e104329001 L j s) (J [_] 0x6ddd0106406ddd0106111001 L b6) V (by rcases P bl with D|D;exact .inl D;exact .inr (.inl D)) λ aw C=>q _ C (qa V)
  rw[xt,AU]
  by_cases M:a=1/\n∈nm
  ·rw[aT M,a9 λ B=>bC _ (J [_] 73253864971830337 L (aL M.1.symm) (aL B.1))]
   exact(G9 _ λ z=>.inl ⟨rfl,M.2⟩).mono (dD ..) (bx _)
  ·rw[a9 M]
   by_cases en:a=0/\n<10
   ·rw[aT en,aT en]
    have n3:oG ay 7 0 (92::fj n) _ g g nm nm 1:=λ m pr a o u e K bl N R Q V H2 b6 q=>
     bP.escape Q (cI λ B=>bC _ (J [_] 0x822004411100121c41 L N B)) V λ jS S=>bP.G_ Q (J [_,_] 0xa6100222808121c41 L N (aL S.symm)) h.1 Y (J [_] 0xfa043088800284111001 L en.2) O (J [_,_,_] 0x1f40866010c1e104329001 L j s) (J [_] 0x6ddd0106406ddd0106111001 L b6) V (.inr (.inr ⟨en.2,rfl,λ c r d=>(H2.1 c r d).2.2.2.2⟩)) λ aw C=>bP.GQ C (cI λ B=>bC _ (J [_] 0x822014411100121c41 L N B)) (by rw[show a+(fj n).length+1=a+(92::fj n).length from rfl,qa V];exact H2) (q _ C (qa V))
    exact(D2 (ae rfl) (rn (ae rfl) (i3.one n3 λ bl=>nj (.inr (.inr (.inr (.inr (.inl rfl)))))) (show 1<=1000 by decide))).mono (by show 12<=7+6*1;exact ae rfl) (bx _)
   ·rw[a9 en,a9 en]
    exact(G9 _ λ z=>.inr rfl).mono (dD ..) (bx _)
 |look x p cW E=>
  intro g nm h l j t s
  refine G rfl ?_
  have P:=by rcases p with _|_<;>exact h.2
  refine e_ (E g nm P l.1 j t s) λ T U IE=>?_
  have y:nt ay (7+6*eS x+2) (eS x) (cF x nm) (if d5 x then e1 ay.f x else gy [e1 ay.f x]) g (g+dX x) nm (nm++er x) (h3 x):=by
   by_cases V:d5 x=true
   ·have:=rn (J [_] 4605515668544 L) (IE V) (by rw[rk];have:=l.2;exact J [_] 0x3e810c8018881 L this)
    rw[<-rY V] at this
    rw[aT V]
    exact this
   ·have V:d5 x=false:=by rcases d:d5 x with _|_;rfl;exact(V d).elim
    rw[a9 (by rw[V];decide)]
    exact rn (J [_] 4605515668544 L) (i3.one (U V) (Eh P V)) (show 1<=1000 by decide)
  refine(Zv (J [_] 74456770352782400 L) (Zs p.isSome cW) y (by split;exact ti x;rfl:fM (if d5 x then e1 ay.f x else gy [e1 ay.f x])=true) (λ W n e K Y ct=>?_) λ W=>?_).mono (J _ 0x22200c13880410844304e200000 L) (bx _)
  ·rcases p with _|_
   case none=>exact cq W
   case some w=>
    clear P IE y;rcases h.1.2 with⟨bD,R⟩|⟨rfl,ly,agD,agE,rfl⟩
    ·exact rwl (aT R.wf.1.1) (afm R h.1.1 (cI λ B=>bC _ (J [_,_] 0x4110042088a0094422182710001 L Y B)) ct)
    ·refine a7 (fu (k:=2) (cI λ B=>bC _ (J [_,_] 0x4110042088a0094422182710001 L Y B))) λ n fB=>?_;subst fB
     refine LA (aV:=[0]) rfl (ae rfl) (λ i v lB mx uZ d3 XF=>?_) ct
     rcases i with _|_
     case zero=>obtain rfl:=cm mx;obtain rfl:=cm uZ;exact afl XF
     case succ i=>exact a8 mx
  ·rcases p with _|_
   case none=>rfl
   case some w=>cases W
 |rounds x c m E=>
  intro g nm h l j t s
  refine⟨λ z D=>((D x c m) rfl).elim,λ z=>e_ (E g nm h.2.2.2 l j t s) λ T U z=>?_,λ D=>cq D⟩
  have a0:cF (.rounds x c m) nm=(if kL x then cF x nm else[40,63,58]++(cF x nm++[41]))++((f' c).2.2++ju m):=rfl
  have a':e1 _ (.rounds x c m)=.tup [.str _,if kL x then e1 _ x else gy [e1 ay.f x],.int _,.int _,.str _]:=rfl
  rw[a0,a']
  by_cases A:kL x=true
  ·rw[aT A,aT A]
   exact(GN (J [_] 4605515668544 L) h.1 h.2.1 (ti x) (T h.2.2.1 λ H c m d=>by clear E l j T a0 a';subst d;exact cq A)).mono (J _ 0x8880304e2010c138800 L) (J [_] 35782784 L)
  ·rw[a9 A,a9 A]
   exact(GN (J [_] 0xc42110c13880001c40 L) h.1 h.2.1 rfl (D2 (J _ 74456770352782400 L) (rn (J _ 4605515668544 L) (i3.one (U h.2.2.1) (Eh h.2.2.2 h.2.2.1)) (show 1<=1000 by decide)))).mono (J _ 0x22200c13880310844304e200000 L) (bx _)
end
end
section
section
variable{e:U}{t:List Nat}{k:bo}{A:bo}
theorem wQ{x H D:Int}(h:x+H=D)(q:k (.int D) e):eR .Add (.int x) (.int H) k e:=by subst h;exact q
theorem AW{x H D:Int}(h:x+H=D)(q:k (.int D) e):bw .Add (.int x) (.int H) k e:=by subst h;exact q
theorem aaR{n:Nat}{j:List Nat}(o:j.length<=c7)(q:∀b,A (.bool b) e):call (n+1) 83 [.str j] A e:=by
 have a_:∀{l u:Option E}{dV ly:Option _}{K:bo},jL l=some dV->jL u=some ly->(∀r,K _ e)->eN _ l u K e:=λ C I p=>kT o C I (p _)
 have mY:∀{d:PySem.CmpOp}{x H:List _}{c1:Bool->U->Prop},d=.Eq\/d=.NotEq->(∀b,c1 b e)->aE d (.str x) (.str H) c1 e:=λ h g=>by
  rcases h with rfl|rfl
  ·exact bj rfl (g _)
  ·exact bj rfl (g _)
 refine aH (aeV ..) (a_ rfl (eM (ae rfl)) λ r=>mY (.inr rfl) λ b=>jM (λ z=>q _) λ z=>mz (λ r M=>(∃b,r=.bool b)/\M=e) (λ s a=>?_) λ r M V=>by refine bf V λ i t=>?_;clear V;refine a7 i λ b v=>?_;clear i;subst v;subst t;exact q b)
 have a:=λ b=>a _ _ ⟨⟨b,rfl⟩,rfl⟩
 have f:∀{b:Bool}{r:U->Prop},r e->f_ _ (.bool b) s r e:=λ{b r} h=>by rcases b with _|_;exact yD h;exact Bk (a _)
 refine a_ rfl (eM (n:=2) (by decide)) λ r=>mY (.inl rfl) λ b=>f (a_ rfl (eM (n:=3) (by decide)) λ r=>mY (.inl rfl) λ b=>f (mz (λ r M=>(∃b,r=.bool b)/\M=e) (λ w c=>?_) λ r M V=>by refine bf V λ k y=>?_;clear V;refine a7 k λ b B=>?_;clear k;subst B;clear q f;subst y;exact a b))
 have c:=λ b=>c _ _ ⟨⟨b,rfl⟩,rfl⟩
 have m:∀{b:Bool}{r:U->Prop},r e->f_ _ (.bool b) w r e:=λ{b r} h=>by rcases b with _|_;exact ur (c _);exact p7 h
 exact a_ rfl (eM (n:=2) (by decide)) λ r=>mY (.inl rfl) λ b=>m (a_ (eM (n:=2) (by decide)) (eM (n:=3) (by decide)) λ r=>mY (.inr rfl) λ b=>m (a_ (eM (n:=2) (by decide)) (eM (n:=3) (by decide)) λ r=>mY (.inr rfl) c))
theorem acZ{j:List Nat}{i c:Nat}{D:Int}(hz:D=i)(a:i<=1000000000)(b:j[i]?=some c)(q:k (.str [c]) e):item (.str j) (.int D) k e:=by
 subst hz
 exact kl a b q
theorem aca{n i:Nat}{D:Int}(hz:D=i)(cZ:t.length<=500000)(l:i<t.length)(q:∀y:Nat,i<y->y<=t.length+3->A (.int y) e):call (n+1) 82 [.str t,.int D] A e:=by
 have hD:t.length<=c7:=ah cZ (ae rfl)
 have g:∀y,y<=t.length+4->y<=1000000000:=λ y h=>J [_,_] 0xee6b2800c328082200a17a12020c81 L cZ h
 have m:∀(c:Nat)(y:Nat),y<=t.length+2->∀K:E->U->Prop,(∀f,y<=f->f<=y+1->K _ e)->(bw _ (.int y) (.int 1) λ sj=>eN _ (some _) _ λ Q=>aE _ Q (.str [c]) λ R=>aW R (eR _ (.int y) (.int 1) _) _) e:=λ c y dE K j=>by
  refine a7 (⟨_,rfl⟩:∃d,d=y+1) λ d a=>AW (k3.mpr (cB (aL a.symm) (aL a))) (kT hD (eM (g y (J [_,_] 0x208a02004228081 L dE))) (eM (g d (J [_,_,_] 0x82280c0088803044228081 L dE (aL a)))) (hv (jM (λ z=>wQ (k3.mpr (cB (aL a.symm) (aL a))) (j d (J [_,_] 5635165982721 L (aL a.symm)) (aL a))) λ z=>j y (bx _) (hq _))))
 refine a7 (⟨_,rfl⟩:∃d,d=i+1) λ d a=>aH (aeU ..) (wQ (by lia) (m 94 d (J [_,_,_] 0x42280c008880304a111001 L l (aL a)) _ λ y v x=>m 93 y (J [_,_,_,_] 0x108a038022300e108880304a111001 L l (aL a) x) _ λ f B S=>md (λ bh ak M=>M=e/\∃s,f<=s/\s<=t.length+3/\bh=t.length+3-s/\ak=sh _ (some (.int s))) (λ bh ak T d3 F j z z=>afz F λ W s o k X Y=>?_) ⟨rfl,f,bx _,J [_,_,_,_,_] 0x6228100088e040422300e108880304a111001 L l (aL a) x S,rfl,rfl⟩));clear F;subst W;subst X;subst Y
 refine aH (adt ..) (d_ (j2 hD (iE (iZ (λ C=>?_) λ C=>f3 (aH (Ge ..) (gn (q s (J [_,_,_,_,_] 0x808880020e139826284a111001 L (aL a.symm) v B o) k)))))))
 have p:=dR.mp (gg C)
 refine a7 (o7 p) λ c G=>kl (g s (J [_,_] 0x208a02006228081 L k)) G (bj rfl (iZ (λ I=>aH (UH ..) (mz (λ r M=>(∃w:Nat,r=.int w/\0<w/\w<=2)/\M=T) (λ bk H=>kl (g s (J [_,_] 0x208a02006228081 L k)) G (hv (jM (λ z=>H _ _ ⟨⟨2,rfl,ae rfl,ae rfl⟩,rfl⟩) λ z=>H _ _ ⟨⟨1,rfl,ae rfl,ae rfl⟩,rfl⟩))) λ r M V=>bf V λ N Z=>?_)) λ I=>f3 (aH (Ge ..) (gn (q s (J [_,_,_,_,_] 0x808880020e139826284a111001 L (aL a.symm) v B o) k)))));clear V;refine fz N λ w q1 Yt O=>?_;clear N;subst q1;clear q m;subst Z
 exact a7 (⟨_,rfl⟩:∃d,d=s+w) λ P b=>wQ (k3.mpr (cB (aL b.symm) (aL b))) (j (t.length+3-P) _ _ (J [_,_,_,_,_,_] 0x10112400188e0324012a00311c01310a00902200801 L Yt (aL b.symm) (d2 _ _) (dj (cI λ u=>bC _ (J [_,_,_,_] 0x1044038443114000988038442304a111001 L p O (aL b) u)))) ⟨rfl,P,J [_,_,_,_] 8022283964683393 L o (aL b.symm),cI λ u=>bC _ (J [_,_,_,_] 0x1044038443114000988038442304a111001 L p O (aL b) u),rfl,rfl⟩).1
theorem VC{n:Nat}(Y:2<=n)(cZ:t.length<=500000)(q:∀m:Int,A (.int m) e):call n 81 [.str t] A e:=by
 apply D3 Y;intro n G
 have hD:t.length<=c7:=ah cZ (ae rfl)
 have i:∀y,y<=t.length+4->y<=1000000000:=λ y h=>J [_,_] 0xee6b2800c328082200a17a12020c81 L cZ h
 refine aH (aeT ..) (md (λ bh ak M=>M=e/\∃(s:Nat)(m D:Int),D=s/\s<=t.length+4/\bh=t.length+4-s/\ak=q9 _ (some (.int m)) (some (.int D))) (λ bh ak r u l v z z=>tN l λ w s m D hz H x B=>?_) ⟨rfl,0,0,0,rfl,df _,rfl,rfl⟩);clear l;subst w;subst x;subst B
 refine aH (ads ..) (j2 hD (iE ?_))
 by_cases f:s<t.length
 ·rw[fi (show D<t.length by lia)]
  refine a7 (o7 f) λ c E=>?_
  have j:∀K,K (.str [c]) r->item _ _ K _:=λ K=>acZ hz (i s (by assumption)) E
  have fin:∀(o:Int)(iq:Nat)(k:Int),k=iq->s<=iq->iq<=t.length+3->(eR _ (.int k) (.int 1) λ N=>u _ (q9 _ _ _)) _:=λ o iq k O C I=>by
   exact a7 (⟨_,rfl⟩:∃d,d=iq+1) λ d g=>wQ (D:=d) (by lia) (v (t.length+4-d) _ _ (J [_,_,_,_,_,_] 0x20224800411c06480244008238026088a009481 L C (aL g.symm) (d2 _ _) (dj (J [_,_,_] 0x82280c0088803046228081 L I (aL g)))) ⟨rfl,d,o,_,rfl,J [_,_,_] 0x82280c0088803046228081 L I (aL g),rfl,rfl⟩).1
  refine aH (UE ..) (j _ (hv (jM (λ z=>?_) λ z=>j _ (hv (jM (λ z=>aca hz cZ f λ y C=>fin m y _ rfl (kc C)) λ z=>?_)))))
  ·exact a7 (⟨_,rfl⟩:∃d,d=s+1) λ d g=>wQ (by lia) (fin m d _ rfl (J [_,_] 5635165982721 L (aL g.symm)) (cI λ a=>bC _ (J [_,_,_] 0x208806088622800108880304a111001 L f (aL g) a)))
  ·refine d_ (j _ (hv (iZ (λ z=>a7 (⟨_,rfl⟩:∃d,d=s+1) λ d g=>a7 (⟨_,rfl⟩:∃d,d=s+4) λ p F=>AW (by lia) (AW (by lia) (kT hD (eM (i d (cI λ a=>bC _ (J [_,_,_] 0x208806088822800108880304a111001 L f (aL g) a)))) (eM (i p (cI λ a=>bC _ (J [_,_,_] 0x208806088822800120880304a111001 L f (aL F) a)))) (aaR ?_ λ b=>dk (iZ (λ z=>cE (iD (fin _ s D hz (bx _) (cI λ a=>bC _ (J [_,_] 0x82201022188a0004a111001 L f a))))) λ z=>bt (fin m s D hz (bx _) (cI λ a=>bC _ (J [_,_] 0x82201022188a0004a111001 L f a)))))))) λ z=>bt (fin m s D hz (bx _) (cI λ a=>bC _ (J [_,_] 0x82201022188a0004a111001 L f a))))))
   show((t.take p).drop d).length<=c7
   rw[jn,nK]
   exact ah (by lia) hD
 ·rw[h_ (show¬D<t.length by lia)]
  exact f3 (aH (UG ..) (gn (q m)))
end
end
section
theorem WZ(R:dq)(K:Loc->U->Prop)(e:U)(dc dY:E)(a b c o d f:Option E):d6 108 [] 3 R (.tup [dc,dY]) (q4 a b c o d f) K e=K (q4 a b c o (some dc) (some dY)) e:=by kernel_rfl
theorem W0(R:dq)(K:Loc->U->Prop)(e:U)(dc dY f:E)(a b c o d:Option E):d6 110 [] 0 R (.tup [dc,dY,f]) (vO a b c o d) K e=K (vO a b (some dc) (some dY) (some f)) e:=by kernel_rfl
def kW(e:U)(aZ:Nat)(nm:List Nat):Prop:=aZ<e.next/\∃B,e.get aZ=some (.dict (nm.map dQ) B)/\B.length=nm.length/\∀(i n:Nat),nm[i]?=some n->∃r,B[i]?=some (.ref r)/\r<e.next/\r≠aZ/\(e.get r=some (.list [.int n])\/e.get r=some (.flist [.int n]))
theorem kW.fr{S:Nat->Prop}{e M:U}{aZ:Nat}{nm:List Nat}(h:kW e aZ nm)(f:Fr S e M)(a:∀i,i<e.next->¬S i):kW M aZ nm:=xS h λ C B I af b=>⟨d7 C f.next,B,f.get I C (a _ C),af,λ i n c=>xT (b i n c) λ r a3 bL g9 d=>⟨r,a3,d7 bL f.next,g9,by rw[f.same r bL (a r bL)];exact d⟩⟩
set_option tactic.hygienic true in
theorem hp.idx{e:U}{lo st aZ a_:Nat}{nm:List Nat}{B:List E}(h:hp e lo st aZ a_ nm B):∀(i n:Nat),nm[i]?=some n->∃r,B[i]?=some (.ref r)/\r<e.next/\r≠aZ/\(e.get r=some (.list [.int n])\/e.get r=some (.flist [.int n])):=
 h.ind (bh:=λ nm B=>∀(i n:Nat),nm[i]?=some n->∃r,B[i]?=some (.ref r)/\r<e.next/\r≠aZ/\(e.get r=some (.list [.int n])\/e.get r=some (.flist [.int n]))) (λ i n a=>a8 a) λ n nm r B I af b z c i m a=>by
  rcases i with _|_
  case zero=>obtain rfl:=cm a;exact⟨r,rfl,af,b.2.2.1,I⟩
  case succ i=>exact c i m a
section
variable{e:U}{A:bo}{f:Bool}
theorem acP{n:Nat}{t:List Nat}{cD:Int}{k:bo}(cZ:t.length<=500000)(q:∀c st aZ a_,bP e c st aZ a_ t cD [] 0 0 0 [] 0->k (.ref st) c):cJ cp (call (n+1)) (.cls 64) [.str t,.int cD] k e:=by
 refine v' 64 (by kernel_rfl) (aH (aec ..) ?_)
 have u:∀(c:U)(p:dm),eh e c->eh e (c.upd _ p):=λ c p d=>d.j3 (bx _)
 refine e9 (fR ..) (eG:=qK.take 1) (c2:=[.str t]) (by kernel_rfl) (ae rfl) (by kernel_rfl) (e9 (dH ..) (eG:=qK.take 2) (c2:=[.str t,.int cD]) (by kernel_rfl) (ae rfl) (by kernel_rfl) (e9 (dH ..) (eG:=qK.take 3) (c2:=[.str t,.int cD,.int 0]) (by kernel_rfl) (ae rfl) (by kernel_rfl) (e9 (dH ..) (eG:=qK.take 4) (c2:=[.str t,.int cD,.int 0,.int 0]) (by kernel_rfl) (ae rfl) (by kernel_rfl) (e9 (dH ..) (eG:=qK.take 5) (c2:=[.str t,.int cD,.int 0,.int 0,.int 0]) (by kernel_rfl) (ae rfl) (by kernel_rfl) ?_))))
 generalize h:U.upd _ _ _=b
 have cC:e.next<b.next:=by rw[<-h];exact eo _
 refine BF (.inl rfl) (e9 ((iB (e' cC)).trans (by rw[<-h];exact dH ..:b.get e.next=some (.inst 64 (qK.take 5) [.str t,.int cD,.int 0,.int 0,.int 0]))) (eG:=qK.take 6) (c2:=[.str t,.int cD,.int (0:Nat),.int (0:Nat),.int (0:Nat),.ref b.next]) (by kernel_rfl) (ae rfl) (by kernel_rfl) (e2 (ae rfl) ?_))
 generalize g:U.upd _ _ _=f
 have di:f.next=b.next+1:=by rw[<-g];rfl
 refine e9 ((iB λ a=>bC _ (J [_,_,_] 0x822010c130445004a111001 L cC (aL di.symm) (aL a.symm))).trans (by rw[<-g];exact dH ..:f.get e.next=some (.inst 64 (qK.take 6) [.str t,.int cD,.int (0:Nat),.int (0:Nat),.int (0:Nat),.ref b.next]))) (by kernel_rfl) (ae rfl) (by kernel_rfl) (q _ _ _ f.next {
  ex:=cv ([]) ([]) ⟨(ef (hV cC)).trans ((iB λ a=>bC _ (J [_,_] 0x208804284a111001 L (aL di.symm) (aL a.symm))).trans (by rw[<-g];exact(ef (hV cC)).trans (fR ..):f.get b.next=some (.dict [] []))),trivial,(ef λ a=>bC _ (J [_,_,_] 0x822010c130445004a111001 L cC (aL di.symm) (aL a))).trans (fR ..),λ v j=>((gh j).elim),bx 0,λ s i=>nomatch i⟩
  p:=dH ..
  cC:=λ a=>bC _ (J [_,_] 0x208804284a111001 L cC (aL a.symm))
  di:=λ a=>bC _ (J [_,_,_] 0x822010c130445004a111001 L cC (aL di.symm) (aL a.symm))
  fL:=λ a=>bC _ (J [_,_] 0x208804284a111001 L (aL di.symm) (aL a.symm))
  C:=J [_,_,_] 0x1118011100030445004a111001 L cC (aL di.symm)
  I:=J [_,_] 0x44500444000a111001 L (aL di.symm)
  af:=J [_] 1172527190016 L
  aX:=bx _
  bS:=J [_,_] 5635165982721 L cC
  dv:=J [_,_,_] 0x188030445004a111001 L cC (aL di.symm)
  iI:=λ s i=>(gh i).elim
  fr:=u _ _ (by rw[<-g];exact u _ _ (by rw[<-h];exact u _ _ (u _ _ (u _ _ (u _ _ (u _ _ (.alloc _ _ _))))):eh e b).jJ:eh e f).jJ
  iM:=cZ
  al:=df _})
theorem adG{aZ:Nat}{az:List (List Nat)}{B:List E}{v:E}{g:Int}{k:bo}(a:e.get aZ=some (.dict az B))(b:fM v=true)(q:k (.tup [v,.int g,.ref aZ]) e):b9 [v,.int g,.ref aZ] k e:=by
 refine⟨cn (n:=3) (ae rfl),?_⟩
 have c:gG (.ref aZ) e=(.ref aZ,e):=by
  unfold gG
  simp only[a]
 show k (.tup ((gG v e).1::(hY _ _).1)) (hY _ (gG v e).2).2
 rw[(by rcases v with _|_<;>first|rfl|exact cq b:gG v e=(v,e))]
 show k (.tup (v::.int g::[(gG _ e).1])) (gG _ e).2
 exact rwl c q
theorem aaV{x:br}{n:Nat}(y:gB x 0)(C:Short x)(D:gP x<=3)(V:d5 x=true)(E:dX x<=900)(F:h3 x<=900000)(G:eS x<=39)(Y:12+6*eS x<=n)(cZ:(cF x []).length<=500000)(q:∀M aZ,eh e M->e.next<=aZ->kW M aZ (er x)->A (.tup [e1 f x,.int (dX x),.ref aZ]) M):
  call n 108 [.str (cF x []),.str (eA f)] A e:=by
 refine a7 (fu (k:=1) (cI λ a=>bC _ (J [_,_] 0x8220044111401290c160801 L Y a))) λ n K=>?_;subst K
 refine aH (adT ..) (VC (cI λ a=>bC _ (J [_,_] 0x4110042088a008445010c160801 L Y a)) cZ λ cD=>a7 (⟨n-1,cB (d2 _ _) (dj (cI λ a=>bC _ (J [_,_] 0x4110022088a008445010c160801 L Y a)))⟩:∃m,n=m+1) λ rO N=>?_)
 have key:∀(k:bo),(∀h st aZ a_,bP e h st aZ a_ _ _ [] 0 0 0 [] 0->k _ h)->cJ _ (call n) _ [.str _,.int cD] k e:=λ k O=>by
  rw[N];exact acP cZ O
 refine key _ λ h st aZ a_ P=>u3 ?_
 delta Fh;rw[Gq]
 refine yM (s:=λ c=>iu _ _) rfl (ae rfl) (λ c aG c1 j=>bj rfl (jM (λ d=>by rw[d] at j;exact j) λ d=>by rw[d] at j;exact j)) ?_
 rw[Hk]
 refine I5 ?_
 have o:=rn (J [_] 4605515668544 L) ((abA (ay:=⟨e,st,aZ,a_,cF x [],cD,f⟩) x 0 [] y C (J [_] 0x7082190020038410c81 L E) (λ H b_=>(gh b_).elim) (bx 0)).2.2 V) (by rw[rk];exact J [_] 0x3e810c8018881 L D)
 rw[<-rY V] at o
 refine o n [] 0 0 0 h _ [] (J [_,_] 0xa2110c13880000445010c160801 L Y) (J [_] 0x4e2190020002710c81 L G) P (by rw[gT];rfl) (λ c r d=>(by injection d)) (J [_] 0x6ddd0106400800dbba020c81 L F) λ aS I eb=>?_
 rw[gr,gr] at I
 refine I.at_ (j2 I.hD (rM (Int.lt_irrefl _) (bt (I.KD (ox I.ex λ B agW a0 a' Q R fQ hX=>?_)))))
 have p:dw _ (.ref a_) _:=⟨by rw[iW,Q];rfl,λ i d=>by(injection d with a3;subst a3);exact I.af⟩
 refine k_ p.items (λ i ak M=>eh _ M/\∃b3 cX,ak=q4 _ _ _ (some (e1 f x)) b3 cX) ⟨.refl _ _,none,none,rfl⟩ (λ i ak M g=>(p.ext g.1).hQ) (λ i v ak M d3 t g S z z=>?_) λ ak M g=>?_
 ·refine Ay g λ l b3 cX T=>?_;clear g;subst T
  refine jd (R v (ka t)) λ m b U W X=>?_;clear t;subst U
  have af:=(I.ext l).ext (.alloc _ _ (.list []))
  refine aH (WZ ..) (aH (TR ..) (d_ (e2 (ae rfl) (bj (wj .lst) (iX (lN rfl (rM (λ a=>bC _ (J [_] 0x4110022088800902200801 L W (dR.mp a))) (iX (lN rfl (af.n0 (wy (λ a=>bC _ (J [_,_] 0x208804088a009481 L X (dR.mp a))) (iX (bt (S _ _ ⟨l.jJ,_,_,rfl⟩).1)))))))))))))
 ·refine Ay g λ l b3 cX Z=>?_;clear g;subst Z
  have af:=I.ext l
  refine ox af.ex λ c2 agX u w ag4 xW ag5 ag6=>f3 (aH (TS ..) (af.n0 (af.DC (adG u (ti x) (gn (q _ aZ af.fr af.bS ⟨af.I,c2,u,w.len,w.idx⟩))))))
theorem VA{x:br}{n:Nat}(a:gB x 0)(c:Short x)(d:gP x<=3)(V:d5 x=true)(g:dX x<=900)(h:h3 x<=900000)(i:eS x<=39)(Y:13+6*eS x<=n)(fa:cZ x+4<=n)(hz:cR x<=800000)(j:(cF x []).length<=500000)
  (q:∀M bb bM aZ,eh e M->bb<M.next->bM<M.next->M.get bb=some (.inst 49 vh [.ref bM,.int (dX x),.int (d1 x),.ref aZ])->M.get bM=some (.list ((code x 0 0++[cu.fin]).map (cu.v f)))->kW M aZ (er x)->A (.ref bb) M):call n 110 [.str (cF x []),.str (eA f)] A e:=by
 refine a7 (fu (k:=1) (cI λ l=>bC _ (J [_,_] 0x8220044111401290c168801 L Y l))) λ n m=>?_;subst m
 refine aH (adU ..) (aaV a c d V g h i (J [_,_] 0x14860b04000445010c168801 L Y) j λ u aZ o aX p=>aH (W0 ..) (aH (TV ..) (adE a (J [_,_] 0x1462200011140411001 L fa) hz λ w bb bM b bS bG r s t=>gn (q _ bb bM aZ (o.trans b) bG r s t (p.fr b λ z z D=>D)))))
end
end
section
theorem wh(n:Nat):(fj n).length<=3:=by
 unfold fj
 split
 ·exact(ae rfl:1<=3)
 ·split
  ·exact(ae rfl:2<=3)
  ·exact bx 3
theorem GO(c:Nat):(f' c).2.2.length<=5:=by
 refine nc ?_ ?_ ?_ ?_ ?_ (λ z=>?_) c<;>exact ae rfl
theorem Jv(m:Nat):(ju m).length<=1:=by
 match m with
 |0=>exact ae rfl
 |1=>exact ae rfl
 |_+2=>exact bx 1
theorem Jm(b cW:Bool):(w3 b cW).length<=4:=by rcases b with _|_<;>rcases cW with _|_<;>decide
theorem j1:∀(x:br)(nm:List Nat),(cF x nm).length<=cR x
 |.one k,_=>by
  refine nc ?_ ?_ ?_ ?_ ?_ (λ z=>?_) k<;>exact ae rfl
 |.place w,_=>by
  match w with
  |0=>exact(by decide:1<=20)
  |1=>exact(by decide:1<=20)
  |_+2=>exact(by decide:2<=20)
 |.rounds x c m,nm=>by
  have h:=j1 x nm
  have C:=GO c
  have I:=Jv m
  show((if kL x then cF x nm else[40,63,58]++(cF x nm++[41]))++((f' c).2.2++ju m)).length<=30+cR x
  split<;>simp only[bR,fW,iQ]<;>lia
 |.group n r b,nm=>by
  have o:=wh n
  rcases b with _|_
  case true=>
   have h:=j1 r (nm++[n])
   show([40,63,60]++110::fj n++62::(cF r _++[41])).length<=30+cR r
   simp only[bR,fW,iQ];lia
  case false=>
   have h:=j1 r nm
   show([40]++(cF r nm++[41])).length<=30+cR r
   simp only[bR,fW,iQ];lia
 |.again n a,nm=>by
  have o:=wh n
  rw[xt]
  show _<=20
  split
  ·show(92::107::60::110::fj n++[62]).length<=20
   simp only[bR,fW,iQ];lia
  ·split<;>simp only[bR,fW,iQ]<;>lia
 |.d4 ab aU,nm=>by
  have C:=j1 ab nm
  have I:=j1 aU (nm++er ab)
  show([40,63,58]++(cF ab nm++124::cF aU _++[41])).length<=30+cR ab+cR aU
  simp only[bR,fW,iQ];lia
 |.atomic r,nm=>by
  have h:=j1 r nm
  show([40,63,62]++(cF r nm++[41])).length<=30+cR r
  simp only[bR,fW,iQ];lia
 |.look x w cW,nm=>by
  have h:=j1 x nm
  have d:(w3 w.isSome cW).length<=4:=Jm _ _
  show(w3 _ _++(cF x nm++[41])).length<=30+cR x
  simp only[bR,fW,iQ];lia
 |.nil,_=>bx 0
 |.cons x r,nm=>by
  have C:=j1 x nm
  have I:=j1 r (nm++er x)
  show(cF x nm++cF r _).length<=cR x+cR r
  rw[bR];lia
set_option tactic.hygienic true in
theorem adh{x:br}(h:d5 x=false):1<=cR x:=by
 rcases x with _|_
 case nil=>injection h
 case cons _ _=>injection h
 case one _=>exact(by decide:1<=20)
 case place _=>exact(by decide:1<=20)
 case again _ _=>exact(by decide:1<=20)
 case d4 ab aU=>show 1<=30+cR ab+cR aU;lia
 all_goals exact ah (ae rfl) (dD _ _)
theorem Lx:∀(x:br)(g:Nat),gB x g->gP x<=cR x
 |.cons x r,g,h=>by
  have C:=adh h.1.1
  have I:=Lx r _ h.2.2
  show gP r+1<=cR x+cR r
  lia
 |.nil,_,_=>bx 0
 |.one _,_,_=>df _
 |.place _,_,_=>df _
 |.rounds _ _ _,_,_=>df _
 |.group _ _ _,_,_=>df _
 |.again _ _,_,_=>df _
 |.d4 _ _,_,_=>df _
 |.atomic _,_,_=>df _
 |.look _ _ _,_,_=>df _
theorem I6:∀(l:List (List Nat))(j:List Nat),ij [] (l++[j])=ij [] l++j
 |[],j=>rfl
 |[x],j=>by show x++[]++j=x++j;rw[gT]
 |x::H::r,j=>by
  show x++[]++ij [] (H::r++[j])=x++[]++ij [] _++j
  rw[I6 _,el,el,el]
theorem HS{n:Nat}(Y:n<1000):∀{nm:List Nat},(∀H∈nm,H<1000)->(nm.map dQ).contains (dQ n)=decide (n∈nm)
 |[],_=>rfl
 |H::nm,h=>by
  show(dQ n==dQ H||(nm.map _).contains _)=_
  rw[HS Y λ D hz=>h D (gU _ hz)]
  by_cases d:n=H
  ·subst d;rw[eC,fi f9 ..];rfl
  ·rw[fF.mpr λ D=>d (zJ Y (h H f9 ..) D)]
   exact decide_eq_decide.mpr (by rw[ew];exact⟨.inr,λ D=>D.resolve_left d⟩)
section
variable{e:U}{k:bo}
theorem sJ{R:dq}{n:Nat}(h:n<1000)(q:k (.str (fj n)) e):cJ cp R (.typ .str) [.int (n:Nat)] k e:=by
 refine qV ?_ q
 show(if(decide _&&decide _)=true then _ else _)=_
 rw[fi (by lia:(n:Int)<1000)]
 rfl
set_option tactic.hygienic true in
theorem kW.add{aZ n:Nat}{nm:List Nat}(h:kW e aZ nm)(Y:n<1000)(c:∀H∈nm,H<1000)(d:n∉nm)(f:nm.length<=1000){y:U->Prop}(q:∀M,kW M aZ (nm++[n])->Fr (·=aZ) e M->y M):gM (.ref aZ) (.str (dQ n)) (.ref e.next) y (e.alloc (.list [.int (n:Nat)])):=by
 refine xS h λ C B I af g=>?_
 refine ab9 ((iB (e' C)).trans I) (by rw[cM];exact f) (q _ ?_ ((Fr.alloc (·=aZ) e (.list [.int n])).trans (.upd _ _ _ rfl)))
 rw[(BJ Y c d af).1]
 refine⟨j' C,B++[.ref e.next],?_,?_,λ i H b_=>?_⟩
 ·rw[e8];exact dH ..
 ·rw[bR,bR,af];rfl
 ·rcases Nat.lt_or_ge i _ with a|a
  ·rw[List.getElem?_append_left a] at b_
   refine xT (g i H b_) λ r a3 bL g9 j=>?_
   refine⟨r,by rw[List.getElem?_append_left (by lia)];exact a3,j' bL,g9,?_⟩
   rw[ef g9,iB (e' bL)]
   exact j
  ·rw[yt a] at b_
   rw[yt (by lia),af]
   rcases b:i-nm.length with _|_
   case zero=>
    rw[b] at b_
    obtain rfl:=cm b_
    exact⟨e.next,rfl,eo _,(e' C).symm,.inl ((ef (e' C).symm).trans (fR ..))⟩
   case succ k=>rw[b] at b_;exact a8 b_
end
def j_(x:br):Prop:=∀(g:Nat)(nm:List Nat)(n aZ:Nat)(e:U)(A:bo),gB x g->g+dX x<=900->cR x<=800000->(∀H∈nm,H<=g)->nm.length<=g->cZ x+1<=n->kW e aZ nm->
 (∀M,kW M aZ (nm++er x)->Fr (·=aZ) e M->A (.str (cF x nm)) M)->call n 118 [x.v,.ref aZ] A e
noncomputable def x9:br->Prop
 |.cons x r=>j_ x/\x9 r
 |_=>True
theorem DG{x:br}{g:Nat}{nm:List Nat}(a:gB x g)(b:∀H∈nm,H<=g)(c:nm.length<=g):(∀H∈nm++er x,H<=g+dX x)/\(nm++er x).length<=g+dX x:=by
 refine⟨λ H b_=>?_,?_⟩
 ·rcases fH.mp b_ with h|h
  ·exact ah (b H h) (dD ..)
  ·exact(qB x g a H h).2
 ·rw[bR];exact fV c (DI x)
set_option tactic.hygienic true in
theorem Kk{x:br}(V:d5 x=true)(t:x9 x):j_ x:=by
 intro g nm n aZ e A p u hz w y Y F q
 obtain⟨n,rfl⟩:=fu (n:=n) (k:=1) (by lia)
 have Q:=Lx x g p
 have hsz:=j1 x nm
 rw[EK V]
 refine aH (qW ..) (cO rfl (cO rfl (iL (u3 (bz rfl (uy rfl (λ r h M=>∃H bN a l,r=H.B/\(d5 H=true/\x9 H/\gB H bN/\bN+dX H<=900/\cR H<=800000/\(∀D∈a,D<=bN)/\a.length<=bN/\cZ H<=n)/\h=l.map .str/\ij [] l++cF H a=cF x nm/\a++er H=nm++er x/\l.length+gP H=gP x/\kW M aZ a/\Fr (·=aZ) e M)
  (h2 x g nm ([]) ⟨rfl,⟨V,t,p,u,hz,w,y,by lia⟩,rfl,rfl,rfl,gr _,F,.refl _ _⟩) (λ z z z z=>trivial) (λ v r h G R i J=>?_) λ h G i=>?_))))))
 ·obtain⟨H,bN,a,l,d,⟨C,I,af,K,L,j,m,N⟩,rfl,b,c,s,f,o⟩:=i
  rcases H with _|_
  case cons H D=>
   (injection d with a3 bL;subst a3 bL)
   have S:bN+(dX H+dX D)<=900:=K
   have T:cR H+cR D<=800000:=L
   have U:max _ _<=n:=N
   have W:l.length+(gP D+1)=gP x:=s
   refine⟨(by rw[cM];lia:(l.map E.str).length<=8000000),I.1 bN _ n aZ _ _ af.2.1 (by lia) (by lia) j m (by lia) f λ X O P=>J _ _ (h2 D (bN+dX H) (a++er H) (l++[cF H a]) ⟨rfl,⟨af.1.2,I.2,af.2.2,by lia,by lia,(DG af.2.1 j m).1,(DG af.2.1 j m).2,by lia⟩,?_,?_,?_,?_,O,o.trans P⟩)⟩
   ·rw[e8];rfl
   ·rw[I6,el];exact b
   ·rw[el];exact c
   ·rw[bR];show l.length+1+gP D=_;lia
  case nil=>injection d
  all_goals exact cq C
 ·obtain⟨H,bN,a,l,d,⟨C,_⟩,rfl,b,c,s,f,o⟩:=i
  rcases H with _|_
  case nil=>
   have b:ij [] l++[]=cF x nm:=b
   have c:a++[]=nm++er x:=c
   rw[gT] at b c
   rw[c] at f
   refine zu (by rw[b];show _+l.length*1<=8000000;lia) ?_
   exact rwl b (q _ f o)
  case cons _ _=>injection d
  all_goals exact cq C
theorem opened{e:U}{k:bo}{a w:List Nat}{j:Nat}(b:a.length<=1000)(c:j<=800000)(d:w.length<=j)(q:k (.str (a++(w++[41]))) e):bw .Add (.str a) (.str w) (λ v=>bw .Add v (.str [41]) k) e:=by
 refine qS (by show _<=8000000;lia) (qS (by rw[bR];show _+1<=8000000;lia) ?_)
 rw[el]
 exact q
theorem yV{e:U}{k:bo}{a w b:List Nat}(c:a.length<=100)(d:w.length<=100)(f:b.length<=100)(q:k (.str (a++w++b)) e):bw .Add (.str a) (.str w) (λ v=>bw .Add v (.str b) k) e:=
 qS (by show _<=8000000;lia) (qS (by rw[bR];show _<=8000000;lia) q)
theorem DB{e:U}{k:bo}{n:Nat}(q:k (.str (dQ n)) e):bw .Add (.str [110]) (.str (fj n)) k e:=by
 have:=wh n
 exact qS (by show 1+_<=8000000;lia) q
theorem aaM(i:Nat):j_ (.one i):=by
 intro g nm n aZ e A b c hz d f Y a q
 obtain⟨n,rfl⟩:=fu (n:=n) (k:=1) (by lia)
 refine aH (qW ..) (iL (bz rfl (bz ?_ (q e (by rw[show er _=[] from rfl,gT];exact a) (.refl _ _)))))
 refine nc ?_ ?_ ?_ ?_ ?_ (λ z=>?_) i<;>rfl
theorem aa4(w:Nat):j_ (.place w):=by
 intro g nm n aZ e A b c hz d f Y a q
 obtain⟨n,rfl⟩:=fu (n:=n) (k:=1) (by lia)
 exact aH (qW ..) (cO rfl (iL (bz rfl (q e (by rw[show er _=[] from rfl,gT];exact a) (.refl _ _)))))
theorem Ti(i a:Nat):j_ (.again i a):=by
 intro g nm n aZ e A m s hz o t Y h q
 obtain⟨n,rfl⟩:=fu (n:=n) (k:=1) (by lia)
 refine e_ m λ u C I=>?_
 have b:i<1000:=by lia
 have dl:=wh i
 have q:=q e (by rw[show er _=[] from rfl,gT];exact h) (.refl _ _)
 rw[xt] at q
 have j:lO e .In (.str (dQ i)) (.ref aZ)=some (decide (i∈nm)):=by
  obtain⟨_,B,af,_⟩:=h
  show(match e.get aZ with|some p=>C7 _ p|none=>none)=_
  exact rwl af (bB _ (HS b λ H b_=>by have:=o H b_;lia))
 refine aH (qW ..) (cO rfl (cO rfl (cO rfl (cO rfl (cO rfl (iL ?_))))))
 by_cases d:a=1/\i∈nm
 ·have q:=aT d▸q
  refine d_ (bz rfl (ru (by lia) (gD (bz rfl (sJ b (DB (bj j ?_)))))))
  rw[fi d.2]
  exact gD (cE (bz rfl (sJ b (yV (ae rfl) (ah (by assumption) (by decide)) (ae rfl) q))))
 ·rw[a9 d] at q
  refine(λ c=>d_ (bz rfl (jO (iZ (λ r=>bz rfl (sJ b (DB (bj j (iZ (λ l=>(d ⟨by lia,gg l⟩).elim) λ z=>c))))) λ z=>c)))) ?_
  refine bt ?_
  by_cases f:a=0/\i<10
  ·rw[aT f] at q
   exact fX (d_ (bz rfl (ru (by lia) (gD (bz rfl (u_ (by lia) (gD (cE (bz rfl (sJ b (yV (ae rfl) (ah (by assumption) (by decide)) (ae rfl) q)))))))))))
  ·rw[a9 f] at q
   refine fX ((λ c=>d_ (bz rfl (jO (iZ (λ r=>bz rfl (iE (iZ (λ l=>(f ⟨by lia,by lia⟩).elim) λ z=>c))) λ z=>c)))) ?_)
   exact bt (bz rfl (sJ b (yV (ae rfl) (ah (by assumption) (by decide)) (ae rfl) q)))
theorem TM{r:br}(h:j_ r):j_ (.atomic r):=by
 intro g nm n aZ e A a b hz c d Y f q
 obtain⟨n,rfl⟩:=fu (n:=n) (k:=1) (by lia)
 have hz:30+cR r<=800000:=hz
 have Y:cZ r+4+1<=n+1:=Y
 exact aH (qW ..) (cO rfl (cO rfl (cO rfl (cO rfl (cO rfl (cO rfl (iL (bz rfl (h g nm n aZ e _ a.2 b (by lia) c d (by lia) f λ l i j=>opened (ae rfl) (by lia) (j1 r nm) (q _ i j))))))))))
theorem Zw{x:br}(h:j_ x)(p:Option Nat)(cW:Bool):j_ (.look x p cW):=by
 intro g nm n aZ e A a b hz c d Y f q
 obtain⟨n,rfl⟩:=fu (n:=n) (k:=1) (by lia)
 have hz:30+cR x<=800000:=hz
 have Y:cZ x+6+1<=n+1:=Y
 have fin:(item (br.look x p cW).v (.int 1) λ i=>call n _ [i,.ref aZ] λ j=>bw _ _ j _) e:=
  bz rfl (h g nm n aZ e _ (by rcases p with _|_<;>exact a.2) b (by lia) c d (by lia) f λ o l m=>opened (ah (Jm _ _) (ae rfl)) (by lia) (j1 x nm) (q _ l m))
 refine aH (qW ..) (cO rfl (cO rfl (cO rfl (cO rfl (cO rfl (cO rfl (cO rfl (iL (fX ?_)))))))))
 rcases p with _|_
 case none=>
  refine bz rfl (Xl (by decide) (bt (dg rfl (fX (bz rfl (dk ?_))))))
  rcases cW with _|_
  ·exact bt (dg rfl fin)
  ·exact cE (dg rfl fin)
 case some w=>
  refine bz rfl (HE (i5 _) (cE (dg rfl (fX (bz rfl (dk ?_))))))
  clear a b hz q Y;rcases cW with _|_
  ·exact bt (dg rfl fin)
  ·exact cE (dg rfl fin)
theorem Xz{r:br}(h:j_ r)(i:Nat)(b:Bool):j_ (.group i r b):=by
 intro g nm n aZ e A a d hz c o Y l q
 obtain⟨n,rfl⟩:=fu (n:=n) (k:=1) (by lia)
 have hz:30+cR r<=800000:=hz
 have Y:cZ r+4+1<=n+1:=Y
 have d:g+(1+dX r)<=900:=d
 obtain⟨rfl,_,a⟩:=a
 have dl:=wh (g+1)
 refine aH (qW ..) (cO rfl (cO rfl (cO rfl (cO rfl (iL ?_)))))
 clear d hz Y;rcases b with _|_
 case false=>
  exact h _ nm n aZ e _ a (by lia) (by lia) (λ H b_=>oT (c H b_)) (by lia) (by lia) l λ p f j=>opened (ae rfl) (by lia) (j1 r nm) (q _ f j)
 case true=>
  refine bz rfl (dk (cE (bz rfl ?_)))
  have s:([40,63,60,110]++fj (g+1)++[62]).length<=1000:=by
   rw[bR,bR];show 4+_+1<=1000;lia
  refine e2 (cn (n:=1) (ae rfl)) (bz rfl (sJ (by lia) (DB (l.add (by lia) λ H b_=>by have:=c H b_;lia λ D=>by have:=c _ D;lia (by lia) λ p f j=>fX (bz rfl (dk (cE (bz rfl (sJ (by lia) (yV (ae rfl) (ah (by assumption) (by decide)) (ae rfl) (bz rfl (h _ _ n aZ _ _ a (by lia) (by lia) (λ H b_=>?_) ?_ (by lia) f λ u m t=>opened s (by lia) (j1 r _) ?_))))))))))))
  ·rcases fH.mp b_ with b_|b_
   ·exact oT (c H b_)
   ·obtain rfl:=fG.mp b_;exact bx _
  ·rw[bR];exact h' o
  ·rw[show[40,63,60,110]++fj _++[62]++(cF r _++[41])=[40,63,60]++110::fj (g+1)++62::(cF r (nm++[g+1])++[41]) by simp]
   exact q _ (by rw[el] at m;exact m) (j.trans t)
theorem Va{ab aU:br}(C:j_ ab)(I:j_ aU):j_ (.d4 ab aU):=by
 intro g nm n aZ e A c l hz m o Y s q
 obtain⟨n,rfl⟩:=fu (n:=n) (k:=1) (by lia)
 have hz:30+cR ab+cR aU<=800000:=hz
 have Y:max _ _+4+1<=n+1:=Y
 have l:g+(dX ab+dX aU)<=900:=l
 have a3:=j1 ab nm
 have bL:=j1 aU (nm++er ab)
 obtain⟨cC,di⟩:=DG c.2.1 m o
 refine aH (qW ..) (cO rfl (cO rfl (cO rfl (iL (u3 (bz rfl (uy rfl (λ r a M=>r=[ab.v,aU.v]/\a=[]/\M=e\/r=[aU.v]/\a=[.str (cF ab nm)]/\kW M aZ (nm++er ab)/\Fr (·=aZ) e M\/r=[]/\a=[.str (cF ab nm),.str (cF aU (nm++er ab))]/\kW M aZ (nm++er ab++er aU)/\Fr (·=aZ) e M) (.inl ⟨rfl,rfl,rfl⟩) (λ z z z z=>trivial) (λ v r a t x f p=>?_) λ a t f=>?_)))))))
 ·rcases f with⟨d,rfl,rfl⟩|⟨d,rfl,b,h⟩|⟨d,_⟩
  ·(injection d with a3 bL;subst a3 bL)
   exact⟨cn (ae rfl),C g nm n aZ _ _ c.2.1 (by lia) (by lia) m o (by lia) s λ u i j=>p _ _ (.inr (.inl ⟨rfl,rfl,i,j⟩))⟩
  ·(injection d with a3 bL;subst a3 bL)
   exact⟨cn (n:=1) (ae rfl),I _ _ n aZ _ _ c.2.2 (by lia) (by lia) cC di (by lia) b λ u i j=>p _ _ (.inr (.inr ⟨rfl,rfl,i,h.trans j⟩))⟩
  ·injection d
 ·rcases f with⟨d,_⟩|⟨d,_⟩|⟨_,rfl,b,h⟩
  ·injection d
  ·injection d
  ·have d:ij [124] [cF ab nm,cF aU (nm++er ab)]=cF ab nm++124::cF aU (nm++er ab):=by show cF ab nm++[124]++_=_;rw[el];rfl
   have w:(cF ab nm++124::cF aU (nm++er ab)).length<=cR ab+cR aU+1:=by rw[bR,fW];lia
   refine zu (by rw[d];show _+2*2<=8000000;lia) ?_
   exact rwl d (opened (ae rfl) (by lia) w (q _ (by rw[el] at b;exact b) h))
theorem adA(x:br):∃t l,x.v=.tup (.str t::l)/\∀e,lO e .In (.str t) (.tup [.str rU,.str jW])=some (kL x):=by
 rcases x with _|_
 all_goals exact cv _ _ ⟨rfl,λ z=>rfl⟩
theorem abQ{x:br}(h:j_ x)(c m:Nat):j_ (.rounds x c m):=by
 intro g nm n aZ e A a b hz f i Y j q
 obtain⟨n,rfl⟩:=fu (n:=n) (k:=1) (by lia)
 have hz:30+cR x<=800000:=hz
 have Y:cZ x+12+1<=n+1:=Y
 have a3:=j1 x nm
 have bL:=GO c
 have g9:=Jv m
 refine fA (adA x) λ t l o cZ=>?_
 refine aH (qW ..) (cO rfl (cO rfl (cO rfl (cO rfl (cO rfl (cO rfl (cO rfl (cO rfl (bz rfl (h g nm n aZ e _ a.2.2.2 b (by lia) f i (by lia) j λ B p r=>?_))))))))))
 have fin:∀w,w.length<=800010->w++((f' c).2.2++ju m)=cF _ nm->(item (br.rounds x c m).v (.int 4) λ s=>bw _ (.str w) s λ u=>item (br.rounds x c m).v (.int 5) λ y=>bw _ u y _) _:=λ w a d=>
  bz rfl (qS (by show _<=8000000;lia) (bz rfl (qS (by rw[bR];show _<=8000000;lia) (by rewrite[el,d];exact q _ p r))))
 refine fX (bz rfl (bz (by rw[o];rfl) (cb (ae rfl) rfl (bj (cZ _) (jM (λ d=>?_) λ d=>?_)))))
 ·exact fin _ (by lia) (by show _=(if kL x then cF x nm else _)++_;rw[aT d])
 ·refine opened (ae rfl) (by lia) a3 (fin _ (by simp only[bR,fW,iQ];lia) ?_)
  show _=(if kL x then cF x nm else _)++_
  rw[d,a9 (by decide)]
theorem qQ:∀x:br,j_ x/\x9 x
 |.one i=>⟨aaM i,trivial⟩
 |.place w=>⟨aa4 w,trivial⟩
 |.again i a=>⟨Ti i a,trivial⟩
 |.nil=>⟨Kk rfl trivial,trivial⟩
 |.cons x r=>
  have d:=⟨(qQ x).1,(qQ r).2⟩
  ⟨Kk rfl d,d⟩
 |.group i r b=>⟨Xz (qQ r).1 i b,trivial⟩
 |.atomic r=>⟨TM (qQ r).1,trivial⟩
 |.look x p cW=>⟨Zw (qQ x).1 p _,trivial⟩
 |.d4 ab aU=>⟨Va (qQ ab).1 (qQ aU).1,trivial⟩
 |.rounds x c m=>⟨abQ (qQ x).1 c m,trivial⟩
end
noncomputable def pF:Nat->Nat
 |0=>20
 |o+1=>50+6*pF o
set_option tactic.hygienic true in
theorem xI(o:Nat):20<=pF o:=by(rcases o with _|_;(case zero=>exact bx 20);(case succ o=>exact ah (ae rfl) (dD 50 _)))
theorem jB.fit{w:Nat}{x:br}(h:jB w x):cR x=20*w/\cZ x<=6/\eS x=0/\Short x:=by
 induction h with
 |nil=>exact⟨rfl,ae rfl,rfl,trivial⟩
 |@cons w k r c _ a=>
  exact f5 a λ C I af b=>⟨(bB _ C).trans (nQ ..),Nat.max_le.mpr ⟨(ae rfl:5+1<=6),I⟩,(bB _ af).trans rfl,trivial,b⟩
structure yc(j h o:Nat)(x:br):Prop where
 cR:cR x<=j
 cZ:cZ x<=h+13*o
 eS:eS x<=o
 short:Short x
theorem nD.uJ{bA:Prop}{r:br}{o:Nat}(h:nD bA r)(a:bA->yc (gP r*pF o) 6 o r):yc (3*pF o) 6 o r:=have k:=a h.k7;⟨ah k.cR (pW _ h.len),k.cZ,k.eS,k.short⟩
theorem uG{h r o:Nat}(k:r<=6+13*o)(fa:h<=6):r+h<=5+13*(o+1):=J [_,_,_] 0x11140d0944031000308c12b42610081 L k fa
theorem vz{j o:Nat}(k:j<=3*pF o):30+j<=pF (o+1):=J [_,_] 0xa6086421809e1000518481 L k
theorem Wz{x:br}:∀{o:Nat},h8 x o->(d5 x=false->yc (pF o) 5 o x)/\(d5 x=true->yc (gP x*pF o) 6 o x):=by
 induction x with
 |one k=>exact λ{o} z=>⟨λ z=>⟨xI o,dD ..,df o,trivial⟩,cq⟩
 |place w=>exact λ{o} z=>⟨λ z=>⟨xI o,dD ..,df o,trivial⟩,cq⟩
 |again n k=>exact λ{o} h=>⟨λ z=>⟨xI o,dD ..,h,trivial⟩,cq⟩
 |nil=>exact λ{o} z=>⟨λ h=>cq h.symm,λ z=>⟨df _,ah (ae rfl) (dD ..),df o,trivial⟩⟩
 |cons x r b d=>
  intro o h
  have k:=(b h.2.1).1 h.1.1
  have y:=(d h.2.2).2 h.1.2
  refine⟨λ h=>cq h.symm,λ z=>⟨?_,Nat.max_le.mpr ⟨?_,y.cZ⟩,Nat.max_le.mpr ⟨k.eS,y.eS⟩,k.short,y.short⟩⟩
  ·show cR x+cR r<=(gP r+1)*pF o
   rw[Nat.succ_mul,nQ];exact fV y.cR k.cR
  ·exact ah (vZ k.cZ 1) (jF (Nat.add_right_comm ..))
 |rounds x c m a=>
  intro o h
  refine a7 (ha h.1) λ o f=>?_;subst f
  have k:=(a h.2.2.2).1 h.2.2.1
  refine⟨λ z=>⟨vz (ah k.cR (Nat.le_mul_of_pos_left _ (by decide))),?_,h' k.eS,k.short⟩,cq⟩
  have:=k.cZ
  exact J [_,_,_] 0x44603425101822000110040300222818110040300a12b42510081 L this (hr _ _) (dj (J [_] 37385547023424 L))
 |group n r nm a=>
  intro o h
  refine a7 (ha h.1) λ o g=>?_;subst g
  have k:=h.2.uJ λ D=>(a D).2 h.2.row
  exact⟨λ z=>⟨vz k.cR,uG k.cZ (by decide),h' k.eS,k.short,h.2.len⟩,cq⟩
 |atomic r a=>
  intro o h
  refine a7 (ha h.1) λ o i=>?_;subst i
  have k:=h.2.uJ λ D=>(a D).2 h.2.row
  exact⟨λ z=>⟨vz k.cR,uG k.cZ (by decide),h' k.eS,k.short,h.2.len⟩,cq⟩
 |d4 ab aU b d=>
  intro o h
  refine a7 (ha h.1) λ o j=>?_;subst j
  have k:=h.2.1.uJ λ D=>(b D).2 h.2.1.row
  have y:=h.2.2.uJ λ D=>(d D).2 h.2.2.row
  refine⟨λ z=>⟨?_,uG (Nat.max_le.mpr ⟨k.cZ,y.cZ⟩) (by decide),h' (Nat.max_le.mpr ⟨k.eS,y.eS⟩),⟨k.short,h.2.1.len⟩,y.short,h.2.2.len⟩,cq⟩
  show 30+cR ab+cR aU<=50+6*pF o
  have:=k.cR
  have:=y.cR
  lia
 |look x p cW a=>
  intro o h
  refine a7 (ha h.1) λ o l=>?_;subst l
  refine⟨λ z=>?_,cq⟩
  rcases h.2 with⟨_,h⟩|⟨w,e,h⟩|⟨u,rfl⟩
  ·have k:=h.uJ λ D=>(a D).2 h.row
   exact⟨vz k.cR,uG k.cZ (by decide),h' k.eS,k.short,h.len⟩
  ·refine f5 h.fit λ C I af q=>⟨vz ?_,uG (ah I (dD ..)) (by decide),h' (rwl af (df o)),q,rwl h.wf.1.2.1 (kc e)⟩
   rw[C,Nat.mul_comm];exact Nat.mul_le_mul (kc e) (xI o)
  ·exact⟨vz (ah (xI o) (Nat.le_mul_of_pos_left _ (by decide))),uG (ah (ae rfl:5<=6) (dD ..)) (by decide),h' (df o),trivial,df 3⟩
theorem yr{a b:Nat}(h:30*a<=b):30*a<=30+b:=ah h (gC ..)
theorem aah(x:br):30*dX x<=cR x:=by
 induction x with
 |rounds x _ _ a=>exact yr a
 |group _ r _ a=>exact rwl (Nat.mul_add 30 1 _) (e7 a 30)
 |d4 ab aU b c=>exact rwl (Nat.mul_add 30 _ _) (fV (yr b) c)
 |atomic r a=>exact yr a
 |look x _ _ a=>exact yr a
 |cons x r b c=>exact rwl (Nat.mul_add 30 _ _) (fV b c)
 |_=>exact df _
theorem aaa(x:br):h3 x<=cR x:=by
 induction x with
 |again _ _=>exact(ae rfl:1<=20)
 |rounds x _ _ a=>exact ah a (gC ..)
 |group _ r _ a=>exact ah a (gC ..)
 |d4 ab aU b c=>exact fV (ah b (gC ..)) c
 |atomic r a=>exact ah a (gC ..)
 |look x _ _ a=>exact ah a (gC ..)
 |cons x r b c=>exact fV b c
 |_=>exact df _
theorem ft.top{g b:Nat}{x:br}(h:ft 3 2 3 0 0 x g b):(cR x<=27000/\dX x<=900/\h3 x<=900000)/\cZ x<=45/\eS x<=3/\Short x/\gP x<=3:=by
 have k:=h.rw.uJ λ D=>(Wz D).2 h.1.1
 have hz:cR x<=27000:=ah k.cR (ae rfl)
 exact⟨⟨hz,Nat.le_of_mul_le_mul_left (ah (aah x) hz) (ae rfl),ah (aaa x) (ah hz (ae rfl))⟩,k.cZ,k.eS,k.short,h.1.2⟩
section
section
variable{T:List Nat}{f:Bool}{G:Nat}
theorem qY{N:Nat}{x:br}(h:∀(n a:Nat)(O:cA)(A:bo)(e:U),N<=n->a<=T.length->hG T O->O.length=G->(∀r M,dw M r ((dJ (bI T f x a O)).map eO)->(∀i,r=.ref i->e.next<=i)->eh e M->A r M)->
  bq 125 [] 1 (call n) (gc (some x.v) (some (.str T)) (some (eO (a,O))) (some (.bool f)) (some (.int a)) (some (m2 O)) none none none none none none) (eX A) e):hJ T f (N+1) x G:=by
 intro n a O A e Y b c d q
 refine a7 (fu (k:=1) (J [_,_] 0xa1100a111001 L Y)) λ n g=>?_;subst g
 exact aH (ad7 ..) (aH (W4 ..) (h n a O A e (k1 Y) b c d q))
theorem ob{e:U}{k:bo}{aV:List ck}(a:aV.length<=100)(q:∀r M,dw M r (aV.map eO)->(∀i,r=.ref i->e.next<=i)->eh e M->k r M):dI (aV.map eO) k e:=
 e2 (by rw[cM];exact cn a) (q _ _ .new (λ i d=>by(injection d with a3;subst a3);exact bx _) (.alloc _ _ _))
theorem afv(b:T.length<=4)(k:fU T){i:Nat}:hJ T f 1 (.one i) G:=by
 refine qY λ n a O A e Y l p s q=>?_
 rw[xg] at q
 refine aH (p6 ..) (iL (j2 (ah b (ae rfl)) (jO ?_)))
 rw[s9]
 refine k5 (λ h=>?_) λ h=>?_
 ·rw[a9 λ D=>absurd (o3 D) (by exact λ m=>bC _ (J [_,_] 0x208804088a009481 L (aL h.symm) m))] at q
  exact ob (aV:=[]) (show 0<=100 by decide) q
 ·refine a7 (⟨_,hK ((uo h).elim (λ o=>o) (J [_,_] 0x142220004088a009482 L l))⟩:∃c,T[a]?=some c) λ c g=>?_
  refine ba (JU i) λ j C I=>?_
  have d:gF T f i a=(((pq i).contains c||f&&(pq i).contains (vy c)&&i !=4)!=DV i):=by
   unfold gF;rw[g];rfl
  refine aaJ b k g (fX (bz rfl (bz (by rw[C];rfl) (bj (r:=gF T f i a) (by rw[d];rfl) (jM (λ h=>?_) λ h=>?_)))))
  ·rw[aT h] at q
   exact dg rfl (cb (cn (n:=2) (ae rfl)) rfl (ob (aV:=[(a+1,O)]) (show 1<=100 by decide) q))
  ·rw[a9 λ D=>by rw[h] at D;exact cq D] at q
   exact ob (aV:=[]) (show 0<=100 by decide) q
theorem LC(b:T.length<=4){w:Nat}(c:w<3):hJ T f 2 (.place w) G:=by
 refine qY (N:=1) λ n a O A e Y d g i q=>?_
 apply i7 (k:=1) Y;intro n
 rw[xR] at q
 refine aH (p6 ..) (cO rfl (iL (fX (bz (v:=.str (rX w)) rfl (aa5 c b d ?_)))))
 show aW (kR w T a) _ _ e
 refine jM (λ h=>?_) λ h=>?_
 ·rw[aT h,rW (bx _)] at q
  exact ob (aV:=[(a,O)]) (show 1<=100 by decide) q
 ·rw[a9 (λ D=>by rw[h] at D;exact cq D),rW (df _)] at q
  exact ob (aV:=[]) (show 0<=100 by decide) q
theorem acn{e:U}{k:bo}{r:E}{B:List E}{m:Nat}(h:dw e r B)(a:B.length<=m)(b:m<=8000000)(c:m<=1000000000)(q:k (.lst B) e):eN r none (some (.int m)) k e:=by
 refine h.slice (ah a b) rfl (eM c) ?_
 show k (.lst ((B.take m).drop 0)) e
 rw[List.take_of_length_le a]
 exact q
theorem Z3{m:Nat}(a:m<3)(h:m≠2):(ju m==[43])=false:=by
 revert h
 apply rL a<;>intro h
 ·rfl
 ·rfl
 ·exact(h rfl).elim
theorem aa9:mX .Pow (.int 10) (.int 6)=some (.int ((1000000:Nat):Int)):=by kernel_rfl
theorem afw(t:T.length<=4){N c m:Nat}{x:br}(j:m<3)(o:hJ T f N x G)(p:∀a O,a<=T.length->hG T O->(bI T f x a O).length<=2557)
  (b:∀a O,a<=T.length->hG T O->(gL (bI T f x) (dh c) (dW c) (m==1) 12 0 (-1) a O).length<=2557):hJ T f (N+15) (.rounds x c m) G:=by
 refine qY (N:=N+14) λ n a O A e Y g h r q=>?_
 have s:l1 T.length (dh c) 0 (-1) a<12:=by
  have:=(Bt c).1
  unfold l1
  split<;>lia
 have k:=ah (nf _) (b a O g h)
 refine aH (p6 ..) (cO rfl (cO rfl (iL (abR j o p 12 0 (-1) a O n _ e s (b a O g h) Y g h r λ M l=>fX (bz (v:=.str (ju m)) rfl (hv ?_))))))
 rw[ES] at q
 by_cases I:m=2
 ·clear b;subst I
  rw[aT rfl] at q
  refine cE (dw.lst.slice (by rw[cM];exact ah k (ae rfl)) rfl (eM (n:=1) (ae rfl)) (q _ _ ?_ (λ i d=>(E.noConfusion d)) l))
  rw[rW (vA _),<-zX,List.map_take]
  exact .lst
 ·rw[a9 I] at q
  rw[Z3 j I]
  refine bt (dg aa9 (acn .lst (by rw[cM];exact ah k (ae rfl)) (ae rfl) (ae rfl) (q _ _ .lst (λ i d=>(E.noConfusion d)) l)))
theorem afu{N i:Nat}{x:br}{nm:Bool}(s:hJ T f (N+1) x G)(t:∀a O,a<=T.length->hG T O->(bI T f x a O).length<=2557)(u:0<i)(B:i<=G)(C:G<=100000):hJ T f (N+2) (.group i x nm) G:=by
 refine qY (N:=N+1) λ n a O A e Y g h m q=>?_
 refine a7 (fu (k:=1) (J [_,_] 0xa1100a111001 L Y)) λ n D=>?_;subst D
 rw[ER] at q
 have p:=ah (nf _) (t a O g h)
 refine aH (p6 ..) (cO rfl (cO rfl (cO rfl (iL (bz (v:=x.v) rfl (s (n+1) a O _ e (by assumption) g h m λ ab F o W H=>?_))))))
 refine sH o.items (λ y j M=>M=F/\j=(((dJ (bI T f x a O)).take y).map λ w=>(w.1,w.2.set (i-1) (some (a,w.1)))).map eO) ⟨rfl,rfl⟩ (λ y j M b=>by rw[b.1];exact o.hQ) (λ y v j I X l b K=>?_) λ j I b=>?_
 ·refine bf b λ P Q=>?_;clear b;subst P;subst Q
  rw[w5] at l
  refine ba (gS.mp l) λ w c R=>?_;subst R
  have r:w.2.length=G:=((ix x a O w g h (n'.mp (ka c))).2.2.2).trans m
  refine⟨?_,bz (v:=.int w.1) rfl (bz (v:=m2 w.2) rfl (bz (v:=.int i) rfl (bz (v:=.int w.1) rfl (cb (cn (n:=2) (ae rfl)) rfl (acd u (by rw[r];exact B) (by rw[r];exact C) (cb (cn (n:=2) (ae rfl)) rfl (K _ _ ⟨rfl,?_⟩)))))))⟩
  ·rw[cM,cM]
   exact ah (sz ..) (ah p (ae rfl))
  ·rw[lL,c,e8,e8]
   rfl
 ·refine bf b λ S U=>?_;clear b;clear o;subst S;subst U
  rw[cM,nL]
  refine tp (G:=G) .lst (λ w c=>?_) ?_ ?_
  ·refine ba (nN.mp c) λ v l V=>?_;clear c;subst V
   rw[hs]
   exact((ix x a O v g h (n'.mp l)).2.2.2).trans m
  ·rw[cM];exact ah p (ae rfl)
  ·refine q _ _ ?_ (λ i d=>(E.noConfusion d)) H
   rw[aaD]
   exact .lst
theorem afq(j:T.length<=4)(t:fU T){i m:Nat}(x:0<i)(u:i<=G)(B:G<=100000):hJ T f 2 (.again i m) G:=by
 refine qY (N:=1) λ n a O A e Y C F H q=>?_
 apply i7 (k:=1) Y;intro n
 refine a7 ((⟨_,hK (by exact J [_,_,_,_] 0xc111c0020447004c509481 L u (aL H.symm) (dj (J [_] 4540987353335809 L x)))⟩:∃p,O[i-1]?=some p)) λ p l=>?_
 have c:∀{y},y<=T.length->y<=1000000000:=λ h=>ah h (ah j (ae rfl))
 have o:T.length<=c7:=ah j (ae rfl)
 have zq:∀(k:bo)(e:U),k (hB p) e->item (m2 O) (.int ((i-1:Nat):Int)) k e:=λ k e h=>bz (v:=hB p) (by
  show(if 0<=((i-1:Nat):Int)&&dU ((i-1:Nat):Int) then(O.map hB)[(((i-1:Nat):Int)).toNat]? else none)=_
  rw[js (by exact J [_,_,_] 0xee6b2800c33008608c350106509481 L u B (hr _ _)),fi (i5 _)]
  show(O.map hB)[i-1]?=_
  rw[kb,l]
  rfl) h
 rw[Au] at q
 rw[l] at q
 refine aH (p6 ..) (cO rfl (cO rfl (cO rfl (cO rfl (iL (bz (v:=.int i) rfl (dg (v:=.int ((i-1:Nat):Int)) (bB some (bB E.int (C' (by assumption)))) (zq _ e ?_))))))))
 clear zq;rcases p with _|⟨b,d⟩
 ·exact fX (bj (r:=true) rfl (cE (d_ (bj (r:=true) rfl (xk (cE (ob (aV:=[]) (show 0<=100 by decide) q)))))))
 ·have g:=F b d (ka l)
  dsimp only at q
  refine fX (bj (r:=false) rfl (bt (bz (v:=.int d) rfl (dg (v:=.int ((a+d:Nat):Int)) rfl (bz (v:=.int b) rfl (dg (v:=.int ((a+(d-b):Nat):Int)) (bB some (bB E.int (by lia))) (d_ (bj (r:=false) rfl (iX (j2 o (n1 (mb (λ h=>?_) λ h=>?_))))))))))))
  ·rw[a9 (λ D=>by have:=gg h;exact bC _ (J [_,_,_] 0x208804314013140111001 L (dR.mp (gg h)) D.1)),rW (df _)] at q
   exact cE (ob (aV:=[]) (show 0<=100 by decide) q)
  ·have s:a+(d-b)<=T.length:=by have:=rh h;exact(hU.mp (jG.mp (rh h)))
   refine kT o (eM (c C)) (eM (c s)) (bz (v:=.int b) rfl (bz (v:=.int d) rfl (kT o (eM (c (ah g.1 g.2))) (eM (c g.2)) ?_)))
   show call _ 121 [.str (cut T a (some (a+(d-b)))),.str (cut T b (some d)),.bool f] _ e
   rw[o1,show some d=some (b+(d-b)) by rw[Nat.add_sub_of_le g.1],o1]
   have w:∀y,((T.drop y).take (d-b)).length<=1000:=λ y=>by rw[nK,jn];exact J [_,_,_,_] 0x3e810ce031c243140120881 L j s (Nat.min_le_left _ _)
   refine ab3 ((t.drop _).take _) ((t.drop _).take _) (w _) (w _) ?_
   refine dk (mb (λ h=>?_) λ h=>?_)
   ·rw[a9 (λ D=>by rw[D.2] at h;exact cq h),rW (df _)] at q
    exact cE (ob (aV:=[]) (show 0<=100 by decide) q)
   ·rw[aT ⟨s,by rcases d:oh f ((T.drop a).take _) ((T.drop b).take _) with _|_;rw[d] at h;exact(Bool.noConfusion h);rfl⟩,rW (bx _)] at q
    exact bt (cb (cn (n:=2) (ae rfl)) rfl (ob (aV:=[(a+_,O)]) (show 1<=100 by decide) q))
theorem afs{N:Nat}{x:br}(g:hJ T f N x G)(h:∀a O,a<=T.length->hG T O->(bI T f x a O).length<=2557):hJ T f (N+1) (.atomic x) G:=by
 refine qY λ n a O A e Y b c j q=>?_
 rw[afg] at q
 refine aH (p6 ..) (cO rfl (cO rfl (cO rfl (cO rfl (cO rfl (iL (bz (v:=x.v) rfl (g n a O _ e Y b c j λ ab m k o l=>?_))))))))
 refine k.slice (by rw[cM];exact ah (ah (nf _) (h a O b c)) (ae rfl)) rfl (eM (n:=1) (ae rfl)) (q _ _ ?_ (λ i d=>(E.noConfusion d)) l)
 rw[rW (vA _),<-zX,List.map_take]
 exact .lst
end
end
section
section
variable{T:List Nat}{f:Bool}{G:Nat}
noncomputable def Zt:Option Nat->Int
 |some w=>w
 |none=>-1
theorem zM{B:List E}{i n:Nat}(d:E.lst B=.ref i):n<=i:=(E.noConfusion d)
set_option tactic.hygienic true in
theorem Aw(bp:T.length<=4){N:Nat}{x:br}{p:Option Nat}{cW:Bool}(bQ:p.getD 0<=100)(R:hJ T f N x G)(S:∀a O,a<=T.length->hG T O->(bI T f x a O).length<=2557):hJ T f (N+2) (.look x p cW) G:=by
 refine qY λ n a O A e Y K c W q=>a7 (fu (k:=1) (J [_,_] 0xa1100a111001 L Y)) λ n X=>?_;subst X
 refine aH (p6 ..) (cO rfl (cO rfl (cO rfl (cO rfl (cO rfl (cO rfl (iL (aH (ad6 ..) (aH (W3 ..) (aH (T2 ..) (bz (v:=.int (Zt p)) (by rcases p with _|_<;>rfl) (lN (v:=.int _) ?_ (dg (v:=.int (a-p.getD 0)) rfl ?_)))))))))))))
 ·rcases p with _|_
  case none=>rfl
  case some w=>exact bB _ (bB E.int (a9 (show¬(w:Int)<0 by exact λ Z=>bC _ (J [_] 0x8220004111001 L (dR.mp Z)))))
 refine mz (λ r M=>dw M r ((if p.getD 0<=a then(bI T f x (a-p.getD 0) O).take 1 else[]).map eO)/\(∀i,r=.ref i->e.next<=i)/\eh e M) (λ bk m=>uO (k5 (λ h=>?_) λ h=>?_)) λ r g V=>?_
 ·rw[aT (by lia:p.getD 0<=a)] at m
  refine bz rfl (cb (cn (n:=2) (by decide)) rfl ?_)
  rw[show a-p.getD 0=((a-p.getD 0:Nat):Int) by lia]
  refine R n _ O _ e (J [_,_] 0x290011140111001 L Y) (ah (hr _ _) K) c W λ ab g kK cy o=>kK.slice (by rw[cM];exact ah ((λ b=>ah (nf _) (S (a-b) O (ah (hr _ _) K) c)) _) (ae rfl)) rfl (eM (ae rfl)) (m _ _ ⟨?_,λ i=>zM,o⟩)
  rw[<-zX,List.map_take]
  exact .lst
 ·rw[a9 (by lia)] at m
  exact e2 (by decide) (m _ _ ⟨.new,λ i d=>by(injection d with a3;subst a3);exact bx _,.alloc _ _ _⟩)
 ·obtain⟨V,cy,o⟩:=V
  rw[xQ] at q
  have u:(if p.getD 0<=a then(bI T f x (a-p.getD 0) O).take 1 else[]).length<=1:=by
   split
   ·exact vA _
   ·exact df _
  generalize (if p.getD 0<=a then(bI T f x _ O).take 1 else[])=l at V q u
  refine bz rfl (dk ?_)
  rcases cW with _|_
  case true=>
   have P:∀{M:U},dw M r (l.map eO)->gE M r=.lst _:=λ{M} h=>by
    have C:=h.1
    rcases r with _|_
    case lst dV=>obtain rfl:=cm C;rfl
    case ref y=>
     rw[iW] at C
     unfold gE
     dsimp only
     rcases c:M.get y with _|_
     case none=>rw[c] at C;exact a8 C
     case some D=>
      rw[c] at C
      rcases D with _|_
      case list dV=>obtain rfl:=cm C;rfl
      case flist dV=>obtain rfl:=cm C;rfl
      all_goals exact a8 C
    all_goals exact a8 C
   have lV:∀{M:U}{r:E}{B:List E},dw _ r B->ig _ r=none:=λ{M r B} h=>by
    have C:=h.1
    clear h;rcases r with _|_
    case lst dV=>rfl
    case ref y=>
     rw[iW] at C
     unfold ig
     dsimp only
     rcases c:M.get y with _|_
     case none=>rfl
     case some D=>
      rw[c] at C
      clear c;rcases D with _|_
      case dict _ _=>exact a8 C
      all_goals rfl
    all_goals exact a8 C
   have F:dw (g.alloc (.list [])) r _:=V.ext (.alloc _ _ _)
   have Q:jP (g.alloc (.list [])) r (.ref g.next)=gk 10 (.lst (l.map eO)) (.lst []):=by
    unfold jP
    rw[lV F]
    rw[P F]
    show gk 10 _ (match(g.alloc _).get _ with|some (.list B)=>E.lst B|some (.flist B)=>E.lst B|_=>_)=_
    rw[fR]
   refine cE (fX (e2 (by decide) (bj (r:=l.isEmpty) ?_ ?_)))
   ·show jP _ _ _=_
    rw[Q]
    rcases l with _|_<;>rfl
   ·have s:eh e (g.alloc (.list [])):=o.jJ
    clear P F Q;rcases l with _|_
    case nil=>
     exact ob (aV:=[(a,O)]) (show 1<=100 by decide) λ ej M C I af=>q ej _ C (λ i d=>ah s.next (I i d)) (s.trans af)
    case cons w l=>
     exact ob (aV:=[]) (show 0<=100 by decide) λ ej M C I af=>q ej _ C (λ i d=>ah s.next (I i d)) (s.trans af)
  case false=>
   rw[a9 (by decide),rW (by rw[cM];exact u)] at q
   refine bt (sH V.items (λ y t M=>M=g/\t=((l.take y).map λ v=>(a,v.2)).map eO) ⟨rfl,rfl⟩ (λ y t M j=>by exact rwl j.1 V.hQ) (λ y v t aS g' H j ct=>?_) λ t aS j=>?_)
   ·refine bf j λ dZ kr=>?_;clear j;subst dZ;subst kr
    rw[w5] at H
    refine ba (gS.mp H) λ w aD eV=>?_;clear H;subst eV
    refine⟨?_,bz rfl (cb (cn (n:=2) (by decide)) rfl (ct _ _ ⟨rfl,?_⟩))⟩
    ·rw[cM,cM]
     exact ah (sz ..) (ah u (ae rfl))
    ·rw[lL,aD,e8,e8]
     rfl
   ·refine bf j λ fh mK=>?_;clear j;clear V;subst fh;subst mK
    rw[cM,nL]
    exact q _ _ .lst (λ i d=>(E.noConfusion d)) o
theorem aft(K:T.length<=4){N:Nat}{ab aU:br}(C:hJ T f N ab G)(I:hJ T f N aU G)(y:∀a O,a<=T.length->hG T O->(bI T f ab a O).length<=2557)(B:∀a O,a<=T.length->hG T O->(bI T f aU a O).length<=2557):hJ T f (N+2) (.d4 ab aU) G:=by
 refine qY λ n a O A e Y b c l q=>a7 (fu (k:=1) (J [_,_] 0xa1100a111001 L Y)) λ n D=>?_;subst D
 have aX:=ah (nf _) (y a O b c)
 have bS:=ah (nf _) (B a O b c)
 have cV:∀w∈dJ (bI T f ab a O),w.2.length=G:=λ w g=>(ix ab a O w b c (n'.mp g)).2.2.2.trans l
 rw[EP] at q
 refine aH (p6 ..) (cO rfl (cO rfl (cO rfl (cO rfl (cO rfl (cO rfl (cO rfl (fX (cO rfl (e2 (by decide) (bz rfl (k_ rfl (λ i ak M=>(∃b3 cX fx r,ak=gc _ _ _ _ _ _ b3 cX _ _ (some r) fx/\
  dw M r ((match i with|0=>[]|1=>dJ (bI T f ab a O)|_=>dJ (dJ (bI T f ab a O)++dJ (bI T f aU a O))).map eO)/\∀i,r=.ref i->e.next<=i)/\eh e M) ⟨(h2 none none none _ ⟨rfl,.new,λ i d=>by(injection d with a3;subst a3);exact bx _⟩),.alloc _ _ _⟩ (λ z z z z=>trivial) (λ i v ak M P o h s z z=>?_) λ ak M h=>?_))))))))))))
 ·refine bf h λ t m=>?_;clear h;refine r9 t λ b3 cX fx r E V u=>?_;clear t;subst E
  refine aH (Hw ..) (aH (F8 ..) (cO rfl ?_))
  rcases i with _|_|i
  ·obtain rfl:=cm o
   refine C (n+1) a O _ M (J [_,_] 0x445010011140111001 L Y) b c l λ ej F p z j=>dw.add (V.ext j) p ?_ (tp (aV:=dJ (bI T f ab a O)) (G:=G) .new cV (ah aX (ae rfl)) (s _ _ ⟨(h2 b3 _ fx _ ⟨rfl,?_,λ i d=>zM d⟩),(m.trans j).jJ⟩).1)
   ·show 0+_<=_
    rw[gr,cM];exact ah aX (ae rfl)
   ·rw[aaC];exact .lst
  ·obtain rfl:=cm o
   refine I (n+1) a O _ M (J [_,_] 0x445010011140111001 L Y) b c l λ ej F p z j=>dw.add (V.ext j) p ?_ (tp (aV:=dJ (bI T f ab a O)++dJ (bI T f aU a O)) (G:=G) ?_ (λ w g=>(fH.mp g).elim (cV w) ((λ w g=>(ix aU a O w b c (n'.mp g)).2.2.2.trans l) w)) ?_ (s _ _ ⟨(h2 b3 _ fx _ ⟨rfl,.lst,λ i d=>zM d⟩),(m.trans j).jJ⟩).1)
   ·rw[cM,cM];exact ah (fV aX bS) (ae rfl)
   ·rw[e8];exact .new
   ·rw[bR];exact ah (fV aX bS) (ae rfl)
  ·exact a8 o
 ·refine bf h λ x m=>?_;clear h;refine r9 x λ b3 cX fx r H V u=>?_;clear x;subst H
  refine f3 (aH (F7 ..) (gn (q r M ?_ u m)))
  rw[<-xf]
  exact V
theorem acv{D:br}{o:Nat}(hz:d5 D=false)(b:h8 D o){s:br}:d5 s=true->h8 s o->h8 (s.snoc D) o/\d' (s.snoc D)=d' s+d' D/\gP (s.snoc D)=gP s+1/\∀a O,bI T f (s.snoc D) a O=(bI T f s a O).flatMap λ w=>bI T f D w.1 w.2:=by
 induction s with
 |nil=>exact λ z z=>⟨⟨⟨hz,rfl⟩,b,trivial⟩,nQ ..,rfl,λ a O=>(List.flatMap_singleton' _).trans (List.flatMap_singleton ..).symm⟩
 |cons x r _ c=>
  intro _ h
  refine f5 (c h.1.2 h.2.2) λ d e g i=>?_
  exact⟨⟨⟨h.1.1,KA⟩,h.2.1,d⟩,(bB (d' x+·) e).trans (ez ..).symm,bB (·+1) g,λ a O=>(bB ((bI T f x a O).flatMap) (funext λ w=>i w.1 w.2)).trans List.flatMap_assoc.symm⟩
 |_=>exact cq
noncomputable def vK(bh:br->Prop):br->Prop
 |.cons x r=>bh x/\vK bh r
 |_=>True
structure x'(T:List Nat)(f:Bool)(G N o:Nat)(x s H:br)(i:Nat):Prop where
 abV:d5 s=true
 k7:h8 s o
 l7:d5 H=true
 uC:h8 H o
 b:d' s+d' H<=4
 l:gP s+gP H<=3
 B:H.B=x.B.drop i
 all:vK (λ D=>hJ T f N D G) H
 fl:∀a O,(bI T f s a O).flatMap (λ w=>bI T f H w.1 w.2)=bI T f x a O
theorem x'.step{N o i:Nat}{x s H D:br}(h:x' T f G N o x s (.cons D H) i):x' T f G N o x (s.snoc D) H (i+1)/\∀a O,bI T f (s.snoc D) a O=(bI T f s a O).flatMap λ w=>bI T f D w.1 w.2:=by
 refine f5 (acv (T:=T) (f:=f) h.uC.1.1 h.uC.2.1 h.abV h.k7) λ d e g c=>?_
 refine⟨⟨KA,d,h.uC.1.2,h.uC.2.2,?_,?_,(bB List.tail h.B).trans List.tail_drop,h.all.2,λ a O=>?_⟩,c⟩
 ·rw[e,ez];exact h.b
 ·rw[g,ez,nQ 1];exact h.l
 ·rw[c,List.flatMap_assoc];exact h.fl a O
theorem yz(b:T.length<=4){x:br}{o:Nat}(c:o<4)(e:d' x<=4)(i:h8 x o)(j:d5 x=true->gP x<=3){a:Nat}{O:cA}(g:a<=T.length)(h:hG T O):(bI T f x a O).length<=2557:=by
 have t:=K0 o c _ (kd e) _ (l0 b a)
 have k:=Be (f:=f) b x o c e i
 rcases d:d5 x with _|_
 case false=>exact ah (k.1 d a O g h).1 t.1
 case true=>exact ah (k.2 d 3 (j d) (bx 3) a O g h).1 (t.2 3 (ae rfl))
set_option tactic.hygienic true
theorem LD(L:T.length<=4){N o:Nat}(P:o<4){x:br}(V:d5 x=true)(ar:h8 x o)(ax:d' x<=4)(Yq:gP x<=3)(bH:vK (λ D=>hJ T f N D G) x):hJ T f (N+2) x G:=by
 refine qY (N:=N+1) λ Q a O A e Y R S U q=>?_
 refine a7 (ha (ah (gC 1 N) Y)) λ Q kU=>?_;subst kU
 rw[EK V]
 refine aH (p6 ..) (cO rfl (cO rfl (cO rfl (cO rfl (cO rfl (cO rfl (cO rfl (fX (iL (e2 (cn (n:=1) (by decide)) (bz (v:=.lst x.B) rfl ?_)))))))))))
 refine k_ (v:=.lst x.B) rfl (λ i ak M=>(∃b3 cX fx r,ak=gc (some (xo x.B)) (some (.str T)) (some (eO (a,O))) (some (.bool f)) (some (.int a)) (some (m2 O)) b3 cX none none (some r) fx/\
  (∃s H,x' T f G N o x s H i/\dw M r ((dJ (bI T f s a O)).map eO))/\(∀i,r=.ref i->e.next<=i))/\eh e M)
  ⟨(h2 none none none _ ⟨rfl,(cv .nil x ⟨⟨rfl,trivial,V,ar,rwl ((gr _)) ax,rwl ((gr _)) Yq,rfl,bH,λ a O=>List.flatMap_singleton ..⟩,.new⟩),λ i d=>by(injection d with a3;subst a3);exact bx _⟩),.alloc _ _ _⟩ (λ z z z z=>trivial) (λ i v ak M d3 c j ct z z=>?_) λ ak M j=>?_
 ·refine bf j λ W F=>?_;clear j;refine r9 W λ b3 cX fx r E1 X Z=>?_;clear W;subst E1;refine fA X λ s H g V=>?_;clear X
  have c:H.B[0]?=some v:=by rw[g.B,sq];exact c
  rcases H with _|_
  case cons D H=>
   obtain rfl:=c' c
   have J:∀w∈dJ (bI T f s a O),kZ T a O w:=λ w k=>ix s a O w R S (n'.mp k)
   have Jp:∀w,kZ T a O w->(dJ (bI T f D w.1 w.2)).length<=2557:=λ w k=>ah (nf _) (yz L P (ah (ah (dD ..) (gC ..)) g.b) g.uC.2.1 (λ d=>cq (g.uC.1.1.symm.trans d)) k.2.1 k.2.2.1)
   have w0:∀y,(((dJ (bI T f s a O)).take y).flatMap λ w=>dJ (bI T f D w.1 w.2)).length<=6538249:=λ y=>ah (wt (K:=2557) λ w k=>Jp w (J w (rg k))) (pW 2557 (ah (sz ..) (ah (nf _) (yz (f:=f) L P (ah (dD ..) g.b) g.k7 (λ z=>ah (dD ..) g.l) R S))))
   refine aH (Hw ..) (aH (F8 ..) (iL (e2 (by decide) ?_)))
   have kK:dw (M.alloc (.list [])) r ((dJ (bI T f s a O)).map eO):=V.ext (.alloc _ _ _)
   refine k_ kK.items (λ y ak m=>(∃p,ak=gc (some (xo x.B)) (some (.str T)) (some (eO (a,O))) (some (.bool f)) (some (.int a)) (some (m2 O)) p (some D.v) none none (some r) (some (.ref M.next)))/\
    m.get M.next=some (.list ((((dJ (bI T f s a O)).take y).flatMap λ w=>dJ (bI T f D w.1 w.2)).map eO))/\Fr (·=M.next) (M.alloc (.list [])) m) ⟨⟨_,rfl⟩,fR ..,.refl _ _⟩ (λ y ak m j=>(kK.fr j.2.2 (λ y d h=>absurd (V.2 y d) (rwr h (Nat.lt_irrefl _)))).hQ) (λ y v ak m SK c j Cr z z=>?_) λ ak m j=>?_
   ·refine e_ j λ jg u t=>?_;clear j;refine a7 jg λ p xX=>?_;clear jg;subst xX
    rw[w5] at c
    refine ba (gS.mp c) λ w k kp=>?_;subst kp
    have E:=J w (ka k)
    refine aH (W5 ..) (aH (T3 ..) (g.all.1 (Q+1) w.1 w.2 _ m (oT (k1 Y)) E.2.1 E.2.2.1 (E.2.2.2.trans U) λ aU c9 i_ z gu=>?_))
    refine IM (gu.get u (d7 (eo _) t.next) λ D=>D) i_ ?_ (Cr _ _ ⟨⟨_,rfl⟩,?_,(t.trans (gu.mono λ z z D=>D.elim)).trans (.upd _ _ _ rfl)⟩).1
    ·rw[cM,cM]
     exact ah (fV (w0 y) (Jp w E)) (ae rfl)
    ·rw[lL,k,List.flatMap_append,e8,show(some w:Option ck).toList=[w] from rfl,List.flatMap_singleton]
     exact dH ..
   ·refine e_ j λ jy u t=>?_;clear j;refine a7 jy λ p AE=>?_;clear jy;subst AE
    have H9:=w0 ((dJ (bI T f s a O)).map eO).length
    rw[cM,nL] at u H9
    have Ic:M.next<m.next:=d7 (eo _) t.next
    refine f3 (aH (T4 ..) (tp (G:=G) (aV:=(dJ (bI T f s a O)).flatMap λ w=>dJ (bI T f D w.1 w.2)) ⟨by rw[iW,u];rfl,λ i d=>by(injection d with a3;subst a3);exact Ic⟩ (λ w k=>?_) (ah H9 (ae rfl)) (f3 (aH (T5 ..) (ct _ _ ⟨(h2 _ _ _ _ ⟨rfl,(cv _ _ ⟨g.step.1,?_⟩),λ i d=>zM d⟩),F.trans (⟨kc Ic,λ y C I=>(t.same y (j' C) (e' C)).trans (iB (e' C))⟩)⟩).1))))
    ·refine ba (List.mem_flatMap.mp k) λ v C I=>?_
     have c:=J v C
     exact(ix D v.1 v.2 w c.2.1 c.2.2.1 (n'.mp I)).2.2.2.trans (c.2.2.2.trans U)
    ·rw[JS,DT,<-g.step.2]
     exact .lst
  all_goals exact a8 c
 ·refine bf j λ jh F=>?_;clear j;refine r9 jh λ b3 cX fx r tR xY Z=>?_;clear jh;subst tR;refine fA xY λ s H g V=>?_;clear xY
  refine f3 (aH (F7 ..) (gn (q r M ?_ Z F)))
  have c:=g.B
  rw[List.drop_length] at c
  rcases H with _|_
  case nil=>exact rwr (g.fl a O) (rwl ((List.flatMap_singleton' (bI T f s a O))) V)
  case cons _ _=>injection c
  all_goals exact cq g.l7
theorem afr(s:T.length<=4)(I:fU T)(J:G<=100000)(x:br):∀o g,o<4->d' x<=4->h8 x o->gB x g->g+dX x<=G->
  (d5 x=false->hJ T f (20*(o+1)) x G)/\(d5 x=true->vK (λ D=>hJ T f (20*(o+1)) D G) x):=by
 have t:∀{N o x},hJ T f N x G->N<=20*(o+1)->hJ T f (20*(o+1)) x G:=λ h R n a O A e Y=>h n a O A e (ah R Y)
 have row:∀{r:br}{o N:Nat},o+1<4->d' r<=4->nD (h8 r o) r->(h8 r o->vK (λ D=>hJ T f N D G) r)->hJ T f (N+2) r G/\∀a O,a<=T.length->hG T O->(bI T f r a O).length<=2557:=λ l i h v=>
  ⟨LD s (mn l) h.row h.k7 i h.len (v h.k7),λ a O B C=>yz s (mn l) i h.k7 (λ z=>h.len) B C⟩
 have le:∀{o k:Nat},k<=18->20*(o+1)+k<=20*(o+1+1):=λ h=>ah (e7 h _) ((λ o=>e7 (ae rfl:18<=20) _) _)
 have one:∀{o:Nat}{k:Nat},k<=20->k<=20*(o+1):=λ h=>ah h (Nat.le_mul_of_pos_right _ (jI _))
 induction x with
 |one k=>exact λ o g z z z z z=>⟨λ z=>t (afv s I) (one (ae rfl)),cq⟩
 |place w=>exact λ o g z z z j z=>⟨λ z=>t (LC s j) (one (by decide)),cq⟩
 |again n a=>exact λ o g z z z j q=>⟨λ z=>t (afq s I j.1 (ah j.2.1 q) J) (one (by decide)),cq⟩
 |nil=>exact λ o g z z z z z=>⟨λ h=>cq h.symm,λ z=>trivial⟩
 |cons x r E F=>
  intro o g l i b j q
  have q:g+dX x+dX r<=G:=u5 q
  exact⟨λ h=>cq h.symm,λ z=>⟨(E o g l (ah (dD ..) i) b.2.1 j.2.1 (ah (dD ..) q)).1 b.1.1,(F o _ l (ah (gC ..) i) b.2.2 j.2.2 q).2 b.1.2⟩⟩
 |rounds x c m v=>
  intro o g l i b j q
  refine a7 (ha b.1) λ o S=>?_;subst S
  have y:=mn l
  have fm:d' x<=2:=Nat.le_of_add_le_add_left (a:=2) i
  have lE:=ah fm (ae rfl:2<=4)
  have fM:=b.2.2.1
  refine⟨λ z=>t (afw s j.2.1 ((v o g y lE b.2.2.2 j.2.2.2 q).1 fM) (λ a O B C=>yz s y lE b.2.2.2 (λ d=>cq (fM.symm.trans d)) B C) λ a O B C=>?_) (le (ae rfl)),cq⟩
  exact ah (Gj s l fm j.1 ((Be s x o y lE b.2.2.2).1 fM) B C).1 (K0 (o+1) l _ (kd i) _ (l0 s a)).1
 |group n r nm v=>
  intro o g l i b j q
  refine a7 (ha b.1) λ o U=>?_;subst U
  obtain⟨rfl,_,j⟩:=j
  have q:g+1+dX r<=G:=u5 q
  have k:=row (r:=r) l i b.2 λ D=>(v o _ (mn l) i D j q).2 b.2.row
  exact⟨λ z=>t (afu k.1 k.2 (jI _) (ah (dD ..) q) J) (le (k:=3) (by decide)),cq⟩
 |d4 ab aU E F=>
  intro o g l i b j q
  refine a7 (ha b.1) λ o V=>?_;subst V
  have y:=mn l
  have q:g+dX ab+dX aU<=G:=u5 q
  have i:d' ab+d' aU<=4:=ah (gC ..) i
  have fP:d' ab<=4:=ah (dD ..) i
  have gs:d' aU<=4:=ah (gC ..) i
  have K:=row (r:=ab) l fP b.2.1 λ D=>(E o _ y fP D j.2.1 (ah (dD ..) q)).2 b.2.1.row
  have L:=row (r:=aU) l gs b.2.2 λ D=>(F o _ y gs D j.2.2 q).2 b.2.2.row
  exact⟨λ z=>t (aft s K.1 L.1 K.2 L.2) (le (k:=4) (by decide)),cq⟩
 |atomic r v=>
  intro o g l i b j q
  refine a7 (ha b.1) λ o W=>?_;subst W
  have k:=row (r:=r) l i b.2 λ D=>(v o g (mn l) i D j.2 q).2 b.2.row
  exact⟨λ z=>t (afs k.1 k.2) (le (k:=3) (by decide)),cq⟩
 |look x p cW v=>
  intro o g l i b j q
  refine a7 (ha b.1) λ o X=>?_;subst X
  have y:=mn l
  refine⟨λ z=>?_,cq⟩
  rcases p with _|_
  case none=>
   rcases b.2 with⟨_,h⟩|⟨w,_,h⟩|⟨u,rfl⟩
   ·have k:=row (r:=x) l i h λ D=>(v o g y i D j.2 q).2 h.row
    exact t (Aw s (df _) k.1 k.2) (le (k:=4) (by decide))
   ·refine bf h.wf λ M z=>?_;refine f5 M λ ab aU Z H=>?_;clear M
    have k:=row (r:=x) l i ⟨ab,rwl aU (kc ‹_<3›),H o⟩ λ D=>(v o g y i D j.2 q).2 ab
    exact t (Aw s (df _) k.1 k.2) (le (k:=4) (by decide))
   ·exact cq j.1
  case some w=>
   rcases j.1 with⟨P,⟨bD,h⟩|⟨rfl,u,b6,_,rfl⟩⟩
   ·refine bf h.wf λ Q z=>?_;refine f5 Q λ ab aU Z H=>?_;clear Q
    have k:=row (r:=x) l i ⟨ab,rwl aU (kc P),H o⟩ λ D=>(v o g y i D j.2 q).2 ab
    exact t (Aw s (ah (kc P) (ae rfl)) k.1 k.2) (le (k:=4) (by decide))
   ·refine t (Aw s (df _) (LC s b6) λ a O B agx=>?_) (one (ae rfl:4<=20))
    rw[xR]
    split
    ·exact(show 1<=2557 by exact ae rfl)
    ·exact df _
set_option tactic.hygienic false
end
end
section
theorem HK(T:List Nat)(G:Nat):hG T (List.replicate G none):=λ b d h=>by simp at h
theorem W6(R:dq)(K:Loc->U->Prop)(e:U)(v:E)(a b c o d f g h i y k l:Option E):d6 126 [] 10 R v (ml a b c o d f g h i y k l) K e=K (ml a b c o d f g h i y (some v) l) e:=by kernel_rfl
theorem F2:∀(c pre m:List cu),At (pre++(c++m)) pre.length c
 |[],_,_=>trivial
 |a::c,pre,m=>by
  refine⟨by rw[yt (bx _),Nat.sub_self];rfl,?_⟩
  have:=F2 c (pre++[a]) m
  rw[el,bR] at this
  exact this
section
variable{T:List Nat}{f:Bool}{e:U}{A:bo}
theorem ac7{c b:Nat->Nat}{l:Nat}(d:l<=4)(h:∀i,i<=l->c i<=b (l-i)):sumTo (λ a=>c a+1) (l+1)<=b 0+b 1+b 2+b 3+b 4+5:=by
 revert h;apply Ds (kd d)<;>intro h
 ·exact J [_,_,_,_,_,_] 0x144941cc500000004440004001481 L (h 0 (ae rfl))
 ·exact J [_,_,_,_,_,_,_] 0x144a4a0a700000004460044400040000e609481 L (h 0 (ae rfl)) (h 1 (ae rfl))
 ·exact J [_,_,_,_,_,_,_,_] 0x144b514e9000000044800446004440004000009404e609481 L (h 0 (ae rfl)) (h 1 (ae rfl)) (h 2 (ae rfl))
 ·exact J [_,_,_,_,_,_,_,_,_] 0x144c29d2b000000044a00448004460044400040000005a829404e609481 L (h 0 (ae rfl)) (h 1 (ae rfl)) (h 2 (ae rfl)) (h 3 (ae rfl))
 ·exact J [_,_,_,_,_,_,_,_,_,_] 0x14453a56d000000044c0044a0044800446004440004000000035815a829404e609481 L (h 0 (ae rfl)) (h 1 (ae rfl)) (h 2 (ae rfl)) (h 3 (ae rfl)) (h 4 (ae rfl))
theorem ft.w8{x:br}{g b:Nat}(h:ft 3 2 3 0 0 x g b):d' x<=4:=ah (jF ((gr _).symm.trans h.2.gi.symm)) (h.2.four (ae rfl))
theorem K5(a:T.length<=4){x:br}{g b:Nat}(h:ft 3 2 3 0 0 x g b):vL T (bI T f x) (eE T f x) (kS 3 3 (d' x)) (kk 3 3 (d' x)):=(Be a x 3 (ae rfl) h.w8 h.2.k7).2 h.1.1 3 h.1.2 (bx 3)
theorem adb(c:T.length<=4){x:br}{g b:Nat}(h:ft 3 2 3 0 0 x g b)(G:Nat):sumTo (λ a=>eE T f x a (List.replicate G none)+1) (T.length+1)<=1000000:=
 ah (ac7 c λ i d=>(K5 c h i _ d (HK T G)).2) (K2 _ (kd h.w8)).1
theorem abI{l:Nat}(h:l<=4):hy e (.rng (l:Nat) (-1) (-1))=some ((List.range (l+1)).map λ(k:Nat)=>E.int ((l:Int)-k)):=by
 show(if(dU _&&dU _&&(-1==1||-1==-1))=true then some _ else none)=_
 rw[js (by exact J [_] 0x3b9aca0030c8020881 L h)]
 show some ((List.range _).map _)=_
 rw[show((l:Int)- -1).toNat=l+1 by lia]
theorem Z1{R:dq}{k:bo}{ai:List E}(h:ai.length<=c7)(q:k (.ref e.next) (e.alloc (.list ai))):cJ cp R (.typ .list) [.tup ai] k e:=⟨h,q⟩
def r_(e:U)(l:Nat)(r:Nat->Option ck)(c:E)(j:Nat):Prop:=(c=.none/\∀a,j<=a->a<=l->r a=none)\/
 ∃q a w,c=.ref q/\q<e.next/\(j<=a/\a<=l/\r a=some w/\∀b,j<=b->b<a->r b=none)/\e.get q=some (.list (.tup [.int (a:Nat),.int (w.1:Nat)]::w.2.map hB))
theorem r_.ext{M:U}{l j:Nat}{r:Nat->Option ck}{b:E}(h:r_ e l r b j)(d:eh e M):r_ M l r b j:=by
 rcases h with h|⟨q,a,w,C,I,af,c⟩
 ·exact .inl h
 ·exact .inr (gw q a w ⟨C,d7 I d.next,af,d.get c I id⟩)
theorem Wc{g q:Nat}{a b:Nat}{O:cA}{i y:Nat}(C:e.get g=some (.list (.tup [.int a,.int b]::O.map hB)))(I:e.get q=some (.list (.tup [.int a,.int b]::O.map hB))):jP e (.ref g) (.ref q)=some true:=by
 unfold jP
 rw[(by unfold ig;simp only[C]:ig e (.ref g)=none),(by unfold gE;simp only[C]:gE e (.ref g)=.lst (.tup [.int a,.int b]::O.map hB)),(by unfold gE;simp only[I]:gE e (.ref q)=.lst (.tup [.int a,.int b]::O.map hB))]
 show(match(O.map _).length+1==(O.map _).length+1 with|true=>(match some ((a:Int)==a&&((b:Int)==b&&true)),j4 _ _ _ with|some x,some H=>some _|_,_=>none)|false=>some _)=_
 rw[eC,eC,eC,EN 7 O O rfl,fi rfl]
 rfl
theorem Y2{n bb bM g b:Nat}{x:br}{K:ei}{dc dY I N O P Q B:E}{b3 cX:Option E}(o:ft 3 2 3 0 0 x g b)(s:T.length<=4)(R:fU T)(S:pP e bb bM (code x 0 0++[cu.fin]) g (d1 x) f)(C:r_ e T.length (λ a=>(bI T f x a (List.replicate g none)).head?) B 0)(q:∀ak M,K (.ret (.bool true)) ak M):
  bq 126 [] 11 (call (n+11)) (ml (some dc) (some dY) (some I) (some N) (some (.str T)) (some O) (some P) (some Q) (some (.ref bb)) (some B) b3 cX) K e:=by
 refine bf o.top λ W z=>e_ W λ hz X z=>?_;have k:=o.wf
 have V:=qM x
 refine aH (T7 ..) (v' 46 (by kernel_rfl) (aH (ad9 ..) (e9 (fR ..) (eG:=rK.take 1) (c2:=[.int 64]) (by kernel_rfl) (ae rfl) (by kernel_rfl) (e9 (dH ..) (eG:=rK.take 2) (c2:=[.int 64,.int 50]) (by kernel_rfl) (ae rfl) (by kernel_rfl) (e9 (dH ..) (eG:=rK.take 3) (c2:=[.int 64,.int 50,.int 1000000]) (by kernel_rfl) (ae rfl) (by kernel_rfl) (e9 (dH ..) (eG:=rK.take 4) (c2:=[.int 64,.int 50,.int 1000000,.int 100000]) (by kernel_rfl) (ae rfl) (by kernel_rfl) (e9 (dH ..) (eG:=rK) (c2:=[.int 64,.int 50,.int 1000000,.int 100000,.int 10000]) (by kernel_rfl) (ae rfl) (by kernel_rfl) ?_)))))))
 generalize t:U.upd _ _ _=c
 have u:∀(c:U)(p:dm),eh e c->eh e (c.upd _ p):=λ c p d=>d.j3 (bx _)
 have v:eh e c:=by rw[<-t];exact u _ _ (u _ _ (u _ _ (u _ _ (u _ _ (.alloc _ _ _)))))
 have Y:∀r∈code x 0 0++[cu.fin],mQ g r:=λ r V=>by
  rcases fH.mp V with h|h
  ·exact px x 0 g 0 0 k.1 (aL k.2.symm) r h
  ·obtain rfl:=fG.mp h;trivial
 have F:At (code x 0 0++[cu.fin]) 0 _/\(code x 0 0++[cu.fin])[(code x 0 0).length]?=some _:=⟨F2 _ [] _,by rw[yt (bx _),Nat.sub_self];rfl⟩
 have G:=C.ext v
 refine ab5 s R (J [_,_] 0x3d090083280850e97818c81 L hz V) (J [_,_] 0xf424020ca0200402878410c81 L X (aL k.2)) Y (by rw[bR];exact J [_,_] 0x77359400618445000850e97818c81 L hz (jq x 0 0):(code x 0 0++[cu.fin]).length<=1000000000) (S.fr v id id) (by rw[<-t];exact dH ..:c.get e.next=some (.inst 46 rK [.int 64,.int 50,.int 1000000,.int 100000,.int 10000])) _ (λ a l=>ZN s (k.1.afi (aL k.2.symm)) F.1 F.2 l (by rw[sy];exact bx _)) (adb s o g) (λ A Z H=>?_) λ a w l ax V Z y dE CB H=>?_
 ·rcases G with⟨rfl,_⟩|⟨i,a,w,_,_,⟨_,l,V,_⟩,_⟩
  ·exact bj rfl (q _ _)
  ·have V:(bI T f x a _).head?=some w:=V
   have:=A a l
   rw[this] at V
   exact a8 V
 ·clear C t v;rcases G with⟨_,A⟩|⟨i,eL,lB,rfl,aM,⟨_,XH,j,m⟩,X1⟩
  ·have:=show(bI T f x a _).head?=none from A a (df _) l
   rw[this] at V
   exact a8 V
  ·have m:∀b,0<=b->b<eL->(bI T f x b _).head?=none:=m
   have j:(bI T f x eL _).head?=some lB:=j
   have d:a=eL:=by
    rcases Nat.lt_trichotomy a eL with D|D|D
    ·have:=m a (df _) D
     rw[this] at V;exact a8 V
    ·exact D
    ·have:=ax eL D
     rw[this] at j;exact a8 j
   clear left XH m;subst d
   have a':=c' (V.symm.trans j)
   clear j;subst a'
   exact bj (Wc (i:=0) (y:=0) CB (H.get X1 aM id)) (q _ _)
end
end
section
section
variable{T:List Nat}{f:Bool}{e:U}{A:bo}
theorem eu.WR{M:U}{s a g b:Nat}(h:eu e s a g b)(d:eh e M):eu M s a g b:=h.same (d7 h.1 d.next) (d.same _ h.1 id)
set_option tactic.hygienic true in
theorem Y9{n s bb g b P a:Nat}{x:br}{K:ei}{dc A B F G:E}{cX:Option E}(d:ft 3 2 3 0 0 x g b)(m:T.length<=4)(Q:fU T)(Y:82<=n)(R:eu e s P g b)(k:a<=T.length)(S:r_ e T.length (λ a=>(bI T f x a (List.replicate g none)).head?) G (a+1))
  (q:∀H p M,r_ M T.length (λ a=>(bI T f x a (List.replicate g none)).head?) H a->eh e M->K .next (ml (some dc) (some (.ref s)) (some (.str (eA f))) (some A) (some (.str T)) (some x.v) (some B) (some F) (some (.ref bb)) (some H) (some (.int (a:Nat))) p) M):
  bq 126 [(10,0)] 0 (call n) (ml (some dc) (some (.ref s)) (some (.str (eA f))) (some A) (some (.str T)) (some x.v) (some B) (some F) (some (.ref bb)) (some G) (some (.int (a:Nat))) cX) K e:=by
 refine bf d.top λ U z=>e_ U λ hz l z=>?_;have j:=d.wf
 have o:=HK T g
 have N:(bI T f x a _).length<=1000000:=ah (K5 m d a _ k o).1 ((K2 _ (kd d.w8)).2 _ (l0 m a))
 refine aH (T6 ..) (cb (cn (n:=1) (by decide)) rfl (R.sR (dg (v:=m2 (List.replicate g none)) ?_ (cb (cn (n:=2) (by decide)) rfl (hv ?_)))))
 ·show(if(decide _&&dU g)=true then some _ else none)=_
  rw[js (by exact J [_,_] 0x3b9aca0030ca0200402878410c81 L l (aL j.2)),fi (by exact J [_,_] 0x1e84800a328420200402878410c81 L l (aL j.2))]
  rw[D8]
  unfold m2
  rw[List.map_replicate]
  rfl
 rw[(by rcases f with _|_<;>rfl:(eA f==[105])=f)]
 refine LD (f:=f) m (by decide) d.1.1 d.2.k7 d.w8 d.1.2 ((afr m Q (j.2.trans (gr _)▸ah l (ae rfl)) x 3 0 (by decide) d.w8 d.2.k7 j.1 (jF j.2.symm)).2 d.1.1) n a _ _ e (J [_] 0x1042140430008290861 L Y) k o sy λ r aw V z t=>?_
 generalize u:bI T f x a _=aV at V N
 refine V.slice (by rw[cM];exact J [_] 0x7a120028c80f424020c81 L (ah (nf aV) N)) (by kernel_rfl) (by kernel_rfl) (dV:=none) (ly:=some 1) ?_
 have W:cut ((dJ aV).map eO) (none.getD 0) (some 1)=(aV.take 1).map eO:=by
  show(((dJ aV).map _).take 1).drop 0=_
  rw[mT,<-List.map_take,zX]
 rw[W]
 refine e2 (ae rfl) (bj (r:=!((aV.take 1).map eO).isEmpty) ?_ ?_)
 ·show(jP _ _ _).map _=_
  rw[wj .lst];rfl
 rcases y:aV with _|_
 case nil=>
  refine bt (q _ _ _ ?_ t.jJ)
  have key:∀c,a<=c->(∀i,a+1<=i->i<c->(bI T f x i _).head?=none)->∀i,a<=i->i<c->(bI T f x i _).head?=none:=λ c z h i C I=>by
   rcases Nat.eq_or_lt_of_le C with rfl|D
   ·exact(by rw[u,y];rfl:(bI T f x a (List.replicate g none)).head?=none)
   ·exact h i D I
  rcases(S.ext t.jJ) with⟨rfl,X⟩|⟨i,c,w,C,I,⟨af,Z,cY,fv⟩,iC⟩
  ·exact .inl ⟨rfl,λ i C I=>key (T.length+1) (J [_,_] 1173604013185 L k) (λ i C I=>X i C (J [_,_] 0x290011140111001 L I)) i C (J [_,_] 0x88a00888001481 L I)⟩
  ·exact .inr (gw i c w ⟨C,I,⟨J [_,_] 5635165982721 L af,Z,cY,key c (J [_,_] 5635165982721 L af) fv⟩,iC⟩)
 case cons w ag2=>
  have aa:=by
   have:=(ix x a _ w k o (by rw[u,y];exact f9 ..)).2.2.2
   rwa [sy] at this
  have O:(w.2.map hB).length=g:=by rw[cM,aa]
  refine cE (bz rfl (bz rfl (cb (cn (n:=2) (by decide)) rfl (e2 (cn (n:=1) (by decide)) (bz rfl (bz rfl (Z1 (by rw[O];exact J [_,_] 0x7a120028ca0200402878410c81 L l (aL j.2)) (dw.add (dw.new.ext (.alloc _ _ _)) dw.new (by exact rwl (O) (J [_,_] 0x3d0900146508800200402878410c81 L l (aL j.2))) (q _ _ _ (.inr (gw _ a w ⟨rfl,eo _,⟨bx a,k,by show(bI T f x a _).head?=some w;rw[u,y];rfl,λ c C I=>absurd I λ aK=>bC _ (J [_,_] 0x208804088a009481 L C I)⟩,fR ..⟩)) t.jJ.jJ.jJ.jJ)))))))))
theorem Y7{n s bb bM g b y:Nat}{x:br}{dc B D F:E}(t:ft 3 2 3 0 0 x g b)(d:T.length<=4)(u:fU T)(Y:82<=n)(G:eu e s y g b)(H:pP e bb bM (code x 0 0++[cu.fin]) g (d1 x) f)(q:∀M,A (.bool true) M):
  (cJ cp (call n) (.bi .len) [.str T] λ K=>cJ cp (call n) (.typ .range) [K,.int (-1),.int (-1)] λ N=>forM N (d6 126 [] 10 (call n)) (bq 126 [(10,0)] 0 (call n)) (ml (some dc) (some (.ref s)) (some (.str (eA f))) (some B) (some (.str T)) (some x.v) (some D) (some F) (some (.ref bb)) (some E.none) none none) (fc (bq 126 [] 11 (call n)) (eX A))) e:=by
 refine j2 (ah d (ae rfl)) (qV (v:=.rng T.length (-1) (-1)) ?_ ?_)
 ·show(if(dU _&&dU _&&(-1==1||-1==-1))=true then _ else _)=_
  rw[js (ah d (ae rfl))]
  rfl
 have w:((List.range (T.length+1)).map λ(k:Nat)=>E.int (T.length-k)).length=T.length+1:=by rw[cM,List.length_range]
 refine k_ (abI d) (λ i ak M=>i<=T.length+1/\eh e M/\∃m b3 cX,ak=ml _ _ _ _ _ _ _ _ _ (some m) b3 cX/\r_ M _ (λ a=>(bI T f x a (List.replicate g none)).head?) m (T.length+1-i))
  ⟨df _,.refl _ _,.none,none,none,rfl,.inl ⟨rfl,λ a C I=>(bC _ (J [_,_,_] 0x8220004400446004c509481 L C I (d2 _ _))).elim⟩⟩ (λ z z z z=>trivial) (λ i v ak O Z o h P z z=>?_) λ ak O h=>?_
 ·refine Ax h λ z r m b3 cX Q j=>?_;clear h;subst Q
  have c:i<T.length+1:=by rw[<-w];exact(iz.mp o).1
  refine a7 (⟨_,rfl⟩:∃a,a=T.length-i) λ a l=>?_
  have R:v=.int a:=by
   rw[kb,List.getElem?_range c] at o
   obtain rfl:=cm o
   show E.int _=_
   rw[show T.length-(i:Int)=a by lia]
  clear o;subst R
  rw[show T.length+1-i=a+1 by exact cB (J [_,_,_,_,_] 0x2228100088c03a0013900609481 L (aL l.symm) (d2 _ _) (dj (J [_,_] 0x445010011140111001 L c))) (J [_,_,_,_,_] 0xe111000320a00a0e0088c009481 L (aL l) (d2 _ _) (dj (J [_,_] 0x290011140111001 L c)))] at j
  refine aH (W6 ..) (Y9 t d u Y (G.WR r) (J [_,_,_] 6734715327617 L (aL l) (hr _ _)) j λ S p aS I U=>(P _ _ ⟨c,r.trans U,S,_,p,rfl,?_⟩).1)
  rw[show T.length+1-(i+1)=a by exact cB (J [_,_,_,_,_] 0xa80044600447020013900609481 L (aL l.symm) (d2 _ _) (dj c)) (J [_,_,_,_,_] 0xe40190500422400e0088c009481 L (aL l) (d2 _ _) (dj (J [_,_] 0x290011140111001 L c)))]
  exact I
 ·refine Ax h λ z r m b3 cX V j=>?_;clear h;subst V
  rw[w,Nat.sub_self] at j
  refine a7 (fu (k:=11) (cI λ W=>bC _ (J [_] 0x20880b104440048290861 L Y W))) λ n X=>?_;subst X
  exact f3 (Y2 t d u (H.fr r id id) j λ ak M=>gn (q _))
end
end
section
theorem ints_of:∀l:List Int,qs (l.map .int)=some l
 |[]=>rfl
 |x::l=>by
  show(qs _).map _=_
  rw[ints_of l];rfl
theorem GX{e:U}{aZ pg:Nat}{ls:List (List Nat)}{aV:List E}{nm:List Nat}{B:List E}:∀(b:List Nat)(a:List E),a.length=b.length->(∀(i n:Nat),b[i]?=some n->∃u w,a[i]?=some u/\hW ls aV (dQ n)=some w/\gE e u=.lst [.int n]/\gE e w=.lst [.int n])->mZ e ls aV (b.map dQ) a=some true
 |[],[],_,_=>rfl
 |[],_::_,h,_=>(Nat.noConfusion h)
 |_::_,[],h,_=>(Nat.noConfusion h)
 |n::b,u::a,c,h=>by
  refine tO (h 0 n rfl) λ ly w d f g j=>?_
  obtain rfl:=cm d
  show(match hW ls aV _ with|none=>some _|some w=>match gk 10 _ _,mZ e ls aV _ a with|some x,some H=>some _|_,_=>none)=_
  rw[f]
  show(match gk 10 _ _,mZ e ls aV _ a with|some x,some H=>some _|_,_=>none)=_
  rw[g,j,GX (aZ:=aZ) (pg:=pg) (nm:=nm) (B:=B) b a (Nat.succ.inj c) λ i=>h (i+1)]
  show some ((n:Int)==n&&true&&true)=_
  rw[eC];rfl
theorem GZ:∀{nm:List Nat}{B:List E}{i n:Nat},(∀H∈nm,H<1000)->nm.Nodup->B.length=nm.length->nm[i]?=some n->hW (nm.map dQ) B (dQ n)=B[i]?
 |[],_,_,_,_,_,_,h=>by simp at h
 |_::_,[],_,_,_,_,h,_=>(Nat.noConfusion h)
 |m::nm,v::B,0,n,a,b,c,h=>by
  obtain rfl:=cm h
  show(match dQ m==dQ m with|true=>some v|false=>_)=_
  rw[eC];rfl
 |m::nm,v::B,i+1,n,a,b,c,h=>by
  have Y:n∈nm:=ka h
  show(match dQ n==dQ m with|true=>some v|false=>hW _ B _)=_
  exact(rwl (fF.mpr λ D=>(λ d=>(sr.mp b).1 ((rwr d Y)):n≠m) (zJ (a n (gU _ Y)) (a m f9 ..) D)) (GZ (λ H b_=>a H (gU _ b_)) (sr.mp b).2 (Nat.succ.inj c) h))
theorem ph:∀(x:br)(g:Nat),gB x g->(er x).Nodup
 |.one _,_,_=>List.nodup_nil
 |.place _,_,_=>List.nodup_nil
 |.again _ _,_,_=>List.nodup_nil
 |.nil,_,_=>List.nodup_nil
 |.rounds x _ _,g,h=>ph x g h.2.2.2
 |.group n r b,g,⟨C,_,I⟩=>by
  have V:=ph r _ I
  rcases b with _|_
  case false=>exact V
  case true=>exact sr.mpr ⟨λ D=>by have:=(qB r _ I n D).1;exact bC _ (J [_,_] 0x82201022088a00042228081 L (aL C) this),V⟩
 |.d4 ab aU,g,h=>List.nodup_append.mpr ⟨ph ab g h.2.1,ph aU _ h.2.2,λ a c b e d=>by have:=(qB ab g h.2.1 a c).2;have:=(qB aU _ h.2.2 b e).1;lia⟩
 |.atomic r,g,h=>ph r g h.2
 |.look x none _,g,h=>ph x g h.2
 |.look x (some _) _,g,h=>ph x g h.2
 |.cons x r,g,h=>List.nodup_append.mpr ⟨ph x g h.2.1,ph r _ h.2.2,λ a c b e d=>by have:=(qB x g h.2.1 a c).2;have:=(qB r _ h.2.2 b e).1;lia⟩
theorem GV{e:U}{r:Nat}{n:Nat}(h:e.get r=some (.list [.int n])\/e.get r=some (.flist [.int n])):gE e (.ref r)=.lst [.int n]:=by
 unfold gE
 rcases h with h|h<;>simp only[h]
theorem ab1{e:U}{aZ pg:Nat}{nm:List Nat}(C:kW e aZ nm)(I:kW e pg nm)(b:∀H∈nm,H<1000)(c:nm.Nodup):jP e (.ref aZ) (.ref pg)=some true:=by
 refine xS C λ z B d f g=>?_
 refine xS I λ z aV gs h k=>?_
 unfold jP
 rw[(by unfold ig;simp only[d]:ig e (.ref aZ)=some (nm.map dQ,B)),(by unfold ig;simp only[gs]:ig e (.ref pg)=some (nm.map dQ,aV))]
 show(match(nm.map _).length==(nm.map _).length with|true=>mZ e _ aV _ B|false=>some _)=_
 rw[eC]
 refine GX (aZ:=aZ) (pg:=pg) (nm:=nm) (B:=B) nm B f λ i n a=>?_
 refine xT (g i n a) λ r a3 z z l=>?_
 refine xT (k i n a) λ j m z z o=>?_
 exact cv _ _ ⟨a3,(GZ b c h a).trans m,GV l,GV o⟩
section
variable{e:U}{k:bo}
theorem adB{R:dq}{c:Nat}(Z:c<3125)(q:∀T,T.length<=4->fU T->k (.lst (T.map λ j=>E.str [j])) e):
  (bw .Mod (.int (c:Nat)) (.int 5) λ r=>(cJ cp R (.typ .range) [r] λ t=>(ib t (λ l u=>(u true)) (λ l w=>(bw .FloorDiv (.int (c:Nat)) (.int 5) λ y=>(bw .Pow (.int 5) l λ A=>(bw .FloorDiv y A λ B=>(bw .Mod B (.int 5) λ F=>(item (.str [97,98,97,65,10]) F λ G=>(w G))))))) k))) e:=by
 obtain⟨m,a,K⟩:∃m:Nat,m<5/\(c:Int).fmod 5=m:=by
  refine bf (G4 (x:=c) (m:=5) (by decide)) λ C I=>?_
  exact⟨((c:Int).fmod 5).toNat,by lia,by lia⟩
 refine dg ?_ (qV (v:=.rng 0 m 1) (xl (js (J [_] 0x1dcd650018640144111001 L a))) ?_)
 ·show(if(5:Int)=0 then none else some _)=_
  rw[a9 (by decide),K]
 refine sH (zr (J [_] 0x1dcd650018640144111001 L a)) (λ i d M=>M=e/\∃T:List _,T.length=i/\fU T/\d=T.map λ j=>E.str [j]) ⟨rfl,[],rfl,λ z h=>((gh h).elim),rfl⟩ (λ z z z z=>trivial) (λ i x d N g' O f Q=>?_) λ d N f=>?_
 ·obtain⟨rfl,T,b,g,rfl⟩:=f
  obtain⟨n,rfl⟩:=z3 O
  refine⟨by rw[cM];exact J [_,_,_] 0x7a120028ca020446004c50944111001 L a (aL b) n,?_⟩
  obtain⟨s,S,U,cg⟩:∃s:Int,s≠0/\dU s=true/\mX _ _ _=some _:=by
   exact Ds (P:=λ i=>∃s:Int,s≠0/\dU s=true/\mX .Pow (.int 5) (.int i)=some (.int s)) (Nat.lt_trans n a) ⟨1,by decide,rfl,by kernel_rfl⟩ ⟨5,by decide,rfl,by kernel_rfl⟩ ⟨25,by decide,rfl,by kernel_rfl⟩ ⟨125,by decide,rfl,by kernel_rfl⟩ ⟨625,by decide,rfl,by kernel_rfl⟩
  refine dg rfl (dg cg (dg (v:=.int (((c:Int).fdiv 5).fdiv s)) ?_ ?_))
  ·show(if s=0 then none else if dU s=true then some _ else none)=_
   rw[a9 S,aT U]
  generalize ((c:Int).fdiv 5).fdiv s=D
  obtain⟨o,p,V⟩:∃o:Nat,o<5/\D.fmod 5=o:=by
   exact⟨(D.fmod 5).toNat,by lia,by lia⟩
  have W:=by
   exact Ds (P:=λ o=>∃j,[97,98,97,65,10][o]?=some j/\(j=97\/j=98\/j=65\/j=10)) p ⟨_,rfl,.inl rfl⟩ ⟨_,rfl,.inr (.inl rfl)⟩ ⟨_,rfl,.inl rfl⟩ ⟨_,rfl,.inr (.inr (.inl rfl))⟩ ⟨_,rfl,.inr (.inr (.inr rfl))⟩
  refine ba W λ j X Y=>?_
  refine dg (v:=.int o) ?_ (kl (J [_] 0x1dcd650018640144111001 L p) X (Q _ _ ⟨rfl,T++[j],?_,λ H b_=>?_,?_⟩))
  ·show(if(5:Int)=0 then none else some _)=_
   rw[a9 (by decide),V]
  ·rw[bR,b];rfl
  ·rcases fH.mp b_ with b_|b_
   ·exact g H b_
   ·obtain rfl:=fG.mp b_;exact Y
  ·rw[e8];rfl
 ·obtain⟨rfl,T,b,g,rfl⟩:=f
  rw[xn] at b
  exact q T (J [_,_] 0x82280850944111001 L a (aL b)) g
theorem join_one:∀T:List Nat,ij [] (T.map λ j=>[j])=T
 |[]=>rfl
 |[x]=>rfl
 |x::H::T=>by
  show[x]++[]++ij [] ((H::T).map λ j=>[j])=_
  rw[join_one _];rfl
end
end
theorem eu.Hs{S:Nat->Prop}{e M:U}{s a g b:Nat}(h:eu e s a g b)(d:Fr S e M)(c:¬S s):eu M s a g b:=h.same (d7 h.1 d.next) (d.same _ h.1 c)
theorem YZ{n:Nat}{l:List Int}{e:U}{A:bo}(V:l.length<=63)(Y:90<=n)(q:∀M,A (.bool true) M):call (n+1) 126 [.lst (l.map .int)] A e:=by
 have F:(l.map E.int).length<=c7:=by rw[cM];exact ah V (ae rfl)
 have W:cut (l.map E.int) (none.getD 0) (some 30)=(l.take 30).map E.int:=by
  show((l.map _).take 30).drop 0=_
  rw[mT,List.map_take]
 refine aH (ad8 ..) (dw.lst.slice F (by kernel_rfl) (by kernel_rfl) (dV:=none) (ly:=some 30) (dw.lst.slice F (by kernel_rfl) (by kernel_rfl) (dV:=none) (ly:=some 30) ?_))
 rw[W]
 refine lN (v:=.int (l.take 30).sum) ?_ ?_
 ·show(qs _).map _=_
  rw[ints_of];rfl
 generalize (l.take 30).sum=j
 refine dg (v:=.int (j.fmod 997)) ?_ ?_
 ·show(if 997=0 then none else some _)=_
  rw[a9 (by decide)]
 generalize j.fmod _=j
 refine e2 (cn (n:=5) (ae rfl)) (e2 (cn (n:=3) (by decide)) ?_)
 have X:eu (e.alloc (.list [.lst ((l.take 30).map _),.int 0,.int j,.int 0,.int 0])) _ (0+(3*nU 3+1)+1+1) 0 0:=⟨eo _,_,j,0,sk (by kernel_rfl),λ v d=>by refine ba (nN.mp d) λ i z Z=>?_;subst Z;exact⟨i,rfl⟩,by rw[cM,nK];exact J [_] 0x6410c80f0881 L (Nat.min_le_left _ _),fR ..⟩
 refine a7 (⟨n-1,cB (d2 _ _) (dj (cI λ a=>bC _ (J [_] 0x2088011044400482d0861 L Y a)))⟩:∃m,n=m+1) λ rO G=>?_
 have s:=X.alloc (.list [.str [],.str [],.str [105]])
 generalize Ym:e.alloc _=eB at*
 have key:∀(k:bo),(∀f M,eu _ _ _ 0 0->k _ _)->call n _ _ (λ o=>item _ o k) _:=λ k t=>by
  rw[G]
  refine vi (l:=3) (fR ..) (λ a=>bC _ (J [_,_] 0x208804284a111001 L (aL (by rw[<-Ym];rfl:eB.next=e.next+1).symm) (aL a))) (eo _) rfl (ae rfl) (by decide) s (.refl _ _) λ m v I d C z=>?_
  have:∃f,v=.str (eA f):=by
   match m,d with
   |0,d=>obtain rfl:=cm d;exact⟨false,rfl⟩
   |1,d=>obtain rfl:=cm d;exact⟨false,rfl⟩
   |2,d=>obtain rfl:=cm d;exact⟨true,rfl⟩
  refine a7 this λ f dZ=>?_;clear this;clear d;subst dZ
  exact t f I C
 refine key _ λ f I s=>dg (v:=.int 625) (by kernel_rfl) (dg (v:=.int 3125) (by kernel_rfl) ?_)
 have YX:∀(k:bo),(∀(c:Nat) M,c<3125->eu _ _ _ 0 0->k _ _)->call n _ [.ref e.next,.int _] k _:=λ k t=>by
  rw[G]
  exact nV s (by decide) λ c K u w z=>t c K (dR.mp u) w
 refine YX _ λ c K u w=>u3 (adB u λ T bp ec=>?_)
 rw[show(T.map _)=(T.map _).map _ by rw[List.map_map];rfl]
 refine zu (by rw[join_one,cM];show T.length+T.length*1<=8000000;lia) ?_
 rw[join_one]
 refine vl (aan 3) (cI λ a=>bC _ (J [_] 0x41100a2188410044400482d0861 L Y a)) w λ x g b c9 r N z=>BF (.inl rfl) (vD r.top λ eV O P n9 Iy=>e_ eV λ hz y Yd=>?_);have p:=r.wf
 have Q:g=dX x:=cB (J [_,_] 5635164930177 L (aL p.2)) (J [_,_] 5635169060865 L (aL p.2.symm))
 refine(qQ x).1 0 [] n _ _ _ p.1 (J [_] 0x7082190020038410c81 L y) (J [_] 0x61a8010640697818c81 L hz) (λ H b_=>(gh b_).elim) (bx 0) (cI λ a=>bC _ (J [_,_] 0x20880111401110010b44328482d0861 L Y O a)) ⟨eo _,[],fR ..,rfl,λ i m h=>by simp at h⟩ λ f6 k' gu=>?_
 refine VA p.1 n9 Iy r.abS y Yd (J [_] 42953028503681 L P) (cI λ a=>bC _ (J [_,_] 0x208805305a2004440046229882d0861 L Y P a)) (cI λ a=>bC _ (J [_,_] 0x20880411401110010b44328482d0861 L Y O a)) (J [_] 0x61a8010640697818c81 L hz) (J [_,_] 0x1e848083280850e97818c81 L hz (j1 x [])) λ lD bb bM pg R bG dz B gK Cy=>?_
 have S:=((N.alloc _).Hs gu (e' N.1)).Hs R id
 refine d_ (gV B (v:=.int (dX x)) (by kernel_rfl) (S.sR (bj ?_ (iX (gV B (v:=.ref pg) (by kernel_rfl) (bj ?_ (iX (bt ?_))))))))
 ·show some (!dX x==(g:Int))=_
  rw[Q,eC];rfl
 ·show(jP _ _ _).map _=_
  rw[ab1 Cy (k'.fr R λ z z D=>D) (λ H b_=>by have:=(qB x 0 p.1 H b_).2;exact J [_,_] 0x1f4086111400200402878410c81 L y this) (ph x 0 p.1)]
  rfl
 ·exact Y7 r bp ec (cI λ a=>bC _ (J [_] 0x82200a421844400482d0861 L Y a)) S ⟨⟨_,by rw[Q];exact B⟩,gK,bG,dz⟩ q
theorem agL(l:List Int)(a:l.length<=63):Run cp 100 126 [.lst (l.map .int)] (λ v z=>v=.bool true) ⟨0,λ z=>none⟩:=YZ a (ae rfl) λ z=>rfl
end
end
end Mine.Internal
theorem PySem.Challenge.cw_nz0206_01_holds : PySem.Challenge.rw_nz0206_01.Holds :=
 Mine.Internal.agB Mine.Internal.agL
