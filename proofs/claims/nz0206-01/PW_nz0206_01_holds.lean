import PyProof.Rows.All
import Wide.All
import OpenK.AllK
import Wide.FinOn
import PyProof.TableCode
import Lean
import PySem.Challenge.RW_nz0206_01
set_option Elab.async false
set_option maxRecDepth 100000
set_option linter.unusedVariables false
set_option tactic.hygienic false
set_option genSizeOf false
set_option genInjectivity false
set_option bootstrap.genMatcherCode false
set_option backward.match.sparseCases false
set_option backward.eqns.nonrecursive false
set_option backward.eqns.deepRecursiveSplit false
namespace Mine.Internal
noncomputable section
set_option genCtorIdx false
set_option compiler.extract_closed false
set_option compiler.reuse false
@[elab_as_elim]theorem rwl{A:Sort u}{P:A->Prop}{a b:A}(h:a=b)(q:P b):P a:=h▸q
@[elab_as_elim]theorem rwr{A:Sort u}{P:A->Prop}{a b:A}(h:a=b)(q:P a):P b:=h▸q
open Lean in
def rwf(x:Array Syntax)(w:String):Syntax:=((w.splitOn " ").foldl (λ l w=>let p:=w.splitOn "/";let n:=p.getLast!.length;if p.length==1 then .atom .none w::l else if p.head!="" then x[n]!::l else .node .none p.head!.toName (l.take n).reverse.toArray::l.drop n) []).head!
open Lean in
local macro_rules (kind:=Lean.Parser.Tactic.rwSeq)
 |s=>if s[1][0].getNumArgs+s[3].getNumArgs>0 then Macro.throwUnsupported else pure (s[2][1].getArgs.foldr (λ r q=>if r.isAtom then q else rwf #[mkIdent (if r[0].getNumArgs==0 then `rwl else `rwr),r[1],.node .none `Lean.Parser.Tactic.rewriteSeq #[s[0],s[1],s[2].setArg 1 (.node .none `null #[r]),s[3]],q] "( first | refine / /- .. Lean.Parser.Term.ellipsis/- null/- Lean.Parser.Term.app/-- ? _ Lean.Parser.Term.syntheticHole/-- null/-- Lean.Parser.Term.app/-- Lean.Parser.Tactic.refine/-- null/- Lean.Parser.Tactic.tacticSeq1Indented/- Lean.Parser.Tactic.tacticSeq/- group/-- | /-- null/- Lean.Parser.Tactic.tacticSeq1Indented/- Lean.Parser.Tactic.tacticSeq/- group/-- null/-- Lean.Parser.Tactic.first/-- ; /--- null/--- Lean.Parser.Tactic.tacticSeq1Indented/- Lean.Parser.Tactic.tacticSeq/- ) Lean.Parser.Tactic.paren/---") (rwf #[] "try with_reducible rfl Lean.Parser.Tactic.tacticRfl/- null/- Lean.Parser.Tactic.tacticSeq1Indented/- Lean.Parser.Tactic.tacticSeq/- Lean.Parser.Tactic.withReducible/-- null/- Lean.Parser.Tactic.tacticSeq1Indented/- Lean.Parser.Tactic.tacticSeq/- Lean.Parser.Tactic.tacticTry_/--"))
theorem ah:type_of% @Nat.le_trans:=@Nat.le_trans
theorem aU:type_of% @if_pos:=@if_pos
theorem a8:type_of% @if_neg:=@if_neg
theorem bw:type_of% @Nat.le_refl:=@Nat.le_refl
theorem bA:type_of% @congrArg:=@congrArg
theorem bB:type_of% @Nat.not_lt_zero:=@Nat.not_lt_zero
theorem bR:type_of% @List.length_append:=@List.length_append
theorem bZ:type_of% @PySem.wpAny_bind:=@PySem.wpAny_bind
theorem cB:type_of% @Nat.le_antisymm:=@Nat.le_antisymm
theorem cI:type_of% @Nat.le_of_not_lt:=@Nat.le_of_not_lt
theorem cM:type_of% @List.length_map:=@List.length_map
theorem dd:type_of% @Option.some.inj:=@Option.some.inj
theorem de:type_of% @Nat.zero_le:=@Nat.zero_le
theorem dD:type_of% @Nat.le_add_right:=@Nat.le_add_right
theorem dN:type_of% @PySem.wpAny_pure:=@PySem.wpAny_pure
theorem dR:type_of% @Int.ofNat_lt:=@Int.ofNat_lt
theorem d7:type_of% @Nat.lt_of_lt_of_le:=@Nat.lt_of_lt_of_le
theorem el:type_of% @List.append_assoc:=@List.append_assoc
theorem eo:type_of% @Nat.lt_succ_self:=@Nat.lt_succ_self
theorem ew:type_of% @List.mem_cons:=@List.mem_cons
theorem ez:type_of% @Nat.add_assoc:=@Nat.add_assoc
theorem eC:type_of% @beq_self_eq_true:=@beq_self_eq_true
theorem e0:type_of% @List.cons.inj:=@List.cons.inj
theorem e7:type_of% @Nat.add_le_add_left:=@Nat.add_le_add_left
theorem e8:type_of% @List.map_append:=@List.map_append
theorem e':type_of% @Nat.ne_of_lt:=@Nat.ne_of_lt
theorem fi:type_of% @decide_eq_true:=@decide_eq_true
theorem fu:type_of% @List.mem_singleton:=@List.mem_singleton
theorem fv:type_of% @List.mem_append:=@List.mem_append
theorem fH:type_of% @beq_eq_false_iff_ne:=@beq_eq_false_iff_ne
theorem fN:type_of% @PySem.wpAny_mono:=@PySem.wpAny_mono
theorem fV:type_of% @Nat.add_le_add:=@Nat.add_le_add
theorem fW:type_of% @List.length_cons:=@List.length_cons
theorem f9:type_of% @List.mem_cons_self:=@List.mem_cons_self
theorem gg:type_of% @of_decide_eq_true:=@of_decide_eq_true
theorem gk:type_of% @Option.bind_eq_some_iff:=@Option.bind_eq_some_iff
theorem gr:type_of% @Nat.zero_add:=@Nat.zero_add
theorem gC:type_of% @Nat.le_add_left:=@Nat.le_add_left
theorem gD:type_of% @Option.map_eq_some_iff:=@Option.map_eq_some_iff
theorem gS:type_of% @List.append_nil:=@List.append_nil
theorem gT:type_of% @List.mem_cons_of_mem:=@List.mem_cons_of_mem
theorem g':type_of% @Nat.exists_eq_add_of_le':=@Nat.exists_eq_add_of_le'
theorem hp:type_of% @Nat.le_succ:=@Nat.le_succ
theorem hq:type_of% @Nat.sub_le:=@Nat.sub_le
theorem hr:type_of% @List.length_set:=@List.length_set
theorem hK:type_of% @List.getElem?_eq_getElem:=@List.getElem?_eq_getElem
theorem hT:type_of% @Int.ofNat_le:=@Int.ofNat_le
theorem hU:type_of% @Nat.ne_of_gt:=@Nat.ne_of_gt
theorem h8:type_of% @decide_eq_false:=@decide_eq_false
theorem h9:type_of% @Nat.succ_le_succ:=@Nat.succ_le_succ
theorem iw:type_of% @beq_iff_eq:=@beq_iff_eq
theorem ix:type_of% @List.getElem?_eq_some_iff:=@List.getElem?_eq_some_iff
theorem iP:type_of% @List.length_nil:=@List.length_nil
theorem i4:type_of% @Int.natCast_nonneg:=@Int.natCast_nonneg
theorem jl:type_of% @Array.length_toList:=@Array.length_toList
theorem jm:type_of% @PySem.wpAny_holding:=@PySem.wpAny_holding
theorem jn:type_of% @List.length_drop:=@List.length_drop
theorem jE:type_of% @Nat.le_of_eq:=@Nat.le_of_eq
theorem jF:type_of% @Int.not_lt:=@Int.not_lt
theorem jG:type_of% @List.map_cons:=@List.map_cons
theorem jH:type_of% @Nat.succ_pos:=@Nat.succ_pos
theorem j9:type_of% @Nat.lt_succ_of_lt:=@Nat.lt_succ_of_lt
theorem j_:type_of% @List.mem_of_getElem?:=@List.mem_of_getElem?
theorem j':type_of% @List.getElem?_map:=@List.getElem?_map
theorem ka:type_of% @Nat.le_of_lt:=@Nat.le_of_lt
theorem kb:type_of% @Nat.lt_succ_of_le:=@Nat.lt_succ_of_le
theorem kZ:type_of% @Nat.le_of_succ_le_succ:=@Nat.le_of_succ_le_succ
theorem k0:type_of% @List.all_eq_true:=@List.all_eq_true
theorem k1:type_of% @Int.ofNat_inj:=@Int.ofNat_inj
theorem k2:type_of% @List.lookup_cons:=@List.lookup_cons
theorem lI:type_of% @Nat.not_lt:=@Nat.not_lt
theorem lJ:type_of% @List.take_add_one:=@List.take_add_one
theorem ml:type_of% @Bool.and_eq_true:=@Bool.and_eq_true
theorem mm:type_of% @Nat.lt_of_succ_lt:=@Nat.lt_of_succ_lt
theorem mU:type_of% @List.drop_zero:=@List.drop_zero
theorem nG:type_of% @PySem.wpAny_ite_false:=@PySem.wpAny_ite_false
theorem nH:type_of% @PySem.Heap.dictOf_iff:=@PySem.Heap.dictOf_iff
theorem nI:type_of% @List.length_take:=@List.length_take
theorem nJ:type_of% @List.take_length:=@List.take_length
theorem nK:type_of% @List.drop_drop:=@List.drop_drop
theorem oO:type_of% @List.nil_append:=@List.nil_append
theorem nL:type_of% @List.mem_map:=@List.mem_map
theorem nM:type_of% @Prod.mk.injEq:=@Prod.mk.injEq
theorem nN:type_of% @Nat.le_of_lt_succ:=@Nat.le_of_lt_succ
theorem nO:type_of% @Nat.add_comm:=@Nat.add_comm
theorem oP:type_of% @List.getElem?_eq_none:=@List.getElem?_eq_none
theorem oQ:type_of% @List.drop_eq_getElem_cons:=@List.drop_eq_getElem_cons
theorem oR:type_of% @Nat.le_succ_of_le:=@Nat.le_succ_of_le
theorem pU:type_of% @Nat.mul_le_mul_right:=@Nat.mul_le_mul_right
theorem pV:type_of% @Nat.lt_of_not_le:=@Nat.lt_of_not_le
theorem pW:type_of% @PySem.wpAny_standAt:=@PySem.wpAny_standAt
theorem pX:type_of% @List.cons_append:=@List.cons_append
theorem pY:type_of% @Nat.le_of_succ_le:=@Nat.le_of_succ_le
theorem pZ:type_of% @Bool.beq_comm:=@Bool.beq_comm
theorem p0:type_of% @List.length_reverse:=@List.length_reverse
theorem q':type_of% @PySem.Heap.get?_push_size:=@PySem.Heap.get?_push_size
theorem ra:type_of% @List.mem_of_mem_take:=@List.mem_of_mem_take
theorem rb:type_of% @of_decide_eq_false:=@of_decide_eq_false
theorem rd:type_of% @Nat.le_max_left:=@Nat.le_max_left
theorem rf:type_of% @Nat.le_max_right:=@Nat.le_max_right
theorem sj:type_of% @Nat.le_of_ble_eq_true:=@Nat.le_of_ble_eq_true
theorem sk:type_of% @Bool.and_eq_true_iff:=@Bool.and_eq_true_iff
theorem sl:type_of% @Nat.lt_of_succ_lt_succ:=@Nat.lt_of_succ_lt_succ
theorem sm:type_of% @Nat.lt_of_le_of_lt:=@Nat.lt_of_le_of_lt
theorem so:type_of% @List.getElem?_drop:=@List.getElem?_drop
theorem sq:type_of% @List.nodup_cons:=@List.nodup_cons
theorem sr:type_of% @List.drop_eq_nil_of_le:=@List.drop_eq_nil_of_le
theorem su:type_of% @List.forIn_cons:=@List.forIn_cons
theorem sv:type_of% @Nat.succ_lt_succ:=@Nat.succ_lt_succ
theorem sx:type_of% @List.length_replicate:=@List.length_replicate
theorem sy:type_of% @List.length_take_le':=@List.length_take_le'
theorem ui:type_of% @Nat.mul_le_mul_left:=@Nat.mul_le_mul_left
theorem uj:type_of% @Int.eq_ofNat_of_zero_le:=@Int.eq_ofNat_of_zero_le
theorem uk:type_of% @List.map_inj_left:=@List.map_inj_left
theorem um:type_of% @Nat.lt_or_gt_of_ne:=@Nat.lt_or_gt_of_ne
theorem vX:type_of% @List.length_eq_zero_iff:=@List.length_eq_zero_iff
theorem vY:type_of% @Nat.succ_add_eq_add_succ:=@Nat.succ_add_eq_add_succ
theorem vZ:type_of% @Nat.sub_eq_zero_of_le:=@Nat.sub_eq_zero_of_le
theorem v3:type_of% @Nat.add_le_add_right:=@Nat.add_le_add_right
theorem yu:type_of% @List.getElem?_append_right:=@List.getElem?_append_right
theorem aH{p q:Prop}(h:p=q)(k:q):p:=h▸k
section
noncomputable abbrev b':=PySem.Str.ofString "at"
noncomputable abbrev e3:=PySem.Str.ofString "text"
noncomputable abbrev g5:=PySem.Str.ofString "row"
noncomputable abbrev g6:=PySem.Str.ofString "groups"
noncomputable abbrev hB:=PySem.Str.ofString "skips"
noncomputable abbrev h4:=PySem.Str.ofString "registers"
noncomputable abbrev iu:=PySem.Str.ofString "add"
noncomputable abbrev iX:=PySem.Str.ofString "pile"
noncomputable abbrev jw:=PySem.Str.ofString "append"
noncomputable abbrev kl:=PySem.Str.ofString "rows"
noncomputable abbrev mG:=PySem.Str.ofString "peek"
noncomputable abbrev oh:=PySem.Str.ofString "most"
noncomputable abbrev oi:=PySem.Str.ofString "node"
noncomputable abbrev oj:=PySem.Str.ofString "names"
noncomputable abbrev om:=PySem.Str.ofString "depth"
noncomputable abbrev pB:=PySem.Str.ofString "run"
noncomputable abbrev pC:=PySem.Str.ofString "steps"
noncomputable abbrev qQ:=PySem.Str.ofString "fresh"
noncomputable abbrev qR:=PySem.Str.ofString "state"
noncomputable abbrev r0:=PySem.Str.ofString "join"
noncomputable abbrev r1:=PySem.Str.ofString "program"
noncomputable abbrev tC:=PySem.Str.ofString "found"
noncomputable abbrev tD:=PySem.Str.ofString "flags"
noncomputable abbrev vw:=PySem.Str.ofString "find"
noncomputable abbrev vx:=PySem.Str.ofString "setdefault"
noncomputable abbrev vy:=PySem.Str.ofString "word"
noncomputable abbrev xD:=PySem.Str.ofString "split"
noncomputable abbrev xE:=PySem.Str.ofString "pop"
noncomputable abbrev xF:=PySem.Str.ofString "law"
noncomputable abbrev xG:=PySem.Str.ofString "least"
noncomputable abbrev xH:=PySem.Str.ofString "least_end"
noncomputable abbrev xI:=PySem.Str.ofString "spoken"
noncomputable abbrev Ab:=PySem.Str.ofString "lower"
noncomputable abbrev Ac:=PySem.Str.ofString "begin"
noncomputable abbrev Ad:=PySem.Str.ofString "start"
noncomputable abbrev Ae:=PySem.Str.ofString "maker"
noncomputable abbrev Af:=PySem.Str.ofString "width"
noncomputable abbrev Ag:=PySem.Str.ofString "begun"
noncomputable abbrev Ah:=PySem.Str.ofString "is_folded"
noncomputable abbrev Ey:=PySem.Str.ofString "is_negated"
noncomputable abbrev jU:List Nat:=[103,114,111,117,112]
noncomputable abbrev oa:List Nat:=[98,97,99,107]
noncomputable abbrev pg:List Nat:=[97,116,111,109,105,99]
noncomputable abbrev ph:List Nat:=[115,101,116]
noncomputable abbrev qz:List Nat:=[114,101,112]
noncomputable abbrev qA:List Nat:=[114,97,110,103,101]
noncomputable abbrev qB:List Nat:=[108,111,111,107]
noncomputable abbrev rP:List Nat:=[115,112,108,105,116]
noncomputable abbrev rQ:List Nat:=[112,108,97,99,101]
noncomputable abbrev rR:List Nat:=[111,110,101]
noncomputable abbrev tl:List Nat:=[115,105,103,110]
noncomputable abbrev tm:List Nat:=[114,111,119]
noncomputable abbrev vf:List Nat:=[106,117,109,112]
noncomputable abbrev vg:List Nat:=[97,103,97,105,110]
noncomputable abbrev xc:List Nat:=[116,114,121]
noncomputable abbrev xd:List Nat:=[109,97,114,107]
noncomputable abbrev zQ:List Nat:=[114,101,103,105,115,116,101,114]
noncomputable abbrev zR:List Nat:=[109,111,114,101]
noncomputable abbrev zS:List Nat:=[108,101,115,115]
noncomputable abbrev zT:List Nat:=[99,108,97,115,115]
noncomputable abbrev DM:List Nat:=[103,114,101,101,100,121]
noncomputable abbrev DN:List Nat:=[98,114,97,110,99,104,101,115]
noncomputable abbrev DO:List Nat:=[114,111,117,110,100,115]
end
section
open PySem (Str Scope NameKind BoolOp Operator UnaryOp CmpOp Const Stmt Comprehension Pos Program)
open PySem (Expr)
section
section
theorem ae{a b:Nat}(h:Nat.ble a b=true):a<=b:=sj h
section
variable{aA dB aw bz aR F:Type}
theorem cu{P:aA->dB->Prop}(a b)(h:P a b):∃a b,P a b:=⟨a,b,h⟩
theorem gw{P:aA->dB->aw->Prop}(a b c)(h:P a b c):∃a b c,P a b c:=cu a b ⟨c,h⟩
theorem hZ{P:aA->dB->aw->bz->Prop}(a b c o)(h:P a b c o):∃a b c o,P a b c o:=gw a b c ⟨o,h⟩
theorem ID{P:aA->dB->aw->bz->aR->Prop}(a b c o d)(h:P a b c o d):∃a b c o d,P a b c o d:=hZ a b c o ⟨d,h⟩
theorem IE{P:aA->dB->aw->bz->aR->F->Prop}(a b c o d f)(h:P a b c o d f):∃a b c o d f,P a b c o d f:=ID a b c o d ⟨f,h⟩
end
@[elab_as_elim]
theorem m'{P:Nat->Prop}(a:P 0)(b:P 1)(c:P 2)(o:P 3)(d:P 4)(f:∀n,P (n+5)):∀n,P n
 |0=>a
 |1=>b
 |2=>c
 |3=>o
 |4=>d
 |n+5=>f n
theorem fw{k n:Nat}(h:k<=n):∃m,n=m+k:=⟨n-k,(Nat.sub_add_cancel h).symm⟩
theorem i6{P:Nat->Prop}{k n:Nat}(h:k<=n)(f:∀m,P (m+k)):P n:=rwr (Nat.sub_add_cancel h) (f _)
theorem iG{P:Nat->Prop}{k n:Nat}(h:k+1<=n)(f:∀m,k<=m->P (m+1)):P n:=by
 obtain⟨m,rfl⟩:=fw (ah (gC 1 k) h)
 exact f m (kZ h)
theorem D1{P:Nat->Prop}{k n:Nat}(h:k+2<=n)(f:∀m,k<=m->P (m+2)):P n:=by
 obtain⟨m,rfl⟩:=fw (ah (gC 2 k) h)
 exact f m (kZ (kZ h))
section
variable{T mS E W X kx:Type}{A:Prop}{e5 hS oF nr t6 yc Fp Fs:Prop}{hk gz fE lD t7 gZ ye Ft:T->Prop}{hR fm jj mM yb mg:T->mS->Prop}{hl i1 kr jz oI jB:T->mS->E->Prop}{oB lC qZ t5 Fl:T->mS->E->W->Prop}{E' Fc:T->mS->E->W->X->kx->Prop}
theorem bc(h:e5/\hS)(f:e5->hS->A):A:=by obtain⟨a,b⟩:=h;exact f a b
theorem a7(h:∃t,hk t)(f:∀t,hk t->A):A:=by obtain⟨a,b⟩:=h;exact f a b
theorem e_(h:e5/\hS/\oF)(f:e5->hS->oF->A):A:=by obtain⟨a,b,c⟩:=h;exact f a b c
theorem LF(h:e5/\∃t,hk t)(f:e5->∀t,hk t->A):A:=by obtain⟨a,b,c⟩:=h;exact f a b c
theorem a'(h:∃t,hk t/\gz t)(f:∀t,hk t->gz t->A):A:=by obtain⟨a,b,c⟩:=h;exact f a b c
theorem EU(h:∃t u,hR t u)(f:∀t u,hR t u->A):A:=by obtain⟨a,b,c⟩:=h;exact f a b c
theorem f5(h:e5/\hS/\oF/\nr)(f:e5->hS->oF->nr->A):A:=by obtain⟨a,b,c,o⟩:=h;exact f a b c o
theorem ES(h:e5/\hS/\∃t,hk t)(f:e5->hS->∀t,hk t->A):A:=by obtain⟨a,b,c,o⟩:=h;exact f a b c o
theorem Ay(h:e5/\∃t u,hR t u)(f:e5->∀t u,hR t u->A):A:=by obtain⟨a,b,c,o⟩:=h;exact f a b c o
theorem fB(h:∃t,hk t/\gz t/\fE t)(f:∀t,hk t->gz t->fE t->A):A:=by obtain⟨a,b,c,o⟩:=h;exact f a b c o
theorem xW(h:∃t,hk t/\∃u,hR t u)(f:∀t,hk t->∀u,hR t u->A):A:=by obtain⟨a,b,c,o⟩:=h;exact f a b c o
theorem fC(h:∃t u,hR t u/\fm t u)(f:∀t u,hR t u->fm t u->A):A:=by obtain⟨a,b,c,o⟩:=h;exact f a b c o
theorem xT(h:e5/\hS/\oF/\nr/\t6)(f:e5->hS->oF->nr->t6->A):A:=by obtain⟨a,b,c,o,d⟩:=h;exact f a b c o d
theorem xU(h:e5/\∃t,hk t/\gz t/\fE t)(f:e5->∀t,hk t->gz t->fE t->A):A:=by obtain⟨a,b,c,o,d⟩:=h;exact f a b c o d
theorem pH(h:e5/\∃t u,hR t u/\fm t u)(f:e5->∀t u,hR t u->fm t u->A):A:=by obtain⟨a,b,c,o,d⟩:=h;exact f a b c o d
theorem LG(h:e5/\∃t u v,hl t u v)(f:e5->∀t u v,hl t u v->A):A:=by obtain⟨a,b,c,o,d⟩:=h;exact f a b c o d
theorem xV(h:∃t,hk t/\gz t/\fE t/\lD t)(f:∀t,hk t->gz t->fE t->lD t->A):A:=by obtain⟨a,b,c,o,d⟩:=h;exact f a b c o d
theorem jd(h:∃t u,hR t u/\fm t u/\jj t u)(f:∀t u,hR t u->fm t u->jj t u->A):A:=by obtain⟨a,b,c,o,d⟩:=h;exact f a b c o d
theorem AA(h:∃t u v,hl t u v/\i1 t u v)(f:∀t u v,hl t u v->i1 t u v->A):A:=by obtain⟨a,b,c,o,d⟩:=h;exact f a b c o d
theorem ER(h:e5/\hS/\oF/\nr/\t6/\yc)(f:e5->hS->oF->nr->t6->yc->A):A:=by obtain⟨a,b,c,o,d,g⟩:=h;exact f a b c o d g
theorem afr(h:e5/\hS/\∃t u v,hl t u v)(f:e5->hS->∀t u v,hl t u v->A):A:=by obtain⟨a,b,c,o,d,g⟩:=h;exact f a b c o d g
theorem afs(h:e5/\∃t,hk t/\gz t/\fE t/\lD t)(f:e5->∀t,hk t->gz t->fE t->lD t->A):A:=by obtain⟨a,b,c,o,d,g⟩:=h;exact f a b c o d g
theorem LI(h:∃t,hk t/\gz t/\fE t/\lD t/\t7 t)(f:∀t,hk t->gz t->fE t->lD t->t7 t->A):A:=by obtain⟨a,b,c,o,d,g⟩:=h;exact f a b c o d g
theorem tN(h:∃t u,hR t u/\fm t u/\jj t u/\mM t u)(f:∀t u,hR t u->fm t u->jj t u->mM t u->A):A:=by obtain⟨a,b,c,o,d,g⟩:=h;exact f a b c o d g
theorem afv(h:∃t u,hR t u/\fm t u/\∃v,hl t u v)(f:∀t u,hR t u->fm t u->∀v,hl t u v->A):A:=by obtain⟨a,b,c,o,d,g⟩:=h;exact f a b c o d g
theorem fg(h:∃t u v,hl t u v/\i1 t u v/\kr t u v)(f:∀t u v,hl t u v->i1 t u v->kr t u v->A):A:=by obtain⟨a,b,c,o,d,g⟩:=h;exact f a b c o d g
theorem AB(h:∃t u v w,oB t u v w/\lC t u v w)(f:∀t u v w,oB t u v w->lC t u v w->A):A:=by obtain⟨a,b,c,o,d,g⟩:=h;exact f a b c o d g
theorem Ax(h:e5/\hS/\∃t u v,hl t u v/\i1 t u v)(f:e5->hS->∀t u v,hl t u v->i1 t u v->A):A:=by obtain⟨a,b,c,o,d,g,i⟩:=h;exact f a b c o d g i
theorem Az(h:e5/\∃t u,hR t u/\fm t u/\jj t u/\mM t u)(f:e5->∀t u,hR t u->fm t u->jj t u->mM t u->A):A:=by obtain⟨a,b,c,o,d,g,i⟩:=h;exact f a b c o d g i
theorem tO(h:∃t u,hR t u/\fm t u/\jj t u/\mM t u/\yb t u)(f:∀t u,hR t u->fm t u->jj t u->mM t u->yb t u->A):A:=by obtain⟨a,b,c,o,d,g,i⟩:=h;exact f a b c o d g i
theorem j3(h:∃t u v,hl t u v/\i1 t u v/\kr t u v/\jz t u v)(f:∀t u v,hl t u v->i1 t u v->kr t u v->jz t u v->A):A:=by obtain⟨a,b,c,o,d,g,i⟩:=h;exact f a b c o d g i
theorem r8(h:∃t u v w,oB t u v w/\lC t u v w/\qZ t u v w)(f:∀t u v w,oB t u v w->lC t u v w->qZ t u v w->A):A:=by obtain⟨a,b,c,o,d,g,i⟩:=h;exact f a b c o d g i
theorem LC(h:e5/\hS/\oF/\nr/\t6/\yc/\Fp/\Fs)(f:e5->hS->oF->nr->t6->yc->Fp->Fs->A):A:=by obtain⟨a,b,c,o,d,g,i,y⟩:=h;exact f a b c o d g i y
theorem afq(h:e5/\hS/\∃t u,hR t u/\fm t u/\jj t u/\mM t u)(f:e5->hS->∀t u,hR t u->fm t u->jj t u->mM t u->A):A:=by obtain⟨a,b,c,o,d,g,i,y⟩:=h;exact f a b c o d g i y
theorem tM(h:e5/\∃t u v,hl t u v/\i1 t u v/\kr t u v/\jz t u v)(f:e5->∀t u v,hl t u v->i1 t u v->kr t u v->jz t u v->A):A:=by obtain⟨a,b,c,o,d,g,i,y⟩:=h;exact f a b c o d g i y
theorem aft(h:∃t,hk t/\gz t/\fE t/\lD t/\t7 t/\gZ t/\ye t)(f:∀t,hk t->gz t->fE t->lD t->t7 t->gZ t->ye t->A):A:=by obtain⟨a,b,c,o,d,g,i,y⟩:=h;exact f a b c o d g i y
theorem afu(h:∃t,hk t/\∃u v w,oB t u v w/\lC t u v w/\qZ t u v w)(f:∀t,hk t->∀u v w,oB t u v w->lC t u v w->qZ t u v w->A):A:=by obtain⟨a,b,c,o,d,g,i,y⟩:=h;exact f a b c o d g i y
theorem ov(h:∃t u,hR t u/\fm t u/\jj t u/\mM t u/\yb t u/\mg t u)(f:∀t u,hR t u->fm t u->jj t u->mM t u->yb t u->mg t u->A):A:=by obtain⟨a,b,c,o,d,g,i,y⟩:=h;exact f a b c o d g i y
theorem LK(h:∃t u v,hl t u v/\i1 t u v/\kr t u v/\jz t u v/\oI t u v)(f:∀t u v,hl t u v->i1 t u v->kr t u v->jz t u v->oI t u v->A):A:=by obtain⟨a,b,c,o,d,g,i,y⟩:=h;exact f a b c o d g i y
theorem afw(h:∃t u v w,oB t u v w/\lC t u v w/\qZ t u v w/\t5 t u v w)(f:∀t u v w,oB t u v w->lC t u v w->qZ t u v w->t5 t u v w->A):A:=by obtain⟨a,b,c,o,d,g,i,y⟩:=h;exact f a b c o d g i y
theorem afx(h:∃t u v w x H,E' t u v w x H/\Fc t u v w x H)(f:∀t u v w x H,E' t u v w x H->Fc t u v w x H->A):A:=by obtain⟨a,b,c,o,d,g,i,y⟩:=h;exact f a b c o d g i y
theorem LJ(h:∃t,hk t/\gz t/\fE t/\lD t/\t7 t/\gZ t/\ye t/\Ft t)(f:∀t,hk t->gz t->fE t->lD t->t7 t->gZ t->ye t->Ft t->A):A:=by obtain⟨a,b,c,o,d,g,i,y,k⟩:=h;exact f a b c o d g i y k
theorem r7(h:∃t u v,hl t u v/\i1 t u v/\kr t u v/\jz t u v/\oI t u v/\jB t u v)(f:∀t u v,hl t u v->i1 t u v->kr t u v->jz t u v->oI t u v->jB t u v->A):A:=by obtain⟨a,b,c,o,d,g,i,y,k⟩:=h;exact f a b c o d g i y k
theorem vF(h:∃t u v w,oB t u v w/\lC t u v w/\qZ t u v w/\t5 t u v w/\Fl t u v w)(f:∀t u v w,oB t u v w->lC t u v w->qZ t u v w->t5 t u v w->Fl t u v w->A):A:=by obtain⟨a,b,c,o,d,g,i,y,k⟩:=h;exact f a b c o d g i y k
theorem LD(h:e5/\hS/\∃t u v,hl t u v/\i1 t u v/\kr t u v/\jz t u v/\oI t u v)(f:e5->hS->∀t u v,hl t u v->i1 t u v->kr t u v->jz t u v->oI t u v->A):A:=by obtain⟨a,b,c,o,d,g,i,y,k,l⟩:=h;exact f a b c o d g i y k l
theorem LH(h:e5/\∃t u v,hl t u v/\i1 t u v/\kr t u v/\jz t u v/\oI t u v/\jB t u v)(f:e5->∀t u v,hl t u v->i1 t u v->kr t u v->jz t u v->oI t u v->jB t u v->A):A:=by obtain⟨a,b,c,o,d,g,i,y,k,l⟩:=h;exact f a b c o d g i y k l
theorem ET(h:e5/\hS/\∃t u v,hl t u v/\i1 t u v/\kr t u v/\jz t u v/\oI t u v/\jB t u v)(f:e5->hS->∀t u v,hl t u v->i1 t u v->kr t u v->jz t u v->oI t u v->jB t u v->A):A:=by obtain⟨a,b,c,o,d,g,i,y,k,l,m⟩:=h;exact f a b c o d g i y k l m
end
inductive gd where
 |at(i:Nat)|tj (n:Nat)|yC (n:Nat)|ad (a b:gd)|lZ (k:Nat) (a:gd)
inductive kV where
 |go (a b:gd)|b_ (c:Nat) (a b:gd) (r:kV)
noncomputable def zO(ai:List Nat):Nat->Nat:=List.rec (λ z=>0) (λ x z a i=>Nat.rec x (λ y z=>a y) i) ai
noncomputable def EF(n:Nat):Nat:=Nat.rec 0 (λ z m=>m.succ) n
theorem aeY(n:Nat):EF n=n:=Nat.rec rfl (λ z=>bA _) n
noncomputable def gd.den(ai:List Nat)(d:gd):Nat:=gd.rec (λ i=>zO ai i) EF (λ n=>n) (λ z z a b=>a+b) (λ k z a=>k*a) d
noncomputable def gd.co(d:gd):Nat->Nat:=gd.rec (λ i y=>(i.beq y).rec 0 1) (λ z z=>0) (λ z z=>0) (λ z z a b y=>a y+b y) (λ k z a y=>k*a y) d
noncomputable def gd.lW(d:gd):Nat:=gd.rec (λ z=>0) (λ n=>n) (λ n=>n) (λ z z a b=>a+b) (λ k z a=>k*a) d
noncomputable def ir(ai:List Nat):(Nat->Nat)->Nat:=List.rec (λ z=>0) (λ x z a f=>f 0*x+a (λ i=>f (i+1))) ai
noncomputable def u5(ai:List Nat):(Nat->Nat)->(Nat->Nat)->Bool:=List.rec (λ z z=>true) (λ z z a f g=>((f 0).ble (g 0)).rec false (a (λ i=>f (i+1)) (λ i=>g (i+1)))) ai
def kV.Den(ai:List Nat)(q:kV):Prop:=kV.rec (λ a b=>a.den ai<=b.den ai) (λ z a b z c=>a.den ai<=b.den ai->c) q
noncomputable def kV.ok(ai:List Nat)(q:kV):gd->gd->Bool:=kV.rec (λ a b c_ R=>((gd.ad a R).lW.ble (gd.ad b c_).lW).rec false (u5 ai (gd.ad a R).co (gd.ad b c_).co)) (λ c a b z d c_ R=>d (.ad (.lZ c a) c_) (.ad (.lZ c b) R)) q
theorem ac2(ai:List Nat):∀f g,u5 ai f g=true->ir ai f<=ir ai g:=by
 induction ai with
 |nil=>exact λ z z z=>bw _
 |cons x ai c=>
  intro f g h
  have C:∀b,Bool.rec false (u5 ai (λ i=>f (i+1)) λ i=>g (i+1)) b=true->b=true/\u5 ai (λ i=>f (i+1)) (λ i=>g (i+1))=true:=by
   intro b a;rcases b with _|_
   ·exact(Bool.false_ne_true a).elim
   ·exact⟨rfl,a⟩
  have I:=C _ h
  exact fV (pU _ (sj I.1)) (c _ _ I.2)
theorem ac1(ai:List Nat):∀f g,ir ai (λ i=>f i+g i)=ir ai f+ir ai g:=by
 induction ai with
 |nil=>exact λ z z=>rfl
 |cons x ai a=>
  intro f g
  show(f 0+g 0)*x+ir ai _=f 0*x+ir ai _+(g 0*x+ir ai _)
  rw[a _ _,Nat.add_mul,Nat.add_add_add_comm]
theorem ac3(k:Nat)(ai:List Nat):∀f,ir ai (λ i=>k*f i)=k*ir ai f:=by
 induction ai with
 |nil=>exact λ z=>rfl
 |cons x ai a=>
  intro f
  show k*f 0*x+ir ai _=k*(f 0*x+ir ai _)
  rw[a _,Nat.mul_add,Nat.mul_assoc]
theorem Ex(ai:List Nat):ir ai (λ z=>0)=0:=by
 induction ai with
 |nil=>rfl
 |cons x ai a=>show 0*x+ir ai _=0;rw[a,Nat.zero_mul]
set_option tactic.hygienic true in
theorem ac4(ai:List Nat):∀i,ir ai (gd.at i).co=zO ai i:=by
 induction ai with
 |nil=>exact λ z=>rfl
 |cons x ai a=>
  intro i;(rcases i with _|_;(case zero=>show 1*x+ir ai (λ z=>0)=x;rw[Ex,Nat.one_mul,Nat.add_zero]);(case succ i=>show 0*x+ir ai (gd.at i).co=zO ai i;rw[a,Nat.zero_mul,gr]))
theorem gd.GQ(ai:List Nat)(d:gd):d.den ai=d.lW+ir ai d.co:=by
 induction d with
 |«at» i=>show zO ai i=0+ir ai _;rw[ac4,gr]
 |tj n=>show EF n=n+ir ai λ z=>0;rw[Ex];exact aeY n
 |yC n=>show n=n+ir ai λ z=>0;rw[Ex];rfl
 |ad a b c e=>
  show a.den ai+b.den ai=a.lW+b.lW+ir ai λ i=>a.co i+b.co i
  rw[c,e,ac1,Nat.add_add_add_comm]
 |lZ k a f=>
  show k*a.den ai=k*a.lW+ir ai λ i=>k*a.co i
  rw[f,ac3,Nat.mul_add]
theorem kV.aat(ai:List Nat)(q:kV):∀c_ R:gd,q.ok ai c_ R=true->c_.den ai<=R.den ai->q.Den ai:=by
 induction q with
 |go a b=>
  intro c_ R h d
  have C:∀c,Bool.rec false (u5 ai (gd.ad a R).co (gd.ad b c_).co) c=true->c=true/\u5 ai (gd.ad a R).co (gd.ad b c_).co=true:=by
   intro b e;rcases b with _|_
   ·exact(Bool.false_ne_true e).elim
   ·exact⟨rfl,e⟩
  have I:=C _ h
  have ag:(gd.ad a R).den ai<=(gd.ad b c_).den ai:=by
   rw[gd.GQ,gd.GQ ai _]
   exact fV (sj I.1) (ac2 ai _ _ I.2)
  exact Nat.le_of_add_le_add_right (ah ag (e7 d _))
 |b_ c a b r f=>
  exact λ c_ R h d C=>f _ _ h (fV (ui c C) d)
noncomputable def zZ(f:Nat):Nat->(cg:Type)->(gd->Nat->cg)->cg:=
 Nat.rec (λ n z k=>k (.tj 0) n) (λ z a n cg k=>
  Nat.rec (a (n/32) cg λ x n=>a n cg λ H n=>k (.ad x H) n)
   (λ o z=>Nat.rec (a (n/1024) cg λ x m=>k (.lZ (n/32%32) x) m)
    (λ o z=>Nat.rec (k (.tj (n/32%32)) (n/1024))
     (λ o z=>Nat.rec (k (.yC (n/1024%32^(n/32%32))) (n/1024/32^(n/32%32)))
      (λ o z=>k (.at o) (n/32)) o) o) o) (n%32)) f
noncomputable def GP(f:Nat):Nat->kV:=
 Nat.rec (λ z=>.go (.tj 1) (.tj 0)) (λ z c n=>
  Nat.rec (zZ 30 (n/32) kV λ a n=>zZ 30 n kV λ b z=>.go a b)
   (λ o z=>zZ 30 (n/32) kV λ a n=>zZ 30 n kV λ b n=>.b_ (o+1) a b (c n)) (n%32)) f
theorem J(ai:List Nat)(n:Nat)(h:(GP 30 n).ok ai (.tj 0) (.tj 0)=true):(GP 30 n).Den ai:=
 kV.aat ai _ _ _ h (bw _)
theorem L:true=true:=rfl
theorem ck{cg:Type}{a b:cg}(h:some a=some b):a=b:=dd h
theorem aL{a b:Nat}(h:a=b):a<=b:=rwr h (bw _)
theorem d2(a b:Nat):a<=(a-b)+b:=Nat.sub_le_iff_le_add.1 (bw _)
theorem di{a b:Nat}(h:b<=a):(a-b)+b<=a:=jE (Nat.sub_add_cancel h)
inductive L5(aA:Type) where
 |len|ord|chr|max|min|sum
inductive SN(aA:Type) where
 |str|range|list
abbrev tZ:=L5 Unit
abbrev TI:=SN Unit
noncomputable def tZ.name:tZ->String
 |.len=>"len"|.ord=>"ord"|.chr=>"chr"|.max=>"max"|.min=>"min"|.sum=>"sum"
noncomputable def TI.name:TI->String
 |.str=>"str"|.range=>"range"|.list=>"list"
inductive E where
 |none|bool (b:Bool)|int (i:Int)|str (j:List Nat)
 |tup (B:List E)|lst (B:List E)|dct (az:List (List Nat)) (B:List E)|rng (a b c:Int)
 |ref (i:Nat)|fn (k:Nat)|cls (k:Nat)|bi (b:tZ)|typ (t:TI)
 deriving Inhabited
noncomputable def E.ctorIdx(x:E):Nat:=E.casesOn x 0 (λ z=>1) (λ z=>2) (λ z=>3) (λ z=>4) (λ z=>5) (λ z z=>6) (λ z z z=>7) (λ z=>8) (λ z=>9) (λ z=>10) (λ z=>11) (λ z=>12)
inductive dk where
 |list (B:List E)
 |flist (B:List E)
 |dict (az:List (List Nat)) (B:List E)
 |inst (c:Nat) (az:List Str) (B:List E)
noncomputable def dk.ctorIdx(x:dk):Nat:=dk.casesOn x (λ z=>0) (λ z=>1) (λ z z=>2) (λ z z z=>3)
structure U where
 next:Nat
 get:Nat->Option dk
noncomputable def U.alloc(e:U)(p:dk):U:=⟨e.next+1,λ y=>if y=e.next then some p else e.get y⟩
noncomputable def U.upd(e:U)(i:Nat)(p:dk):U:=⟨e.next,λ y=>if y=i then some p else e.get y⟩
abbrev bl:=E->U->Prop
abbrev q8:=bl->U->Prop
abbrev kv:=(Bool->U->Prop)->U->Prop
abbrev Loc:=List (Str×Option E)
noncomputable def getL:Loc->Str->Option E
 |[],_=>none
 |(H,v)::r,x=>match x==H with|true=>v|false=>getL r x
noncomputable def l8:Loc->Str->E->Loc
 |[],_,_=>[]
 |(H,w)::r,x,v=>match x==H with|true=>(H,some v)::r|false=>(H,w)::l8 r x v
inductive r_ where
 |next|brk|cont|ret (v:E)
noncomputable def r_.ctorIdx(x:r_):Nat:=r_.casesOn x 0 1 2 (λ z=>3)
abbrev ej:=r_->Loc->U->Prop
structure q0 where
 name:Str
 params:List Str
 defaults:List E
 body:List Stmt
 scope:Scope
structure eW where
 glob:Str->Option E
 fn:Nat->Option q0
 init:Nat->Option Nat
 b0:Nat->Str->Option Nat
noncomputable def c7:Nat:=8000000
theorem bF.{u} {cg:Type u} {a:cg} {s:Prop} (h:none=some a):s:=nomatch h
theorem cy{s:Prop}(h:false=true):s:=nomatch h
theorem qr.{u} {cg:Type u} {c:Prop} [Decidable c] {p:Option cg} {v:cg} (h:(if c then p else none)=some v):c/\p=some v:=by
 by_cases k:c
 ·exact⟨k,(aU k).symm.trans h⟩
 ·exact bF ((a8 k).symm.trans h)
theorem DI.{u} {cg:Type u} {c:Prop} [Decidable c] {p:Option cg} {v:cg} (h:(if c then none else p)=some v):¬c/\p=some v:=by
 by_cases k:c
 ·exact bF ((aU k).symm.trans h)
 ·exact⟨k,(a8 k).symm.trans h⟩
theorem i5{a b:Bool}(h:(a&&b)=true):a=true:=(sk.mp h).1
theorem kc{a b:Bool}(h:(a&&b)=true):b=true:=(sk.mp h).2
noncomputable def fO:E->Option Int
 |.int x=>some x
 |_=>none
noncomputable def h_:E->Option (List Nat)
 |.str x=>some x
 |_=>none
noncomputable def mX:E->Option (List E)
 |.tup x=>some x
 |_=>none
theorem yv{a:E}{x:Int}(h:fO a=some x):a=.int x:=by rcases a with _|_<;>first|exact bA _ (dd h)|exact bF h
theorem yx{a:E}{x:List Nat}(h:h_ a=some x):a=.str x:=by rcases a with _|_<;>first|exact bA _ (dd h)|exact bF h
theorem yy{a:E}{x:List E}(h:mX a=some x):a=.tup x:=by rcases a with _|_<;>first|exact bA _ (dd h)|exact bF h
theorem jo{cg:Type}{a:E}{f:Int->Option cg}{r:cg}(h:(fO a).bind f=some r):∃x,a=.int x/\f x=some r:=a' (gk.mp h) λ x C I=>⟨x,yv C,I⟩
theorem oS{cg:Type}{a:E}{f:List Nat->Option cg}{r:cg}(h:(h_ a).bind f=some r):∃x,a=.str x/\f x=some r:=a' (gk.mp h) λ x C I=>⟨x,yx C,I⟩
theorem TC{cg:Type}{a:E}{f:List E->Option cg}{r:cg}(h:(mX a).bind f=some r):∃x,a=.tup x/\f x=some r:=a' (gk.mp h) λ x C I=>⟨x,yy C,I⟩
noncomputable def k4(x:Str):List Nat:=x.cps.toList
noncomputable def xv(e:U):E->Option (List E)
 |.tup B=>some B
 |.lst B=>some B
 |.ref i=>match e.get i with
  |some (.list B)=>some B
  |some (.flist B)=>some B
  |_=>none
 |_=>none
noncomputable def Dp:Option dk->Option (List E)
 |some (.list B)=>some B
 |some (.flist B)=>some B
 |_=>none
noncomputable def GS:Option dk->Option (List (List Nat)×List E)
 |some (.dict az B)=>some (az,B)
 |_=>none
theorem Zb{p:Option dk}{B:List E}{G:Prop}(h:Dp p=some B)(a:p=some (.list B)->G)(b:p=some (.flist B)->G):G:=by
 rcases p with _|p
 ·exact bF h
 ·rcases p with l|l|_|_
  ·exact a (bA (some<|dk.list ·) (dd h))
  ·exact b (bA (some<|dk.flist ·) (dd h))
  ·exact bF h
  ·exact bF h
theorem VM{p:Option dk}{az:List (List Nat)}{B:List E}(h:GS p=some (az,B)):p=some (.dict az B):=by
 rcases p with _|p
 ·exact bF h
 ·rcases p with l|l|_|_
  ·exact bF h
  ·exact bF h
  ·have h:=Prod.mk.inj (dd h);rw[h.1,h.2]
  ·exact bF h
noncomputable def listOf(e:U):E->Option (List E)
 |.lst B=>some B
 |.ref i=>match e.get i with
  |some (.list B)=>some B
  |some (.flist B)=>some B
  |_=>none
 |_=>none
noncomputable def jY(a b c:Int):List E:=
 if c=1 then(List.range (b-a).toNat).map λ(k:Nat)=>E.int (a+k)
 else if c=-1 then(List.range (a-b).toNat).map λ(k:Nat)=>E.int (a-k)
 else[]
noncomputable def dU(k:Int):Bool:=decide (-1000000000<=k)&&decide (k<=1000000000)
noncomputable def ascii(j:List Nat):Bool:=j.all (·<128)
noncomputable def hx(e:U):E->Option (List E)
 |.tup B=>some B
 |.lst B=>some B
 |.str j=>if ascii j then some (j.map λ c=>E.str [c]) else none
 |.rng a b c=>if dU a&&dU b&&(c==1||c==-1) then some (jY a b c) else none
 |.ref i=>match e.get i with
  |some (.list B)=>some B
  |some (.flist B)=>some B
  |_=>none
 |_=>none
noncomputable def j2(f:E->E->Option Bool):List E->List E->Option Bool
 |a::r,b::q=>match f a b,j2 f r q with
  |some x,some H=>some (x&&H)
  |_,_=>none
 |_,_=>some true
noncomputable def aaj:E->Option Bool
 |.none=>some true
 |.tup _=>some false
 |.lst _=>some false
 |_=>none
noncomputable def zr:E->Option Bool
 |.none=>some false
 |_=>none
noncomputable def FU:E->Option Bool
 |.bool x=>some x
 |_=>none
noncomputable def mn:E->Option (List E)
 |.lst x=>some x
 |_=>none
theorem yw{a:E}{x:List E}(h:mn a=some x):a=.lst x:=by rcases a with _|_<;>first|exact bA _ (dd h)|exact bF h
theorem TB{a:E}{x:Bool}(h:FU a=some x):a=.bool x:=by rcases a with _|_<;>first|exact bA _ (dd h)|exact bF h
theorem YF{a:E}{x:Bool}(h:zr a=some x):a=.none/\x=false:=by rcases a with _|_<;>first|exact⟨rfl,dd h.symm⟩|exact bF h
noncomputable def vE(a b:E):Option Bool:=match a with
 |.none=>aaj b
 |.bool x=>(FU b).map λ H=>x==H
 |.int x=>(fO b).map λ H=>x==H
 |.str x=>(h_ b).map λ H=>x==H
 |.tup _=>zr b
 |.lst _=>zr b
 |_=>none
noncomputable def gj:Nat->E->E->Option Bool
 |0,a,b=>vE a b
 |n+1,a,b=>match mX a,mX b with
  |some x,some H=>match x.length==H.length with
   |true=>j2 (gj n) x H
   |false=>none
  |_,_=>match mn a,mn b with
   |some x,some H=>match x.length==H.length with
    |true=>j2 (gj n) x H
    |false=>some false
   |_,_=>vE a b
theorem ae5{n:Nat}{a b:E}{r:Bool}{G:Prop}(h:gj (n+1) a b=some r)(s:∀x H,mX a=some x->mX b=some H->(x.length==H.length)=true->j2 (gj n) x H=some r->G)
  (q:∀x H,mn a=some x->mn b=some H->(x.length==H.length)=true->j2 (gj n) x H=some r->G) (f:∀x H,mn a=some x->mn b=some H->(x.length==H.length)=false->false=r->G) (o:vE a b=some r->G):G:=by
 have k:(match mn a,mn b with|some x,some H=>(match x.length==H.length with|true=>j2 (gj n) x H|false=>some false)|_,_=>vE a b)=some r->G:=by
  rcases c:mn a with _|x
  ·exact o
  ·rcases e:mn b with _|H
   ·exact o
   ·show(match x.length==H.length with|true=>j2 (gj n) x H|false=>some false)=some r->G
    rcases d:x.length==H.length with _|_
    ·exact λ h=>f _ _ c e d (ck h)
    ·exact q _ _ c e d
 revert h k
 show(match mX a,mX b with|some x,some H=>(match x.length==H.length with|true=>j2 (gj n) x H|false=>none)|_,_=>(match mn a,mn b with|some x,some H=>(match x.length==H.length with|true=>j2 (gj n) x H|false=>some false)|_,_=>vE a b))=some r->_->G
 rcases c:mX a with _|x
 ·exact λ h k=>k h
 ·rcases e:mX b with _|H
  ·exact λ h k=>k h
  ·show(match x.length==H.length with|true=>j2 (gj n) x H|false=>none)=some r->_->G
   rcases d:x.length==H.length with _|_
   ·exact λ h=>bF h
   ·exact λ h z=>s _ _ c e d h
noncomputable def hV:List (List Nat)->List E->List Nat->Option E
 |k::az,v::B,x=>match x==k with|true=>some v|false=>hV az B x
 |_,_,_=>none
noncomputable def ke:List (List Nat)->List E->List Nat->E->List (List Nat)×List E
 |k::az,v::B,x,H=>match x==k with
  |true=>(k::az,H::B)
  |false=>let r:=ke az B x H;(k::r.1,v::r.2)
 |_,_,x,H=>([x],[H])
noncomputable def qc:List Str->List E->Str->Option E
 |k::az,v::B,x=>match x==k with|true=>some v|false=>qc az B x
 |_,_,_=>none
noncomputable def o3:List Str->List E->Str->E->List Str×List E
 |k::az,v::B,x,H=>match x==k with
  |true=>(k::az,H::B)
  |false=>let r:=o3 az B x H;(k::r.1,v::r.2)
 |_,_,x,H=>([x],[H])
theorem VY{k:List Nat}{az:List (List Nat)}{v:E}{B:List E}{x:List Nat}:hV (k::az) (v::B) x=bif x==k then some v else hV az B x:=rfl
theorem V0{k:List Nat}{az:List (List Nat)}{v H:E}{B:List E}{x:List Nat}:ke (k::az) (v::B) x H=bif x==k then(k::az,H::B) else(k::(ke az B x H).1,v::(ke az B x H).2):=rfl
theorem Hj{k:Str}{az:List Str}{v:E}{B:List E}{x:Str}:qc (k::az) (v::B) x=bif x==k then some v else qc az B x:=rfl
theorem Ho{k:Str}{az:List Str}{v H:E}{B:List E}{x:Str}:o3 (k::az) (v::B) x H=bif x==k then(k::az,H::B) else(k::(o3 az B x H).1,v::(o3 az B x H).2):=rfl
noncomputable def gF(e:U)(v:E):E:=match v with
 |.ref i=>match e.get i with
  |some (.list B)=>.lst B
  |some (.flist B)=>.lst B
  |_=>v
 |_=>v
set_option tactic.hygienic true in
theorem VH{e:U}{v:E}{F:E->Prop}(a:F v)(b:∀i B,v=.ref i->(e.get i=some (.list B)\/e.get i=some (.flist B))->F (.lst B)):F (gF e v):=by
 cases v
 case ref i=>
  show F (match e.get i with|some (.list B)=>.lst B|some (.flist B)=>.lst B|_=>.ref i)
  rcases d:e.get i with _|p
  ·exact a
  ·cases p<;>first|exact b _ _ rfl (.inl d)|exact b _ _ rfl (.inr d)|exact a
 all_goals exact a
noncomputable def ic(e:U)(v:E):Option (List (List Nat)×List E):=match v with
 |.dct az B=>some (az,B)
 |.ref i=>match e.get i with
  |some (.dict az B)=>some (az,B)
  |_=>none
 |_=>none
noncomputable def mZ(e:U)(ls:List (List Nat))(aV:List E):List (List Nat)->List E->Option Bool
 |k::az,v::B=>match hV ls aV k with
  |none=>some false
  |some w=>match gj 10 (gF e v) (gF e w),mZ e ls aV az B with
   |some x,some H=>some (x&&H)
   |_,_=>none
 |_,_=>some true
theorem FO{p s:Option Bool}{r:Bool}{G:Prop}(h:(match p,s with|some x,some H=>some (x&&H)|_,_=>none)=some r)(b:∀x H,p=some x->s=some H->(x&&H)=r->G):G:=by
 rcases p with _|x
 ·exact bF h
 ·rcases s with _|H
  ·exact bF h
  ·exact b x H rfl rfl (ck h)
theorem VN{e:U}{ls az:List (List Nat)}{aV B:List E}{k:List Nat}{v:E}{r:Bool}{G:Prop}(h:mZ e ls aV (k::az) (v::B)=some r)(a:hV ls aV k=none->false=r->G)
  (b:∀w x H,hV ls aV k=some w->gj 10 (gF e v) (gF e w)=some x->mZ e ls aV az B=some H->(x&&H)=r->G):G:=by
 revert h
 show(match hV ls aV k with|none=>some false|some w=>match gj 10 (gF e v) (gF e w),mZ e ls aV az B with|some x,some H=>some (x&&H)|_,_=>none)=some r->G
 rcases d:hV ls aV k with _|w
 ·exact λ h=>a d (ck h)
 ·exact λ h=>FO h λ x H=>b w x H d
theorem ae8{f:E->E->Option Bool}{v w:E}{B aV:List E}{r:Bool}{G:Prop}(h:j2 f (v::B) (w::aV)=some r)(b:∀x H,f v w=some x->j2 f B aV=some H->(x&&H)=r->G):G:=FO h b
noncomputable def jO(e:U)(a b:E):Option Bool:=match ic e a,ic e b with
 |some (az,B),some (ls,aV)=>match az.length==ls.length with
  |true=>mZ e ls aV az B
  |false=>some false
 |_,_=>gj 10 (gF e a) (gF e b)
theorem V_{e:U}{a b:E}{r:Bool}{G:Prop}(h:jO e a b=some r)(s:∀az B ls aV,ic e a=some (az,B)->ic e b=some (ls,aV)->(az.length==ls.length)=true->mZ e ls aV az B=some r->G)
  (il:∀az B ls aV,ic e a=some (az,B)->ic e b=some (ls,aV)->(az.length==ls.length)=false->false=r->G) (q:gj 10 (gF e a) (gF e b)=some r->G):G:=by
 delta jO at h
 revert h
 rcases c:ic e a with _|⟨az,B⟩
 ·exact q
 ·rcases f:ic e b with _|⟨ls,aV⟩
  ·exact q
  ·show(match az.length==ls.length with|true=>mZ e ls aV az B|false=>some false)=some r->G
   rcases d:az.length==ls.length with _|_
   ·exact λ h=>il _ _ _ _ c f d (ck h)
   ·exact s _ _ _ _ c f d
noncomputable def jJ(a:E):List E->Option Bool
 |[]=>some false
 |b::r=>match gj 10 b a,jJ a r with
  |some x,some H=>some (x||H)
  |_,_=>none
theorem Tu{a b:E}{r:List E}{d:Bool}{G:Prop}(h:jJ a (b::r)=some d)(k:∀x H,gj 10 b a=some x->jJ a r=some H->(x||H)=d->G):G:=by
 revert h
 show(match gj 10 b a,jJ a r with|some x,some H=>some (x||H)|_,_=>none)=some d->G
 rcases c:gj 10 b a with _|x
 ·exact λ h=>bF h
 ·rcases e:jJ a r with _|H
  ·exact λ h=>bF h
  ·exact λ h=>k x H c e (ck h)
noncomputable def iq(x:List Nat):List Nat->Bool
 |[]=>x.isEmpty
 |a::r=>x.isPrefixOf (a::r)||iq x r
noncomputable def C5(a:E):dk->Option Bool
 |.list B=>jJ a B
 |.flist B=>jJ a B
 |.dict az _=>(h_ a).bind λ j=>some (az.contains j)
 |.inst _ _ _=>none
noncomputable def C6(e:U)(a b:E):Option Bool:=match b with
 |.str t=>(h_ a).bind λ j=>some (iq j t)
 |.tup B=>jJ a B
 |.lst B=>jJ a B
 |.dct az _=>(h_ a).bind λ j=>some (az.contains j)
 |.ref i=>match e.get i with
  |some p=>C5 a p
  |none=>none
 |_=>none
noncomputable def isNone:E->Bool
 |.none=>true
 |_=>false
noncomputable def C_(a b:E):Option Bool:=match b with|.none=>some (isNone a)|_=>none
noncomputable def Zw(a b:E):Option Bool:=match a with
 |.int x=>(fO b).bind λ H=>some (decide (x<H))
 |.str x=>(h_ b).bind λ H=>some (decide (x<H))
 |_=>none
noncomputable def Y7(a b:E):Option Bool:=match a with
 |.int x=>(fO b).bind λ H=>some (decide (x<=H))
 |.str x=>(h_ b).bind λ H=>some (!decide (H<x))
 |_=>none
noncomputable def lM(e:U)(c:CmpOp)(a b:E):Option Bool:=match c with
 |.Eq=>jO e a b
 |.NotEq=>(jO e a b).map (!·)
 |.In=>C6 e a b
 |.NotIn=>(C6 e a b).map (!·)
 |.Is=>C_ a b
 |.IsNot=>(C_ a b).map (!·)
 |.Lt=>Zw a b
 |.LtE=>Y7 a b
 |.Gt=>(fO a).bind λ x=>(fO b).bind λ H=>some (decide (H<x))
 |.GtE=>(fO a).bind λ x=>(fO b).bind λ H=>some (decide (H<=x))
noncomputable def small(a:Int):Bool:=decide (a.natAbs<18446744073709551616)
noncomputable def jX{cg:Type}(ai:List cg):Nat->List cg
 |0=>[]
 |n+1=>ai++jX ai n
theorem D5{cg:Type}{ai:List cg}{n:Nat}:jX ai (n+1)=ai++jX ai n:=rfl
noncomputable def Tb(a b:E):Option E:=match a with
 |.int x=>(fO b).bind λ H=>some (.int (x+H))
 |.str x=>(h_ b).bind λ H=>if x.length+H.length<=c7 then some (.str (x++H)) else none
 |.tup x=>(mX b).bind λ H=>if x.length+H.length<=c7 then some (.tup (x++H)) else none
 |_=>none
noncomputable def Z2(a b:E):Option E:=match a with
 |.int x=>(fO b).bind λ H=>if small x&&small H then some (.int (x*H)) else none
 |.tup x=>(fO b).bind λ n=>if x.length*n.toNat<=c7&&dU n then some (.tup (jX x n.toNat)) else none
 |_=>none
noncomputable def IM(a:Operator)(x H:Int):Option E:=match a with
 |.Sub=>some (.int (x-H))
 |.Mod=>if H=0 then none else some (.int (x.fmod H))
 |.FloorDiv=>if H=0 then none else if dU H then some (.int (x.fdiv H)) else none
 |.Pow=>if 0<=H&&H<=1000&&small x then some (.int (x^H.toNat)) else none
 |_=>none
noncomputable def mY(c:Operator)(a b:E):Option E:=match c with
 |.Add=>Tb a b
 |.Mult=>Z2 a b
 |c=>(fO a).bind λ x=>(fO b).bind λ H=>IM c x H
def bu(c:Operator)(a b:E)(A:bl)(e:U):Prop:=match mY c a b with
 |some v=>A v e
 |none=>match c with
  |.Add=>match listOf e a,listOf e b with
   |some x,some H=>x.length+H.length<=c7/\A (.ref e.next) (e.alloc (.list (x++H)))
   |_,_=>False
  |.Mult=>match listOf e a,fO b with
   |some x,some n=>x.length*n.toNat<=c7/\dU n=true/\A (.ref e.next) (e.alloc (.list (jX x n.toNat)))
   |_,_=>False
  |_=>False
theorem UR{c:Operator}{a b:E}{A:bl}{e:U}{G:Prop}(h:bu c a b A e)(s:∀v,mY c a b=some v->A v e->G)(q:∀x H,c=.Add->listOf e a=some x->listOf e b=some H->x.length+H.length<=c7->A (.ref e.next) (e.alloc (.list (x++H)))->G)
  (t:∀x n,c=.Mult->listOf e a=some x->fO b=some n->x.length*n.toNat<=c7->dU n=true->A (.ref e.next) (e.alloc (.list (jX x n.toNat)))->G):G:=by
 delta bu at h
 revert h
 rcases d:mY c a b with _|v
 ·cases c
  case Add=>
   show(match listOf e a,listOf e b with|some x,some H=>_|_,_=>False)->G
   rcases f:listOf e a with _|x
   ·exact False.elim
   ·rcases g:listOf e b with _|H
    ·exact False.elim
    ·exact λ h=>q _ _ rfl f g h.1 h.2
  case Mult=>
   show(match listOf e a,fO b with|some x,some n=>_|_,_=>False)->G
   rcases f:listOf e a with _|x
   ·exact False.elim
   ·rcases g:fO b with _|H
    ·exact False.elim
    ·exact λ h=>t _ _ rfl f g h.1 h.2.1 h.2.2
  all_goals exact False.elim
 ·exact s _ d
def C7(i:Nat)(p:dk)(b:E)(A:bl)(e:U):Prop:=match p with
 |.list x=>match listOf e b with
  |some H=>x.length+H.length<=c7/\A (.ref i) (e.upd i (.list (x++H)))
  |none=>False
 |_=>False
def eR(c:Operator)(a b:E)(A:bl)(e:U):Prop:=match a with
 |.ref i=>match c with
  |.Add=>match e.get i with
   |some p=>C7 i p b A e
   |none=>False
  |_=>False
 |.int x=>match b with
  |.int H=>match c with
   |.Add=>A (.int (x+H)) e
   |.Sub=>A (.int (x-H)) e
   |_=>False
  |_=>False
 |_=>False
def Lk(c:UnaryOp)(a:E)(A:bl)(e:U):Prop:=match c with
 |.Not=>match a with
  |.bool b=>A (.bool (!b)) e
  |_=>False
 |.USub=>match a with
  |.int x=>A (.int (-x)) e
  |_=>False
 |_=>False
noncomputable def sC{cg:Type}(l:List cg)(i:E):Option cg:=(fO i).bind λ k=>if 0<=k&&dU k then l[k.toNat]? else none
noncomputable def u1(p:dk)(i:E):Option E:=match p with
 |.list B=>sC B i
 |.flist B=>sC B i
 |.dict az B=>(h_ i).bind λ x=>hV az B x
 |.inst _ _ _=>none
noncomputable def n8(e:U)(p i:E):Option E:=match p with
 |.str j=>(sC j i).map λ c=>.str [c]
 |.tup B=>sC B i
 |.lst B=>sC B i
 |.dct az B=>(h_ i).bind λ x=>hV az B x
 |.ref y=>match e.get y with
  |some a=>u1 a i
  |none=>none
 |_=>none
noncomputable def cut{cg:Type}(ai:List cg)(lo:Nat)(a:Option Nat):List cg:=match a with
 |some h=>(ai.take h).drop lo
 |none=>ai.drop lo
noncomputable def jK:Option E->Option (Option Nat)
 |none=>some none
 |some (.int k)=>if 0<=k&&dU k then some (some k.toNat) else none
 |_=>none
noncomputable def pz(e:U)(p:E)(l u:Option E):Option E:=match jK l,jK u with
 |some l,some u=>match p with
  |.str j=>if j.length<=c7 then some (.str (cut j (l.getD 0) u)) else none
  |.tup B=>if B.length<=c7 then some (.tup (cut B (l.getD 0) u)) else none
  |p=>match listOf e p with
   |some B=>if B.length<=c7 then some (.lst (cut B (l.getD 0) u)) else none
   |none=>none
 |_,_=>none
def gM(p i v:E)(A:U->Prop)(e:U):Prop:=match p with
 |.ref y=>match e.get y with
  |some (.list B)=>match fO i with
   |some k=>0<=k/\k.toNat<B.length/\dU k=true/\A (e.upd y (.list (B.set k.toNat v)))
   |none=>False
  |some (.dict az B)=>match h_ i with
   |some x=>az.length<=1000/\A (let r:=ke az B x v;e.upd y (.dict r.1 r.2))
   |none=>False
  |_=>False
 |_=>False
theorem ab1{p i v:E}{A:U->Prop}{e:U}{G:Prop}(h:gM p i v A e)(a:∀y B k,p=.ref y->i=.int k->e.get y=some (.list B)->0<=k->k.toNat<B.length->dU k=true->A (e.upd y (.list (B.set k.toNat v)))->G)
  (b:∀y az B x,p=.ref y->i=.str x->e.get y=some (.dict az B)->az.length<=1000->A (let r:=ke az B x v;e.upd y (.dict r.1 r.2))->G):G:=by
 obtain⟨y,rfl⟩:∃y,p=.ref y:=by rcases p with _|_<;>first|exact⟨_,rfl⟩|exact h.elim
 unfold gM at h
 dsimp only at h
 rcases d:e.get y with _|p
 ·rw[d] at h;exact h.elim
 ·rw[d] at h
  rcases p with B|_|⟨az,B⟩|_
  ·rcases q:fO i with _|k
   ·dsimp only at h;rw[q] at h;exact h.elim
   ·dsimp only at h;rw[q] at h;exact a _ _ _ rfl (yv q) d h.1 h.2.1 h.2.2.1 h.2.2.2
  ·exact h.elim
  ·rcases q:h_ i with _|k
   ·dsimp only at h;rw[q] at h;exact h.elim
   ·dsimp only at h;rw[q] at h;exact b _ _ _ _ rfl (yx q) d h.1 h.2
  ·exact h.elim
noncomputable def BX:List String:=["at","row","pile","registers","groups","text","begin","least_end","most","steps","program","rows","names","width","depth","items","total","spoken"]
noncomputable def pj(x:Str):Bool:=(BX.map Str.ofString).contains x
def a6(p:E)(x:Str)(A:bl)(e:U):Prop:=match p with
 |.ref y=>match e.get y with
  |some (.inst _ az B)=>match qc az B x with
   |some v=>A v e
   |none=>False
  |_=>False
 |_=>False
set_option tactic.hygienic true
theorem JK{p:E}{F:Nat->Prop}{G:Prop}(h:match p with|.ref y=>F y|_=>False)(k:∀y,p=.ref y->F y->G):G:=by
 cases p
 case ref y=>exact k y rfl h
 all_goals exact h.elim
theorem IL{p:Option dk}{F:Nat->List Str->List E->Prop}{G:Prop}(h:match p with|some (.inst c az B)=>F c az B|_=>False)(k:∀c az B,p=some (.inst c az B)->F c az B->G):G:=by
 rcases p with _|p
 ·exact h.elim
 ·cases p
  case inst c az B=>exact k c az B rfl h
  all_goals exact h.elim
set_option tactic.hygienic false
def cL(p:E)(x:Str)(v:E)(A:U->Prop)(e:U):Prop:=match p with
 |.ref y=>match e.get y with
  |some (.inst c az B)=>match pj x with
   |true=>az.length<=100/\A (let r:=o3 az B x v;e.upd y (.inst c r.1 r.2))
   |false=>False
  |_=>False
 |_=>False
noncomputable def hc(v:E)(e:U):E×U:=match v with
 |.ref i=>match e.get i with
  |some (.list B)=>(.lst B,e.upd i (.flist B))
  |some (.flist B)=>(.lst B,e)
  |_=>(v,e)
 |_=>(v,e)
set_option tactic.hygienic true in
theorem WQ{e:U}{v:E}{F:E×U->Prop}(a:F (v,e))(b:∀i B,v=.ref i->e.get i=some (.list B)->F (.lst B,e.upd i (.flist B)))(c:∀i B,v=.ref i->e.get i=some (.flist B)->F (.lst B,e)):F (hc v e):=by
 cases v
 case ref i=>
  show F (match e.get i with|some (.list B)=>(.lst B,e.upd i (.flist B))|some (.flist B)=>(.lst B,e)|_=>(.ref i,e))
  rcases d:e.get i with _|p
  ·exact a
  ·cases p<;>first|exact b _ _ rfl d|exact c _ _ rfl d|exact a
 all_goals exact a
noncomputable def iz:List E->U->List E×U
 |[],e=>([],e)
 |v::r,e=>let s:=hc v e;let q:=iz r s.2;(s.1::q.1,q.2)
def tupK(B:List E)(A:bl)(e:U):Prop:=let s:=iz B e;A (.tup s.1) s.2
noncomputable def fj(k:Nat):List Nat:=if k<10 then[48+k] else if k<100 then[48+k/10,48+k%10] else[48+k/100,48+k/10%10,48+k%10]
noncomputable def vt(j:List Nat):Option (List (List Nat)):=
 if j=[49,44,50] then some [[49],[50]] else if j=[50] then some [[50]] else if j=[48,44,50] then some [[48],[50]] else none
noncomputable def iT(x:List Nat):List Nat->Nat->Option Nat
 |[],k=>if x.isEmpty then some k else none
 |a::r,k=>if x.isPrefixOf (a::r) then some k else iT x r (k+1)
theorem Ws{x:List Nat}{k:Nat}:iT x [] k=if x.isEmpty then some k else none:=rfl
theorem Wr{x r:List Nat}{a k:Nat}:iT x (a::r) k=if x.isPrefixOf (a::r) then some k else iT x r (k+1):=rfl
theorem acY{x r:List Nat}{a:Nat}:iq x (a::r)=(x.isPrefixOf (a::r)||iq x r):=rfl
noncomputable def pd(c:Nat):Nat:=if 65<=c/\c<=90 then c+32 else c
noncomputable def vz(c:Nat):Nat:=if 65<=c/\c<=90 then c+32 else if 97<=c/\c<=122 then c-32 else c
noncomputable def ig(a:List Nat):List (List Nat)->List Nat
 |[]=>[]
 |[x]=>x
 |x::r=>x++a++ig a r
theorem YK{a x H:List Nat}{r:List (List Nat)}:ig a (x::H::r)=x++a++ig a (H::r):=rfl
noncomputable def vv:List E->Option (List (List Nat))
 |[]=>some []
 |v::r=>(h_ v).bind λ j=>(vv r).map (j::·)
noncomputable def qp:List E->Option (List Int)
 |[]=>some []
 |v::r=>(fO v).bind λ j=>(qp r).map (j::·)
noncomputable def mW:List E->Option E
 |[v]=>some v
 |_=>none
set_option tactic.hygienic true in
theorem nP{cg:Type}{B:List E}{f:E->Option cg}{r:cg}(h:(mW B).bind f=some r):∃v,B=[v]/\f v=some r:=by
 refine a' (gk.mp h) λ v C I=>?_
 rcases B with _|_
 case nil=>exact bF C
 case cons w r=>(clear h;rcases r with _|_;(case nil=>obtain rfl:=dd C;exact⟨_,rfl,I⟩);(case cons _ _=>exact bF C))
noncomputable def aaB(e:U)(v:E):Option E:=(listOf e v).bind λ l=>(mW l).bind λ x=>(fO x).bind λ a=>some (.int a)
noncomputable def adE(v w:E)(f:Int->Int->Int):Option E:=(fO v).bind λ a=>(fO w).bind λ b=>some (.int (f a b))
noncomputable def BU(e:U)(f:Int->Int->Int):List E->Option E
 |[]=>none
 |v::r=>match r with
  |[]=>aaB e v
  |w::q=>match q with
   |[]=>adE v w f
   |_=>none
noncomputable def Y9(e:U)(v:E):Option E:=match v with
 |.str j=>if j.length<=c7 then some (.int j.length) else none
 |v=>(xv e v).bind λ x=>if x.length<=c7 then some (.int x.length) else none
noncomputable def aaM:List Nat->Option E
 |[c]=>some (.int c)
 |_=>none
noncomputable def Bn(e:U)(b:tZ)(B:List E):Option E:=match b with
 |.len=>(mW B).bind (Y9 e)
 |.ord=>(mW B).bind λ v=>(h_ v).bind aaM
 |.chr=>(mW B).bind λ v=>(fO v).bind λ k=>if 0<=k&&k<128 then some (.str [k.toNat]) else none
 |.max=>BU e (λ a b=>if a<b then b else a) B
 |.min=>BU e (λ a b=>if b<a then b else a) B
 |.sum=>(mW B).bind λ v=>(listOf e v).bind λ l=>(qp l).map λ l=>.int l.sum
noncomputable def xn(a b c:E):Option E:=(fO a).bind λ a=>(fO b).bind λ b=>(fO c).bind λ c=>if dU a&&dU b&&(c==1||c==-1) then some (.rng a b c) else none
noncomputable def abq:List E->Option E
 |[]=>none
 |b::r=>match r with
  |[]=>xn (.int 0) b (.int 1)
  |c::q=>match q with
   |[]=>xn b c (.int 1)
   |o::s=>match s with
    |[]=>xn b c o
    |_=>none
noncomputable def r3(t:TI)(B:List E):Option E:=match t with
 |.str=>(mW B).bind λ v=>(fO v).bind λ k=>if 0<=k&&k<1000 then some (.str (fj k.toNat)) else none
 |.range=>abq B
 |.list=>none
inductive fp where
 |join|lower|swapcase|find|index|split|append|pop|extend|setdefault|fn (k:Nat)
noncomputable def fp.ctorIdx(x:fp):Nat:=fp.casesOn x 0 1 2 3 4 5 6 7 8 9 (λ z=>10)
noncomputable def A2(p:Option E):List E->Option E
 |[]=>p
 |_=>none
theorem FR{p:Option E}{B:List E}{v:E}(h:A2 p B=some v):B=[]/\p=some v:=by
 rcases B with _|_
 case nil=>exact⟨rfl,h⟩
 case cons _ _=>exact bF h
noncomputable def BY:Option Nat->Int
 |some y=>y
 |none=>-1
noncomputable def Wt(j:List Nat):List E->Option E
 |[]=>none
 |x::r=>(h_ x).bind λ x=>(mW r).bind λ k=>(fO k).bind λ k=>if 0<=k&&dU k&&k<=j.length then some (.int (BY (iT x (j.drop k.toNat) k.toNat))) else none
noncomputable def og(e:U)(j:List Nat)(m:fp)(B:List E):Option E:=match m with
 |.join=>(mW B).bind λ v=>(listOf e v).bind λ l=>(vv l).bind λ l=>if(ig j l).length+l.length*(j.length+1)<=c7 then some (.str (ig j l)) else none
 |.lower=>A2 (if ascii j&&decide (j.length<=1000) then some (.str (j.map pd)) else none) B
 |.swapcase=>A2 (if ascii j&&decide (j.length<=1000) then some (.str (j.map vz)) else none) B
 |.find=>Wt j B
 |.index=>(mW B).bind λ v=>(h_ v).bind λ x=>(iT x j 0).bind λ y=>some (.int (y:Int))
 |.split=>(mW B).bind λ v=>(h_ v).bind λ x=>if x=[44] then(vt j).bind λ l=>some (.lst (l.map .str)) else none
 |_=>none
abbrev dp:=Nat->List E->bl->U->Prop
def ll{cg:Type}(p:Option cg)(f:cg->Prop):Prop:=match p with
 |some x=>f x
 |none=>False
theorem qF{cg:Type}{p:Option cg}{f:cg->Prop}{G:Prop}(h:ll p f)(k:∀x,p=some x->f x->G):G:=by
 rcases p with _|x
 ·exact h.elim
 ·exact k x rfl h
theorem qE{cg:Type}{p:Option cg}{f:cg->Prop}{x:cg}(h:p=some x)(q:f x):ll p f:=by rw[h];exact q
noncomputable def K_(t:TI)(B:List E):Option (List E):=match t with
 |.list=>(mW B).bind mX
 |_=>none
def cJ(P:eW)(R:dp)(f:E)(B:List E)(A:bl)(e:U):Prop:=match f with
 |.fn k=>R k B A e
 |.cls c=>ll (P.init c) λ k=>R k (.ref e.next::B) (λ r M=>match r with|.none=>A (.ref e.next) M|_=>False) (e.alloc (.inst c [] []))
 |.bi b=>ll (Bn e b B) λ v=>A v e
 |.typ t=>match r3 t B with
  |some v=>A v e
  |none=>ll (K_ t B) λ ai=>ai.length<=c7/\A (.ref e.next) (e.alloc (.list ai))
 |_=>False
theorem adF{t:TI}{B ai:List E}(h:K_ t B=some ai):t=.list/\B=[.tup ai]:=by
 rcases t with _|_|_
 ·exact bF h
 ·exact bF h
 ·refine a' (nP h) λ v d h=>?_
  exact⟨rfl,d.trans (bA (λ v=>[v]) (yy h))⟩
noncomputable def Eu(m:Str):Option fp:=if m==r0 then some .join
 else if m==Ab then some .lower
 else if m==(Str.ofString "swapcase") then some .swapcase
 else if m==vw then some .find
 else if m==(Str.ofString "index") then some .index
 else if m==xD then some .split
 else none
noncomputable def Dm(m:Str):Option fp:=if m==jw then some .append
 else if m==xE then some .pop
 else if m==(Str.ofString "extend") then some .extend
 else none
noncomputable def xe(P:eW)(m:Str):dk->Option fp
 |.inst c _ _=>(P.b0 c m).map .fn
 |.dict _ _=>if m==vx then some .setdefault else none
 |.list _=>Dm m
 |.flist _=>none
noncomputable def zF(P:eW)(e:U)(p:E)(m:Str):Option fp:=match p with
 |.str _=>Eu m
 |.ref i=>match e.get i with
  |some a=>xe P m a
  |none=>none
 |_=>none
theorem oU{b:Bool}{a v:fp}{p:Option fp}{G:Prop}(h:(if b then some a else p)=some v)(c:b=true->a=v->G)(d:p=some v->G):G:=by
 rcases b with _|_
 case true=>exact c rfl (dd h)
 case false=>exact d h
theorem C'.{u} {cg:Type u} {c:Prop} [Decidable c] {a v:cg} {p:Option cg} {G:Prop} (h:(if c then some a else p)=some v) (b:c->a=v->G) (d:p=some v->G):G:=by
 by_cases k:c
 ·exact b k (dd ((aU k).symm.trans h))
 ·exact d ((a8 k).symm.trans h)
def Dn(i:Nat)(ai:List E)(m:fp)(B:List E)(A:bl)(e:U):Prop:=match m with
 |.append=>match B with
  |[v]=>ai.length<=c7/\A .none (e.upd i (.list (ai++[v])))
  |_=>False
 |.pop=>match B with
  |[]=>match ai.getLast? with
   |some v=>ai.length<=c7/\A v (e.upd i (.list ai.dropLast))
   |none=>False
  |_=>False
 |.extend=>match B with
  |[v]=>match listOf e v with
   |some dr=>ai.length+dr.length<=c7/\A .none (e.upd i (.list (ai++dr)))
   |none=>False
  |_=>False
 |_=>False
theorem Jh{B:List E}{F:E->Prop}{G:Prop}(h:match B with|[v]=>F v|_=>False)(k:∀v,B=[v]->F v->G):G:=by
 rcases B with _|⟨v,_|_⟩
 ·exact h.elim
 ·exact k v rfl h
 ·exact h.elim
theorem lstK{p:Option (List E)}{F:List E->Prop}{G:Prop}(h:match p with|some v=>F v|none=>False)(k:∀v,p=some v->F v->G):G:=by
 rcases p with _|v
 ·exact h.elim
 ·exact k v rfl h
theorem aab{B:List E}{F G:Prop}(h:match B with|[]=>F|_=>False)(k:B=[]->F->G):G:=by
 rcases B with _|_
 ·exact k rfl h
 ·exact h.elim
noncomputable def FT:List E->Option (List Nat×E)
 |[a,v]=>(h_ a).map λ x=>(x,v)
 |_=>none
theorem Tx{B:List E}{x:List Nat}{v:E}(h:FT B=some (x,v)):B=[.str x,v]:=by
 rcases B with _|⟨a,_|⟨w,_|_⟩⟩
 ·exact bF h
 ·exact bF h
 ·refine a' (gD.mp h) λ H d h=>?_
  rw[yx d,(Prod.mk.inj h).1,(Prod.mk.inj h).2]
 ·exact bF h
def BF(i:Nat)(az:List (List Nat))(aV:List E)(m:fp)(B:List E)(A:bl)(e:U):Prop:=match m with
 |.setdefault=>ll (FT B) λ s=>az.length<=1000/\match hV az aV s.1 with
  |some w=>A w e
  |none=>A s.2 (e.upd i (let r:=ke az aV s.1 s.2;.dict r.1 r.2))
 |_=>False
def bY(R:dp)(cP:fp)(p:E)(B:List E)(A:bl)(e:U):Prop:=match cP with
 |.fn k=>R k (p::B) A e
 |cP=>match p with
  |.str j=>match og e j cP B with
   |some v=>A v e
   |none=>False
  |.ref i=>match e.get i with
   |some (.list ai)=>Dn i ai cP B A e
   |some (.dict az aV)=>BF i az aV cP B A e
   |_=>False
  |_=>False
set_option tactic.hygienic true
theorem acR{p:E}{F:List Nat->Prop}{c:Nat->Prop}{G:Prop}(h:match p with|.str j=>F j|.ref i=>c i|_=>False)(a:∀j,p=.str j->F j->G)(b:∀i,p=.ref i->c i->G):G:=by
 cases p
 case str j=>exact a j rfl h
 case ref i=>exact b i rfl h
 all_goals exact h.elim
theorem aap{p:Option dk}{F:List E->Prop}{bz:List (List Nat)->List E->Prop}{G:Prop}(h:match p with|some (.list ai)=>F ai|some (.dict az aV)=>bz az aV|_=>False)(a:∀ai,p=some (.list ai)->F ai->G)(b:∀az aV,p=some (.dict az aV)->bz az aV->G):G:=by
 rcases p with _|p
 ·exact h.elim
 ·cases p
  case list ai=>exact a ai rfl h
  case dict az aV=>exact b az aV rfl h
  all_goals exact h.elim
set_option tactic.hygienic false
theorem Kz{p:Option E}{F:E->Prop}{G:Prop}(h:match p with|some v=>F v|none=>False)(k:∀v,p=some v->F v->G):G:=by
 rcases p with _|v
 ·exact h.elim
 ·exact k v rfl h
set_option tactic.hygienic true in
theorem ZP{R:dp}{cP:fp}{p:E}{B:List E}{A:bl}{e:U}{G:Prop}(h:bY R cP p B A e)(a:∀k,cP=.fn k->R k (p::B) A e->G)(b:∀j v,p=.str j->og e j cP B=some v->A v e->G)
  (c:∀i ai,p=.ref i->e.get i=some (.list ai)->Dn i ai cP B A e->G) (o:∀i az aV,p=.ref i->e.get i=some (.dict az aV)->BF i az aV cP B A e->G):G:=by
 cases cP
 case fn k=>exact a k rfl h
 all_goals exact acR h (λ j D h=>Kz h λ v d=>b j v D d) λ i D h=>aap h (λ ai d=>c i ai D d) λ az aV d=>o i az aV D d
structure fF where
 sc:Scope
 loc:Loc
 out:Loc
noncomputable def n_(P:eW)(c:fF)(x:Str):Option E:=match c.sc.names.lookup x with
 |some .local=>getL c.loc x
 |some .cell=>getL c.loc x
 |some .free=>getL c.out x
 |some .globalImplicit=>P.glob x
 |_=>none
theorem Z6{P:eW}{c:fF}{x:Str}{v:E}{G:Prop}(h:n_ P c x=some v)(a:c.sc.names.lookup x=some .local->getL c.loc x=some v->G)(b:c.sc.names.lookup x=some .cell->getL c.loc x=some v->G)
  (o:c.sc.names.lookup x=some .free->getL c.out x=some v->G) (g:c.sc.names.lookup x=some .globalImplicit->P.glob x=some v->G):G:=by
 delta n_ at h
 revert h
 rcases d:c.sc.names.lookup x with _|k
 ·exact λ h=>bF h
 ·cases k<;>first|exact a d|exact b d|exact o d|exact g d|exact λ h=>bF h
abbrev j5:=fF->Expr->q8
abbrev lG:=fF->Expr->kv
noncomputable def w':Expr->Bool
 |.Call (.Name _ _) [] [] _=>false
 |_=>true
noncomputable def rO:List Expr->Bool
 |[]=>true
 |.Starred _ _::_=>false
 |_::r=>rO r
noncomputable def px(sc:Scope):Bool:=sc.kind==.function&&!sc.isGenerator&&!sc.isCoroutine&&sc.names.all λ s=>s.1 !=(Str.ofString "__debug__")&&s.1 !=(Str.ofString "__classdict__")&&s.1 !=(Str.ofString "__class__")
noncomputable def qb(ev:j5)(c:fF):List Expr->(List E->U->Prop)->U->Prop
 |[],A,e=>A [] e
 |d::r,A,e=>match d with
  |.Starred _ _=>False
  |d=>ev c d (λ v a=>qb ev c r (λ B b=>A (v::B) b) a) e
noncomputable def yN(ev:j5)(c:fF)(a:E):List CmpOp->List Expr->kv
 |[g],[d],A,e=>ev c d (λ b f=>match lM f g a b with|some r=>A r f|none=>False) e
 |g::h::i,d::j::k,A,e=>ev c d (λ b f=>match lM f g a b with
  |some r=>match r with
   |true=>yN ev c b (h::i) (j::k) A f
   |false=>A false f
  |none=>False) e
 |_,_,_,_=>False
noncomputable def yE(ev:j5)(c:fF)(b:BoolOp):List Expr->q8
 |[],_,_=>False
 |[d],A,e=>ev c d A e
 |d::r,A,e=>ev c d (λ v a=>match b,v with
  |.And,.bool false=>A v a
  |.And,.bool true=>yE ev c b r A a
  |.Or,.bool true=>A v a
  |.Or,.bool false=>yE ev c b r A a
  |_,_=>False) e
noncomputable def DW(ev:j5)(c:fF):Option Expr->(Option E->U->Prop)->U->Prop
 |none,A,e=>A none e
 |some d,A,e=>ev c d (λ v a=>A (some v) a) e
noncomputable def w8:Expr->Option Str
 |.Name x _=>some x
 |_=>none
theorem Dy{d:Expr}{x:Str}(h:w8 d=some x):∃s,d=.Name x s:=by
 rcases d with _|_<;>first|exact bF h|(obtain rfl:=dd h;exact⟨_,rfl⟩)
noncomputable def KQ:Option Expr->Option Str
 |some (.Constant (.str x) _ _)=>some x
 |_=>none
set_option tactic.hygienic true in
theorem acP{d:Option Expr}{x:Str}(h:KQ d=some x):∃a b,d=some (.Constant (.str x) a b):=by
 rcases d with _|_
 case none=>exact bF h
 case some d=>(rcases d with _|_;(case Constant k a b=>rcases k with _|_<;>first|exact bF h|(obtain rfl:=dd h;exact cu a b rfl));(all_goals exact bF h))
noncomputable def yU(P:eW)(c:fF):List (Option Expr)->List Expr->Option (List (List Nat)×List E)
 |[],a=>match a with
  |[]=>some ([],[])
  |_=>none
 |k::b,a=>match a with
  |[]=>none
  |d::b1=>(KQ k).bind λ x=>(w8 d).bind λ H=>(n_ P c H).bind λ v=>(yU P c b b1).bind λ s=>if s.1.contains (k4 x) then none else some (k4 x::s.1,v::s.2)
inductive oH(P:eW)(c:fF):List (Option Expr)->List Expr->List (List Nat)->List E->Prop
 |nil:oH P c [] [] [] []
 |cons {x H:Str} {a:Nat} {b s:Pos} {v:E} {rG:List (Option Expr)} {b1:List Expr} {az:List (List Nat)} {B:List E} (aj:n_ P c H=some v) (af:k4 x∉az) (h:oH P c rG b1 az B):oH P c (some (.Constant (.str x) a b)::rG) (.Name H s::b1) (k4 x::az) (v::B)
set_option tactic.hygienic true in
theorem VU{P:eW}{c:fF}{f:List (Option Expr)}:∀{e:List Expr}{az:List (List Nat)}{B:List E},yU P c f e=some (az,B)->oH P c f e az B:=by
 induction f with
 |nil=>
  intro e az B h
  rcases e with _|_
  case nil=>(injection dd h with a0 bL;subst a0 bL);exact .nil
  case cons _ _=>exact bF h
 |cons k n g=>
  intro e az B h
  rcases e with _|_
  case nil=>exact bF h
  case cons d b1=>
   refine a' (gk.mp h) λ x C h=>a' (gk.mp h) λ H I h=>a' (gk.mp h) λ v ag h=>a' (gk.mp h) λ s i h=>bc (DI h) λ j h=>?_
   (injection dd h with a0 bL;subst a0 bL)
   refine EU (acP C) λ a b l=>?_;clear C;subst l
   refine a7 (Dy I) λ q m=>?_;clear I h;subst m
   exact .cons ag (λ D=>j (List.contains_iff_mem.mpr D)) (g i)
noncomputable def C1(eh:lG)(c:fF):List Expr->kv
 |[],A,e=>A true e
 |d::r,A,e=>eh c d (λ b a=>match b with|true=>C1 eh c r A a|false=>A false a) e
noncomputable def uv(d:E->kv)(f:E->q8)(c:U->Prop):List E->List E->(List E->U->Prop)->U->Prop
 |[],a,A,e=>c e/\A a e
 |v::r,a,A,e=>c e/\a.length<=c7/\d v (λ b g=>match b with
  |true=>f v (λ w h=>uv d f c r (a++[w]) A h) g
  |false=>uv d f c r a A g) e
noncomputable def ur(ev:j5)(eh:lG)(c:fF)(x:Str)(ifs:List Expr)(a:Expr)(b:U->Prop):List E->List E->(List E->U->Prop)->U->Prop:=
 uv (λ v=>C1 eh {c with loc:=l8 c.loc x v} ifs) (λ v=>ev {c with loc:=l8 c.loc x v} a) b
noncomputable def mz(sc:Scope)(x:Str):Bool:=match sc.names.lookup x with
 |some .local=>true
 |some .cell=>true
 |_=>false
theorem YE{sc:Scope}{x:Str}{G:Prop}(h:mz sc x=true)(a:sc.names.lookup x=some .local->G)(b:sc.names.lookup x=some .cell->G):G:=by
 delta mz at h
 revert h
 rcases d:sc.names.lookup x with _|k
 ·exact λ h=>cy h
 ·cases k<;>first|exact λ z=>a d|exact λ z=>b d|exact λ h=>cy h
noncomputable def YI:Expr->Bool
 |.Set _ _ _=>true
 |_=>false
noncomputable def uu(c:fF)(sc:Scope)(x:Str)(a:Expr):Bool:=px sc&&sc.names.lookup x==some .local&&!YI a&&sc.names.all λ s=>match s.2 with
 |.cell=>false
 |.local=>sc.names.lookup s.1==some .local
 |.free=>sc.names.lookup s.1==some .free&&c.sc.names.lookup s.1==some .cell&&(getL c.loc s.1).isSome
 |_=>true
noncomputable def aaA(g:Comprehension):Option (Str×Expr×List Expr):=if g.is_async=0 then(w8 g.target).map λ x=>(x,g.iter,g.ifs) else none
noncomputable def DS:List Comprehension->Option (Str×Expr×List Expr)
 |[g]=>aaA g
 |_=>none
set_option tactic.hygienic true in
theorem aaz{gens:List Comprehension}{x:Str}{a:Expr}{ifs:List Expr}(h:DS gens=some (x,a,ifs)):∃s,gens=[⟨.Name x s,a,ifs,0⟩]:=by
 rcases gens with _|_
 case nil=>exact bF h
 case cons g r=>
  rcases r with _|_
  case cons _ _=>exact bF h
  case nil=>
   refine bc (qr (h)) λ c h=>a' (gD.mp h) λ H k d=>a7 (Dy k) λ s k=>?_
   obtain⟨t,b,e,n⟩:=g
   cases c;cases k;cases d
   exact⟨s,rfl⟩
def hQ(v:E)(items:List E)(e:U):Prop:=match v with
 |.ref _=>hx e v=some items
 |_=>True
noncomputable def qv(sc:Scope):Loc:=sc.names.filterMap λ s=>match s.2 with
 |.local=>some (s.1,none)
 |.cell=>some (s.1,none)
 |_=>none
noncomputable def A7:Expr->Option (Expr×Str×Pos)
 |.Attribute p m s=>some (p,m,s)
 |_=>none
noncomputable def Ej:Expr->Option (Option Expr×Option Expr)
 |.Slice l u none _=>some (l,u)
 |_=>none
theorem TL{f p:Expr}{m:Str}{s:Pos}(h:A7 f=some (p,m,s)):f=.Attribute p m s:=by
 rcases f with _|_<;>first|exact bF h|(cases dd h;rfl)
set_option tactic.hygienic true in
theorem ace{i:Expr}{l u:Option Expr}(h:Ej i=some (l,u)):∃s,i=.Slice l u none s:=by
 rcases i with _|_
 case Slice a b c s=>(rcases c with _|_;(case none=>(injection dd h with a0 bL;subst a0 bL);exact⟨s,rfl⟩);(case some _=>exact bF h))
 all_goals exact bF h
def wk(P:eW)(R:dp)(ev:j5)(eh:lG)(c:fF)(d:Expr)(A:bl)(e:U):Prop:=match d with
 |.Constant k _ _=>match k with
  |.none=>A .none e
  |.bool b=>A (.bool b) e
  |.int i=>A (.int i) e
  |.str j=>A (.str (k4 j)) e
  |_=>False
 |.Name x _=>match n_ P c x with
  |some v=>A v e
  |none=>False
 |.BoolOp q n _=>yE ev c q n A e
 |.BinOp l q r _=>ev c l (λ a g=>ev c r (λ b h=>bu q a b A h) g) e
 |.UnaryOp q x _=>ev c x (λ a g=>Lk q a A g) e
 |.IfExp t b p _=>eh c t (λ r g=>match r with|true=>ev c b A g|false=>ev c p A g) e
 |.Dict az n _=>match yU P c az n with
  |some (az,B)=>(az.length=0\/az.length=19)/\A (.ref e.next) (e.alloc (.dict az B))
  |none=>False
 |.List n _=>qb ev c n (λ B g=>B.length<=c7/\A (.ref g.next) (g.alloc (.list B))) e
 |.Tuple n _ _=>qb ev c n (λ B g=>B.length<=c7/\tupK B A g) e
 |.ListComp y gens sc _=>match DS gens with
  |some (x,s,ifs)=>match uu c sc x s with
   |true=>ev c s (λ v g=>match hx g v with
    |some items=>ur ev eh ⟨sc,qv sc,c.loc⟩ x ifs y (hQ v items) items [] (λ B h=>A (.lst B) h) g
    |none=>False) e
   |false=>False
  |none=>False
 |.Compare l C n _=>ev c l (λ a g=>yN ev c a C n (λ b h=>A (.bool b) h) g) e
 |.Call f args D cz=>match D with
  |[]=>match A7 f with
   |some (p,m,E)=>match w' p&&E.endLine==cz.line&&decide (args.length<20)&&rO args with
    |true=>ev c p (λ o g=>match zF P g o m with
     |some cP=>qb ev c args (λ B h=>bY R cP o B A h) g
     |none=>False) e
    |false=>False
   |none=>match rO args with
    |true=>ev c f (λ F g=>qb ev c args (λ B h=>cJ P R F B A h) g) e
    |false=>False
  |_=>False
 |.Attribute p x _=>match w' p with
  |true=>ev c p (λ o g=>a6 o x A g) e
  |false=>False
 |.Subscript p i _=>match Ej i with
  |some (l,u)=>ev c p (λ o g=>DW ev c l (λ G h=>DW ev c u (λ H w=>match pz w o G H with
   |some v=>A v w
   |none=>False) h) g) e
  |none=>ev c p (λ o g=>ev c i (λ I h=>match n8 h o I with
   |some v=>A v h
   |none=>False) g) e
 |_=>False
noncomputable def AY(eh:lG)(c:fF)(a:BoolOp):List Expr->kv
 |[],A,e=>A (a==.And) e
 |d::r,A,e=>eh c d (λ b f=>match a,b with
  |.And,false=>A false f
  |.Or,true=>A true f
  |_,_=>AY eh c a r A f) e
def K5(ev:j5)(eh:lG)(c:fF)(d:Expr)(A:Bool->U->Prop)(e:U):Prop:=match d with
 |.UnaryOp .Not x _=>eh c x (λ b f=>A (!b) f) e
 |.BoolOp h g _=>AY eh c h g A e
 |.IfExp t b p _=>eh c t (λ r f=>match r with|true=>eh c b A f|false=>eh c p A f) e
 |.Compare l i g _=>ev c l (λ a f=>yN ev c a i g A f) e
 |d=>ev c d (λ v f=>match v with|.bool b=>A b f|_=>False) e
noncomputable def BS(P:eW)(R:dp):Nat->j5×lG
 |0=>(λ z z z z=>False,λ z z z z=>False)
 |n+1=>let s:=BS P R n;(wk P R s.1 s.2,K5 s.1 s.2)
noncomputable def ev(P:eW)(R:dp)(n:Nat):j5:=(BS P R n).1
noncomputable def eh(P:eW)(R:dp)(n:Nat):lG:=(BS P R n).2
noncomputable def sA(sc:Scope):List Expr->List E->Loc->Option Loc
 |[],B,ak=>match B with|[]=>some ak|_::_=>none
 |d::a,B,ak=>match B with
  |[]=>none
  |v::B=>(w8 d).bind λ x=>match mz sc x with
   |true=>sA sc a B (l8 ak x v)
   |false=>none
def p3(P:eW)(R:dp)(sc:Scope)(t:Expr)(v:E)(ak:Loc)(K:Loc->U->Prop)(e:U):Prop:=match t with
 |.Name x _=>match mz sc x with
  |true=>K (l8 ak x v) e
  |false=>False
 |.Attribute p x _=>ev P R 40 ⟨sc,ak,[]⟩ p (λ a b=>cL a x v (K ak) b) e
 |.Subscript p i _=>ev P R 40 ⟨sc,ak,[]⟩ p (λ a b=>ev P R 40 ⟨sc,ak,[]⟩ i (λ c d=>gM a c v (K ak) d) b) e
 |.Tuple f _ _=>match v with
  |.tup B=>match sA sc f B ak with
   |some g=>K g e
   |none=>False
  |_=>False
 |_=>False
noncomputable def tc(d:Loc->kv)(body:Loc->ej->U->Prop):Nat->Loc->ej->U->Prop
 |0,_,_,_=>False
 |k+1,ak,K,e=>d ak (λ b f=>match b with
  |true=>body ak (λ fl a c=>match fl with
   |.next=>tc d body k a K c
   |.cont=>tc d body k a K c
   |.brk=>K .next a c
   |.ret v=>K (.ret v) a c) f
  |false=>K .next ak f) e
noncomputable def o2(d:E->Loc->(Loc->U->Prop)->U->Prop)(body:Loc->ej->U->Prop)(a:U->Prop):List E->Loc->ej->U->Prop
 |[],ak,K,e=>a e/\K .next ak e
 |v::r,ak,K,e=>a e/\d v ak (λ f g=>body f (λ fl b c=>match fl with
  |.next=>o2 d body a r b K c
  |.cont=>o2 d body a r b K c
  |.brk=>K .next b c
  |.ret w=>K (.ret w) b c) g) e
noncomputable def m1(ex:Stmt->Loc->ej->U->Prop):List Stmt->Loc->ej->U->Prop
 |[],ak,K,e=>K .next ak e
 |j::r,ak,K,e=>ex j ak (λ fl a M=>match fl with
  |.next=>m1 ex r a K M
  |fl=>K fl a M) e
noncomputable def zp:Expr->Bool
 |.ListComp _ _ _ _=>true
 |.SetComp _ _ _ _=>true
 |.DictComp _ _ _ _ _=>true
 |_=>false
noncomputable def IT:Expr->Bool
 |.Slice _ _ _ _=>true
 |_=>false
noncomputable def u0:Expr->Bool
 |.Tuple _ _ _=>true
 |.List _ _=>true
 |_=>false
def G_(P:eW)(R:dp)(sc:Scope)(ex:Stmt->Loc->ej->U->Prop)(j:Stmt)(ak:Loc)(K:ej)(e:U):Prop:=match j with
 |.Expr d _=>match zp d with
  |false=>ev P R 40 ⟨sc,ak,[]⟩ d (λ z c=>K .next ak c) e
  |true=>False
 |.Pass _=>K .next ak e
 |.Break _=>K .brk ak e
 |.Continue _=>K .cont ak e
 |.Return none _=>K (.ret .none) ak e
 |.Return (some d) _=>ev P R 40 ⟨sc,ak,[]⟩ d (λ v c=>K (.ret v) ak c) e
 |.Assign [t] d _=>match u0 t&&u0 d with
  |false=>ev P R 40 ⟨sc,ak,[]⟩ d (λ v c=>p3 P R sc t v ak (λ o f=>K .next o f) c) e
  |true=>False
 |.AugAssign (.Name x _) g d _=>match mz sc x,n_ P ⟨sc,ak,[]⟩ x with
  |true,some a=>ev P R 40 ⟨sc,ak,[]⟩ d (λ b c=>eR g a b (λ r f=>K .next (l8 ak x r) f) c) e
  |_,_=>False
 |.AugAssign (.Attribute p x _) g d _=>ev P R 40 ⟨sc,ak,[]⟩ p (λ h c=>a6 h x (λ a f=>ev P R 40 ⟨sc,ak,[]⟩ d (λ b l=>eR g a b (λ r m=>cL h x r (K .next ak) m) l) f) c) e
 |.AugAssign (.Subscript p i _) g d _=>match IT i with
  |false=>ev P R 40 ⟨sc,ak,[]⟩ p (λ h c=>ev P R 40 ⟨sc,ak,[]⟩ i (λ n f=>match n8 f h n with
   |some a=>ev P R 40 ⟨sc,ak,[]⟩ d (λ b l=>eR g a b (λ r m=>gM h n r (K .next ak) m) l) f
   |none=>False) c) e
  |true=>False
 |.If t b p _=>eh P R 40 ⟨sc,ak,[]⟩ t (λ r c=>match r with|true=>m1 ex b ak K c|false=>m1 ex p ak K c) e
 |.While t b [] _=>∃k,tc (λ ak=>eh P R 40 ⟨sc,ak,[]⟩ t) (m1 ex b) k ak K e
 |.For t q b [] _=>ev P R 40 ⟨sc,ak,[]⟩ q (λ v c=>match hx c v with
  |some items=>o2 (p3 P R sc t) (m1 ex b) (hQ v items) items ak K c
  |none=>False) e
 |_=>False
noncomputable def ex(P:eW)(R:dp)(sc:Scope):Nat->Stmt->Loc->ej->U->Prop
 |0=>λ z z z z=>False
 |n+1=>G_ P R sc (ex P R sc n)
noncomputable def vr:List Str->List E->Loc->Loc
 |x::ai,v::B,ak=>vr ai B (l8 ak x v)
 |_,_,ak=>ak
noncomputable def ou(n:Nat)(B fI:List E):List E:=B++fI.drop (B.length+fI.length-n)
noncomputable def Run(P:eW):Nat->dp
 |0,_,_,_,_=>False
 |n+1,k,B,A,e=>match P.fn k with
  |none=>False
  |some o=>match(ou o.params.length B o.defaults).length==o.params.length&&decide (B.length<=o.params.length) with
   |false=>False
   |true=>m1 (ex P (Run P n) o.scope 12) o.body (vr o.params (ou o.params.length B o.defaults) (qv o.scope)) (λ fl z M=>match fl with
    |.ret v=>A v M
    |.next=>A .none M
    |_=>False) e
section
variable{G gZ:Prop}
theorem aau{p:Option q0}{b:q0->Bool}{F:q0->Prop}{G:Prop}(h:match p with|none=>False|some o=>match b o with|false=>False|true=>F o)(f:∀o,p=some o->b o=true->F o->G):G:=by
 rcases p with _|o
 ·exact h.elim
 ·revert h
  show(match b o with|false=>False|true=>F o)->G
  have:=f o rfl
  revert this
  rcases b o with _|_
  ·exact λ z=>False.elim
  ·exact λ q=>q rfl
set_option tactic.hygienic true
theorem xj{p:Option E}{F:E->Prop}(h:match p with|some v=>F v|none=>False)(k:∀v,p=some v->F v->G):G:=by
 rcases p with _|_
 case some v=>exact k v rfl h
 case none=>exact h.elim
theorem aaL{p:Option (List (List Nat)×List E)}{F:List (List Nat)->List E->Prop}(h:match p with|some (az,B)=>F az B|none=>False)(k:∀az B,p=some (az,B)->F az B->G):G:=by
 rcases p with _|_
 case some s=>exact k _ _ rfl h
 case none=>exact h.elim
set_option tactic.hygienic false
theorem xN{b:Bool}(h:match b with|true=>gZ|false=>False)(k:b=true->gZ->G):G:=by
 rcases b with _|_
 case true=>exact k rfl h
 case false=>exact h.elim
theorem BW{b:Bool}(h:match b with|false=>gZ|true=>False)(k:b=false->gZ->G):G:=by
 rcases b with _|_
 case false=>exact k rfl h
 case true=>exact h.elim
end
end
end
end
section
open PySem (Str Scope NameKind BoolOp Operator UnaryOp CmpOp Const Stmt Comprehension Pos Program Expr)
noncomputable def K1:List Stmt:=PySem.Challenge.pw_nz0206_01.main.body
noncomputable def Et(fI:List E):Stmt->Option q0
 |.FunctionDef name args body _ _ _ sc _ _ _=>some ⟨name,args.args.map (·.arg),fI,body,sc⟩
 |_=>none
theorem acL{fI:List E}{j:Stmt}{o:q0}(h:Et fI j=some o):∃a b c x H D f g i y,j=.FunctionDef a b c x H D f g i y/\o=⟨a,b.args.map (·.arg),fI,c,f⟩:=by
 rcases j with _|_<;>first|exact bF h|exact⟨_,_,_,_,_,_,_,_,_,_,rfl,(dd h).symm⟩
noncomputable def Vo:Stmt->List Stmt
 |.ClassDef _ _ _ b _ _ _ _ _ _ _=>b
 |_=>[]
noncomputable def iS:List (Nat×Nat):=[(7,120),(8,127),(9,134),(10,141),(11,146),(12,153),(13,160),(14,167),(15,174),(18,202),(19,209),(20,216),(21,223),(22,230),(23,237),(24,244),(25,251),(26,258),(27,265),(28,272),(29,279),(30,286),(31,293),(32,300),(33,307),(34,312),(35,319),(36,326),(37,333),(38,340),(39,347),(40,354),(41,361),(42,368),(43,375),(44,382),(51,468),(52,475),(53,482),(54,489),(55,496),(56,503),(57,510),(65,553),(66,560),(67,567),(70,586),(72,598),(73,605),(74,612),(75,619),(76,626),(81,637),(82,644),(83,651),(84,656),(85,661),(86,668),(87,675),(88,682),(89,689),(90,694),(96,710),(97,715),(98,722),(99,729),(100,736),(101,743),(102,750),(103,757),(104,764),(105,771),(106,778),(107,785),(108,790),(110,797),(112,804),(113,811),(114,818),(115,823),(116,828),(117,833),(118,838),(119,843),(120,850),(121,857),(122,864),(123,871),(124,876),(125,881),(126,886),(1170,188),(1460,397),(1490,419),(1500,440),(1501,447),(1502,454),(1640,525),(1641,532),(1642,539)]
noncomputable def kd:List (Nat×Nat):=[(17,191),(46,400),(49,422),(50,457),(64,542)]
noncomputable def xA(k:Nat):Option Stmt:=if k<1000 then K1[k]? else(K1[(k-1000)/10]?).bind λ j=>(Vo j)[(k-1000)%10]?
noncomputable def EB(k:Nat):Option q0:=(iS.lookup k).bind λ z=>(xA k).bind (Et (if k=1460 then[.int 64,.int 50,.int 1000000,.int 100000,.int 10000] else[]))
noncomputable def Aj(c:Nat):Option Nat:=if c=17\/c=46\/c=49\/c=50\/c=64 then some (1000+10*c) else none
noncomputable def Ak(c:Nat)(x:Str):Option Nat:=
 if c=50 then(if x==iu then some 1501 else if x==qQ then some 1502 else none)
 else if c=64 then(if x==mG then some 1641 else if x==hB then some 1642 else none)
 else none
noncomputable def S(x:String):E:=.str (k4 (Str.ofString x))
noncomputable def defNames:List (String×Nat):=[("is_word_sign",7),("in_class",8),("other_case",9),("same_sign",10),("posix_items",11),("item_holds",12),("items_hold",13),("set_holds",14),("sign_fits",15),
 ("set_register",18),("go_on",19),("row_test",20),("run_end",21),("row_run",22),("place_holds",23),("row_at",24),("row_back",25),("row_open",26),("row_close",27),("row_jump",28),("row_split",29),("row_zero",30),
 ("row_loop",31),("row_again",32),("row_mark",33),("row_cut",34),("undo_entry",35),("row_refuse",36),("row_place",37),("row_return",38),("row_behind",39),("row_words",40),("take_more",41),("back_up",42),("match_from",43),
 ("search_pattern",44),("add_node",51),("add_branches",52),("add_atomic",53),("add_repeats",54),("add_loop",55),("add_look",56),("compile_tree",57),("run_of",65),("number_of_run",66),("until_sign",67),
 ("read_plain_escape",70),("read_posix",72),("read_member",73),("is_one_sign",74),("read_range_end",75),("read_set",76),("count_groups",81),("behind_set",82),("opens_capture",83),("is_name_text",84),("braces_count",85),("take_count",86),
 ("speak_of",87),("read_named_back",88),("read_numbered_back",89),("width_of",90),("skip_unseen",96),("read_flags",97),("read_inline",98),("read_alternation",99),("read_branch",100),("read_atom",101),("read_counted",102),
 ("read_inner",103),("read_capture",104),("read_look",105),("read_group",106),("read_escape",107),("parse_pattern",108),("compile_pattern",110),("_law_ones",112),("_law_counts",113),("_law_draw",114),("_law_wide",115),("_law_node",116),
 ("_law_row",117),("_law_spelt",118),("_law_once",119),("_law_rounds",120),("_law_same",121),("_law_place",122),("_law_set",123),("_law_look",124),("_law_ways",125)]
noncomputable def GB:List (String×Nat):=[("MatchRun",17),("Limits",46),("Program",49),("RowMaker",50),("PatternText",64)]
noncomputable def constNames:List (String×E):=[("BLANKS",S " \t\n\r\x0c\x0b"),("ONE_SIGN",.tup [S "sign",S "any",S "set"]),("OCTAL_FIGURES",S "01234567"),("HEX_FIGURES",S "0123456789abcdef"),("CLASS_LETTERS",S "dDwWsShHvV"),("MOST_CODE",.int 1114111),
 ("FIGURES",S "0123456789"),("MOST_COUNT",.int 32766),("COUNT_SIGNS",.dct [[42],[43],[63]] [.tup [.int 0,.int (-1)],.tup [.int 1,.int (-1)],.tup [.int 0,.int 1]]),("FLAG_LETTERS",S "imsx"),("MOST_NESTED",.int 40),
 ("LOOKS",.lst [.tup [S "(?=",.bool false,.bool false],.tup [S "(?!",.bool false,.bool true],.tup [S "(?<=",.bool true,.bool false],.tup [S "(?<!",.bool true,.bool true]]),
 ("NAME_SIGNS",.lst [.tup [S "(?<",S ">"],.tup [S "(?P<",S ">"],.tup [S "(?'",S "'"]]),
 ("len",.bi .len),("ord",.bi .ord),("chr",.bi .chr),("max",.bi .max),("min",.bi .min),("sum",.bi .sum),("range",.typ .range),("str",.typ .str),("list",.typ .list)]
noncomputable def EC:List (Str×E):=(defNames.map λ s=>(Str.ofString s.1,E.fn s.2))++(GB.map λ s=>(Str.ofString s.1,E.cls s.2))++constNames.map λ s=>(Str.ofString s.1,s.2)
noncomputable def cp:eW:=⟨λ x=>EC.lookup x,EB,Aj,Ak⟩
abbrev call(n:Nat):dp:=Run cp n
end
section
open PySem PySem.W PySem.Calls PyProof.Rows
noncomputable def xM(ok:Thread->Bool)(st:SharedT->Thread->Option (SharedT×Thread)):Nat->SharedT->Thread->Option SharedT
 |0,_,_=>none
 |n+1,j,t=>match through t with
  |true=>some j
  |false=>match ok t with
   |false=>none
   |true=>match st j t with
    |some (a,b)=>xM ok st n a b
    |none=>none
theorem adw{ok:Thread->Bool}{st:SharedT->Thread->Option (SharedT×Thread)}{n:Nat}{j:SharedT}{t:Thread}:xM ok st (n+1) j t=match through t with|true=>some j|false=>match ok t with|false=>none|true=>match st j t with|some (a,b)=>xM ok st n a b|none=>none:=rfl
theorem K2{hC:String->Option Builtin}{s:Program}{w:World}{c:Nat}{d:Option Value}:∀{n:Nat}{j a:SharedT}{t:Thread},xM (stepOk c d) (stepT (denote hC) s w) n j t=some a->topRun hC s w c d n j.abs t=some a.abs
 |0,_,_,_,h=>by cases h
 |n+1,j,a,t,h=>by
  rw[adw] at h
  unfold topRun
  rcases cZ:through t with _|_
  case true=>rw[cZ] at h;obtain rfl:=ck h;rfl
  case false=>
   have h:=cZ▸h
   rcases e:stepOk _ _ t with _|_
   case false=>have h:=e▸h;cases h
   case true=>
    have h:=e▸h
    rcases b:stepT _ s w j t with _|_
    case none=>have h:=b▸h;cases h
    case some r=>rw[b] at h;exact stepT_spec b▸K2 h
noncomputable def ED:Nat->List Obj->Nat->Nat->BT
 |0,_,_,_=>.nil
 |k+1,l,a,b=>match l[b]? with
  |some p=>.node p (ED k l (2*a) (a+b)) (ED k l (2*a) (2*a+b))
  |none=>.nil
abbrev hO:Program:=PySem.Challenge.pw_nz0206_01
noncomputable def Gj(w:World)(os:OsState):SharedT:=⟨ED 12 (boot_heap w.params).objs.toList 1 0,11,(boot_heap w.params).life,#[],boot_drawn,boot_toks,os⟩
theorem U6(w:World)(os:OsState):(Gj w os).abs=⟨boot_heap w.params,#[],boot_drawn,boot_toks,os⟩:=by kernel_rfl
noncomputable def vC(w:World)(os:OsState):Option SharedT:=
 xM (PySem.W.Fast.tw6613529449190102663 11 (some (.ref 6))) (PySem.W.Fast.tw10156331382660048174 (PySem.W.Fast.tw11892475500146522536 PySem.W.Fast.tw14364793385576792824) hO w) 5660 (Gj w os) (topStub hO)
theorem adv{w:World}{os:OsState}{j:SharedT}(h:vC w os=some j):topRun treeTable hO w 11 (some (.ref 6)) 5660 ⟨boot_heap w.params,#[],boot_drawn,boot_toks,os⟩ (topStub hO)=some j.abs:=by
 unfold vC at h
 rw[<-PySem.W.Fast.te6613529449190102663,<-PySem.W.Fast.te10156331382660048174,<-PySem.W.Fast.te11892475500146522536,<-PySem.W.Fast.te14364793385576792824] at h
 rw[<-U6]
 exact K2 h
noncomputable def rV:Program:=view hO [126]
noncomputable def w5:List Str:=(hO.main.scope.names.map (·.1)).dropLast
theorem Ju:importedModules hO.main.body=[]:=by kernel_rfl
noncomputable def Jk(w:World)(j:Shared):=(staticsOk [] (boot_heap w.params) j.heap&&namesBound hO j.heap&&gensDone j&&laidKept (boot_heap w.params) j.heap,PySem.W.Fast.tw4187177175401517315 rV w5 [] (λ z=>true) true j)
section
structure c5 where
 jr:Nat->Addr
 ca:Nat->Addr
 prog:Program
 w:World
 h₀:Heap
 gens:Array GenState
 os:OsState
 cls:Nat->Prop
structure bf where
 F:Addr->Option Obj
 G:Addr->Option Obj
 adr:Nat->Addr
 fq:Nat->Addr
 n:Nat
noncomputable def strOf(j:List Nat):Str:=⟨j.toArray⟩
abbrev c5.knd(T:c5):KeyKind T.prog T.w Str:=strKind T.prog T.w
noncomputable def pQ:List Str->List DictEntry->Prop
 |[],[]=>True
 |k::az,d::a=>(∃t,d.key=.str k t)/\pQ az a
 |_,_=>False
mutual
noncomputable def RelV(T:c5)(W:bf):E->Value->Prop
 |.none,x=>x=.none
 |.bool b,x=>x=.bool b
 |.int i,x=>∃t,x=.int i t
 |.str j,x=>∃t,x=.str (strOf j) t
 |.tup B,x=>∃a items cf,x=.ref a/\W.F a=some {cls:=.type "tuple",data:=.seq items cf}/\bK T W B items.toList
 |.lst B,x=>∃a items cf,x=.ref a/\W.F a=some {cls:=.type "list",data:=.seq items cf}/\bK T W B items.toList
 |.dct az B,x=>∃a p d,x=.ref a/\(a==sysModules)=false/\W.F a=some p/\p.IsDictOf T.knd d/\d.map (·.1)=az.map strOf/\bK T W B (d.map (·.2))
 |.rng a b c,x=>∃r e hC f,x=.ref r/\W.F r=some {cls:=.type "range",data:=.fields #[.int a e,.int b hC,.int c f]}
 |.ref i,x=>i<W.n/\x=.ref (W.adr i)
 |.fn k,x=>x=.ref (T.jr k)
 |.cls c,x=>x=.ref (T.ca c)
 |.bi b,x=>x=.builtin b.name/\handedIn x=true
 |.typ t,x=>x=.type t.name
noncomputable def bK(T:c5)(W:bf):List E->List Value->Prop
 |[],[]=>True
 |v::B,x::ai=>RelV T W v x/\bK T W B ai
 |_,_=>False
end
structure dc(fr:Addr->Prop)(W aO:bf):Prop where
 F:∀a p,W.F a=some p->aO.F a=some p
 G:∀a,¬fr a->aO.G a=W.G a
 n:W.n<=aO.n
 adr:∀i,i<W.n->aO.adr i=W.adr i
abbrev gA:=dc (λ z=>False)
theorem dc.refl(fr:Addr->Prop)(W:bf):dc fr W W:=⟨λ z z h=>h,λ z z=>rfl,bw _,λ z z=>rfl⟩
theorem dc.trans{fr:Addr->Prop}{W aO c:bf}(a:dc fr W aO)(b:dc fr aO c):dc fr W c:=
 ⟨λ x p h=>b.F x p (a.F x p h),λ x h=>(b.G x h).trans (a.G x h),ah a.n b.n,λ i h=>(b.adr i (d7 h a.n)).trans (a.adr i h)⟩
theorem dc.mono{fr b:Addr->Prop}{W aO:bf}(a:dc fr W aO)(h:∀x,fr x->b x):dc b W aO:=⟨a.F,λ x c=>a.G x λ H=>c (h x H),a.n,a.adr⟩
theorem dc.wide{fr:Addr->Prop}{W aO:bf}(a:gA W aO):dc fr W aO:=a.mono λ z h=>h.elim
set_option tactic.hygienic true
theorem bK.ind{T:c5}{W:bf}{bh:List E->List Value->Prop}(nil:bh [] [])(cons:∀v x B ai,RelV T W v x->bK T W B ai->bh B ai->bh (v::B) (x::ai)){B:List E}:∀{ai:List Value},bK T W B ai->bh B ai:=by
 induction B with
 |nil=>intro ai h;(rcases ai with _|_;(case nil=>exact nil);(case cons _ _=>exact h.elim))
 |cons v B a=>intro ai h;(rcases ai with _|_;(case nil=>exact h.elim);(case cons x ai=>exact cons v x B ai h.1 h.2 (a h.2)))
theorem RelV.mono{T:c5}{W aO:bf}(d:∀a p,W.F a=some p->aO.F a=some p)(Y:W.n<=aO.n)(e:∀i,i<W.n->aO.adr i=W.adr i)(v:E):∀x,RelV T W v x->RelV T aO v x:=by
 refine E.rec (motive_2:=λ B=>∀ai,bK T W B ai->bK T aO B ai) ?_ ?_ ?_ ?_ ?_ ?_ ?_ ?_ ?_ ?_ ?_ ?_ ?_ ?_ ?_ v
 ·exact λ z h=>h
 ·exact λ z z h=>h
 ·exact λ z z h=>h
 ·exact λ z z h=>h
 ·intro B b x h;exact fg h λ a items cf C I c=>gw a items cf ⟨C,d _ _ I,b _ c⟩
 ·intro B b x h;exact fg h λ a items cf C I c=>gw a items cf ⟨C,d _ _ I,b _ c⟩
 ·intro az B b x h;exact r7 h λ a p f C g I ag c j=>gw a p f ⟨C,g,d _ _ I,ag,c,b _ j⟩
 ·intro _ _ _ x h;exact AB h λ r k hC l C I=>hZ r k hC l ⟨C,d _ _ I⟩
 ·exact λ i x h=>⟨d7 h.1 Y,h.2.trans (bA _ (e i h.1).symm)⟩
 ·exact λ z z h=>h
 ·exact λ z z h=>h
 ·exact λ z z h=>h
 ·exact λ z z h=>h
 ·intro ai h;(rcases ai with _|_;(case nil=>exact h);(case cons _ _=>exact h.elim))
 ·intro v B m o ai h;(rcases ai with _|_;(case nil=>exact h.elim);(case cons x ai=>exact⟨m x h.1,o ai h.2⟩))
set_option tactic.hygienic false
theorem bK.mono{T:c5}{W aO:bf}(b:∀a p,W.F a=some p->aO.F a=some p)(Y:W.n<=aO.n)(c:∀i,i<W.n->aO.adr i=W.adr i)(B:List E)(ai:List Value)(h:bK T W B ai):bK T aO B ai:=
 h.ind trivial λ v x z z r z d=>⟨RelV.mono b Y c v x r,d⟩
theorem RelV.le{T:c5}{fr:Addr->Prop}{W aO:bf}{v:E}{x:Value}(h:RelV T W v x)(l:dc fr W aO):RelV T aO v x:=RelV.mono l.F l.n l.adr v x h
theorem bK.le{T:c5}{fr:Addr->Prop}{W aO:bf}{v:List E}{x:List Value}(h:bK T W v x)(l:dc fr W aO):bK T aO v x:=bK.mono l.F l.n l.adr v x h
section
variable{T:c5}{W:bf}{B:List E}{ai:List Value}
theorem bK.length(h:bK T W B ai):B.length=ai.length:=h.ind (bh:=λ B ai=>B.length=ai.length) rfl λ z z z z z z=>bA _
theorem bK.append{aV:List E}{dr:List Value}(h:bK T W B ai)(k:bK T W aV dr):bK T W (B++aV) (ai++dr):=h.ind (bh:=λ B ai=>bK T W (B++aV) (ai++dr)) k λ z z z z r z a=>⟨r,a⟩
set_option tactic.hygienic true
theorem bK.get{i:Nat}{v:E}(h:bK T W B ai):B[i]?=some v->∃x,ai[i]?=some x/\RelV T W v x:=by
 refine h.ind (bh:=λ B ai=>∀i,B[i]?=some v->∃x,ai[i]?=some x/\RelV T W v x) (λ z=>bF) (λ w x aV dr r z a i d=>?_) i
 rcases i with _|_
 case zero=>exact⟨x,rfl,rwr (dd d) r⟩
 case succ i=>exact a i d
theorem bK.set{i:Nat}{v:E}{x:Value}(h:bK T W B ai)(r:RelV T W v x):bK T W (B.set i v) (ai.set i x):=by
 refine h.ind (bh:=λ B ai=>∀i,bK T W (B.set i v) (ai.set i x)) (λ z=>trivial) (λ w H aV dr k az a i=>?_) i
 rcases i with _|_
 case zero=>exact⟨r,az⟩
 case succ i=>exact⟨k,a i⟩
theorem bK.drop(k:Nat)(h:bK T W B ai):bK T W (B.drop k) (ai.drop k):=by
 refine h.ind (bh:=λ B ai=>∀k,bK T W (B.drop k) (ai.drop k)) λ k=>by rcases k with _|_<;>trivial (λ w H aV dr r a b k=>?_) k
 rcases k with _|_
 case zero=>exact⟨r,a⟩
 case succ k=>exact b k
theorem bK.take(k:Nat)(h:bK T W B ai):bK T W (B.take k) (ai.take k):=by
 refine h.ind (bh:=λ B ai=>∀k,bK T W (B.take k) (ai.take k)) λ k=>by rcases k with _|_<;>trivial (λ w H aV dr r b a k=>?_) k
 rcases k with _|_
 case zero=>trivial
 case succ k=>exact⟨r,a k⟩
set_option tactic.hygienic false
end
noncomputable def kW:dk->Prop
 |.flist _=>False
 |_=>True
noncomputable def mP(T:c5)(W:bf)(h:Heap)(i:Nat):dk->Prop
 |.list B=>W.fq i=W.adr i/\∃items cf,h.get? (W.adr i)=some {cls:=.type "list",data:=.seq items cf}/\bK T W B items.toList
 |.flist B=>∃items cf,W.F (W.adr i)=some {cls:=.type "list",data:=.seq items cf}/\bK T W B items.toList
 |.dict az B=>W.fq i=W.adr i/\∃p a,h.get? (W.adr i)=some p/\p.IsDictOf T.knd a/\a.map (·.1)=az.map strOf/\bK T W B (a.map (·.2))
 |.inst c az B=>(T.cls c/\∀k∈az,pj k=true)/\W.F (W.adr i)=some (instObj (T.ca c) (W.fq i))/\∃p b cf,h.get? (W.fq i)=some p/\p.cls=.type "dict"/\p.data=.dict b cf/\pQ az b.toList/\bK T W B (b.toList.map (·.val))
structure Inv(T:c5)(W:bf)(e:U)(j:Shared):Prop where
 fA:∀a p,W.F a=some p->j.heap.get? a=some p
 gq:∀a p,W.G a=some p->j.heap.get? a=some p
 apart:∀a p,W.G a=some p->W.F a=none
 base:∀a p,T.h₀.get? a=some p->W.F a=some p
 n:W.n=e.next
 lt:∀i p,e.get i=some p->i<e.next
 obj:∀i p,e.get i=some p->mP T W j.heap i p
 free:∀i p,e.get i=some p->kW p->W.F (W.fq i)=none/\W.G (W.fq i)=none
 inj:∀i y p fs,e.get i=some p->e.get y=some fs->kW p->kW fs->i≠y->W.fq i≠W.fq y
 gens:j.gens=T.gens
 os:j.os=T.os
end
section
section
variable{T:c5}{W:bf}{e:U}{j:Shared}
theorem mP.keeps{h a:Heap}{i:Nat}{p:dk}(r:mP T W h i p)(k:kW p->∀x,h.get? (W.fq i)=some x->a.get? (W.fq i)=some x):mP T W a i p:=by
 rcases p with _|_
 case list=>exact pH r λ d items cf C I=>⟨d,items,cf,(rwr d (k trivial _ (rwl d C))),I⟩
 case flist=>exact r
 case dict=>exact pH r λ d p b C I=>⟨d,p,b,(rwr d (k trivial _ (rwl d C))),I⟩
 case inst=>exact Ax r λ g d p c cf C I=>⟨g,d,p,c,cf,k trivial _ C,I⟩
theorem mP.le{fr:Addr->Prop}{aO:bf}{h:Heap}{i:Nat}(l:dc fr W aO)(a:aO.adr i=W.adr i)(b:aO.fq i=W.fq i){p:dk}(r:mP T W h i p):mP T aO h i p:=by
 rcases p with _|_
 case list=>exact pH r λ d items cf C I=>⟨by rw[a,b,d],items,cf,rwl a C,I.le l⟩
 case flist=>exact fC r λ items cf C I=>cu items cf ⟨rwl a (l.F _ _ C),I.le l⟩
 case dict=>exact Az r λ d p e C I c ag=>⟨by rw[a,b,d],p,e,rwl a C,I,c,ag.le l⟩
 case inst=>exact LD r λ g d p f cf C I ag c j=>⟨g,by rw[a,b];exact l.F _ _ d,p,f,cf,rwl b C,I,ag,c,j.le l⟩
theorem Inv.grow(Q:Inv T W e j){c:Heap}{tk:Nat}(k:∀b p,j.heap.get? b=some p->c.get? b=some p):Inv T W e {j with heap:=c,toks:=tk}:=
 ⟨λ a p d=>k a p (Q.fA a p d),λ a p d=>k a p (Q.gq a p d),Q.apart,Q.base,Q.n,Q.lt,λ i p d=>(Q.obj i p d).keeps λ z=>k _,Q.free,Q.inj,Q.gens,Q.os⟩
theorem Inv.tok(Q:Inv T W e j){tk:Nat}:Inv T W e {j with toks:=tk}:=Q.grow λ z z d=>d
theorem Inv.push(Q:Inv T W e j)(p:Obj){tk:Nat}:Inv T W e {j with heap:=j.heap.push p,toks:=tk}:=Q.grow λ z z=>Heap.get?_push_of_some _
set_option tactic.hygienic true
theorem Inv.tf(Q:Inv T W e j):W.F j.heap.objs.size=none:=by
 rcases d:W.F _ with _|_
 case none=>rfl
 case some p=>exact((Nat.lt_irrefl _) (Heap.lt_size (Q.fA _ _ d))).elim
theorem Inv.tg(Q:Inv T W e j):W.G j.heap.objs.size=none:=by
 rcases d:W.G _ with _|_
 case none=>rfl
 case some p=>exact((Nat.lt_irrefl _) (Heap.lt_size (Q.gq _ _ d))).elim
set_option tactic.hygienic false
theorem mP.at{h:Heap}{i:Nat}{p:dk}(r:mP T W h i p)(m:kW p):∃x,h.get? (W.fq i)=some x:=by
 rcases p with _|_
 case list=>exact pH r λ d z z C z=>⟨_,rwl d C⟩
 case flist=>exact m.elim
 case dict=>exact pH r λ d z z C z=>⟨_,rwl d C⟩
 case inst=>exact Ax r λ z z z z z C z=>⟨_,C⟩
theorem Inv.vc(Q:Inv T W e j){i:Nat}{p:dk}(d:e.get i=some p)(m:kW p):W.fq i<j.heap.objs.size:=a7 ((Q.obj i p d).at m) λ x=>Heap.lt_size
noncomputable def bf.kY(W:bf)(a:Addr)(p:Obj):bf:={W with F:=λ b=>if b=a then some p else W.F b}
theorem bf.yt(fr:Addr->Prop)(W:bf)(a:Addr)(p:Obj)(h:W.F a=none\/W.F a=some p):dc fr W (W.kY a p):=by
 refine⟨λ b x d=>?_,λ z z=>rfl,bw _,λ z z=>rfl⟩
 show(if b=a then some p else W.F b)=some x
 split
 ·rename_i q;subst q;rcases h with h|h
  ·have d:=h▸d;cases d
  ·rw[<-h,d]
 ·exact d
theorem Inv.kY(Q:Inv T W e j){a:Addr}{p:Obj}(c:j.heap.get? a=some p)(f:W.F a=none)(g:W.G a=none)(h:∀i x,e.get i=some x->kW x->W.fq i≠a):Inv T (W.kY a p) e j:=by
 have l:=bf.yt (λ z=>False) W a p (.inl f)
 refine⟨λ b x d=>?_,Q.gq,λ b x d=>?_,λ b x d=>l.F _ _ (Q.base b x d),Q.n,Q.lt,λ i x d=>(Q.obj i x d).le l rfl rfl,λ i x d m=>⟨?_,(Q.free i x d m).2⟩,Q.inj,Q.gens,Q.os⟩
 ·have d:(if b=a then some p else W.F b)=some x:=d
  split at d
  ·rename_i q;obtain rfl:=ck d;exact rwl q c
  ·exact Q.fA b x d
 ·show(if b=a then some p else W.F b)=none
  rw[a8]
  ·exact Q.apart b x d
  ·intro q;clear c f l;subst q;have d:=d;have d:=g▸d;cases d
 ·show(if W.fq i=a then some p else W.F _)=none
  rw[a8 (h i x d m)]
  exact(Q.free i x d m).1
theorem Inv.z1(Q:Inv T W e j)(p:Obj)(a:p.isFreed=false){tk:Nat}:Inv T (W.kY j.heap.objs.size p) e {j with heap:=j.heap.push p,toks:=tk}/\gA W (W.kY j.heap.objs.size p):=⟨Q.push p (tk:=tk).kY (q' _ a) Q.tf Q.tg λ i x d m=>e' (Q.vc d m),bf.yt _ W _ p (.inl Q.tf)⟩
noncomputable def bf.eT(W:bf)(a:Addr)(p:Option Obj):bf:={W with G:=λ b=>if b=a then p else W.G b}
theorem bf.gx(W:bf)(a:Addr)(p:Option Obj):dc (·=a) W (W.eT a p):=
 ⟨λ z z d=>d,λ b h=>a8 h,bw _,λ z z=>rfl⟩
theorem RelV.eT{a:Addr}{p:Option Obj}{v:E}{x:Value}(h:RelV T W v x):RelV T (W.eT a p) v x:=h.le (bf.gx W a p)
theorem bK.eT{a:Addr}{p:Option Obj}{v:List E}{x:List Value}(h:bK T W v x):bK T (W.eT a p) v x:=h.le (bf.gx W a p)
theorem Inv.eT(Q:Inv T W e j){a:Addr}{p:Obj}(c:j.heap.get? a=some p)(f:W.F a=none)(g:∀i x,e.get i=some x->kW x->W.fq i≠a):Inv T (W.eT a (some p)) e j:=by
 refine⟨Q.fA,λ b x d=>?_,λ b x d=>?_,Q.base,Q.n,Q.lt,λ i x d=>(Q.obj i x d).le (bf.gx W a _) rfl rfl,λ i x d m=>⟨(Q.free i x d m).1,?_⟩,Q.inj,Q.gens,Q.os⟩
 ·have d:(if b=a then some p else W.G b)=some x:=d
  split at d
  ·rename_i q;obtain rfl:=ck d;exact rwl q c
  ·exact Q.gq b x d
 ·have d:(if b=a then some p else W.G b)=some x:=d
  split at d
  ·rename_i q;rw[q];exact f
  ·exact Q.apart b x d
 ·show(if W.fq i=a then some p else W.G _)=none
  rw[a8 (g i x d m)]
  exact(Q.free i x d m).2
theorem Inv.qI(Q:Inv T W e j)(p:Obj)(a:p.isFreed=false){tk:Nat}:Inv T (W.eT j.heap.objs.size (some p)) e {j with heap:=j.heap.push p,toks:=tk}:=
 Q.push p (tk:=tk).eT (q' _ a) Q.tf λ i x d m=>e' (Q.vc d m)
theorem Inv.yV(Q:Inv T W e j)(a:Addr):Inv T (W.eT a none) e j:=by
 refine⟨Q.fA,λ b x d=>?_,λ b x d=>?_,Q.base,Q.n,Q.lt,λ i x d=>(Q.obj i x d).le (bf.gx W a _) rfl rfl,λ i x d m=>⟨(Q.free i x d m).1,?_⟩,Q.inj,Q.gens,Q.os⟩
 ·have d:(if b=a then none else W.G b)=some x:=d
  split at d
  ·cases d
  ·exact Q.gq b x d
 ·have d:(if b=a then none else W.G b)=some x:=d
  split at d
  ·cases d
  ·exact Q.apart b x d
 ·show(if W.fq i=a then none else W.G _)=none
  split
  ·rfl
  ·exact(Q.free i x d m).2
theorem Inv.qO(Q:Inv T W e j){a:Addr}{p fs:Obj}{c:Heap}{tk:Nat}(g:W.G a=some p)(f:Heap.SameBut a j.heap c)(l:c.get? a=some fs):Inv T (W.eT a (some fs)) e {j with heap:=c,toks:=tk}:=by
 have h:=Q.apart a p g
 have ne:∀b x,W.F b=some x->b≠a:=λ b x d q=>by rw[q,h] at d;cases d
 have k:∀i x,e.get i=some x->kW x->W.fq i≠a:=λ i x d m q=>by have:=(Q.free i x d m).2;rw[q,g] at this;cases this
 refine⟨λ b x d=>(f.2 b (ne b x d)).trans (Q.fA b x d),λ b x d=>?_,λ b x d=>?_,Q.base,Q.n,Q.lt,λ i x d=>((Q.obj i x d).keeps λ m H=>(f.2 _ (k i x d m)).trans).le (bf.gx W a _) rfl rfl,λ i x d m=>⟨(Q.free i x d m).1,?_⟩,Q.inj,Q.gens,Q.os⟩
 ·have d:(if b=a then some fs else W.G b)=some x:=d
  split at d
  ·rename_i q;obtain rfl:=ck d;exact rwl q l
  ·rename_i q;exact(f.2 b q).trans (Q.gq b x d)
 ·have d:(if b=a then some fs else W.G b)=some x:=d
  split at d
  ·rename_i q;rw[q];exact h
  ·exact Q.apart b x d
 ·show(if W.fq i=a then some fs else W.G _)=none
  exact rwl (a8 (k i x d m)) ((Q.free i x d m).2)
theorem U.dI(e:U)(i:Nat)(p:dk)(y:Nat):(e.upd i p).get y=if y=i then some p else e.get y:=rfl
theorem U.fR(e:U)(p:dk)(y:Nat):(e.alloc p).get y=if y=e.next then some p else e.get y:=rfl
theorem Inv.mut(Q:Inv T W e j){i:Nat}{p fs:dk}{g:Heap}{tk:Nat}(d:e.get i=some p)(m:kW p)(s:kW fs)(h:Heap.SameBut (W.fq i) j.heap g)(o:mP T W g i fs):
  Inv T W (e.upd i fs) {j with heap:=g,toks:=tk}:=by
 have fr:=Q.free i p d m
 refine⟨λ b x d=>(h.2 b ((λ b x d q=>by rw[q,fr.1] at d;cases d) b x d)).trans (Q.fA b x d),λ b x d=>(h.2 b ((λ b x d q=>by rw[q,fr.2] at d;cases d) b x d)).trans (Q.gq b x d),Q.apart,Q.base,Q.n,λ y x a=>?_,λ y x a=>?_,λ y x a c=>?_,λ y k x H a f c mk l=>?_,Q.gens,Q.os⟩
 ·rw[U.dI] at a
  split at a
  ·rename_i q;rw[q];exact Q.lt i p d
  ·exact Q.lt y x a
 ·rw[U.dI] at a
  split at a
  ·rename_i q;obtain rfl:=ck a;exact rwl q o
  ·rename_i q
   exact(Q.obj y x a).keeps λ c H b_=>(h.2 _ (Q.inj y i x p a d c m q)).trans b_
 ·rw[U.dI] at a
  split at a
  ·rename_i q;exact rwl q fr
  ·exact Q.free y x a c
 ·rw[U.dI] at a f
  split at a<;>split at f
  ·rename_i q r;exact(l (q.trans r.symm)).elim
  ·rename_i q r;rw[q];exact λ D=>Q.inj k i H p f d mk m r D.symm
  ·rename_i q r;rw[r];exact Q.inj y i x p a d c m q
  ·exact Q.inj y k x H a f c mk l
theorem Inv.frozen(Q:Inv T W e j){i:Nat}{B:List E}(d:e.get i=some (.list B)):
  ∃items cf,Inv T (W.kY (W.adr i) {cls:=.type "list",data:=.seq items cf}) (e.upd i (.flist B)) j/\gA W (W.kY (W.adr i) {cls:=.type "list",data:=.seq items cf})/\
   RelV T (W.kY (W.adr i) {cls:=.type "list",data:=.seq items cf}) (.lst B) (.ref (W.adr i)):=by
 refine pH (Q.obj i _ d) λ g items cf C I=>?_
 have fr:=Q.free i _ d trivial
 have fr:=g▸fr
 have l:=bf.yt (λ z=>False) W _ {cls:=.type "list",data:=.seq items cf} (.inl fr.1)
 have self:(W.kY (W.adr i) _).F _=some {cls:=.type "list",data:=.seq items cf}:=aU rfl
 refine cu items cf ⟨⟨λ b x gh=>?_,Q.gq,λ b x gh=>?_,λ b x gh=>l.F _ _ (Q.base b x gh),Q.n,λ y x a=>?_,λ y x a=>?_,λ y x a c=>?_,λ y k x H a f c mk h=>?_,Q.gens,Q.os⟩,l,_,items,cf,rfl,self,I.le l⟩
 ·have gh:(if b=W.adr i then some _ else W.F b)=some x:=gh
  split at gh
  ·rename_i q;obtain rfl:=ck gh;exact rwl q C
  ·exact Q.fA b x gh
 ·show(if b=W.adr i then some _ else W.F b)=none
  rw[a8]
  ·exact Q.apart b x gh
  ·intro q;subst q;have gh:=gh;have gh:=fr.2▸gh;cases gh
 ·rw[U.dI] at a
  split at a
  ·rename_i q;rw[q];exact Q.lt i _ d
  ·exact Q.lt y x a
 ·rw[U.dI] at a
  split at a
  ·rename_i q;obtain rfl:=ck a;rw[q];exact cu items cf ⟨self,I.le l⟩
  ·exact(Q.obj y x a).le l rfl rfl
 ·rw[U.dI] at a
  split at a
  ·obtain rfl:=ck a;exact c.elim
  ·rename_i q
   have:=Q.free y x a c
   refine⟨?_,this.2⟩
   show(if W.fq y=W.adr i then some _ else W.F _)=none
   rw[a8]
   ·exact this.1
   ·rw[<-g];exact Q.inj y i x _ a d c trivial q
 ·rw[U.dI] at a f
  split at a<;>split at f
  ·rename_i q r;exact(h (q.trans r.symm)).elim
  ·obtain rfl:=ck a;exact c.elim
  ·obtain rfl:=ck f;exact mk.elim
  ·exact Q.inj y k x H a f c mk h
noncomputable def bf.new(W:bf)(a m:Addr):bf:={W with adr:=λ i=>if i=W.n then a else W.adr i,fq:=λ i=>if i=W.n then m else W.fq i,n:=W.n+1}
theorem bf.th(fr:Addr->Prop)(W:bf)(a m:Addr):dc fr W (W.new a m):=
 ⟨λ z z d=>d,λ z z=>rfl,hp _,λ i h=>a8 (e' h)⟩
theorem Inv.new(Q:Inv T W e j){a m:Addr}{p:dk}(o:mP T (W.new a m) j.heap W.n p)(s:W.F m=none)(t:W.G m=none)(h:∀i x,e.get i=some x->kW x->W.fq i≠m):Inv T (W.new a m) (e.alloc p) j:=by
 have c:=λ y x d=>e' (Q.n▸Q.lt y x d)
 refine⟨Q.fA,Q.gq,Q.apart,Q.base,bA _ Q.n,λ y x b=>?_,λ y x b=>?_,λ y x b g=>?_,λ y k x H b f g mk l=>?_,Q.gens,Q.os⟩
 ·rw[U.fR] at b
  split at b
  ·rename_i q;rw[q];exact eo _
  ·exact j9 (Q.lt y x b)
 ·rw[U.fR] at b
  split at b
  ·rename_i q;obtain rfl:=ck b;rw[q,<-Q.n];exact o
  ·exact(Q.obj y x b).le (bf.th (λ z=>False) W a m) (a8 (c y x b)) (a8 (c y x b))
 ·rw[U.fR] at b
  show W.F (if y=W.n then m else W.fq y)=none/\W.G (if y=W.n then m else W.fq y)=none
  split at b
  ·rename_i q;rw[aU (q.trans Q.n.symm)];exact⟨s,t⟩
  ·rw[a8 (c y x b)];exact Q.free y x b g
 ·rw[U.fR] at b f
  show(if y=W.n then m else W.fq y)≠if k=W.n then m else W.fq k
  split at b<;>split at f
  ·rename_i q r;exact(l (q.trans r.symm)).elim
  ·rename_i q r;rw[aU (q.trans Q.n.symm),a8 (c k H f)];exact(h k H f mk).symm
  ·rename_i q r;rw[aU (r.trans Q.n.symm),a8 (c y x b)];exact h y x b g
  ·rw[a8 (c y x b),a8 (c k H f)];exact Q.inj y k x H b f g mk l
theorem Inv.z2(Q:Inv T W e j)(a m:Addr):RelV T (W.new a m) (.ref e.next) (.ref a):=
 ⟨by show e.next<W.n+1;exact rwr Q.n (eo _),by show _=Value.ref (if e.next=W.n then a else W.adr _);rw[aU Q.n.symm]⟩
end
end
section
structure AO(aA:Around)(n:Nat):Prop where
 handled:aA.handled=none
 depth:aA.depth+2*n+2<recursionLimit
 units:aA.units+40*n+120<cLine
structure AJ(K:Frag)(T:c5)(P:eW)(c:Nat):Prop where
 makes:makesIn K (T.ca c)=true
 ga:findIn K (.ref (T.ca c)) "__getattribute__"=some (some (.builtin "object.__getattribute__"))
 Xe:findIn K (.ref (T.ca c)) "__getattr__"=some none
 abS:findIn K (.ref (T.ca c)) "__setattr__"=some (some (.builtin "object.__setattr__"))
 over:plainOver K (T.ca c)=true
 has:∃mq,clsIn K (T.ca c)=some mq/\mq.hasDict=true
 attr:∀x,pj x=true->findIn K (.ref (T.ca c)) x=some none
 init:∀k,P.init c=some k->findIn K (.ref (T.ca c)) "__init__"=some (some (.ref (T.jr k)))/\typeIn K (.ref (T.jr k))=some (.type "function")
 b0:∀m k,P.b0 c m=some k->findIn K (.ref (T.ca c)) m=some (some (.ref (T.jr k)))/\typeIn K (.ref (T.jr k))=some (.type "function")/\pj m=false
structure Fn(T:c5)(o:q0)(a:Addr)(fJ:FuncData):Prop where
 get:∃p,T.h₀.get? a=some p/\p.data=.func fJ
 body:fJ.body=.stmts o.body
 scope:fJ.scope=o.scope
 ok:px o.scope=true
 nW:fJ.globals=mainGlobals
 oV:fJ.builtins=builtinsNs
 Vp:fJ.closure=[]
 code:T.h₀.CodeRec fJ.code fJ.qualname
 rN:∀x,o.scope.names.lookup x≠some .free
 params:∀s∈o.params,o.scope.names.lookup s=some .local\/o.scope.names.lookup s=some .cell
 binds:∀(W:bf)(j:Shared)(B:List E)(ai:List Value),(∀b p,T.h₀.get? b=some p->W.F b=some p)->(∀b p,T.h₀.get? b=some p->j.heap.get? b=some p)->bK T W B ai->B.length<=o.params.length->(ou o.params.length B o.defaults).length=o.params.length->
  ∃dr,bK T W (ou o.params.length B o.defaults) dr/\BindsTo j fJ ⟨ai,[]⟩ (o.params.zip dr)
structure St(T:c5)(K:Frag)(P:eW):Prop where
 sys:∃p,T.h₀.get? sysModules=some p
 pa:K.In T.h₀
 nolimit:T.h₀.NoLimit
 glob:∃ik jS,T.h₀.Ns mainGlobals ik/\T.h₀.Ns builtinsNs jS/\∀x v,P.glob x=some v->
  (∃H,ik x=some H/\∀W:bf,(∀a p,T.h₀.get? a=some p->W.F a=some p)->RelV T W v H)\/(ik x=none/\∃H,jS x=some H/\∀W:bf,RelV T W v H)
 cls:∀c,T.cls c->AJ K T P c
 YC:∀c k,P.init c=some k->T.cls c
 fn:∀k o,P.fn k=some o->∃fJ,Fn T o (T.jr k) fJ
inductive c3(T:c5)(W:bf)(A:bl)(x:Value)(bt:Shared):Prop
 |of (aO:bf) (v:E) (M:U) (l:gA W aO) (Q:Inv T aO M bt) (r:RelV T aO v x) (q:A v M)
inductive Fx(T:c5)(W:bf)(A:List E->U->Prop)(x:List Value)(bt:Shared):Prop
 |of (aO:bf) (v:List E) (M:U) (l:gA W aO) (Q:Inv T aO M bt) (r:bK T aO v x) (q:A v M)
inductive pO(T:c5)(W:bf)(A:Bool->U->Prop)(b:Bool)(bt:Shared):Prop
 |of (aO:bf) (M:U) (l:gA W aO) (Q:Inv T aO M bt) (q:A b M)
inductive yi(T:c5)(W:bf)(A:U->Prop)(u:Unit)(bt:Shared):Prop
 |of (aO:bf) (M:U) (l:gA W aO) (Q:Inv T aO M bt) (q:A M)
theorem c3.le{T:c5}{W aO:bf}{A:bl}{x:Value}{j:Shared}(l:gA W aO)(h:c3 T aO A x j):c3 T W A x j:=by cases h with|of a v e dV Q r q=>exact⟨a,v,e,l.trans dV,Q,r,q⟩
theorem pO.le{T:c5}{W aO:bf}{A:Bool->U->Prop}{x:Bool}{j:Shared}(l:gA W aO)(h:pO T aO A x j):pO T W A x j:=by cases h with|of a e dV Q q=>exact⟨a,e,l.trans dV,Q,q⟩
section
variable{bh:Model}{aA:Around}{aR:Value->Shared->Prop}{j:Shared}{T:c5}{W:bf}{cg:Type}
theorem fk{m:Sem Value}{A:bl}{R:Value->Shared->Prop}(h:wpAny bh aA m (c3 T W A) aR j)(k:∀aO v M x a,gA W aO->Inv T aO M a->RelV T aO v x->A v M->R x a):wpAny bh aA m R aR j:=
 fN h (λ x a ⟨aO,v,M,l,Q,r,q⟩=>k aO v _ x a l Q r q) λ z z d=>d
theorem xK{m:Sem (List Value)}{A:List E->U->Prop}{R:List Value->Shared->Prop}(h:wpAny bh aA m (Fx T W A) aR j)(k:∀aO v M x a,gA W aO->Inv T aO M a->bK T aO v x->A v M->R x a):wpAny bh aA m R aR j:=
 fN h (λ x a ⟨aO,v,M,l,Q,r,q⟩=>k aO v _ x a l Q r q) λ z z d=>d
theorem r2{m:Sem Bool}{A:Bool->U->Prop}{R:Bool->Shared->Prop}(h:wpAny bh aA m (pO T W A) aR j)(k:∀aO b M a,gA W aO->Inv T aO M a->A b M->R b a):wpAny bh aA m R aR j:=
 fN h (λ b a ⟨aO,M,l,Q,q⟩=>k aO b _ a l Q q) λ z z d=>d
theorem Al{m:Sem Unit}{A:U->Prop}{R:Unit->Shared->Prop}(h:wpAny bh aA m (yi T W A) aR j)(k:∀aO M a,gA W aO->Inv T aO M a->A M->R () a):wpAny bh aA m R aR j:=
 fN h (λ b a ⟨aO,M,l,Q,q⟩=>k aO _ a l Q q) λ z z d=>d
end
def ue(p:Obj)(m:Str->Option Value):Prop:=∃a cf,p.data=.dict a cf/\StrKeys a/\∀name,nsFind a name=m name
theorem ue.ns{h:Heap}{a:Addr}{p:Obj}{m:Str->Option Value}(x:ue p m)(b:h.get? a=some p):h.Ns a m:=EU x λ c cf r=>(gw p c cf ⟨b,r⟩)
theorem DL{h:Heap}{a:Addr}{m:Str->Option Value}(x:h.Ns a m):∃p,h.get? a=some p/\ue p m:=AA x λ p b cf c r=>⟨p,c,b,cf,r⟩
structure fo(T:c5)(W:bf)(c:fF)(aJ:Env):Prop where
 kind:aJ.scope.kind=.function
 names:∀x k,c.sc.names.lookup x=some k->aJ.kindOf x=some k\/(k=.free/\aJ.kindOf x=some .cell)
 ok:px c.sc=true
 nW:aJ.globals=mainGlobals
 oV:aJ.builtins=builtinsNs
 loc:∃p m,W.G aJ.locals=some p/\ue p m/\∀x v,c.sc.names.lookup x=some .local->getL c.loc x=some v->∃H,m x=some H/\RelV T W v H
 cell:∀x v,c.sc.names.lookup x=some .cell->getL c.loc x=some v->∃a p H,aJ.cells.lookup x=some a/\W.G a=some p/\p.data=.cell (some H)/\RelV T W v H
 free:∀x v,c.sc.names.lookup x=some .free->getL c.out x=some v->∃a p H,aJ.cells.lookup x=some a/\W.G a=some p/\p.data=.cell (some H)/\RelV T W v H
theorem fo.le{T:c5}{W aO:bf}{c:fF}{aJ:Env}(d:fo T W c aJ)(l:gA W aO):fo T aO c aJ:=by
 refine⟨d.kind,d.names,d.ok,d.nW,d.oV,?_,λ x v C I=>?_,λ x v C I=>?_⟩
 ·exact jd d.loc λ p m C I ag=>cu p m ⟨(l.G _ id).trans C,I,λ x v a b=>a' (ag x v a b) λ H s q=>⟨H,s,q.le l⟩⟩
 ·exact j3 (d.cell x v C I) λ a p H bG e f g=>⟨a,p,H,bG,(l.G _ id).trans e,f,g.le l⟩
 ·exact j3 (d.free x v C I) λ a p H bG e f g=>⟨a,p,H,bG,(l.G _ id).trans e,f,g.le l⟩
theorem vo{sc:Scope}(h:px sc=true):sc.kind=.function:=by
 simp only[px,ml,iw] at h;exact h.1.1.1
theorem vp{sc:Scope}(h:px sc=true){x:Str}{k:NameKind}(a:sc.names.lookup x=some k):(x==("__debug__":Str))=false/\(x==("__classdict__":Str))=false/\(x==("__class__":Str))=false:=by
 simp only[px,ml,k0] at h
 have:=h.2 _ (mem_of_lookup a)
 simp only[bne_iff_ne,ne_eq] at this
 exact⟨fH.mpr this.1.1,fH.mpr this.1.2,fH.mpr this.2⟩
section
variable{T:c5}{K:Frag}{P:eW}{aA:Around}{aR:Value->Shared->Prop}{W:bf}{e:U}{j:Shared}{c:fF}{aJ:Env}{A:bl}
theorem Inv.h₀(Q:Inv T W e j):∀b p,T.h₀.get? b=some p->j.heap.get? b=some p:=λ b p d=>Q.fA b p (Q.base b p d)
theorem Inv.pa(S:St T K P)(Q:Inv T W e j):K.In j.heap:=Frag.In.keeps S.pa Q.h₀
theorem Inv.nolimit(S:St T K P)(Q:Inv T W e j):j.heap.NoLimit:=S.nolimit.keeps Q.h₀
theorem c3.mk{aO:bf}{M:U}{a:Shared}{v:E}{x:Value}(l:gA W aO)(Q:Inv T aO M a)(r:RelV T aO v x)(q:A v M):c3 T W A x a:=⟨aO,v,M,l,Q,r,q⟩
theorem c3.now(Q:Inv T W e j){v:E}{x:Value}(r:RelV T W v x)(q:A v e):c3 T W A x j:=⟨W,v,e,dc.refl _ _,Q,r,q⟩
theorem Kv{x:Str}{cz:Pos}{v:E}(S:St T K P)(f:n_ P c x=some v)(q:A v e)(Q:Inv T W e j)(d:fo T W c aJ):wpAny (model T.prog T.w) aA (eval (.Name x cz) aJ) (c3 T W A) aR j:=by
 have g:=d.kind
 have plain:∀{k:NameKind},c.sc.names.lookup x=some k->k≠.free->aJ.kindOf x=some k:=λ b o=>(d.names x _ b).resolve_right λ D=>o D.1
 refine Z6 f (λ b f=>?_) (λ b f=>?_) (λ b f=>?_) λ b f=>?_
 ·exact jd d.loc λ p m C I ag=>a' (ag x v b f) λ H s r=>wpAny_Name (wpAny_loadName_local g (plain b (by decide)) (I.ns (Q.gq _ _ C)) s (.now Q r q)) (vp d.ok b).1
 ·exact j3 (d.cell x v b f) λ a p H bG h i l=>wpAny_Name (wpAny_loadName_cell g (plain b (by decide)) bG ⟨p,Q.gq _ _ h,i⟩ (.now Q l q)) (vp d.ok b).1
 ·refine j3 (d.free x v b f) λ a p H bG h i l=>?_
  rcases d.names x _ b with k|⟨-,k⟩
  ·exact wpAny_Name (wpAny_loadName_free g k bG ⟨p,Q.gq _ _ h,i⟩ (.now Q l q) (vp d.ok b).2.1) (vp d.ok b).1
  ·exact wpAny_Name (wpAny_loadName_cell g k bG ⟨p,Q.gq _ _ h,i⟩ (.now Q l q)) (vp d.ok b).1
 ·refine jd S.glob λ ik jS n t u=>Name_function_global g (plain b (by decide)) ?_ (vp d.ok b).1
  rcases u x v f with⟨H,C,I⟩|⟨y,H,C,I⟩
  ·exact loadGlobal_global (by exact rwl d.nW (n.keeps Q.h₀)) C (.now Q (I W Q.base) q)
  ·exact loadGlobal_builtin (by exact rwl d.nW (n.keeps Q.h₀)) y (by exact rwl d.oV (t.keeps Q.h₀)) C (.now Q (I W) q)
end
end
noncomputable def WO:List Nat:=iS.map (·.2)++kd.map (·.2)++[190,399,421,456,541]
noncomputable def fragOf(g:Addr->Option Obj):Frag:=WO.filterMap λ a=>(g a).map λ p=>(a,p)
noncomputable def EI:Value->Option Addr
 |.ref a=>some a
 |_=>none
noncomputable def Lr:Value->Option Str
 |.str x _=>some x
 |_=>none
noncomputable def yQ:Data->Option (Array Value)
 |.seq B _=>some B
 |_=>none
noncomputable def wc:Data->Option (Array DictEntry)
 |.dict B _=>some B
 |_=>none
noncomputable def Bz:Data->Option (Array Value)
 |.fields B=>some B
 |_=>none
noncomputable def BA:Data->Option FuncData
 |.func f=>some f
 |_=>none
theorem Lq{v:Value}{a:Addr}(h:EI v=some a):v=.ref a:=by
 rcases v with _|_<;>first|exact bF h|exact bA _ (dd h)
theorem ae4{v:Value}{a:Str}(h:Lr v=some a):∃t,v=.str a t:=by
 rcases v with _|_<;>first|exact bF h|(obtain rfl:=ck h;exact⟨_,rfl⟩)
theorem VG{o:Data}{x:Array Value}(h:yQ o=some x):∃n,o=.seq x n:=by
 rcases o with _|_<;>first|exact bF h|exact⟨_,bA (Data.seq · _) (dd h)⟩
theorem z7{a:Type}{G:Prop}{p:Option Obj}{f:Obj->Array Value->Option a}{r:a}(h:(p.bind λ p=>(yQ p.data).bind (f p))=some r)(k:∀c o x n a9,p=some ⟨c,o,.seq x n,a9⟩->f ⟨c,o,.seq x n,a9⟩ x=some r->G):G:=
 a' (gk.mp h) λ⟨c,o,b,a9⟩ C h=>a' (gk.mp h) λ x I=>by
  refine a7 (VG (o:=b) I) λ n d=>?_;clear I;subst d;exact k _ _ _ _ _ C
theorem VD{o:Data}{x:Array DictEntry}(h:wc o=some x):∃n,o=.dict x n:=by
 rcases o with _|_<;>first|exact bF h|exact⟨_,bA (Data.dict · _) (dd h)⟩
theorem BE{a:Type}{G:Prop}{p:Option Obj}{f:Obj->Array DictEntry->Option a}{r:a}(h:(p.bind λ p=>(wc p.data).bind (f p))=some r)(k:∀c o x n a9,p=some ⟨c,o,.dict x n,a9⟩->f ⟨c,o,.dict x n,a9⟩ x=some r->G):G:=
 a' (gk.mp h) λ⟨c,o,b,a9⟩ C h=>a' (gk.mp h) λ x I=>by
  refine a7 (VD (o:=b) I) λ n d=>?_;clear I;subst d;exact k _ _ _ _ _ C
theorem VE{o:Data}{x:Array Value}(h:Bz o=some x):o=.fields x:=by
 rcases o with _|_<;>first|exact bF h|exact bA Data.fields (dd h)
theorem Wl{a:Type}{G:Prop}{p:Option Obj}{f:Obj->Array Value->Option a}{r:a}(h:(p.bind λ p=>(Bz p.data).bind (f p))=some r)(k:∀c o x a9,p=some ⟨c,o,.fields x,a9⟩->f ⟨c,o,.fields x,a9⟩ x=some r->G):G:=
 a' (gk.mp h) λ⟨c,o,b,a9⟩ C h=>a' (gk.mp h) λ x I=>by
  obtain rfl:=VE (o:=b) I;exact k _ _ _ _ C
theorem VF{o:Data}{x:FuncData}(h:BA o=some x):o=.func x:=by
 rcases o with _|_<;>first|exact bF h|exact bA Data.func (dd h)
theorem WU{a:Type}{G:Prop}{p:Option Obj}{f:Obj->FuncData->Option a}{r:a}(h:(p.bind λ p=>(BA p.data).bind (f p))=some r)(k:∀c o x a9,p=some ⟨c,o,.func x,a9⟩->f ⟨c,o,.func x,a9⟩ x=some r->G):G:=
 a' (gk.mp h) λ⟨c,o,b,a9⟩ C h=>a' (gk.mp h) λ x I=>by
  obtain rfl:=VF (o:=b) I;exact k _ _ _ _ C
noncomputable def GD(g:Addr->Option Obj)(a:Value)(q:Str):Bool:=((EI a).bind λ c=>(g c).bind λ p=>(Bz p.data).bind λ B=>(B[1]?).bind Lr)==some q
noncomputable def wR:List Value->List Int
 |[]=>[]
 |.int i _::r=>i::wR r
 |_::_=>[]
noncomputable def zt:Value->Bool
 |.none=>true
 |_=>false
theorem YG{v:Value}(h:zt v=true):v=.none:=by
 rcases v with _|_<;>first|rfl|exact cy h
noncomputable def we(g:Addr->Option Obj)(o:Value):Option (Option (Nat×List Int)):=match zt o with
 |true=>some none
 |false=>(EI o).bind λ t=>(g t).bind λ p=>(yQ p.data).bind λ B=>some (some (B.size,wR B.toList))
theorem VJ{g:Addr->Option Obj}{o:Value}{n:Nat}{l:List Int}{G:Prop}(h:we g o=some (some (n,l)))(k:∀t c a x d a9,o=.ref t->g t=some ⟨c,a,.seq x d,a9⟩->x.size=n->wR x.toList=l->G):G:=by
 unfold we at h
 rcases q:zt o with _|_
 ·rw[q] at h
  exact a' (gk.mp h) λ t C h=>z7 h λ c a x d a9 I h=>k _ _ _ _ _ _ (Lq C) I (bA Prod.fst (dd (dd h))) (bA Prod.snd (dd (dd h)))
 ·rw[q] at h;exact bF (dd h)
theorem VI{g:Addr->Option Obj}{o:Value}(h:we g o=some none):o=.none:=by
 unfold we at h
 rcases q:zt o with _|_
 ·rw[q] at h
  exact a' (gk.mp h) λ t C h=>z7 h λ c a x d a9 I h=>bF (dd h).symm
 ·exact YG q
abbrev AL:=FuncBody×Scope×Addr×Addr×Nat×Arguments×Bool×Option (Option (Nat×List Int))
noncomputable def Hm(g:Addr->Option Obj)(a:Addr):Option AL:=(g a).bind λ p=>(BA p.data).bind λ b=>some (b.body,b.scope,b.globals,b.builtins,b.closure.length,b.params,GD g b.code b.qualname,we g b.defaults)
noncomputable def B3(k:Nat):Option AL:=match xA k with
 |some (.FunctionDef _ args body _ _ _ sc _ _ _)=>some (.stmts body,sc,mainGlobals,builtinsNs,0,args,true,some (if k=1460 then some (5,[64,50,1000000,100000,10000]) else none))
 |_=>none
noncomputable def WD(K:Frag)(k:Nat):Option Value:=typeIn K (.ref ((iS.lookup k).getD 0))
abbrev AI:=Bool×Option (Option Value)×Option (Option Value)×Option (Option Value)×Bool×Option Bool×List (Option (Option Value))×List (Option (Option Value)×Option Value)
noncomputable def yL(K:Frag)(a:Addr)(b:List (String×Nat)):AI:=
 (makesIn K a,findIn K (.ref a) "__getattribute__",findIn K (.ref a) "__getattr__",findIn K (.ref a) "__setattr__",plainOver K a,(clsIn K a).map (·.hasDict),BX.map λ x=>findIn K (.ref a) (Str.ofString x),
  b.map λ m=>(findIn K (.ref a) (Str.ofString m.1),WD K m.2))
noncomputable def yK(a:List (String×Nat)):AI:=(true,some (some (.builtin "object.__getattribute__")),some none,some (some (.builtin "object.__setattr__")),true,some true,BX.map λ z=>some none,
 a.map λ m=>(some (some (.ref ((iS.lookup m.2).getD 0))),some (.type "function")))
noncomputable def yM:List (Nat×List (String×Nat)):=[(191,[("__init__",1170)]),(400,[("__init__",1460)]),(422,[("__init__",1490)]),(457,[("__init__",1500),("add",1501),("fresh",1502)]),(542,[("__init__",1640),("peek",1641),("skips",1642)])]
noncomputable def strip:Value->E
 |.str x _=>.str (k4 x)
 |.int i _=>.int i
 |.bool b=>.bool b
 |.ref a=>.ref a
 |_=>.none
abbrev yl:=Value×Bool×Nat×List E
noncomputable def rY(g:Addr->Option Obj)(a:Addr):Option yl:=(g a).bind λ p=>(yQ p.data).bind λ items=>some (p.cls,p.dict.isNone,p.slots.size,items.toList.map strip)
noncomputable def Am:List (Nat×List E):=[(405,[S "sign",S "any",S "set"]),(628,[.int 0,.int (-1)]),(629,[.int 1,.int (-1)]),(630,[.int 0,.int 1]),(695,[S "(?=",.bool false,.bool false]),(696,[S "(?!",.bool false,.bool true]),(697,[S "(?<=",.bool true,.bool false]),(698,[S "(?<!",.bool true,.bool true]),
 (700,[S "(?<",S ">"]),(701,[S "(?P<",S ">"]),(702,[S "(?'",S "'"])]
abbrev Fj:=Value×Bool×Nat×List (Int×E×Value)
noncomputable def BB(g:Addr->Option Obj)(a:Addr):Option Fj:=(g a).bind λ p=>(wc p.data).bind λ b=>some (p.cls,p.dict.isNone,p.slots.size,b.toList.map λ d=>(d.hash,strip d.key,d.val))
noncomputable def xb:List (E×E):=[(S "__name__",S "law_nz0206_01"),(S "__doc__",.none),(S "__package__",.none),(S "__loader__",.none),(S "__spec__",.none),(S "__annotations__",.ref 6),(S "__builtins__",.ref 4),(S "__file__",S "/claim/cut.py"),(S "__cached__",.none),(S "PerlError",.ref 31),(S "BadPattern",.ref 51),(S "TooLong",.ref 70),(S "BLANKS",S " \t\n\x0d\x0c\x0b"),(S "POSIX_RANGES",.ref 73),(S "is_word_sign",.ref 120),(S "in_class",.ref 127),(S "other_case",.ref 134),(S "same_sign",.ref 141),(S "posix_items",.ref 146),(S "item_holds",.ref 153),(S "items_hold",.ref 160),(S "set_holds",.ref 167),(S "sign_fits",.ref 174),(S "MatchRun",.ref 191),(S "set_register",.ref 202),(S "go_on",.ref 209),(S "row_test",.ref 216),(S "run_end",.ref 223),(S "row_run",.ref 230),(S "place_holds",.ref 237),(S "row_at",.ref 244),(S "row_back",.ref 251),(S "row_open",.ref 258),(S "row_close",.ref 265),(S "row_jump",.ref 272),(S "row_split",.ref 279),(S "row_zero",.ref 286),(S "row_loop",.ref 293),(S "row_again",.ref 300),(S "row_mark",.ref 307),(S "row_cut",.ref 312),(S "undo_entry",.ref 319),(S "row_refuse",.ref 326),(S "row_place",.ref 333),(S "row_return",.ref 340),(S "row_behind",.ref 347),(S "row_words",.ref 354),(S "take_more",.ref 361),(S "back_up",.ref 368),(S "match_from",.ref 375),(S "search_pattern",.ref 382),(S "Limits",.ref 400),(S "ONE_SIGN",.ref 405),(S "Program",.ref 422),(S "RowMaker",.ref 457),(S "add_node",.ref 468),(S "add_branches",.ref 475),(S "add_atomic",.ref 482),(S "add_repeats",.ref 489),(S "add_loop",.ref 496),(S "add_look",.ref 503),(S "compile_tree",.ref 510),(S "PLAIN_ESCAPES",.ref 511),(S "OCTAL_FIGURES",S "01234567"),(S "HEX_FIGURES",S "0123456789abcdef"),(S "CLASS_LETTERS",S "dDwWsShHvV"),(S "MOST_CODE",.int 1114111),(S "PatternText",.ref 542),(S "run_of",.ref 553),(S "number_of_run",.ref 560),(S "until_sign",.ref 567),(S "sign_of_code",.ref 574),(S "read_hex_sign",.ref 579),(S "read_plain_escape",.ref 586),(S "read_control",.ref 593),(S "read_posix",.ref 598),(S "read_member",.ref 605),(S "is_one_sign",.ref 612),(S "read_range_end",.ref 619),(S "read_set",.ref 626),(S "FIGURES",S "0123456789"),(S "MOST_COUNT",.int 32766),(S "COUNT_SIGNS",.ref 627),(S "count_groups",.ref 637),(S "behind_set",.ref 644),(S "opens_capture",.ref 651),(S "is_name_text",.ref 656),(S "braces_count",.ref 661),(S "take_count",.ref 668),(S "speak_of",.ref 675),(S "read_named_back",.ref 682),(S "read_numbered_back",.ref 689),(S "width_of",.ref 694),(S "FLAG_LETTERS",S "imsx"),(S "MOST_NESTED",.int 40),(S "LOOKS",.ref 699),(S "NAME_SIGNS",.ref 703),(S "skip_unseen",.ref 710),(S "read_flags",.ref 715),(S "read_inline",.ref 722),(S "read_alternation",.ref 729),(S "read_branch",.ref 736),(S "read_atom",.ref 743),(S "read_counted",.ref 750),(S "read_inner",.ref 757),(S "read_capture",.ref 764),(S "read_look",.ref 771),(S "read_group",.ref 778),(S "read_escape",.ref 785),(S "parse_pattern",.ref 790),(S "compile_pattern",.ref 797),(S "_law_ones",.ref 804),(S "_law_counts",.ref 811),(S "_law_draw",.ref 818),(S "_law_wide",.ref 823),(S "_law_node",.ref 828),(S "_law_row",.ref 833),(S "_law_spelt",.ref 838),(S "_law_once",.ref 843),(S "_law_rounds",.ref 850),(S "_law_same",.ref 857),(S "_law_place",.ref 864),(S "_law_set",.ref 871),(S "_law_look",.ref 876),(S "_law_ways",.ref 881),(S "law",.ref 886)]
noncomputable def nsLook(g:Addr->Option Obj)(a:Addr):Option (List (E×E)):=(g a).bind λ p=>(wc p.data).bind λ b=>some (b.toList.map λ d=>(strip d.key,strip d.val))
noncomputable def Bh(g:Addr->Option Obj)(x:Str):Option Value:=(g builtinsNs).bind λ p=>(wc p.data).bind λ a=>nsFind a x
noncomputable def v7:List (String×Value):=[("len",.builtin "len"),("ord",.builtin "ord"),("chr",.builtin "chr"),("max",.builtin "max"),("min",.builtin "min"),("sum",.builtin "sum"),("range",.type "range"),("str",.type "str"),("list",.type "list")]
abbrev Look:=(List (Option AL)×List AI×List Bool)×(List (Option yl)×Option yl×Option yl×Option Fj)×Option (List (E×E))×List (Option Value)×Bool
noncomputable def u7(g:Addr->Option Obj):Look:=
 let K:=fragOf g
 ((iS.map λ s=>Hm g s.2,yM.map λ s=>yL K s.1 s.2,iS.map (λ s=>keepIn K (.ref s.2))++kd.map λ s=>keepIn K (.ref s.2)),
  (Am.map λ s=>rY g s.1,rY g 699,rY g 703,BB g 627),
  nsLook g mainGlobals,
  v7.map (λ s=>Bh g (Str.ofString s.1)),(g sysModules).isSome)
noncomputable def w2(w:World):Look:=
 ((iS.map λ s=>B3 s.1,yM.map λ s=>yK s.2,iS.map (λ z=>true)++kd.map λ z=>true),
  (Am.map λ s=>some (.type "tuple",true,0,s.2),some (.type "list",true,0,[.ref 695,.ref 696,.ref 697,.ref 698]),some (.type "list",true,0,[.ref 700,.ref 701,.ref 702]),
   some (.type "dict",true,0,[(hashStr w (strOf [42]),.str [42],.ref 628),(hashStr w (strOf [43]),.str [43],.ref 629),(hashStr w (strOf [63]),.str [63],.ref 630)])),
  some xb,
  v7.map (λ s=>some s.2),true)
noncomputable def yZ(t:BT)(n:Nat)(a:Addr):Option Obj:=match Nat.blt a n with
 |true=>alive ((t.get a).getD default)
 |false=>none
theorem Xm(t:BT)(n:Nat)(l:Life):(absHeap t n l).get?=yZ t n:=by
 funext a
 unfold Heap.get? yZ
 rw[absHeap_at]
 rcases q:Nat.blt a n with _|_
 case true=>
  rw[aU (show a<n from sj q)]
  obtain⟨c,o,b,a9⟩:=(t.get a).getD _
  rcases b with _|_<;>rfl
 case false=>
  rw[a8 (λ D=>by rw[show Nat.blt a n=true from Nat.ble_eq_true_of_le D] at q;cases q)]
end
section
open PySem PySem.W PySem.Calls PyProof.Rows PySem.MeetsSeq
section
section
variable{T:c5}{K:Frag}{P:eW}{aA:Around}{aR:Value->Shared->Prop}{W:bf}{e:U}{j:Shared}{c:fF}{aJ:Env}{A:bl}
theorem z9:sizeLine=16777216:=by rw[sizeLine_eq]
theorem v5{n:Nat}(h:n<=c7):n<=sizeLine:=ah h (ae rfl)
theorem Ew(x H:List Nat):strOf (x++H)=strOf x++strOf H:=by
 show(⟨(x++H).toArray⟩:Str)=⟨x.toArray++H.toArray⟩
 simp
theorem rZ(x:List Nat):(strOf x).length=x.length:=by simp [strOf,Str.length]
theorem xB(x:Str):strOf (k4 x)=x:=by simp [strOf,k4]
theorem acQ(x H:List Nat):(strOf x==strOf H)=(x==H):=by
 by_cases h:x=H
 ·subst h;simp
 ·have:strOf x≠strOf H:=λ d=>h (by have:=bA (λ D=>D.cps.toList) d;simpa [strOf] using this)
  rw[fH.mpr h,fH.mpr this]
theorem vu{x H:List Nat}(d:strOf x=strOf H):x=H:=by have:=bA (λ D=>D.cps.toList) d;simpa [strOf] using this
theorem Inv.newList(Q:Inv T W e j){B:List E}{items:Array Value}{cf tk:Nat}(r:bK T W B items.toList):
  ∃aO,gA W aO/\Inv T aO (e.alloc (.list B)) {j with heap:=j.heap.push {cls:=.type "list",data:=.seq items cf},toks:=tk}/\RelV T aO (.ref e.next) (.ref j.heap.objs.size):=by
 have bT:=Q.push {cls:=.type "list",data:=.seq items cf} (tk:=tk)
 have l:=bf.th (λ z=>False) W j.heap.objs.size j.heap.objs.size
 refine⟨_,l,bT.new ⟨?_,items,cf,?_,r.le l⟩ Q.tf Q.tg λ i x d m=>e' (Q.vc d m),bT.z2 _ _⟩
 ·show(if W.n=W.n then _ else _)=if W.n=W.n then _ else _
  rw[aU rfl,aU rfl]
 ·show(j.heap.push _).get? (if W.n=W.n then _ else _)=_
  exact rwl (aU rfl) (q' _ rfl)
theorem Inv.w_(Q:Inv T W e j){B:List E}{items:Array Value}{cf tk:Nat}(r:bK T W B items.toList):
  ∃aO,gA W aO/\Inv T aO e {j with heap:=j.heap.push {cls:=.type "tuple",data:=.seq items cf},toks:=tk}/\RelV T aO (.tup B) (.ref j.heap.objs.size):=by
 exact bc (Q.z1 _ rfl) λ bT l=>⟨_,l,bT,_,items,cf,rfl,aU rfl,r.le l⟩
theorem Inv.DC(Q:Inv T W e j){B:List E}{items:Array Value}{cf tk:Nat}(r:bK T W B items.toList):
  ∃aO,gA W aO/\Inv T aO e {j with heap:=j.heap.push {cls:=.type "list",data:=.seq items cf},toks:=tk}/\RelV T aO (.lst B) (.ref j.heap.objs.size):=by
 exact bc (Q.z1 _ rfl) λ bT l=>⟨_,l,bT,_,items,cf,rfl,aU rfl,r.le l⟩
set_option tactic.hygienic true in
theorem lX(Q:Inv T W e j){v:E}{x:Value}{B:List E}(r:RelV T W v x)(h:listOf e v=some B):∃a items cf,x=.ref a/\IsL j.heap a items cf/\bK T W B items.toList:=by
 rcases v with _|_
 case lst l=>
  obtain rfl:=ck h
  refine fg r λ a items cf b I ag=>?_;clear r;subst b
  exact gw a items cf ⟨rfl,Q.fA _ _ I,ag⟩
 case ref i=>
  refine bc r λ z c=>?_;clear r;subst c
  refine Zb (show Dp (e.get i)=some B from h) (λ d=>?_) λ d=>?_
  ·refine pH (Q.obj _ _ d) λ z items cf C I=>?_
   exact gw _ items cf ⟨rfl,C,I⟩
  ·refine fC (Q.obj _ _ d) λ items cf C I=>?_
   exact gw _ items cf ⟨rfl,Q.fA _ _ C,I⟩
 all_goals exact bF h
theorem ack{x:Int}(h:small x=true):Builtin.Int.intBits x<=64:=by
 have:=gg h
 exact intBits_le_64 (by lia) (by lia)
theorem bK.rep{B:List E}{ai:List Value}(r:bK T W B ai):∀n,bK T W (jX B n) (jX ai n)
 |0=>trivial
 |n+1=>r.append (r.rep n)
theorem foldl_rep(items:Array Value):∀(n:Nat)(a:Array Value),(List.foldl (λ hj pG=>hj++pG) a (List.replicate n items)).toList=a.toList++jX items.toList n
 |0,a=>(gS _).symm
 |n+1,a=>by rw[List.replicate_succ,List.foldl_cons,foldl_rep _ n,D5];simp
theorem D4{cg:Type}:∀n,jX ([]:List cg) n=[]
 |0=>rfl
 |n+1=>by rw[D5,D4 n];rfl
theorem WG(items:Array Value)(n:Nat):(List.foldl (λ hj pG=>hj++pG) #[] (List.replicate (if items.isEmpty=true then 0 else n) items)).toList=jX items.toList n:=by
 rw[foldl_rep]
 split
 ·rename_i h
  have:=by simpa using h
  clear h;subst this
  exact(D4 n).symm
 ·simp
theorem bK.sum{v w:List E}{i y:Array Value}(ab:bK T W v i.toList)(aT:bK T W w y.toList):v.length+w.length=i.size+y.size:=by rw[ab.length,aT.length];rfl
theorem rx{n:Int}(h:dU n=true):-1000000000<=n/\n<=1000000000:=⟨gg (i5 h),gg (kc h)⟩
theorem Wx{n:Int}(h:dU n=true):n.natAbs<1073741824:=by have:=rx h;lia
theorem lg{c:Prop}[Decidable c]{x v:E}(h:(if c then some x else none)=some v):c/\x=v:=(qr h).imp id dd
theorem US{d:Operator}{a b:Int}{t u:Tok}{v:E}(h:mY d (.int a) (.int b)=some v)(q:A v e)(Q:Inv T W e j):wpAny (model T.prog T.w) aA (binaryOp d (.int a t) (.int b u)) (c3 T W A) aR j:=by
 rcases d with _|_
 case Add=>
  obtain rfl:=dd (h)
  exact PyProof.Rows.add_int (.now (v:=.int _) Q.tok ⟨_,rfl⟩ q)
 case Sub=>
  obtain rfl:=dd (h)
  exact PyProof.Rows.sub_int (.now (v:=.int _) Q.tok ⟨_,rfl⟩ q)
 case Mult=>
  refine bc (lg h) λ c g=>?_;subst g
  exact PyProof.Rows.mul_int (.now (v:=.int _) Q.tok ⟨_,rfl⟩ q) (IntMulOk.of_left (ack (i5 c)))
 case Mod=>
  refine bc (DI h) λ f h=>?_
  obtain rfl:=dd h
  exact PyProof.Rows.mod_int f (.now (v:=.int _) Q.tok ⟨_,rfl⟩ q)
 case FloorDiv=>
  refine bc (DI h) λ f h=>bc (lg h) λ c i=>?_;subst i
  exact PyProof.Rows.floordiv_int f (.now (v:=.int _) Q.tok ⟨_,rfl⟩ q) (Or.inl (PyProof.noPylong_small (Wx c)))
 case Pow=>
  refine bc (lg h) λ c k=>?_;subst k
  have I:=i5 c
  exact PyProof.Rows.pow_int_small (gg (i5 I)) (Int.le_trans (gg (kc I)) (by decide)) (gg (kc c)) (.now (v:=.int _) Q.tok ⟨_,rfl⟩ q)
 all_goals exact bF h
theorem UX{x H:List Nat}{t u:Tok}(a:x.length+H.length<=c7)(q:A (.str (x++H)) e)(Q:Inv T W e j):wpAny (model T.prog T.w) aA (binaryOp .Add (.str (strOf x) t) (.str (strOf H) u)) (c3 T W A) aR j:=PyProof.Rows.add_str (λ b tk=>.now (v:=.str _) Q.tok ⟨b,by rw[Ew]⟩ q) (v5 a)
theorem UZ{x H:List E}{a b:Value}(n:x.length+H.length<=c7)(bM:RelV T W (.tup x) a)(d:RelV T W (.tup H) b)(q:A (.tup (x++H)) e)(Q:Inv T W e j):wpAny (model T.prog T.w) aA (binaryOp .Add a b) (c3 T W A) aR j:=by
 refine fg (id bM) λ a f cC o p ab=>?_;subst o
 refine fg (id d) λ b g dh s t aT=>?_;subst s
 have C:=Q.fA _ _ p
 have I:=Q.fA _ _ t
 have c:∀{v:List E}{i:Array _},bK T W v _->(i.isEmpty=true↔v=[]):=λ r=>by rw[Array.isEmpty_iff_size_eq_zero,<-jl,<-r.length,vX]
 by_cases h:x=[]
 ·subst h
  exact concat_meets ⟨_,C,rfl⟩ ⟨_,I,rfl⟩ noFill_tuple_add seq_tuple_add PySem.F.slot_tuple_add PySem.F.entry_tuple_add (PySem.F.args_tuple_add_2 _ _)
   (tuple_addW0 a b f g cC dh _ _ _ _ ((c ab).mpr rfl)) ⟨C,I,.now Q d q⟩
 ·have k:=λ D=>h ((c ab).mp D)
  by_cases m:H=[]
  ·clear d;subst m
   rw[gS] at q
   exact concat_meets ⟨_,C,rfl⟩ ⟨_,I,rfl⟩ noFill_tuple_add seq_tuple_add PySem.F.slot_tuple_add PySem.F.entry_tuple_add (PySem.F.args_tuple_add_2 _ _)
    (tuple_addW1 a b f g cC dh _ _ _ _ k ((c aT).mpr rfl)) ⟨C,I,.now Q bM q⟩
  ·exact fB (Q.w_ (by rw[Array.toList_append];exact ab.append aT)) λ aO l bT r=>PySem.P.add_tuple C I k (λ D=>m ((c aT).mp D)) ⟨aO,_,_,l,bT,r,q⟩ (rwr (ab.sum aT) (v5 n))
theorem UU{x H:List E}{c d:E}{a b:Value}(f:x.length+H.length<=c7)(bM:RelV T W c a)(g:listOf e c=some x)(h:RelV T W d b)(i:listOf e d=some H)(q:A (.ref e.next) (e.alloc (.list (x++H))))(Q:Inv T W e j):
  wpAny (model T.prog T.w) aA (binaryOp .Add a b) (c3 T W A) aR j:=by
 refine fg (lX Q bM g) λ a n cC k C ab=>?_;subst k
 refine fg (lX Q h i) λ b o dh m I aT=>?_;subst m
 exact fB (Q.newList (by rw[Array.toList_append];exact ab.append aT)) λ aO l bT r=>PySem.P.add_list C I ⟨aO,_,_,l,bT,r,q⟩ (rwr (ab.sum aT) (v5 f))
theorem UT{x:List E}{c:E}{a:Value}{n:Int}{t:Tok}(d:x.length*n.toNat<=c7)(Y:dU n=true)(bM:RelV T W c a)(f:listOf e c=some x)(q:A (.ref e.next) (e.alloc (.list (jX x n.toNat))))(Q:Inv T W e j):
  wpAny (model T.prog T.w) aA (binaryOp .Mult a (.int n t)) (c3 T W A) aR j:=by
 refine fg (lX Q bM f) λ a b cC g C ab=>?_;clear bM;subst g
 have aX:=ab.length
 have i:=rx Y
 have D:b.size*n.toNat<=8000000:=by rw[<-jl,<-aX];exact d
 exact fB (Q.newList (by rw[WG];exact ab.rep _)) λ aO l bT r=>wpAny_binaryOp_repeat_ref rfl ⟨_,C,rfl⟩ (λ h=>typeIs_int h n t) noFill_list_mul PySem.F.fills_int_mul PySem.F.slot_int_rmul repeat_list PySem.F.slot_int_index.lookup
  (call_meets PySem.F.slot_int_rmul (typeIs_int j n t) PySem.F.entry_int_rmul (PySem.F.args_int_rmul_2 _ _) (int___rmul___int_list n t a b cC)
   ⟨C,rfl,⟨_,C,rfl⟩,call_meets PySem.F.slot_list_mul ⟨_,C,rfl⟩ PySem.F.entry_list_mul (PySem.F.args_list_mul_2 _ _)
    (AutoListH.list___mul___list_int_3 a b cC n t (by simp [Builtin.List.listFitsIndex];lia) (by lia) (by simp [Builtin.List.listTooLong,sizeLine];exact J [_] 0x2000000519007a120028c81 L D))
    ⟨C,⟨aO,_,_,l,bT,r,q⟩⟩⟩)
theorem aad:fillsNumberSlot (.type "tuple") "mul"=pure false:=
 PySem.fillsNumberSlot_seq PySem.F.slot_tuple_mul.lookup (by decide+kernel) PySem.F.slot_tuple_rmul.lookup (by decide+kernel)
theorem abz:seqRepeat? (.type "tuple")=pure (some (.builtin "tuple.__mul__")):=by
 unfold seqRepeat?
 rfl
theorem YA(a:Int)(t:Tok)(l:Addr)(items:Array Value)(n:Nat):
  Meets (Builtin.«int.__rmul__» ⟨[.int a t,.ref l],[]⟩) (λ z R j=>j.heap.get? l=some {cls:=.type "tuple",dict:=none,data:=.seq items n,slots:=#[]}/\R (.ok (.ret Value.notImplemented)) j):=
 .of_wp λ prog w aA R j h=>by refine bc h λ b h=>?_;wp_walk;exact⟨_,rfl,h⟩
theorem adD(l:Addr)(items:Array Value)(n:Nat)(x:Int)(u:Tok)(a:¬(decide (x< -(2^63))||decide (x>=2^63))=true)(c:(items.isEmpty||x==1)=true):
  Meets (Builtin.«tuple.__mul__» ⟨[.ref l,.int x u],[]⟩) (λ z R j=>j.heap.get? l=some {cls:=.type "tuple",dict:=none,data:=.seq items n,slots:=#[]}/\R (.ok (.ret (Value.ref l))) j):=
 .of_wp λ prog w aA R j h=>by
  refine bc h λ b h=>nG (h8 a) ?_;wp_walk using wpAny_loadPart' b;exact⟨_,rfl,h⟩
theorem adC(l:Addr)(items:Array Value)(n:Nat)(x:Int)(u:Tok)(a:¬(decide (x< -(2^63))||decide (x>=2^63))=true)(c:¬(items.isEmpty||x==1)=true)(d:(decide (x<=0)||items.isEmpty)=true):
  Meets (Builtin.«tuple.__mul__» ⟨[.ref l,.int x u],[]⟩) (λ z R j=>j.heap.get? l=some {cls:=.type "tuple",dict:=none,data:=.seq items n,slots:=#[]}/\R (.ok (.ret (.ref j.heap.objs.size))) {j with heap:=j.heap.push {cls:=.type "tuple",data:=.seq #[]}}):=
 .of_wp λ prog w aA R j h=>by
  refine bc h λ b h=>nG (h8 a) ?_;wp_walk using wpAny_loadPart' b;exact⟨_,rfl,h⟩
theorem adB(l:Addr)(items:Array Value)(n:Nat)(x:Int)(u:Tok)(b:¬(decide (x< -(2^63))||decide (x>=2^63))=true)(d:¬(items.isEmpty||x==1)=true)(e:¬(decide (x<=0)||items.isEmpty)=true)
  (c:¬(items.size:Int)*x>(2^63-1)/8) (f:¬Builtin.Tuple.tupleTooMany (items.size*x)=true) (hsz:(List.foldl (λ hj pG=>hj++pG) #[] (List.replicate x.toNat items)).size<=sizeLine):
  Meets (Builtin.«tuple.__mul__» ⟨[.ref l,.int x u],[]⟩) (λ z R j=>j.heap.get? l=some {cls:=.type "tuple",dict:=none,data:=.seq items n,slots:=#[]}/\R (.ok (.ret (.ref j.heap.objs.size))) {j with heap:=j.heap.push {cls:=.type "tuple",data:=.seq (List.foldl (λ hj pG=>hj++pG) #[] (List.replicate x.toNat items))}}):=
 .of_wp λ prog w aA R j h=>by
  refine bc h λ a h=>nG (h8 b) ?_;wp_walk using wpAny_loadPart' a;refine nG (h8 c) ?_;wp_walk using wpAny_loadPart' a;exact⟨_,rfl,h⟩
theorem J9{cg:Type}(ai:List cg):∀n,(jX ai n).length=ai.length*n
 |0=>rfl
 |n+1=>by rw[D5,bR,J9 ai n];exact cB (J [_,_] 4462907392 L) (J [_,_] 4462907392 L)
theorem UY{x:List E}{a:Value}{n:Int}{t:Tok}(h:x.length*n.toNat<=c7)(Y:dU n=true)(bM:RelV T W (.tup x) a)(q:A (.tup (jX x n.toNat)) e)(Q:Inv T W e j):
  wpAny (model T.prog T.w) aA (binaryOp .Mult a (.int n t)) (c3 T W A) aR j:=by
 refine fg (id bM) λ a b cC k m ab=>?_;subst k
 have C:=Q.fA _ _ m
 have aX:=ab.length
 have o:=rx Y
 have D:b.size*n.toNat<=8000000:=by rw[<-jl,<-aX];exact h
 have g:¬(decide (n< -2^63)||decide (n>=2^63))=true:=by
  lia
 refine wpAny_binaryOp_repeat_ref rfl ⟨_,C,rfl⟩ (λ p=>typeIs_int p n t) aad PySem.F.fills_int_mul PySem.F.slot_int_rmul abz PySem.F.slot_int_index.lookup
  (call_meets PySem.F.slot_int_rmul (typeIs_int j n t) PySem.F.entry_int_rmul (PySem.F.args_int_rmul_2 _ _) (YA n t a b cC)
   ⟨C,rfl,⟨_,C,rfl⟩,?_⟩)
 by_cases f:(b.isEmpty||n==1)=true
 ·refine call_meets PySem.F.slot_tuple_mul ⟨_,C,rfl⟩ PySem.F.entry_tuple_mul (PySem.F.args_tuple_mul_2 _ _) (adD a b cC n t g f) ⟨C,?_⟩
  have d:jX x n.toNat=x:=by
   rcases Bool.or_eq_true_iff.mp f with c|c
   ·have:=by
     have:b.size=0:=by simpa using c
     exact vX.mp (by rw[aX,jl,this])
    rw[this,D4]
   ·have:=iw.mp c
    clear h Y o;subst this
    show x++[]=x
    rw[gS]
  rw[d] at q
  exact c3.now Q bM q
 ·by_cases en:(decide (n<=0)||b.isEmpty)=true
  ·refine call_meets PySem.F.slot_tuple_mul ⟨_,C,rfl⟩ PySem.F.entry_tuple_mul (PySem.F.args_tuple_mul_2 _ _) (adC a b cC n t g f en) ⟨C,?_⟩
   have hz:n.toNat=0:=by
    rw[Bool.or_eq_true,not_or] at f
    rcases Bool.or_eq_true_iff.mp en with c|c
    ·lia
    ·exact(f.1 c).elim
   have q:=hz▸q
   exact fB (Q.w_ (B:=jX x 0) (items:=#[]) trivial) λ aO l bT r=>⟨aO,_,_,l,bT,r,q⟩
  ·have hsz:(List.foldl (λ hj pG=>hj++pG) #[] (List.replicate n.toNat b)).size<=sizeLine:=by
    rw[<-jl,foldl_rep,bR,J9];simp;exact J [_] 0x2000000519007a120028c81 L D
   have i:b.size*n=b.size*n.toNat:=by
    have:n=n.toNat:=by lia
    rw[this];simp
   exact call_meets PySem.F.slot_tuple_mul ⟨_,C,rfl⟩ PySem.F.entry_tuple_mul (PySem.F.args_tuple_mul_2 _ _) (adB a b cC n t g f en (by rw[i];lia) (by unfold Builtin.Tuple.tupleTooMany;rw[i,decide_eq_true_eq];exact λ s=>bB _ (J [_] 0x20880408a000000518027a120028c81 L D (dR.mp s))) hsz) ⟨C,fB (Q.w_ (by rw[foldl_rep];simpa using ab.rep _)) λ aO l bT r=>⟨aO,_,_,l,bT,r,q⟩⟩
theorem Wo:fillsInplaceSlot (.type "list") "add" (Operator.Add==.Add)=pure false:=by
 show(typeLookup _ _>>=λ a=>pure _)=pure _
 show(pure _:Sem _)=pure _
 exact bA _ (by decide+kernel)
theorem abZ:seqSlot? (.type "list") (dunderI "add")=pure (some (.builtin "list.__iadd__")):=PySem.seqSlot_of PySem.F.slot_list_iadd.lookup (by decide+kernel)
theorem ae1{h:Heap}{a:Addr}{items:Array Value}{n:Nat}(b:IsL h a items n)(f:Array Value->Array Value):
 Heap.SameBut a h (h.update a (Obj.mapSeq f))/\∃m,(h.update a (Obj.mapSeq f)).get? a=some {cls:=.type "list",data:=.seq (f items) m}:=⟨Heap.SameBut.update ..,_,b.update f⟩
theorem Inv.xw(Q:Inv T W e j){i:Nat}{B c2:List E}{items:Array Value}{n tk:Nat}(d:e.get i=some (.list B))(b:IsL j.heap (W.adr i) items n)(f:Array Value->Array Value)(r:bK T W c2 (f items).toList):
  Inv T W (e.upd i (.list c2)) {j with heap:=j.heap.update (W.adr i) (Obj.mapSeq f),toks:=tk}:=by
 exact bc (Q.obj i _ d) λ a h=>LF (ae1 b f) λ c m g=>Q.mut d trivial trivial (by rw[a];exact c) ⟨a,f _,m,g,r⟩
theorem Inv.listAt(Q:Inv T W e j){i:Nat}{B:List E}(d:e.get i=some (.list B)):∃items n,IsL j.heap (W.adr i) items n/\bK T W B items.toList:=pH (Q.obj i _ d) λ a items n C I=>cu items n ⟨C,I⟩
theorem Yy{i:Nat}{x H:List E}{c:E}{b:Value}(d:e.get i=some (.list x))(h:x.length+H.length<=c7)(f:RelV T W c b)(k:listOf e c=some H)(q:A (.ref i) (e.upd i (.list (x++H))))(Q:Inv T W e j):
  wpAny (model T.prog T.w) aA (inplaceOp .Add (.ref (W.adr i)) b) (c3 T W A) aR j:=by
 refine fC (Q.listAt d) λ g cC C ab=>fg (lX Q f k) λ b a dh l I aT=>?_;clear f;subst l
 have D:g.size+a.size<=8000000:=by rw[<-jl,<-jl,<-ab.length,<-aT.length];exact h
 refine jm (bZ (wpAny_typeOf ⟨_,C,rfl⟩ (bZ (wpAny_of_eq Wo (bZ (wpAny_binaryOp1_none ⟨_,C,rfl⟩ ⟨_,I,rfl⟩ noFill_list_add (bZ (wpAny_of_eq abZ (bZ (wpAny_rule (call_meets PySem.F.slot_list_iadd ⟨_,C,rfl⟩ PySem.F.entry_list_iadd (PySem.F.args_list_iadd_2 _ _) (AutoSeq1.list___iadd___list_list_0 _ g cC b a dh (by simp [Builtin.List.listTooLong,sizeLine];lia) (J [_,_] 0x800000146401e84800a329001 L D) (J [_,_] 0x114000000a30148001e84800a329001 L D)) ⟨C,I,?_⟩)))))))))))
 exact⟨W,.ref i,_,dc.refl _ _,Q.xw d C (λ D=>D++a) (tk:=j.toks) (by rw[Array.toList_append];exact ab.append aT),⟨rwl Q.n (Q.lt i _ d),rfl⟩,q⟩
theorem Yx{a b:Int}{t u:Tok}(q:A (.int (a+b)) e)(Q:Inv T W e j):wpAny (model T.prog T.w) aA (inplaceOp .Add (.int a t) (.int b u)) (c3 T W A) aR j:=
 PyProof.Rows.iadd_int (.now (v:=.int _) Q.tok ⟨_,rfl⟩ q)
theorem Yz{a b:Int}{t u:Tok}(q:A (.int (a-b)) e)(Q:Inv T W e j):wpAny (model T.prog T.w) aA (inplaceOp .Sub (.int a t) (.int b u)) (c3 T W A) aR j:=
 PyProof.Rows.isub_int (.now (v:=.int _) Q.tok ⟨_,rfl⟩ q)
end
end
end
section
open PySem PySem.W PySem.Calls PyProof.Rows PySem.MeetsSeq PySem.SeqAt
section
section
variable{T:c5}{W:bf}{j:Shared}
theorem bK.size{B:List E}{items:Array Value}(r:bK T W B items.toList):B.length=items.size:=r.length.trans jl
noncomputable def rX(h:Heap):Value->Option (List Value)
 |.ref l=>match h.get? l with
  |some ⟨_,_,.seq items _,_⟩=>some items.toList
  |_=>none
 |_=>none
noncomputable def yz:Value->Value->Bool
 |.bool a,.bool b=>a==b
 |.int a _,.int b _=>a==b
 |.str a _,.str b _=>a==b
 |_,_=>false
noncomputable def kh(h:Heap):Nat->Value->Value->Bool
 |0,H,x=>H==x||yz H x
 |n+1,H,x=>H==x||match rX h H,rX h x with
  |some a,some b=>a.length==b.length&&(List.range a.length).all λ y=>kh h n (a.getD y .none) (b.getD y .none)
  |_,_=>yz H x
theorem vq{h:Heap}{l:Addr}{c:Value}{i:Array Value}{n:Nat}(d:h.get? l=some {cls:=c,data:=.seq i n}):rX h (.ref l)=some i.toList:=by
 show(match h.get? l with|some ⟨_,_,.seq items _,_⟩=>some _|_=>none)=_
 rw[d]
set_option tactic.hygienic true in
theorem Jy(h:Heap)(n:Nat)(H:Value):kh h n H H=true:=by
 rcases n with _|_
 case zero=>exact(bA (·||_) (eC H)).trans (Bool.true_or _)
 case succ n=>exact(bA (·||_) (eC H)).trans (Bool.true_or _)
theorem JW{s q:Bool}(h:s=true->q=true):(s||q)=q:=by rcases s with _|_;rfl;exact(h rfl).symm
set_option tactic.hygienic true in
theorem te{h:Heap}{n:Nat}{H x:Value}{r:Bool}(d:rX h H=none\/rX h x=none)(k:H=x->r=true)(a:yz H x=r):r=kh h n H x:=by
 have D:(H==x||yz H x)=r:=by rw[a];exact JW λ q=>k (eq_of_beq q)
 rcases n with _|_
 case zero=>exact D.symm
 case succ n=>
  refine D.symm.trans (bA _ ?_)
  rcases d with d|d
  ·rw[d]
  ·rw[d];cases rX h H<;>rfl
structure AK(aA:Around)(j:Shared)(n:Nat)(x H:Value)(r:Bool):Prop where
 rc:RcAt aA j x H r
 eq:EqAt aA j x H r
 ne:RcNeAt aA j x H (!r)
 kh:r=kh j.heap n x H
set_option tactic.hygienic true
theorem Lu{n:Nat}{aA:Around}{a b:E}{x H:Value}{r:Bool}(sub:∀c p,W.F c=some p->j.heap.get? c=some p)(b6:aA.units<cLine)(h:vE a b=some r)(bM:RelV T W a x)(e:RelV T W b H):AK aA j n x H r:=by
 have N:∀{b:E}{H:Value}{r:Bool},zr b=some r->RelV T W b H->H=.none/\r=false:=λ h r=>by refine bc (YF h) λ g k=>?_;subst g;subst k;exact⟨r,rfl⟩
 rcases a with _|_
 case none=>
  subst bM
  rcases b with _|_
  case none=>obtain rfl:=ck h;subst e;exact⟨RcAt.none_none,EqAt.same _,RcNeAt.none_none,(Jy ..).symm⟩
  case tup _=>
   obtain rfl:=ck h;refine fg e λ l i n m f z=>?_;clear e;subst m
   have t:j.heap.IsTuple l i:=⟨_,sub _ _ f,rfl,_,rfl⟩
   exact⟨RcAt.none_tuple t b6,EqAt.none_tuple t b6,RcNeAt.none_tuple t b6,te (.inl rfl) (λ d=>nomatch d) rfl⟩
  case lst _=>
   obtain rfl:=ck h;refine fg e λ l i n o f z=>?_;clear e;subst o
   have t:j.heap.IsList l i:=⟨_,sub _ _ f,rfl,_,rfl⟩
   exact⟨RcAt.none_list t b6,EqAt.none_list t b6,RcNeAt.none_list t b6,te (.inl rfl) (λ d=>nomatch d) rfl⟩
  all_goals exact bF h
 case bool s=>
  subst bM
  refine a' (gD.mp h) λ q d v=>?_;subst v
  obtain rfl:=TB d
  subst e
  exact⟨RcAt.bool_bool _ _,EqAt.bool_bool _ _,RcNeAt.bool_bool _ _,te (.inl rfl) (λ d=>iw.mpr (Value.bool.inj d)) rfl⟩
 case int s=>
  refine a7 bM λ t w=>?_;clear bM;subst w
  refine a' (gD.mp h) λ q d y=>?_;subst y
  obtain rfl:=yv d
  refine a7 e λ u A=>?_;clear e;subst A
  exact⟨RcAt.int_int _ _ _ _,EqAt.int_int _ _ _ _,RcNeAt.int_int _ _ _ _,te (.inl rfl) (λ d=>iw.mpr (Value.int.inj d).1) rfl⟩
 case str s=>
  refine a7 bM λ t B=>?_;clear bM;subst B
  refine a' (gD.mp h) λ q d C=>?_;subst C
  obtain rfl:=yx d
  refine a7 e λ u D=>?_;clear e;subst D
  rw[<-acQ]
  exact⟨RcAt.str_str _ _ _ _,EqAt.str_str _ _ _ _,RcNeAt.str_str _ _ _ _,te (.inl rfl) (λ d=>iw.mpr (Value.str.inj d).1) rfl⟩
 case tup s=>
  refine bc (N h e) λ G I=>?_;subst G;subst I
  refine fg bM λ l i n J f z=>?_;clear bM;subst J
  have t:j.heap.IsTuple l i:=⟨_,sub _ _ f,rfl,_,rfl⟩
  exact⟨RcAt.tuple_none t b6,EqAt.tuple_none t b6,RcNeAt.tuple_none t b6,te (.inr rfl) (λ d=>nomatch d) rfl⟩
 case lst s=>
  refine bc (N h e) λ K L=>?_;subst K;subst L
  refine fg bM λ l i n M f z=>?_;clear bM;subst M
  have t:j.heap.IsList l i:=⟨_,sub _ _ f,rfl,_,rfl⟩
  exact⟨RcAt.list_none t b6,EqAt.list_none t b6,RcNeAt.list_none t b6,te (.inr rfl) (λ d=>nomatch d) rfl⟩
 all_goals exact bF h
theorem ae9{f:E->E->Option Bool}{g:Value->Value->Bool}{aA:Around}(e:∀{a b:E}{s q:Value}{d:Bool},f a b=some d->RelV T W a s->RelV T W b q->EqAt aA j s q d/\d=g s q){B:List E}:
  ∀{aV:List E}{ai dr:List Value}{r:Bool},B.length=aV.length->j2 f B aV=some r->bK T W B ai->bK T W aV dr->
   (∀y,y<ai.length->EqAt aA j (ai.getD y .none) (dr.getD y .none) (g (ai.getD y .none) (dr.getD y .none)))/\r=(List.range ai.length).all λ y=>g (ai.getD y .none) (dr.getD y .none):=by
 induction B with
 |nil=>
  intro aV ai dr r _ h ab _
  rcases ai with _|_
  case nil=>obtain rfl:=ck h;exact⟨λ y dE=>((bB y) dE).elim,rfl⟩
  case cons _ _=>exact ab.elim
 |cons v B i=>
  intro aV ai dr r c h ab aT
  rcases ai with _|_
  case nil=>exact ab.elim
  case cons x ai=>
   rcases aV with _|_
   case nil=>exact((Nat.succ_ne_zero _) c).elim
   case cons w aV=>
    rcases dr with _|_
    case nil=>exact aT.elim
    case cons H dr=>
     refine ae8 h λ s q k l d=>?_
     refine bc (e k ab.1 aT.1) λ m n=>?_;subst n
     refine bc (i (Nat.succ.inj c) l ab.2 aT.2) λ o p=>⟨λ y dE=>?_,?_⟩
     ·rcases y with _|_
      case zero=>exact m
      case succ y=>exact o y (sl dE)
     ·rw[<-d,fW,List.range_succ_eq_map,List.all_cons,List.all_map,p];rfl
set_option tactic.hygienic false
theorem HD{i:Array Value}{y:Nat}(h:y<i.size):i.toList.getD y .none=i[y]:=by
 rw[List.getD_eq_getElem?_getD,Array.getElem?_toList,Array.getElem?_eq_getElem h];rfl
theorem Dx{h:Heap}{n:Nat}{l dV:Addr}{a b:List Value}{r:Bool}(c:rX h (.ref l)=some a)(e:rX h (.ref dV)=some b)(d:r=(a.length==b.length&&(List.range a.length).all λ y=>kh h n (a.getD y .none) (b.getD y .none))):r=kh h (n+1) (.ref l) (.ref dV)/\(l=dV->r=true):=by
 have k:l=dV->r=true:=λ q=>by
  subst q
  obtain rfl:=ck (c.symm.trans e)
  rw[d,eC,Bool.true_and,k0]
  exact λ y z=>Jy ..
 refine⟨?_,k⟩
 unfold kh
 rw[c,e]
 exact(JW λ q=>d▸k (Value.ref.inj (eq_of_beq q))).symm▸d
theorem Dw{aA:Around}{n:Nat}{l dV:Addr}{r:Bool}(rc:RcAt aA j (.ref l) (.ref dV) r)(ne:RcNeAt aA j (.ref l) (.ref dV) (!r))(m:r=kh j.heap n (.ref l) (.ref dV)/\(l=dV->r=true)):AK aA j n (.ref l) (.ref dV) r:=by
 refine⟨rc,?_,ne,m.1⟩
 by_cases q:l=dV
 ·rw[m.2 q,q];exact EqAt.same _
 ·exact EqAt.of_refs q rc
theorem EJ(sub:∀c p,W.F c=some p->j.heap.get? c=some p)(n:Nat):∀{aA:Around}{a b:E}{x H:Value}{r:Bool},aA.units+n<cLine->gj n a b=some r->RelV T W a x->RelV T W b H->AK aA j n x H r:=by
 induction n with
 |zero=>exact λ b6 h bM o=>Lu sub b6 h bM o
 |succ n N=>
  intro aA a b x H r b6 h bM o
  have s:=sm (dD ..) b6
  have items:∀{v w:List E}{i y:Array _},v.length=w.length->j2 (gj n) v w=some r->bK T W v i.toList->bK T W w y.toList->
    i.size=y.size/\(∀k (C:k<i.size)(I:k<y.size),EqAt aA.in1 j i[k] y[k] (kh j.heap n (i.toList.getD k .none) (y.toList.getD k .none)))/\r=(List.range i.size).all λ k=>kh j.heap n (i.toList.getD k .none) (y.toList.getD k .none):=by
   intro v w i y m h ab aT
   exact bc (ae9 (λ C I ag=>(λ D=>⟨D.eq,D.kh⟩) (N (by rw[Around.in1_units,vY];exact b6) C I ag)) m h ab aT) λ t q=>⟨ab.size.symm.trans (m.trans aT.size),λ k C I=>by have:=t k C;rwa [HD C,HD I] at this⊢,q⟩
  have len:∀{i y:Array Value}{g:Nat->Bool},i.size=y.size->r=(List.range _).all g->r=(i.toList.length==y.toList.length&&(List.range i.toList.length).all g):=λ d k=>by rw[jl,jl,d,eC,<-d];exact k
  refine ae5 h (λ v w B G m J=>?_) (λ v w B G m J=>?_) (λ v w B G m J=>?_) λ h=>Lu sub s h bM o
  ·obtain rfl:=yy B;obtain rfl:=yy G
   refine fg bM λ l u cC O e ab=>?_;subst O
   refine fg o λ dV A dh P f aT=>?_;clear o;subst P
   have e:=sub _ _ e
   have f:=sub _ _ f
   refine e_ (items (iw.mp m) J ab aT) λ D t q=>?_
   have hi:j.heap.IsTuple l u:=⟨_,e,rfl,_,rfl⟩
   have jc:j.heap.IsTuple dV A:=⟨_,f,rfl,_,rfl⟩
   have d:((List.range (min u.size A.size)).all (λ k=>kh j.heap n (u.toList.getD k .none) (A.toList.getD k .none))&&u.size==A.size)=r:=by rw[<-D,Nat.min_self,eC,Bool.and_true];exact q.symm
   exact Dw (d▸RcAt.tuples hi jc s t) (d▸RcNeAt.tuples hi jc s t) (Dx (vq e) (vq f) (len D q))
  ·obtain rfl:=yw B;obtain rfl:=yw G
   refine fg bM λ l u cC K e ab=>?_;clear bM;subst K
   refine fg o λ dV A dh L f aT=>?_;clear o;subst L
   have e:=sub _ _ e
   have f:=sub _ _ f
   exact e_ (items (iw.mp m) J ab aT) λ D t q=>Dw (q▸RcAt.lists ⟨_,e,rfl,_,rfl⟩ ⟨_,f,rfl,_,rfl⟩ D s t) (q▸RcNeAt.lists ⟨_,e,rfl,_,rfl⟩ ⟨_,f,rfl,_,rfl⟩ D s t) (Dx (vq e) (vq f) (len D q))
  ·obtain rfl:=yw B;obtain rfl:=yw G
   refine fg bM λ l u cC K e ab=>?_;clear bM;subst K
   refine fg o λ dV A dh L f aT=>?_;clear o;subst L J
   have e:=sub _ _ e
   have f:=sub _ _ f
   rw[ab.size,aT.size] at m
   have M:=bA (!·) m
   exact Dw (RcAt.lists_lengths ⟨_,e,rfl,_,rfl⟩ ⟨_,f,rfl,_,rfl⟩ M s) (RcNeAt.lists_lengths ⟨_,e,rfl,_,rfl⟩ ⟨_,f,rfl,_,rfl⟩ M s) (Dx (vq e) (vq f) (by rw[jl,jl,m];rfl))
end
end
section
section
variable{T:c5}{K:Frag}{P:eW}{aA:Around}{aR:Value->Shared->Prop}{W:bf}{e:U}{j:Shared}{n:Nat}
noncomputable def bf.now(W:bf)(h:Heap):bf:={W with F:=λ a=>h.get? a}
theorem Inv.DJ(Q:Inv T W e j):gA W (W.now j.heap):=⟨Q.fA,λ z z=>rfl,bw _,λ z z=>rfl⟩
theorem Inv.gF(Q:Inv T W e j){v:E}{x:Value}(r:RelV T W v x):RelV T (W.now j.heap) (gF e v) x:=by
 refine VH (F:=λ v=>RelV T (W.now j.heap) v x) (r.le Q.DJ) λ i B D d=>?_
 subst D
 refine bc (id r) λ z a=>?_;subst a
 rcases d with d|d
 ·exact pH (Q.obj _ _ d) λ z items cf C I=>⟨_,items,cf,rfl,C,I.le Q.DJ⟩
 ·exact fC (Q.obj _ _ d) λ items cf C I=>⟨_,items,cf,rfl,Q.fA _ _ C,I.le Q.DJ⟩
set_option tactic.hygienic true in
theorem rm(Q:Inv T W e j)(f:∃p,T.h₀.get? sysModules=some p){v:E}{x:Value}{az:List (List Nat)}{B:List E}(r:RelV T W v x)(h:ic e v=some (az,B)):
  ∃a b,x=.ref a/\(a==sysModules)=false/\j.heap.DictOf T.knd a b/\b.map (·.1)=az.map strOf/\bK T W B (b.map (·.2)):=by
 rcases v with _|_
 case dct eG c2=>
  have d:=Prod.mk.inj (dd h)
  obtain⟨rfl,rfl⟩:=d
  refine r7 r λ a p b g k C I ag c=>?_;clear r;subst g
  exact cu a b ⟨rfl,k,nH.mpr ⟨p,Q.fA _ _ C,I⟩,ag,c⟩
 case ref i=>
  refine bc r λ z l=>?_;clear r;subst l
  have d:=VM (show GS (e.get i)=some (az,B) from h)
  refine Az (Q.obj _ _ d) λ m p b C I ag c=>?_
  refine cu _ b ⟨rfl,?_,nH.mpr ⟨p,C,I⟩,ag,c⟩
  refine a7 f λ os n=>?_;clear f
  have:=(Q.free _ _ d trivial).1
  rw[m] at this
  rw[fH]
  intro q
  rw[q,Q.base _ _ n] at this
  cases this
 all_goals exact bF h
theorem Ls(k:Str)(H:Value)(r:List (Str×Value))(x:Str):valueAt ((k,H)::r) x=if k=x then some H else valueAt r x:=by
 unfold valueAt
 by_cases h:k=x
 ·simp [h]
 ·simp [h]
set_option tactic.hygienic true in
theorem BI(x:List Nat){az:List (List Nat)}:∀{B:List E}{a:List (Str×Value)},a.map (·.1)=az.map strOf->bK T W B (a.map (·.2))->
  match hV az B x with|some v=>∃H,valueAt a (strOf x)=some H/\RelV T W v H|none=>valueAt a (strOf x)=none:=by
 induction az with
 |nil=>
  intro B a b _
  obtain rfl:=List.map_eq_nil_iff.mp b
  rfl
 |cons k az c=>
  intro B a b h
  rcases a with _|_
  case nil=>cases b
  case cons d a=>
   rcases B with _|_
   case nil=>exact h.elim
   case cons v B=>
    have b:=e0 b
    have c:=c b.2 h.2
    rw[VY,Ls _ _,show d.1=strOf k from b.1]
    by_cases q:x=k
    ·rw[q,eC,aU rfl]
     exact⟨d.2,rfl,h.1⟩
    ·rw[fH.mpr q,a8 λ D=>q (vu D).symm]
     exact c
theorem sJ:∀{az:List (List Nat)}{a:List (Str×Value)},a.map (·.1)=az.map strOf->a.length=az.length:=λ h=>by
 have:=bA List.length h
 simpa using this
set_option tactic.hygienic true
theorem VO{f:Around}(Q:Inv T W e j)(b6:f.units+10<cLine){ls:List (List Nat)}{aV:List E}{c1:List (Str×Value)}(g:c1.map (·.1)=ls.map strOf)(i:bK T W aV (c1.map (·.2))){az:List (List Nat)}:
  ∀{B:List E}{a:List (Str×Value)}{r:Bool},a.map (·.1)=az.map strOf->bK T W B (a.map (·.2))->mZ e ls aV az B=some r->KeqHits f j c1 a r:=by
 induction az with
 |nil=>
  intro B a r b _ h
  obtain rfl:=List.map_eq_nil_iff.mp b
  obtain rfl:=ck h
  exact .nil
 |cons k az l=>
  intro B a r b c h
  rcases a with _|_
  case nil=>cases b
  case cons m a=>
   rcases B with _|_
   case nil=>exact c.elim
   case cons v B=>
    have b:=e0 b
    have c_:=BI k g i
    obtain⟨n,H⟩:=m
    obtain rfl:n=strOf k:=b.1
    refine VN h (λ q d=>?_) λ t u w q o p d=>?_
    ·subst d
     rw[q] at c_
     exact .miss c_
    ·subst d
     rw[q] at c_
     exact a' c_ λ D hz s=>.hit hz (EJ (λ z z d=>d) 10 b6 o (Q.gF c.1) (Q.gF s)).eq (l b.2 c.2 p)
theorem KS(x:List Nat):∀t,iq x t=true↔∃i,i+x.length<=t.length/\((t.drop i).take x.length==x)=true
 |[]=>by
  show x.isEmpty=true↔_
  rcases x with _|_
  case nil=>simp
  case cons a r=>simp
 |a::t=>by
  rw[acY,Bool.or_eq_true,KS x t,List.isPrefixOf_iff_prefix]
  constructor
  ·rintro(h|⟨i,C,I⟩)
   ·refine a7 h λ r V=>⟨0,?_,?_⟩
    ·rw[<-V];simp
    ·rw[<-V];simp
   ·exact⟨i+1,J [_,_,_] 0x88c0284440000629001 L C,by simpa using I⟩
  ·rintro⟨i,C,I⟩
   rcases i with _|_
   case zero=>
    left
    rw[mU,iw] at I
    rw[<-I];exact List.take_prefix ..
   case succ i=>right;exact⟨i,J [_,_,_] 0x31480004460142220001 L C,by simpa using I⟩
set_option tactic.hygienic false
theorem JM(x t:List Nat):(!(Builtin.Str.occurrences (strOf t) (strOf x) 0 (strOf t).length 1).isEmpty)=iq x t:=by
 rw[Bool.eq_iff_iff,StrLaws.found_iff,KS]
 simp only[StrLaws.subAt_eq,rZ]
 simp [strOf]
set_option tactic.hygienic true in
theorem Tv{e:Around}{a:E}{x:Value}(sub:∀c p,W.F c=some p->j.heap.get? c=some p)(b6:e.units+10<cLine)(bM:RelV T W a x){B:List E}:
  ∀{ai:List Value}{r:Bool},bK T W B ai->jJ a B=some r->(∀H∈ai,EqAt e j H x (kh j.heap 10 H x))/\ai.any (λ H=>kh j.heap 10 H x)=r:=by
 induction B with
 |nil=>
  intro ai r C h
  rcases ai with _|_
  case nil=>exact⟨λ H b_=>absurd b_ List.not_mem_nil,dd h⟩
  case cons _ _=>exact C.elim
 |cons b B f=>
  intro ai r C h
  rcases ai with _|_
  case nil=>exact C.elim
  case cons H ai=>
   refine Tu h λ s q g i d=>?_
   ·have k:=EJ sub 10 b6 g C.1 bM
    refine bc (f C.2 i) λ l m=>⟨λ D hz=>?_,?_⟩
    ·rcases ew.mp hz with rfl|hz
     ·exact rwr k.kh k.eq
     ·exact l D hz
    ·rw[List.any_cons,m,<-k.kh];exact d
end
end
section
section
variable{T:c5}{K:Frag}{P:eW}{aA:Around}{aR:Value->Shared->Prop}{W:bf}{e:U}{j:Shared}{n:Nat}
theorem Lj(b6:aA.units+40<cLine):aA.in1.units+10<cLine:=sm (e7 (ae rfl:1+10<=40) _) b6
theorem G3(S:St T K P)(Q:Inv T W e j)(b6:aA.units+40<cLine){a b:E}{x H:Value}{r:Bool}(h:jO e a b=some r)(bM:RelV T W a x)(n:RelV T W b H):
  (∀{A:Value->Shared->Prop},A (.bool r) j->wpAny (model T.prog T.w) aA (compareOp .Eq x H) A aR j)/\∀{A:Value->Shared->Prop},A (.bool (!r)) j->wpAny (model T.prog T.w) aA (compareOp .NotEq x H) A aR j:=by
 have K':aA.units+10<cLine:=sm (e7 (by decide) _) b6
 have l:=sm (dD ..) b6
 refine V_ h (λ az B ls aV C I f h=>?_) (λ az B ls aV C I f h=>?_) λ h=>?_
 ·refine tO (rm Q S.sys bM C) λ eL c a0 h1 g m p=>?_;subst a0
  refine tO (rm Q S.sys n I) λ ed c1 bL d' i gh s=>?_;subst bL
  have o:(c.length==c1.length)=(az.length==ls.length):=by rw[sJ m,sJ gh]
  have k:=λ(_:c.length=c1.length)=>VO Q (Lj b6) gh s m p h
  have d:(c.length==c1.length&&r)=r:=by rw[o,f,Bool.true_and]
  exact⟨λ q=>keq_eq h1 d' g i l k (rwl d q),λ q=>keq_ne h1 d' g i l k (rwl d q)⟩
 ·refine tO (rm Q S.sys bM C) λ eL c a0 h1 g m p=>?_;subst a0
  refine tO (rm Q S.sys n I) λ ed c1 bL d' i gh s=>?_;subst bL
  have o:(c.length==c1.length)=(az.length==ls.length):=by rw[sJ m,sJ gh]
  subst h
  have f:=o.trans f
  have k:c.length=c1.length->KeqHits aA.in1 j c1 c true:=λ d=>cy (f.symm.trans (iw.mpr d))
  have d:(c.length==c1.length&&true)=false:=by rw[f,Bool.false_and]
  exact⟨λ q=>keq_eq h1 d' g i l k (rwl d q),λ q=>keq_ne h1 d' g i l k (rwl d q)⟩
 ·have k:=EJ (λ z z d=>d) 10 K' h (Q.gF bM) (Q.gF n)
  exact⟨λ q=>EqBoolInt.of_rc k.rc q,λ q=>k.ne _ _ _ _ q⟩
set_option tactic.hygienic true in
theorem I'(k:List Nat){az:List (List Nat)}:∀{b:List (Str×Value)},b.map (·.1)=az.map strOf->(valueAt b (strOf k)).isSome=az.contains k:=by
 induction az with
 |nil=>intro b a;obtain rfl:=List.map_eq_nil_iff.mp a;rfl
 |cons D az c=>
  intro b a
  rcases b with _|_
  case nil=>cases a
  case cons s b=>
   have a:=e0 a
   rw[Ls _ _,List.contains_cons,show s.1=strOf D from a.1]
   by_cases hz:k=D
   ·rw[hz,aU rfl,eC];rfl
   ·rw[a8 λ d=>hz (vu d).symm,fH.mpr hz];exact c a.2
def AM(T:c5)(aA:Around)(aR:Value->Shared->Prop)(j:Shared)(x H:Value)(r:Bool):Prop:=
 ∀A:Value->Shared->Prop,((∀tk,A (.bool r) {j with toks:=tk})->wpAny (model T.prog T.w) aA (compareOp .In x H) A aR j)/\((∀tk,A (.bool (!r)) {j with toks:=tk})->wpAny (model T.prog T.w) aA (compareOp .NotIn x H) A aR j)
theorem in_dict{a:E}{x:Value}{r:Bool}{az:List (List Nat)}{l:Addr}{b:List (Str×Value)}(bM:RelV T W a x)(h:(h_ a).bind (λ k=>some (az.contains k))=some r)(Y:(l==sysModules)=false)(c:j.heap.DictOf T.knd l b)(d:b.map (·.1)=az.map strOf):AM T aA aR j x (.ref l) r:=by
 refine a' (oS h) λ k f V=>?_;clear h;subst f
 obtain rfl:=dd V
 refine a7 bM λ t g=>?_;clear bM;subst g
 have e:=eC (strOf k)
 exact λ A=>⟨λ q=>wpAny_in_of e Y c.mapOf (I' k d▸q _),λ q=>wpAny_notIn_of e Y c.mapOf (I' k d▸q _)⟩
set_option tactic.hygienic true in
theorem II(S:St T K P)(Q:Inv T W e j)(b6:aA.units+40<cLine){a b:E}{x H:Value}{r:Bool}(h:C6 e a b=some r)(bM:RelV T W a x)(c:RelV T W b H):AM T aA aR j x H r:=by
 have any:∀{B:List E}{items:Array _},jJ a B=some r->bK T W B _->(∀H∈items,EqAt _ j H x _)/\items.any _=r:=λ h ab=>
  (Tv Q.fA (Lj b6) bM ab h).imp (λ k H b_=>k H (Array.mem_toList_iff.mpr b_)) λ k=>by rw[<-Array.any_toList];exact k
 have lists:∀{B:List E}{l:Addr}{items:Array _}{cf:Nat},jJ a B=some r->IsL j.heap l items cf->bK T W B items.toList->AM T aA aR j x (.ref l) r:=by
  intro B l items cf h o ab A
  have fa:j.heap.IsList l _:=⟨_,o,rfl,_,rfl⟩
  exact bc (any h ab) λ g V=>⟨λ q=>in_listAt _ fa g (rwl V (q _)),λ q=>notIn_listAt _ fa g (rwl V (q _))⟩
 rcases b with _|_
 case str t=>
  refine a' (oS h) λ k s V=>?_;subst s
  obtain rfl:=dd V
  refine a7 bM λ L u=>?_;subst u
  refine a7 c λ M v=>?_;clear c;subst v
  exact λ A=>⟨λ q=>PySem.P.in_str (JM k t▸q _),λ q=>PySem.P.notIn_str (JM k t▸q _)⟩
 case tup B=>
  refine fg c λ l items cf w f ab=>?_;subst w
  have fa:j.heap.IsTuple l _:=⟨_,Q.fA _ _ f,rfl,_,rfl⟩
  exact bc (any h ab) λ g V=>λ A=>⟨λ q=>in_tupleAt _ fa g (rwl V (q _)),λ q=>notIn_tupleAt _ fa g (rwl V (q _))⟩
 case lst B=>
  refine fg c λ l items cf y f ab=>?_;subst y
  exact lists h (Q.fA _ _ f) ab
 case dct az B=>
  refine tO (rm Q S.sys c rfl) λ l D F Y m n z=>?_;subst F
  exact in_dict bM h Y m n
 case ref i=>
  have h:(match e.get i with|some p=>C5 a p|none=>none)=some r:=h
  rcases d:e.get i with _|_
  case none=>rw[d] at h;exact bF h
  case some p=>
   rw[d] at h
   rcases p with _|_
   case list B=>
    refine bc c λ z G=>?_;clear c;subst G
    exact pH (Q.obj _ _ d) λ z items cf=>lists h
   case flist B=>
    refine bc c λ z I=>?_;clear c;subst I
    exact fC (Q.obj _ _ d) λ items cf C=>lists h (Q.fA _ _ C)
   case dict az B=>
    refine tO (rm Q S.sys c (az:=az) (B:=B) (by unfold ic;simp only[d])) λ l D J Y m n z=>?_;subst J
    exact in_dict bM h Y m n
   case inst _ _ _=>exact bF h
 all_goals exact bF h
theorem YH{a:E}(d:isNone a=true):a=.none:=by rcases a with _|_<;>first|rfl|exact cy d
set_option tactic.hygienic true in
theorem abw{a:E}(bM:RelV T W a .none):a=.none:=by
 rcases a with _|_
 case none=>rfl
 case bool b=>cases bM
 case fn k=>cases bM
 case cls k=>cases bM
 case bi k=>exact nomatch bM.1
 case typ k=>cases bM
 case rng i y k=>exact AB bM λ z z z z d z=>nomatch d
 case tup i=>exact AA bM λ z z z d z=>nomatch d
 case lst i=>exact AA bM λ z z z d z=>nomatch d
 case dct i y=>exact AA bM λ z z z d z=>nomatch d
 case int i=>exact nomatch bM.choose_spec
 case str i=>exact nomatch bM.choose_spec
 case ref i=>exact nomatch bM.2
theorem IV{a b:E}{x H:Value}{r:Bool}(h:C_ a b=some r)(bM:RelV T W a x)(e:RelV T W b H){A:Value->Shared->Prop}:
  (A (.bool r) j->wpAny (model T.prog T.w) aA (compareOp .Is x H) A aR j)/\(A (.bool (!r)) j->wpAny (model T.prog T.w) aA (compareOp .IsNot x H) A aR j):=by
 rcases b with _|_
 case none=>
  obtain rfl:=dd h
  subst e
  rcases d:isNone a with _|_
  case true=>obtain rfl:=YH d;subst bM;exact⟨wpAny_is_self rfl,wpAny_isNot_self rfl⟩
  case false=>
   have c:x≠.none:=λ D=>by subst D;have d:=abw bM▸d;cases d
   exact⟨is_none_ne c,isnot_none_ne c⟩
 all_goals exact bF h
theorem DB{f:Option Bool}{r:Bool}(h:f.map (!·)=some r):f=some (!r):=by refine a' (gD.mp h) λ q k a=>?_;clear h;subst a;rw[k,Bool.not_not]
set_option tactic.hygienic true in
theorem Bs(S:St T K P)(Q:Inv T W e j)(b6:aA.units+40<cLine){d:CmpOp}{a b:E}{x H:Value}{r:Bool}{A:Value->Shared->Prop}(h:lM e d a b=some r)(bM:RelV T W a x)(c:RelV T W b H)(q:∀tk,A (.bool r) {j with toks:=tk}):
  wpAny (model T.prog T.w) aA (compareOp d x H) A aR j:=by
 have g:∀{f:Int->Int->Option _},(fO a).bind (λ x=>(fO b).bind (f x))=some r->∃i t y u,x=.int i t/\H=.int y u/\f i y=some r:=λ k=>by
  refine a' (jo k) λ i n k=>a' (jo k) λ y o k=>?_
  subst n o
  refine a7 bM λ t p=>?_;clear bM;subst p
  refine a7 c λ u s=>?_;clear c;subst s
  exact hZ i t y u ⟨rfl,rfl,k⟩
 have l:∀{f:Int->Option _},(fO b).bind f=some r->∃y u,H=.int y u/\f y=some r:=λ k=>by
  refine a' (jo k) λ y v k=>?_;subst v
  refine a7 c λ u B=>?_;subst B
  exact cu y u ⟨rfl,k⟩
 have m:∀{f:List _->Option _},(h_ b).bind f=some r->∃y u,H=.str (strOf y) u/\f y=some r:=λ k=>by
  refine a' (oS k) λ y C k=>?_;subst C
  refine a7 c λ u D=>?_;clear c;subst D
  exact cu y u ⟨rfl,k⟩
 rcases d with _|_
 case Eq=>exact(G3 S Q b6 h bM c).1 (q _)
 case NotEq=>exact(G3 S Q b6 (DB h) bM c).2 (rwl (Bool.not_not r) (q _))
 case In=>exact(II S Q b6 h bM c A).1 q
 case NotIn=>exact(II S Q b6 (DB h) bM c A).2 (rwl (Bool.not_not r) q)
 case Is=>exact(IV h bM c).1 (q _)
 case IsNot=>exact(IV (DB h) bM c).2 (rwl (Bool.not_not r) (q _))
 case Lt=>
  rcases a with _|_
  case int i=>refine fC (l h) λ y u F h=>?_;subst F;refine a7 bM λ t G=>?_;clear bM;subst G;obtain rfl:=dd h;exact PyProof.Rows.lt_int (q _)
  case str i=>refine fC (m h) λ y u I h=>?_;subst I;refine a7 bM λ t J=>?_;clear bM;subst J;obtain rfl:=dd h;exact PySem.P.lt_str (q _)
  all_goals exact bF h
 case LtE=>
  rcases a with _|_
  case int i=>refine fC (l h) λ y u L h=>?_;subst L;refine a7 bM λ t M=>?_;clear bM;subst M;obtain rfl:=dd h;exact PyProof.Rows.le_int (q _)
  case str i=>refine fC (m h) λ y u N h=>?_;subst N;refine a7 bM λ t O=>?_;clear bM;subst O;obtain rfl:=dd h;exact PySem.P.le_str (q _)
  all_goals exact bF h
 case Gt=>refine r8 (g h) λ i t y u R U h=>?_;subst R;subst U;obtain rfl:=dd h;exact PyProof.Rows.gt_int (q _)
 case GtE=>refine r8 (g h) λ i t y u V X h=>?_;subst V;clear c l m g;subst X;obtain rfl:=dd h;exact PyProof.Rows.ge_int (q _)
end
end
section
section
variable{T:c5}{K:Frag}{P:eW}{aA:Around}{aR:Value->Shared->Prop}{W:bf}{e:U}{j:Shared}{A:bl}
set_option tactic.hygienic true
theorem aeX(Q:Inv T W e j){c:UnaryOp}{a:E}{x:Value}(bM:RelV T W a x)(h:Lk c a A e):wpAny (model T.prog T.w) aA (unaryOp c x) (c3 T W A) aR j:=by
 rcases c with _|_
 case Not=>
  rcases a with _|_
  case bool b=>
   subst bM
   exact not_of (wpAny_truthy_bool (c3.now (v:=.bool _) Q rfl h))
  all_goals exact h.elim
 case USub=>
  rcases a with _|_
  case int i=>
   refine a7 bM λ t d=>?_;clear bM;subst d
   exact neg_int (c3.now (v:=.int _) Q.tok ⟨_,rfl⟩ h)
  all_goals exact h.elim
 all_goals exact h.elim
theorem U0(Q:Inv T W e j){l:Operator}{a b v:E}{x H:Value}(bM:RelV T W a x)(g:RelV T W b H)(d:mY l a b=some v)(h:A v e):wpAny (model T.prog T.w) aA (binaryOp l x H) (c3 T W A) aR j:=by
 have m:∀{c o:Int},a=.int c->b=.int o->wpAny (model T.prog T.w) aA (binaryOp l x H) (c3 T W A) aR j:=λ n f=>by
  subst n f
  refine a7 bM λ t p=>?_;clear bM;subst p;refine a7 g λ u q=>?_;subst q
  exact US d h Q
 have r:(fO a).bind (λ c=>(fO b).bind (IM l c))=some v->wpAny _ aA _ _ aR j:=λ k=>by
  exact a' (jo k) λ c n k=>a' (jo k) λ o f z=>m n f
 rcases l with _|_
 case Add=>
  rcases a with _|_
  case int c=>exact a' (jo d) λ o f z=>m rfl f
  case str c=>
   refine a' (oS d) λ o s d=>?_;subst s
   refine bc (lg d) λ i y=>?_;subst y
   refine a7 bM λ t B=>?_;clear bM;subst B;refine a7 g λ u C=>?_;clear g;subst C
   exact UX i h Q
  case tup c=>
   refine a' (TC d) λ o D d=>?_;subst D
   refine bc (lg d) λ i F=>?_;subst F
   exact UZ i bM g h Q
  all_goals exact bF d
 case Mult=>
  rcases a with _|_
  case int c=>exact a' (jo d) λ o f z=>m rfl f
  case tup c=>
   refine a' (jo d) λ o G d=>?_;subst G
   refine bc (lg d) λ i I=>?_;subst I
   refine a7 g λ u J=>?_;clear g;clear m;subst J
   exact UY (gg (i5 i)) (kc i) bM h Q
  all_goals exact bF d
 all_goals exact r d
set_option tactic.hygienic false
theorem UW(Q:Inv T W e j){i:Operator}{a b:E}{x H:Value}(bM:RelV T W a x)(c:RelV T W b H)(h:bu i a b A e):wpAny (model T.prog T.w) aA (binaryOp i x H) (c3 T W A) aR j:=by
 refine UR h (λ v d h=>U0 Q bM c d h) (λ z z d f g h q=>?_) λ z z d f g C k q=>?_
 ·exact rwl d (UU h bM f c g q Q)
 ·obtain rfl:=yv g
  refine a7 c λ u l=>?_;clear c;subst l
  exact rwl d (UT C k bM f q Q)
set_option tactic.hygienic true in
theorem C8(Q:Inv T W e j){c:Operator}{a b:E}{x H:Value}(bM:RelV T W a x)(f:RelV T W b H)(h:eR c a b A e):wpAny (model T.prog T.w) aA (inplaceOp c x H) (c3 T W A) aR j:=by
 rcases a with _|_
 case ref i=>
  refine bc bM λ z g=>?_;clear bM;subst g
  rcases c with _|_
  case Add=>
   have h:match e.get i with|some p=>C7 i p b A e|none=>False:=h
   rcases d:e.get i with _|_
   case none=>rw[d] at h;exact h.elim
   case some p=>
    rw[d] at h
    rcases p with _|_
    case list x=>
     have h:match listOf e b with|some H=>x.length+H.length<=c7/\A _ _|none=>False:=h
     split at h
     ·rename_i k
      exact Yy d h.1 f k h.2 Q
     ·exact h.elim
    all_goals exact h.elim
  all_goals exact h.elim
 case int x=>
  refine a7 bM λ t l=>?_;clear bM;subst l
  rcases b with _|_
  case int H=>
   refine a7 f λ u m=>?_;subst m
   rcases c with _|_
   case Add=>exact Yx h Q
   case Sub=>exact Yz h Q
   all_goals exact h.elim
  all_goals exact h.elim
 all_goals exact h.elim
theorem IC{k:Int}{n:Nat}(a:0<=k)(h:k.toNat<n):seqIndex? k n=some k.toNat:=by
 unfold seqIndex?
 exact rwl (a8 (jF.mpr a)) (aU (sk.mpr ⟨fi a,fi (Int.lt_of_not_ge λ D=>lI.mpr ((Int.le_toNat a).mpr D) h)⟩))
theorem yY{k:Int}(h:dU k=true):-(2^63)<=k/\k<2^63:=⟨Int.le_trans (by decide) (rx h).1,Int.lt_of_le_of_lt (rx h).2 (by decide)⟩
theorem getI_str{x:List Nat}{k:Int}{t u:Tok}{c:Nat}{R:Value->Shared->Prop}(b:0<=k)(d:dU k=true)(a:x[k.toNat]?=some c)(q:∀t tk,R (.str (strOf [c]) t) {j with toks:=tk}):
  wpAny (model T.prog T.w) aA (getItem (.str (strOf x) t) (.int k u)) R aR j:=by
 refine PySem.P.getItem_str (by simp;exact yY d) ?_ (q _ _)
 rw[rZ,IC b (ix.mp a).1]
 simpa [strOf] using a
theorem Xi{l:Addr}{items:Array Value}{n:Nat}{k:Int}{u:Tok}{x:Value}{R:Value->Shared->Prop}(a:IsL j.heap l items n)(b:0<=k)(c:dU k=true)(d:items.toList[k.toNat]?=some x)(q:R x j):
  wpAny (model T.prog T.w) aA (getItem (.ref l) (.int k u)) R aR j:=
 wpAny_getItem_list ⟨_,a,rfl,_,rfl⟩ b (yY c).2 (Array.getElem?_toList.symm.trans d) q
theorem Xj{l:Addr}{items:Array Value}{n:Nat}{k:Int}{u:Tok}{x:Value}{R:Value->Shared->Prop}(c:j.heap.get? l=some {cls:=.type "tuple",data:=.seq items n})(d:0<=k)(a:dU k=true)(b:items.toList[k.toNat]?=some x)(q:R x j):
  wpAny (model T.prog T.w) aA (getItem (.ref l) (.int k u)) R aR j:=
 PyProof.Rows.getItem_tuple ⟨_,c,rfl,_,rfl⟩ (yY a).1 (yY a).2 (IC d (ix.mp b).1) (Array.getElem?_toList.symm.trans b) q
def t_(T:c5)(aA:Around)(aR:Value->Shared->Prop)(p i:Value)(R:Value->Shared->Prop)(j:Shared):Prop:=
 ∃a id,j.TypeIs p a/\typeLookup (.type a) "__getitem__"=pure (some (.builtin id))/\wpAny (model T.prog T.w) aA (getItem p i) R aR j
theorem A5{cg:Type}{l:List cg}{i:E}{r:cg}(h:sC l i=some r):∃k,i=.int k/\0<=k/\dU k=true/\l[k.toNat]?=some r:=a' (jo h) λ k d h=>bc (qr h) λ c h=>⟨k,d,gg (i5 c),kc c,h⟩
set_option tactic.hygienic true in
theorem IY(S:St T K P)(Q:Inv T W e j){p i v:E}{x H:Value}(h:n8 e p i=some v)(b:RelV T W p x)(c:RelV T W i H)(q:A v e):t_ T aA aR x H (c3 T W A) j:=by
 have lists:∀{B:List E}{l:Addr}{items:Array _}{n:Nat},sC B i=some v->IsL j.heap l items n->bK T W B items.toList->t_ T aA aR (.ref l) H (c3 T W A) j:=by
  intro B l items n h G r
  obtain⟨k,rfl,g,en,h⟩:=A5 h
  obtain⟨u,rfl⟩:=c
  refine a' (r.get h) λ D hz m=>?_
  exact cu ("list") _ ⟨⟨_,G,rfl⟩,slot_list_getitem.lookup,Xi G g en hz (.now Q m q)⟩
 have I:∀{az:List _}{B:List E},ic e p=some (az,B)->(h_ i).bind (hV az B)=some v->t_ T aA aR x H (c3 T W A) j:=by
  intro az B L h
  refine a' (oS h) λ k M N=>?_;subst M
  refine a7 c λ u O=>?_;clear c;subst O
  refine tO (rm Q S.sys b L) λ a b2 R Y J U V=>?_;subst R
  have c_:=BI k U V
  rw[N] at c_
  exact a' c_ λ D hz m=>cu ("dict") _ ⟨J.typeIs,slot_dict_getitem.lookup,wpAny_getItem_of (eC _) J.mapOf hz (.now Q.tok m q)⟩
 rcases p with _|_
 case str w=>
  refine a' (gD.mp h) λ cU o X=>?_;subst X
  obtain⟨k,rfl,g,en,o⟩:=A5 o
  obtain⟨t,rfl⟩:=b;obtain⟨u,rfl⟩:=c
  exact cu ("str") _ ⟨typeIs_str _ _ _,PySem.F.slot_str_getitem.lookup,getI_str g en o λ t tk=>.now (v:=.str _) Q.tok ⟨_,rfl⟩ q⟩
 case tup B=>
  obtain⟨k,rfl,g,en,h⟩:=A5 h
  refine fg b λ l items n Z f r=>?_;subst Z
  obtain⟨u,rfl⟩:=c
  obtain⟨D,hz,m⟩:=r.get h
  exact cu ("tuple") _ ⟨⟨_,Q.fA _ _ f,rfl⟩,slot_tuple_getitem.lookup,Xj (Q.fA _ _ f) g en hz (.now Q m q)⟩
 case lst B=>
  refine fg b λ l items n tW f r=>?_;clear b;subst tW
  exact lists h (Q.fA _ _ f) r
 case dct az B=>exact I rfl h
 case ref y=>
  have h:(match e.get y with|some s=>u1 s i|none=>none)=some v:=h
  rcases d:e.get y with _|_
  case none=>rw[d] at h;exact bF h
  case some s=>
   rw[d] at h
   rcases s with _|_
   case list B=>
    refine bc b λ z tX=>?_;clear b;subst tX
    exact fC (Q.listAt d) λ items n=>lists h
   case flist B=>
    refine bc b λ z E4=>?_;clear b;subst E4
    exact fC (Q.obj _ _ d) λ items n C=>lists h (Q.fA _ _ C)
   case dict az B=>exact I (by unfold ic;simp only[d]) h
   case inst _ _ _=>exact bF h
 all_goals exact bF h
end
end
section
noncomputable def kG(n:Nat):Option Nat->Nat
 |none=>n
 |some h=>min h n
theorem IH(k n:Nat):min (k:Int) (n:Int)=((min k n:Nat):Int):=by
 by_cases h:k<=n
 ·rw[Nat.min_eq_left h,Int.min_eq_left (hT.mpr h)]
 ·rw[Nat.min_eq_right (Nat.le_of_not_le h),Int.min_eq_right (hT.mpr (Nat.le_of_not_le h))]
theorem imax(k n:Nat):max (0:Int) (min (k:Int) (n:Int))=((min k n:Nat):Int):=by
 rw[IH];exact Int.max_eq_right (i4 _)
set_option tactic.hygienic true in
theorem ux{cg:Type}(ai:List cg)(l:Nat)(u:Option Nat):cut ai l u=(ai.drop (min l ai.length)).take (kG ai.length u-min l ai.length):=by
 apply List.ext_getElem?
 intro i
 rcases u with _|_
 case none=>
  simp only[cut,kG,so,List.getElem?_take]
  by_cases h:l<=ai.length
  ·rw[Nat.min_eq_left h]
   split
   ·rfl
   ·rw[oP (by lia)]
  ·rw[Nat.min_eq_right (by exact J [_,_] 5635165982721 L (pV h))]
   rw[oP (by exact J [_,_,_] 6931458909343745 L (pV h))]
   split
   ·lia
   ·rfl
 case some h=>
  simp only[cut,kG,so,List.getElem?_take]
  by_cases c:l+i<ai.length
  ·rw[Nat.min_eq_left (show l<=ai.length by exact J [_,_,_] 6896344234065921 L c)]
   by_cases o:l+i<h
   ·rw[aU o,aU (by lia)]
   ·rw[a8 o,a8 (by lia)]
  ·rw[oP (cI c),ite_self,oP (by exact(Nat.le_total _ _).elim (λ a=>J [_,_,_,_] 0x6380803942628081 L (cI c) (Nat.le_min.2 ⟨bw _,a⟩)) λ a=>J [_,_,_] 211531338881 L (Nat.le_min.2 ⟨a,bw _⟩)),ite_self]
theorem GO{cg:Type}(ai:List cg)(l:Nat)(u:Option Nat):(cut ai l u).length<=ai.length:=by
 rw[ux,nI,jn];exact J [_,_,_] 6734715327617 L (Nat.min_le_right _ _) (hq _ _)
section
variable{T:c5}{K:Frag}{P:eW}{aA:Around}{aR:Value->Shared->Prop}{W:bf}{e:U}{j:Shared}{A:bl}
set_option tactic.hygienic true in
theorem bK.cut{B:List E}{ai:List Value}(r:bK T W B ai)(l:Nat)(u:Option Nat):bK T W (cut B l u) (cut ai l u):=by
 rcases u with _|_
 case none=>exact r.drop l
 case some h=>exact(r.take h).drop l
def yj(l:Option E)(x:Value):Prop:=match l with
 |none=>x=.none
 |some v=>∃k t,v=.int k/\x=.int k t
set_option tactic.hygienic true
theorem Gk{l:Option E}{x:Value}{p:Option Nat}(h:jK l=some p)(r:yj l x):∃t,x=partValue (p.map λ k=>((k:Int),t))/\IsPart x (p.map λ k=>(k:Int))/\∀k,p=some k->dU (k:Int)=true:=by
 rcases l with _|_
 case none=>
  obtain rfl:=ck h
  subst r
  exact⟨0,rfl,.none,λ k=>bF⟩
 case some v=>
  refine fC r λ k t a b=>?_;clear r;subst a;subst b
  simp only[jK] at h
  split at h
  ·rename_i c
   simp only[ml,decide_eq_true_eq] at c
   obtain rfl:=ck h
   have d:=Int.toNat_of_nonneg c.1
   refine⟨t,?_,?_,λ y dE=>?_⟩
   ·show _=Value.int _ t
    rw[d]
   ·show IsPart _ (some _)
    rw[d];exact .int k t
   ·obtain rfl:=ck dE;rw[d];exact c.2
  ·cases h
theorem Gy(n:Nat)(p:Option Nat)(o:Nat):(p.map λ k=>(k:Int)).elim o (clipAt n)=p.elim o λ k=>min k n:=by
 rcases p with _|_
 case none=>rfl
 case some k=>exact clipAt_nat n k
set_option tactic.hygienic false
theorem aaS(items:Array Value)(lo a:Option Nat):slicePick items (lo.map λ k=>(k:Int)) (a.map λ k=>(k:Int)) none=(cut items.toList (lo.getD 0) a).toArray:=by
 rw[slicePick_plain,Gy,Gy,ux]
 rw[(by rcases lo with _|_<;>simp:(lo.elim 0 λ k=>min k items.size)=min (lo.getD 0) items.toList.length),(by rcases a with _|_<;>simp [kG]:(a.elim items.size λ k=>min k items.size)=kG items.toList.length a)]
theorem acO(lo a:Option Nat)(n:Nat):Builtin.Str.strSliceIndices (lo.map λ k=>(k:Int)) (a.map λ k=>(k:Int)) 1 n=(List.range (kG n a-min (lo.getD 0) n)).map (min (lo.getD 0) n+·):=by
 have C:∀k:Nat,¬(k:Int)<0:=λ k=>λ b=>bB _ (J [_] 0x8220004111001 L (dR.mp b))
 have:Builtin.Str.strSliceIndices (lo.map λ k=>k) (a.map λ k=>k) 1 n=sliceRange (min (lo.getD 0) n:Nat) (kG n a) 1:=by
  unfold Builtin.Str.strSliceIndices
  rcases lo with _|_<;>rcases a with _|_<;>simp [kG,C,λ k=>imax k n]
 rw[this,sliceRange_one]
theorem acj(x:List Nat)(lo a:Option Nat)(t:Tok)(iL b:Tok):(if(((none:Option (Int×Tok)).map (·.1)).getD 1==1&&(slicePicked (strOf x) (lo.map λ k=>((k:Int),iL)) (a.map λ k=>((k:Int),b)) none).length==(strOf x).length)=true then strOf x else
   (⟨((slicePicked (strOf x) (lo.map λ k=>((k:Int),iL)) (a.map λ k=>((k:Int),b)) none).filterMap ((strOf x).cps[·]?)).toArray⟩:Str))=strOf (cut x (lo.getD 0) a):=by
 have d:slicePicked (strOf x) (lo.map λ k=>(k,iL)) (a.map λ k=>(k,b)) none=(List.range (kG x.length a-min (lo.getD 0) x.length)).map (min (lo.getD 0) x.length+·):=by
  unfold slicePicked
  rw[Option.map_map,Option.map_map]
  exact acO lo a _
 rw[d,pick_run]
 have e:(strOf x).cps.toList=x:=by simp [strOf]
 rw[e,<-ux]
 split
 ·rename_i c
  simp only[Option.map_none,Option.getD_none,eC,Bool.true_and,iw,cM,List.length_range,rZ] at c
  have f:min (lo.getD 0) x.length=0\/x.length=0:=by
   have:kG x.length a<=x.length:=by rcases a with _|_<;>simp [kG];exact Nat.min_le_right _ _
   lia
  have:cut x (lo.getD 0) a=x:=by
   rw[ux,c]
   rcases f with h|h
   ·rw[h,mU,nJ]
   ·have:=vX.mp h
    clear d e c h;subst this;simp
  rw[this]
 ·rfl
noncomputable def tA(a b:Value):Obj:={cls:=.type "slice",data:=.fields #[a,b,.none]}
theorem aci{x:List Nat}{t:Tok}{lo a:Option Nat}{b c:Value}{R:Value->Shared->Prop}{iL d:Tok}(hz:x.length<=c7)(e:b=partValue (lo.map λ k=>((k:Int),iL)))(f:c=partValue (a.map λ k=>((k:Int),d)))
  (q:∀t tk,R (.str (strOf (cut x (lo.getD 0) a)) t) {j with heap:=j.heap.push (tA b c),toks:=tk}):
  wpAny (model T.prog T.w) aA (getItem (.str (strOf x) t) (.ref j.heap.objs.size)) R aR {j with heap:=j.heap.push (tA b c)}:=by
 subst e f
 refine wpAny_getItem_str_slice (st:=none) ⟨_,q' _ rfl,rfl,rfl⟩ rfl (post_val_or_str ?_)
 rw[acj (t:=t)]
 refine⟨?_,λ g k=>q _ _⟩
 have:=GO x (lo.getD 0) a
 exact J [_,_] 0x100000028ca021427a120028c81 L hz this
set_option tactic.hygienic true in
theorem Kw{v:Value}{k:Option Int}(a:IsPart v k){R:Option Int->Shared->Prop}(h:R k j):wpAny (model T.prog T.w) aA (Builtin.Slice.slicePartIndex v) R aR j:=by
 rcases a with _|_
 case none=>exact slicePart_none h
 case int i t=>exact slicePart_int h
theorem Td(lo a:Option Nat)(n:Nat):Builtin.Slice.sliceAdjust (lo.map λ k=>(k:Int)) (a.map λ k=>(k:Int)) 1 (n:Int)=(((min (lo.getD 0) n:Nat):Int),((kG n a:Nat):Int)):=by
 have C:∀k:Nat,¬(k:Int)<0:=λ k=>λ b=>bB _ (J [_] 0x8220004111001 L (dR.mp b))
 unfold Builtin.Slice.sliceAdjust
 rcases lo with _|_<;>rcases a with _|_<;>simp [kG,C,λ k=>IH k n]
theorem aaZ(a b:Nat):Builtin.Slice.slicePlaces (a:Int) (b:Int) 1=b-a:=by
 unfold Builtin.Slice.slicePlaces
 have C:(1:Int)>0:=dR.mpr (J [] 36542875648 L)
 simp only[C,if_true,Int.ediv_one]
 split<;>lia
theorem aaT(ai:Array Value)(a k:Nat):((List.range k).filterMap λ(y:Nat)=>ai[((a:Int)+(y:Int)*1).toNat]?)=(ai.toList.drop a).take k:=by
 rw[<-pick_run,List.filterMap_map]
 congr 1
 funext y
 have:(a+(y:Int)*1).toNat=a+y:=by lia
 rw[this];rfl
theorem acd{a9:Addr}{lo a:Option Nat}{b c:Value}{n:Nat}{R:Int×Int×Nat->Shared->Prop}(f:j.heap.IsSliceOf a9 b c .none)(bU:IsPart b (lo.map λ k=>(k:Int)))(g:IsPart c (a.map λ k=>(k:Int)))
  (h:R (((min (lo.getD 0) n:Nat):Int),1,kG n a-min (lo.getD 0) n) j):wpAny (model T.prog T.w) aA (Builtin.Slice.sliceApplied (.ref a9) (pure (n:Int))) R aR j:=by
 refine fB (id f) λ os d i e=>bZ (bZ (wpAny_field d e (x:=b) rfl (bZ (wpAny_field d e (x:=c) rfl (bZ (wpAny_field d e (x:=.none) rfl (dN (bZ (slicePart_none (bZ (Kw bU (bZ (Kw g (bZ (dN ?_)))))))))))))))
 show wpAny _ _ (match Builtin.Slice.sliceAdjust _ _ 1 _ with|(lo,a)=>pure (lo,(1:Int),Builtin.Slice.slicePlaces lo a 1)) _ _ j
 rw[Td]
 show wpAny _ _ (pure _) _ _ j
 rw[aaZ]
 exact dN h
theorem Xk{t a9:Addr}{items:Array Value}{lo a:Option Nat}{b d:Value}{R:Value->Shared->Prop}(cZ:IsTup j.heap t items)(e:j.heap.IsSliceOf a9 b d .none)(bU:IsPart b (lo.map λ k=>(k:Int)))(f:IsPart d (a.map λ k=>(k:Int)))
  (hsz:items.size<=sizeLine) (C:cut items.toList (lo.getD 0) a=items.toList->R (.ref t) j)
  (h:R (.ref j.heap.objs.size) {j with heap:=j.heap.push {cls:=.type "tuple",data:=.seq (cut items.toList (lo.getD 0) a).toArray}}):wpAny (model T.prog T.w) aA (getItem (.ref t) (.ref a9)) R aR j:=by
 have g:=by
  have:=GO items.toList (lo.getD 0) a
  exact ah this hsz
 refine fB (id e) λ os i l n=>?_
 unfold getItem
 try with_reducible refine jm ?_
 refine bZ (wpAny_sequenceKey cZ.typeIs rfl (bZ (wpAny_callSpecial?_slot cZ.typeIs slot_tuple_getitem
  (wpAny_call_entry slot_tuple_getitem cZ.typeIs entry_tuple_getitem ?_ (args_tuple_getitem _ _)))))
 show wpAny _ _ (Builtin.Tuple.tupleItemsOf _>>=_) _ _ j
 refine bZ (tupleItemsOf_ cZ (bZ (wpAny_typeOf ⟨os,i,l⟩ (bZ (acd e bU f ?_)))))
 have cf:((List.range (kG items.size a-min (lo.getD 0) items.size)).filterMap λ(k:Nat)=>items[(min (lo.getD 0) items.size+(k:Int)*1).toNat]?).toArray=(cut items.toList (lo.getD 0) a).toArray:=by
  rw[aaT,ux,jl]
 by_cases c:(((min (lo.getD 0) items.size:Nat):Int)==0&&(1:Int)==1&&kG items.size a-min (lo.getD 0) items.size==items.size)=true
 ·show wpAny _ _ (if _ then _ else _) _ _ j
  rw[aU c]
  simp only[ml,iw] at c
  refine bZ (bZ (wpAny_typeOf cZ.typeIs (dN ?_)))
  have m:cut items.toList (lo.getD 0) a=items.toList:=by
   rw[ux,jl]
   rcases Nat.eq_zero_or_pos items.size with D|D
   ·have:=vX.mp (by rw[jl,D])
    rw[this];simp
   ·rw[c.2,show min _ _=0 by exact cB (aL (k1.mp c.1.1)) (aL (k1.mp c.1.1).symm),mU,<-jl,nJ]
  have fin:=C m
  first
   |exact bZ _
   |exact bZ (wpAny_rule (dN ⟨_,rfl,dN fin⟩))
   |trace_state
 ·show wpAny _ _ (if _ then _ else _) _ _ j
  rw[a8 c,cf]
  first
   |exact bZ _
   |exact bZ (wpAny_newObj_type (bZ (dN (dN ⟨_,rfl,dN h⟩))) g)
   |exact bZ _
   |exact bZ _
end
end
section
section
variable{T:c5}{K:Frag}{P:eW}{aA:Around}{aR:Value->Shared->Prop}{W:bf}{e:U}{j:Shared}{A:bl}
theorem Inv.TH(Q:Inv T W e j){p:Obj}:Inv T W e {j with heap:=j.heap.push p}:=Q.push p
set_option tactic.hygienic true in
theorem ach(Q:Inv T W e j){p v:E}{l u:Option E}{x b c:Value}(h:pz e p l u=some v)(g:RelV T W p x)(cQ:yj l b)(G:yj u c)(q:A v e):
  t_ T aA aR x (.ref j.heap.objs.size) (c3 T W A) {j with heap:=j.heap.push (tA b c)}:=by
 have bT:Inv T W e {j with heap:=j.heap.push (tA b c)}:=Q.TH
 have r:(j.heap.push (tA b c)).IsSliceOf _ b c _:=Heap.IsSliceOf.new ..
 unfold pz at h
 split at h
 ·rename_i lo k H I
  refine fB (Gk H cQ) λ iL K bU R=>fB (Gk I G) λ S M s U=>?_;have lists:∀{B:List E},listOf e p=some B->(if B.length<=c7 then some (E.lst (cut B (lo.getD 0) k)) else none)=some v->t_ T aA aR x (.ref j.heap.objs.size) (c3 T W A) {j with heap:=j.heap.push (tA b c)}:=by
   intro B m h
   split at h
   ·rename_i hz
    obtain rfl:=ck h
    refine fg (lX Q g m) λ a items cf N C ab=>?_;subst N
    have y:(j.heap.push (tA b c)).get? a=_:=Heap.get?_push_of_some _ C
    have D:items.size<=sizeLine:=by have:=ab.size;exact J [_,_] 0x100000028ca021427a120028c81 L hz (aL this.symm)
    refine fB (bT.DC (items:=(cut _ (lo.getD 0) k).toArray) (cf:=0) (tk:=j.toks) (ab.cut _ _)) λ aO dV o eg=>cu ("list") _ ⟨⟨_,y,rfl⟩,slot_list_getitem.lookup,wpAny_getItem_list_slice ⟨_,y,rfl,_,rfl⟩ r bU s .none (by simp) ?_ D⟩
    rw[aaS]
    exact⟨aO,_,_,dV,o,eg,q⟩
   ·cases h
  rcases p with _|_
  case str w=>
   simp only at h
   split at h
   ·rename_i hz
    obtain rfl:=ck h
    refine a7 g λ t O=>?_;subst O
    exact cu ("str") _ ⟨typeIs_str _ _ _,PySem.F.slot_str_getitem.lookup,aci hz K M λ t tk=>c3.now (v:=.str _) (bT.tok) ⟨_,rfl⟩ q⟩
   ·cases h
  case tup B=>
   simp only at h
   split at h
   ·rename_i hz
    obtain rfl:=ck h
    refine fg (id g) λ a items n P f ab=>?_;clear g;subst P
    have C:=bT.fA _ _ f
    refine cu ("tuple") _ ⟨⟨_,C,rfl⟩,slot_tuple_getitem.lookup,Xk ⟨_,C,rfl,_,rfl⟩ r bU s (by have:=ab.size;exact J [_,_] 0x100000028ca021427a120028c81 L hz (aL this.symm):items.size<=sizeLine) (λ d=>?_) ?_⟩
    ·have aT:=ab.cut (lo.getD 0) k
     rw[d] at aT
     exact c3.now (v:=.tup _) bT (gw a items n ⟨rfl,f,aT⟩) q
    ·exact fB (bT.w_ (ab.cut _ _)) λ aO dV o eg=>⟨aO,_,_,dV,o,eg,q⟩
   ·cases h
  case lst B=>exact lists rfl h
  case ref i=>
   simp only at h
   split at h
   ·rename_i m;exact lists m h
   ·cases h
  all_goals exact bF h
 ·cases h
theorem bK.setAt{B:List E}{items:Array Value}{k:Nat}{v:E}{H:Value}(r:bK T W B items.toList)(a:RelV T W v H):bK T W (B.set k v) (items.setIfInBounds k H).toList:=by
 rw[Array.toList_setIfInBounds];exact r.set a
theorem acM(a:Str)(D:Value)(b:List (Str×Value))(k:Str)(v:Value)(Y:((a,D)::b).map (·.1)|>.Nodup):stored ((a,D)::b) k v=if a=k then(a,v)::b else(a,D)::stored b k v:=by
 unfold stored
 by_cases h:a=k
 ·subst h
  simp only[List.any_cons,decide_true,Bool.true_or,if_true,jG]
  have:∀s∈b,(if s.1=a then(s.1,v) else s)=id s:=λ s c=>a8 λ d=>(by simpa using(sq.mp Y).1:a∉b.map (·.1)) (by rw[<-d];exact List.mem_map_of_mem c)
  rw[List.map_congr_left this,List.map_id]
 ·simp only[List.any_cons,h,decide_false,Bool.false_or,if_false,jG]
  split<;>rfl
theorem VZ{az:List (List Nat)}:∀{B:List E}{c:List (Str×Value)}(k:List Nat){v:E}{H:Value},c.map (·.1)=az.map strOf->bK T W B (c.map (·.2))->(c.map (·.1)).Nodup->RelV T W v H->
  (stored c (strOf k) H).map (·.1)=(ke az B k v).1.map strOf/\bK T W (ke az B k v).2 ((stored c (strOf k) H).map (·.2)):=by
 induction az with
 |nil=>
  intro B c k v H e h Y f
  obtain rfl:=List.map_eq_nil_iff.mp e
  rcases B with _|_
  ·exact⟨rfl,f,trivial⟩
  ·exact h.elim
 |cons D az i=>
  intro B c k v H e h Y f
  rcases c with _|⟨⟨g,x⟩,c⟩
  ·cases e
  ·rcases B with _|⟨w,B⟩
   ·exact h.elim
   ·have e:=e0 e
    have d:g=strOf D:=e.1
    rw[acM _ _ _ _ _ Y,V0]
    by_cases q:k=D
    ·subst q
     rw[eC,aU d]
     exact⟨by show g::_=strOf k::_;rw[d,e.2],f,h.2⟩
    ·rw[fH.mpr q,a8 λ j=>q (vu (d.symm.trans j)).symm]
     exact bc (i k e.2 h.2 (sq.mp Y).2 f) λ a b=>⟨by show g::_=strOf D::_;rw[d,a],h.1,b⟩
theorem Inv.Kq(Q:Inv T W e j){i:Nat}{az:List (List Nat)}{B:List E}{k:List Nat}{v:E}{H:Value}{c:List (Str×Value)}{f:Heap}{tk:Nat}(d:e.get i=some (.dict az B))
  (h:f.DictOf T.knd (W.adr i) (stored c (strOf k) H)) (l:Heap.SameBut (W.adr i) j.heap f) (m:c.map (·.1)=az.map strOf) (n:bK T W B (c.map (·.2))) (Y:(c.map (·.1)).Nodup) (o:RelV T W v H):
  Inv T W (e.upd i (let r:=ke az B k v;.dict r.1 r.2)) {j with heap:=f,toks:=tk}:=by
 exact bc (Q.obj i _ d) λ g t=>bc (VZ k m n Y o) λ a b=>a' (nH.mp h) λ p q s=>Q.mut d trivial trivial (by exact rwl g l) ⟨g,p,_,q,s,a,b⟩
theorem Kr(S:St T K P)(Q:Inv T W e j){p i v:E}{x H D:Value}{f:U->Prop}(g:RelV T W p x)(c:RelV T W i H)(A:RelV T W v D)(h:gM p i v f e):wpAny (model T.prog T.w) aA (setItem x H D) (yi T W f) aR j:=by
 refine ab1 h (λ y B k l o d s G F q=>?_) (λ y az B k l o d b q=>?_)
 ·subst l o;refine bc (id g) λ dE t=>?_;subst t
  ·clear h
   refine a7 c λ u M=>?_;clear c;subst M
   refine fC (Q.listAt d) λ items n C ab=>?_
   have N:=rx F
   have b:j.heap.IsList (W.adr y) items:=⟨_,C,rfl,_,rfl⟩
   unfold setItem
   try with_reducible refine jm ?_
   first|refine bZ (dN ?_)|skip
   refine bZ (wpAny_sequenceKey b.typeIs rfl ?_)
   refine bZ (wpAny_callSpecial?_slot (name:=(Str.ofString "__setitem__")) b.typeIs slot_list_setitem
    (wpAny_call_entry slot_list_setitem b.typeIs entry_list_setitem ?_ (args_list_setitem _ _ _)))
   show wpAny _ _ (Builtin.List.listSubscript? (.int k u)>>=_) _ _ j
   refine bZ (wpAny_listSubscript_int (fitsIndex_of s (by lia)) ?_)
   clear N F
   refine a7 (uj s) λ m O=>?_;clear s;subst O
   have R:m<items.size:=by have:(Int.toNat (m:Int))=m:=rfl;exact J [_,_,_,_] 0xa111c0031c24088c009481 L (aL ab.size) G (aL this.symm)
   show wpAny _ _ ((seqItemAt (W.adr y) m>>=λ r=>pure (r.map (m,·)))>>=_) _ _ j
   refine bZ (bZ (wpAny_seqItemAt C rfl (dN ?_)))
   rw[Array.getElem?_eq_getElem R]
   show wpAny _ _ (setSeqItemAt (W.adr y) m D>>=_) _ _ j
   have bT:=Q.xw d C (c2:=B.set m v) (λ a=>a.setIfInBounds m D) (tk:=j.toks) (ab.setAt A)
   have fin:yi T W f () {j with heap:=j.heap.update (W.adr y) (Obj.mapSeq λ a=>a.setIfInBounds m D)}:=⟨W,_,dc.refl _ _,bT,q⟩
   refine bZ (wpAny_setSeqItemAt C rfl ?_)
   first
    |exact bZ (dN (dN (cu .none rfl (dN fin))))
    |exact dN ⟨.none,rfl,dN fin⟩
 ·subst l o;refine bc (id g) λ dE t=>?_;clear g;subst t
  ·clear h
   refine a7 c λ u V=>?_;clear c;subst V
   refine Az (Q.obj _ _ d) λ iR p b2 C I ag X=>?_
   refine wpAny_setItem_pairs (knd:=T.knd) (k:=strOf k) (by show((strOf k)==(strOf k))=true;exact eC _) (nH.mpr ⟨p,C,I⟩) (λ aY Y Z=>?_) (by rw[sJ ag,z9];exact J [_] 0x4000000a3203e810c81 L b)
   exact⟨W,_,dc.refl _ _,Q.Kq d Y Z ag X (keysNodup_of_isDictOf I) A,q⟩
end
end
section
section
variable{T:c5}{K:Frag}{P:eW}{aA:Around}{aR:Value->Shared->Prop}{W:bf}{e:U}{j:Shared}{A:bl}
theorem lT{x H:Value}(h:x=H)(g:handedIn H=true):handedIn x=true:=rwl h g
theorem RelV.handed{v:E}{x:Value}(h:RelV T W v x):handedIn x=true:=by
 rcases v with _|_
 case none=>exact lT h rfl
 case bool=>exact lT h rfl
 case int=>exact h.elim λ z h=>lT h rfl
 case str=>exact h.elim λ z h=>lT h rfl
 case tup=>exact h.elim λ z h=>h.elim λ z h=>h.elim λ z h=>lT h.1 rfl
 case lst=>exact h.elim λ z h=>h.elim λ z h=>h.elim λ z h=>lT h.1 rfl
 case dct=>exact h.elim λ z h=>h.elim λ z h=>h.elim λ z h=>lT h.1 rfl
 case rng=>exact h.elim λ z h=>h.elim λ z h=>h.elim λ z h=>h.elim λ z h=>lT h.1 rfl
 case ref=>exact lT h.2 rfl
 case fn=>exact lT h rfl
 case cls=>exact lT h rfl
 case bi=>exact h.2
 case typ=>exact lT h rfl
theorem IU(k:Str)(t:Tok)(x:Str):(Value.str k t).isStr x=(k==x):=by
 simp [Value.isStr]
theorem WC{az:List Str}:∀{B:List E}{a:List DictEntry}(x:Str),pQ az a->bK T W B (a.map (·.val))->
  match qc az B x with|some v=>∃d,a.find? (·.key.isStr x)=some d/\RelV T W v d.val|none=>a.find? (·.key.isStr x)=none:=by
 induction az with
 |nil=>
  intro B a x C I
  rcases a with _|_
  ·rfl
  ·exact C.elim
 |cons k az b=>
  intro B a x C I
  rcases a with _|⟨d,a⟩
  ·exact C.elim
  ·rcases B with _|⟨v,B⟩
   ·exact I.elim
   ·refine a7 C.1 λ t c=>?_
    have b:=b x C.2 I.2
    rw[Hj]
    by_cases q:x=k
    ·subst q
     rw[eC]
     exact⟨d,by rw[List.find?_cons,c,IU,eC],I.1⟩
    ·refine rwl (fH.mpr q) ?_
     have:d.key.isStr x=false:=by(refine rwl c ?_);exact fH.mpr λ D=>q D.symm
     refine rwl List.find?_cons (rwl this ?_)
     exact b
theorem Hk{az:List Str}:∀{B:List E}{x:Str},x∉az->qc az B x=none:=by
 induction az with
 |nil=>exact λ z=>rfl
 |cons k az a=>
  intro B x h
  rcases B with _|⟨v,B⟩
  ·rfl
  ·rw[Hj,fH.mpr λ d=>h (by exact rwl d (f9 ..))]
   exact a λ d=>h (gT _ d)
theorem Df:∀{az:List Str}{a:List DictEntry},pQ az a->a.any (·.refKey)=false
 |[],[],_=>rfl
 |[],_::_,h=>h.elim
 |_::_,[],h=>h.elim
 |k::az,d::a,⟨⟨t,b⟩,h⟩=>by
  (refine rwl List.any_cons (rwl ((Df h)) ?_))
  unfold DictEntry.refKey;exact rwl b rfl
set_option tactic.hygienic true in
theorem lookIn_dict{p:Obj}{a:Array DictEntry}{cf:Nat}{az:List Str}{B:List E}(x:Str)(c:p.data=.dict a cf)(b:pQ az a.toList)(e:bK T W B (a.toList.map (·.val))):
  match qc az B x with|some v=>∃H,lookIn x p=some (some H)/\RelV T W v H|none=>lookIn x p=some none:=by
 have c_:=WC x b e
 unfold lookIn
 refine rwl c ?_
 dsimp only
 rcases d:qc az B x with _|_
 case some v=>
  rw[d] at c_
  exact a' c_ λ f g r=>rwl g (⟨f.val,rfl,r⟩)
 case none=>
  refine(d▸c_).symm▸rwl ((Df b)) ?_
  rfl
theorem Inv.inst(Q:Inv T W e j){y c:Nat}{az:List Str}{B:List E}(d:e.get y=some (.inst c az B)):
  T.cls c/\(∀k∈az,pj k=true)/\∃p a cf,j.heap.get? (W.fq y)=some p/\p.cls=.type "dict"/\p.data=.dict a cf/\pQ az a.toList/\bK T W B (a.toList.map (·.val))/\
   InstAt j.heap (W.adr y) (instObj (T.ca c) (W.fq y)) (T.ca c) (some p):=by
 exact LD (Q.obj _ _ d) λ b C p a cf I ag f g h=>bc b λ cV dH=>⟨cV,dH,p,a,cf,I,ag,f,g,h,⟨Q.fA _ _ C,rfl,rfl,I⟩⟩
set_option tactic.hygienic true in
theorem HC(S:St T K P)(Q:Inv T W e j){p:E}{x:Value}{name:Str}{g:Bool}(b:RelV T W p x)(h:a6 p name A e):wpAny (model T.prog T.w) aA (getAttr x name g) (c3 T W A) aR j:=by
 refine JK h λ y D h=>?_;subst D
 refine bc b λ z i=>?_;clear b;subst i
 refine IL h λ c az B d h=>xj h λ v a h=>?_
 refine ET (Q.inst d) λ k l f G cf C I ag m n o=>?_
 have aw:=S.cls _ k
 have c_:=lookIn_dict name ag m n
 rw[a] at c_
 refine a' c_ λ H b_ l5=>?_;have r:name∈az:=by
  by_cases q:name∈az
  ·exact q
  ·have a:=Hk q▸a;cases a
 refine a' aw.has λ s t u=>?_
 have F:findObj K (T.ca c) (some f) name=some (.value H):=by
  delta findObj
  rw[t,aw.attr _ (l _ r)]
  show(PySem.W.ownOf s (some f) name).bind _=_
  unfold PySem.W.ownOf
  rw[u,aU rfl]
  show(PySem.W.lookIn _ _).bind _=_
  rw[b_];rfl
 exact get_value (Q.pa S) o aw.ga F l5.handed (.now Q.tok l5 h)
theorem aa4{p:Obj}{a:Array DictEntry}{n:Nat}(name:Str)(b:Int)(key v:Value)(d:p.data=.dict a n):
  (Obj.putName name b key v p).cls=p.cls/\∃e,(Obj.putName name b key v p).data=.dict (putL name b key v a.toList).toArray e:=by
 obtain⟨c,o,f,a9⟩:=p
 subst d
 have g:dictOf a.toList n={cls:=.type "dict",data:=.dict a n}:=by simp [dictOf]
 have:=bA Obj.data (putName_dict name b key v a.toList n)
 rw[Obj.putName_eq] at this⊢
 unfold Obj.putNameByArray at this⊢
 dsimp only at this⊢
 cases q:a.findIdx? _ with
 |none=>rw[q] at this;exact⟨rfl,_,this⟩
 |some i=>rw[q] at this;exact⟨rfl,_,this⟩
theorem WL{az:List Str}:∀{B:List E}{c:List DictEntry}(x:Str)(e:Int)(t:Tok){v:E}{H:Value},pQ az c->bK T W B (c.map (·.val))->RelV T W v H->
  pQ (o3 az B x v).1 (putL x e (.str x t) H c)/\bK T W (o3 az B x v).2 ((putL x e (.str x t) H c).map (·.val)):=by
 induction az with
 |nil=>
  intro B c x e t v H C I f
  rcases c with _|_
  ·rcases B with _|_
   ·exact⟨⟨⟨t,rfl⟩,trivial⟩,f,trivial⟩
   ·exact I.elim
  ·exact C.elim
 |cons k az h=>
  intro B c x e t v H C I f
  rcases c with _|⟨d,c⟩
  ·exact C.elim
  ·rcases B with _|⟨w,B⟩
   ·exact I.elim
   ·refine a7 C.1 λ tk g=>?_
    rw[Ho];unfold putL
    by_cases q:x=k
    ·subst q
     have:d.key.isStr x=true:=by rw[g,IU,eC]
     (rewrite[eC];refine rwl (aU this) ?_)
     exact⟨⟨⟨tk,g⟩,C.2⟩,f,I.2⟩
    ·have:¬d.key.isStr x=true:=by(refine rwl g ?_);exact λ D=>q (iw.mp D).symm
     exact(fH.mpr q).symm▸(a8 this).symm▸bc (h x _ t C.2 I.2 f) λ a b=>⟨⟨⟨tk,g⟩,a⟩,I.1,b⟩
theorem Eh:∀{az:List Str}{a:List DictEntry},pQ az a->az.length=a.length
 |[],[],_=>rfl
 |[],_::_,h=>h.elim
 |_::_,[],h=>h.elim
 |k::az,d::a,⟨_,h⟩=>bA _ (Eh h)
theorem WM{az:List Str}:∀{B:List E}(x:Str)(v:E){s:Str->Prop},(∀k∈az,s k)->s x->∀k∈(o3 az B x v).1,s k:=by
 induction az with
 |nil=>exact λ x v z z b k a=>rwl (fu.mp a) b
 |cons D az c=>
  intro B x v s h b k a
  rcases B with _|⟨w,B⟩
  ·exact rwl (fu.mp a) b
  ·rw[Ho] at a
   rcases d:x==D with _|_
   ·rw[d] at a
    rcases ew.mp a with rfl|a
    ·exact h _ f9 ..
    ·exact c x v (λ k a=>h k (gT _ a)) b k a
   ·rw[d] at a;exact h k a
set_option tactic.hygienic true in
theorem Kp(S:St T K P)(Q:Inv T W e j){p v:E}{x H:Value}{name:Str}{k:U->Prop}(t:RelV T W p x)(u:RelV T W v H)(h:cL p name v k e):wpAny (model T.prog T.w) aA (setAttr x name H) (yi T W k) aR j:=by
 refine JK h λ y D h=>?_;subst D
 refine bc t λ z A=>?_;subst A
 refine IL h λ c az B d h=>xN h λ l h=>?_
 refine bc h λ hz q=>ET (Q.inst d) λ m F G a cf C I ag g M i=>?_
 have aw:=S.cls _ m
 refine a' aw.has λ mq N O=>?_
 refine set_plain (Q.pa S) i aw.abS ?_
 have n:Inv T W e {j with toks:=j.toks+1}:=Q.tok
 refine osa_open (n.pa S) i aw.over (by unfold takerIn;refine(aw.attr _ l).symm▸?_;rfl:takerIn K (T.ca c) name=some none) λ b=>?_
 have R:=i.at_
 refine bZ (dN (bZ (bZ (wpAny_loadPart R (bZ ((looks_clsIn (n.pa S) N).here (O.symm▸dN (bZ (dN (bZ (bZ (bZ (wpAny_askSetting (dN (bZ (wpAny_mkText (bZ (wpAny_loadPart C (ag.symm▸?_)))))))))))))))))))
 dsimp only
 have V:(!a.any (·.key.isStr name)&&a.any (·.refKey))=false:=by
  rw[(by exact(rwr Array.any_toList (Df g)):a.any (·.refKey)=false),Bool.and_false]
 (rewrite[aRefKeyMayBeTheName_at];refine(rwr V.symm ?_))
 refine wpAny_updatePart C (LF (aa4 name (PyData.keyHash T.w.params name) (.str name (j.toks+1)) H ag) λ bG X f=>?_)
 have o:=Heap.get?_update_self (Obj.putName name (PyData.keyHash T.w.params name) (.str name (j.toks+1)) H) C (by
  obtain⟨mT,pS,uh,si⟩:=G;revert f;generalize Obj.putName _ _ _ _ _=Y;intro f;obtain⟨_,_,_,_⟩:=Y;cases f;rfl)
 refine bc (WL name (PyData.keyHash T.w.params name) (j.toks+1) g M u) λ s Z=>?_
 have bT:=Q.mut (fs:=let r:=o3 az B _ v;.inst c _ r.2) (tk:=j.toks+1+1) d trivial trivial (Heap.SameBut.update ..)
  ⟨⟨m,WM _ v F l⟩,(Q.obj _ _ d).2.1,_,_,X,o,bG.trans I,f,s,Z⟩
 refine bZ (wpAny_lookBehind o (by
  refine(rwr f.symm (pastItsLine_dict ?_))
  have:=Eh s
  have:(putL name (PyData.keyHash T.w.params name) (.str name (j.toks+1)) H a.toList).length<=a.toList.length+1:=by
   induction a.toList with
   |nil=>simp [putL]
   |cons d a ay=>unfold putL;split<;>simp;exact ay
  exact J [_,_,_] 0x4500000028c0600445018242846410c81 L hz (aL (Eh g).symm) this) ?_)
 exact dN ⟨W,_,dc.refl _ _,bT,q⟩
end
end
section
theorem VT:∀k,k<1000->Str.ofString (toString ((k:Nat):Int))=strOf (fj k):=by decide+kernel
theorem acm(k:Nat)(h:k<1000):(k:Int).natAbs.log2<1920:=by
 have:(k:Int).natAbs=k:=rfl
 rcases Nat.eq_zero_or_pos k with d|d
 ·subst d;decide
 ·have:=(Nat.log2_lt λ a=>bB _ (J [_] 0x822000440902200801 L d (aL a))).mpr (d7 h (by
   calc 1000<=2^10:=ae rfl
    _<=2^1920:=Nat.pow_le_pow_right (ae rfl) (ae rfl)))
  exact this
theorem KR(j:List Nat):(strOf j).cps.toList=j:=by simp [strOf]
theorem FW{j:List Nat}(h:ascii j=true):∀c∈(strOf j).cps.toList,c<128:=by
 intro c a
 exact gg (k0.mp h c a)
theorem Zu{j:List Nat}(h:ascii j=true):Txt.lower (strOf j)=strOf (j.map pd):=by
 rw[lower_ascii (FW h)]
 rw[List.map_toArray];rfl
theorem ac7:∀c,c<128->(if Unicode.isUpper c then[pd c] else if Unicode.isLower c then Unicode.upperOf c else[c])=[vz c]:=by decide+kernel
theorem ac8{j:List Nat}(h:ascii j=true):Txt.swapcase (strOf j)=strOf (j.map vz):=by
 unfold Txt.swapcase
 rw[placed_single _ _ _ λ i c b=>by
  have e:=by simpa using b
  have a:=FW h c (j_ b)
  have d:Unicode.lowerAt (strOf j).cps i=[pd c]:=by
   unfold Unicode.lowerAt
   rw[e]
   simp only[(by rw[fH];exact λ f=>bB _ (J [_] 0x822013a310c240086111001 L a (aL f.symm)):(c==0x3A3)=false),Bool.false_and,Bool.false_eq_true,if_false]
   exact lowerOf_ascii c a
  exact rwl d (ac7 c a)]
 show(⟨j.toArray.map _⟩:Str)=⟨(j.map _).toArray⟩
 rw[List.map_toArray]
theorem I0(a:List Nat):∀l:List (List Nat),Str.join (strOf a) (l.map strOf)=strOf (ig a l)
 |[]=>rfl
 |[x]=>rfl
 |x::H::r=>by
  show strOf x++strOf _++Str.join _ _=strOf (x++a++ig _ _)
  rw[I0 a (H::r),Ew,Ew]
theorem YL(a:List Nat)(l:List (List Nat)):Txt.join (strOf a) (l.map strOf)=strOf (ig a l):=by
 show Builtin.Str.glued _ _=_
 rw[StrLaws.glued_eq_join,I0]
theorem I1(a:List Nat):∀l:List (List Nat),(l.map (·.length)).sum<=(ig a l).length
 |[]=>bw _
 |[x]=>bw x.length
 |x::H::r=>by
  have b:=I1 a (H::r)
  simp only[jG,List.sum_cons,YK,bR] at b⊢
  exact J [_,_,_,_,_] 0x320e0014803800629001 L b
theorem joinOk_of{a:List Nat}{l:List (List Nat)}(h:(ig a l).length+l.length*(a.length+1)<=c7):JoinOk (strOf a) (l.map strOf)=true:=by
 unfold JoinOk
 rw[StrLaws.joinTotal]
 have:=I1 a l
 have d:((l.map strOf).map (·.length)).sum=(l.map (·.length)).sum:=by
  rw[List.map_map];exact bA _ (List.map_congr_left λ x z=>rZ x)
 rw[d,cM]
 unfold Builtin.Str.tooLong
 rw[Bool.not_eq_true',decide_eq_false_iff_not]
 exact λ b=>bB _ (J [_,_,_,_] 0x41100c4004500000028c013d09001467300a009481 L this h b)
set_option tactic.hygienic true in
theorem Hf(x:List Nat):∀(t:List Nat)(k:Nat),match iT x t k with
  |some y=>k<=y/\y-k+x.length<=t.length/\(t.drop (y-k)).take x.length=x/\∀i,i<y-k->¬(i+x.length<=t.length/\(t.drop i).take x.length=x)
  |none=>∀i,¬(i+x.length<=t.length/\(t.drop i).take x.length=x)
 |[],k=>by
  rw[Ws]
  rcases x with _|_<;>simp
 |a::t,k=>by
  have b:=Hf x t (k+1)
  rw[Wr]
  by_cases h:x.isPrefixOf (a::t)=true
  ·rw[aU h]
   rw[List.isPrefixOf_iff_prefix] at h
   refine a7 h λ r V=>⟨bw _,?_,?_,λ i c=>absurd c λ e=>bB _ (J [_,_,_] 0x822018c5004a111001 L c (di (J [_] 4224 L)))⟩
   ·rw[<-V];simp
   ·rw[<-V];simp
  ·rw[a8 h]
   have f:¬(0+x.length<=(a::t).length/\((a::t).drop 0).take x.length=x):=λ e=>bc e λ z d=>h (by
    rw[List.isPrefixOf_iff_prefix,<-d];exact List.take_prefix ..)
   rcases q:iT x t _ with _|_
   case none=>
    have b:=q▸b
    intro i ⟨C,I⟩
    rcases i with _|_
    case zero=>exact f ⟨C,I⟩
    case succ i=>exact b i ⟨J [_,_,_] 0x31480004460142220001 L C,by simpa using I⟩
   case some y=>
    rw[q] at b
    refine f5 b λ C I ag g=>?_;have d:y-k=y-(k+1)+1:=cB (J [_,_,_,_] 0x44501c0431c01088c028081 L (d2 _ _) (di (J [_,_] 5635165982721 L C))) (J [_,_,_,_] 0x142238004088c03802628081 L (d2 _ _) (di C))
    refine⟨J [_,_] 5635165982721 L C,J [_,_,_,_] 0x446014e00044401c2629001 L I (aL d),by rw[d];simpa using ag,λ i c ⟨cV,dH⟩=>?_⟩
    cases i with
    |zero=>exact f ⟨cV,dH⟩
    |succ i=>exact g i (J [_,_,_] 0x5088c001022088c00042228081 L (aL d) c) ⟨J [_,_,_] 0x31480004460142220001 L cV,by simpa using dH⟩
theorem A6(x t:List Nat)(i:Nat):StrLaws.At (strOf t) (strOf x) (strOf t).length i↔i+x.length<=t.length/\(t.drop i).take x.length=x:=by
 unfold StrLaws.At
 rw[StrLaws.subAt_eq,rZ,rZ,KR,KR,iw]
set_option tactic.hygienic true in
theorem JL(x t:List Nat)(lo:Nat)(m:lo<=t.length):
  match iT x (t.drop lo) lo with
  |some y=>∃r,Builtin.Str.occurrences (strOf t) (strOf x) lo (strOf t).length 1=y::r
  |none=>Builtin.Str.occurrences (strOf t) (strOf x) lo (strOf t).length 1=[]:=by
 have F:=Hf x (t.drop lo) lo
 have h:∀i,lo<=i->(i+x.length<=t.length/\(t.drop i).take _=x↔i-lo+x.length<=(t.drop lo).length/\((t.drop lo).drop _).take x.length=x):=λ i e=>by
  rw[nK,jn,show lo+(i-lo)=i by exact cB (J [_,_,_] 0xc42800629001 L (di e)) (J [_,_,_] 0xa60100628081 L (d2 _ _))]
  constructor
  ·rintro⟨a,b⟩;exact⟨J [_,_,_,_,_,_] 0x3952001109005070182629001 L a (d2 _ _) (di e),b⟩
  ·rintro⟨a,b⟩;exact⟨J [_,_,_,_,_,_] 0x494e0025060050401c2629001 L a (d2 _ _) (di m),b⟩
 rcases StrLaws.occ_head_from _ _ lo 1 (bw _) with⟨j,Y⟩|⟨i,r,j,e,n,o⟩
 ·rcases q:iT x _ lo with _|_
  case none=>exact j
  case some y=>
   have F:=q▸F
   exact f5 F λ d f g k=>((Y y d) ((A6 x t y).mpr ((h y d).mpr ⟨f,g⟩))).elim
 ·have l:=(h i e).mp ((A6 x t i).mp n)
  rcases q:iT x _ lo with _|_
  case none=>exact(((q▸F) _) l).elim
  case some y=>
   rw[q] at F
   refine f5 F λ d f g k=>?_;clear F
   have:i=y:=by
    rcases Nat.lt_trichotomy i y with c|c|c
    ·exact absurd l (k _ (J [_,_,_,_,_] 0xc11200021d0009cc0284a111001 L c (d2 _ _) (di e)))
    ·exact c
    ·exact((o y d c) ((A6 x t y).mpr ((h y d).mpr ⟨f,g⟩))).elim
   clear q d f g k;subst this
   exact⟨r,j⟩
theorem acr{j:List Nat}{l:List (List Nat)}(h:vt j=some l):
  (decide ((strOf j).length<(strOf [44]).length)||decide (Builtin.Str.strKind (strOf j)<Builtin.Str.strKind (strOf [44])))=false/\(strOf j).length<=sizeLine/\
  (((Builtin.Str.occurrences (strOf j) (strOf [44]) 0 (strOf j).length ((strOf j).length+1)).isEmpty=true/\l=[j])\/
   ((Builtin.Str.occurrences (strOf j) (strOf [44]) 0 (strOf j).length ((strOf j).length+1)).isEmpty=false/\
    Builtin.Str.partsBetween (strOf j) (Builtin.Str.occurrences (strOf j) (strOf [44]) 0 (strOf j).length ((strOf j).length+1)) (strOf [44]).length=l.map strOf/\l.length<=2)):=by
 refine C' h (λ d k=>?_) λ h=>C' h (λ d k=>?_) λ h=>C' h (λ d k=>?_) bF
 ·subst d k;exact⟨by decide+kernel,by decide+kernel,.inr ⟨by decide+kernel,by decide+kernel,ae rfl⟩⟩
 ·subst d k;exact⟨by decide+kernel,by decide+kernel,.inl ⟨by decide+kernel,rfl⟩⟩
 ·clear h;subst d k;exact⟨by decide+kernel,by decide+kernel,.inr ⟨by decide+kernel,by decide+kernel,ae rfl⟩⟩
section
variable{T:c5}{K:Frag}{P:eW}{aA:Around}{aR:Value->Shared->Prop}{W:bf}{e:U}{j:Shared}{A:bl}
set_option tactic.hygienic true
theorem YB{B:List E}:∀{ai:List Value}{ns:List Int},bK T W B ai->qp B=some ns->∃gp:List (Int×Tok),ai=gp.map (λ s=>.int s.1 s.2)/\gp.map (·.1)=ns:=by
 induction B with
 |nil=>
  intro ai ns r h
  rcases ai with _|_
  case nil=>exact⟨[],rfl,dd h⟩
  case cons _ _=>exact r.elim
 |cons v B a=>
  intro ai ns r h
  rcases ai with _|_
  case nil=>exact r.elim
  case cons x ai=>
   refine a' (jo h) λ i b h=>?_;subst b
   refine a' (gD.mp h) λ g c d=>?_;clear h;subst d
   obtain⟨⟨t,rfl⟩,r⟩:=r
   refine a' (a r c) λ gp e f=>?_
   exact⟨(i,t)::gp,bA _ e,bA _ f⟩
theorem acV{B:List E}:∀{ai:List Value}{ns:List (List Nat)},bK T W B ai->vv B=some ns->∃gp:List (Str×Tok),ai=strValues gp/\gp.map (·.1)=ns.map strOf:=by
 induction B with
 |nil=>
  intro ai ns r h
  rcases ai with _|_
  case nil=>obtain rfl:=dd h;exact⟨[],rfl,rfl⟩
  case cons _ _=>exact r.elim
 |cons v B a=>
  intro ai ns r h
  rcases ai with _|_
  case nil=>exact r.elim
  case cons x ai=>
   refine a' (oS h) λ i b h=>?_;subst b
   refine a' (gD.mp h) λ g c d=>?_;clear h;subst d
   obtain⟨⟨t,rfl⟩,r⟩:=r
   refine a' (a r c) λ gp e f=>?_
   exact⟨(strOf i,t)::gp,bA _ e,bA _ f⟩
theorem acW{l:List (Str×Tok)}:∀{ns:List (List Nat)},l.map (·.1)=ns.map strOf->bK T W (ns.map E.str) (strValues l):=by
 induction l with
 |nil=>intro ns h;obtain rfl:=List.map_eq_nil_iff.mp h.symm;trivial
 |cons s l a=>
  intro ns h
  rcases ns with _|_
  case nil=>cases h
  case cons n ns=>
   have h:=e0 h
   exact⟨⟨s.2,bA (Value.str · _) h.1⟩,a h.2⟩
theorem ab0(Q:Inv T W e j){v:E}{x:Value}{B:List E}(r:RelV T W v x)(h:xv e v=some B):∃a items cf c,x=.ref a/\(c="list"\/c="tuple")/\j.heap.get? a=some {cls:=.type c,data:=.seq items cf}/\bK T W B items.toList:=by
 rcases v with _|_
 case tup aV=>
  obtain rfl:=ck h
  refine fg r λ a items cf b f ab=>?_;clear r;subst b
  exact⟨a,items,cf,_,rfl,.inr rfl,Q.fA _ _ f,ab⟩
 case lst aV=>
  obtain rfl:=ck h
  refine fg r λ a items cf d f ab=>?_;clear r;subst d
  exact⟨a,items,cf,_,rfl,.inl rfl,Q.fA _ _ f,ab⟩
 case ref i=>
  refine fg (lX Q r h) λ a items cf g f ab=>?_;clear r;subst g
  exact hZ a items cf _ ⟨rfl,.inl rfl,f,ab⟩
 all_goals exact bF h
theorem bK.one{v:E}{ai:List Value}(r:bK T W [v] ai):∃x,ai=[x]/\RelV T W v x:=by
 rcases ai with _|_
 case nil=>exact r.elim
 case cons x ai=>(rcases ai with _|_;(case nil=>exact⟨x,rfl,r.1⟩);(case cons _ _=>exact r.2.elim))
theorem bK.two{v w:E}{ai:List Value}(r:bK T W [v,w] ai):∃x H,ai=[x,H]/\RelV T W v x/\RelV T W w H:=by
 rcases ai with _|_
 case nil=>exact r.elim
 case cons x ai=>
  refine a' (bK.one r.2) λ H a h=>?_;subst a
  exact cu x H ⟨rfl,r.1,h⟩
theorem Ha(Q:Inv T W e j){f:Int->Int->Int}{nm:String}(P:∀a b,f a b=a\/f a b=b){B:List E}{ai:List Value}{v:E}(g:bK T W B ai)(h:BU e f B=some v)(q:A v e)
  (C:∀(l:Addr)(a:Int)(t:Tok),j.heap.IsList l (intItems #[(a,t)])->(∀c tk,(∀b p,j.heap.get? b=some p->c.get? b=some p)->c3 T W A (.int a t) {j with heap:=c,toks:=tk})->wpAny (model T.prog T.w) aA (PySem.call (.builtin nm) [.ref l]) (c3 T W A) aR j)
  (I:∀(a b:Int)(t u:Tok),(∀d c tk,(d=t\/d=u)->(∀b p,j.heap.get? b=some p->c.get? b=some p)->c3 T W A (.int (f a b) d) {j with heap:=c,toks:=tk})->wpAny (model T.prog T.w) aA (PySem.call (.builtin nm) [.int a t,.int b u]) (c3 T W A) aR j):
  wpAny (model T.prog T.w) aA (PySem.call (.builtin nm) ai) (c3 T W A) aR j:=by
 rcases B with _|_
 case nil=>exact bF h
 case cons da B=>
  rcases B with _|_
  case nil=>
   refine a' g.one λ x k r=>?_;subst k
   refine a' (gk.mp (h)) λ w m h=>a' (nP h) λ H n h=>?_;subst n
   refine a' (jo h) λ a o h=>?_;subst o
   obtain rfl:=dd h
   refine fg (lX Q r m) λ l items cf s y F=>?_;clear r;subst s
   refine xW F.one λ D hz t G=>?_;subst G
   exact C l a t ⟨_,(Array.toList_inj.mp (hz.trans (by simp [intItems])):items=intItems #[(a,t)])▸y,rfl,_,rfl⟩ λ c tk i=>c3.now (v:=.int _) (Q.grow i) ⟨_,rfl⟩ q
  case cons dY B=>
   rcases B with _|_
   case cons _ _=>exact bF h
   case nil=>
    refine a' (jo (h)) λ a J h=>a' (jo h) λ b K h=>?_
    subst J K
    obtain rfl:=dd h
    refine afv g.two λ x H L M u N=>?_;subst L;refine a7 M λ t O=>?_;subst O;clear g;subst N
    exact I a b t u λ d c tk z i=>c3.now (v:=.int _) (Q.grow i) ⟨_,rfl⟩ q
set_option tactic.hygienic false
theorem UQ(Q:Inv T W e j)(fa:aA.handled=none){b:tZ}{B:List E}{ai:List Value}{v:E}(i:bK T W B ai)(h:Bn e b B=some v)(q:A v e):
  wpAny (model T.prog T.w) aA (PySem.call (Value.builtin b.name) ai) (c3 T W A) aR j:=by
 rcases b with _|_
 case len=>
  refine a' (nP h) λ w s h=>?_;subst s
  refine a' i.one λ x y ab=>?_;subst y
  have seq:(xv e w).bind (λ x=>if x.length<=c7 then some (E.int x.length) else none)=some v->wpAny (model T.prog T.w) aA (PySem.call _ [x]) _ aR j:=λ h=>by
   refine a' (gk.mp h) λ aV n h=>bc (lg h) λ hz F=>?_;subst F
   refine afw (ab0 Q ab n) λ a items cf c G I C m=>?_;subst G
   rw[m.size] at hz q
   have hz:=ah hz (by decide:c7<=2^63-1)
   have fin:c3 T W A (.int _ (j.toks+1)) {j with toks:=j.toks+1+1}:=c3.now (v:=.int _) Q.tok ⟨_,rfl⟩ q
   rcases I with rfl|rfl
   ·exact call_len_list ⟨_,C,rfl,_,rfl⟩ (by lia) fin
   ·exact PyProof.Rows.len_tuple ⟨_,C,rfl,_,rfl⟩ (by lia) fin
  cases w with
  |str H=>
   refine a7 ab λ t J=>?_;clear ab;subst J
   refine bc (lg h) λ hz K=>?_;subst K
   have hz:=ah hz (by decide:c7<=2^63-1)
   exact PySem.P.len_str (by rw[rZ];lia) (c3.now (v:=.int _) Q.tok ⟨_,rfl⟩ q)
  |_=>exact seq h
 case ord=>
  refine a' (nP h) λ w L h=>?_;subst L
  refine a' (oS h) λ x M h=>?_;subst M
  refine xW i.one λ z N t O=>?_;subst N;subst O
  cases x with
  |nil=>exact bF h
  |cons c r=>cases r with
   |nil=>obtain rfl:=dd h;exact PySem.P.ord_of_char (c3.now (v:=.int _) Q.tok ⟨_,rfl⟩ q)
   |cons _ _=>exact bF h
 case chr=>
  refine a' (nP h) λ w R h=>?_;subst R
  refine a' (jo h) λ k S h=>?_;subst S
  refine xW i.one λ z U t V=>?_;subst U;subst V
  refine bc (lg h) λ c X=>?_;subst X
  exact PySem.P.chr_of_int (by lia) (c3.now (v:=.str _) Q.tok ⟨_,rfl⟩ q)
 case max=>
  refine Ha Q (λ a b=>by split;exact .inr rfl;exact .inl rfl) i h q (λ l a t o k=>max_intList fa o (jH _) λ v f tk g d=>?_) λ a b t u k=>max_two_ints fa λ f tk d=>?_
  ·have g:(intItems _)[0]?=some v:=g
   simp [intItems] at g
   exact g▸k f tk d
  ·by_cases D:a<b
   ·have k:=k u f tk (.inr rfl) d
    rw[aU D] at k⊢;exact k
   ·have k:=k t f tk (.inl rfl) d
    rw[a8 D] at k⊢;exact k
 case min=>
  refine Ha Q (λ a b=>by split;exact .inr rfl;exact .inl rfl) i h q (λ l a t o k=>min_intList fa o (jH _) λ v f tk g d=>?_) λ a b t u k=>min_two_ints fa λ f tk d=>?_
  ·have g:(intItems _)[0]?=some v:=g
   simp [intItems] at g
   exact g▸k f tk d
  ·by_cases D:b<a
   ·have k:=k u f tk (.inr rfl) d
    rw[aU D] at k⊢;exact k
   ·have k:=k t f tk (.inl rfl) d
    rw[a8 D] at k⊢;exact k
 case sum=>
  refine a' (nP h) λ w Z h=>?_;subst Z
  refine a' (gk.mp h) λ aV n h=>a' (gD.mp h) λ ns Y E5=>?_;clear h;subst E5
  refine a' i.one λ H E6 ab=>?_;subst E6
  refine fg (lX Q ab n) λ l items cf E7 C m=>?_;clear ab i;subst E7
  refine a' (YB m Y) λ gp p a_=>?_
  have sN:items=intItems gp.toArray:=by apply Array.toList_inj.mp;rw[p];simp [intItems]
  clear m p;subst sN
  refine sum_intListG fa ⟨_,C,rfl,_,rfl⟩ λ f tk l_ d=>?_
  have:preSum (numAt gp.toArray) gp.toArray.size=ns.sum:=by
   rw[preSum_eq,<-a_]
   rw[List.take_of_length_le (by simp)]
  exact rwl this (c3.now (v:=.int _) (Q.grow d) ⟨_,rfl⟩ q)
end
end
section
section
variable{T:c5}{K:Frag}{P:eW}{aA:Around}{aR:Value->Shared->Prop}{W:bf}{e:U}{j:Shared}{A:bl}
set_option tactic.hygienic true in
theorem abv{v w u:E}{ai:List Value}(r:bK T W [v,w,u] ai):∃x H D,ai=[x,H,D]/\RelV T W v x/\RelV T W w H/\RelV T W u D:=by
 rcases ai with _|_
 case nil=>exact r.elim
 case cons H dr=>refine fC (bK.two r.2) λ D a b h=>?_;subst b;exact gw H D a ⟨rfl,r.1,h⟩
theorem D3{ai:List Value}(r:bK T W [] ai):ai=[]:=by
 rcases ai with _|_
 case nil=>rfl
 case cons _ _=>exact r.elim
theorem Inv.DD(Q:Inv T W e j){a b c:Int}{d hC f tk:Tok}(q:A (.rng a b c) e):
  c3 T W A (.ref j.heap.objs.size) {j with heap:=j.heap.push {cls:=.type "range",data:=.fields #[.int a d,.int b hC,.int c f]},toks:=tk}:=by
 exact bc (Q.z1 _ rfl) λ bT l=>⟨_,.rng a b c,_,l,bT,(hZ _ d hC f ⟨rfl,aU rfl⟩),q⟩
set_option tactic.hygienic true in
theorem adG(Q:Inv T W e j){t:TI}{B:List E}{ai:List Value}{v:E}(d:bK T W B ai)(h:r3 t B=some v)(q:A v e):wpAny (model T.prog T.w) aA (PySem.call (Value.type t.name) ai) (c3 T W A) aR j:=by
 rcases t with _|_
 case str=>
  refine a' (nP h) λ w G h=>?_;subst G
  refine a' (jo h) λ k I h=>?_;subst I
  refine xW (bK.one d) λ x J t K=>?_;subst J;subst K
  refine bc (lg h) λ c L=>?_;subst L
  refine a7 (uj (gg (i5 c))) λ n M=>?_;subst M
  have Y:=dR.mp (gg (kc c))
  exact PySem.P.str_of_int (acm n Y) (c3.now (v:=.str _) Q.tok ⟨_,by rw[VT n Y];rfl⟩ q)
 case range=>
  have g:∀{a b c:E},xn a b c=some v->∃i y k,a=.int i/\b=.int y/\c=.int k/\v=.rng i y k/\(dU i=true/\dU y=true)/\(k=1\/k=-1):=λ h=>by
   exact a' (jo h) λ i l h=>a' (jo h) λ y N h=>a' (jo h) λ k f h=>bc (lg h) λ c O=>gw i y k ⟨l,N,f,O.symm,⟨i5 (i5 c),kc (i5 c)⟩,(Bool.or_eq_true_iff.mp (kc c)).imp eq_of_beq eq_of_beq⟩
  rcases B with _|_
  case nil=>exact bF h
  case cons b B=>
   rcases B with _|_
   case nil=>
    refine r7 (g (show xn (.int 0) b _=some v from h)) λ i y k l R f S z z=>?_;subst R;subst S
    (injection l with a0;subst a0);(injection f with a0;subst a0)
    refine xW (bK.one d) λ x U t V=>?_;subst U;subst V
    exact call_range_1 (Q.DD q)
   case cons c B=>
    rcases B with _|_
    case nil=>
     refine r7 (g (h)) λ i y k X Z f afN z z=>?_;subst X;subst Z;subst afN
     (injection f with a0;subst a0)
     refine jd (bK.two d) λ x H jx m p=>?_;subst jx;refine a7 m λ t afO=>?_;clear m;subst afO;refine a7 p λ u afP=>?_;clear p;subst afP
     exact call_range_2 (Q.DD q)
    case cons o B=>
     rcases B with _|_
     case cons _ _=>exact bF h
     case nil=>
      refine r7 (g (h)) λ i y k kp afQ afR afS z r=>?_;subst kp;subst afQ;subst afR;clear g;subst afS
      refine j3 (abv d) λ x H D jh s C F=>?_;subst jh;refine a7 s λ t xZ=>?_;clear s;subst xZ;refine a7 C λ u afT=>?_;clear C;subst afT;refine a7 F λ w afU=>?_;clear F;clear d;subst afU
      exact call_range_3 (by rcases r with rfl|rfl<;>decide) (Q.DD q) (Or.inl (PyProof.noPylong_small (by rcases r with rfl|rfl<;>decide)))
 case list=>exact bF h
theorem Zc(Q:Inv T W e j){B:List E}{ai:List Value}(a:bK T W [.tup B] ai)(hz:B.length<=c7)(q:A (.ref e.next) (e.alloc (.list B))):wpAny (model T.prog T.w) aA (PySem.call (Value.type "list") ai) (c3 T W A) aR j:=by
 refine afu (bK.one a) λ x b l items n c f r=>?_;subst b;clear a;subst c
 refine call_list_seq (hsz:=(by have:=r.size;rw[z9];simp only[c7] at hz;lia)) l (.inr rfl) (Q.fA _ _ f) rfl rfl λ g h k o=>?_
 have bT:=Q.grow (tk:=j.toks) k
 have aX:=bf.th (λ z=>False) W j.heap.objs.size j.heap.objs.size
 have s:=bT.new (p:=.list B) ⟨by show(if W.n=W.n then _ else _)=if W.n=W.n then _ else _;rw[aU rfl,aU rfl],items,h,by show g.get? (if W.n=W.n then _ else _)=_;exact rwl (aU rfl) o,r.le aX⟩
  Q.tf Q.tg λ i x d m=>e' (Q.vc d m)
 exact⟨_,_,_,aX,s,bT.z2 _ _,q⟩
noncomputable def fp.val(T:c5):fp->Value
 |.join=>.builtin "str.join"|.lower=>.builtin "str.lower"|.swapcase=>.builtin "str.swapcase"|.find=>.builtin "str.find"|.index=>.builtin "str.index"|.split=>.builtin "str.split"
 |.append=>.builtin "list.append"|.pop=>.builtin "list.pop"|.extend=>.builtin "list.extend"|.setdefault=>.builtin "dict.setdefault"
 |.fn k=>.ref (T.jr k)
theorem pA{m:Str}{x:String}(h:(m==Str.ofString x)=true):m=Str.ofString x:=iw.mp h
set_option tactic.hygienic true
set_option maxHeartbeats 2000000 in
theorem Xl(S:St T K P)(Q:Inv T W e j){p:E}{x:Value}{m:Str}{cP:fp}{bU:Sem Bool}{R:Value×List Value->Shared->Prop}(h:zF P e p m=some cP)(f:RelV T W p x)(q:R (cP.val T,[x]) j):
  wpAny (model T.prog T.w) aA (getMethod x m bU) R aR j:=by
 rcases p with _|_
 case str w=>
  refine a7 f λ t r=>?_;subst r
  have h:=h
  refine oU h (λ c d=>?_) λ C=>?_
  ·subst d;exact rwl (pA c) (GM.join q)
  clear h
  refine oU C (λ c d=>?_) λ h=>?_
  ·subst d;exact rwl (pA c) (GM.lower q)
  clear C
  refine oU h (λ c d=>?_) λ C=>?_
  ·subst d;exact rwl (pA c) (GM.swapcase q)
  clear h
  refine oU C (λ c d=>?_) λ h=>?_
  ·subst d;exact rwl (pA c) (GM.find q)
  clear C
  refine oU h (λ c d=>?_) λ C=>?_
  ·subst d;rw[pA c];exact GM.index q
  clear h
  refine oU C (λ c d=>?_) (bF)
  subst d;rw[pA c];exact GM.split q
 case ref i=>
  have h:(match e.get i with|some b=>xe P m b|none=>none)=some cP:=h
  rcases d:e.get i with _|_
  case none=>rw[d] at h;exact bF h
  case some b=>
   rw[d] at h
   refine bc f λ z s=>?_;clear f;subst s
   rcases b with _|_
   case inst c az B=>
    refine a' (gD.mp h) λ k u v=>?_;subst v
    refine ET (Q.inst d) λ y A b O cf C I ag g G H=>?_
    have aw:=S.cls _ y
    refine e_ (aw.b0 m k u) λ J L l=>?_
    refine method_fn (Q.pa S) H aw.ga aw.Xe J L ?_ q
    have c_:=lookIn_dict m ag g G
    have Y:m∉az:=λ M=>by rw[A m M] at l;cases l
    rw[Hk Y] at c_
    have c_:lookIn m b=some none:=c_
    unfold shadowIn
    dsimp only
    rw[c_];rfl
   case dict az B=>
    have h:(if(m==vx)=true then some fp.setdefault else none)=some cP:=h
    refine oU h (λ c D=>?_) bF
    subst D
    refine Az (Q.obj _ _ d) λ U p N C I ag g=>?_
    have o:j.heap.DictOf T.knd (W.adr i) N:=nH.mpr ⟨p,C,I⟩
    rw[pA c]
    exact getMethod_builtin o.typeIs PySem.F.plainAttrs_dict PySem.F.slot_dict_setdefault PySem.F.type_dict_setdefault o.mapOf.noDict q
   case list B=>
    refine fC (Q.listAt d) λ items n C ab=>?_
    have Y:∀a,Value.ref (W.adr i)=.ref a->∃b,j.heap.get? a=some b/\b.dict=none:=λ a d=>by(injection d with a0;subst a0);exact⟨_,C,rfl⟩
    have h:Dm m=some cP:=h
    unfold Dm at h
    refine oU h (λ c D=>?_) λ h=>oU h (λ c D=>?_) λ h=>oU h (λ c D=>?_) bF
    ·subst D;rw[pA c];exact getMethod_builtin ⟨_,C,rfl⟩ PySem.F.plainAttrs_list PySem.F.slot_list_append PySem.F.type_list_append Y q
    ·subst D;rw[pA c];exact getMethod_builtin ⟨_,C,rfl⟩ PySem.F.plainAttrs_list PySem.F.slot_list_pop PySem.F.type_list_pop Y q
    ·subst D;rw[pA c];exact getMethod_builtin ⟨_,C,rfl⟩ PySem.F.plainAttrs_list PySem.F.slot_list_extend PySem.F.type_list_extend Y q
   case flist _=>exact bF h
 all_goals exact bF h
theorem Wu{w x:List Nat}{n:Nat}(Y:n<=w.length):Txt.find3 (strOf w) (strOf x) (n:Int)=BY (iT x (w.drop n) n):=by
 have ku:=JL x w n Y
 unfold Txt.find3 fromIndex
 have b:(max 0 (if(n:Int)<0 then(n:Int)+((strOf w).length:Nat) else(n:Int))).toNat=n:=by
  rw[a8 (jF.mpr (i4 n)),Int.max_eq_right (i4 n)];rfl
 rw[b]
 rcases a:iT x (w.drop n) n with _|_
 case none=>rw[a] at ku;rw[ku];rfl
 case some y=>rw[a] at ku;refine a7 ku λ r V=>?_;clear ku;rw[V];rfl
theorem acU(Q:Inv T W e j){w:List Nat}{t:Tok}{cP:fp}{B:List E}{ai:List Value}{v:E}(b:bK T W B ai)(h:og e w cP B=some v)(q:A v e):
  wpAny (model T.prog T.w) aA (PySem.call (cP.val T) (.str (strOf w) t::ai)) (c3 T W A) aR j:=by
 have line:w.length<=1000->(strOf w).length<=1000:=λ h=>rwr (rZ w) h
 rcases cP with _|_
 case join=>
  refine a' (nP h) λ da I h=>?_;subst I
  refine a' (bK.one b) λ x J ab=>?_;subst J
  refine a' (gk.mp h) λ l g h=>?_
  refine a' (gk.mp h) λ ns Y h=>?_
  refine bc (lg h) λ hz K=>?_;subst K
  refine fg (lX Q ab g) λ a items cf L C aT=>?_;clear ab;subst L
  refine a' (acV aT Y) λ gp f i=>?_
  have M:items=(strValues gp).toArray:=Array.toList_inj.mp f
  clear aT;subst M
  refine SC.join (texts:=ns.map strOf) ⟨_,C,rfl,_,rfl⟩ i (joinOk_of hz) λ l_ k=>?_
  rw[YL]
  exact c3.now (v:=.str _) Q.tok ⟨_,rfl⟩ q
 case lower=>
  refine bc (FR h) λ N h=>?_;subst N
  obtain rfl:=D3 b
  refine bc (lg h) λ c O=>?_;subst O
  refine SC.lower (fit_lower (ah (line (gg (kc c))) (by decide))) ?_
  rw[Zu (i5 c)]
  exact c3.now (v:=.str _) Q.tok ⟨_,rfl⟩ q
 case swapcase=>
  refine bc (FR h) λ P h=>?_;subst P
  obtain rfl:=D3 b
  refine bc (lg h) λ c R=>?_;subst R
  refine SC.swapcase (fit_swapcase (ah (line (gg (kc c))) (by decide))) ?_
  rw[ac8 (i5 c)]
  exact c3.now (v:=.str _) Q.tok ⟨_,rfl⟩ q
 case find=>
  rcases B with _|_
  case nil=>exact bF h
  case cons da B=>
   refine a' (oS (show(h_ da).bind _=some v from h)) λ x S h=>?_;subst S
   refine a' (nP h) λ dY U h=>?_;subst U
   refine a' (jo h) λ k X h=>?_;subst X
   refine jd (bK.two b) λ H D Z o p=>?_;subst Z;refine a7 o λ hi af3=>?_;clear o;subst af3;refine a7 p λ jc af4=>?_;clear p;subst af4
   refine bc (lg h) λ c E5=>?_;subst E5
   refine a7 (uj (gg (i5 (i5 c)))) λ n E6=>?_;subst E6
   refine SC.find3 ?_
   rw[Wu (hT.mp (gg (kc c)))]
   exact c3.now (v:=.int _) Q.tok ⟨_,rfl⟩ q
 case index=>
  refine a' (nP h) λ da E7 h=>?_;subst E7
  refine a' (oS h) λ x af6 h=>?_;subst af6
  refine a' (bK.one b) λ H af7 s=>?_;subst af7;refine a7 s λ hi af8=>?_;clear s;subst af8
  refine a' (gk.mp h) λ y dE h=>?_
  obtain rfl:=dd h
  have ku:=JL x w 0 (de _)
  rw[mU,dE] at ku
  refine a7 ku λ r V=>?_;clear ku
  exact SC.index V (c3.now (v:=.int _) Q.tok ⟨_,rfl⟩ q)
 case split=>
  refine a' (nP h) λ da af9 h=>?_;subst af9
  refine a' (oS h) λ x af_ h=>?_;subst af_
  refine a' (bK.one b) λ H af' u=>?_;subst af';refine a7 u λ hi aga=>?_;clear u;subst aga
  refine bc (qr h) λ c h=>?_
  clear b;subst c
  refine a' (gk.mp h) λ l g h=>?_
  obtain rfl:=dd h
  refine e_ (acr g) λ f i d=>?_
  rcases d with⟨d,rfl⟩|⟨d,G,fQ⟩
  ·refine call_meets PySem.F.slot_str_split (typeIs_str _ _ _) PySem.F.entry_str_split (PySem.F.args_str_split_2 _ _) (meets_str_split_not_found (strOf w) (strOf [44]) t hi f rfl d) ?_
   refine fB (Q.DC (B:=[E.str w]) (items:=#[.str (strOf w) t]) (cf:=0) (tk:=j.toks) ⟨⟨t,rfl⟩,trivial⟩) λ aO dV m eg=>?_
   exact⟨aO,_,_,dV,m,eg,q⟩
  ·refine call_meets PySem.F.slot_str_split (typeIs_str _ _ _) PySem.F.entry_str_split (PySem.F.args_str_split_2 _ _) (meets_str_split_sep (strOf w) (strOf [44]) t hi f rfl d i (by rw[G,cM,z9];exact ah fQ (ae rfl))) ?_
   show c3 T W A (.ref j.heap.objs.size) {j with toks:=_,heap:=j.heap.push {cls:=.type "list",data:=.seq (strsFrom j.toks (Builtin.Str.partsBetween _ _ _)).toArray}}
   rw[strsFrom_eq,G]
   refine fB (Q.DC (B:=l.map E.str) (items:=(strValues (numbered j.toks (l.map strOf))).toArray) (cf:=0) (tk:=j.toks+(l.map strOf).length) (acW (numbered_texts _ _))) λ aO dV m eg=>?_
   exact⟨aO,_,_,dV,m,eg,q⟩
 all_goals exact bF h
set_option tactic.hygienic false
end
end
section
section
variable{T:c5}{K:Frag}{P:eW}{aA:Around}{aR:Value->Shared->Prop}{W:bf}{e:U}{j:Shared}{A:bl}
set_option tactic.hygienic true in
theorem Za(Q:Inv T W e j){i:Nat}{a:List E}{cP:fp}{B:List E}{ai:List Value}(d:e.get i=some (.list a))(c:bK T W B ai)(h:Dn i a cP B A e):
  wpAny (model T.prog T.w) aA (PySem.call (cP.val T) (.ref (W.adr i)::ai)) (c3 T W A) aR j:=by
 refine fC (Q.listAt d) λ items n C ab=>?_
 have hsz:=ab.size
 have g:j.TypeIs (.ref _) _:=⟨_,C,rfl⟩
 rcases cP with _|_
 case append=>
  refine Jh h λ v D h=>?_;subst D
  refine bc h λ hz q=>a' (bK.one c) λ x m f=>?_;subst m
  have D:items.size<=sizeLine:=J [_,_] 0x100000028c803d0900146509481 L (aL hsz.symm) hz
  refine call_meets PySem.F.slot_list_append g PySem.F.entry_list_append (PySem.F.args_list_append_2 _ _) (list_append _ _ n x D) ⟨C,?_⟩
  have bT:=Q.xw d C (c2:=a++[v]) (λ D=>D.push x) (tk:=j.toks) (by rw[Array.toList_push];exact ab.append ⟨f,trivial⟩)
  exact⟨W,.none,_,dc.refl _ _,bT,rfl,q⟩
 case pop=>
  refine aab h λ D h=>?_;subst D
  obtain rfl:=D3 c
  refine Kz h λ v k h=>?_
  refine bc h λ hz q=>?_;clear h
  have D:items.size<=sizeLine:=J [_,_] 0x100000028c803d0900146509481 L (aL hsz.symm) hz
  have o:a≠[]:=by rintro rfl;cases k
  rw[List.getLast?_eq_getElem?] at k
  refine a' (ab.get k) λ H b_ l5=>?_
  refine call_meets PySem.F.slot_list_pop g PySem.F.entry_list_pop (PySem.F.args_list_pop_1 _) (list_pop_last _ _ n H (by rw[<-hsz];simpa using b_:items[items.size-1]?=some H) D) ⟨C,?_⟩
  have bT:=Q.xw d C (c2:=a.dropLast) (λ D=>D.eraseIdxIfInBounds _) (tk:=j.toks) (by
   have:(items.eraseIdxIfInBounds (items.size-1)).toList=items.toList.take (items.size-1):=by
    unfold Array.eraseIdxIfInBounds
    rw[dif_pos (di (J [_,_] 0xa1100811004009481 L (aL hsz) (List.length_pos_iff.mpr o))),Array.toList_eraseIdx,List.eraseIdx_eq_take_drop_succ,sr (by exact d2 _ _),gS]
   rw[this,List.dropLast_eq_take,hsz]
   exact ab.take _)
  exact⟨W,v,_,dc.refl _ _,bT,l5,q⟩
 case extend=>
  refine Jh h λ v D h=>?_;subst D
  refine a' (bK.one c) λ x p f=>?_;subst p
  refine lstK h λ dr b_ h=>?_
  refine bc h λ hz q=>fg (lX Q f b_) λ b l dh r I aT=>?_;clear f c;subst r
  have s:=aT.size
  simp only[c7] at hz
  refine call_meets PySem.F.slot_list_extend g PySem.F.entry_list_extend (PySem.F.args_list_extend_2 _ _) (AutoSeq1.list_extend_list_list_0 _ _ n b l dh (by simp [Builtin.List.listTooLong,sizeLine];lia) (J [_,_,_] 0x4000000a3200f424005198a009481 L (aL hsz.symm) hz) (J [_,_,_,_] 0x4500000028c0720006384f424005198a009481 L (aL hsz.symm) hz (aL s.symm))) ⟨C,I,?_⟩
  exact⟨W,.none,_,dc.refl _ _,Q.xw d C (λ D=>D++l) (tk:=j.toks) (by rw[Array.toList_append];exact ab.append aT),rfl,q⟩
 all_goals exact h.elim
theorem VP(S:St T K P)(Q:Inv T W e j){i:Nat}{az:List (List Nat)}{aV:List E}{cP:fp}{B:List E}{ai:List Value}(d:e.get i=some (.dict az aV))(l:bK T W B ai)(h:BF i az aV cP B A e):
  wpAny (model T.prog T.w) aA (PySem.call (cP.val T) (.ref (W.adr i)::ai)) (c3 T W A) aR j:=by
 rcases cP with _|_
 case setdefault=>
  refine qF (show ll _ _ from h) λ⟨k,v⟩ G h=>?_
  ·obtain rfl:=Tx G
   refine bc h λ hz q=>?_;clear h
   refine jd (bK.two l) λ x H M m o=>?_;subst M;refine a7 m λ t N=>?_;clear m;clear l;subst N
   refine afq (And.intro (Q.lt i _ d) (Q.obj _ _ d)) λ O Z p f C I ag r=>?_
   have s:j.heap.DictOf T.knd (W.adr i) f:=nH.mpr ⟨p,C,I⟩
   have R:(W.adr i==sysModules)=false:=by
    refine jd (rm Q S.sys (v:=.ref i) (x:=.ref (W.adr i)) (az:=az) (B:=aV) ⟨rwl Q.n O,rfl⟩ (by unfold ic;simp only[d])) λ a agB U V z=>?_
    (injection U with a0;subst a0);exact V
   have c_:=BI (T:=T) (W:=W) k ag r
   refine call_meetsIn PySem.F.slot_dict_setdefault s.typeIs PySem.F.entry_dict_setdefault (PySem.F.args_dict_setdefault_3 _ _ _) (kt_meets_setdefault T.knd (W.adr i) (by show((strOf k)==(strOf k))=true;exact eC _:T.knd.is (strOf k) (.str (strOf k) t)=true) R H) ⟨f,s,by rw[sJ ag,z9];exact J [_] 0x4000000a3203e810c81 L hz,λ r4 c=>?_,λ u aY X Y=>?_⟩
   ·split at q
    ·rename_i w b
     rw[b] at c_
     refine a' c_ λ D g y=>?_;clear c_
     rw[g] at c;obtain rfl:=ck c
     exact c3.now Q.tok y q
    ·rename_i b
     rw[b] at c_
     have c_:valueAt f (strOf k)=none:=c_
     rw[c_] at c;cases c
   ·split at q
    ·rename_i w b
     rw[b] at c_
     refine a' c_ λ D g y=>?_;clear c_
     rw[g] at u;cases u
    ·exact⟨W,v,_,dc.refl _ _,Q.Kq d X Y ag r (keysNodup_of_isDictOf I) o,o,q⟩
 all_goals exact h.elim
set_option backward.match.sparseCases true in
def pK(T:c5)(P:eW)(aA:Around)(R:dp):Prop:=∀(k:Nat)(B:List E)(A:bl)(e:U),R k B A e->(∃o,P.fn k=some o)/\
 ∀(W:bf)(j:Shared)(ai:List Value)(aR:Value->Shared->Prop),Inv T W e j->bK T W B ai->
  codeAny (model T.prog T.w) aA (.call (.ref (T.jr k)) ⟨ai,[]⟩) (λ r a=>match r with|.ok (.ret v)=>c3 T W A v a|.ok _=>False|.error d=>aR d a) j
theorem ZS(S:St T K P){R:dp}(dt:pK T P aA R)(Q:Inv T W e j){p:E}{x:Value}{cP:fp}{B:List E}{ai:List Value}(a:RelV T W p x)(b:bK T W B ai)(h:bY R cP p B A e):
  wpAny (model T.prog T.w) aA (PySem.call (cP.val T) (x::ai)) (c3 T W A) aR j:=by
 refine ZP h (λ k d h=>?_) (λ z z d f q=>?_) (λ i ai D d q=>?_) λ i az aV D d q=>?_
 ·subst d;exact wpAny_call ((dt _ _ _ _ h).2 W j _ aR Q ⟨a,b⟩)
 ·subst d
  refine a7 a λ t g=>?_;clear a;subst g
  exact acU Q b f q
 ·subst D
  refine bc a λ z c=>?_;clear a;subst c
  exact Za Q d b q
 ·subst D
  refine bc a λ z c=>?_;clear a;subst c
  exact VP S Q d b q
theorem WR(Q:Inv T W e j){v:E}{x:Value}(r:RelV T W v x):∃aO,gA W aO/\Inv T aO (hc v e).2 j/\RelV T aO (hc v e).1 x:=by
 refine WQ (F:=λ s=>∃aO,gA W aO/\Inv T aO s.2 j/\RelV T aO s.1 x) ⟨W,dc.refl _ _,Q,r⟩ (λ i B D d=>?_) λ i B D d=>?_
 ·subst D
  refine bc (id r) λ z a=>?_;subst a
  exact jd (Q.frozen d) λ items cf bT l eg=>⟨_,l,bT,eg⟩
 ·subst D
  refine bc (id r) λ z a=>?_;subst a
  exact fC (Q.obj _ _ d) λ items cf C I=>⟨W,dc.refl _ _,Q,_,items,cf,rfl,C,I⟩
theorem Hr:∀{B:List E}{ai:List Value}{W:bf}{e:U},Inv T W e j->bK T W B ai->∃aO,gA W aO/\Inv T aO (iz B e).2 j/\bK T aO (iz B e).1 ai
 |[],[],W,e,Q,r=>⟨W,dc.refl _ _,Q,r⟩
 |[],_::_,_,_,_,r=>r.elim
 |_::_,[],_,_,_,r=>r.elim
 |v::B,x::ai,W,e,Q,⟨ab,aT⟩=>by
  exact fB (WR Q ab) λ g aX a b=>fB (Hr a (aT.le aX)) λ c bS d f=>⟨c,aX.trans bS,d,b.le bS,f⟩
end
end
section
section
variable{T:c5}{K:Frag}{P:eW}{aA:Around}{aR:Value->Shared->Prop}{W:bf}{e:U}{j:Shared}{A:bl}{ev:j5}{eh:lG}{R:dp}{c:fF}{aJ:Env}
def mf(T:c5)(aA:Around)(ev:j5):Prop:=∀(c:fF)(d:Expr)(A:bl)(e:U)(W:bf)(j:Shared)(aJ:Env)(aR:Value->Shared->Prop),ev c d A e->Inv T W e j->fo T W c aJ->wpAny (model T.prog T.w) aA (eval d aJ) (c3 T W A) aR j
def pR(T:c5)(aA:Around)(eh:lG):Prop:=∀(c:fF)(d:Expr)(A:Bool->U->Prop)(e:U)(W:bf)(j:Shared)(aJ:Env)(aR:Value->Shared->Prop),eh c d A e->Inv T W e j->fo T W c aJ->wpAny (model T.prog T.w) aA (PySem.isTrue d aJ (eval d aJ)) (pO T W A) aR j
theorem Es(d:Expr)(r:List Expr)(aJ:Env)(h:∀x s,d≠.Starred x s):starEach (d::r) aJ=(false,eval d aJ)::starEach r aJ:=by
 rcases d with _|_<;>first|rfl|exact((h _ _) rfl).elim
theorem wm(a:mf T aA ev){cz:Pos}:∀{b:List Expr}{A:List E->U->Prop}{e:U}{W:bf}{j:Shared},qb ev c b A e->Inv T W e j->fo T W c aJ->wpAny (model T.prog T.w) aA (spliced (backTo cz (starEach b aJ))) (Fx T W A) aR j
 |[],A,e,W,j,h,Q,d=>spliced_nil ⟨W,[],e,dc.refl _ _,Q,trivial,h⟩
 |x::r,A,e,W,j,h,Q,d=>by
  have f:ev c x (λ v=>qb ev c r (λ B=>A (v::B))) e:=by
   rcases x with _|_<;>first|exact h|exact h.elim
  exact rwl ((Es x r _ (by rintro H s rfl;exact h))) (spliced_cons (fk (a c x _ e W j _ aR f Q d) λ m v n H o aX g ab C=>xK (wm a C g (d.le aX)) λ i B k dr p bS l aT q=>⟨i,v::B,k,aX.trans bS,l,⟨ab.le bS,aT⟩,q⟩))
theorem DH{cz:Pos}{aJ:Env}:∀{args:List Expr},rO args=true->(backTo cz (starEach args aJ)).any (·.1)=false/\(backTo cz (starEach args aJ)).all (λ x=>!x.1)=true
 |[],_=>⟨rfl,rfl⟩
 |x::r,h=>by
  obtain⟨a,b⟩:=DH (by rcases x with _|_<;>first|exact h|cases h)
  exact rwl ((Es x r _ (by rintro H s rfl;cases h))) (⟨by show(false||_)=false;exact a,by show(true&&_)=true;exact b⟩)
set_option tactic.hygienic true in
theorem FZ{p:Expr}{m:Str}{a:Sem Value}(h:w' p=true):attributeBase p m aJ a=a:=by
 rcases p with _|_
 case Call f args b s=>
  rcases f with _|_
  case Name id q=>
   rcases args with _|_
   case nil=>(rcases b with _|_;(case nil=>exact cy h);(case cons _ _=>rfl))
   case cons _ _=>rfl
  all_goals rfl
 all_goals rfl
def nx(bh:Model)(K:Frag)(f:Value):Prop:=∀h,K.In h->∃k,(k=Keeper.frame\/k=Keeper.machine\/k=Keeper.boundFrame)/\Looks bh h (keeperOf f) k
theorem I9{bh:Model}(id:String):nx bh K (.builtin id):=λ h z=>⟨.machine,.inr (.inl rfl),.now⟩
theorem YR{bh:Model}(id:String):nx bh K (.type id):=λ h z=>⟨.machine,.inr (.inl rfl),.now⟩
set_option tactic.hygienic true in
theorem Gv(S:St T K P){cz:Pos}{f:Value}{first:List Value}{args:List Expr}{b:Value->Shared->Prop}(c:rO args=true)
  (h:wpAny (model T.prog T.w) aA (spliced (backTo cz (starEach args aJ))) (λ ai a=>(K.In a.heap/\nx (model T.prog T.w) K f)/\wpAny (model T.prog T.w) aA (PySem.call f (first++ai)) b aR a) aR j):
  wpAny (model T.prog T.w) aA (callWith cz f first (backTo cz (starEach args aJ)) []) b aR j:=by
 refine callWith_of (P:=λ h=>K.In h/\nx _ K f) (by refine rwl ((DH (cz:=cz) (aJ:=aJ) c).1) ?_;rfl) (λ h x=>x.2 h x.1) ?_
 rcases args with _|_
 case nil=>
  exact bZ (fN h (λ ai a C=>bZ (dN (jm (bZ (dN (bZ (dN (dN C)))))))) λ z z x=>x)
 case cons d r=>
  have e:∀H s,d≠.Starred H s:=by rintro H s rfl;cases c
  rw[Es d r _ e] at h⊢
  exact evalArgs_plain h
theorem ZT(S:St T K P){p:Expr}{m:Str}{b cz:Pos}{args:List Expr}{c:Value->Shared->Prop}(C:w' p=true)(I:(b.endLine==cz.line)=true)(ag:args.length<20)(g:rO args=true)
  (h:wpAny (model T.prog T.w) aA (eval p aJ) (λ d e=>∀bU,wpAny (model T.prog T.w) aA (getMethod d m bU) (λ a f=>wpAny (model T.prog T.w) aA (callWith cz a.1 a.2 (backTo cz (starEach args aJ)) []) c aR f) aR e) aR j):
  wpAny (model T.prog T.w) aA (eval (.Call (.Attribute p m b) args [] cz) aJ) c aR j:=by
 have i:methodCallForm (args.length+([]:List Keyword).length) (backTo cz (starEach args aJ)) (backToKw cz (keywordEach [] aJ))=true:=by
  unfold methodCallForm
  refine rwl ((DH g).2) ?_
  rw[fi (by exact J [_] 0xf082200802200000504111001 L ag)];rfl
 (rewrite[arm_eval_Call];refine rwl ((FZ C)) ?_)
 refine bZ (fN h (λ d e k=>bZ (pW ?_)) λ z z x=>x)
 unfold methodCall
 refine rwl i (bZ (jm ?_))
 unfold calleeOf
 refine fN (k _) (λ a f l=>?_) λ z z x=>x
 unfold methodCallPos
 exact rwl I (bZ (dN l))
set_option tactic.hygienic true
theorem ZO(S:St T K P)(g:mf T aA ev)(dt:pK T P aA R)(rA:∀k o,P.fn k=some o->nx (model T.prog T.w) K (.ref (T.jr k))){p:Expr}{m:Str}{i cz:Pos}{args:List Expr}(C:w' p=true)(I:(i.endLine==cz.line)=true)(ag:args.length<20)(l:rO args=true)
  (h:ev c p (λ a b=>match zF P b a m with
   |some cP=>qb ev c args (λ B n=>bY R cP a B A n) b
   |none=>False) e) (Q:Inv T W e j) (d:fo T W c aJ):
  wpAny (model T.prog T.w) aA (eval (.Call (.Attribute p m i) args [] cz) aJ) (c3 T W A) aR j:=by
 refine ZT S C I ag l (fk (g c p _ e W j _ aR h Q d) λ u a b x v aX r ab f bU=>?_)
 split at f
 ·rename_i cP s
  refine Xl S r s ab (Gv S l (xK (wm g f r (d.le aX)) λ y B n ai E bS t aT q=>⟨⟨t.pa S,?_⟩,?_⟩))
  ·clear s;rcases cP with _|_
   case fn k=>
    exact a7 (dt k _ _ _ q).1 (rA k)
   all_goals exact I9 _
  ·exact fN (ZS S dt t (ab.le bS) aT q) (λ z z D=>D.le (aX.trans bS)) λ z z D=>D
 ·exact f.elim
theorem Vi(S:St T K P)(dt:pK T P aA R)(wz:∀aw O,pK T P (aA.under (.builtin "type.__call__" ⟨.ref aw::O,[]⟩)) R)(fa:aA.handled=none)
  (Q:Inv T W e j) {f:E} {x:Value} {B:List E} {ai:List Value} (u:RelV T W f x) (y:bK T W B ai) (h:cJ P R f B A e):wpAny (model T.prog T.w) aA (PySem.call x ai) (c3 T W A) aR j:=by
 rcases f with _|_
 case fn k=>
  have u:x=.ref (T.jr k):=u
  subst u
  exact wpAny_call ((dt _ _ _ _ h).2 W j ai aR Q y)
 case cls c=>
  have u:x=.ref (T.ca c):=u
  subst u
  refine qF (show ll _ _ from h) λ k C h=>?_
  ·have I:=S.YC c k C
   have aw:=S.cls c I
   refine bc (aw.init k C) λ U V=>?_
   have X:=Q.pa S
   obtain⟨s,g,o,t,os⟩:=j
   refine wpAny_call (make_core (makes_of X aw.makes) (looks_findIn X U) (λ self=>bind_fn X self V) (.inl rfl) ?_)
   have hsz:(s.push emptyDict).objs.size=s.objs.size+1:=Heap.size_push ..
   refine bc (Q.push emptyDict (tk:=t).z1 (instObj (T.ca c) s.objs.size) rfl (tk:=t)) λ G bS=>?_
   have af:((s.push emptyDict).push (instObj (T.ca c) s.objs.size)).get? (s.objs.size+1)=some (instObj (T.ca c) s.objs.size):=by refine(rwr hsz ?_);exact q' _ rfl
   dsimp only at G bS
   rw[hsz] at G bS
   have Y:(W.kY (s.objs.size+1) (instObj (T.ca c) s.objs.size)).F s.objs.size=none:=by
    show(if s.objs.size=s.objs.size+1 then _ else W.F s.objs.size)=none
    rw[a8 (λ Z=>bB _ (J [_] 71537110618113 L (aL Z.symm)))];exact Q.tf
   have SH:=G.new (a:=s.objs.size+1) (m:=s.objs.size) (p:=.inst c [] []) ⟨⟨I,λ k C=>nomatch C⟩,by
     show(if(if W.n=W.n then s.objs.size+1 else _)=s.objs.size+1 then some (instObj (T.ca c) s.objs.size) else _)=some (instObj (T.ca c) (if W.n=W.n then s.objs.size else _))
     exact rwl (aU rfl) (rwl (aU rfl) (rwl ((aU rfl)) rfl)),emptyDict,#[],0,by
     show((s.push emptyDict).push _).get? (if W.n=W.n then s.objs.size else _)=_
     refine rwl ((aU rfl)) ?_;exact Heap.get?_push_of_some _ (q' _ rfl),rfl,rfl,trivial,trivial⟩ Y Q.tg (λ i x d m=>e' (Q.vc d m))
   have N:RelV T ((W.kY (s.objs.size+1) (instObj (T.ca c) s.objs.size)).new (s.objs.size+1) s.objs.size) (.ref e.next) (.ref (s.objs.size+1)):=G.z2 _ _
   have l:gA W ((W.kY (s.objs.size+1) (instObj (T.ca c) s.objs.size)).new (s.objs.size+1) s.objs.size):=bS.trans (bf.th (λ z=>False) (W.kY (s.objs.size+1) (instObj (T.ca c) s.objs.size)) (s.objs.size+1) s.objs.size)
   refine codeAny_mono ((wz (T.ca c) ai _ _ _ _ h).2 _ _ (.ref (s.objs.size+1)::ai) aR SH ⟨N,y.le l⟩) λ r bt D=>?_
   rcases r with d|(_|_|_|v)
   ·exact D
   ·exact D.elim
   ·exact D.elim
   ·exact D.elim
   ·obtain⟨aO,r4,M,dV,pL,eg,q⟩:=D
    rcases r4 with _|_
    case none=>
     exact⟨eg,aO,.ref e.next,M,l.trans dV,pL,N.le dV,q⟩
    all_goals exact q.elim
 case bi b=>
  refine bc u λ fD qY=>?_;clear u;subst fD;clear qY
  exact qF (show ll _ _ from h) λ v=>UQ Q fa y
 case typ t=>
  subst u
  have h:(match r3 t B with|some v=>A v e|none=>_):=h
  rcases H:r3 t B with _|v
  ·rw[H] at h
   refine qF h λ ai d h=>?_
   obtain⟨rfl,rfl⟩:=adF d
   exact Zc Q y h.1 h.2
  ·rw[H] at h;exact adG Q y H h
 all_goals exact h.elim
theorem Vh(S:St T K P)(g:mf T aA ev)(dt:pK T P aA R)(wz:∀aw u,pK T P (aA.under (.builtin "type.__call__" ⟨.ref aw::u,[]⟩)) R)(fa:aA.handled=none)
  (rA:∀k o,P.fn k=some o->nx (model T.prog T.w) K (.ref (T.jr k))) (wI:∀c k,P.init c=some k->nx (model T.prog T.w) K (.ref (T.ca c))) {f:Expr} {cz:Pos} {args:List Expr} (v:∀p m s,f≠.Attribute p m s) (y:rO args=true)
  (h:ev c f (λ a i=>qb ev c args (λ B l=>cJ P R a B A l) i) e) (Q:Inv T W e j) (d:fo T W c aJ):
  wpAny (model T.prog T.w) aA (eval (.Call f args [] cz) aJ) (c3 T W A) aR j:=by
 have C:eval (.Call f args [] cz) aJ=(do callWith cz (<-eval f aJ) [] (backTo cz (starEach args aJ)) []):=by
  rcases f with _|_<;>first|rfl|exact((v _ _ _) rfl).elim
 refine rwl C ?_
 refine bZ (fk (g c f _ e W j aJ aR h Q d) λ J a i x L aX E ab n=>?_)
 refine Gv S y ?_
 refine xK (wm g n E (d.le aX)) λ M B l ai N bS r aT q=>⟨⟨r.pa S,?_⟩,?_⟩
 ·clear n;rcases a with _|_
  case fn k=>
   have ab:x=.ref (T.jr k):=ab
   subst ab
   refine a7 ((dt k B _ _ q).1) λ o F=>?_
   exact rA k o F
  case cls c=>
   have ab:x=.ref (T.ca c):=ab
   subst ab
   exact qF (show ll _ _ from q) λ k G z=>wI c k G
  case bi b=>refine bc ab λ H I=>?_;clear ab;subst H;clear I;exact I9 _
  case typ t=>have ab:x=.type t.name:=ab;subst ab;exact YR _
  all_goals exact q.elim
 ·exact fN (Vi S dt wz fa r (ab.le bS) aT q) (λ z z D=>D.le (aX.trans bS)) λ z z D=>D
set_option tactic.hygienic false
end
end
section
section
variable{T:c5}{K:Frag}{P:eW}{aA:Around}{aR:Value->Shared->Prop}{W:bf}{e:U}{j:Shared}{A:bl}{ev:j5}{eh:lG}{R:dp}{c:fF}{aJ:Env}
def vT(ev:j5):Prop:=∀c d A e a,behindInMarks a d=true->ev c d A e->False
theorem yJ(S:St T K P)(p:mf T aA ev)(t:vT ev)(b6:aA.units+40<cLine){cz:Pos}:∀{l:List CmpOp}{g:List Expr}{a:E}{x:Value}{A:Bool->U->Prop}{e:U}{W:bf}{j:Shared},
  yN ev c a l g A e->RelV T W a x->Inv T W e j->fo T W c aJ->
  wpAny (model T.prog T.w) aA (compareChain cz x l (markedEach l g (evalEach g aJ))) (c3 T W λ v M=>∃b,v=.bool b/\A b M) aR j/\
  wpAny (model T.prog T.w) aA (testChain cz x l (markedEach l g (evalEach g aJ))) (pO T W A) aR j
 |[],_,_,_,_,_,_,_,h,_,_,_=>by cases‹List _›<;>exact h.elim
 |[_],[],_,_,_,_,_,_,h,_,_,_=>h.elim
 |_::_::_,[],_,_,_,_,_,_,h,_,_,_=>h.elim
 |[n],[d],a,x,A,e,W,j,h,bM,Q,b1=>by
  have I:behindInMarks n d=false:=by
   rcases q:behindInMarks n d with _|_
   case false=>rfl
   case true=>exact(t c d _ e n q h).elim
  have u:markedEach [n] [d] (evalEach [d] aJ)=[eval d aJ]:=by
   show[markedBehindIn n d _]=_
   rw[markedBehindIn_of_false I]
  rw[u]
  have go:∀{C:Value->Shared->Prop},(∀f m b,gA W f->(∃i,Inv T f i m/\A b i)->C (.bool b) m)->wpAny _ aA _ (λ H=>wpAny _ aA _ C aR) aR j:=λ dt=>by
   refine fk (p c d _ e W j _ aR h Q b1) λ f b i H m aX k ab q=>?_
   split at q
   ·rename_i r V
    exact Bs S k b6 V (bM.le aX) ab λ tk=>dt f _ r aX ⟨i,k.tok,q⟩
   ·exact q.elim
  constructor
  ·refine chain_last (go λ f m b aX ⟨i,k,q⟩=>⟨f,.bool b,i,aX,k,rfl,b,rfl,q⟩)
  ·refine bZ (jm (fN (go λ f m b aX ⟨i,k,q⟩=>wpAny_truthy_bool ⟨f,i,aX,k,q⟩) (λ b L J=>bZ (pW (bZ (wpAny_operate' (fN J (λ v N=>jm) λ z z x=>x))))) λ z z x=>x))
 |_::_::_,[_],_,_,_,_,_,_,h,_,_,_=>h.elim
 |[_],_::_::_,_,_,_,_,_,_,h,_,_,_=>h.elim
 |n::y::l,d::o::g,a,x,A,e,W,j,h,bM,Q,b1=>by
  have h:=h
  have u:markedEach (n::y::l) (d::o::g) (evalEach (d::o::g) aJ)=eval d aJ::markedEach (y::l) (o::g) (evalEach (o::g) aJ):=by
   rcases l with _|_<;>rfl
  obtain⟨F,G,B⟩:∃F G,markedEach (y::l) (o::g) (evalEach (o::g) aJ)=F::G:=by
   rcases l with _|_
   case nil=>(rcases g with _|_;(case nil=>exact cu _ _ rfl);(case cons _ _=>exact cu _ _ rfl))
   case cons _ _=>exact cu _ _ rfl
  rw[u,B]
  constructor
  ·refine chain_link (fk (p c d _ e W j _ aR h Q b1) λ f b i H m aX k ab q=>?_)
   split at q
   ·rename_i r V
    refine Bs S k b6 V (bM.le aX) ab λ tk=>?_
    have s:Inv T f _ {m with toks:=tk}:=k.tok
    refine wpAny_truthy_bool ?_
    rcases r with _|_
    case true=>
     rw[<-B]
     exact fN (yJ S p t b6 q ab s (b1.le aX)).1 (λ z z D=>D.le aX) λ z z D=>D
    case false=>exact⟨f,.bool _,i,aX,s,rfl,false,rfl,q⟩
   ·exact q.elim
  ·refine test_link (fk (p c d _ e W j _ aR h Q b1) λ f b i H m aX k ab q=>?_)
   split at q
   ·rename_i r V
    refine Bs S k b6 V (bM.le aX) ab λ tk=>?_
    have s:Inv T f _ {m with toks:=tk}:=k.tok
    refine wpAny_truthy_bool ?_
    rcases r with _|_
    case true=>
     rw[<-B]
     exact fN (yJ S p t b6 q ab s (b1.le aX)).2 (λ z z D=>D.le aX) λ z z D=>D
    case false=>exact⟨f,i,aX,s,q⟩
   ·exact q.elim
set_option tactic.hygienic true in
theorem Bj(a:mf T aA ev){cz:Pos}{f:BoolOp}:∀{i:List Expr}{A:bl}{e:U}{W:bf}{j:Shared},yE ev c f i A e->Inv T W e j->fo T W c aJ->wpAny (model T.prog T.w) aA (PySem.boolOp cz f (evalEach i aJ)) (c3 T W A) aR j
 |[],_,_,_,_,h,_,_=>h.elim
 |[d],A,e,W,j,h,Q,b1=>a c d A e W j _ aR h Q b1
 |d::m::i,A,e,W,j,h,Q,b1=>by
  refine bZ (fk (a c d _ e W j _ aR h Q b1) λ k v l H n aX g ab q=>?_)
  rcases v with _|_
  case bool b=>
   subst ab
   refine bZ (pW (bZ (jm (wpAny_truthy_bool ?_))))
   rcases f with _|_<;>rcases b with _|_
   ·exact dN ⟨k,.bool _,l,aX,g,rfl,q⟩
   ·exact fN (Bj a q g (b1.le aX)) (λ z z D=>D.le aX) λ z z D=>D
   ·exact fN (Bj a q g (b1.le aX)) (λ z z D=>D.le aX) λ z z D=>D
   ·exact dN ⟨k,.bool _,l,aX,g,rfl,q⟩
  all_goals clear h;rcases f with _|_<;>exact q.elim
theorem AZ(f:pR T aA eh){g:BoolOp}:∀{i:List Expr}{A:Bool->U->Prop}{e:U}{W:bf}{j:Shared},AY eh c g i A e->Inv T W e j->fo T W c aJ->wpAny (model T.prog T.w) aA (allTrue g i aJ) (pO T W A) aR j
 |[],A,e,W,j,h,Q,b1=>dN ⟨W,e,dc.refl _ _,Q,h⟩
 |d::i,A,e,W,j,h,Q,b1=>by
  refine bZ (r2 (f c d _ e W j _ aR h Q b1) λ k b l m aX a q=>?_)
  clear h;rcases g with _|_<;>rcases b with _|_
  ·exact dN ⟨k,l,aX,a,q⟩
  ·exact fN (AZ f q a (b1.le aX)) (λ z z D=>D.le aX) λ z z D=>D
  ·exact fN (AZ f q a (b1.le aX)) (λ z z D=>D.le aX) λ z z D=>D
  ·exact dN ⟨k,l,aX,a,q⟩
set_option tactic.hygienic true in
theorem ady(S:St T K P)(n:mf T aA ev)(k:pR T aA eh)(s:vT ev)(b6:aA.units+40<cLine):pR T aA (K5 ev eh):=by
 intro c d A e W j aJ aR h Q b1
 have plain:∀{d:Expr},ev c d (λ v g=>match v with|.bool b=>A b g|_=>False) e->wpAny _ aA _ (λ v=>wpAny (model T.prog T.w) aA (truthy v) (pO T W A) aR) aR j:=λ{d} h=>by
  refine fk (n c d _ e W j _ aR h Q b1) λ i v g H m aX f ab q=>?_
  rcases v with _|_
  case bool b=>
   subst ab
   exact wpAny_truthy_bool ⟨i,g,aX,f,q⟩
  all_goals exact q.elim
 rcases d with _|_
 case UnaryOp o x cz=>
  rcases o with _|_
  case Not=>
   exact wpAny_isTrue_Not (r2 (k c x _ e W j _ aR h Q b1) λ i b g m aX f q=>⟨i,g,aX,f,q⟩)
  all_goals exact wpAny_isTrue_value (plain h) rfl
 case BoolOp o u cz=>exact wpAny_isTrue_BoolOp (AZ k h Q b1)
 case IfExp t b p cz=>
  refine bZ (r2 (k c t _ e W j _ aR h Q b1) λ i r g m aX f q=>?_)
  rcases r with _|_
  case true=>exact fN (k c b _ _ i m _ aR q f (b1.le aX)) (λ z z D=>D.le aX) λ z z D=>D
  case false=>exact fN (k c p _ _ i m _ aR q f (b1.le aX)) (λ z z D=>D.le aX) λ z z D=>D
 case Compare l y u cz=>
  exact bZ (fk (n c l _ e W j _ aR h Q b1) λ i a g x m aX f ab q=>fN (yJ S n s b6 q ab f (b1.le aX)).2 (λ z z D=>D.le aX) λ z z D=>D)
 all_goals exact wpAny_isTrue_value (plain h) rfl
end
end
section
section
variable{T:c5}{K:Frag}{P:eW}{aA:Around}{aR:Value->Shared->Prop}{W:bf}{e:U}{j:Shared}
theorem Inv.extBut(Q:Inv T W e j){a:Addr}{p:Obj}{f:Heap}{tk:Nat}(g:W.G a=some p)(c:∀b x,b≠a->j.heap.get? b=some x->f.get? b=some x):Inv T (W.eT a none) e {j with heap:=f,toks:=tk}:=by
 have ne:∀b x,W.F b=some x->b≠a:=λ b x d q=>by rw[q,Q.apart a p g] at d;cases d
 have h:∀i x,e.get i=some x->kW x->W.fq i≠a:=λ i x d m q=>by have:=(Q.free i x d m).2;rw[q,g] at this;cases this
 refine⟨λ b x d=>c b x (ne b x d) (Q.fA b x d),λ b x d=>?_,λ b x d=>?_,Q.base,Q.n,Q.lt,λ i x d=>((Q.obj i x d).keeps λ m H=>c _ _ (h i x d m)).le (bf.gx W a _) rfl rfl,λ i x d m=>⟨(Q.free i x d m).1,?_⟩,Q.inj,Q.gens,Q.os⟩
 ·have d:(if b=a then none else W.G b)=some x:=d
  split at d
  ·cases d
  ·rename_i q;exact c b x q (Q.gq b x d)
 ·have d:(if b=a then none else W.G b)=some x:=d
  split at d
  ·cases d
  ·exact Q.apart b x d
 ·show(if W.fq i=a then none else W.G _)=none
  split
  ·rfl
  ·exact(Q.free i x d m).2
def oJ(v:E)(x:Value)(i:Nat)(p:Obj):Prop:=match v with
 |.tup _=>∃a,x=.ref a/\p.cls=.type "tuple_iterator"/\p.data=.fields #[.ref a,.int i 0]
 |.str w=>∃t,x=.str (strOf w) t/\p.cls=.type "str_ascii_iterator"/\p.data=.fields #[.str (strOf w) t,.int i 0]
 |.rng a b c=>p={cls:=.type "range_iterator",dict:=none,data:=.fields #[rawInt (a+c*i),rawInt (Builtin.Range.rangeSize a b c-i),rawInt c],slots:=#[]}
 |_=>∃a,x=.ref a/\p.cls=.type "list_iterator"/\p.data=.fields #[.ref a,.int i 0]
theorem KN{v:E}{items:List E}{M:U}(h:hx e v=some items)(a:hQ v items M):hx M v=some items:=by
 rcases v with _|_<;>first|exact h|exact a
theorem J'{a b c:Int}(d:c=1\/c=-1):Builtin.Range.rangeSize a b c=(jY a b c).length:=by
 unfold jY Builtin.Range.rangeSize
 rcases d with rfl|rfl
 ·simp;lia
 ·simp;lia
theorem abA{a b c:Int}{i:Nat}{v:E}(e:c=1\/c=-1)(h:(jY a b c)[i]?=some v):v=.int (a+c*i):=by
 unfold jY at h
 rcases e with rfl|rfl
 ·simp only[if_true,j',gD] at h
  refine a' h λ k d f=>?_;clear h;subst f
  obtain⟨_,rfl⟩:=ix.mp d
  simp
 ·simp only[show¬-1=1 by decide,if_false,if_true,j',gD] at h
  refine a' h λ k d g=>?_;clear h;subst g
  obtain⟨_,rfl⟩:=ix.mp d
  simp;lia
theorem Kb{c:Int}(h:(c==1||c==-1)=true):c=1\/c=-1:=(Bool.or_eq_true_iff.mp h).imp eq_of_beq eq_of_beq
theorem abD{a b c:Int}(e:-1000000000<=a/\a<=1000000000)(f:-1000000000<=b/\b<=1000000000)(d:c=1\/c=-1):(jY a b c).length<=2000000000:=by
 unfold jY
 rcases d with rfl|rfl<;>simp<;>omega
theorem abG{a b c:Int}(e:-1000000000<=a/\a<=1000000000)(f:-1000000000<=b/\b<=1000000000)(d:c=1\/c=-1):Builtin.Range.small a b c=true:=by
 have k:=abD e f d
 unfold Builtin.Range.small Builtin.Range.rangeFitsLong
 rw[J' d]
 generalize (jY a b c).length=n at k
 rcases d with rfl|rfl<;>simp<;>omega
theorem abC{D:Int}{n i:Nat}(h:D=n)(a:i<n):0<D-(i:Int):=by lia
theorem abE{D:Int}{n i:Nat}(h:D=n)(a:n<=i):D-(i:Int)<=0:=by lia
set_option tactic.hygienic true
theorem IZ(Q:Inv T W e j){v:E}{x:Value}{items:List E}{R:Value->Shared->Prop}(g:RelV T W v x)(h:hx e v=some items)
  (dt:∀p,oJ v x 0 p->Inv T (W.eT j.heap.objs.size (some p)) e {j with heap:=j.heap.push p}->R (.ref j.heap.objs.size) {j with heap:=j.heap.push p}):wpAny (model T.prog T.w) aA (pyIter x) R aR j:=by
 have lists:∀{l:Addr}{m:Array _}{n:Nat},x=.ref l->IsL j.heap l m n->(∀p,p.cls=.type "list_iterator"->p.data=.fields #[.ref l,.int 0 0]->oJ v x 0 p)->wpAny (model T.prog T.w) aA (pyIter x) R aR j:=by
  intro l m n d o q
  subst d
  exact wpAny_pyIter_list ⟨_,o,rfl,_,rfl⟩ (dt _ (q _ rfl rfl) (Q.qI _ rfl))
 rcases v with _|_
 case tup B=>
  refine fg g λ a m n s f r=>?_;clear g;subst s
  exact wpAny_pyIter_tuple ⟨_,Q.fA _ _ f,rfl,_,rfl⟩ (dt _ ⟨a,rfl,rfl,rfl⟩ (Q.qI _ rfl))
 case lst B=>
  exact fg (lX Q g h) λ a m n d o z=>lists d o λ p C I=>⟨a,d,C,I⟩
 case str w=>
  refine bc (qr h) λ c z=>a7 g λ t u=>?_;subst u
  exact wpAny_pyIter_ascii (by rw[<-Array.all_toList];exact c) (dt _ ⟨t,rfl,rfl,rfl⟩ (Q.qI _ rfl))
 case rng a b c=>
  refine bc (qr h) λ k z=>AB g λ r A hC D y f=>?_;clear g;subst y
  refine wpAny_pyIter_range (Q.fA _ _ f) (abG (rx (i5 (i5 k))) (rx (kc (i5 k))) (Kb (kc k))) (dt _ ?_ (Q.qI _ rfl))
  show _=_
  simp
 case ref i=>
  exact fg (lX Q g h) λ a m n d o z=>lists d o λ p C I=>⟨a,d,C,I⟩
 all_goals exact bF h
theorem JC(Q:Inv T W e j)(fa:aA.handled=none){v:E}{x:Value}{items:List E}{D:Addr}{i:Nat}{p:Obj}{R:Option Value->Shared->Prop}(F:RelV T W v x)(h:hx e v=some items)(o:W.G D=some p)(u:oJ v x i p)
  (dt:∀a,items[i]?=some a->∀H fs g tk,oJ v x (i+1) fs->Inv T (W.eT D (some fs)) e {j with heap:=g,toks:=tk}->RelV T W a H->R (some H) {j with heap:=g,toks:=tk})
  (N:items[i]?=none->∀g tk,Inv T (W.eT D none) e {j with heap:=g,toks:=tk}->R none {j with heap:=g,toks:=tk}):wpAny (model T.prog T.w) aA (pyNext (.ref D)) R aR j:=by
 have hit:=Q.gq _ _ o
 have lists:∀{l:Addr}{A:Array _}{n:Nat},x=.ref l->IsL j.heap l A n->bK T W items A.toList->p.cls=.type "list_iterator"->p.data=.fields #[.ref l,.int i 0]->
   (∀p,p.cls=.type "list_iterator"->p.data=.fields #[.ref l,.int (i+1:Nat) 0]->oJ v x (i+1) p)->wpAny (model T.prog T.w) aA (pyNext (.ref D)) R aR j:=by
  intro l A n d J r C I O
  have K:j.heap.IsList l _:=⟨_,J,rfl,_,rfl⟩
  rcases q:items[i]? with _|_
  case some a=>
   refine a' (r.get q) λ H b_ l5=>wpAny_pyNext_list_item ⟨p,hit,C,I⟩ K (by simpa using b_) λ g ⟨fs,cV,dH,L⟩ m=>dt a q H fs g _ (O fs dH L) (Q.qO o m cV) l5
  case none=>
   refine wpAny_pyNext_list_end fa ⟨p,hit,C,I⟩ K ?_ λ g m=>N q g _ (Q.extBut o m)
   rw[List.getElem?_eq_none_iff] at q
   exact Array.getElem?_eq_none (by rw[<-r.size];exact q)
 cases v with
 |tup B=>
  refine fB u λ eL s C I=>fg F λ a A n P f r=>?_;subst P
  cases s
  cases h
  have K:j.heap.IsTuple eL _:=⟨_,Q.fA _ _ f,rfl,_,rfl⟩
  rcases q:items[i]? with _|_
  case some w=>
   refine a' (r.get q) λ H b_ l5=>wpAny_pyNext_tuple_item ⟨p,hit,C,I⟩ K (by simpa using b_) λ g ⟨fs,cV,dH,L⟩ m=>dt w q H fs g _ ⟨eL,rfl,dH,L⟩ (Q.qO o m cV) l5
  case none=>
   refine wpAny_pyNext_tuple_end fa ⟨p,hit,C,I⟩ K ?_ λ g m=>N q g _ (Q.extBut o m)
   rw[List.getElem?_eq_none_iff] at q
   exact Array.getElem?_eq_none (by rw[<-r.size];exact q)
 |lst B=>
  refine fB u λ eL s C I=>?_;clear u
  refine fg (lX Q F h) λ a A n M J r=>?_
  subst s
  (injection M with a0;subst a0)
  exact lists rfl J r C I λ p C I=>⟨_,rfl,C,I⟩
 |str w=>
  refine fB u λ X s C I=>?_;clear u
  refine a7 F λ t S=>?_;clear F;clear S;cases s
  refine bc (qr h) λ z h=>?_
  obtain rfl:=dd h
  rcases q:w[i]? with _|_
  case some c=>
   have U:(strOf w).cps[i]?=some c:=by simpa [strOf] using q
   exact wpAny_pyNext_ascii_item ⟨p,hit,C,I⟩ U λ g ⟨fs,cV,dH,L⟩ m=>dt (.str _) (by rw[j',q];rfl) _ fs g _ ⟨_,rfl,dH,L⟩ (Q.qO o m cV) ⟨_,rfl⟩
  case none=>
   exact wpAny_pyNext_ascii_end fa ⟨p,hit,C,I⟩ (by simpa [strOf] using q) λ g m=>N (by rw[j',q];rfl) g _ (Q.extBut o m)
 |rng a b c=>
  refine bc (qr h) λ k h=>?_
  have V:=dd h;subst V
  have k:=Kb (kc k)
  subst u
  have hz:=J' (a:=a) (b:=b) k
  rcases q:(jY a b c)[i]? with _|_
  case some w=>
   refine wpAny_pyNext_range_item hit (abC hz (ix.mp q).1) λ g cV m=>dt w q _ _ g _ ?_ (Q.qO o m cV) (by rw[abA k q];exact⟨_,rfl⟩)
   show _=_
   have s:a+c*i+c=a+c*(i+1:Nat):=by rw[Int.natCast_succ,Int.mul_add,Int.mul_one,Int.add_assoc]
   have M:Builtin.Range.rangeSize a b c-i-1=Builtin.Range.rangeSize a b c-(i+1:Nat):=Int.sub_sub ..
   rw[s,M]
  case none=>exact wpAny_pyNext_range_end fa hit (abE hz (List.getElem?_eq_none_iff.mp q)) λ g m=>N q g _ (Q.extBut o m)
 |ref y=>
  refine fB u λ eL s C I=>?_;clear u
  refine fg (lX Q F h) λ a A n M J r=>?_
  subst s
  (injection M with a0;subst a0)
  exact lists rfl J r C I λ p C I=>⟨_,rfl,C,I⟩
 |_=>exact bF h
set_option tactic.hygienic false
end
end
section
theorem Cf{H x:Str}{u:Option E}{r:Loc}:getL ((H,u)::r) x=if x=H then u else getL r x:=by
 show(match x==H with|true=>u|false=>getL r x)=_
 by_cases h:x=H
 ·rw[h,eC,aU rfl]
 ·rw[fH.mpr h,a8 h]
theorem ab3{H x:Str}{u:Option E}{r:Loc}{v:E}:l8 ((H,u)::r) x v=if x=H then(H,some v)::r else(H,u)::l8 r x v:=by
 show(match x==H with|true=>(H,some v)::r|false=>(H,u)::l8 r x v)=_
 by_cases h:x=H
 ·rw[h,eC,aU rfl]
 ·rw[fH.mpr h,a8 h]
theorem uN{v:E}{x D:Str}{w:E}{ak:Loc}:getL (l8 ak x v) D=some w->(D=x/\w=v)\/(D≠x/\getL ak D=some w):=by
 induction ak with
 |nil=>exact bF
 |cons s r a=>
  intro h
  rw[ab3] at h
  rw[Cf]
  by_cases q:x=s.1
  ·rw[aU q,Cf] at h
   by_cases k:D=s.1
   ·rw[aU k] at h;exact .inl ⟨k.trans q.symm,dd h.symm⟩
   ·rw[a8 k] at h;rw[a8 k];exact .inr ⟨λ d=>k (d.trans q),h⟩
  ·rw[a8 q,Cf] at h
   by_cases k:D=s.1
   ·rw[aU k] at h;rw[aU k];exact .inr ⟨λ d=>q (d.symm.trans k),h⟩
   ·rw[a8 k] at h;rw[a8 k];exact a h
section
variable{T:c5}{K:Frag}{P:eW}{aA:Around}{aR:Value->Shared->Prop}{W aO:bf}{e:U}{j:Shared}{c:fF}{aJ:Env}{A:bl}{ev:j5}{eh:lG}
theorem fo.wX{fr:Addr->Prop}(d:fo T W c aJ)(l:dc fr W aO)(C:¬fr aJ.locals)(I:∀x a,aJ.cells.lookup x=some a->¬fr a):fo T aO c aJ:=by
 refine⟨d.kind,d.names,d.ok,d.nW,d.oV,?_,λ x v g h=>?_,λ x v g h=>?_⟩
 ·exact jd d.loc λ p m bG e f=>cu p m ⟨(l.G _ C).trans bG,e,λ x v a b=>a' (f x v a b) λ H s q=>⟨H,s,q.le l⟩⟩
 ·exact j3 (d.cell x v g h) λ a p H bG e f i=>⟨a,p,H,bG,(l.G _ (I x a bG)).trans e,f,i.le l⟩
 ·exact j3 (d.free x v g h) λ a p H bG e f i=>⟨a,p,H,bG,(l.G _ (I x a bG)).trans e,f,i.le l⟩
theorem fo.aak(d:fo T W c aJ):(aJ.scope.kind==.class||(aJ.scope.kind==.module&&aJ.locals !=aJ.globals))=false:=by
 rw[d.kind];rfl
theorem KP(d:fo T W c aJ)(Q:Inv T W e j){x:Str}{v:E}{H:Value}(k:c.sc.names.lookup x=some .local)(n:∀D a,aJ.cells.lookup D=some a->a≠aJ.locals)(r:RelV T W v H){R:Unit->Shared->Prop}{bh:Model}
  (dt:∀aO o,dc (·=aJ.locals) W aO->Inv T aO e o->fo T aO {c with loc:=l8 c.loc x v} aJ->R () o):wpAny bh aA (storeName aJ x H) R aR j:=by
 refine jd d.loc λ p m bG s t=>?_
 refine wpAny_storeName_local ((d.names x _ k).resolve_right λ D=>nomatch D.1) (s.ns (Q.gq _ _ bG)) (λ A Y u=>a' (DL Y) λ fs cV dH=>?_) d.aak
 have l:=bf.gx W aJ.locals (some fs)
 refine dt _ _ l (Q.qO bG u cV) ⟨d.kind,d.names,d.ok,d.nW,d.oV,(cu fs _ ⟨aU rfl,dH,λ D w C I=>?_⟩),λ D w C I=>?_,λ D w C I=>?_⟩
 ·rcases uN I with⟨rfl,rfl⟩|⟨q,I⟩
  ·exact⟨H,aU rfl,r.eT⟩
  ·exact a' (t D w C I) λ b ag y=>⟨b,by exact rwl (a8 q) ag,y.eT⟩
 ·rcases uN I with⟨rfl,rfl⟩|⟨q,I⟩
  ·have C:=k▸C;cases C
  ·exact j3 (d.cell D w C I) λ a p b f g h i=>gw a p b ⟨f,(l.G a (n D a f)).trans g,h,i.eT⟩
 ·exact j3 (d.free D w C I) λ a p b f g h i=>gw a p b ⟨f,(l.G a (n D a f)).trans g,h,i.eT⟩
def iO(aJ:Env)(a:Addr):Prop:=a=aJ.locals\/∃x,aJ.cells.lookup x=some a
structure g9(T:c5)(W:bf)(c:fF)(aJ:Env):Prop where
 b1:fo T W c aJ
 apart:∀x a,aJ.cells.lookup x=some a->a≠aJ.locals
 inj:∀x H a,aJ.cells.lookup x=some a->aJ.cells.lookup H=some a->x=H
 sF:∀x a,aJ.cells.lookup x=some a->∃p v,W.G a=some p/\p.data=.cell v
 has:∀x,c.sc.names.lookup x=some .cell->∃a,aJ.cells.lookup x=some a
 rN:∀x,c.sc.names.lookup x≠some .free
theorem g9.le{fr:Addr->Prop}(d:g9 T W c aJ)(l:dc fr W aO)(h:∀a,fr a->W.G a=none):g9 T aO c aJ:=by
 have C:¬fr _:=λ D=>by refine jd d.b1.loc λ p m bG b e=>?_;have bG:=h _ D▸bG;cases bG
 have I:∀x a,aJ.cells.lookup x=some a->¬fr a:=λ x a q D=>by refine fC (d.sF x a q) λ p v bG b=>?_;have bG:=h _ D▸bG;cases bG
 exact⟨d.b1.wX l C I,d.apart,d.inj,λ x a q=>fC (d.sF x a q) λ p v bG b=>(cu p v ⟨(l.G a (I x a q)).trans bG,b⟩),d.has,d.rN⟩
theorem z'(d:g9 T W c aJ)(Q:Inv T W e j){x:Str}{v:E}{H:Value}(F:mz c.sc x=true)(r:RelV T W v H){R:Unit->Shared->Prop}{bh:Model}
  (dt:∀aO h,dc (iO aJ) W aO->Inv T aO e h->g9 T aO {c with loc:=l8 c.loc x v} aJ->R () h):wpAny bh aA (storeName aJ x H) R aR j:=by
 refine YE F (λ g=>?_) λ g=>?_
 ·exact KP d.b1 Q g d.apart r λ aO h l J K=>dt aO h (l.mono λ z=>.inl) J ⟨K,d.apart,d.inj,λ D a q=>fC (d.sF D a q) λ p v bG k=>(cu p v ⟨(l.G a (d.apart D a q)).trans bG,k⟩),d.has,d.rN⟩
 ·refine a7 (d.has x g) λ a f=>fC (d.sF x a f) λ p w cV dH=>?_
  refine wpAny_storeName_cell d.b1.kind ((d.b1.names x _ g).resolve_right λ D=>nomatch D.1) f ⟨p,Q.gq _ _ cV,dH⟩ λ V s t=>a' s λ fs u y=>?_;have l:=bf.gx W a (some fs)
  refine jd d.b1.loc λ L M bG k N=>dt _ _ (l.mono λ b q=>.inr ⟨x,rwl q f⟩) (Q.qO cV t u) ⟨⟨d.b1.kind,d.b1.names,d.b1.ok,d.b1.nW,d.b1.oV,(cu L M ⟨(l.G _ (d.apart x a f).symm).trans bG,k,λ D w C I=>?_⟩),λ D w C I=>?_,λ D w C I=>absurd C (d.rN D)⟩,d.apart,d.inj,λ D b q=>?_,d.has,d.rN⟩
  ·rcases uN I with⟨rfl,rfl⟩|⟨A,I⟩
   ·have C:=g▸C;cases C
   ·exact a' (N D w C I) λ m ag O=>⟨m,ag,O.eT⟩
  ·rcases uN I with⟨rfl,rfl⟩|⟨A,I⟩
   ·exact gw a fs H ⟨f,aU rfl,y,r.eT⟩
   ·exact j3 (d.b1.cell D w C I) λ b n m i o P S=>gw b n m ⟨i,(l.G b λ q=>A (d.inj D x b i (rwl q f))).trans o,P,S.eT⟩
  ·by_cases B:b=a
   ·clear f cV s t u;subst B;exact cu fs _ ⟨aU rfl,y⟩
   ·exact fC (d.sF D b q) λ n U i o=>cu n U ⟨(l.G b B).trans i,o⟩
theorem IF{R:Bool->Shared->Prop}{bh:Model}:∀{ifs:List Expr}{j:Shared},R false j->
  wpAny bh aA (forIn ifs false λ c r=>if r=true then do let ok<-PySem.isTrue c aJ (eval c aJ);pure (ForInStep.yield ok) else pure (ForInStep.yield r)) R aR j
 |[],j,h=>dN h
 |d::r,j,h=>by
  rw[su]
  exact bZ (dN (IF h))
theorem IG(a:pR T aA eh):∀{ifs:List Expr}{A:Bool->U->Prop}{e:U}{W:bf}{j:Shared},C1 eh c ifs A e->Inv T W e j->fo T W c aJ->
  wpAny (model T.prog T.w) aA (forIn ifs true λ c r=>if r=true then do let ok<-PySem.isTrue c aJ (eval c aJ);pure (ForInStep.yield ok) else pure (ForInStep.yield r)) (pO T W A) aR j
 |[],A,e,W,j,h,Q,d=>dN ⟨W,e,dc.refl _ _,Q,h⟩
 |x::r,A,e,W,j,h,Q,d=>by
  rw[su]
  refine bZ (bZ (r2 (a c x _ e W j _ aR h Q d) λ g b i k aX f q=>dN ?_))
  rcases b with _|_
  case true=>exact fN (IG a q f (d.le aX)) (λ z z D=>D.le aX) λ z z D=>D
  case false=>exact IF ⟨g,i,aX,f,q⟩
theorem fo.bare{sc:Scope}{ak a out:Loc}(d:fo T W ⟨sc,a,out⟩ aJ)(h:∀D w,getL ak D=some w->False):fo T W ⟨sc,ak,out⟩ aJ:=
 jd d.loc λ p m bG b z=>⟨d.kind,d.names,d.ok,d.nW,d.oV,(cu p m ⟨bG,b,λ x v z q=>(h x v q).elim⟩),λ x v z q=>(h x v q).elim,d.free⟩
inductive Fi(T:c5)(ev:j5)(eh:lG)(Bv:fF)(x:Str)(ifs:List Expr)(eP:Expr)(v:E)(items:List E)(A:List E->U->Prop)(c0 bz:Addr)(ow:Value)(oW:Env)(fr:Addr->Prop)(lH:bf)(n:Nat)(j:Shared):Prop
 |mk {aO:bf} {bJ:List E} {M:U} {i:Nat} {p:Obj} {ie:Array Value} {k:Nat} (Y:(items.drop i).length=n) (h:ur ev eh Bv x ifs eP (hQ v items) (items.drop i) bJ A M) (Q:Inv T aO M j) (bO:aO.G c0=some p) (bQ:oJ v ow i p)
  (lP:aO.G bz=some {cls:=.type "list",data:=.seq ie k}) (bX:bK T aO bJ ie.toList) (b1:fo T aO Bv oW) (l:dc fr lH aO):Fi T ev eh Bv x ifs eP v items A c0 bz ow oW fr lH n j
theorem Vu{b:E->kv}{c:E->q8}{a:U->Prop}{l d:List E}{A:List E->U->Prop}(h:uv b c a l d A e):a e:=by rcases l with _|_<;>exact h.1
theorem BM{cg:Type}{l:List cg}{i:Nat}{a:cg}(h:l[i]?=some a):l.drop i=a::l.drop (i+1):=by
 obtain⟨b,rfl⟩:=ix.mp h
 exact oQ _
theorem BL{cg:Type}{l:List cg}{i:Nat}{a:cg}(h:l[i]?=some a):(l.drop (i+1)).length<(l.drop i).length:=by rw[BM h];exact eo _
theorem Vt(dx:mf T aA ev)(hN:pR T aA eh)(fa:aA.handled=none){sc:Scope}{out:Loc}{x:Str}{h2 cz:Pos}{iter O:Expr}{ifs:List Expr}{v:E}{u:Value}{items:List E}{c aw bz:Addr}{o:Env}{A:List E->U->Prop}{R:Result->Shared->Prop}{fr:Addr->Prop}
  (P:fr c) (cw:fr aw) (eQ:fr bz) (af:sc.names.lookup x=some .local) (gb:o.locals=aw) (C:c≠aw) (I:c≠bz) (ag:bz≠aw) (r:∀D a,o.cells.lookup D=some a->a≠aw/\a≠c/\a≠bz) {d:bf}
  (dt:∀aO M S y s k,dc fr d aO->Inv T aO M S->aO.G c=none->aO.G bz=some {cls:=.type "list",data:=.seq s k}->bK T aO y s.toList->(∃p m,aO.G aw=some p/\ue p m)->A y M->R (.ok .next) S)
  {loc:Loc} {p:Obj} (V:∀D w,getL loc D=some w->False) (Q:Inv T d e j) (aM:hx e v=some items) (eU:RelV T d v u) (B:d.G c=some p) (F:oJ v u 0 p) (t:d.G bz=some {cls:=.type "list",data:=.seq #[] 0}) (b1:fo T d ⟨sc,loc,out⟩ o)
  (h:ur ev eh ⟨sc,loc,out⟩ x ifs O (hQ v items) items [] A e):
  codeAny (model T.prog T.w) aA (.compLoop (.ListComp O [⟨.Name x h2,iter,ifs,0⟩] sc cz) 0 (.ref c) (.ref bz) o) R j:=by
 subst gb
 refine codeAny_compLoop_tests (Fi T ev eh _ x _ _ v _ A c bz u _ fr _) ?_ _ (.mk (i:=0) rfl h Q B F t trivial b1 (dc.refl _ _))
 intro n j aP
 cases aP with|@mk aO y M i p s k Y h Q B F t W b1 l=>
 subst Y
 refine JC Q fa (eU.le l) (KN aM (Vu h)) B F (λ a f H fs aY tk X J bM=>?_) λ f aY tk J=>?_
 ·rw[BM f] at h
  refine e_ h λ mc wC h=>?_;have aX:=bf.gx aO c (some fs)
  refine wpAny_assign_Name (KP (b1.wX aX C.symm λ D b q=>(r D b q).2.1) J af (λ D b q=>(r D b q).1) bM.eT λ fG c8 bS dG Z=>r2 (IG hN h dG Z) λ i3 b c9 iI dv e6 q=>?_)
  have s_:=((aX.mono λ z q=>rwl q P).trans (bS.mono λ z q=>q▸cw)).trans dv.wide
  have HE:=(dv.G c id).trans ((bS.G c C).trans (aU rfl))
  have uL:=(dv.G bz id).trans ((bS.G bz ag).trans ((aX.G bz I.symm).trans t))
  have K:=Z.le dv
  have L:=W.le s_
  have Ja:=l.trans s_
  rcases b with _|_
  case true=>
   refine fk (dx _ _ _ _ i3 iI _ _ q e6 K) λ nC w f6 xX ip g jC ob fT=>?_
   have jM:=(g.G bz id).trans uL
   refine append_at (hsz:=ah (jE (L.length.trans jl).symm) (ah wC (ae rfl))) (jC.gq _ _ jM) λ cY Yh Cy=>?_
   have N:=bf.gx nC bz (some {cls:=.type "list",data:=.seq (s.push xX) (k+1)})
   refine⟨_,BL f,.mk rfl fT (jC.qO jM Yh Cy) ((N.G c I).trans ((g.G c id).trans HE)) X (aU rfl) ?_ (((K.le g).bare V).wX N ag.symm λ D b q=>(r D b q).2.2) (Ja.trans (g.wide.trans (N.mono λ z q=>rwl q eQ)))⟩
   rw[Array.toList_push];exact((L.le g).append (aV:=[w]) (dr:=[xX]) ⟨ob,trivial⟩).eT
  case false=>
   exact⟨_,BL f,.mk rfl q e6 HE X uL L (K.bare V) Ja⟩
 ·rw[sr (List.getElem?_eq_none_iff.mp f)] at h
  have aX:=bf.gx aO c none
  exact jd (b1.wX aX C.symm λ D b q=>(r D b q).2.1).loc λ tn td ea en vH=>dt _ _ _ _ _ k (l.trans (aX.mono λ z q=>rwl q P)) J (aU rfl) ((aX.G bz I.symm).trans t) W.eT (cu tn td ⟨ea,en⟩) h.2
end
end
section
theorem Br{aJ:Env}(f:Str×NameKind->List (Str×Addr)->Sem (ForInStep (List (Str×Addr))))(i:∀n k e,f (n,k) e=if(k==.free)=true then(do let a<-cellOf aJ n;pure (.yield ((n,a)::e))) else pure (.yield e)):
  ∀(names:List (Str×NameKind))(e:List (Str×Addr)),(∀s∈names,s.2=.free->∃a,aJ.cells.lookup s.1=some a)->
  ∃g,forIn names e f=(pure g:Sem _)/\(∀n a,g.lookup n=some a->e.lookup n=some a\/((n,.free)∈names/\aJ.cells.lookup n=some a))/\(∀n,((n,.free)∈names\/(e.lookup n).isSome=true)->(g.lookup n).isSome=true)
 |[],e,_=>⟨e,rfl,λ z z=>.inl,λ n h=>h.resolve_left (by simp)⟩
 |(n,k)::r,e,h=>by
  rw[su,i]
  by_cases j:k=.free
  ·subst j
   refine a7 (h _ f9 rfl) λ a o=>fB (Br f i r ((n,a)::e) λ s l=>h s (gT _ l)) λ g d C I=>?_
   refine⟨g,?_,λ m b c=>?_,λ m c=>?_⟩
   ·rw[(by unfold cellOf;rw[o]:cellOf aJ n=pure a)];exact d
   ·rcases C m b c with D|⟨a0,bL⟩
    ·simp only[k2] at D
     rcases q:m==n with _|_
     case true=>rw[q] at D;obtain rfl:=ck D;rw[eq_of_beq q];exact .inr ⟨f9,o⟩
     case false=>rw[q] at D;exact .inl D
    ·exact .inr ⟨gT _ a0,bL⟩
   ·refine I m ?_
    simp only[k2]
    rcases q:m==n with _|_
    case true=>exact .inr rfl
    case false=>
     rcases c with c|c
     ·rcases ew.mp c with D|D
      ·cases D;rw[eC] at q;cases q
      ·exact .inl D
     ·exact .inr c
  ·refine fB (Br f i r e λ s l=>h s (gT _ l)) λ g d C I=>?_
   have p:((k==.free)=true)=False:=by simpa using j
   refine⟨g,?_,λ m b c=>(C m b c).imp_right λ D=>⟨gT _ D.1,D.2⟩,λ m c=>I m ?_⟩
   ·simp only[p,if_false];exact d
   ·rcases c with c|c
    ·rcases ew.mp c with D|D
     ·(injection D with a0 bL;clear h p;subst a0 bL);exact(j rfl).elim
     ·exact .inl D
    ·exact .inr c
theorem GA{aJ:Env}{sc:Scope}(h:∀s∈sc.names,s.2=.free->∃a,aJ.cells.lookup s.1=some a):
  ∃b,closureFor sc aJ=pure b/\(∀n a,b.lookup n=some a->(n,.free)∈sc.names/\aJ.cells.lookup n=some a)/\(∀n,(n,.free)∈sc.names->(b.lookup n).isSome=true):=by
 refine fB (Br (λ x c=>if(x.2==.free)=true then do let a<-cellOf _ x.1;pure (.yield ((x.1,a)::c)) else pure (.yield c)) (λ z z z=>rfl) _ [] h) λ b d C I=>⟨b,Eq.trans ?_ (bA (λ m=>m>>=pure) d),λ n a q=>(C n a q).resolve_left bF,λ n q=>I n (.inl q)⟩
 congr 1
theorem abx{sc:Scope}{aJ:Env}{x:Str}{k:NameKind}(h:sc.names.lookup x=some k):(relabel sc aJ).names.lookup x=some k\/(k=.free/\(relabel sc aJ).names.lookup x=some .cell):=by
 have go:∀{names:List _},names.lookup x=some k->
   (names.map λ(n,k)=>if k==NameKind.free&&aJ.scope.kind==.function&&aJ.kindOf n==some .cell then(n,NameKind.cell) else(n,k)).lookup x=some k\/
   k=.free/\(names.map λ(n,k)=>if k==NameKind.free&&aJ.scope.kind==.function&&aJ.kindOf n==some .cell then(n,NameKind.cell) else(n,k)).lookup x=some .cell:=by
  intro names
  induction names with
  |nil=>intro h;exact bF h
  |cons s r c=>
   obtain⟨n,d⟩:=s
   intro h
   simp only[jG,k2] at h⊢
   cases b:x==n with
   |true=>
    rw[b] at h
    cases h
    by_cases a:(k==NameKind.free&&aJ.scope.kind==.function&&aJ.kindOf n==some .cell)=true
    ·rw[aU a]
     simp only[ml,iw] at a
     right
     refine⟨a.1.1,?_⟩
     rw[k2,b]
    ·rw[a8 a];left
     rw[k2,b]
   |false=>
    rw[b] at h
    by_cases a:(d==NameKind.free&&aJ.scope.kind==.function&&aJ.kindOf n==some .cell)=true
    ·rw[aU a]
     rw[k2,b]
     exact c h
    ·rw[a8 a]
     rw[k2,b]
     exact c h
 exact go h
section
variable{T:c5}{K:Frag}{P:eW}{aA:Around}{aR:Value->Shared->Prop}{W aO:bf}{e:U}{j:Shared}{c:fF}{aJ:Env}{A:bl}{ev:j5}{eh:lG}
set_option tactic.hygienic true in
theorem YJ{v:E}{x:Value}{g:Addr}{p:Obj}{items:List E}(d:j.heap.get? g=some p)(i:hx e v=some items)(f:oJ v x 0 p){R:Value->Shared->Prop}(h:R (.ref g) j):wpAny (model T.prog T.w) aA (pyIter (.ref g)) R aR j:=by
 rcases v with _|_
 case tup B=>exact fB f λ a k C I=>wpAny_pyIter_tupleiter ⟨p,d,C,I⟩ h
 case lst B=>exact fB f λ a l C I=>wpAny_pyIter_listiter ⟨p,d,C,I⟩ h
 case str B=>exact fB f λ a m C I=>wpAny_pyIter_striter_ascii ⟨p,d,C,I⟩ h
 case rng a b c=>
  subst f
  exact wpAny_pyIter_rangeiter d h
 case ref B=>exact fB f λ a n C I=>wpAny_pyIter_listiter ⟨p,d,C,I⟩ h
 all_goals exact bF i
theorem u6:∀{names:List (Str×NameKind)}{x:Str}{v:E},getL (names.filterMap λ s=>match s.2 with
 |.local=>some (s.1,none)
 |.cell=>some (s.1,none)
 |_=>none) x=some v->False
 |[],_,_,h=>bF h
 |(n,k)::r,x,v,h=>by
  have a:=@u6 r x v
  rw[List.filterMap_cons] at h
  rcases k with _|_<;>first|exact a h|skip
  all_goals
   dsimp only at h
   unfold getL at h
   split at h
   ·cases h
   ·exact a h
theorem Bt{sc:Scope}{x:Str}{b:Expr}(h:uu c sc x b=true):px sc=true/\sc.names.lookup x=some .local/\(∀aJ H,foldedSetIterable b aJ H=pure H)/\(∀s∈sc.names,s.2≠.cell)/\
  (∀s∈sc.names,s.2=.local->sc.names.lookup s.1=some .local)/\(∀s∈sc.names,s.2=.free->sc.names.lookup s.1=some .free/\c.sc.names.lookup s.1=some .cell/\∃w,getL c.loc s.1=some w):=by
 simp only[uu,ml,k0,iw] at h
 refine bc h λ e d=>?_;clear h;refine bc e λ f ag=>?_;clear e;refine bc f λ C I=>⟨C,I,λ aJ H=>?_,λ s a q=>?_,λ s a q=>?_,λ s a q=>?_⟩
 ·rcases b with _|_<;>first|rfl|exact cy ag
 ·have:=d s a;rw[q] at this;exact cy this
 ·have:=d s a;rw[q] at this;simpa using this
 ·have:=d s a;rw[q] at this
  simp only[ml,iw] at this
  exact⟨this.1.1,this.1.2,Option.isSome_iff_exists.mp this.2⟩
set_option tactic.hygienic true
theorem GF(dx:mf T aA ev)(hN:pR T aA eh)(fa:aA.handled=none)(b1:fo T W c aJ){sc:Scope}{x:Str}{h2 cz:Pos}{iter eP:Expr}{ifs:List Expr}(ok:uu c sc x iter=true)
  {l:List (Str×Addr)} (uQ:(∀n a,l.lookup n=some a->(n,.free)∈sc.names/\aJ.cells.lookup n=some a)/\(∀n,(n,.free)∈sc.names->(l.lookup n).isSome=true))
  (Q:Inv T W e j) {v:E} {ow:Value} {items:List E} (eU:RelV T W v ow) (aM:hx e v=some items) {A:List E->U->Prop}
  (h:ur ev eh ⟨sc,qv sc,c.loc⟩ x ifs eP (hQ v items) items [] A e) {hH:Value->Addr->Result->Shared->Prop}
  (dt:∀aO M bt r bz aw,dc (·=aw) W aO->W.G aw=none->Inv T aO M bt->(∃p m,aO.G aw=some p/\ue p m)->RelV T aO (.lst r) (.ref bz)->A r M->hH (.ref bz) aw (.ok .next) bt):
  wpAny (model T.prog T.w) aA (pyIter ow) (λ c0 ac'=>wpAny (model T.prog T.w) aA (newList []) (λ r ada=>wpAny (model T.prog T.w) aA (newFunctionEnv sc aJ.globals l [] aJ.qual none .none (some aJ)) (λ oW adb=>
   codeAny (model T.prog T.w) aA (.compStart (.ListComp eP [⟨.Name x h2,iter,ifs,0⟩] sc cz) 0 c0 r {oW with scope:=relabel sc aJ}) (hH r oW.locals) adb) aR ada) aR ac') aR j:=by
 refine ER (Bt ok) λ c' dq kS ih iU mB=>IZ Q eU aM λ p bQ bV=>?_
 obtain⟨u,g,o,t,os⟩:=j
 have a0:(u.push p).objs.size=u.objs.size+1:=Heap.size_push ..
 have bL:((u.push p).push {cls:=.type "list",dict:=none,data:=.seq [].toArray}).objs.size=u.objs.size+2:=by rw[Heap.size_push,a0]
 refine wpAny_newObj_type ?_
 have O:=bV.qI {cls:=.type "list",dict:=none,data:=.seq [].toArray} rfl (tk:=t)
 refine wpAny_newFunctionEnv ih (λ H b_=>nomatch b_) (λ aY Y P=>?_) (vo c')
 have y:=O.qI {cls:=.type "dict",data:=.dict #[]} rfl (tk:=t)
 dsimp only at O y Y P⊢
 rw[a0] at O y⊢
 rw[bL] at y Y P⊢
 refine a' (DL Y) λ tn ea en=>?_
 have jC:=y.qO (aU rfl) P ea (tk:=t+([]:List (Str×Value)).length)
 have b:∀a,u.objs.size<=a->W.G a=none:=λ a f=>by
  rcases q:W.G a with _|_
  case none=>rfl
  case some p=>exact((lI.mpr f) (Heap.lt_size (Q.gq _ _ q))).elim
 generalize nU:u.objs.size=n at bV O y jC b P Y ea⊢
 have B:dc (λ a=>a=n\/a=n+1\/a=n+2) W ((((W.eT n (some p)).eT _ (some {cls:=.type "list",dict:=none,data:=.seq [].toArray})).eT _ (some {cls:=.type "dict",data:=.dict #[]})).eT _ (some tn)):=
  ((((bf.gx W n _).mono λ z=>.inl).trans ((bf.gx _ _ _).mono λ z q=>.inr (.inl q))).trans ((bf.gx _ _ _).mono λ z q=>.inr (.inr q))).trans ((bf.gx _ _ _).mono λ z q=>.inr (.inr q))
 have Bw:n≠n+1:=λ S=>bB _ (J [_] 71537110618113 L (aL S.symm))
 have yP:n≠n+2:=λ S=>bB _ (J [_] 71537111666689 L (aL S.symm))
 have V:n+1≠n+2:=λ S=>bB _ (J [_] 0x2088011100211001 L (aL S.symm))
 have Jd:n<=n+1:=J [_] 35782784 L
 have Dj:n<=n+2:=J [_] 69337216 L
 generalize y9:(((W.eT n _).eT (n+1) _).eT (n+2) _).eT (n+2) _=nC at jC B
 have Cg:nC.G n=some p:=by
  rw[<-y9]
  show(if n=n+2 then _ else if n=n+2 then _ else if n=n+1 then _ else if n=n then some p else _)=_
  rw[a8 yP,a8 yP,a8 Bw,aU rfl]
 have Hy:nC.G (n+1)=some {cls:=.type "list",data:=.seq #[] 0}:=by
  rw[<-y9]
  show(if n+1=n+2 then _ else if n+1=n+2 then _ else if n+1=n+1 then _ else _)=_
  rw[a8 V,a8 V,aU rfl]
 have Hx:nC.G (n+2)=some tn:=by
  rw[<-y9]
  show(if n+2=n+2 then _ else _)=_
  rw[aU rfl]
 have HS:∀D a,l.lookup D=some a->∃X w,aJ.cells.lookup D=some a/\getL _ D=some w/\c.sc.names.lookup D=some _/\W.G a=some X:=λ D a q=>by
  refine bc (uQ.1 D a q) λ K N=>ES (mB _ K rfl) λ jx eZ w fT=>j3 (b1.cell D w eZ fT) λ eL X H bG dz fb gK=>?_
  rw[N] at bG;obtain rfl:=ck bG
  exact cu X w ⟨N,fT,eZ,dz⟩
 have CR:∀D a,l.lookup D=some a->a≠n+2/\a≠n/\a≠n+1:=λ D a q=>by
  refine tN (HS D a q) λ X w jh tQ xZ s=>?_;clear jh;refine⟨λ d=>?_,λ d=>?_,λ d=>?_⟩<;>subst d
  ·rw[b _ Dj] at s;cases s
  ·have s:=b _ (bw _)▸s;cases s
  ·have s:=b _ Jd▸s;cases s
 have G5:fo T nC ⟨sc,qv sc,c.loc⟩ {newEnv sc (n+2) aJ.globals l aJ.qual none .none (some aJ) builtinsNs with scope:=relabel sc aJ}:=by
  refine⟨show sc.kind=_ from vo c',λ H k=>abx,c',b1.nW,b1.oV,(cu tn _ ⟨Hx,en,λ H w z Z=>(u6 Z).elim⟩),λ H w z Z=>(u6 Z).elim,λ H w b_ Z=>?_⟩
  refine a7 (Option.isSome_iff_exists.mp (uQ.2 H (mem_of_lookup b_))) λ a f=>tN (HS H a f) λ X lz K N eZ fT=>j3 (b1.cell H w eZ Z) λ eL zV ox bG dz fb gK=>?_
  rw[K] at bG;obtain rfl:=ck bG
  refine gw a zV ox ⟨f,(B.G a λ D=>e_ (CR H a f) λ cC dh fL=>?_).trans dz,fb,gK.le B⟩
  rcases D with D|D|D
  ·exact dh D
  ·exact fL D
  ·exact cC D
 have loop:=Vt (h2:=h2) (cz:=cz) (iter:=iter) dx hN fa (R:=hH (.ref (n+1)) (n+2)) (fr:=λ a=>a=n+2\/a=n\/a=n+1) (.inr (.inl rfl)) (.inl rfl) (.inr (.inr rfl)) dq rfl yP Bw V CR
  (λ aO M bt r ie k i' nu cV dH ts hM q=>?_) (λ D w q=>u6 q) jC aM (eU.le B) Cg bQ Hy G5 h
 ·refine codeAny_compStart_list loop (YJ (jC.gq _ _ Cg) aM bQ loop)
 ·
  have yf:=nu.yV (n+1)
  have BV:=nu.apart _ _ dH
  have Ic:∀i x,M.get i=some x->kW x->aO.fq i≠n+1:=λ i x d m q=>by have:=(nu.free i x d m).2;rw[q,dH] at this;cases this
  have Fv:=yf.kY (nu.gq _ _ dH) BV (aU rfl) Ic
  have s':=bf.yt (λ z=>False) (aO.eT (n+1) none) _ {cls:=.type "list",data:=.seq ie k} (.inl BV)
  refine fC hM λ aan td C I=>?_;clear hM
  refine dt _ _ bt _ _ _ ?_ (b _ Dj) Fv (cu aan td ⟨(s'.G _ id).trans ((a8 V.symm).trans C),I⟩) (gw (n+1) ie k ⟨rfl,aU rfl,ts.eT.le s'⟩) q
  have ta:=(B.trans (i'.mono λ z q=>q.elim (λ q=>.inr (.inr q)) λ q=>q.elim .inl λ q=>.inr (.inl q))).trans ((bf.gx aO _ none).mono λ z q=>.inr (.inl q))
  have tb:=ta.trans (s'.mono λ z q=>q.elim)
  refine⟨tb.F,λ a f=>?_,tb.n,tb.adr⟩
  by_cases K:a=n
  ·clear nU bV O y P Y ea yP V Dj y9 B Cg Hy Hx CR G5 i' dH yf BV Ic Fv C ta;subst K
   refine((s'.G _ id).trans ((a8 Bw).trans cV)).trans (b _ (bw _)).symm
  ·by_cases N:a=n+1
   ·subst N
    exact((s'.G _ id).trans (aU rfl)).trans (b _ Jd).symm
   ·exact tb.G a λ D=>D.elim K λ D=>D.elim N f
theorem Vw(i:mf T aA ev)(o:pR T aA eh)(fa:aA.handled=none)(b1:fo T W c aJ){sc:Scope}{x:Str}{h2 cz:Pos}{iter k:Expr}{ifs:List Expr}(ok:uu c sc x iter=true)(Q:Inv T W e j)
  (h:ev c iter (λ v b=>match hx b v with
   |some items=>ur ev eh ⟨sc,qv sc,c.loc⟩ x ifs k (hQ v items) items [] (λ B f=>A (.lst B) f) b
   |none=>False) e):wpAny (model T.prog T.w) aA (eval (.ListComp k [⟨.Name x h2,iter,ifs,0⟩] sc cz) aJ) (c3 T W A) aR j:=by
 refine ER (Bt ok) λ r R t S u y=>?_
 obtain⟨U,C,D⟩:=GA λ s E q=>by
  exact ES (y s E q) λ V I w J=>j3 (b1.cell _ w I J) λ eL X H bG Y Z gK=>⟨eL,bG⟩
 refine wpAny_comprehension_free rfl (t _) C (vo r) u (fk (i c _ _ e W j _ aR h Q b1) λ cS v b ow b7 aX K ab q=>?_)
 split at q
 ·rename_i items L
  refine GF i o fa (b1.le aX) ok D K ab L q λ M f c8 bJ bz aw bS N l ⟨tn,O,cV,dH⟩ aT P=>⟨O,dH.ns (l.gq _ _ cV),λ aY m=>?_⟩
  have dv:=bf.gx M aw none
  refine⟨_,.lst _,f,aX.trans ⟨λ a p d=>dv.F _ _ (bS.F a p d),λ a z=>?_,bS.n,bS.adr⟩,l.extBut cV m.extBut,aT.eT,P⟩
  by_cases g:a=aw
  ·clear cV m;subst g;exact(aU rfl).trans N.symm
  ·exact(dv.G a g).trans (bS.G a g)
 ·exact q.elim
set_option tactic.hygienic false
end
end
section
theorem Ce(f:(Option (Sem Value)×Sem Value)->(Option Addr×List (Sem Value×Sem Value))->Sem (ForInStep (Option Addr×List (Sem Value×Sem Value))))
  (a:∀(s:Sem Value×Sem Value) m (run:List (Sem Value×Sem Value)),run.length+1<17->f (some s.1,s.2) (m,run)=pure (.yield (m,run++[s]))) (bk:List (Option (Sem Value)×Sem Value)) (m:Option Addr):
  ∀(items run:List (Sem Value×Sem Value)),run.length+items.length<17->forIn ((items.map λ s=>(some s.1,s.2))++bk) (m,run) f=forIn bk (m,run++items) f
 |[],run,_=>by simp
 |s::r,run,h=>by
  rw[jG,pX,su,a s m _ (J [_,_] 0x222088222000088822088a020001 L h),pure_bind]
  have:=Ce f a bk m r (run++[s]) (by simp at h⊢;exact J [_,_] 0x88822284440000088822088a020001 L h)
  simpa using this
theorem Xf(f:(Option (Sem Value)×Sem Value)->(Option Addr×List (Sem Value×Sem Value))->Sem (ForInStep (Option Addr×List (Sem Value×Sem Value))))(c:List (Sem Value×Sem Value)->Option Addr->Sem (Option Addr))
  (d:∀(s:Sem Value×Sem Value) m (run:List (Sem Value×Sem Value)),run.length+1<17->f (some s.1,s.2) (m,run)=pure (.yield (m,run++[s])))
  (e:∀(s:Sem Value×Sem Value) m (run:List (Sem Value×Sem Value)),run.length+1=17->f (some s.1,s.2) (m,run)=(do let a<-c (run++[s]) m;pure (.yield (a,[]))))
  (l r:List (Sem Value×Sem Value)) (s:Sem Value×Sem Value) (m:Option Addr) (b:l.length=16) (V:r.length<17):
  forIn ((l++s::r).map λ s=>(some s.1,s.2)) (m,([]:List (Sem Value×Sem Value))) f=(do let a<-c (l++[s]) m;pure (a,r)):=by
 rw[e8,Ce f d _ m l [] (by simp;exact J [_] 0x44411100080881 L (aL b)),jG,su,e s m _ (by simp;exact cB (aL b) (aL b.symm))]
 simp only[bind_assoc,pure_bind,oO]
 refine bind_congr λ o=>?_
 have:=Ce f d [] o r [] (by simpa using V)
 simpa using this
theorem VX(l r:List (Sem Value×Sem Value))(s:Sem Value×Sem Value)(b:l.length=16)(c:r≠[])(V:r.length<17):
  dictDisplay ((l++s::r).map λ s=>(some s.1,s.2))=(do
   let o<-subDict (l++[s])
   let sub<-holding [.ref o] (subDict r)
   (holding [.ref o,.ref sub] (mergeMapping o (.ref sub) false)).onRaise λ x=>do let _<-holding [.ref o,x] (runValue (.builtin "proto.let_go" {}))
   pure (.ref o)):=by
 unfold dictDisplay
 dsimp only
 rw[Xf _ (λ run main=>if run.isEmpty then pure main else match main with
  |none=>do let o<-subDict run;pure (some o)
  |some o=>do
   let sub<-holding [.ref o] (subDict run)
   (holding [.ref o,.ref sub] (mergeMapping o (.ref sub) _)).onRaise λ x=>do let _<-holding [.ref o,x] _
   pure (some o)) λ s m run h=>by
  have a:((run++[(s.1,s.2)]).length==17)=false:=by simp;exact λ d=>bB _ (J [_] 0x4110090106220882220001 L h (aL d.symm))
  simp only[a,Bool.false_eq_true,if_false] λ s m run h=>by
  have a:((run++[(s.1,s.2)]).length==17)=true:=by simp;exact cB (J [_] 0x40440444111001 L (aL h)) (J [_] 5068749749109825 L (aL h.symm))
  simp only[a,if_true]
  rfl l r s _ b V]
 simp [c]
section
variable{T:c5}{K:Frag}{P:eW}{aA:Around}{aR:Value->Shared->Prop}{W aO:bf}{e:U}{j:Shared}{c:fF}{aJ:Env}{A:bl}
theorem aaN{prog:Program}{w:World}{K:Type}[DecidableEq K]{knd:KeyKind prog w K}{b:List DictEntry}{c:List (K×Value)}(h:Pairs knd b c):∀{i:Nat}{a:K×Value},c[i]?=some a->∃d,b[i]?=some d/\knd.is a.1 d.key=true/\d.val=a.2:=by
 induction h with
 |nil=>intro i a h;cases h
 |cons C I _ e=>
  intro i a h
  rcases i with _|_
  case zero=>obtain rfl:=ck h;exact⟨_,rfl,C,I⟩
  case succ i=>exact e (by simpa using h)
theorem VQ{o:Addr}{c:List (Str×Value)}{k:Str}{key H:Value}{R:Unit->Shared->Prop}(s:j.heap.DictOf T.knd o c)(f:T.knd.is k key=true)(l:k∉c.map (·.1))(hsz:c.length<=100)
  (dt:∀g,g.DictOf T.knd o (c++[(k,H)])->Heap.SameBut o j.heap g->R () {j with heap:=g}):wpAny (model T.prog T.w) aA (dictPut o (T.knd.hash k) key H) R aR j:=by
 refine r7 s λ p m cf h t e n i Y=>?_;refine bZ (wpAny_dictFind_of f h e n ?_)
 have u:(m.findIdx? λ d=>T.knd.is k d.key)=none:=by
  have:(m.toList.findIdx? λ d=>T.knd.is k d.key)=none:=by
   rw[i.findIdx k,List.findIdx?_eq_none_iff]
   intro x v
   exact h8 λ q=>l (rwr q (nL.mpr ⟨x,v,rfl⟩))
  simpa using this
 rw[u]
 refine wpAny_updateDictKeys (hz:=ah (J [_,_] 0xc82194042846410c81 L hsz (aL i.length)) (show 100<=sizeLine by decide)) h e (dt _ (gw _ _ (cf+1) ⟨Heap.get?_update_self _ h (Obj.isFreed_of_dict (Obj.data_mapDictKeys e _)),t.mapDictKeys _,Obj.data_mapDictKeys e _,n.push f _,?_,?_⟩) (Heap.SameBut.update ..))
 ·have:=i.append f (T.knd.hash k) H
  simpa using this
 ·rw[e8,List.nodup_append]
  exact⟨Y,by simp,λ a y b r q=>l (by simp at r;rw[<-r,<-q];exact y)⟩
theorem abr{bh:Model}{f:Nat->PUnit->Sem (ForInStep PUnit)}{n:Nat}{R:PUnit->Shared->Prop}(bT:Nat->Shared->Prop)(c:bT 0 j)(step:∀i a,i<n->bT i a->wpAny bh aA (f i ⟨⟩) (λ r b=>r=.yield ⟨⟩/\bT (i+1) b) aR a)
  (done:∀a,bT n a->R ⟨⟩ a):wpAny bh aA (forIn (List.range n) PUnit.unit f) R aR j:=by
 have go:∀(m i:Nat)(j:Shared),i+m=n->bT i j->wpAny bh aA (forIn (List.range' i m) PUnit.unit f) R aR j:=by
  intro m
  induction m with
  |zero=>intro i j d h;exact dN (done _ (by rw[<-d];exact h))
  |succ m e=>
   intro i j d h
   rw[List.range'_succ,su]
   refine bZ (fN (step i j (J [_,_,_] 0xc1110003044501001 L (aL d)) h) (λ r b D=>?_) λ z z D=>D)
   obtain⟨rfl,D⟩:=D
   exact e _ _ (cB (J [_,_,_] 0x31422200003044501001 L (aL d)) (J [_,_,_] 0x3044500080088c028081 L (aL d.symm))) D
 exact rwl List.range_eq_range' (go n 0 j (gr n) c)
theorem ZN{o b:Addr}{c a:List (Str×Value)}{R:Unit->Shared->Prop}(F:j.heap.DictOf T.knd o c)(m:j.heap.DictOf T.knd b a)(G:c≠[])(n:b≠o)(H:(b==sysModules)=false)(Y:((c++a).map (·.1)).Nodup)(hsz:c.length+a.length<=100)
  (dt:∀e,e.DictOf T.knd o (c++a)->Heap.SameBut o j.heap e->R () {j with heap:=e}):wpAny (model T.prog T.w) aA (mergeMapping o (.ref b) false) R aR j:=by
 have r:=m.typeIs
 refine r7 F λ p K cf s M t N u O=>r7 m λ dn P agk k agp f Q v o9=>?_;refine bZ (wpAny_isInstance r (b:=true) rfl (wpAny_ite_true rfl (bZ (wpAny_specialOf r rfl (bZ (dN ?_))))))
 have a3:(some (Value.builtin "dict.__iter__")==some (Value.builtin "dict.__iter__"))=true:=rfl
 refine nG (h8 λ D=>cy (H.symm.trans D)) (bZ (wpAny_dictEntries s t (nG (h8 λ q=>G (vX.mp (u.length.symm.trans (by rw[Array.isEmpty_iff.mp q];rfl)))) (bZ (wpAny_dictEntries k f (bZ (wpAny_dictEpoch k f ?_)))))))
 rw[(by rw[<-v.length,jl]:P.size=a.length)]
 refine bZ (abr (λ i l=>∃h,l={j with heap:=h}/\h.DictOf T.knd o (c++a.take i)/\Heap.SameBut o _ h) ⟨j.heap,rfl,?_,Heap.SameBut.refl _ _⟩ ?_ ?_)
 ·rw[List.take_zero,gS];exact gw p K cf ⟨s,M,t,N,u,O⟩
 ·rintro i l S ⟨h,rfl,C,I⟩
  have x:=(I.2 b n).trans k
  refine a7 (⟨_,hK S⟩:∃g,a[i]?=some g) λ g y=>?_
  refine fB (aaN v y) λ d U A V=>?_
  have B:=by simpa using U
  refine a' (Q d (Array.mem_of_getElem? B)) λ W X Z=>?_
  obtain rfl:g.1=W:=T.knd.inj _ _ _ A X
  refine bZ (wpAny_dictEntries x f ?_)
  rw[B]
  refine bZ (jm ?_)
  rw[Z,V]
  have cZ:a.take (i+1)=a.take i++[g]:=by rw[lJ,y];rfl
  refine VQ C A ?_ (by rw[bR,nI];exact J [_,_,_] 0xc8219880014c11904329001 L hsz (Nat.min_le_right _ _)) λ e cV dH=>?_
  ·have E:((c++a.take (i+1)).map (·.1)).Nodup:=by
    refine List.Nodup.sublist (List.Sublist.map _ (List.Sublist.append_left (List.take_sublist _ _) _)) Y
   rw[cZ,<-el,e8,List.nodup_append] at E
   exact λ q=>E.2.2 _ q _ (by simp) rfl
  ·exact bZ (wpAny_dictEpoch ((dH.2 b n).trans x) f (nG (h8 λ D=>cy ((bne_self_eq_false _).symm.trans D)) (dN ⟨rfl,e,rfl,by rw[cZ,<-el];exact cV,I.trans dH⟩)))
 ·rintro l ⟨h,rfl,C,I⟩
  exact dN (dt h (by rw[nJ] at C;exact C) I)
end
end
section
section
variable{T:c5}{K:Frag}{P:eW}{aA:Around}{aR:Value->Shared->Prop}{W aO:bf}{e:U}{j:Shared}{c:fF}{aJ:Env}{A:bl}
def me(T:c5)(W:bf)(o:Addr)(az:List (List Nat))(B:List E):Prop:=∃p a,W.G o=some p/\p.IsDictOf T.knd a/\a.map (·.1)=az.map strOf/\bK T W B (a.map (·.2))
theorem me.le{fr:Addr->Prop}{o:Addr}{az:List (List Nat)}{B:List E}(h:me T W o az B)(l:dc fr W aO)(a:¬fr o):me T aO o az B:=
 tN h λ p b C I ag c=>(cu p b ⟨(l.G o a).trans C,I,ag,c.le l⟩)
theorem WT{a:List (Str×Value)}{az:List (List Nat)}{k:List Nat}(h:a.map (·.1)=az.map strOf)(b:k∉az):strOf k∉a.map (·.1):=by
 rw[h,nL]
 rintro⟨x,c,d⟩
 exact b (rwr (vu d) c)
theorem acN{a:List (Str×Value)}{k:Str}(h:k∉a.map (·.1))(H:Value):stored a k H=a++[(k,H)]:=by
 unfold stored
 rw[a8]
 rw[List.any_eq_true]
 rintro⟨x,b,d⟩
 exact h (nL.mpr ⟨x,b,gg d⟩)
theorem me.put(Q:Inv T W e j){o:Addr}{a:List (Str×Value)}{p:Obj}{eG:List (List Nat)}{c2:List E}{b:Heap}{tk:Nat}(c:W.G o=some p)(d:b.DictOf T.knd o a)(f:Heap.SameBut o j.heap b)
  (g:a.map (·.1)=eG.map strOf) (h:bK T W c2 (a.map (·.2))):∃aO,dc (·=o) W aO/\Inv T aO e {j with heap:=b,toks:=tk}/\me T aO o eG c2:=by
 refine a' (nH.mp d) λ fs i k=>?_
 exact⟨_,bf.gx W o _,Q.qO c f i,fs,a,aU rfl,k,g,h.eT⟩
theorem Jz{x:Str}{cz:Pos}{v:E}(S:St T K P)(f:n_ P c x=some v)(Q:Inv T W e j)(d:fo T W c aJ){R:Value->Shared->Prop}(dt:∀aO H a,gA W aO->Inv T aO e a->RelV T aO v H->R H a):wpAny (model T.prog T.w) aA (eval (.Name x cz) aJ) R aR j:=
 fk (A:=λ b M=>b=v/\M=e) (Kv S f ⟨rfl,rfl⟩ Q d) λ aO b M H a l g r q=>by
  obtain⟨rfl,rfl⟩:=q
  exact dt aO H a l g r
theorem I_(x:Str)(t:Tok):T.knd.is (strOf (k4 x)) (.str x t)=true:=eC _
theorem fo.Jc{fr:Addr->Prop}(d:fo T W c aJ)(l:dc fr W aO)(h:∀a,fr a->W.G a=none):fo T aO c aJ:=by
 refine⟨d.kind,d.names,d.ok,d.nW,d.oV,?_,λ x v g i=>?_,λ x v g i=>?_⟩
 ·refine jd d.loc λ p m bG e f=>?_
  exact cu p m ⟨(l.G _ λ D=>by have bG:=h _ D▸bG;cases bG).trans bG,e,λ x v a b=>let⟨H,s,q⟩:=f x v a b;⟨H,s,q.le l⟩⟩
 ·obtain⟨a,p,H,bG,e,f,j⟩:=d.cell x v g i
  exact⟨a,p,H,bG,(l.G _ λ D=>by rw[h _ D] at e;cases e).trans e,f,j.le l⟩
 ·obtain⟨a,p,H,bG,e,f,j⟩:=d.free x v g i
  exact⟨a,p,H,bG,(l.G _ λ D=>by rw[h _ D] at e;cases e).trans e,f,j.le l⟩
theorem dc.close{fr:Addr->Prop}(l:dc fr W aO)(h:∀a,fr a->aO.G a=W.G a):gA W aO:=
 ⟨l.F,λ a z=>by by_cases q:fr a;exact h a q;exact l.G a q,l.n,l.adr⟩
theorem Wm(S:St T K P){d:bf}(b1:fo T d c aJ){o:Addr}(J:d.G o=none){cz:Pos}{f:(Sem Value×Sem Value)->PUnit->Sem (ForInStep PUnit)}
  (L:∀k v r,f (k,v) r=(do
   let g<-k
   let y<-holding [g] v
   holding [g,y] (dictSet o g y)
   pure (.yield ⟨⟩))) {R:PUnit->Shared->Prop}:
  ∀{i:List (Option Expr)}{m:List Expr}{eG:List (List Nat)}{c2:List E},oH P c i m eG c2->∀{az:List (List Nat)}{B:List E}{W:bf}{j:Shared},dc (·=o) d W->Inv T W e j->me T W o az B->(∀k∈eG,k∉az)->az.length+eG.length<=100->
  (∀aO A,dc (·=o) d aO->Inv T aO e A->me T aO o (az++eG) (B++c2)->R ⟨⟩ A)->
  wpAny (model T.prog T.w) aA (forIn (pairTrees i m aJ cz) PUnit.unit f) R aR j:=by
 intro i m eG c2 h
 induction h with
 |nil=>
  intro az B W j l Q bz n t dt
  rw[gS,gS] at dt
  exact dN (dt W j l Q bz)
 |@cons x H a b s v M Wa YT ni N O I U=>
  intro az B W j l Q bz n t dt
  show wpAny _ _ (forIn ((_,_)::pairTrees M _ _ _) _ _) _ _ _
  rw[su,L]
  refine bZ (bZ (wpAny_Constant_str (bZ (jm (bZ (Jz S N Q.tok (b1.Jc l λ a q=>rwl q J) λ cS D b7 aX C ab=>bZ (pW (dN ?_))))))))
  refine tN (bz.le aX id) λ p b2 cV dH u V=>?_
  refine bZ (jm (wpAny_dictSet_pairs (I_ x _) (nH.mpr ⟨p,C.gq _ _ cV,dH⟩) (λ aY F X=>?_) (ah (jE (sJ u)) (ah (ah (dD ..) t) (show 100<=sizeLine by decide)))))
  rw[acN (WT u (n _ f9))] at F
  obtain⟨fG,bS,Y,mM⟩:=me.put C (eG:=az++[k4 x]) (c2:=B++[v]) cV F X (by rw[e8,e8,u];rfl) (by rw[e8];exact V.append ⟨ab,trivial⟩)
  refine dN (U ((l.trans aX.wide).trans bS) Y mM (λ k q=>?_) (by rw[bR];exact(ah (jE (vY ..)) t)) λ Z iI dv e6 jz=>?_)
  ·rw[fv,fu]
   rintro(D|rfl)
   ·exact n k (gT _ q) D
   ·exact O q
  ·rw[el,el] at jz
   exact dt Z iI dv e6 jz
theorem Wg(S:St T K P){cz:Pos}{f:List (Option Expr)}{g:List Expr}{eG:List (List Nat)}{c2:List E}(h:oH P c f g eG c2):∀{W:bf}{j:Shared}{R:List (Value×Value)->Shared->Prop},Inv T W e j->fo T W c aJ->
  (∀aO i gp d,gA W aO->Inv T aO e i->Carries T.knd gp d->d.map (·.1)=eG.map strOf->bK T aO c2 (d.map (·.2))->R gp i)->
  wpAny (model T.prog T.w) aA (evalPairs (pairTrees f g aJ cz)) R aR j:=by
 induction h with
 |nil=>exact λ Q b1 dt=>evalPairs_nil (dt _ _ [] [] (dc.refl _ _) Q trivial rfl trivial)
 |@cons x H a b s v u y A B k C I l=>
  intro W j R Q b1 dt
  exact pairTrees_cons_walk (wpAny_Constant_str (Jz S k Q.tok b1 λ F D G aX m ab=>l m (b1.le aX) λ n o gp d bS p q r t=>dt n o _ ((strOf _,D)::d) (aX.trans bS) p ⟨I_ x _,rfl,q⟩ (bA _ r) ⟨ab.le bS,t⟩))
theorem BH{b:List (Option Expr)}{d:List Expr}{az:List (List Nat)}{B:List E}(h:oH P c b d az B):b.length=az.length/\d.length=az.length/\b.all (·.isSome)=true/\az.Nodup:=by
 induction h with
 |nil=>exact⟨rfl,rfl,rfl,List.nodup_nil⟩
 |cons f e h a=>exact⟨bA _ a.1,bA _ a.2.1,a.2.2.1,sq.mpr ⟨e,a.2.2.2⟩⟩
set_option tactic.hygienic true in
theorem VW{a:List (Option Expr)}{b:List Expr}{az:List (List Nat)}{B:List E}(h:oH P c a b az B):∀n,
  oH P c (a.take n) (b.take n) (az.take n) (B.take n)/\oH P c (a.drop n) (b.drop n) (az.drop n) (B.drop n)/\∀aJ cz,pairTrees a b aJ cz=pairTrees (a.take n) (b.take n) aJ cz++pairTrees (a.drop n) (b.drop n) aJ cz:=by
 induction h with
 |nil=>intro n;rcases n with _|_<;>exact⟨.nil,.nil,λ z z=>rfl⟩
 |cons d e h f=>
  intro n
  rcases n with _|_
  case zero=>exact⟨.nil,.cons d e h,λ z z=>rfl⟩
  case succ n=>
   refine e_ (f n) λ C I ag=>?_
   exact⟨.cons d (λ D=>e (ra D)) C,I,λ aJ cz=>bA _ (ag _ _)⟩
theorem FK(Q:Inv T W e j){o:Addr}{az:List (List Nat)}{B:List E}(bz:me T W o az B):Inv T ((W.eT o none).new o o) (e.alloc (.dict az B)) j/\RelV T ((W.eT o none).new o o) (.ref e.next) (.ref o):=by
 refine tN bz λ p a C I ag b=>?_
 have bT:=Q.yV o
 refine⟨bT.new ⟨?_,p,a,?_,I,ag,b.eT.le (bf.th (λ z=>False) _ _ _)⟩ (Q.apart o p C) (aU rfl) λ i x d m q=>?_,bT.z2 o o⟩
 ·show(if W.n=W.n then _ else _)=if W.n=W.n then _ else _
  rw[aU rfl,aU rfl]
 ·show j.heap.get? (if W.n=W.n then _ else _)=_
  exact rwl (aU rfl) (Q.gq _ _ C)
 ·have:=(Q.free i x d m).2
  have q:W.fq i=o:=q
  rw[q,C] at this;cases this
theorem acX{a:List (Sem Value×Sem Value)}{R:Addr->Shared->Prop}{bh:Model}(e:¬a.length<=15)
  (h:∀f:(Sem Value×Sem Value)->PUnit->Sem (ForInStep PUnit),(∀k v r,f (k,v) r=(do
   let b<-k
   let c<-holding [b] v
   holding [b,c] (dictSet j.heap.objs.size b c)
   pure (.yield ⟨⟩)))->wpAny bh aA (forIn a PUnit.unit f) (λ z d=>R j.heap.objs.size d) aR {j with heap:=j.heap.push {cls:=.type "dict",data:=.dict #[]}}):wpAny bh aA (subDict a) R aR j:=by
 refine bZ (wpAny_alloc (bZ (jm ?_)))
 rw[a8 e]
 refine bZ (wpAny_rule (bZ (fN (h _ λ k v r=>rfl) (λ z d D=>dN (dN D)) λ z z D=>D)))
theorem VV(S:St T K P)(b1:fo T W c aJ)(Q:Inv T W e j){I:List (Option Expr)}{M:List Expr}{az:List (List Nat)}{B:List E}{cz:Pos}(h:yU P c I M=some (az,B))(g:az.length=0\/az.length=19)(q:A (.ref e.next) (e.alloc (.dict az B))):
  wpAny (model T.prog T.w) aA (eval (.Dict I M cz) aJ) (c3 T W A) aR j:=by
 have x:=Q.tg
 have h:=VU h
 rcases g with g|g
 ·rcases h with _|_
  case nil=>
   refine wpAny_Dict_empty ?_
   have bT:=Q.qI {cls:=.type "dict",data:=.dict #[]} rfl (tk:=j.toks)
   refine a' (nH.mp (Heap.DictOf.new (knd:=T.knd) j.heap)) λ p n y=>?_
   obtain⟨nv,r⟩:=FK bT (cu _ ([]) ⟨aU rfl,by rw[q' _ rfl] at n;obtain rfl:=ck n;exact y,rfl,trivial⟩:me T (W.eT j.heap.objs.size _) _ [] [])
   have l:=((bf.gx W _ (some {cls:=.type "dict",data:=.dict #[]})).trans (bf.gx _ _ none)).trans (bf.th (·=j.heap.objs.size) _ j.heap.objs.size j.heap.objs.size)
   refine⟨_,_,_,l.close λ a q=>?_,nv,r,q⟩
   subst q
   exact(aU rfl).trans x.symm
  case cons _ _ _=>cases g
 ·refine f5 (BH h) λ cC dh fL iE=>?_
  refine e_ (VW h 17) λ k N iI=>?_
  rw[arm_eval_Dict,zip_pairTrees _ _ _ _ fL (cC.trans dh.symm),iI]
  refine f5 (BH k) λ Z va zD agF=>?_
  refine f5 (BH N) λ Jo ZA ZC ZD=>?_
  have m:=pairTrees_length _ _ aJ cz zD (Z.trans va.symm)
  have dt:=pairTrees_length _ _ aJ cz ZC (Jo.trans ZA.symm)
  rw[Z,nI] at m
  rw[Jo,jn] at dt
  refine bZ (pW ?_)
  obtain⟨l,s,C⟩:∃l s,pairTrees (I.take 17) (M.take 17) aJ cz=l++[s]:=by
   rcases List.eq_nil_or_concat (pairTrees _ _ _ _) with D|⟨l,s,D⟩
   ·rw[D,iP] at m;lia
   ·exact cu l s (by rw[D,List.concat_eq_append])
  have m:=C▸m
  rw[C,el]
  rw[show l++([s]++pairTrees _ _ _ _)=l++s::pairTrees _ _ _ _ from rfl,VX l _ s (by rw[bR] at m;exact cB (J [_,_] 0x20220222284a111001 L (aL m) (Nat.min_le_left _ _)) ((Nat.le_total _ _).elim (λ t=>J [_,_] 0xb0100911042228081 L (aL m.symm) (Nat.le_min.2 ⟨bw _,t⟩)) λ t=>cI λ i=>bB _ (J [_,_,_] 0x10440808223002520422300a124c41 L (aL g.symm) (aL m.symm) (Nat.le_min.2 ⟨t,bw _⟩) i))) (λ D=>by rw[D] at dt;exact bB _ (J [_,_] 0x411022228081008a124c41 L (aL g.symm) (aL dt.symm) (d2 _ _))) (cI λ i=>bB _ (J [_,_,_] 0x822004450045110024888c0098a198881 L (aL g) (aL dt) (di (cI λ i=>bB _ (J [_] 0x822044411100124c41 L (aL g.symm) i))) i)),<-C]
  refine a' (nH.mp (Heap.DictOf.new (knd:=T.knd) j.heap)) λ p n y=>?_
  have nr:me T (W.eT j.heap.objs.size _) _ [] []:=cu _ ([]) ⟨aU rfl,by rw[q' _ rfl] at n;obtain rfl:=ck n;exact y,rfl,trivial⟩
  refine bZ (acX (by exact rwl C (λ i=>bB _ ((Nat.le_total _ _).elim (λ t=>J [_,_] 0x822012220bc4509481 L (aL m.symm) i (Nat.le_min.2 ⟨bw _,t⟩)) λ t=>J [_,_,_] 0x41100a40bc46098a124c41 L (aL g.symm) (aL m.symm) i (Nat.le_min.2 ⟨t,bw _⟩)))) λ f cx=>Wm S b1 x cx k (bf.gx W _ _) (Q.qI {cls:=.type "dict",data:=.dict #[]} rfl (tk:=j.toks)) nr (λ z z D=>nomatch D) (by rw[nI];exact J [_] 0x3208640080088881 L (Nat.min_le_left _ _)) λ O k aX F lD=>?_)
  generalize j.heap.objs.size=o at x nr lD aX⊢
  rw[oO] at lD
  have UH:=F.tf
  have R:=F.tg
  refine tN lD λ b3 c' cV Xg HF Xv=>?_
  have v:k.heap.objs.size≠o:=λ d=>by rw[d,cV] at R;cases R
  have bS:dc (λ a=>a=o\/a=k.heap.objs.size) W (O.eT _ (some {cls:=.type "dict",data:=.dict #[]})):=(aX.mono λ z=>.inl).trans ((bf.gx O _ _).mono λ z=>.inr)
  have zc:∀a,a=o\/a=k.heap.objs.size->W.G a=none:=by
   rintro a (rfl|rfl)
   ·exact x
   ·exact(aX.G _ v).symm.trans R
  have U_:(k.heap.objs.size==sysModules)=false:=fH.mpr λ d=>by
   obtain⟨p,n⟩:=S.sys
   have:=F.base _ _ n
   rw[<-d,UH] at this;cases this
  refine bZ (jm (wpAny_subDict (knd:=T.knd) (by exact rwl dt (cI λ i=>bB _ (J [_,_] 0x208805089e2004911140198881 L (aL g) (di (cI λ i=>bB _ (J [_] 0x822044411100124c41 L (aL g.symm) i))) i))) (Wg S N (F.qI {cls:=.type "dict",data:=.dict #[]} rfl (tk:=k.toks)) (b1.Jc bS zc) λ fG N gp dq dv dG aG U zl=>?_)))
  have Hz:=(dv.G _ id).trans (aU rfl)
  have zg:∀{a:List _},a.Nodup->(a.map _).Nodup:=λ h=>List.Pairwise.map _ (λ a b h d=>h (vu d)) h
  refine⟨dq,aG,nH.mpr ⟨_,dG.gq _ _ Hz,by have:=Heap.DictOf.new (knd:=T.knd) k.heap;rw[q' _ rfl] at n;obtain rfl:=ck n;exact y⟩,λ aY V cK=>?_⟩
  rw[merged_nil_of_nodup _ (by rw[U];exact zg ZD)] at V
  obtain⟨i3,H,e6,jz⟩:=me.put dG Hz V cK U zl
  have HA:=(H.G o v.symm).trans ((dv.G o id).trans ((a8 v.symm).trans cV))
  have X:(c'++dq).map (·.1)=az.map strOf:=by rw[e8,HF,U,<-e8,List.take_append_drop]
  refine bZ (wpAny_onRaise (jm (ZN (nH.mpr ⟨b3,e6.gq _ _ HA,Xg⟩) V (λ D=>?_) v U_ (by exact rwl X (zg iE)) ?_ λ agn eZ fT=>?_)))
  ·have u:=bA List.length HF
   rw[D] at u
   simp at u;exact bB _ ((Nat.le_total _ _).elim (λ Y=>J [_] 73254018449672321 L (aL u.symm) (Nat.le_min.2 ⟨bw _,Y⟩)) λ Y=>J [_,_] 0x82201481008a124c41 L (aL g.symm) (aL u.symm) (Nat.le_min.2 ⟨Y,bw _⟩))
  ·have u:=bA List.length X
   simp at u;exact J [_,_,_] 0x320866280043140198881 L (aL g) (aL u)
  ·obtain⟨nC,i',jC,t5⟩:=me.put e6 (c2:=B) HA eZ fT X (by
    rw[e8,<-List.take_append_drop 17 B]
    exact(Xv.le ((bf.gx O _ _).trans (dv.wide.trans H))).append (zl.le H))
   have mC:=bf.gx nC k.heap.objs.size none
   refine bc (FK (jC.yV k.heap.objs.size) (t5.le mC v.symm)) λ bT r=>?_
   refine dN ⟨_,_,_,(((((bS.trans dv.wide).trans (H.mono λ z=>.inr)).trans (i'.mono λ z=>.inl)).trans (mC.mono λ z=>.inr)).trans (((bf.gx _ o none).mono λ z=>.inl).trans (bf.th _ _ o o))).close λ a q=>?_,bT,r,‹A _ _›⟩
   rw[zc a q]
   rcases q with rfl|rfl
   ·exact aU rfl
   ·exact(a8 v).trans (aU rfl)
end
end
section
structure oD(T:c5)(K:Frag)(P:eW)(aA:Around)(R:dp):Prop where
 S:St T K P
 fa:aA.handled=none
 b6:aA.units+40<cLine
 dt:pK T P aA R
 wz:∀aw ly,pK T P (aA.under (.builtin "type.__call__" ⟨.ref aw::ly,[]⟩)) R
 rA:∀k o,P.fn k=some o->nx (model T.prog T.w) K (.ref (T.jr k))
 wI:∀c k,P.init c=some k->nx (model T.prog T.w) K (.ref (T.ca c))
section
variable{T:c5}{K:Frag}{P:eW}{aA:Around}{aR:Value->Shared->Prop}{W aO:bf}{e:U}{j:Shared}{c:fF}{aJ:Env}{A:bl}{ev:j5}{eh:lG}{R:dp}
set_option tactic.hygienic true
theorem acZ{slice:Expr}{p i:Value}:∃a,subscripted slice false p i=operate a (getItem p i):=by
 rcases slice with _|_
 case Slice l u st s=>rcases st with _|_<;>exact⟨_,rfl⟩
 all_goals exact⟨_,rfl⟩
theorem JV(g:mf T aA ev){p:Option Expr}{a:Option E->U->Prop}{b:Value->Shared->Prop}(h:DW ev c p a e)(Q:Inv T W e j)(b1:fo T W c aJ)
  (dt:∀aO M f v x,gA W aO->Inv T aO M f->(v=none/\x=.none\/∃w,v=some w/\RelV T aO w x)->a v M->b x f):wpAny (model T.prog T.w) aA (evalPart p aJ) b aR j:=by
 rcases p with _|_
 case none=>exact dN (dt W e j _ _ (dc.refl _ _) Q (.inl ⟨rfl,rfl⟩) h)
 case some d=>exact fk (g c d _ e W j _ aR h Q b1) λ i v m x k aX l ab=>dt i _ k _ x aX l (.inr ⟨v,rfl,ab⟩)
theorem J8{v:Option E}{x:Value}{p:Option Nat}(h:jK v=some p)(r:v=none/\x=.none\/∃w,v=some w/\RelV T W w x):yj v x:=by
 rcases r with⟨rfl,rfl⟩|⟨w,rfl,r⟩
 ·rfl
 ·rcases w with _|_
  case int k=>refine a7 r λ t a=>?_;clear r;subst a;exact cu k t ⟨rfl,rfl⟩
  all_goals exact bF h
theorem acg{e:U}{p v:E}{l u:Option E}(h:pz e p l u=some v):∃a b,jK l=some a/\jK u=some b:=by
 unfold pz at h
 rcases C:jK l with _|_
 case none=>exact bF (C▸h)
 case some a=>
  rcases I:jK u with _|_
  case none=>rw[C,I] at h;exact bF h
  case some b=>exact cu a b ⟨rfl,rfl⟩
theorem GH{b:Expr}{gens:List Comprehension}{sc:Scope}{cz:Pos}{G:Prop}(h:wk P R ev eh c (.ListComp b gens sc cz) A e)(k:∀x h2 a ifs,gens=[⟨.Name x h2,a,ifs,0⟩]->uu c sc x a=true->ev c a (λ v f=>match hx f v with
   |some items=>ur ev eh ⟨sc,qv sc,c.loc⟩ x ifs b (hQ v items) items [] (λ B g=>A (.lst B) g) f
   |none=>False) e->G):G:=by
 have h:match DS _ with|some (x,a,ifs)=>_|none=>_:=h
 split at h
 ·rename_i x a ifs i
  exact a7 (aaz i) λ h2 d=>xN h (k x h2 a _ d)
 ·exact h.elim
theorem We:vT (wk P R ev eh):=by
 intro c d A e a C I
 rcases d with _|_
 case Set b k s=>exact I
 all_goals exact cy C
theorem Wf(X:oD T K P aA R)(g:mf T aA ev)(V:pR T aA eh)(qo:vT ev):mf T aA (wk P R ev eh):=by
 intro c d A e W j aJ aR h Q b1
 have S:=X.S
 rcases d with _|_
 case Constant k n cz=>
  rcases k with _|_
  case none=>exact wpAny_Constant_none (c3.now (v:=.none) Q rfl h)
  case bool b=>exact wpAny_Constant_bool (c3.now (v:=.bool b) Q rfl h)
  case int i=>exact wpAny_Constant_int (c3.now (v:=.int i) Q.tok ⟨_,rfl⟩ h)
  case str x=>exact wpAny_Constant_str (c3.now (v:=.str _) Q.tok ⟨j.toks,by rw[xB]⟩ h)
  all_goals exact h.elim
 case Name x cz=>
  exact xj h λ v G h=>Kv S G h Q b1
 case BoolOp Y N cz=>exact Bj g h Q b1
 case BinOp l Y r cz=>
  exact wpAny_BinOp (fk (g c l _ e W j _ aR h Q b1) λ w a J x y aX o ab q=>fk (g c r _ _ w y _ aR q o (b1.le aX)) λ L b M H Z bS E aT F=>
   fN (UW E (ab.le bS) aT F) (λ z z D=>D.le (aX.trans bS)) λ z z D=>D)
 case UnaryOp Y x cz=>
  exact wpAny_UnaryOp (fk (g c x _ e W j _ aR h Q b1) λ w a J H y aX o ab q=>fN (aeX o ab q) (λ z z D=>D.le aX) λ z z D=>D)
 case IfExp t b p cz=>
  refine wpAny_IfExp (r2 (V c t _ e W j _ aR h Q b1) λ w r J y aX o q=>?_)
  rcases r with _|_
  case true=>exact fN (g c b A _ w y _ aR q o (b1.le aX)) (λ z z D=>D.le aX) λ z z D=>D
  case false=>exact fN (g c p A _ w y _ aR q o (b1.le aX)) (λ z z D=>D.le aX) λ z z D=>D
 case Dict hy g7 cz=>
  exact aaL h λ az B G h=>VV S b1 Q G h.1 h.2
 case List N cz=>
  refine wpAny_List (xK (wm g h Q b1) λ w B J ai y aX o ab q=>⟨?_,?_⟩)
  ·rw[<-ab.length];exact v5 q.1
  ·exact fB (o.newList (by simpa using ab)) λ L bS E aT=>.mk (aX.trans bS) E aT q.2
 case Tuple N k cz=>
  refine wpAny_Tuple (xK (wm g h Q b1) λ w B J ai y aX o ab q=>⟨?_,?_⟩)
  ·rw[<-ab.length];exact v5 q.1
  ·refine fB (Hr o ab) λ L bS E aT=>?_
   obtain⟨i3,dv,O,hP⟩:=E.w_ (by simpa using aT)
   exact .mk ((aX.trans bS).trans dv) O hP q.2
 case ListComp eP gens sc cz=>
  exact GH h λ x h2 c0 ifs d ok q=>by subst d;exact Vw g V X.fa b1 ok Q q
 case Compare l iF N cz=>
  refine bZ (fk (g c l _ e W j _ aR h Q b1) λ w a J x y aX o ab q=>fN (yJ S g qo X.b6 q ab o (b1.le aX)).1 (λ z z D=>?_) λ z z D=>D)
  obtain⟨L,v,M,bS,E,aT,b,rfl,F⟩:=D
  exact⟨L,_,M,aX.trans bS,E,aT,F⟩
 case Call f args wW cz=>
  rcases wW with _|_
  case cons k r=>exact h.elim
  case nil=>
   have h:match A7 f with|some (p,m,p1)=>_|none=>_:=h
   split at h
   ·rename_i p m p1 d
    obtain rfl:=TL d
    refine xN h λ ok h=>?_
    have k:=i5 ok
    have dq:=i5 k
    exact ZO S g X.dt X.rA (i5 dq) (kc dq) (gg (kc k)) (kc ok) h Q b1
   ·rename_i d
    exact xN h λ ok h=>Vh S g X.dt X.wz X.fa X.rA X.wI (λ p m s D=>bF (D▸d).symm) ok h Q b1
 case Attribute p x cz=>
  refine xN h λ ok h=>?_
  rw[arm_eval_Attribute,FZ ok]
  exact bZ (fk (g c p _ e W j _ aR h Q b1) λ w v J H y aX o ab q=>bZ (pW (bZ (jm (fN (HC S o ab q) (λ z z D=>bZ (wpAny_letTemporaryGo (dN (D.le aX)))) λ z z D=>D)))))
 case Subscript p i cz=>
  have fin:∀{x H:Value}{j:Shared}{w:bf},gA W w->t_ T aA aR x H (c3 T w A) j->wpAny _ aA (subscriptTail p i x H) (c3 T W A) aR j:=λ l ⟨ym,id,cV,dH,hM⟩=>by
   obtain⟨iF,d⟩:=acZ
   exact tail_any cV dH (fN hM (λ z z D=>D.le l) λ z z D=>D) d
  have h:match Ej i with|some (l,u)=>_|none=>_:=h
  split at h
  ·rename_i l u d
   refine a7 (ace d) λ s gQ=>?_;clear d;subst gQ
   exact Subscript_ (fk (g c p _ e W j _ aR h Q b1) λ w fS J x y aX o ab q=>wpAny_Slice (JV g q o (b1.le aX) λ L M Z Jm iZ bS E cQ F=>JV g F E ((b1.le aX).le bS) λ i3 c9 iI Lo i0 dv O D_ U=>dN (xj U λ v G U=>fC (acg G) λ a b C I=>fin (aX.trans (bS.trans dv)) (ach O G (ab.le (bS.trans dv)) (J8 C cQ) (J8 I D_) U))))
  ·exact Subscript_ (fk (g c p _ e W j _ aR h Q b1) λ w fS J x y aX o ab q=>fk (g c i _ _ w y _ aR q o (b1.le aX)) λ L lV M H Z bS E aT F=>xj F λ v G F=>fin (aX.trans bS) (IY S E G (ab.le bS) aT F))
 all_goals exact h.elim
set_option tactic.hygienic false
theorem sO(X:oD T K P aA R):∀n,mf T aA (Internal.ev P R n)/\pR T aA (Internal.eh P R n)/\vT (Internal.ev P R n)
 |0=>⟨λ z z z z z z z z h=>h.elim,λ z z z z z z z z h=>h.elim,λ z z z z z z h=>h⟩
 |n+1=>e_ (sO X n) λ a b o=>⟨Wf X a b o,ady X.S a b o X.b6,We⟩
end
end
section
section
variable{T:c5}{K:Frag}{P:eW}{aA:Around}{aR:Value->Shared->Prop}{W aO:bf}{e:U}{j:Shared}{c:fF}{aJ:Env}{A:bl}{R:dp}{sc:Scope}{ak:Loc}
theorem g9.JY(F:g9 T W c aJ){a:Addr}(h:iO aJ a):∃p,W.G a=some p:=by
 rcases h with rfl|⟨x,h⟩
 ·exact fC F.b1.loc λ p m s b=>⟨p,s⟩
 ·exact fC (F.sF x a h) λ p v s d=>⟨p,s⟩
theorem g9.wY{fr:Addr->Prop}(d:g9 T W c aJ)(l:dc fr W aO)(h:∀a,fr a->¬iO aJ a):g9 T aO c aJ:=by
 have I:∀x a,aJ.cells.lookup x=some a->¬fr a:=λ x a q D=>h _ D (.inr ⟨x,q⟩)
 exact⟨d.b1.wX l (λ D=>h _ D (.inl rfl)) I,d.apart,d.inj,λ x a q=>fC (d.sF x a q) λ p v bG b=>(cu p v ⟨(l.G a (I x a q)).trans bG,b⟩),d.has,d.rN⟩
theorem g9.jV(d:g9 T W c aJ)(l:gA W aO):g9 T aO c aJ:=d.wY l λ z h=>h.elim
theorem dc.Gz{fr b:Addr->Prop}(l:dc (λ a=>fr a\/b a) W aO)(h:∀a,b a->aO.G a=W.G a):dc fr W aO:=
 ⟨l.F,λ a c=>by by_cases q:b a;exact h a q;exact l.G a λ D=>D.elim c q,l.n,l.adr⟩
theorem Zl{x:Str}{v:E}(g:mz c.sc x=true)(b:n_ P c x=some v)(Q:Inv T W e j)(d:fo T W c aJ){h:Value->Shared->Prop}(dt:∀H,RelV T W v H->h H j):wpAny (model T.prog T.w) aA (loadName aJ x) h aR j:=by
 unfold mz at g
 unfold n_ at b
 split at g
 ·rename_i f
  have b:=f▸b
  exact jd d.loc λ p m C I ag=>a' (ag x v f b) λ H s r=>wpAny_loadName_local d.kind ((d.names x _ f).resolve_right λ D=>nomatch D.1) (I.ns (Q.gq _ _ C)) s (dt H r)
 ·rename_i f
  have b:=f▸b
  exact j3 (d.cell x v f b) λ a p H bG i k l=>wpAny_loadName_cell d.kind ((d.names x _ f).resolve_right λ D=>nomatch D.1) bG ⟨p,Q.gq _ _ i,k⟩ (dt H l)
 ·cases g
theorem zL{a:List Expr}{B:List E}{ak b:Loc}(h:sA sc a B ak=some b):
  (a=[]/\B=[]/\b=ak)\/∃x s c v c2,a=.Name x s::c/\B=v::c2/\mz sc x=true/\sA sc c c2 (l8 ak x v)=some b:=by
 rcases a with _|⟨d,a⟩
 ·rcases B with _|_
  ·exact .inl ⟨rfl,rfl,(dd h).symm⟩
  ·exact bF h
 ·rcases B with _|⟨v,B⟩
  ·exact bF h
  ·refine a' (gk.mp (show((w8 d).bind _)=_ from h)) λ x e k=>?_
   obtain⟨s,rfl⟩:=Dy e
   rcases q:mz sc x with _|_
   ·rw[q] at k;exact bF k
   ·rw[q] at k;exact .inr (ID _ _ _ _ _ ⟨rfl,rfl,q,k⟩)
set_option tactic.hygienic true in
theorem Z9{a:List Expr}:∀{B:List E}{ai:List Value}{ak b:Loc}{W:bf}{j:Shared}{c:Unit->Shared->Prop},sA sc a B ak=some b->bK T W B ai->Inv T W e j->g9 T W ⟨sc,ak,[]⟩ aJ->
  (∀aO f,dc (iO aJ) W aO->Inv T aO e f->g9 T aO ⟨sc,b,[]⟩ aJ->c () f)->wpAny (model T.prog T.w) aA (assignInOrder ((assignEach a aJ).map (·.2)) ai) c aR j:=by
 induction a with
 |nil=>
  intro B ai ak b W j c h r Q F dt
  rcases zL h with⟨-,rfl,rfl⟩|⟨_,_,_,_,_,h,_⟩
  ·rcases ai with _|_
   case nil=>exact dN (dt W j (dc.refl _ _) Q F)
   case cons _ _=>exact r.elim
  ·cases h
 |cons d a g=>
  intro B ai ak b W j c h r Q F dt
  rcases zL h with⟨h,_⟩|⟨x,s,n,v,c2,C,rfl,i,I⟩
  ·cases h
  ·(injection C with a0 bL;clear h;subst a0 bL)
   rcases ai with _|_
   case nil=>exact r.elim
   case cons H dr=>exact wpAny_assignInOrder_more (wpAny_assign_Name (z' F Q i r.1 λ o p aX k gZ=>g I (r.2.le aX) k gZ λ l m bS=>dt l m (aX.trans bS)))
theorem Z8{c:List Expr}:∀{B:List E}{ak e:Loc},sA sc c B ak=some e->(assignEach c aJ).length=B.length/\(assignEach c aJ).findIdx? (·.1)=none:=by
 induction c with
 |nil=>
  intro B ak e h
  rcases zL h with⟨-,rfl,rfl⟩|⟨_,_,_,_,_,h,_⟩
  ·exact⟨rfl,rfl⟩
  ·cases h
 |cons d c f=>
  intro B ak e h
  rcases zL h with⟨h,_⟩|⟨x,s,i,v,c2,C,rfl,j,I⟩
  ·cases h
  ·(injection C with a0 bL;clear h;subst a0 bL)
   refine bc (f I) λ a b=>?_
   have g:assignEach (.Name x s::c) _=(false,assign _ _)::assignEach c aJ:=rfl
   exact rwr g (⟨bA _ a,by rw[List.findIdx?_cons,b];rfl⟩)
set_option tactic.hygienic true in
theorem FX(X:oD T K P aA R){t:Expr}{v:E}{H:Value}{KK:Loc->U->Prop}{C:Unit->Shared->Prop}(h:p3 P R sc t v ak KK e)(Q:Inv T W e j)(F:g9 T W ⟨sc,ak,[]⟩ aJ)(r:RelV T W v H)
  (dt:∀aO M G l,dc (iO aJ) W aO->Inv T aO M G->g9 T aO ⟨sc,l,[]⟩ aJ->KK l M->C () G):wpAny (model T.prog T.w) aA (assign t aJ H) C aR j:=by
 have y:=(sO X 40).1
 rcases t with _|_
 case Name x s=>
  have h:match mz sc x with|true=>KK _ e|false=>False:=h
  split at h
  ·rename_i J
   exact wpAny_assign_Name (z' F Q J r λ m n aX c gZ=>dt m e n _ aX c gZ h)
  ·exact h.elim
 case Attribute p x s=>
  exact bZ (jm (fk (y _ p _ e W j _ aR h Q F.b1) λ m L N D n aX c ab q=>bZ (pW (bZ (jm (Al (Kp X.S c ab (r.le aX) q) λ o O u bS g A=>wpAny_release (dt o _ u ak (aX.trans bS).wide g ((F.jV aX).jV bS) A)))))))
 case Subscript p i s=>
  exact bZ (jm (fk (y _ p _ e W j _ aR h Q F.b1) λ m L N D n aX c ab q=>bZ (jm (fk (y _ i _ _ m n _ aR q c (F.jV aX).b1) λ o lV O w u bS g aT A=>bZ (pW (bZ (jm
   (Al (Kr X.S g (ab.le bS) aT (r.le (aX.trans bS)) A) λ V c9 Z dv e6 eZ=>wpAny_release (dt V _ Z ak ((aX.trans bS).trans dv).wide e6 (((F.jV aX).jV bS).jV dv) eZ)))))))))
 case Tuple bb k s=>
  rcases v with _|_
  case tup B=>
   have h:match sA sc bb B ak with|some l=>KK _ e|none=>False:=h
   split at h
   ·rename_i l Y
    refine fg r λ a items cf fD f I=>?_;clear r;subst fD
    refine bc (Z8 Y) λ cC dh=>wpAny_assign_Tuple X.fa ⟨_,Q.fA _ _ f,rfl,_,rfl⟩ (by rw[cC,I.length,jl]) dh λ aY bE=>?_
    exact Z9 Y I (Q.grow (tk:=j.toks) λ b p d=>bE b p (e' (Heap.lt_size d)) d) F λ o u bS g mg=>dt o e u _ bS g mg h
   ·exact h.elim
  all_goals exact h.elim
 all_goals exact h.elim
end
end
section
section
variable{T:c5}{K:Frag}{P:eW}{aA:Around}{aR:Value->Shared->Prop}{W aO:bf}{e:U}{j:Shared}{c:fF}{aJ:Env}{A:bl}{R:dp}{sc:Scope}{ak:Loc}{KK:ej}
noncomputable def SG(T:c5)(W:bf):r_->Flow->Prop
 |.next,f=>f=.next
 |.brk,f=>f=.brk
 |.cont,f=>f=.cont
 |.ret v,f=>∃x,f=.ret x/\RelV T W v x
inductive nA(T:c5)(sc:Scope)(aJ:Env)(W:bf)(KK:ej)(f:Flow)(bt:Shared):Prop
 |of (aO:bf) (fl:r_) (cH:Loc) (M:U) (l:dc (iO aJ) W aO) (Q:Inv T aO M bt) (F:g9 T aO ⟨sc,cH,[]⟩ aJ) (h:SG T aO fl f) (q:KK fl cH M)
theorem nA.le{f:Flow}(l:dc (iO aJ) W aO)(h:nA T sc aJ aO KK f j):nA T sc aJ W KK f j:=by cases h with|of a fl b M dV Q F h q=>exact⟨a,fl,b,M,l.trans dV,Q,F,h,q⟩
abbrev vN:=Stmt->Loc->ej->U->Prop
def t8(T:c5)(aA:Around)(sc:Scope)(aJ:Env)(ex:vN):Prop:=∀(st:Stmt)(ak:Loc)(KK:ej)(e:U)(W:bf)(j:Shared)(aR:Value->Shared->Prop),ex st ak KK e->Inv T W e j->g9 T W ⟨sc,ak,[]⟩ aJ->wpAny (model T.prog T.w) aA (exec st aJ) (nA T sc aJ W KK) aR j
set_option tactic.hygienic true in
theorem uD{ex:vN}(k:t8 T aA sc aJ ex):∀{b:List Stmt}{ak:Loc}{KK:ej}{e:U}{W:bf}{j:Shared}{aR:Value->Shared->Prop},m1 ex b ak KK e->Inv T W e j->g9 T W ⟨sc,ak,[]⟩ aJ->wpAny (model T.prog T.w) aA (execs b aJ) (nA T sc aJ W KK) aR j
 |[],ak,KK,e,W,j,aR,h,Q,F=>wpAny_execs_nil ⟨W,.next,ak,e,dc.refl _ _,Q,F,rfl,h⟩
 |st::r,ak,KK,e,W,j,aR,h,Q,F=>by
  refine wpAny_execs_cons (fN (k st ak _ e W j aR h Q F) (λ f m D=>?_) λ z z D=>D)
  obtain⟨d,fl,g,i,aX,c,gZ,a,q⟩:=D
  rcases fl with _|_
  case next=>subst a;exact fN (uD k q c gZ) (λ z z D=>D.le aX) λ z z D=>D
  case brk=>subst a;exact⟨d,.brk,g,i,aX,c,gZ,rfl,q⟩
  case cont=>subst a;exact⟨d,.cont,g,i,aX,c,gZ,rfl,q⟩
  case ret v=>refine a' a λ x l r=>?_;clear a;subst l;exact⟨d,.ret v,g,i,aX,c,gZ,⟨x,rfl,r⟩,q⟩
theorem ac9{t d:Expr}(h:(u0 t&&u0 d)=false):swappedStores [t] d aJ=pure none:=by
 rcases t with _|_
 case Tuple _ _ _=>rcases d with _|_<;>first|rfl|cases h
 case List _ _=>rcases d with _|_<;>first|rfl|cases h
 all_goals rfl
set_option tactic.hygienic true in
theorem V7{t:Expr}:(∃x s,t=.Starred x s)\/(assignEach [t] aJ).map (·.2)=[assign t aJ]:=by
 rcases t with _|_
 case Starred x s=>exact .inl (cu x s rfl)
 all_goals exact .inr rfl
theorem JG{d:Expr}{t:Option Expr}{l:Nat}(h:zp d=false):swapsWith d t l aJ=pure false:=by rcases d with _|_<;>first|rfl|exact cy h.symm
theorem Vv{d:Expr}{c:fF}(h:zp d=true):(∃a gens b s,d=.ListComp a gens b s)\/(Internal.ev P R 40 c d A e->False):=by
 rcases d with _|_<;>first|exact cy h|exact .inl (hZ _ _ _ _ rfl)|exact .inr λ h=>h
theorem aae{t:Expr}{a:Expr}{gens:List Comprehension}{b:Scope}{s:Pos}{l:Nat}:(∃x h2,t=.Name x h2)\/swapsWith (.ListComp a gens b s) (some t) l aJ=pure false:=by
 rcases t with _|_<;>first|exact .inr rfl|exact .inl (cu _ _ rfl)
theorem TF(X:oD T K P aA R){f:Expr}{gens:List Comprehension}{g:Scope}{s h2 cz:Pos}{x:Str}
  (c:swapsWith (.ListComp f gens g s) (some (.Name x h2)) cz.line aJ=pure true) (h:Internal.ev P R 40 ⟨sc,ak,[]⟩ (.ListComp f gens g s) (λ v r=>p3 P R sc (.Name x h2) v ak (λ A i=>KK .next A i) r) e) (Q:Inv T W e j) (F:g9 T W ⟨sc,ak,[]⟩ aJ):
  wpAny (model T.prog T.w) aA (exec (.Assign [.Name x h2] (.ListComp f gens g s) cz) aJ) (nA T sc aJ W KK) aR j:=by
 refine e_ (sO X 39) λ t B dZ=>?_;rw[exec_Assign_Name_used x h2 _ _ c]
 have h:wk P R (Internal.ev P R 39) (Internal.eh P R 39) _ (.ListComp _ _ _ s) (λ v=>p3 P R sc _ v ak _) e:=h
 refine GH h λ H agO C ifs d ok E=>?_
 subst d
 refine ER (Bt ok) λ I dq J ih L M=>?_
 obtain⟨iy,N,O⟩:=GA λ s S q=>by
  exact ES (M s S q) λ ey U w V=>j3 (F.b1.cell _ w U V) λ eL dn H bG dz fb gK=>⟨eL,bG⟩
 refine bZ (pW (bZ (bZ (wpAny_comprehension_free rfl (J _) N (vo I) L (fk (t _ C _ e W j _ aR E Q F.b1) λ cS v r ow b7 aX Y ab q=>?_)))))
 split at q
 ·rename_i items Z
  have gZ:=F.jV aX
  refine GF t B X.fa gZ.b1 ok O Y ab Z q λ fG i c8 bJ bz aw bS k dG ⟨tn,td,cV,dH⟩ aT b=>?_
  have b:match mz sc x with|true=>KK _ _ _|false=>False:=b
  split at b
  ·rename_i af
   refine wpAny_assign_Name (z' (gZ.le bS λ a D=>by exact rwl D k) dG af aT λ i3 iI dv u jB=>?_)
   have l:¬iO _ aw:=λ D=>by refine a7 (gZ.JY D) λ p m=>?_;have m:=k▸m;cases m
   have n:=(dv.G aw l).trans cV
   refine⟨td,dH.ns (u.gq _ _ n),λ aY c=>?_⟩
   have o:=bf.gx i3 aw none
   have y:=u.extBut (tk:=iI.toks) n c.extBut
   have c_:dc (λ a=>iO _ a\/a=aw) W _:=((aX.wide.trans (bS.mono λ z=>.inr)).trans (dv.mono λ z=>.inl)).trans (o.mono λ z=>.inr)
   refine dN (dN ⟨_,.next,_,i,c_.Gz λ a D=>?_,y,jB.wY o λ a D=>rwl D l,rfl,b⟩)
   clear bS cV l n c o y c_;subst D
   exact(aU rfl).trans (k.symm.trans (aX.G _ id))
  ·exact b.elim
 ·exact q.elim
theorem TG(X:oD T K P aA R){t d:Expr}{cz:Pos}(Y:(u0 t&&u0 d)=false)(h:Internal.ev P R 40 ⟨sc,ak,[]⟩ d (λ v c=>p3 P R sc t v ak (λ a b=>KK .next a b) c) e)(Q:Inv T W e j)(F:g9 T W ⟨sc,ak,[]⟩ aJ):
  wpAny (model T.prog T.w) aA (exec (.Assign [t] d cz) aJ) (nA T sc aJ W KK) aR j:=by
 have main:swapsWith d _ _ _=pure _->wpAny (model _ _) aA (exec _ _) (nA T sc _ W KK) aR j:=λ i=>by
  rw[exec_Assign]
  refine bZ (pW (bZ (wpAny_of_eq (show swapsWithSole [t] d cz.line _=pure false from i) (bZ (fk ((sO X 40).1 _ d _ e W j _ aR h Q F.b1) λ u v c H y aX l ab q=>bZ (wpAny_of_eq (ac9 Y) ?_))))))
  rcases V7 (t:=t) with⟨_,_,rfl⟩|m
  ·exact q.elim
  ·rw[m]
   exact bZ (FX X q l (F.jV aX) ab λ n b A a bS o mg p=>dN ⟨n,.next,a,b,aX.wide.trans bS,o,mg,rfl,p⟩)
 rcases f:zp d with _|_
 case false=>exact main (JG f)
 case true=>
  rcases Vv f with⟨B,gens,r,s,rfl⟩|k
  ·rcases aae (t:=t) with⟨x,h2,rfl⟩|k
   ·rcases g:aJ.blockKind==.function&&aJ.kindOf x==some _&&h2.line==s.line&&!r.names.any _ with _|_
    case false=>exact main (bA pure g)
    case true=>exact TF X (bA pure g) h Q F
   ·exact main k
  ·exact(k h).elim
end
end
section
section
variable{T:c5}{K:Frag}{P:eW}{aA:Around}{aR:Value->Shared->Prop}{W aO:bf}{e:U}{j:Shared}{c:fF}{aJ:Env}{A:bl}{R:dp}{sc:Scope}{ak:Loc}{KK:ej}
inductive SP(T:c5)(gN:Loc->kv)(body:Loc->ej->U->Prop)(sc:Scope)(aJ:Env)(KK:ej)(W:bf)(n:Nat)(j:Shared):Prop
 |of (ak:Loc) (e:U) (aO:bf) (h:tc gN body n ak KK e) (Q:Inv T aO e j) (F:g9 T aO ⟨sc,ak,[]⟩ aJ) (l:dc (iO aJ) W aO)
inductive Fo(T:c5)(iQ:E->Loc->(Loc->U->Prop)->U->Prop)(body:Loc->ej->U->Prop)(sc:Scope)(aJ:Env)(KK:ej)(v:E)(x:Value)(items:List E)(c0:Addr)(W:bf)(n:Nat)(j:Shared):Prop
 |of (i:Nat) (p:Obj) (ak:Loc) (e:U) (aO:bf) (Y:(items.drop i).length=n) (h:o2 iQ body (hQ v items) (items.drop i) ak KK e) (Q:Inv T aO e j) (g:aO.G c0=some p) (bQ:oJ v x i p) (F:g9 T aO ⟨sc,ak,[]⟩ aJ) (l:dc (λ a=>iO aJ a\/a=c0) W aO)
noncomputable def WH(c:E->Loc->(Loc->U->Prop)->U->Prop)(body:Loc->ej->U->Prop)(d:U->Prop)(r:List E)(KK:ej):ej:=λ fl a b=>match fl with
 |.next=>o2 c body d r a KK b
 |.cont=>o2 c body d r a KK b
 |.brk=>KK .next a b
 |.ret w=>KK (.ret w) a b
theorem WI{b:E->Loc->(Loc->U->Prop)->U->Prop}{body:Loc->ej->U->Prop}{a:U->Prop}{r:List E}(h:o2 b body a r ak KK e):a e:=by rcases r with _|_<;>exact h.1
theorem afc(X:oD T K P aA R){ex:vN}(s:t8 T aA sc aJ ex){t:Expr}{b:List Stmt}{cz:Pos}{k:Nat}(h:tc (λ ak=>Internal.eh P R 40 ⟨sc,ak,[]⟩ t) (m1 ex b) k ak KK e)(Q:Inv T W e j)(F:g9 T W ⟨sc,ak,[]⟩ aJ):
  wpAny (model T.prog T.w) aA (exec (.While t b [] cz) aJ) (nA T sc aJ W KK) aR j:=by
 refine wpAny_While (codeAny_whileLoop (SP T _ _ sc _ KK W) ?_ k ⟨ak,e,W,h,Q,F,dc.refl _ _⟩)
 intro n u y
 cases y with|of A I B h C gZ aX=>
 rcases n with _|_
 case zero=>exact h.elim
 case succ n=>
  refine r2 ((sO X 40).2.1 _ t _ _ B u _ _ h C gZ.b1) λ E ed G J bS o q=>?_
  have mg:=gZ.jV bS
  have p:=aX.trans bS.wide
  rcases ed with _|_
  case true=>
   refine fN (uD s q o mg) (λ f L D=>?_) λ z z D=>D
   cases D with|of c fl d g dv i jB a l=>
   have m:=p.trans dv
   rcases fl with _|_
   case next=>subst a;exact⟨n,eo n,d,g,c,l,i,jB,m⟩
   case cont=>subst a;exact⟨n,eo n,d,g,c,l,i,jB,m⟩
   case brk=>subst a;exact⟨c,.next,d,g,m,i,jB,rfl,l⟩
   case ret v=>refine a' a λ x H r=>?_;clear a;subst H;exact⟨c,.ret v,d,g,m,i,jB,⟨x,rfl,r⟩,l⟩
  case false=>
   exact wpAny_execs_nil ⟨E,.next,A,G,p,o,mg,rfl,q⟩
set_option tactic.hygienic true
theorem Xq{t:Expr}{H:Value}{b:Addr}{c:Unit->Shared->Prop}{bh:Model}{n:String}{B:Array Value}{o:Option Addr}{a9:Array (Option Value)}(d:j.heap.get? b=some ⟨.type n,o,.fields B,a9⟩)(ag:(["enumerate","zip","dict_itemiterator","dict_reverseitemiterator","odict_iterator","itertools.zip_longest","itertools.pairwise"].contains n)=false)(h:c () j):wpAny bh aA (letOwnedTupleGo t (.ref b) H) c aR j:=by
 have q:∀{a:Addr},(["enumerate","zip","dict_itemiterator","dict_reverseitemiterator","odict_iterator","itertools.zip_longest","itertools.pairwise"].contains n&&B[0]?==some (rawInt a))=false:=λ{a}=>by rw[ag,Bool.false_and]
 rcases t with _|_
 case Tuple _ _ _=>
  rcases H with _|_
  case ref a=>exact bZ (wpAny_load d (nG (h8 λ D=>cy (q.symm.trans D)) (dN h)))
  all_goals exact dN h
 case List _ _=>
  rcases H with _|_
  case ref a=>exact bZ (wpAny_load d (nG (h8 λ D=>cy (q.symm.trans D)) (dN h)))
  all_goals exact dN h
 all_goals exact dN h
theorem adA{t:Expr}{v:E}{x H:Value}{i:Nat}{items:List E}{g:Addr}{p:Obj}{f:Unit->Shared->Prop}{bh:Model}(k:j.heap.get? g=some p)(l:hx e v=some items)(d:oJ v x i p)(h:f () j):wpAny bh aA (letOwnedTupleGo t (.ref g) H) f aR j:=by
 have go:∀{n:String}{B:Array _},p.cls=.type n->p.data=.fields B->["enumerate","zip","dict_itemiterator","dict_reverseitemiterator","odict_iterator","itertools.zip_longest","itertools.pairwise"].contains n=false->wpAny bh aA (letOwnedTupleGo t _ H) f aR j:=λ C I ag=>by
  obtain⟨cls,o,data,a9⟩:=p
  obtain rfl:cls=_:=C
  obtain rfl:data=_:=I
  exact Xq k ag h
 rcases v with _|_
 case tup B=>exact fB d λ a m C I=>go C I rfl
 case lst B=>exact fB d λ a q C I=>go C I rfl
 case str B=>exact fB d λ a r C I=>go C I rfl
 case rng a b c=>
  subst d
  exact go rfl rfl rfl
 case ref B=>exact fB d λ a s C I=>go C I rfl
 all_goals exact bF l
theorem WK(X:oD T K P aA R){ex:vN}(n2:t8 T aA sc aJ ex){t iter:Expr}{b:List Stmt}{cz:Pos}(qo:∀x,foldedSetIterable iter aJ x=pure x)
  (h:Internal.ev P R 40 ⟨sc,ak,[]⟩ iter (λ v o=>match hx o v with
   |some items=>o2 (p3 P R sc t) (m1 ex b) (hQ v items) items ak KK o
   |none=>False) e) (Q:Inv T W e j) (F:g9 T W ⟨sc,ak,[]⟩ aJ):
  wpAny (model T.prog T.w) aA (exec (.For t iter b [] cz) aJ) (nA T sc aJ W KK) aR j:=by
 refine wpAny_For (fk ((sO X 40).1 _ _ _ e W j _ aR h Q F.b1) λ u v o x b7 aX C ab q=>?_) qo
 split at q
 ·rename_i items E
  have gZ:=F.jV aX
  have B:=C.tg
  refine IZ C ab E λ p d I=>?_
  generalize b7.heap.objs.size=c at B I⊢
  have s:¬iO _ c:=λ D=>by refine a7 (gZ.JY D) λ p d=>?_;have d:=B▸d;cases d
  have fin:∀{aO:bf},dc _ u aO->dc (iO aJ) W _:=λ{aO} l=>aX.wide.trans ((l.trans ((bf.gx aO c _).mono λ z=>.inr)).Gz λ a D=>by rw[D,B];exact aU rfl)
  have bS:=bf.gx u c (some p)
  refine codeAny_forLoop_any (Fo T _ _ sc _ KK v x _ c u) ?_ _ ⟨0,p,ak,o,_,rfl,q,I,aU rfl,d,gZ.wY bS λ a D=>rwl D s,bS.mono λ z=>.inr⟩
  intro n c8 aP
  cases aP with|of i p cH M aO Y h Q bO d F l=>
  subst Y
  have J:=KN E (WI h)
  have jB:=λ fs=>F.wY (bf.gx aO c fs) λ a D=>rwl D s
  refine JC Q X.fa (ab.le l) J bO d (λ a y H fs aY tk L A bM=>?_) λ y aY tk A=>?_
  ·rw[BM y] at h
   refine adA (A.gq c fs (aU rfl)) J L (FX (KK:=λ kT o=>m1 ex b _ (WH _ _ _ _ KK) _) X h.2 A (jB _) bM.eT λ nC f6 ip ag0 N jC SF fT=>?_)
   refine fN (uD n2 fT jC SF) (λ f vn D=>?_) λ z z D=>D
   cases D with|of O fl agf lB S U V g k=>
   have c_:=((l.trans ((bf.gx aO c _).mono λ z=>.inr)).trans (N.mono λ z=>.inl)).trans (S.mono λ z=>.inl)
   have stop:=λ{fl:r_}{f:Flow} g q=>nA.of (KK:=KK) (f:=f) _ fl _ _ (fin c_) (U.yV c) (V.wY (bf.gx O c _) λ a D=>rwl D s) g q
   have Z:=λ k=>(⟨_,BL y,i+1,fs,agf,lB,O,rfl,k,U,(S.G c s).trans ((N.G c s).trans (aU rfl)),L,V,c_⟩:∃m,m<(items.drop i).length/\Fo T (p3 P R sc t) (m1 ex b) sc _ KK v x _ c u m vn)
   rcases fl with _|_
   case next=>subst g;exact Z k
   case cont=>subst g;exact Z k
   case brk=>subst g;exact stop (fl:=.next) rfl k
   case ret w=>refine a' g λ D gQ r=>?_;clear g;subst gQ;exact stop (fl:=.ret w) ⟨D,rfl,r.eT⟩ k
  ·rw[sr (List.getElem?_eq_none_iff.mp y)] at h
   exact wpAny_execs_nil ⟨_,.next,cH,M,fin l,A,jB _,rfl,h.2⟩
 ·exact q.elim
set_option tactic.hygienic false
theorem aaf{i:Expr}(h:IT i=false):∀a b new,augStore i a b new=(do holding [new,a,b] (setItem a b new);release [new,a,b] [];pure .next):=by rcases i with _|_<;>first|exact λ z z z=>rfl|exact cy h.symm
set_option tactic.hygienic true in
theorem Wh(X:oD T K P aA R){ex:vN}(G:t8 T aA sc aJ ex):t8 T aA sc aJ (G_ P R sc ex):=by
 intro st ak KK e W j aR h Q F
 refine e_ (sO X 40) λ f hN j4=>?_;have S:=X.S
 rcases st with _|_
 case Expr d cz=>
  refine BW h λ aG h=>wpAny_Expr_any (fk (f _ d _ e W j _ aR h Q F.b1) λ l v o x y aX c ab q=>⟨l,.next,ak,o,aX.wide,c,F.jV aX,rfl,q⟩) ?_ (JG aG)
  unfold interactive;rw[F.b1.kind];rfl
 case Pass cz=>exact wpAny_Pass ⟨W,.next,ak,e,dc.refl _ _,Q,F,rfl,h⟩
 case Break cz=>exact wpAny_Break ⟨W,.brk,ak,e,dc.refl _ _,Q,F,rfl,h⟩
 case Continue cz=>exact wpAny_Continue ⟨W,.cont,ak,e,dc.refl _ _,Q,F,rfl,h⟩
 case Return v cz=>
  rcases v with _|_
  case none=>exact wpAny_Return_none ⟨W,.ret .none,ak,e,dc.refl _ _,Q,F,⟨_,rfl,rfl⟩,h⟩
  case some d=>exact wpAny_Return_some (fk (f _ d _ e W j _ aR h Q F.b1) λ l v o x y aX c ab q=>⟨l,.ret v,ak,o,aX.wide,c,F.jV aX,⟨x,rfl,ab⟩,q⟩)
 case Assign eh d cz=>
  rcases eh with _|⟨t,_|⟨_,_⟩⟩
  ·exact h.elim
  ·exact BW h λ Y h=>TG X Y h Q F
  ·exact h.elim
 case AugAssign t b4 d cz=>
  rcases t with _|_
  case Name x h2=>
   have h:match mz sc x,n_ P _ x with
    |true,some a=>Internal.ev P R 40 _ d _ e
    |_,_=>False:=h
   split at h
   ·rename_i a af aj
    exact wpAny_AugAssign_Name (Zl af aj Q F.b1 λ H l5=>fk (f _ d _ e W j _ aR h Q F.b1) λ l b o D y aX c ab q=>fk (C8 c (l5.le aX) ab q) λ L r I w N bS B aT s=>z' ((F.jV aX).jV bS) B af aT λ J O dv E jB=>⟨J,.next,_,I,(aX.trans bS).wide.trans dv,E,jB,rfl,s⟩)
   ·exact h.elim
  case Attribute p x h2=>
   exact wpAny_AugAssign_AttributeAny (fk (f _ p _ e W j _ aR h Q F.b1) λ l fS o H y aX c ab q=>fk (HC S c ab q) λ L a I D N bS B aT s=>fk (f _ d _ _ L N _ aR s B (F.b1.le (aX.trans bS))) λ J b c9 w O dv E U eZ=>
    fk (C8 E (aT.le dv) U eZ) λ nC r f6 u ip m V Z fT=>Al (Kp S V (ab.le (bS.trans (dv.trans m))) Z fT) λ vV lB vn C nu pq=>
    ⟨vV,.next,ak,lB,(aX.trans (bS.trans (dv.trans (m.trans C)))).wide,nu,F.jV (aX.trans (bS.trans (dv.trans (m.trans C)))),rfl,pq⟩)
  case Subscript p i h2=>
   refine BW h λ aN h=>wpAny_AugAssign_SubscriptAny (fk (f _ p _ e W j _ aR h Q F.b1) λ l fS o H y aX c ab q=>fk (f _ i _ _ l y _ aR q c (F.b1.le aX)) λ L lV I D N bS B aT s=>xj s λ a au s=>jd (IY (A:=λ v M=>v=a/\M=I) S B au (ab.le bS) aT ⟨rfl,rfl⟩) λ ym id hF nk g=>fk g λ J eL c9 w O dv E U cT=>bc cT λ kS EX=>?_) (aaf aN);clear cT;subst kS;clear B au g;subst EX
   exact fk (f _ d _ _ J O _ aR s E (F.b1.le (aX.trans (bS.trans dv)))) λ nC b f6 u ip m V Z fT=>fk (C8 V (U.le m) Z fT) λ vV r lB n vn C nu ts pq=>
    Al (Kr S nu (ab.le (bS.trans (dv.trans (m.trans C)))) (aT.le (dv.trans (m.trans C))) ts pq) λ SO vJ tv mC yf aa6=>
    have c_:=aX.trans (bS.trans (dv.trans (m.trans (C.trans mC))));⟨SO,.next,ak,vJ,c_.wide,yf,F.jV c_,rfl,aa6⟩
  all_goals exact h.elim
 case If t b p cz=>
  refine wpAny_If (r2 (hN _ t _ e W j _ aR h Q F.b1) λ l r o y aX c q=>?_)
  rcases r with _|_
  case true=>exact fN (uD G q c (F.jV aX)) (λ z z D=>D.le aX.wide) λ z z D=>D
  case false=>exact fN (uD G q c (F.jV aX)) (λ z z D=>D.le aX.wide) λ z z D=>D
 case While t b p cz=>
  rcases p with _|_
  case nil=>exact a7 h λ k h=>afc X G h Q F
  case cons _ _=>exact h.elim
 case For t iter b p cz=>
  rcases p with _|_
  case nil=>exact WK X G (λ x=>by rcases iter with _|_<;>first|rfl|exact False.elim h) h Q F
  case cons _ _=>exact h.elim
 all_goals exact h.elim
theorem G'(X:oD T K P aA R):∀n,t8 T aA sc aJ (Internal.ex P R sc n)
 |0=>λ z z z z z z z h=>h.elim
 |n+1=>Wh X (G' X n)
end
end
section
section
variable{T:c5}{K:Frag}{P:eW}{aA:Around}{aR:Value->Shared->Prop}{W aO:bf}{e:U}{j:Shared}{c:fF}{aJ:Env}{A:bl}{R:dp}{sc:Scope}{ak:Loc}{KK:ej}
theorem yI:∀(names:List (Str×NameKind))(n:Nat)(a:List (Str×Addr))(x:Str),((x,NameKind.cell)∈names\/(a.lookup x).isSome=true)->((cellsFrom n names a).lookup x).isSome=true
 |[],_,_,_,h=>h.resolve_left λ D=>nomatch D
 |(H,k)::r,n,a,x,h=>by
  unfold cellsFrom
  by_cases b:(k==NameKind.cell)=true
  ·rw[aU b]
   refine yI r _ _ x ?_
   rw[k2]
   rcases q:x==H with _|_
   case true=>exact .inr rfl
   case false=>
    refine h.imp_left λ D=>?_
    rcases ew.mp D with D|D
    ·(injection D with a0 bL;subst a0 bL);rw[eC] at q;cases q
    ·exact D
  ·rw[a8 b]
   refine yI r _ _ x (h.imp_left λ D=>?_)
   rcases ew.mp D with D|D
   ·(injection D with a0 bL;clear h;subst a0 bL);exact(b rfl).elim
   ·exact D
theorem Gh{lW:Str->Option NameKind}:∀{gp:List Str}{B:List E}{dr:List Value}{ak:Loc}{m mr:Str->Option Value},bK T W B dr->
  (∀x v,lW x=some .local->getL ak x=some v->∃H,m x=some H/\RelV T W v H)->(∀x v,lW x=some .cell->getL ak x=some v->∃H,mr x=some H/\RelV T W v H)->
  (∀x v,lW x=some .local->getL (vr gp B ak) x=some v->∃H,bindL lW (gp.zip dr) m x=some H/\RelV T W v H)/\(∀x v,lW x=some .cell->getL (vr gp B ak) x=some v->∃H,bindC lW (gp.zip dr) mr x=some H/\RelV T W v H)
 |[],B,dr,ak,m,mr,r,C,I=>by rcases B with _|_<;>exact⟨C,I⟩
 |s::gp,[],[],ak,m,mr,r,C,I=>⟨C,I⟩
 |s::gp,[],_::_,_,_,_,r,_,_=>r.elim
 |s::gp,_::_,[],_,_,_,r,_,_=>r.elim
 |s::gp,v::B,H::dr,ak,m,mr,⟨ab,aT⟩,C,I=>by
  refine Gh (gp:=gp) aT (λ x w b a=>?_) λ x w b a=>?_
  ·rcases uN a with⟨rfl,rfl⟩|⟨c,a⟩
   ·rw[aU b];exact⟨H,aU rfl,ab⟩
   ·refine a' (C x w b a) λ D ag d=>⟨D,?_,d⟩
    split
    ·exact(a8 c).trans ag
    ·exact ag
  ·rcases uN a with⟨rfl,rfl⟩|⟨c,a⟩
   ·rw[a8 (by rw[b];decide)];exact⟨H,aU rfl,ab⟩
   ·refine a' (I x w b a) λ D ag d=>⟨D,?_,d⟩
    split
    ·exact ag
    ·exact(a8 c).trans ag
open Classical in
noncomputable def bf.frame(W:bf)(j7:Addr->Prop)(g:Addr->Option Obj):bf:={W with G:=λ a=>if j7 a then g a else W.G a}
theorem bf.B6(W:bf)(j7:Addr->Prop)(g:Addr->Option Obj):dc j7 W (W.frame j7 g):=⟨λ z z d=>d,λ a D=>a8 D,bw _,λ z z=>rfl⟩
set_option tactic.hygienic true in
theorem Inv.Hq(bT:Inv T W e j){j7:Addr->Prop}{g:Addr->Option Obj}(b:∀a p,j7 a->g a=some p->j.heap.get? a=some p/\W.F a=none/\∀i x,e.get i=some x->kW x->W.fq i≠a):Inv T (W.frame j7 g) e j:=by
 have c:∀{a:Addr},j7 a->(W.frame j7 g).G a=g a:=λ D=>aU D
 have f:∀{a:Addr},¬j7 a->(W.frame j7 g).G a=W.G a:=λ D=>a8 D
 refine⟨bT.fA,λ a p d=>?_,λ a p d=>?_,bT.base,bT.n,bT.lt,λ i p d=>mP.le (bf.B6 W j7 g) rfl rfl (bT.obj i p d),λ i p d m=>⟨(bT.free i p d m).1,?_⟩,bT.inj,bT.gens,bT.os⟩
 ·by_cases q:j7 a
  ·rw[c q] at d;exact(b a p q d).1
  ·rw[f q] at d;exact bT.gq a p d
 ·by_cases q:j7 a
  ·rw[c q] at d;exact(b a p q d).2.1
  ·rw[f q] at d;exact bT.apart a p d
 ·show(W.frame j7 g).G (W.fq i)=none
  by_cases q:j7 (W.fq i)
  ·rw[c q]
   rcases D:g _ with _|_
   case none=>rfl
   case some H=>exact(((b _ H q D).2.2 i p d m) rfl).elim
  ·rw[f q];exact(bT.free i p d m).2
theorem adH(aw:Addr)(a:List Value):(Code.builtin "type.__call__" ⟨.ref aw::a,[]⟩).weight=1/\(Code.builtin "type.__call__" ⟨.ref aw::a,[]⟩).cUnits<=30:=by
 have h:(Code.builtin "type.__call__" ⟨.ref aw::a,[]⟩).cUnits=1+3*(Code.builtin "type.__call__" ⟨[],[]⟩).frames:=rfl
 exact⟨rfl,by rw[h];exact ae rfl⟩
set_option tactic.hygienic true in
theorem abQ(S:St T K P)(rA:∀k o,P.fn k=some o->nx (model T.prog T.w) K (.ref (T.jr k)))(wI:∀c k,P.init c=some k->nx (model T.prog T.w) K (.ref (T.ca c))):∀(n:Nat)(aA:Around),AO aA n->pK T P aA (Run P n):=by
 intro n
 induction n with
 |zero=>intro aA r k B A e h;exact h.elim
 |succ n V=>
  intro aA r k B A e h
  refine aau h λ o Y y h=>⟨⟨o,Y⟩,λ W j ai aR Q bX=>?_⟩
  rw[ml,iw,decide_eq_true_eq] at y
  refine a7 (S.fn k o Y) λ fJ b=>a' b.get λ p bQ XK=>a' (b.binds W j B ai Q.base Q.h₀ bX y.2 y.1) λ dr l5 ax=>?_
  have s:=b.ok
  have Z:o.scope.isGenerator=false/\o.scope.isCoroutine=false:=by
   simp only[px,ml,Bool.not_eq_true'] at s
   exact⟨s.1.1.2,s.1.2⟩
  refine codeAny_call_function (by have:=r.depth;exact J [_,_,_] 0xc11100030442104450082400001 L this) (Q.h₀ _ _ bQ) XK (by rw[b.scope];exact Z.2) (by rw[b.scope];exact Z.1) b.body (b.code.keeps Q.h₀) (ax _ _ _ _ ?_)
  rw[b.Vp,b.scope,b.nW,b.oV]
  have X2:∀x∈o.params.zip dr,o.scope.names.lookup _=some _\/o.scope.names.lookup _=some _/\((cellsFrom (j.heap.objs.size+1) _ []).lookup _).isSome=true:=λ x l=>by
   rcases b.params _ (List.of_mem_zip l).1 with D|D
   ·exact .inl D
   ·exact .inr ⟨D,yI _ _ _ _ (.inl (mem_of_lookup D))⟩
  refine wpAny_newFunctionEnv_cells (vo s) X2 λ aJ u b7 X=>?_
  have FF:=X.cell;have FE:=X.above
  obtain⟨⟨t,tk,rfl⟩,SR,FH,FG⟩:=X.toInCall
  refine⟨(Q.nolimit S).keeps FH,codeAny_func ?_⟩
  have E:∀a,iO aJ a->j.heap.objs.size<=a:=by
   rintro a (rfl|⟨x,l⟩)
   ·exact FG
   ·exact ah FG (ka (FE x a (mem_of_lookup l)))
  have bV:=(Q.grow (tk:=tk) FH).Hq (g:=t.get?) λ a p q d=>⟨d,by
    rcases D:W.F a with _|_
    case none=>rfl
    case some p=>exact((lI.mpr (E a q)) (Heap.lt_size (Q.fA a p D))).elim,λ i x d m D=>absurd (Q.vc d m) (lI.mpr (rwl D (E a q)))⟩
  have aX:=bf.B6 W (iO aJ) t.get?
  have M:∀{a:Addr},iO _ a->(W.frame (iO aJ) t.get?).G a=t.get? a:=λ D=>aU D
  have Iq:aJ.scope=o.scope:=by rw[u];rfl
  have N:aJ.kindOf=λ x=>o.scope.names.lookup x:=by unfold Env.kindOf;rw[Iq]
  refine bc (Gh (lW:=aJ.kindOf) (gp:=o.params) (ak:=qv o.scope) (m:=λ z=>none) (mr:=λ z=>none) (l5.le aX) (λ x v z D=>(u6 D).elim) λ x v z D=>(u6 D).elim) λ fP gs=>a' (DL SR) λ aao Yb Ya=>?_
  have has:∀x,o.scope.names.lookup x=some _->∃a,aJ.cells.lookup x=some a:=λ x l=>by
   rw[(by rw[u];rfl:aJ.cells=cellsFrom (j.heap.objs.size+1) o.scope.names [])];exact Option.isSome_iff_exists.mp (yI _ _ _ _ (.inl (mem_of_lookup l)))
  have b1:fo T (W.frame (iO aJ) t.get?) ⟨o.scope,vr o.params (ou o.params.length B o.defaults) (qv o.scope),[]⟩ aJ:=by
   exact⟨by exact rwl Iq (vo s),λ x k l=>.inl (by rw[N];exact l),s,by rw[u];rfl,by rw[u];rfl,(cu aao _ ⟨(M (.inl rfl)).trans Yb,Ya,λ x v C I=>fP x v (by rw[N];exact C) I⟩),λ x v C I=>a7 (has x C) λ a O=>a' (FF x a O) λ R cV dH=>a' (gs x v (by rw[N];exact C) I) λ H hM o4=>gw a R H ⟨O,(M (.inr ⟨x,O⟩)).trans cV,by rw[dH,hM],o4⟩,λ x v C I=>((b.rN x) C).elim⟩
  have F:g9 T (W.frame (iO aJ) t.get?) ⟨o.scope,vr o.params (ou o.params.length B o.defaults) (qv o.scope),[]⟩ aJ:=by
   refine⟨b1,λ x a l d=>?_,λ x H a l b_=>name_of_addr X.apart (mem_of_lookup l) (mem_of_lookup b_),λ x a l=>?_,has,b.rN⟩
   ·have:=FE x a (mem_of_lookup l)
    rw[d] at this
    exact Nat.lt_irrefl _ this
   ·exact a' (FF x a l) λ R cV dH=>cu R _ ⟨(M (.inr ⟨x,l⟩)).trans cV,dH⟩
  have ab:AO (aA.deeper aJ) n:=⟨r.handled,by have:=r.depth;exact J [_,_,_] 0x3044211441088800000030442104450082400001 L this,by show aA.units+3+40*n+120<_;have:=r.units;lia⟩
  have SQ:oD T K P _ _:=⟨S,ab.handled,by have:=ab.units;lia,V _ ab,λ aw ly=>V _ ⟨ab.handled,by
    show aA.depth+1+_+2*n+2<_
    have:=r.depth;exact J [_,_,_] 0x1822108a208441110000000030442104450082400001 L this,by
    show aA.units+3+_+40*n+120<_
    have:=(adH aw ly).2;have:=r.units;lia⟩,rA,wI⟩
  refine fN (uD (G' SQ 12) h bV F) (λ f c8 D=>?_) λ z z D=>D
  obtain⟨fG,fl,pJ,aS,bS,dG,mg,U,q⟩:=D
  have e6:=dG.Hq (j7:=iO aJ) λ a p z=>bF
  have dv:=bf.B6 fG (iO aJ) λ z=>none
  have c_:=((aX.trans bS).trans dv).close λ a D=>by
   refine(aU D).trans (Eq.symm ?_)
   rcases d:W.G a with _|_
   case none=>rfl
   case some p=>exact((lI.mpr (E a D)) (Heap.lt_size (Q.gq a p d))).elim
  rcases fl with _|_
  case next=>subst U;exact⟨_,.none,aS,c_,e6,rfl,q⟩
  case ret v=>refine a' U λ x ko r=>?_;clear U;subst ko;exact⟨_,v,aS,c_,e6,r.le dv,q⟩
  case brk=>exact q.elim
  case cont=>exact q.elim
end
end
end
section
open PySem PySem.W PySem.Calls PyProof.Rows
section
section
variable{cg:Type}
set_option tactic.hygienic true in
theorem zC{ns:List Str}:∀{B:List cg}{i:Nat}{n:Str},ns.Nodup->ns[i]?=some n->(ns.zip B).lookup n=B[i]?:=by
 induction ns with
 |nil=>intro B i n _ h;cases h
 |cons m ns a=>
  intro B i n Y h
  refine bc (sq.mp Y) λ C I=>?_
  rcases B with _|_
  case nil=>simp
  case cons v B=>
   rw[List.zip_cons_cons,k2]
   rcases i with _|_
   case zero=>obtain rfl:=ck h;rw[eC];rfl
   case succ i=>
    have:(n==m)=false:=fH.mpr λ d=>C (rwr d (j_ h))
    rw[this,a I h]
    simp
theorem Jl{l r:List (Str×cg)}{n:Str}:(l++r).lookup n=(l.lookup n).or (r.lookup n):=by
 induction l with
 |nil=>simp
 |cons s l a=>
  obtain⟨m,v⟩:=s
  rw[pX,k2,k2]
  rcases n==m with _|_
  case true=>rfl
  case false=>exact a
theorem Zs{l:List (Str×cg)}{s:Str->Bool}{n:Str}(h:s n=true):(l.filter λ x=>s x.1).lookup n=l.lookup n:=by
 induction l with
 |nil=>rfl
 |cons q l a=>
  obtain⟨m,v⟩:=q
  rw[List.filter_cons,k2]
  rcases d:n==m with _|_
  case true=>
   have:=eq_of_beq d
   subst this
   simp only[h,if_true,k2,eC]
  case false=>
   split
   ·rw[k2,d];exact a
   ·exact a
set_option tactic.hygienic true in
theorem Wq{ns:List Str}{f:Str->Option cg}:∀{B:List cg},ns.length=B.length->(∀(i:Nat)(n:Str),ns[i]?=some n->f n=B[i]?)->(ns.filterMap λ n=>(f n).map λ x=>(n,x))=ns.zip B:=by
 induction ns with
 |nil=>intro B h _;rcases B with _|_<;>rfl
 |cons m ns b=>
  intro B h a
  rcases B with _|_
  case nil=>cases h
  case cons v B=>
   rw[List.filterMap_cons,a 0 m rfl]
   exact bA _ (b (by simpa using h) λ i n d=>by have:=a (i+1) n (by simpa using d);simpa using this)
end
set_option tactic.hygienic true in
theorem Wn(f:Str×Value->List (Str×Value)->Sem (ForInStep (List (Str×Value))))(c:∀x r,f x r=if(r.lookup x.1).isNone=true then pure (.yield (r++[(x.1,x.2)])) else pure (.yield r))(ns:List Str):
  ∀(fI:List Value)(a:List (Str×Value)),ns.Nodup->forIn (ns.zip fI) a f=pure (a++(ns.zip fI).filter λ s=>(a.lookup s.1).isNone):=by
 induction ns with
 |nil=>intro fI a _;rw[List.zip_nil_left,List.forIn_nil,List.filter_nil,gS]
 |cons n ns b=>
  intro fI a Y
  refine bc (sq.mp Y) λ C I=>?_
  rcases fI with _|_
  case nil=>rw[List.zip_nil_right,List.forIn_nil,List.filter_nil,gS]
  case cons o fI=>
   rw[List.zip_cons_cons,su,c,List.filter_cons]
   by_cases d:(a.lookup n).isNone=true
   ·have k:∀s∈ns.zip fI,((a++[(n,o)]).lookup _).isNone=(a.lookup _).isNone:=λ s e=>by
     rw[Jl,k2,(fH.mpr λ q=>C ((rwr q ((List.of_mem_zip e).1))):(s.1==n)=false)]
     exact bA _ Option.or_none
    rw[aU d,aU d]
    exact(b fI _ I).trans (bA _ ((bA _ (List.filter_congr k)).trans (el ..)))
   ·rw[a8 d,a8 d]
    exact b fI _ I
theorem U2{n x o:Nat}(h:x<=n)(c:o<=n)(b:n<=x+o):n=x+(o-(x+o-n)):=cB (J [_,_,_,_,_] 0x5400e0220073002628081 L (d2 _ _) (di b)) ((Nat.le_total _ _).elim (λ a=>J [_,_,_,_,_] 0x7410002990009cc029001 L (d2 _ _) (di a)) λ a=>J [_,_,_] 0x298800004609481 L h (aL (vZ a)))
theorem U1{n x o i:Nat}(a:o<=n)(b:n<=x+o)(h:x<=i)(c:i<n):n-o+(x+o-n+(i-x))=i:=cB (J [_,_,_,_,_,_,_] 0x524e02000a424012a0063802629001 L (di a) (di b) (di h)) (J [_,_,_,_,_,_,_] 0x520050240750121220063802628081 L (d2 _ _) (d2 _ _) (d2 _ _))
theorem U3{j:Shared}{b:FuncData}{ai:List Value}{names:List Str}{oZ:Option (Array Value)}(C:b.params.posonlyargs=[])(I:b.params.args.map (·.arg)=names)(ag:b.params.kwonlyargs=[])(h:b.params.vararg=none)(k:b.params.kwarg=none)
  (l:∀(bh:Model)(aA:Around)(aR:Value->Shared->Prop)(A:Option (Array Value)->Shared->Prop),A oZ j->wpAny bh aA (seqItems? b.defaults) A aR j) (Y:names.Nodup) {fI:List Value} (t:(oZ.getD #[]).toList=fI) (o:ai.length<=names.length) (g:fI.length<=names.length) (e:names.length<=ai.length+fI.length):
  BindsTo j b ⟨ai,[]⟩ (names.zip (ai++fI.drop (ai.length+fI.length-names.length))):=by
 intro bh aA aR A u
 have v:List.filter (λ n=>(List.lookup n (names.zip ai)).isNone) (names.take (names.length-fI.length))=[]:=by
  rw[List.filter_eq_nil_iff]
  intro n w
  refine a7 (List.mem_iff_getElem?.mp w) λ i c=>bc (qr (List.getElem?_take.symm.trans c)) λ y c=>?_
  rw[zC Y c,hK (d7 y (Nat.sub_le_of_le_add e))]
  exact Bool.false_ne_true
 have V:=Wq (ns:=names) (f:=λ n=>(names.zip ai++((names.drop _).zip fI).filter _).lookup n) (B:=ai++fI.drop _) (by rw[bR,jn];exact U2 o g e) λ i n c=>by
  rw[Jl,zC Y c]
  by_cases q:i<ai.length
  ·rw[List.getElem?_append_left q,hK q];rfl
  ·have q:=cI q
   rw[oP q,yu q,so,Zs (s:=λ m=>(List.lookup m _).isNone) (by rw[zC Y c,oP q];rfl)]
   exact zC (Y.sublist (List.drop_sublist _ _)) (by rw[so,U1 g e q (ix.mp c).1];exact c)
 obtain⟨E,F,s,G,H,J,K⟩:=b
 obtain⟨bG,d,L,M,N,O⟩:=s
 dsimp only at C I ag h k l
 clear e;subst C I ag h k
 unfold bindArgs
 dsimp only[List.map,List.nil_append]
 have p:(oZ.getD #[]).toList.drop ((oZ.getD #[]).toList.length-(d.map (·.arg)).length)=fI:=by rw[t,vZ g,mU]
 refine bZ (dN (bZ (l _ _ _ _ (nG (h8 ?_) (nG (h8 ?_) (bZ (wpAny_of_eq (a:=(d.map (·.arg)).zip ai++(((d.map (·.arg)).drop ((d.map (·.arg)).length-fI.length)).zip fI).filter λ s=>(((d.map (·.arg)).zip ai).lookup s.1).isNone) ?_ (bZ (dN (nG rfl (dN ?_)))))))))))
 ·rw[ml,decide_eq_true_eq];exact λ D=>lI.mpr o D.1
 ·rw[p,v];exact Bool.false_ne_true
 ·exact rwr p (Wn _ (λ x r=>rfl) _ _ _ (Y.sublist (List.drop_sublist _ _)))
 ·rw[gS]
  exact rwl V u
end
noncomputable def km(w:World)(j:Shared):c5:=⟨λ k=>(iS.lookup k).getD 0,λ c=>(kd.lookup c).getD 0,hO,w,j.heap,j.gens,j.os,λ c=>(kd.lookup c).isSome=true⟩
def Seen(w:World)(h:Heap):Prop:=∃g:Addr->Option Obj,u7 g=w2 w/\∀a p,g a=some p->h.get? a=some p
set_option tactic.hygienic true in
theorem B5{g:Addr->Option Obj}{a:Addr}{p:Obj}:∀{l:List Nat},(l.filterMap λ a=>(g a).map λ p=>(a,p)).lookup a=some p->g a=some p
 |[],h=>bF h
 |b::l,h=>by
  rw[List.filterMap_cons] at h
  rcases d:g b with _|_
  case none=>rw[d] at h;exact B5 h
  case some x=>
   rw[d] at h
   have h:((b,x)::l.filterMap _).lookup a=some p:=h
   rw[k2] at h
   rcases q:a==b with _|_
   case true=>rw[q] at h;obtain rfl:=ck h;exact rwl (eq_of_beq q) d
   case false=>rw[q] at h;exact B5 h
noncomputable def KH:Option Stmt->Bool
 |some (.FunctionDef _ args _ _ _ _ sc _ _ _)=>px sc&&sc.names.all (λ s=>s.2 !=.free)&&args.posonlyargs.isEmpty&&args.kwonlyargs.isEmpty&&args.vararg.isNone&&args.kwarg.isNone&&decide (args.args.map (·.arg)).Nodup&&
  args.args.all λ s=>sc.names.lookup s.arg==some .local||sc.names.lookup s.arg==some .cell
 |_=>false
theorem acu:iS.all (λ s=>KH (xA s.1))=true:=by kernel_rfl
theorem codeRec_of{g:Addr->Option Obj}{h:Heap}(sub:∀a p,g a=some p->h.get? a=some p){b:Value}{q:Str}(d:GD g b q=true):h.CodeRec b q:=by
 refine a' (gk.mp (eq_of_beq (show(_==some q)=true from d))) λ c C e=>?_
 obtain rfl:=Lq C
 refine Wl e λ l o B a9 f i=>?_
 refine a' (gk.mp i) λ v j k=>?_
 obtain⟨t,rfl⟩:=ae4 k
 exact hZ c _ B t ⟨rfl,sub _ _ f,rfl,j⟩
set_option tactic.hygienic true in
theorem IP{T:c5}{W:bf}:∀{B:List Value}{l:List Int},wR B=l->B.length=l.length->bK T W (l.map .int) B
 |[],[],_,_=>trivial
 |[],_::_,_,h=>nomatch h
 |v::B,l,d,h=>by
  rcases v with _|_
  case int i t=>
   have d:i::wR B=l:=d
   subst d
   exact⟨⟨t,rfl⟩,IP rfl (by simpa using h)⟩
  all_goals
   subst d
   cases h
theorem WE{w:World}{j:Shared}{g:Addr->Option Obj}(sub:∀a p,g a=some p->j.heap.get? a=some p)(d:(iS.map λ s=>Hm g s.2)=iS.map λ s=>B3 s.1):∀k o,cp.fn k=some o->∃e,Fn (km w j) o ((km w j).jr k) e:=by
 intro k o c
 have c:(iS.lookup k).bind (λ z=>(xA k).bind (Et (if k=1460 then[.int 64,.int 50,.int 1000000,.int 100000,.int 10000] else[])))=some o:=c
 refine a' (gk.mp c) λ a m c=>?_
 refine a' (gk.mp c) λ st n c=>?_
 have r:(k,a)∈iS:=by
  have:=List.lookup_eq_some_iff.mp m
  refine fC this λ aX bS d z=>?_;clear this
  rw[d];simp
 have b:=uk.mp d _ r
 have f:=k0.mp acu _ r
 dsimp only at b f
 rw[n] at f
 unfold B3 at b
 rw[n] at b
 obtain⟨name,args,body,_,_,_,sc,_,_,_,T,U⟩:=acL c
 ·subst T U
  simp only[KH,ml,k0,decide_eq_true_eq,List.isEmpty_iff,Option.isNone_iff_eq_none] at f
  refine bc f λ G V=>?_;clear f;refine bc G λ H X=>?_;clear G;refine bc H λ K Y=>?_;clear H;refine bc K λ M Z=>?_;clear K;refine bc M λ N Bo=>?_;clear M;refine bc N λ O v8=>?_;clear N;refine bc O λ ea en=>?_;clear O
  refine WU b λ cls yR e a9 bQ b=>?_
  ·simp only[Option.some.injEq,nM] at b
   refine LC b λ aX bS dv fy i' h s' l=>?_;clear b
   refine⟨e,?_⟩
   have P:(km w j).jr k=a:=by show(iS.lookup k).getD 0=a;rw[m];rfl
   rw[P]
   refine⟨⟨_,sub _ _ bQ,rfl⟩,aX,bS,ea,dv,fy,vX.mp i',codeRec_of sub s',λ x af=>?_,λ s Q=>?_,λ W u B ai base l2 R C I=>?_⟩
   ·have:=en _ (PySem.mem_of_lookup af)
    simp at this
   ·refine a' (nL.mp Q) λ q mw ey=>?_;clear Q;subst ey
    have:=V q mw
    simpa using this
   ·have v:=R.length
    have go:∀{oZ:Option (Array Value)}{fI:List Value}{i:List E},(∀(bh:Model)(aA:Around)(aR:Value->Shared->Prop)(A:Option (Array Value)->Shared->Prop),A oZ u->wpAny bh aA (seqItems? e.defaults) A aR u)->(oZ.getD #[]).toList=fI->bK (km w j) W i fI->B.length<=(args.args.map (·.arg)).length->
      i.length<=(args.args.map (·.arg)).length->(ou (args.args.map (·.arg)).length B i).length=(args.args.map (·.arg)).length->∃dr,bK (km w j) W (ou (args.args.map (·.arg)).length B i) dr/\BindsTo u e ⟨ai,[]⟩ ((args.args.map (·.arg)).zip dr):=by
     intro oZ fI i cV dH S o4 W_ y
     have D:=S.length
     refine⟨ai++fI.drop (ai.length+fI.length-(args.args.map (·.arg)).length),?_,?_⟩
     ·unfold ou
      rw[<-v,<-D]
      exact R.append (S.drop _)
     ·refine U3 (by rw[h];exact v8) (by rw[h]) (by rw[h];exact Bo) (by rw[h];exact Z) (by rw[h];exact Y) cV X dH (by rw[<-v];exact o4) (by rw[<-D];exact W_) ?_
      unfold ou at y
      rw[bR,jn] at y
      rw[<-v,<-D];exact J [_,_,_,_] 0x7280803982628081 L (aL y.symm) (hq _ _)
    by_cases F:k=1460
    ·clear m r b c P;subst F
     rw[aU rfl] at l
     refine VJ l λ t z z items z z cZ Yj a0 bL=>?_
     have Cn:5<=(args.args.map (·.arg)).length:=by
      have I:(ou (args.args.map (·.arg)).length B [.int 64,.int 50,.int 1000000,.int 100000,.int 10000]).length=_:=I
      have ag:(match xA 1460 with|some (.FunctionDef _ args _ _ _ _ _ _ _ _)=>decide (5<=(args.args.map (·.arg)).length)|_=>false)=true:=by kernel_rfl
      rw[n] at ag
      exact gg ag
     exact go (oZ:=some items) (fI:=items.toList) (λ bh aA aR A q=>by rw[cZ];exact wpAny_seqItems (l2 _ _ (sub _ _ Yj)) rfl q) rfl (IP bL (by rw[jl,a0];rfl)) C Cn I
    ·rw[a8 F] at l
     dsimp only at I⊢
     rw[a8 F] at I⊢
     exact go (oZ:=none) (fI:=[]) (λ bh aA aR A q=>by rw[VI l];exact bZ (dN (dN q))) rfl trivial C (de _) I
section
theorem gW{cg:Type}{l:List cg}{x:cg}(i:Nat)(h:l[i]?=some x):x∈l:=j_ h
section
variable{w:World}{j:Shared}{g:Addr->Option Obj}
theorem wa{K:Frag}{c a:Nat}{d:List (String×Nat)}(h:yL K a d=yK d)(i:(kd.lookup c).getD 0=a)(l:∀k,Aj c=some k->("__init__",k)∈d)(n:∀m k,Ak c m=some k->∃x,(x,k)∈d/\m=Str.ofString x/\pj m=false):AJ K (km w j) cp c:=by
 simp only[yL,yK,nM] at h
 refine LC h λ C I ag o p q r s=>?_;have b:(km w j).ca c=a:=i
 have g:=uk.mp s
 refine⟨by exact rwl b C,by exact rwl b I,by exact rwl b ag,by exact rwl b o,by exact rwl b p,?_,λ x f=>?_,λ k e=>?_,λ m k e=>?_⟩
 ·exact rwl b (gD.mp q)
 ·rw[b]
  refine a' (nL.mp (List.contains_iff_mem.mp f)) λ H b_ t=>?_;subst t
  exact uk.mp r H b_
 ·have:=g _ (l k e)
  simp only[nM] at this
  exact rwl b this
 ·refine fB (n m k e) λ x f u v=>?_;clear e;subst u
  have:=g _ f
  simp only[nM] at this
  exact rwl b (⟨this.1,this.2,v⟩)
theorem Vq{K:Frag}(d:(yM.map λ s=>yL K s.1 s.2)=yM.map λ s=>yK s.2):∀c,(km w j).cls c->AJ K (km w j) cp c:=by
 intro c l
 have e:=uk.mp d
 refine a7 (Option.isSome_iff_exists.mp (show(kd.lookup c).isSome=true from l)) λ a n=>?_
 refine fC (List.lookup_eq_some_iff.mp n) λ aX bS o z=>?_
 have g:(c,a)∈kd:=by rw[o];simp
 have two:∀{c:Nat}{x H:String}{i y:Nat},(∀m k,Ak c m=some k->(m==Str.ofString x)=true/\k=i\/(m==Str.ofString H)=true/\k=y)->pj (Str.ofString x)=false->pj (Str.ofString H)=false->∀{f:List (String×Nat)},(x,i)∈f->(H,y)∈f->
   ∀m k,Ak c m=some k->∃x,(x,k)∈f/\m=Str.ofString x/\pj m=false:=by
  intro c x H i y h C I f p r m k b
  rcases h m k b with⟨d,rfl⟩|⟨d,rfl⟩
  ·exact⟨x,p,eq_of_beq d,by rw[eq_of_beq d];exact C⟩
  ·exact⟨H,r,eq_of_beq d,by rw[eq_of_beq d];exact I⟩
 have ifs:∀{s q:Bool}{i y k:Nat},(if s=true then some i else if q=true then some y else none)=some k->s=true/\k=i\/q=true/\k=y:=by
  intro s q i y k h
  rcases s with _|_
  case true=>obtain rfl:=ck h;exact .inl ⟨rfl,rfl⟩
  case false=>
   rcases q with _|_
   case true=>obtain rfl:=ck h;exact .inr ⟨rfl,rfl⟩
   case false=>cases h
 simp only[kd,ew,nM,List.not_mem_nil,or_false] at g
 rcases g with⟨rfl,rfl⟩|⟨rfl,rfl⟩|⟨rfl,rfl⟩|⟨rfl,rfl⟩|⟨rfl,rfl⟩
 ·exact wa (e (191,[("__init__",1170)]) (.head _)) rfl (λ k b=>by obtain rfl:=ck b;exact .head _) λ m k b=>by cases b
 ·exact wa (e (400,[("__init__",1460)]) (gW 1 rfl)) rfl (λ k b=>by obtain rfl:=ck b;exact .head _) λ m k b=>by cases b
 ·exact wa (e (422,[("__init__",1490)]) (gW 2 rfl)) rfl (λ k b=>by obtain rfl:=ck b;exact .head _) λ m k b=>by cases b
 ·exact wa (e (457,[("__init__",1500),("add",1501),("fresh",1502)]) (gW 3 rfl)) rfl (λ k b=>by obtain rfl:=ck b;exact .head _) (two (c:=50) (x:="add") (H:="fresh") (i:=1501) (y:=1502) (λ m k b=>ifs (show(if(m==iu)=true then some 1501 else if(m==qQ)=true then some 1502 else none)=some k from b)) (by kernel_rfl) (by kernel_rfl) (gW 1 rfl) (gW 2 rfl))
 ·exact wa (e (542,[("__init__",1640),("peek",1641),("skips",1642)]) (gW 4 rfl)) rfl (λ k b=>by obtain rfl:=ck b;exact .head _) (two (c:=64) (x:="peek") (H:="skips") (i:=1641) (y:=1642) (λ m k b=>ifs (show(if(m==mG)=true then some 1641 else if(m==hB)=true then some 1642 else none)=some k from b)) (by kernel_rfl) (by kernel_rfl) (gW 1 rfl) (gW 2 rfl))
set_option tactic.hygienic true
theorem oq{T:c5}{W:bf}(sub:∀a p,g a=some p->W.F a=some p){a:Nat}{B:List E}(h:rY g a=some (.type "tuple",true,0,B))(d:B.all (λ v=>match v with|.str _=>true|.int _=>true|.bool _=>true|_=>false)=true):RelV T W (.tup B) (.ref a):=by
 refine z7 h λ c o items n a9 e h=>?_
 ·simp only[Option.some.injEq,nM,Option.isNone_iff_eq_none] at h
  refine f5 h λ f j ag k=>?_;clear h;subst f;subst j;clear h;subst k
  have m:a9=#[]:=Array.eq_empty_of_size_eq_zero ag
  clear ag;subst m
  refine gw a items n ⟨rfl,sub _ _ e,?_⟩
  generalize items.toList=l at d
  induction l with
  |nil=>trivial
  |cons x l q=>
   rw[jG,List.all_cons,ml] at d
   refine⟨?_,q d.2⟩
   have C:=d.1
   clear d;rcases x with _|_
   case str x t=>exact⟨t,by rw[xB]⟩
   case int i t=>exact⟨t,rfl⟩
   case bool b=>rfl
   all_goals exact cy C
theorem abu{l:List Value}:∀{as:List Nat},l.map strip=as.map E.ref->l=as.map Value.ref:=by
 induction l with
 |nil=>intro as h;(rcases as with _|_;(case nil=>rfl);(case cons _ _=>cases h))
 |cons x l c=>
  intro as h
  rcases as with _|_
  case nil=>cases h
  case cons a as=>
   rw[jG,jG,List.cons.injEq] at h
   rw[c h.2]
   rcases x with _|_
   case ref b=>(injection h.1 with a0;subst a0);rfl
   all_goals exact nomatch h.1
set_option tactic.hygienic false
theorem Ji{T:c5}{W:bf}(sub:∀a p,g a=some p->W.F a=some p){a:Nat}{B:List E}{as:List Nat}(h:rY g a=some (.type "list",true,0,as.map E.ref))(V:bK T W B (as.map Value.ref)):RelV T W (.lst B) (.ref a):=by
 refine z7 h λ c o items n a9 b h=>?_
 ·simp only[Option.some.injEq,nM,Option.isNone_iff_eq_none] at h
  refine f5 h λ d e ag f=>?_;clear h;subst d;subst e
  have i:a9=#[]:=Array.eq_empty_of_size_eq_zero ag
  clear ag;subst i
  exact gw a items n ⟨rfl,sub _ _ b,by rw[abu f];exact V⟩
set_option tactic.hygienic true in
theorem JZ{T:c5}:∀{a:List DictEntry}{l:List (Int×List Nat×Value)},(a.map λ d=>(d.hash,strip d.key,d.val))=l.map (λ s=>(s.1,E.str s.2.1,s.2.2))->(∀s∈l,s.1=hashStr T.w (strOf s.2.1))->Pairs T.knd a (l.map λ s=>(strOf s.2.1,s.2.2))/\∀d∈a,∃k,T.knd.is k d.key=true/\d.hash=T.knd.hash k
 |[],[],_,_=>⟨.nil,λ z h=>nomatch h⟩
 |[],_::_,h,_=>nomatch h
 |_::_,[],h,_=>nomatch h
 |d::a,(i,k,v)::l,h,fa=>by
  rw[jG,jG,List.cons.injEq,nM,nM] at h
  refine bc h λ c g=>?_;clear h;refine e_ c λ C I ag=>?_;clear c
  refine bc (JZ g λ s j=>fa s (gT _ j)) λ s q=>?_
  have e:T.knd.is (strOf k) d.key=true:=by
   rcases f:d.key with _|_
   case str x t=>
    rw[f] at I
    have:k4 x=k:=by cases I;rfl
    rw[<-this]
    exact eC _
   all_goals rw[f] at I;cases I
  refine⟨.cons e ag s,λ m b=>?_⟩
  rcases ew.mp b with rfl|b
  ·exact⟨strOf k,e,C.trans (fa _ f9)⟩
  ·exact q _ b
theorem VR{T:c5}{W:bf}(sub:∀a p,g a=some p->W.F a=some p){a:Nat}{az:List (List Nat)}{B:List E}{l:List (Int×List Nat×Value)}(h:BB g a=some (.type "dict",true,0,l.map λ s=>(s.1,E.str s.2.1,s.2.2)))(fa:∀s∈l,s.1=hashStr T.w (strOf s.2.1))
  (e:l.map (·.2.1)=az) (Y:az.Nodup) (f:(a==sysModules)=false) (V:bK T W B (l.map (·.2.2))):RelV T W (.dct az B) (.ref a):=by
 refine BE h λ c o i n a9 j h=>?_
 ·simp only[Option.some.injEq,nM,Option.isNone_iff_eq_none] at h
  refine f5 h λ k m ag r=>?_;clear h;subst k;subst m
  have t:a9=#[]:=Array.eq_empty_of_size_eq_zero ag
  clear ag;subst t
  refine bc (JZ (T:=T) r fa) λ s q=>?_
  refine gw a _ (l.map λ s=>(strOf s.2.1,s.2.2)) ⟨rfl,f,sub _ _ j,(cu i n ⟨⟨rfl,rfl,rfl⟩,rfl,λ d u=>q d (Array.mem_toList_iff.mpr u),s,?_⟩),?_,?_⟩
  ·rw[List.map_map,show((λ x:Str×Value=>x.1)∘λ s:Int×List Nat×Value=>(strOf s.2.1,s.2.2))=strOf∘(·.2.1) from rfl,<-List.map_map,e]
   exact List.Pairwise.map strOf (λ a b h d=>h (vu d)) Y
  ·rw[List.map_map,show((λ x:Str×Value=>x.1)∘λ s:Int×List Nat×Value=>(strOf s.2.1,s.2.2))=strOf∘(·.2.1) from rfl,<-List.map_map,e]
  ·rw[List.map_map];exact V
end
end
section
noncomputable def IS(x:Str):E->Bool
 |.str j=>j==k4 x
 |_=>false
noncomputable def w4(a:List (E×E))(x:Str):Option E:=(a.find? λ s=>IS x s.1).map (·.2)
theorem Vs(x H:Str):(k4 H==k4 x)=(H==x):=by
 by_cases h:H=x
 ·subst h;rw[eC,eC]
 ·rw[fH.mpr h,fH.mpr λ d=>h (by rw[<-xB H,<-xB x,d])]
set_option tactic.hygienic true in
theorem YD(x:Str)(k:Value):IS x (strip k)=k.isStr x:=by
 rcases k with _|_
 case str H t=>exact Vs x H
 all_goals rfl
section
variable{w:World}{j:Shared}{g:Addr->Option Obj}{ik jS:Str->Option Value}
theorem JH{h:Heap}{a:Addr}{m:Str->Option Value}{b:List (E×E)}(sub:∀a p,g a=some p->h.get? a=some p)(N:h.Ns a m)(d:nsLook g a=some b)(x:Str):(m x).map strip=w4 b x:=by
 refine BE d λ c o f n a9 e d=>?_
 ·obtain rfl:=ck d
  refine j3 N λ p i cf C I z ag=>?_;clear N
  rw[sub _ _ e] at C
  obtain rfl:=ck C
  (injection I with a0 bL;subst a0 bL)
  rw[<-ag x]
  unfold nsFind findBy w4
  rw[<-Array.find?_toList,List.find?_map]
  simp only[Option.map_map,Function.comp_def,YD]
theorem U5{h:Heap}{m:Str->Option Value}(sub:∀a p,g a=some p->h.get? a=some p)(N:h.Ns builtinsNs m){x:Str}{v:Value}(d:Bh g x=some v):m x=some v:=by
 refine BE d λ c o e n a9 b d=>?_
 ·refine j3 N λ p f cf C I z ag=>?_;clear N
  rw[sub _ _ b] at C
  obtain rfl:=ck C
  (injection I with a0 bL;subst a0 bL)
  rw[<-ag x];exact d
noncomputable def A3:E->Option Nat
 |.ref a=>some a
 |_=>none
theorem FV{v:E}{a:Nat}(h:A3 v=some a):v=.ref a:=by
 rcases v with _|_<;>first|exact bF h|exact bA E.ref (dd h)
theorem Xo:defNames.all (λ s=>(w4 xb (Str.ofString s.1)).bind A3==some ((iS.lookup s.2).getD 0))=true:=by kernel_rfl
theorem Xn:GB.all (λ s=>(w4 xb (Str.ofString s.1)).bind A3==some ((kd.lookup s.2).getD 0))=true:=by kernel_rfl
def t9(T:c5)(ik jS:Str->Option Value)(x:Str)(v:E):Prop:=
 (∃H,ik x=some H/\∀W:bf,(∀a p,T.h₀.get? a=some p->W.F a=some p)->RelV T W v H)\/(ik x=none/\∃H,jS x=some H/\∀W:bf,RelV T W v H)
set_option tactic.hygienic true
theorem uK{T:c5}{x:Str}{l:List Nat}(h:(ik x).map strip=some (.str l)):t9 T ik jS x (.str l):=by
 refine a' (gD.mp h) λ H d h=>?_
 rcases H with _|_
 case str D t=>(injection h with a0;subst a0);exact .inl ⟨_,d,λ z z=>⟨t,by rw[xB]⟩⟩
 all_goals cases h
theorem Cb{T:c5}{x:Str}{i:Int}(h:(ik x).map strip=some (.int i)):t9 T ik jS x (.int i):=by
 refine a' (gD.mp h) λ H d h=>?_
 rcases H with _|_
 case int D t=>(injection h with a0;subst a0);exact .inl ⟨_,d,λ z z=>⟨t,rfl⟩⟩
 all_goals cases h
set_option tactic.hygienic false
theorem uJ{T:c5}{x:Str}{a:Nat}{v:E}(h:(ik x).map strip=some (.ref a))(r:∀W:bf,(∀a p,T.h₀.get? a=some p->W.F a=some p)->RelV T W v (.ref a)):t9 T ik jS x v:=by
 refine a' (gD.mp h) λ H d h=>?_
 rcases H with _|_
 case ref b=>(injection h with a0;clear b;subst a0);exact .inl ⟨_,d,r⟩
 all_goals cases h
theorem qd{T:c5}{x:Str}{H:Value}{v:E}(h:(ik x).map strip=none)(a:jS x=some H)(r:∀W:bf,RelV T W v H):t9 T ik jS x v:=
 .inr ⟨Option.map_eq_none_iff.mp h,H,a,r⟩
theorem Xp(sub:∀a p,g a=some p->j.heap.get? a=some p)(k:j.heap.Ns mainGlobals ik)(m:j.heap.Ns builtinsNs jS)(n:nsLook g mainGlobals=some xb)(o:v7.map (λ s=>Bh g (Str.ofString s.1))=v7.map λ s=>some s.2)
  (q:(Am.map λ s=>rY g s.1)=Am.map λ s=>some (.type "tuple",true,0,s.2)) (r:rY g 699=some (.type "list",true,0,[.ref 695,.ref 696,.ref 697,.ref 698])) (t:rY g 703=some (.type "list",true,0,[.ref 700,.ref 701,.ref 702]))
  (u:BB g 627=some (.type "dict",true,0,[(hashStr w (strOf [42]),.str [42],.ref 628),(hashStr w (strOf [43]),.str [43],.ref 629),(hashStr w (strOf [63]),.str [63],.ref 630)])):
  ∀x v,cp.glob x=some v->t9 (km w j) ik jS x v:=by
 have look:=JH sub k n
 have blt:∀s∈v7,jS (Str.ofString s.1)=some s.2:=λ s f=>U5 sub m (uk.mp o s f)
 have tup:=uk.mp q
 have c:∀{W:bf},(∀a p,(km w j).h₀.get? a=some p->W.F a=some p)->∀a p,g a=some p->W.F a=some p:=λ b a p d=>b a p (sub a p d)
 intro x v i
 have i:EC.lookup x=some v:=i
 have e:=PySem.mem_of_lookup i
 unfold EC at e
 rcases fv.mp e with e|e
 ·rcases fv.mp e with e|e
  ·refine a' (nL.mp e) λ s f d=>?_
   (injection d with a0 bL;subst a0 bL)
   have h:=k0.mp Xo s f
   obtain⟨v,i,h⟩:=gk.mp (eq_of_beq h)
   obtain rfl:=FV h
   exact uJ ((look _).trans i) λ W z=>rfl
  ·refine a' (nL.mp e) λ s f d=>?_
   (injection d with a0 bL;subst a0 bL)
   have h:=k0.mp Xn s f
   obtain⟨v,i,h⟩:=gk.mp (eq_of_beq h)
   obtain rfl:=FV h
   exact uJ ((look _).trans i) λ W z=>rfl
 ·refine a' (nL.mp e) λ s f d=>?_
  (injection d with a0 bL;clear i e;subst a0 bL)
  have all:∀s∈constNames,t9 (km w j) ik jS (Str.ofString s.1) s.2:=by
   unfold constNames
   simp only[List.forall_mem_cons,List.not_mem_nil,false_implies,implies_true,and_true]
   refine⟨uK ((look _).trans (by kernel_rfl)),uJ (a:=405) ((look _).trans (by kernel_rfl)) λ W b=>oq (c b) (tup (405,_) (.head _)) (by kernel_rfl),uK ((look _).trans (by kernel_rfl)),uK ((look _).trans (by kernel_rfl)),uK ((look _).trans (by kernel_rfl)),Cb ((look _).trans (by kernel_rfl)),uK ((look _).trans (by kernel_rfl)),Cb ((look _).trans (by kernel_rfl)),?_,uK ((look _).trans (by kernel_rfl)),Cb ((look _).trans (by kernel_rfl)),?_,?_,?_⟩
   ·refine uJ (a:=627) ((look _).trans (by kernel_rfl)) λ W b=>VR (c b) (l:=[(hashStr w (strOf [42]),[42],.ref 628),(hashStr w (strOf [43]),[43],.ref 629),(hashStr w (strOf [63]),[63],.ref 630)]) u (λ s f=>?_) rfl (by decide) rfl
     ⟨oq (c b) (tup (628,_) (gW 1 rfl)) (by kernel_rfl),oq (c b) (tup (629,_) (gW 2 rfl)) (by kernel_rfl),oq (c b) (tup (630,_) (gW 3 rfl)) (by kernel_rfl),trivial⟩
    simp only[ew,List.not_mem_nil,or_false] at f
    rcases f with rfl|rfl|rfl<;>rfl
   ·exact uJ (a:=699) ((look _).trans (by kernel_rfl)) λ W b=>Ji (c b) (as:=[695,696,697,698]) r ⟨oq (c b) (tup (695,_) (gW 4 rfl)) (by kernel_rfl),oq (c b) (tup (696,_) (gW 5 rfl)) (by kernel_rfl),oq (c b) (tup (697,_) (gW 6 rfl)) (by kernel_rfl),oq (c b) (tup (698,_) (gW 7 rfl)) (by kernel_rfl),trivial⟩
   ·exact uJ (a:=703) ((look _).trans (by kernel_rfl)) λ W b=>Ji (c b) (as:=[700,701,702]) t ⟨oq (c b) (tup (700,_) (gW 8 rfl)) (by kernel_rfl),oq (c b) (tup (701,_) (gW 9 rfl)) (by kernel_rfl),oq (c b) (tup (702,_) (gW 10 rfl)) (by kernel_rfl),trivial⟩
   ·exact⟨qd ((look _).trans (by kernel_rfl)) (blt _ (.head _)) λ W=>⟨rfl,by kernel_rfl⟩,qd ((look _).trans (by kernel_rfl)) (blt _ (gW 1 rfl)) λ W=>⟨rfl,by kernel_rfl⟩,qd ((look _).trans (by kernel_rfl)) (blt _ (gW 2 rfl)) λ W=>⟨rfl,by kernel_rfl⟩,qd ((look _).trans (by kernel_rfl)) (blt _ (gW 3 rfl)) λ W=>⟨rfl,by kernel_rfl⟩,qd ((look _).trans (by kernel_rfl)) (blt _ (gW 4 rfl)) λ W=>⟨rfl,by kernel_rfl⟩,qd ((look _).trans (by kernel_rfl)) (blt _ (gW 5 rfl)) λ W=>⟨rfl,by kernel_rfl⟩,qd ((look _).trans (by kernel_rfl)) (blt _ (gW 6 rfl)) λ W=>rfl,qd ((look _).trans (by kernel_rfl)) (blt _ (gW 7 rfl)) λ W=>rfl,qd ((look _).trans (by kernel_rfl)) (blt _ (gW 8 rfl)) λ W=>rfl⟩
  exact all s f
set_option tactic.hygienic true in
theorem acz(kx:Seen w j.heap)(f:j.heap.Ns mainGlobals ik)(m:j.heap.Ns builtinsNs jS)(y:j.heap.NoLimit):∃K:Frag,St (km w j) K cp/\(∀k o,cp.fn k=some o->keepIn K (.ref ((km w j).jr k))=true)/\(∀c k,cp.init c=some k->keepIn K (.ref ((km w j).ca c))=true)/\ik xF=some (.ref 886):=by
 refine a' kx λ g d sub=>?_;clear kx
 unfold u7 w2 at d
 simp only[nM] at d
 refine xT d λ n r t en A=>?_;clear d;refine e_ n λ B C u=>?_;clear n;refine f5 r λ fP gs D E=>?_;clear r
 have i:∀c k,cp.init c=some k->(c,(kd.lookup c).getD 0)∈kd:=by
  intro c k h
  have h:(if c=17\/c=46\/c=49\/c=50\/c=64 then some (1000+10*c) else none)=some k:=h
  split at h
  ·rename_i q
   rcases q with rfl|rfl|rfl|rfl|rfl
   ·exact .head _
   ·exact .tail _ (.head _)
   ·exact .tail _ (gW 1 rfl)
   ·exact .tail _ (gW 2 rfl)
   ·exact .tail _ (gW 3 rfl)
  ·cases h
 have v:∀s,s∈iS\/s∈kd->keepIn (fragOf g) (.ref s.2)=true:=by
  have e:(iS.map (λ s=>keepIn (fragOf g) (.ref s.2))++kd.map λ s=>keepIn (fragOf g) (.ref s.2))=(iS++kd).map λ s=>keepIn (fragOf g) (.ref s.2):=(e8 ..).symm
  rw[e,(e8 ..).symm] at u
  intro s F
  exact uk.mp u s (fv.mpr F)
 refine a7 (Option.isSome_iff_exists.mp A) λ p G=>?_
 refine⟨fragOf g,⟨⟨p,sub _ _ G⟩,λ a p d=>sub a p (B5 d),y,(cu ik jS ⟨f,m,Xp sub f m t en fP gs D E⟩),Vq C,λ c k h=>?_,WE sub B⟩,λ k o l=>?_,λ c k h=>v _ (.inr (i c k h)),?_⟩
 ·refine EU (List.append_of_mem (i c k h)) λ aX bS e=>?_
  show(kd.lookup c).isSome=true
  rcases q:kd.lookup c with _|_
  case some a=>rfl
  case none=>
   have:=List.lookup_eq_none_iff.mp q _ (i c k h)
   simp at this
 ·have l:(iS.lookup k).bind _=some o:=l
  refine a' (gk.mp l) λ a x I=>?_;clear I
  have:(km w j).jr k=a:=by show(iS.lookup k).getD 0=a;rw[x];rfl
  rw[this]
  refine fC (List.lookup_eq_some_iff.mp x) λ aX bS e z=>?_
  exact v (k,a) (.inl (by rw[e];simp))
 ·refine a' (gD.mp ((JH sub f t xF).trans (show w4 xb xF=some (.ref 886) by kernel_rfl))) λ H d h=>?_
  rcases H with _|_
  case ref b=>(injection h with a0;subst a0);exact d
  all_goals cases h
end
end
theorem XO(w:World):∀os:OsState,(vC w os).map (λ j=>Jk w j.abs)=some (true,openGood rV w5):=
 byRow2 "special-get-raises" (P:=λ w=>∀os:OsState,(vC w os).map (λ j=>Jk w j.abs)=some (true,openGood rV w5)) (λ w os=>by kernel_rfl) (λ w os=>by kernel_rfl) w
theorem XQ(w:World):∀os:OsState,(vC w os).map (λ j=>u7 (yZ j.tree j.n))=some (w2 w):=
 byRow2 "special-get-raises" (P:=λ w=>∀os:OsState,(vC w os).map (λ j=>u7 (yZ j.tree j.n))=some (w2 w)) (λ w os=>by kernel_rfl) (λ w os=>by kernel_rfl) w
theorem aaJ:opening hO=plainProg hO.main.scope.names:=by kernel_rfl
theorem Wk(j:Shared):fenceModules? hO j=some j:=by kernel_rfl
theorem acb(w:World):((boot_heap w.params).isNs mainGlobals,(boot_heap w.params).objs.size,(boot_heap w.params).nsMap mainGlobals "__annotations__")=(true,11,some (.ref 6)):=by kernel_rfl
theorem left:LeftO hO rV w5 (λ z=>true) (λ j=>u7 j.heap.get?) w2 12000:=λ w=>by
 obtain⟨⟨h,O,o,k,os⟩,d,g⟩:=gD.mp (boot_open (N:=12000) aaJ rfl Wk w)
 obtain⟨rfl,rfl,rfl,rfl⟩:h=boot_heap w.params/\O=#[]/\o=boot_drawn/\k=boot_toks:=by simpa using g
 obtain⟨a0,bL,g8⟩:_/\_/\_:=by simpa only[nM] using acb w
 obtain⟨j,c,a⟩:=gD.mp (XO w os)
 obtain⟨l,e,b⟩:=gD.mp (XQ w os)
 rw[c] at e;cases e
 obtain⟨i,f⟩:=Prod.mk.inj a
 have r:=topRun_mono (12000-5660) _ _ _ _ (adv c)
 have t:topFrom treeTable hO w 12000 ⟨boot_heap w.params,#[],boot_drawn,boot_toks,os⟩=some j.abs:=by
  unfold topFrom
  dsimp only
  rw[a0,bL,g8,r,Ju]
  show(match staticsOk [] (boot_heap w.params) j.abs.heap&&namesBound hO j.abs.heap&&gensDone j.abs&&laidKept (boot_heap w.params) j.abs.heap with|true=>_|false=>_)=_
  rw[i]
 unfold openEnds
 rw[d]
 show(topFrom treeTable hO w 12000 _).map _=_
 rw[t,Ju]
 rw[<-PySem.W.Fast.te4187177175401517315] at f
 refine bA some (Prod.ext f ?_)
 show u7 (absHeap j.tree j.n j.life).get?=_
 rw[Xm]
 exact b
theorem Ze:Fast.tw11788848310118352699 hO.main=true:=by kernel_rfl
theorem Zf:R.filterR (Fast.tw13343964577679436407 hO hO.main.body) [⟨⟨[118,97,114,115]⟩⟩,⟨⟨[100,105,114]⟩⟩,⟨⟨[108,111,99,97,108,115]⟩⟩]=[]:=by kernel_rfl
theorem Zg:(Fast.tw17119622794617984870 hO hO.main.body λ z n=>Fast.tw17868728402115742887 n)=true:=by kernel_rfl
theorem Zh:(Fast.tw8326940854005059898 {strict:=!R.allR (Fast.tw5923862056798008813 hO.main.body) (Fast.tw3471404346716756564 Fast.tw17691160309236699985),foot:=none,bare:=[]} hO.main.body)=true:=by kernel_rfl
theorem Zi:looksOpen hO=true:=by
 rw[Fast.te12908688711261696721];delta Fast.tw12908688711261696721;dsimp only
 refine look_both (look_both (look_both (look_both (look_both Ze ?_) ?_) ?_) ?_) Zg
 ·kernel_rfl
 ·kernel_rfl
 ·kernel_rfl
 ·rw[Zf];exact Zh
theorem Zj:(PySem.Challenge.rw_nz0206_01.row).wellSaid=true:=by
 delta OpenRow.wellSaid OpenRow.partSaid
 repeat' (with_reducible refine look_both ?_ ?_)
 ·show looksOpen hO=true
  exact Zi
 all_goals kernel_rfl
theorem Zk:Fast.tw17960256430627541270 (Fast.tw2368527892694137696 PySem.Challenge.rw_nz0206_01)=true:=by rw[<-Fast.te17960256430627541270,<-Fast.te2368527892694137696];exact Zj
theorem Y3:PySem.Challenge.rw_nz0206_01.wellSaid=true:=by
 rw[Fast.te9446332074065402090];delta Fast.tw9446332074065402090;dsimp only
 repeat' (with_reducible refine look_both ?_ ?_)
 ·with_reducible exact Zk
 all_goals kernel_rfl
abbrev mE:OpenRow:=PySem.Challenge.rw_nz0206_01.row
noncomputable def qt:DefRec×List (Str×Expr):=match defOf rV xF with
 |some x=>x
 |none=>(⟨(Str.ofString ""),⟨[],[],none,[],[],none,[]⟩,[],default,default⟩,[])
theorem YW:defOf rV mE.name=some (qt.1,qt.2):=by kernel_rfl
theorem Y5:mE.prog.theDef mE.name=some (qt.1.params,qt.1.body,qt.1.scope):=by kernel_rfl
theorem YY:kwWritten? qt.1.params.kwonlyargs qt.1.params.kw_defaults=some qt.2:=by kernel_rfl
theorem Y0:(chainsOk rV&&opensWell mE.prog&&(frees mE.toRowW&&mE.within.isEmpty))=true:=by kernel_rfl
theorem Y6:(!mE.writes||mE.records.isEmpty)=true:=by kernel_rfl
theorem YV:mE.prog.bare:=⟨rfl,rfl,rfl,rfl,rfl,by kernel_rfl⟩
theorem Y1:mE.toRowW.promised:=⟨[.list []],by kernel_rfl,by kernel_rfl⟩
theorem YZ:qt.1.name=xF:=by kernel_rfl
theorem TA{R:WRecords}{P:Params}{h:Heap}{ai:List WData}:∀{B:List Value},WShape.hasItems R ai .int=true->WellAll P h B ai->∃l:List Int,ai=l.map .int/\∀(T:c5)(W:bf),bK T W (l.map .int) B:=by
 induction ai with
 |nil=>intro B c w;cases w;exact⟨[],rfl,λ z z=>trivial⟩
 |cons x ai d=>
  intro B c w
  have c:=sk.mp (show(WShape.has R x .int&&WShape.hasItems R ai .int)=true by simpa [WShape.hasItems] using c)
  obtain⟨i,rfl⟩:=hasW_int c.1
  cases w with
  |cons a b=>
   obtain⟨l,rfl,r⟩:=d c.2 b
   cases a with
   |int i t=>exact⟨i::l,rfl,λ T W=>⟨⟨t,rfl⟩,r T W⟩⟩
theorem Tz{P:Params}{h:Heap}{args:List WData}{b:List Value}(c:mE.toRowW.claim.pre args=true)(e:WellAll P h b args):
  ∃(l:List Int)(a:Addr)(B:List Value),l.length<=63/\b=[.ref a]/\h.get? a=some {cls:=.type "list",data:=.seq B.toArray}/\∀(T:c5)(W:bf),bK T W (l.map .int) B:=by
 obtain⟨C,I⟩:=pre_splitW c
 obtain⟨o,r,rfl,ag,f⟩:=hasAllW_cons (show WShape.hasAll [] args [.list .int]=true from C)
 obtain rfl:=hasAllW_nil f
 obtain⟨ai,rfl,g⟩:=hasW_list ag
 cases e with
 |cons iM mI=>
  cases mI
  cases iM with
  |list i j=>
   obtain⟨l,rfl,V⟩:=TA g j
   refine⟨l,_,_,?_,rfl,i,V⟩
   have I:(WTm.and (.not (.lt (.lit (.int (63:Nat))) (.len (.arg 0)))) (.lit (.bool true))).holds [] {args:=[WData.list (l.map .int)]}=true:=I
   by_cases q:l.length<=63
   ·exact q
   ·exfalso
    have q:(63:Int)<((l.map WData.int).length:Int):=by rw[cM];omega
    have d:less? (.int 63) (.int l.length)=some true:=by
     show some (decide ((63:Int)<l.length))=_
     rw[fi (by rw[cM] at q;exact q)]
    simp [WTm.holds,WTm.value,d] at I
theorem abH:AO callerA 100:=⟨rfl,by decide,by decide⟩
theorem agu(main:∀l:List Int,l.length<=63->Run cp 100 126 [.lst (l.map .int)] (λ v z=>v=.bool true) ⟨0,λ z=>none⟩):PySem.Challenge.rw_nz0206_01.Holds:=by
 refine holds_law Y3 λ t=>?_
 refine holds_open (r:=mE) (q:=rV) (loose:=w5) (Xt:=λ z=>true) (XP:=λ z z=>True) (YP:=λ w h=>Seen w h) (N:=12000) left (λ w j d=>⟨j.heap.get?,d,λ z z h=>h⟩) (λ w h L ⟨g,d,sub⟩ k=>⟨g,d,λ a p q=>k a p (sub a p q)⟩) (λ z z=>trivial) (λ z z z z z=>trivial)
  YW Y5 YY (λ j z=>recFacts_nil rfl) Y6 t Y0 YV Y1 ?_
 intro w i e ik jS G kx jr p O P R U V W m Y Z n u args ly as x ags agv y uW
 obtain⟨l,a,B,A,rfl,C,E⟩:=Tz x y
 obtain⟨K,S,F,H,I⟩:=acz (j:=e) kx G.T.g G.T.b G.T.nolimit
 rw[YZ,I] at n
 cases n
 have aw:=abQ S (λ k o m h X=>keeps_K (F k o m) h X) (λ c k J h X=>keeps_K (H c k J) h X) 100 callerA abH
 have Q:Inv (km w e) ⟨e.heap.get?,λ z=>none,λ z=>0,λ z=>0,0⟩ ⟨0,λ z=>none⟩ e:=
  ⟨λ z z d=>d,λ z z d=>(nomatch d),λ z z d=>(nomatch d),λ z z d=>d,rfl,λ z z d=>(nomatch d),λ z z d=>(nomatch d),λ z z d=>(nomatch d),λ z z z z d=>(nomatch d),rfl,rfl⟩
 refine wpAny_call (codeAny_mono ((aw 126 _ _ _ (main l A)).2 _ e [.ref a] (λ d s=>GoodWG mE.claim (classAt i.heap) (ExcName.means i.heap) args e (.error d) s) Q ⟨⟨a,B.toArray,0,rfl,C,by simpa using E _ _⟩,trivial⟩) λ r s D=>?_)
 rcases r with d|(_|_|_|v)
 ·exact D
 ·exact D.elim
 ·exact D.elim
 ·exact D.elim
 ·obtain⟨aO,r4,M,dV,f,eg,rfl⟩:=D
  have eg:v=.bool true:=eg
  subst eg
  refine⟨.inl ⟨.bool true,.bool true,[],rfl,λ z=>rfl,.bool true,?_,λ z=>⟨List.nodup_nil,λ z h=>nomatch h⟩⟩,.of_keep f.h₀,f.os,.of_eq (f.gens.trans u)⟩
  show(WShape.has [] (.bool true) .bool&&_)=true
  kernel_rfl
end
section
open PySem (Str Scope Stmt Expr Operator CmpOp BoolOp UnaryOp)
section
def item(p i:E)(k:bl)(e:U):Prop:=match n8 e p i with|some v=>k v e|none=>False
def eN(p:E)(l u:Option E)(k:bl)(e:U):Prop:=match pz e p l u with|some v=>k v e|none=>False
def aE(c:CmpOp)(a b:E)(k:Bool->U->Prop)(e:U):Prop:=match lM e c a b with|some r=>k r e|none=>False
def aW(r:Bool)(t f:U->Prop)(e:U):Prop:=match r with|true=>t e|false=>f e
def f_(a:BoolOp)(v:E)(k:bl)(bk:U->Prop)(e:U):Prop:=match a,v with
 |.And,.bool false=>k v e
 |.And,.bool true=>bk e
 |.Or,.bool true=>k v e
 |.Or,.bool false=>bk e
 |_,_=>False
def cv(a:BoolOp)(b:Bool)(k:Bool->U->Prop)(bk:U->Prop)(e:U):Prop:=match a,b with
 |.And,false=>k false e
 |.Or,true=>k true e
 |_,_=>bk e
def ek(v:E)(k:Bool->U->Prop)(e:U):Prop:=match v with|.bool b=>k b e|_=>False
def b0(p:E)(m:Str)(k:fp->U->Prop)(e:U):Prop:=match zF cp e p m with|some cP=>k cP e|none=>False
def dJ(B:List E)(k:bl)(e:U):Prop:=B.length<=c7/\k (.ref e.next) (e.alloc (.list B))
def b9(B:List E)(k:bl)(e:U):Prop:=B.length<=c7/\tupK B k e
def yT(az:List (List Nat))(B:List E)(k:bl)(e:U):Prop:=(az.length=0\/az.length=19)/\k (.ref e.next) (e.alloc (.dict az B))
def h'(v:E)(a:E->kv)(b:E->q8)(k:bl)(e:U):Prop:=match hx e v with
 |some items=>uv a b (hQ v items) items [] (λ B c=>k (.lst B) c) e
 |none=>False
def forM(v:E)(a:E->Loc->(Loc->U->Prop)->U->Prop)(body:Loc->ej->U->Prop)(ak:Loc)(K:ej)(e:U):Prop:=match hx e v with
 |some items=>o2 a body (hQ v items) items ak K e
 |none=>False
def kn(a:Loc->kv)(body:Loc->ej->U->Prop)(ak:Loc)(K:ej)(e:U):Prop:=∃m,tc a body m ak K e
def d0(f:bl->U->Prop)(k:bl):U->Prop:=f k
def eF(f:(Bool->U->Prop)->U->Prop)(k:Bool->U->Prop):U->Prop:=f k
noncomputable def fc(bk:Loc->ej->U->Prop)(K:ej):ej:=λ fl a M=>match fl with
 |.next=>bk a K M
 |fl=>K fl a M
noncomputable def eX(A:bl):ej:=λ fl z M=>match fl with
 |.ret v=>A v M
 |.next=>A .none M
 |_=>False
noncomputable def Ed(k:Nat):Scope:=match EB k with|some o=>o.scope|none=>⟨.function,[],false,false,[]⟩
noncomputable def Bi(k:Nat):List Stmt:=match EB k with|some o=>o.body|none=>[]
noncomputable def Yw:Stmt->Nat->List Stmt
 |.If _ b _ _,0=>b
 |.If _ _ p _,_=>p
 |.While _ b _ _,_=>b
 |.For _ _ b _ _,_=>b
 |_,_=>[]
noncomputable def yD:List Stmt->List (Nat×Nat)->List Stmt
 |b,[]=>b
 |b,(i,w)::r=>match b[i]? with
  |some j=>yD (Yw j w) r
  |none=>[]
noncomputable def bp(k:Nat)(s:List (Nat×Nat))(i:Nat)(R:dp):Loc->ej->U->Prop:=m1 (ex cp R (Ed k) (12-s.length)) ((yD (Bi k) s).drop i)
noncomputable def JF:Expr:=.Tuple [] 0 ⟨0,0,0,0⟩
noncomputable def d6(k:Nat)(s:List (Nat×Nat))(i:Nat)(R:dp):E->Loc->(Loc->U->Prop)->U->Prop:=p3 cp R (Ed k) (match(yD (Bi k) s)[i]? with
 |some (.For t _ _ _ _)=>t
 |some (.Assign [t] _ _)=>t
 |_=>JF)
noncomputable def hE(k:Nat)(s:List (Nat×Nat))(i:Nat)(R:dp)(ak:Loc):kv:=eh cp R 40 ⟨Ed k,ak,[]⟩ (match(yD (Bi k) s)[i]? with
 |some (.While t _ _ _)=>t
 |_=>JF)
end
end
section
open PySem (Str)
section
noncomputable def yH:E:=.tup [S "sign",S "any",S "set"]
noncomputable def Gn:E:=S "0123456789abcdef"
noncomputable def Gl:E:=S "dDwWsShHvV"
noncomputable def yG:E:=S "0123456789"
noncomputable def v9:E:=.dct [[42],[43],[63]] [.tup [.int 0,.int (-1)],.tup [.int 1,.int (-1)],.tup [.int 0,.int 1]]
noncomputable def v_:E:=S "imsx"
noncomputable def Gp:E:=.lst [.tup [S "(?=",.bool false,.bool false],.tup [S "(?!",.bool false,.bool true],.tup [S "(?<=",.bool true,.bool false],.tup [S "(?<!",.bool true,.bool true]]
noncomputable def Gs:E:=.lst [.tup [S "(?<",S ">"],.tup [S "(?P<",S ">"],.tup [S "(?'",S "'"]]
variable(n:Nat)(R:dp)(A:bl)(K:ej)(bz:Bool->U->Prop)(f g h:bl)(F G dB:Bool->U->Prop)(bh N:fp)(j:U)(s q:Bool)(k b3 cX fz kN agG agH agI agJ agK:Option E)(hj pG agW:U->Prop)(da dY:E->E->U->Prop)(hi jc:Option E->Option E->U->Prop)(iM mI:E->Option E->U->Prop)(a0 bL g8:Loc->ej->U->Prop)(a b c o d i y l m p r t u v w x H D aA aw aR Q bT c_ ku P S T mS W X kx Z:E)
def O5:=d0 (λ o=>aE .Eq a b λ d=>f_ .Or (.bool d) o (d0 (λ i=>f_ .And c i (R 9 [b] λ y=>aE .Eq a y λ l=>i (.bool l))) o)) A
theorem K':call (n+1) 10 [a,b,c] A j=O5 (call n) A a b c j:=by kernel_rfl
def QA:=a6 a h4 λ d=>item d b λ i=>b9 [(.str zQ),b,i] λ y=>bY R bh o [y] λ l=>a6 a h4 λ m=>gM m b c (A E.none)
def Qz:=a6 a iX λ o=>b0 o jw λ d=>QA R A d a b c o
theorem ad_:call (n+1) 18 [a,b,c] A j=Qz (call n) A a b c j:=by kernel_rfl
def QB:=a6 a g5 λ b=>eR .Add b (.int 1) λ c=>cL a g5 c (A (.bool true))
theorem ad':call (n+1) 19 [a] A j=QB A a j:=by kernel_rfl
def QD:=aE .GtE c o λ d=>cv .Or d F (a6 a e3 λ i=>a6 a b' λ y=>item i y λ l=>R 15 [b,l] λ m=>ek m λ p=>cv .Or (!p) F (F false))
def QC:=eF (λ c=>a6 a b' λ o=>a6 a e3 λ d=>cJ cp R (.bi .len) [d] λ i=>QD R c a b o i) λ y=>aW y (A (.bool false)) (a6 a b' λ l=>eR .Add l (.int 1) λ m=>cL a b' m (R 19 [a] A))
theorem aea:call (n+1) 20 [a,b] A j=QC (call n) A a b j:=by kernel_rfl
noncomputable def sd(a b c o d:Option E):Loc:=[(pB,a),((Str.ofString "test"),b),(b',c),(oh,o),((Str.ofString "stop"),d)]
def QF:=aE .Lt c (.int 0) λ o=>aW o (a6 a e3 λ d=>cJ cp R (.bi .len) [d] f) (a6 a e3 λ i=>cJ cp R (.bi .len) [i] λ y=>bu .Add b c λ l=>cJ cp R (.bi .min) [y,l] f)
def QE:=d0 (λ d=>QF R d a c o) λ i=>kn (hE 21 [] 1 R) (bp 21 [(1,0)] 0 R) (sd a b c o i) (fc (bp 21 [] 2 R) (eX A))
theorem aeb:call (n+1) 21 [a,b,c,o] A j=QE (call n) A a b c o j:=by kernel_rfl
def Na:=eR .Add c (.int 1) λ i=>K .next (sd a b i o d)
theorem T9:bp 21 [(1,0)] 0 R (sd a b c o d) K j=Na K a b c o d j:=by kernel_rfl
def Nb:=K (.ret c) (sd a b c o d)
theorem F5:bp 21 [] 2 R (sd a b c o d) K j=Nb K a b c o d j:=by kernel_rfl
def OU:=eF (λ i=>aE .Lt c d λ y=>cv .And y i (a6 a e3 λ l=>item l c λ m=>R 15 [b,m] λ p=>ek p λ r=>cv .And r i (i true))) bz
theorem adf:hE 21 [] 1 R (sd a b c o d) bz j=OU R bz a b c d j:=by kernel_rfl
noncomputable def ua(a b c o d i y l m:Option E):Loc:=[(pB,a),(g5,b),(vy,c),((Str.ofString "test"),o),(xG,d),(oh,i),((Str.ofString "is_lazy"),y),((Str.ofString "low"),l),((Str.ofString "end"),m)]
def QG:=d6 22 [] 0 R b (ua a b none none none none none none none) λ ak=>bp 22 [] 1 R ak (eX A)
theorem aec:call (n+1) 22 [a,b] A j=QG (call n) A a b j:=by kernel_rfl
def Nd:=d0 (λ y=>aE .Lt c (.int 0) λ l=>aW l (y (.int (-1))) (bu .Sub c b y)) λ m=>b9 [(.str zR),i,a,o,m] λ p=>bY R bh d [p] λ r=>hj
def Nf:=eF (λ l=>ek d λ m=>cv .And m l (aE .NotEq o c λ p=>cv .And p l (l true))) λ r=>aW r (a6 a iX λ t=>b0 t jw λ u=>a6 a g5 λ v=>Nd R u hj b c o y t v) (aE .Gt y i λ w=>aW w (a6 a iX λ x=>b0 x jw λ H=>a6 a g5 λ D=>b9 [(.str zS),D,i,y] λ aA=>bY R H x [aA] λ aw=>hj) hj)
def Ng:=cL a g5 p ((λ(r:U->Prop)=>Nf R r a o d i y l m) (cL a b' m (K (.ret (.bool true)) (ua a b c o d i y l m))))
def Nh:=aE .Lt m l λ p=>aW p (K (.ret (.bool false)) (ua a b c o d i y l m)) (a6 a g5 λ r=>eR .Add r (.int 1) λ t=>Ng R K a b c o d i y l m t)
def Ni:=a6 a b' λ m=>d0 (λ p=>ek y λ r=>aW r (p d) (p i)) λ t=>R 21 [a,o,m,t] λ u=>Nh R K a b c o d i y l u
def Nc:=a6 a b' λ l=>bu .Add l d λ m=>Ni R K a b c o d i y m
theorem T_:bp 22 [] 1 R (ua a b c o d i y none none) K j=Nc R K a b c o d i y j:=by kernel_rfl
def QI:=d0 (λ c=>cJ cp R (.bi .len) [b] λ o=>bu .Sub o (.int 1) λ d=>aE .Eq a d λ i=>f_ .And (.bool i) c (item b a λ y=>aE .Eq y (.str [10]) λ l=>c (.bool l))) f
def QJ:=d0 (λ c=>cJ cp R (.bi .len) [b] λ o=>aE .Lt a o λ d=>f_ .And (.bool d) c (bu .Sub a (.int 1) λ i=>item b i λ y=>aE .Eq y (.str [10]) λ l=>c (.bool l))) f
def QK:=d0 (λ d=>aE .Gt b (.int 0) λ i=>f_ .And (.bool i) d (bu .Sub b (.int 1) λ y=>item c y λ l=>R 7 [l] d)) λ m=>aE .NotEq o m λ p=>aE .Eq a (.str [98]) λ r=>aE .Eq (.bool p) (.bool r) λ t=>A (.bool t)
def QL:=aE .Eq b (.str [65]) λ d=>aW d (aE .Eq c (.int 0) λ i=>A (.bool i)) (aE .Eq b (.str [122]) λ y=>aW y (cJ cp R (.bi .len) [o] λ l=>aE .Eq c l λ m=>A (.bool m)) (aE .Eq b (.str [90]) λ p=>aW p (d0 (λ r=>cJ cp R (.bi .len) [o] λ t=>aE .Eq c t λ u=>f_ .Or (.bool u) r (QI R r c o)) A) (aE .Eq b (.str [94,109]) λ v=>aW v (d0 (λ w=>aE .Eq c (.int 0) λ x=>f_ .Or (.bool x) w (QJ R w c o)) A) (aE .Eq b (.str [36,109]) λ H=>aW H (d0 (λ D=>cJ cp R (.bi .len) [o] λ aA=>aE .Eq c aA λ aw=>f_ .Or (.bool aw) D (item o c λ aR=>aE .Eq aR (.str [10]) λ Q=>D (.bool Q))) A) (aE .Eq b (.str [71]) λ bT=>aW bT (a6 a Ac λ c_=>aE .Eq c c_ λ ku=>A (.bool ku)) (d0 (λ P=>cJ cp R (.bi .len) [o] λ S=>aE .Lt c S λ T=>f_ .And (.bool T) P (item o c λ mS=>R 7 [mS] P)) λ W=>QK R A b c o W))))))
def QH:=a6 a b' λ c=>a6 a e3 λ o=>QL R A a b c o
theorem aed:call (n+1) 23 [a,b] A j=QH (call n) A a b j:=by kernel_rfl
def QM:=d0 (λ c=>item b (.int 1) λ o=>R 23 [a,o] λ d=>f_ .And d c (R 19 [a] c)) A
theorem aee:call (n+1) 24 [a,b] A j=QM (call n) A a b j:=by kernel_rfl
noncomputable def iN(a b c o d i:Option E):Loc:=[(pB,a),(g5,b),((Str.ofString "n"),c),(Ac,o),((Str.ofString "end"),d),((Str.ofString "k"),i)]
def QN:=item b (.int 1) λ c=>forM c (d6 25 [] 0 R) (bp 25 [(0,0)] 0 R) (iN a b none none none none) (fc (bp 25 [] 1 R) (eX A))
theorem aef:call (n+1) 25 [a,b] A j=QN (call n) A a b j:=by kernel_rfl
def Nk:=aE .IsNot o E.none λ d=>aW d (a6 a g6 λ i=>item i c λ y=>d6 25 [(0,0),(0,0)] 0 R y (iN a b c k b3 cX) λ ak=>bp 25 [(0,0),(0,0)] 1 R ak (fc (bp 25 [(0,0)] 1 R) K)) (K .next (iN a b c k b3 cX))
def Nj:=a6 a g6 λ o=>item o c λ d=>Nk R K k b3 cX a b c d
theorem Ua:bp 25 [(0,0)] 0 R (iN a b c k b3 cX) K j=Nj R K k b3 cX a b c j:=by kernel_rfl
def Nu:=K (.ret (.bool false)) (iN a b k b3 cX fz)
theorem Ue:bp 25 [] 1 R (iN a b k b3 cX fz) K j=Nu K k b3 cX fz a b j:=by kernel_rfl
def Nm:=cJ cp R (.typ .range) [i] λ y=>forM y (d6 25 [(0,0),(0,0)] 2 R) (bp 25 [(0,0),(0,0),(2,0)] 0 R) (iN a b c o d k) (fc (bp 25 [(0,0),(0,0)] 3 R) K)
def Nn:=cJ cp R (.bi .len) [y] λ l=>aE .Gt i l λ m=>aW m (K (.ret (.bool false)) (iN a b c o d k)) (bu .Sub d o λ p=>Nm R K k a b c o d p)
def Nl:=a6 a b' λ i=>bu .Add i d λ y=>bu .Sub y o λ l=>a6 a e3 λ m=>Nn R K k a b c o d l m
theorem Ub:bp 25 [(0,0),(0,0)] 1 R (iN a b c o d k) K j=Nl R K k a b c o d j:=by kernel_rfl
def Nq:=R 10 [y,l,m] λ p=>ek p λ r=>aW (!r) (K (.ret (.bool false)) (iN a b c o d i)) (K .next (iN a b c o d i))
def Nr:=item y l λ m=>a6 a e3 λ p=>bu .Add o i λ r=>item p r λ t=>item b (.int 2) λ u=>Nq R K a b c o d i m t u
def Np:=a6 a e3 λ y=>a6 a b' λ l=>bu .Add l i λ m=>Nr R K a b c o d i y m
theorem Uc:bp 25 [(0,0),(0,0),(2,0)] 0 R (iN a b c o d i) K j=Np R K a b c o d i j:=by kernel_rfl
def Nt:=a6 a b' λ i=>bu .Sub d o λ y=>eR .Add i y λ l=>cL a b' l (R 19 [a] λ m=>K (.ret m) (iN a b c o d k))
theorem Ud:bp 25 [(0,0),(0,0)] 3 R (iN a b c o d k) K j=Nt R K k a b c o d j:=by kernel_rfl
def QO:=item b (.int 1) λ c=>a6 a b' λ o=>R 18 [a,c,o] λ d=>R 19 [a] A
theorem aeg:call (n+1) 26 [a,b] A j=QO (call n) A a b j:=by kernel_rfl
def QQ:=item c o λ d=>a6 a b' λ i=>b9 [d,i] λ y=>a6 a g6 λ l=>item b (.int 1) λ m=>gM l m y (R 19 [a] A)
def QR:=item d i λ y=>b9 [(.str jU),o,y] λ l=>bY R bh c [l] λ m=>a6 a h4 λ p=>item b (.int 2) λ r=>QQ R A a b p r
def QP:=a6 a iX λ c=>b0 c jw λ o=>item b (.int 1) λ d=>a6 a g6 λ i=>item b (.int 1) λ y=>QR R A o a b c d i y
theorem aeh:call (n+1) 27 [a,b] A j=QP (call n) A a b j:=by kernel_rfl
def QS:=item b (.int 1) λ c=>cL a g5 c (A (.bool true))
theorem aei:call (n+1) 28 [a,b] A j=QS A a b j:=by kernel_rfl
def QU:=item b (.int 2) λ o=>a6 a b' λ d=>b9 [(.str xc),o,d] λ i=>bY R bh c [i] λ y=>item b (.int 1) λ l=>cL a g5 l (A (.bool true))
def QT:=a6 a iX λ c=>b0 c jw λ o=>QU R A o a b c
theorem aej:call (n+1) 29 [a,b] A j=QT (call n) A a b j:=by kernel_rfl
def QV:=item b (.int 1) λ c=>R 18 [a,c,(.int 0)] λ o=>item b (.int 2) λ d=>R 18 [a,d,(.int (-1))] λ i=>R 19 [a] A
theorem ael:call (n+1) 30 [a,b] A j=QV (call n) A a b j:=by kernel_rfl
noncomputable def ub(a b c o d i y l m p r:Option E):Loc:=[(pB,a),(g5,b),(vy,c),((Str.ofString "count"),o),((Str.ofString "place"),d),(xG,i),(oh,y),((Str.ofString "is_lazy"),l),((Str.ofString "again"),m),((Str.ofString "behind"),p),((Str.ofString "rounds"),r)]
def QW:=d6 31 [] 0 R b (ub a b none none none none none none none none none) λ ak=>bp 31 [] 1 R ak (eX A)
theorem aem:call (n+1) 31 [a,b] A j=QW (call n) A a b j:=by kernel_rfl
def Nw:=a6 a b' λ d=>aE .Eq o d λ i=>cv .Or i F (eF (λ y=>aE .LtE (.int 0) b λ l=>aW l (aE .LtE b c y) (y false)) λ m=>cv .Or m F (F false))
def Nx:=b0 o jw λ d=>a6 a b' λ i=>b9 [(.str xc),b,i] λ y=>bY R d o [y] λ l=>cL a g5 c hj
def Ny:=eF (λ l=>a6 a h4 λ m=>item m b λ p=>Nw l a c y p) λ r=>aW r (cL a g5 i hj) (ek o λ t=>aW t (a6 a iX λ u=>Nx R hj a d i u) (a6 a iX λ v=>b0 v jw λ w=>a6 a b' λ x=>b9 [(.str xc),i,x] λ H=>bY R w v [H] λ D=>hj))
def Nz:=cL a g5 m (aE .Lt r i λ t=>aW t (K (.ret (.bool true)) (ub a b c o d i y l m p r)) ((λ(u:U->Prop)=>Ny R u a d y l m p r) (K (.ret (.bool true)) (ub a b c o d i y l m p r))))
def Nv:=a6 a h4 λ r=>item r o λ t=>Nz R K a b c o d i y l m p t
theorem Uh:bp 31 [] 1 R (ub a b c o d i y l m p none) K j=Nv R K a b c o d i y l m p j:=by kernel_rfl
def QY:=bu .Add o (.int 1) λ d=>R 18 [a,c,d] λ i=>item b (.int 2) λ y=>a6 a b' λ l=>R 18 [a,y,l] λ m=>item b (.int 3) λ p=>cL a g5 p (A (.bool true))
def QX:=item b (.int 1) λ c=>a6 a h4 λ o=>item b (.int 1) λ d=>item o d λ i=>QY R A a b c i
theorem aen:call (n+1) 32 [a,b] A j=QX (call n) A a b j:=by kernel_rfl
def Q0:=R 18 [a,c,(.int 0)] λ o=>a6 a iX λ d=>cJ cp R (.bi .len) [d] λ i=>a6 a h4 λ y=>item b (.int 1) λ l=>gM y l i (R 19 [a] A)
def QZ:=item b (.int 1) λ c=>Q0 R A a b c
theorem aeo:call (n+1) 33 [a,b] A j=QZ (call n) A a b j:=by kernel_rfl
def Q2:=item a (.int 0) λ b=>aE .Eq b (.str jU) λ c=>cv .Or c F (item a (.int 0) λ o=>aE .Eq o (.str zQ) λ d=>cv .Or d F (F false))
def Q3:=h' c (λ o d=>eF (λ i=>Q2 i o) λ y=>aW y (d true) (d false)) (λ o l=>l o) λ m=>a6 a iX λ p=>eN p none (some b) λ r=>bu .Add r m λ t=>cL a iX t (R 19 [a] A)
def Q1:=a6 a h4 λ c=>item b (.int 1) λ o=>item c o λ d=>a6 a iX λ i=>eN i (some d) none λ y=>Q3 R A a d y
theorem aep:call (n+1) 34 [a,b] A j=Q1 (call n) A a b j:=by kernel_rfl
def Q5:=aE .Eq c (.str zQ) λ o=>aW o (item b (.int 2) λ d=>a6 a h4 λ i=>item b (.int 1) λ y=>gM i y d (A E.none)) (A E.none)
def Q6:=aE .Eq c (.str jU) λ o=>aW o (item b (.int 2) λ d=>a6 a g6 λ i=>item b (.int 1) λ y=>gM i y d (A E.none)) (item b (.int 0) λ l=>Q5 A a b l)
def Q4:=item b (.int 0) λ c=>Q6 A a b c
theorem aeq:call (n+1) 35 [a,b] A j=Q4 A a b j:=by kernel_rfl
noncomputable def se(a b c:Option E):Loc:=[(pB,a),(g5,b),((Str.ofString "height"),c)]
def Q7:=a6 a h4 λ c=>item b (.int 1) λ o=>item c o λ d=>kn (hE 36 [] 1 R) (bp 36 [(1,0)] 0 R) (se a b d) (fc (bp 36 [] 2 R) (eX A))
theorem aer:call (n+1) 36 [a,b] A j=Q7 (call n) A a b j:=by kernel_rfl
def NA:=a6 a iX λ o=>b0 o xE λ d=>bY R d o [] λ i=>R 35 [a,i] λ y=>K .next (se a b c)
theorem Ui:bp 36 [(1,0)] 0 R (se a b c) K j=NA R K a b c j:=by kernel_rfl
def NB:=K (.ret (.bool false)) (se a b c)
theorem Uj:bp 36 [] 2 R (se a b c) K j=NB K a b c j:=by kernel_rfl
def OV:=a6 a iX λ o=>cJ cp R (.bi .len) [o] λ d=>aE .Gt d c bz
theorem adg:hE 36 [] 1 R (se a b c) bz j=OV R bz a c j:=by kernel_rfl
def Q8:=item b (.int 1) λ c=>a6 a b' λ o=>R 18 [a,c,o] λ d=>R 19 [a] A
theorem aes:call (n+1) 37 [a,b] A j=Q8 (call n) A a b j:=by kernel_rfl
def Q9:=a6 a h4 λ c=>item b (.int 1) λ o=>item c o λ d=>cL a b' d (R 19 [a] A)
theorem aet:call (n+1) 38 [a,b] A j=Q9 (call n) A a b j:=by kernel_rfl
def Q':=item b (.int 1) λ o=>aE .Lt c o λ d=>aW d (A (.bool false)) (a6 a b' λ i=>item b (.int 1) λ y=>eR .Sub i y λ l=>cL a b' l (R 19 [a] A))
def Q_:=a6 a b' λ c=>Q' R A a b c
theorem aeu:call (n+1) 39 [a,b] A j=Q_ (call n) A a b j:=by kernel_rfl
def Ra:=yT [[115,105,103,110],[97,110,121],[115,101,116],[114,117,110],[97,116],[98,97,99,107],[111,112,101,110],[99,108,111,115,101],[106,117,109,112],[115,112,108,105,116],[122,101,114,111],[108,111,111,112],[97,103,97,105,110],[109,97,114,107],[99,117,116],[114,101,102,117,115,101],[112,108,97,99,101],[114,101,116,117,114,110],[98,101,104,105,110,100]] [(.fn 20),(.fn 20),(.fn 20),(.fn 22),(.fn 24),(.fn 25),(.fn 26),(.fn 27),(.fn 28),(.fn 29),(.fn 30),(.fn 31),(.fn 32),(.fn 33),(.fn 34),(.fn 36),(.fn 37),(.fn 38),(.fn 39)] A
theorem aev:call (n+1) 40 [] A j=Ra A j:=by kernel_rfl
noncomputable def uc(a b c o d i y:Option E):Loc:=[(pB,a),((Str.ofString "entry"),b),(vy,c),(g5,o),((Str.ofString "test"),d),(b',i),((Str.ofString "left"),y)]
def Rb:=d6 41 [] 0 R b (uc a b none none none none none) λ ak=>bp 41 [] 1 R ak (eX A)
theorem aew:call (n+1) 41 [a,b] A j=Rb (call n) A a b j:=by kernel_rfl
def ND:=cJ cp R (.bi .len) [o] λ d=>aE .GtE c d λ i=>cv .Or i F (a6 a e3 λ y=>item y c λ l=>R 15 [b,l] λ m=>ek m λ p=>cv .Or (!p) F (F false))
def NF:=d0 (λ i=>aE .Gt c (.int 0) λ y=>aW y (bu .Sub c (.int 1) i) (i (.int (-1)))) λ l=>b9 [(.str zR),a,b,d,l] λ m=>bY R bh o [m] λ p=>hj
def NG:=aE .NotEq d (.int 1) λ i=>aW i (a6 a iX λ y=>b0 y jw λ l=>bu .Add o (.int 1) λ m=>NF R l hj b c d y m) hj
def NC:=eF (λ l=>a6 a e3 λ m=>ND R l a d i m) λ p=>aW p (K (.ret (.bool false)) (uc a b c o d i y)) ((λ(r:U->Prop)=>NG R r a o d i y) (cL a g5 o (bu .Add i (.int 1) λ t=>cL a b' t (K (.ret (.bool true)) (uc a b c o d i y)))))
theorem Uk:bp 41 [] 1 R (uc a b c o d i y) K j=NC R K a b c o d i y j:=by kernel_rfl
noncomputable def nz(a b:Option E):Loc:=[(pB,a),((Str.ofString "entry"),b)]
def Rc:=kn (hE 42 [] 0 R) (bp 42 [(0,0)] 0 R) (nz a none) (fc (bp 42 [] 1 R) (eX A))
theorem aex:call (n+1) 42 [a] A j=Rc (call n) A a j:=by kernel_rfl
def NI:=b0 c jw λ o=>item b (.int 1) λ d=>item b (.int 2) λ i=>a6 a b' λ y=>b9 [(.str zS),d,i,y] λ l=>bY R o c [l] λ m=>hj
def NJ:=cL a b' c ((λ(o:U->Prop)=>a6 a b' λ d=>item b (.int 2) λ i=>aE .Gt d i λ y=>aW y (a6 a iX λ l=>NI R o a b l) o) (K (.ret (.bool true)) (nz a b)))
def NK:=aE .Eq c (.str zR) λ o=>aW o (R 41 [a,b] λ d=>ek d λ i=>aW i (K (.ret (.bool true)) (nz a b)) (K .next (nz a b))) (R 35 [a,b] λ y=>K .next (nz a b))
def NL:=aE .Eq c (.str zS) λ o=>aW o (item b (.int 1) λ d=>cL a g5 d (item b (.int 3) λ i=>bu .Sub i (.int 1) λ y=>NJ R K a b y)) (item b (.int 0) λ l=>NK R K a b l)
def NM:=aE .Eq c (.str xc) λ o=>aW o (item b (.int 1) λ d=>cL a g5 d (item b (.int 2) λ i=>cL a b' i (K (.ret (.bool true)) (nz a b)))) (item b (.int 0) λ y=>NL R K a b y)
def NH:=a6 a iX λ b=>b0 b xE λ c=>bY R c b [] λ o=>item o (.int 0) λ d=>NM R K a o d
theorem Ul:bp 42 [(0,0)] 0 R (nz a k) K j=NH R K a j:=by kernel_rfl
def NN:=K (.ret (.bool false)) (nz a k)
theorem Um:bp 42 [] 1 R (nz a k) K j=NN K k a j:=by kernel_rfl
def OW:=a6 a iX λ b=>dJ [] λ c=>aE .NotEq b c bz
theorem adh:hE 42 [] 0 R (nz a k) bz j=OW bz a j:=by kernel_rfl
noncomputable def q2(a b c o d:Option E):Loc:=[(pB,a),((Str.ofString "words"),b),(Ad,c),(g5,o),((Str.ofString "is_right"),d)]
def Rf:=a6 d h4 λ i=>bu .Mult o i λ y=>cL a h4 y (kn (hE 43 [] 5 R) (bp 43 [(5,0)] 0 R) (q2 a b c none none) (fc (bp 43 [] 6 R) (eX A)))
def Rg:=a6 d g6 λ i=>bu .Add i (.int 1) λ y=>bu .Mult o y λ l=>cL a g6 l (dJ [(.int (-1))] λ m=>a6 a r1 λ p=>Rf R A a b c m p)
def Rd:=cL a b' c (cL a g5 (.int 0) (dJ [] λ o=>cL a iX o (dJ [E.none] λ d=>a6 a r1 λ i=>Rg R A a b c d i)))
theorem aey:call (n+1) 43 [a,b,c] A j=Rd (call n) A a b c j:=by kernel_rfl
def NP:=ek (.bool s) λ d=>aW d (a6 a b' λ i=>b9 [c,i] λ y=>a6 a g6 λ l=>gM l (.int 0) y (K (.ret (.bool true)) (q2 a b c o (some (.bool s))))) (f (.bool s))
def NQ:=aE .Eq d (.str [101,110,100]) λ i=>aW i (a6 a b' λ y=>a6 a xH λ l=>aE .GtE y l λ m=>NP K f m a b c o) (item o (.int 0) λ p=>item b p λ r=>cJ cp R r [a,o] f)
def NR:=eF (λ i=>ek d λ y=>cv .And (!y) i (R 42 [a] λ l=>ek l λ m=>cv .And (!m) i (i true))) λ p=>aW p (K (.ret (.bool false)) (q2 a b c o d)) (K .next (q2 a b c o d))
def NS:=a6 a g5 λ d=>item o d λ i=>(λ(y:E->U->Prop)=>item i (.int 0) λ l=>NQ R K y a b c i l) (λ(m:E)=>NR R K a b c i m)
def NT:=a6 a oh λ d=>aE .Gt o d λ i=>aW i (λ z=>False) (a6 a r1 λ y=>a6 y kl λ l=>NS R K a b c l)
def NO:=a6 a pC λ o=>eR .Add o (.int 1) λ d=>cL a pC d (a6 a pC λ i=>NT R K a b c i)
theorem Un:bp 43 [(5,0)] 0 R (q2 a b c k b3) K j=NO R K a b c j:=by kernel_rfl
def OX:=bz true
theorem adi:hE 43 [] 5 R (q2 a b c k b3) bz j=OX bz j:=by kernel_rfl
noncomputable def oK(a b c o d i y l:Option E):Loc:=[(r1,a),(e3,b),(b',c),((Str.ofString "limits"),o),(xH,d),(pB,i),((Str.ofString "words"),y),(Ad,l)]
def Ri:=cJ cp R (.typ .range) [c,l] λ m=>forM m (d6 44 [] 2 R) (bp 44 [(2,0)] 0 R) (oK a b c o d i y none) (fc (bp 44 [] 3 R) (eX A))
def Rj:=cJ cp R (.cls 17) [a,b,c,d,i] λ y=>R 40 [] λ l=>cJ cp R (.bi .len) [b] λ m=>bu .Add m (.int 1) λ p=>Ri R A a b c o d y l p
def Rh:=a6 o pC λ i=>Rj R A a b c o d i
theorem aez:call (n+1) 44 [a,b,c,o,d] A j=Rh (call n) A a b c o d j:=by kernel_rfl
def NV:=ek m λ p=>aW p (a6 i g6 λ r=>K (.ret r) (oK a b c o d i y l)) (K .next (oK a b c o d i y l))
def NU:=R 43 [i,y,l] λ m=>NV K a b c o d i y l m
theorem Uo:bp 44 [(2,0)] 0 R (oK a b c o d i y l) K j=NU R K a b c o d i y l j:=by kernel_rfl
def NW:=K (.ret E.none) (oK a b c o d i y k)
theorem Up:bp 44 [] 3 R (oK a b c o d i y k) K j=NW K k a b c o d i y j:=by kernel_rfl
noncomputable def mN(a b c o d:Option E):Loc:=[(Ae,a),(oi,b),(vy,c),((Str.ofString "one"),o),((Str.ofString "register"),d)]
def Rl:=forM o (d6 51 [(1,1),(0,0)] 0 R) (bp 51 [(1,1),(0,0),(0,0)] 0 R) (mN a b c none none) (fc (bp 51 [(1,1),(0,0)] 1 R) (fc (bp 51 [(1,1)] 1 R) (fc (bp 51 [] 2 R) (eX A))))
def Rm:=R 51 [a,o] λ d=>b0 a iu λ i=>item b (.int 1) λ y=>b9 [(.str [99,108,111,115,101]),y,c] λ l=>bY R i a [l] λ m=>A E.none
def Rn:=bY R bh a [] λ c=>b0 a iu λ o=>b9 [(.str [111,112,101,110]),c] λ d=>bY R o a [d] λ i=>item b (.int 2) λ y=>Rm R A a b c y
def Ro:=aE .In c o λ d=>aW d (b0 a iu λ i=>bY R i a [b] λ y=>A E.none) (aE .Eq c (.str [115,101,113]) λ l=>aW l (item b (.int 1) λ m=>Rl R A a b c m) (aE .Eq c (.str [97,108,116]) λ p=>aW p (item b (.int 1) λ r=>R 52 [a,r] λ t=>A E.none) (aE .Eq c (.str jU) λ u=>aW u (b0 a qQ λ v=>Rn R A v a b) (aE .Eq c (.str qz) λ w=>aW w (R 54 [a,b] λ x=>A E.none) (aE .Eq c (.str pg) λ H=>aW H (item b (.int 1) λ D=>R 53 [a,D] λ aA=>A E.none) (R 56 [a,b] λ aw=>A E.none))))))
def Rk:=item b (.int 0) λ c=>b9 [(.str tl),(.str [97,110,121]),(.str ph),(.str [97,116]),(.str oa)] λ o=>Ro R A a b c o
theorem qU:call (n+1) 51 [a,b] A j=Rk (call n) A a b j:=by kernel_rfl
def NX:=R 51 [a,o] λ d=>K .next (mN a b c o none)
theorem F6:bp 51 [(1,1),(0,0),(0,0)] 0 R (mN a b c o none) K j=NX R K a b c o j:=by kernel_rfl
def NY:=K .next (mN a b c k none)
theorem F7:bp 51 [(1,1),(0,0)] 1 R (mN a b c k none) K j=NY K k a b c j:=by kernel_rfl
def NZ:=K .next (mN a b c k none)
theorem F8:bp 51 [(1,1)] 1 R (mN a b c k none) K j=NZ K k a b c j:=by kernel_rfl
def N0:=K .next (mN a b c k none)
theorem F9:bp 51 [] 2 R (mN a b c k none) K j=N0 K k a b c j:=by kernel_rfl
noncomputable def lE(a b c o d i:Option E):Loc:=[(Ae,a),((Str.ofString "branches"),b),((Str.ofString "jumps"),c),((Str.ofString "one"),o),(xD,d),(b',i)]
def Rq:=cJ cp R (.bi .len) [b] λ o=>bu .Sub o (.int 1) λ d=>eN b none (some d) λ i=>forM i (d6 52 [] 1 R) (bp 52 [(1,0)] 0 R) (lE a b c none none none) (fc (bp 52 [] 2 R) (eX A))
def Rp:=dJ [] λ c=>Rq R A a b c
theorem aeA:call (n+1) 52 [a,b] A j=Rp (call n) A a b j:=by kernel_rfl
def N2:=cJ cp R (.bi .len) [y] λ l=>b9 [(.str rP),i,l] λ m=>a6 a kl λ p=>gM p d m (K .next (lE a b c o d none))
def N3:=b9 [(.str vf),(.int 0)] λ i=>bY R N a [i] λ y=>bY R bh c [y] λ l=>bu .Add d (.int 1) λ m=>a6 a kl λ p=>N2 R K a b c o d m p
def N4:=bY R bh a [d] λ i=>R 51 [a,o] λ y=>b0 c jw λ l=>b0 a iu λ m=>N3 R K l m a b c o i
def N1:=b0 a iu λ d=>b9 [(.str rP),(.int 0),(.int 0)] λ i=>N4 R K d a b c o i
theorem Uq:bp 52 [(1,0)] 0 R (lE a b c o k none) K j=N1 R K a b c o j:=by kernel_rfl
def N6:=bu .Sub o (.int 1) λ d=>item b d λ i=>R 51 [a,i] λ y=>forM c (d6 52 [] 3 R) (bp 52 [(3,0)] 0 R) (lE a b c k b3 none) (fc (bp 52 [] 4 R) K)
def N5:=cJ cp R (.bi .len) [b] λ o=>N6 R K k b3 a b c o
theorem Ur:bp 52 [] 2 R (lE a b c k b3 none) K j=N5 R K k b3 a b c j:=by kernel_rfl
def N8:=cJ cp R (.bi .len) [d] λ i=>b9 [(.str vf),i] λ y=>a6 a kl λ l=>gM l o y (K .next (lE a b c k b3 o))
def N7:=a6 a kl λ d=>N8 R K k b3 a b c o d
theorem Us:bp 52 [(3,0)] 0 R (lE a b c k b3 o) K j=N7 R K k b3 a b c o j:=by kernel_rfl
def N9:=K .next (lE a b c k b3 cX)
theorem Ut:bp 52 [] 4 R (lE a b c k b3 cX) K j=N9 K k b3 cX a b c j:=by kernel_rfl
def Rt:=b9 [(.str xd),c] λ o=>bY R bh a [o] λ d=>R 51 [a,b] λ i=>b0 a iu λ y=>b9 [(.str [99,117,116]),c] λ l=>bY R y a [l] λ m=>A E.none
def Rr:=b0 a qQ λ c=>bY R c a [] λ o=>b0 a iu λ d=>Rt R A d a b o
theorem aeB:call (n+1) 53 [a,b] A j=Rr (call n) A a b j:=by kernel_rfl
noncomputable def sf(a b c o d i y:Option E):Loc:=[(Ae,a),(oi,b),(vy,c),((Str.ofString "inner"),o),(xG,d),(oh,i),((Str.ofString "mode"),y)]
def Ru:=d6 54 [] 0 R b (sf a b none none none none none) λ ak=>bp 54 [] 1 R ak (eX A)
theorem Lh:call (n+1) 54 [a,b] A j=Ru (call n) A a b j:=by kernel_rfl
def N':=aE .Eq y (.str [108,97,122,121]) λ l=>b9 [(.str [114,117,110]),o,d,i,(.bool l)] λ m=>bY R bh a [m] λ p=>K .next (sf a b c o d i y)
def Oa:=aE .In l yH λ m=>aW m (b0 a iu λ p=>N' R K p a b c o d i y) (aE .Eq y (.str [108,97,122,121]) λ r=>R 55 [a,o,d,i,(.bool r)] λ t=>K .next (sf a b c o d i y))
def N_:=aE .Eq y (.str [111,119,110]) λ l=>aW l (b9 [c,o,d,i,(.str DM)] λ m=>R 53 [a,m] λ p=>K .next (sf a b c o d i y)) (item o (.int 0) λ r=>Oa R K a b c o d i y r)
theorem F_:bp 54 [] 1 R (sf a b c o d i y) K j=N_ R K a b c o d i y j:=by kernel_rfl
def Rw:=a6 a kl λ m=>cJ cp R (.bi .len) [m] λ p=>b9 [(.str [108,111,111,112]),d,i,b,c,o,l,p] λ r=>a6 a kl λ t=>gM t y r (A E.none)
def Rx:=R 51 [a,b] λ p=>b0 a iu λ r=>b9 [(.str vf),l] λ t=>bY R r a [t] λ u=>Rw R A a c o d i y l m
def Ry:=b0 a iu λ m=>bu .Add l (.int 2) λ p=>b9 [(.str vg),i,y,p] λ r=>bY R m a [r] λ t=>Rx R A a b c o d i y l t
def Rz:=bY R bh a [l] λ m=>b0 a iu λ p=>b9 [(.str [108,111,111,112])] λ r=>bY R p a [r] λ t=>Ry R A a b c o d i y t
def RA:=b0 a qQ λ y=>bY R y a [] λ l=>b0 a iu λ m=>b9 [(.str [122,101,114,111]),i,l] λ p=>Rz R A m a b c o d i l p
def Rv:=b0 a qQ λ i=>bY R i a [] λ y=>RA R A a b c o d y
theorem aeC:call (n+1) 55 [a,b,c,o,d] A j=Rv (call n) A a b c o d j:=by kernel_rfl
noncomputable def ud(a b c o d i y l m p:Option E):Loc:=[(Ae,a),(oi,b),(vy,c),((Str.ofString "inner"),o),((Str.ofString "is_behind"),d),(Ey,i),(Af,y),((Str.ofString "place"),l),((Str.ofString "mark"),m),(xD,p)]
def RB:=d6 56 [] 0 R b (ud a b none none none none none none none none) λ ak=>bp 56 [] 1 R ak (eX A)
theorem aeD:call (n+1) 56 [a,b] A j=RB (call n) A a b j:=by kernel_rfl
def Oc:=a6 a kl λ t=>gM t p r (K .next (ud a b c o d i y l m p))
def Od:=a6 a kl λ t=>cJ cp R (.bi .len) [t] λ u=>b9 [(.str rP),r,u] λ v=>Oc K a b c o d i y l m p v
def Oe:=b9 [(.str [114,101,102,117,115,101]),m] λ r=>bY R bh a [r] λ t=>bu .Add p (.int 1) λ u=>Od R K a b c o d i y l m p u
def Of:=b9 [(.str [114,101,116,117,114,110]),l] λ r=>bY R bh a [r] λ t=>K .next (ud a b c o d i y l m p)
def Og:=ek i λ r=>aW r (b0 a iu λ t=>Oe R K t a b c o d i y l m p) (b0 a iu λ u=>b9 [(.str [99,117,116]),m] λ v=>bY R u a [v] λ w=>b0 a iu λ x=>Of R K x a b c o d i y l m p)
def Oh:=(λ(r:U->Prop)=>ek d λ t=>aW t (b0 a iu λ u=>b9 [(.str [98,101,104,105,110,100]),y] λ v=>bY R u a [v] λ w=>r) r) (R 51 [a,o] λ x=>Og R K a b c o d i y l m p)
abbrev Oi:=(λ(p:E->U->Prop)=>ek i λ r=>aW r (b0 a iu λ t=>b9 [(.str rP),(.int 0),(.int 0)] λ u=>bY R t a [u] p) (p (.int (-1)))) (λ(v:E)=>Oh R K a b c o d i y l m v)
def Oj:=bY R bh a [p] λ r=>b0 a iu λ t=>b9 [(.str xd),m] λ u=>bY R t a [u] λ v=>Oi R K a b c o d i y l m
def Ol:=b0 a qQ λ m=>bY R m a [] λ p=>b0 a iu λ r=>b9 [(.str rQ),l] λ t=>Oj R K r a b c o d i y l p t
def Ob:=b0 a qQ λ l=>bY R l a [] λ m=>Ol R K a b c o d i y m
theorem Uu:bp 56 [] 1 R (ud a b c o d i y none none none) K j=Ob R K a b c o d i y j:=by kernel_rfl
def RD:=b9 [(.str [101,110,100])] λ o=>bY R bh c [o] λ d=>a6 c kl λ i=>a6 c h4 λ y=>cJ cp R (.cls 49) [i,a,y,b] A
def RC:=cJ cp R (.cls 50) [] λ o=>R 51 [o,a] λ d=>b0 o iu λ i=>RD R A i b c o
theorem aeE:call (n+1) 57 [a,b,c] A j=RC (call n) A a b c j:=by kernel_rfl
noncomputable def q3(a b c o:Option E):Loc:=[(qR,a),((Str.ofString "signs"),b),(oh,c),(Ag,o)]
def RE:=a6 a b' λ o=>kn (hE 65 [] 1 R) (bp 65 [(1,0)] 0 R) (q3 a b c o) (fc (bp 65 [] 2 R) (eX A))
theorem aeF:call (n+1) 65 [a,b,c] A j=RE (call n) A a b c j:=by kernel_rfl
def Om:=a6 a b' λ d=>eR .Add d (.int 1) λ i=>cL a b' i (K .next (q3 a b c o))
theorem Uw:bp 65 [(1,0)] 0 R (q3 a b c o) K j=Om K a b c o j:=by kernel_rfl
def Oo:=a6 a e3 λ d=>a6 a b' λ i=>eN d (some o) (some i) λ y=>K (.ret y) (q3 a b c o)
theorem Ux:bp 65 [] 2 R (q3 a b c o) K j=Oo K a b c o j:=by kernel_rfl
def OZ:=item d i λ y=>aE .In y b λ l=>cv .And l F (a6 a b' λ m=>bu .Sub m o λ p=>aE .NotEq p c λ r=>cv .And r F (F true))
def O0:=cJ cp R (.bi .len) [i] λ y=>aE .Lt d y λ l=>cv .And l F (a6 a e3 λ m=>a6 a b' λ p=>OZ F a b c o m p)
def OY:=eF (λ d=>a6 a b' λ i=>a6 a e3 λ y=>O0 R d a b c o i y) bz
theorem adj:hE 65 [] 1 R (q3 a b c o) bz j=OY R bz a b c o j:=by kernel_rfl
noncomputable def q4(a b c o:Option E):Loc:=[(pB,a),((Str.ofString "base"),b),(tC,c),((Str.ofString "sign"),o)]
def RF:=forM a (d6 66 [] 1 R) (bp 66 [(1,0)] 0 R) (q4 a b (some (.int 0)) none) (fc (bp 66 [] 2 R) (eX A))
theorem aeG:call (n+1) 66 [a,b] A j=RF (call n) A a b j:=by kernel_rfl
def Ot:=bY R N c [] λ d=>bY R bh Gn [d] λ i=>bu .Add o i λ y=>bu .Add (.int 1114111) (.int 1) λ l=>cJ cp R (.bi .min) [y,l] λ m=>K .next (q4 a b m c)
def Oq:=bu .Mult c b λ d=>b0 Gn (Str.ofString "index") λ i=>b0 o Ab λ y=>Ot R K i y a b o d
theorem Uy:bp 66 [(1,0)] 0 R (q4 a b c o) K j=Oq R K a b c o j:=by kernel_rfl
def Ou:=K (.ret c) (q4 a b c k)
theorem Uz:bp 66 [] 2 R (q4 a b c k) K j=Ou K k a b c j:=by kernel_rfl
def RH:=aE .Lt b (.int 0) λ c=>aW c (λ z=>False) (a6 a e3 λ o=>a6 a b' λ d=>eN o (some d) (some b) λ i=>bu .Add b (.int 1) λ y=>cL a b' y (A i))
def RG:=a6 a e3 λ c=>b0 c vw λ o=>a6 a b' λ d=>bY R o c [b,d] λ i=>RH A a i
theorem aeH:call (n+1) 67 [a,b] A j=RG (call n) A a b j:=by kernel_rfl
def RJ:=a6 a b' λ d=>bu .Add d (.int 2) λ i=>eN c (some o) (some i) λ y=>aE .NotEq y (.str [91,58]) λ l=>cv .Or l F (aE .Lt b (.int 0) λ m=>cv .Or m F (F false))
def RK:=eF (λ b=>aE .LtE (.str [97]) a λ c=>aW c (aE .LtE a (.str [122]) b) (b false)) λ o=>cv .Or o F (aE .Eq a (.str [94]) λ d=>cv .Or d F (F false))
def RL:=cL a b' o (d0 (λ d=>eN b none (some (.int 1)) λ i=>aE .Eq i (.str [94]) λ y=>aW y (b9 [(.str [110,111,110,101]),c] λ l=>dJ [l] d) (d c)) A)
def RM:=aE .Eq o d λ i=>aW i (h' c (λ y l=>eF (λ m=>RK m y) λ p=>aW (!p) (l true) (l false)) (λ y r=>r y) λ t=>dJ [] λ u=>aE .NotEq t u λ v=>aW v (A E.none) (λ z=>False)) (bu .Add b (.int 2) λ w=>RL A a c o w)
def RN:=d0 (λ o=>eN c none (some (.int 1)) λ d=>aE .Eq d (.str [94]) λ i=>aW i (eN c (some (.int 1)) none o) (o c)) λ y=>R 11 [y] λ l=>dJ [] λ m=>RM A a b c l m
def RO:=eF (λ c=>a6 a e3 λ o=>a6 a b' λ d=>RJ c a b o d) λ i=>aW i (A E.none) (a6 a e3 λ y=>a6 a b' λ l=>bu .Add l (.int 2) λ m=>eN y (some m) (some b) λ p=>RN R A a b p)
def RI:=a6 a e3 λ b=>b0 b vw λ c=>a6 a b' λ o=>bY R c b [(.str [58,93]),o] λ d=>RO R A a d
theorem aeI:call (n+1) 72 [a] A j=RI (call n) A a j:=by kernel_rfl
def RQ:=eF (λ c=>aE .NotEq b (.str []) λ o=>cv .And o c (aE .In b Gl λ d=>cv .And d c (c true))) λ i=>aW i (a6 a b' λ y=>eR .Add y (.int 1) λ l=>cL a b' l (b9 [(.str zT),b] λ m=>dJ [m] A)) (R 70 [a] λ p=>aE .Eq b (.str [98]) λ r=>aW r (iM (.str [8]) (some b)) (iM p (some b)))
def RR:=cL a b' c ((λ(o:E->Option E->U->Prop)=>aE .Eq b (.str [92]) λ d=>aW d (b0 a mG λ i=>bY R i a [] λ y=>RQ R A o a y) (o b none)) (λ(l:E)(m:Option E)=>cJ cp R (.bi .ord) [l] λ p=>cJ cp R (.bi .ord) [l] λ r=>b9 [(.str qA),p,r] λ t=>dJ [t] A))
def RS:=aE .IsNot b E.none λ c=>aW c (A b) (b0 a mG λ o=>bY R o a [] λ d=>a6 a b' λ i=>eR .Add i (.int 1) λ y=>RR R A a d y)
def RP:=R 72 [a] λ b=>RS R A a b
theorem aeJ:call (n+1) 73 [a] A j=RP (call n) A a j:=by kernel_rfl
def RU:=aE .Eq b (.str qA) λ c=>f_ .And (.bool c) f (item a (.int 0) λ o=>item o (.int 1) λ d=>item a (.int 0) λ i=>item i (.int 2) λ y=>aE .Eq d y λ l=>f (.bool l))
def RT:=d0 (λ b=>cJ cp R (.bi .len) [a] λ c=>aE .Eq c (.int 1) λ o=>f_ .And (.bool o) b (item a (.int 0) λ d=>item d (.int 0) λ i=>RU b a i)) A
theorem aeK:call (n+1) 74 [a] A j=RT (call n) A a j:=by kernel_rfl
noncomputable def q5(a b c o d i y l:Option E):Loc:=[(qR,a),(Ah,b),(Ag,c),(Ey,o),((Str.ofString "items"),d),((Str.ofString "is_first"),i),(tC,y),((Str.ofString "behind"),l)]
def RW:=bY R bh a [(.str [94])] λ o=>dJ [] λ d=>kn (hE 76 [] 5 R) (bp 76 [(5,0)] 0 R) (q5 a b c o d (some (.bool true)) none none) (fc (bp 76 [] 6 R) (eX A))
def RV:=a6 a b' λ c=>a6 a b' λ o=>eR .Add o (.int 1) λ d=>cL a b' d (b0 a hB λ i=>RW R A i a b c)
theorem aeL:call (n+1) 76 [a,b] A j=RV (call n) A a b j:=by kernel_rfl
def Ow:=aE .Eq b (.str [45]) λ c=>cv .And c F (aE .NotEq a (.str [45,93]) λ o=>cv .And o F (cJ cp R (.bi .len) [a] λ d=>aE .Eq d (.int 2) λ i=>cv .And i F (F true)))
def Ox:=eF (λ o=>R 74 [b] λ d=>ek d λ i=>cv .And i o (eN c none (some (.int 1)) λ y=>Ow R o c y)) λ l=>aW l (R 75 [a,b] f) (f b)
def Oy:=b0 d (Str.ofString "extend") λ l=>bY R l d [y] λ m=>K .next (q5 a b c o d (some (.bool false)) (some y) (some i))
def Oz:=bu .Add m (.int 2) λ p=>eN y (some l) (some p) λ r=>(λ(t:E->U->Prop)=>Ox R t a i r) (λ(u:E)=>Oy R K a b c o d r u)
def OA:=aE .Eq i (.str []) λ y=>aW y (λ z=>False) (R 73 [a] λ l=>a6 a e3 λ m=>a6 a b' λ p=>a6 a b' λ r=>Oz R K a b c o d l m p r)
def Ov:=b0 a mG λ y=>bY R y a [] λ l=>OA R K a b c o d l
theorem UA:bp 76 [(5,0)] 0 R (q5 a b c o d i k b3) K j=Ov R K a b c o d j:=by kernel_rfl
def OC:=cL a b' y (b9 [(.str ph),d,o,b] λ l=>K (.ret l) (q5 a b c o d i k b3))
def OB:=a6 a b' λ y=>eR .Add y (.int 1) λ l=>OC K k b3 a b c o d i l
theorem UB:bp 76 [] 6 R (q5 a b c o d i k b3) K j=OB K k b3 a b c o d i j:=by kernel_rfl
def O1:=eF (λ y=>ek i λ l=>cv .Or l y (b0 a mG λ m=>bY R m a [] λ p=>aE .NotEq p (.str [93]) λ r=>cv .Or r y (y false))) bz
theorem KX:hE 76 [] 5 R (q5 a b c o d i k b3) bz j=O1 R bz a i j:=by kernel_rfl
noncomputable def q6(a b c:Option E):Loc:=[(e3,a),(tC,b),(b',c)]
def RX:=kn (hE 81 [] 2 R) (bp 81 [(2,0)] 0 R) (q6 a (some (.int 0)) (some (.int 0))) (fc (bp 81 [] 3 R) (eX A))
theorem aeM:call (n+1) 81 [a] A j=RX (call n) A a j:=by kernel_rfl
def OE:=aE .Eq c (.str [40]) λ o=>cv .And o F (bu .Add b (.int 1) λ d=>bu .Add b (.int 4) λ i=>eN a (some d) (some i) λ y=>R 83 [y] λ l=>ek l λ m=>cv .And m F (F true))
def OF:=aE .Eq o (.str [91]) λ d=>aW d (R 82 [a,c] λ i=>da b i) (eF (λ y=>item a c λ l=>OE R y a c l) λ m=>aW m (eR .Add b (.int 1) λ p=>da p c) (da b c))
def OD:=(λ(o:E->E->U->Prop)=>item a c λ d=>aE .Eq d (.str [92]) λ i=>aW i (eR .Add c (.int 1) λ y=>o b y) (item a c λ l=>OF R o a b c l)) (λ(m:E)(p:E)=>eR .Add p (.int 1) λ r=>K .next (q6 a m r))
theorem UC:bp 81 [(2,0)] 0 R (q6 a b c) K j=OD R K a b c j:=by kernel_rfl
def OG:=K (.ret b) (q6 a b c)
theorem UD:bp 81 [] 3 R (q6 a b c) K j=OG K a b c j:=by kernel_rfl
def O2:=cJ cp R (.bi .len) [a] λ o=>aE .Lt c o bz
theorem adk:hE 81 [] 2 R (q6 a b c) bz j=O2 R bz a c j:=by kernel_rfl
noncomputable def sg(a b:Option E):Loc:=[(e3,a),(b',b)]
def RZ:=(λ(c:E->U->Prop)=>bu .Add b (.int 1) λ o=>eN a (some b) (some o) λ d=>aE .Eq d (.str [93]) λ i=>aW i (eR .Add b (.int 1) c) (c b)) (λ(y:E)=>kn (hE 82 [] 3 R) (bp 82 [(3,0)] 0 R) (sg a y) (fc (bp 82 [] 4 R) (eX A)))
def R0:=(λ(c:E->U->Prop)=>bu .Add b (.int 1) λ o=>eN a (some b) (some o) λ d=>aE .Eq d (.str [94]) λ i=>aW i (eR .Add b (.int 1) c) (c b)) (λ(y:E)=>RZ R A a y)
def RY:=eR .Add b (.int 1) λ c=>R0 R A a c
theorem aeN:call (n+1) 82 [a,b] A j=RY (call n) A a b j:=by kernel_rfl
def OH:=d0 (λ c=>item a b λ o=>aE .Eq o (.str [92]) λ d=>aW d (c (.int 2)) (c (.int 1))) λ i=>eR .Add b i λ y=>K .next (sg a y)
theorem UE:bp 82 [(3,0)] 0 R (sg a b) K j=OH K a b j:=by kernel_rfl
def OI:=K (.ret b) (sg a b)
theorem F':bp 82 [] 4 R (sg a b) K j=OI K a b j:=by kernel_rfl
def O3:=eF (λ c=>cJ cp R (.bi .len) [a] λ o=>aE .Lt b o λ d=>cv .And d c (item a b λ i=>aE .NotEq i (.str [93]) λ y=>cv .And y c (c true))) bz
theorem adl:hE 82 [] 3 R (sg a b) bz j=O3 R bz a b j:=by kernel_rfl
def R2:=eN a (some (.int 2)) (some (.int 3)) λ b=>aE .NotEq b (.str [61]) λ c=>f_ .And (.bool c) f (eN a (some (.int 2)) (some (.int 3)) λ o=>aE .NotEq o (.str [33]) λ d=>f (.bool d))
def R3:=aE .Eq b (.str [63,80,60]) λ c=>f_ .Or (.bool c) f (d0 (λ o=>eN a none (some (.int 2)) λ d=>aE .Eq d (.str [63,60]) λ i=>f_ .And (.bool i) o (R2 o a)) f)
def R4:=aE .NotEq b (.str [63]) λ c=>aW c (A (.bool true)) (d0 (λ o=>eN a none (some (.int 2)) λ d=>aE .Eq d (.str [63,39]) λ i=>f_ .Or (.bool i) o (eN a none (some (.int 3)) λ y=>R3 o a y)) A)
def R1:=eN a none (some (.int 1)) λ b=>R4 A a b
theorem aeO:call (n+1) 83 [a] A j=R1 A a j:=by kernel_rfl
def R6:=f_ .And (.bool s) f (h' a (λ b c=>R 7 [b] λ o=>ek o λ d=>aW (!d) (c true) (c false)) (λ b i=>i b) λ y=>dJ [] λ l=>aE .Eq y l λ m=>f (.bool m))
def R5:=d0 (λ b=>aE .NotEq a (.str []) λ c=>f_ .And (.bool c) b (item a (.int 0) λ o=>aE .NotIn o yG λ d=>R6 R b d a)) A
theorem aeP:call (n+1) 84 [a] A j=R5 (call n) A a j:=by kernel_rfl
def R8:=aE .GtE c (.int 0) λ o=>aW o (bu .Add b (.int 1) λ d=>eN a (some d) (some c) λ i=>b0 i xD λ y=>bY R y i [(.str [44])] f) (dJ [] f)
def R9:=aE .Lt b (.int 1) λ c=>cv .Or c F (cJ cp R (.bi .len) [a] λ o=>aE .Gt o (.int 2) λ d=>cv .Or d F (item a (.int 0) λ i=>aE .Eq i (.str []) λ y=>cv .Or y F (F false)))
def R_:=aE .Eq o (.int 1) λ d=>aW d (bu .Add a (.int 1) λ i=>b9 [c,c,i] A) (d0 (λ y=>item b (.int 1) λ l=>aE .Eq l (.str []) λ m=>aW m (y (.int (-1))) (item b (.int 1) λ p=>R 66 [p,(.int 10)] y)) λ r=>bu .Add a (.int 1) λ t=>b9 [c,r,t] A)
def R':=h' c (λ o d=>aE .NotIn o yG λ i=>aW i (d true) (d false)) (λ o y=>y o) λ l=>dJ [] λ m=>aE .NotEq l m λ p=>aW p (A E.none) (item b (.int 0) λ r=>R 66 [r,(.int 10)] λ t=>cJ cp R (.bi .len) [b] λ u=>R_ R A a b t u)
def Sa:=eF (λ c=>cJ cp R (.bi .len) [b] λ o=>R9 R c b o) λ d=>aW d (A E.none) (b0 (.str []) r0 λ i=>bY R i (.str []) [b] λ y=>R' R A a b y)
def R7:=b0 a vw λ c=>bY R c a [(.str [125]),b] λ o=>d0 (λ d=>R8 R d a b o) λ i=>Sa R A o i
theorem aeQ:call (n+1) 85 [a,b] A j=R7 (call n) A a b j:=by kernel_rfl
noncomputable def vQ(a b c o d i:Option E):Loc:=[(qR,a),((Str.ofString "sign"),b),(tC,c),(xG,o),(oh,d),((Str.ofString "behind"),i)]
def Sd:=eF (λ c=>aE .NotEq b (.str []) λ o=>cv .And o c (aE .In b v9 λ d=>cv .And d c (c true))) λ i=>aW i (a6 a b' λ y=>eR .Add y (.int 1) λ l=>cL a b' l (item v9 b A)) (d0 (λ m=>aE .Eq b (.str [123]) λ p=>aW p (a6 a e3 λ r=>a6 a b' λ t=>R 85 [r,t] m) (m E.none)) λ u=>aE .Is u E.none λ v=>aW v (A E.none) (d6 86 [] 4 R u (vQ a b u none none none) λ ak=>bp 86 [] 5 R ak (eX A)))
def Sb:=b0 a mG λ b=>bY R b a [] λ c=>Sd R A a c
theorem Ap:call (n+1) 86 [a] A j=Sb (call n) A a j:=by kernel_rfl
def OK:=aE .Gt y (.int 32766) λ l=>aW l (λ z=>False) (eF (λ m=>aE .LtE (.int 0) d λ p=>aW p (aE .Lt d o m) (m false)) λ r=>aW r (λ z=>False) (cL a b' i (b9 [o,d] λ t=>K (.ret t) (vQ a b c o d i))))
def OJ:=cJ cp R (.bi .max) [o,d] λ y=>OK K a b c o d i y
theorem UG:bp 86 [] 5 R (vQ a b c o d i) K j=OJ R K a b c o d i j:=by kernel_rfl
def Se:=a6 a xI λ o=>b0 o jw λ d=>b9 [b,c] λ i=>bY R d o [i] λ y=>A b
theorem aeR:call (n+1) 87 [a,b,c] A j=Se (call n) A a b c j:=by kernel_rfl
noncomputable def q7(a b c o d:Option E):Loc:=[(qR,a),(b',b),((Str.ofString "opening"),c),((Str.ofString "close"),o),((Str.ofString "name"),d)]
def Sg:=b9 [(.str [60]),(.str [62])] λ o=>b9 [(.str [39]),(.str [39])] λ d=>dJ [c,o,d] λ i=>forM i (d6 88 [] 0 R) (bp 88 [(0,0)] 0 R) (q7 a b none none none) (fc (bp 88 [] 1 R) (eX A))
def Sf:=b9 [(.str [123]),(.str [125])] λ c=>Sg R A a b c
theorem aeS:call (n+1) 88 [a,b] A j=Sf (call n) A a b j:=by kernel_rfl
def OM:=b0 i vx λ y=>dJ [] λ l=>bY R y i [d,l] λ m=>R 87 [a,m,b] λ p=>K (.ret p) (q7 a b c o d)
def ON:=ek d λ i=>aW i (R 67 [a,o] λ y=>R 84 [y] λ l=>ek l λ m=>aW (!m) (λ z=>False) (a6 a oj λ p=>OM R K a b c o y p)) (K .next (q7 a b c o k))
def OL:=b0 a hB λ d=>bY R d a [c] λ i=>ON R K k a b c o i
theorem Ga:bp 88 [(0,0)] 0 R (q7 a b c o k) K j=OL R K k a b c o j:=by kernel_rfl
def Si:=eF (λ c=>ek b λ o=>cv .And o c (b0 a hB λ d=>bY R d a [(.str [125])] λ i=>ek i λ y=>cv .And (!y) c (c true))) λ l=>cv .Or l F (F false)
def Sj:=d0 (λ d=>ek c λ i=>aW i (a6 a g6 λ y=>bu .Add y (.int 1) λ l=>bu .Sub l o d) (d o)) λ m=>dJ [m] λ p=>R 87 [a,p,b] A
def Sk:=eF (λ y=>aE .Eq i (.str []) λ l=>cv .Or l y (Si R y a o)) λ m=>aW m (cL a b' c (R 88 [a,b] A)) (R 66 [i,(.int 10)] λ p=>Sj R A a b d p)
def Sl:=bY R bh a [(.str [123])] λ o=>b0 a hB λ d=>bY R d a [(.str [45])] λ i=>R 65 [a,yG,(.int (-1))] λ y=>Sk R A a b c o i y
def Sh:=a6 a b' λ c=>b0 a hB λ o=>Sl R A o a b c
theorem aeT:call (n+1) 89 [a,b] A j=Sh (call n) A a b j:=by kernel_rfl
def Sn:=eF (λ c=>aE .GtE b (.int 0) λ o=>cv .And o c (item a (.int 2) λ d=>item a (.int 3) λ i=>aE .Eq d i λ y=>cv .And y c (c true))) λ l=>aW l (item a (.int 2) λ m=>bu .Mult b m f) (f (.int (-1)))
def So:=h' a (λ b c=>item a (.int 0) λ o=>aE .NotEq b o λ d=>aW d (c true) (c false)) (λ b i=>i b) λ y=>dJ [] λ l=>aE .Eq y l λ m=>aW m (item a (.int 0) f) (f (.int (-1)))
def Sp:=h' b (λ c o=>o true) (λ c d=>R 90 [c] d) λ i=>aE .Eq a (.str [115,101,113]) λ y=>aW y (d0 (λ l=>aE .In (.int (-1)) i λ m=>aW m (l (.int (-1))) (cJ cp R (.bi .sum) [i] l)) A) (d0 (λ p=>So p i) A)
def Sq:=aE .In b c λ o=>aW o (A (.int 0)) (aE .Eq b (.str oa) λ d=>aW d (A (.int (-1))) (aE .Eq b (.str qz) λ i=>aW i (item a (.int 1) λ y=>R 90 [y] λ l=>d0 (λ m=>Sn m a l) A) (eF (λ p=>aE .Eq b (.str jU) λ r=>cv .Or r p (aE .Eq b (.str pg) λ t=>cv .Or t p (p false))) λ u=>aW u (cJ cp R (.bi .len) [a] λ v=>bu .Sub v (.int 1) λ w=>item a w λ x=>R 90 [x] A) (item a (.int 1) λ H=>Sp R A b H))))
def Sr:=b9 [(.str tl),(.str [97,110,121]),(.str ph)] λ c=>aE .In b c λ o=>aW o (A (.int 1)) (b9 [(.str [97,116]),(.str qB)] λ d=>Sq R A a b d)
def Sm:=item a (.int 0) λ b=>Sr R A a b
theorem EE:call (n+1) 90 [a] A j=Sm (call n) A a j:=by kernel_rfl
def Su:=d0 (λ c=>aE .Lt b (.int 0) λ o=>aW o (a6 a e3 λ d=>cJ cp R (.bi .len) [d] c) (bu .Add b (.int 1) c)) λ i=>cL a b' i (A (.bool true))
def Sv:=aE .Eq b (.str [35]) λ c=>aW c (a6 a e3 λ o=>b0 o vw λ d=>a6 a b' λ i=>bY R d o [(.str [10]),i] λ y=>Su R A a y) (R 65 [a,(.str [32,9,10,13,12,11]),(.int (-1))] λ l=>aE .NotEq l (.str []) λ m=>A (.bool m))
def Sw:=ek c λ o=>aW o (R 67 [a,(.str [41])] λ d=>A (.bool true)) (aE .NotIn (.str [120]) b λ i=>aW i (A (.bool false)) (b0 a mG λ y=>bY R y a [] λ l=>Sv R A a l))
def Ss:=b0 a hB λ c=>bY R c a [(.str [40,63,35])] λ o=>Sw R A a b o
theorem aeU:call (n+1) 96 [a,b] A j=Ss (call n) A a b j:=by kernel_rfl
def Sx:=eF (λ d=>aE .In o a λ i=>cv .Or i d (aE .In o b λ y=>cv .Or y d (d false))) λ l=>cv .And l F (aE .NotIn o c λ m=>cv .And m F (F true))
def Ff:=h' v_ (λ o d=>eF (λ i=>Sx i a b c o) λ y=>aW y (d true) (d false)) (λ o l=>l o) λ m=>bY R bh (.str []) [m] A
def Fg:=d0 (λ o=>b0 a hB λ d=>bY R d a [(.str [45])] λ i=>ek i λ y=>aW y (R 65 [a,v_,(.int (-1))] o) (o (.str []))) λ l=>b0 (.str []) r0 λ m=>Ff R A m b c l
def Fe:=R 65 [a,v_,(.int (-1))] λ c=>Fg R A a b c
theorem aeV:call (n+1) 97 [a,b] A j=Fe (call n) A a b j:=by kernel_rfl
def Sz:=bu .Add b (.int 2) λ o=>aE .Gt c o λ d=>cv .And d F (b0 a hB λ i=>bY R i a [(.str [41])] λ y=>ek y λ l=>cv .And l F (F true))
def SA:=ek o λ d=>aW (!d) (A E.none) (R 97 [a,b] λ i=>eF (λ y=>a6 a b' λ l=>Sz R y a c l) λ m=>aW m (A i) (cL a b' c (A E.none)))
def Sy:=a6 a b' λ c=>b0 a hB λ o=>bY R o a [(.str [40,63])] λ d=>SA R A a b c d
theorem aeW:call (n+1) 98 [a,b] A j=Sy (call n) A a b j:=by kernel_rfl
noncomputable def mO(a b c o:Option E):Loc:=[(qR,a),(tD,b),((Str.ofString "branches"),c),(oi,o)]
def SD:=dJ [] λ c=>kn (hE 99 [] 1 R) (bp 99 [(1,0)] 0 R) (mO a b c none) (fc (bp 99 [] 2 R) (eX A))
theorem Li:call (n+1) 99 [a,b] A j=SD (call n) A a b j:=by kernel_rfl
def OO:=R 100 [a,b] λ o=>d6 99 [(1,0)] 0 R o (mO a b c k) λ ak=>bp 99 [(1,0)] 1 R ak K
theorem Ba:bp 99 [(1,0)] 0 R (mO a b c k) K j=OO R K k a b c j:=by kernel_rfl
def O4:=bz true
theorem Ez:hE 99 [] 1 R (mO a b c k) bz j=O4 bz j:=by kernel_rfl
def OQ:=ek d λ i=>aW (!i) (d0 (λ y=>cJ cp R (.bi .len) [c] λ l=>aE .Eq l (.int 1) λ m=>aW m (item c (.int 0) y) (b9 [(.str [97,108,116]),c] y)) λ p=>K (.ret p) (mO a b c o)) (K .next (mO a b c o))
def OP:=b0 c jw λ d=>bY R d c [o] λ i=>b0 a hB λ y=>bY R y a [(.str [124])] λ l=>OQ R K a b c o l
theorem Bb:bp 99 [(1,0)] 1 R (mO a b c o) K j=OP R K a b c o j:=by kernel_rfl
noncomputable def pM(a b c o:Option E):Loc:=[(qR,a),(tD,b),((Str.ofString "parts"),c),((Str.ofString "changed"),o)]
def O6:=dJ [] λ c=>kn (hE 100 [] 1 R) (bp 100 [(1,0)] 0 R) (pM a b c none) (fc (bp 100 [] 2 R) (eX A))
theorem adI:call (n+1) 100 [a,b] A j=O6 (call n) A a b j:=by kernel_rfl
def L7:=aE .IsNot o E.none λ d=>aW d (K .cont (pM a o c o)) (b0 c jw λ i=>R 101 [a,b] λ y=>R 102 [a,b,y] λ l=>bY R i c [l] λ m=>K .next (pM a b c o))
def L6:=R 96 [a,b] λ o=>ek o λ d=>aW d (K .cont (pM a b c k)) (R 98 [a,b] λ i=>L7 R K a b c i)
theorem TM:bp 100 [(1,0)] 0 R (pM a b c k) K j=L6 R K k a b c j:=by kernel_rfl
def L8:=b9 [(.str [115,101,113]),c] λ o=>b9 [o,b] λ d=>K (.ret d) (pM a b c k)
theorem TN:bp 100 [] 2 R (pM a b c k) K j=L8 K k a b c j:=by kernel_rfl
def OR:=b0 a mG λ o=>bY R o a [] λ d=>b9 [(.str []),(.str [124]),(.str [41])] λ i=>aE .NotIn d i bz
theorem KV:hE 100 [] 1 R (pM a b c k) bz j=OR R bz a j:=by kernel_rfl
def O8:=aE .Eq b (.str [123]) λ c=>cv .And c F (a6 a e3 λ o=>a6 a b' λ d=>R 85 [o,d] λ i=>aE .IsNot i E.none λ y=>cv .And y F (F true))
def O9:=cL a b' o (aE .Eq c (.str [46]) λ d=>aW d (aE .In (.str [115]) b λ i=>b9 [(.str [97,110,121]),(.bool i)] A) (aE .Eq c (.str [94]) λ y=>aW y (d0 (λ l=>aE .In (.str [109]) b λ m=>aW m (l (.str [94,109])) (l (.str [65]))) λ p=>b9 [(.str [97,116]),p] A) (aE .Eq c (.str [36]) λ r=>aW r (d0 (λ t=>aE .In (.str [109]) b λ u=>aW u (t (.str [36,109])) (t (.str [90]))) λ v=>b9 [(.str [97,116]),v] A) (aE .In (.str [105]) b λ w=>b9 [(.str tl),c,(.bool w)] A))))
def O_:=aE .Eq c (.str [40]) λ o=>aW o (R 106 [a,b] A) (aE .Eq c (.str [91]) λ d=>aW d (aE .In (.str [105]) b λ i=>R 76 [a,(.bool i)] A) (aE .Eq c (.str [92]) λ y=>aW y (R 107 [a,b] A) (eF (λ l=>aE .In c v9 λ m=>cv .Or m l (eF (λ p=>O8 R p a c) λ r=>cv .Or r l (l false))) λ t=>aW t (λ z=>False) (a6 a b' λ u=>eR .Add u (.int 1) λ v=>O9 A a b c v))))
def O7:=b0 a mG λ c=>bY R c a [] λ o=>O_ R A a b o
theorem Ao:call (n+1) 101 [a,b] A j=O7 (call n) A a b j:=by kernel_rfl
noncomputable def ny(a b c o d i:Option E):Loc:=[(qR,a),(tD,b),(oi,c),((Str.ofString "count"),o),((Str.ofString "mode"),d),(Ag,i)]
def O':=kn (hE 102 [] 0 R) (bp 102 [(0,0)] 0 R) (ny a b c none none none) (fc (bp 102 [] 1 R) (eX A))
theorem La:call (n+1) 102 [a,b,c] A j=O' (call n) A a b c j:=by kernel_rfl
def L_:=ek b λ c=>aW c (f (.str [108,97,122,121])) (b0 a hB λ o=>bY R o a [(.str [43])] λ d=>ek d λ i=>aW i (f (.str [111,119,110])) (f (.str DM)))
def L':=aE .Is o E.none λ d=>aW d (K (.ret c) (ny a b c o none none)) ((λ(i:E->U->Prop)=>b0 a hB λ y=>bY R y a [(.str [63])] λ l=>L_ R i a l) (λ(m:E)=>kn (hE 102 [] 5 R) (bp 102 [(5,0)] 0 R) (ny a b c o m none) (fc (bp 102 [] 6 R) K)))
def L9:=R 86 [a] λ o=>L' R K a b c o
theorem F0:bp 102 [] 1 R (ny a b c none none none) K j=L9 R K a b c j:=by kernel_rfl
def OS:=R 96 [a,b] λ o=>ek o bz
theorem KW:hE 102 [] 0 R (ny a b c none none none) bz j=OS R bz a b j:=by kernel_rfl
def Mb:=aE .IsNot y E.none λ l=>aW l (λ z=>False) (item o (.int 0) λ m=>item o (.int 1) λ p=>b9 [(.str qz),c,m,p,d] λ r=>K (.ret r) (ny a b c o d i))
def Ma:=a6 a b' λ i=>R 86 [a] λ y=>Mb K a b c o d i y
theorem TO:bp 102 [] 6 R (ny a b c o d none) K j=Ma R K a b c o d j:=by kernel_rfl
def OT:=R 96 [a,b] λ i=>ek i bz
theorem ade:hE 102 [] 5 R (ny a b c o d none) bz j=OT R bz a b j:=by kernel_rfl
def Pb:=a6 a om λ c=>eR .Sub c (.int 1) λ o=>cL a om o (b0 a hB λ d=>bY R d a [(.str [41])] λ i=>ek i λ y=>aW (!y) (λ z=>False) (A b))
def Pc:=aE .Eq c (.int 40) λ o=>aW o (λ z=>False) (a6 a om λ d=>eR .Add d (.int 1) λ i=>cL a om i (R 99 [a,b] λ y=>Pb R A a y))
def Pa:=a6 a om λ o=>Pc R A a b o
theorem adJ:call (n+1) 103 [a,b,c] A j=Pa (call n) A a b j:=by kernel_rfl
def Pe:=aE .NotEq b (.str []) λ o=>aW o (a6 a oj λ d=>b0 d vx λ i=>dJ [] λ y=>bY R i d [b,y] λ l=>b0 l jw λ m=>bY R m l [c] λ p=>hj) hj
def Pf:=cL a g6 d (a6 a g6 λ i=>(λ(y:U->Prop)=>Pe R y a o i) (R 103 [a,b,c] λ l=>b9 [(.str jU),i,l] A))
def Pd:=a6 a g6 λ d=>eR .Add d (.int 1) λ i=>Pf R A a b c o i
theorem adK:call (n+1) 104 [a,b,c,o] A j=Pd (call n) A a b c o j:=by kernel_rfl
def Ph:=d0 (λ o=>ek a λ d=>aW d (R 90 [c] o) (o (.int 0))) λ i=>aE .Lt i (.int 0) λ y=>aW y (λ z=>False) (b9 [(.str qB),c,a,b,i] A)
def Pg:=R 103 [a,b,c] λ i=>Ph R A o d i
theorem adL:call (n+1) 105 [a,b,c,o,d] A j=Pg (call n) A a b c o d j:=by kernel_rfl
noncomputable def h7(a b c o d i y l m:Option E):Loc:=[(qR,a),(tD,b),(Ag,c),((Str.ofString "opening"),o),((Str.ofString "is_behind"),d),(Ey,i),((Str.ofString "close"),y),((Str.ofString "name"),l),((Str.ofString "changed"),m)]
def Pj:=a6 a b' λ c=>forM Gp (d6 106 [] 1 R) (bp 106 [(1,0)] 0 R) (h7 a b c none none none none none none) (fc (bp 106 [] 2 R) (eX A))
theorem Lb:call (n+1) 106 [a,b] A j=Pj (call n) A a b j:=by kernel_rfl
def Md:=ek y λ l=>aW l (R 105 [a,b,c,d,i] λ m=>K (.ret m) (h7 a b c o d i none none none)) (K .next (h7 a b c o d i none none none))
def Mc:=b0 a hB λ y=>bY R y a [o] λ l=>Md R K a b c o d i l
theorem A8:bp 106 [(1,0)] 0 R (h7 a b c o d i none none none) K j=Mc R K a b c o d i j:=by kernel_rfl
def Mf:=ek o λ d=>aW d (R 103 [a,b,c] λ i=>b9 [(.str pg),i] λ y=>K (.ret y) (h7 a b c k b3 cX none none none)) (forM Gs (d6 106 [] 3 R) (bp 106 [(3,0)] 0 R) (h7 a b c k b3 cX none none none) (fc (bp 106 [] 4 R) K))
def Me:=b0 a hB λ o=>bY R o a [(.str [40,63,62])] λ d=>Mf R K k b3 cX a b c d
theorem A9:bp 106 [] 2 R (h7 a b c k b3 cX none none none) K j=Me R K k b3 cX a b c j:=by kernel_rfl
def Mh:=ek y λ l=>aW (!l) (λ z=>False) (R 104 [a,b,c,i] λ m=>K (.ret m) (h7 a b c o k b3 d i none))
def Mi:=ek i λ y=>aW y (R 67 [a,d] λ l=>R 84 [l] λ m=>Mh R K k b3 a b c o d l m) (K .next (h7 a b c o k b3 d cX none))
def Mg:=b0 a hB λ i=>bY R i a [o] λ y=>Mi R K k b3 cX a b c o d y
theorem F1:bp 106 [(3,0)] 0 R (h7 a b c o k b3 d cX none) K j=Mg R K k b3 cX a b c o d j:=by kernel_rfl
def Mk:=eR .Add o (.int 1) λ d=>cL a b' d (R 104 [a,b,c,(.str [])] λ i=>K (.ret i) (h7 a b c k b3 cX fz kN none))
def Ml:=bY R bh a [(.str [58])] λ d=>ek d λ i=>aW (!i) (λ z=>False) (R 103 [a,o,c] λ y=>K (.ret y) (h7 a b c k b3 cX fz kN o))
def Mm:=ek o λ d=>aW (!d) (a6 a b' λ i=>Mk R K k b3 cX fz kN a b c i) (R 97 [a,b] λ y=>b0 a hB λ l=>Ml R K l k b3 cX fz kN a b c y)
def Mj:=b0 a hB λ o=>bY R o a [(.str [40,63])] λ d=>Mm R K k b3 cX fz kN a b c d
theorem F2:bp 106 [] 4 R (h7 a b c k b3 cX fz kN none) K j=Mj R K k b3 cX fz kN a b c j:=by kernel_rfl
def Pl:=eR .Add c (.int 1) λ o=>cL a b' o (b9 [(.str zT),b] λ d=>dJ [d] λ i=>b9 [(.str ph),i,(.bool false),(.bool false)] A)
def Pm:=eF (λ d=>aE .Lt o (.int 10) λ i=>cv .Or i d (a6 a (Str.ofString "total") λ y=>aE .LtE o y λ l=>cv .Or l d (d false))) λ m=>aW m (dJ [o] λ p=>R 87 [a,p,b] λ r=>b9 [(.str oa),r,(.bool s)] A) (cL a b' c (hi (some c) (some o)))
def Pn:=eF (λ o=>aE .NotEq c (.str []) λ d=>cv .And d o (aE .In c (.str [49,50,51,52,53,54,55,56,57]) λ i=>cv .And i o (o true))) λ y=>aW y (a6 a b' λ l=>R 65 [a,yG,(.int (-1))] λ m=>R 66 [m,(.int 10)] λ p=>Pm R A s hi a b l p) (hi none none)
def Po:=eF (λ c=>aE .NotEq b (.str []) λ o=>cv .And o c (aE .In b (.str [112,80,75,82,88]) λ d=>cv .And d c (c true))) λ i=>aW i (λ z=>False) (R 70 [a] λ y=>b9 [(.str tl),y,(.bool s)] A)
def Pp:=ek o λ d=>aW d (R 88 [a,b] λ i=>b9 [(.str oa),i,(.bool s)] A) ((λ(y:Option E->Option E->U->Prop)=>Pn R A s y a b c) (λ(l:Option E)(m:Option E)=>Po R A s a c))
def Pq:=ek o λ d=>aW d (R 89 [a,b] λ i=>b9 [(.str oa),i,(.bool s)] A) (b0 a hB λ y=>bY R y a [(.str [107])] λ l=>Pp R A s a b c l)
def Pr:=eF (λ o=>aE .NotEq c (.str []) λ d=>cv .And d o (bu .Add Gl (.str [78]) λ i=>aE .In c i λ y=>cv .And y o (o true))) λ l=>aW l (a6 a b' λ m=>Pl A a c m) (eF (λ p=>aE .NotEq c (.str []) λ r=>cv .And r p (aE .In c (.str [65,122,90,98,66,71]) λ t=>cv .And t p (p true))) λ u=>aW u (a6 a b' λ v=>eR .Add v (.int 1) λ w=>cL a b' w (b9 [(.str [97,116]),c] A)) (b0 a hB λ x=>bY R x a [(.str [103])] λ H=>Pq R A s a b c H))
def Pt:=a6 a b' λ c=>eR .Add c (.int 1) λ o=>cL a b' o (b0 a mG λ d=>bY R d a [] λ i=>Pr R A s a b i)
def Pk:=a6 a b' λ c=>aE .In (.str [105]) b λ o=>Pt R A o a c
theorem Lc:call (n+1) 107 [a,b] A j=Pk (call n) A a b j:=by kernel_rfl
noncomputable def q1(a b c o d i:Option E):Loc:=[(e3,a),(tD,b),(qR,c),(oi,o),((Str.ofString "numbers"),d),(b',i)]
def Pw:=aE .Lt d i λ y=>aW y (λ z=>False) (a6 c xI λ l=>forM l (d6 108 [] 3 R) (bp 108 [(3,0)] 0 R) (q1 a b c o none none) (fc (bp 108 [] 4 R) (eX A)))
def Fd:=h' v_ (λ o d=>aE .In o b λ i=>aW i (d true) (d false)) (λ o y=>y o) λ l=>bY R bh (.str []) [l] λ m=>R 99 [c,m] λ p=>a6 c b' λ r=>cJ cp R (.bi .len) [a] λ t=>Pw R A a b c p r t
def Pu:=R 81 [a] λ c=>cJ cp R (.cls 64) [a,c] λ o=>b0 (.str []) r0 λ d=>Fd R A d a b o
theorem adM:call (n+1) 108 [a,b] A j=Pu (call n) A a b j:=by kernel_rfl
def Mo:=cJ cp R (.bi .min) [b] λ c=>aE .Lt c (.int 1) λ o=>cv .Or o F (cJ cp R (.bi .max) [b] λ d=>a6 a g6 λ i=>aE .Gt d i λ y=>cv .Or y F (F false))
def Mn:=eF (λ y=>dJ [] λ l=>aE .Eq d l λ m=>cv .Or m y (Mo R y c d)) λ p=>aW p (λ z=>False) (K .next (q1 a b c o d i))
theorem TP:bp 108 [(3,0)] 0 R (q1 a b c o d i) K j=Mn R K a b c o d i j:=by kernel_rfl
def Mp:=a6 c g6 λ d=>a6 c oj λ i=>b9 [o,d,i] λ y=>K (.ret y) (q1 a b c o k b3)
theorem TQ:bp 108 [] 4 R (q1 a b c o k b3) K j=Mp K k b3 a b c o j:=by kernel_rfl
noncomputable def vP(a b c o d:Option E):Loc:=[(e3,a),(tD,b),(oi,c),(g6,o),(oj,d)]
def Px:=R 108 [a,b] λ c=>d6 110 [] 0 R c (vP a b none none none) λ ak=>bp 110 [] 1 R ak (eX A)
theorem adN:call (n+1) 110 [a,b] A j=Px (call n) A a b j:=by kernel_rfl
def Mq:=R 57 [c,o,d] λ i=>K (.ret i) (vP a b c o d)
theorem TS:bp 110 [] 1 R (vP a b c o d) K j=Mq R K a b c o d j:=by kernel_rfl
def Pz:=b9 [(.str [91,97,98,93]),(.str [97,98]),(.bool false)] λ o=>b9 [(.str [92,119]),(.str [97,98,65,49]),(.bool false)] λ d=>b9 [(.str [91,94,97,93]),(.str [97]),(.bool true)] λ i=>dJ [a,b,c,o,d,i] A
def Py:=b9 [(.str [97]),(.str [97]),(.bool false)] λ a=>b9 [(.str [98]),(.str [98]),(.bool false)] λ b=>b9 [(.str [46]),(.str [10]),(.bool true)] λ c=>Pz A a b c
theorem adO:call (n+1) 112 [] A j=Py A j:=by kernel_rfl
def PB:=b9 [(.int 1),(.int 2),(.str [123,49,44,50,125])] λ o=>b9 [(.int 2),(.int 2),(.str [123,50,125])] λ d=>b9 [(.int 0),(.int 2),(.str [123,48,44,50,125])] λ i=>dJ [a,b,c,o,d,i] A
def PA:=b9 [(.int 0),(.int (-1)),(.str [42])] λ a=>b9 [(.int 1),(.int (-1)),(.str [43])] λ b=>b9 [(.int 0),(.int 1),(.str [63])] λ c=>PB A a b c
theorem adP:call (n+1) 113 [] A j=PA A j:=by kernel_rfl
def PD:=aE .Lt c o λ d=>aW d (item a (.int 0) λ i=>item i c λ y=>bu .Mod y b A) (item a (.int 2) λ l=>bu .Mult (.int 7) c λ m=>bu .Add l m λ p=>bu .Mult c c λ r=>bu .FloorDiv r (.int 3) λ t=>bu .Add p t λ u=>bu .Mod u b A)
def PC:=item a (.int 1) λ c=>bu .Add c (.int 1) λ o=>gM a (.int 1) o (item a (.int 0) λ d=>cJ cp R (.bi .len) [d] λ i=>PD A a b c i)
theorem adQ:call (n+1) 114 [a,b] A j=PC (call n) A a b j:=by kernel_rfl
def PF:=h' b (λ c o=>o true) (λ c d=>R 112 [] λ i=>R 114 [a,(.int 6)] λ y=>item i y λ l=>b9 [(.str rR),l] d) λ m=>b9 [(.str tm),m] A
def PE:=aE .Eq b (.int 0) λ c=>aW c (dJ [(.str [92,98]),(.str [94])] λ o=>R 114 [a,(.int 2)] λ d=>item o d λ i=>b9 [(.str rQ),i] A) (cJ cp R (.typ .range) [b] λ y=>PF R A a y)
theorem adR:call (n+1) 115 [a,b] A j=PE (call n) A a b j:=by kernel_rfl
noncomputable def AN(a b c o d i y l m:Option E):Loc:=[((Str.ofString "pen"),a),((Str.ofString "deep"),b),((Str.ofString "loops"),c),((Str.ofString "way"),o),(xG,d),(oh,i),((Str.ofString "mark"),y),((Str.ofString "number"),l),(Af,m)]
def PH:=R 114 [a,(.int 6)] λ i=>item d i λ y=>d6 116 [(2,0)] 1 R y (AN a b c o none none none none none) λ ak=>bp 116 [(2,0)] 2 R ak (fc (bp 116 [] 3 R) (eX A))
def PI:=bu .Sub b (.int 1) λ d=>R 117 [a,d,c] λ i=>R 114 [a,(.int 3)] λ y=>aE .Eq y (.int 2) λ l=>b9 [(.str jU),o,i,(.bool l)] A
def PJ:=h' o (λ d i=>i true) (λ d y=>bu .Sub b (.int 1) λ l=>R 117 [a,l,c] y) λ m=>b9 [(.str DN),m] A
def PK:=eF (λ d=>aE .Lt o (.int 2) λ i=>cv .Or i d (aE .Eq b (.int 0) λ y=>cv .Or y d (d false))) λ l=>aW l (R 112 [] λ m=>R 114 [a,(.int 6)] λ p=>item m p λ r=>b9 [(.str rR),r] A) (eF (λ t=>aE .Lt o (.int 5) λ u=>cv .And u t (aE .Gt c (.int 0) λ v=>cv .And v t (item a (.int 4) λ w=>aE .Lt w (.int 3) λ x=>cv .And x t (t true)))) λ H=>aW H (item a (.int 4) λ D=>eR .Add D (.int 2) λ aA=>gM a (.int 4) aA (R 113 [] λ aw=>PH R A a b c o aw)) (aE .Lt o (.int 8) λ aR=>aW aR (item a (.int 3) λ Q=>eR .Add Q (.int 1) λ bT=>gM a (.int 3) bT (item a (.int 3) λ c_=>PI R A a b c c_)) (eF (λ ku=>aE .Eq o (.int 8) λ P=>cv .And P ku (item a (.int 3) λ S=>aE .Gt S (.int 0) λ T=>cv .And T ku (ku true))) λ mS=>aW mS (item a (.int 3) λ W=>R 114 [a,W] λ X=>bu .Add (.int 1) X λ kx=>R 114 [a,(.int 2)] λ Z=>b9 [(.str vg),kx,Z] A) (eF (λ e=>aE .Eq o (.int 9) λ g=>cv .And g e (item a (.int 4) λ ac=>aE .Lt ac (.int 4) λ ad=>cv .And ad e (e true))) λ h=>aW h (item a (.int 4) λ j=>eR .Add j (.int 1) λ k=>gM a (.int 4) k (cJ cp R (.typ .range) [(.int 2)] λ n=>PJ R A a b c n)) (aE .Eq o (.int 10) λ q=>aW q (bu .Sub b (.int 1) λ s=>R 117 [a,s,c] λ B=>b9 [(.str pg),B] A) (aE .Eq o (.int 11) λ bd=>aW bd (bu .Sub b (.int 1) λ C=>R 117 [a,C,(.int 0)] λ E=>R 114 [a,(.int 2)] λ yC=>aE .Eq yC (.int 1) λ F=>b9 [(.str qB),E,(.int (-1)),(.bool F)] A) (aE .Eq o (.int 12) λ ca=>aW ca (R 114 [a,(.int 3)] λ f=>R 115 [a,f] λ G=>R 114 [a,(.int 2)] λ I=>aE .Eq I (.int 1) λ J=>b9 [(.str qB),G,f,(.bool J)] A) (dJ [(.str [94]),(.str [36]),(.str [92,98])] λ K=>R 114 [a,(.int 3)] λ L=>item K L λ M=>b9 [(.str rQ),M] A))))))))
def PG:=R 114 [a,(.int 13)] λ o=>PK R A a b c o
theorem Ld:call (n+1) 116 [a,b,c] A j=PG (call n) A a b c j:=by kernel_rfl
def Ms:=item m p λ r=>b9 [(.str DO),l,d,i,y,r] λ t=>K (.ret t) (AN a b c o d i y none none)
def Mt:=bu .Sub c (.int 1) λ m=>R 116 [a,l,m] λ p=>dJ [(.str []),(.str [63]),(.str [43])] λ r=>R 114 [a,(.int 3)] λ t=>Ms K a b c o d i y p r t
def Mr:=bu .Sub b (.int 1) λ l=>Mt R K a b c o d i y l
theorem TU:bp 116 [(2,0)] 2 R (AN a b c o d i y none none) K j=Mr R K a b c o d i y j:=by kernel_rfl
def PL:=R 114 [a,(.int 4)] λ o=>cJ cp R (.typ .range) [o] λ d=>h' d (λ i y=>y true) (λ i l=>R 116 [a,b,c] l) λ m=>b9 [(.str tm),m] A
theorem adS:call (n+1) 117 [a,b,c] A j=PL (call n) A a b c j:=by kernel_rfl
def PO:=h' b (λ c o=>o true) (λ c d=>R 118 [c,a] d) λ i=>bY R bh (.str [124]) [i] λ y=>bu .Add (.str [40,63,58]) y λ l=>bu .Add l (.str [41]) A
def PW:=ek c λ o=>aW o (item a (.int 1) λ d=>dJ [d] λ i=>item a (.int 1) λ y=>cJ cp R (.typ .str) [y] λ l=>bu .Add (.str [110]) l λ m=>gM b m i hj) hj
def PX:=ek b λ c=>aW c (item a (.int 1) λ o=>cJ cp R (.typ .str) [o] λ d=>bu .Add (.str [40,63,60,110]) d λ i=>bu .Add i (.str [62]) f) (f (.str [40]))
def PY:=aE .Eq c (.int 1) λ o=>cv .And o F (item a (.int 1) λ d=>cJ cp R (.typ .str) [d] λ i=>bu .Add (.str [110]) i λ y=>aE .In y b λ l=>cv .And l F (F true))
def PZ:=eF (λ b=>item a (.int 2) λ c=>aE .Eq c (.int 0) λ o=>cv .And o b (item a (.int 1) λ d=>aE .Lt d (.int 10) λ i=>cv .And i b (b true))) λ y=>aW y (item a (.int 1) λ l=>cJ cp R (.typ .str) [l] λ m=>bu .Add (.str [40,63,58,92]) m λ p=>bu .Add p (.str [41]) f) (item a (.int 1) λ r=>cJ cp R (.typ .str) [r] λ t=>bu .Add (.str [92,103,123]) t λ u=>bu .Add u (.str [125]) f)
def P0:=d0 (λ o=>item a (.int 3) λ d=>ek d λ i=>aW i (o (.str [33])) (o (.str [61]))) λ y=>bu .Add c y λ l=>item a (.int 1) λ m=>R 118 [m,b] λ p=>bu .Add l p λ r=>bu .Add r (.str [41]) A
def P1:=b9 [(.str rR),(.str jU)] λ c=>aE .In b c λ o=>aW o (f a) (bu .Add (.str [40,63,58]) a λ d=>bu .Add d (.str [41]) f)
def P2:=d0 (λ c=>item a (.int 1) λ o=>item o (.int 0) λ d=>P1 c b d) λ i=>item a (.int 4) λ y=>bu .Add i y λ l=>item a (.int 5) λ m=>bu .Add l m A
def P4:=aE .Eq c (.str qB) λ o=>aW o (d0 (λ d=>item a (.int 2) λ i=>aE .GtE i (.int 0) λ y=>aW y (d (.str [60])) (d (.str []))) λ l=>bu .Add (.str [40,63]) l λ m=>P0 R A a b m) (item a (.int 1) λ p=>R 118 [p,b] λ r=>P2 A a r)
def PQ:=aE .Eq c (.str pg) λ o=>aW o (item a (.int 1) λ d=>R 118 [d,b] λ i=>bu .Add (.str [40,63,62]) i λ y=>bu .Add y (.str [41]) A) (item a (.int 0) λ l=>P4 R A a b l)
def PR:=aE .Eq c (.str vg) λ o=>aW o (eF (λ d=>item a (.int 2) λ i=>PY R d a b i) λ y=>aW y (item a (.int 1) λ l=>cJ cp R (.typ .str) [l] λ m=>bu .Add (.str [92,107,60,110]) m λ p=>bu .Add p (.str [62]) A) (d0 (λ r=>PZ R r a) A)) (item a (.int 0) λ t=>PQ R A a b t)
def PS:=aE .Eq c (.str jU) λ o=>aW o ((λ(d:U->Prop)=>item a (.int 3) λ i=>PW R d a b i) (d0 (λ y=>item a (.int 3) λ l=>PX R y a l) λ m=>item a (.int 2) λ p=>R 118 [p,b] λ r=>bu .Add m r λ t=>bu .Add t (.str [41]) A)) (item a (.int 0) λ u=>PR R A a b u)
def PT:=aE .Eq c (.str DN) λ o=>aW o (b0 (.str [124]) r0 λ d=>item a (.int 1) λ i=>PO R A d b i) (item a (.int 0) λ y=>PS R A a b y)
def PU:=aE .Eq c (.str tm) λ o=>aW o (b0 (.str []) r0 λ d=>item a (.int 1) λ i=>h' i (λ y l=>l true) (λ y m=>R 118 [y,b] m) λ p=>bY R d (.str []) [p] A) (item a (.int 0) λ r=>PT R A a b r)
def PV:=aE .Eq c (.str rR) λ o=>aW o (item a (.int 1) λ d=>item d (.int 0) A) (item a (.int 0) λ i=>aE .Eq i (.str rQ) λ y=>aW y (item a (.int 1) A) (item a (.int 0) λ l=>PU R A a b l))
def PN:=item a (.int 0) λ c=>PV R A a b c
theorem qT:call (n+1) 118 [a,b] A j=PN (call n) A a b j:=by kernel_rfl
def P6:=cJ cp R (.typ .range) [b] λ c=>h' c (λ o d=>item a o λ i=>eN a none (some o) λ y=>aE .NotIn i y λ l=>aW l (d true) (d false)) (λ o m=>item a o m) A
def P5:=cJ cp R (.bi .len) [a] λ b=>P6 R A a b
theorem adU:call (n+1) 119 [a] A j=P5 (call n) A a j:=by kernel_rfl
noncomputable def mh(a b c o d i y l m:Option E):Loc:=[(oi,a),(e3,b),((Str.ofString "pair"),c),(Ah,o),((Str.ofString "done"),d),((Str.ofString "last"),i),(b',y),((Str.ofString "more"),l),(tC,m)]
def P8:=eF (λ c=>item a (.int 3) λ o=>aE .Lt o (.int 0) λ d=>cv .Or d c (item a (.int 3) λ i=>aE .Lt b i λ y=>cv .Or y c (c false))) λ l=>cv .And l F (F true)
def P9:=forM m (d6 120 [(2,0)] 0 R) (bp 120 [(2,0),(0,0)] 0 R) (mh a b c o d i y l none) (fc (bp 120 [(2,0)] 1 R) (fc (bp 120 [] 3 R) (eX A)))
def P_:=eF (λ m=>item a (.int 2) λ p=>aE .Lt d p λ r=>cv .Or r m (eF (λ t=>aE .NotEq i y λ u=>cv .And u t (P8 t a d)) λ v=>cv .Or v m (m false))) λ w=>aW w (item a (.int 1) λ x=>R 125 [x,b,c,o] λ H=>P9 R A a b c o d i y l H) hj
def P':=aE .Lt c d λ i=>aW i (R 119 [o] A) (d0 (λ y=>item a (.int 5) λ l=>aE .Eq l (.str [63]) λ m=>aW m (dJ [b] λ p=>bu .Add p o y) (dJ [b] λ r=>bu .Add o r y)) λ t=>R 119 [t] A)
def P7:=item c (.int 0) λ y=>dJ [] λ l=>(λ(m:U->Prop)=>P_ R A m a b c o d i y l) (item a (.int 2) λ p=>P' R A a c d l p)
theorem adV:call (n+1) 120 [a,b,c,o,d,i] A j=P7 (call n) A a b c o d i j:=by kernel_rfl
def Mv:=R 120 [a,b,m,o,p,y] λ r=>eR .Add l r λ t=>K .next (mh a b c o d i y t m)
def Mu:=bu .Add d (.int 1) λ p=>Mv R K a b c o d i y l m p
theorem TV:bp 120 [(2,0),(0,0)] 0 R (mh a b c o d i y l m) K j=Mu R K a b c o d i y l m j:=by kernel_rfl
def Mw:=K .next (mh a b c o d i y l k)
theorem TX:bp 120 [(2,0)] 1 R (mh a b c o d i y l k) K j=Mw K k a b c o d i y l j:=by kernel_rfl
def My:=aE .Lt d m λ p=>aW p (R 119 [l] λ r=>K (.ret r) (mh a b c o d i y l k)) (d0 (λ t=>item a (.int 5) λ u=>aE .Eq u (.str [63]) λ v=>aW v (dJ [c] λ w=>bu .Add w l t) (dJ [c] λ x=>bu .Add l x t)) λ H=>R 119 [H] λ D=>K (.ret D) (mh a b c o d i y l k))
def Mx:=item a (.int 2) λ m=>My R K k a b c o d i y l m
theorem TY:bp 120 [] 3 R (mh a b c o d i y l k) K j=Mx R K k a b c o d i y l j:=by kernel_rfl
def Qb:=f_ .And c f (b0 a Ab λ o=>bY R o a [] λ d=>b0 b Ab λ i=>bY R i b [] λ y=>aE .Eq d y λ l=>f (.bool l))
def Qa:=d0 (λ o=>aE .Eq a b λ d=>f_ .Or (.bool d) o (d0 (λ i=>Qb R i a b c) o)) A
theorem adW:call (n+1) 121 [a,b,c] A j=Qa (call n) A a b c j:=by kernel_rfl
def Qd:=bu .Add b (.int 1) λ c=>eN a (some b) (some c) λ o=>b9 [(.str [97]),(.str [98]),(.str [65]),(.str [49])] λ d=>aE .In o d λ i=>aE .NotEq (.bool s) (.bool i) λ y=>A (.bool y)
def Qe:=cJ cp R (.bi .max) [c,(.int 0)] λ o=>eN a (some o) (some b) λ d=>b9 [(.str [97]),(.str [98]),(.str [65]),(.str [49])] λ i=>aE .In d i λ y=>Qd A y a b
def Qc:=aE .Eq a (.str [94]) λ o=>aW o (aE .Eq c (.int 0) λ d=>A (.bool d)) (aE .Eq a (.str [36]) λ i=>aW i (eN b (some c) none λ y=>b9 [(.str []),(.str [10])] λ l=>aE .In y l λ m=>A (.bool m)) (bu .Sub c (.int 1) λ p=>Qe R A b c p))
theorem adX:call (n+1) 122 [a,b,c] A j=Qc (call n) A a b c j:=by kernel_rfl
def Qf:=bu .Sub b (.int 1) λ o=>eN a none (some o) λ d=>b9 [c] λ i=>bu .Add d i λ y=>eN a (some b) none λ l=>bu .Add y l A
theorem adY:call (n+1) 123 [a,b,c] A j=Qf A a b c j:=by kernel_rfl
noncomputable def t'(a b c o d i y l:Option E):Loc:=[(oi,a),(e3,b),((Str.ofString "pair"),c),(Ah,o),(b',d),(g6,i),(Ad,y),(tC,l)]
def Qg:=d6 124 [] 0 R c (t' a b c o none none none none) λ ak=>bp 124 [] 1 R ak (eX A)
theorem adZ:call (n+1) 124 [a,b,c,o] A j=Qg (call n) A a b c o j:=by kernel_rfl
def MA:=aE .GtE d (.int 0) λ i=>aW i (item a (.int 1) λ y=>b9 [d,o] λ l=>R 125 [y,b,l,c] λ m=>eN m none (some (.int 1)) f) (dJ [] f)
def MB:=ek m λ p=>aW p (d0 (λ r=>dJ [] λ t=>aE .Eq l t λ u=>aW u (dJ [c] r) (dJ [] r)) λ v=>K (.ret v) (t' a b c o d i y l)) (h' l (λ w x=>x true) (λ w H=>item w (.int 1) λ D=>b9 [d,D] H) λ aA=>K (.ret aA) (t' a b c o d i y l))
def MC:=cJ cp R (.bi .max) [y,(.int 0)] λ l=>bu .Sub d l λ m=>d0 (λ p=>MA R p a b o i m) λ r=>item a (.int 3) λ t=>MB K a b c o d i m r t
def Mz:=item a (.int 2) λ y=>MC R K a b c o d i y
theorem TZ:bp 124 [] 1 R (t' a b c o d i none none) K j=Mz R K a b c o d i j:=by kernel_rfl
noncomputable def gc(a b c o d i y l m p r t:Option E):Loc:=[(oi,a),(e3,b),((Str.ofString "pair"),c),(Ah,o),(b',d),(g6,i),(tC,y),((Str.ofString "one"),l),((Str.ofString "span"),m),((Str.ofString "end"),p),((Str.ofString "pairs"),r),((Str.ofString "later"),t)]
def Qh:=d6 125 [] 0 R c (gc a b c o none none none none none none none none) λ ak=>bp 125 [] 1 R ak (eX A)
theorem ad0:call (n+1) 125 [a,b,c,o] A j=Qh (call n) A a b c o j:=by kernel_rfl
def MF:=item c (.int 1) λ o=>aE .In b o λ d=>f_ .And (.bool d) f (item a (.int 1) λ i=>item i (.int 0) λ y=>item y (.int 0) λ l=>aE .NotEq l (.str [92]) λ m=>f (.bool m))
def MQ:=d0 (λ d=>f_ .And c d (item b o λ i=>b0 i (Str.ofString "swapcase") λ y=>bY R y i [] λ l=>item a (.int 1) λ m=>MF d a l m)) f
def MR:=item a (.int 1) λ d=>item d (.int 2) λ i=>aE .NotEq o i λ y=>aW y (bu .Add b (.int 1) λ l=>b9 [l,c] λ m=>dJ [m] f) (dJ [] f)
def MS:=aE .Eq d y λ l=>aW l (dJ [] λ m=>K (.ret m) (gc a b c o d i none none none none none none)) (d0 (λ p=>item b d λ r=>item a (.int 1) λ t=>item t (.int 1) λ u=>aE .In r u λ v=>f_ .Or (.bool v) p (MQ R p a b o d)) λ w=>d0 (λ x=>MR x a d i w) λ H=>K (.ret H) (gc a b c o d i w none none none none none))
def MT:=d0 (λ l=>item a (.int 5) λ m=>aE .Eq m (.str [43]) λ p=>aW p (l (.int 1)) (bu .Pow (.int 10) (.int 6) l)) λ r=>eN y none (some r) λ t=>K (.ret t) (gc a b c o d i none none none none none none)
def MU:=item c (.int 0) λ o=>item c (.int 1) λ d=>item a (.int 1) λ i=>item c (.int 0) λ y=>b9 [b,y] λ l=>R 123 [d,i,l] λ m=>b9 [o,m] f
def MV:=h' y (λ l m=>m true) (λ l p=>MU R p a d l) λ r=>R 119 [r] λ t=>K (.ret t) (gc a b c o d i none none none none none none)
def MW:=eN a (some c) (some d) λ i=>item o (.int 0) λ y=>item o (.int 1) λ l=>eN a (some y) (some l) λ m=>R 121 [i,m,b] λ p=>ek p λ r=>cv .Or (!r) F (F false)
def MX:=eF (λ m=>aE .Is y E.none λ p=>cv .Or p m (cJ cp R (.bi .len) [b] λ r=>aE .Gt l r λ t=>cv .Or t m (MW R m b o d y l))) λ u=>aW u (dJ [] λ v=>K (.ret v) (gc a b c o d i none none y l none none)) (b9 [l,i] λ w=>dJ [w] λ x=>K (.ret x) (gc a b c o d i none none y l none none))
def MG:=d0 (λ l=>aE .Is y E.none λ m=>aW m (l d) (item y (.int 1) λ p=>bu .Add d p λ r=>item y (.int 0) λ t=>bu .Sub r t l)) λ u=>MX R K a b c o d i y u
def MH:=R 125 [y,b,c,o] λ l=>eN l none (some (.int 1)) λ m=>K (.ret m) (gc a b c o d i none none none none none none)
def MI:=item a (.int 1) λ l=>forM l (d6 125 [] 9 R) (bp 125 [(9,0)] 0 R) (gc a b c o d i none none none none y none) (fc (bp 125 [] 10 R) K)
def MJ:=aE .Eq y (.str qB) λ l=>aW l (R 124 [a,b,c,o] λ m=>K (.ret m) (gc a b c o d i none none none none none none)) (d0 (λ p=>item a (.int 0) λ r=>aE .Eq r (.str tm) λ t=>aW t (dJ [c] p) (dJ [] p)) λ u=>MI R K a b c o d i u)
def MK:=aE .Eq y (.str pg) λ l=>aW l (item a (.int 1) λ m=>MH R K a b c o d i m) (item a (.int 0) λ p=>MJ R K a b c o d i p)
def ML:=aE .Eq y (.str vg) λ l=>aW l (item a (.int 1) λ m=>bu .Sub m (.int 1) λ p=>item i p λ r=>MG R K a b c o d i r) (item a (.int 0) λ t=>MK R K a b c o d i t)
def MM:=aE .Eq y (.str jU) λ l=>aW l (item a (.int 2) λ m=>R 125 [m,b,c,o] λ p=>MV R K a b c o d i p) (item a (.int 0) λ r=>ML R K a b c o d i r)
def MN:=aE .Eq y (.str DO) λ l=>aW l (R 120 [a,b,c,o,(.int 0),(.int (-1))] λ m=>MT K a b c o d i m) (item a (.int 0) λ p=>MM R K a b c o d i p)
def MO:=aE .Eq y (.str rQ) λ l=>aW l (d0 (λ m=>item a (.int 1) λ p=>R 122 [p,b,d] λ r=>ek r λ t=>aW t (dJ [c] m) (dJ [] m)) λ u=>K (.ret u) (gc a b c o d i none none none none none none)) (item a (.int 0) λ v=>MN R K a b c o d i v)
def MP:=aE .Eq y (.str rR) λ l=>aW l (cJ cp R (.bi .len) [b] λ m=>MS R K a b c o d i m) (item a (.int 0) λ p=>MO R K a b c o d i p)
def MD:=item a (.int 0) λ y=>MP R K a b c o d i y
theorem p4:bp 125 [] 1 R (gc a b c o d i none none none none none none) K j=MD R K a b c o d i j:=by kernel_rfl
def MZ:=forM l (d6 125 [(9,0),(0,0)] 1 R) (bp 125 [(9,0),(0,0),(1,0)] 0 R) (gc a b c o d i k y none none l m) (fc (bp 125 [(9,0),(0,0)] 2 R) (fc (bp 125 [(9,0)] 1 R) K))
def M0:=aE .Eq m (.str tm) λ p=>aW p (dJ [] λ r=>MZ R K k a b c o d i y l r) (R 125 [y,b,c,o] λ t=>bu .Add l t λ u=>R 119 [u] λ v=>K .next (gc a b c o d i k y none none v b3))
def MY:=item a (.int 0) λ m=>M0 R K k b3 a b c o d i y l m
theorem F4:bp 125 [(9,0)] 0 R (gc a b c o d i k y none none l b3) K j=MY R K k b3 a b c o d i y l j:=by kernel_rfl
def ME:=K (.ret y) (gc a b c o d i k b3 none none y cX)
theorem F3:bp 125 [] 10 R (gc a b c o d i k b3 none none y cX) K j=ME K k b3 cX a b c o d i y j:=by kernel_rfl
def M1:=R 125 [l,b,y,o] λ r=>eR .Add p r λ t=>K .next (gc a b c o d i y l none none m t)
theorem T1:bp 125 [(9,0),(0,0),(1,0)] 0 R (gc a b c o d i y l none none m p) K j=M1 R K a b c o d i y l m p j:=by kernel_rfl
def M3:=R 119 [m] λ p=>K .next (gc a b c o d i k y none none p m)
theorem T2:bp 125 [(9,0),(0,0)] 2 R (gc a b c o d i k y none none l m) K j=M3 R K k a b c o d i y m j:=by kernel_rfl
def M4:=K .next (gc a b c o d i k y none none l m)
theorem T3:bp 125 [(9,0)] 1 R (gc a b c o d i k y none none l m) K j=M4 K k a b c o d i y l m j:=by kernel_rfl
noncomputable def mi(a b c o d i y l m p r t:Option E):Loc:=[((Str.ofString "script"),a),((Str.ofString "pen"),b),(tD,c),((Str.ofString "code"),o),(e3,d),(oi,i),((Str.ofString "named"),y),((Str.ofString "spelt"),l),(r1,m),((Str.ofString "due"),p),(Ad,r),((Str.ofString "pairs"),t)]
def Qj:=a6 c g6 λ o=>item a (.int 3) λ d=>aE .NotEq o d λ i=>cv .Or i F (a6 c oj λ y=>aE .NotEq y b λ l=>cv .Or l F (F false))
def Qk:=cJ cp R (.typ .range) [p,(.int (-1)),(.int (-1))] λ r=>forM r (d6 126 [] 10 R) (bp 126 [(10,0)] 0 R) (mi a b c o d i y l m (some E.none) none none) (fc (bp 126 [] 11 R) (eX A))
def Ql:=R 118 [i,y] λ l=>R 110 [l,c] λ m=>eF (λ p=>Qj p b y m) λ r=>aW r (A (.bool false)) (cJ cp R (.bi .len) [d] λ t=>Qk R A a b c o d i y l m t)
def Qm:=h' d (λ i y=>y true) (λ i l=>bu .FloorDiv o (.int 5) λ m=>bu .Pow (.int 5) i λ p=>bu .FloorDiv m p λ r=>bu .Mod r (.int 5) λ t=>item (.str [97,98,97,65,10]) t l) λ u=>bY R bh (.str []) [u] λ v=>R 117 [b,(.int 3),(.int 2)] λ w=>yT [] [] λ x=>Ql R A a b c o v w x
def Qn:=bu .Mult o (.int 5) λ d=>R 114 [b,d] λ i=>b0 (.str []) r0 λ y=>bu .Mod i (.int 5) λ l=>cJ cp R (.typ .range) [l] λ m=>Qm R A y a b c i m
def Qo:=dJ [b,(.int 0),c,(.int 0),(.int 0)] λ o=>dJ [(.str []),(.str []),(.str [105])] λ d=>R 114 [o,(.int 3)] λ i=>item d i λ y=>bu .Pow (.int 5) (.int 4) λ l=>Qn R A a o y l
def Qi:=eN a none (some (.int 30)) λ b=>eN a none (some (.int 30)) λ c=>cJ cp R (.bi .sum) [c] λ o=>bu .Mod o (.int 997) λ d=>Qo R A a b d
theorem ad1:call (n+1) 126 [a] A j=Qi (call n) A a j:=by kernel_rfl
def M6:=cJ cp R (.typ .list) [u] λ v=>bu .Add t v λ w=>K .next (mi a b c o d i y l m w p r)
def M7:=item t (.int 0) λ u=>b9 [p,u] λ v=>dJ [v] λ w=>item r (.int 0) λ x=>item x (.int 1) λ H=>M6 R K a b c o d i y l m p r w H
def M8:=aE .NotEq t u λ v=>aW v (item t (.int 0) λ w=>M7 R K a b c o d i y l m r t w) (K .next (mi a b c o d i y l m p r t))
def M9:=aE .Eq c (.str [105]) λ u=>R 125 [i,d,t,(.bool u)] λ v=>eN v none (some (.int 1)) λ w=>dJ [] λ x=>M8 R K a b c o d i y l m p r w x
def M5:=b9 [E.none] λ t=>item b (.int 3) λ u=>bu .Mult t u λ v=>b9 [r,v] λ w=>M9 R K a b c o d i y l m p r w
theorem T4:bp 126 [(10,0)] 0 R (mi a b c o d i y l m p r k) K j=M5 R K a b c o d i y l m p r j:=by kernel_rfl
def M':=R 44 [m,d,(.int 0),r,(.int 0)] λ t=>aE .Eq t p λ u=>K (.ret (.bool u)) (mi a b c o d i y l m p k b3)
def M_:=cJ cp R (.cls 46) [] λ r=>M' R K k b3 a b c o d i y l m p r
theorem T5:bp 126 [] 11 R (mi a b c o d i y l m p k b3) K j=M_ R K k b3 a b c o d i y l m p j:=by kernel_rfl
def PM:=cL a r1 b (cL a e3 c (cL a Ac o (cL a xH d (cL a oh i (cL a pC (.int 0) (cL a b' o (cL a g5 (.int 0) (dJ [] λ y=>cL a g6 y (dJ [] λ l=>cL a h4 l (dJ [] λ m=>cL a iX m (A E.none)))))))))))
theorem adT:call (n+1) 1170 [a,b,c,o,d,i] A j=PM A a b c o d i j:=by kernel_rfl
def Qp:=cL a Af (.int 64) (cL a om (.int 50) (cL a pC (.int 1000000) (cL a e3 (.int 100000) (cL a (Str.ofString "items") (.int 10000) (A E.none)))))
theorem ad2:call (n+1) 1460 [a] A j=Qp A a j:=by kernel_rfl
def Qq:=cL a kl b (cL a g6 c (cL a h4 o (cL a oj d (A E.none))))
theorem ad3:call (n+1) 1490 [a,b,c,o,d] A j=Qq A a b c o d j:=by kernel_rfl
def Qr:=dJ [] λ b=>cL a kl b (cL a h4 (.int 0) (A E.none))
theorem ad4:call (n+1) 1500 [a] A j=Qr A a j:=by kernel_rfl
def Qs:=a6 a kl λ c=>b0 c jw λ o=>bY R o c [b] λ d=>a6 a kl λ i=>cJ cp R (.bi .len) [i] λ y=>bu .Sub y (.int 1) A
theorem ad5:call (n+1) 1501 [a,b] A j=Qs (call n) A a b j:=by kernel_rfl
def Qt:=a6 a h4 λ b=>eR .Add b (.int 1) λ c=>cL a h4 c (a6 a h4 λ o=>bu .Sub o (.int 1) A)
theorem ad6:call (n+1) 1502 [a] A j=Qt A a j:=by kernel_rfl
def Qu:=cL a e3 b (cL a (Str.ofString "total") c (cL a b' (.int 0) (cL a g6 (.int 0) (cL a om (.int 0) (yT [] [] λ o=>cL a oj o (dJ [] λ d=>cL a xI d (A E.none)))))))
theorem ad7:call (n+1) 1640 [a,b,c] A j=Qu A a b c j:=by kernel_rfl
def Qv:=a6 a e3 λ b=>a6 a b' λ c=>a6 a b' λ o=>bu .Add o (.int 1) λ d=>eN b (some c) (some d) A
theorem ad8:call (n+1) 1641 [a] A j=Qv A a j:=by kernel_rfl
def Qx:=aE .NotEq c b λ o=>aW o (A (.bool false)) (a6 a b' λ d=>cJ cp R (.bi .len) [b] λ i=>eR .Add d i λ y=>cL a b' y (A (.bool true)))
def Qy:=a6 a b' λ o=>a6 a b' λ d=>cJ cp R (.bi .len) [b] λ i=>bu .Add d i λ y=>eN c (some o) (some y) λ l=>Qx R A a b l
def Qw:=a6 a e3 λ c=>Qy R A a b c
theorem ad9:call (n+1) 1642 [a,b] A j=Qw (call n) A a b j:=by kernel_rfl
end
section
section
variable{e M x8:U}{k:bl}{i y:Nat}{v w p:E}
theorem J5{k n:Nat}(h:k+1<=n):∃m,n=m+1/\k<=m:=by
 refine a7 (g' (ah (gC 1 k) h)) λ m a=>?_;subst a
 exact⟨m,rfl,kZ h⟩
theorem C9{a:Nat}(h:0<a):((a:Int)-1)=((a-1:Nat):Int):=(Int.ofNat_sub h).symm
theorem u_{P:Nat->Prop}{k:Nat}(h:k<6)(a:P 0)(C:P 1)(I:P 2)(ag:P 3)(b:P 4)(c:P 5):P k:=by
 rcases k with _|_|_|_|_|_|k
 ·exact a
 ·exact C
 ·exact I
 ·exact ag
 ·exact b
 ·exact c
 ·exact absurd h (lI.mpr (gC 6 k))
theorem Dq{P:Nat->Prop}{k:Nat}(h:k<5)(a:P 0)(C:P 1)(I:P 2)(ag:P 3)(b:P 4):P k:=by
 rcases k with _|_|_|_|_|k
 ·exact a
 ·exact C
 ·exact I
 ·exact ag
 ·exact b
 ·exact absurd h (lI.mpr (gC 5 k))
theorem u9{P:Nat->Prop}{k:Nat}(h:k<3)(a:P 0)(C:P 1)(I:P 2):P k:=by
 rcases k with _|_|_|k
 ·exact a
 ·exact C
 ·exact I
 ·exact absurd h (lI.mpr (gC 3 k))
theorem dI(e:U)(i:Nat)(p:dk):(e.upd i p).get i=some p:=aU rfl
theorem ef{p:dk}(h:y≠i):(e.upd i p).get y=e.get y:=a8 h
theorem fR(e:U)(p:dk):(e.alloc p).get e.next=some p:=aU rfl
theorem iA{p:dk}(h:y≠e.next):(e.alloc p).get y=e.get y:=a8 h
structure Fr(S:Nat->Prop)(e M:U):Prop where
 next:e.next<=M.next
 same:∀y,y<e.next->¬S y->M.get y=e.get y
abbrev ei:=Fr λ z=>False
theorem Fr.refl(S:Nat->Prop)(e:U):Fr S e e:=⟨bw _,λ z z z=>rfl⟩
theorem Fr.trans{S:Nat->Prop}(a:Fr S e M)(b:Fr S M x8):Fr S e x8:=⟨ah a.next b.next,λ y C I=>(b.same y (d7 C a.next) I).trans (a.same y C I)⟩
theorem Fr.mono{S b:Nat->Prop}(a:Fr S e M)(h:∀y,y<e.next->S y->b y):Fr b e M:=⟨a.next,λ y C I=>a.same y C λ D=>I (h y C D)⟩
theorem Fr.alloc(S:Nat->Prop)(e:U)(p:dk):Fr S e (e.alloc p):=⟨hp _,λ y h z=>iA (e' h)⟩
theorem Fr.upd(S:Nat->Prop)(e:U)(p:dk)(h:S i):Fr S e (e.upd i p):=⟨bw _,λ y z I=>ef λ d=>I (rwl d h)⟩
theorem Fr.get{S:Nat->Prop}(a:Fr S e M){p:dk}(h:e.get y=some p)(b:y<e.next)(c:¬S y):M.get y=some p:=(a.same y b c).trans h
theorem IX{a:dk}(h:e.get y=some a)(i:E):n8 e (.ref y) i=u1 a i:=by
 show(match e.get y with|some a=>u1 a i|none=>none)=_
 exact rwl h rfl
theorem rF{a:dk}(h:e.get y=some a){x:E}(b:u1 a x=some v)(q:k v e):item (.ref y) x k e:=by unfold item;rw[IX h,b];exact q
theorem bx{x:E}(a:n8 e p x=some v)(q:k v e):item p x k e:=by unfold item;exact rwl a q
theorem df{c:PySem.Operator}{a b:E}(h:mY c a b=some v)(q:k v e):bu c a b k e:=by unfold bu;exact rwl h q
theorem bg{c:PySem.CmpOp}{a b:E}{r:Bool}{c1:Bool->U->Prop}(h:lM e c a b=some r)(q:c1 r e):aE c a b c1 e:=by unfold aE;exact rwl h q
theorem jL{b:Bool}{t f:U->Prop}(C:b=true->t e)(I:b=false->f e):aW b t f e:=by rcases b with _|_;exact I rfl;exact C rfl
theorem k3{s:Prop}[Decidable s]{t f:U->Prop}(C:s->t e)(I:¬s->f e):aW (decide s) t f e:=jL (λ h=>C (gg h)) λ h=>I (rb h)
theorem U7{a b:Int}{t f:U->Prop}(C:a=b->t e)(I:a≠b->f e):aW (a==b) t f e:=jL (λ h=>C (eq_of_beq h)) λ h=>I (by rintro rfl;rw[eC] at h;cases h)
theorem tw{B:List E}{x:Int}{A:U->Prop}(h:e.get y=some (.list B))(a:0<=x)(b:x.toNat<B.length)(c:dU x=true)(q:A (e.upd y (.list (B.set x.toNat v)))):gM (.ref y) (.int x) v A e:=by
 unfold gM;dsimp only;rw[h];exact⟨a,b,c,q⟩
theorem ab2{az:List (List Nat)}{B:List E}{x:List Nat}{A:U->Prop}(h:e.get y=some (.dict az B))(a:az.length<=1000)(q:A (e.upd y (.dict (ke az B x v).1 (ke az B x v).2))):gM (.ref y) (.str x) v A e:=by
 unfold gM;dsimp only;rw[h];exact⟨a,q⟩
theorem gU{c:Nat}{az:List Str}{B:List E}{x:Str}(h:e.get y=some (.inst c az B))(a:qc az B x=some v)(q:k v e):a6 (.ref y) x k e:=by
 unfold a6;simp only[h,a];exact q
theorem e9{c:Nat}{az eG:List Str}{B c2:List E}{x:Str}{A:U->Prop}(h:e.get y=some (.inst c az B))(a:pj x=true)(b:az.length<=100)(d:o3 az B x v=(eG,c2))(q:A (e.upd y (.inst c eG c2))):cL (.ref y) x v A e:=by
 unfold cL;simp only[h,a,d];exact⟨b,q⟩
theorem vd{j:List Nat}{m:Str}{cP:fp}{K:fp->U->Prop}(h:Eu m=some cP)(q:K cP e):b0 (.str j) m K e:=by
 show match Eu m with|some cP=>K cP e|none=>False
 exact rwl h q
theorem rK{m:Str}{a:dk}{cP:fp}{K:fp->U->Prop}(b:e.get y=some a)(h:xe cp m a=some cP)(q:K cP e):b0 (.ref y) m K e:=by
 show match match e.get y with|some a=>xe _ m a|none=>none with|some cP=>K cP e|none=>False
 rw[b,show(match some a with|some a=>xe _ m a|none=>none)=some cP from h];exact q
theorem xm{b:Int}(h:dU b=true):r3 .range [.int b]=some (.rng 0 b 1):=by
 show(if(dU 0&&dU b&&(1==1||1==-1))=true then some _ else none)=_
 rw[h];rfl
theorem e2{B:List E}(h:B.length<=c7)(q:k (.ref e.next) (e.alloc (.list B))):dJ B k e:=⟨h,q⟩
noncomputable def fM:E->Bool
 |.ref _=>false
 |_=>true
theorem B7:∀{B:List E},B.all fM=true->iz B e=(B,e)
 |[],_=>rfl
 |v::r,h=>by
  rw[List.all_cons,ml] at h
  unfold iz
  rw[(by rcases v with _|_<;>first|rfl|exact cy h.1:hc v e=(v,e))]
  dsimp only
  rw[B7 h.2]
theorem cb{B:List E}(a:B.length<=c7)(h:B.all fM=true)(q:k (.tup B) e):b9 B k e:=by
 refine⟨a,?_⟩
 unfold tupK
 exact rwl (B7 h) q
theorem Ek{l u:Option E}(h:pz e p l u=some v)(q:k v e):eN p l u k e:=by unfold eN;exact rwl h q
theorem cF{t f:U->Prop}(q:t e):aW true t f e:=q
theorem br{t f:U->Prop}(q:f e):aW false t f e:=q
theorem xl{c1:Bool->U->Prop}{r:U->Prop}(q:c1 true e):cv .Or true c1 r e:=q
theorem iW{c1:Bool->U->Prop}{r:U->Prop}(q:r e):cv .Or false c1 r e:=q
theorem gE{c1:Bool->U->Prop}{r:U->Prop}(q:r e):cv .And true c1 r e:=q
theorem mV{c1:Bool->U->Prop}{r:U->Prop}(q:c1 false e):cv .And false c1 r e:=q
theorem d_{f:(Bool->U->Prop)->U->Prop}{c1:Bool->U->Prop}(h:f c1 e):eF f c1 e:=h
theorem fX{f:bl->U->Prop}(h:f k e):d0 f k e:=h
section
variable{c1:Bool->U->Prop}{x H:Int}
theorem jN(q:c1 (x==H) e):aE .Eq (.int x) (.int H) c1 e:=q
theorem rr(h:x=H)(q:c1 true e):aE .Eq (.int x) (.int H) c1 e:=jN (by exact rwl (iw.mpr h) q)
theorem wi(h:x≠H)(q:c1 false e):aE .Eq (.int x) (.int H) c1 e:=jN (by exact rwl (fH.mpr h) q)
theorem iD(q:c1 (decide (x<H)) e):aE .Lt (.int x) (.int H) c1 e:=q
theorem u'(h:x<H)(q:c1 true e):aE .Lt (.int x) (.int H) c1 e:=iD (by exact rwl (fi h) q)
theorem rJ(h:¬x<H)(q:c1 false e):aE .Lt (.int x) (.int H) c1 e:=iD (by exact rwl (h8 h) q)
theorem nZ(q:c1 (decide (H<x)) e):aE .Gt (.int x) (.int H) c1 e:=q
theorem HI(h:H<x)(q:c1 true e):aE .Gt (.int x) (.int H) c1 e:=nZ (by exact rwl (fi h) q)
theorem wy(h:¬H<x)(q:c1 false e):aE .Gt (.int x) (.int H) c1 e:=nZ (by exact rwl (h8 h) q)
theorem Dl(q:c1 (decide (x<=H)) e):aE .LtE (.int x) (.int H) c1 e:=q
theorem uM(q:c1 (decide (H<=x)) e):aE .GtE (.int x) (.int H) c1 e:=q
theorem HB(h:H<=x)(q:c1 true e):aE .GtE (.int x) (.int H) c1 e:=uM (by exact rwl (fi h) q)
theorem Xh(h:¬H<=x)(q:c1 false e):aE .GtE (.int x) (.int H) c1 e:=uM (by exact rwl (h8 h) q)
theorem hu{a b:List Nat}(q:c1 (a==b) e):aE .Eq (.str a) (.str b) c1 e:=q
theorem lL{R:dp}{b:tZ}{B:List E}(h:Bn e b B=some v)(q:k v e):cJ cp R (.bi b) B k e:=qE (f:=λ v=>k v e) h q
theorem qS{R:dp}{t:TI}{B:List E}(h:r3 t B=some v)(q:k v e):cJ cp R (.typ t) B k e:=by
 show(match r3 t B with|some v=>k v e|none=>_)
 rw[h];exact q
end
theorem GG{g:E->kv}{i:E->q8}{j:U->Prop}{A:List E->U->Prop}(bT:List E->List E->U->Prop)(c:∀r a e,bT r a e->j e)
  (step:∀v r a e (d:List E->U->Prop),bT (v::r) a e->(∀f M,bT r f M->d f M)->a.length<=c7/\g v (λ b k=>match b with|true=>i v (λ w l=>d (a++[w]) l) k|false=>d a k) e)
  (done:∀a e,bT [] a e->A a e):∀(items a:List E)(e:U),bT items a e->uv g i j items a A e
 |[],a,e,h=>⟨c _ _ _ h,done _ _ h⟩
 |v::r,a,e,h=>⟨c _ _ _ h,step v r _ e _ h λ f M=>GG bT c step done r _ _⟩
theorem uw{v:E}{d:E->kv}{f:E->q8}{items:List E}(i:hx e v=some items)(bT:List E->List E->U->Prop)(j:bT items [] e)(l:∀r a M,bT r a M->hQ v items M)
  (step:∀x r a e (c:List E->U->Prop),bT (x::r) a e->(∀g M,bT r g M->c g M)->a.length<=c7/\d x (λ b h=>match b with|true=>f x (λ w m=>c (a++[w]) m) h|false=>c a h) e)
  (done:∀a e,bT [] a e->k (.lst a) e):h' v d f k e:=by
 unfold h'
 exact rwl i (GG bT l step done _ [] e j)
theorem B4{d:E->Loc->(Loc->U->Prop)->U->Prop}{body:Loc->ej->U->Prop}{f:U->Prop}{K:ej}(bT:List E->Loc->U->Prop)(c:∀r ak e,bT r ak e->f e)
  (step:∀v r ak e (b:ej),bT (v::r) ak e->(∀a M,bT r a M->b .next a M)->(∀a M,bT r a M->b .cont a M)->(∀a M,K .next a M->b .brk a M)->(∀w a M,K (.ret w) a M->b (.ret w) a M)->d v ak (λ g i=>body g b i) e)
  (done:∀ak e,bT [] ak e->K .next ak e):∀(items:List E)(ak:Loc)(e:U),bT items ak e->o2 d body f items ak K e
 |[],ak,e,h=>⟨c _ _ _ h,done _ _ h⟩
 |v::r,ak,e,h=>⟨c _ _ _ h,step v r ak e _ h (λ a M=>B4 bT c step done r _ _) (λ a M=>B4 bT c step done r _ _) (λ z z D=>D) λ z z z D=>D⟩
theorem WJ{v:E}{c:E->Loc->(Loc->U->Prop)->U->Prop}{body:Loc->ej->U->Prop}{K:ej}{ak:Loc}{items:List E}(d:hx e v=some items)(bT:List E->Loc->U->Prop)(f:bT items ak e)(g:∀r ak M,bT r ak M->hQ v items M)
  (step:∀v r ak e (b:ej),bT (v::r) ak e->(∀a M,bT r a M->b .next a M)->(∀a M,bT r a M->b .cont a M)->(∀a M,K .next a M->b .brk a M)->(∀w a M,K (.ret w) a M->b (.ret w) a M)->c v ak (λ h i=>body h b i) e)
  (done:∀ak e,bT [] ak e->K .next ak e):forM v c body ak K e:=by
 unfold forM
 exact rwl d (B4 bT g step done _ ak e f)
theorem mb{g:Loc->kv}{body:Loc->ej->U->Prop}{K:ej}(bT:Nat->Loc->U->Prop)
  (step:∀m ak e (c:ej),bT m ak e->(∀d a M,d<m->bT d a M->c .next a M/\c .cont a M)->(∀a M,K .next a M->c .brk a M)->(∀w a M,K (.ret w) a M->c (.ret w) a M)->
   g ak (λ b i=>match b with|true=>body ak c i|false=>K .next ak i) e) {m:Nat} {ak:Loc} (h:bT m ak e):kn g body ak K e:=by
 suffices go:∀n m ak e,m<n->bT m ak e->tc _ _ n ak K e from⟨m+1,go _ m ak e (eo m) h⟩
 intro n
 induction n with
 |zero=>intro m ak e f;exact((bB m) f).elim
 |succ n j=>
  intro m ak e f h
  exact step m ak e _ h (λ d a M C I=>⟨j d _ _ (d7 C (nN f)) I,j d _ _ (d7 C (nN f)) I⟩) (λ z z D=>D) λ z z z D=>D
end
end
section
section
variable{e:U}{k:bl}{v:E}
theorem sG{g:E->kv}{j:E->q8}{items:List E}(m:hx e v=some items)(bT:Nat->List E->U->Prop)(n:bT 0 [] e)(o:∀i a M,bT i a M->hQ v items M)
  (step:∀i x a e (c:List E->U->Prop),items[i]?=some x->bT i a e->(∀f M,bT (i+1) f M->c f M)->a.length<=c7/\g x (λ b d=>match b with|true=>j x (λ w p=>c (a++[w]) p) d|false=>c a d) e)
  (done:∀a e,bT items.length a e->k (.lst a) e):h' v g j k e:=by
 refine uw m (λ r a M=>∃i,r=items.drop i/\i<=items.length/\bT i a M) ⟨0,rfl,de _,n⟩ (λ r a M ⟨i,_,_,h⟩=>o i _ _ h) (λ x r a d c ⟨i,C,I,ag⟩ q=>?_) λ a d ⟨i,C,I,ag⟩=>?_
 ·have l:i<items.length:=by
   refine pV λ D=>?_
   rw[sr D] at C
   cases C
  rw[oQ l] at C
  (injection C with a0 bL;subst a0 bL)
  exact step i _ _ _ c (hK _) ag λ f M h=>q _ _ ⟨i+1,rfl,l,h⟩
 ·have:=List.drop_eq_nil_iff.mp C.symm
  rw[cB I this] at ag
  exact done _ _ ag
theorem k8{f:E->Loc->(Loc->U->Prop)->U->Prop}{body:Loc->ej->U->Prop}{K:ej}{ak:Loc}{items:List E}(g:hx e v=some items)(bT:Nat->Loc->U->Prop)(j:bT 0 ak e)(k:∀i ak M,bT i ak M->hQ v items M)
  (step:∀i x ak e (b:ej),items[i]?=some x->bT i ak e->(∀a M,bT (i+1) a M->b .next a M/\b .cont a M)->(∀a M,K .next a M->b .brk a M)->(∀w a M,K (.ret w) a M->b (.ret w) a M)->f x ak (λ l c=>body l b c) e)
  (done:∀ak e,bT items.length ak e->K .next ak e):forM v f body ak K e:=by
 refine WJ g (λ r ak M=>∃i,r=items.drop i/\i<=items.length/\bT i ak M) ⟨0,rfl,de _,j⟩ (λ r ak M ⟨i,_,_,h⟩=>k i ak _ h) (λ x r ak c b ⟨i,C,I,ag⟩ Y m n V=>?_) λ ak c ⟨i,C,I,ag⟩=>?_
 ·have d:i<items.length:=by
   refine pV λ D=>?_
   rw[sr D] at C
   cases C
  rw[oQ d] at C
  (injection C with a0 bL;subst a0 bL)
  exact step i _ ak _ b (hK _) ag (λ a M h=>⟨Y _ _ ⟨i+1,rfl,d,h⟩,m _ _ ⟨i+1,rfl,d,h⟩⟩) n V
 ·have:=List.drop_eq_nil_iff.mp C.symm
  rw[cB I this] at ag
  exact done ak _ ag
theorem js{n:Nat}(h:n<=1000000000):dU (n:Int)=true:=by
 unfold dU;rw[fi (by lia),fi (by exact hT.mpr h)];rfl
theorem zu{n:Nat}(h:n<=1000000000):hx e (.rng 0 n 1)=some (jY 0 n 1):=by
 show(if(dU 0&&dU n&&(1==1||1==-1))=true then _ else _)=_
 refine rwl ((js h)) ?_
 rfl
theorem xo(n:Nat):(jY 0 n 1).length=n:=by
 unfold jY;simp
theorem z3{n i:Nat}{x:E}(h:(jY 0 n 1)[i]?=some x):i<n/\x=.int i:=by
 have a:i<n:=by
  refine pV λ D=>?_
  rw[oP (by rw[xo];exact D)] at h
  exact bF h
 refine⟨a,?_⟩
 unfold jY at h
 rw[aU rfl,j',List.getElem?_range (by lia)] at h
 obtain rfl:=ck h
 show E.int _=_
 rw[Int.zero_add]
def dw(e:U)(r:E)(B:List E):Prop:=listOf e r=some B/\∀i,r=.ref i->i<e.next
theorem iV(e:U)(i:Nat):listOf e (.ref i)=Dp (e.get i):=rfl
theorem dw.lst{B:List E}:dw e (.lst B) B:=⟨rfl,λ z h=>nomatch h⟩
theorem dw.new{B:List E}:dw (e.alloc (.list B)) (.ref e.next) B:=⟨by rw[iV,fR];rfl,λ i h=>by(injection h with a0;subst a0);exact eo _⟩
set_option tactic.hygienic true in
theorem dw.fr{S:Nat->Prop}{M:U}{r:E}{B:List E}(h:dw e r B)(f:Fr S e M)(a:∀i,r=.ref i->¬S i):dw M r B:=by
 refine bc h λ C I=>?_;clear h
 refine⟨?_,λ i d=>d7 (I i d) f.next⟩
 rcases r with _|_
 case ref i=>
  have:=f.same i (I i rfl) (a i rfl)
  rw[iV] at C⊢
  exact rwl this C
 all_goals exact C
theorem dw.ext{M:U}{r:E}{B:List E}(h:dw e r B)(f:ei e M):dw M r B:=h.fr f λ z z D=>D
set_option tactic.hygienic true
theorem dw.items{r:E}{B:List E}(h:dw e r B):hx e r=some B:=by
 have C:=h.1
 clear h;rcases r with _|_
 case lst l=>exact C
 case ref i=>exact C
 all_goals exact bF C
theorem dw.hQ{r:E}{B:List E}(h:dw e r B):hQ r B e:=by
 rcases r with _|_
 case ref i=>exact h.items
 all_goals trivial
theorem dw.len{R:dp}{r:E}{B:List E}(h:dw e r B)(a:B.length<=c7)(q:k (.int B.length) e):cJ cp R (.bi .len) [r] k e:=by
 refine lL ?_ q
 have C:=h.1
 clear h;rcases r with _|_
 case lst l=>obtain rfl:=ck C;exact aU a
 case ref i=>
  show(xv e _).bind _=_
  have:xv e (.ref i)=some B:=C
  exact rwl this (aU a)
 all_goals exact bF C
theorem dw.item{r x:E}{B:List E}{i:Nat}(h:dw e r B)(b:i<=1000000000)(c:B[i]?=some x)(q:k x e):Internal.item r (.int i) k e:=by
 refine bx ?_ q
 have C:=h.1
 have d:(if 0<=i&&dU i then B[(i:Int).toNat]? else none)=some x:=by
  exact rwl (js b) (rwl (fi (i4 i)) c)
 clear h;rcases r with _|_
 case lst l=>obtain rfl:=ck C;exact d
 case ref y=>
  rw[iV] at C
  rcases a:e.get y with _|_
  case none=>rw[a] at C;exact bF C
  case some p=>
   rw[a] at C
   rw[IX a]
   clear a;rcases p with _|_
   case list l=>obtain rfl:=ck C;exact d
   case flist l=>obtain rfl:=ck C;exact d
   all_goals exact bF C
 all_goals exact bF C
set_option tactic.hygienic false
theorem eM{n:Nat}(h:n<=1000000000):jK (some (.int n))=some (some n):=by
 show(if 0<=n&&dU n then some _ else none)=_
 refine rwl (js h) (rwl (fi (i4 n)) ?_)
 rfl
set_option tactic.hygienic true in
theorem dw.slice{r:E}{B:List E}{l u:Option E}{dV lu:Option Nat}(h:dw e r B)(a:B.length<=c7)(b:jK l=some dV)(c:jK u=some lu)(q:k (.lst (cut B (dV.getD 0) lu)) e):eN r l u k e:=by
 refine Ek ?_ q
 have C:=h.1
 unfold pz
 refine rwl b (rwl c ?_)
 clear h;rcases r with _|_
 case lst l=>obtain rfl:=ck C;exact aU a
 case ref y=>
  dsimp only
  exact rwl C (aU a)
 all_goals exact bF C
def aco(k:bl)(e:U)(p:Option E):Prop:=match p with|some v=>k v e|none=>False
theorem vs{p:Option E}{v:E}(h:p=some v)(q:k v e):aco k e p:=by exact rwl h q
theorem z_{R:dp}{cP:fp}{j:List Nat}{B:List E}{v:E}(h:og e j cP B=some v)(q:k v e):bY R cP (.str j) B k e:=by
 rcases cP with _|_
 case join=>exact vs h q
 case lower=>exact vs h q
 case swapcase=>exact vs h q
 case find=>exact vs h q
 case index=>exact vs h q
 case split=>exact vs h q
 all_goals exact bF h
theorem dw.add{a b:E}{x H:List E}(c:dw e a x)(d:dw e b H)(f:x.length+H.length<=c7)(q:k (.ref e.next) (e.alloc (.list (x++H)))):bu .Add a b k e:=by
 have C:=c.1
 unfold bu
 exact(by clear c;rcases a with _|_<;>first|rfl|exact bF C:mY .Add a b=none).symm▸C.symm▸d.1.symm▸⟨f,q⟩
theorem IJ{y:Nat}{b:E}{x H:List E}(a:e.get y=some (.list x))(c:dw e b H)(d:x.length+H.length<=c7)(q:k (.ref y) (e.upd y (.list (x++H)))):eR .Add (.ref y) b k e:=by
 show match e.get y with|some p=>C7 y p b k e|none=>False
 refine rwl a ?_
 show match listOf e b with|some H=>x.length+H.length<=c7/\k _ _|none=>False
 exact rwl c.1 (⟨d,q⟩)
theorem Fr.j1{S:Nat->Prop}{aI:U}{i:Nat}{p:dk}(f:Fr S aI e)(h:aI.next<=i):Fr S aI (e.upd i p):=
 ⟨f.next,λ y C I=>(ef (e' (d7 C h))).trans (f.same y C I)⟩
theorem Fr.jI{S:Nat->Prop}{aI:U}{p:dk}(f:Fr S aI e):Fr S aI (e.alloc p):=f.trans (.alloc _ _ _)
theorem mA{f:bl->U->Prop}(P:E->U->Prop)(C:∀a,(∀r M,P r M->a r M)->f a e)(I:∀r M,P r M->k r M):d0 f k e:=C k I
theorem iC{x H:Int}(q:k (.int (x+H)) e):eR .Add (.int x) (.int H) k e:=q
theorem IK{x H:Int}(q:k (.int (x-H)) e):eR .Sub (.int x) (.int H) k e:=q
theorem dj{b:Bool}{c1:Bool->U->Prop}(q:c1 b e):ek (.bool b) c1 e:=q
theorem yF{r:U->Prop}(q:r e):f_ .Or (.bool false) k r e:=q
theorem Bl{r:U->Prop}(q:k (.bool true) e):f_ .Or (.bool true) k r e:=q
theorem p5{r:U->Prop}(q:r e):f_ .And (.bool true) k r e:=q
theorem uq{r:U->Prop}(q:k (.bool false) e):f_ .And (.bool false) k r e:=q
theorem f3{bk:Loc->ej->U->Prop}{K:ej}{ak:Loc}(q:bk ak K e):fc bk K .next ak e:=q
theorem gm{ak:Loc}{w:E}(q:k w e):eX k (.ret w) ak e:=q
theorem ry{ak:Loc}(q:k .none e):eX k .next ak e:=q
theorem Gd{s:Prop}[Decidable s]{r:U->Prop}(C:s->r e)(I:¬s->k (.bool false) e):f_ .And (.bool (decide s)) k r e:=by
 by_cases h:s
 ·exact rwl (fi h) (C h)
 ·exact rwl (h8 h) (I h)
theorem K6{s:Prop}[Decidable s]{c1:Bool->U->Prop}{r:U->Prop}(C:s->c1 true e)(I:¬s->r e):cv .Or (decide s) c1 r e:=by
 by_cases h:s
 ·exact rwl (fi h) (C h)
 ·exact rwl (h8 h) (I h)
theorem j0{R:dp}{j:List Nat}(a:j.length<=c7)(q:k (.int j.length) e):cJ cp R (.bi .len) [.str j] k e:=lL (aU a) q
theorem kk{j:List Nat}{i c:Nat}(a:i<=1000000000)(b:j[i]?=some c)(q:k (.str [c]) e):item (.str j) (.int i) k e:=by
 refine bx ?_ q
 show(if 0<=i&&dU i then j[(i:Int).toNat]? else none).map _=_
 refine rwl (js a) (rwl (fi (i4 i)) (rwl b ?_))
 rfl
theorem kR{j:List Nat}{l u:Option E}{dV lu:Option Nat}(a:j.length<=c7)(b:jK l=some dV)(c:jK u=some lu)(q:k (.str (cut j (dV.getD 0) lu)) e):eN (.str j) l u k e:=by
 refine Ek ?_ q
 unfold pz
 exact b.symm▸c.symm▸aU a
theorem K8{j:List E}{l u:Option E}{dV lu:Option Nat}(a:j.length<=c7)(b:jK l=some dV)(c:jK u=some lu)(q:k (.tup (cut j (dV.getD 0) lu)) e):eN (.tup j) l u k e:=by
 refine Ek ?_ q
 unfold pz
 exact b.symm▸c.symm▸aU a
theorem K7{x H:List E}(a:x.length+H.length<=c7)(q:k (.tup (x++H)) e):bu .Add (.tup x) (.tup H) k e:=df (aU a) q
theorem qP{x H:List Nat}(a:x.length+H.length<=c7)(q:k (.str (x++H)) e):bu .Add (.str x) (.str H) k e:=df (aU a) q
theorem oY{j:List Nat}{a n:Nat}:cut j a (some (a+n))=(j.drop a).take n:=rwl List.take_drop rfl
end
end
section
inductive bq where
 |one (k:Nat)|place (w:Nat)|rounds (x:bq) (c m:Nat)|group (n:Nat) (r:bq) (nm:Bool)|again (n a:Nat)
 |d4 (ab aT:bq)|atomic (r:bq)|look (x:bq) (w:Option Nat) (cW:Bool)
 |nil|cons (x r:bq)
noncomputable def jW:Nat->E
 |0=>.tup [.str [97],.str [97],.bool false]
 |1=>.tup [.str [98],.str [98],.bool false]
 |2=>.tup [.str [46],.str [10],.bool true]
 |3=>.tup [.str [91,97,98,93],.str [97,98],.bool false]
 |4=>.tup [.str [92,119],.str [97,98,65,49],.bool false]
 |_=>.tup [.str [91,94,97,93],.str [97],.bool true]
noncomputable def f':Nat->Int×Int×List Nat
 |0=>(0,-1,[42])
 |1=>(1,-1,[43])
 |2=>(0,1,[63])
 |3=>(1,2,[123,49,44,50,125])
 |4=>(2,2,[123,50,125])
 |_=>(0,2,[123,48,44,50,125])
noncomputable def jt:Nat->List Nat
 |0=>[]
 |1=>[63]
 |_=>[43]
noncomputable def rU:Nat->List Nat
 |0=>[94]
 |1=>[36]
 |_=>[92,98]
noncomputable def xp(l:List E):E:=.tup [.str tm,.lst l]
mutual
noncomputable def bq.v:bq->E
 |.one k=>.tup [.str rR,jW k]
 |.place w=>.tup [.str rQ,.str (rU w)]
 |.rounds x c m=>.tup [.str DO,x.v,.int (f' c).1,.int (f' c).2.1,.str (f' c).2.2,.str (jt m)]
 |.group n r nm=>.tup [.str jU,.int n,r.v,.bool nm]
 |.again n a=>.tup [.str vg,.int n,.int a]
 |.d4 ab aT=>.tup [.str DN,.lst [ab.v,aT.v]]
 |.atomic r=>.tup [.str pg,r.v]
 |.look x w cW=>.tup [.str [108,111,111,107],x.v,.int (match w with|some w=>w|none=>-1),.bool cW]
 |.nil=>xp []
 |.cons x r=>xp (x.v::r.B)
noncomputable def bq.B:bq->List E
 |.cons x r=>x.v::r.B
 |_=>[]
end
inductive jA:Nat->bq->Prop
 |nil:jA 0 .nil
 |cons {w:Nat} {k:Nat} {r:bq}:k<6->jA w r->jA (w+1) (.cons (.one k) r)
theorem u4{a b c G:Nat}(h:a+(b+c)<=G):a+b+c<=G:=ah (jE (ez ..)) h
noncomputable def d5:bq->Bool
 |.nil=>true
 |.cons _ _=>true
 |_=>false
noncomputable def dX:bq->Nat
 |.rounds x _ _=>dX x
 |.group _ r _=>1+dX r
 |.d4 ab aT=>dX ab+dX aT
 |.atomic r=>dX r
 |.look x _ _=>dX x
 |.cons x r=>dX x+dX r
 |_=>0
noncomputable def d':bq->Nat
 |.rounds x _ _=>2+d' x
 |.group _ r _=>d' r
 |.d4 ab aT=>1+(d' ab+d' aT)
 |.atomic r=>d' r
 |.look x _ _=>d' x
 |.cons x r=>d' x+d' r
 |_=>0
noncomputable def gP:bq->Nat
 |.cons _ r=>gP r+1
 |_=>0
def gB:bq->Nat->Prop
 |.one k,_=>k<6
 |.place w,_=>w<3
 |.rounds x c m,g=>c<6/\m<3/\d5 x=false/\gB x g
 |.group n r _,g=>n=g+1/\d5 r=true/\gB r (g+1)
 |.again n a,g=>0<n/\n<=g/\a<2
 |.d4 ab aT,g=>(d5 ab=true/\d5 aT=true)/\gB ab g/\gB aT (g+dX ab)
 |.atomic r,g=>d5 r=true/\gB r g
 |.look x none _,g=>d5 x=true/\gB x g
 |.look x (some w) _,g=>(w<3/\((0<w/\jA w x)\/(w=0/\∃u,u<3/\u≠1/\x=.place u)))/\gB x g
 |.nil,_=>True
 |.cons x r,g=>(d5 x=false/\d5 r=true)/\gB x g/\gB r (g+dX x)
structure nB(bz:Prop)(r:bq):Prop where
 row:d5 r=true
 len:gP r<=3
 k5:bz
def h6:bq->Nat->Prop
 |.one _,_=>True
 |.place _,o=>0<o
 |.rounds x c _,o=>0<o/\c<6/\d5 x=false/\h6 x (o-1)
 |.group _ r _,o=>0<o/\nB (h6 r (o-1)) r
 |.again _ _,o=>0<o
 |.d4 ab aT,o=>0<o/\nB (h6 ab (o-1)) ab/\nB (h6 aT (o-1)) aT
 |.atomic r,o=>0<o/\nB (h6 r (o-1)) r
 |.look x p _,o=>0<o/\((p=none/\nB (h6 x (o-1)) x)\/(∃w,w<3/\jA w x)\/∃u,x=.place u)
 |.nil,_=>True
 |.cons x r,o=>(d5 x=false/\d5 r=true)/\h6 x o/\h6 r o
theorem jA.wf{w:Nat}{r:bq}(h:jA w r):(d5 r=true/\gP r=w/\d' r=0/\∀o,h6 r o)/\dX r=0/\∀g,gB r g:=by
 induction h with
 |nil=>exact⟨⟨rfl,rfl,rfl,λ z=>trivial⟩,rfl,λ z=>trivial⟩
 |cons b _ a=>exact⟨⟨rfl,bA _ a.1.2.1,(gr _).trans a.1.2.2.1,λ o=>⟨⟨rfl,a.1.1⟩,trivial,a.1.2.2.2 o⟩⟩,(gr _).trans a.2.1,λ g=>⟨⟨rfl,a.1.1⟩,b,a.2.2 _⟩⟩
structure Drawn(o g b:Nat)(x:bq)(bN ed:Nat):Prop where
 k5:h6 x o
 wf:gB x g
 rp:bN=g+dX x
 gh:ed=b+d' x
 four:b<=4->ed<=4
def hn(o a g b:Nat)(x:bq)(bN ed:Nat):Prop:=d5 x=false/\Drawn o g b x bN ed
def ft(o a n g b:Nat)(x:bq)(bN ed:Nat):Prop:=(d5 x=true/\gP x<=n)/\Drawn o g b x bN ed
section
variable{o l n g b bN ed cV fP dH gs c m k w a:Nat}{x r ab aT:bq}{nm cW:Bool}
theorem ft.rw(h:ft o l 3 g b r bN ed):nB (h6 r o) r:=⟨h.1.1,h.1.2,h.2.k5⟩
theorem hn.one(h:k<6):hn o l g b (.one k) g b:=⟨rfl,trivial,h,rfl,rfl,id⟩
theorem hn.rounds(C:b<3)(I:c<6)(ag:m<3)(h:hn o l g (b+2) x bN ed):hn (o+1) (l+1) g b (.rounds x c m) bN ed:=⟨rfl,⟨jH o,I,h.1,h.2.k5⟩,⟨I,ag,h.1,h.2.wf⟩,h.2.rp,h.2.gh.trans (ez ..),λ z=>h.2.four (h9 (Nat.succ_le_of_lt C))⟩
theorem hn.group(h:ft o l 3 (g+1) b r bN ed):hn (o+1) l g b (.group (g+1) r nm) bN ed:=⟨rfl,⟨jH o,h.rw⟩,⟨rfl,h.1.1,h.2.wf⟩,h.2.rp.trans (ez ..),h.2.gh,h.2.four⟩
theorem hn.again(C:0<n)(I:n<=g)(ag:a<2):hn (o+1) l g b (.again n a) g b:=⟨rfl,jH o,⟨C,I,ag⟩,rfl,rfl,id⟩
theorem hn.d4(h:b<4)(C:ft o l 3 g (b+1) ab cV fP)(I:ft o l 3 cV fP aT dH gs):hn (o+1) l g b (.d4 ab aT) dH gs:=by
 refine bc C λ c k=>?_;clear C;refine bc c λ a d=>?_;obtain⟨e,f,rfl,rfl,i⟩:=k
 exact⟨rfl,⟨jH o,⟨a,d,e⟩,I.rw⟩,⟨⟨a,I.1.1⟩,f,I.2.wf⟩,I.2.rp.trans (ez ..),I.2.gh.trans ((bA (·+_) (ez ..)).trans ((ez ..).trans (bA _ (ez ..)))),λ z=>I.2.four (i h)⟩
theorem hn.atomic(h:ft o l 3 g b r bN ed):hn (o+1) l g b (.atomic r) bN ed:=⟨rfl,⟨jH o,h.rw⟩,⟨h.1.1,h.2.wf⟩,h.2.rp,h.2.gh,h.2.four⟩
theorem hn.look(h:ft o 0 3 g b r bN ed):hn (o+1) l g b (.look r none cW) bN ed:=⟨rfl,⟨jH o,.inl ⟨rfl,h.rw⟩⟩,⟨h.1.1,h.2.wf⟩,h.2.rp,h.2.gh,h.2.four⟩
theorem hn.wide(h:w<3)(a:jA w x)(c:0<w):hn (o+1) l g b (.look x (some w) cW) g b:=e_ a.wf λ d e f=>f5 d λ j k i m=>⟨rfl,⟨jH o,.inr (.inl ⟨w,h,a⟩)⟩,⟨⟨h,.inl ⟨c,a⟩⟩,f _⟩,bA (g+·) e.symm,bA (b+·) i.symm,id⟩
theorem hn.flat(h:w<3)(C:w≠1):hn (o+1) l g b (.look (.place w) (some 0) cW) g b:=⟨rfl,⟨jH o,.inr (.inr ⟨_,rfl⟩)⟩,⟨⟨ae rfl,.inr ⟨rfl,w,h,C,rfl⟩⟩,h⟩,rfl,rfl,id⟩
theorem hn.place(h:w<3):hn (o+1) l g b (.place w) g b:=⟨rfl,jH o,h,rfl,rfl,id⟩
theorem ft.nil:ft o l n g b .nil g b:=⟨⟨rfl,de n⟩,trivial,trivial,rfl,rfl,id⟩
theorem ft.cons(C:hn o l g b x cV fP)(I:ft o l n cV fP r dH gs):ft o l (n+1) g b (.cons x r) dH gs:=by
 obtain⟨a,c,d,rfl,rfl,e⟩:=C
 exact⟨⟨rfl,h9 I.1.2⟩,⟨⟨a,I.1.1⟩,c,I.2.k5⟩,⟨⟨a,I.1.1⟩,d,I.2.wf⟩,I.2.rp.trans (ez ..),I.2.gh.trans (ez ..),λ h=>I.2.four (e h)⟩
theorem ft.wf(h:ft o l n g b x bN ed):gB x g/\bN=g+dX x:=⟨h.2.wf,h.2.rp⟩
theorem ft.abL(h:ft o l n g b x bN ed):d5 x=true:=h.1.1
theorem ft.more(h:ft o l n g b r bN ed)(Y:n<=m):ft o l m g b r bN ed:=⟨⟨h.1.1,ah h.1.2 Y⟩,h.2⟩
end
noncomputable def bq.snoc:bq->bq->bq
 |.cons x r,H=>.cons x (r.snoc H)
 |_,H=>.cons H .nil
theorem Ky{r H:bq}:d5 (r.snoc H)=true:=by rcases r with _|_<;>rfl
theorem EH{r:bq}(h:d5 r=true):r.v=xp r.B:=by rcases r with _|_<;>first|rfl|exact cy h
theorem Lw(r H:bq):(r.snoc H).B=r.B++[H.v]:=by
 induction r with
 |cons _ _ _ a=>exact bA _ a
 |_=>rfl
theorem jA.snoc{w k:Nat}{r:bq}(h:jA w r)(a:k<6):jA (w+1) (r.snoc (.one k)):=by
 induction h with
 |nil=>exact .cons a .nil
 |cons C _ b=>exact .cons C b
theorem ft.aeZ{o l n g b bN ed:Nat}{x r:bq}(h:ft o l n g b (.cons x r) bN ed):∃m cV fP,n=m+1/\hn o l g b x cV fP/\ft o l m cV fP r bN ed:=by
 obtain⟨⟨_,c⟩,⟨⟨bG,d⟩,e,f⟩,⟨_,iM,mI⟩,i,a,k⟩:=h
 refine a7 (g' (ah (jH _) c)) λ m j=>?_;subst j
 have a:=a.trans (ez ..).symm
 exact gw m _ _ ⟨rfl,⟨bG,e,iM,rfl,rfl,λ D=>ah (ah (dD ..) (jE a.symm)) (k D)⟩,⟨d,kZ c⟩,f,mI,i.trans (ez ..).symm,a,λ D=>k (ah (dD ..) D)⟩
theorem ft.snoc{o l cV fP dH gs:Nat}{r x:bq}(a:hn o l cV fP x dH gs):∀{n g b:Nat},ft o l n g b r cV fP->ft o l (n+1) g b (r.snoc x) dH gs:=by
 induction r with
 |nil=>intro n g b h;obtain rfl:=h.2.rp;obtain rfl:=h.2.gh;exact .cons a .nil
 |cons H r _ c=>intro n g b h;refine fg h.aeZ λ m z z d C I=>?_;subst d;exact .cons C (c I)
 |_=>intro n g b h;exact cy h.1.1
def eu(e:U)(s m g b:Nat):Prop:=s<e.next/\∃sc c,∃a:Nat,a+m<=100000/\(∀v∈sc,∃i,v=.int i)/\sc.length<=100/\e.get s=some (.list [.lst sc,.int a,.int c,.int g,.int b])
theorem eu.mono{e:U}{s m a g b:Nat}(h:eu e s m g b)(c:a<=m):eu e s a g b:=
 let⟨d,sc,f,i,j,C⟩:=h
 ⟨d,sc,f,i,ah (e7 c _) j,C⟩
theorem eu.same{e M:U}{s m g b:Nat}(h:eu e s m g b)(Y:s<M.next)(a:M.get s=e.get s):eu M s m g b:=
 tM h λ z sc c d f C I ag=>⟨Y,sc,c,d,f,C,I,a.trans ag⟩
theorem cn{n:Nat}(h:n<=100):n<=c7:=ah h (ae rfl)
theorem DK(o:Nat):List.all [E.str rR,jW o] fM=true:=by
 refine m' ?_ ?_ ?_ ?_ ?_ (λ z=>?_) o<;>rfl
theorem Wz{i:Int}(a:-1000000000<=i)(C:i<=1000000000):dU i=true:=by
 unfold dU;rw[fi a,fi C];rfl
theorem Kx{i:Int}(a:0<=i)(C:i<=1000000000000):small i=true:=by
 refine fi ?_;lia
theorem G1{x m:Int}(h:0<m):0<=x.fmod m/\x.fmod m<m:=⟨Int.fmod_nonneg_of_pos x h,Int.fmod_lt_of_pos x h⟩
theorem acs{j m:Nat}(h:j+m<=100000):(0<=(j:Int)/\(j:Int)<=1000000000)/\small (j:Int)=true:=⟨⟨i4 j,hT.mpr (J [_,_] 0xee6b2800c320061a808329001 L h)⟩,Kx (i4 j) (hT.mpr (J [_,_] 0x3a3529440010320061a808329001 L h))⟩
theorem B1{i:Int}(h:0<=i/\i<=1000000000):dU i=true:=Wz (Int.le_trans (by decide) h.1) h.2
theorem nT{n s m g b:Nat}{k:Int}{A:bl}{e:U}(B:eu e s (m+1) g b)(l:0<k)
  (q:∀(o:Nat) M,(o:Int)<k->eu M s m g b->Fr (·=s) e M->A (.int o) M):call (n+1) 114 [.ref s,.int k] A e:=by
 refine tM B λ C sc p d r t u h=>bc (acs r) λ D w=>?_
 have f:=dI e s (.list [.lst sc,.int (d+1),.int p,.int g,.int b])
 have fin:∀{x:Int},A (.int (x.fmod _)) (e.upd s _):=λ{x}=>by
  refine bc (G1 (x:=x) l) λ a c=>a7 (uj a) λ o E=>?_
  rw[E] at c⊢
  exact q o _ c ⟨C,sc,p,d+1,ah (jE (vY ..)) r,t,u,f⟩ (Fr.upd _ _ _ rfl)
 have y:∀{x:Int},mY .Mod (.int x) (.int _)=some _:=a8 (Int.ne_of_gt l)
 refine aH (adQ ..) (rF h rfl (tw h (by decide) (show 1<5 by decide) rfl (rF f rfl (lL (aU (ah u (ae rfl))) (iD (k3 (λ j=>?_) λ z=>?_))))))
 ·refine rF f rfl ?_
  have j:=dR.mp j
  refine a7 (t _ (List.getElem_mem j)) λ i F=>bx (v:=.int i) ?_ (df y fin)
  show(if 0<=(d:Int)&&dU _ then sc[(d:Int).toNat]? else none)=_
  rw[B1 D]
  show sc[d]?=_
  rw[hK j,F]
 ·exact rF f rfl (df (aU (by rw[w];rfl)) (df rfl (df (aU (by rw[w];rfl)) (df rfl (df rfl (df y fin))))))
theorem eu.alloc{e:U}{s m g b:Nat}(h:eu e s m g b)(p:dk):eu (e.alloc p) s m g b:=h.same (j9 h.1) (iA (e' h.1))
theorem xa(x:bq):fM x.v=true:=by rcases x with _|_<;>rfl
theorem l'{b:Bool}{k:Bool->U->Prop}{bk:U->Prop}{e:U}(C:b=true->k true e)(I:b=false->bk e):cv .Or b k bk e:=by rcases b with _|_;exact I rfl;exact C rfl
theorem iY{b:Bool}{k:Bool->U->Prop}{bk:U->Prop}{e:U}(C:b=true->bk e)(I:b=false->k false e):cv .And b k bk e:=by rcases b with _|_;exact I rfl;exact C rfl
theorem aaH{n:Nat}{A:bl}{e:U}(q:A (.ref e.next) (e.alloc (.list [jW 0,jW 1,jW 2,jW 3,jW 4,jW 5]))):call (n+1) 112 [] A e:=aH (adO ..) (cb (ae rfl) rfl (cb (ae rfl) rfl (cb (ae rfl) rfl (cb (ae rfl) rfl (cb (ae rfl) rfl (cb (ae rfl) rfl (e2 (ae rfl) q)))))))
noncomputable def mu(c:Nat):E:=.tup [.int (f' c).1,.int (f' c).2.1,.str (f' c).2.2]
theorem VB{n:Nat}{A:bl}{e:U}(q:A (.ref e.next) (e.alloc (.list [mu 0,mu 1,mu 2,mu 3,mu 4,mu 5]))):call (n+1) 113 [] A e:=aH (adP ..) (cb (ae rfl) rfl (cb (ae rfl) rfl (cb (ae rfl) rfl (cb (ae rfl) rfl (cb (ae rfl) rfl (cb (ae rfl) rfl (e2 (ae rfl) q)))))))
theorem Z_{o:Nat}{B:List E}{v:E}(a:B.length<=100)(h:B[o]?=some v):u1 (.list B) (.int o)=some v:=by
 show(if 0<=(o:Int)&&dU o then B[(o:Int).toNat]? else none)=_
 rw[(B1 ⟨i4 o,Int.le_trans (hT.mpr (ah (ka (ix.mp h).1) a)) (by decide)⟩)]
 exact h
theorem vj{n s m g b:Nat}{B:List E}{k:bl}{e aI:U}{a:Nat}(h:e.get a=some (.list B))(i:a≠s)(j:a<e.next){l:Nat}(c:B.length=l)(p:0<l)(r:l<=100)(t:eu e s (m+1) g b)(u:Fr (·=s) aI e)
  (q:∀(o:Nat) v M,B[o]?=some v->eu M s m g b->Fr (·=s) aI M->k v M):call (n+1) 114 [.ref s,.int l] (λ o=>item (.ref a) o k) e:=by
 refine nT t (dR.mpr p) λ o M w x f=>?_
 have d:=hK (rwl c (dR.mp w))
 exact rF (f.get h j i) (Z_ (rwl c r) d) (q o _ _ d x (u.trans f))
theorem aaD{o:Nat}{v:E}(h:[jW 0,jW 1,jW 2,jW 3,jW 4,jW 5][o]?=some v):o<6/\v=jW o:=by
 match o,h with
 |0,h=>obtain rfl:=ck h;exact⟨ae rfl,rfl⟩
 |1,h=>obtain rfl:=ck h;exact⟨ae rfl,rfl⟩
 |2,h=>obtain rfl:=ck h;exact⟨ae rfl,rfl⟩
 |3,h=>obtain rfl:=ck h;exact⟨ae rfl,rfl⟩
 |4,h=>obtain rfl:=ck h;exact⟨ae rfl,rfl⟩
 |5,h=>obtain rfl:=ck h;exact⟨ae rfl,rfl⟩
theorem Vr{o:Nat}{v:E}(h:[mu 0,mu 1,mu 2,mu 3,mu 4,mu 5][o]?=some v):o<6/\v=mu o:=by
 match o,h with
 |0,h=>obtain rfl:=ck h;exact⟨ae rfl,rfl⟩
 |1,h=>obtain rfl:=ck h;exact⟨ae rfl,rfl⟩
 |2,h=>obtain rfl:=ck h;exact⟨ae rfl,rfl⟩
 |3,h=>obtain rfl:=ck h;exact⟨ae rfl,rfl⟩
 |4,h=>obtain rfl:=ck h;exact⟨ae rfl,rfl⟩
 |5,h=>obtain rfl:=ck h;exact⟨ae rfl,rfl⟩
theorem DZ{n s m g b:Nat}{k:bl}{e aI:U}(c:eu e s (m+1) g b)(d:Fr (·=s) aI e)(q:∀(o:Nat) M,o<6->eu M s m g b->Fr (·=s) aI M->k (jW o) M):
  call (n+1) 112 [] (λ a=>call (n+1) 114 [.ref s,.int 6] λ o=>item a o k) e:=by
 refine aaH (vj (l:=6) (fR ..) (hU c.1) (eo _) rfl (ae rfl) (ae rfl) (c.alloc _) (d.trans (Fr.alloc _ _ _)) λ o v M h i f=>bc (aaD h) λ C j=>?_);clear h;subst j
 exact q o _ C i f
theorem Ka{e:U}{w:Nat}(h:w<=100):hx e (.rng 0 w 1)=some (jY 0 w 1)/\(jY 0 w 1).length=w/\dU (w:Int)=true:=by
 have a:=B1 ⟨i4 w,Int.le_trans (hT.mpr h) (by decide)⟩
 refine⟨?_,?_,a⟩
 ·show(if(dU 0&&dU w&&(1==1||1==-1))=true then _ else _)=_
  rw[a]
  rfl
 ·unfold jY;simp
theorem Kg{x:bq}{a:List E}(C:d5 x=true)(I:x.B=a):E.tup [.str tm,.lst a]=x.v:=by rw[EH C,I];rfl
theorem afd{n s m g b w:Nat}{A:bl}{e:U}(d:eu e s (m+3) g b)(i:w<3)
  (q:∀x M,(w=0->∃u,u<3/\u≠1/\x=.place u)->(0<w->jA w x)->eu M s m g b->Fr (·=s) e M->A x.v M):call (n+2) 115 [.ref s,.int w] A e:=by
 refine aH (adR ..) (jN (U7 (λ h=>?_) λ h=>?_))
 ·have h:=k1.mp h
  refine e2 (ae rfl) (vj (l:=2) (fR ..) (hU d.1) (eo _) rfl (ae rfl) (by decide) (d.alloc _) (Fr.alloc _ _ _) λ o v M a t f=>?_)
  have fin:∀{u},u<3->u≠1->A _ _:=λ C I=>q _ _ (λ z=>⟨_,C,I,rfl⟩) (λ D=>((hU D) h).elim) (t.mono (dD ..)) f
  match o,a with
  |0,a=>obtain rfl:=ck a;exact cb (ae rfl) rfl (fin (u:=2) (ae rfl) (by decide))
  |1,a=>obtain rfl:=ck a;exact cb (ae rfl) rfl (fin (u:=0) (ae rfl) (by decide))
 ·refine e_ (Ka (ah (ka i) (by decide))) λ ab aT y=>qS (xm y) (uw ab (λ r c M=>∃x,jA c.length x/\x.B=c/\c.length+r.length=w/\eu M s (m+1+r.length) g b/\Fr (·=s) e M) ⟨.nil,.nil,rfl,(gr _).trans aT,d.mono (rwl aT (ah (e7 (nN i) _) (jE (ez ..)))),.refl _ _⟩ (λ z z z z=>trivial) (λ v r c E J j F=>?_) λ c E j=>?_)
  ·refine LI j λ x C I ag k p=>⟨cn (ah (ah (dD ..) (jE ag)) (ah (ka i) (by decide))),DZ k p λ o K a G H=>cb (cn (n:=2) (by decide)) (DK o) (F _ _ ⟨x.snoc (.one o),?_,(Lw x _).trans (by rw[I];rfl),?_,G,H⟩)⟩
   ·rw[bR];exact C.snoc a
   ·rw[bR];exact(vY ..).trans ag
  ·refine LI j λ x C I ag k p=>?_;have ag:c.length=w:=ag
   have C:=ag▸C
   refine cb (cn (n:=2) (by decide)) rfl ?_
   exact rwl (Kg C.wf.1.1 I) (q x _ (λ D=>((hU (Nat.pos_of_ne_zero λ D=>h (bA _ D))) D).elim) (λ z=>C) (k.mono (dD ..)) p)
noncomputable def nS:Nat->Nat
 |0=>6
 |o+1=>6*nS o+8
def NodeOk(o:Nat):Prop:=∀(l s m g b n:Nat)(A:bl)(e:U),2*o+4<=n->eu e s (m+nS o) g b->
 (∀x bN ed M,hn o l g b x bN ed->eu M s m bN ed->Fr (·=s) e M->A x.v M)->call n 116 [.ref s,.int o,.int l] A e
theorem vm{o:Nat}(i:NodeOk o){l s m g b n:Nat}{A:bl}{e:U}(Y:2*o+5<=n)(j:eu e s (m+(3*nS o+1)) g b)
  (q:∀x bN ed M,ft o l 3 g b x bN ed->eu M s m bN ed->Fr (·=s) e M->A x.v M):call n 117 [.ref s,.int o,.int l] A e:=by
 refine a7 (g' (ah (gC 1 _) Y)) λ n p=>?_;subst p
 have Y:=kZ Y
 refine a7 (g' (ah (gC 1 _) Y)) λ n t=>?_;subst t
 refine aH (adS ..) (nT j (by decide) λ k J a u w=>?_)
 have a:=nN (dR.mp a)
 refine e_ (Ka (ah a (by decide))) λ ab aT y=>qS (xm y) (uw ab (λ r c M=>∃x bN ed,ft o l c.length g b x bN ed/\x.B=c/\c.length+r.length=k/\eu M s (m+nS o*r.length) bN ed/\Fr _ e M) (gw .nil g b ⟨.nil,rfl,(gr _).trans aT,u.mono (e7 (aT.symm▸rwr (Nat.mul_comm ..) (pU _ a)) m),w⟩) (λ z z z z=>trivial) (λ v r c D K d E=>?_) λ c D d=>?_)
 ·refine LK d λ x bN ed C I ag f h=>⟨cn (ah (ah (dD ..) (jE ag)) (ah a (by decide))),i l s _ bN ed _ _ _ Y (f.mono (jE (ez ..))) λ H dH gs L b_ F G=>E _ _ (gw (x.snoc H) dH gs ⟨?_,(Lw x _).trans (by rw[I]),?_,F,h.trans G⟩)⟩
  ·rw[bR];exact ft.snoc b_ C
  ·rw[bR];exact(vY ..).trans ag
 ·refine LK d λ x bN ed C I ag f h=>?_;have ag:c.length=k:=ag
  refine cb (cn (n:=2) (by decide)) rfl ?_
  exact rwl (Kg C.1.1 I) (q x bN ed _ (C.more (rwl ag a)) f h)
theorem eu.sQ{e:U}{s m g b:Nat}(h:eu e s m g b){k:bl}(q:k (.int g) e):item (.ref s) (.int 3) k e:=tM h λ z sc a c z z z h=>rF h rfl q
theorem eu.uo{e:U}{s m g b:Nat}(h:eu e s m g b){k:bl}(q:k (.int b) e):item (.ref s) (.int 4) k e:=tM h λ z sc a c z z z h=>rF h rfl q
theorem eu.ab_{e:U}{s m g b bN:Nat}{x:Int}(h:eu e s m g b)(a:x=bN){A:U->Prop}(q:∀M,eu M s m bN b->Fr (·=s) e M->A M):gM (.ref s) (.int 3) (.int x) A e:=by
 refine tM h λ c sc d f i C I h=>?_
 subst a
 exact tw h (by decide) (show 3<5 by exact ae rfl) rfl (q _ ⟨c,sc,d,f,i,C,I,dI ..⟩ (Fr.upd _ _ _ rfl))
theorem eu.Ku{e:U}{s m g b ed:Nat}{x:Int}(h:eu e s m g b)(a:x=ed){A:U->Prop}(q:∀M,eu M s m g ed->Fr (·=s) e M->A M):gM (.ref s) (.int 4) (.int x) A e:=by
 refine tM h λ c sc d f i C I h=>?_
 subst a
 exact tw h (by decide) (show 4<5 by exact ae rfl) rfl (q _ ⟨c,sc,d,f,i,C,I,dI ..⟩ (Fr.upd _ _ _ rfl))
theorem tB{o:Nat}{k:bl}{e:U}(q:k (.int o) e):bu .Sub (.int (o+1:Nat)) (.int 1) k e:=df (bA _ (bA _ (Int.add_sub_cancel o 1))) q
end
theorem aai{l s m g b n:Nat}{A:bl}{e:U}(Y:4<=n)(a:eu e s (m+6) g b)
  (q:∀k M,k<6->eu M s m g b->Fr (·=s) e M->A (bq.one k).v M):call n 116 [.ref s,.int (0:Nat),.int l] A e:=by
 refine a7 (g' (ah (by decide:2<=4) Y)) λ n c=>?_;clear Y;subst c
 refine aH (Ld ..) (nT a (by decide) λ w r t d f=>?_)
 refine d_ (iD (l' (λ z=>cF ?_) λ z=>rr rfl (xl (cF ?_))))
 all_goals exact(λ(k:bl)(h:∀o M,o<6->eu _ s _ g b->Fr _ e _->k _ _)=>DZ (n:=n) d f h) _ λ o u i j p=>cb (cn (n:=2) (ae rfl)) (DK o) (q o _ i (j.mono (dD ..)) p)
theorem aaP(m c:Nat):m+3+c<=m+(6*c+6):=J [_,_] 0x1845304040146220000 L
theorem aaQ(m c:Nat):m+4+(3*c+1)<=m+(6*c+7):=J [_,_] 0x388a608080088a30808220000 L
theorem aaR(m c:Nat):m+(3*c+1)+(3*c+1)<=m+(6*c+7):=J [_,_] 0x388a608080088a30802228c2020000 L
theorem HJ{x H:Nat}(h:¬x<H):¬(x:Int)<H:=λ D=>h (dR.mp D)
theorem neN{x H:Nat}(h:x≠H):(x:Int)≠H:=λ D=>h (k1.mp D)
theorem ZW{m:Nat}{v:E}(a:[E.str [],.str [63],.str [43]][m]?=some v):m<3/\v=.str (jt m):=by
 match m,a with
 |0,a=>obtain rfl:=ck a;exact⟨ae rfl,rfl⟩
 |1,a=>obtain rfl:=ck a;exact⟨ae rfl,rfl⟩
 |2,a=>obtain rfl:=ck a;exact⟨ae rfl,rfl⟩
theorem aaV{m:Nat}{v:E}(a:[E.str [94],.str [36],.str [92,98]][m]?=some v):m<3/\v=.str (rU m):=by
 match m,a with
 |0,a=>obtain rfl:=ck a;exact⟨ae rfl,rfl⟩
 |1,a=>obtain rfl:=ck a;exact⟨ae rfl,rfl⟩
 |2,a=>obtain rfl:=ck a;exact⟨ae rfl,rfl⟩
theorem aah{o:Nat}(K:NodeOk o):NodeOk (o+1):=by
 intro l s m g b n A e Y aq q
 refine a7 (g' (ah (ah (by decide:3<=6) (gC 6 _)) Y)) λ n eI=>?_;subst eI
 have Y:=kZ (kZ (kZ Y))
 have O:=h9 (h9 Y)
 refine aH (Ld ..) (nT aq (by decide) λ w av aD d D=>?_)
 have rows:=d.mono (aaQ m _)
 by_cases I:w<2
 ·exact d_ (bg (bA _ (fi (dR.mpr I))) (DZ d D λ k G aC f j=>cb (cn (n:=2) (ae rfl)) (DK k) (q _ g b _ (.one aC) (f.mono (dD ..)) j)))
 refine d_ (rJ (HJ I) (iW (wi (neN (Nat.succ_ne_zero o)) (iW (br ?_)))))
 by_cases U:w<5/\0<l/\b<3
 ·refine e_ U λ W Q R=>?_;clear U
  refine a7 (g' Q) λ l eV=>?_;subst eV
  refine d_ (u' (dR.mpr W) (gE (HI (dR.mpr Q) (gE (d.uo (u' (dR.mpr R) (gE (cF (d.uo (d.Ku rfl λ G f j=>VB (vj (l:=6) (fR ..) (hU f.1) (eo _) rfl (ae rfl) (by decide) (f.alloc _) ((D.trans j).trans (Fr.alloc _ _ _)) λ c v E L p t=>bc (Vr L) λ XH fh=>?_)))))))))));subst fh
  refine aH (TU _ _ _ _ _ _ _ _ _ _) (tB (tB (K l s _ g _ _ _ _ (oR (h9 Y)) (p.mono (aaP m _)) λ x bN ed J af y B=>e2 (cn (n:=3) (by decide)) (vj (l:=3) (fR ..) (hU y.1) (eo _) rfl (ae rfl) (by decide) (y.alloc _) ((t.trans B).trans (Fr.alloc _ _ _)) λ cP v lB L zh ru=>bc (ZW L) λ N ey=>?_))));subst ey
  exact cb (cn (n:=6) (by decide)) (by show(true&&(fM _&&true))=true;rw[xa];rfl) (q _ bN ed _ (.rounds R XH N af) (zh.mono (dD ..)) ru)
 refine(λ F=>d_ (iD (iY (λ W=>nZ (iY (λ Q=>d.uo (iD (iY (λ R=>(U ⟨dR.mp (gg W),dR.mp (gg Q),dR.mp (gg R)⟩).elim) λ z=>F))) λ z=>F)) λ z=>F))) ?_
 refine br ?_
 by_cases gV:w<8
 ·exact u' (dR.mpr gV) (cF (rows.sQ (rows.ab_ (bN:=g+1) rfl λ G f j=>f.sQ (tB (vm K O f λ r bN ed E V p t=>nT p (by decide) λ cP J N y B=>jN (cb (cn (n:=4) (by decide)) (by show(true&&true&&(fM _&&true))=true;rw[xa];rfl) (q _ bN ed _ (.group V) (y.mono (dD ..)) (((D.trans j).trans t).trans B))))))))
 refine rJ (HJ gV) (br ?_)
 by_cases S:w=8/\0<g
 ·exact d_ (rr (bA _ S.1) (gE (d.sQ (HI (dR.mpr S.2) (gE (cF (d.sQ (nT d (dR.mpr S.2) λ i G aM f j=>df (bA _ (bA _ (Int.add_comm 1 _))) (nT f (by decide) λ a E au p t=>cb (cn (n:=3) (by decide)) rfl (q _ g b _ (.again (jH i) (dR.mp aM) (dR.mp au)) (p.mono (dD ..)) ((D.trans j).trans t)))))))))))
 refine(λ F=>d_ (jN (iY (λ h=>d.sQ (nZ (iY (λ X=>(S ⟨k1.mp (eq_of_beq h),dR.mp (gg X)⟩).elim) λ z=>F))) λ z=>F))) ?_
 refine br ?_
 by_cases T:w=9/\b<4
 ·refine d_ (rr (bA Int.ofNat T.1) (gE (d.uo (u' (dR.mpr T.2) (gE (cF (d.uo (d.Ku (ed:=b+1) rfl λ G f j=>qS (v:=.rng 0 2 1) rfl ?_))))))))
  have f:=f.mono (aaR m (nS o))
  have j:=D.trans j
  clear d rows D
  refine uw (items:=jY 0 2 1) rfl (λ r P M=>(r.length=2/\P=[]/\M=G)\/(r.length=1/\∃ab cV fP,ft o l 3 g (b+1) ab cV fP/\P=[ab.v]/\eu M s (m+(3*nS o+1)) cV fP/\Fr (·=s) e M)\/
   (r.length=0/\∃ab aT dH gs,hn (o+1) l g b (.d4 ab aT) dH gs/\P=[ab.v,aT.v]/\eu M s m dH gs/\Fr (·=s) e M)) (.inl ⟨rfl,rfl,rfl⟩) (λ z z z z=>trivial) (λ v r P E g_ Z cq=>?_) λ P E Z=>?_
  ·rcases Z with⟨V,rfl,rfl⟩|⟨V,ab,cV,fP,C,rfl,p,t⟩|⟨V,_⟩
   ·exact⟨cn (n:=0) (ae rfl),tB (vm K (l:=l) O f λ ab cV fP J C y B=>cq _ _ (.inr (.inl ⟨Nat.succ.inj V,ab,cV,fP,C,rfl,y,j.trans B⟩)))⟩
   ·exact⟨cn (n:=1) (ae rfl),tB (vm K (l:=l) O p λ aT dH gs J I y B=>cq _ _ (.inr (.inr ⟨Nat.succ.inj V,ab,aT,dH,gs,.d4 T.2 C I,rfl,y,t.trans B⟩)))⟩
   ·exact((Nat.succ_ne_zero _) V).elim
  ·rcases Z with⟨V,_⟩|⟨V,_⟩|⟨_,ab,aT,dH,gs,C,rfl,p,t⟩
   ·cases V
   ·cases V
   ·exact cb (cn (n:=2) (ae rfl)) rfl (q (.d4 ab aT) dH gs E C p t)
 refine(λ F=>d_ (jN (iY (λ h=>d.uo (iD (iY (λ X=>(T ⟨k1.mp (eq_of_beq h),dR.mp (gg X)⟩).elim) λ z=>F))) λ z=>F))) ?_
 refine br ?_
 by_cases HK:w=10
 ·refine rr (bA Int.ofNat HK) (cF (tB (vm K (l:=l) O rows λ r bN ed E V p t=>?_)))
  exact cb (cn (n:=2) (ae rfl)) (by show(true&&(fM r.v&&true))=true;rw[xa];rfl) (q (.atomic r) bN ed E (.atomic V) (p.mono (dD ..)) (D.trans t))
 refine wi (neN HK) (br ?_)
 by_cases HL:w=11
 ·refine rr (bA Int.ofNat HL) (cF (tB (vm K (l:=0) O rows λ r bN ed E V p t=>nT (m:=m+3) p (by decide) λ cP J N y B=>jN ?_)))
  exact cb (cn (n:=4) (by decide)) (by show(true&&(fM r.v&&true))=true;rw[xa];rfl) (q (.look r none ((cP:Int)==1)) bN ed J (.look V) (y.mono (dD ..)) ((D.trans t).trans B))
 refine wi (neN HL) (br ?_)
 by_cases HM:w=12
 ·refine rr (bA Int.ofNat HM) (cF (nT (m:=m+(6*nS o+6)) d (by decide) λ u G b6 f j=>afd (m:=m+(6*nS o+3)) f (dR.mp b6) λ x E Iz Yo p t=>nT (m:=m+(6*nS o+2)) p (by decide) λ cP J N y B=>jN ?_))
  refine cb (cn (n:=4) (by decide)) (by show(true&&(fM x.v&&true))=true;rw[xa];rfl) (q (.look x (some u) ((cP:Int)==1)) g b J ?_ (y.mono (dD ..)) (((D.trans j).trans t).trans B))
  rcases Nat.eq_zero_or_pos u with rfl|bC
  ·refine fB (Iz rfl) λ H C I fD=>?_;clear Iz;subst fD
   exact .flat C I
  ·exact .wide (dR.mp b6) (Yo bC) bC
 refine wi (neN HM) (br (e2 (cn (n:=3) (by decide)) (vj (l:=3) (m:=m+(6*nS o+6)) (fR ..) (hU d.1) (eo _) rfl (ae rfl) (by decide) (d.alloc _) (D.trans (Fr.alloc _ _ _)) λ cP v G L f j=>(bc (aaV L) λ N gQ=>?_))));clear L;subst gQ
 exact cb (cn (n:=2) (ae rfl)) rfl (q (.place cP) g b G (.place N) (f.mono (dD ..)) j)
theorem aag(o:Nat):NodeOk o:=by
 induction o with
 |zero=>exact λ l s m g b n A e Y a q=>aai Y a λ k M c=>q (.one k) g b M (.one c)
 |succ o d=>exact aah d
end
section
section
abbrev cA:=List (Option (Nat×Nat))
abbrev cm:=Nat×cA
noncomputable def pl:Nat->List Nat
 |0=>[97]
 |1=>[98]
 |2=>[10]
 |3=>[97,98]
 |4=>[97,98,65,49]
 |_=>[97]
noncomputable def DT:Nat->Bool
 |0=>false
 |1=>false
 |2=>true
 |3=>false
 |4=>false
 |_=>true
noncomputable def qG(f:Bool)(k j:Nat):Bool:=((pl k).contains j||(f&&(pl k).contains (vz j)&&k !=4))!=DT k
noncomputable def r6(j:List Nat):Bool:=j==[97]||j==[98]||j==[65]||j==[49]
noncomputable def kP(w:Nat)(T:List Nat)(a:Nat):Bool:=match w with
 |0=>a==0
 |1=>T.drop a==[]||T.drop a==[10]
 |_=>r6 ((T.take a).drop (a-1))!=r6 ((T.drop a).take 1)
noncomputable def oe(f:Bool)(x H:List Nat):Bool:=x==H||(f&&x.map pd==H.map pd)
noncomputable def dg(c:Nat):Nat:=(f' c).1.toNat
noncomputable def dW(c:Nat):Int:=(f' c).2.1
noncomputable def gL(F:Nat->cA->List cm)(bD:Nat)(a4:Int)(lazy:Bool):Nat->Nat->Int->Nat->cA->List cm
 |0,_,_,_,_=>[]
 |n+1,done,b,a,O=>
  if done<bD then(F a O).flatMap λ w=>gL F bD a4 lazy n (done+1) a w.1 w.2
  else if b=a\/(0<=a4/\a4<=done) then[(a,O)]
  else if lazy then(a,O)::(F a O).flatMap λ w=>gL F bD a4 lazy n (done+1) a w.1 w.2
  else((F a O).flatMap λ w=>gL F bD a4 lazy n (done+1) a w.1 w.2)++[(a,O)]
theorem tu{F:Nat->cA->List cm}{bD:Nat}{a4:Int}{lazy:Bool}{n done:Nat}{b:Int}{a:Nat}{O:cA}:gL F bD a4 lazy (n+1) done b a O=if done<bD then(F a O).flatMap λ w=>gL F bD a4 lazy n (done+1) a w.1 w.2
 else if b=a\/(0<=a4/\a4<=done) then[(a,O)]
 else if lazy then(a,O)::(F a O).flatMap λ w=>gL F bD a4 lazy n (done+1) a w.1 w.2
 else((F a O).flatMap λ w=>gL F bD a4 lazy n (done+1) a w.1 w.2)++[(a,O)]:=rfl
noncomputable def m7:bq->Bool
 |.one _=>true
 |_=>false
section
variable(T:List Nat)(f:Bool)
noncomputable def bI:bq->Nat->cA->List cm
 |.one k,a,O=>match T[a]? with
  |some c=>if qG f k c then[(a+1,O)] else[]
  |none=>[]
 |.place w,a,O=>if kP w T a then[(a,O)] else[]
 |.rounds x c m,a,O=>if m=2 then(gL (bI x) (dg c) (dW c) (m==1) 12 0 (-1) a O).take 1 else gL (bI x) (dg c) (dW c) (m==1) 12 0 (-1) a O
 |.group n r _,a,O=>(bI r a O).map λ w=>(w.1,w.2.set (n-1) (some (a,w.1)))
 |.again n _,a,O=>match O[n-1]? with
  |some (some (b,d))=>if a+(d-b)<=T.length/\oe f ((T.drop a).take (d-b)) ((T.drop b).take (d-b))=true then[(a+(d-b),O)] else[]
  |_=>[]
 |.d4 ab aT,a,O=>bI ab a O++bI aT a O
 |.atomic r,a,O=>(bI r a O).take 1
 |.look x w cW,a,O=>
  if cW then(match if w.getD 0<=a then(bI x (a-w.getD 0) O).take 1 else[] with
   |[]=>[(a,O)]
   |_=>[])
  else(if w.getD 0<=a then(bI x (a-w.getD 0) O).take 1 else[]).map λ v=>(a,v.2)
 |.nil,a,O=>[(a,O)]
 |.cons x r,a,O=>(bI x a O).flatMap λ w=>bI r w.1 w.2
noncomputable def oX(F:Nat->cA->List cm)(G:Nat->cA->Nat)(bD:Nat)(a4:Int):Nat->Nat->Int->Nat->cA->Nat
 |0,_,_,_,_=>0
 |n+1,done,b,a,O=>
  if done<bD\/¬(b=a\/(0<=a4/\a4<=done)) then 2+G a O+((F a O).map λ w=>1+oX F G bD a4 n (done+1) a w.1 w.2).sum
  else 1
theorem Gq{F:Nat->cA->List cm}{G:Nat->cA->Nat}{bD:Nat}{a4:Int}{n done:Nat}{b:Int}{a:Nat}{O:cA}:oX F G bD a4 (n+1) done b a O=if done<bD\/¬(b=a\/(0<=a4/\a4<=done)) then 2+G a O+((F a O).map λ w=>1+oX F G bD a4 n (done+1) a w.1 w.2).sum else 1:=rfl
noncomputable def eE:bq->Nat->cA->Nat
 |.one _,_,_=>1
 |.place _,_,_=>1
 |.rounds x c m,a,O=>3+oX (bI T f x) (eE x) (dg c) (dW c) 12 0 (-1) a O
 |.group _ r _,a,O=>1+eE r a O+(bI T f r a O).length
 |.again _ _,_,_=>1
 |.d4 ab aT,a,O=>1+eE ab a O+(bI T f ab a O).length+eE aT a O
 |.atomic r,a,O=>2+eE r a O
 |.look x w cW,a,O=>5+(if w.getD 0<=a then eE x (a-w.getD 0) O else 0)
 |.nil,_,_=>0
 |.cons x r,a,O=>eE x a O+((bI T f x a O).map λ w=>eE r w.1 w.2).sum
end
section
variable{T:List Nat}{f:Bool}{x ab aT:bq}{a n w c m:Nat}{O:cA}{p:Option Nat}{b:Bool}
theorem xS:bI T f (.place w) a O=if kP w T a then[(a,O)] else[]:=rfl
theorem EO:bI T f (.rounds x c m) a O=if m=2 then(gL (bI T f x) (dg c) (dW c) (m==1) 12 0 (-1) a O).take 1 else gL (bI T f x) (dg c) (dW c) (m==1) 12 0 (-1) a O:=rfl
theorem EN:bI T f (.group n x b) a O=(bI T f x a O).map λ w=>(w.1,w.2.set (n-1) (some (a,w.1))):=rfl
theorem Au:bI T f (.again n m) a O=match O[n-1]? with
 |some (some (b,d))=>if a+(d-b)<=T.length/\oe f ((T.drop a).take (d-b)) ((T.drop b).take (d-b))=true then[(a+(d-b),O)] else[]
 |_=>[]:=rfl
theorem EM:bI T f (.d4 ab aT) a O=bI T f ab a O++bI T f aT a O:=rfl
theorem ae':bI T f (.atomic x) a O=(bI T f x a O).take 1:=rfl
theorem xR:bI T f (.look x p b) a O=if b then(match if p.getD 0<=a then(bI T f x (a-p.getD 0) O).take 1 else[] with
  |[]=>[(a,O)]
  |_=>[])
 else(if p.getD 0<=a then(bI T f x (a-p.getD 0) O).take 1 else[]).map λ v=>(a,v.2):=rfl
theorem Vg:eE T f (.group n x b) a O=1+eE T f x a O+(bI T f x a O).length:=rfl
theorem Vf:eE T f (.d4 ab aT) a O=1+eE T f ab a O+(bI T f ab a O).length+eE T f aT a O:=rfl
theorem Gu:eE T f (.look x p b) a O=5+(if p.getD 0<=a then eE T f x (a-p.getD 0) O else 0):=rfl
end
inductive ct where
 |test (k:Nat)|run (k bD:Nat) (a4:Int) (lazy:Bool)|plc (w:Nat)|back (n:Nat)|opn (k:Nat)|close (n k:Nat)
 |jump (s:Nat)|split (s q:Nat)|zero (c s:Nat)|loop (c s bD:Nat) (a4:Int) (lazy:Bool) (jk hs:Nat)|again (c s r:Nat)
 |mark (k:Nat)|cut (k:Nat)|refuse (k:Nat)|place (k:Nat)|ret (k:Nat)|behind (w:Nat)|fin
noncomputable def d1:bq->Nat
 |.rounds x _ m=>(if m=2 then 1 else 0)+(if m7 x then 0 else 2+d1 x)
 |.group _ r _=>1+d1 r
 |.d4 ab aT=>d1 ab+d1 aT
 |.atomic r=>1+d1 r
 |.look x _ _=>2+d1 x
 |.cons x r=>d1 x+d1 r
 |_=>0
noncomputable def m8(aw:Nat->Nat->List ct)(bD:Nat)(a4:Int)(lazy:Bool)(s k:Nat):List ct:=
 .zero k (k+1)::.loop k (k+1) bD a4 lazy (s+2) (s+4+(aw (s+3) (k+2)).length)::.again k (k+1) (s+3)::(aw (s+3) (k+2)++[.jump (s+1)])
noncomputable def oT(aw:Nat->Nat->List ct)(s k:Nat):List ct:=.mark k::(aw (s+1) (k+1)++[.cut k])
noncomputable def l3(x:bq)(aw:Nat->Nat->List ct)(c:Nat)(lazy:Bool):Nat->Nat->List ct:=match x with
 |.one i=>λ z z=>[.run i (dg c) (dW c) lazy]
 |_=>m8 aw (dg c) (dW c) lazy
noncomputable def eD(w:Option Nat):List ct:=match w with
 |none=>[]
 |some w=>[.behind w]
noncomputable def code:bq->Nat->Nat->List ct
 |.one i,_,_=>[.test i]
 |.place w,_,_=>[.plc w]
 |.rounds x c m,s,k=>if m=2 then oT (l3 x (code x) c false) s k else l3 x (code x) c (m==1) s k
 |.group n r _,s,k=>.opn k::(code r (s+1) (k+1)++[.close n k])
 |.again n _,_,_=>[.back n]
 |.d4 ab aT,s,k=>.split (s+1) (s+2+(code ab (s+1) k).length)::(code ab (s+1) k++
   .jump (s+2+(code ab (s+1) k).length+(code aT (s+2+(code ab (s+1) k).length) (k+d1 ab)).length)::code aT (s+2+(code ab (s+1) k).length) (k+d1 ab))
 |.atomic r,s,k=>oT (code r) s k
 |.look x w cW,s,k=>if cW then
   .place k::.mark (k+1)::.split (s+3) (s+4+(eD w).length+(code x (s+3+(eD w).length) (k+2)).length)::(eD w++(code x (s+3+(eD w).length) (k+2)++[.refuse (k+1)]))
  else .place k::.mark (k+1)::(eD w++(code x (s+2+(eD w).length) (k+2)++[.cut (k+1),.ret k]))
 |.nil,_,_=>[]
 |.cons x r,s,k=>code x s k++code r (s+(code x s k).length) (k+d1 x)
section
variable{x ab aT:bq}{s k c m:Nat}{p:Option Nat}
theorem I7:code (.rounds x c m) s k=if m=2 then oT (l3 x (code x) c false) s k else l3 x (code x) c (m==1) s k:=rfl
theorem YO:code (.d4 ab aT) s k=.split (s+1) (s+2+(code ab (s+1) k).length)::(code ab (s+1) k++
 .jump (s+2+(code ab (s+1) k).length+(code aT (s+2+(code ab (s+1) k).length) (k+d1 ab)).length)::code aT (s+2+(code ab (s+1) k).length) (k+d1 ab)):=rfl
theorem I6{cW:Bool}:code (.look x p cW) s k=if cW then
  .place k::.mark (k+1)::.split (s+3) (s+4+(eD p).length+(code x (s+3+(eD p).length) (k+2)).length)::(eD p++(code x (s+3+(eD p).length) (k+2)++[.refuse (k+1)]))
 else .place k::.mark (k+1)::(eD p++(code x (s+2+(eD p).length) (k+2)++[.cut (k+1),.ret k])):=rfl
end
inductive cE where
 |i7 (n:Nat) (p:Option (Nat×Nat))|dF (k:Nat) (v:Int)|hD (row a:Nat)|less (row low a:Nat)|more (row k a:Nat) (left:Int)
noncomputable def cE.ctorIdx(x:cE):Nat:=cE.casesOn x (λ z z=>0) (λ z z=>1) (λ z z=>2) (λ z z z=>3) (λ z z z z=>4)
structure gf where
 a:Nat
 row:Nat
 O:cA
 ao:List Int
 aF:List cE
noncomputable def cE.log:cE->Bool
 |.i7 _ _=>true
 |.dF _ _=>true
 |_=>false
noncomputable def gO:List cE->cA->List Int->cA×List Int
 |[],g,r=>(g,r)
 |.i7 n p::s,g,r=>gO s (g.set (n-1) p) r
 |.dF k v::s,g,r=>gO s g (r.set k v)
 |_::s,g,r=>gO s g r
noncomputable def gf.zU(j:gf):gf:={j with row:=j.row+1}
noncomputable def l9(j:gf)(k:Nat)(v:Int):gf:={j with ao:=j.ao.set k v,aF:=.dF k (j.ao[k]?.getD 0)::j.aF}
noncomputable def runN(f:Bool)(k:Nat):List Nat->Nat->Nat
 |c::r,m+1=>if qG f k c then runN f k r m+1 else 0
 |_,_=>0
theorem D'{f:Bool}{k c m:Nat}{r:List Nat}:runN f k (c::r) (m+1)=if qG f k c then runN f k r m+1 else 0:=rfl
section
variable(T:List Nat)(f:Bool)
noncomputable def jQ(a:Nat)(a4:Int):Nat:=if a4<0 then T.length-a else a4.toNat
noncomputable def gG(k a:Nat):Bool:=match T[a]? with
 |some c=>qG f k c
 |none=>false
noncomputable def fe:ct->gf->Option (Bool×gf)
 |.test k,j=>some (if gG T f k j.a then(true,{j with a:=j.a+1,row:=j.row+1}) else(false,j))
 |.run k bD a4 lazy,j=>some (if runN f k (T.drop j.a) (jQ T j.a (if lazy then bD else a4))<bD then(false,j) else(true,{j with
   a:=j.a+runN f k (T.drop j.a) (jQ T j.a (if lazy then bD else a4)),row:=j.row+1,
   aF:=if lazy&&a4 !=bD then .more (j.row+1) k (j.a+runN f k (T.drop j.a) (jQ T j.a (if lazy then bD else a4))) (if a4<0 then-1 else a4-bD)::j.aF
    else if bD<runN f k (T.drop j.a) (jQ T j.a (if lazy then bD else a4)) then .less (j.row+1) (j.a+bD) (j.a+runN f k (T.drop j.a) (jQ T j.a (if lazy then bD else a4)))::j.aF else j.aF}))
 |.plc w,j=>some (if kP w T j.a then(true,j.zU) else(false,j))
 |.back n,j=>match j.O[n-1]? with
  |some (some (b,d))=>if b<=d/\d<=T.length then some (if j.a+(d-b)<=T.length/\oe f ((T.drop j.a).take (d-b)) ((T.drop b).take (d-b))=true then(true,{j with a:=j.a+(d-b),row:=j.row+1}) else(false,j)) else none
  |some none=>some (false,j)
  |none=>none
 |.opn k,j=>if k<j.ao.length then some (true,(l9 j k j.a).zU) else none
 |.close n k,j=>match j.ao[k]?,j.O[n-1]? with
  |some v,some p=>if 0<=v then some (true,{j with row:=j.row+1,O:=j.O.set (n-1) (some (v.toNat,j.a)),aF:=.i7 n p::j.aF}) else none
  |_,_=>none
 |.jump s,j=>some (true,{j with row:=s})
 |.split s q,j=>some (true,{j with row:=s,aF:=.hD q j.a::j.aF})
 |.zero c s,j=>if c<j.ao.length/\s<j.ao.length then some (true,(l9 (l9 j c 0) s (-1)).zU) else none
 |.loop c s bD a4 lazy e g,j=>match j.ao[c]?,j.ao[s]? with
  |some rounds,some place=>some (true,if rounds<bD then{j with row:=e} else if place=j.a\/(0<=a4/\a4<=rounds) then{j with row:=g}
   else if lazy then{j with row:=g,aF:=.hD e j.a::j.aF} else{j with row:=e,aF:=.hD g j.a::j.aF})
  |_,_=>none
 |.again c s r,j=>match j.ao[c]? with
  |some v=>if s<j.ao.length then some (true,{l9 (l9 j c (v+1)) s j.a with row:=r}) else none
  |none=>none
 |.mark k,j=>if k<j.ao.length then some (true,{l9 j k 0 with row:=j.row+1,ao:=(j.ao.set k 0).set k ((j.aF.length+1:Nat):Int)}) else none
 |.cut k,j=>match j.ao[k]? with
  |some h=>if 0<=h/\h.toNat<=j.aF.length then some (true,{j with row:=j.row+1,aF:=(j.aF.take (j.aF.length-h.toNat)).filter cE.log++j.aF.drop (j.aF.length-h.toNat)}) else none
  |none=>none
 |.refuse k,j=>match j.ao[k]? with
  |some h=>if 0<=h/\h.toNat<=j.aF.length then some (false,{j with
    O:=(gO (j.aF.take (j.aF.length-h.toNat)) j.O j.ao).1,ao:=(gO (j.aF.take (j.aF.length-h.toNat)) j.O j.ao).2,aF:=j.aF.drop (j.aF.length-h.toNat)}) else none
  |none=>none
 |.place k,j=>if k<j.ao.length then some (true,(l9 j k j.a).zU) else none
 |.ret k,j=>match j.ao[k]? with
  |some v=>if 0<=v/\v.toNat<=T.length then some (true,{j with a:=v.toNat,row:=j.row+1}) else none
  |none=>none
 |.behind w,j=>some (if j.a<w then(false,j) else(true,{j with a:=j.a-w,row:=j.row+1}))
 |.fin,_=>none
noncomputable def lK:List cE->cA->List Int->Option gf
 |[],_,_=>none
 |.hD r a::s,g,b=>some ⟨a,r,g,b,s⟩
 |.less r low a::s,g,b=>some ⟨a-1,r,g,b,if low<a-1 then .less r low (a-1)::s else s⟩
 |.more r k a left::s,g,b=>if gG T f k a then some ⟨a+1,r,g,b,if left=1 then s else .more r k (a+1) (if 0<left then left-1 else-1)::s⟩ else lK s g b
 |.i7 n p::s,g,b=>lK s (g.set (n-1) p) b
 |.dF k v::s,g,b=>lK s g (b.set k v)
abbrev hI:=Option (Nat×cA)
variable(rows:List ct)
noncomputable def qq:ct->Bool
 |.fin=>true
 |_=>false
theorem zq{r:ct}(h:qq r=true):r=.fin:=by
 rcases r with _|_<;>first|rfl|exact cy h
def xk{cg:Type}(p:Option cg)(D:Prop)(f:cg->Prop):Prop:=match p with
 |some x=>f x
 |none=>D
theorem JU{cg:Type}{p:Option cg}{D:Prop}{f g:cg->Prop}(h:xk p D f)(k:∀x,f x->g x):xk p D g:=by
 rcases p with _|x
 ·exact h
 ·exact k x h
noncomputable def eJ:Nat->gf->hI->Prop
 |0,_,_=>False
 |c+1,j,r=>ll rows[j.row]? λ row=>match qq row with
  |true=>r=some (j.a,j.O)
  |false=>ll (fe T f row j) λ s=>match s.1 with
   |true=>eJ c s.2 r
   |false=>xk (lK T f s.2.aF s.2.O s.2.ao) (r=none) λ b=>eJ c b r
def ji(c:Nat)(g:cA)(a:List Int)(s:List cE)(r:hI):Prop:=xk (lK T f s g a) (r=none) λ j=>eJ T f rows c j r
variable{T f rows}
theorem Wi{bh:Nat}{j:gf}{r:hI}{X:Prop}(h:eJ T f rows (bh+1) j r)(fin:rows[j.row]?=some .fin->r=some (j.a,j.O)->X)
  (step:∀row b c,rows[j.row]?=some row->row≠.fin->fe T f row j=some (b,c)->(b=true->eJ T f rows bh c r)->(b=false->ji T f rows bh c.O c.ao c.aF r)->X):X:=by
 refine qF (show ll _ _ from h) λ row d h=>?_
 rcases q:qq row with _|_
 ·rw[q] at h
  refine qF h λ⟨b,c⟩ e h=>?_
  rcases b with _|_
  ·exact step row false c d (λ D=>by rw[D] at q;exact cy q.symm) e cy λ z=>h
  ·exact step row true c d (λ D=>by rw[D] at q;exact cy q.symm) e (λ z=>h) λ D=>cy D.symm
 ·rw[q] at h;exact fin (rwr (zq q) d) h
end
end
section
def At(rows:List ct):Nat->List ct->Prop
 |_,[]=>True
 |s,a::l=>rows[s]?=some a/\At rows (s+1) l
theorem nR{rows:List ct}:∀{l m:List ct}{s:Nat},At rows s (l++m)↔At rows s l/\At rows (s+l.length) m
 |[],m,s=>⟨λ h=>⟨trivial,h⟩,And.right⟩
 |a::l,m,s=>by
  show _/\At _ _ (l++m)↔(_/\_)/\_
  rw[nR,and_assoc,show s+(a::l).length=s+1+l.length by exact cB (J [_,_] 0x5088800044501000 L) (J [_,_] 0x1114040142220000 L)]
section
variable{T:List Nat}{f:Bool}{rows:List ct}
theorem nV:∀{c e:Nat}{j:gf}{r:hI},eJ T f rows c j r->c<=e->eJ T f rows e j r
 |0,_,_,_,h,_=>h.elim
 |c+1,e,j,r,h,g=>by
  refine a7 ((⟨e-1,cB ((d2 _ _)) ((di (J [_,_] 0xa1100a111001 L g)))⟩:∃o,e=o+1)) λ o l=>?_;subst l
  have i:=kZ g
  refine qF (show ll _ _ from h) λ row d h=>?_
  refine qE (f:=λ row=>match qq row with|true=>r=some (j.a,j.O)|false=>_) d ?_
  rcases q:qq row with _|_
  ·rw[q] at h
   refine qF h λ s k h=>qE k ?_
   obtain⟨b,m⟩:=s
   clear k;rcases b with _|_
   ·exact JU h λ z h=>nV h i
   ·exact nV h i
  ·rw[q] at h;exact h
theorem U4{c a:Nat}{g:cA}{b:List Int}{s:List cE}{r:hI}(h:ji T f rows c g b s r)(d:c<=a):ji T f rows a g b s r:=JU h λ z h=>nV h d
theorem hL{c:Nat}{j a:gf}{r:hI}{row:ct}(C:rows[j.row]?=some row)(I:fe T f row j=some (true,a))(h:eJ T f rows c a r):eJ T f rows (1+c) j r:=by
 rw[nO]
 refine qE C ?_
 rcases q:qq row with _|_
 ·exact qE I h
 ·rw[zq q] at I;exact bF I
theorem rt{c:Nat}{j a:gf}{r:hI}{row:ct}(C:rows[j.row]?=some row)(I:fe T f row j=some (false,a))(h:ji T f rows c a.O a.ao a.aF r):eJ T f rows (1+c) j r:=by
 rw[nO]
 refine qE C ?_
 rcases q:qq row with _|_
 ·exact qE I h
 ·rw[zq q] at I;exact bF I
theorem pE:∀(s q:List cE)(g:cA)(a:List Int),gO (s++q) g a=gO q (gO s g a).1 (gO s g a).2
 |[],_,_,_=>rfl
 |.i7 _ _::s,q,_,_=>pE s q _ _
 |.dF _ _::s,q,_,_=>pE s q _ _
 |.hD _ _::s,q,_,_=>pE s q _ _
 |.less _ _ _::s,q,_,_=>pE s q _ _
 |.more _ _ _ _::s,q,_,_=>pE s q _ _
theorem tJ:∀(s:List cE)(g:cA)(a:List Int),gO (s.filter cE.log) g a=gO s g a
 |[],_,_=>rfl
 |.i7 _ _::s,_,_=>tJ s _ _
 |.dF _ _::s,_,_=>tJ s _ _
 |.hD _ _::s,_,_=>tJ s _ _
 |.less _ _ _::s,_,_=>tJ s _ _
 |.more _ _ _ _::s,_,_=>tJ s _ _
theorem rj{c:Nat}{r:hI}{d:List cE}:∀{s:List cE}{g:cA}{b:List Int},s.all cE.log=true->ji T f rows c (gO s g b).1 (gO s g b).2 d r->ji T f rows c g b (s++d) r
 |[],_,_,_,h=>h
 |.i7 _ _::s,_,_,a,h=>rj (s:=s) a h
 |.dF _ _::s,_,_,a,h=>rj (s:=s) a h
 |.hD _ _::s,_,_,a,h=>cy a
 |.less _ _ _::s,_,_,a,h=>cy a
 |.more _ _ _ _::s,_,_,a,h=>cy a
def f7(k b:Nat)(a ab:List Int):Prop:=ab.length=a.length/\∀i,i<k\/b<=i->ab[i]?=a[i]?
theorem f7.refl{k a:Nat}{r:List Int}:f7 k a r r:=⟨rfl,λ z z=>rfl⟩
theorem f7.trans{k c:Nat}{d ab aT:List Int}(a:f7 k c d ab)(b:f7 k c ab aT):f7 k c d aT:=⟨b.1.trans a.1,λ i h=>(b.2 i h).trans (a.2 i h)⟩
theorem f7.wide{k b y c:Nat}{d ab:List Int}(a:f7 k b d ab)(h:y<=k)(e:b<=c):f7 y c d ab:=⟨a.1,λ i f=>a.2 i (by lia)⟩
theorem f7.set{k a i:Nat}{r:List Int}{v:Int}(h:k<=i)(c:i<a):f7 k a r (r.set i v):=⟨hr,λ y dE=>List.getElem?_set_ne λ b=>bB _ (dE.elim (J [_,_,_] 0x1044020446004c509481 L h (aL b)) (J [_,_,_] 0x1044031424304a111001 L c (aL b.symm)))⟩
variable(T f rows)
def c6(q k g:Nat):List cm->cA->List Int->List cE->(Nat->hI->Prop)->Nat->Prop
 |[],e,a,b,X,c=>∀d r,ji T f rows d e a b r->X (c+d) r
 |w::aV,e,a,b,X,c=>∃h en ab bG,h+en<=c/\(∀d r,eJ T f rows d ⟨w.1,q,w.2,ab,bG++b⟩ r->X (h+d) r)/\f7 k g a ab/\gO bG w.2 ab=(e,a)/\
  c6 q k g aV e a b (λ c r=>ji T f rows c w.2 ab (bG++b) r) en
variable{T f rows}
def vR(X:Nat->hI->Prop):Prop:=∀c a r,X c r->c<=a->X a r
theorem qx{j:gf}:vR λ c r=>eJ T f rows c j r:=λ z z z=>nV
theorem ZY{g:cA}{a:List Int}{s:List cE}:vR λ c r=>ji T f rows c g a s r:=λ z z z=>U4
set_option tactic.hygienic true
theorem c6.weak{q k a:Nat}{aV:List cm}{b:cA}{d:List Int}{e:List cE}{X:Nat->hI->Prop}{c g:Nat}(j:vR X)(h:c6 T f rows q k a aV b d e X c)(i:c<=g):c6 T f rows q k a aV b d e X g:=by
 rcases aV with _|_
 case nil=>exact λ o r l=>j _ _ _ (h o r l) (v3 i _)
 case cons w aV=>
  exact AB h λ m en ab bG C I=>hZ m en ab bG ⟨ah C i,I⟩
theorem c6.pre{q k b o:Nat}{aV:List cm}{d:cA}{e:List Int}{g:List cE}{X kx:Nat->hI->Prop}{c:Nat}(i:∀c r,kx c r->X (o+c) r)(h:c6 T f rows q k b aV d e g kx c):c6 T f rows q k b aV d e g X (o+c):=by
 rcases aV with _|_
 case nil=>intro a r j;rw[ez];exact i _ _ (h a r j)
 case cons w aV=>
  exact r8 h λ l en ab bG C I ag=>hZ (o+l) en ab bG ⟨J [_,_,_,_] 0xc7014870000629001 L C,λ a r m=>by rw[ez];exact i _ _ (I a r m),ag⟩
set_option tactic.hygienic false
theorem c6.wide{q k e y g:Nat}(dE:y<=k)(i:e<=g):∀{aV:List cm}{a:cA}{b:List Int}{d:List cE}{X:Nat->hI->Prop}{c:Nat},c6 T f rows q k e aV a b d X c->c6 T f rows q y g aV a b d X c:=by
 intro aV;induction aV with
 |nil=>exact λ h=>h
 |cons w aV j=>
  intro a b d X c h
  exact vF h λ l en ab bG C I ag m n=>hZ l en ab bG ⟨C,I,ag.wide dE i,m,j n⟩
theorem c6.app{q k a:Nat}{e cV:cA}{b ab:List Int}{d bG:List cE}(g:f7 k a b ab)(b6:gO bG cV ab=(e,b)):∀{B aV:List cm}{kx:Nat->hI->Prop}{c en:Nat},c6 T f rows q k a B cV ab (bG++d) kx c->c6 T f rows q k a aV e b d (λ c r=>ji T f rows c cV ab (bG++d) r) en->
  c6 T f rows q k a (B++aV) e b d kx (c+en):=by
 intro B;induction B with
 |nil=>exact c6.pre
 |cons v B i=>
  intro aV kx c en h j
  exact vF h λ l m aT n o p s t u=>hZ l (m+en) aT (n++bG) ⟨J [_,_,_,_] 0xe601ca02000629001 L o,by rw[el];exact p,g.trans s,by rw[pE,t];exact b6,by rw[el];exact i u j⟩
theorem c6.bind{q i k d y e:Nat}(dE:k<=y)(n:e<=d){g:cA}{a:List Int}{b:List cE}{F:cm->List cm}{o:cm->Nat}:∀{aV:List cm}{X:Nat->hI->Prop}{c:Nat},vR X->c6 T f rows q y e aV g a b X c->
  (∀w∈aV,∀ab bG,f7 y e a ab->gO bG w.2 ab=(g,a)->c6 T f rows i k d (F w) w.2 ab (bG++b) (λ c r=>eJ T f rows c ⟨w.1,q,w.2,ab,bG++b⟩ r) (o w))->
  c6 T f rows i k d (aV.flatMap F) g a b X (c+(aV.map o).sum):=by
 intro aV;induction aV with
 |nil=>exact λ z h z=>h
 |cons w aV p=>
  intro X c s h j
  refine vF h λ B en ab bG t u l m x=>?_
  exact c6.weak s (c6.app (l.wide dE n) m (c6.pre u (j w (f9 ..) ab bG l m)) (p ZY x λ v A=>j v (gT _ A))) (J [_,_,_,_,_] 0x10701808280e40000629001 L t)
theorem c6.one{q k d c:Nat}{w:cm}{e:cA}{a ab:List Int}{g bG:List cE}{X:Nat->hI->Prop}(h:∀b r,eJ T f rows b ⟨w.1,q,w.2,ab,bG++g⟩ r->X (c+b) r)(i:f7 k d a ab)(b6:gO bG w.2 ab=(e,a))(j:bG.all cE.log=true):
  c6 T f rows q k d [w] e a g X c:=
 (hZ c 0 ab bG ⟨bw _,h,i,b6,λ b r l=>by rw[gr];exact rj j (by exact rwl b6 l)⟩)
theorem c6.base{q k a c:Nat}{aV:List cm}{d cV:cA}{b ab:List Int}{e bG:List cE}{X:Nat->hI->Prop}(g:f7 k a b ab)(b6:gO bG cV ab=(d,b))(i:bG.all cE.log=true)(h:c6 T f rows q k a aV cV ab (bG++e) X c):
  c6 T f rows q k a aV d b e X c:=by
 have:=c6.app (aV:=[]) g b6 h λ l r j=>by rw[gr];exact rj i (by exact rwl b6 j)
 rw[gS] at this
 exact this
theorem c6.to{q e k a:Nat}{g:cA}{d:List Int}{b:List cE}{X:Nat->hI->Prop}{aV:List cm}{c:Nat}(i:vR X)(h:c6 T f rows q k a aV g d b X c)
  (j:∀w∈aV,∀ab bG c r,f7 k a d ab->eJ T f rows c ⟨w.1,e,w.2,ab,bG++b⟩ r->eJ T f rows (1+c) ⟨w.1,q,w.2,ab,bG++b⟩ r):c6 T f rows e k a aV g d b X (c+aV.length):=by
 have:=c6.bind (bw k) (bw a) i h λ w l ab bG m z=>c6.one (bG:=[]) (λ n r=>j w l ab bG n r m) f7.refl rfl rfl
 rw[List.flatMap_singleton',show(aV.map _).sum=aV.length by simp [List.map_const']] at this
 exact this
end
end
section
def hG(T:List Nat)(O:cA):Prop:=∀b d,some (b,d)∈O->b<=d/\d<=T.length
def kX(T:List Nat)(a:Nat)(O:cA)(w:cm):Prop:=a<=w.1/\w.1<=T.length/\hG T w.2/\w.2.length=O.length
def r'(T:List Nat)(F:Nat->cA->List cm):Prop:=∀a O w,a<=T.length->hG T O->w∈F a O->kX T a O w
section
variable{T:List Nat}{f:Bool}
theorem kX.here{a:Nat}{O:cA}(h:a<=T.length)(g:hG T O):kX T a O (a,O):=⟨bw _,h,g,rfl⟩
theorem kX.trans{a:Nat}{O:cA}{v w:cm}(h:kX T a O v)(b:kX T v.1 v.2 w):kX T a O w:=⟨ah h.1 b.1,b.2.1,b.2.2.1,b.2.2.2.trans h.2.2.2⟩
theorem Hi{a:Nat}{O:cA}{w:cm}{l:List cm}{F:cm->List cm}(b:∀v∈l,kX T a O v)(c:∀v,kX T a O v->∀w∈F v,kX T v.1 v.2 w)(h:w∈l.flatMap F):kX T a O w:=a' (List.mem_flatMap.mp h) λ v C I=>(b v C).trans (c v (b v C) w I)
theorem z4{F:Nat->cA->List cm}(d:r' T F){bD:Nat}{a4:Int}{lazy:Bool}:∀n done e,r' T (gL F bD a4 lazy n done e)
 |0,_,_,a,O,w,_,_,h=>nomatch h
 |n+1,done,e,a,O,w,b,c,h=>by
  have more:w∈((F a O).flatMap λ w=>gL F bD a4 lazy n (done+1) a _ _)->kX T a O w:=Hi (λ v=>d a O v b c) λ v f w=>z4 d n _ _ _ _ w f.2.1 f.2.2.1
  rw[tu] at h
  split at h
  ·exact more h
  ·split at h
   ·obtain rfl:=fu.mp h;exact .here b c
   ·split at h
    ·rcases ew.mp h with rfl|h
     ·exact .here b c
     ·exact more h
    ·rcases fv.mp h with h|h
     ·exact more h
     ·obtain rfl:=fu.mp h;exact .here b c
theorem Xr{O:cA}{n b d:Nat}(h:hG T O)(C:b<=d)(I:d<=T.length):hG T (O.set n (some (b,d))):=by
 intro ed c a
 rcases List.mem_or_eq_of_mem_set a with a|a
 ·exact h _ _ a
 ·cases a;exact⟨C,I⟩
theorem xh(k a:Nat)(O:cA):bI T f (.one k) a O=if gG T f k a then[(a+1,O)] else[]:=by
 show(match T[a]? with|some c=>if qG f k c then[(a+1,O)] else[]|none=>[])=_;unfold gG
 rcases T[a]? with _|_<;>rfl
theorem o1{k a:Nat}(h:gG T f k a=true):a<T.length:=by
 unfold gG at h
 refine Decidable.by_contra λ Y=>?_
 rw[oP (cI Y)] at h
 exact cy h
theorem iv:∀x,r' T (bI T f x)
 |.one k,a,O,w,e,b,h=>by
  rw[xh] at h
  split at h<;>rename_i d
  ·obtain rfl:=fu.mp h;exact⟨hp _,o1 d,b,rfl⟩
  ·cases h
 |.place s,a,O,w,e,b,h=>by
  rw[xS] at h
  split at h
  ·obtain rfl:=fu.mp h;exact .here e b
  ·cases h
 |.rounds x c m,a,O,w,e,b,h=>by
  rw[EO] at h
  split at h
  ·exact z4 (iv x) _ _ _ a O w e b (ra h)
  ·exact z4 (iv x) _ _ _ a O w e b h
 |.group n r _,a,O,w,e,b,h=>by
  refine a' (nL.mp h) λ v C q=>?_;subst q
  exact f5 (iv r a O v e b C) λ g i j l=>⟨g,i,Xr j g i,by rw[hr];exact l⟩
 |.again n _,a,O,w,e,b,h=>by
  rw[Au] at h
  split at h
  ·split at h<;>rename_i d
   ·obtain rfl:=fu.mp h;exact⟨dD _ _,d.1,b,rfl⟩
   ·cases h
  ·cases h
 |.d4 ab aT,a,O,w,e,b,h=>by
  rcases fv.mp h with h|h
  ·exact iv ab a O w e b h
  ·exact iv aT a O w e b h
 |.atomic r,a,O,w,e,b,h=>by
  exact iv r a O w e b (ra h)
 |.look x p cW,a,O,w,e,b,h=>by
  rw[xR] at h
  split at h
  ·split at h
   ·obtain rfl:=fu.mp h;exact .here e b
   ·cases h
  ·refine a' (nL.mp h) λ v C t=>?_;subst t
   split at C
   ·exact f5 (iv x _ O v (ah (hq _ _) e) b (ra C)) λ g i j l=>⟨bw _,e,j,l⟩
   ·cases C
 |.nil,a,O,w,e,b,h=>by
  obtain rfl:=fu.mp h;exact .here e b
 |.cons x r,a,O,w,e,b,h=>by
  exact Hi (λ v=>iv x a O v e b) (λ v o w=>iv r _ _ w o.2.1 o.2.2.1) h
end
def nD:bq->Nat->Prop
 |.rounds x _ _,G=>nD x G
 |.group n r _,G=>0<n/\n<=G/\nD r G
 |.again n _,G=>0<n/\n<=G
 |.d4 ab aT,G=>nD ab G/\nD aT G
 |.atomic r,G=>nD r G
 |.look x _ _,G=>nD x G
 |.cons x r,G=>nD x G/\nD r G
 |_,_=>True
section
variable{T:List Nat}{f:Bool}{a s:Nat}{O:cA}{ao:List Int}{aF:List cE}
theorem acF{k:Nat}(d:gG T f k a=true):fe T f (.test k) ⟨a,s,O,ao,aF⟩=some (true,⟨a+1,s+1,O,ao,aF⟩):=bA _ (aU d)
theorem acG{k:Nat}(d:¬gG T f k a=true):fe T f (.test k) ⟨a,s,O,ao,aF⟩=some (false,⟨a,s,O,ao,aF⟩):=bA _ (a8 d)
theorem acB{w:Nat}(d:kP w T a=true):fe T f (.plc w) ⟨a,s,O,ao,aF⟩=some (true,⟨a,s+1,O,ao,aF⟩):=bA _ (aU d)
theorem acC{w:Nat}(d:¬kP w T a=true):fe T f (.plc w) ⟨a,s,O,ao,aF⟩=some (false,⟨a,s,O,ao,aF⟩):=bA _ (a8 d)
theorem KI{n:Nat}(h:O[n-1]?=some none):fe T f (.back n) ⟨a,s,O,ao,aF⟩=some (false,⟨a,s,O,ao,aF⟩):=by
 show(match O[n-1]? with|some (some (b,d))=>_|some none=>_|none=>_)=_
 rw[h]
theorem En{n b d:Nat}(h:O[n-1]?=some (some (b,d)))(c:b<=d/\d<=T.length):fe T f (.back n) ⟨a,s,O,ao,aF⟩=some (if a+(d-b)<=T.length/\oe f ((T.drop a).take (d-b)) ((T.drop b).take (d-b))=true then(true,⟨a+(d-b),s+1,O,ao,aF⟩) else(false,⟨a,s,O,ao,aF⟩)):=by
 show(match O[n-1]? with|some (some (b,d))=>_|some none=>_|none=>_)=_
 exact rwl h (aU c)
theorem acA{k:Nat}(h:k<ao.length):fe T f (.opn k) ⟨a,s,O,ao,aF⟩=some (true,⟨a,s+1,O,ao.set k a,.dF k (ao[k]?.getD 0)::aF⟩):=aU h
theorem KL{k:Nat}(h:k<ao.length):fe T f (.place k) ⟨a,s,O,ao,aF⟩=some (true,⟨a,s+1,O,ao.set k a,.dF k (ao[k]?.getD 0)::aF⟩):=aU h
theorem Eo{k:Nat}(h:k<ao.length):fe T f (.mark k) ⟨a,s,O,ao,aF⟩=some (true,⟨a,s+1,O,(ao.set k 0).set k ((aF.length+1:Nat):Int),.dF k (ao[k]?.getD 0)::aF⟩):=aU h
theorem acy{n k b:Nat}{p:Option (Nat×Nat)}(h:ao[k]?=some (b:Int))(c:O[n-1]?=some p):fe T f (.close n k) ⟨a,s,O,ao,aF⟩=some (true,⟨a,s+1,O.set (n-1) (some (b,a)),ao,.i7 n p::aF⟩):=by
 show(match ao[k]?,O[n-1]? with|some v,some p=>_|_,_=>_)=_
 rw[h,c]
 exact aU (i4 b)
theorem acH{c q:Nat}(h:c<ao.length)(b:q<ao.length):fe T f (.zero c q) ⟨a,s,O,ao,aF⟩=some (true,⟨a,s+1,O,(ao.set c 0).set q (-1),.dF q ((ao.set c 0)[q]?.getD 0)::.dF c (ao[c]?.getD 0)::aF⟩):=aU ⟨h,b⟩
theorem xy{c q bD:Nat}{a4:Int}{lazy:Bool}{b d:Nat}{rounds place:Int}(h:ao[c]?=some rounds)(e:ao[q]?=some place):fe T f (.loop c q bD a4 lazy b d) ⟨a,s,O,ao,aF⟩=some (true,if rounds<bD then⟨a,b,O,ao,aF⟩ else if place=a\/(0<=a4/\a4<=rounds) then⟨a,d,O,ao,aF⟩
  else if lazy then⟨a,d,O,ao,.hD b a::aF⟩ else⟨a,b,O,ao,.hD d a::aF⟩):=by
 show(match ao[c]?,ao[q]? with|some rounds,some place=>_|_,_=>_)=_
 rw[h,e]
theorem acv{c q r:Nat}{v:Int}(h:ao[c]?=some v)(b:q<ao.length):fe T f (.again c q r) ⟨a,s,O,ao,aF⟩=some (true,⟨a,r,O,(ao.set c (v+1)).set q a,.dF q ((ao.set c (v+1))[q]?.getD 0)::.dF c (ao[c]?.getD 0)::aF⟩):=by
 show(match ao[c]? with|some v=>_|none=>_)=_
 exact h▸(aU b).trans (by rw[l9,l9,h])
theorem KJ{k:Nat}{bG b:List cE}(c:ao[k]?=some ((b.length:Nat):Int)):fe T f (.cut k) ⟨a,s,O,ao,bG++b⟩=some (true,⟨a,s+1,O,ao,bG.filter cE.log++b⟩):=by
 show(match ao[k]? with|some h=>_|none=>_)=_
 rw[c]
 refine(aU ⟨i4 _,by rw[bR];exact J [_,_] 4358272 L⟩).trans ?_
 rw[Int.toNat_natCast,bR,Nat.add_sub_cancel,List.take_left,List.drop_left]
theorem acD{k:Nat}{bG b:List cE}{bN:cA}{eg:List Int}(c:ao[k]?=some ((b.length:Nat):Int))(b6:gO bG O ao=(bN,eg)):fe T f (.refuse k) ⟨a,s,O,ao,bG++b⟩=some (false,⟨a,s,bN,eg,b⟩):=by
 show(match ao[k]? with|some h=>_|none=>_)=_
 rw[c]
 refine(aU ⟨i4 _,by rw[bR];exact J [_,_] 4358272 L⟩).trans ?_
 rw[Int.toNat_natCast,bR,Nat.add_sub_cancel,List.take_left,List.drop_left,b6]
theorem acE{k v:Nat}(h:ao[k]?=some (v:Int))(b:v<=T.length):fe T f (.ret k) ⟨a,s,O,ao,aF⟩=some (true,⟨v,s+1,O,ao,aF⟩):=by
 show(match ao[k]? with|some h=>_|none=>_)=_
 exact rwl h (aU ⟨i4 _,b⟩)
theorem acw{w:Nat}(h:w<=a):fe T f (.behind w) ⟨a,s,O,ao,aF⟩=some (true,⟨a-w,s+1,O,ao,aF⟩):=bA _ (a8 (lI.mpr h))
theorem acx{w:Nat}(h:¬w<=a):fe T f (.behind w) ⟨a,s,O,ao,aF⟩=some (false,⟨a,s,O,ao,aF⟩):=bA _ (aU (pV h))
end
section
variable{T:List Nat}{f:Bool}{rows:List ct}
def gR(T:List Nat)(f:Bool)(rows:List ct)(G s q k b:Nat)(F:Nat->cA->List cm)(aw:Nat->cA->Nat):Prop:=∀a O ao aF,b<=ao.length->a<=T.length->hG T O->O.length=G->
 c6 T f rows q k b (F a O) O ao aF (λ c r=>eJ T f rows c ⟨a,s,O,ao,aF⟩ r) (aw a O)
theorem Bd{ao:List Int}{k:Nat}{v w:Int}(h:k<ao.length):((ao.set k v).set k w).set k (ao[k]?.getD 0)=ao:=by
 rw[List.set_set,List.set_set,hK h]
 exact List.set_getElem_self h
theorem sD{ao:List Int}{k:Nat}{v:Int}(h:k<ao.length):(ao.set k v).set k (ao[k]?.getD 0)=ao:=by
 rw[List.set_set,hK h]
 exact List.set_getElem_self h
theorem xx{ao:List Int}{k:Nat}{v:Int}(h:k<ao.length):(ao.set k v)[k]?=some v:=by rw[List.getElem?_set_self h]
theorem afJ{G s k:Nat}{i:Nat}(h:rows[s]?=some (.test i)):gR T f rows G s (s+1) k k (bI T f (.one i)) (eE T f (.one i)):=by
 intro a O ao aF V c e g
 rw[xh]
 split<;>rename_i d
 ·exact c6.one (bG:=[]) (λ b r=>hL h (acF d)) .refl rfl rfl
 ·exact λ b r=>rt h (acG d)
theorem afK{G s k:Nat}{i:Nat}(h:rows[s]?=some (.plc i)):gR T f rows G s (s+1) k k (bI T f (.place i)) (eE T f (.place i)):=by
 intro a O ao aF V c e g
 rw[xS]
 split<;>rename_i d
 ·exact c6.one (bG:=[]) (λ b r=>hL h (acB d)) .refl rfl rfl
 ·exact λ b r=>rt h (acC d)
theorem afA{G s k:Nat}{n m:Nat}(h:rows[s]?=some (.back n))(i:0<n)(Y:n<=G):gR T f rows G s (s+1) k k (bI T f (.again n m)) (eE T f (.again n m)):=by
 intro a O ao aF V u j l
 refine a7 (⟨_,hK (J [_,_,_,_] 0xc111c0020447004c509481 L Y (aL l.symm) (di (J [_] 4540987353335809 L i)))⟩:∃p,O[n-1]?=some p) λ p c=>?_
 rw[Au]
 rw[c]
 rcases p with _|⟨b,d⟩
 ·exact λ e r=>rt h (KI c)
 ·have g:=j b d (j_ c)
  dsimp only
  split<;>rename_i q
  ·exact c6.one (bG:=[]) (λ e r o=>hL h ((En c g).trans (bA _ (aU q))) o) .refl rfl rfl
  ·exact λ e r t=>rt h ((En c g).trans (bA _ (a8 q))) t
theorem afC{G s q d k b c:Nat}{x r:bq}(j:gR T f rows G s q k b (bI T f x) (eE T f x))(V:gR T f rows G q d b c (bI T f r) (eE T f r))(C:k<=b)(I:b<=c):gR T f rows G s d k c (bI T f (.cons x r)) (eE T f (.cons x r)):=by
 intro a O ao aF e g h i
 exact c6.bind (bw k) I qx (j a O _ _ (J [_,_,_] 6734715327617 L I e) g h i) λ w l ab bG m b6=>f5 (iv x a O w g h l) λ t n o p=>(V _ _ ab _ (by exact rwl m.1 e) n o (p.trans i)).wide C (bw _)
theorem afD{G s q k b n:Nat}{x:bq}{nm:Bool}(h:rows[s]?=some (.opn k))(j:rows[q]?=some (.close n k))(l:gR T f rows G (s+1) q (k+1) b (bI T f x) (eE T f x))(m:k<b)(y:0<n)(Y:n<=G):
  gR T f rows G s (q+1) k b (bI T f (.group n x nm)) (eE T f (.group n x nm)):=by
 intro a O ao aF o e g t
 rw[EN,Vg]
 have d:k<ao.length:=by lia
 have I:=c6.bind (bw _) (bw b) (F:=λ w=>[(w.1,w.2.set _ _)]) qx (l a O (ao.set k a) (.dF k (ao[k]?.getD 0)::aF) (by rw[hr];exact o) e g t) λ w u ab bG v b6=>by
  refine f5 (iv x a O w e g u) λ A B C D=>a7 (⟨_,hK (by lia)⟩:∃p,w.2[n-1]?=some p) λ p i=>?_
  refine c6.one (bG:=[.i7 n p]) (λ E r=>hL j (acy (by rw[v.2 k (.inl (eo k))];exact xx d) i)) .refl ?_ rfl
  show((w.2.set _ _).set _ p,ab)=_
  rw[List.set_set,<-List.getElem_eq_iff (h:=by lia).mpr i,List.set_getElem_self]
 rw[<-List.map_eq_flatMap,show((bI T f x a O).map _).sum=(bI T f x a O).length by simp [List.map_const']] at I
 rw[ez]
 exact c6.pre (λ c r=>hL h (acA d)) (c6.base (bG:=[.dF k (ao[k]?.getD 0)]) (f7.set (bw k) m) (show(O,(ao.set k _).set k _)=_ by rw[sD d]) rfl (I.wide (hp k) (bw _)))
theorem afB{G s q d k b e:Nat}{ab aT:bq}(h:rows[s]?=some (.split (s+1) (q+1)))(n:rows[q]?=some (.jump d))(C:gR T f rows G (s+1) q k b (bI T f ab) (eE T f ab))(I:gR T f rows G (q+1) d b e (bI T f aT) (eE T f aT))(o:k<=b)(g:b<=e):
  gR T f rows G s d k e (bI T f (.d4 ab aT)) (eE T f (.d4 ab aT)):=by
 intro a O ao aF i j l m
 rw[EM,Vf]
 rw[show 1+eE T f ab a O+(bI T f ab a O).length+eE T f aT a O=1+(eE T f ab a O+(bI T f ab a O).length+eE T f aT a O) by exact cB (J [_,_,_] 0x629000088062902200000 L) (J [_,_,_] 0x629022000062900008800 L)]
 exact c6.pre (λ c r p=>hL h rfl p) (c6.app (bG:=[.hD _ a]) .refl rfl (((C a O _ (.hD (q+1) a::aF) (J [_,_,_] 6734715327617 L g i) j l m).to qx λ w z ab bG c r z=>hL n rfl).wide (bw k) g) ((I a O _ _ i j l m).wide o (bw _)))
set_option tactic.hygienic true in
theorem afz{s q k e a c:Nat}{O:cA}{ao:List Int}{aF:List cE}{aV:List cm}(h:rows[s]?=some (.mark k))(o:rows[q]?=some (.cut k))(g:k<e)(p:e<=ao.length)
  (l:c6 T f rows q (k+1) e aV O ((ao.set k 0).set k ((aF.length+1:Nat):Int)) (.dF k (ao[k]?.getD 0)::aF) (λ c r=>eJ T f rows c ⟨a,s+1,O,(ao.set k 0).set k ((aF.length+1:Nat):Int),.dF k (ao[k]?.getD 0)::aF⟩ r) c):
  c6 T f rows (q+1) k e (aV.take 1) O ao aF (λ c r=>eJ T f rows c ⟨a,s,O,ao,aF⟩ r) (2+c):=by
 have i:k<ao.length:=J [_,_,_] 0x182220006284a111001 L g p
 rw[show 2+c=1+(1+c) by exact cB (J [_] 0x204400880410800 L) (J [_] 0x208402044008800 L)]
 refine c6.pre (λ c r b=>hL (T:=T) (f:=f) (c:=c) (r:=r) (j:=⟨a,s,O,ao,aF⟩) h (Eo i) b) ?_
 have b6:gO [.dF k (ao[k]?.getD 0)] O ((ao.set k 0).set k (aF.length+1:Nat))=(O,ao):=by show(O,_)=_;rw[Bd i]
 rcases aV with _|_
 case nil=>exact λ m r t=>nV (l m r (rj rfl (by rw[b6];exact t))) (J [_,_] 0xa40880029000 L)
 case cons w aV=>
  refine vF l λ u en ab bG v x n y A=>?_;refine c6.weak qx (c6.one (c:=u+1) (bG:=bG.filter cE.log++[.dF k (ao[k]?.getD 0)]) (λ m r b=>?_) (((f7.set (bw k) g).trans (f7.set (bw k) g)).trans (n.wide (hp k) (bw _))) ?_ ?_) (J [_,_,_] 0xc1100222000629001 L v)
  ·rw[ez]
   refine x _ _ (hL o ?_ b)
   exact(KJ (by rw[n.2 k (.inl (eo k))];exact xx (by rw[hr];exact i):ab[k]?=some (aF.length+1:Int))).trans (by rw[el];rfl)
  ·rw[pE,tJ,y]
   exact b6
  ·exact k0.mpr λ d b=>(fv.mp b).elim (λ h=>(List.mem_filter.mp h).2) λ h=>by rw[fu.mp h];rfl
theorem LO{G s q k b:Nat}{F:Nat->cA->List cm}{aw:Nat->cA->Nat}(h:rows[s]?=some (.mark k))(d:rows[q]?=some (.cut k))(e:k<b)(g:gR T f rows G (s+1) q (k+1) b F aw):
  gR T f rows G s (q+1) k b (λ a O=>(F a O).take 1) (λ a O=>2+aw a O):=by
 intro a O ao aF c i j l
 exact afz h d e c (g a O _ _ (by rw[hr,hr];exact c) i j l)
end
end
section
section
variable{T:List Nat}{f:Bool}{rows:List ct}
theorem afH{G k b y d h:Nat}{F:Nat->cA->List cm}{aw:Nat->cA->Nat}(s:r' T F)(t:rows[d]?=some (.again k (k+1) (d+1)))(dE:rows[y]?=some (.jump h))
  (u:gR T f rows G (d+1) y (k+2) b F aw) (e:k+2<=b) {i done a:Nat} {O:cA} {ao:List Int} {aF:List cE} {mg:cm->List cm} {j:cm->Nat}
  (V:b<=ao.length) (l:a<=T.length) (m:hG T O) (v:O.length=G) (x:ao[k]?=some (done:Int))
  (I:∀w,kX T a O w->∀ab bG,ab.length=ao.length->ab[k]?=some ((done+1:Nat):Int)->ab[k+1]?=some (a:Int)->c6 T f rows i k b (mg w) w.2 ab bG (λ c r=>eJ T f rows c ⟨w.1,h,w.2,ab,bG⟩ r) (j w)):
  c6 T f rows i k b ((F a O).flatMap mg) O ao aF (λ c r=>eJ T f rows c ⟨a,d,O,ao,aF⟩ r) (1+aw a O+((F a O).map λ w=>1+j w).sum):=by
 have n:k<ao.length:=J [_,_,_] 0x182220006284a211001 L e V
 have o:k+1<ao.length:=J [_,_,_] 0xc11044400006284a211001 L e V
 have p:k+1<(ao.set k (done+1)).length:=by rw[hr];exact o
 have q:f7 k b _ ((ao.set k (done+1)).set (k+1) a):=(f7.set (bw k) (J [_,_] 0x28444000a211001 L e)).trans (f7.set (hp k) (J [_,_] 0x142208880000a211001 L e))
 have ag:=c6.bind (by exact J [_] 69337216 L) (bw b) qx (u a O ((ao.set k (done+1)).set (k+1) a) (.dF (k+1) ((ao.set k (done+1))[k+1]?.getD 0)::.dF k (ao[k]?.getD 0)::aF) (by rw[hr,hr];exact V) l m v) λ w A ab bG g b6=>by
  refine c6.pre (λ c r=>hL dE rfl) (I w (s a O w l m A) ab _ (g.1.trans q.1) ?_ ?_)
  ·rw[g.2 k (.inl (J [_] 2272038817792 L)),List.getElem?_set_ne (by exact λ B=>bB _ (J [_] 71537110618113 L (aL B))),List.getElem?_set_self n];rfl
  ·rw[g.2 _ (.inl (by exact J [_] 74450167882973184 L)),List.getElem?_set_self p]
 rw[ez]
 refine c6.pre (λ c r=>hL t (acv x o)) (c6.base (bG:=[_,_]) q ?_ rfl ag)
 show(O,(((ao.set k _).set _ _).set _ _).set k _)=_
 rw[sD p,sD n]
noncomputable def lZ(n bD:Nat)(done:Nat)(b:Int)(a:Nat):Nat:=(bD-done)+(n-a)+(if b=a/\bD<=done then 0 else 1)
theorem Jw{N bD done a b:Nat}{d:Int}(e:done<bD\/¬d=(a:Int))(C:a<=b)(I:b<=N):lZ N bD (done+1) a b<lZ N bD done d a:=by
 unfold lZ
 rw[a8 (c:=d=a/\bD<=done) λ D=>e.elim (λ h=>Nat.not_le.mpr h D.2) λ h=>h D.1]
 have le:=Nat.sub_le_sub_left (hp done) bD
 have t:(if(a:Int)=b/\bD<=done+1 then 0 else 1)<=1:=by split<;>decide
 rcases Nat.eq_or_lt_of_le C with rfl|h
 ·by_cases k:bD<=done+1
  ·rw[aU ⟨rfl,k⟩]
   exact kb (v3 le _)
  ·exact Nat.add_lt_add_of_lt_of_le (Nat.add_lt_add_right (Nat.sub_lt_sub_left (mm (Nat.not_le.mp k)) (eo _)) _) t
 ·exact Nat.add_lt_add_of_lt_of_le (Nat.add_lt_add_of_le_of_lt le (Nat.sub_lt_sub_left (d7 h I) h)) t
theorem GI(c x:Nat):2+c+x=1+(1+c+x):=by rw[<-ez,<-ez]
theorem afF{G k o y b q bD:Nat}{a4:Int}{lazy:Bool}{F:Nat->cA->List cm}{aw:Nat->cA->Nat}(B:r' T F)(h:rows[b]?=some (.loop k (k+1) bD a4 lazy (b+1) q))(C:rows[b+1]?=some (.again k (k+1) (b+2)))(dE:rows[y]?=some (.jump b))
  (E:gR T f rows G (b+2) y (k+2) o F aw) (H:k+2<=o) (n:Nat):∀(done:Nat)(g:Int)(a:Nat)(O:cA)(ao:List Int)(aF:List cE),lZ T.length bD done g a<n->o<=ao.length->a<=T.length->hG T O->O.length=G->ao[k]?=some (done:Int)->ao[k+1]?=some g->
  c6 T f rows q k o (gL F bD a4 lazy n done g a O) O ao aF (λ c r=>eJ T f rows c ⟨a,b,O,ao,aF⟩ r) (oX F aw bD a4 n done g a O):=by
 induction n with
 |zero=>exact λ z z z z z z s=>((bB _) s).elim
 |succ n v=>
  intro done g a O ao aF s V I J x l p
  have more:=λ K aF=>afH (aF:=aF) B C dE E H V I J x l λ w m ab bG L=>v _ a _ _ ab bG (d7 (Jw K m.1 m.2.1) (nN s)) (rwl L V) m.2.1 m.2.2.1 (m.2.2.2.trans x)
  have st:=λ M d A r (t:eJ T f _ A M r)=>hL (j:=⟨a,b,O,ao,aF⟩) h d t
  rw[tu,Gq]
  by_cases i:done<bD
  ·rw[aU i,aU (.inl i),GI]
   exact c6.pre (st _ ((xy l p).trans (by rw[aU (dR.mpr i)]))) (more (.inl i) _)
  ·have u:=λ D=>i (dR.mp D)
   rw[a8 i]
   by_cases e:g=a\/0<=a4/\a4<=done
   ·rw[aU e,a8 λ D=>D.elim i λ D=>D e]
    exact c6.one (bG:=[]) (st _ ((xy l p).trans (by rw[a8 u,aU e];rfl))) .refl rfl rfl
   ·rw[a8 e,aU (c:=done<bD\/¬(g=a\/0<=a4/\a4<=done)) (.inr e),GI]
    have more:=more (.inr λ D=>e (.inl D))
    clear h v;rcases lazy with _|_
    case true=>exact hZ 1 _ ao ([.hD _ a]) ⟨bw _,st _ ((xy l p).trans (by rw[a8 u,a8 e];rfl)),.refl,rfl,more _⟩
    case false=>
     exact c6.pre (st _ ((xy l p).trans (by rw[a8 u,a8 e];rfl))) (c6.app (bG:=[.hD q a]) (en:=0) .refl rfl (more _) (c6.one (λ A r t=>by rw[gr];exact t) .refl rfl rfl))
theorem afG{G s k d y c:Nat}{lazy:Bool}{F:Nat->cA->List cm}{aw:Nat->cA->Nat}(v:T.length<=4)(j:r' T F)(l:rows[s]?=some (.zero k (k+1)))(h:rows[s+1]?=some (.loop k (k+1) (dg c) (dW c) lazy (s+2) (y+1)))(m:rows[s+2]?=some (.again k (k+1) (s+3)))(dE:rows[y]?=some (.jump (s+1)))
  (n:gR T f rows G (s+3) y (k+2) d F aw) (b:k+2<=d):gR T f rows G s (y+1) k d (λ a O=>gL F (dg c) (dW c) lazy 12 0 (-1) a O) (λ a O=>1+oX F aw (dg c) (dW c) 12 0 (-1) a O):=by
 intro a O ao aF V o p q
 have e:k<ao.length:=J [_,_,_] 0x182220006284a211001 L b V
 have g:k+1<ao.length:=J [_,_,_] 0xc11044400006284a211001 L b V
 have i:k+1<(ao.set k 0).length:=by rw[hr];exact g
 have w:dg c<=2:=by
  refine m' ?_ ?_ ?_ ?_ ?_ (λ z=>?_) c<;>exact ae rfl
 have t:lZ T.length (dg c) 0 (-1) a<12:=by
  unfold lZ
  split<;>lia
 refine c6.pre (λ c r=>hL l (acH e g)) (c6.base (bG:=[_,_]) ((f7.set (bw k) (J [_,_] 0x28444000a211001 L b)).trans (f7.set (hp k) (J [_,_] 0x142208880000a211001 L b))) ?_ rfl (afF j h m dE n b 12 0 _ a O _ _ t (by rw[hr,hr];exact V) o p q ?_ ?_))
 ·show(O,(((ao.set k _).set _ _).set _ _).set k _)=_
  rw[sD i,sD e]
 ·rw[List.getElem?_set_ne (by exact λ u=>bB _ (J [_] 71537110618113 L (aL u))),List.getElem?_set_self e];rfl
 ·rw[List.getElem?_set_self i]
set_option tactic.hygienic true
theorem afE{G s k l i q w:Nat}{p:Option Nat}{x:bq}(D:rows[s]?=some (.place k))(C:rows[s+1]?=some (.mark (k+1)))(v:∀a O ao aF,(p.getD 0<=a->∀c r,eJ T f rows c ⟨a-p.getD 0,i,O,ao,aF⟩ r->eJ T f rows (1+c) ⟨a,s+2,O,ao,aF⟩ r)/\(¬p.getD 0<=a->∀c r,ji T f rows c O ao aF r->eJ T f rows (1+c) ⟨a,s+2,O,ao,aF⟩ r))
  (E:rows[q]?=some (.cut (k+1))) (V:rows[q+1]?=some (.ret k)) (F:gR T f rows G i q (k+2) l (bI T f x) (eE T f x)) (g:k+2<=l):gR T f rows G s (q+2) k l (bI T f (.look x p false)) (eE T f (.look x p false)):=by
 intro a O ao aF m y H I
 have n:k<ao.length:=J [_,_,_] 0x182220006284a211001 L g m
 have o:k+1<(ao.set k a).length:=by rw[hr];exact J [_,_,_] 0xc11044400006284a211001 L g m
 have A:f7 k l _ (((ao.set k a).set (k+1) 0).set (k+1) ((cE.dF k (ao[k]?.getD 0)::aF).length+1:Nat)):=((f7.set (bw k) (J [_,_] 0x28444000a211001 L g)).trans (f7.set (hp k) (J [_,_] 0x142208880000a211001 L g))).trans (f7.set (hp k) (J [_,_] 0x142208880000a211001 L g))
 have b6:gO [.dF (k+1) ((ao.set k a)[k+1]?.getD 0),.dF k (ao[k]?.getD 0)] O (((ao.set k a).set (k+1) 0).set (k+1) ((cE.dF k (ao[k]?.getD 0)::aF).length+1:Nat))=(O,ao):=by
  show(O,((((ao.set k _).set _ _).set _ _).set _ _).set k _)=_
  rw[Bd o,sD n]
 have st:∀c r,eJ T f _ c ⟨a,s+2,O,((ao.set k _).set _ 0).set _ ((cE.dF k (ao[k]?.getD 0)::aF).length+1:Nat),.dF _ ((ao.set k _)[k+1]?.getD 0)::.dF k (ao[k]?.getD 0)::aF⟩ r->eJ T f _ _ _ r:=λ c r d=>hL D (KL n) (hL C (Eo o) d)
 rw[xR,Gu]
 by_cases b:p.getD 0<=a
 ·rw[aU b,aU b]
  have e:=F (a-p.getD 0) O _ (.dF (k+1) ((ao.set k a)[k+1]?.getD 0)::.dF k (ao[k]?.getD 0)::aF) (by exact rwl A.1 m) (ah (hq _ _) y) H I
  have e:=c6.pre (X:=λ c r=>eJ T f _ c _ r) (λ c r d=>by
   exact rwl (show 3+c=1+(1+(1+c)) by exact cB (J [_] 0x1022004400880418800 L) (J [_] 0x1062010220044008800 L)) (st _ _ ((v a _ _ _).1 b _ _ d))) e
  rcases B:bI T f x _ O with _|_
  case nil=>
   rw[B] at e
   exact λ j r b=>nV (e j r (rj rfl (by rw[b6];exact b))) (J [_,_] 0x5214400148310000 L)
  case cons w aV=>
   rw[B] at e
   refine vF e λ K en ab bG M N t P Q=>c6.weak qx (c6.one (c:=K+2) (bG:=bG.filter cE.log++[.dF (k+1) ((ao.set k a)[k+1]?.getD 0),.dF k (ao[k]?.getD 0)]) (λ j r d=>?_) (A.trans (t.wide (J [_] 69337216 L) (bw _))) ?_ ?_) (J [_,_,_] 0x6288021100030c4029001 L M)
   ·rw[ez,show 2+j=1+(1+j) by exact cB (J [_] 0x204400880410800 L) (J [_] 0x208402044008800 L)]
    refine N _ _ (hL E (KJ ?_) (hL V (acE ?_ y) ?_))
    ·rw[t.2 _ (.inl (by exact J [_] 74450167882973184 L))];exact xx (by rw[hr];exact o)
    ·rw[t.2 k (.inl (J [_] 2272038817792 L)),List.getElem?_set_ne (by exact λ u=>bB _ (J [_] 71537110618113 L (aL u))),List.getElem?_set_ne (by exact λ u=>bB _ (J [_] 71537110618113 L (aL u)))];exact xx n
    ·rw[el] at d;exact d
   ·rw[pE,tJ,P]
    exact b6
   ·simp [cE.log]
 ·rw[a8 b,a8 b]
  intro j r h
  refine nV (st _ _ ((v a _ _ _).2 b _ _ (rj rfl (by rw[b6];exact h)))) (by exact J [_] 0x8011440010220044008800 L)
theorem afI{G s k g i q w:Nat}{p:Option Nat}{x:bq}(A:rows[s]?=some (.place k))(C:rows[s+1]?=some (.mark (k+1)))(I:rows[s+2]?=some (.split (s+3) (q+1)))
  (t:∀a O ao aF,(p.getD 0<=a->∀c r,eJ T f rows c ⟨a-p.getD 0,i,O,ao,aF⟩ r->eJ T f rows (1+c) ⟨a,s+3,O,ao,aF⟩ r)/\(¬p.getD 0<=a->∀c r,ji T f rows c O ao aF r->eJ T f rows (1+c) ⟨a,s+3,O,ao,aF⟩ r))
  (B:rows[q]?=some (.refuse (k+1))) (D:gR T f rows G i q (k+2) g (bI T f x) (eE T f x)) (j:k+2<=g):gR T f rows G s (q+1) k g (bI T f (.look x p true)) (eE T f (.look x p true)):=by
 intro a O ao aF m E F H
 have u:k<ao.length:=J [_,_,_] 0x182220006284a211001 L j m
 have n:k+1<(ao.set k a).length:=by rw[hr];exact J [_,_,_] 0xc11044400006284a211001 L j m
 have v:f7 k g _ (((ao.set k a).set (k+1) 0).set (k+1) ((cE.dF k (ao[k]?.getD 0)::aF).length+1:Nat)):=((f7.set (bw k) (J [_,_] 0x28444000a211001 L j)).trans (f7.set (hp k) (J [_,_] 0x142208880000a211001 L j))).trans (f7.set (hp k) (J [_,_] 0x142208880000a211001 L j))
 have b6:gO [.dF (k+1) ((ao.set k a)[k+1]?.getD 0),.dF k (ao[k]?.getD 0)] O (((ao.set k a).set (k+1) 0).set (k+1) ((cE.dF k (ao[k]?.getD 0)::aF).length+1:Nat))=(O,ao):=by
  show(O,((((ao.set k _).set _ _).set _ _).set _ _).set k _)=_
  rw[Bd n,sD u]
 have st:∀c r,eJ T f _ c ⟨a,s+3,O,((ao.set k _).set _ 0).set _ ((cE.dF k (ao[k]?.getD 0)::aF).length+1:Nat),.hD _ a::.dF _ ((ao.set k _)[k+1]?.getD 0)::.dF k (ao[k]?.getD 0)::aF⟩ r->eJ T f _ _ _ r:=λ c r o=>hL A (KL u) (hL C (Eo n) (hL I rfl o))
 have out:∀{c X},(∀d r,ji T f _ d O (((ao.set k _).set _ 0).set _ ((cE.dF k (ao[k]?.getD 0)::aF).length+1:Nat)) (.hD _ a::.dF _ ((ao.set k _)[k+1]?.getD 0)::.dF k (ao[k]?.getD 0)::aF) r->X (c+d) r)->c6 T f rows (q+1) k g [(a,O)] O _ _ X c:=λ{c X} h=>
  c6.one (bG:=[_,_]) (h) v b6 rfl
 rw[xR,Gu]
 by_cases b:p.getD 0<=a
 ·rw[aU b,aU b]
  have e:=D (a-p.getD 0) O _ (.hD (q+1) a::.dF (k+1) ((ao.set k a)[k+1]?.getD 0)::.dF k (ao[k]?.getD 0)::aF) (by rw[v.1];exact m) (ah (hq _ _) E) F H
  have e:=c6.pre (X:=λ c r=>eJ T f _ c _ r) (λ c r o=>by
   exact rwl (show 4+c=1+(1+(1+(1+c))) by exact cB (J [_] 0x8110022004400880420800 L) (J [_] 0x8410081100220044008800 L)) (st _ _ ((t a _ _ _).1 b _ _ o))) e
  rcases y:bI T f x _ O with _|_
  case nil=>
   rw[y] at e
   exact c6.weak qx (out e) (J [_] 4571997014016 L)
  case cons w aV=>
   rw[y] at e
   refine vF e λ R en ab bG K M N P S=>?_;intro d r b
   have Q:fe T f (.refuse (k+1)) ⟨w.1,q,w.2,ab,bG++.hD (q+1) a::cE.dF (k+1) ((ao.set k a)[k+1]?.getD 0)::.dF k (ao[k]?.getD 0)::aF⟩=some (false,⟨w.1,q,O,((ao.set k a).set (k+1) 0).set (k+1) ((cE.dF k (ao[k]?.getD 0)::aF).length+1:Nat),cE.dF (k+1) ((ao.set k a)[k+1]?.getD 0)::.dF k (ao[k]?.getD 0)::aF⟩):=by
    rw[show∀l,bG++cE.hD _ a::l=bG++[cE.hD (q+1) a]++l by simp]
    refine acD ?_ (by rewrite[pE,P];rfl)
    rw[N.2 (k+1) (.inl (J [_] 74450167882973184 L))];exact xx (by rw[hr];exact n)
   exact nV (M _ r (rt (c:=d) B Q (rj rfl (by rw[b6];exact b)))) (J [_,_,_,_] 0x73144001c22010003104029001 L K)
 ·rw[a8 b,a8 b]
  refine c6.weak qx (out (c:=4) λ d r h=>?_) (J [] 2317357120 L)
  exact rwl (show 4+d=1+(1+(1+(1+d))) by exact cB (J [_] 0x8110022004400880420800 L) (J [_] 0x8410081100220044008800 L)) (st _ _ ((t a _ _ _).2 b _ _ h))
set_option tactic.hygienic false
end
end
section
section
variable{T:List Nat}{f:Bool}{rows:List ct}
theorem z5{k a m:Nat}:runN f k (T.drop a) (m+1)=if gG T f k a then runN f k (T.drop (a+1)) m+1 else 0:=by
 unfold gG
 by_cases h:a<T.length
 ·rw[oQ h,hK h]
  rfl
 ·rw[sr (cI h),oP (cI h)]
  rfl
theorem Eb{k:Nat}(l:List Nat):runN f k l 0=0:=by rcases l with _|_<;>rfl
theorem Ea{k:Nat}:∀(l:List Nat)(m:Nat),runN f k l m<=m/\runN f k l m<=l.length
 |[],m=>⟨de _,de _⟩
 |_::_,0=>⟨de _,de _⟩
 |c::r,m+1=>by
  obtain⟨C,I⟩:=Ea r m
  rw[D']
  split
  ·exact⟨J [_,_] 0x88a00888001481 L C,by simp;exact I⟩
  ·exact⟨de _,de _⟩
noncomputable def sM(O:cA)(low:Nat):Nat->List cm
 |0=>[]
 |m+1=>(low+m,O)::sM O low m
theorem GX(O:cA)(low:Nat):∀m,sM O (low+1) m++[(low,O)]=sM O low (m+1)
 |0=>rfl
 |m+1=>by
  show(low+1+m,O)::(sM O _ m++[(low,O)])=(low+(m+1),O)::sM O _ _
  rw[GX O _ m,ez,nO 1 m]
theorem DU{k a:Nat}{O:cA}{F:cm->List cm}:(bI T f (.one k) a O).flatMap F=if gG T f k a then F (a+1,O) else[]:=by
 rw[xh]
 split
 ·simp
 ·rfl
noncomputable def qu(n a:Nat)(a4:Int)(done:Nat):Nat:=if a4<0 then n-a else a4.toNat-done
theorem xr{o l:Nat}(h:o<l):l-o=l-(o+1)+1:=(Nat.succ_pred_eq_of_pos (Nat.sub_pos_of_lt h)).symm
theorem xt{o l:Nat}(h:l<=o):l-o=0:=vZ h
theorem Y_{n a o:Nat}{a4:Int}(h:0<=a4/\a4<=o):qu n a a4 o=0:=by
 unfold qu;rw[a8 (jF.mpr h.1)];exact xt (Int.toNat_le.mpr h.2)
theorem Y'{a4:Int}{o:Nat}(h:¬a4<0)(a:¬(0<=a4/\a4<=o)):a4.toNat-o=a4.toNat-(o+1)+1:=xr (Int.lt_toNat.mpr (Int.not_le.mp λ D=>a ⟨jF.mp h,D⟩))
theorem Jv{a4:Int}{o:Nat}(a:¬(0<=a4/\a4<=o)):a4<0\/((o+1:Nat):Int)<=a4:=(Int.lt_or_le _ 0).imp id λ h=>Int.add_one_le_of_lt (Int.not_le.mp λ D=>a ⟨h,D⟩)
theorem Z1{a4:Int}{o l:Nat}(b:a4<0\/(l:Int)<=a4)(a:0<=a4/\a4<=o):l<=o:=b.elim (λ h=>((Int.not_le.mpr h) a.1).elim) λ h=>hT.mp (Int.le_trans h a.2)
theorem Dg{b a4:Int}{a o:Nat}(c:b<a)(d:¬(0<=a4/\a4<=o)):¬(b=a\/(0<=a4/\a4<=o)):=λ D=>D.elim (Int.ne_of_lt c) d
theorem Bp(a:Nat):(a:Int)<((a+1:Nat):Int):=dR.mpr (eo a)
set_option tactic.hygienic true in
theorem Kf{k bD:Nat}{a4:Int}(i:a4<0\/(bD:Int)<=a4):∀(n done:Nat)(e:Int)(a:Nat)(O:cA),T.length-a<n->e<a->a<=T.length->(a4<0\/(done:Int)<=a4)->
  gL (bI T f (.one k)) bD a4 false n done e a O=sM O (a+(bD-done)) (runN f k (T.drop a) (qu T.length a a4 done)+1-(bD-done))
 |0,_,_,_,_,h,_,_,_=>((bB _) h).elim
 |n+1,done,e,a,O,Y,j,r,s=>by
  have c:=Kf (k:=k) i n (done+1) a (a+1) O
  rw[tu]
  rw[DU]
  by_cases b:0<=a4/\a4<=done
  ·have l:=Z1 i b
   rw[a8 (lI.mpr l),aU (.inr b),Y_ b,Eb,xt l]
   rfl
  ·by_cases d:gG T f k a=true
   ·have g:=o1 d
    refine fB (show∃m,qu T.length a a4 done=m+1/\qu T.length (a+1) a4 (done+1)=m/\True from ?_) λ m o p z=>?_
    ·unfold qu
     split
     ·exact⟨_,xr g,rfl,trivial⟩
     ·exact⟨_,Y' (by assumption) b,rfl,trivial⟩
    have c:=c (d7 (Nat.lt_of_lt_of_eq (eo _) (xr g).symm) (nN Y)) (Bp a) g (Jv b)
    rw[p] at c
    rw[aU d,o,z5,aU d]
    split
    ·rename_i h
     rw[c,xr h,Nat.add_sub_add_right,Nat.add_right_comm]
     rfl
    ·rename_i h
     rw[a8 (Dg j b),c,xt (oR (cI h)),xt (cI h),GX]
     rfl
   ·have q:runN f k (T.drop a) (qu T.length a a4 done)=0:=by
     rcases qu _ a _ _ with _|_
     case zero=>exact Eb _
     case succ m=>rw[z5,a8 d]
    rw[a8 d,q]
    split
    ·rename_i h
     rw[xr h,Nat.add_sub_add_right,Nat.zero_sub];rfl
    ·rename_i h
     rw[a8 (Dg j b),xt (cI h)]
     rfl
theorem Gi{c:Nat}{g:cA}{b:List Int}{s:List cE}{q low a:Nat}{r:hI}:ji T f rows c g b (.less q low a::s) r=eJ T f rows c ⟨a-1,q,g,b,if low<a-1 then .less q low (a-1)::s else s⟩ r:=rfl
theorem Bg{c:Nat}{g:cA}{b:List Int}{s:List cE}{q k a:Nat}{left:Int}{r:hI}:ji T f rows c g b (.more q k a left::s) r=xk (if gG T f k a then some ⟨a+1,q,g,b,if left=1 then s else .more q k (a+1) (if 0<left then left-1 else-1)::s⟩ else lK T f s g b) (r=none) (λ j=>eJ T f rows c j r):=rfl
theorem LM{q k low:Nat}{O:cA}{ao:List Int}{aF:List cE}:∀m,c6 T f rows q k k (sM O low (m+1)) O ao aF (λ c r=>ji T f rows c O ao (.less q low (low+(m+1))::aF) r) 0
 |0=>hZ 0 0 ao ([]) ⟨bw _,λ a r b=>by
  refine aH Gi ?_;rw[a8 (by exact λ d=>bB _ (J [_,_] 0x41100220080400445004a111001 L d (di (J [_] 37385547023424 L)))),gr a]
  exact b,.refl,rfl,λ a r h=>by rw[gr];exact h⟩
 |m+1=>hZ 0 0 ao ([.less q low (low+(m+1))]) ⟨bw _,λ a r b=>by
  rw[gr]
  refine aH Gi ?_;rw[aU (by exact J [_,_,_] 0x304440002230022088a001001 L (d2 _ _))]
  exact b,.refl,rfl,LM m⟩
noncomputable def sz(T:List Nat)(f:Bool)(k:Nat)(O:cA):Nat->Nat->Int->List cm
 |0,_,_=>[]
 |n+1,a,left=>if left≠0/\gG T f k a=true then(a+1,O)::sz T f k O n (a+1) (if 0<left then left-1 else-1) else[]
theorem A4{T:List Nat}{f:Bool}{k:Nat}{O:cA}{n a:Nat}{left:Int}:sz T f k O (n+1) a left=if left≠0/\gG T f k a=true then(a+1,O)::sz T f k O n (a+1) (if 0<left then left-1 else-1) else[]:=rfl
theorem Kd{k bD:Nat}{a4:Int}:∀(n done:Nat)(d:Int)(a:Nat)(O:cA),T.length-a<n->d<a->bD<=done->(a4<0\/(done:Int)<=a4)->
  gL (bI T f (.one k)) bD a4 true n done d a O=(a,O)::sz T f k O n a (if a4<0 then-1 else a4-done)
 |0,_,_,_,_,h,_,_,_=>((bB _) h).elim
 |n+1,done,d,a,O,Y,g,e,j=>by
  rw[tu,A4]
  rw[DU,a8 (by exact λ i=>bB _ (J [_,_] 0x208804088a009481 L e i))]
  by_cases c:0<=a4/\a4<=done
  ·rw[aU (.inr c),a8 (by rw[a8 (jF.mpr c.1)];lia)]
  ·rw[a8 (Dg g c),aU rfl]
   by_cases b:gG T f k a=true
   ·rw[aU b,aU ⟨by split<;>lia,b⟩,Kd n (done+1) a _ O (by exact J [_,_,_,_,_] 0x28448000c111c08004e4018211140111001 L Y (d2 _ _) (di (o1 b))) (Bp a) (oR e) (Jv c)]
    split<;>split<;>lia
   ·rw[a8 b,a8 λ D=>b D.2]
theorem Ke{k bD:Nat}{a4:Int}(i:a4<0\/(bD:Int)<=a4):∀(o n done:Nat)(d:Int)(a:Nat)(O:cA),T.length-a<n->d<a->bD=done+o->a<=T.length->
  gL (bI T f (.one k)) bD a4 true n done d a O=if runN f k (T.drop a) o<o then[] else(a+o,O)::sz T f k O (n-o) (a+o) (if a4<0 then-1 else a4-bD)
 |0,n,done,d,a,O,Y,e,b,j=>by
  rw[Kd n _ _ a O Y e (by exact J [_,_] 5634999353473 L (aL b)) (by lia),b]
  rfl
 |o+1,0,_,_,_,_,Y,_,_,_=>((bB _) Y).elim
 |o+1,n+1,done,d,a,O,Y,e,b,j=>by
  rw[tu]
  rw[DU,aU (by exact J [_,_,_] 0xc1110003044501001 L (aL b.symm)),z5]
  by_cases c:gG T f k a=true
  ·have g:=o1 c
   rw[aU c,aU c,Ke i o n _ a _ O (by exact J [_,_,_,_,_] 0x28448000c111c08004e4018211140111001 L Y (d2 _ _) (di g)) (Bp a) (by exact cB (J [_,_,_] 0x3044500080088c028081 L (aL b)) (J [_,_,_] 0x31422200003044501001 L (aL b.symm))) g,Nat.add_sub_add_right,show a+1+o=a+(o+1) by exact cB (J [_,_] 0x1114040142220000 L) (J [_,_] 0x5088800044501000 L)]
   by_cases h:runN f k (T.drop (a+1)) o<o
   ·rw[aU h,aU (sv h)]
   ·rw[a8 h,a8 λ D=>h (sl D)]
  ·rw[a8 c,a8 c,aU (jH o)]
set_option tactic.hygienic true in
theorem LN{q k i:Nat}{O:cA}{ao:List Int}{aF:List cE}:∀n a (left:Int),T.length-a<n->left≠0->c6 T f rows q k k (sz T f i O n a left) O ao aF (λ c r=>ji T f rows c O ao (.more q i a left::aF) r) 0
 |0,_,_,h,_=>((bB _) h).elim
 |n+1,a,left,Y,g=>by
  rw[A4]
  by_cases b:gG T f i a=true
  ·have j:=o1 b
   rw[aU ⟨g,b⟩]
   by_cases C:left=1
   ·subst C
    refine⟨0,0,ao,[],bw _,λ d r e=>?_,.refl,rfl,?_⟩
    ·rw[gr]
     refine aH Bg ?_;rw[aU b,aU rfl]
     exact e
    ·rcases n with _|_
     case zero=>exact λ d r h=>by rw[gr];exact h
     case succ n=>
      rw[A4,a8 (λ D=>D.1 (by decide))]
      exact λ d r h=>by rw[gr];exact h
   ·refine⟨0,0,ao,[.more q i (a+1) (if 0<left then left-1 else-1)],bw _,λ d r e=>?_,.refl,rfl,LN n _ _ (J [_,_,_,_,_] 0x28448000c111c08004e4018211140111001 L Y (d2 _ _) (di j)) (by split<;>lia)⟩
    rw[gr]
    refine aH Bg ?_;rw[aU b,a8 C]
    exact e
  ·rw[a8 λ D=>b D.2]
   intro d r h
   rw[gr]
   refine aH Bg ?_;rw[a8 b]
   exact h
theorem Bu(c:Nat):dg c<=2/\(dW c<0\/(dg c:Int)<=dW c):=by
 refine m' ?_ ?_ ?_ ?_ ?_ (λ z=>?_) c<;>first|decide|exact⟨de 2,.inr (by decide:(0:Int)<=2)⟩
theorem Er{k bD:Nat}{a4:Int}{lazy:Bool}{a s:Nat}{O:cA}{ao:List Int}{aF:List cE}(d:runN f k (T.drop a) (jQ T a (if lazy then bD else a4))<bD):fe T f (.run k bD a4 lazy) ⟨a,s,O,ao,aF⟩=some (false,⟨a,s,O,ao,aF⟩):=bA _ (aU d)
theorem Ep{k bD d:Nat}{a4:Int}{lazy:Bool}{a s:Nat}{O:cA}{ao:List Int}{aF:List cE}(b:runN f k (T.drop a) (jQ T a (if lazy then bD else a4))=d)(h:¬d<bD):fe T f (.run k bD a4 lazy) ⟨a,s,O,ao,aF⟩=some (true,⟨a+d,s+1,O,ao,if lazy&&a4 !=bD then .more (s+1) k (a+d) (if a4<0 then-1 else a4-bD)::aF else if bD<d then .less (s+1) (a+bD) (a+d)::aF else aF⟩):=by
 subst b
 exact bA _ (a8 h)
set_option tactic.hygienic true in
theorem afL{G s k i c:Nat}{lazy:Bool}(t:T.length<=4)(h:rows[s]?=some (.run i (dg c) (dW c) lazy)):gR T f rows G s (s+1) k k (λ a O=>gL (bI T f (.one i)) (dg c) (dW c) lazy 12 0 (-1) a O) (λ z z=>1):=by
 intro a O ao aF x u y A
 obtain⟨l,v⟩:=Bu c
 have w:T.length-a<12:=J [_,_] 0x182088a0010a120881 L t (hq _ _)
 rcases lazy with _|_
 case false=>
  dsimp only
  rw[Kf v 12 0 _ a O w (by lia) u (by lia),show qu _ a _ 0=jQ T a _ from rfl,Nat.sub_zero]
  by_cases b:runN f i (T.drop a) (jQ T a (dW c))<dg c
  ·rw[show∀d,d<dg c->d+1-dg c=0 from λ d e=>cB ((Nat.le_total _ _).elim (λ o=>J [_,_,_] 0x230022200a6004a111001 L e (di o)) λ o=>aL (vZ o)) (J [_] 131136 L)]
   ·exact λ g r=>rt h (Er b)
   ·exact b
  ·obtain⟨m,p⟩:∃m,runN f i _ (jQ T a (dW c))=dg c+m:=⟨_,(Nat.add_sub_of_le (lI.mp b)).symm⟩
   have st:=Ep (lazy:=false) (O:=O) (ao:=ao) (aF:=aF) (s:=s) (bD:=dg c) (a4:=dW c) p λ j=>bB _ (J [_,_] 73254001274126337 L j)
   rw[a8 (by simp)] at st
   rw[p,show dg c+m+1-dg c=m+1 by exact cB (J [_,_,_] 0x88c0200223140029001 L (di (J [_,_] 36679188608 L))) (J [_,_,_] 0x30445000860044520001 L (d2 _ _))]
   clear p;rcases m with _|_
   case zero=>
    rw[a8 (by exact λ j=>bB _ (J [_] 0x2088001100111001 L j))] at st
    exact c6.one (bG:=[]) (λ g r=>hL h st) .refl rfl rfl
   case succ m=>
    rw[aU (by exact J [_,_] 0x4450100111000 L),<-ez] at st
    exact hZ 1 0 ao ([.less _ _ _]) ⟨bw _,λ g r=>hL h st,.refl,rfl,LM m⟩
 case true=>
  dsimp only
  rw[Ke v _ 12 0 _ a O w (by lia) (gr _).symm u]
  have B:jQ T a (dg c)=dg c:=by unfold jQ;rfl
  by_cases b:runN f i (T.drop a) (dg c)<dg c
  ·exact rwl (aU b) (λ g r=>rt h (Er (show runN f i _ (jQ T a (dg c))<dg c by exact b)))
  ·have st:=Ep (lazy:=true) (O:=O) (ao:=ao) (aF:=aF) (s:=s) (a4:=dW c) (show runN f i _ (jQ T a (dg c))=dg c by exact cB (Ea _ _).1 (lI.mp b)) (Nat.lt_irrefl _)
   rw[a8 b]
   by_cases q:dW c=dg c
   ·rw[a8 (by rw[q];simp),a8 (Nat.lt_irrefl _)] at st
    rw[a8 (by lia),q,Int.sub_self,show sz T f i O _ _ 0=[] by
     obtain⟨n,Y⟩:∃n,12-dg c=n+1:=⟨11-dg c,cB (J [_,_,_] 0x22200c0608a6004a402c41 L (d2 _ _) (di (J [_] 414598629505 L l))) (J [_,_,_] 0x8111800588a6004a403041 L (d2 _ _) (di (J [_] 380238891137 L l)))⟩
     exact rwl Y (a8 λ D=>D.1 rfl)]
    exact c6.one (bG:=[]) (λ g r e=>hL h st e) .refl rfl rfl
   ·rw[aU (by simpa using q)] at st
    exact hZ 1 0 ao ([.more _ i _ _]) ⟨bw _,λ g r e=>hL h st e,.refl,rfl,LN _ _ _ (cI λ j=>bB _ (J [_,_,_,_] 0x4110022300223802538182090c1108a120881 L t l (hq _ _) (d2 _ _) j)) (by split<;>lia)⟩
theorem gR.weak{G s q k b:Nat}{F:Nat->cA->List cm}{aw c:Nat->cA->Nat}(h:gR T f rows G s q k b F aw)(d:∀a O,aw a O<=c a O):gR T f rows G s q k b F c:=
 λ a O ao aF C I ag e=>c6.weak qx (h a O _ _ C I ag e) (d a O)
set_option tactic.hygienic true in
theorem LP{G s k c:Nat}{lazy:Bool}{x:bq}(b:T.length<=4)(d:∀s k,At rows s (code x s k)->gR T f rows G s (s+(code x s k).length) k (k+d1 x) (bI T f x) (eE T f x))(h:At rows s (l3 x (code x) c lazy s k)):
  gR T f rows G s (s+(l3 x (code x) c lazy s k).length) k (k+(if m7 x then 0 else 2+d1 x)) (λ a O=>gL (bI T f x) (dg c) (dW c) lazy 12 0 (-1) a O) (λ a O=>1+oX (bI T f x) (eE T f x) (dg c) (dW c) 12 0 (-1) a O):=by
 have loop:At _ s (m8 _ _ _ _ s k)->gR T f _ G s (s+(m8 _ _ _ _ s k).length) k (k+(2+d1 x)) (gL _ _ (dW c) lazy 12 0 _) _:=λ h=>by
  refine f5 h λ e C I ag=>?_
  refine e_ (nR.mp ag) λ ag g z=>?_
  rw[show s+(m8 _ (dg c) (dW c) lazy s k).length=s+3+(code x _ _).length+1 by unfold m8;simp;exact cB (J [_,_] 0x1114622000008822088222800001000 L) (J [_,_] 0x11044110445000002002228c4400000 L),show k+(2+d1 x)=k+2+d1 x by exact cB (J [_,_] 0x5108800144201000 L) (J [_,_] 0x5108040144220000 L)]
  rw[show s+4+(code x _ _).length=s+3+(code x _ _).length+1 by exact cB (J [_,_] 0x88a3110000148220000 L) (J [_,_] 0x290440002228c4400000 L)] at C
  exact afG b (iv x) e C I g (d _ _ ag) (dD _ _)
 clear d;rcases x with _|_
 case one i=>exact(afL b h.1).weak λ z z=>dD _ _
 all_goals exact loop h
theorem wZ(x H:ct)(l:List ct):(x::(l++[H])).length=l.length+2:=by simp
set_option tactic.hygienic true
theorem afy(y:T.length<=4)(G:Nat):∀(x:bq),nD x G->∀s k,At rows s (code x s k)->gR T f rows G s (s+(code x s k).length) k (k+d1 x) (bI T f x) (eE T f x):=by
 intro x;induction x with
 |one i=>exact λ z s k h=>afJ h.1
 |place w=>exact λ z s k h=>afK h.1
 |again n m=>exact λ d s k h=>afA h.1 d.1 d.2
 |nil=>exact λ z s k h=>λ a O ao aF V N P Q=>c6.one (bG:=[]) (λ R r u=>nV u (gC _ _)) .refl rfl rfl
 |cons x r l o=>
  intro d s k h
  obtain⟨C,I⟩:=nR.mp (show At rows s (code x s k++code r (s+(code x s k).length) (k+d1 x)) from h)
  have:=afC (l d.1 s k C) (o d.2 _ _ I) (dD _ _) (dD _ _)
  rw[show(code (.cons x r) s k).length=(code x s k).length+(code r (s+(code x s k).length) (k+d1 x)).length from bR,<-ez,show k+d1 (.cons x r)=k+d1 x+d1 r from(ez ..).symm]
  exact this
 |group n r nm o=>
  intro d s k h
  obtain⟨e,C⟩:=h
  refine e_ (nR.mp C) λ C I z=>?_
  have:=afD (nm:=nm) e I (o d.2.2 (s+1) (k+1) C) (J [_,_] 5667020369629184 L) d.1 d.2.1
  rw[show s+(code (.group n r nm) s k).length=s+1+(code r (s+1) (k+1)).length+1 by show s+(ct.opn k::(code r (s+1) (k+1)++[ct.close n k])).length=_;rw[wZ];exact cB (J [_,_] 0x88a1110000084501000 L) (J [_,_] 0x108a0200222844400000 L),show k+d1 (.group n r nm)=k+1+d1 r from(ez ..).symm]
  exact this
 |d4 ab aT K M=>
  intro d s k h
  obtain⟨e,C⟩:=h
  refine e_ (nR.mp C) λ C I ag=>?_
  rw[show s+2+(code ab (s+1) k).length=s+1+(code ab (s+1) k).length+1 by exact cB (J [_,_] 0x88a1110000144220000 L) (J [_,_] 0x28844000222844400000 L)] at e I ag
  have:=afB e I (K d.1 (s+1) k C) (M d.2 _ _ ag) (dD _ _) (dD _ _)
  rw[show s+(code (.d4 ab aT) s k).length=s+1+(code ab (s+1) k).length+1+(code aT (s+1+(code ab (s+1) k).length+1) (k+d1 ab)).length by
   rw[YO]
   rw[show s+2+(code ab (s+1) k).length=s+1+(code ab (s+1) k).length+1 by exact cB (J [_,_] 0x88a1110000144220000 L) (J [_,_] 0x28844000222844400000 L)];simp;exact cB (J [_,_,_] 0x1822284440000008822300a001000 L) (J [_,_,_] 0x4411180500080304450888000000 L),show k+d1 (.d4 ab aT)=k+d1 ab+d1 aT from(ez ..).symm]
  exact this
 |atomic r o=>
  intro d s k h
  refine bc h λ e C=>?_
  refine e_ (nR.mp C) λ C I z=>?_
  have:=LO e I (J [_,_] 5667020369629184 L) (o d (s+1) (k+1) C)
  rw[show s+(code (.atomic r) s k).length=s+1+(code r (s+1) (k+1)).length+1 by show s+(ct.mark k::(code r (s+1) (k+1)++[ct.cut k])).length=_;rw[wZ];exact cB (J [_,_] 0x88a1110000084501000 L) (J [_,_] 0x108a0200222844400000 L),show k+d1 (.atomic r)=k+1+d1 r from(ez ..).symm]
  exact this
 |rounds x c m l=>
  intro d s k h
  have q:=l d
  have A:bI T f (.rounds x c m)=λ a O=>if m=2 then(gL (bI T f x) (dg c) (dW c) (m==1) 12 0 (-1) a O).take 1 else gL (bI T f x) (dg c) (dW c) (m==1) 12 0 (-1) a O:=rfl
  rw[A,show d1 (.rounds x c m)=(if m=2 then 1 else 0)+(if m7 x then 0 else 2+d1 x) from rfl]
  rw[I7] at h⊢
  by_cases B:m=2
  ·clear A;subst B
   simp only[aU] at h⊢
   refine bc h λ e C=>?_
   refine e_ (nR.mp C) λ C I z=>?_
   have:=LO e I (J [_,_] 5667020369629184 L) (LP y q C)
   rw[show s+(oT (l3 x (code x) c false) s k).length=s+1+(l3 x (code x) c false (s+1) (k+1)).length+1 by unfold oT;simp;exact cB (J [_,_] 0x4450888000022088a001000 L) (J [_,_] 0x44111400200222844400000 L),<-ez]
   refine this.weak λ a O=>?_
   show _<=3+_
   exact J [_] 0x20c402044010800 L
  ·simp only[a8 B] at h⊢
   rw[gr]
   refine(LP y q h).weak λ a O=>?_
   show _<=3+_
   exact J [_] 4503277438976 L
 |look x p cW l=>
  intro d s k h
  have q:=l d
  rw[I6] at h⊢
  rw[(ez ..).symm]
  have E:∀{j:Nat},At rows j (eD p)->∀a O ao aF,(p.getD 0<=a->∀c r,eJ T f rows c ⟨a-p.getD 0,j+(eD p).length,O,ao,aF⟩ r->eJ T f rows (1+c) ⟨a,j,O,ao,aF⟩ r)/\(¬p.getD 0<=a->∀c r,ji T f rows c O ao aF r->eJ T f rows (1+c) ⟨a,j,O,ao,aF⟩ r):=by
   intro j F a O ao aF
   rcases p with _|_
   case none=>exact⟨λ z c r u=>nV u (gC _ _),λ D=>(D (de a)).elim⟩
   case some w=>exact⟨λ v c r=>hL (j:=⟨a,j,O,ao,aF⟩) F.1 (acw v),λ v c r=>rt (j:=⟨a,j,O,ao,aF⟩) F.1 (acx v)⟩
  clear d;rcases cW with _|_
  case true=>
   rw[aU rfl] at h⊢
   refine f5 h λ e C I ag=>?_
   refine bc (nR.mp ag) λ ag g=>?_
   refine e_ (nR.mp g) λ g t z=>?_
   rw[show s+1+1+1=s+3 from rfl] at ag g t
   rw[show s+4+(eD p).length+(code x (s+3+(eD p).length) (k+2)).length=s+3+(eD p).length+(code x (s+3+(eD p).length) (k+2)).length+1 by exact cB (J [_,_,_] 0x88c518880000062904400000 L) (J [_,_,_] 0x3148220000088c51888000000 L)] at I⊢
   have:=afI (w:=0) e C I (E ag) t (q _ _ g) (dD _ _)
   rw[show∀(a b c:ct),s+(a::b::c::(eD p++(code x (s+3+(eD p).length) (k+2)++[.refuse (k+1)]))).length=s+3+(eD p).length+(code x (s+3+(eD p).length) (k+2)).length+1 by intro a b c;simp;exact cB (J [_,_,_] 0x1118a3110000002208822088c02800001000 L) (J [_,_,_] 0x110441104460140000080088c51888000000 L)]
   exact this
  case false=>
   rw[a8 (by decide)] at h⊢
   refine e_ h λ e C ag=>?_
   obtain⟨ag,g⟩:=nR.mp ag
   refine f5 (nR.mp g) λ g t H z=>?_
   rw[show s+1+1=s+2 from rfl] at ag g t H
   have:=afE (w:=0) e C (E ag) t H (q _ _ g) (dD _ _)
   rw[show∀(a b:ct),s+(a::b::(eD p++(code x (s+2+(eD p).length) (k+2)++[.cut (k+1),.ret k]))).length=s+2+(eD p).length+(code x (s+2+(eD p).length) (k+2)).length+2 by intro a b;simp;exact cB (J [_,_,_] 0x42314422000000441108460140001000 L) (J [_,_,_] 0x2208842300a000080108c51088000000 L)]
   exact this
theorem ZH(e:T.length<=4){x:bq}{G:Nat}(g:nD x G)(i:At rows 0 (code x 0 0))(j:rows[(code x 0 0).length]?=some .fin){a:Nat}(k:a<=T.length){ao:List Int}(V:d1 x<=ao.length):
  eJ T f rows (eE T f x a (List.replicate G none)+1) ⟨a,0,List.replicate G none,ao,[]⟩ (bI T f x a (List.replicate G none)).head?:=by
 have h:=afy (f:=f) e G x g 0 0 i a (List.replicate G none) ao [] (J [_,_] 5635064206465 L V) k (λ b d h=>by simp at h) sx
 rcases c:bI T f x a (List.replicate G none) with _|_
 case nil=>
  rw[c] at h
  exact h 1 none rfl
 case cons w aV=>
  rw[c] at h
  refine r8 h λ n en ab bG l m z=>?_
  refine nV (m 1 (some w) ?_) (J [_,_,_] 0x22300222000629001 L l)
  exact qE (by rw[gr];exact j) rfl
set_option tactic.hygienic false
end
end
section
noncomputable def pr(F:Nat->Nat):Nat->Nat
 |0=>0
 |j+1=>F j
noncomputable def m9(W:Nat->Nat)(bD:Nat)(a4:Int):Nat->Nat->Bool->Nat->Nat
 |0,_,_,_=>0
 |n+1,done,a,r=>
  if done<bD then W r*max (m9 W bD a4 n (done+1) true r) (pr (m9 W bD a4 n (done+1) false) r)
  else if a=true\/(0<=a4/\a4<=done) then 1
  else 1+W r*max (m9 W bD a4 n (done+1) true r) (pr (m9 W bD a4 n (done+1) false) r)
theorem Ds{W:Nat->Nat}{bD:Nat}{a4:Int}{n done:Nat}{a:Bool}{r:Nat}:m9 W bD a4 (n+1) done a r=if done<bD then W r*max (m9 W bD a4 n (done+1) true r) (pr (m9 W bD a4 n (done+1) false) r)
 else if a=true\/(0<=a4/\a4<=done) then 1
 else 1+W r*max (m9 W bD a4 n (done+1) true r) (pr (m9 W bD a4 n (done+1) false) r):=rfl
noncomputable def rH(W aw:Nat->Nat)(bD:Nat)(a4:Int):Nat->Nat->Bool->Nat->Nat
 |0,_,_,_=>0
 |n+1,done,a,r=>
  if done<bD\/¬(a=true\/(0<=a4/\a4<=done)) then 2+aw r+W r*(1+max (rH W aw bD a4 n (done+1) true r) (pr (rH W aw bD a4 n (done+1) false) r))
  else 1
theorem Dh{W aw:Nat->Nat}{bD:Nat}{a4:Int}{n done:Nat}{a:Bool}{r:Nat}:rH W aw bD a4 (n+1) done a r=if done<bD\/¬(a=true\/(0<=a4/\a4<=done)) then 2+aw r+W r*(1+max (rH W aw bD a4 n (done+1) true r) (pr (rH W aw bD a4 n (done+1) false) r)) else 1:=rfl
noncomputable def Z4:List (List (List Nat)):=[[[0,1,1,1,1],[0,0,0,0,0],[0,0,0,0,0],[0,0,0,0,0],[0,0,0,0,0]],[[1,1,1,1,1],[2,2,2,2,2],[1,2,3,4,5],[1,1,1,1,1],[1,1,1,1,1]],[[1,1,1,1,1],[2,2,2,2,2],[4,4,4,5,6],[8,8,15,31,63],[9,9,16,65,326]],[[1,1,1,1,1],[2,2,2,2,2],[4,4,4,5,6],[8,8,15,31,63],[16,21,85,426,2557]]]
noncomputable def Z3:List (List (List Nat)):=[[[1,1,1,1,1],[0,0,0,0,0],[0,0,0,0,0],[0,0,0,0,0],[0,0,0,0,0]],[[7,8,8,8,8],[6,8,8,8,8],[6,12,14,18,22],[6,8,8,8,8],[6,8,8,8,8]],[[26,29,29,29,29],[44,50,50,50,50],[58,67,67,87,108],[72,85,95,183,375],[85,101,141,535,2692]],[[83,92,92,92,92],[158,176,176,176,176],[271,304,304,383,463],[497,558,981,2013,4093],[857,966,1746,7362,44273]]]
noncomputable def aa9:List (List (List (List Nat))):=[[[[1,1,1,1,1],[0,0,0,0,0],[0,0,0,0,0],[0,0,0,0,0],[0,0,0,0,0]],[[1,1,1,1,1],[0,0,0,0,0],[0,0,0,0,0],[0,0,0,0,0],[0,0,0,0,0]],[[1,1,1,1,1],[0,0,0,0,0],[0,0,0,0,0],[0,0,0,0,0],[0,0,0,0,0]],[[1,1,1,1,1],[0,0,0,0,0],[0,0,0,0,0],[0,0,0,0,0],[0,0,0,0,0]]],[[[1,1,1,1,1],[0,0,0,0,0],[0,0,0,0,0],[0,0,0,0,0],[0,0,0,0,0]],[[1,1,1,1,1],[2,2,2,2,2],[1,2,3,4,5],[1,1,1,1,1],[1,1,1,1,1]],[[1,1,1,1,1],[2,2,2,2,2],[4,4,4,4,5],[2,4,6,8,10],[2,4,9,16,25]],[[1,1,1,1,1],[2,2,2,2,2],[4,4,4,4,5],[8,8,8,8,10],[4,8,12,16,25]]],[[[1,1,1,1,1],[0,0,0,0,0],[0,0,0,0,0],[0,0,0,0,0],[0,0,0,0,0]],[[1,1,1,1,1],[2,2,2,2,2],[4,4,4,5,6],[8,8,15,31,63],[9,9,16,65,326]],[[1,1,1,1,1],[2,2,2,2,2],[4,4,4,5,6],[8,8,15,31,63],[16,16,30,65,326]],[[1,1,1,1,1],[2,2,2,2,2],[4,4,4,5,6],[8,8,15,31,63],[16,16,30,65,326]]],[[[1,1,1,1,1],[0,0,0,0,0],[0,0,0,0,0],[0,0,0,0,0],[0,0,0,0,0]],[[1,1,1,1,1],[2,2,2,2,2],[4,4,4,5,6],[8,8,15,31,63],[16,21,85,426,2557]],[[1,1,1,1,1],[2,2,2,2,2],[4,4,4,5,6],[8,8,15,31,63],[16,21,85,426,2557]],[[1,1,1,1,1],[2,2,2,2,2],[4,4,4,5,6],[8,8,15,31,63],[16,21,85,426,2557]]]]
noncomputable def aa8:List (List (List (List Nat))):=[[[[0,0,0,0,0],[0,0,0,0,0],[0,0,0,0,0],[0,0,0,0,0],[0,0,0,0,0]],[[1,1,1,1,1],[1,1,1,1,1],[1,1,1,1,1],[1,1,1,1,1],[1,1,1,1,1]],[[1,2,2,2,2],[1,2,2,2,2],[1,2,2,2,2],[1,2,2,2,2],[1,2,2,2,2]],[[1,3,3,3,3],[1,3,3,3,3],[1,3,3,3,3],[1,3,3,3,3],[1,3,3,3,3]]],[[[0,0,0,0,0],[0,0,0,0,0],[0,0,0,0,0],[0,0,0,0,0],[0,0,0,0,0]],[[7,8,8,8,8],[7,8,8,8,8],[7,12,14,18,22],[7,12,14,18,22],[7,12,14,18,22]],[[14,16,16,16,16],[20,24,24,24,24],[20,28,38,50,62],[20,32,38,50,62],[20,36,56,90,132]],[[21,24,24,24,24],[34,40,40,40,40],[46,56,62,82,102],[46,64,86,114,142],[46,72,128,218,332]]],[[[0,0,0,0,0],[0,0,0,0,0],[0,0,0,0,0],[0,0,0,0,0],[0,0,0,0,0]],[[26,29,29,29,29],[44,50,50,50,50],[58,67,67,87,108],[72,85,95,183,375],[85,101,141,535,2692]],[[52,58,58,58,58],[96,108,108,108,108],[162,183,183,232,282],[280,317,530,1082,2202],[424,485,845,2420,12146]],[[78,87,87,87,87],[148,166,166,166,166],[266,299,299,377,456],[488,549,965,1981,4029],[840,949,1715,4305,21600]]],[[[0,0,0,0,0],[0,0,0,0,0],[0,0,0,0,0],[0,0,0,0,0],[0,0,0,0,0]],[[83,92,92,92,92],[158,176,176,176,176],[271,304,304,383,463],[497,558,981,2013,4093],[857,966,1746,7362,44273]],[[166,184,184,184,184],[324,360,360,360,360],[603,672,672,843,1015],[1161,1294,2361,4865,9889],[2185,2898,9566,46554,279517]],[[249,276,276,276,276],[490,544,544,544,544],[935,1040,1040,1303,1567],[1825,2030,3741,7717,15685],[3513,4830,17386,85746,514761]]]]
noncomputable def ki(o dB r:Nat):Nat:=((Z4.getD o []).getD dB []).getD r 0
noncomputable def m_(o dB r:Nat):Nat:=((Z3.getD o []).getD dB []).getD r 0
noncomputable def kQ(o n dB r:Nat):Nat:=(((aa9.getD o []).getD n []).getD dB []).getD r 0
noncomputable def kj(o n dB r:Nat):Nat:=(((aa8.getD o []).getD n []).getD dB []).getD r 0
theorem KZ:∀o<4,∀dB<5,∀r<4,(ki o dB r<=ki o dB (r+1)/\m_ o dB r<=m_ o dB (r+1))/\∀n<4,kQ o n dB r<=kQ o n dB (r+1)/\kj o n dB r<=kj o n dB (r+1):=by decide+kernel
theorem adq:∀o<4,∀r<5,(if r=0 then 0 else 1)<=ki o 0 r/\1<=m_ o 0 r:=by decide+kernel
theorem ado:∀o<3,∀r<5,1<=ki (o+1) 0 r/\7<=m_ (o+1) 0 r:=by decide+kernel
theorem EA:∀o<3,∀dB<5,∀r<5,kQ o 3 dB r<=ki (o+1) dB r/\1+kj o 3 dB r+kQ o 3 dB r<=m_ (o+1) dB r/\5+kj o 3 dB r<=m_ (o+1) dB r/\1<=ki (o+1) dB r:=by decide+kernel
theorem adm:∀o<3,∀gz<4,∀fm<4,4<=gz+fm\/∀r<5,kQ o 3 gz r+kQ o 3 fm r<=ki (o+1) (1+gz+fm) r/\1+kj o 3 gz r+kQ o 3 gz r+kj o 3 fm r<=m_ (o+1) (1+gz+fm) r:=by decide+kernel
theorem ads:∀o<3,∀dB<3,∀c<6,∀r<5,m9 (ki o dB) (dg c) (dW c) 12 0 false r<=ki (o+1) (2+dB) r/\3+rH (ki o dB) (m_ o dB) (dg c) (dW c) 12 0 false r<=m_ (o+1) (2+dB) r/\1<=ki (o+1) (2+dB) r:=by decide+kernel
set_option synthInstance.maxSize 1000 in
set_option synthInstance.maxHeartbeats 400000 in
theorem adn:∀o<4,∀n<3,∀gz<5,∀fm<5,5<=gz+fm\/∀r<5,ki o gz r*kQ o n fm r<=kQ o (n+1) (gz+fm) r/\m_ o gz r+ki o gz r*kj o n fm r<=kj o (n+1) (gz+fm) r:=by decide+kernel
theorem adp:∀o<4,∀n<4,∀r<5,1<=kQ o n 0 r:=by decide+kernel
theorem K0:∀dB<5,kj 3 3 dB 0+kj 3 3 dB 1+kj 3 3 dB 2+kj 3 3 dB 3+kj 3 3 dB 4+5<=1000000/\∀r<5,kQ 3 3 dB r<=1000000:=by decide+kernel
def oM(W:Nat->Nat):Prop:=∀r j,r<=j->j<5->W r<=W j
theorem tK{W:Nat->Nat}(h:∀r<4,W r<=W (r+1)):oM W:=by
 intro r j a b
 induction j with
 |zero=>exact rwr (Nat.le_zero.mp a) (bw _)
 |succ j c=>
  rcases Nat.lt_or_eq_of_le a with D|rfl
  ·exact ah (c (nN D) (J [_] 0x510444000a20882220001 L b)) (h j (J [_] 0x410444000a20882220001 L b))
  ·exact bw _
set_option tactic.hygienic true in
theorem J4{W:Nat->Nat}(a:oM W):oM (pr W):=tK λ r V=>by
 rcases r with _|_
 case zero=>exact de _
 case succ r=>exact a _ _ (hp r) (J [_] 0x2882208880000820882220001 L V)
theorem Jq{a b c o:Nat}(h:a<=b)(d:c<=o):max a c<=max b o:=Nat.max_le.mpr ⟨ah h (rd ..),ah d (rf ..)⟩
theorem Dt{W:Nat->Nat}(a:oM W){bD:Nat}{a4:Int}:∀n done b,oM (m9 W bD a4 n done b)
 |0,_,_=>λ z z z z=>bw _
 |n+1,done,b=>tK λ r V=>by
  have h:=Nat.mul_le_mul (a _ _ (hp r) (sv V)) (Jq (Dt a (bD:=bD) (a4:=a4) n (done+1) true _ _ (hp r) (sv V)) (J4 (Dt a (bD:=bD) (a4:=a4) n (done+1) false) _ _ (hp r) (sv V)))
  rw[Ds,Ds]
  split
  ·exact h
  ·split
   ·exact bw _
   ·exact e7 h 1
theorem Di{W aw:Nat->Nat}(a:oM W)(b:oM aw){bD:Nat}{a4:Int}:∀n done c,oM (rH W aw bD a4 n done c)
 |0,_,_=>λ z z z z=>bw _
 |n+1,done,c=>tK λ r V=>by
  rw[Dh,Dh]
  split
  ·exact fV (e7 (b _ _ (hp r) (sv V)) 2) (Nat.mul_le_mul (a _ _ (hp r) (sv V)) (e7 (Jq (Di a b (bD:=bD) (a4:=a4) n (done+1) true _ _ (hp r) (sv V)) (J4 (Di a b (bD:=bD) (a4:=a4) n (done+1) false) _ _ (hp r) (sv V))) 1))
  ·exact bw _
theorem wt{cg a:Type}{F:cg->List a}{K:Nat}:∀{l:List cg},(∀w∈l,(F w).length<=K)->(l.flatMap F).length<=l.length*K
 |[],_=>de _
 |w::l,h=>by
  rw[List.flatMap_cons,bR,fW,Nat.add_mul,Nat.one_mul,nO]
  exact fV (wt λ v b=>h v (gT _ b)) (h w f9 ..)
theorem Aa{cg:Type}{F:cg->Nat}{K:Nat}:∀{l:List cg},(∀w∈l,F w<=K)->(l.map F).sum<=l.length*K
 |[],_=>de _
 |w::l,h=>by
  rw[jG,List.sum_cons,fW,Nat.add_mul,Nat.one_mul,nO]
  exact fV (Aa λ v a=>h v (gT _ a)) (h w f9 ..)
section
variable{T:List Nat}{f:Bool}
def vM(T:List Nat)(F:Nat->cA->List cm)(G:Nat->cA->Nat)(W aw:Nat->Nat):Prop:=∀a O,a<=T.length->hG T O->(F a O).length<=W (T.length-a)/\G a O<=aw (T.length-a)
theorem Ge(e:T.length<=4){F:Nat->cA->List cm}{G:Nat->cA->Nat}{W aw:Nat->Nat}(q:r' T F)(m:oM W)(r:oM aw)(h:vM T F G W aw){bD:Nat}{a4:Int}{lazy:Bool}:∀n done (c:Int),
  ∀a O,a<=T.length->hG T O->(gL F bD a4 lazy n done c a O).length<=m9 W bD a4 n done (c==a) (T.length-a)/\oX F G bD a4 n done c a O<=rH W aw bD a4 n done (c==a) (T.length-a)
 |0,_,_,_,_,_,_=>⟨bw _,bw _⟩
 |n+1,done,c,a,O,s,t=>by
  refine bc (h a O s t) λ C I=>?_
  have u:∀w∈F a O,(gL F _ _ _ n _ a w.1 _).length<=max _ (pr _ (T.length-a))/\
    oX F G _ _ n _ a w.1 _<=max _ (pr _ (T.length-a)):=λ w f=>by
   refine f5 (q a O w s t f) λ o i v x=>bc (Ge e q m r h (bD:=bD) (a4:=a4) (lazy:=lazy) n (done+1) a _ _ i v) λ k l=>?_
   by_cases d:w.1=a
   ·rw[d,eC] at k l
    rw[d]
    exact⟨ah k (rd ..),ah l (rd ..)⟩
   ·rw[fH.mpr λ D=>d (k1.mp D).symm] at k l
    refine a7 (⟨T.length-a-1,cB (d2 _ _) ((um d).elim (J [_,_,_,_] 0xe11180020445004e609481 L o (hq _ _)) λ b=>di (J [_,_,_,_] 0xc11008111c013980509481 L i (d2 _ _) b))⟩:∃j,T.length-a=j+1) λ j g=>?_
    rw[g]
    exact⟨ah k (ah (Dt m n _ _ _ j ((um d).elim (λ b=>J [_,_,_,_,_] 0x20e02844601087098a420881 L e o (hq _ _) b) λ b=>J [_,_,_,_,_,_] 0x5480c848028088e009c803042228081 L (aL g) (d2 _ _) b (di i)) (J [_,_,_] 0x2882228004304c11140120881 L e (aL g.symm) (hq _ _))) (rf ..)),ah l (ah (Di m r n _ _ _ j ((um d).elim (λ b=>J [_,_,_,_,_] 0x20e02844601087098a420881 L e o (hq _ _) b) λ b=>J [_,_,_,_,_,_] 0x5480c848028088e009c803042228081 L (aL g) (d2 _ _) b (di i)) (J [_,_,_] 0x2882228004304c11140120881 L e (aL g.symm) (hq _ _))) (rf ..))⟩
  have p:=ah (wt λ w f=>(u w f).1) (pU _ C)
  rw[tu,Gq,Ds,Dh]
  simp only[(by rw[iw]:(c==a)=true\/0<=a4/\a4<=done↔c=a\/0<=a4/\a4<=done)]
  constructor
  ·split
   ·exact p
   ·split
    ·exact bw _
    ·split
     ·rw[fW,nO];exact e7 p 1
     ·rw[bR,nO];exact e7 p 1
  ·split
   ·exact fV (e7 I 2) (ah (Aa λ w f=>e7 (u w f).2 1) (pU _ C))
   ·exact bw _
theorem vB{cg:Type}(l:List cg):(l.take 1).length<=1:=by rw[nI];exact Nat.min_le_left _ _
theorem Dr{x:bq}{p:Option Nat}{cW:Bool}{a:Nat}{O:cA}:(bI T f (.look x p cW) a O).length<=1:=by
 rw[xR]
 split
 ·split
  ·exact bw _
  ·exact de _
 ·rw[cM]
  split
  ·exact vB _
  ·exact de _
def t4(T:List Nat)(f:Bool)(x:bq)(o:Nat):Prop:=vM T (bI T f x) (eE T f x) (ki o (d' x)) (m_ o (d' x))
def x'(T:List Nat)(f:Bool)(x:bq)(o:Nat):Prop:=∀n,gP x<=n->n<=3->vM T (bI T f x) (eE T f x) (kQ o n (d' x)) (kj o n (d' x))
theorem lY(b:T.length<=4)(a:Nat):T.length-a<5:=kb (ah (hq ..) b)
theorem JT{k a:Nat}{O:cA}:(bI T f (.one k) a O).length<=if T.length-a=0 then 0 else 1:=by
 rw[xh]
 split
 ·rename_i d
  rw[a8 (Nat.sub_ne_zero_of_lt (o1 d))];exact bw _
 ·exact de _
theorem V1{w:Nat}{x:bq}(h:jA w x):∀a O,eE T f x a O<=w:=by
 induction h with
 |nil=>exact λ z z=>bw _
 |@cons w k r c _ b=>
  intro a O
  have I:=ah (Aa λ v z=>b v.1 v.2) (pU w (ah JT (by split<;>decide):(bI T f (.one k) a O).length<=1))
  rw[Nat.one_mul] at I
  exact(rwl (nO w 1) (e7 I 1))
theorem UM(c:T.length<=4){x r:bq}{o:Nat}(e:o<4)(d:d' x+d' r<=4)(l:t4 T f x o)(V:x' T f r o):x' T f (.cons x r) o:=by
 intro n g Y a O i j
 refine a7 (g' (ah (jH _) g)) λ n m=>?_;subst m
 have aW:=kb (ah (gC ..) d)
 refine bc (l a O i j) λ iM p=>?_
 refine bc ((adn o e n Y _ (kb (ah (dD ..) d)) _ aW).resolve_left (Nat.not_le.mpr (kb d)) _ (lY c a)) λ hi jc=>?_
 have k:=λ r h=>(KZ o e _ aW r h).2 n (d7 Y (ae rfl))
 have bk:∀w∈bI T f x a O,(bI T f r _ _).length<=kQ o n _ _/\eE T f r _ _<=kj o n _ _:=λ w b=>by
  refine f5 (iv x a O w i j b) λ q s t y=>bc (V n (kZ g) (pY Y) _ _ s t) λ u v=>?_
  have le:=Nat.sub_le_sub_left q T.length
  exact⟨ah u (tK (λ r h=>(k r h).1) _ _ le (lY c a)),ah v (tK (λ r h=>(k r h).2) _ _ le (lY c a))⟩
 exact⟨ah (ah (wt λ w b=>(bk w b).1) (pU _ iM)) hi,ah (fV p (ah (Aa λ w b=>(bk w b).2) (pU _ iM))) jc⟩
theorem nB.bd{bz:Prop}{r:bq}{o:Nat}(h:nB bz r)(a:bz->x' T f r o):vM T (bI T f r) (eE T f r) (kQ o 3 (d' r)) (kj o 3 (d' r)):=a h.k5 3 h.len (bw 3)
theorem yA(b:T.length<=4){x:bq}{o:Nat}(c:o+1<4)(d:d' x=0)(h:∀a O,(bI T f x a O).length<=1/\eE T f x a O<=7):t4 T f x (o+1):=by
 unfold t4
 exact rwl d (λ a O z z=>(ado o (sl c) _ (lY b a)).imp (ah (h a O).1) (ah (h a O).2))
theorem UN(b:T.length<=4){k o:Nat}(c:o<4):t4 T f (.one k) o:=λ a O z z=>(adq o c _ (lY b a)).imp (ah JT) id
theorem Gf(b:T.length<=4){x:bq}{c o a:Nat}{O:cA}{lazy:Bool}(d:o+1<4)(fm:d' x<=2)(e:c<6)(h:t4 T f x o)(g:a<=T.length)(i:hG T O):
  (gL (bI T f x) (dg c) (dW c) lazy 12 0 (-1) a O).length<=ki (o+1) (2+d' x) (T.length-a)/\3+oX (bI T f x) (eE T f x) (dg c) (dW c) 12 0 (-1) a O<=m_ (o+1) (2+d' x) (T.length-a)/\1<=ki (o+1) (2+d' x) (T.length-a):=by
 have mono:=KZ o (mm d) _ (sm fm (ae rfl))
 exact e_ (ads o (sl d) _ (kb fm) c e _ (lY b a)) λ hi jc j=>bc (Ge b (iv x) (tK λ r V=>(mono r V).1.1) (tK λ r V=>(mono r V).1.2) h 12 0 _ a O g i) λ k l=>⟨ah k hi,ah (e7 l 3) jc,j⟩
theorem Bf(i:T.length<=4)(x:bq):∀o,o<4->d' x<=4->h6 x o->(d5 x=false->t4 T f x o)/\(d5 x=true->x' T f x o):=by
 have A:∀{b},b<=4->b<5:=kb
 induction x with
 |one k=>exact λ o e z z=>⟨λ z=>UN i e,cy⟩
 |place w=>
  intro o e _ d
  refine a7 (g' d) λ o D=>?_;subst D
  refine⟨λ z=>yA i e rfl λ a O=>⟨?_,(by decide:1<=7)⟩,cy⟩
  rw[xS]
  split
  ·exact bw _
  ·exact de _
 |again n k=>
  intro o e _ d
  refine a7 (g' d) λ o E=>?_;subst E
  refine⟨λ z=>yA i e rfl λ a O=>⟨?_,(by decide:1<=7)⟩,cy⟩
  rw[Au]
  split
  ·split
   ·exact bw _
   ·exact de _
  ·exact de _
 |nil=>
  refine λ o e z z=>⟨λ h=>cy h.symm,λ z n z Y a O z z=>⟨adp o e n (kb Y) _ (lY i a),de _⟩⟩
 |cons x r F G=>
  intro o e g d
  exact⟨λ h=>cy h.symm,λ z=>UM i e g ((F o e (ah (dD ..) g) d.2.1).1 d.1.1) ((G o e (ah (gC ..) g) d.2.2).2 d.1.2)⟩
 |rounds x c m q=>
  intro o e g d
  refine a7 (g' d.1) λ o H=>?_;subst H
  refine⟨λ z a O j l=>?_,cy⟩
  have fm:d' x<=2:=Nat.le_of_add_le_add_left g
  refine e_ (Gf i e fm d.2.1 ((q o (mm e) (ah fm (ae rfl)) d.2.2.2).1 d.2.2.1) (lazy:=m==1) j l) λ hi jc v=>⟨?_,jc⟩
  rw[EO]
  split
  ·exact ah (vB _) v
  ·exact hi
 |group n r nm q=>
  intro o e g d
  refine a7 (g' d.1) λ o I=>?_;subst I
  refine⟨λ z a O j l=>f5 (EA o (sl e) (d' r) (A g) _ (lY i a)) λ hi jc v y=>bc (d.2.bd (λ k=>(q o (mm e) g k).2 d.2.row) a O j l) λ s t=>⟨?_,ah (fV (e7 t 1) s) jc⟩,cy⟩
  rw[EN]
  rw[cM]
  exact ah s hi
 |d4 ab aT J K=>
  intro o e g d
  refine a7 (g' d.1) λ o L=>?_;subst L
  refine⟨λ z a O j l=>?_,cy⟩
  have C:=mm e
  have B:d' ab+d' aT<=3:=Nat.le_of_add_le_add_left g
  have fP:=ah (dD ..) B
  have gs:=ah (gC ..) B
  refine bc ((adm o (sl e) _ (kb fP) _ (kb gs)).resolve_left (Nat.not_le.mpr (kb B)) _ (lY i a)) λ hi jc=>?_
  rw[ez 1 (d' ab)] at hi jc
  refine bc (d.2.1.bd (λ k=>(J o C (oR fP) k).2 d.2.1.row) a O j l) λ s t=>bc (d.2.2.bd (λ k=>(K o C (oR gs) k).2 d.2.2.row) a O j l) λ M N=>⟨?_,ah (fV (fV (e7 t 1) s) N) jc⟩
  rw[EM]
  rw[bR]
  exact ah (fV s M) hi
 |atomic r q=>
  intro o e g d
  refine a7 (g' d.1) λ o P=>?_;subst P
  exact⟨λ z a O j l=>f5 (EA o (sl e) (d' r) (A g) _ (lY i a)) λ hi jc v y=>bc (d.2.bd (λ k=>(q o (mm e) g k).2 d.2.row) a O j l) λ s t=>⟨ah (vB _) y,ah (fV (ae rfl) t) v⟩,cy⟩
 |look x p cW q=>
  intro o e g d
  refine a7 (g' d.1) λ o Q=>?_;subst Q
  refine⟨λ z=>?_,cy⟩
  rcases d.2 with⟨rfl,h⟩|⟨w,R,h⟩|⟨u,rfl⟩
  ·intro a O j l
   exact f5 (EA o (sl e) (d' x) (A g) _ (lY i a)) λ hi jc v y=>bc (h.bd (λ k=>(q o (mm e) g k).2 h.row) a O j l) λ s t=>⟨ah Dr y,ah (e7 t 5) v⟩
  ·refine yA i e h.wf.1.2.2.1 λ a O=>⟨Dr,e7 (m:=2) ?_ 5⟩
   split
   ·exact ah (V1 h _ O) (nN R)
   ·exact de _
  ·refine yA i e rfl λ a O=>⟨Dr,e7 (m:=2) ?_ 5⟩
   split
   ·exact show 1<=2 by decide
   ·exact de _
end
end
noncomputable def go(pre:List cm):List cm->List cm
 |[]=>[]
 |x::r=>if x∈pre then go (pre++[x]) r else x::go (pre++[x]) r
noncomputable def dK(l:List cm):List cm:=go [] l
theorem sS(s:List cm)(x:cm)(r:List cm):go s (x::r)=if x∈s then go (s++[x]) r else x::go (s++[x]) r:=rfl
theorem y0:∀(l:List cm){s q:List cm},(∀x,x∈s↔x∈q)->go s l=go q l
 |[],_,_,_=>rfl
 |x::r,s,q,h=>by
  rw[sS,sS,(y0 r λ H=>by rw[fv,fv,h H]:go (s++[x]) r=go (q++[x]) r)]
  by_cases a:x∈s
  ·rw[aU a,aU ((h x).mp a)]
  ·rw[a8 a,a8 λ D=>a ((h x).mpr D)]
theorem sR:∀(l m s:List cm),go s (l++m)=go s l++go (s++l) m
 |[],m,s=>by rw[gS];rfl
 |x::r,m,s=>by
  show go s (x::(r++m))=_
  rw[sS,sS,sR r m _,el]
  split<;>rfl
theorem Ci:∀(l s:List cm),(go s l).length<=l.length
 |[],_=>bw _
 |x::r,s=>by
  rw[sS]
  split
  ·exact oR (Ci r _)
  ·exact h9 (Ci r _)
theorem wx:∀(l s:List cm),(∀x∈l,x∈s)->go s l=[]
 |[],_,_=>rfl
 |x::r,s,h=>by
  unfold go
  exact rwl (aU (h x f9 ..)) (wx r _ λ H b_=>List.mem_append_left _ (h H (gT _ b_)))
theorem Dv:∀(l s:List cm)(H:cm),H∈go s l->H∈l
 |x::r,s,H,h=>by
  unfold go at h
  split at h
  ·exact gT _ (Dv r _ H h)
  ·rcases ew.mp h with rfl|h
   ·exact f9 ..
   ·exact gT _ (Dv r _ H h)
theorem Cj:∀(l s:List cm)(H:cm),H∈l->H∈s\/H∈go s l
 |x::r,s,H,h=>by
  unfold go
  by_cases a:x∈s
  ·rw[aU a]
   rcases ew.mp h with rfl|h
   ·exact .inl a
   ·rcases Cj r _ H h with D|D
    ·rcases fv.mp D with D|D
     ·exact .inl D
     ·rw[fu.mp D];exact .inl a
    ·exact .inr D
  ·rw[a8 a]
   rcases ew.mp h with rfl|h
   ·exact .inr f9 ..
   ·rcases Cj r _ H h with D|D
    ·rcases fv.mp D with D|D
     ·exact .inl D
     ·rw[fu.mp D];exact .inr f9 ..
    ·exact .inr (gT _ D)
theorem n9{l:List cm}{H:cm}:H∈dK l↔H∈l:=⟨Dv l [] H,λ h=>(Cj l [] H h).resolve_left λ D=>nomatch D⟩
theorem y1{F:cm->List cm}:∀(l s:List cm)(q:List cm),(∀x∈s,∀H∈F x,H∈q)->go q ((go s l).flatMap F)=go q (l.flatMap F)
 |[],_,_,_=>rfl
 |x::r,s,q,h=>by
  have d:∀a:List _,(∀H∈q,H∈a)->(∀H∈F x,H∈a)->∀D∈s++[x],∀H∈F D,H∈a:=λ a C I D hz H b_=>by
   rcases fv.mp hz with hz|hz
   ·exact C H (h D hz H b_)
   ·rw[fu.mp hz] at b_;exact I H b_
  rw[List.flatMap_cons,sR,sS]
  by_cases b:x∈s
  ·rw[aU b]
   have c:=h x b
   rw[y1 r _ q (d q (λ z D=>D) c),wx _ q c]
   exact y0 _ λ H=>⟨List.mem_append_left _,λ D=>(fv.mp D).elim id (c H)⟩
  ·rw[a8 b,List.flatMap_cons,sR,y1 r _ _ (d _ (λ z=>List.mem_append_left _) λ z=>List.mem_append_right _)]
theorem DR{F:cm->List cm}(l:List cm):dK ((dK l).flatMap F)=dK (l.flatMap F):=y1 l [] [] λ z h=>nomatch h
theorem y2:∀(l s q:List cm),(∀x∈s,x∈q)->go q (go s l)=go q l:=λ l s q h=>by
 have:=y1 l s q λ x a H b_=>by rw[fu.mp b_];exact h x a
 rwa [List.flatMap_singleton',List.flatMap_singleton'] at this
theorem aav(l:List cm):dK (dK l)=dK l:=y2 l [] [] λ z h=>nomatch h
theorem xg(l m:List cm):dK (dK l++dK m)=dK (l++m):=by
 show go [] (go [] l++go [] m)=go [] _
 rw[sR,sR,y2 l [] [] (λ z h=>nomatch h),y2 m [] _ λ z h=>nomatch h]
 congr 1
 exact y0 _ λ H=>n9
theorem HG{F:cm->List cm}:∀(l q:List cm),go q (l.flatMap λ w=>dK (F w))=go q (l.flatMap F)
 |[],_=>rfl
 |x::r,q=>by
  rw[List.flatMap_cons,List.flatMap_cons,sR,sR,show go q (dK _)=go q _ from y2 _ [] q (λ z h=>nomatch h),HG r]
  congr 1
  exact y0 _ λ H=>by rw[fv,fv];exact or_congr Iff.rfl n9
theorem JQ{F:cm->List cm}(l:List cm):dK (l.flatMap λ w=>dK (F w))=dK (l.flatMap F):=HG l []
theorem aaw{F:cm->cm}(l:List cm):dK ((dK l).map F)=dK (l.map F):=by
 rw[List.map_eq_flatMap,DR,<-List.map_eq_flatMap]
set_option tactic.hygienic true in
theorem zX(l:List cm):(dK l).take 1=l.take 1:=by
 rcases l with _|_
 case nil=>rfl
 case cons x r=>
  show(go [] _).take 1=_
  unfold go
  rfl
theorem rT{l:List cm}(h:l.length<=1):dK l=l:=by
 match l,h with
 |[],_=>rfl
 |[x],_=>
  show go [] _=_
  unfold go
  rfl
theorem nd(l:List cm):(dK l).length<=l.length:=Ci l []
end
section
open PySem (Str)
noncomputable def hA:Option (Nat×Nat)->E
 |none=>.none
 |some (b,d)=>.tup [.int b,.int d]
noncomputable def m2(O:cA):E:=.tup (O.map hA)
noncomputable def eO(w:cm):E:=.tup [.int w.1,m2 w.2]
theorem s9(a b:Nat):((a:Int)==(b:Int))=decide (a=b):=by
 by_cases h:a=b
 ·rw[h,eC,fi rfl]
 ·rw[fH.mpr λ D=>h (k1.mp D),h8 h]
theorem ae6(n:Nat)(a b:Option (Nat×Nat)):gj (n+2) (hA a) (hA b)=some (decide (a=b)):=by
 rcases a with _|⟨fP,c⟩<;>rcases b with _|⟨gs,d⟩
 ·rfl
 ·rfl
 ·rfl
 ·show some ((fP:Int)==gs&&((c:Int)==d&&true))=_
  rw[s9,s9,Bool.and_true,<-Bool.decide_and]
  exact bA _ (decide_eq_decide.mpr (by simp))
theorem EK(n:Nat):∀a b:cA,a.length=b.length->j2 (gj (n+2)) (a.map hA) (b.map hA)=some (decide (a=b))
 |[],[],_=>rfl
 |x::a,H::b,h=>by
  show(match gj _ _ _,j2 _ _ _ with|some x,some H=>some _|_,_=>none)=_
  rw[ae6,EK n a b (Nat.succ.inj h)]
  show some _=_
  rw[<-Bool.decide_and]
  exact bA _ (decide_eq_decide.mpr (by simp))
theorem ae7(v w:cm)(h:v.2.length=w.2.length):gj 10 (eO v) (eO w)=some (decide (v=w)):=by
 obtain⟨a,g⟩:=v
 obtain⟨b,bN⟩:=w
 have d:gj 9 (m2 g) (m2 bN)=some (decide (g=bN)):=by
  show(match(g.map _).length==(bN.map _).length with|true=>j2 _ _ _|false=>none)=_
  rw[cM,cM,h,eC]
  exact EK 6 g bN h
 show(match some ((a:Int)==b),match gj 9 _ _,some _ with|some x,some H=>some (x&&H)|_,_=>none with|some x,some H=>some _|_,_=>none)=_
 rw[d,s9]
 show some _=_
 rw[Bool.and_true,<-Bool.decide_and]
 exact bA _ (decide_eq_decide.mpr (by simp))
theorem FQ(w:cm):∀l:List cm,(∀v∈l,v.2.length=w.2.length)->jJ (eO w) (l.map eO)=some (decide (w∈l))
 |[],_=>rfl
 |v::l,h=>by
  show(match gj 10 _ _,jJ _ _ with|some x,some H=>some _|_,_=>none)=_
  rw[ae7 v w (h v f9 ..),FQ w l λ u b6=>h u (gT _ b6)]
  show some _=_
  rw[<-Bool.decide_or]
  exact bA _ (decide_eq_decide.mpr (by rw[ew,eq_comm]))
theorem w6{aV:List cm}{i:Nat}:(aV.map eO)[i]?=(aV[i]?).map eO:=j' ..
theorem tp{n G:Nat}{A:bl}{e:U}{r:E}{aV:List cm}(h:dw e r (aV.map eO))(j:∀w∈aV,w.2.length=G)(b:aV.length<=8000000)(q:A (.lst ((dK aV).map eO)) e):call (n+1) 119 [r] A e:=by
 have k:(aV.map eO).length<=c7:=by rw[cM];exact b
 refine aH (adU ..) (h.len k (qS (v:=.rng 0 aV.length 1) ?_ ?_))
 ·rw[cM];exact xm (js (ah b (by decide)))
 refine sG (zu (ah b (by decide))) (λ i c M=>M=e/\c++(go (aV.take i) (aV.drop i)).map _=(dK aV).map eO) ⟨rfl,rfl⟩ (λ z z z z=>trivial) (λ i x c o s p a l=>?_) λ c o a=>?_
 ·obtain⟨rfl,a⟩:=a
  obtain⟨d,rfl⟩:=z3 p
  have g:i<=1000000000:=ka (d7 d (ah b (by decide)))
  have m:=hK d
  have f:(aV.map eO)[i]?=some (eO aV[i]):=by rw[w6,m];rfl
  have cZ:aV.take (i+1)=aV.take i++[aV[i]]:=by rw[lJ,m];rfl
  rw[oQ d,sS] at a
  refine⟨?_,h.item g f (h.slice k rfl (eM g) (bg (r:=decide (aV[i]∉aV.take i)) ?_ (k3 (λ Y=>?_) λ Y=>?_)))⟩
  ·have:=bA List.length a
   rw[bR,cM (as:=dK aV)] at this
   have:=nd aV
   show c.length<=8000000
   lia
  ·show(jJ _ (((aV.map _).take i).drop 0)).map _=_
   rw[mU,<-List.map_take,FQ _ _ λ v f=>(j v (ra f)).trans (j _ (List.getElem_mem d)).symm]
   show some (!decide _)=_
   rw[<-decide_not]
  ·rw[a8 Y] at a
   refine h.item g f (l _ _ ⟨rfl,?_⟩)
   rw[el,cZ]
   exact a
  ·rw[aU (Decidable.not_not.mp Y)] at a
   refine l _ _ ⟨rfl,?_⟩
   rw[cZ]
   exact a
 ·obtain⟨rfl,a⟩:=a
  rw[xo,List.drop_length] at a
  rw[<-a,show go _ []=[] from rfl,List.map_nil,gS] at q
  exact q
def fU(T:List Nat):Prop:=∀c∈T,c=97\/c=98\/c=65\/c=10
theorem fU.take{T:List Nat}(h:fU T)(n:Nat):fU (T.take n):=λ c a=>h c (ra a)
theorem fU.drop{T:List Nat}(h:fU T)(n:Nat):fU (T.drop n):=λ c a=>h c (List.mem_of_mem_drop a)
theorem fU.ascii{T:List Nat}(h:fU T):ascii T=true:=k0.mpr λ c a=>fi (by rcases h c a with rfl|rfl|rfl|rfl<;>decide)
theorem abW{n:Nat}{A:bl}{e:U}{x H:List Nat}{f:Bool}(c:fU x)(b_:fU H)(d:x.length<=1000)(g:H.length<=1000)(q:A (.bool (oe f x H)) e):call (n+1) 121 [.str x,.str H,.bool f] A e:=by
 refine aH (adW ..) (fX (hu ?_))
 unfold oe at q
 rcases b:x==H with _|_
 ·rw[b] at q
  refine yF (fX ?_)
  rcases f with _|_
  ·exact uq q
  ·have a:∀{j:List _},fU j->j.length<=1000->og e j .lower []=some _:=λ h a=>aU (by rw[h.ascii,fi a];rfl)
   show match og e x _ [] with|some v=>_|none=>False
   rw[a c d]
   show match og e H _ [] with|some v=>_|none=>False
   exact rwl (a b_ g) (hu q)
 ·rw[b] at q
  exact q
theorem aaY{n w a:Nat}{A:bl}{e:U}{T:List Nat}(h:w<3)(b:T.length<=4)(c:a<=T.length)(q:A (.bool (kP w T a)) e):call (n+1) 122 [.str (rU w),.str T,.int a] A e:=by
 have d:T.length<=c7:=ah b (ae rfl)
 have g:=λ j=>by
  show some ([97]==j||([98]==j||([65]==j||([49]==j||false))))=some (j==[97]||j==[98]||j==[65]||j==[49])
  rw[Bool.or_false,pZ (a:=j),pZ (a:=j),pZ (a:=j),pZ (a:=j),Bool.or_assoc,Bool.or_assoc]
 refine aH (adX ..) ?_
 revert q;apply u9 h<;>intro q
 ·
  refine bg rfl (cF (jN ?_))
  exact rwl (show((a:Int)==0)=kP 0 T a by show(a==((0:Nat):Int))=(a==0);rw[s9];rfl) q
 ·
  refine bg rfl (br (bg rfl (cF (kR d (eM (ah c (ah b (by decide)))) rfl (cb (ae rfl) rfl (bg ?_ q))))))
  show some ([]==T.drop a||([10]==T.drop a||false))=some (T.drop a==[]||T.drop a==[10])
  rw[Bool.or_false,pZ (a:=T.drop a),pZ (a:=T.drop a)]
 ·
  have f:a<=1000000000:=ah c (ah b (by decide))
  refine bg rfl (br (bg rfl (br (df rfl (lL ?_ (kR d (eM (ah (hq _ _) f)) (eM f) (cb (by decide) rfl (bg (r:=r6 _) (g _) (df rfl
   (kR d (eM f) (eM (ah (h9 (ah c b)) (ae rfl))) (cb (by decide) rfl (bg ?_ (bg rfl q)))))))))))))
  ·show some (E.int (if(a:Int)-1<0 then 0 else a-1))=_
   congr 2
   split<;>omega
  ·rw[show(some a).getD 0=a from rfl,oY]
   exact g _
theorem ab7{n m b d:Nat}{A:bl}{e:U}{O:cA}(c:0<m)(f:m<=O.length)(a:O.length<=100000)(q:A (m2 (O.set (m-1) (some (b,d)))) e):call (n+1) 123 [m2 O,.int m,.tup [.int b,.int d]] A e:=by
 have g:(O.map hA).length<=c7:=by rw[cM];exact ah a (ae rfl)
 have h:m<=1000000000:=ah f (ah a (ae rfl))
 refine aH (adY ..) (df (bA _ (bA _ (C9 (by assumption)))) (K8 g rfl (eM (ah (hq _ _) h)) (cb (cn (n:=1) (ae rfl)) rfl (K7 ?_ (K8 g (eM h) rfl (K7 ?_ ?_))))))
 ·show(((O.map _).take _).drop 0).length+1<=8000000
  rw[mU,nI,cM];exact J [_,_] 0x1e84800a3088a0010a1186a020c81 L a (Nat.min_le_right _ _)
 ·show(((O.map _).take _).drop 0++[_]).length+((O.map _).drop m).length<=8000000
  rw[mU,bR,nI,jn,cM];exact J [_,_,_] 0x3d09001466088a000086090a1186a020c82 L a (Nat.min_le_right _ _) (hq _ _)
 ·refine Eq.mp (bA (λ D=>A _ e) ?_) q
  rw[List.map_set,List.set_eq_take_append_cons_drop,aU (by rw[cM];exact J [_,_,_] 0x142230004088c009481 L f (di (J [_] 4540987353335809 L c))),show m-1+1=m by exact cB (di (J [_] 4540987353335809 L c)) (d2 _ _)]
  show _=((O.map _).take _).drop 0++[_]++(O.map _).drop m
  rw[el]
  rfl
section
theorem WX(R:dp)(K:Loc->U->Prop)(e:U)(v:E)(a b c o d f g h p:Option E):d6 120 [(2,0)] 0 R v (mh a b c o d f g h p) K e=K (mh a b c o d f g h (some v)) e:=by kernel_rfl
theorem WY(R:dp)(K:Loc->U->Prop)(e:U)(v w:E)(a b c o d f g h:Option E):d6 124 [] 0 R (.tup [v,w]) (t' a b c o d f g h) K e=K (t' a b c o (some v) (some w) g h) e:=by kernel_rfl
theorem WZ(R:dp)(K:Loc->U->Prop)(e:U)(v w:E)(a b c o d f g h i y k l:Option E):d6 125 [] 0 R (.tup [v,w]) (gc a b c o d f g h i y k l) K e=K (gc a b c o (some v) (some w) g h i y k l) e:=by kernel_rfl
theorem Ht(R:dp)(K:Loc->U->Prop)(e:U)(v:E)(a b c o d f g h i y k l:Option E):d6 125 [] 9 R v (gc a b c o d f g h i y k l) K e=K (gc a b c o d f g (some v) i y k l) e:=by kernel_rfl
theorem W0(R:dp)(K:Loc->U->Prop)(e:U)(v:E)(a b c o d f g h i y k l:Option E):d6 125 [(9,0),(0,0)] 1 R v (gc a b c o d f g h i y k l) K e=K (gc a b c o d f (some v) h i y k l) e:=by kernel_rfl
def hJ(T:List Nat)(f:Bool)(N:Nat)(x:bq)(G:Nat):Prop:=∀(n a:Nat)(O:cA)(A:bl)(e:U),N<=n->a<=T.length->hG T O->O.length=G->
 (∀r M,dw M r ((dK (bI T f x a O)).map eO)->(∀i,r=.ref i->e.next<=i)->ei e M->A r M)->call n 125 [x.v,.str T,eO (a,O),.bool f] A e
theorem Je(c:Nat):(f' c).1=(dg c:Int):=by
 refine m' ?_ ?_ ?_ ?_ ?_ (λ z=>?_) c<;>rfl
section
variable{T:List Nat}{f:Bool}
theorem Kc{n c m a G:Nat}{x:bq}{done:Nat}{O:cA}{k:bl}{e aI:U}{r:E}{more:List cm}(o:m<3)(V:dw e r (more.map eO))(d:more.length<=7500000)(f:∀w∈more,w.2.length=G)(j:O.length=G)(g:ei aI e)
  (q:∀M,ei aI M->k (.lst ((dK (if done<dg c then more else if m=1 then(a,O)::more else more++[(a,O)])).map eO)) M):
  (item (bq.rounds x c m).v (.int 2) λ p=>(aE .Lt (.int done) p λ s=>aW s (call (n+1) 119 [r] λ t=>(k t)) (d0 (λ l=>(item (bq.rounds x c m).v (.int 5) λ u=>(aE .Eq u (.str [63]) λ y=>aW y (dJ [eO (a,O)] λ A=>(bu .Add A r λ B=>(l B))) (dJ [eO (a,O)] λ C=>(bu .Add r C λ F=>(l F)))))) λ H=>(call (n+1) 119 [H] λ I=>(k I))))) e:=by
 refine bx rfl ?_
 rw[Je]
 refine iD (k3 (λ h=>?_) λ h=>?_)
 ·rw[aU (dR.mp h)] at q
  exact tp V f (ah d (ae rfl)) (q _ g)
 ·rw[a8 λ D=>h (dR.mpr D)] at q
  refine fX (bx rfl (hu (jL (λ h=>?_) λ h=>?_)))
  ·have i:m=1:=by
    match m,o,h with
    |0,_,h=>exact cy h
    |1,_,_=>rfl
    |2,_,h=>exact cy h
   rw[aU i] at q
   refine e2 (cn (n:=1) (by decide)) (dw.add .new (V.ext (.alloc _ _ _)) ?_ (tp (G:=G) .new ?_ ?_ (q _ g.jI.jI)))
   ·rw[cM];exact J [_] 0x7a120028c8110007270e028c81 L d
   ·intro w b
    rcases ew.mp b with rfl|b
    ·exact j
    ·exact f w b
   ·exact J [_] 0x7a120028c2220007270e028c81 L d
  ·have i:m≠1:=by rintro rfl;cases h
   rw[a8 i] at q
   refine e2 (cn (n:=1) (by decide)) (dw.add (V.ext (.alloc _ _ _)) .new ?_ (tp (G:=G) ?_ ?_ ?_ (q _ g.jI.jI)))
   ·rw[cM];exact J [_] 0x7a120028c2220007270e028c81 L d
   ·rw[e8];exact .new
   ·intro w b
    rcases fv.mp b with b|b
    ·exact f w b
    ·exact rwl (fu.mp b) j
   ·rw[bR];exact J [_] 0x7a120028c2220007270e028c81 L d
theorem WB{cg a:Type}{F:cg->List a}{l:List cg}{w:cg}(h:w∈l):(F w).length<=(l.flatMap F).length:=by
 induction l with
 |nil=>cases h
 |cons x l b=>
  rw[List.flatMap_cons,bR]
  rcases ew.mp h with rfl|h
  ·exact dD ..
  ·exact ah (b h) (gC ..)
theorem aax{aA dB:List cm}(h:dK aA=dK dB)(s:cm):dK (s::aA)=dK (s::dB):=((xg [s] aA).symm.trans (by rw[h])).trans (xg _ dB)
theorem aay{aA dB:List cm}(h:dK aA=dK dB)(s:cm):dK (aA++[s])=dK (dB++[s]):=((xg aA _).symm.trans (by rw[h])).trans (xg dB _)
inductive SK(da dY et e4 ff lx ot:E)(e:U)(aV:List cm)(F:cm->List cm)(y:Nat)(i:Nat)(ak:Loc)(M:U):Prop
 |of (p:Option E) (d:ak=mh (some da) (some dY) (some et) (some e4) (some ff) (some lx) (some ot) (some (.ref y)) p) (g:M.get y=some (.list (((aV.take i).flatMap F).map eO))) (f:Fr (·=y) e M)
theorem abI{n y:Nat}{da m o:E}{a:Nat}{O:cA}{done:Nat}{p:Option E}{aV:List cm}{F:cm->List cm}{ab:E}{e:U}{K:ej}(V:dw e ab (aV.map eO))(dE:∀i,ab=.ref i->i≠y)(B:y<e.next)(C:e.get y=some (.list []))(g:aV.length<=2557)(s:∀w∈aV,(F w).length<=2557)(G:m=.int done)
  (H:∀w∈aV,∀(A:bl)(e:U),(∀M,ei e M->A (.lst ((F w).map eO)) M)->call n 120 [da,.str T,eO w,.bool f,.int ((done+1:Nat):Int),.int (a:Nat)] A e)
  (q:∀p M,M.get y=some (.list ((aV.flatMap F).map eO))->(aV.flatMap F).length<=6538249->Fr (·=y) e M->K .next (mh (some da) (some (.str T)) (some (eO (a,O))) (some (.bool f)) (some m) (some o) (some (.int (a:Nat))) (some (.ref y)) p) M):
  forM ab (d6 120 [(2,0)] 0 (call n)) (bp 120 [(2,0),(0,0)] 0 (call n)) (mh (some da) (some (.str T)) (some (eO (a,O))) (some (.bool f)) (some m) (some o) (some (.int (a:Nat))) (some (.ref y)) p) K e:=by
 have t:∀l:List _,(∀w∈l,w∈aV)->l.length<=2557->(l.flatMap F).length<=6538249:=λ l g h=>ah (wt λ w j=>s w (g w j)) (pU _ h)
 subst G
 refine k8 V.items (SK da _ _ _ _ o _ e aV F y) ⟨p,rfl,C,.refl _ _⟩ (λ i ak M c=>?_) (λ i v ak M L r c I z z=>?_) λ ak M c=>?_
 ·cases c with|of _ _ _ b=>exact(V.fr b dE).hQ
 ·cases c with|of p d k b=>
  subst d
  rw[w6] at r
  refine a' (gD.mp r) λ w j J=>?_;clear r;subst J
  have u:=j_ j
  refine aH (WX ..) (aH (TV ..) (df rfl (H w u _ _ λ N x=>IJ (x.get k (d7 B b.next) λ D=>D) .lst ?_ (I _ _ ⟨_,rfl,?_,(b.trans (x.mono λ z z D=>D.elim)).trans (.upd _ _ _ rfl)⟩).1)))
  ·rw[cM,cM]
   exact ah (fV (t _ (λ w=>ra) (ah (sy ..) g)) (s w u)) (ae rfl)
  ·rw[lJ,j,List.flatMap_append,e8,show(some w).toList=[w] from rfl,List.flatMap_singleton]
   exact dI ..
 ·cases c with|of p d k b=>
  subst d
  rw[cM,nJ] at k
  exact q _ _ k (t _ (λ z h=>h) g) b
theorem GC{b:Int}{a:Nat}(h:(!(b==(a:Int)))=true):¬b=a:=λ D=>by rw[D,eC] at h;exact cy h
theorem abK{N c m G:Nat}{x:bq}(Q:m<3)(af:hJ T f N x G)(aN:∀a O,a<=T.length->hG T O->(bI T f x a O).length<=2557)(g:Nat):∀(done:Nat)(j:Int)(a:Nat)(O:cA)(n:Nat)(A:bl)(e:U),
  lZ T.length (dg c) done j a<g->(gL (bI T f x) (dg c) (dW c) (m==1) g done j a O).length<=2557->N+g+2<=n->a<=T.length->hG T O->O.length=G->
  (∀M,ei e M->A (.lst ((dK (gL (bI T f x) (dg c) (dW c) (m==1) g done j a O)).map eO)) M)->call n 120 [(bq.rounds x c m).v,.str T,eO (a,O),.bool f,.int done,.int j] A e:=by
 induction g with
 |zero=>exact λ z z z z z z z h=>((bB _) h).elim
 |succ g ay=>
  intro done j a O n A e CN t Y u B l q
  refine a7 (g' (ah (gC 2 _) Y)) λ n eI=>?_;subst eI
  have Y:=kZ (kZ Y)
  rw[tu] at t q
  refine aH (adV ..) (bx (v:=.int a) rfl (e2 (ae rfl) ?_))
  have R:ei e (e.alloc (.list [])):=.alloc _ _ _
  have S:decide _=false->¬done<dg c:=λ h D=>((rb h) (dR.mpr D)).elim
  refine(λ(E:done<dg c\/¬(j=a\/0<=dW c/\dW c<=done)->_)(V:¬done<dg c->j=a\/0<=dW c/\dW c<=done->_)=>
   d_ (bx (by rw[<-Je];rfl) (iD (l' (λ h=>E (.inl (dR.mp (gg h)))) λ h=>d_ (bg rfl (iY (λ C=>d_ (bx rfl (iD (l'
    (λ I=>E (.inr λ D=>D.elim (GC C) λ D=>((jF.mpr D.1) (gg I)).elim))
    λ I=>bx rfl (iD (l' (λ ag=>E (.inr λ D=>D.elim (GC C) λ D=>((jF.mpr D.2) (gg ag)).elim))
     λ ag=>V (S h) (.inr ⟨jF.mp (rb I),jF.mp (rb ag)⟩))))))) λ C=>V (S h) (.inl (eq_of_beq (Bool.not_eq_eq_eq_not.mp C))))))))) ?_ ?_
  ·intro F
   refine cF (bx rfl (af _ a O _ _ (ah (ah (dD N _) (hp _)) (oR Y)) u B l λ ab av kI zc r=>?_))
   have W:=λ w b=>iv (f:=f) x a O w u B (n9.mp b)
   generalize XB:(λ w:cm=>gL _ _ _ _ _ _ a _ _)=J at t q
   have K:=(congrFun XB)
   have aas:=λ w b v aj=>by
    have b:=W w b
    exact((z4 (iv (T:=T) (f:=f) x) (bD:=dg c) (a4:=dW c) (lazy:=m==1) g (done+1) a) _ _ v b.2.1 b.2.2.1 (rwl (K w) (n9.mp aj))).2.2.2.trans (b.2.2.2.trans l)
   have X:∀w∈dK _,(J w).length<=2557:=λ w b=>by
    refine ah (WB (n9.mp b)) (ah ?_ t)
    split
    ·exact bw _
    ·rename_i C
     rw[a8 (F.resolve_left C)]
     split
     ·exact hp _
     ·rw[bR];exact dD ..
   have L:dK ((dK (bI T f x a O)).flatMap λ w=>dK (J w))=dK ((bI T f x a O).flatMap J):=by rw[JQ,DR]
   have Z:=d7 (eo _) r.next
   refine abI kI (λ i d D=>absurd (zc i d) (rwl D (Nat.not_succ_le_self _))) Z (r.get (fR ..) (eo _) λ D=>D) (ah (nd _) (aN a O u B)) (λ w b=>ah (nd _) (X w b)) rfl (λ w b A e q=>(λ w b C A e=>have k:=W w b;ay _ a _ _ _ A e (d7 (Jw (F.imp id λ D H=>D (.inl H)) k.1 k.2.1) (nN CN)) C (h9 Y) k.2.1 k.2.2.1 (k.2.2.2.trans l)) w b (rwl (K w) (X w b)) A e (rwl (K w) q)) λ p M n3 X5 eQ=>?_
   have cj:=d7 Z eQ.next
   refine f3 (aH (TX ..) (f3 (aH (TY ..) (Kc (k:=A) Q ⟨by rw[iV,n3];rfl,λ i d=>by(injection d with a0;subst a0);exact cj⟩ (ah X5 (ae rfl)) (λ w b=>?_) l (⟨ka cj,λ y C I=>(eQ.same y (d7 (j9 C) r.next) (e' C)).trans ((R.trans r).same y C I)⟩) λ c9 P=>Eq.mp (bA (λ D=>A (.lst _) _) ?_) (q _ P)))))
   ·exact a' (List.mem_flatMap.mp b) λ v C I=>aas v C w I
   ·by_cases o:done<dg c
    ·rw[aU o,aU o];exact L.symm
    ·rw[a8 o,a8 o,a8 (F.resolve_left o)]
     by_cases s:m=1
     ·rw[aU (iw.mpr s),aU s]
      exact(aax L _).symm
     ·rw[a8 λ D=>s (iw.mp D),a8 s]
      exact(aay L _).symm
  ·intro C I
   rw[a8 C,aU I] at q
   refine Kc (more:=[]) Q .new (de _) (λ z h=>nomatch h) l R λ c9 P=>Eq.mp (bA (λ D=>A _ _) ?_) (q _ P)
   rw[a8 C]
   split<;>rfl
end
end
section
theorem KY:∀o<4,∀dB<5,∀r<5,ki o dB r<=2557/\∀n<4,kQ o n dB r<=2557:=by decide+kernel
section
variable{e:U}{k:bl}
theorem iK{j:List Nat}{l:List E}{t f:U->Prop}(q:t e):(item (.tup (.str j::l)) (.int 0) λ a=>aE .Eq a (.str j) λ b=>aW b t f) e:=bx rfl (hu (by rw[eC];exact q))
theorem cO{j u:List Nat}{l:List E}{t f:U->Prop}(h:(j==u)=false)(q:f e):(item (.tup (.str j::l)) (.int 0) λ a=>aE .Eq a (.str u) λ b=>aW b t f) e:=bx rfl (hu (by rw[h];exact q))
theorem xC(c:Nat):∀l:List Nat,iq [c] l=l.contains c
 |[]=>rfl
 |a::r=>by
  show(c==a&&true||iq _ r)=_
  rw[xC c r,Bool.and_true]
  rfl
noncomputable def JR:Nat->Nat
 |0=>97
 |1=>98
 |2=>46
 |3=>91
 |4=>92
 |_=>91
theorem JS(i:Nat):∃j,jW i=.tup [.str (JR i::j),.str (pl i),.bool (DT i)]/\([JR i]==[92])=(i==4):=by
 refine m' ?_ ?_ ?_ ?_ ?_ (λ z=>?_) i<;>exact⟨_,rfl,rfl⟩
theorem aaC{R:dp}{T:List Nat}{f:Bool}{i a c:Nat}(r:T.length<=4)(s:fU T)(b:T[a]?=some c)(q:k (.bool ((pl i).contains c||(f&&(pl i).contains (vz c)&&i !=4))) e):
  (d0 (λ h=>(item (.str T) (.int a) λ t=>(item (bq.one i).v (.int 1) λ nF=>(item nF (.int 1) λ u=>(aE .In t u λ w=>(f_ .Or (.bool w) h (d0 (λ d=>(f_ .And (.bool f) d (item (.str T) (.int a) λ l=>(b0 l (Str.ofString "swapcase") λ y=>(bY R y l [] λ A=>(item (bq.one i).v (.int 1) λ B=>(item B (.int 1) λ E=>(aE .In A E λ F=>(f_ .And (.bool F) d (item (bq.one i).v (.int 1) λ G=>(item G (.int 0) λ H=>(item H (.int 0) λ J=>(aE .NotEq J (.str [92]) λ K=>(d (.bool K))))))))))))))) λ L=>(h L)))))))) k) e:=by
 refine a' (JS i) λ j C I=>?_
 have m:a<=1000000000:=by
  refine ka (d7 (pV λ D=>?_) (ah r (ae rfl)))
  rw[oP D] at b
  exact bF b
 have g:n8 e (bq.one i).v (.int 1)=some _:=rfl
 have n:n8 e (jW i) (.int 1)=some (.str (pl i)):=by rw[C];rfl
 refine fX (kk m b (bx g (bx n (bg (bA _ (xC c _)) ?_))))
 rcases o:(pl i).contains c with _|_
 ·rw[o] at q
  refine yF (fX ?_)
  rcases f with _|_
  ·exact uq q
  ·refine p5 (kk m b ?_)
   show match og e _ _ [] with|some v=>_|none=>False
   rw[show og e [c] .swapcase []=some _ from aU (by
    rw[fU.ascii λ x M=>by exact rwl (fu.mp M) (s c (j_ b))];rfl)]
   refine bx g (bx n (bg (bA _ (xC _ _)) ?_))
   rcases p:(pl i).contains _ with _|_
   ·rw[p] at q
    exact uq q
   ·rw[p] at q
    refine p5 (bx g (bx (by rw[C];rfl) (kk (ae rfl) rfl (bg ?_ q))))
    show some _=some !i==4
    rw[<-I]
 ·rw[o] at q
  exact Bl q
end
end
noncomputable def gX(f:Bool):Nat->E
 |0=>.tup [.str tl,.str [97],.bool f]
 |1=>.tup [.str tl,.str [98],.bool f]
 |2=>.tup [.str [97,110,121],.bool false]
 |3=>.tup [.str ph,.lst [.tup [.str qA,.int 97,.int 97],.tup [.str qA,.int 98,.int 98]],.bool false,.bool f]
 |4=>.tup [.str ph,.lst [.tup [.str zT,.str [119]]],.bool false,.bool false]
 |_=>.tup [.str ph,.lst [.tup [.str qA,.int 97,.int 97]],.bool true,.bool f]
def ug(c:Nat):Prop:=c=97\/c=98\/c=65\/c=10
def yn:Nat->Prop->Prop
 |0,s=>s
 |n+1,s=>True/\yn n s
theorem K4{s:Prop}(h:s):∀n,yn n s
 |0=>h
 |n+1=>⟨trivial,K4 h n⟩
noncomputable def Jp:Nat->Bool->Nat->Nat
 |3,_,97=>1
 |3,_,98=>2
 |3,false,_=>3
 |3,true,65=>4
 |3,true,_=>6
 |4,_,10=>2
 |4,_,_=>1
 |5,_,97=>1
 |5,false,_=>2
 |5,true,65=>3
 |5,true,_=>4
 |_,_,_=>0
theorem Wy{n k c:Nat}{f:Bool}{A:bl}{e:U}(a:k<6)(b:ug c):call (n+6) 15 [gX f k,.str [c]] A e=yn (Jp k f c) (A (.bool (qG f k c)) e):=by
 refine u_ (P:=λ k=>call _ 15 [gX f k,.str _] A e=yn (Jp k f c) (A (.bool (qG f k c)) e)) a ?_ ?_ ?_ ?_ ?_ ?_<;>(rcases b with rfl|rfl|rfl|rfl<;>rcases f with _|_<;>kernel_rfl)
theorem B2{n k c:Nat}{f:Bool}{A:bl}{e:U}(a:k<6)(b:ug c)(q:A (.bool (qG f k c)) e):call (n+6) 15 [gX f k,.str [c]] A e:=aH (Wy a b) (K4 q _)
theorem abV{n c o:Nat}{f:Bool}{A:bl}{e:U}(a:ug c)(b:ug o):call (n+2) 10 [.str [c],.str [o],.bool f] A e=A (.bool (oe f [c] [o])) e:=by
 rcases a with rfl|rfl|rfl|rfl<;>rcases b with rfl|rfl|rfl|rfl<;>rcases f with _|_<;>kernel_rfl
theorem Lz{n c:Nat}{A:bl}{e:U}(a:ug c):call (n+1) 7 [.str [c]] A e=A (.bool (r6 [c])) e:=by
 rcases a with rfl|rfl|rfl|rfl<;>kernel_rfl
section
noncomputable def J3:Nat->List Nat
 |0=>[65]
 |1=>[90]
 |_=>[98]
noncomputable def ct.v(f:Bool):ct->E
 |.test k=>gX f k
 |.run k bD a4 lazy=>.tup [.str [114,117,110],gX f k,.int bD,.int a4,.bool lazy]
 |.plc w=>.tup [.str [97,116],.str (J3 w)]
 |.back n=>.tup [.str oa,.lst [.int n],.bool f]
 |.opn k=>.tup [.str [111,112,101,110],.int k]
 |.close n k=>.tup [.str [99,108,111,115,101],.int n,.int k]
 |.jump s=>.tup [.str vf,.int s]
 |.split s q=>.tup [.str rP,.int s,.int q]
 |.zero c s=>.tup [.str [122,101,114,111],.int c,.int s]
 |.loop c s bD a4 lazy a b=>.tup [.str [108,111,111,112],.int c,.int s,.int bD,.int a4,.bool lazy,.int a,.int b]
 |.again c s r=>.tup [.str vg,.int c,.int s,.int r]
 |.mark k=>.tup [.str xd,.int k]
 |.cut k=>.tup [.str [99,117,116],.int k]
 |.refuse k=>.tup [.str [114,101,102,117,115,101],.int k]
 |.place k=>.tup [.str rQ,.int k]
 |.ret k=>.tup [.str [114,101,116,117,114,110],.int k]
 |.behind w=>.tup [.str [98,101,104,105,110,100],.int w]
 |.fin=>.tup [.str [101,110,100]]
noncomputable def cE.v(f:Bool):cE->E
 |.i7 n p=>.tup [.str jU,.int n,hA p]
 |.dF k v=>.tup [.str zQ,.int k,.int v]
 |.hD r a=>.tup [.str xc,.int r,.int a]
 |.less r low a=>.tup [.str zS,.int r,.int low,.int a]
 |.more r k a left=>.tup [.str zR,.int r,gX f k,.int a,.int left]
noncomputable def jb:List Str:=[r1,e3,Ac,xH,oh,pC,b',g5,g6,h4,iX]
noncomputable def Ec(ba:Nat)(T:List Nat)(cc a row:Int)(g b5 bU:E):dk:=.inst 17 jb [.ref ba,.str T,.int 0,.int 0,.int 1000000,.int cc,.int a,.int row,g,b5,bU]
structure cN(aI e:U)(y ba g b5 bU:Nat)(T:List Nat)(f:Bool)(cc:Nat)(j:gf):Prop where
 run:e.get y=some (Ec ba T cc j.a j.row (.ref g) (.ref b5) (.ref bU))
 jP:e.get g=some (.list (.none::j.O.map hA))
 l4:e.get b5=some (.list (j.ao.map .int))
 pr:e.get bU=some (.list (j.aF.reverse.map (cE.v f)))
 cC:g≠b5
 dh:g≠bU
 fL:b5≠bU
 iE:g≠y
 kM:b5≠y
 l0:bU≠y
 aX:aI.next<=g
 bS:aI.next<=b5
 dv:aI.next<=bU
 dE:y<e.next
 C:g<e.next
 I:b5<e.next
 ag:bU<e.next
 fr:Fr (·=y) aI e
section
variable{aI e:U}{y ba g b5 bU cc:Nat}{T:List Nat}{f:Bool}{j:gf}{k:bl}{R:dp}
theorem cN.at_(h:cN aI e y ba g b5 bU T f cc j)(q:k (.int j.a) e):a6 (.ref y) b' k e:=gU h.run (by kernel_rfl) q
theorem cN.xq(h:cN aI e y ba g b5 bU T f cc j)(q:k (.int j.row) e):a6 (.ref y) g5 k e:=gU h.run (by kernel_rfl) q
theorem cN.h5(h:cN aI e y ba g b5 bU T f cc j)(q:k (.str T) e):a6 (.ref y) e3 k e:=gU h.run (by kernel_rfl) q
theorem cN.KO(h:cN aI e y ba g b5 bU T f cc j)(q:k (.int cc) e):a6 (.ref y) pC k e:=gU h.run (by kernel_rfl) q
theorem cN.Z0(h:cN aI e y ba g b5 bU T f cc j)(q:k (.int 1000000) e):a6 (.ref y) oh k e:=gU h.run (by kernel_rfl) q
theorem cN.Y8(h:cN aI e y ba g b5 bU T f cc j)(q:k (.int 0) e):a6 (.ref y) xH k e:=gU h.run (by kernel_rfl) q
theorem cN.aa3(h:cN aI e y ba g b5 bU T f cc j)(q:k (.ref ba) e):a6 (.ref y) r1 k e:=gU h.run (by kernel_rfl) q
theorem cN.nY(h:cN aI e y ba g b5 bU T f cc j)(q:k (.ref g) e):a6 (.ref y) g6 k e:=gU h.run (by kernel_rfl) q
theorem cN.oc(h:cN aI e y ba g b5 bU T f cc j)(q:k (.ref b5) e):a6 (.ref y) h4 k e:=gU h.run (by kernel_rfl) q
theorem cN.kO(h:cN aI e y ba g b5 bU T f cc j)(q:k (.ref bU) e):a6 (.ref y) iX k e:=gU h.run (by kernel_rfl) q
theorem cN.EG(h:cN aI e y ba g b5 bU T f cc j){b:Nat}{eL eg:Nat}:cN aI (e.upd y (Ec ba T b eL eg (.ref g) (.ref b5) (.ref bU))) y ba g b5 bU T f b {j with a:=eL,row:=eg} where
 run:=dI ..
 jP:=(ef h.iE).trans h.jP
 l4:=(ef h.kM).trans h.l4
 pr:=(ef h.l0).trans h.pr
 cC:=h.cC
 dh:=h.dh
 fL:=h.fL
 iE:=h.iE
 kM:=h.kM
 l0:=h.l0
 aX:=h.aX
 bS:=h.bS
 dv:=h.dv
 dE:=h.dE
 C:=h.C
 I:=h.I
 ag:=h.ag
 fr:=h.fr.trans (.upd _ _ _ rfl)
theorem cN.ae2(h:cN aI e y ba g b5 bU T f cc j){Cm:cA}:cN aI (e.upd g (.list (.none::Cm.map hA))) y ba g b5 bU T f cc {j with O:=Cm} where
 run:=(ef h.iE.symm).trans h.run
 jP:=dI ..
 l4:=(ef h.cC.symm).trans h.l4
 pr:=(ef h.dh.symm).trans h.pr
 cC:=h.cC
 dh:=h.dh
 fL:=h.fL
 iE:=h.iE
 kM:=h.kM
 l0:=h.l0
 aX:=h.aX
 bS:=h.bS
 dv:=h.dv
 dE:=h.dE
 C:=h.C
 I:=h.I
 ag:=h.ag
 fr:=h.fr.j1 h.aX
theorem cN.ae3(h:cN aI e y ba g b5 bU T f cc j){eg:List Int}:cN aI (e.upd b5 (.list (eg.map .int))) y ba g b5 bU T f cc {j with ao:=eg} where
 run:=(ef h.kM.symm).trans h.run
 jP:=(ef h.cC).trans h.jP
 l4:=dI ..
 pr:=(ef h.fL.symm).trans h.pr
 cC:=h.cC
 dh:=h.dh
 fL:=h.fL
 iE:=h.iE
 kM:=h.kM
 l0:=h.l0
 aX:=h.aX
 bS:=h.bS
 dv:=h.dv
 dE:=h.dE
 C:=h.C
 I:=h.I
 ag:=h.ag
 fr:=h.fr.j1 h.bS
theorem cN.Ln(h:cN aI e y ba g b5 bU T f cc j){il:List cE}:cN aI (e.upd bU (.list (il.reverse.map (cE.v f)))) y ba g b5 bU T f cc {j with aF:=il} where
 run:=(ef h.l0.symm).trans h.run
 jP:=(ef h.dh).trans h.jP
 l4:=(ef h.fL).trans h.l4
 pr:=dI ..
 cC:=h.cC
 dh:=h.dh
 fL:=h.fL
 iE:=h.iE
 kM:=h.kM
 l0:=h.l0
 aX:=h.aX
 bS:=h.bS
 dv:=h.dv
 dE:=h.dE
 C:=h.C
 I:=h.I
 ag:=h.ag
 fr:=h.fr.j1 h.dv
theorem cN.ext{M:U}(h:cN aI e y ba g b5 bU T f cc j)(d:ei e M):cN aI M y ba g b5 bU T f cc j where
 run:=d.get h.run h.dE id
 jP:=d.get h.jP h.C id
 l4:=d.get h.l4 h.I id
 pr:=d.get h.pr h.ag id
 cC:=h.cC
 dh:=h.dh
 fL:=h.fL
 iE:=h.iE
 kM:=h.kM
 l0:=h.l0
 aX:=h.aX
 bS:=h.bS
 dv:=h.dv
 dE:=d7 h.dE d.next
 C:=d7 h.C d.next
 I:=d7 h.I d.next
 ag:=d7 h.ag d.next
 fr:=h.fr.trans (d.mono λ z z D=>D.elim)
theorem cN.Z'(h:cN aI e y ba g b5 bU T f cc j){il:List cE}{i:Nat}(c:e.get i=some (.list (il.reverse.map (cE.v f))))(d:i<e.next)(k:aI.next<=i)(l:g≠i)(m:b5≠i)(b:i≠y):cN aI (e.upd y (Ec ba T cc j.a j.row (.ref g) (.ref b5) (.ref i))) y ba g b5 i T f cc {j with aF:=il} where
 run:=dI ..
 jP:=(ef h.iE).trans h.jP
 l4:=(ef h.kM).trans h.l4
 pr:=(ef b).trans c
 cC:=h.cC
 dh:=l
 fL:=m
 iE:=h.iE
 kM:=h.kM
 l0:=b
 aX:=h.aX
 bS:=h.bS
 dv:=k
 dE:=h.dE
 C:=h.C
 I:=h.I
 ag:=d
 fr:=h.fr.trans (.upd _ _ _ rfl)
theorem cN.h3(h:cN aI e y ba g b5 bU T f cc j){x:Int}{eL:Nat}(b:x=eL){A:U->Prop}(q:∀M,cN aI M y ba g b5 bU T f cc {j with a:=eL}->A M):cL (.ref y) b' (.int x) A e:=by
 subst b
 exact e9 h.run (by kernel_rfl) (ae rfl) (by kernel_rfl) (q _ h.EG)
theorem cN.ng(h:cN aI e y ba g b5 bU T f cc j){x:Int}{eL:Nat}(a:x=eL){A:U->Prop}(q:∀M,cN aI M y ba g b5 bU T f cc {j with row:=eL}->A M):cL (.ref y) g5 (.int x) A e:=by
 subst a
 exact e9 h.run (by kernel_rfl) (ae rfl) (by kernel_rfl) (q _ h.EG)
theorem cN.ab8(h:cN aI e y ba g b5 bU T f cc j){x:Int}{eL:Nat}(a:x=eL){A:U->Prop}(q:∀M,cN aI M y ba g b5 bU T f eL j->A M):cL (.ref y) pC (.int x) A e:=by
 subst a
 exact e9 h.run (by kernel_rfl) (ae rfl) (by kernel_rfl) (q _ h.EG)
theorem qw{i:Nat}{B:List E}{K:fp->U->Prop}(h:e.get i=some (.list B))(q:K .append e):b0 (.ref i) jw K e:=rK h (by kernel_rfl) q
theorem ZR{i:Nat}{B:List E}{K:fp->U->Prop}(h:e.get i=some (.list B))(q:K .pop e):b0 (.ref i) xE K e:=rK h (by kernel_rfl) q
theorem p2{i:Nat}{B:List E}{v:E}(h:e.get i=some (.list B))(a:B.length<=c7)(q:k .none (e.upd i (.list (B++[v])))):bY R .append (.ref i) [v] k e:=by
 unfold bY
 simp only[h]
 exact⟨a,q⟩
theorem aa0{i:Nat}{B:List E}{v:E}(h:e.get i=some (.list (B++[v])))(a:B.length<c7)(q:k v (e.upd i (.list B))):bY R .pop (.ref i) [] k e:=by
 unfold bY
 simp only[h]
 show match(B++[v]).getLast? with|some v=>_|none=>False
 rw[List.getLast?_concat]
 rw[List.dropLast_concat]
 exact⟨by rw[bR];exact a,q⟩
theorem cN.app(h:cN aI e y ba g b5 bU T f cc j){K:fp->U->Prop}(q:K .append e):b0 (.ref bU) jw K e:=qw h.pr q
theorem cN.push(h:cN aI e y ba g b5 bU T f cc j){v:E}(d:cE)(a:v=d.v f)(b:j.aF.length<=7000000)(q:∀M,cN aI M y ba g b5 bU T f cc {j with aF:=d::j.aF}->k .none M):bY R .append (.ref bU) [v] k e:=by
 subst a
 refine p2 h.pr (by rw[cM,p0];exact ah b (ae rfl)) ?_
 have:=h.Ln (il:=d::j.aF)
 rw[List.reverse_cons,e8] at this
 exact q _ this
theorem cN.pop(h:cN aI e y ba g b5 bU T f cc j){d:cE}{s:List cE}(a:j.aF=d::s)(b:j.aF.length<=7000000){K:bl}(q:∀M,cN aI M y ba g b5 bU T f cc {j with aF:=s}->K (d.v f) M):(b0 (.ref bU) xE λ cP=>bY R cP (.ref bU) [] K) e:=by
 refine ZR h.pr ?_
 have c:=h.pr
 rw[a,List.reverse_cons,e8] at c
 refine aa0 c ?_ (q _ h.Ln)
 rw[a] at b
 rw[cM,p0]
 exact d7 (Nat.lt_of_succ_le b) (ae rfl)
theorem cN.dF(h:cN aI e y ba g b5 bU T f cc j){i:Nat}{v:Int}(a:i<=1000000000)(b:j.ao[i]?=some v)(q:k (.int v) e):item (.ref b5) (.int i) k e:=
 dw.item ⟨by rw[iV,h.l4];rfl,λ i d=>by(injection d with a0;subst a0);exact h.I⟩ a (by rw[j',b];rfl) q
theorem cN.i7(h:cN aI e y ba g b5 bU T f cc j){i:Nat}{v:Option (Nat×Nat)}(b:0<i)(c:i<=1000000000)(a:j.O[i-1]?=some v)(q:k (hA v) e):item (.ref g) (.int i) k e:=
 dw.item ⟨by rw[iV,h.jP];rfl,λ i d=>by(injection d with a0;subst a0);exact h.C⟩ c (by
  refine a7 (fw (k:=1) (J [_] 4540987353335809 L b)) λ i l=>?_;subst l
  show(j.O.map _)[i]?=_
  rw[j']
  rw[Nat.add_sub_cancel] at a
  rw[a];rfl) q
theorem cN.Ee(h:cN aI e y ba g b5 bU T f cc j){i:Nat}{v:Int}(a:i<j.ao.length)(b:i<=1000000000){A:U->Prop}(q:∀M,cN aI M y ba g b5 bU T f cc {j with ao:=j.ao.set i v}->A M):gM (.ref b5) (.int i) (.int v) A e:=by
 refine tw h.l4 (i4 i) (by rw[cM];exact a) (js b) ?_
 have:=h.ae3 (eg:=j.ao.set i v)
 rw[List.map_set] at this
 exact q _ this
theorem cN.Kt(h:cN aI e y ba g b5 bU T f cc j){i:Nat}{v:Option (Nat×Nat)}(a:0<i)(b:i<=j.O.length)(c:i<=1000000000){A:U->Prop}(q:∀M,cN aI M y ba g b5 bU T f cc {j with O:=j.O.set (i-1) v}->A M):gM (.ref g) (.int i) (hA v) A e:=by
 refine tw h.jP (i4 i) (by rw[fW,cM];exact kb b) (js c) ?_
 have:=h.ae2 (Cm:=j.O.set (i-1) v)
 refine Eq.mp (bA _ (a7 (fw (k:=1) (J [_] 4540987353335809 L a)) λ i d=>?_)) (q _ (List.map_set▸this));subst d
 rfl
theorem tx{n:Nat}(h:cN aI e y ba g b5 bU T f cc j){i:Nat}{v:Int}(a:i<j.ao.length)(b:i<=1000000000)(d:j.aF.length<=7000000){A:bl}(q:∀M,cN aI M y ba g b5 bU T f cc (l9 j i v)->A .none M):call (n+1) 18 [.ref y,.int i,.int v] A e:=by
 have c:=hK a
 refine aH (ad_ ..) (h.kO (h.app (h.oc (h.dF b c (cb (cn (n:=3) (ae rfl)) rfl (h.push (.dF i _) rfl d λ k C=>C.oc (C.Ee a b λ l I=>q _ ?_)))))))
 unfold l9
 exact rwl c I
theorem nX{n:Nat}(h:cN aI e y ba g b5 bU T f cc j){A:bl}(q:∀M,cN aI M y ba g b5 bU T f cc {j with row:=j.row+1}->A (.bool true) M):call (n+1) 19 [.ref y] A e:=aH (ad' ..) (h.xq (iC (h.ng rfl λ M=>q _)))
end
end
section
theorem W3(R:dp)(K:Loc->U->Prop)(e:U)(da dY j k l:E)(a b c o d f g h i:Option E):d6 22 [] 0 R (.tup [da,dY,j,k,l]) (ua a b c o d f g h i) K e=K (ua a b (some da) (some dY) (some j) (some k) (some l) h i) e:=by kernel_rfl
theorem W4(R:dp)(K:Loc->U->Prop)(e:U)(v:E)(a b c o d f:Option E):d6 25 [] 0 R v (iN a b c o d f) K e=K (iN a b (some v) o d f) e:=by kernel_rfl
theorem W5(R:dp)(K:Loc->U->Prop)(e:U)(v w:E)(a b c o d f:Option E):d6 25 [(0,0),(0,0)] 0 R (.tup [v,w]) (iN a b c o d f) K e=K (iN a b c (some v) (some w) f) e:=by kernel_rfl
theorem W6(R:dp)(K:Loc->U->Prop)(e:U)(v:E)(a b c o d f:Option E):d6 25 [(0,0),(0,0)] 2 R v (iN a b c o d f) K e=K (iN a b c o d (some v)) e:=by kernel_rfl
theorem W7(R:dp)(K:Loc->U->Prop)(e:U)(da dY j l m n p q:E)(a b c o d f g h i y k:Option E):d6 31 [] 0 R (.tup [da,dY,j,l,m,n,p,q]) (ub a b c o d f g h i y k) K e=K (ub a b (some da) (some dY) (some j) (some l) (some m) (some n) (some p) (some q) k) e:=by kernel_rfl
theorem W8(R:dp)(K:Loc->U->Prop)(e:U)(da dY h i j:E)(a b c o d f g:Option E):d6 41 [] 0 R (.tup [da,dY,h,i,j]) (uc a b c o d f g) K e=K (uc a b (some da) (some dY) (some h) (some i) (some j)) e:=by kernel_rfl
def nt(G N n:Nat):cE->Prop
 |.i7 m _=>0<m/\m<=G
 |.dF k _=>k<N
 |.hD _ a=>a<=n
 |.less _ low a=>low<a/\a<=n
 |.more _ k a _=>k<6/\a<=n
structure j6(G N n:Nat)(j:gf):Prop where
 a:j.a<=n
 O:j.O.length=G
 ao:j.ao.length=N
 aF:∀d∈j.aF,nt G N n d
def mR(G:Nat):ct->Prop
 |.test k=>k<6
 |.run k bD a4 _=>k<6/\bD<=2/\(a4<0\/(bD:Int)<=a4)
 |.plc w=>w<3
 |.back n=>0<n/\n<=G
 |.close n _=>0<n/\n<=G
 |_=>True
noncomputable def Hn:ct->Nat
 |.test _=>20
 |.run _ _ _ _=>22
 |.plc _=>24
 |.back _=>25
 |.opn _=>26
 |.close _ _=>27
 |.jump _=>28
 |.split _ _=>29
 |.zero _ _=>30
 |.loop _ _ _ _ _ _ _=>31
 |.again _ _ _=>32
 |.mark _=>33
 |.cut _=>34
 |.refuse _=>36
 |.place _=>37
 |.ret _=>38
 |.behind _=>39
 |.fin=>0
section
variable{aI e:U}{y ba g b5 bU cc G N:Nat}{T:List Nat}{f:Bool}{j:gf}{A:bl}
def jD(aI:U)(y ba:Nat)(T:List Nat)(f:Bool)(cc G N:Nat)(r:ct):Prop:=∀(n:Nat)(A:bl)(e:U)(g b5 bU:Nat)(j:gf)(b:Bool)(a:gf),8<=n->cN aI e y ba g b5 bU T f cc j->j6 G N T.length j->j.aF.length<=6000000->N<=1000000->G<=1000000->fe T f r j=some (b,a)->
 (∀M bN c d,cN aI M y ba bN c d T f cc a->A (.bool b) M)->call n (Hn r) [.ref y,r.v f] A e
theorem fU.at{T:List Nat}(b:fU T){a c:Nat}(h:T[a]?=some c):ug c:=b c (j_ h)
theorem o5{T:List Nat}{a:Nat}(h:a<T.length):∃c,T[a]?=some c:=⟨_,hK h⟩
theorem uF{k a c:Nat}(h:T[a]?=some c):gG T f k a=qG f k c:=by unfold gG;rw[h]
theorem rM{a:Nat}(b:T.length<=4)(h:a<=T.length):a<=1000000000:=ah h (ah b (ae rfl))
theorem p6(a:T.length<=4):T.length<=c7:=ah a (ae rfl)
theorem abn(m:T.length<=4)(o:fU T){i:Nat}(p:i<6):jD aI y ba T f cc G N (.test i):=by
 intro n A e g b5 bU j b t Y h ok u v w k q
 apply i6 Y;intro n
 have k:=dd k
 refine aH (aea ..) (d_ (h.at_ (h.h5 (j0 (p6 m) (uM (l' (λ C=>cF ?_) λ C=>?_))))))
 ·rw[a8 λ D=>((lI.mpr (hT.mp (gg C))) (o1 D)).elim] at k
  (injection k with a0 bL;subst a0 bL)
  exact q _ _ _ _ h
 ·refine a7 (o5 (pV λ D=>rb C (hT.mpr D))) λ c l=>h.h5 (h.at_ (kk (rM m ok.a) l (B2 p (o.at l) (dj (l' (λ I=>cF ?_) λ I=>br (h.at_ (iC (h.h3 rfl λ x r=>nX r λ B s=>?_))))))))
  ·rw[<-uF l] at I
   rw[a8 λ D=>by rw[D] at I;exact cy I] at k
   (injection k with a0 bL;subst a0 bL)
   exact q _ _ _ _ h
  ·rw[<-uF l] at I
   rw[aU (by rcases d:gG T f i _ with _|_;rw[d] at I;exact nomatch I;rfl)] at k
   (injection k with a0 bL;clear k;subst a0 bL)
   exact q _ _ _ _ s
theorem abi(o:T.length<=4)(t:fU T){w:Nat}(B:w<3):jD aI y ba T f cc G N (.plc w):=by
 intro n A e g b5 bU j b R Y h ok S U W m q
 apply i6 Y;intro n
 have m:=dd m
 have fin:∀(s:bl),(∀v M,s v M=A v M)->f_ .And (.bool (kP w T _)) s (call (n+7) 19 [.ref y] s) e:=λ s u=>by
  rcases d:kP w T _ with _|_
  ·rw[a8 λ D=>by rw[d] at D;exact cy D] at m
   (injection m with a0 bL;subst a0 bL)
   exact uq (by rw[u];exact q _ _ _ _ h)
  ·rw[aU d] at m
   (injection m with a0 bL;clear m;subst a0 bL)
   exact p5 (nX h λ X C=>by rw[u];exact q _ _ _ _ C)
 refine aH (aee ..) (fX (bx rfl (aH (aed ..) (h.at_ (h.h5 ?_)))))
 revert fin;apply u9 B<;>intro fin
 ·
  refine bg rfl (cF (jN ?_))
  exact rwl (show((j.a:Int)==0)=kP 0 T _ by show(j.a==((0:Nat):Int))=(j.a==0);rw[s9];rfl) (fin _ λ z z=>rfl)
 ·
  refine bg rfl (br (bg rfl (br (bg rfl (cF (fX (j0 (p6 o) (jN ?_))))))))
  rw[s9]
  by_cases C:j.a=T.length
  ·rw[fi C]
   have d:kP 1 T j.a=true:=by
    show(T.drop _==[]||_)=true
    rw[C,List.drop_length];rfl
   have:=fin
   rw[d] at this
   exact Bl (this _ λ z z=>rfl)
  ·rw[h8 C]
   have i:=Nat.lt_of_le_of_ne ok.a C
   refine a7 (o5 i) λ c k=>?_
   have x:T.drop j.a=c::T.drop (j.a+1):=by rw[oQ i];rw[hK i] at k;obtain rfl:=ck k;rfl
   refine yF (fX (j0 (p6 o) (df rfl (jN ?_))))
   by_cases I:j.a+1=T.length
   ·rw[iw.mpr (by lia)]
    refine p5 (kk (rM o ok.a) k (hu ?_))
    have d:kP 1 T j.a=([c]==[10]):=by
     show(T.drop _==[]||T.drop _==[10])=_
     rw[x,I,List.drop_length];rfl
    rw[<-d]
    exact fin _ λ z z=>rfl
   ·rw[fH.mpr (by lia)]
    have d:kP 1 T j.a=false:=by
     show(T.drop _==[]||T.drop _==[10])=_
     rw[x]
     rcases E:T.drop _ with _|_
     case nil=>have:=List.drop_eq_nil_iff.mp E;exact(bB _ ((um I).elim (J [_,_] 0x82201022088a00042228081 L this) (J [_,_] 0x8220044400445004a111001 L i))).elim
     case cons H l=>
      show(false||c==10&&false)=false
      rw[Bool.and_false];rfl
    have:=fin
    rw[d] at this
    exact uq (this _ λ z z=>rfl)
 ·
  refine bg rfl (br (bg rfl (br (bg rfl (br (bg rfl (br (bg rfl (br (bg rfl (br (mA (λ r M=>r=.bool (r6 ((T.drop j.a).take 1))/\M=e) (λ F p=>j0 (p6 o) (iD (Gd (λ C=>?_) λ C=>?_))) λ r M V=>?_))))))))))))
  ·have i:=dR.mp C
   refine a7 (o5 i) λ c k=>kk (rM o ok.a) k (aH (Lz (t.at k)) (p _ _ ⟨?_,rfl⟩))
   rw[oQ i]
   rw[hK i] at k
   obtain rfl:=ck k
   rfl
  ·refine p _ _ ⟨?_,rfl⟩
   rw[sr (hT.mp (jF.mp C))]
   rfl
  ·refine bc V λ K O=>?_;clear V;subst K;subst O
   refine mA (λ r x8=>r=.bool (r6 ((T.take j.a).drop (j.a-1)))/\x8=M) (λ F p=>nZ (Gd (λ C=>?_) λ C=>?_)) λ r x8 V=>?_
   ·have i:j.a-1<T.length:=by have:=ok.a;exact J [_,_,_] 0x142230004088c009481 L this (di (J [_] 4540987353335809 L (dR.mp C)))
    refine a7 (o5 i) λ c k=>df (bA some (bA _ (by lia))) (kk (rM o (ka i)) k (aH (Lz (t.at k)) (p _ _ ⟨?_,rfl⟩)))
    have d:T.take j.a=T.take (j.a-1)++[c]:=by
     conv=>lhs;rw[show j.a=j.a-1+1 by exact cB (d2 _ _) (di (J [_] 4540987353335809 L (dR.mp C)))]
     rw[lJ,k];rfl
    rw[d,List.drop_append,sr (List.length_take_le ..),nI,Nat.min_eq_left (ka i),Nat.sub_self]
    rfl
   ·refine p _ _ ⟨?_,rfl⟩
    rw[show j.a=0 by exact cB (hT.mp (jF.mp C)) (J [_] 131136 L)]
    rfl
   ·refine bc V λ P Q=>?_;clear V;subst P;clear h;subst Q
    refine bg (r:=kP 2 T j.a) ?_ (bg rfl (bg ?_ (fin _ λ z z=>rfl)))
    ·show some _=some !r6 _==r6 _
     rw[pZ]
    ·cases kP 2 T _<;>rfl
theorem abg{k:Nat}:jD aI y ba T f cc G N (.opn k):=by
 intro n A e g b5 bU j b l Y h ok d i m a q
 apply i6 Y;intro n
 by_cases c:k<j.ao.length
 ·have a:=dd ((aU c).symm.trans a)
  (injection a with a0 bL;subst a0 bL)
  exact aH (aeg ..) (bx rfl (h.at_ (tx h c (by have:=ok.ao;exact J [_,_,_] 0x77359400619404304c111401f424020c81 L i c (aL this)) (ah d (ae rfl)) λ o C=>nX C λ p I=>q _ _ _ _ I)))
 ·exact nomatch(a8 c).symm.trans a
theorem abh{k:Nat}:jD aI y ba T f cc G N (.place k):=by
 intro n A e g b5 bU j b l Y h ok d i m a q
 apply i6 Y;intro n
 by_cases c:k<j.ao.length
 ·have a:=dd ((aU c).symm.trans a)
  (injection a with a0 bL;subst a0 bL)
  exact aH (aes ..) (bx rfl (h.at_ (tx h c (by have:=ok.ao;exact J [_,_,_] 0x77359400619404304c111401f424020c81 L i c (aL this)) (ah d (ae rfl)) λ o C=>nX C λ p I=>q _ _ _ _ I)))
 ·exact nomatch(a8 c).symm.trans a
end
end
section
section
variable{aI e:U}{y ba g b5 bU cc G N:Nat}{T:List Nat}{f:Bool}{j:gf}{A:bl}
set_option tactic.hygienic true in
theorem abb{i k:Nat}(m:0<i)(o:i<=G):jD aI y ba T f cc G N (.close i k):=by
 intro n A e g b5 bU j b H Y h ok w x B c q
 apply i6 Y;intro n
 have t:=ok.O
 have D:=ok.ao
 refine a7 (⟨_,hK (J [_,_,_,_] 0xc111c0020447004c509481 L o (aL t.symm) (di (J [_] 4540987353335809 L m)))⟩:∃p,j.O[i-1]?=some p) λ p r=>?_
 rcases l:j.ao[k]? with _|_
 case none=>
  have:fe T f (.close i k) j=none:=by
   show(match j.ao[k]?,j.O[i-1]? with|some v,some p=>_|_,_=>_)=_
   exact l.symm▸rfl
  exact nomatch this.symm.trans c
 case some v=>
  have F:k<N:=by
   exact rwr D ((ix.mp l).1)
  have d:fe T f (.close i k) j=if 0<=v then some (true,⟨j.a,j.row+1,j.O.set (i-1) (some (v.toNat,j.a)),j.ao,.i7 i p::j.aF⟩) else none:=by
   show(match j.ao[k]?,j.O[i-1]? with|some v,some p=>_|_,_=>_)=_
   exact l.symm▸r.symm▸rfl
  rw[d] at c
  by_cases s:0<=v
  ·rw[aU s] at c
   cases c
   have u:i<=1000000000:=J [_,_] 0x1dcd6500186407a120106509481 L o B
   exact aH (aeh ..) (h.kO (h.app (bx rfl (h.nY (bx rfl (h.i7 m u r (cb (cn (n:=3) (ae rfl)) (by clear r d;rcases p with _|_<;>rfl) (h.push (.i7 i p) rfl (ah w (ae rfl)) λ K C=>C.oc (bx rfl (C.dF (J [_,_] 0xee6b2800c32808111401f424020c81 L x F) l (C.at_ (cb (cn (n:=2) (ae rfl)) rfl (C.nY (bx rfl ((rwl (show E.tup _=hA (some (v.toNat,j.a)) by show _=E.tup _;rw[Int.toNat_of_nonneg s]) (C.Kt m (J [_,_,_] 6734715327617 L o (aL t.symm)) u λ M I=>nX I λ P ag=>q _ _ _ _ ag)))))))))))))))))
  ·rw[a8 s] at c
   exact bF c
theorem abd{s:Nat}:jD aI y ba T f cc G N (.jump s):=by
 intro n A e g b5 bU j b c Y h ok d i k a q
 apply i6 Y;intro n
 cases a
 exact aH (aei ..) (bx rfl (h.ng rfl λ l=>q _ _ _ _))
theorem abm{s il:Nat}:jD aI y ba T f cc G N (.split s il):=by
 intro n A e g b5 bU j b d Y h ok a i k c q
 apply i6 Y;intro n
 cases c
 exact aH (aej ..) (h.kO (h.app (bx rfl (h.at_ (cb (cn (n:=3) (ae rfl)) rfl (h.push _ rfl (ah a (ae rfl)) λ l C=>bx rfl (C.ng rfl λ m I=>q _ _ _ _ I)))))))
theorem abo{c s:Nat}:jD aI y ba T f cc G N (.zero c s):=by
 intro n A e g b5 bU j b m Y h ok i k o d q
 apply i6 Y;intro n
 have l:=ok.ao
 by_cases a:c<j.ao.length/\s<j.ao.length
 ·have d:=dd ((aU a).symm.trans d)
  (injection d with a0 bL;subst a0 bL)
  exact aH (ael ..) (bx rfl (tx h a.1 (J [_,_,_] 0x77359400619805088c0090a1f424020c81 L k (aL l) a.1) (ah i (ae rfl)) λ p C=>bx rfl (tx C ((rwl hr a.2)) (J [_,_,_] 0x77359400619805088c0090a1f424020c81 L k (aL l) a.2) (Nat.succ_le_of_lt (sm i (by exact ae rfl))) λ r I=>nX I λ t ag=>q _ _ _ _ ag)))
 ·exact nomatch(a8 a).symm.trans d
set_option tactic.hygienic true
theorem aa_{c s r:Nat}:jD aI y ba T f cc G N (.again c s r):=by
 intro n A e g b5 bU j b u Y h ok t m w i q
 apply i6 Y;intro n
 have o:=ok.ao
 rcases k:j.ao[c]? with _|_
 case none=>
  have:fe T f (.again c s r) j=none:=by
   show(match j.ao[c]? with|some v=>_|none=>_)=_
   exact k.symm▸rfl
  exact nomatch this.symm.trans i
 case some v=>
  have p:=(ix.mp k).1
  have d:fe T f (.again c s r) j=if s<j.ao.length then some (true,{l9 (l9 j c (v+1)) s j.a with row:=r}) else none:=by
   show(match j.ao[c]? with|some v=>_|none=>_)=_
   exact k.symm▸rfl
  rw[d] at i
  by_cases l:s<j.ao.length
  ·rw[aU l] at i
   cases i
   exact aH (aen ..) (bx rfl (h.oc (bx rfl (h.dF (J [_,_,_] 0x77359400619805088c0090a1f424020c81 L m (aL o) p) k (df rfl (tx h p (J [_,_,_] 0x77359400619805088c0090a1f424020c81 L m (aL o) p) (ah t (ae rfl)) λ x C=>bx rfl (C.at_ (tx C ((rwl hr l)) (J [_,_,_] 0x77359400619805088c0090a1f424020c81 L m (aL o) l) (Nat.succ_le_of_lt (sm t (by exact ae rfl))) λ B I=>
    bx rfl (I.ng rfl λ D ag=>q _ _ _ _ ag)))))))))
  ·rw[a8 l] at i
   exact bF i
theorem abe{c s bD:Nat}{a4:Int}{lazy:Bool}{m o:Nat}:jD aI y ba T f cc G N (.loop c s bD a4 lazy m o):=by
 intro n A e g b5 bU j b K Y h ok H B M i q
 have E:j.aF.length<=7000000:=ah H (ae rfl)
 apply i6 Y;intro n
 have F:=ok.ao
 rcases k:j.ao[c]? with _|_
 case none=>
  have:fe T f (.loop c s bD a4 lazy m o) j=none:=by
   show(match j.ao[c]?,j.ao[s]? with|some v,some p=>_|_,_=>_)=_
   exact k.symm▸rfl
  exact nomatch this.symm.trans i
 case some v=>
  rcases l:j.ao[s]? with _|_
  case none=>
   have:fe T f (.loop c s bD a4 lazy m o) j=none:=by
    show(match j.ao[c]?,j.ao[s]? with|some v,some p=>_|_,_=>_)=_
    exact k.symm▸l.symm▸rfl
   exact nomatch this.symm.trans i
  case some w=>
   have d:=(xy k l).symm.trans i
   have d:=dd d
   refine aH (aem ..) (aH (W7 ..) (aH (Uh ..) (h.oc (h.dF (J [_,_,_] 0x77359400619805088c0090a1f424020c81 L B (aL F) (ix.mp k).1) k (h.ng rfl λ O C=>iD (k3 (λ r=>?_) λ r=>?_))))))
   ·rw[aU r] at d
    (injection d with a0 bL;subst a0 bL)
    exact gm (q _ _ _ _ C)
   ·rw[a8 r] at d
    refine d_ (C.oc (C.dF (J [_,_,_] 0x77359400619805088c0090a1f424020c81 L B (aL F) (ix.mp l).1) l (C.at_ (jN (l' (λ a=>cF ?_) λ a=>d_ (Dl (k3 (λ t=>Dl (K6 (λ u=>cF ?_) λ u=>br ?_)) λ t=>iW (br ?_))))))))
    ·have a:=eq_of_beq a
     rw[aU (.inl a)] at d
     (injection d with a0 bL;subst a0 bL)
     exact C.ng rfl λ x I=>gm (q _ _ _ _ I)
    ·rw[aU (.inr ⟨t,u⟩)] at d
     (injection d with a0 bL;clear i;subst a0 bL)
     exact C.ng rfl λ x I=>gm (q _ _ _ _ I)
    all_goals
     rw[a8 (by rintro(D|D)<;>first|exact(λ D=>by rw[D,eC] at a;cases a) D|exact u D.2|exact t D.1)] at d
     clear i;rcases lazy with _|_
     case true=>
      (injection d with a0 bL;subst a0 bL)
      exact dj (cF (C.kO (C.app (C.at_ (cb (cn (n:=3) (ae rfl)) rfl (C.push _ rfl E λ x I=>I.ng rfl λ P ag=>gm (q _ _ _ _ ag)))))))
     case false=>
      (injection d with a0 bL;subst a0 bL)
      exact dj (br (C.kO (C.app (C.at_ (cb (cn (n:=3) (ae rfl)) rfl (C.push _ rfl E λ x I=>gm (q _ _ _ _ I)))))))
set_option tactic.hygienic false
theorem abf{k:Nat}:jD aI y ba T f cc G N (.mark k):=by
 intro n A e g b5 bU j b s Y h ok l m t c q
 apply i6 Y;intro n
 have o:=ok.ao
 by_cases a:k<j.ao.length
 ·have c:=dd ((aU a).symm.trans c)
  (injection c with a0 bL;subst a0 bL)
  refine aH (aeo ..) (bx rfl (tx h a (J [_,_,_] 0x77359400619805088c0090a1f424020c81 L m (aL o) a) (ah l (ae rfl)) λ p C=>C.kO ?_))
  have r:dw p (.ref bU) ((l9 j k 0).aF.reverse.map (cE.v f)):=⟨by(rewrite[iV];refine(rwl C.pr ?_));rfl,λ i d=>by(injection d with a0;subst a0);exact C.ag⟩
  refine r.len (by(rewrite[cM];refine(rwl p0 ?_));exact ah (h9 l) (by exact ae rfl)) (C.oc (bx rfl ?_))
  (rewrite[cM];refine(rwl p0 ?_))
  exact C.Ee (by exact(rwl hr a)) (J [_,_,_] 0x77359400619805088c0090a1f424020c81 L m (aL o) a) λ u I=>nX I λ w ag=>q _ _ _ _ ag
 ·exact nomatch(a8 a).symm.trans c
set_option tactic.hygienic true in
theorem abk(r:T.length<=4){k:Nat}:jD aI y ba T f cc G N (.ret k):=by
 intro n A e g b5 bU j b s Y h ok t m u c q
 apply i6 Y;intro n
 have o:=ok.ao
 rcases i:j.ao[k]? with _|_
 case none=>
  have:fe T f (.ret k) j=none:=by
   show(match j.ao[k]? with|some v=>_|none=>_)=_
   exact i.symm▸rfl
  exact nomatch this.symm.trans c
 case some v=>
  have p:=(ix.mp i).1
  have d:fe T f (.ret k) j=if 0<=v/\v.toNat<=T.length then some (true,{j with a:=v.toNat,row:=j.row+1}) else none:=by
   show(match j.ao[k]? with|some v=>_|none=>_)=_
   exact i.symm▸rfl
  rw[d] at c
  by_cases l:0<=v/\v.toNat<=T.length
  ·rw[aU l] at c
   cases c
   exact aH (aet ..) (h.oc (bx rfl (h.dF (J [_,_,_] 0x77359400619805088c0090a1f424020c81 L m (aL o) p) i (h.h3 (Int.toNat_of_nonneg l.1).symm λ w C=>nX C λ x=>q _ _ _ _))))
  ·rw[a8 l] at c
   exact bF c
theorem aba{w:Nat}:jD aI y ba T f cc G N (.behind w):=by
 intro n A e g b5 bU j b d Y h ok i k l a q
 apply i6 Y;intro n
 have a:=dd a
 refine aH (aeu ..) (h.at_ (bx rfl (iD (k3 (λ C=>?_) λ C=>?_))))
 ·rw[aU (dR.mp C)] at a
  (injection a with a0 bL;subst a0 bL)
  exact q _ _ _ _ h
 ·rw[a8 λ D=>C (dR.mpr D)] at a
  (injection a with a0 bL;subst a0 bL)
  exact h.at_ (bx rfl (IK (h.h3 (by lia) λ m c=>nX c λ o=>q _ _ _ _)))
end
end
section
section
variable{aI e:U}{y ba g b5 bU cc G N:Nat}{T:List Nat}{f:Bool}{j:gf}{A:bl}
theorem Zm(d:cE):∃w l,d.v f=.tup (.str w::l)/\(w==[103,114,111,117,112]||(w==[114,101,103,105,115,116,101,114]||false))=d.log:=by
 rcases d with _|_<;>exact cu _ _ ⟨rfl,rfl⟩
theorem cN.z0(h:cN aI e y ba g b5 bU T f cc j):dw e (.ref bU) (j.aF.reverse.map (cE.v f)):=⟨by rw[iV,h.pr];rfl,λ i d=>by(injection d with a0;subst a0);exact h.ag⟩
set_option tactic.hygienic true
theorem abc{k:Nat}:jD aI y ba T f cc G N (.cut k):=by
 intro n A e g b5 bU j b bt Y h ok Q R bO c q
 have a:j.aF.length<=7000000:=ah Q (ae rfl)
 apply i6 Y;intro n
 rcases r:j.ao[k]? with _|_
 case none=>
  have:fe T f (.cut k) j=none:=by
   show(match j.ao[k]? with|some v=>_|none=>_)=_
   exact rwl r rfl
  exact nomatch this.symm.trans c
 case some v=>
  have d:fe T f (.cut k) j=if 0<=v/\v.toNat<=j.aF.length then some (true,{j with row:=j.row+1,aF:=(j.aF.take (j.aF.length-v.toNat)).filter cE.log++j.aF.drop (j.aF.length-v.toNat)}) else none:=by
   show(match j.ao[k]? with|some v=>_|none=>_)=_
   exact rwl r rfl
  rw[d] at c
  by_cases s:0<=v/\v.toNat<=j.aF.length
  ·rw[aU s] at c
   cases c
   refine a7 (uj s.1) λ m S=>?_;clear d;subst S
   have D:m<=1000000000:=ah s.2 (ah a (ae rfl))
   have E:(j.aF.reverse.map (cE.v f)).length<=c7:=by rw[cM,p0];exact ah a (by decide)
   refine aH (aep ..) (h.oc (bx rfl (h.dF (J [_,_,_] 0x77359400619805088c0090a1f424020c81 L R (aL ok.ao) (ix.mp r).1) r (h.kO (h.z0.slice E (eM D) rfl ?_)))))
   show h' (.lst ((j.aF.reverse.map _).drop m)) _ _ _ e
   rw[(by rw[<-List.map_drop,List.drop_reverse]:(j.aF.reverse.map (cE.v f)).drop m=(j.aF.take (j.aF.length-m)).reverse.map (cE.v f))]
   refine sG rfl (λ i t M=>M=e/\t=(((j.aF.take (j.aF.length-m)).reverse.take i).filter cE.log).map (cE.v f)) ⟨rfl,rfl⟩ (λ z z z z=>trivial) (λ i x t F H u p K=>?_) λ t F p=>?_
   ·refine bc p λ U V=>?_;clear p;subst U;subst V
    rw[(λ i=>j' ..)] at u
    refine a' (gD.mp u) λ o W X=>?_;clear u;subst X
    refine fC (Zm (f:=f) o) λ w l Z B=>?_
    have cZ:(j.aF.take (j.aF.length-m)).reverse.take (i+1)=(j.aF.take (j.aF.length-m)).reverse.take i++[o]:=by rw[lJ,W];rfl
    have O:n8 F (o.v f) (.int 0)=some (.str w):=by rw[Z];rfl
    have P:o.log=true->H ((((j.aF.take _).reverse.take i).filter _).map _++[o.v f]) _:=λ a=>K _ _ ⟨rfl,by rw[cZ,List.filter_append,e8,List.filter_cons_of_pos a];rfl⟩
    have bF:o.log=false->H ((((j.aF.take _).reverse.take i).filter _).map _) _:=λ a=>K _ _ ⟨rfl,by rw[cZ,List.filter_append,e8,List.filter_cons_of_neg (by rw[a];decide)];exact(gS _).symm⟩
    refine⟨?_,d_ (bx O (hu (l' (λ C=>cF (P ?_)) λ C=>bx O (hu (l' (λ I=>cF (P ?_)) λ I=>br (bF ?_))))))⟩
    ·rw[cM]
     refine ah (List.length_filter_le ..) (ah (sy ..) ?_)
     rw[p0]
     exact ah (sy ..) (ah a (by decide))
    ·rw[<-B,C];rfl
    ·rw[<-B,I,Bool.true_or,Bool.or_true]
    ·rw[<-B,C,I];rfl
   ·refine bc p λ fh mL=>?_;clear p;subst fh;subst mL
    rw[cM,nJ]
    refine h.kO (h.z0.slice E rfl (eM D) ?_)
    show bu _ (.lst (((j.aF.reverse.map _).take m).drop 0)) _ _ _
    rw[mU,(by rw[<-List.map_take,List.take_reverse]:(j.aF.reverse.map (cE.v f)).take m=(j.aF.drop (j.aF.length-m)).reverse.map (cE.v f))]
    refine dw.add .lst .lst ?_ ?_
    ·rw[cM,cM,p0,List.filter_reverse,p0]
     refine ah (e7 (ah (List.length_filter_le ..) (List.length_take_le ..)) _) ?_
     rw[jn]
     exact ah (di (hq _ _)) (ah a (by decide))
    ·have C:=h.ext (.alloc _ _ (.list ((j.aF.drop (j.aF.length-m)).reverse.map (cE.v f)++((j.aF.take (j.aF.length-m)).reverse.filter cE.log).map (cE.v f))))
     refine e9 C.run (by kernel_rfl) (ae rfl) (by kernel_rfl) (nX (C.Z' (il:=(j.aF.take (j.aF.length-m)).filter _++j.aF.drop (j.aF.length-m)) ?_ (eo _) h.fr.next (e' h.C) (e' h.I) (hU h.dE)) λ aS I=>q _ _ _ _ I)
     rw[fR,List.reverse_append,e8,List.filter_reverse]
  ·rw[a8 s] at c
   exact bF c
theorem Lm{n:Nat}(h:cN aI e y ba g b5 bU T f cc j){d:cE}(ok:nt G N T.length d)(b:j.O.length=G)(c:j.ao.length=N)(i:G<=1000000)(l:N<=1000000)
  (q:∀M,cN aI M y ba g b5 bU T f cc {j with O:=(gO [d] j.O j.ao).1,ao:=(gO [d] j.O j.ao).2}->A .none M):call (n+1) 35 [.ref y,d.v f] A e:=by
 refine aH (aeq ..) ?_
 rcases d with _|_
 case i7 m p=>exact iK (bx rfl (h.nY (bx rfl (h.Kt ok.1 (by rw[b];exact ok.2) (by have:=ok.2;exact J [_,_] 0x1dcd65001865010a1f424020c81 L i this) λ o=>q _))))
 case dF k v=>exact cO rfl (iK (bx rfl (h.oc (bx rfl (h.Ee (by rw[c];exact ok) (by have:=ok;exact J [_,_] 0xee6b2800c32808111401f424020c81 L l this) λ o=>q _)))))
 case hD r a=>exact cO rfl (cO rfl (q _ h))
 case less r low a=>exact cO rfl (cO rfl (q _ h))
 case more r k a left=>exact cO rfl (cO rfl (q _ h))
set_option tactic.hygienic false
theorem mH:∀(s:List cE)(g:cA)(r:List Int),(gO s g r).1.length=g.length/\(gO s g r).2.length=r.length
 |[],_,_=>⟨rfl,rfl⟩
 |.i7 _ _::s,g,r=>⟨(mH s _ _).1.trans hr,(mH s _ _).2⟩
 |.dF _ _::s,g,r=>⟨(mH s _ _).1,(mH s _ _).2.trans hr⟩
 |.hD _ _::s,g,r=>mH s _ _
 |.less _ _ _::s,g,r=>mH s _ _
 |.more _ _ _ _::s,g,r=>mH s _ _
set_option tactic.hygienic true in
theorem abj{k:Nat}:jD aI y ba T f cc G N (.refuse k):=by
 intro n A e g b5 bU j b S Y h ok F s H c q
 have t:j.aF.length<=7000000:=ah F (ae rfl)
 apply i6 Y;intro n
 rcases l:j.ao[k]? with _|_
 case none=>
  have:fe T f (.refuse k) j=none:=by
   show(match j.ao[k]? with|some v=>_|none=>_)=_
   exact rwl l rfl
  exact nomatch this.symm.trans c
 case some v=>
  have d:fe T f (.refuse k) j=if 0<=v/\v.toNat<=j.aF.length then some (false,{j with O:=(gO (j.aF.take (j.aF.length-v.toNat)) j.O j.ao).1,ao:=(gO (j.aF.take (j.aF.length-v.toNat)) j.O j.ao).2,aF:=j.aF.drop (j.aF.length-v.toNat)}) else none:=by
   show(match j.ao[k]? with|some v=>_|none=>_)=_
   exact rwl l rfl
  rw[d] at c
  by_cases o:0<=v/\v.toNat<=j.aF.length
  ·rw[aU o] at c
   cases c
   refine a7 (uj o.1) λ m K=>?_;subst K
   refine aH (aer ..) (h.oc (bx rfl (h.dF (J [_,_,_] 0x77359400619805088c0090a1f424020c81 L s (aL ok.ao) (ix.mp l).1) l (mb (λ bh ak M=>bh<=j.aF.length/\m<=bh/\ak=se _ _ _/\cN aI M y ba g b5 bU T f cc {j with O:=(gO (j.aF.take (j.aF.length-bh)) j.O j.ao).1,ao:=(gO (j.aF.take (j.aF.length-bh)) j.O j.ao).2,aF:=j.aF.drop (j.aF.length-bh)}) (λ bh ak U V u w z z=>?_) ⟨bw _,o.2,rfl,?_⟩))))
   ·refine f5 u λ a B P C=>?_;clear u;subst P
    have p:(j.aF.drop (j.aF.length-bh)).length=bh:=by rw[jn];exact cB (J [_,_,_,_] 0x6380853802628081 L (d2 _ _) (di (hq _ _))) (J [_,_,_,_] 0x5380873002628081 L (d2 _ _) (di a))
    refine aH (adg ..) (C.kO (C.z0.len (by rw[cM,p0];rw[p];exact ah a (ah t (by decide))) (nZ ?_)))
    rw[cM,p0,p]
    by_cases i:m<bh
    ·rw[fi (dR.mpr i)]
     refine a7 (⟨bh-1,cB (d2 _ _) (di (J [_,_] 0xa1100a111001 L i))⟩:∃x,bh=x+1) λ bh Q=>?_;subst Q
     have r:j.aF.length-(bh+1)<j.aF.length:=J [_,_,_] 0xc1110003044501001 L (di a)
     have E:=oQ r
     rw[show j.aF.length-(bh+1)+1=j.aF.length-bh by exact cB (J [_,_,_,_] 0x142238004088c03802628081 L (d2 _ _) (di a)) (J [_,_,_,_] 0x44501c0431c01088c028081 L (d2 _ _) (di (J [_,_] 5635165982721 L a)))] at E
     refine aH (Ui ..) (C.kO (C.pop E (by rw[p];exact ah a t) λ W I=>Lm I (ok.aF _ (List.getElem_mem r)) ((mH _ _ _).1.trans ok.O) ((mH _ _ _).2.trans ok.ao) H s λ X ag=>(w bh _ _ (eo bh) ⟨pY a,nN i,rfl,?_⟩).1))
     have R:j.aF.take (j.aF.length-bh)=j.aF.take (j.aF.length-(bh+1))++[j.aF[j.aF.length-(bh+1)]]:=by
      rw[show j.aF.length-bh=j.aF.length-(bh+1)+1 by exact cB (J [_,_,_,_] 0x44501c0431c01088c028081 L (d2 _ _) (di (J [_,_] 5635165982721 L a))) (J [_,_,_,_] 0x142238004088c03802628081 L (d2 _ _) (di a)),lJ,hK r];rfl
     rw[R,pE]
     exact ag
    ·rw[h8 λ D=>i (dR.mp D)]
     have:=cB (cI i) B
     clear l d w B i;subst this
     exact f3 (aH (Uj ..) (gm (q _ _ _ _ C)))
   ·rw[Nat.sub_self];exact h
  ·rw[a8 o] at c
   exact bF c
end
end
section
section
variable{aI e:U}{y ba g b5 bU cc G N:Nat}{T:List Nat}{f:Bool}{j:gf}{A:bl}
noncomputable def Ca(f:Bool)(c:Nat):Nat:=if f then pd c else c
theorem Gg{cg:Type}[BEq cg][LawfulBEq cg][DecidableEq cg](a b:cg):(a==b)=decide (a=b):=by
 by_cases h:a=b
 ·rw[h,eC,fi rfl]
 ·rw[fH.mpr h,h8 h]
theorem z6(f:Bool)(x H:List Nat):oe f x H=decide (x.map (Ca f)=H.map (Ca f)):=by
 unfold oe
 rw[Gg,Gg]
 rcases f with _|_
 ·rw[Bool.false_and,Bool.or_false]
  refine decide_eq_decide.mpr ?_
  show _↔x.map id=H.map id
  rw[List.map_id,List.map_id]
 ·rw[Bool.true_and,<-Bool.decide_or]
  refine decide_eq_decide.mpr ⟨?_,.inr⟩
  rintro(rfl|h)
  ·rfl
  ·exact h
theorem aa'(t:T.length<=4)(K:fU T){i:Nat}(E:0<i)(P:i<=G):jD aI y ba T f cc G N (.back i):=by
 intro n A e g b5 bU j b bt Y h ok gI bH X F q
 apply i6 Y;intro n
 have Q:i<=1000000000:=J [_,_] 0x1dcd6500186407a120106509481 L P X
 refine a7 (⟨_,hK (J [_,_,_,_] 0xc111c0020447004c509481 L P (aL ok.O.symm) (di (J [_] 4540987353335809 L E)))⟩:∃p,j.O[i-1]?=some p) λ p u=>?_
 refine aH (aef ..) (bx rfl ⟨trivial,aH (W4 ..) (aH (Ua ..) (h.nY (h.i7 E Q u ?_)))⟩)
 rcases p with _|⟨x,d⟩
 ·have d:=(KI u).symm.trans F
  cases d
  exact bg rfl (br ⟨trivial,f3 (aH (Ue ..) (gm (q _ _ _ _ h)))⟩)
 ·refine bg rfl (cF (h.nY (h.i7 E Q u (aH (W5 ..) (aH (Ub ..) (h.at_ (df rfl (df rfl (h.h5 (j0 (p6 t) ?_))))))))))
  by_cases r:x<=d/\d<=T.length
  ·have s:=dd ((En u r).symm.trans F)
   refine nZ (k3 (λ C=>?_) λ C=>?_)
   ·rw[a8 λ D=>by lia] at s
    (injection s with a0 bL;subst a0 bL)
    exact q _ _ _ _ h
   ·have w:j.a+(d-x)<=T.length:=by lia
    refine df (bA some (bA _ (by lia))) (qS (v:=.rng 0 (d-x:Nat) 1) (xm (js (J [_,_,_] 0x773594006198043140120881 L t w))) ?_)
    have R:∀c k,c+(d-x)<=T.length->k<d-x->∃o,T[c+k]?=some o/\((T.drop c).take _)[k]?=some o:=λ c k C I=>by
     exact a7 (o5 (a:=c+k) (J [_,_,_,_] 0x182239000014223802629001 L C I)) λ o S=>⟨o,S,by rw[List.getElem?_take,aU I,so,S]⟩
    refine k8 (zu (J [_,_,_] 0x773594006198043140120881 L t w)) (λ k ak M=>M=e/\(∃p,ak=iN _ _ _ _ _ p)/\(((T.drop j.a).take (d-x)).take k).map _=(((T.drop x).take (d-x)).take k).map (Ca f)) ⟨rfl,⟨none,rfl⟩,rfl⟩ (λ z z z z=>trivial) (λ k v ak Z d3 aj m cq z V=>?_) λ ak Z m=>?_
    ·obtain⟨rfl,⟨p,rfl⟩,m⟩:=m
     obtain⟨B,rfl⟩:=z3 aj
     refine a' (R _ k w B) λ ha hi jc=>?_
     refine a' (R x k (J [_,_,_,_] 0x531c0021cc009481 L r.2 (di r.1)) B) λ eb U W=>?_
     refine aH (W6 ..) (aH (Uc ..) (h.h5 (h.at_ (df rfl (kk (rM t (J [_,_,_,_] 0x31c80014223802629001 L w B)) hi (h.h5 (df rfl (kk (rM t (J [_,_,_,_,_] 0x14c80008838027088c009481 L r.2 B (di r.1))) U (bx rfl (aH (abV (K.at hi) (K.at U)) (dj (jL (λ I=>V _ _ _ ?_) λ I=>(cq _ _ ⟨rfl,⟨_,rfl⟩,?_⟩).1))))))))))))
     ·have a_:oe f ((T.drop j.a).take (d-x)) ((T.drop x).take (d-x))=false:=by
       rw[z6]
       refine h8 λ D=>?_
       have D:=bA (λ l=>l[k]?) D
       simp only[j'] at D
       rw[jc,W] at D
       rw[z6,show[ha].map _=[eb].map _ from bA (λ H=>[H]) (dd D),fi rfl] at I
       exact cy I
      rw[a8 λ D=>by rw[a_] at D;exact cy D.2] at s
      (injection s with a0 bL;subst a0 bL)
      exact q _ _ _ _ h
     ·rw[z6] at I
      have I:=Decidable.byContradiction λ D=>by rw[h8 D] at I;cases I
      rw[lJ,lJ,jc,W,e8,e8,m]
      exact bA _ I
    ·obtain⟨rfl,⟨p,rfl⟩,m⟩:=m
     rw[xo,List.take_of_length_le (List.length_take_le ..),List.take_of_length_le (List.length_take_le ..)] at m
     rw[aU ⟨w,by rw[z6];exact fi m⟩] at s
     (injection s with a0 bL;subst a0 bL)
     exact f3 (aH (Ud ..) (h.at_ (df (v:=.int (d-x:Nat)) (bA some (bA _ (by lia))) (iC (h.h3 (k1.mpr (cB (J [_,_] 5503094784 L) (J _ 5503094784 L))) λ aS I=>nX I λ c9=>q _ _ _ _)))))
  ·have:fe T f (.back i) j=none:=by
    show(match j.O[i-1]? with|some (some (b,d))=>_|some none=>_|none=>_)=_
    exact rwl u (a8 r)
   exact nomatch this.symm.trans F
end
end
section
section
variable{aI e:U}{y ba g b5 bU cc G N:Nat}{T:List Nat}{f:Bool}{j:gf}{A:bl}
theorem zN(f:Bool)(k:Nat):fM (gX f k)=true:=by
 refine m' ?_ ?_ ?_ ?_ ?_ (λ z=>?_) k<;>rfl
theorem Kl{k:Nat}:∀(l:List Nat)(m:Nat),runN f k l m=runN f k l (min l.length m)
 |[],m=>by rcases m with _|_<;>rfl
 |c::r,0=>rfl
 |c::r,m+1=>by
  rw[fW,Nat.succ_min_succ,D',D',Kl r m]
theorem ZU(n b:Nat):(if(b:Int)<(n:Int) then(b:Int) else(n:Int))=((min n b:Nat):Int):=by
 by_cases h:b<n
 ·rw[aU (dR.mpr h),Nat.min_eq_right (ka h)]
 ·rw[a8 (mt dR.mp h),Nat.min_eq_left (cI h)]
theorem abR{n k a:Nat}(o:T.length<=4)(B:fU T)(h:cN aI e y ba g b5 bU T f cc j)(E:k<6)(r:a<=T.length)(a4:Int)(q:A (.int ((a+runN f k (T.drop a) (jQ T a a4):Nat):Int)) e):call (n+7) 21 [.ref y,gX f k,.int a,.int a4] A e:=by
 have key:∀(st:Nat),st<=T.length->a<=st->runN f k (T.drop a) (st-a)=runN f k _ _->kn (hE 21 [] 1 (call (n+6))) (bp 21 [(1,0)] 0 (call (n+6))) _ (fc (bp 21 [] 2 (call (n+6))) (eX A)) e:=λ st s t u=>by
  rw[<-u] at q
  refine mb (λ bh ak M=>M=e/\∃b,b<=st/\bh=st-b/\ak=sd (some (.ref y)) (some (gX f k)) (some (.int b)) (some (.int a4)) (some (.int st))/\b+runN f k (T.drop b) (st-b)=a+runN f k _ _) (λ bh ak F G d w z z=>?_) ⟨rfl,a,t,rfl,rfl,rfl⟩
  obtain⟨rfl,b,i,rfl,rfl,d⟩:=d
  refine aH (adf ..) (d_ (iD (iY (λ C=>?_) λ C=>?_)))
  ·have p:=dR.mp (gg C)
   refine a7 (o5 (d7 (by assumption) (by assumption))) λ c l=>?_
   have x:runN f k (T.drop b) (st-b)=if gG T f k b then runN f k (T.drop (b+1)) (st-(b+1))+1 else 0:=by
    rw[show st-b=st-(b+1)+1 by exact cB (J [_,_,_,_] 0x44501c0431c01088c028081 L (d2 _ _) (di i)) (J [_,_,_,_] 0x142238004088c03802628081 L (d2 _ _) (di p))];exact z5
   refine h.h5 (kk (rM o (J [_,_,_] 5703857116289 L s i)) l (B2 E (B.at l) (dj (iY (λ I=>?_) λ I=>?_))))
   ·rw[x,uF l,aU I] at d
    exact aH (T9 ..) (iC (w (st-(b+1)) _ _ (J [_,_,_,_] 0x142238004088c03802628081 L (d2 _ _) (di p)) ⟨rfl,b+1,p,rfl,rfl,cB (J [_,_,_,_] 0x3980508880000e60044501001 L (aL d)) (J [_,_,_,_] 0x38446000a400022380c029001 L (aL d.symm))⟩).1)
   ·rw[x,uF l,a8 (by rw[I];decide)] at d
    rw[<-d] at q
    exact f3 (aH (F5 ..) (gm q))
  ·have:=cB i (hT.mp (jF.mp (rb C)))
   clear s t u i w;subst this
   rw[Nat.sub_self,Eb] at d
   rw[<-d] at q
   exact f3 (aH (F5 ..) (gm q))
 refine aH (aeb ..) (fX (iD (k3 (λ C=>h.h5 (j0 (p6 o) ?_)) λ C=>h.h5 (j0 (p6 o) (df rfl (lL (v:=.int (min T.length (a+a4.toNat):Nat)) ?_ ?_))))))
 ·exact key _ (bw _) r (by unfold jQ;rw[aU C])
 ·obtain⟨m,rfl⟩:=uj (jF.mp C)
  exact bA (λ D=>some _) (ZU _ _)
 ·refine key _ (Nat.min_le_left ..) (Nat.le_min.mpr ⟨r,dD _ _⟩) ?_
  unfold jQ
  rw[a8 C,Kl _ a4.toNat,jn,<-Nat.sub_min_sub_right,Nat.add_sub_cancel_left]
theorem abl(s:T.length<=4)(t:fU T){k bD:Nat}{a4:Int}{lazy:Bool}(u:k<6)(P:a4<0\/(bD:Int)<=a4):jD aI y ba T f cc G N (.run k bD a4 lazy):=by
 intro n A e g b5 bU j b v Y h ok w Q R o q
 have p:j.aF.length<=7000000:=ah w (ae rfl)
 apply i6 Y;intro n
 refine aH (aec ..) (aH (W3 ..) (aH (T_ ..) (h.at_ (df rfl (h.at_ (mA (λ r M=>r=.int (if lazy then bD else a4)/\M=e) (λ x i=>dj (jL (λ d=>i _ _ ⟨by rw[d];rfl,rfl⟩) λ d=>i _ _ ⟨by rw[d];rfl,rfl⟩)) λ r M V=>bc V λ B E=>?_))))));clear V;subst B;subst E
 refine abR s t h u ok.a _ (iD (k3 (λ C=>?_) λ C=>?_))
 ·have d:=(Er (J [_,_,_] 0x30445000c40044520001 L (dR.mp C))).symm.trans o
  cases d
  exact gm (q _ _ _ _ h)
 ·have d:=dd ((Ep rfl λ m=>bB _ (J [_,_,_] 0x208805088c00988029001 L (hT.mp (jF.mp C)) m)).symm.trans o)
  generalize S:runN f k _ _=aR at d C⊢
  refine h.xq (iC (h.ng rfl λ F c=>?_))
  have fin:∀{l:U}{il:List _},cN aI l y ba g b5 bU T f cc ⟨j.a,j.row+1,j.O,j.ao,il⟩->(true,⟨j.a+aR,j.row+1,j.O,j.ao,il⟩)=(b,v)->cL _ _ _ _ l:=λ I d=>by
   (injection d with a0 bL;subst a0 bL)
   exact I.h3 rfl λ W=>q _ _ _ _
  refine d_ (dj (iY (λ hz=>bg rfl (iY (λ I=>?_) λ I=>?_)) λ hz=>?_))
  ·rw[aU (by rw[hz];exact I)] at d
   refine cF (c.kO (c.app (c.xq (mA (λ r M=>r=.int (if a4<0 then-1 else a4-bD)/\M=F) (λ x i=>iD (k3 (λ d=>i _ _ ⟨by rw[aU d],rfl⟩) λ d=>df rfl (i _ _ ⟨by rw[a8 d],rfl⟩))) λ r M V=>bc V λ H K=>?_))));clear V;subst H;subst K
   exact cb (cn (n:=5) (ae rfl)) (by show(true&&true&&(fM _&&(true&&true&&true)))=true;rw[zN];rfl) (c.push _ rfl p λ l I=>fin I d)
  all_goals
   rw[a8 (by first|(rw[hz,Bool.false_and];intro D;exact nomatch D)|(rw[hz];intro D;exact nomatch I.symm.trans D))] at d
   refine br (nZ (k3 (λ ag=>?_) λ ag=>?_))
   ·rw[aU (by exact J [_,_,_] 0x30445000c40044520001 L (dR.mp ag))] at d
    exact c.kO (c.app (c.xq (cb (cn (n:=4) (ae rfl)) rfl (c.push (.less (j.row+1) (j.a+bD) (j.a+aR)) rfl p λ l I=>fin I d))))
   ·rw[a8 (by exact λ m=>bB _ (J [_,_,_] 0x208805088c00988029001 L (hT.mp (jF.mp ag)) m))] at d
    exact fin c d
theorem wj{e:U}{r:E}{B:List E}(h:dw e r B):jO (e.alloc (.list [])) r (.ref e.next)=some B.isEmpty:=by
 have h:=h.ext (.alloc _ _ (.list []))
 have C:=h.1
 have d:ic (e.alloc (.list [])) r=none:=by
  cases r with
  |lst dV=>rfl
  |ref y=>
   rw[iV] at C
   unfold ic
   dsimp only
   cases a:(e.alloc (.list [])).get y with
   |none=>rfl
   |some b=>
    rw[a] at C
    rcases b with _|_
    case dict _ _=>exact bF C
    all_goals rfl
  |_=>exact bF C
 have c:gF (e.alloc (.list [])) r=.lst B:=by
  cases r with
  |lst dV=>obtain rfl:=ck C;rfl
  |ref y=>
   rw[iV] at C
   unfold gF
   dsimp only
   cases a:(e.alloc (.list [])).get y with
   |none=>rw[a] at C;exact bF C
   |some b=>
    rw[a] at C
    clear a;rcases b with _|_
    case list dV=>obtain rfl:=ck C;rfl
    case flist dV=>obtain rfl:=ck C;rfl
    all_goals exact bF C
  |_=>exact bF C
 unfold jO
 rw[d]
 show gj 10 (gF _ r) (match(e.alloc (.list [])).get e.next with|some (.list B)=>E.lst B|some (.flist B)=>E.lst B|_=>_)=_
 rw[fR,c]
 clear h C c;rcases B with _|_<;>rfl
theorem ZZ{n r k a:Nat}{left:Int}(o:T.length<=4)(q:fU T)(h:cN aI e y ba g b5 bU T f cc j)(s:k<6)(t:a<=T.length)(u:j.aF.length<=7000000)
  (i:gG T f k a=true->∀M,cN aI M y ba g b5 bU T f cc ⟨a+1,r,j.O,j.ao,if left=1 then j.aF else .more r k (a+1) (if 0<left then left-1 else-1)::j.aF⟩->A (.bool true) M)
  (l:¬gG T f k a=true->A (.bool false) e):call (n+7) 41 [.ref y,cE.v f (.more r k a left)] A e:=by
 refine aH (aew ..) (aH (W8 ..) (aH (Uk ..) (d_ (h.h5 (j0 (p6 o) (uM (K6 (λ C=>cF ?_) λ C=>?_)))))))
 ·exact gm (l λ D=>absurd (o1 D) (λ w=>bB _ (J [_,_] 0x208804088a009481 L (hT.mp C) w)))
 ·refine a7 (o5 (T:=T) (a:=a) ((dR.mp (Int.not_le.mp C)))) λ c b=>?_
  refine h.h5 (kk (rM o t) b (B2 (n:=n) s (q.at b) (dj (l' (λ I=>cF ?_) λ I=>br ?_))))
  ·rw[<-uF b] at I
   exact gm (l λ D=>by rw[D] at I;exact cy I)
  ·rw[<-uF b] at I
   have i:=i (by rcases d:gG T f k a with _|_;rw[d] at I;exact nomatch I;rfl)
   have fin:∀{m:U}{il:List cE},cN aI m y ba g b5 bU T f cc {j with aF:=il}->il=(if left=1 then j.aF else .more r k (a+1) (if 0<left then left-1 else-1)::j.aF)->(cL (.ref y) g5 (.int r) (bu .Add (.int a) (.int 1) λ x=>cL (.ref y) b' x (A (.bool true)))) m:=λ I d=>by
    subst d
    exact I.ng rfl λ G ag=>df (v:=.int ((a+1:Nat):Int)) rfl (ag.h3 rfl λ H=>i _)
   refine bg (r:=!(left==1)) rfl (jL (λ ag=>?_) λ ag=>?_)
   ·refine h.kO (h.app (df (v:=.int ((a+1:Nat):Int)) rfl ?_))
    refine mA (λ r M=>r=.int (if 0<left then left-1 else-1)/\M=e) (λ K p=>nZ (k3 (λ d=>df (v:=.int (left-1)) rfl (p _ _ ⟨by rw[aU d],rfl⟩)) λ d=>p _ _ ⟨by rw[a8 d],rfl⟩)) λ eg M V=>?_
    refine bc V λ B E=>?_;clear V;subst B;clear l;subst E
    exact cb (cn (n:=5) (by exact ae rfl)) (by show(true&&(true&&(fM (gX f k)&&(true&&(true&&true)))))=true;rw[zN];rfl) (h.push (.more r k (a+1) (if 0<left then left-1 else-1)) rfl u λ m I=>fin I (by rw[a8 (λ D=>by rw[D] at ag;exact cy ag:¬left=1)]))
   ·have F:left=1:=by
     have:(left==1)=true:=by rcases d:(left==1) with _|_;rw[d] at ag;exact nomatch ag;rfl
     exact eq_of_beq this
    exact fin h (by rw[aU F])
end
end
section
section
variable{aI e:U}{y ba g b5 bU cc G N:Nat}{T:List Nat}{f:Bool}{j:gf}{A:bl}
theorem B0{k a:Nat}(h:gG T f k a=true):a+1<=T.length:=o1 h
theorem j6.put{a r:Nat}{O:cA}{b:List Int}{s:List cE}(ok:j6 G N T.length j)(c:a<=T.length)(e:O.length=j.O.length)(V:b.length=j.ao.length)(f:∀d∈s,d∈j.aF\/nt G N T.length d):j6 G N T.length ⟨a,r,O,b,s⟩:=
 ⟨c,e.trans ok.O,V.trans ok.ao,λ d g=>(f d g).elim (ok.aF d) id⟩
theorem Jr{d x:cE}{s:List cE}(h:nt G N T.length x)(a:d∈x::s):d∈s\/nt G N T.length d:=(ew.mp a).elim (λ D=>.inr (rwl D h)) .inl
theorem ZM{d x H:cE}{s:List cE}(a:nt G N T.length x)(b_:nt G N T.length H)(b:d∈x::H::s):d∈s\/nt G N T.length d:=(ew.mp b).elim (λ D=>.inr (rwl D a)) (Jr b_)
def mj(G N c_ m:Nat)(j:gf):Prop:=j6 G N c_ j/\j.aF.length<=m
def mQ(G N c_ m:Nat):Option (Bool×gf)->Prop
 |some r=>mj G N c_ m r.2
 |none=>True
section
variable{c:Prop}[Decidable c]{m:Nat}
theorem pk{x H:Option (Bool×gf)}(C:c->mQ G N T.length m x)(I:¬c->mQ G N T.length m H):mQ G N T.length m (if c then x else H):=by
 by_cases h:c
 ·rw[aU h];exact C h
 ·rw[a8 h];exact I h
theorem xf{x H:Bool×gf}(C:c->mj G N T.length m x.2)(I:¬c->mj G N T.length m H.2):mQ G N T.length m (some (if c then x else H)):=by
 by_cases h:c
 ·rw[aU h];exact C h
 ·rw[a8 h];exact I h
theorem DQ{x H:gf}(C:c->mj G N T.length m x)(I:¬c->mj G N T.length m H):mj G N T.length m (if c then x else H):=by
 by_cases h:c
 ·rw[aU h];exact C h
 ·rw[a8 h];exact I h
theorem JP{a r:Nat}{O:cA}{b:List Int}{s q:List cE}(C:c->mj G N T.length m ⟨a,r,O,b,s⟩)(I:¬c->mj G N T.length m ⟨a,r,O,b,q⟩):mj G N T.length m ⟨a,r,O,b,if c then s else q⟩:=by
 by_cases h:c
 ·rw[aU h];exact C h
 ·rw[a8 h];exact I h
end
theorem vh(ok:j6 G N T.length j):mj G N T.length (j.aF.length+2) j:=⟨ok,dD ..⟩
theorem qD{a r:Nat}(ok:j6 G N T.length j)(b:a<=T.length):mj G N T.length (j.aF.length+2) ⟨a,r,j.O,j.ao,j.aF⟩:=⟨⟨b,ok.O,ok.ao,ok.aF⟩,dD ..⟩
theorem qC{a r:Nat}{O:cA}{b:List Int}{x:cE}(ok:j6 G N T.length j)(c:a<=T.length)(e:O.length=j.O.length)(V:b.length=j.ao.length)(f:nt G N T.length x):mj G N T.length (j.aF.length+2) ⟨a,r,O,b,x::j.aF⟩:=⟨ok.put c e V λ d=>Jr f,hp _⟩
theorem JO{a r:Nat}{O:cA}{b:List Int}{x H:cE}(ok:j6 G N T.length j)(c:a<=T.length)(e:O.length=j.O.length)(V:b.length=j.ao.length)(f:nt G N T.length x)(b_:nt G N T.length H):mj G N T.length (j.aF.length+2) ⟨a,r,O,b,x::H::j.aF⟩:=⟨ok.put c e V λ d=>ZM f b_,bw _⟩
set_option tactic.hygienic true in
theorem acK{r:ct}(V:mR G r)(ok:j6 G N T.length j):mQ G N T.length (j.aF.length+2) (fe T f r j):=by
 have b5:∀{k:Nat},k<j.ao.length->k<N:=λ h=>rwr ok.ao h
 have bS:∀{l:List _}{k y:Nat}{v w:Int},((l.set k v).set y w).length=l.length:=hr.trans hr
 rcases r with _|_
 case test k=>exact xf (λ d=>qD ok (B0 d)) λ z=>vh ok
 case run k bD a4 lazy=>
  refine xf (λ z=>vh ok) λ z=>?_
  have g:=by
   have C:=(Ea (f:=f) (k:=k) (T.drop j.a) (jQ T j.a (if lazy then bD else a4))).2
   rw[jn] at C
   exact ah (e7 C _) (jE (Nat.add_sub_cancel' ok.a))
  exact JP (λ z=>qC ok g rfl rfl ⟨V.1,g⟩) λ z=>JP (λ h=>qC ok g rfl rfl ⟨Nat.add_lt_add_left h _,g⟩) λ z=>qD ok g
 case plc w=>exact xf (λ z=>qD ok ok.a) λ z=>vh ok
 case back i=>
  show mQ _ _ _ _ (match j.O[i-1]? with|some (some (b,d))=>_|some none=>_|none=>_)
  split
  ·exact pk (λ z=>xf (λ d=>qD ok d.1) λ z=>vh ok) λ z=>trivial
  ·exact vh ok
  ·trivial
 case opn k=>exact pk (λ h=>qC ok ok.a rfl hr (b5 h)) λ z=>trivial
 case place k=>exact pk (λ h=>qC ok ok.a rfl hr (b5 h)) λ z=>trivial
 case close i k=>
  show mQ _ _ _ _ (match j.ao[k]?,j.O[i-1]? with|some v,some p=>_|_,_=>_)
  split
  ·exact pk (λ z=>qC ok ok.a hr rfl V) λ z=>trivial
  ·trivial
 case jump s=>exact qD ok ok.a
 case split s q=>exact qC ok ok.a rfl rfl ok.a
 case zero c s=>exact pk (λ h=>JO ok ok.a rfl bS (b5 h.2) (b5 h.1)) λ z=>trivial
 case loop c s bD a4 lazy n o=>
  show mQ _ _ _ _ (match j.ao[c]?,j.ao[s]? with|some v,some p=>_|_,_=>_)
  split
  ·exact DQ (λ z=>qD ok ok.a) λ z=>DQ (λ z=>qD ok ok.a) λ z=>DQ (λ z=>qC ok ok.a rfl rfl ok.a) λ z=>qC ok ok.a rfl rfl ok.a
  ·trivial
 case again c s r=>
  show mQ _ _ _ _ (match j.ao[c]? with|some v=>_|none=>_)
  split
  ·rename_i v m
   exact pk (λ h=>JO ok ok.a rfl bS (b5 h) (b5 (ix.mp m).1)) λ z=>trivial
  ·trivial
 case mark k=>exact pk (λ h=>qC ok ok.a rfl bS (b5 h)) λ z=>trivial
 case cut k=>
  show mQ _ _ _ _ (match j.ao[k]? with|some v=>_|none=>_)
  split
  ·refine pk (λ z=>⟨ok.put ok.a rfl rfl λ d e=>.inl ?_,?_⟩) λ z=>trivial
   ·rcases fv.mp e with e|e
    ·exact ra (List.mem_filter.mp e).1
    ·exact List.mem_of_mem_drop e
   ·rw[bR]
    refine ah (v3 (List.length_filter_le ..) _) ?_
    rw[<-bR,List.take_append_drop]
    exact dD ..
  ·trivial
 case refuse k=>
  show mQ _ _ _ _ (match j.ao[k]? with|some v=>_|none=>_)
  split
  ·exact pk (λ z=>⟨ok.put ok.a (mH _ _ _).1 (mH _ _ _).2 λ d e=>.inl (List.mem_of_mem_drop e),ah (List.Sublist.length_le (List.drop_sublist ..)) (dD ..)⟩) λ z=>trivial
  ·trivial
 case ret k=>
  show mQ _ _ _ _ (match j.ao[k]? with|some v=>_|none=>_)
  split
  ·exact pk (λ d=>qD ok d.2) λ z=>trivial
  ·trivial
 case behind w=>exact xf (λ z=>vh ok) λ z=>qD ok (ah (hq _ _) ok.a)
 case fin=>trivial
theorem acJ{r:ct}{b:Bool}{a:gf}(V:mR G r)(ok:j6 G N T.length j)(h:fe T f r j=some (b,a)):j6 G N T.length a/\a.aF.length<=j.aF.length+2:=by
 have k:=acK (f:=f) V ok
 rw[h] at k
 exact k
set_option tactic.hygienic true in
theorem UJ(X:T.length<=4)(Y:fU T)(Z:G<=1000000)(bH:N<=1000000){n:Nat}(h:cN aI e y ba g b5 bU T f cc j)(ok:j6 G N T.length j)(Q:j.aF.length<=7000000)
  (F:∀u,lK T f j.aF j.O j.ao=some u->j6 G N T.length u->u.aF.length<=j.aF.length->∀M,cN aI M y ba g b5 bU T f cc u->A (.bool true) M) (cK:lK T f j.aF j.O j.ao=none->∀M u,cN aI M y ba g b5 bU T f cc u->A (.bool false) M):call (n+8) 42 [.ref y] A e:=by
 refine aH (aex ..) (mb (λ bh ak M=>∃c p,ak=nz _ p/\bh=c.aF.length/\bh<=j.aF.length/\cN _ M y ba g b5 bU T f _ c/\j6 G N _ c/\lK T f c.aF c.O c.ao=lK T f _ _ _) (λ bh ak av d3 R w z V=>ov R λ c p dM mK P h ok b=>?_) (cu j none ⟨rfl,rfl,bw _,h,ok,rfl⟩));clear R;subst dM;subst mK
 refine aH (adh ..) (h.kO (e2 (ae rfl) (bg (r:=!(c.aF.reverse.map _).isEmpty) (by show(jO _ _ _).map _=_;rw[wj h.z0];rfl) ?_)))
 have h:=h.ext (.alloc _ _ (.list []))
 rcases i:c.aF with _|_
 case nil=>
  rw[i] at b
  exact f3 (aH (Um ..) (gm (cK b.symm _ _ h)))
 case cons d s=>
  have H:=ok.aF d (by rw[i];exact f9 ..:d∈c.aF)
  have l:s.length+1<=j.aF.length:=by rw[i] at P;exact P
  have o:=λ x B=>ok.aF x (by rw[i];exact gT _ B)
  have S:s.length<=7000000:=J [_,_] 0x3567e014650102228026acfc028c81 L Q l
  rw[show(!((d::s).reverse.map _).isEmpty)=true by rw[List.reverse_cons,e8];cases s.reverse.map _<;>rfl]
  refine aH (Ul ..) (h.kO (h.pop i (ah P Q) λ aS I=>?_))
  have U:∀K,(∀v q,cN _ q y ba g b5 bU T f _ _->K v q)->call (n+7) 35 _ K _:=λ K w=>Lm I H ok.O ok.ao Z bH λ q ag=>w _ _ ag
  rw[i] at b
  rcases d with _|_
  case hD r a=>
   exact iK (bx rfl (I.ng rfl λ q ag=>bx rfl (ag.h3 rfl λ f6 t=>V _ _ _ (F _ b.symm ⟨H,ok.O,ok.ao,o⟩ (pY l) _ t))))
  case less r low a=>
   refine bc H λ b3 cX=>cO rfl (iK (bx rfl (I.ng rfl λ q ag=>bx rfl (df (bA _ (bA _ (C9 (sm (de _) (by assumption))))) (ag.h3 rfl λ f6 t=>t.at_ (bx rfl (nZ (k3 (λ C=>?_) λ C=>?_))))))))
   ·have W:low<a-1:=dR.mp C
    have b:some _=lK T f _ _ _:=b
    rw[aU W] at b
    exact t.kO (t.app (bx rfl (bx rfl (t.at_ (cb (cn (n:=4) (ae rfl)) rfl (t.push _ rfl S λ lB C=>V _ _ _ (F _ b.symm ⟨J [_,_,_] 5703857116289 L cX (hq _ _),ok.O,ok.ao,λ x B=>(ew.mp B).elim (λ D=>rwl D (⟨W,J [_,_,_] 5703857116289 L cX (hq _ _)⟩)) (o x)⟩ l _ C)))))))
   ·have b:some _=lK T f _ _ _:=b
    rw[a8 (λ D=>C (dR.mpr D))] at b
    exact V _ _ _ (F _ b.symm ⟨J [_,_,_] 5703857116289 L cX (hq _ _),ok.O,ok.ao,o⟩ (pY l) _ t)
  case more r k a left=>
   refine bc H λ b3 cX=>?_
   have a3:lK T f (.more r k a _::s) _ _=if gG T f k a then some ⟨a+1,r,c.O,c.ao,if left=1 then s else .more r k _ _::s⟩ else lK T f s _ _:=rfl
   rw[a3] at b
   refine cO rfl (cO rfl (iK (ZZ X Y I b3 cX S (λ E q ag=>?_) λ E=>?_)))
   ·rw[aU E] at b
    refine dj (cF (V _ _ _ (F _ b.symm ⟨B0 E,ok.O,ok.ao,?_⟩ ?_ _ ag)))
    ·split
     ·exact o
     ·exact λ x B=>(ew.mp B).elim (λ D=>rwl D (⟨b3,B0 E⟩)) (o x)
    ·split
     ·exact pY l
     ·exact l
   ·rw[a8 E] at b
    exact dj (br (w _ _ _ (by rw[i];exact eo _) (cu _ _ ⟨rfl,rfl,pY l,I,⟨ok.a,ok.O,ok.ao,o⟩,b⟩)).1)
  case i7 m p=>
   refine cO rfl (cO rfl (cO rfl (U _ λ v q ag=>(w s.length _ _ (by rw[i];exact eo _) (cu _ _ ⟨rfl,rfl,pY l,ag,⟨ok.a,(mH _ _ _).1.trans ok.O,ok.ao,o⟩,b⟩)).1)))
  case dF k v=>
   refine cO rfl (cO rfl (cO rfl (U _ λ z q ag=>(w s.length _ _ (by rw[i];exact eo _) (cu _ _ ⟨rfl,rfl,pY l,ag,⟨ok.a,ok.O,(mH _ _ _).2.trans ok.ao,o⟩,b⟩)).1)))
end
end
section
theorem W9(R:dp)(K:Loc->U->Prop)(e:U)(v:E)(a b c o d f g h:Option E):d6 44 [] 2 R v (oK a b c o d f g h) K e=K (oK a b c o d f g (some v)) e:=by kernel_rfl
noncomputable def xP:List (List Nat):=[[115,105,103,110],[97,110,121],[115,101,116],[114,117,110],[97,116],[98,97,99,107],[111,112,101,110],[99,108,111,115,101],[106,117,109,112],[115,112,108,105,116],[122,101,114,111],[108,111,111,112],[97,103,97,105,110],[109,97,114,107],[99,117,116],[114,101,102,117,115,101],[112,108,97,99,101],[114,101,116,117,114,110],[98,101,104,105,110,100]]
noncomputable def xQ:List E:=[.fn 20,.fn 20,.fn 20,.fn 22,.fn 24,.fn 25,.fn 26,.fn 27,.fn 28,.fn 29,.fn 30,.fn 31,.fn 32,.fn 33,.fn 34,.fn 36,.fn 37,.fn 38,.fn 39]
noncomputable def vi:List Str:=[kl,g6,h4,oj]
set_option tactic.hygienic true in
theorem Kj(f:Bool)(r:ct){X:Prop}(q:∀t l,r.v f=.tup (.str t::l)->(t==[101,110,100])=qq r->(qq r=false->hV xP xQ t=some (.fn (Hn r)))->X):X:=by
 rcases r with _|_
 case test k=>
  revert q;refine m' ?_ ?_ ?_ ?_ ?_ (λ z=>?_) k<;>intro q<;>exact q _ _ rfl rfl λ z=>rfl
 case fin=>exact q _ _ rfl rfl λ h=>cy h.symm
 all_goals exact q _ _ rfl rfl λ z=>rfl
section
variable{aI e:U}{y ba bM nj cc G N:Nat}{T:List Nat}{f:Bool}{A:bl}{rows:List ct}
set_option tactic.hygienic true in
theorem abM(a:T.length<=4)(d:fU T){r:ct}(V:mR G r):jD aI y ba T f cc G N r:=by
 rcases r with _|_
 case test k=>exact abn a d V
 case run k bD a4 lazy=>exact abl a d V.1 V.2.2
 case plc w=>exact abi a d V
 case back i=>exact aa' a d V.1 V.2
 case opn k=>exact abg
 case close i k=>exact abb V.1 V.2
 case jump s=>exact abd
 case split s q=>exact abm
 case zero c s=>exact abo
 case loop c s bD a4 lazy m o=>exact abe
 case again c s r=>exact aa_
 case mark k=>exact abf
 case cut k=>exact abc
 case refuse k=>exact abj
 case place k=>exact abh
 case ret k=>exact abk a
 case behind w=>exact aba
 case fin=>intro n A e g b5 bU j b p Y h ok t u v l q;cases l
structure pN(e:U)(ba bM:Nat)(rows:List ct)(G N:Nat)(f:Bool):Prop where
 zY:∃v,e.get ba=some (.inst 49 vi [.ref bM,.int G,.int N,v])
 JX:e.get bM=some (.list (rows.map (ct.v f)))
 C:ba<e.next
 I:bM<e.next
theorem pN.fr{S:Nat->Prop}{M:U}(h:pN e ba bM rows G N f)(fr:Fr S e M)(cC:¬S ba)(dh:¬S bM):pN M ba bM rows G N f:=
 ⟨a7 h.zY λ v d=>⟨v,fr.get d h.C cC⟩,fr.get h.JX h.I dh,d7 h.C fr.next,d7 h.I fr.next⟩
theorem D6{cg:Type}(v:cg):∀n,jX [v] n=List.replicate n v
 |0=>rfl
 |n+1=>by
  show[v]++jX _ n=_
  rw[D6 v n]
  rfl
theorem Jx{e:U}{k:bl}{r v:E}{n:Nat}(h:dw e r [v])(Y:n<=1000001)(q:k (.ref e.next) (e.alloc (.list (List.replicate n v)))):bu .Mult r (.int n) k e:=by
 have C:=h.1
 have d:mY .Mult r (.int n)=none:=by clear h;rcases r with _|_<;>first|rfl|cases C
 unfold bu
 rw[d]
 rw[C]
 rw[<-D6] at q
 exact⟨by show 1*n<=8000000;lia,js (ah (by assumption) (ae rfl)),q⟩
noncomputable def lp(ba:Nat)(T:List Nat)(cc:Int)(da dY a b c:E):dk:=.inst 17 jb [.ref ba,.str T,.int 0,.int 0,.int 1000000,.int cc,da,dY,a,b,c]
inductive Fw(nj start:Nat)(aI:U)(y ba:Nat)(T:List Nat)(f:Bool)(G N:Nat)(rows:List ct)(r:hI)(c_:Nat)(bh:Nat)(ak:Loc)(M:U):Prop
 |of {j:gf} {st g b5 bU:Nat} {b3 cX:Option E} (d:ak=q2 (some (.ref y)) (some (.ref nj)) (some (.int start)) b3 cX) (h:cN aI M y ba g b5 bU T f st j) (ok:j6 G N T.length j) (af:eJ T f rows bh j r) (b8:st+bh<=c_) (aq:j.aF.length<=2*st):Fw nj start aI y ba T f G N rows r c_ bh ak M
set_option tactic.hygienic true in
theorem Zt(L:T.length<=4)(O:fU T)(P:N<=1000000)(Q:G<=1000000)(Z:∀r∈rows,mR G r)(hY:rows.length<=1000000000){n start c g b5 bU:Nat}{j:gf}{r:hI}(kD:pN aI ba bM rows G N f)(aD:aI.get nj=some (.dict xP xQ))(m5:nj<aI.next)(cC:ba≠y)(dh:bM≠y)(fL:nj≠y)
  (h:cN aI e y ba g b5 bU T f cc j) (ok:j6 G N T.length j) (m:j.aF.length<=2*cc) (a:eJ T f rows c j r) (aG:cc+c<=1000000)
  (tr:r=none->∀M (st:Nat) j g b5 bU,cN aI M y ba g b5 bU T f st j->st<=cc+c->A (.bool false) M)
  (dA:∀w,r=some w->∀M (st:Nat) g da dY e4 ff,M.get y=some (lp ba T st da dY (.ref g) e4 ff)->g<M.next->M.get g=some (.list (.tup [.int start,.int w.1]::w.2.map hA))->Fr (·=y) aI M->A (.bool true) M):
  kn (hE 43 [] 5 (call (n+9))) (bp 43 [(5,0)] 0 (call (n+9))) (q2 (some (.ref y)) (some (.ref nj)) (some (.int start)) none none) (fc (bp 43 [] 6 (call (n+9))) (eX A)) e:=by
 refine mb (Fw nj _ _ y ba T f G N _ r _) (λ bh ak av d3 aP R z S=>?_) (.of rfl h ok a (bw _) m)
 cases aP with|@of j st g b5 bU b3 cX d h ok a U m=>
 subst d
 rcases bh with _|_
 case zero=>exact a.elim
 case succ bh=>
  have s:=ah (ah (e7 (h9 (de bh)) st) U) aG
  have u:=vY st bh▸U
  refine aH (adi ..) (aH (Un ..) (h.KO (iC (h.ab8 rfl λ aS I=>I.KO (I.Z0 (wy (jF.mpr (hT.mpr s)) (br (I.aa3 ?_))))))))
  have o:=kD.fr I.fr cC dh
  refine a7 o.zY λ v wN=>gU wN (v:=.ref bM) (by kernel_rfl) (I.xq ?_)
  have n4:dw _ _ _:=⟨by rw[iV,o.JX];rfl,λ i d=>by(injection d with a0;subst a0);exact o.I⟩
  have at_:=λ{row:ct}(V:rows[j.row]?=some _){K:bl}(q:K _ _)=>n4.item (ah (ka (ix.mp V).1) hY) (x:=row.v f) (by rw[j',V];rfl) q
  refine Wi a (λ V cx=>?_) λ row b bt V XT B cZ k=>?_
  ·refine at_ V (Kj f _ λ t l p D E=>bx (by rw[p];rfl) (hu ?_))
   rw[D]
   exact cF (I.at_ (I.Y8 (uM (dj (cF (I.at_ (cb (cn (n:=2) (ae rfl)) rfl (I.nY (tw I.jP (by decide) (jH _) rfl (S _ _ _ (dA _ cx _ _ g _ _ _ _ ((ef I.iE.symm).trans I.run) I.C (dI ..) (I.fr.j1 I.aX))))))))))))
  ·refine at_ V (Kj f row λ t l p D E=>?_)
   have F:n8 aS (row.v f) (.int 0)=some (.str t):=by rw[p];rfl
   have W:=Bool.eq_false_iff.mpr λ d=>XT (zq d)
   refine bx F (hu ?_)
   rw[D.trans W]
   refine br (bx F (rF (I.fr.get aD m5 fL) (E W) ?_))
   have X:=Z _ (j_ V)
   refine bc (acJ X ok B) λ Y sX=>?_
   have H:=ah sX (v3 m 2)
   refine abM L O X _ _ _ g b5 bU j b bt (ah (ae rfl) (gC 9 n)) I ok (ah m (ah (ui 2 (pY s)) (ae rfl))) P Q B λ c9 bN J_ J2 ag=>?_
   clear I B p E F at_ o
   refine d_ (dj ?_)
   rcases b with _|_
   case true=>exact(R bh _ _ (eo bh) (.of rfl ag Y (cZ rfl) u H)).1
   case false=>
    have a:=k rfl
    unfold ji at a
    refine gE (UJ L O Q P ag Y (ah H (ah (ui 2 s) (ae rfl))) (λ c8 k aar zf f6 J=>dj ?_) λ k f6 c8 J=>dj ?_)
    ·rw[k] at a
     exact(R bh _ _ (eo bh) (.of rfl J aar a u (ah zf H))).1
    ·have a:=k▸a
     exact S _ _ _ (tr a _ _ _ _ _ _ J (ah (dD ..) u))
theorem ZG(bo:T.length<=4)(ec:fU T)(Q:N<=1000000)(R:G<=1000000)(qm:∀r∈rows,mR G r)(hY:rows.length<=1000000000){n start c:Nat}{r:hI}{da dY o i q:E}(K:pN e ba bM rows G N f)(aD:e.get nj=some (.dict xP xQ))(m5:nj<e.next)(cC:ba≠y)(dh:bM≠y)(fL:nj≠y)
  (bC:e.get y=some (lp ba T cc da dY o i q)) (dE:y<e.next) (aN:start<=T.length) (af:eJ T f rows c ⟨start,0,List.replicate G none,List.replicate N (-1),[]⟩ r) (aG:cc+c<=1000000)
  (tr:r=none->∀M (st:Nat) da dY o i q,M.get y=some (lp ba T st da dY o i q)->Fr (·=y) e M->st<=cc+c->A (.bool false) M)
  (dA:∀w,r=some w->∀M (st:Nat) g da dY i q,M.get y=some (lp ba T st da dY (.ref g) i q)->g<M.next->M.get g=some (.list (.tup [.int start,.int w.1]::w.2.map hA))->Fr (·=y) e M->A (.bool true) M):
  call (n+10) 43 [.ref y,.ref nj,.int start] A e:=by
 have u:∀(e:U)(p:dk),Fr (·=y) e (e.upd y p):=λ e p=>.upd _ _ _ rfl
 have a:∀(e:U)(p:dk),Fr (·=y) e (e.alloc p):=λ e p=>.alloc _ _ _
 refine aH (aey ..) (e9 bC (eG:=jb) (c2:=[.ref ba,.str T,.int 0,.int 0,.int 1000000,.int cc,.int start,dY,o,i,q]) (by kernel_rfl) (by decide) (by kernel_rfl) (e9 (dI ..) (eG:=jb) (c2:=[.ref ba,.str T,.int 0,.int 0,.int 1000000,.int cc,.int start,.int 0,o,i,q]) (by kernel_rfl) (by decide) (by kernel_rfl) (e2 (ae rfl) ?_)))
 generalize S:U.upd _ y _=k
 have t:Fr (·=y) e k:=by rw[<-S];exact(u _ _).trans (u _ _)
 have L:=d7 dE t.next
 refine e9 ((iA (e' L)).trans (by rw[<-S];exact dI ..)) (eG:=jb) (c2:=[.ref ba,.str T,.int 0,.int 0,.int 1000000,.int cc,.int start,.int 0,o,i,.ref k.next]) (by kernel_rfl) (by decide) (by kernel_rfl) (e2 (ae rfl) ?_)
 generalize V:U.upd _ y _=b
 have x:Fr (·=y) (k.alloc (.list [])) b:=by rw[<-V];exact u _ _
 have W:b.get y=some (lp ba T cc (.int start) (.int 0) o i (.ref k.next)):=by rw[<-V];exact dI ..
 have X:=d7 (eo _) x.next
 have D:=Nat.lt_trans L X
 refine a7 (K.fr (((t.trans (a _ _)).trans x).trans (a _ _)) cC dh).zY λ ae_ O=>gU ((iA (e' D)).trans W) (by kernel_rfl) (gU O (v:=.int G) (by kernel_rfl) (df rfl (Jx .new (h9 R) ?_)))
 generalize F:U.alloc (U.alloc b _) _=s
 have Y:Fr (·=y) b s:=by rw[<-F];exact(a _ _).trans (a _ _)
 have hW:(U.alloc b (.list [E.none])).next=b.next+1:=rfl
 have Z:b.next+1<s.next:=by rw[<-F];exact eo _
 have D2:s.get y=some (lp ba T cc (.int start) (.int 0) o i (.ref k.next)):=by
  rw[<-F]
  exact(iA (e' (j9 D))).trans ((iA (e' D)).trans W)
 refine e9 D2 (eG:=jb) (c2:=[.ref ba,.str T,.int 0,.int 0,.int 1000000,.int cc,.int start,.int 0,.ref (b.next+1),i,.ref k.next]) (by kernel_rfl) (by decide) (by kernel_rfl) (e2 (ae rfl) ?_)
 generalize Ip:U.upd s y _=l
 have B:Fr (·=y) s l:=by rw[<-Ip];exact u _ _
 have uI:l.get y=some (lp ba T cc (.int start) (.int 0) (.ref (b.next+1)) i (.ref k.next)):=by rw[<-Ip];exact dI ..
 have P:=d7 (Nat.lt_trans (j9 D) Z) B.next
 refine a7 (K.fr (((((t.trans (a _ _)).trans x).trans Y).trans B).trans (a _ _)) cC dh).zY λ ae_ O=>gU ((iA (e' P)).trans uI) (by kernel_rfl) (gU O (by kernel_rfl) (Jx .new (oR Q) ?_))
 generalize H:U.alloc (U.alloc l _) _=m
 have BO:(U.alloc l (.list [E.int (-1)])).next=l.next+1:=rfl
 have He:Fr (·=y) l m:=by rw[<-H];exact(a _ _).trans (a _ _)
 have tb:l.next+1<m.next:=by rw[<-H];exact eo _
 have aa7:m.get y=some (lp ba T cc (.int start) (.int 0) (.ref (b.next+1)) i (.ref k.next)):=by
  rw[<-H]
  exact(iA (e' (j9 P))).trans ((iA (e' P)).trans uI)
 refine e9 aa7 (eG:=jb) (c2:=[.ref ba,.str T,.int 0,.int 0,.int 1000000,.int cc,.int start,.int 0,.ref (b.next+1),.ref (l.next+1),.ref k.next]) (by kernel_rfl) (by decide) (by kernel_rfl) ?_
 have Hc:=(Y.trans B).trans (He.trans (u m (lp ba T cc (.int start) (.int 0) (.ref (b.next+1)) (.ref (l.next+1)) (.ref k.next))))
 have J:=t.next
 have agC:=B.next
 have h:cN e (m.upd y (lp ba T _ (.int start) (.int 0) _ _ _)) y ba _ _ _ T f _ ⟨start,0,List.replicate G none,List.replicate N _,[]⟩:={
  run:=dI ..
  jP:=by
   have:=(B.trans (He.trans (u m (lp ba T cc (.int start) (.int 0) (.ref (b.next+1)) (.ref (l.next+1)) (.ref k.next))))).get (by rw[<-F];exact fR ..:s.get (b.next+1)=some (.list (List.replicate (G+1) E.none))) Z (by lia)
   rw[this,List.map_replicate];rfl
  l4:=by
   have:=(u m (lp ba T cc (.int start) (.int 0) (.ref (b.next+1)) (.ref (l.next+1)) (.ref k.next))).get (by rw[<-H];exact fR ..:m.get (l.next+1)=some (.list (List.replicate N (E.int (-1))))) tb (by lia)
   rw[this,List.map_replicate]
  pr:=Hc.get (x.get (fR ..) (eo _) (hU L)) X (by lia)
  cC:=by lia
  dh:=by lia
  fL:=by lia
  iE:=by lia
  kM:=by lia
  l0:=by lia
  aX:=by lia
  bS:=by lia
  dv:=J
  dE:=by show y<m.next;lia
  C:=by show b.next+1<m.next;lia
  I:=tb
  ag:=by show k.next<m.next;lia
  fr:=((t.trans (a _ _)).trans x).trans Hc}
 exact Zt bo ec Q R qm hY K aD m5 cC dh fL h ⟨aN,sx,sx,λ d bE=>nomatch bE⟩ (de _) af aG (λ d M st j g b5 bU aY=>tr d _ st _ _ _ _ _ aY.run aY.fr) dA
end
end
section
theorem abF{a b:Int}(h:dU a=true)(I:dU b=true):r3 .range [.int a,.int b]=some (.rng a b 1):=aU (by rw[h,I];rfl)
theorem abp{e:U}{k:bl}{R:dp}(n:Nat)(h:n<=1000000000)(q:k (.rng 0 n 1) e):cJ cp R (.typ .range) [.int 0,.int n] k e:=qS (abF rfl (js h)) q
theorem acT{e:U}{k:bl}{R:dp}{j:List Nat}{D:Int}(hz:D=j.length)(a:j.length<=c7)(q:k (.int D) e):cJ cp R (.bi .len) [.str j] k e:=by
 subst hz
 exact j0 a q
theorem v'{e:U}{k:bl}{R:dp}{B:List E}(c:Nat){m:Nat}(a:Aj c=some m)(q:R m (.ref e.next::B) (λ r M=>match r with|.none=>k (.ref e.next) M|_=>False) (e.alloc (.inst c [] []))):cJ cp R (.cls c) B k e:=by
 show ll (Aj c) _
 exact qE a q
theorem BG{e:U}{k:bl}{az:List (List Nat)}{B:List E}(h:az.length=0\/az.length=19)(q:k (.ref e.next) (e.alloc (.dict az B))):yT az B k e:=⟨h,q⟩
theorem Fr.drop{e c M:U}{y:Nat}(a:ei e c)(b:Fr (·=y) c M)(h:e.next<=y):ei e M:=
 ⟨ah a.next b.next,λ i C z=>(b.same i (d7 C a.next) (e' (d7 C h))).trans (a.same i C id)⟩
noncomputable def sumTo(c:Nat->Nat):Nat->Nat
 |0=>0
 |i+1=>sumTo c i+c i
theorem ac5(c:Nat->Nat){i n:Nat}(h:i<=n):sumTo c i<=sumTo c n:=by
 induction n with
 |zero=>exact rwr (Nat.le_zero.mp h) (bw _)
 |succ n a=>
  rcases Nat.lt_or_eq_of_le h with D|rfl
  ·exact ah (a (nN D)) (dD ..)
  ·exact bw _
section
variable{e:U}{ba bM G N:Nat}{T:List Nat}{f:Bool}{A:bl}{rows:List ct}
theorem abP{n:Nat}{k:bl}(r:ba<e.next)(q:∀b l m o,ei e b->e.next<b.next->b.get e.next=some (lp ba T (0:Nat) (.int 0) (.int 0) l m o)->k (.ref e.next) b):cJ cp (call (n+1)) (.cls 17) [.ref ba,.str T,.int 0,.int 0,.int 1000000] k e:=by
 refine v' 17 (by kernel_rfl) (aH (adT ..) ?_)
 have u:∀(b:U)(p:dk),ei e b->ei e (b.upd _ p):=λ b p d=>d.j1 (bw _)
 have a:∀(b:U)(p:dk),ei e b->ei e (b.alloc p):=λ b p d=>d.jI
 refine e9 (fR ..) (eG:=jb.take 1) (c2:=[.ref ba]) (by kernel_rfl) (ae rfl) (by kernel_rfl) (e9 (dI ..) (eG:=jb.take 2) (c2:=[.ref ba,.str T]) (by kernel_rfl) (ae rfl) (by kernel_rfl) (e9 (dI ..) (eG:=jb.take 3) (c2:=[.ref ba,.str T,.int 0]) (by kernel_rfl) (ae rfl) (by kernel_rfl) (e9 (dI ..) (eG:=jb.take 4) (c2:=[.ref ba,.str T,.int 0,.int 0]) (by kernel_rfl) (ae rfl) (by kernel_rfl) (e9 (dI ..) (eG:=jb.take 5) (c2:=[.ref ba,.str T,.int 0,.int 0,.int 1000000]) (by kernel_rfl) (ae rfl) (by kernel_rfl) (e9 (dI ..) (eG:=jb.take 6) (c2:=[.ref ba,.str T,.int 0,.int 0,.int 1000000,.int 0]) (by kernel_rfl) (ae rfl) (by kernel_rfl) (e9 (dI ..) (eG:=jb.take 7) (c2:=[.ref ba,.str T,.int 0,.int 0,.int 1000000,.int 0,.int 0]) (by kernel_rfl) (ae rfl) (by kernel_rfl) (e9 (dI ..) (eG:=jb.take 8) (c2:=[.ref ba,.str T,.int 0,.int 0,.int 1000000,.int (0:Nat),.int 0,.int 0]) (by kernel_rfl) (ae rfl) (by kernel_rfl) ?_)))))))
 generalize h:U.upd _ _ _=c
 have cC:e.next<c.next:=by rw[<-h];exact eo _
 refine e2 (by decide) (e9 ((iA (e' cC)).trans (by rw[<-h];exact dI ..:c.get e.next=some (.inst 17 (jb.take 8) [.ref ba,.str T,.int 0,.int 0,.int 1000000,.int (0:Nat),.int 0,.int 0]))) (eG:=jb.take 9) (c2:=[.ref ba,.str T,.int 0,.int 0,.int 1000000,.int (0:Nat),.int 0,.int 0,.ref c.next]) (by kernel_rfl) (ae rfl) (by kernel_rfl) (e2 (by decide) ?_))
 generalize i:U.upd _ _ _=f
 have dh:e.next<f.next:=by rw[<-i];exact j9 cC
 refine e9 ((iA (e' dh)).trans (by rw[<-i];exact dI ..:f.get e.next=some (.inst 17 (jb.take 9) [.ref ba,.str T,.int 0,.int 0,.int 1000000,.int (0:Nat),.int 0,.int 0,.ref c.next]))) (eG:=jb.take 10) (c2:=[.ref ba,.str T,.int 0,.int 0,.int 1000000,.int (0:Nat),.int 0,.int 0,.ref c.next,.ref f.next]) (by kernel_rfl) (ae rfl) (by kernel_rfl) (e2 (by decide) ?_)
 generalize j:U.upd _ _ _=g
 have fL:e.next<g.next:=by rw[<-j];exact j9 dh
 exact e9 ((iA (e' fL)).trans (by rw[<-j];exact dI ..:g.get e.next=some (.inst 17 (jb.take 10) [.ref ba,.str T,.int 0,.int 0,.int 1000000,.int (0:Nat),.int 0,.int 0,.ref c.next,.ref f.next]))) (c2:=[.ref ba,.str T,.int 0,.int 0,.int _,.int _,.int 0,.int 0,.ref c.next,.ref f.next,.ref g.next]) (by kernel_rfl) (ae rfl) (by kernel_rfl) (q _ _ _ _ (u _ _ (a _ _ (by rw[<-j];exact u _ _ (a _ _ (by rw[<-i];exact u _ _ (a _ _ (by rw[<-h];exact u _ _ (u _ _ (u _ _ (u _ _ (u _ _ (u _ _ (u _ _ (u _ _ (.alloc _ _ _)))))))):ei e c)):ei e f)):ei e g))) (j9 fL) (dI ..))
noncomputable def rI:List Str:=[Af,om,pC,e3,(Str.ofString "items")]
theorem abX(q:T.length<=4)(ec:fU T)(bH:N<=1000000)(bO:G<=1000000)(qm:∀r∈rows,mR G r)(hY:rows.length<=1000000000){n K:Nat}(t:pN e ba bM rows G N f)(CI:e.get K=some (.inst 46 rI [.int 64,.int 50,.int 1000000,.int 100000,.int 10000]))
  {r:Nat->hI} (c:Nat->Nat) (af:∀a,a<=T.length->eJ T f rows (c a) ⟨a,0,List.replicate G none,List.replicate N (-1),[]⟩ (r a)) (aG:sumTo c (T.length+1)<=1000000)
  (tr:(∀a,a<=T.length->r a=none)->∀M,ei e M->A .none M)
  (dA:∀a w,a<=T.length->(∀b,b<a->r b=none)->r a=some w->∀M g,g<M.next->M.get g=some (.list (.tup [.int a,.int w.1]::w.2.map hA))->ei e M->A (.ref g) M)
  {s k:U} (O:e.next<s.next) (u:ei e k) (XY:k.get s.next=some (.dict xP xQ)) (x:s.next<k.next) {y B F:E} (dH:k.get e.next=some (lp ba T (0:Nat) (.int 0) (.int 0) y B F)):
  (cJ cp (call (n+10)) (.bi .len) [.str T] λ yp=>(bu .Add yp (.int 1) λ yq=>(cJ cp (call (n+10)) (.typ .range) [.int 0,yq] λ si=>(forM si (d6 44 [] 2 (call (n+10))) (bp 44 [(2,0)] 0 (call (n+10))) (oK (some (.ref ba)) (some (.str T)) (some (.int 0)) (some (.ref K)) (some (.int 0)) (some (.ref e.next)) (some (.ref s.next)) none) (fc (bp 44 [] 3 (call (n+10))) (eX A)))))) k:=by
 refine a7 (⟨_,rfl⟩:∃c_,c_=T.length+1) λ c_ l=>a7 (⟨_,rfl⟩:∃D:Int,D=T.length) λ D hz=>acT hz (p6 q) (df (by rw[hz,l];rfl) (abp c_ (J [_,_] 0xee6b2800c328022200a120881 L q (aL l)) ?_))
 have P:=e' t.C
 have Q:=e' t.I
 have R:=hU O
 refine k8 (zu (J [_,_] 0xee6b2800c328022200a120881 L q (aL l))) (λ i ak M=>(∃p,ak=oK _ _ _ _ _ _ _ p)/\(∃(st:Nat)(da dY y B F:E),M.get _=some (lp ba T st da dY y B F)/\st<=sumTo c i)/\Fr (·=e.next) _ M/\∀b,b<i->r b=none)
  ⟨⟨none,rfl⟩,(IE 0 _ _ _ _ _ ⟨dH,bw _⟩),.refl _ _,λ b h=>((bB b) h).elim⟩ (λ z z z z=>trivial) (λ i v ak av d3 S m cq z V=>?_) λ ak av m=>?_
 ·refine f5 m λ W X d o=>?_;clear m;refine a7 W λ p kq=>?_;clear W;subst kq;refine afx X λ st iM mI EL agT agU ar b8=>?_;clear X
  refine bc (z3 S) λ j eV=>?_;clear S;subst eV
  have j:i<=T.length:=J [_,_,_] 0x14c0204460042228081 L (aL l) j
  have Z:st+c i<=sumTo c (i+1):=v3 b8 _
  refine aH (W9 ..) (aH (Uo ..) (ZG q ec bH bO qm hY ((t.fr u id id).fr d P Q) (d.get XY x R) (d7 x d.next) P Q R ar (d7 (Nat.lt_trans O x) d.next) j (af i j) (ah Z (ah (ac5 c (h9 j)) aG)) (λ Y aS KG tI Le aek Lf Lg I H gJ=>?_) λ w aD aS KG g tI Le Lf Lg I CA zd H=>?_))
  ·refine dj (br (cq _ _ ⟨⟨_,rfl⟩,(IE KG tI Le aek Lf Lg ⟨I,ah gJ Z⟩),d.trans H,λ b qg=>?_⟩).1)
   rcases Nat.lt_or_eq_of_le (nN qg) with D|rfl
   ·exact o b D
   ·exact Y
  ·exact dj (cF (gU I (by kernel_rfl) (V _ _ _ (dA i w j o aD _ g CA zd (Fr.drop u (d.trans H) (bw _))))))
 ·refine f5 m λ fh z d o=>?_;clear m;refine a7 fh λ p mL=>?_;clear fh;subst mL
  rw[xo,l] at o
  exact f3 (aH (Up ..) (gm (tr (λ a au=>o a (kb au)) _ (Fr.drop u d (bw _)))))
theorem abY(k:T.length<=4)(l:fU T)(m:N<=1000000)(o:G<=1000000)(p:∀r∈rows,mR G r)(q:rows.length<=1000000000){n d:Nat}(h:pN e ba bM rows G N f)(i:e.get d=some (.inst 46 rI [.int 64,.int 50,.int 1000000,.int 100000,.int 10000]))
  {r:Nat->hI} (c:Nat->Nat) (s:∀a,a<=T.length->eJ T f rows (c a) ⟨a,0,List.replicate G none,List.replicate N (-1),[]⟩ (r a)) (t:sumTo c (T.length+1)<=1000000)
  (u:(∀a,a<=T.length->r a=none)->∀M,ei e M->A .none M)
  (v:∀a w,a<=T.length->(∀b,b<a->r b=none)->r a=some w->∀M g,g<M.next->M.get g=some (.list (.tup [.int a,.int w.1]::w.2.map hA))->ei e M->A (.ref g) M):
  call (n+11) 44 [.ref ba,.str T,.int 0,.ref d,.int 0] A e:=by
 exact aH (aez ..) (gU i (by kernel_rfl) (abP h.C λ y D E F x j cV=>aH (aev ..) (BG (az:=xP) (B:=xQ) (.inr (by kernel_rfl)) (abX k l m o p q h i c s t u v j x.jI (fR ..) (eo _) ((iA (e' j)).trans cV)))))
end
end
section
noncomputable def gy(l:List E):E:=.tup [.str [115,101,113],.lst l]
noncomputable def zH:Nat->List Nat
 |0=>[103,114,101,101,100,121]
 |1=>[108,97,122,121]
 |_=>[111,119,110]
noncomputable def kJ:bq->Bool
 |.one _=>true
 |.group _ _ _=>true
 |_=>false
noncomputable def sE(f:Bool)(n:Nat):E:=.tup [.str oa,.lst [.int n],.bool f]
section
variable(f:Bool)
mutual
noncomputable def e1:bq->E
 |.one k=>gX f k
 |.place w=>.tup [.str [97,116],.str (J3 w)]
 |.rounds x c m=>.tup [.str qz,if kJ x then e1 x else gy [e1 x],.int (dg c),.int (dW c),.str (zH m)]
 |.group n r _=>.tup [.str jU,.int n,e1 r]
 |.again n a=>if a=0/\n<10 then gy [sE f n] else sE f n
 |.d4 ab aT=>.tup [.str [97,108,116],.lst [e1 ab,e1 aT]]
 |.atomic r=>.tup [.str pg,e1 r]
 |.look x w cW=>.tup [.str qB,if d5 x then e1 x else gy [e1 x],.bool w.isSome,.bool cW,.int (w.getD 0:Nat)]
 |.nil=>gy []
 |.cons x r=>gy (e1 x::nQ r)
noncomputable def nQ:bq->List E
 |.cons x r=>e1 x::nQ r
 |_=>[]
end
end
theorem AV{f:Bool}{n a:Nat}:e1 f (.again n a)=if a=0/\n<10 then gy [sE f n] else sE f n:=rfl
noncomputable def cZ:bq->Nat
 |.rounds x _ _=>cZ x+12
 |.group _ r _=>cZ r+4
 |.d4 ab aT=>max (cZ ab) (cZ aT)+4
 |.atomic r=>cZ r+4
 |.look x _ _=>cZ x+6
 |.cons x r=>max (cZ x+1) (cZ r)
 |_=>5
noncomputable def cR:bq->Nat
 |.rounds x _ _=>30+cR x
 |.group _ r _=>30+cR r
 |.d4 ab aT=>30+cR ab+cR aT
 |.atomic r=>30+cR r
 |.look x _ _=>30+cR x
 |.cons x r=>cR x+cR r
 |.nil=>0
 |_=>20
theorem jq:∀(x:bq)(s k:Nat),(code x s k).length<=cR x
 |.one _,_,_=>(by decide:1<=20)
 |.place _,_,_=>(by decide:1<=20)
 |.again _ _,_,_=>(by decide:1<=20)
 |.nil,_,_=>bw 0
 |.cons x r,s,k=>by
  show(code x s k++code r _ _).length<=cR x+cR r
  rw[bR]
  exact fV (jq x _ _) (jq r _ _)
 |.group n r _,s,k=>by
  show(ct.opn k::(code r _ _++[ct.close n k])).length<=30+cR r
  rw[wZ]
  have:=jq r (s+1) (k+1)
  exact J [_,_] 0x2f8401088001481 L this
 |.atomic r,s,k=>by
  show(ct.mark k::(code r _ _++[ct.cut k])).length<=30+cR r
  rw[wZ]
  have:=jq r (s+1) (k+1)
  exact J [_,_] 0x2f8401088001481 L this
 |.d4 ab aT,s,k=>by
  show(ct.split _ _::(code ab _ k++ct.jump _::code aT _ _)).length<=30+cR ab+cR aT
  rw[fW,bR,fW]
  have:=jq ab (s+1) k
  have:=jq aT (s+2+(code ab (s+1) k).length) (k+d1 ab)
  lia
 |.rounds x c m,s,k=>by
  have h:∀lazy s k,(l3 x (code x) c lazy s k).length<=5+cR x:=λ lazy s k=>by
   have:∀lazy,(m8 _ (dg c) (dW c) lazy s k).length<=5+cR x:=λ lazy=>by
    have:=jq x (s+3) (k+2)
    unfold m8
    simp only[fW,bR,iP]
    exact J [_,_] 0x294400882208822008040000001481 L this
   rcases x with _|_<;>first|exact this _|(exact J [_] 4464837696 L)
  show(if m=2 then oT _ s k else l3 x _ c _ s k).length<=30+cR x
  split
  ·show(ct.mark k::(l3 x _ c _ _ _++[ct.cut k])).length<=30+cR x
   rw[wZ]
   have:=h false (s+1) (k+1)
   exact J [_,_] 0x17c200844000a510081 L this
  ·have:=h (m==1) s k
   exact J [_,_] 0x2f840200a510081 L this
 |.look x p cW,s,k=>by
  have a:(eD p).length<=1:=by rcases p with _|_;exact de 1;exact bw 1
  show(if cW=true then ct.place k::.mark _::.split _ _::(eD p++(code x _ _++[.refuse _])) else ct.place k::.mark _::(eD p++(code x _ _++[.cut _,.ret k]))).length<=30+cR x
  split<;>simp only[fW,bR,iP]<;>(first|exact J [_,_,_] 0xde1002208822088020140400000018a108881 L a (jq x (s+3+(eD p).length) (k+2))|exact J [_,_,_] 0xde100220882208802000a020000018a108881 L a (jq x (s+2+(eD p).length) (k+2)))
theorem qJ:∀x:bq,d1 x<=cR x
 |.one _=>de _
 |.place _=>de _
 |.again _ _=>de _
 |.nil=>de _
 |.cons x r=>fV (qJ x) (qJ r)
 |.group _ r _=>fV (by decide) (qJ r)
 |.atomic r=>fV (by decide) (qJ r)
 |.d4 ab aT=>fV (ah (qJ ab) (gC ..)) (qJ aT)
 |.look x _ _=>fV (ae rfl) (qJ x)
 |.rounds x _ m=>by
  have:=qJ x
  show(if m=2 then 1 else 0)+(if m7 x then 0 else 2+d1 x)<=30+cR x
  split<;>split<;>lia
noncomputable def zG:List Str:=[kl,h4]
structure eK(aI e:U)(mk cQ:Nat)(B:List E)(k:Nat):Prop where
 nc:e.get mk=some (.inst 50 zG [.ref cQ,.int k])
 pn:e.get cQ=some (.list B)
 ne:mk≠cQ
 C:mk<e.next
 I:cQ<e.next
 fr:Fr (λ i=>i=mk\/i=cQ) aI e
section
variable{aI e:U}{mk cQ k:Nat}{B:List E}{K:bl}
theorem eK.ext{M:U}(h:eK aI e mk cQ B k)(d:ei e M):eK aI M mk cQ B k:=
 ⟨d.get h.nc h.C id,d.get h.pn h.I id,h.ne,d7 h.C d.next,d7 h.I d.next,h.fr.trans (d.mono λ z z D=>D.elim)⟩
theorem eK.rows(h:eK aI e mk cQ B k)(q:K (.ref cQ) e):a6 (.ref mk) kl K e:=gU h.nc (by kernel_rfl) q
theorem eK.ls(h:eK aI e mk cQ B k):dw e (.ref cQ) B:=⟨by rw[iV,h.pn];rfl,λ i d=>by(injection d with a0;subst a0);exact h.I⟩
theorem eK.J7(h:eK aI e mk cQ B k)(c2:List E):eK aI (e.upd cQ (.list c2)) mk cQ c2 k:=
 ⟨(ef h.ne).trans h.nc,dI ..,h.ne,h.C,h.I,h.fr.trans (.upd _ _ _ (.inr rfl))⟩
theorem eK.aa5(h:eK aI e mk cQ B k)(a:Nat):eK aI (e.upd mk (.inst 50 zG [.ref cQ,.int a])) mk cQ B a:=
 ⟨dI ..,(ef h.ne.symm).trans h.pn,h.ne,h.C,h.I,h.fr.trans (.upd _ _ _ (.inl rfl))⟩
theorem eK.ja(h:eK aI e mk cQ B k){K:fp->U->Prop}(q:K (.fn 1501) e):b0 (.ref mk) iu K e:=rK h.nc (by kernel_rfl) q
theorem eK.vb(h:eK aI e mk cQ B k){K:fp->U->Prop}(q:K (.fn 1502) e):b0 (.ref mk) qQ K e:=rK h.nc (by kernel_rfl) q
theorem zE{R:dp}{m:Nat}{p:E}{B:List E}(q:R m (p::B) K e):bY R (.fn m) p B K e:=q
theorem eK.add{n:Nat}(h:eK aI e mk cQ B k){v:E}(b:B.length<=1000000)(q:∀M,eK aI M mk cQ (B++[v]) k->K (.int B.length) M):bY (call (n+1)) (.fn 1501) (.ref mk) [v] K e:=by
 refine zE (aH (ad5 ..) (h.rows (qw h.pn (p2 h.pn (ah b (ae rfl)) ?_))))
 have a:=h.J7 (B++[v])
 refine a.rows (a.ls.len (by rw[bR];exact ah (h9 b) (ae rfl)) (df ?_ (q _ a)))
 rw[bR]
 exact bA some (bA _ (by show(B.length+1:Int)-1=_;lia))
theorem eK.fresh{n:Nat}(h:eK aI e mk cQ B k)(q:∀M,eK aI M mk cQ B (k+1)->K (.int k) M):bY (call (n+1)) (.fn 1502) (.ref mk) [] K e:=by
 have a:=h.aa5 (k+1)
 exact zE (aH (ad6 ..) (gU h.nc (v:=.int k) (by kernel_rfl) (iC (e9 h.nc (by kernel_rfl) (ae rfl) (by kernel_rfl) (gU a.nc (v:=.int (k+1)) (by kernel_rfl) (df (bA some (bA _ (by lia))) (q _ a)))))))
theorem eK.set(h:eK aI e mk cQ B k){i:Nat}{v:E}{A:U->Prop}(a:i<B.length)(b:B.length<=1000000)(q:∀M,eK aI M mk cQ (B.set i v) k->A M):gM (.ref cQ) (.int i) v A e:=
 tw h.pn (i4 i) a (js (J [_,_] 0xee6b2800c3203d090083284a111001 L a b)) (q _ (h.J7 _))
end
end
section
theorem Hu(R:dp)(K:Loc->U->Prop)(e:U)(v:E)(a b c o d:Option E):d6 51 [(1,1),(0,0)] 0 R v (mN a b c o d) K e=K (mN a b c (some v) d) e:=by kernel_rfl
theorem W'(R:dp)(K:Loc->U->Prop)(e:U)(v:E)(a b c o d f:Option E):d6 52 [] 1 R v (lE a b c o d f) K e=K (lE a b c (some v) d f) e:=by kernel_rfl
theorem Xa(R:dp)(K:Loc->U->Prop)(e:U)(v:E)(a b c o d f:Option E):d6 52 [] 3 R v (lE a b c o d f) K e=K (lE a b c o d (some v)) e:=by kernel_rfl
theorem Hv(R:dp)(K:Loc->U->Prop)(e:U)(da dY h i j:E)(a b c o d f g:Option E):d6 54 [] 0 R (.tup [da,dY,h,i,j]) (sf a b c o d f g) K e=K (sf a b (some da) (some dY) (some h) (some i) (some j)) e:=by kernel_rfl
theorem Xb(R:dp)(K:Loc->U->Prop)(e:U)(da dY j k l:E)(a b c o d f g h i y:Option E):d6 56 [] 0 R (.tup [da,dY,j,k,l]) (ud a b c o d f g h i y) K e=K (ud a b (some da) (some dY) (some j) (some k) (some l) h i y) e:=by kernel_rfl
section
variable{f:Bool}
def gY(f:Bool)(N:Nat)(v:E)(aw:Nat->Nat->List ct)(a j:Nat):Prop:=∀(n:Nat)(aI e:U)(mk cQ k:Nat)(B:List E)(A:bl),N<=n->eK aI e mk cQ B k->B.length+j<=900000->
 (∀M,eK aI M mk cQ (B++(aw B.length k).map (ct.v f)) (k+a)->A .none M)->call n 51 [.ref mk,v] A e
theorem eK.re{aI e:U}{mk cQ k:Nat}{B:List E}(h:eK aI e mk cQ B k):eK e e mk cQ B k:=⟨h.nc,h.pn,h.ne,h.C,h.I,.refl _ _⟩
theorem eK.hD{aI e M:U}{mk cQ k b:Nat}{B c2:List E}(h:eK aI e mk cQ B k)(a:eK e M mk cQ c2 b):eK aI M mk cQ c2 b:=⟨a.nc,a.pn,a.ne,a.C,a.I,h.fr.trans a.fr⟩
theorem gY.mono{N ks:Nat}{v:E}{aw:Nat->Nat->List ct}{a j b:Nat}(h:gY f N v aw a j)(c:N<=ks)(d:j<=b):gY f ks v aw a b:=
 λ n aI e mk cQ k B A Y g i=>h n _ e mk cQ k B A (ah c Y) g (ah (e7 d _) i)
theorem rg{t:List Nat}{l:List E}{j:Nat}(cZ:jJ (.str t) [.str tl,.str [97,110,121],.str ph,.str [97,116],.str oa]=some true)(r:Nat->Nat->ct)(V:∀s k,(r s k).v f=.tup (.str t::l)):gY f 2 (.tup (.str t::l)) (λ s k=>[r s k]) 0 (j+1):=by
 intro n aI e mk cQ k B A Y h a q
 apply i6 Y;intro n
 refine aH (qU ..) (bx rfl (cb (ae rfl) rfl (bg cZ (cF (h.ja (h.add (J [_,_] 0x1e848041901b774041844501001 L a) λ b C=>q _ ?_))))))
 show eK _ _ mk cQ (B++[(r _ k).v f]) k
 rw[V]
 exact C
theorem Ts(i:Nat):gY f 2 (gX f i) (code (.one i)) 0 20:=by
 match i with
 |0=>exact rg rfl _ λ z z=>rfl
 |1=>exact rg rfl _ λ z z=>rfl
 |2=>exact rg rfl _ λ z z=>rfl
 |3=>exact rg rfl _ λ z z=>rfl
 |4=>exact rg rfl _ λ z z=>rfl
 |i+5=>exact rg rfl _ λ z z=>rfl
inductive oC(f:Bool)(N:Nat):bq->Prop
 |nil:oC f N .nil
 |cons {x r:bq}:gY f N (e1 f x) (code x) (d1 x) (cR x)->oC f N r->oC f N (.cons x r)
theorem oC.mono{N ks:Nat}{r:bq}(h:oC f N r)(a:N<=ks):oC f ks r:=by
 induction h with
 |nil=>exact .nil
 |cons C _ b=>exact .cons (C.mono a (bw _)) b
set_option tactic.hygienic true in
theorem FN{N:Nat}{r:bq}(V:oC f N r):gY f (N+1) (gy (nQ f r)) (code r) (d1 r) (cR r):=by
 intro n aI e mk cQ k B A Y h u q
 refine a7 (fw (k:=1) (J [_,_] 0xa1100a111001 L Y)) λ n w=>?_;subst w
 refine aH (qU ..) (bx rfl (cb (ae rfl) rfl (bg (r:=false) rfl (br (bg (r:=true) rfl (cF (bx rfl (k8 rfl (λ i ak M=>(∃p,ak=mN _ _ _ p _)/\∃H c2 a,oC f N H/\nQ f H=(nQ f r).drop i/\eK _ M mk cQ c2 a/\
  c2++(code H c2.length a).map _=B++(code r _ k).map (ct.v f)/\a+d1 H=k+d1 r/\c2.length+cR H<=900000) ⟨⟨none,rfl⟩,r,B,k,V,rfl,h,rfl,rfl,u⟩ (λ z z z z=>trivial) (λ i v ak x G c d y z z=>?_) λ ak x d=>?_))))))))
 ·refine LH d λ m H c2 a b_ b C j l g=>?_;clear d;refine a7 m λ p E=>?_;clear m;subst E
  have o:=pV λ D=>by rw[oP D] at c;exact bF c
  rw[oQ o] at b
  rw[hK o] at c
  rcases b_ with _|_
  case nil=>cases b
  case cons D H hz b_=>
   have ev:v=e1 f D:=by obtain rfl:=ck c;exact(e0 b).1.symm
   clear c;subst ev
   have hsz:cR (.cons D H)=cR D+cR H:=rfl
   refine aH (Hu ..) (aH (F6 ..) (hz n _ _ mk cQ a _ _ (J [_,_] 0x290011140111001 L Y) C (J [_,_,_,_] 0x1b7740419880014e60076ee808329001 L g (aL hsz.symm)) λ K I=>(y _ _ ⟨⟨_,rfl⟩,H,_,_,b_,(e0 b).2,I,?_,?_,?_⟩).1))
   ·rw[<-j,show code (.cons D H) _ a=code D _ a++code H _ _ from rfl,e8,el,bR,cM]
   ·rw[<-l];exact ez ..
   ·have:=jq D c2.length a
    rw[bR,cM]
    exact J [_,_,_,_,_] 0x36ee80833a080000c8094e60076ee808329001 L g (aL hsz.symm) this
 ·refine LH d λ s H c2 a b_ b C j l g=>?_;clear d;refine a7 s λ p F=>?_;clear s;subst F
  rw[List.drop_length] at b
  clear V Y g;rcases b_ with _|_
  case nil=>
   have t:c2++[]=B++(code r _ k).map _:=j
   rw[gS] at t
   subst l
   exact f3 (aH (F7 ..) (f3 (aH (F8 ..) (f3 (aH (F9 ..) (ry (q _ (rwr t C))))))))
  case cons _ _=>cases b
theorem A1{N:Nat}{v:E}{aw:Nat->Nat->List ct}{a j:Nat}(b:gY f N v aw a j):gY f (N+1) (gy [v]) aw a j:=by
 intro n aI e mk cQ k B A Y h c q
 refine a7 (fw (k:=1) (J [_,_] 0xa1100a111001 L Y)) λ n d=>?_;subst d
 exact aH (qU ..) (bx rfl (cb (ae rfl) rfl (bg (r:=false) rfl (br (bg (r:=true) rfl (cF (bx rfl ⟨trivial,aH (Hu ..) (aH (F6 ..) (b n _ e mk cQ k B _ (J [_,_] 0x290011140111001 L Y) h c λ g I=>⟨trivial,f3 (aH (F7 ..) (f3 (aH (F8 ..) (f3 (aH (F9 ..) (ry (q _ I)))))))⟩))⟩)))))))
theorem Tp{N i:Nat}{v:E}{aw:Nat->Nat->List ct}{a j:Nat}(d:∀s k,(aw s k).length<=j)(g:gY f (N+2) v aw a j):gY f (N+3) (.tup [.str jU,.int i,v]) (λ s k=>.opn k::(aw (s+1) (k+1)++[.close i k])) (1+a) (j+5):=by
 intro n aI e mk cQ k B A Y h c q
 refine a7 (fw (k:=3) (J [_,_] 0xa3100a311001 L Y)) λ n l=>?_;subst l
 refine aH (qU ..) (bx rfl (cb (ae rfl) rfl (bg (r:=false) rfl (br (bg (r:=false) rfl (br (bg (r:=false) rfl (br (bg (r:=true) rfl (cF (h.vb (h.fresh λ m C=>C.ja (cb (cn (n:=2) (ae rfl)) rfl (C.add (J [_,_] 0x1e848041901b774041944501001 L c) λ o I=>bx rfl (g _ _ _ mk cQ _ _ _ (J [_,_] 0x4228042200031140311001 L Y) I (by rw[bR];exact J [_,_] 0x36ee8083284440001b774041944501001 L c) λ p ag=>ag.ja (bx rfl (cb (cn (n:=3) (ae rfl)) rfl (ag.add ?_ λ t b=>q _ ?_))))))))))))))))))
 ·have:=d (B++[E.tup [.str [111,112,101,110],.int k]]).length (k+1)
  rw[bR,cM] at*
  rw[bR] at*
  exact J [_,_,_] 0xf424020cc110040200002983b774041944501001 L c this
 ·rw[bR] at b
  rw[show k+1+a=k+(1+a) by exact cB (J [_,_] 0x5088040142220000 L) (J [_,_] 0x5088800142201000 L)] at b
  simp only[jG,e8,el,pX,oO,List.map_nil,ct.v] at b⊢
  exact b
theorem FL{N:Nat}{v:E}{aw:Nat->Nat->List ct}{a j:Nat}(d:∀s k,(aw s k).length<=j)(g:gY f (N+2) v aw a j)(n:Nat)(aI e:U)(mk cQ k:Nat)(B:List E)(A:bl)(Y:N+3<=n)(h:eK aI e mk cQ B k)(c:B.length+(j+5)<=900000)
  (q:∀M,eK aI M mk cQ (B++(oT aw B.length k).map (ct.v f)) (k+(1+a))->A .none M):call n 53 [.ref mk,v] A e:=by
 refine a7 (fw (k:=3) (J [_,_] 0xa3100a311001 L Y)) λ n i=>?_;subst i
 refine aH (aeB ..) (h.vb (h.fresh λ l C=>C.ja (cb (cn (n:=2) (ae rfl)) rfl (C.add (J [_,_] 0x1e848041901b774041944501001 L c) λ m I=>g _ _ _ mk cQ _ _ _ (J [_,_] 0x4228042200031140311001 L Y) I (by rw[bR];exact J [_,_] 0x36ee8083284440001b774041944501001 L c) λ o ag=>ag.ja (cb (cn (n:=2) (ae rfl)) rfl (ag.add ?_ λ p b=>q _ ?_))))))
 ·have:=d (B++[E.tup [.str xd,.int k]]).length (k+1)
  rw[bR,cM] at*
  rw[bR] at*
  exact J [_,_,_] 0xf424020cc110040200002983b774041944501001 L c this
 ·rw[bR] at b
  rw[show k+1+a=k+(1+a) by exact cB (J [_,_] 0x5088040142220000 L) (J [_,_] 0x5088800142201000 L)] at b
  unfold oT
  simp only[jG,e8,el,pX,oO,List.map_nil,ct.v] at b⊢
  exact b
end
end
section
section
variable{f:Bool}
theorem z8{cg:Type}(a b:List cg)(x H:cg):(a++x::b).set a.length H=a++H::b:=by
 induction a with
 |nil=>rfl
 |cons D a c=>exact bA _ c
structure oL(aI e:U)(mk cQ:Nat)(B:List E)(k y:Nat)(l:List E):Prop where
 m:eK aI e mk cQ B k
 g:e.get y=some (.list l)
 lt:y<e.next
 cC:y≠mk
 dh:y≠cQ
 lo:aI.next<=y
theorem oL.step{aI e M:U}{mk cQ k b y:Nat}{B c2 l:List E}(h:oL aI e mk cQ B k y l)(a:eK e M mk cQ c2 b):oL aI M mk cQ c2 b y l:=
 ⟨h.m.hD a,a.fr.get h.g h.lt λ D=>D.elim h.cC h.dh,d7 h.lt a.fr.next,h.cC,h.dh,h.lo⟩
theorem oL.ls{aI e:U}{mk cQ k y:Nat}{B l:List E}(h:oL aI e mk cQ B k y l):dw e (.ref y) l:=⟨by rw[iV,h.g];rfl,λ i d=>by(injection d with a0;subst a0);exact h.lt⟩
theorem oL.put{aI e:U}{mk cQ k y:Nat}{B l:List E}(h:oL aI e mk cQ B k y l)(dV:List E):oL aI (e.upd y (.list dV)) mk cQ B k y dV:=
 ⟨⟨(ef h.cC.symm).trans h.m.nc,(ef h.dh.symm).trans h.m.pn,h.m.ne,h.m.C,h.m.I,h.m.fr.j1 h.lo⟩,dI ..,h.lt,h.cC,h.dh,h.lo⟩
theorem Tn{N:Nat}{da dY:E}{fE jj:Nat->Nat->List ct}{cC dh l o:Nat}(w:∀s k,(fE s k).length<=l)(x:∀s k,(jj s k).length<=o)(C:gY f (N+2) da fE cC l)(I:gY f (N+2) dY jj dh o):
  gY f (N+4) (.tup [.str [97,108,116],.lst [da,dY]]) (λ s k=>.split (s+1) (s+2+(fE (s+1) k).length)::(fE (s+1) k++.jump (s+2+(fE (s+1) k).length+(jj (s+2+(fE (s+1) k).length) (k+cC)).length)::jj (s+2+(fE (s+1) k).length) (k+cC))) (cC+dh) (l+o+5):=by
 intro n aI e mk cQ k B A Y h d q
 obtain⟨n,rfl⟩:=fw (k:=4) (J [_,_] 0xa4100a411001 L Y)
 refine aH (qU ..) (bx rfl (cb (ae rfl) rfl (bg (r:=false) rfl (br (bg (r:=false) rfl (br (bg (r:=true) rfl (cF (bx rfl (aH (aeA ..) (e2 (ae rfl) ?_)))))))))))
 have a:oL _ _ mk cQ B k _ []:=⟨h.ext (.alloc _ _ _),fR ..,eo _,hU h.C,hU h.I,h.fr.next⟩
 generalize e.next=y at a⊢
 have fP:=w (B.length+1) k
 refine dw.len .lst (show 2<=8000000 by decide) (df rfl (dw.slice .lst (show 2<=8000000 by decide) rfl (eM (n:=1) (ae rfl)) ⟨trivial,aH (W' ..) (aH (Uq ..) (a.m.ja (cb (cn (n:=3) (by decide)) rfl (a.m.re.add (J [_,_,_] 0x7a120106406ddd01065118a001001 L d) λ T F=>?_))))⟩))
 have a:=a.step F
 generalize t:(fE _ k).map (ct.v f)=aA
 have c:aA.length=(fE (B.length+1) k).length:=by rw[<-t,cM]
 refine C _ _ _ mk cQ _ _ _ (J [_,_] 0x4228042200041140411001 L Y) a.m.re (by rw[bR];exact J [_,_,_] 0xdbba020ca11100006ddd01065118a001001 L d) λ U G=>?_
 have a:=a.step G
 rw[bR,show B.length+[E.tup _].length=B.length+1 from rfl,t] at a
 refine qw a.g (a.m.ja (cb (cn (n:=2) (by decide)) rfl (a.m.re.add (by simp only[bR,fW,iP];exact J [_,_,_,_,_] 0x1e848041a0220080400007404a70eddd01065118a001001 L d fP (aL c)) λ V H=>?_)))
 have a:=a.step H
 refine p2 a.g (de _) ?_
 have a:=a.put ([]++[.int (B++[E.tup [E.str rP,.int 0,.int 0]]++aA).length])
 refine df (v:=.int (B.length+1:Nat)) rfl (a.m.rows (a.m.ls.len (by simp only[bR,fW,iP];exact ah (show _<=1000000 by exact J [_,_,_,_,_] 0x7a120106110040404401008000007404a70eddd01065118a001001 L d fP (aL c)) (by decide)) (cb (cn (n:=3) (by decide)) rfl (a.m.rows (a.m.re.set (by simp only[bR,fW,iP];exact J [_,_] 0x880201422008040000111000 L) (by simp only[bR,fW,iP];exact J [_,_,_,_,_] 0x7a120106110040404401008000007404a70eddd01065118a001001 L d fP (aL c)) λ W K=>⟨trivial,f3 (aH (Ur ..) ?_)⟩)))))
 have a:=a.step K
 have O:(B++[E.tup [E.str rP,.int 0,.int 0]]++aA++[E.tup [.str vf,.int 0]]).length=B.length+2+(fE (B.length+1) k).length:=by
  simp only[bR,fW,iP];exact cB (J [_,_,_] 0x5108c00044010081100403000001481 L (aL c)) (J [_,_,_] 0x11004028440100c0000821180001481 L (aL c.symm))
 have P:(B++[E.tup [E.str rP,.int 0,.int 0]]++aA).length=B.length+1+(fE (B.length+1) k).length:=by
  simp only[bR,fW,iP];exact cB (J [_,_,_] 0x142230004088020180001481 L (aL c)) (J [_,_,_] 0x142200806000811180001481 L (aL c.symm))
 rw[O,P] at a
 rw[show(B++[E.tup _]++aA++[E.tup _]).set _ _=B++((ct.split _ _).v f::aA++[E.tup _]) by
  rewrite[el,el,List.singleton_append,z8];rfl] at a
 have J:(B++((ct.split (B.length+1) (B.length+2+(fE (B.length+1) k).length)).v f::aA++[E.tup [.str vf,.int 0]])).length=B.length+2+(fE (B.length+1) k).length:=by
  simp only[bR,fW,iP];exact cB (J [_,_,_] 0xa2118000880200444000c001481 L (aL c)) (J [_,_,_] 0x220080111400300821180001481 L (aL c.symm))
 have gs:=x (B.length+2+(fE (B.length+1) k).length) (k+cC)
 refine I _ _ _ mk cQ _ _ _ (by lia) a.m.re (by rw[J];lia) λ X Q=>?_
 have a:=a.step Q
 rw[J] at a
 generalize u:(jj _ _).map _=dB at a
 have Z:dB.length=(jj (B.length+2+(fE (B.length+1) k).length) (k+cC)).length:=by rw[<-u,cM]
 refine k8 a.ls.items (λ i ak M=>(∃p,ak=lE _ _ _ _ _ p)/\∃bT,oL _ M mk cQ (B++((ct.split _ _).v f::aA++[bT])++dB) _ y _/\
  (i=1->bT=(ct.jump (B.length+2+(fE (B.length+1) k).length+dB.length)).v f)) ⟨⟨none,rfl⟩,_,a,λ D=>absurd D (by decide)⟩ (λ i ak M ⟨_,_,h,_⟩=>h.ls.hQ) (λ i v ak M d3 j b R z z=>?_) λ ak M b=>?_
 ·obtain⟨⟨p,rfl⟩,bT,b,_⟩:=b
  obtain⟨rfl,rfl⟩:i=0/\v=.int (B.length+1+(fE (B.length+1) k).length:Nat):=by
   match i,j with
   |0,j=>obtain rfl:=ck j;exact⟨rfl,rfl⟩
   |i+1,j=>exact bF j
  have lt:(B++((ct.split (B.length+1) (B.length+2+(fE (B.length+1) k).length)).v f::aA++[bT])++dB).length=B.length+2+(fE (B.length+1) k).length+dB.length:=by
   simp only[bR,fW,iP];lia
  refine aH (Xa ..) (aH (Us ..) (b.m.rows (b.m.ls.len (by rw[lt];exact ah (show _<=1000000 by lia) (by decide)) (cb (cn (n:=2) (by decide)) rfl (b.m.rows (b.m.re.set (by rw[lt];lia) (by rw[lt];lia) λ E_ S=>(R _ _ ⟨⟨_,rfl⟩,_,?_,λ z=>rfl⟩).1))))))
  have:=b.step S
  rw[lt,show B.length+1+(fE _ k).length=(B++(ct.split _ _).v f::aA).length by simp only[bR,fW];lia,
   show B++((ct.split _ _).v f::aA++[bT])++dB=B++(ct.split (B.length+1) (B.length+2+(fE (B.length+1) k).length)).v f::aA++bT::dB by simp only[el,pX,oO],z8] at this
  rw[show B.length+1+(fE _ k).length=(B++(ct.split _ _).v f::aA).length by simp only[bR,fW];lia]
  simp only[el,pX,oO] at this⊢
  exact this
 ·obtain⟨⟨p,rfl⟩,bT,b,dE⟩:=b
  have dE:=dE rfl
  subst dE
  refine f3 (aH (Ut ..) (ry (q _ ?_)))
  have:=b.m
  rw[<-t,<-u,cM] at this
  rw[<-ez]
  simp only[jG,e8,el,pX,oO] at this⊢
  exact this
end
end
section
section
variable{f:Bool}
theorem Tr{N:Nat}{v:E}{aw:Nat->Nat->List ct}{i j:Nat}(y:∀s k,(aw s k).length<=j)(D:gY f (N+2) v aw i j)(c:Nat)(lazy:Bool)(n:Nat)(aI e:U)(mk cQ k:Nat)(B:List E)(A:bl)(Y:N+3<=n)(h:eK aI e mk cQ B k)(d:B.length+(j+8)<=900000)
  (q:∀M,eK aI M mk cQ (B++(m8 aw (dg c) (dW c) lazy B.length k).map (ct.v f)) (k+(2+i))->A .none M):call n 55 [.ref mk,v,.int (dg c),.int (dW c),.bool lazy] A e:=by
 refine a7 (fw (k:=3) (J [_,_] 0xa3100a311001 L Y)) λ n F=>?_;subst F
 have fP:=y (B.length+3) (k+1+1)
 refine aH (aeC ..) (h.vb (h.fresh λ H C=>C.vb (C.fresh λ K I=>I.ja (cb (cn (n:=3) (ae rfl)) rfl (I.add (J [_,_] 0x1e848041901b774041a04501001 L d) λ O ag=>ag.ja (cb (cn (ae rfl)) rfl (ag.add (by rw[bR];exact J [_,_] 0xf424020c222001b774041a04501001 L d) λ P x=>x.ja ?_)))))))
 have p:∀a,(B++[a]).length=B.length+1:=λ a=>bR
 have u:∀a b,(B++[a]++[b]).length=B.length+2:=λ a b=>by rw[bR,p];rfl
 have r:∀a b c,(B++[a]++[b]++[c]).length=B.length+3:=λ a b c=>by rw[bR,u];rfl
 rw[p]
 refine df (v:=.int (B.length+3:Nat)) rfl (cb (cn (n:=4) (ae rfl)) rfl (x.add (by rw[u];exact J [_,_] 0xf424020c422001b774041a04501001 L d) λ Q G=>?_))
 rw[u]
 refine D _ _ _ mk cQ _ _ _ (J [_,_] 0x4228042200031140311001 L Y) G (by rw[r];exact J [_,_] 0x36ee808328c440001b774041a04501001 L d) λ R w=>?_
 rw[r] at w
 refine w.ja (cb (cn (n:=2) (ae rfl)) rfl (w.add (by rw[bR,r,cM];exact J [_,_,_] 0x1e8480419862200002983b774041a04501001 L d fP) λ S t=>?_))
 have lt:∀a b c o,(B++[a]++[b]++[c]++(aw (B.length+3) (k+2)).map (ct.v f)++[o]).length=B.length+4+(aw _ _).length:=λ a b c o=>by
  rw[bR,bR,r,cM];exact cB (J [_,_] 0x290440002228c4400000 L) (J [_,_] 0x88a3110000148220000 L)
 refine t.rows (t.ls.len ((λ l h=>ah h (ae rfl):∀l:List E,l.length<=1000000->l.length<=c7) _ (by rw[lt];exact J [_,_,_] 0x1e8480419882200002983b774041a04501001 L d fP)) (cb (cn (n:=8) (ae rfl)) rfl (t.rows (t.set (by rw[lt];exact J [_,_] 0xa4110000882220000 L) (by rw[lt];exact J [_,_,_] 0x1e8480419882200002983b774041a04501001 L d fP) λ T g=>q _ ?_))))
 rw[lt] at g
 rw[show k+1+1+i=k+(2+i) by exact cB (J [_,_] 0x28840200a11044400000 L) (J [_,_] 0x28441110000144201000 L)] at g
 rw[show∀a b c,∀l,B++[a]++[b]++[c]++l=B++[a]++b::c::l from λ a b c l=>by simp,show∀a b c,∀l m,B++[a]++b::c::l++m=B++[a]++b::(c::l++m) from λ a b c l m=>by simp] at g
 rw[<-p _,z8] at g
 unfold m8
 rw[p] at g
 simp only[jG,e8,el,pX,oO,List.map_nil,ct.v] at g⊢
 exact g
theorem aaG(i:Nat):∃t l,gX f i=.tup (.str t::l)/\(∀e,lM e .In (.str t) yH=some true):=by
 refine m' ?_ ?_ ?_ ?_ ?_ (λ z=>?_) i<;>exact cu _ _ ⟨rfl,λ e=>by kernel_rfl⟩
theorem A0{N c:Nat}{x:bq}{lazy:Bool}{v:E}{cP:List Nat}(m:gY f (N+2) v (code x) (d1 x) (cR x))(C:∀i,x=.one i->v=gX f i)(I:m7 x=false->∃t l,v=.tup (.str t::l)/\∀e,lM e .In (.str t) yH=some false)(p:(cP==[111,119,110])=false)(o:(cP==[108,97,122,121])=lazy):
  gY f (N+6) (.tup [.str qz,v,.int (dg c),.int (dW c),.str cP]) (l3 x (code x) c lazy) (if m7 x then 0 else 2+d1 x) (cR x+10):=by
 intro n aI e mk cQ k B A Y h b q
 refine a7 (fw (k:=6) (J [_,_] 0xa6100a611001 L Y)) λ n s=>?_;subst s
 refine aH (qU ..) (bx rfl (cb (ae rfl) rfl (bg (r:=false) rfl (br (bg rfl (br (bg rfl (br (bg rfl (br (bg rfl (cF (aH (Lh ..) (aH (Hv ..) (aH (F_ ..) (hu ?_))))))))))))))))
 rw[p]
 refine br ?_
 by_cases a:m7 x=true
 ·refine a7 (by rcases x with _|_<;>first|exact⟨_,rfl⟩|exact cy a:∃i,x=.one i) λ i u=>?_;subst u
  obtain rfl:=C i rfl
  refine fC (aaG i) λ t l g j=>bx (by rw[g];rfl) (bg (j e) (cF (h.ja (hu ?_))))
  rw[o]
  refine cb (cn (n:=5) (ae rfl)) (by show(true&&fM _&&(true&&true&&(true&&true)))=true;rw[zN];rfl) (h.add (J [_,_] 0x1e848041901b774041a84501001 L b) λ w C=>ry (q _ C))
 ·have a:m7 x=false:=by rcases d:m7 x with _|_;rfl;exact(a d).elim
  refine fC (I a) λ t l g j=>bx (by rw[g];rfl) (bg (j e) (br (hu ?_)))
  rw[o]
  refine Tr (jq x) m c _ _ _ e mk cQ k B _ (J [_,_] 0x8228062200061140611001 L Y) h (J [_,_] 0x36ee8083408a02001b774041a84501001 L b) λ w C=>ry (q _ ?_)
  clear m I b q;rcases x with _|_
  case one i=>exact Bool.noConfusion a
  all_goals exact C
theorem Tt{N c:Nat}{v:E}{aw:Nat->Nat->List ct}{a j:Nat}(b:∀s k,(aw s k).length<=j)(d:gY f (N+2) (.tup [.str qz,v,.int (dg c),.int (dW c),.str DM]) aw a j)(g:fM v=true){cP:List Nat}(i:(cP==[111,119,110])=true):
  gY f (N+6) (.tup [.str qz,v,.int (dg c),.int (dW c),.str cP]) (oT aw) (1+a) (j+5):=by
 intro n aI e mk cQ k B A Y h l q
 refine a7 (fw (k:=6) (J [_,_] 0xa6100a611001 L Y)) λ n m=>?_;subst m
 refine aH (qU ..) (bx rfl (cb (ae rfl) rfl (bg (r:=false) rfl (br (bg rfl (br (bg rfl (br (bg rfl (br (bg rfl (cF (aH (Lh ..) (aH (Hv ..) (aH (F_ ..) (hu ?_))))))))))))))))
 rw[i]
 exact cb (cn (n:=5) (ae rfl)) (by show(true&&fM v&&(true&&true&&(true&&true)))=true;rw[g];rfl) (FL b d _ _ e mk cQ k B _ (J [_,_] 0x8228062200061140611001 L Y) h l λ o C=>ry (q _ C))
theorem Tq{N:Nat}{v:E}{aw:Nat->Nat->List ct}{D j:Nat}(P:∀s k,(aw s k).length<=j)(Q:gY f (N+2) v aw D j)(p:Option Nat)(cW:Bool):
  gY f (N+5) (.tup [.str qB,v,.bool p.isSome,.bool cW,.int (p.getD 0:Nat)]) (λ s k=>if cW then
   .place k::.mark (k+1)::.split (s+3) (s+4+(eD p).length+(aw (s+3+(eD p).length) (k+2)).length)::(eD p++(aw (s+3+(eD p).length) (k+2)++[.refuse (k+1)]))
  else .place k::.mark (k+1)::(eD p++(aw (s+2+(eD p).length) (k+2)++[.cut (k+1),.ret k]))) (2+D) (j+10):=by
 intro n aI e mk cQ k B A Y h d q
 refine a7 (fw (k:=5) (J [_,_] 0xa5100a511001 L Y)) λ n T=>?_;subst T
 refine aH (qU ..) (bx rfl (cb (ae rfl) rfl (bg (r:=false) rfl (br (bg rfl (br (bg rfl (br (bg rfl (br (bg rfl (br (bg rfl (br (aH (aeD ..) (aH (Xb ..) (aH (Uu ..) ?_)))))))))))))))))
 have t:(eD p).length<=1:=by rcases p with _|_;exact de 1;exact bw 1
 have R:∀a,(B++[a]).length=B.length+1:=λ a=>bR
 have i:∀a b,(B++[a]++[b]).length=B.length+2:=λ a b=>by rw[bR,R];rfl
 refine h.vb (h.fresh λ av C=>C.vb (C.fresh λ aS I=>I.ja (cb (cn (n:=2) (ae rfl)) rfl (I.add (J [_,_] 0x1e848041901b774041a84501001 L d) λ c9 ag=>ag.ja (cb (cn (n:=2) (ae rfl)) rfl (ag.add (by rw[R];exact J [_,_] 0xf424020c222001b774041a84501001 L d) λ f6 G=>dj ?_))))))
 have S:∀{e:U}{aV:List E}{H:Nat}(y:U->Prop),eK aI e mk cQ aV H->aV.length<=900010->(∀M,eK _ M mk cQ (aV++(eD p).map _) H->y M)->(ek (.bool p.isSome) λ V=>aW V (b0 _ _ λ W=>b9 [.str _,.int (p.getD 0)] λ X=>bY (call (n+2+1)) W _ [X] λ FJ=>y) y) e:=λ{e aV H} y K d dE=>by
  rcases p with _|_
  case none=>exact dj (br (dE _ (by rw[show(eD _).map (ct.v f)=[] from rfl,gS];exact K)))
  case some w=>exact dj (cF (K.ja (cb (cn (n:=2) (ae rfl)) rfl (K.add (J [_] 0xf424020c80dbbaa20c81 L d) λ M Z=>dE _ Z))))
 rcases cW with _|_
 case false=>
  refine br (S _ G (by rw[i];exact J [_,_] 0xdbbaa20c422001b774041a84501001 L d) λ lB O=>?_)
  have ae:=P (B.length+2+(eD p).length) (k+2)
  refine Q _ _ _ mk cQ _ _ _ (J [_,_] 0x6228042200051140511001 L Y) O (by rw[bR,i,cM];exact J [_,_,_] 0xdbba020ca610880000011183b774041a84501001 L d t) λ vJ u=>dj (br ?_)
  rw[bR,i,cM] at u
  refine u.ja (cb (cn (n:=2) (by decide)) rfl (u.add (by rw[bR,bR,i,cM,cM];exact J [_,_,_,_] 0x7a1201067308440000029c211183b774041a84501001 L d t ae) λ E_ x=>x.ja (cb (cn (n:=2) (by decide)) rfl (x.add (by rw[bR,bR,bR,i,cM,cM];exact J [_,_,_,_] 0x3d090083088e6108800000029c211183b774041a84501001 L d t ae) λ L4 g=>ry (q _ ?_)))))
  rw[show k+1+1+D=k+(2+D) by exact cB (J [_,_] 0x28840200a11044400000 L) (J [_,_] 0x28441110000144201000 L)] at g
  dsimp only
  rw[a8 (by decide)]
  simp only[jG,e8,el,pX,oO,List.map_nil,ct.v] at g⊢
  exact g
 case true=>
  have F:∀a b c,(B++[a]++[b]++[c]).length=B.length+3:=λ a b c=>by rw[bR,i];rfl
  refine cF (G.ja (cb (cn (n:=3) (ae rfl)) rfl (G.add (by rw[i];exact J [_,_] 0xf424020c422001b774041a84501001 L d) λ ag1 Xx=>?_)))
  rw[i]
  refine S _ Xx (by rw[F];exact J [_,_] 0xdbbaa20c622001b774041a84501001 L d) λ lB O=>?_
  have ae:=P (B.length+3+(eD p).length) (k+2)
  refine Q _ _ _ mk cQ _ _ _ (J [_,_] 0x6228042200051140511001 L Y) O (by rw[bR,F,cM];exact J [_,_,_] 0xdbba020ca618880000011183b774041a84501001 L d t) λ vJ u=>dj (cF ?_)
  rw[bR,F,cM] at u
  refine u.ja (cb (cn (n:=2) (by decide)) rfl (u.add (by rw[bR,bR,F,cM,cM];exact J [_,_,_,_] 0x7a120106730c440000029c211183b774041a84501001 L d t ae) λ E_ x=>df (v:=.int ((B.length+3:Nat):Int)) rfl ?_))
  have lt:∀a b c o:E,(B++[a]++[b]++[c]++(eD p).map (ct.v f)++(aw (B.length+3+(eD p).length) (k+2)).map (ct.v f)++[o]).length=B.length+4+(eD p).length+(aw (B.length+3+(eD p).length) (k+2)).length:=λ a b c o=>by
   rw[bR,bR,bR,F,cM,cM];show B.length+3+_+_+1=_;exact cB (J [_,_,_] 0x3148220000088c51888000000 L) (J [_,_,_] 0x88c518880000062904400000 L)
  refine x.rows (x.ls.len (ah (show _<=1000000 by rw[lt];exact J [_,_,_,_] 0x7a1201067310440000029c211183b774041a84501001 L d t ae) (by decide)) (cb (cn (n:=3) (by decide)) rfl (x.rows (x.set (by rw[lt];exact J [_,_,_] 0x31482200000884220000 L) (by rw[lt];exact J [_,_,_,_] 0x7a1201067310440000029c211183b774041a84501001 L d t ae) λ L4 g=>ry (q _ ?_)))))
  rw[lt] at g
  rw[show k+1+1+D=k+(2+D) by exact cB (J [_,_] 0x28840200a11044400000 L) (J [_,_] 0x28441110000144201000 L)] at g
  rw[show∀a b c:E,∀l m r,(B++[a]++[b]++[c]++l++m++r)=(B++[a]++[b])++c::(l++(m++r)) from λ a b c l m r=>by simp] at g
  rw[<-i (E.tup [.str rQ,.int k]) (E.tup [.str xd,.int ((k+1:Nat):Int)]),z8] at g
  dsimp only
  rw[aU rfl]
  simp only[jG,e8,el,pX,oO,List.map_nil,ct.v] at g⊢
  exact g
end
end
section
theorem gB.afb{x:bq}:∀{g G:Nat},gB x g->g+dX x<=G->nD x G:=by
 induction x with
 |rounds _ _ _ b=>exact λ h=>b h.2.2.2
 |group n r _ b=>
  intro g G h a
  refine e_ h λ e z I=>?_;clear h;subst e
  have a:=u4 a
  exact⟨jH g,ah (dD ..) a,b I a⟩
 |again n _=>exact λ h a=>⟨h.1,ah h.2.1 a⟩
 |d4 ab aT c d=>
  intro g G h a
  have a:=u4 a
  exact⟨c h.2.1 (ah (dD ..) a),d h.2.2 a⟩
 |atomic _ b=>exact λ h=>b h.2
 |look _ p _ b=>rcases p with _|_<;>exact λ h=>b h.2
 |cons x r c d=>
  intro g G h a
  have a:=u4 a
  exact⟨c h.2.1 (ah (dD ..) a),d h.2.2 a⟩
 |_=>exact λ z z=>trivial
section
variable{f:Bool}
set_option tactic.hygienic true
theorem ti(x:bq):fM (e1 f x)=true:=by
 rcases x with _|_
 case one k=>exact zN f k
 case again n a=>rw[AV];split<;>rfl
 all_goals rfl
theorem aby{x:bq}(a:∀s k,(code x s k).length<=cR x)(c:Nat)(lazy:Bool)(s k:Nat):(l3 x (code x) c lazy s k).length<=cR x+10:=by
 have:(m8 (code x) (dg c) (dW c) lazy s k).length<=cR x+10:=by
  have:=a (s+3) (k+2)
  unfold m8
  simp only[fW,bR,iP]
  exact J [_,_] 0x508a00882208822008040000001481 L this
 clear a;rcases x with _|_
 case one i=>exact gC 1 _
 all_goals exact this
set_option tactic.hygienic false
theorem To{N:Nat}{v:E}{aw:Nat->Nat->List ct}{a j:Nat}(b:∀s k,(aw s k).length<=j)(c:gY f (N+2) v aw a j):gY f (N+4) (.tup [.str pg,v]) (oT aw) (1+a) (j+5):=by
 intro n aI e mk cQ k B A Y h d q
 refine a7 (fw (k:=4) (J [_,_] 0xa4100a411001 L Y)) λ n g=>?_;subst g
 exact aH (qU ..) (bx rfl (cb (ae rfl) rfl (bg (r:=false) rfl (br (bg (r:=false) rfl (br (bg (r:=false) rfl (br (bg (r:=false) rfl (br (bg (r:=false) rfl (br (bg (r:=true) rfl (cF (bx rfl (FL b c _ _ e mk cQ k B _ (J [_,_] 0x6228062200041140411001 L Y) h d q))))))))))))))))
set_option tactic.hygienic true in
theorem p8:∀(x:bq)(g:Nat),gB x g->gY f (cZ x+1) (e1 f x) (code x) (d1 x) (cR x)/\(d5 x=true->oC f (cZ x) x)
 |.one i,g,_=>⟨(Ts i).mono (by decide:2<=6) (bw _),cy⟩
 |.place w,g,_=>⟨(rg rfl _ λ z z=>rfl).mono (by decide:2<=6) (bw _),cy⟩
 |.again n a,g,_=>⟨by
   have h:gY f 2 (sE f n) _ 0 20:=rg rfl (λ z z=>.back n) λ z z=>rfl
   rw[AV]
   split
   ·exact(A1 h).mono (ae rfl:3<=6) (bw _)
   ·exact h.mono (by decide:2<=6) (bw _),cy⟩
 |.nil,g,_=>⟨FN .nil,λ z=>.nil⟩
 |.cons x r,g,h=>by
  have b:=p8 x g h.2.1
  have k:oC f _ _:=.cons (b.1.mono (rd ..) (bw _)) (((p8 r _ h.2.2).2 h.1.2).mono (rf ..))
  exact⟨FN k,λ z=>k⟩
 |.group n r nm,g,h=>⟨(Tp (jq r) ((p8 r _ h.2.2).1.mono (e7 (by decide) _) (bw _))).mono (e7 (ae rfl:3<=5) _) (J [_] 5430991458304 L),cy⟩
 |.atomic r,g,h=>⟨(To (jq r) ((p8 r g h.2).1.mono (e7 (by decide) _) (bw _))).mono (e7 (ae rfl:4<=5) _) (J [_] 5430991458304 L),cy⟩
 |.d4 ab aT,g,h=>⟨(Tn (jq ab) (jq aT) ((p8 ab g h.2.1).1.mono (fV (rd ..) (by decide)) (bw _)) ((p8 aT _ h.2.2).1.mono (fV (rf ..) (by decide)) (bw _))).mono (hp _) (J [_,_] 0x5278400144520000 L),cy⟩
 |.look x p cW,g,h=>by
  have b:=(p8 x g (by rcases p with _|_<;>exact h.2)).1
  have j:gY f (cZ x+2) (if d5 x then e1 f x else gy [e1 f x]) (code x) (d1 x) (cR x):=by
   split
   ·exact b.mono (e7 (by decide) _) (bw _)
   ·exact A1 b
  exact⟨(Tq (jq x) j p _).mono (e7 (ae rfl:5<=7) _) (J [_] 5430996701184 L),cy⟩
 |.rounds x c m,g,h=>by
  have b:=(p8 x g h.2.2.2).1
  have j:gY f (cZ x+2) (if kJ x then e1 f x else gy [e1 f x]) (code x) (d1 x) (cR x):=by
   split
   ·exact b.mono (e7 (by decide) _) (bw _)
   ·exact A1 b
  have C:∀i,x=.one i->(if kJ x then e1 f x else gy [e1 f x])=gX f i:=λ i d=>by clear b;subst d;rfl
  have I:m7 x=false->∃t l,(if kJ x then e1 f x else gy [e1 f x])=.tup (.str t::l)/\∀e,lM e .In (.str t) yH=some false:=λ o=>by
   clear b;rcases x with _|_
   case one i=>exact Bool.noConfusion o
   case group n r nm=>exact cu _ _ ⟨rfl,λ e=>by kernel_rfl⟩
   all_goals exact cu ([115,101,113]) _ ⟨rfl,λ e=>by kernel_rfl⟩
  refine⟨?_,(cy)⟩
  match m,h.2.1 with
  |0,_=>
   rw[show d1 _=if m7 x then 0 else 2+d1 x from gr _]
   exact(A0 j C I rfl rfl).mono (e7 (by decide:6<=13) _) (J [_] 5430996701184 L)
  |1,_=>
   rw[show d1 _=if m7 x then 0 else 2+d1 x from gr _]
   exact(A0 j C I rfl rfl).mono (e7 (by decide:6<=13) _) (J [_] 5430996701184 L)
  |2,_=>exact(Tt (aby (jq x) c _) (A0 j C I rfl rfl) (by split;exact ti x;rfl) rfl).mono (e7 (ae rfl:10<=13) _) (J [_] 0x278402894220000 L)
theorem adx{e:U}{x:bq}{G n:Nat}{names:E}{A:bl}(l:gB x 0)(Y:cZ x+3<=n)(p:cR x<=800000)(q:∀M ba bM,ei e M->e.next<=ba->ba<M.next->bM<M.next->M.get ba=some (.inst 49 vi [.ref bM,.int G,.int (d1 x),names])->M.get bM=some (.list ((code x 0 0++[ct.fin]).map (ct.v f)))->A (.ref ba) M):
  call n 57 [e1 f x,.int G,names] A e:=by
 refine a7 (fw (k:=3) (J [_,_] 0xa3100a311001 L Y)) λ n m=>?_;subst m
 have b:=jq x 0 0
 refine aH (aeE ..) (v' 50 (by kernel_rfl) (aH (ad4 ..) (e2 (ae rfl) (e9 ((iA (e' (eo _))).trans (fR ..)) (eG:=zG.take 1) (c2:=[.ref (e.next+1)]) (by kernel_rfl) (by decide) (by kernel_rfl) (e9 (dI ..) (eG:=zG) (c2:=[.ref (e.next+1),.int 0]) (by kernel_rfl) (ae rfl) (by kernel_rfl) ?_)))))
 generalize h:U.upd _ _ _=c
 have g:ei e c:=by
  rw[<-h]
  exact(((Fr.alloc _ e _).trans (.alloc _ _ _)).j1 (bw _)).j1 (bw _)
 have o:eK c c e.next (e.next+1) [] 0:=by
  rw[<-h]
  exact⟨dI ..,(ef (Nat.succ_ne_self _)).trans ((ef (Nat.succ_ne_self _)).trans (fR _ _)),(Nat.succ_ne_self _).symm,j9 (eo _),eo _,.refl _ _⟩
 refine(p8 x 0 l).1 _ c c _ _ _ _ _ (J [_,_] 0x4228022200031140311001 L Y) o (by show 0+cR x<=_;lia) λ r C=>?_
 rw[oO,gr] at C
 refine C.ja (cb (cn (ae rfl)) rfl (C.add (by rw[cM];show(code x 0 0).length<=_;lia) λ s I=>I.rows (gU I.nc (v:=.int (d1 x)) (by kernel_rfl) (v' 49 (by kernel_rfl) (aH (ad3 ..) ?_)))))
 have j:ei e _:=⟨ah g.next I.fr.next,λ i a b=>(I.fr.same i (d7 a g.next) (by rintro(D|D)<;>lia)).trans (g.same i a b)⟩
 refine e9 (fR ..) (eG:=vi.take 1) (c2:=[.ref (e.next+1)]) (by kernel_rfl) (by decide) (by kernel_rfl) (e9 (dI ..) (eG:=vi.take 2) (c2:=[.ref (e.next+1),.int G]) (by kernel_rfl) (ae rfl) (by kernel_rfl) (e9 (dI ..) (eG:=vi.take 3) (c2:=[.ref (e.next+1),.int G,.int (d1 x)]) (by kernel_rfl) (ae rfl) (by kernel_rfl) (e9 (dI ..) (by kernel_rfl) (ae rfl) (by kernel_rfl) (q _ _ _ ?_ j.next (eo _) (j9 I.I) (dI ..) ?_))))
 ·exact j.trans (((((Fr.alloc _ _ _).j1 (bw _)).j1 (bw _)).j1 (bw _)).j1 (bw _))
 ·have d:=e' I.I
  refine(ef d).trans ((ef d).trans ((ef d).trans ((ef d).trans ((iA d).trans ?_))))
  rw[I.pn,e8]
  rfl
theorem pv:∀(x:bq)(g G s k:Nat),gB x g->g+dX x<=G->∀r∈code x s k,mR G r
 |.one i,g,G,s,k,h,b,r,V=>by obtain rfl:=fu.mp V;exact h
 |.place i,g,G,s,k,h,b,r,V=>by obtain rfl:=fu.mp V;exact h
 |.again i a,g,G,s,k,h,b,r,V=>by obtain rfl:=fu.mp V;exact⟨h.1,ah h.2.1 b⟩
 |.nil,g,G,s,k,h,b,r,V=>nomatch V
 |.cons x H,g,G,s,k,h,b,r,V=>by
  rcases fv.mp V with V|V
  ·exact pv x g G _ _ h.2.1 (J [_,_,_,_] 0x3948001cc501001 L b) r V
  ·exact pv H _ G _ _ h.2.2 (J [_,_,_,_] 0xe62900001cc501001 L b) r V
 |.group i H nm,g,G,s,k,⟨C,_,I⟩,b,r,V=>by
  rcases ew.mp V with rfl|V
  ·trivial
  ·rcases fv.mp V with V|V
   ·exact pv H _ G _ _ I (J [_,_,_] 0x31422200003142201001 L b) r V
   ·obtain rfl:=fu.mp V;exact⟨J [_,_] 0x508802000a111001 L (aL C.symm),J [_,_,_,_] 0x7200e6088050042228081 L (aL C) b⟩
 |.atomic H,g,G,s,k,h,b,r,V=>by
  rcases ew.mp V with rfl|V
  ·trivial
  ·rcases fv.mp V with V|V
   ·exact pv H _ G _ _ h.2 b r V
   ·obtain rfl:=fu.mp V;trivial
 |.d4 H D,g,G,s,k,h,b,r,V=>by
  rcases ew.mp V with rfl|V
  ·trivial
  ·rcases fv.mp V with V|V
   ·exact pv H _ G _ _ h.2.1 (J [_,_,_,_] 0x3948001cc501001 L b) r V
   ·rcases ew.mp V with rfl|V
    ·trivial
    ·exact pv D _ G _ _ h.2.2 (J [_,_,_,_] 0xe62900001cc501001 L b) r V
 |.look H p cW,g,G,s,k,h,b,r,V=>by
  have d:=by rcases p with _|_<;>exact h.2
  have e:∀r∈eD p,mR G r:=λ r V=>by
   rcases p with _|_
   case none=>cases V
   case some w=>obtain rfl:=fu.mp V;trivial
  rw[I6] at V
  rcases cW with _|_
  case true=>
   rcases ew.mp V with rfl|V
   ·trivial
   rcases ew.mp V with rfl|V
   ·trivial
   rcases ew.mp V with rfl|V
   ·trivial
   rcases fv.mp V with V|V
   ·exact e r V
   rcases fv.mp V with V|V
   ·exact pv H _ G _ _ d b r V
   ·obtain rfl:=fu.mp V;trivial
  case false=>
   rcases ew.mp V with rfl|V
   ·trivial
   rcases ew.mp V with rfl|V
   ·trivial
   rcases fv.mp V with V|V
   ·exact e r V
   rcases fv.mp V with V|V
   ·exact pv H _ G _ _ d b r V
   ·rcases ew.mp V with rfl|V
    ·trivial
    ·obtain rfl:=fu.mp V;trivial
 |.rounds H c m,g,G,s,k,h,b,r,V=>by
  have rep:∀lazy s k,∀r∈l3 H (code H) c lazy s k,mR G r:=λ lazy s k r V=>by
   have loop:∀r∈m8 (code H) (dg c) (dW c) lazy s k,mR G r:=λ r V=>by
    rcases ew.mp V with rfl|V
    ·trivial
    rcases ew.mp V with rfl|V
    ·trivial
    rcases ew.mp V with rfl|V
    ·trivial
    rcases fv.mp V with V|V
    ·exact pv H _ G _ _ h.2.2.2 b r V
    ·obtain rfl:=fu.mp V;trivial
   clear b;rcases H with _|_
   case one i=>obtain rfl:=fu.mp V;exact⟨h.2.2.2,Bu c⟩
   all_goals exact loop r V
  rw[I7] at V
  split at V
  ·rcases ew.mp V with rfl|V
   ·trivial
   rcases fv.mp V with V|V
   ·exact rep _ _ _ r V
   ·obtain rfl:=fu.mp V;trivial
  ·exact rep _ _ _ r V
end
end
section
noncomputable def dQ(n:Nat):List Nat:=110::fj n
noncomputable def qH:List Str:=[e3,(Str.ofString "total"),b',g6,om,oj,xI]
noncomputable def J6(t:List Nat)(cD:Int)(a g o aZ a9:Nat):dk:=.inst 64 qH [.str t,.int cD,.int a,.int g,.int o,.ref aZ,.ref a9]
def ho(e:U)(lo st aZ a9:Nat):List Nat->List E->Prop
 |n::nm,v::B=>(∃r,v=.ref r/\(e.get r=some (.list [.int n])\/e.get r=some (.flist [.int n]))/\r<e.next/\lo<=r/\r≠st/\r≠aZ/\r≠a9)/\ho e lo st aZ a9 nm B
 |[],[]=>True
 |_,_=>False
def SM(g:Nat)(cG:List E):Prop:=∀v∈cG,∃(n:Nat)(b:Int),v=.tup [.lst [.int n],.int b]/\0<n/\n<=g
structure bP(aI e:U)(st aZ a9:Nat)(t:List Nat)(cD:Int)(pr:List (Nat×dk))(a g o:Nat)(nm:List Nat)(u:Nat):Prop where
 ex:∃B cG,e.get aZ=some (.dict (nm.map dQ) B)/\ho e aI.next st aZ a9 nm B/\e.get a9=some (.list cG)/\SM g cG/\cG.length<=u/\(∀s∈pr,E.ref s.1∉B)
 p:e.get st=some (J6 t cD a g o aZ a9)
 cC:st≠aZ
 dh:st≠a9
 fL:aZ≠a9
 C:st<e.next
 I:aZ<e.next
 ag:a9<e.next
 aX:aI.next<=st
 bS:aI.next<=aZ
 dv:aI.next<=a9
 iH:∀s∈pr,e.get s.1=some s.2/\s.1<e.next/\s.1≠st/\s.1≠aZ/\s.1≠a9
 fr:ei aI e
 iL:t.length<=500000
 al:a<=t.length
set_option tactic.hygienic true in
theorem ho.ind{e:U}{lo st aZ a9:Nat}{bh:List Nat->List E->Prop}(nil:bh [] [])(cons:∀(n:Nat)(nm:List Nat)(r:Nat)(B:List E),(e.get r=some (.list [.int n])\/e.get r=some (.flist [.int n]))->r<e.next->(lo<=r/\r≠st/\r≠aZ/\r≠a9)->ho e lo st aZ a9 nm B->bh nm B->bh (n::nm) (.ref r::B)){nm:List Nat}{B:List E}(h:ho e lo st aZ a9 nm B):bh nm B:=by
 induction nm generalizing B with
 |nil=>(rcases B with _|_;(case nil=>exact nil);(case cons _ _=>exact h.elim))
 |cons n nm a=>(rcases B with _|_;(case nil=>exact h.elim);(case cons x ai=>exact xV h.1 λ r d C I ag=>rwl d (cons n nm r ai C I ag h.2 (a h.2))))
theorem ho.ext{e M:U}{lo st aZ a9:Nat}(b:∀i,i<e.next->i≠st->i≠aZ->i≠a9->M.get i=e.get i)(Y:e.next<=M.next){nm:List Nat}{B:List E}(h:ho e lo st aZ a9 nm B):ho M lo st aZ a9 nm B:=
 h.ind trivial λ n nm r B I ag a z c=>⟨⟨r,rfl,rwl ((b r ag a.2.1 a.2.2.1 a.2.2.2)) I,d7 ag Y,a⟩,c⟩
section
variable{aI e:U}{st aZ a9 a g o u:Nat}{t:List Nat}{cD:Int}{pr:List (Nat×dk)}{nm:List Nat}{k:bl}
theorem bP.at_(h:bP aI e st aZ a9 t cD pr a g o nm u)(q:k (.int a) e):a6 (.ref st) b' k e:=gU h.p (by kernel_rfl) q
theorem bP.h5(h:bP aI e st aZ a9 t cD pr a g o nm u)(q:k (.str t) e):a6 (.ref st) e3 k e:=gU h.p (by kernel_rfl) q
theorem bP.nY(h:bP aI e st aZ a9 t cD pr a g o nm u)(q:k (.int g) e):a6 (.ref st) g6 k e:=gU h.p (by kernel_rfl) q
theorem bP.BC(h:bP aI e st aZ a9 t cD pr a g o nm u)(q:k (.int o) e):a6 (.ref st) om k e:=gU h.p (by kernel_rfl) q
theorem bP.DA(h:bP aI e st aZ a9 t cD pr a g o nm u)(q:k (.ref aZ) e):a6 (.ref st) oj k e:=gU h.p (by kernel_rfl) q
theorem bP.KA(h:bP aI e st aZ a9 t cD pr a g o nm u)(q:k (.ref a9) e):a6 (.ref st) xI k e:=gU h.p (by kernel_rfl) q
theorem bP.put(h:bP aI e st aZ a9 t cD pr a g o nm u){eL bN p9:Nat}(c:eL<=t.length)(d:g<=bN):bP aI (e.upd st (J6 t cD eL bN p9 aZ a9)) st aZ a9 t cD pr eL bN p9 nm u where
 ex:=by
  refine ov h.ex λ B cG f j k l m q=>?_
  exact⟨B,cG,(ef h.cC.symm).trans f,j.ext (λ i z D z z=>ef D) (bw _),(ef h.dh.symm).trans k,λ v r=>let⟨n,b,a0,bL,g8⟩:=l v r;⟨n,b,a0,bL,ah g8 d⟩,m,q⟩
 p:=dI ..
 cC:=h.cC
 dh:=h.dh
 fL:=h.fL
 C:=h.C
 I:=h.I
 ag:=h.ag
 aX:=h.aX
 bS:=h.bS
 dv:=h.dv
 iH:=λ s w=>let⟨a0,bL,g8,x⟩:=h.iH s w;⟨(ef g8).trans a0,bL,g8,x⟩
 fr:=h.fr.j1 h.aX
 iL:=h.iL
 al:=c
theorem bP.ext{M:U}(h:bP aI e st aZ a9 t cD pr a g o nm u)(d:ei e M):bP aI M st aZ a9 t cD pr a g o nm u where
 ex:=by
  refine ov h.ex λ B cG b c f j k l=>?_
  exact⟨B,cG,d.get b h.I id,c.ext (λ i D z z z=>d.same i D id) d.next,d.get f h.ag id,j,k,l⟩
 p:=d.get h.p h.C id
 cC:=h.cC
 dh:=h.dh
 fL:=h.fL
 C:=d7 h.C d.next
 I:=d7 h.I d.next
 ag:=d7 h.ag d.next
 aX:=h.aX
 bS:=h.bS
 dv:=h.dv
 iH:=λ s m=>let⟨a0,bL,g8⟩:=h.iH s m;⟨d.get a0 bL id,d7 bL d.next,g8⟩
 fr:=h.fr.trans d
 iL:=h.iL
 al:=h.al
theorem bP.h3(h:bP aI e st aZ a9 t cD pr a g o nm u){x:Int}{eL:Nat}(b:x=eL)(c:eL<=t.length){A:U->Prop}(q:∀M,bP aI M st aZ a9 t cD pr eL g o nm u->A M):cL (.ref st) b' (.int x) A e:=by
 subst b
 exact e9 h.p (by kernel_rfl) (ae rfl) (by kernel_rfl) (q _ (h.put c (bw _)))
theorem bP.ab6(h:bP aI e st aZ a9 t cD pr a g o nm u){x:Int}{bN:Nat}(b:x=bN)(c:g<=bN){A:U->Prop}(q:∀M,bP aI M st aZ a9 t cD pr a bN o nm u->A M):cL (.ref st) g6 (.int x) A e:=by
 subst b
 exact e9 h.p (by kernel_rfl) (ae rfl) (by kernel_rfl) (q _ (h.put h.al c))
theorem bP.Ks(h:bP aI e st aZ a9 t cD pr a g o nm u){x:Int}{p9:Nat}(b:x=p9){A:U->Prop}(q:∀M,bP aI M st aZ a9 t cD pr a g p9 nm u->A M):cL (.ref st) om (.int x) A e:=by
 subst b
 exact e9 h.p (by kernel_rfl) (ae rfl) (by kernel_rfl) (q _ (h.put h.al (bw _)))
theorem bP.ZE(h:bP aI e st aZ a9 t cD pr a g o nm u){K:fp->U->Prop}(q:K (.fn 1641) e):b0 (.ref st) mG K e:=rK h.p (by kernel_rfl) q
theorem bP.ZF(h:bP aI e st aZ a9 t cD pr a g o nm u){K:fp->U->Prop}(q:K (.fn 1642) e):b0 (.ref st) hB K e:=rK h.p (by kernel_rfl) q
theorem bP.nF(h:bP aI e st aZ a9 t cD pr a g o nm u){y:Nat}(dE:y<=1000):a+y<=1000000000:=by
 have:=h.al
 have:=h.iL
 lia
theorem bP.hC(h:bP aI e st aZ a9 t cD pr a g o nm u):t.length<=c7:=ah h.iL (ae rfl)
theorem bP.nE(h:bP aI e st aZ a9 t cD pr a g o nm u):a<=1000000000:=h.nF (de _)
theorem bP.peek(h:bP aI e st aZ a9 t cD pr a g o nm u){n:Nat}(Y:1<=n){w:List Nat}(b:(t.drop a).take 1=w)(q:k (.str w) e):(b0 (.ref st) mG λ cP=>bY (call n) cP (.ref st) [] k) e:=by
 apply iG Y;intro n c
 refine h.ZE (zE (aH (ad8 ..) (h.h5 (h.at_ (h.at_ (df rfl (kR h.hC (eM h.nE) (eM (h.nF (ae rfl))) ?_)))))))
 rw[show(some a).getD 0=a from rfl,oY,b]
 exact q
theorem bP.Ei(h:bP aI e st aZ a9 t cD pr a g o nm u){n:Nat}(Y:1<=n)(w:List Nat)(b:w.length<=10)(j:(t.drop a).take w.length=w->∀M,bP aI M st aZ a9 t cD pr (a+w.length) g o nm u->k (.bool true) M)(l:(t.drop a).take w.length≠w->k (.bool false) e):
  (b0 (.ref st) hB λ cP=>bY (call n) cP (.ref st) [.str w] k) e:=by
 apply iG Y;intro n q
 have c:w.length<=c7:=ah b (ae rfl)
 refine h.ZF (zE (aH (ad9 ..) (h.h5 (h.at_ (h.at_ (j0 c (df rfl (kR h.hC (eM h.nE) (eM (h.nF (ah b (ae rfl)))) ?_))))))))
 rw[show(some a).getD 0=a from rfl,oY]
 refine bg (r:=!(t.drop a).take _==w) rfl (jL (λ d=>?_) λ d=>?_)
 ·exact l λ D=>by rw[D,eC] at d;exact cy d
 ·have f:=by
   have:((t.drop a).take w.length==w)=true:=by rcases m:(t.drop a).take _==w with _|_;rw[m] at d;exact nomatch d;rfl
   exact eq_of_beq this
  have i:=bA List.length f
  rw[nI,jn] at i
  have:=h.al
  exact h.at_ (j0 c (iC (h.h3 rfl (J [_,_,_,_,_] 0x410e0020e6004c509481 L (aL i.symm) (Nat.min_le_right _ _) (di this)) λ M p=>j f _ p)))
theorem bP.lq(h:bP aI e st aZ a9 t cD pr a g o nm u){n:Nat}(Y:1<=n){w bk:List Nat}(V:t.drop a=w++bk)(b:w.length<=10)(q:∀M,bP aI M st aZ a9 t cD pr (a+w.length) g o nm u->t.drop (a+w.length)=bk->k (.bool true) M):
  (b0 (.ref st) hB λ cP=>bY (call n) cP (.ref st) [.str w] k) e:=
 h.Ei Y w b (λ z M c=>q _ c (by rw[<-nK,V,List.drop_left])) (absurd (by rw[V,List.take_left]))
theorem bP.jv(h:bP aI e st aZ a9 t cD pr a g o nm u){n:Nat}(Y:1<=n){w:List Nat}(b:w.length<=10)(c:(t.drop a).take w.length≠w)(q:k (.bool false) e):(b0 (.ref st) hB λ cP=>bY (call n) cP (.ref st) [.str w] k) e:=
 h.Ei Y w b (λ D=>(c D).elim) λ z=>q
end
end
section
theorem Xc(R:dp)(K:Loc->U->Prop)(e:U)(v:E)(a b c o:Option E):d6 66 [] 1 R v (q4 a b c o) K e=K (q4 a b c (some v)) e:=by kernel_rfl
theorem Gm:v_=.str [105,109,115,120]:=by kernel_rfl
section
variable{aI e:U}{st aZ a9 a g o u:Nat}{t:List Nat}{cD:Int}{pr:List (Nat×dk)}{nm:List Nat}{k:bl}{A:bl}
theorem yO{j:List Nat}{s:Nat->Bool}{g:E->kv}(o:ascii j=true)(p:j.length<=1000)(cZ:∀c∈j,∀c1:Bool->U->Prop,c1 (s c) e->g (.str [c]) c1 e)(q:k (.lst ((j.filter s).map λ c=>E.str [c])) e):h' (.str j) g (λ v k=>k v) k e:=by
 have h:hx e (.str j)=some _:=aU o
 refine sG h (λ i b M=>M=e/\b=((j.take i).filter s).map λ c=>E.str [c]) ⟨rfl,rfl⟩ (λ z z z z=>trivial) (λ i x b r B f a l=>?_) λ b r a=>?_
 ·refine bc a λ t u=>?_;clear a;subst t;subst u
  rw[j'] at f
  refine a' (gD.mp f) λ c m w=>?_;clear f;subst w
  have d:j.take (i+1)=j.take i++[c]:=by rw[lJ,m];rfl
  refine⟨?_,cZ c (j_ m) _ ?_⟩
  ·rw[cM]
   exact ah (List.length_filter_le ..) (ah (sy ..) (ah p (ae rfl)))
  ·rcases n:s c with _|_
   ·exact l _ _ ⟨rfl,by rw[d,List.filter_append,List.filter_cons_of_neg (by rw[n];decide),e8];exact(gS _).symm⟩
   ·exact l _ _ ⟨rfl,by rw[d,List.filter_append,List.filter_cons_of_pos n,e8];rfl⟩
 ·refine bc a λ y A=>?_;clear a;clear cZ h;subst y;subst A
  rw[cM,nJ]
  exact q
set_option tactic.hygienic true in
theorem bP.run(h:bP aI e st aZ a9 t cD pr a g o nm u){n:Nat}(Y:1<=n){signs w bk:List Nat}(V:t.drop a=w++bk)(D:∀c∈w,signs.contains c=true)(E:∀c r,bk=c::r->signs.contains c=false)(q:∀M,bP aI M st aZ a9 t cD pr (a+w.length) g o nm u->t.drop (a+w.length)=bk->A (.str w) M):
  call n 65 [.ref st,.str signs,.int (-1)] A e:=by
 apply iG Y;intro n Q
 have F:a+w.length+bk.length=t.length:=by
  have:=bA List.length V
  rw[jn,bR] at this
  have:=h.al
  lia
 have s:∀M,bP _ _ st aZ a9 t _ pr _ g o nm u->fc (bp 65 [] 2 (call n)) (eX A) _ (q3 _ (some (.str signs)) (some (.int (-1))) _) _:=λ M d=>by
  refine f3 (aH (Ux ..) (d.h5 (d.at_ (kR h.hC (eM h.nE) (eM d.nE) (gm ?_)))))
  rw[show(some a).getD 0=a from rfl,oY,V,List.take_left]
  exact q M d (by rw[<-nK,V,List.drop_left])
 refine aH (aeF ..) (h.at_ (mb (λ bh ak M=>ak=q3 _ _ _ _/\∃i,i<=w.length/\bh=w.length-i/\bP _ M st aZ a9 t _ pr (a+i) g o nm u) (λ bh ak R S v y z z=>xU v λ G i f H C=>?_) ⟨rfl,0,de _,rfl,h⟩));clear v;subst G;subst H
 have m:t.drop (a+i)=w.drop i++bk:=by rewrite[<-nK,V,List.drop_append,show i-w.length=0 by exact cB ((Nat.le_total _ _).elim (λ p=>J [_,_,_] 0x8c0214c009481 L f (di p)) λ p=>aL (vZ p)) (J [_] 131136 L),mU];rfl
 have wx:i<w.length->∃c,t[a+i]?=some c/\c∈w:=λ B=>by
  refine⟨w[i],?_,List.getElem_mem _⟩
  have:=bA (λ l=>l[0]?) m
  simp only[so,Nat.add_zero] at this
  rw[this,oQ _];rfl
 refine aH (adj ..) (d_ (C.at_ (C.h5 (j0 h.hC (iD (iY (λ j=>?_) λ j=>?_))))))
 ·have B:=dR.mp (gg j)
  by_cases b:i<w.length
  ·refine a' (wx b) λ c k K=>C.h5 (C.at_ (kk C.nE k (bg (bA _ ((xC c _).trans (D c K))) (gE (C.at_ (df rfl (bg (bA some ?_) (gE ?_))))))))
   ·show(!a+i-(a:Int)==-1)=true
    rw[fH.mpr (by lia)];rfl
   ·exact aH (Uw ..) (C.at_ (iC (C.h3 (eL:=a+i+1) (k1.mpr (cB (J [_,_] 0x1114040044520000 L) (J [_,_] 0x1114800044501000 L))) (by assumption) λ T I=>(y _ _ _ (J [_,_,_,_] 0x142238004088c03802628081 L (d2 _ _) (di b)) ⟨rfl,i+1,b,rfl,I⟩).1)))
  ·have N:=cB f (cI b)
   clear b;subst N
   refine a7 (o5 B) λ c k=>?_
   have O:∃r,bk=c::r:=by
    have:=bA (λ l=>l[0]?) m
    simp only[so,Nat.add_zero] at this
    rw[k,List.drop_length] at this
    clear V q;rcases bk with _|_
    case nil=>cases this
    case cons x r=>obtain rfl:=ck this;exact⟨r,rfl⟩
   exact a7 O λ r P=>C.h5 (C.at_ (kk C.nE k (bg (bA _ ((xC c _).trans (E c r P))) (mV (s _ C)))))
 ·have:=cB f (J [_,_,_,_,_] 0x20a04100709cc520001 L (aL F) (hT.mp (jF.mp (rb j))))
  clear f y m wx j;subst this
  exact s _ C
theorem BZ{c:Nat}:∀(w:List Nat){bk:List Nat}{y:Nat},c∉w->iT [c] (w++c::bk) y=some (y+w.length)
 |[],bk,y,_=>by
  show(if[c].isPrefixOf _=true then some y else _)=_
  rw[aU (by show(c==c&&true)=true;rw[eC];rfl)]
  rfl
 |x::w,bk,y,h=>by
  show(if[c].isPrefixOf _=true then some y else iT _ (w++c::bk) _)=_
  rw[a8 (by show¬(c==x&&true)=true;rw[fH.mpr (λ D=>h (rwr D (f9 ..)):c≠x)];decide),BZ w λ D=>h (gT _ D)]
  congr 1
  exact cB (J [_,_] 0x1114040142220000 L) (J [_,_] 0x5088800044501000 L)
theorem Wv{R:dp}{j x:List Nat}{a:Nat}{r:Option Nat}{D:Int}(hz:D=a)(b:a<=j.length)(c:a<=1000000000)(h:iT x (j.drop a) a=r)(q:k (.int (BY r)) e):(b0 (.str j) vw λ cP=>bY R cP (.str j) [.str x,.int D] k) e:=by
 subst hz
 show match if(decide _&&dU a&&decide _)=true then some _ else none with|some v=>k v e|none=>False
 rw[js c,fi (hT.mpr b),Int.toNat_natCast,h]
 exact q
theorem bP.until(h:bP aI e st aZ a9 t cD pr a g o nm u){n c:Nat}(Y:1<=n){w bk:List Nat}(V:t.drop a=w++c::bk)(d:c∉w)(q:∀M,bP aI M st aZ a9 t cD pr (a+w.length+1) g o nm u->t.drop (a+w.length+1)=bk->A (.str w) M):call n 67 [.ref st,.str [c]] A e:=by
 apply iG Y;intro n j
 have b:a+w.length+1+bk.length=t.length:=by
  have:=bA List.length V
  rw[jn,bR,fW] at this
  lia
 have iL:=h.iL
 refine aH (aeH ..) (h.h5 (vd (cP:=.find) (by kernel_rfl) (h.at_ ?_)))
 show match if(decide _&&dU a&&decide _)=true then some (E.int _) else none with|some v=>_|none=>False
 rw[js h.nE,fi (hT.mpr h.al),Int.toNat_natCast,(by exact rwl V (BZ w d):iT [c] (t.drop a) a=some (a+w.length))]
 refine rJ (λ f=>bB _ (J [_,_] 0x2088001044520001 L (dR.mp f))) (br (h.h5 (h.at_ (kR h.hC (eM h.nE) (eM (J [_,_,_,_] 0x3b9aca0030ca4001e848083384e6088a400001 L (aL b) iL)) ?_))))
 rw[show(some a).getD 0=a from rfl,oY,V,List.take_left]
 exact df rfl (h.h3 rfl (J [_,_,_,_] 0xe111480000e6088a400001 L (aL b)) λ M i=>q _ i (by rw[ez,<-nK,V,show w.length+1=(w++[c]).length by simp,show w++c::bk=w++[c]++bk by simp,List.drop_left]))
end
end
section
section
variable{aI e:U}{st aZ a9 a g o u:Nat}{t:List Nat}{cD:Int}{pr:List (Nat×dk)}{nm:List Nat}{k:bl}{A:bl}
def md(c:Nat):Prop:=48<=c/\c<58
theorem yS{P:Nat->Prop}(a:P 48)(C:P 49)(I:P 50)(ag:P 51)(b:P 52)(d:P 53)(e:P 54)(f:P 55)(g:P 56)(i:P 57){c:Nat}(h:md c):P c:=by
 obtain⟨k,rfl⟩:=fw h.1
 rcases k with _|_|_|_|_|_|_|_|_|_|k
 ·exact a
 ·exact C
 ·exact I
 ·exact ag
 ·exact b
 ·exact d
 ·exact e
 ·exact f
 ·exact g
 ·exact i
 ·exact absurd (Nat.lt_of_add_lt_add_right h.2) (lI.mpr (gC 10 k))
noncomputable def val(j:List Nat):Nat:=j.foldl (λ v c=>v*10+(c-48)) 0
theorem XS{c:Nat}(h:md c):iT [pd c] [48,49,50,51,52,53,54,55,56,57,97,98,99,100,101,102] 0=some (c-48):=by
 refine yS (P:=λ c=>iT [pd c] _ 0=some (c-48)) ?_ ?_ ?_ ?_ ?_ ?_ ?_ ?_ ?_ ?_ h<;>kernel_rfl
theorem zP{j:List Nat}(k:∀c∈j,md c)(s:j.length<=3){n:Nat}(Y:1<=n)(q:A (.int (val j)) e):call n 66 [.str j,.int 10] A e:=by
 apply iG Y;intro n H
 have l:hx e (.str j)=some _:=aU (k0.mpr λ c a=>fi (by have:=k c a;exact J [_] 0x8010c2220001d086111001 L this.2))
 refine aH (aeG ..) (k8 l (λ i ak M=>M=e/\(∃p,ak=q4 _ _ (some (.int (val (j.take i)))) p)/\val (j.take i)<10^i) ⟨rfl,⟨none,rfl⟩,(ae rfl:0<1)⟩ (λ z z z z=>trivial) (λ i x ak h I f b t z z=>?_) λ ak h b=>?_)
 ·refine e_ b λ u m o=>?_;clear b;subst u;refine a7 m λ p w=>?_;clear m;subst w
  rw[j'] at f
  refine a' (gD.mp f) λ c a y=>?_;subst y
  have g:=k c (j_ a)
  have K:=d7 (ix.mp a).1 s
  have d:val (j.take (i+1))=val (j.take i)*10+(c-48):=by
   unfold val
   rw[lJ,a,List.foldl_append];rfl
  have N:c-48<10:=J [_,_] 0x50822280040c04328021d086111001 L g.2 (di g.1)
  have B:10^i<=100:=by
   rcases(by lia:i=0\/i=1\/i=2) with rfl|rfl|rfl<;>decide
  have C:=d7 o B
  refine aH (Xc ..) (aH (Uy ..) (df (v:=.int (val (j.take i)*10:Nat)) ?_ ?_))
  ·show(if(small _&&small 10)=true then some _ else none)=_
   rw[Kx (by exact hT.mpr (J [_] 131136 L)) (by exact hT.mpr (J [_] 0x1d1a94a20008190032086111001 L C))]
   rfl
  have D:og h [c] .lower []=some _:=aU (by
   rw[show ascii _=true from k0.mpr λ x f=>fi (by rw[fu.mp f];exact J [_] 0x8010c2220001d086111001 L g.2)];rfl)
  have E:og h [48,49,50,51,52,53,54,55,56,57,97,98,99,100,101,102] .index [.str [pd c]]=some (.int (c-48:Nat)):=by
   show(iT _ _ 0).bind _=_
   rw[XS g];rfl
  exact vd (by kernel_rfl) (vd (by kernel_rfl) (z_ D (z_ E (df (v:=.int _) (by rw[d];rfl) (df rfl (lL (bA _ (bA _ (a8 (show¬1114112<(val _:Int) by lia)))) (t _ _ ⟨rfl,⟨_,rfl⟩,(by rw[d,Nat.pow_succ];lia)⟩).1))))))
 ·refine e_ b λ F r o=>?_;clear b;clear l;subst F;refine a7 r λ p G=>?_;clear r;subst G
  rw[cM,nJ]
  exact f3 (aH (Uz ..) (gm q))
noncomputable def VK(n:Nat):Bool:=(fj n).all (λ c=>Nat.ble 48 c&&Nat.ble (c+1) 58)&&Nat.ble (fj n).length 3&&Nat.beq (val (fj n)) n&&!(fj n).isEmpty
theorem VL:(List.range 1000).all VK=true:=by decide+kernel
theorem sH{n:Nat}(h:n<1000):(∀c∈fj n,md c)/\(fj n).length<=3/\val (fj n)=n/\fj n≠[]:=by
 have k:=sk.mp (k0.mp VL n (List.mem_range.mpr h))
 have a:=sk.mp k.1
 have b:=sk.mp a.1
 refine⟨λ c e=>?_,sj b.2,Nat.eq_of_beq_eq_true a.2,λ D=>?_⟩
 ·have d:=sk.mp (k0.mp b.1 c e)
  exact⟨sj d.1,sj d.2⟩
 ·exact cy (k.2.symm.trans (bA (λ l=>!l.isEmpty) D)).symm
theorem afi{n c:Nat}(h:md c\/c=110):call (n+1) 7 [.str [c]] A e=A (.bool true) e:=by
 rcases h with h|rfl
 ·refine yS (P:=λ c=>call _ 7 [.str [c]] A e=A _ e) ?_ ?_ ?_ ?_ ?_ ?_ ?_ ?_ ?_ ?_ h<;>kernel_rfl
 ·kernel_rfl
theorem JA{m:Nat}(b:m<1000){n:Nat}(Y:2<=n)(q:∀M,ei e M->A (.bool true) M):call n 84 [.str (dQ m)] A e:=by
 apply D1 Y;intro n i
 refine f5 (sH b) λ d f j k=>?_
 have a:∀c∈dQ m,md c\/c=110:=λ c a=>(ew.mp a).elim .inr λ D=>.inl (d c D)
 refine aH (aeP ..) (fX (bg (r:=true) rfl (p5 (bx rfl (bg (by kernel_rfl) (p5 (yO (k0.mpr λ c h=>fi (by rcases a c h with h|h;exact J [_] 0x8010c2220001d086111001 L h.2;exact J [_] 0x1002184440006e10c81 L (aL h))) (J [_] 0x1f408611100018881 L f) (λ c h c1 g=>aH (afi (a c h)) (dj (br g))) ?_)))))))
 rw[List.filter_eq_nil_iff.mpr λ z z=>by decide]
 exact e2 (ae rfl) (bg (wj .lst) (q _ (.alloc _ _ _)))
noncomputable def eA(f:Bool):List Nat:=if f then[105] else[]
theorem Hh(f:Bool):([105,109,115,120].filter λ c=>iq [c] (eA f))=eA f:=by rcases f with _|_<;>kernel_rfl
theorem I2{R:dp}{f:Bool}(q:k (.str (eA f)) e):bY R .join (.str []) [.lst ((eA f).map λ c=>E.str [c])] k e:=by
 rcases f with _|_<;>exact q
theorem u2{K:fp->U->Prop}{j:List Nat}(q:K .join e):b0 (.str j) r0 K e:=vd (by kernel_rfl) q
theorem bP.Ar(h:bP aI e st aZ a9 t cD pr a g o nm u){n:Nat}(Y:2<=n){f:Bool}(V:(t.drop a).take 3≠[40,63,35])(q:A (.bool false) e):call n 96 [.ref st,.str (eA f)] A e:=by
 apply iG Y;intro n b
 refine aH (aeU ..) (h.jv (by assumption) (ae rfl) V (dj (br (bg ?_ (cF q)))))
 rcases f with _|_<;>kernel_rfl
set_option tactic.hygienic true in
theorem bP.flags(h:bP aI e st aZ a9 t cD pr a g o nm u){n:Nat}(Y:2<=n){f:Bool}(b:∀c r,t.drop a=c::r->[105,109,115,120].contains c=false/\c≠45)(q:∀M,bP aI M st aZ a9 t cD pr a g o nm u->A (.str (eA f)) M):call n 97 [.ref st,.str (eA f)] A e:=by
 apply iG Y;intro n k
 refine aH (aeV ..) ?_
 delta Fe Fg Ff;rw[Gm]
 refine h.run (w:=[]) (by assumption) rfl (λ c b=>nomatch b) (λ c r d=>(b c r d).1) λ l C z=>fX (C.jv (by assumption) (ae rfl) (λ D=>?_) (dj (br (u2 ?_))))
 ·rcases j:t.drop a with _|_
  case nil=>rw[show a+[].length=a from rfl,j] at D;cases D
  case cons c r=>
   rw[show a+[].length=a from rfl,j] at D
   exact(b c r j).2 (e0 D).1
 ·refine yO (s:=λ c=>iq [c] (eA f)) rfl (ae rfl) (λ c b c1 i=>d_ (d_ (bg rfl (l' (λ d=>gE ?_) λ d=>?_)))) ?_
  ·rw[d] at i
   exact bg rfl (gE (cF i))
  ·rw[d] at i
   exact bg rfl (iW (mV (br i)))
  ·rw[Hh]
   exact I2 (q _ C)
end
end
section
theorem Xd(R:dp)(K:Loc->U->Prop)(e:U)(da dY g:E)(a b c o d f:Option E):d6 86 [] 4 R (.tup [da,dY,g]) (vQ a b c o d f) K e=K (vQ a b c (some da) (some dY) (some g)) e:=by kernel_rfl
def sa(bk:List Nat):Prop:=(∀c r,bk=c::r->c≠42/\c≠43/\c≠63/\c≠123/\(c<48\/57<c))/\bk.take 3≠[40,63,35]
section
variable{aI e:U}{st aZ a9 a g o u:Nat}{t:List Nat}{cD:Int}{pr:List (Nat×dk)}{nm:List Nat}{k:bl}{A:bl}
theorem bP.inline(h:bP aI e st aZ a9 t cD pr a g o nm u){n:Nat}(Y:3<=n){f:Bool}(V:(t.drop a).take 2=[40,63]->∀c r,t.drop (a+2)=c::r->[105,109,115,120].contains c=false/\c≠45)(q:∀M,bP aI M st aZ a9 t cD pr a g o nm u->A .none M):call n 98 [.ref st,.str (eA f)] A e:=by
 apply iG Y;intro n b
 refine aH (aeW ..) (h.at_ (h.Ei (ah (ae rfl) b) _ (ae rfl) (λ d i C=>dj (br ?_)) λ z=>dj (cF (q e h))))
 exact C.flags (by assumption) (V d) λ j I=>d_ (I.at_ (df rfl (wy (Int.lt_irrefl _) (mV (br (I.h3 rfl h.al λ k ag=>q _ ag))))))
theorem VC{t body bk:List Nat}{a:Nat}(V:t.drop a=123::(body++125::bk)):cut t (a+1) (some (a+1+body.length))=body:=by
 rw[oY,<-nK,V]
 show(body++_).take _=body
 rw[List.take_left]
theorem acq{R:dp}{body:List Nat}{a:List (List Nat)}(b:vt body=some a)(q:k (.lst (a.map .str)) e):(b0 (.str body) xD λ cP=>bY R cP (.str body) [.str [44]] k) e:=by
 refine vd (cP:=.split) (by kernel_rfl) (z_ ?_ q)
 show(if[44]=[44] then(vt _).bind _ else none)=_
 exact rwl b (aU rfl)
theorem strs_map:∀l:List (List Nat),vv (l.map E.str)=some l
 |[]=>rfl
 |x::l=>by
  show(vv _).map _=_
  rw[strs_map l];rfl
theorem zw{R:dp}{l:List (List Nat)}{j:List Nat}(a:(ig j l).length+l.length*(j.length+1)<=c7)(q:k (.str (ig j l)) e):bY R .join (.str j) [.lst (l.map .str)] k e:=by
 refine z_ ?_ q
 show(vv _).bind _=_
 rw[strs_map]
 exact aU a
noncomputable def Ko(x:List Nat):List (List Nat)->Nat
 |[]=>val x
 |H::_=>val H
theorem U8{n:Nat}{D:Int}(hz:D=a)(Y:2<=n)(cZ:t.length<=500000)(j:a<=t.length){body bk x:List Nat}{dr:List (List Nat)}(V:t.drop a=123::(body++125::bk))(N:125∉body)(v:vt body=some (x::dr))(b_:dr=[]\/∃H,dr=[H]/\H≠[]/\(∀c∈H,md c)/\H.length<=3)(O:x≠[])(k:x.length<=3)(l:∀c∈x,md c)
  (q:∀M,ei e M->A (.tup [.int (val x),.int (Ko x dr),.int ((a+(body.length+2):Nat):Int)]) M):call n 85 [.str t,.int D] A e:=by
 apply iG Y;intro n dm
 have w:=by
  have:=bA List.length V
  rw[jn,fW,bR] at this
  exact cB (J [_,_,_,_,_] 0x105108803800041cc009822088a020001 L (aL this.symm) (di j)) (J [_,_,_,_,_] 0xc211408000e041007084411180500081 L (aL this) (d2 _ _))
 refine a7 (⟨_,rfl⟩:∃y,y=a+(body.length+1)) λ y dE=>a7 (⟨_,rfl⟩:∃b,b=a+1) λ b m=>?_
 have Q:iT [125] (t.drop a) a=some y:=by
  rw[V,dE]
  exact BZ (123::body) (by intro D;rcases ew.mp D with D|D;exact absurd D (by decide);exact N D)
 have nF:∀y,y<=t.length->y<=1000000000:=λ y=>J [_,_] 0x1dcd65001865010a17a12020c81 L cZ
 have o:∀c∈ig [] (x::dr),md c:=by
  intro c B
  rcases b_ with rfl|⟨H,rfl,_,I,_⟩
  ·exact l c B
  ·rcases fv.mp (B) with h|h
   ·exact l c (by simpa using h)
   ·exact I c h
 have g:(ig [] (x::dr)).length<=6/\dr.length<=1:=by
  rcases b_ with rfl|⟨H,rfl,_,_,ag⟩
  ·exact⟨ah k (ae rfl),ae rfl⟩
  ·refine⟨?_,bw 1⟩
   show(x++[]++H).length<=6
   rw[gS,bR];exact J [_,_] 0xc229000188a118881 L k ag
 refine aH (aeQ ..) (Wv hz j (nF _ j) Q (mA (λ r M=>r=.lst ((x::dr).map .str)/\M=e) (λ R p=>HB (i4 _) (cF (df (by rw[hz,m];rfl) (kR (ah cZ (ae rfl)) (eM (n:=b) (nF _ (cI λ f=>bB _ (J [_,_,_,_,_] 0x411010111c0108880404e6108a020001 L (aL w) (aL m) f)))) (eM (nF _ (J [_,_,_,_,_] 0x74002228080404e6108a020001 L (aL w) (aL dE)))) ?_)))) λ r M C=>?_))
 ·rw[show(some b).getD 0=a+1 from m,show y=a+1+body.length by exact cB (J [_,_,_] 0x3044500080088c028081 L (aL dE)) (J [_,_,_] 0x31422200003044501001 L (aL dE.symm)),VC V]
  exact acq v (p _ _ ⟨rfl,rfl⟩)
 refine bc C λ S T=>?_;clear C;subst S;subst T
 have u:((x::dr).map E.str).length=dr.length+1:=by rw[cM];rfl
 have i:((x::dr).map E.str).length<=c7:=by rw[u];exact ah (h9 g.2) (ae rfl)
 refine d_ (dw.lst.len i (rJ (λ f=>bB _ (J [_] 0x41100220882220001 L (dR.mp f))) (iW (dw.lst.len i (wy (by rw[u];exact λ f=>bB _ (J [_] 0x4110022200221080108881 L g.2 (dR.mp f))) (iW (bx rfl (hu ?_))))))))
 rw[(by rcases x with _|_;exact absurd rfl O;rfl:(x==[])=false)]
 refine iW (br (u2 (zw (by show _+(dr.length+1)*1<=8000000;lia) (yO (s:=λ c=>!iq [c] [48,49,50,51,52,53,54,55,56,57]) (k0.mpr λ c h=>fi (by have:=o c h;exact J [_] 0x8010c2220001d086111001 L this.2)) (J [_] 0x3e810c8030881 L g.1) (λ c h c1 F=>?_) ?_))))
 ·refine bg (r:=!iq _ [48,49,50,51,52,53,54,55,56,57]) rfl (jL (λ d=>?_) λ d=>?_)<;>(rw[d] at F;exact F)
 rw[List.filter_eq_nil_iff.mpr λ c h=>by
  rw[yS (P:=λ c=>iq [c] _=true) rfl rfl rfl rfl rfl rfl rfl rfl rfl rfl (o c h)];decide]
 refine e2 (ae rfl) (bg (by show(jO _ (.lst []) _).map _=_;rw[wj .lst];rfl) (br (bx rfl (zP l k (by assumption) (dw.lst.len i (jN ?_))))))
 have d:=Fr.alloc (λ z=>False) M (.list [])
 rcases b_ with rfl|⟨H,rfl,U,W,X⟩
 ·exact cF (df (by rw[dE];rfl) (cb (cn (n:=3) (by decide)) rfl (q _ d)))
 ·have Z:(H==[])=false:=by clear v o g u i;rcases H with _|_;exact absurd rfl U;rfl
  refine br (mA (λ r G=>r=.int (val H)/\ei M G) (λ R p=>bx rfl (hu ?_)) λ r G K=>?_)
  ·exact rwl Z (br (bx rfl (zP W X (by assumption) (p _ _ ⟨rfl,d⟩))))
  ·refine bc K λ eV a_=>?_;clear K;subst eV
   exact df (by rw[dE];rfl) (cb (cn (n:=3) (by decide)) rfl (q _ a_))
inductive SE(c:Nat):Prop where
 |one (j:Nat) (a3:(f' c).2.2=[j]) (a_:∀e,lM e .In (.str [j]) v9=some true) (fQ:∀e,n8 e v9 (.str [j])=some (.tup [.int (dg c),.int (dW c)]))
 |Bm (body x:List Nat) (dr:List (List Nat)) (a3:(f' c).2.2=123::(body++[125])) (a_:125∉body) (cT:vt body=some (x::dr)) (ep:dr=[]\/∃H,dr=[H]/\H≠[]/\(∀c∈H,md c)/\H.length<=3) (fQ:x≠[]) (hW:x.length<=3) (ro:∀c∈x,md c) (G0:val x=dg c) (BO:((Ko x dr:Nat):Int)=dW c) (V4:dg c<=2) (GZ:0<=dW c) (V5:dW c<=2) (V6:(dg c:Int)<=dW c)
theorem wg{n:Nat}(h:md n):∀c∈[n],md c:=λ c a=>rwl (fu.mp a) h
theorem Vn{c:Nat}(h:c<6):SE c:=
 u_ h (.one 42 rfl λ z=>by kernel_rfl λ z=>by kernel_rfl) (.one 43 rfl λ z=>by kernel_rfl λ z=>by kernel_rfl) (.one 63 rfl λ z=>by kernel_rfl λ z=>by kernel_rfl)
  (.Bm [49,44,50] _ _ rfl (by decide) rfl (.inr ⟨[50],rfl,by decide,wg ⟨by decide,by decide⟩,by decide⟩) (by decide) (ae rfl) (wg ⟨ae rfl,ae rfl⟩) rfl rfl (ae rfl) (by decide) (by decide) (by decide))
  (.Bm [50] _ [] rfl (by decide) rfl (.inl rfl) (by decide) (by decide) (wg ⟨by decide,by decide⟩) rfl rfl (ae rfl) (by decide) (by decide) (by decide))
  (.Bm [48,44,50] _ _ rfl (by decide) rfl (.inr ⟨[50],rfl,by decide,wg ⟨by decide,by decide⟩,by decide⟩) (by decide) (ae rfl) (wg ⟨ae rfl,ae rfl⟩) rfl rfl (ae rfl) (by decide) (by decide) (by decide))
theorem bP.count(h:bP aI e st aZ a9 t cD pr a g o nm u){n c:Nat}(Y:3<=n)(s:c<6){bk:List Nat}(V:t.drop a=(f' c).2.2++bk)(q:∀M,bP aI M st aZ a9 t cD pr (a+(f' c).2.2.length) g o nm u->t.drop (a+(f' c).2.2.length)=bk->A (.tup [.int (dg c),.int (dW c)]) M):call n 86 [.ref st] A e:=by
 apply iG Y;intro n l
 have d:a+(f' c).2.2.length+bk.length=t.length:=by
  have:=bA List.length V
  rw[jn,bR] at this
  have:=h.al
  lia
 have f:t.drop (a+(f' c).2.2.length)=bk:=by rw[<-nK,V,List.drop_left]
 rcases Vn s with⟨j,b,i,k⟩|⟨body,x,dr,b,i,y,B,k,D,E,F,G,S,H,T,U⟩
 ·rw[b] at V d q
  refine aH (Ap ..) (h.peek (ah (ae rfl) l) (by rw[V];rfl) (d_ (bg (r:=true) rfl (gE (bg (i _) (gE (cF (h.at_ (iC (h.h3 (eL:=a+1) rfl (J [_,_,_] 0xc1110003142220001 L (aL d)) λ K C=>bx (k _) (q _ C (by rw[b] at f;exact f))))))))))))
 ·have m:t.drop a=123::(body++125::bk):=by rw[V,b];simp
  have N:(f' c).2.2.length=body.length+2:=by rw[b];simp
  rw[N] at q d f
  refine aH (Ap ..) (h.peek (ah (ae rfl) l) (w:=[123]) (by rw[m];rfl) (d_ (bg rfl (gE (bg (by kernel_rfl) (mV (br (mA (λ r M=>r=.tup _/\bP _ M st aZ a9 t _ pr a g o nm u) (λ W O=>hu (cF (h.h5 (h.at_ (U8 rfl (by assumption) h.iL h.al m i y B k D E λ K P=>O _ _ ⟨by rw[F,G],h.ext P⟩))))) λ r M p=>bc p λ Q R=>?_))))))));clear p;subst Q
  refine bg rfl (br (aH (Xd ..) (aH (UG ..) (lL (v:=.int (dW c)) ?_ (wy (by lia) (br (d_ (Dl ?_))))))))
  ·exact bA _ (bA _ (by show(if dg c<dW c then dW c else dg c)=dW c;split<;>lia))
  ·rw[fi H]
   refine cF (rJ (by lia) (br (R.h3 (eL:=a+(body.length+2)) rfl (J [_,_,_,_] 0xe211404000e6108a020001 L (aL d)) λ X I=>cb (cn (n:=2) (ae rfl)) rfl (gm (q _ I f)))))
set_option tactic.hygienic true in
theorem bP.GL(h:bP aI e st aZ a9 t cD pr a g o nm u){n:Nat}(Y:3<=n)(i:sa (t.drop a))(q:A .none e):call n 86 [.ref st] A e:=by
 apply iG Y;intro n f
 rcases b:t.drop a with _|_
 case nil=>exact aH (Ap ..) (h.peek (ah (ae rfl) f) (w:=[]) (by rw[b];rfl) (d_ (bg rfl (mV (br (fX (bg rfl (br (bg rfl (cF q))))))))))
 case cons c r=>
  refine xT (i.1 c r b) λ j en k l z=>?_
  have m:=by
   have d:∀x,c≠x->([c]==[x])=false:=λ x p=>fH.mpr λ D=>p (e0 D).1
   show some ([c]==[42]||([c]==[43]||([c]==[63]||false)))=some false
   rw[d 42 j,d 43 en,d 63 k];rfl
  have s:=by
   show some ([c]==[123])=some false
   rw[fH.mpr λ D=>l (e0 D).1]
  exact aH (Ap ..) (h.peek (ah (ae rfl) f) (by rw[b];rfl) (d_ (bg (r:=true) rfl (gE (bg m (mV (br (fX (bg s (br (bg rfl (cF q))))))))))))
end
end
section
theorem Hw(R:dp)(K:Loc->U->Prop)(e:U)(da dY:E)(a b c o d:Option E):d6 88 [] 0 R (.tup [da,dY]) (q7 a b c o d) K e=K (q7 a b (some da) (some dY) d) e:=by kernel_rfl
section
variable{aI e:U}{st aZ a9 a g o u:Nat}{t:List Nat}{cD:Int}{pr:List (Nat×dk)}{nm:List Nat}{k:bl}{A:bl}{f:Bool}
theorem bP.GN(h:bP aI e st aZ a9 t cD pr a g o nm u){n:Nat}{v:E}(Y:5<=n)(b:sa (t.drop a))(q:A v e):call n 102 [.ref st,.str (eA f),v] A e:=by
 apply iG Y;intro n c
 refine aH (La ..) (mb (m:=0) (λ bh ak M=>M=e/\ak=ny _ _ _ _ _ _) (λ bh ak k l d z z z=>bc d λ i j=>?_) ⟨rfl,rfl⟩);clear d;subst i;subst j
 exact aH (KW ..) (h.Ar (ah (ae rfl) c) b.2 (dj (f3 (aH (F0 ..) (h.GL (ah (ae rfl) c) b (bg rfl (cF (gm q))))))))
set_option tactic.hygienic true in
theorem bP.VA(h:bP aI e st aZ a9 t cD pr a g o nm u){n c m:Nat}{v:E}(Y:5<=n)(F:c<6)(G:m<3)(J:fM v=true){bk:List Nat}(V:t.drop a=(f' c).2.2++(jt m++bk))(s:sa bk)(K:(t.drop a).take 3≠[40,63,35])
  (q:∀M,bP aI M st aZ a9 t cD pr (a+(f' c).2.2.length+(jt m).length) g o nm u->t.drop (a+(f' c).2.2.length+(jt m).length)=bk->A (.tup [.str qz,v,.int (dg c),.int (dW c),.str (zH m)]) M):call n 102 [.ref st,.str (eA f),v] A e:=by
 apply iG Y;intro n i
 refine aH (La ..) (mb (m:=0) (λ bh ak M=>M=e/\ak=ny _ _ _ _ _ _) (λ bh ak S L l z z z=>bc l λ N O=>?_) ⟨rfl,rfl⟩);clear l;subst N;subst O
 refine aH (KW ..) (h.Ar (ah (ae rfl) i) K (dj (f3 (aH (F0 ..) (h.count (ah (ae rfl) i) F V λ T I j=>bg rfl (br ?_))))))
 generalize B:E.tup _=w
 have fin:∀p (b:Nat),bP _ _ st aZ a9 t _ pr b g o nm u->t.drop b=bk->b=a+(f' c).2.2.length+(jt m).length->kn _ (bp 102 [(5,0)] 0 (call n)) _ (fc (bp 102 [] 6 (call n)) (eX A)) _:=λ p b ag k d=>by
  refine mb (m:=0) (λ bh ak M=>M=p/\ak=ny (some (.ref st)) (some (.str (eA f))) (some v) (some w) (some (.str (zH m))) none) (λ bh ak U L l z z z=>bc l λ P Q=>?_) ⟨rfl,rfl⟩;clear l;subst P;subst Q
  refine aH (ade ..) (ag.Ar (ah (ae rfl) i) (by rw[k];exact s.2) (dj (f3 (aH (TO ..) (ag.at_ (ag.GL (ah (ae rfl) i) (by rw[k];exact s) (bg rfl (br (bx (by rw[<-B];rfl) (bx (by rw[<-B];rfl) (cb (cn (n:=5) (ae rfl)) (by show(true&&fM v&&(true&&true&&(true&&true)))=true;rw[J];rfl) (gm ?_))))))))))))
  subst d
  exact q _ ag k
 revert j fin;apply u9 G<;>intro j fin
 ·
  have C:∀x,x=63\/x=43->(t.drop _).take 1≠[x]:=λ x R D=>by
   rw[j] at D
   rcases y:bk with _|_
   case nil=>rw[y] at D;cases D
   case cons H r=>
    rw[y] at D
    have:=s.1 H r y
    have d:=(e0 D).1
    rcases R with rfl|rfl
    ·exact this.2.2.1 d
    ·exact this.2.1 d
  exact I.jv (ah (by decide) i) (by decide) (C 63 (.inl rfl)) (dj (br (I.jv (ah (by decide) i) (by decide) (C 43 (.inr rfl)) (dj (br (fin _ _ I (by rw[j];rfl) rfl))))))
 ·exact I.lq (ah (by decide) i) j (by decide) λ p ag k=>dj (cF (fin _ _ ag k rfl))
 ·exact I.jv (ah (by decide) i) (by decide) (λ D=>by rw[j] at D;exact absurd (e0 D).1 (by decide)) (dj (br (I.lq (ah (by decide) i) j (by decide) λ p ag k=>dj (cF (fin _ _ ag k rfl)))))
theorem Zd{p:Option dk}{m x:Nat}(h:p=some (.list [.int m])\/p=some (.flist [.int m]))(a:p=some (.list [.int x])\/p=some (.flist [.int x])):m=x:=by
 rcases h with h|h
 ·rcases a with a|a
  ·have d:=dd (h.symm.trans a)
   injection d with d;injection d with d;injection d with d
   exact k1.mp d
  ·exact absurd (h.symm.trans a) (by simp)
 ·rcases a with a|a
  ·exact absurd (h.symm.trans a) (by simp)
  ·have d:=dd (h.symm.trans a)
   injection d with d;injection d with d;injection d with d
   exact k1.mp d
theorem bP.El(h:bP aI e st aZ a9 t cD pr a g o nm u){n m:Nat}{b:Int}{v:E}(Y:1<=n)(O:0<m)(P:m<=g)(b6:u<=900000)(f:∃r,v=.ref r/\(e.get r=some (.list [.int m])\/e.get r=some (.flist [.int m]))/\r<e.next/\aI.next<=r/\r≠st/\r≠aZ/\r≠a9/\(∀s∈pr,s.1≠r))
  (q:∀M,bP aI M st aZ a9 t cD pr a g o nm (u+1)->e.next<=M.next->(∃r,v=.ref r/\M.get r=some (.flist [.int m]))->A v M):call n 87 [.ref st,v,.int b] A e:=by
 apply iG Y;intro n dm
 refine LJ f λ r Q V ab aT R S w T=>?_;clear f;subst Q
 refine ov h.ex λ B cG U W F X G Z=>aH (aeR ..) (h.KA (qw F ?_))
 have key:∀c,c.next=e.next->(∀i,i≠r->c.get i=e.get i)->c.get r=some _->bY (call n) _ _ [.tup _] (λ z=>A _) c:=λ c j k H=>by
  refine p2 ((k a9 w.symm).trans F) (ah (ah G b6) (ae rfl)) (q _ ?_ (jE j.symm) ⟨r,rfl,(ef w).trans H⟩)
  have CO:∀{nm:List _}{B:List E},ho e aI.next st aZ a9 nm B->ho (c.upd a9 (.list (cG++[.tup [.lst [.int m],.int b]]))) aI.next st aZ a9 nm B:=by
   intro nm
   induction nm with
   |nil=>intro B h;(rcases B with _|_;(case nil=>trivial);(case cons _ _=>exact h.elim))
   |cons x nm ay=>
    intro B h
    rcases B with _|_
    case nil=>exact h.elim
    case cons v B=>
     refine bc h λ J EW=>?_;clear h;refine aft J λ eg a0 bL g8 y l EV K=>?_;clear J
     refine⟨⟨eg,a0,?_,by show eg<c.next;rw[j];exact g8,y,l,EV,K⟩,ay EW⟩
     rw[ef K]
     by_cases L:eg=r
     ·clear ab w q;subst L
      have:=Zd V bL
      subst this
      exact .inr H
     ·exact rwl (k eg L) bL
  exact{
   ex:=cu B (cG++[.tup _]) ⟨(ef h.fL).trans ((k aZ S.symm).trans U),CO W,dI ..,λ v f=>by
    rcases fv.mp f with f|f
    ·exact X v f
    ·rw[fu.mp f];exact cu m b ⟨rfl,O,P⟩,by rw[bR];exact h9 G,Z⟩
   p:=(ef h.dh).trans ((k st R.symm).trans h.p)
   cC:=h.cC
   dh:=h.dh
   fL:=h.fL
   C:=by show st<c.next;rw[j];exact h.C
   I:=by show aZ<c.next;rw[j];exact h.I
   ag:=by show a9<c.next;rw[j];exact h.ag
   aX:=h.aX
   bS:=h.bS
   dv:=h.dv
   iH:=λ s N=>xT (h.iH s N) λ a0 bL g8 y l=>⟨(ef l).trans ((k _ (T s N)).trans a0),by show s.1<c.next;rw[j];exact bL,g8,y,l⟩
   fr:=⟨by show aI.next<=c.next;rw[j];exact h.fr.next,λ i D z=>(ef (e' (d7 D h.dv))).trans ((k i (e' (d7 D aT))).trans (h.fr.same i D id))⟩
   iL:=h.iL
   al:=h.al}
 refine⟨cn (n:=2) (ae rfl),?_⟩
 unfold tupK
 rcases V with V|V
 ·have d:iz [.ref r,.int b] e=([.lst [.int m],.int b],e.upd r (.flist [.int m])):=by
   show((hc _ e).1::(iz _ _).1,(iz _ _).2)=_
   have:hc (.ref r) e=(.lst [.int m],e.upd r (.flist [.int m])):=by
    unfold hc
    simp only[V]
   rw[this]
   rfl
  rw[d]
  exact key _ rfl (λ i=>ef) (dI ..)
 ·have d:iz [.ref r,.int b] e=([.lst [.int m],.int b],e):=by
   show((hc _ e).1::(iz _ _).1,(iz _ _).2)=_
   have:hc (.ref r) e=(.lst [.int m],e):=by
    unfold hc
    simp only[V]
   rw[this]
   rfl
  rw[d]
  exact key _ rfl (λ z z=>rfl) V
theorem Be{r m:Nat}(V:e.get r=some (.flist [.int m]))(q:k (sE f m) e):b9 [.str oa,.ref r,.bool f] k e:=by
 refine⟨cn (n:=3) (ae rfl),?_⟩
 unfold tupK
 have d:iz [.str oa,.ref r,.bool f] e=([.str oa,.lst [.int m],.bool f],e):=by
  have:hc (.ref r) e=(.lst [.int m],e):=by
   unfold hc
   simp only[V]
  show(E.str _::(hc _ e).1::(iz _ _).1,(iz _ (hc (.ref r) e).2).2)=_
  rw[this]
  rfl
 exact rwl d q
end
end
section
section
variable{aI e:U}{st aZ a9 a g o u:Nat}{t:List Nat}{cD:Int}{pr:List (Nat×dk)}{nm:List Nat}{k:bl}{A:bl}{f:Bool}
theorem ho.ref{lo st aZ a9 r:Nat}:∀{nm:List Nat}{B:List E},ho e lo st aZ a9 nm B->E.ref r∈B->r<e.next
 |n::nm,v::B,⟨⟨eg,C,_,ag,_⟩,b⟩,a=>by
  rcases ew.mp a with a|a
  ·rw[C] at a;(injection a with a0;clear C;subst a0);exact ag
  ·exact b.ref a
 |[],[],_,a=>nomatch a
theorem ho.put{lo st aZ a9 i:Nat}{a:dk}{nm:List Nat}{B:List E}(h:ho e lo st aZ a9 nm B):(∀r,E.ref r∈B->r≠i)->ho (e.upd i a) lo st aZ a9 nm B:=
 h.ind (bh:=λ nm B=>(∀r,E.ref r∈B->r≠i)->ho (e.upd i a) lo st aZ a9 nm B) (λ z=>trivial) λ n nm r B I ag b z c V=>⟨⟨r,rfl,(ef (V r (f9 ..))).symm▸I,ag,b⟩,c λ r h=>V r (gT _ h)⟩
theorem bP.new(h:bP aI e st aZ a9 t cD pr a g o nm u)(c:dk):bP aI (e.alloc c) st aZ a9 t cD ((e.next,c)::pr) a g o nm u:=
 have f:=h.ext (.alloc _ e c)
 {f with
  ex:=by
   refine ov h.ex λ B cG l j m n p q=>?_
   have d:=Fr.alloc (λ z=>False) e c
   refine cu B cG ⟨d.get l h.I id,j.ext (λ i D z z z=>d.same i D id) d.next,d.get m h.ag id,n,p,λ s b k=>?_⟩
   rcases ew.mp b with rfl|b
   ·exact((Nat.lt_irrefl _) (j.ref k)).elim
   ·exact q s b k
  iH:=λ s b=>by
   rcases ew.mp b with rfl|b
   ·exact⟨fR ..,eo _,hU h.C,hU h.I,hU h.ag⟩
   ·exact f.iH s b}
theorem bP.forget{s:Nat×dk}(h:bP aI e st aZ a9 t cD (s::pr) a g o nm u):bP aI e st aZ a9 t cD pr a g o nm u:=
 {h with
  ex:=by
   exact ov h.ex λ B cG c d f i j k=>cu B cG ⟨c,d,f,i,j,λ s b=>k s (gT _ b)⟩
  iH:=λ s b=>h.iH s (gT _ b)}
theorem bP.upd{i:Nat}{d:dk}(h:bP aI e st aZ a9 t cD ((i,d)::pr) a g o nm u)(l:aI.next<=i)(m:∀s∈pr,s.1≠i)(f:dk):bP aI (e.upd i f) st aZ a9 t cD ((i,f)::pr) a g o nm u:=by
 refine xT (h.iH _ f9 ..) λ a0 bL g8 j k=>?_
 exact{h with
  ex:=by
   exact ov h.ex λ B cG n q v w x c=>cu B cG ⟨(ef j.symm).trans n,q.put λ r V D=>c _ (f9 ..) (rwr D V),(ef k.symm).trans v,w,x,λ s b=>by
    rcases ew.mp b with rfl|b
    ·exact c (i,d) (f9 ..)
    ·exact c s (gT _ b)⟩
  p:=(ef g8.symm).trans h.p
  C:=h.C
  I:=h.I
  ag:=h.ag
  iH:=λ s b=>by
   rcases ew.mp b with rfl|b
   ·exact⟨dI ..,bL,g8,j,k⟩
   ·exact bc (h.iH s (gT _ b)) λ y A=>⟨(ef (m s b)).trans y,A⟩
  fr:=h.fr.j1 l}
theorem bP.top{i:Nat}{b:dk}(h:bP aI e st aZ a9 t cD ((i,b)::pr) a g o nm u):e.get i=some b:=(h.iH _ f9 ..).1
theorem bP.fresh(h:bP aI e st aZ a9 t cD pr a g o nm u):aI.next<=e.next/\∀s∈pr,s.1≠e.next:=⟨h.fr.next,λ s b=>e' (h.iH s b).2.1⟩
theorem WS{i:Nat}{B ai dr:List E}(b:e.get i=some (.list B))(a:ai.all fM=true)(b_:dr.all fM=true):iz (ai++.ref i::dr) e=(ai++.lst B::dr,e.upd i (.flist B)):=by
 induction ai with
 |nil=>
  show((hc _ e).1::(iz dr _).1,(iz dr _).2)=_
  have:hc (.ref i) e=(.lst B,e.upd i (.flist B)):=by
   unfold hc
   simp only[b]
  rw[this,B7 b_]
  rfl
 |cons x ai c=>
  rw[List.all_cons,ml] at a
  have d:hc x e=(x,e):=by
   have:=a.1
   rcases x with _|_<;>first|rfl|exact cy this
  show((hc x e).1::(iz (ai++.ref i::dr) _).1,(iz (ai++.ref i::dr) _).2)=_
  rw[d]
  rw[c a.2]
  rfl
theorem An{i:Nat}{B ai dr:List E}(a:e.get i=some (.list B))(b:ai.all fM=true)(b_:dr.all fM=true)(c:(ai++.ref i::dr).length<=100)(q:k (.tup (ai++.lst B::dr)) (e.upd i (.flist B))):b9 (ai++.ref i::dr) k e:=by
 refine⟨cn c,?_⟩
 unfold tupK
 rw[WS a b b_]
 exact q
theorem lU{c:Nat}{j:List Nat}{b:Bool}(h:iq [c] j=b):lM e .In (.str [c]) (.str j)=some b:=bA _ h
theorem bP.member(h:bP aI e st aZ a9 t cD pr a g o nm u){n c:Nat}(Y:4<=n){bk:List Nat}(V:t.drop a=c::bk)(d:c=97\/c=98)(q:∀M i,bP aI M st aZ a9 t cD ((i,.list [.tup [.str qA,.int c,.int c]])::pr) (a+1) g o nm u->t.drop (a+1)=bk->A (.ref i) M):call n 73 [.ref st] A e:=by
 apply iG Y;intro n f
 have j:a+1+bk.length=t.length:=by
  have:=bA List.length V
  rw[jn,fW] at this
  lia
 have l:∀K,K .none e->call n 72 _ K e:=λ K m=>by
  refine a7 (fw (k:=1) (cI λ p=>bB _ (J [_] 0x822004411100120c41 L f p))) λ n r=>?_;subst r
  refine aH (aeI ..) (h.h5 (vd (cP:=.find) (by kernel_rfl) (h.at_ ?_)))
  show match if(decide _&&dU a&&decide _)=true then some (E.int _) else none with|some v=>_|none=>False
  rw[js h.nE,fi (hT.mpr h.al)]
  refine d_ (h.h5 (h.at_ (h.at_ (df rfl (kR h.hC (eM h.nE) (eM (h.nF (ae rfl))) ?_)))))
  rw[show(some a).getD 0=a from rfl,oY,V]
  refine bg ?_ (xl (cF m))
  show some (!(c::bk).take 2==[91,58])=some _
  rw[fH.mpr λ D=>by
   have:=(e0 D).1
   exact bB _ (d.elim (λ b=>J [_] 0x1044020c221845b10c81 L (aL this) (aL b.symm)) λ b=>J [_] 0x1044020c421845b10c81 L (aL this) (aL b.symm))]
  rfl
 refine aH (aeJ ..) (l _ (bg rfl (br (h.peek (ah (ae rfl) f) (w:=[c]) (by rw[V];rfl) (h.at_ (iC (h.h3 (eL:=a+1) rfl (J [_,_,_] 0xc1110003142220001 L (aL j)) λ s C=>bg ?_ (br (lL rfl (lL rfl (cb (cn (n:=3) (ae rfl)) rfl (e2 (cn (n:=1) (ae rfl)) (q _ _ (C.new _) (by rw[<-nK,V];rfl))))))))))))))
 show some ([c]==[92])=some _
 rw[fH.mpr λ D=>by have:=(e0 D).1;exact bB _ (d.elim (λ b=>J [_] 0x1044020c221845c10c81 L (aL this) (aL b.symm)) λ b=>J [_] 0x1044020c421845c10c81 L (aL this) (aL b.symm))]
end
end
section
section
variable{aI e:U}{st aZ a9 a g o u:Nat}{t:List Nat}{cD:Int}{pr:List (Nat×dk)}{nm:List Nat}{k:bl}{A:bl}{f:Bool}
theorem wq(f:Bool):iq [105] (eA f)=f:=by rcases f with _|_<;>rfl
theorem WA(f:Bool):iq [115] (eA f)=false:=by rcases f with _|_<;>rfl
theorem Hg(f:Bool):iq [109] (eA f)=false:=by rcases f with _|_<;>rfl
theorem sL{c:Nat}{r:List Nat}(h:t.drop a=c::r)(b:a<=t.length):t.drop (a+1)=r/\a+1<=t.length:=by
 refine⟨by refine rwr nK (rwl h ?_);rfl,?_⟩
 have:=bA List.length h
 rw[jn] at this
 exact J [_,_,_,_] 0x7088c001cc5004a111001 L (aL this.symm) (di b)
theorem ne_str{c x:Nat}(h:c≠x):(([c]:List Nat)==[x])=false:=fH.mpr λ D=>h (e0 D).1
theorem kA{c x:Nat}{c1:Bool->U->Prop}(h:c≠x)(q:c1 false e):aE .Eq (.str [c]) (.str [x]) c1 e:=hu (by exact rwl ((ne_str h)) q)
theorem uB{c:Nat}{c1:Bool->U->Prop}(q:c1 true e):aE .Eq (.str [c]) (.str [c]) c1 e:=hu (by rw[eC];exact q)
theorem aaU{c:Nat}{aA dB aw bz aR:Prop}(a:(c=97/\aA)\/(c=98/\dB)\/(c=46/\aw)\/(c=94/\bz)\/(c=36/\aR)):c≠40/\c≠91/\c≠92/\c≠42/\c≠43/\c≠63/\c≠123:=by
 rcases a with h|h|h|h|h<;>(refine rwl h.1 ?_;decide)
theorem bP.plain(h:bP aI e st aZ a9 t cD pr a g o nm u){n c:Nat}{v:E}(Y:3<=n){bk:List Nat}(V:t.drop a=c::bk)(d:(c=97/\v=gX f 0)\/(c=98/\v=gX f 1)\/(c=46/\v=gX f 2)\/(c=94/\v=e1 f (.place 0))\/(c=36/\v=e1 f (.place 1)))
  (q:∀M,bP aI M st aZ a9 t cD pr (a+1) g o nm u->A v M):call n 101 [.ref st,.str (eA f)] A e:=by
 apply iG Y;intro n i
 refine bc (sL V h.al) λ l j=>?_
 have b:=aaU d
 have k:=by
  show some ([c]==[42]||([c]==[43]||([c]==[63]||false)))=some false
  refine rwl (ne_str b.2.2.2.1) (rwl (ne_str b.2.2.2.2.1) (rwl (ne_str b.2.2.2.2.2.1) ?_));rfl
 refine aH (Ao ..) (h.peek (ah (ae rfl) i) (by refine(rwl V ?_);rfl) (kA b.1 (br (kA b.2.1 (br (kA b.2.2.1 (br (d_ (bg k (iW (d_ (kA b.2.2.2.2.2.2 (mV (iW (br (h.at_ (iC (h.h3 rfl j λ m C=>?_))))))))))))))))))
 have q:=q _ C
 rcases d with⟨rfl,rfl⟩|⟨rfl,rfl⟩|⟨rfl,rfl⟩|⟨rfl,rfl⟩|⟨rfl,rfl⟩
 ·exact kA (by decide) (br (kA (by decide) (br (kA (by decide) (br (bg (lU (wq f)) (cb (cn (n:=3) (by decide)) rfl q)))))))
 ·exact kA (by decide) (br (kA (by decide) (br (kA (by decide) (br (bg (lU (wq f)) (cb (cn (n:=3) (by decide)) rfl q)))))))
 ·exact uB (cF (bg (lU (WA f)) (cb (cn (n:=2) (by decide)) rfl q)))
 ·exact kA (by decide) (br (uB (cF (fX (bg (lU (Hg f)) (br (cb (cn (n:=2) (by decide)) rfl q)))))))
 ·exact kA (by decide) (br (kA (by decide) (br (uB (cF (fX (bg (lU (Hg f)) (br (cb (cn (n:=2) (by decide)) rfl q)))))))))
theorem bP.escape(h:bP aI e st aZ a9 t cD pr a g o nm u){n:Nat}(Y:1<=n){bk:List Nat}(V:t.drop a=92::bk)(q:∀m,m+1=n->call m 107 [.ref st,.str (eA f)] A e):call n 101 [.ref st,.str (eA f)] A e:=by
 refine a' (J5 Y) λ n d c=>?_;subst d
 by_cases b:1<=n
 ·exact aH (Ao ..) (h.peek b (by refine rwl V ?_;rfl) (kA (by decide) (br (kA (by decide) (br (uB (cF (q n rfl))))))))
 ·have:n=0:=cB (J [_] 74767932657665 L (pV b)) c
  clear c Y b;subst this
  exact(q 0 rfl).elim
theorem bP.G8(h:bP aI e st aZ a9 t cD pr a g o nm u){n c:Nat}{v:E}(Y:2<=n){bk:List Nat}(V:t.drop a=92::c::bk)(j:(c=119/\v=gX f 4)\/(c=98/\v=e1 f (.place 2)))(q:∀M,bP aI M st aZ a9 t cD pr (a+2) g o nm u->A v M):call n 107 [.ref st,.str (eA f)] A e:=by
 apply iG Y;intro n l
 refine bc (sL V h.al) λ b d=>bc (sL b d) λ m i=>aH (Lc ..) (h.at_ (bg (lU (wq f)) (h.at_ (iC (h.h3 rfl d λ p C=>C.peek (by assumption) (w:=[c]) (by refine rwl b ?_;rfl) (d_ (bg rfl (gE ?_))))))))
 refine qP (ae rfl) ?_
 rcases j with⟨rfl,rfl⟩|⟨rfl,rfl⟩
 ·refine bg (lU rfl) (gE (cF (C.at_ (iC (C.h3 (eL:=a+2) rfl i λ k I=>cb (cn (n:=2) (by decide)) rfl (e2 (cn (ae rfl)) ?_))))))
  have ag:=I.new (.list [.tup [.str zT,.str [119]]])
  exact An (ai:=[.str _]) ag.top rfl rfl (show 4<=100 by decide) (q _ (ag.upd I.fresh.1 I.fresh.2 _).forget)
 ·refine bg (lU rfl) (mV (br (d_ (bg rfl (gE (bg (lU rfl) (gE (cF (C.at_ (iC (C.h3 (eL:=a+2) rfl i λ k I=>cb (cn (n:=2) (by decide)) rfl (q _ I))))))))))))
theorem one_sign{n c:Nat}{i:Nat}(Y:1<=n)(f:e.get i=some (.list [.tup [.str qA,.int c,.int c]]))(g:i<e.next)(q:A (.bool true) e):call n 74 [.ref i] A e:=by
 apply iG Y;intro n h
 have b:dw e (.ref i) [.tup [.str qA,.int c,.int c]]:=⟨by(rewrite[iV];refine rwl f ?_);rfl,λ y d=>by(injection d with a0;subst a0);exact g⟩
 have a:∀(K:bl),K _ e->item _ _ K e:=λ K=>b.item (i:=0) (ae rfl) rfl
 refine aH (aeK ..) (fX (b.len (show 1<=8000000 by decide) (bg rfl (p5 (a _ (bx rfl (bg rfl (p5 (a _ (bx rfl (a _ (bx rfl (jN ?_)))))))))))))
 rw[eC]
 exact q
noncomputable def vl(c:Nat):E:=.tup [.str qA,.int c,.int c]
theorem ZQ{i:Nat}{B:List E}{K:fp->U->Prop}(h:e.get i=some (.list B))(q:K .extend e):b0 (.ref i) (Str.ofString "extend") K e:=rK h (by kernel_rfl) q
set_option tactic.hygienic true in
theorem bP.ab4(h:bP aI e st aZ a9 t cD pr a g o nm u){n:Nat}{cW:Bool}{j:List Nat}(Y:6<=n)(K:∀c∈j,c=97\/c=98)(Q:j≠[])(R:j.length<=9){bk:List Nat}(V:t.drop a=91::((if cW then[94] else[])++(j++93::bk)))(q:∀M,bP aI M st aZ a9 t cD pr (a+(if cW then 1 else 0)+j.length+2) g o nm u->A (.tup [.str ph,.lst (j.map vl),.bool cW,.bool f]) M):call n 76 [.ref st,.bool f] A e:=by
 apply iG Y;intro n l
 refine bc (sL V h.al) λ E aa=>aH (aeL ..) (h.at_ (h.at_ (iC (h.h3 rfl aa λ av C=>?_))))
 have N:∀x b,bP _ _ st aZ a9 t _ pr b g o nm u->t.drop b=j++93::bk->b=a+1+(if cW then 1 else 0)->(dJ [] λ yq=>kn _ _ _ (fc (bp 76 [] 6 (call n)) (eX A))) x:=λ x b I F S=>by
  have eY:b+j.length+1+bk.length=t.length:=by
   have:=bA List.length F
   rw[jn,bR,fW] at this
   have:=I.al
   omega
  refine e2 (ae rfl) (mb (λ bh ak M=>∃i b3 cX,i<=j.length/\bh=j.length-i/\ak=q5 (some (.ref st)) (some (.bool f)) (some (.int a)) (some (.bool cW)) (some (.ref x.next)) (some (.bool (i==0))) b3 cX/\bP aI M st aZ a9 t cD ((x.next,.list ((j.take i).map vl))::pr) (b+i) g o nm u) (λ bh ak c9 d3 T U z z=>j3 T λ i b3 cX G ey tY ag=>?_) (gw 0 none none ⟨de _,rfl,rfl,I.new _⟩));clear T;subst ey;subst tY
  have m:t.drop (b+i)=j.drop i++93::bk:=(rwr nK (rwl F (rwl List.drop_append (rwl ((show i-j.length=0 by exact cB ((Nat.le_total _ _).elim (λ p=>J [_,_,_] 0x8c0214c009481 L G (di p)) λ p=>aL (vZ p)) (J [_] 131136 L))) (rwl mU rfl)))))
  by_cases s:i<j.length
  ·have O:=K _ (List.getElem_mem s)
   rw[oQ s] at m
   generalize aG:j[i]=c at m O
   have body:bp 76 [(5,0)] 0 (call n) (q5 (some (.ref st)) (some (.bool f)) (some (.int a)) (some (.bool cW)) (some (.ref x.next)) (some (.bool (i==0))) b3 cX) d3 c9:=by
    refine aH (UA ..) (ag.peek (ah (by decide) l) (w:=[c]) (by refine rwl m ?_;rfl) (bg rfl (br (ag.member (ah (ae rfl) l) m O λ f6 y k W=>?_))))
    refine a7 (⟨_,rfl⟩:∃d,d=b+i+1) λ d X=>?_
    rw[<-X] at k W
    refine k.h5 (k.at_ (k.at_ (df rfl (kR k.hC (eM k.nE) (eM (k.nF (ae rfl))) (e_ (k.iH _ f9 ..) λ Z Dc z=>d_ (one_sign (ah (by decide) l) Z Dc (dj (gE (rwl ((show(some d).getD 0=d from rfl)) (rwl oY (rwl W ?_)))))))))))
    refine kR (ah (List.length_take_le ..) (ae rfl):((j.drop (i+1)++93::bk).take 2).length<=c7) rfl (eM (ae rfl)) (bg ?_ (mV (br ?_)))
    ·rcases af:j.drop _ with _|_
     case nil=>rfl
     case cons H r=>
      show some ([H]==[45])=some _
      rw[ne_str (by exact λ B=>bB _ ((K H (List.mem_of_mem_drop (rwl af (f9 ..)))).elim (λ P=>J [_] 0x1044020c221842d10c81 L (aL B) (aL P.symm)) λ P=>J [_] 0x1044020c421842d10c81 L (aL B) (aL P.symm)))]
    ·have v:=k.forget
     refine ZQ v.top ?_
     unfold bY
     simp only[v.top]
     show match listOf _ _ with|some dr=>_|none=>False
     (rewrite[iV];refine rwl Z ?_)
     refine⟨?_,(U (j.length-(i+1)) _ _ (J [_,_,_,_] 0x142238004088c03802628081 L (d2 _ _) (di s)) (gw (i+1) _ _ ⟨s,rfl,rfl,?_⟩)).1⟩
     ·rw[cM]
      have:=List.length_take_le i j
      exact J [_,_,_] 0xf42400518446000a6090a148881 L R G this
     ·have fx:=v.upd I.fresh.1 I.fresh.2 (.list ((j.take i).map vl++[vl c]))
      refine lJ.symm▸(hK s).symm▸aG.symm▸e8.symm▸?_
      rw[X] at fx
      exact fx
   refine aH (KX ..) (d_ (dj (l' (λ d=>body) λ d=>ag.peek (ah (by decide) l) (w:=[c]) (by refine rwl m ?_;rfl) (bg ?_ (xl body)))))
   show some (![c]==[93])=some _
   rw[ne_str (by exact λ B=>bB _ (O.elim (λ p=>J [_] 0x1044020c221845d10c81 L (aL B) (aL p.symm)) λ p=>J [_] 0x1044020c421845d10c81 L (aL B) (aL p.symm)))];rfl
  ·have CB:=cB G (cI s)
   clear G U s;subst CB
   rw[List.drop_length] at m
   have hz:(j.length==0)=false:=by
    rcases j with _|_
    case nil=>exact(Q rfl).elim
    case cons _ _=>rfl
   refine aH (KX ..) (d_ (dj (rwl hz (iW (ag.peek (ah (by decide) l) (w:=[93]) (by refine rwl m ?_;rfl) (bg rfl (iW (f3 (aH (UB ..) (ag.at_ (iC (ag.h3 (eL:=b+j.length+1) rfl (J [_,_,_,_] 0xe111480000e6088a400001 L (aL eY)) λ f6 k=>?_))))))))))))
   refine An (ai:=[.str _]) k.top rfl rfl (show 4<=100 by decide) (gm ?_)
   have v:=(k.upd I.fresh.1 I.fresh.2 (.flist ((j.take j.length).map vl))).forget
   rw[nJ] at v⊢
   rw[show b+j.length+1=a+(if cW then 1 else 0)+j.length+2 by exact cB (J [_,_,_,_] 0x8473140000447200003044500081 L (aL S)) (J [_,_,_,_] 0x4473000211ca4000003142220001 L (aL S.symm))] at v
   exact q _ v
 rcases cW with _|_
 case true=>exact C.lq (ah (by decide) l) E (by decide) λ x I F=>N _ _ I F rfl
 case false=>
  refine C.jv (ah (by decide) l) (by decide) (λ D=>?_) (N _ _ C E rfl)
  rw[E] at D
  clear R V q E N;rcases j with _|_
  case nil=>exact Q rfl
  case cons c r=>
   have:=K c f9 ..
   have:=(e0 D).1
   lia
end
end
section
section
variable{aI e:U}{st aZ a9 a g o u:Nat}{t:List Nat}{cD:Int}{pr:List (Nat×dk)}{nm:List Nat}{k:bl}{A:bl}{f:Bool}
theorem zJ{m n:Nat}(a:m<1000)(Y:n<1000)(h:dQ m=dQ n):m=n:=by
 have d:=bA val (e0 h).2
 rw[(sH a).2.2.1,(sH Y).2.2.1] at d
 exact d
theorem ho.look{lo st aZ a9 m:Nat}(c:m<1000){nm:List Nat}{B:List E}(h:ho e lo st aZ a9 nm B):(∀x∈nm,x<1000)->m∈nm->∃r,hV (nm.map dQ) B (dQ m)=some (.ref r)/\E.ref r∈B/\(e.get r=some (.list [.int m])\/e.get r=some (.flist [.int m]))/\r<e.next/\lo<=r/\r≠st/\r≠aZ/\r≠a9:=
 h.ind (bh:=λ nm B=>(∀x∈nm,x<1000)->m∈nm->∃r,hV (nm.map _) B _=some (.ref r)/\E.ref r∈B/\(e.get r=some _\/e.get r=some _)/\r<e.next/\lo<=r/\r≠st/\r≠aZ/\r≠a9) (λ z a=>nomatch a) λ n nm r B I ag f z g b a=>by
  by_cases d:n=m
  ·subst d
   refine⟨r,?_,f9 ..,I,ag,f⟩
   show(match dQ n==dQ n with|true=>some _|false=>_)=_
   rw[eC]
  ·refine fB (g (λ x i=>b x (gT _ i)) ((ew.mp a).resolve_left λ D=>d D.symm)) λ eg a0 bL g8=>⟨eg,?_,gT _ bL,g8⟩
   show(match dQ m==dQ n with|true=>some _|false=>hV _ B _)=_
   exact rwl (fH.mpr λ D=>d (zJ c (b n f9 ..) D).symm) a0
theorem Js{i:Nat}{az:List (List Nat)}{B:List E}{K:fp->U->Prop}(h:e.get i=some (.dict az B))(q:K .setdefault e):b0 (.ref i) vx K e:=rK h (by kernel_rfl) q
theorem bP.named(h:bP aI e st aZ a9 t cD pr a g o nm u){n m:Nat}{b:Int}(Y:4<=n)(G:0<m)(H:m<=g)(k:m<1000)(K:∀x∈nm,x<1000)(N:m∈nm)(O:nm.length<=1000)(b6:u<=900000){bk:List Nat}(V:t.drop a=60::(dQ m++62::bk))
  (q:∀M r,bP aI M st aZ a9 t cD pr (a+(dQ m).length+2) g o nm (u+1)->M.get r=some (.flist [.int m])->A (.ref r) M):call n 88 [.ref st,.int b] A e:=by
 apply iG Y;intro n c
 refine aH (aeS ..) (cb (cn (n:=2) (by decide)) rfl (cb (cn (n:=2) (by decide)) rfl (cb (cn (n:=2) (by decide)) rfl (e2 (cn (ae rfl)) ?_))))
 have C:=h.new (.list [.tup [.str [123],.str [125]],.tup [.str [60],.str [62]],.tup [.str [39],.str [39]]])
 have l:dw _ (.ref e.next) [.tup [.str [123],.str [125]],.tup [.str [60],.str [62]],.tup [.str [39],.str [39]]]:=.new
 generalize U.alloc e _=P at C l⊢
 refine k8 l.items (λ i ak M=>M=P/\(i=0/\ak=q7 _ _ _ _ _\/i=1/\ak=q7 (some (.ref st)) (some (.int b)) (some (.str [123])) (some (.str [125])) none)) ⟨rfl,.inl ⟨rfl,rfl⟩⟩ (λ i ak M f=>by exact rwl f.1 l.hQ) (λ i v ak M d3 w f Q z R=>?_) λ ak M f=>?_
 ·obtain⟨rfl,⟨rfl,rfl⟩|⟨rfl,rfl⟩⟩:=f
  ·obtain rfl:=ck w
   exact aH (Hw ..) (aH (Ga ..) (C.jv (ah (by decide) c) (ae rfl) (λ D=>by rw[V] at D;exact absurd (e0 D).1 (by decide)) (dj (br (Q _ _ ⟨rfl,.inr ⟨rfl,rfl⟩⟩).1))))
  ·obtain rfl:=ck w
   refine aH (Hw ..) (aH (Ga ..) (C.lq (ah (by decide) c) V (ae rfl) λ aS I S=>dj (cF (I.until (ah (by decide) c) S ?_ λ c9 ag hb=>JA k (ah (ae rfl) c) λ T W=>dj (br ?_)))))
   ·intro D
    rcases ew.mp D with D|D
    ·exact absurd D (by decide)
    ·have:=(sH k).1 62 D
     exact bB _ (J [] 0x104400e8430883e10c01 L this.2)
   have j:=(ag.ext W).forget
   refine ov j.ex λ B cG y X cT ep fQ Z=>LJ (X.look k K N) λ r a0 bL g8 E oy EV AE EW=>j.DA (Js y (e2 (ae rfl) ?_))
   have d:=Fr.alloc (λ z=>False) T (.list [])
   unfold bY
   simp only[(d.get y j.I id)]
   refine⟨?_,?_⟩
   ·rw[cM]
    exact O
   rw[a0]
   refine(j.ext d).El (ah (by decide) c) G H b6 ⟨r,rfl,by rw[d.same r E id];exact g8,d7 E d.next,oy,EV,AE,EW,λ s aq D=>Z s aq (rwl D bL)⟩ λ vJ F z p=>a' p λ eg ro p=>?_
   (injection ro with a0;subst a0)
   refine R _ _ _ (q _ r ?_ p)
   rw[show a+[60].length+(dQ m).length+1=a+(dQ m).length+2 by exact cB (J [_,_] 0x108a4000222844400000 L) (J [_,_] 0x88a1110000084520000 L)] at F
   exact F
 ·obtain⟨_,⟨D,_⟩|⟨D,_⟩⟩:=f
  ·cases D
  ·cases D
set_option tactic.hygienic true in
theorem bP.numbered(h:bP aI e st aZ a9 t cD pr a g o nm u){n m:Nat}{b:Int}(Y:4<=n)(w:0<m)(x:m<=g)(y:m<1000)(b6:u<=900000){bk:List Nat}(V:t.drop a=123::(fj m++125::bk))
  (q:∀M r,bP aI M st aZ a9 t cD pr (a+(fj m).length+2) g o nm (u+1)->M.get r=some (.flist [.int m])->A (.ref r) M):call n 89 [.ref st,.int b] A e:=by
 apply iG Y;intro n f
 refine f5 (sH y) λ i B E l=>?_
 refine aH (aeT ..) (h.at_ (h.lq (ah (by decide) f) V (ae rfl) λ K C p=>C.jv (ah (by decide) f) (ae rfl) (λ D=>?_) ?_))
 ·rw[p] at D
  rcases j:fj m with _|_
  case nil=>exact l j
  case cons c r=>
   rw[j] at D
   have:=i c (rwl j (f9 ..))
   have d:=(e0 D).1
   exact bB _ (J [_] 0x104400b4432048180861 L this.1 (aL d))
 refine C.run (ah (by decide) f) p (λ c F=>yS (P:=λ c=>[48,49,50,51,52,53,54,55,56,57].contains c=true) rfl rfl rfl rfl rfl rfl rfl rfl rfl rfl (i c F)) λ c r d=>by(injection d with a0 bL;subst a0 bL);rfl λ N I G=>d_ (bg ?_ (iW (d_ (dj (gE (I.lq (ah (by decide) f) G (ae rfl) λ O ag Q=>dj (mV (iW (br (zP i B (ah (by decide) f) ?_))))))))))
 ·show some (fj m==[])=some _
  rw[fH.mpr l]
 rw[E]
 refine fX (dj (br (e2 (cn (n:=1) (ae rfl)) ?_)))
 have s:=ag.new (.list [.int m])
 refine s.forget.El (ah (by decide) f) w x b6 ⟨_,rfl,.inl s.top,eo _,ag.fresh.1,?_,?_,?_,ag.fresh.2⟩ λ R v z k=>?_
 ·exact hU ag.C
 ·exact hU ag.I
 ·exact hU ag.ag
 ·refine a' k λ eg H k=>?_
  (injection H with a0;subst a0)
  refine q _ _ ?_ k
  rw[show a+[123].length+(fj m).length+[125].length=a+(fj m).length+2 by exact cB (J [_,_] 0x108a4000222844400000 L) (J [_,_] 0x88a1110000084520000 L)] at v
  exact v
theorem BD:∀c<58,48<=c->([48,49,50,51,52,53,54,55,56,57]:List Nat).contains c=true/\(49<=c->iq [c] [49,50,51,52,53,54,55,56,57]=true/\iq [c] ([100,68,119,87,115,83,104,72,118,86]++[78])=false/\iq [c] [65,122,90,98,66,71]=false):=by decide+kernel
theorem aal{c:Nat}(h:c<48\/57<c):([48,49,50,51,52,53,54,55,56,57]:List Nat).contains c=false:=by
 rcases d:[48,49,50,51,52,53,54,55,56,57].contains c with _|_
 case false=>rfl
 case true=>
  exact(((by decide:∀x∈[48,49,50,51,52,53,54,55,56,57],¬(x<48\/57<x)) c (List.contains_iff_mem.mp d)) h).elim
theorem Wc{m:Nat}{w bk:List Nat}{s:Prop}(a:0<m)(b:(w=107::60::(dQ m++[62])/\s)\/w=103::123::(fj m++[125])\/(m<10/\w=fj m/\∀c r,bk=c::r->c<48\/57<c)):
  ∃c d,w=c::d/\iq [c] ([100,68,119,87,115,83,104,72,118,86]++[78])=false/\iq [c] [65,122,90,98,66,71]=false:=by
 rcases b with⟨rfl,_⟩|rfl|⟨C,rfl,_⟩
 ·exact cu _ _ ⟨rfl,rfl,rfl⟩
 ·exact cu _ _ ⟨rfl,rfl,rfl⟩
 ·exact cu (48+m) ([]) ⟨aU C,((BD _ (Nat.add_lt_add_left C 48) (dD ..)).2 (e7 a 48)).2⟩
theorem VS{m c:Nat}{b:List Nat}(e:0<m)(a:m<10)(d:fj m=c::b):c<58/\49<=c:=(rwr ((e0 ((aU a).symm.trans d)).1) (⟨Nat.add_lt_add_left a 48,e7 e 48⟩))
theorem Jf(a x H D:Nat)(w:List Nat):a+1+[x].length+w.length+2=a+(x::H::(w++[D])).length+1:=by simp;exact cB (J [_,_] 0x1104411140001001114220888000000 L) (J [_,_] 0x1114220888000001104411140001000 L)
theorem bP.G7(h:bP aI e st aZ a9 t cD pr a g o nm u){n m:Nat}{w:List Nat}(Y:6<=n)(b:0<m)(k:m<=g)(p:m<1000)(O:∀x∈nm,x<1000)(P:nm.length<=1000)(b6:u<=900000){bk:List Nat}(V:t.drop a=92::(w++bk))
  (F:(w=107::60::(dQ m++[62])/\m∈nm)\/w=103::123::(fj m++[125])\/(m<10/\w=fj m/\∀c r,bk=c::r->c<48\/57<c))
  (q:∀M,bP aI M st aZ a9 t cD pr (a+w.length+1) g o nm (u+1)->A (sE f m) M):call n 107 [.ref st,.str (eA f)] A e:=by
 refine a7 (g' (ah (ae rfl:1<=6) Y)) λ n Q=>?_;subst Q
 have Y:=kZ Y
 have cC:1<=n:=ah (ae rfl) Y
 have iE:4<=n:=ah (ae rfl) Y
 refine bc (sL V h.al) λ i R=>jd (Wc b F) λ c lz j G H=>aH (Lc ..) (h.at_ (bg (lU (wq f)) (h.at_ (iC (h.h3 rfl R λ av C=>C.peek cC (by rw[i,j];rfl) (d_ (bg (r:=true) rfl (gE (qP (ae rfl) (bg (lU G) (mV (br (d_ (bg rfl (gE (bg (lU H) (mV (br ?_))))))))))))))))))
 have first:∀x,x≠c->(t.drop _).take 1≠[x]:=λ x S D=>by
  rw[i,j] at D
  exact S (e0 D).1.symm
 rcases F with⟨rfl,T⟩|rfl|⟨J,rfl,U⟩
 ·(injection j with a0 bL;clear G H;subst a0 bL)
  refine C.jv cC (by decide) (first _ (by decide)) (dj (br (C.lq cC (i.trans (bA (λ l=>107::60::l) (el ..))) (by decide) λ K I s=>dj (cF (I.named iE b k p O T P b6 s λ W r ag v=>Be v (q _ (rwr (Jf a _ 60 62 _) ag)))))))
 ·exact C.lq cC (i.trans (bA (λ l=>103::123::l) (el ..))) (by decide) λ K I s=>dj (cF (I.numbered iE b k p b6 s λ W r ag v=>Be v (q _ (rwr (Jf a _ _ _ _) ag))))
 ·refine f5 (sH p) λ y X Z jM=>bc (VS b J j) λ B en=>?_
  refine C.jv cC (by decide) (first _ (hU (Nat.lt_trans B (ae rfl)))) (dj (br (C.jv cC (by decide) (first _ (hU (Nat.lt_trans B (ae rfl)))) (dj (br (d_ (bg rfl (gE (bg (lU ((BD c B (pY en)).2 en).1) (gE (cF (C.at_ (C.run cC i (λ c L=>(BD c (y c L).2 (y c L).1).1) (λ c r d=>aal (U c r d)) λ K I a_=>zP y X cC ?_)))))))))))))
  rw[Z]
  refine d_ (u' (dR.mpr J) (xl (cF (e2 (cn (n:=1) (ae rfl)) ?_))))
  have N:=I.new (.list [.int m])
  refine N.forget.El cC b k b6 ⟨_,rfl,.inl N.top,eo _,I.fresh.1,hU I.C,hU I.I,hU I.ag,I.fresh.2⟩ λ lB cY z E=>a' E λ eg ro E=>?_
  (injection ro with a0;subst a0)
  exact Be E (q _ (rwr (Nat.add_right_comm a 1 _) cY))
end
end
theorem B'(R:dp)(K:Loc->U->Prop)(e:U)(da dY:E)(a b c o:Option E):d6 99 [(1,0)] 0 R (.tup [da,dY]) (mO a b c o) K e=K (mO a (some dY) c (some da)) e:=by kernel_rfl
structure jy where
 aI:U
 st:Nat
 aZ:Nat
 a9:Nat
 t:List Nat
 cD:Int
 f:Bool
abbrev jy.P(aw:jy)(e:U)(pr:List (Nat×dk))(a g o:Nat)(nm:List Nat)(u:Nat):Prop:=bP aw.aI e aw.st aw.aZ aw.a9 aw.t aw.cD pr a g o nm u
def sh(aw:jy)(k:Nat)(args:List E)(ok:List Nat->Prop)(N bz:Nat)(w:List Nat)(v:E)(g bN:Nat)(nm c:List Nat)(b:Nat):Prop:=
 ∀(n:Nat)(pr:List (Nat×dk))(a o u:Nat)(e:U)(K:bl)(bk:List Nat),N<=n->o+bz<=39->aw.P e pr a g o nm u->aw.t.drop a=w++bk->ok bk->u+b<=900000->
  (∀M,aw.P M pr (a+w.length) bN o c (u+b)->aw.t.drop (a+w.length)=bk->K v M)->call n k (.ref aw.st::args) K e
def oE(aw:jy)(N bz:Nat)(w:List Nat)(v:E)(g bN:Nat)(nm c:List Nat)(b:Nat):Prop:=
 ∀(n:Nat)(pr:List (Nat×dk))(a o u:Nat)(e:U)(K:bl)(bk:List Nat),N<=n->o+bz<=39->aw.P e pr a g o nm u->aw.t.drop a=w++bk->sa bk->u+b<=900000->
  (∀M,aw.P M pr (a+w.length) bN o c (u+b)->aw.t.drop (a+w.length)=bk->K v M)->call n 101 [.ref aw.st,.str (eA aw.f)] (λ d=>call n 102 [.ref aw.st,.str (eA aw.f),d] K) e
def Fb(_:List Nat):Prop:=True
abbrev lF(aw:jy):=sh aw 101 [.str (eA aw.f)] Fb
theorem lF.atom{aw:jy}{N bz:Nat}{w:List Nat}{v:E}{g bN:Nat}{nm b:List Nat}{c:Nat}(f:7<=N)(h:lF aw N bz w v g bN nm b c):oE aw N bz w v g bN nm b c:=
 λ n pr a o u e K bk Y i j V k b6 q=>h n pr a o u e _ _ Y i j V trivial b6 λ M d p9=>bP.GN d (cI λ l=>bB _ (J [_,_] 0x41100a2088a00948121c41 L f Y l)) (by exact rwl p9 k) (q _ d p9)
def pP(j:List Nat):Prop:=(∃c r,j=c::r/\c≠124/\c≠41)/\sa j/\(j.take 2=[40,63]->∀c r,j.drop 2=c::r->[105,109,115,120].contains c=false/\c≠45)
def t2(bk:List Nat):Prop:=∀c r,bk=c::r->c=124\/c=41
set_option tactic.hygienic true in
theorem t2.uL{bk:List Nat}(h:t2 bk):sa bk:=⟨λ c r d=>by rcases h c r d with rfl|rfl<;>decide,λ D=>by
 rcases bk with _|_
 case nil=>cases D
 case cons c r=>have:=h c r rfl;have d:=(e0 D).1;exact bB _ (this.elim (λ a=>J [_] 0x1044020f821842810c81 L (aL d) (aL a.symm)) λ a=>J [_] 0x10440205221842810c81 L (aL d) (aL a.symm))⟩
inductive i2(aw:jy)(N bz:Nat):List Nat->List E->Nat->Nat->List Nat->List Nat->Nat->Prop
 |nil {g:Nat} {nm:List Nat}:i2 aw N bz [] [] g g nm nm 0
 |cons {w lz:List Nat} {v:E} {B:List E} {g cV dH:Nat} {nm l1 ve:List Nat} {dS BN:Nat}:oE aw N bz w v g cV nm l1 dS->(∀bk,pP (w++bk))->i2 aw N bz lz B cV dH l1 ve BN->i2 aw N bz (w++lz) (v::B) g dH nm ve (dS+BN)
theorem i2.uL{aw:jy}{N bz:Nat}{w:List Nat}{B:List E}{g bN:Nat}{nm a:List Nat}{b:Nat}(h:i2 aw N bz w B g bN nm a b){bk:List Nat}(V:t2 bk):sa (w++bk):=by
 cases h with
 |nil=>exact V.uL
 |cons _ C _=>rw[el];exact(C _).2.1
abbrev yk(aw:jy):=sh aw 100 [.str (eA aw.f)] t2
inductive FA(aw:jy)(N bz:Nat)(i:Nat)(pr:List (Nat×dk))(o bN:Nat)(dC bk:List Nat)(c_ mS:Nat)(B:List E)(bh:Nat)(ak:Loc)(M:U):Prop
 |of {mT tI:Nat} {iM:List Nat} {ni:List E} {cV:Nat} {l1:List Nat} {rn:Nat} {BJ:List E} {p:Option E} (aG:i2 aw N bz iM ni cV bN l1 dC rn) (kC:ni.length=bh) (wF:BJ++ni=B) (h:aw.P M ((i,.list BJ)::pr) mT cV o l1 tI) (agj:aw.t.drop mT=iM++bk) (k6:mT+iM.length=c_) (qa:tI+rn=mS)
  (Hb:ak=pM (some (.ref aw.st)) (some (.str (eA aw.f))) (some (.ref i)) p):FA aw N bz i pr o bN dC bk c_ mS B bh ak M
theorem row_more{j:List Nat}{c:Nat}{r:List Nat}{e:U}(d:j=c::r)(C:c≠124)(I:c≠41):lM e .NotIn (.str (j.take 1)) (.tup [.str [],.str [124],.str [41]])=some true:=by
 rw[d]
 show some (!([]==[c]||([124]==[c]||([41]==[c]||false))))=_
 rw[ne_str C.symm,ne_str I.symm]
 rfl
set_option tactic.hygienic true in
theorem abN{j:List Nat}{e:U}(h:t2 j):lM e .NotIn (.str (j.take 1)) (.tup [.str [],.str [124],.str [41]])=some false:=by
 rcases j with _|_
 case nil=>rfl
 case cons c r=>rcases h c r rfl with rfl|rfl<;>rfl
theorem D8{aw:jy}{N bz:Nat}{w:List Nat}{B:List E}{g bN:Nat}{nm t:List Nat}{x:Nat}(M:7<=N)(i:i2 aw N bz w B g bN nm t x)(O:B.length<=1000):yk aw (N+1) bz w (.tup [gy B,.str (eA aw.f)]) g bN nm t x:=by
 intro n pr a o u e K bk Y P m V y b6 q
 apply iG Y;intro n A
 have j:=ah M A
 refine aH (adI ..) (e2 (ae rfl) (mb (FA aw N bz _ pr o bN _ _ _ _ B) (λ bh ak av d3 Q R z n6=>?_) (.of i rfl rfl (m.new _) V rfl rfl rfl)))
 have D:=m.fresh.1
 have F:=m.fresh.2
 cases Q with|@of S T iM ni cV l1 U BJ p i W k C b s l X=>
 subst W X
 cases i with
 |nil=>
  refine aH (KV ..) (C.peek (ah (by decide) j) rfl (cb (cn (n:=3) (by decide)) rfl (bg (r:=false) (rwl b (abN y)) (f3 (aH (TN ..) (An (ai:=[.str _]) C.top rfl rfl (show 2<=100 by decide) (cb (cn (n:=2) (by decide)) rfl (gm ?_))))))))
  rw[gS] at k
  clear i;subst k
  cases s
  cases l
  exact q _ (C.upd D F _).forget b
 |@cons iM Z v c2 _ dH _ _ ve _ U BN n1 b8 G=>
  rw[el] at b
  refine e_ (b8 (Z++bk)) λ dM H J=>jd dM λ c r L c8 iI=>?_;rw[<-b] at L H J
  rw[bR,<-ez] at s
  rw[<-ez] at l
  exact aH (KV ..) (C.peek (ah (by decide) j) rfl (cb (cn (n:=3) (by decide)) rfl (bg (row_more L c8 iI) (aH (TM ..) (C.Ar (ah (ae rfl) j) H.2 (dj (br (C.inline (ah (ae rfl) j) (λ d c r h=>J d c r (by rw[nK];exact h)) λ aS I=>bg rfl (br (qw I.top (n1 n _ S o T _ _ _ A P I b (G.uL y) (ah (dD _ _) (rwl l b6)) λ c9 ag hb=>p2 ag.top (ah (ah (ah (dD ..) (jE (bR.symm.trans (bA _ k)))) O) (ae rfl)) (R _ _ _ (eo _) (.of G rfl ((el ..).trans k) (ag.upd D F _) hb s l rfl)).1)))))))))))
def Cl(bk:List Nat):Prop:=∀c r,bk=c::r->c=41
theorem Cl.bar{bk:List Nat}(h:Cl bk):t2 bk:=λ c r d=>.inr (h c r d)
abbrev nq(aw:jy):=sh aw 99 [.str (eA aw.f)] Cl
set_option tactic.hygienic true
theorem Ti{aw:jy}{N bz:Nat}{w:List Nat}{B:List E}{g bN:Nat}{nm m:List Nat}{p:Nat}(s:7<=N)(h:yk aw N bz w (.tup [gy B,.str (eA aw.f)]) g bN nm m p):nq aw (N+1) bz w (gy B) g bN nm m p:=by
 intro n pr a o u e K bk Y y b V t b6 q
 refine a7 (fw (k:=1) (cI λ j=>bB _ (J [_,_] 0x20880110445004a11100121c41 L s Y j))) λ n A=>?_;subst A
 refine aH (Li ..) (e2 (ae rfl) (mb (λ bh ak M=>bh=0/\aw.P M _ a g o nm u/\ak=mO _ _ _ _) (λ bh ak H O v Q z F=>e_ v λ R C G=>?_) ⟨rfl,b.new _,rfl⟩));clear v;subst G
 refine aH (Ez ..) (aH (Ba ..) (h n _ a o u _ _ _ (J [_,_] 0x290011140111001 L Y) y C V t.bar b6 λ S I l=>aH (B' ..) (aH (Bb ..) (qw I.top (p2 I.top (de _) ?_)))))
 have ag:=I.upd b.fresh.1 b.fresh.2 (.list ([]++[gy B]))
 have x:dw _ _ _:=⟨by rw[iV,ag.top];rfl,λ i d=>by(injection d with a0;subst a0);exact(ag.iH _ f9 ..).2.1⟩
 refine ag.jv (cI λ j=>bB _ (J [_,_] 0x104400882228021114011100121c41 L s Y j)) (ae rfl) (λ D=>?_) (dj (cF (fX (x.len (show 1<=8000000 by decide) (bg (r:=true) rfl (cF (x.item (ae rfl) rfl (F _ _ _ (q _ ag.forget l)))))))))
 rw[l] at D
 clear V q l;rcases bk with _|_
 case nil=>cases D
 case cons c r=>have:=t c r rfl;exact bB _ (J [_] 0x1044020f821842910c81 L (aL this) (aL ((e0 D).1).symm))
theorem Tj{aw:jy}{N bz:Nat}{iM mI:List Nat}{l v:List E}{g cV dH:Nat}{nm y G:List Nat}{A H:Nat}(B:7<=N)(C:yk aw N bz iM (.tup [gy l,.str (eA aw.f)]) g cV nm y A)(I:yk aw N bz mI (.tup [gy v,.str (eA aw.f)]) cV dH y G H):
  nq aw (N+1) bz (iM++124::mI) (.tup [.str [97,108,116],.lst [gy l,gy v]]) g dH nm G (A+H):=by
 intro n pr a o u e K bk Y O h V Q b6 q
 refine a7 (fw (k:=1) (cI λ m=>bB _ (J [_,_] 0x20880110445004a11100121c41 L B Y m))) λ n T=>?_;subst T
 rw[el] at V
 refine aH (Li ..) (e2 (ae rfl) (mb (λ bh ak M=>bh=1/\aw.P M _ a g o nm u/\ak=mO _ _ _ _\/bh=0/\∃b p,aw.P M ((e.next,.list [gy l])::pr) b cV o y (u+A)/\aw.t.drop b=mI++bk/\b=a+iM.length+1/\ak=mO (some (.ref aw.st)) (some (.str (eA aw.f))) (some (.ref e.next)) p) (λ bh ak av d3 U R z W=>?_) (.inl ⟨rfl,h.new _,rfl⟩)))
 rcases U with⟨rfl,F,rfl⟩|⟨rfl,b,p,F,S,gh,rfl⟩
 ·refine aH (Ez ..) (aH (Ba ..) (C n _ a o u _ _ _ (J [_,_] 0x290011140111001 L Y) O F V (λ c r d=>by(injection d with a0 bL;subst a0 bL);exact .inl rfl) (J [_,_,_] 0x36ee808329000dbba020cc501001 L b6) λ X j w=>aH (B' ..) (aH (Bb ..) (qw j.top (p2 j.top (de _) ?_)))))
  exact(j.upd h.fresh.1 h.fresh.2 _).lq (cI λ m=>bB _ (J [_,_] 0x104400882228021114011100121c41 L B Y m)) w (ae rfl) λ f6 x Z=>dj (br (R 0 _ _ (ae rfl) (.inr ⟨rfl,_,_,x,Z,rfl,rfl⟩)).1)
 ·refine aH (Ez ..) (aH (Ba ..) (I n _ b o _ _ _ _ (J [_,_] 0x290011140111001 L Y) O F S Q.bar (J [_,_,_] 0xdbba020cc520000dbba020cc501001 L b6) λ X j w=>aH (B' ..) (aH (Bb ..) (qw j.top (p2 j.top (show 1<=8000000 by decide) ?_)))))
  have s:=j.upd h.fresh.1 h.fresh.2 (.list ([gy l]++[gy v]))
  have aa:dw _ _ _:=⟨by rw[iV,s.top];rfl,λ i d=>by(injection d with a0;subst a0);exact(s.iH _ f9 ..).2.1⟩
  refine s.jv (cI λ m=>bB _ (J [_,_] 0x104400882228021114011100121c41 L B Y m)) (ae rfl) (λ D=>?_) (dj (cF (fX (aa.len (show 2<=8000000 by decide) (bg rfl (br (An (ai:=[.str _]) s.top rfl rfl (show 2<=100 by decide) (W _ _ _ (q _ ?_ ?_)))))))))
  ·rw[w] at D
   clear V q R S;rcases bk with _|_
   case nil=>cases D
   case cons c r=>have:=Q c r rfl;exact bB _ (J [_] 0x1044020f821842910c81 L (aL this) (aL (e0 D).1.symm))
  ·have x:=(s.upd h.fresh.1 h.fresh.2 (.flist ([gy l]++[gy v]))).forget
   rw[show b+mI.length=a+(iM++124::mI).length by rw[bR];exact cB (J [_,_,_,_] 0x88e0300a039000088c500081 L (aL gh)) (J [_,_,_,_] 0x3980111c05010003044520001 L (aL gh.symm)),ez] at x
   exact x
  ·rw[show a+(iM++124::mI).length=b+mI.length by rw[bR];exact cB (J [_,_,_,_] 0x3980111c05010003044520001 L (aL gh.symm)) (J [_,_,_,_] 0x88e0300a039000088c500081 L (aL gh))]
   exact w
set_option tactic.hygienic false
theorem zo{aw:jy}{N bz:Nat}{w:List Nat}{v:E}{g bN:Nat}{nm l:List Nat}{m:Nat}(p:7<=N)(h:nq aw N bz w v g bN nm l m)(b:E):sh aw 103 [.str (eA aw.f),b] Fb (N+1) (bz+1) (w++[41]) v g bN nm l m:=by
 intro n pr a o u e K bk Y s i V _ b6 q
 refine a7 (fw (k:=1) (cI λ j=>bB _ (J [_,_] 0x20880110445004a11100121c41 L p Y j))) λ n t=>?_;subst t
 rw[el] at V
 refine aH (adJ ..) (i.BC (wi (by lia) (br (i.BC (iC (i.Ks rfl λ B C=>h n pr a (o+1) u _ _ _ (J [_,_] 0x290011140111001 L Y) (J [_,_] 0x2710ca111000004e21844501001 L s) C V λ c r d=>by(injection d with a0 bL;subst a0 bL);rfl b6 λ D I x=>I.BC (IK (I.Ks (p9:=o) (by lia) λ F ag=>ag.lq (cI λ j=>bB _ (J [_,_] 0x104400882228021114011100121c41 L p Y j)) x (ae rfl) λ G y A=>dj (br (q _ ?_ ?_))))))))))
 all_goals
  have d:a+(w++[41]).length=a+w.length+[41].length:=by rw[bR];exact(ez ..).symm
 ·exact rwl d y
 ·exact rwl d A
section
theorem B9(R:dp)(K:Loc->U->Prop)(e:U)(da dY j:E)(a b c o d f g h i:Option E):d6 106 [] 1 R (.tup [da,dY,j]) (h7 a b c o d f g h i) K e=K (h7 a b c (some da) (some dY) (some j) g h i) e:=by kernel_rfl
theorem Hs(R:dp)(K:Loc->U->Prop)(e:U)(da dY:E)(a b c o d f g h i:Option E):d6 106 [] 3 R (.tup [da,dY]) (h7 a b c o d f g h i) K e=K (h7 a b c (some da) d f (some dY) h i) e:=by kernel_rfl
noncomputable def kL:List (List Nat×Bool×Bool):=[([40,63,61],false,false),([40,63,33],false,true),([40,63,60,61],true,false),([40,63,60,33],true,true)]
theorem Gr:Gp=.lst (kL.map λ x=>.tup [.str x.1,.bool x.2.1,.bool x.2.2]):=by kernel_rfl
noncomputable def zK:List (List Nat×List Nat):=[([40,63,60],[62]),([40,63,80,60],[62]),([40,63,39],[39])]
theorem Ve:Gs=.lst (zK.map λ x=>.tup [.str x.1,.str x.2]):=by kernel_rfl
section
variable{aw:jy}{e:U}{a g o u:Nat}{pr:List (Nat×dk)}{nm:List Nat}{k:bl}{A:bl}
theorem zB(h:aw.P e pr a g o nm u){n:Nat}(Y:2<=n)(j:∀x∈kL,(aw.t.drop a).take x.1.length≠x.1)(q:∀b3 cX fz,bp 106 [] 2 (call n) (h7 (some (.ref aw.st)) (some (.str (eA aw.f))) (some (.int a)) b3 cX fz none none none) (eX A) e):call (n+1) 106 [.ref aw.st,.str (eA aw.f)] A e:=by
 refine aH (Lb ..) (h.at_ ?_)
 rw[Gr]
 refine k8 rfl (λ i ak M=>M=e/\∃b3 cX fz,ak=h7 _ _ _ b3 cX fz _ _ _) ⟨rfl,none,none,none,rfl⟩ (λ z z z z=>trivial) (λ i v ak M B c b k z z=>?_) λ ak M b=>?_
 ·refine LG b λ l b3 cX fz m=>?_;clear b;subst l;subst m
  rw[j'] at c
  refine a' (gD.mp c) λ x p r=>?_;clear c;subst r
  have d:=j_ p
  have s:=by
   have:∀x∈kL,x.1.length<=10:=by decide
   exact this x d
  exact aH (B9 ..) (aH (A8 ..) (h.jv (ah (ae rfl) Y) s (j x d) (dj (br (k _ _ ⟨rfl,_,_,_,rfl⟩).1))))
 ·refine LG b λ w b3 cX fz y=>?_;clear b;clear h;subst w;subst y
  exact f3 (q b3 cX fz)
theorem Zp(h:aw.P e pr a g o nm u){n:Nat}(Y:2<=n){w bk:List Nat}{b cW:Bool}(E:(w,b,cW)∈kL)(V:aw.t.drop a=w++bk)(q:∀M (K:bl),(∀v j,A v j->K v j)->aw.P M pr (a+w.length) g o nm u->aw.t.drop (a+w.length)=bk->call n 105 [.ref aw.st,.str (eA aw.f),.int a,.bool b,.bool cW] K M):call (n+1) 106 [.ref aw.st,.str (eA aw.f)] A e:=by
 refine aH (Lb ..) (h.at_ ?_)
 rw[Gr]
 refine a7 (List.mem_iff_getElem?.mp E) λ y dE=>?_
 have F:∀i x,i<y->kL[i]?=some x->(aw.t.drop a).take x.1.length≠x.1:=by
  intro i x p c D
  have r:=(ix.mp dE).1
  have:=((by decide:∀i<4,∀y<4,y<=i\/(kL[y]?.getD ([],false,false)).1.take (kL[i]?.getD ([],false,false)).1.length≠(kL[i]?.getD ([],false,false)).1/\(kL[i]?.getD ([],false,false)).1.length<=(kL[y]?.getD ([],false,false)).1.length) i (J [_,_] 0x208222000410445004a111001 L p r) y r).resolve_left λ k=>bB _ (J [_,_] 0x208804284a111001 L p k)
  rw[c,dE] at this
  have this:w.take _≠x.1/\x.1.length<=w.length:=this
  rw[V,List.take_append_of_le_length this.2] at D
  exact this.1 D
 refine k8 rfl (λ i ak M=>M=e/\i<=y/\∃b3 cX fz,ak=h7 _ _ _ b3 cX fz _ _ _) ⟨rfl,de _,none,none,none,rfl⟩ (λ z z z z=>trivial) (λ i v ak M S l d G z H=>?_) λ ak M d=>?_
 ·refine afr d λ N m b3 cX fz O=>?_;clear d;subst N;subst O
  rw[j'] at l
  refine a' (gD.mp l) λ x c Q=>?_;clear l;subst Q
  have s:=j_ c
  have B:∀x∈kL,x.1.length<=10:=by decide
  rcases Nat.lt_or_eq_of_le m with C|rfl
  ·exact aH (B9 ..) (aH (A8 ..) (h.jv (ah (ae rfl) Y) (B x s) (F i x C c) (dj (br (G _ _ ⟨rfl,C,_,_,_,rfl⟩).1))))
  ·rw[dE] at c
   obtain rfl:=ck c
   exact aH (B9 ..) (aH (A8 ..) (h.lq (ah (ae rfl) Y) V (B _ s) λ j I R=>dj (cF (q _ _ (λ v T ag=>H _ _ _ ag) I R))))
 ·exact e_ d λ z m z=>absurd m (λ k=>bB _ (J [_] 0x822010820904111001 L (ix.mp dE).1 k))
theorem JB(h:aw.P e pr a g o nm u){n:Nat}(Y:2<=n)(j:(aw.t.drop a).take 3≠[40,63,62])(k:∀x∈zK,(aw.t.drop a).take x.1.length≠x.1){b3 cX fz:Option E}(q:∀b3 kN,bp 106 [] 4 (call n) (h7 (some (.ref aw.st)) (some (.str (eA aw.f))) (some (.int a)) b3 cX fz kN none none) (eX A) e):
  bp 106 [] 2 (call n) (h7 (some (.ref aw.st)) (some (.str (eA aw.f))) (some (.int a)) b3 cX fz none none none) (eX A) e:=by
 refine aH (A9 ..) (h.jv (ah (ae rfl) Y) (ae rfl) j (dj (br ?_)))
 rw[Ve]
 refine k8 rfl (λ i ak M=>M=e/\∃b3 kN,ak=h7 _ _ _ b3 cX fz kN _ _) ⟨rfl,_,none,rfl⟩ (λ z z z z=>trivial) (λ i v ak M B c b l z z=>?_) λ ak M b=>?_
 ·refine Ay b λ m b3 kN p=>?_;clear b;subst m;subst p
  rw[j'] at c
  refine a' (gD.mp c) λ x r s=>?_;clear c;subst s
  have d:=j_ r
  exact aH (Hs ..) (aH (F1 ..) (h.jv (ah (ae rfl) Y) ((by decide:∀x∈zK,x.1.length<=10) x d) (k x d) (dj (br (l _ _ ⟨rfl,_,_,rfl⟩).1))))
 ·refine Ay b λ w b3 kN y=>?_;clear b;clear h;subst w;subst y
  exact f3 (q b3 kN)
theorem vU{n:Nat}(h:aw.P e pr a g o nm u)(Y:1<=n){bk:List Nat}(V:aw.t.drop a=40::bk)(q:∀m,m+1=n->call m 106 [.ref aw.st,.str (eA aw.f)] A e)(b:2<=n):call n 101 [.ref aw.st,.str (eA aw.f)] A e:=by
 refine a' (J5 Y) λ n c d=>?_;subst c
 exact aH (Ao ..) (h.peek (J [_] 4540984167761985 L b) (by rw[V];rfl) (uB (cF (q n rfl))))
theorem p_{w r:List Nat}{t:List Nat}(h:t.drop a=w++r):t.drop (a+w.length)=r:=by rw[<-nK,h,List.drop_left]
theorem zx(a x H D:Nat)(w:List Nat):a+([x,H,D]++w).length=a+3+w.length:=by
 rewrite[bR,ez]
 rfl
theorem zy(a:Nat)(p w:List Nat):a+(p++w).length=a+p.length+w.length:=by rw[bR,ez]
theorem D0{N bz:Nat}{w:List Nat}{v:E}{bN:Nat}{s:List Nat}{y:Nat}(f:7<=N)(h:nq aw N bz w v g bN nm s y):lF aw (N+3) (bz+1) ([40,63,58]++(w++[41])) v g bN nm s y:=by
 intro n pr a o u e K bk Y O l V _ b6 q
 rw[el] at V
 refine vU l (cI λ b=>bB _ (J [_,_] 0x20880110445004a31100121c41 L f Y b)) V (λ m i=>a7 (⟨m-1,cB (d2 _ _) (di (cI λ b=>bB _ (J [_,_,_] 0x8220044111801088c0284a31100121c41 L f Y (aL i.symm) b)))⟩:∃k,m=k+1) λ m B=>?_) (cI λ b=>bB _ (J [_,_] 0x20880210445004a31100121c41 L f Y b));subst B
 have tk:∀{x:List _},[40,63,58].take _≠x->x.length<=4->(x.length=4->[40,63,58]≠x.take 3)->(aw.t.drop a).take x.length≠x:=λ{x} C I ag D=>by
  rw[V] at D
  by_cases j:x.length=4
  ·rw[j] at D
   refine ag j ?_
   rw[<-D]
   rfl
  ·rw[List.take_append_of_le_length ((um j).elim (λ p=>J [_] 0xc440104111001 L p) λ p=>J [_] 0xc44010222080120882 L I p)] at D
   exact C D
 refine zB l (cI λ b=>bB _ (J [_,_,_] 0x4110042088c00844111800284a31100121c41 L f Y (aL i.symm) b)) (λ x F=>tk (by revert x;decide) (by revert x;decide) (by revert x;decide)) λ b3 cX fz=>JB l (cI λ b=>bB _ (J [_,_,_] 0x4110042088c00844111800284a31100121c41 L f Y (aL i.symm) b)) (tk (x:=[40,63,62]) (by decide) (ae rfl) (by decide)) (λ x F=>tk (by revert x;decide) (by revert x;decide) (by revert x;decide)) λ b3 kN=>aH (F2 ..) (l.lq (cI λ b=>bB _ (J [_,_,_] 0x4110022088c00844111800284a31100121c41 L f Y (aL i.symm) b)) V (ae rfl) λ P I A=>dj (br (I.flags (cI λ b=>bB _ (J [_,_,_] 0x4110042088c00844111800284a31100121c41 L f Y (aL i.symm) b)) (λ c r d=>by rw[A] at d;(injection d with a0 bL;subst a0 bL);exact⟨rfl,by decide⟩) λ Q ag=>ag.lq (cI λ b=>bB _ (J [_,_,_] 0x4110022088c00844111800284a31100121c41 L f Y (aL i.symm) b)) A (ae rfl) λ R j G=>dj (br (zo f h _ m pr (a+3) o u _ _ _ (J [_,_,_] 0x6088800044111800284a311001 L Y (aL i.symm)) (by assumption) j G trivial b6 λ S H M=>gm (q _ ?_ ?_))))))
 ·rw[zx];exact H
 ·rw[zx];exact M
theorem TJ{N bz:Nat}{w:List Nat}{v:E}{bN:Nat}{l:List Nat}{p:Nat}(c:7<=N)(h:nq aw N bz w v g bN nm l p)(r:fM v=true):lF aw (N+3) (bz+1) ([40,63,62]++(w++[41])) (.tup [.str pg,v]) g bN nm l p:=by
 intro n pr a o u e K bk Y F f V _ b6 q
 rw[el] at V
 refine vU f (cI λ b=>bB _ (J [_,_] 0x20880110445004a31100121c41 L c Y b)) V (λ m d=>a7 (⟨m-1,cB (d2 _ _) (di (cI λ b=>bB _ (J [_,_,_] 0x8220044111801088c0284a31100121c41 L c Y (aL d.symm) b)))⟩:∃k,m=k+1) λ m s=>?_) (cI λ b=>bB _ (J [_,_] 0x20880210445004a31100121c41 L c Y b));subst s
 have tk:∀{x:List _},[40,63,62].take _≠x->x.length<=4->(x.length=4->[40,63,62]≠x.take 3)->(aw.t.drop a).take x.length≠x:=λ{x} C I ag D=>by
  rw[V] at D
  by_cases i:x.length=4
  ·rw[i] at D
   refine ag i ?_
   rw[<-D]
   rfl
  ·rw[List.take_append_of_le_length ((um i).elim (λ j=>J [_] 0xc440104111001 L j) λ j=>J [_] 0xc44010222080120882 L I j)] at D
   exact C D
 refine zB f (cI λ b=>bB _ (J [_,_,_] 0x4110042088c00844111800284a31100121c41 L c Y (aL d.symm) b)) (λ x G=>tk (by revert x;decide) (by revert x;decide) (by revert x;decide)) λ b3 cX fz=>aH (A9 ..) (f.lq (cI λ b=>bB _ (J [_,_,_] 0x4110022088c00844111800284a31100121c41 L c Y (aL d.symm) b)) V (ae rfl) λ H I y=>dj (cF (zo c h _ m pr _ o u _ _ _ (J [_,_,_] 0x6088800044111800284a311001 L Y (aL d.symm)) (by assumption) I y trivial b6 λ M A B=>cb (cn (n:=2) (ae rfl)) (by show(true&&fM v&&true)=true;rw[r];rfl) (gm (q _ ?_ ?_)))))
 ·rw[zx];exact A
 ·rw[zx];exact B
set_option tactic.hygienic true in
theorem Zq{N bz:Nat}{p w:List Nat}{v:E}{b cW:Bool}{j:Nat}{bN:Nat}{s:List Nat}{t:Nat}(f:7<=N)(y:(p,b,cW)∈kL)(h:nq aw N bz w v g bN nm s t)(F:fM v=true)(G:b=true->∀n e (K:bl),N<=n->K (.int j) e->call n 90 [v] K e)(O:b=false->j=0):
  lF aw (N+4) (bz+1) (p++(w++[41])) (.tup [.str qB,v,.bool b,.bool cW,.int j]) g bN nm s t:=by
 intro n pr a o u e K bk Y aB A V _ b6 q
 rw[el] at V
 have l:∃r,p=40::r:=by
  have:∀x∈kL,∃r,x.1=40::r:=by
   intro x P
   have d:∀x∈kL,x.1.head?=some 40:=by decide
   have d:=d x P
   rcases C:x.1 with _|_
   case nil=>rw[C] at d;exact bF d
   case cons H r=>rw[C] at d;obtain rfl:=ck d;exact⟨r,rfl⟩
  exact this _ y
 refine a7 l λ es l=>vU A (cI λ c=>bB _ (J [_,_] 0x20880110445004a41100121c41 L f Y c)) (by rw[V,l];rfl) (λ m i=>a7 (⟨m-1,cB (d2 _ _) (di (cI λ c=>bB _ (J [_,_,_] 0x8220044111801088c0284a41100121c41 L f Y (aL i.symm) c)))⟩:∃k,m=k+1) λ m Q=>?_) (cI λ c=>bB _ (J [_,_] 0x20880210445004a41100121c41 L f Y c));subst Q
 refine Zp A (cI λ c=>bB _ (J [_,_,_] 0x4110042088c00844111800284a41100121c41 L f Y (aL i.symm) c)) y V λ aS SI R I S=>a7 (⟨m-1,cB (d2 _ _) (di (cI λ c=>bB _ (J [_,_,_] 0x4110022088c00844111800284a41100121c41 L f Y (aL i.symm) c)))⟩:∃k,m=k+1) λ m T=>?_;subst T
 refine aH (adL ..) (zo f h _ m pr _ o u _ _ _ (J [_,_,_] 0x30444000220882230000284a411001 L Y (aL i.symm)) (by assumption) I S trivial b6 λ U ag W=>mA (λ r M=>r=.int j/\M=U) (λ bj B=>dj (jL (λ d=>G d m _ _ (J [_,_,_] 0x6200220882230000284a411001 L Y (aL i.symm)) (B _ _ ⟨rfl,rfl⟩)) λ d=>B _ _ ⟨by rw[O d];rfl,rfl⟩)) λ r M D=>bc D λ X Z=>?_);clear D;subst X;subst Z
 refine rJ (jF.mpr (i4 _)) (br (cb (cn (n:=5) (ae rfl)) (by show(true&&fM v&&(true&&true&&true&&true))=true;rw[F];rfl) (R _ _ (q _ ?_ ?_))))
 ·rw[zy a p];exact ag
 ·rw[zy a p];exact W
end
end
section
section
variable{aw:jy}{e:U}{a g o u:Nat}{pr:List (Nat×dk)}{nm:List Nat}{k:bl}{A:bl}
theorem BK:∀{nm:List Nat}{B:List E}{n:Nat}{v:E},n<1000->(∀x∈nm,x<1000)->n∉nm->B.length=nm.length->ke (nm.map dQ) B (dQ n) v=(nm.map dQ++[dQ n],B++[v])/\hV (nm.map dQ) B (dQ n)=none
 |[],[],n,v,_,_,_,_=>⟨rfl,rfl⟩
 |x::nm,H::B,n,v,Y,a,b,c=>by
  obtain⟨e,f⟩:=BK Y (λ D hz=>a D (gT _ hz)) (λ D=>b (gT _ D)) (Nat.succ.inj c)
  have d:=fH.mpr λ D=>b (rwl (zJ Y (a x f9 ..) D) (f9 ..))
  constructor
  ·show(match dQ n==dQ x with|true=>(dQ x::nm.map _,v::B)|false=>(dQ x::(ke _ B _ v).1,H::(ke _ B _ v).2))=_
   rw[d,e]
   rfl
  ·show(match dQ n==dQ x with|true=>some H|false=>hV _ B _)=_
   exact rwl d f
 |[],_::_,_,_,_,_,_,h=>nomatch h
 |_::_,[],_,_,_,_,_,h=>nomatch h
theorem ab9{R:dp}{i:Nat}{az:List (List Nat)}{B:List E}{x:List Nat}{v:E}(h:e.get i=some (.dict az B))(a:az.length<=1000)(Y:hV az B x=none)(q:k v (e.upd i (.dict (ke az B x v).1 (ke az B x v).2))):bY R .setdefault (.ref i) [.str x,v] k e:=by
 unfold bY
 simp only[h]
 exact⟨a,rwl Y q⟩
theorem ho.len{lo st aZ a9:Nat}:∀{nm:List Nat}{B:List E},ho e lo st aZ a9 nm B->B.length=nm.length
 |[],[],_=>rfl
 |_::nm,_::B,⟨_,h⟩=>bA _ h.len
theorem ho.snoc{lo st aZ a9 r n:Nat}{nm:List Nat}{B:List E}(h:ho e lo st aZ a9 nm B)(C:e.get r=some (.list [.int n]))(I:r<e.next)(ag:lo<=r)(a:r≠st)(b:r≠aZ)(c:r≠a9):ho e lo st aZ a9 (nm++[n]) (B++[.ref r]):=
 h.ind (bh:=λ nm B=>ho e lo st aZ a9 (nm++[n]) (B++[E.ref r])) ⟨⟨r,rfl,.inl C,I,ag,a,b,c⟩,trivial⟩ λ n nm r B dH d f z g=>⟨⟨r,rfl,dH,d,f⟩,g⟩
theorem Tc(h:aw.P e pr a g o nm u){m n:Nat}(S:1<=m)(Y:n<1000)(w:∀x∈nm,x<1000)(A:n∉nm)(D:nm.length<=1000){y:U->Prop}(q:∀M,aw.P M pr a g o (nm++[n]) u->y M):
  (a6 (.ref aw.st) oj λ k=>(b0 k vx λ F=>(dJ [] λ G=>(bY (call m) F k [.str (dQ n),G] λ l=>(b0 l jw λ H=>(bY (call m) H l [.int n] λ T=>y)))))) e:=by
 refine ov h.ex λ B cG r t J K L N=>?_
 refine h.DA (Js r (e2 (ae rfl) ?_))
 have d:=Fr.alloc (λ z=>False) e (.list [])
 obtain⟨bG,O⟩:=BK Y w A t.len
 have b:∀i,i<e.next->i≠e.next:=λ i Q=>e' Q
 refine ab9 (d.get r h.I id) (by rw[cM];exact D) O ?_
 rw[bG]
 have jP:((e.alloc _).upd _ (.dict (nm.map dQ++[dQ n]) (B++[.ref e.next]))).get _=some (.list []):=(ef (b _ h.I).symm).trans (fR ..)
 refine qw jP (p2 jP (de _) (q _ ?_))
 have f:∀i,i<e.next->i≠aw.aZ->(((e.alloc (.list [])).upd _ (.dict (nm.map dQ++[dQ n]) (B++[.ref e.next]))).upd _ (.list ([]++[E.int n]))).get i=e.get i:=λ i C I=>(ef (b i C)).trans ((ef I).trans (iA (b i C)))
 exact{
  ex:=by
   refine cu (B++[.ref e.next]) cG ⟨?_,?_,(f _ h.ag h.fL.symm).trans J,K,L,λ s j c=>?_⟩
   ·exact e8▸(ef (b _ h.I)).trans (dI ..)
   ·exact(t.ext (λ i C z ag z=>f i C ag) (hp _)).snoc (dI ..) (eo _) h.fr.next (b _ h.C).symm (b _ h.I).symm (b _ h.ag).symm
   ·rcases fv.mp c with c|c
    ·exact N s j c
    ·have:=fu.mp c
     injection this with this
     exact((b _ (h.iH s j).2.1) this).elim
  p:=(f _ h.C h.cC).trans h.p
  cC:=h.cC
  dh:=h.dh
  fL:=h.fL
  C:=j9 h.C
  I:=j9 h.I
  ag:=j9 h.ag
  aX:=h.aX
  bS:=h.bS
  dv:=h.dv
  iH:=λ s j=>let⟨a0,bL,g8,v,R⟩:=h.iH s j;⟨(f _ bL v).trans a0,j9 bL,g8,v,R⟩
  fr:=((h.fr.trans d).j1 h.bS).j1 h.fr.next
  iL:=h.iL
  al:=h.al}
theorem Jg(a x H D c:Nat)(j w:List Nat):a+([x,H,D]++(j++c::w)).length=a+[x,H,D].length+j.length+1+w.length:=by
 simp only[bR,fW,iP];exact cB (J [_,_,_] 0x6088a1104411004000080000011180500441104401000001000 L) (J [_,_,_] 0x11180500441104401000001006088a110441100400008000000 L)
theorem Gw{N bz:Nat}{w:List Nat}{v:E}{bN:Nat}{c r:List Nat}{d:Nat}{name:List Nat}(i:7<=N)(h:nq aw N bz w v (g+1) bN c r d)(y:fM v=true)(B:g+1<1000)(D:∀x∈nm,x<1000)(F:nm.length<=1000)(G:(name=[]/\c=nm)\/(name=dQ (g+1)/\c=nm++[g+1]/\g+1∉nm)){m:Nat}(j:N+2<=m){bk:List Nat}{b:E}(H:o+(bz+1)<=39)(s:aw.P e pr a g o nm u)(V:aw.t.drop a=w++[41]++bk)(b6:u+d<=900000)
  (q:∀M,aw.P M pr (a+(w++[41]).length) bN o r (u+d)->aw.t.drop (a+(w++[41]).length)=bk->A (.tup [.str jU,.int ((g+1:Nat):Int),v]) M):call m 104 [.ref aw.st,.str (eA aw.f),b,.str name] A e:=by
 obtain⟨m,rfl⟩:∃k,m=k+1:=⟨m-1,cB (d2 _ _) (di (cI λ l=>bB _ (J [_,_] 0x20880110445004a21100121c41 L i j l)))⟩
 refine aH (adK ..) (s.nY (iC (s.ab6 (bN:=g+1) rfl (hp g) λ R C=>C.nY ?_)))
 have fin:∀p,aw.P _ pr a _ o _ u->(call m _ _ λ K=>b9 [.str _,.int _,K] _) _:=λ p I=>zo i h b m pr a o u p _ _ (J [_,_] 0x1422200011140211001 L j) H I V trivial b6 λ S ag O=>cb (cn (n:=3) (ae rfl)) (by show(true&&true&&(fM v&&true))=true;rw[y];rfl) (q _ ag O)
 rcases G with⟨rfl,rfl⟩|⟨rfl,rfl,Q⟩
 ·exact bg rfl (br (fin _ C))
 ·exact bg rfl (cF (Tc C (cI λ l=>bB _ (J [_,_] 0x104400882228021114021100121c41 L i j l)) B D Q F λ p I=>fin _ I))
set_option tactic.hygienic true in
theorem Xs{N bz:Nat}{w:List Nat}{v:E}{bN:Nat}{p:List Nat}{s:Nat}(j:7<=N)(h:nq aw N bz w v (g+1) bN nm p s)(A:fM v=true)(B:g+1<1000)(F:∀x∈nm,x<1000)(G:nm.length<=1000)(M:∀c r,w++[41]=c::r->c≠63):
  lF aw (N+4) (bz+1) ([40]++(w++[41])) (.tup [.str jU,.int ((g+1:Nat):Int),v]) g bN nm p s:=by
 intro n pr a o u e K bk Y O i V _ b6 q
 refine vU i (cI λ f=>bB _ (J [_,_] 0x20880110445004a41100121c41 L j Y f)) V (λ m l=>?_) (cI λ f=>bB _ (J [_,_] 0x20880210445004a41100121c41 L j Y f))
 obtain⟨m,rfl⟩:∃k,m=k+1:=⟨m-1,cB (d2 _ _) (di (cI λ f=>bB _ (J [_,_,_] 0x8220044111801088c0284a41100121c41 L j Y (aL l.symm) f)))⟩
 obtain⟨c,r,d⟩:∃c r,w++[41]=c::r:=by
  rcases w with _|_
  case nil=>exact cu _ _ rfl
  case cons c r=>exact cu _ _ rfl
 have y:=M c r d
 have tk:∀{x:List _},(∃H r,x=40::63::H::r\/x=[40,63])->(aw.t.drop a).take x.length≠x:=λ{x} b D=>by
  rw[V,d] at D
  obtain⟨H,eg,rfl|rfl⟩:=b
  ·have:=(e0 (e0 D).2).1
   exact y this
  ·have:=(e0 (e0 D).2).1
   exact y this
 have P:∀x∈kL,∃H r,x.1=40::63::H::r\/x.1=[40,63]:=by
  intro x b
  rcases ew.mp b with rfl|b
  ·exact cu _ _ (.inl rfl)
  rcases ew.mp b with rfl|b
  ·exact cu _ _ (.inl rfl)
  rcases ew.mp b with rfl|b
  ·exact cu _ _ (.inl rfl)
  obtain rfl:=fu.mp b
  exact cu _ _ (.inl rfl)
 have Q:∀x∈zK,∃H r,x.1=40::63::H::r\/x.1=[40,63]:=by
  intro x b
  rcases ew.mp b with rfl|b
  ·exact cu _ _ (.inl rfl)
  rcases ew.mp b with rfl|b
  ·exact cu _ _ (.inl rfl)
  obtain rfl:=fu.mp b
  exact cu _ _ (.inl rfl)
 refine zB i (cI λ f=>bB _ (J [_,_,_] 0x4110042088c00844111800284a41100121c41 L j Y (aL l.symm) f)) (λ x b=>tk (P x b)) λ b3 cX fz=>JB i (cI λ f=>bB _ (J [_,_,_] 0x4110042088c00844111800284a41100121c41 L j Y (aL l.symm) f)) (tk (x:=[40,63,62]) (cu _ _ (.inl rfl))) (λ x b=>tk (Q x b)) λ b3 kN=>?_
 refine aH (F2 ..) (i.jv (cI λ f=>bB _ (J [_,_,_] 0x4110022088c00844111800284a41100121c41 L j Y (aL l.symm) f)) (ae rfl) (tk ⟨0,[],.inr rfl⟩) (dj (cF (i.at_ (iC (i.h3 rfl (sL V i.al).2 λ S C=>Gw j h A B F G (.inl ⟨rfl,rfl⟩) (J [_,_,_] 0x6108800044111800284a411001 L Y (aL l.symm)) O C (sL V i.al).1 b6 λ T I R=>gm (q _ ?_ ?_)))))))
 ·rw[zy a _];exact I
 ·rw[zy a _];exact R
theorem Z7{N bz:Nat}{w:List Nat}{v:E}{bN:Nat}{j:List Nat}{l:Nat}(c:7<=N)(h:nq aw N bz w v (g+1) bN (nm++[g+1]) j l)(p:fM v=true)(i:g+1<1000)(r:∀x∈nm,x<1000)(s:nm.length<=1000)(y:g+1∉nm):
  lF aw (N+4) (bz+1) ([40,63,60]++(dQ (g+1)++62::(w++[41]))) (.tup [.str jU,.int ((g+1:Nat):Int),v]) g bN nm j l:=by
 intro n pr a o u e K bk Y A f V _ b6 q
 rw[el] at V
 refine vU f (cI λ b=>bB _ (J [_,_] 0x20880110445004a41100121c41 L c Y b)) V (λ m d=>?_) (cI λ b=>bB _ (J [_,_] 0x20880210445004a41100121c41 L c Y b))
 obtain⟨m,rfl⟩:∃k,m=k+1:=⟨m-1,cB (d2 _ _) (di (cI λ b=>bB _ (J [_,_,_] 0x8220044111801088c0284a41100121c41 L c Y (aL d.symm) b)))⟩
 have tk:∀{x:List _},[40,63,60,110].take _≠x->x.length<=4->(aw.t.drop a).take _≠x:=λ{x} C I D=>by
  rw[V,show[40,63,60]++(dQ _++62::(w++[41])++bk)=[40,63,60,110]++(fj _++62::(w++[41])++bk) from rfl,List.take_append_of_le_length I] at D
  exact C D
 refine zB f (cI λ b=>bB _ (J [_,_,_] 0x4110042088c00844111800284a41100121c41 L c Y (aL d.symm) b)) (λ x O=>tk (by revert x;decide) (by revert x;decide)) λ b3 cX fz=>aH (A9 ..) (f.jv (cI λ b=>bB _ (J [_,_,_] 0x4110022088c00844111800284a41100121c41 L c Y (aL d.symm) b)) (ae rfl) (tk (by decide) (ae rfl)) (dj (br ⟨trivial,aH (Hs ..) (aH (F1 ..) (f.lq (cI λ b=>bB _ (J [_,_,_] 0x4110022088c00844111800284a41100121c41 L c Y (aL d.symm) b)) (w:=[40,63,60]) (bk:=dQ _++62::(w++[41]++bk)) (by rw[V];simp) (ae rfl) λ P C B=>dj (cF (C.until (cI λ b=>bB _ (J [_,_,_] 0x4110022088c00844111800284a41100121c41 L c Y (aL d.symm) b)) B ?_ λ Q I F=>JA i (cI λ b=>bB _ (J [_,_,_] 0x4110042088c00844111800284a41100121c41 L c Y (aL d.symm) b)) λ R G=>dj (br ?_)))))⟩)))
 ·intro D
  rcases ew.mp D with D|D
  ·exact absurd D (by decide)
  ·have:=(sH i).1 62 D
   exact bB _ (J [] 0x104400e8430883e10c01 L this.2)
 ·refine Gw c h p i r s (.inr ⟨rfl,rfl,y⟩) (J [_,_,_] 0x6108800044111800284a411001 L Y (aL d.symm)) A (I.ext G) F b6 λ S H M=>q _ ?_ ?_
  ·rw[Jg];exact H
  ·rw[Jg];exact M
theorem afg{n k:Nat}{f:Bool}(q:A (.int 1) e):call (n+1) 90 [gX f k] A e:=by
 have:∀t l,(match t==[115,105,103,110],t==[97,110,121],t==[115,101,116] with|a,b,c=>a||(b||c))=true->call (n+1) 90 [.tup (.str t::l)] A e:=λ t l cZ=>by
  refine aH (EE ..) (bx rfl (cb (ae rfl) rfl (bg ?_ (cF q))))
  show some ([115,105,103,110]==t||([97,110,121]==t||([115,101,116]==t||false)))=some _
  rw[Bool.or_false,pZ,pZ (b:=t),pZ (b:=t)]
  exact bA _ cZ
 refine m' ?_ ?_ ?_ ?_ ?_ (λ z=>?_) k<;>exact this _ _ rfl
theorem Tw(aV:List Nat):jJ (.int (-1)) (aV.map λ w=>E.int (w:Nat))=some false:=by
 induction aV with
 |nil=>rfl
 |cons w aV a=>
  show(match some ((w:Int)==-1),jJ _ _ with|some x,some H=>some _|_,_=>none)=_
  rw[a]
  rfl
theorem IQ(aV:List Nat):qp (aV.map λ w=>E.int (w:Nat))=some (aV.map λ(w:Nat)=>(w:Int))/\(aV.map λ(w:Nat)=>(w:Int)).sum=((aV.sum:Nat):Int):=by
 induction aV with
 |nil=>exact⟨rfl,rfl⟩
 |cons w aV a=>
  constructor
  ·show(qp _).map _=_
   rw[a.1];rfl
  ·rw[jG,List.sum_cons,a.2];exact k1.mpr (cB (J [_,_] 5503094784 L) (J [_,_] 5503094784 L))
theorem Ly{n:Nat}{l:List E}{aV:List Nat}(c:l.length=aV.length)(g:aV.length<=1000)(h:∀(i:Nat)(x:E)(w:Nat),l[i]?=some x->aV[i]?=some w->∀K:bl,K (.int w) e->call n 90 [x] K e)(q:A (.int aV.sum) e):call (n+1) 90 [gy l] A e:=by
 refine aH (EE ..) (bx rfl (cb (ae rfl) rfl (bg (r:=false) rfl (br (cb (ae rfl) rfl (bg (r:=false) rfl (br (bg rfl (br (bg rfl (br (d_ (bg rfl (iW (bg rfl (iW (br (bx rfl (sG rfl (λ i a M=>M=e/\a=(aV.take i).map λ w=>E.int (w:Nat)) ⟨rfl,rfl⟩ (λ z z z z=>trivial) (λ i x a j m d b k=>?_) λ a j b=>?_)))))))))))))))))))
 ·obtain⟨rfl,rfl⟩:=b
  have f:i<aV.length:=by rw[<-c];exact(ix.mp d).1
  refine⟨?_,h i x _ d (hK f) _ (k _ _ ⟨rfl,?_⟩)⟩
  ·rw[cM];exact ah (sy ..) (ah g (ae rfl))
  ·rw[lJ,hK f,e8];rfl
 ·obtain⟨rfl,rfl⟩:=b
  rw[c,nJ]
  refine bg rfl (cF (fX (bg (Tw aV) (br (lL ?_ q)))))
  show(qp _).map _=_
  exact rwl ((IQ aV).1) (bA (λ D=>some _) (IQ aV).2)
end
end
noncomputable def tq:Nat->List Nat
 |0=>[97]
 |1=>[98]
 |2=>[46]
 |3=>[91,97,98,93]
 |4=>[92,119]
 |_=>[91,94,97,93]
noncomputable def w3(b cW:Bool):List Nat:=match b,cW with
 |false,false=>[40,63,61]
 |false,true=>[40,63,33]
 |true,false=>[40,63,60,61]
 |true,true=>[40,63,60,33]
noncomputable def er:bq->List Nat
 |.rounds x _ _=>er x
 |.group n r b=>(if b then[n] else[])++er r
 |.d4 ab aT=>er ab++er aT
 |.atomic r=>er r
 |.look x _ _=>er x
 |.cons x r=>er x++er r
 |_=>[]
noncomputable def cG:bq->List Nat->List Nat
 |.one k,_=>tq k
 |.place w,_=>rU w
 |.rounds x c m,nm=>(if kJ x then cG x nm else[40,63,58]++(cG x nm++[41]))++((f' c).2.2++jt m)
 |.group n r b,nm=>if b then[40,63,60]++(dQ n++62::(cG r (nm++[n])++[41])) else[40]++(cG r nm++[41])
 |.again n a,nm=>if a=1/\n∈nm then 92::107::60::(dQ n++[62]) else if a=0/\n<10 then[40,63,58]++((92::fj n)++[41]) else 92::103::123::(fj n++[125])
 |.d4 ab aT,nm=>[40,63,58]++((cG ab nm++124::cG aT (nm++er ab))++[41])
 |.atomic r,nm=>[40,63,62]++(cG r nm++[41])
 |.look x w cW,nm=>w3 w.isSome cW++(cG x nm++[41])
 |.nil,_=>[]
 |.cons x r,nm=>cG x nm++cG r (nm++er x)
theorem xu{n a:Nat}{nm:List Nat}:cG (.again n a) nm=if a=1/\n∈nm then 92::107::60::(dQ n++[62]) else if a=0/\n<10 then[40,63,58]++((92::fj n)++[41]) else 92::103::123::(fj n++[125]):=rfl
noncomputable def h1:bq->Nat
 |.again _ _=>1
 |.rounds x _ _=>h1 x
 |.group _ r _=>h1 r
 |.d4 ab aT=>h1 ab+h1 aT
 |.atomic r=>h1 r
 |.look x _ _=>h1 x
 |.cons x r=>h1 x+h1 r
 |_=>0
noncomputable def eS:bq->Nat
 |.again _ _=>1
 |.rounds x _ _=>eS x+1
 |.group _ r _=>eS r+1
 |.d4 ab aT=>max (eS ab) (eS aT)+1
 |.atomic r=>eS r+1
 |.look x _ _=>eS x+1
 |.cons x r=>max (eS x) (eS r)
 |_=>0
def Short:bq->Prop
 |.rounds x _ _=>Short x
 |.group _ r _=>Short r/\gP r<=3
 |.d4 ab aT=>(Short ab/\gP ab<=3)/\Short aT/\gP aT<=3
 |.atomic r=>Short r/\gP r<=3
 |.look x _ _=>Short x/\gP x<=3
 |.cons x r=>Short x/\Short r
 |_=>True
theorem rh{f:Bool}:∀x:bq,(nQ f x).length=gP x
 |.cons x r=>bA _ (rh r)
 |.one _=>rfl
 |.place _=>rfl
 |.rounds _ _ _=>rfl
 |.group _ _ _=>rfl
 |.again _ _=>rfl
 |.d4 _ _=>rfl
 |.atomic _=>rfl
 |.look _ _ _=>rfl
 |.nil=>rfl
theorem rW{f:Bool}{x:bq}(h:d5 x=true):e1 f x=gy (nQ f x):=by
 rcases x with _|_<;>first|rfl|exact cy h
def Fu(c:Nat):Prop:=c=97\/c=98\/c=46\/c=91\/c=92\/c=94\/c=36
theorem XJ{c:Nat}(h:Fu c):(c≠124/\c≠41)/\(c≠42/\c≠43/\c≠63/\c≠123/\(c<48\/57<c))/\c≠40:=by
 rcases h with h|h|h|h|h|h|h<;>(rw[h];decide)
theorem nh{c:Nat}{r:List Nat}(h:Fu c):pP (c::r):=
 have k:=XJ h
 ⟨(cu c r ⟨rfl,k.1.1,k.1.2⟩),⟨λ a eg d=>(rwr ((e0 d).1) k.2.1),λ D=>k.2.2 (e0 D).1⟩,λ D=>(k.2.2 (e0 D).1).elim⟩
theorem qM{c:Nat}{r:List Nat}(h:c=58\/c=60\/c=62\/c=61\/c=33):pP (40::63::c::r):=by
 refine⟨(cu 40 _ ⟨rfl,by decide,by decide⟩),⟨λ a eg d=>by(injection d with a0 bL;subst a0 bL);decide,λ D=>?_⟩,λ z a eg d=>?_⟩
 ·have:=(e0 (e0 (e0 D).2).2).1;lia
 ·(injection d with a0 bL;subst a0 bL)
  rcases h with rfl|rfl|rfl|rfl|rfl<;>exact⟨rfl,by decide⟩
theorem aca{c:Nat}{r:List Nat}(h:c≠63):pP (40::c::r):=by
 refine⟨(cu 40 _ ⟨rfl,by decide,by decide⟩),⟨λ a eg d=>by(injection d with a0 bL;subst a0 bL);decide,λ D=>?_⟩,λ D=>?_⟩
 ·exact h (e0 (e0 D).2).1
 ·exact(h (e0 (e0 D).2).1).elim
theorem acp{x:bq}{nm:List Nat}{g:Nat}(h:gB x g)(e:d5 x=false):∃c r,cG x nm=c::r/\c≠63:=by
 induction x generalizing nm g with
 |nil=>cases e
 |cons _ _=>cases e
 |one k=>exact u_ (P:=λ k=>∃c r,tq k=c::r/\c≠63) h (cu _ _ ⟨rfl,by decide⟩) (cu _ _ ⟨rfl,by decide⟩) (cu _ _ ⟨rfl,by decide⟩) (cu _ _ ⟨rfl,by decide⟩) (cu _ _ ⟨rfl,by decide⟩) (cu _ _ ⟨rfl,by decide⟩)
 |place w=>exact u9 (P:=λ w=>∃c r,rU w=c::r/\c≠63) h (cu _ _ ⟨rfl,by decide⟩) (cu _ _ ⟨rfl,by decide⟩) (cu _ _ ⟨rfl,by decide⟩)
 |rounds x c m f=>
  refine fC (f (nm:=nm) h.2.2.2 h.2.2.1) λ l r d i=>?_
  show∃j eg,(if kJ x then cG x nm else[40,63,58]++(cG x nm++[41]))++((f' c).2.2++jt m)=j::eg/\_
  split
  ·rw[d];exact cu _ _ ⟨rfl,i⟩
  ·exact cu _ _ ⟨rfl,by decide⟩
 |group n r b _=>rcases b with _|_<;>exact cu _ _ ⟨rfl,by decide⟩
 |again n a=>
  rw[xu]
  split
  ·exact cu _ _ ⟨rfl,by decide⟩
  ·split<;>exact cu _ _ ⟨rfl,by decide⟩
 |d4 _ _ _ _=>exact cu _ _ ⟨rfl,by decide⟩
 |atomic _ _=>exact cu _ _ ⟨rfl,by decide⟩
 |look x p cW _=>clear h e;rcases p with _|_<;>rcases cW with _|_<;>exact cu _ _ ⟨rfl,by decide⟩
set_option tactic.hygienic true
theorem Kh{x:bq}{nm:List Nat}{g:Nat}(h:gB x g)(V:d5 x=true):∀c r,cG x nm++[41]=c::r->c≠63:=by
 intro c r d
 rcases x with _|_
 case nil=>(injection d with a0 bL;subst a0 bL);decide
 case cons x H=>
  refine fC (acp (nm:=nm) h.2.1 h.1.1) λ e eg a b=>?_
  rw[show cG _ nm=cG x nm++cG H _ from rfl,a] at d
  (injection d with a0 bL;subst a0 bL)
  exact b
 all_goals exact cy V
theorem Ef{x:bq}{nm:List Nat}{g:Nat}(h:gB x g)(e:d5 x=false)(bk:List Nat):pP (cG x nm++bk):=by
 induction x generalizing nm g bk with
 |nil=>cases e
 |cons _ _=>cases e
 |one k=>exact u_ (P:=λ k=>pP (tq k++bk)) h (nh (.inl rfl)) (nh (.inr (.inl rfl))) (nh (.inr (.inr (.inl rfl)))) (nh (.inr (.inr (.inr (.inl rfl))))) (nh (.inr (.inr (.inr (.inr (.inl rfl)))))) (nh (.inr (.inr (.inr (.inl rfl)))))
 |place w=>exact u9 (P:=λ w=>pP (rU w++bk)) h (nh (.inr (.inr (.inr (.inr (.inr (.inl rfl))))))) (nh (.inr (.inr (.inr (.inr (.inr (.inr rfl))))))) (nh (.inr (.inr (.inr (.inr (.inl rfl))))))
 |rounds x c m f=>
  by_cases i:kJ x=true
  ·have d:cG (.rounds x c m) nm=cG x nm++((f' c).2.2++jt m):=by
    show(if kJ x then cG x nm else _)++_=_
    rw[aU i]
   rw[d,el]
   exact f h.2.2.2 h.2.2.1 _
  ·have d:cG (.rounds x c m) nm=([40,63,58]++(cG x nm++[41]))++((f' c).2.2++jt m):=by
    show(if kJ x then cG x nm else _)++_=_
    rw[a8 i]
   rw[d]
   exact qM (.inl rfl)
 |group n r b f=>
  rcases b with _|_
  case true=>exact qM (.inr (.inl rfl))
  case false=>
   show pP (40::(cG r nm++[41])++bk)
   rcases d:cG r nm++[41] with _|_
   case nil=>exact absurd d (by simp)
   case cons c eg=>exact aca (Kh h.2.2 h.2.1 c eg d)
 |again n a=>
  rw[xu]
  split
  ·exact nh (.inr (.inr (.inr (.inr (.inl rfl)))))
  ·split
   ·exact qM (.inl rfl)
   ·exact nh (.inr (.inr (.inr (.inr (.inl rfl)))))
 |d4 _ _=>exact qM (.inl rfl)
 |atomic _=>exact qM (.inr (.inr (.inl rfl)))
 |look x p cW=>
  clear h e;rcases p with _|_<;>rcases cW with _|_
  ·exact qM (.inr (.inr (.inr (.inl rfl))))
  ·exact qM (.inr (.inr (.inr (.inr rfl))))
  ·exact qM (.inr (.inl rfl))
  ·exact qM (.inr (.inl rfl))
set_option tactic.hygienic false
theorem DF{a b:List Nat}{g u v:Nat}(C:∀n∈a,g<n/\n<=g+u)(I:∀n∈b,g+u<n/\n<=g+u+v):∀n∈a++b,g<n/\n<=g+(u+v):=λ n h=>
 (fv.mp h).elim (λ h=>⟨(C n h).1,J [_,_,_,_] 0x398050100628081 L (C n h).2⟩) λ h=>⟨J [_,_,_] 0xc1110003044520001 L (I n h).1,J [_,_,_,_] 0xe60140401cc500081 L (I n h).2⟩
theorem qy(x:bq)(g:Nat)(a:gB x g):∀n∈er x,g<n/\n<=g+dX x:=by
 induction x generalizing g with
 |one _=>exact λ z h=>nomatch h
 |place _=>exact λ z h=>nomatch h
 |again _ _=>exact λ z h=>nomatch h
 |nil=>exact λ z h=>nomatch h
 |rounds x _ _ c=>exact c g a.2.2.2
 |group m r b c=>
  refine DF (λ n h=>?_) (c _ a.2.2)
  rcases b with _|_
  ·cases h
  ·rw[fu.mp h,a.1];exact⟨eo g,bw _⟩
 |d4 ab aT d e=>exact DF (d g a.2.1) (e _ a.2.2)
 |atomic r c=>exact c g a.2
 |look x p _ c=>rcases p with _|_<;>exact c g a.2
 |cons x r d e=>exact DF (d g a.2.1) (e _ a.2.2)
theorem DG(x:bq):(er x).length<=dX x:=by
 induction x with
 |one _=>exact bw 0
 |place _=>exact bw 0
 |again _ _=>exact bw 0
 |nil=>exact bw 0
 |rounds _ _ _ a=>exact a
 |group m r b a=>
  show((if b then[m] else[])++er r).length<=1+dX r
  rw[bR]
  refine fV ?_ a
  rcases b with _|_
  ·exact de _
  ·exact bw _
 |d4 ab aT c d=>exact ah (jE bR ..) (fV c d)
 |atomic _ a=>exact a
 |look _ _ _ a=>exact a
 |cons x r c d=>exact ah (jE bR ..) (fV c d)
section
section
variable{aw:jy}
theorem sh.mono{k:Nat}{args:List E}{ok:List Nat->Prop}{N ks bz oG:Nat}{w:List Nat}{v:E}{g bN:Nat}{nm b:List Nat}{c:Nat}(h:sh aw k args ok N bz w v g bN nm b c)(d:N<=ks)(f:bz<=oG):sh aw k args ok ks oG w v g bN nm b c:=
 λ n pr a o u e K bk Y i=>h n pr a o u e K _ (ah d Y) (J [_,_,_] 0x4e2190c0004e2194c009481 L f i)
theorem oE.mono{N ks bz oG:Nat}{w:List Nat}{v:E}{g bN:Nat}{nm b:List Nat}{c:Nat}(h:oE aw N bz w v g bN nm b c)(d:N<=ks)(f:bz<=oG):oE aw ks oG w v g bN nm b c:=
 λ n pr a o u e K bk Y i=>h n pr a o u e K _ (ah d Y) (J [_,_,_] 0x4e2190c0004e2194c009481 L f i)
theorem i2.mono{N ks bz oG:Nat}{w:List Nat}{B:List E}{g bN:Nat}{nm a:List Nat}{b:Nat}(h:i2 aw N bz w B g bN nm a b)(c:N<=ks)(d:bz<=oG):i2 aw ks oG w B g bN nm a b:=by
 induction h with
 |nil=>exact .nil
 |cons C I _ e=>exact .cons (C.mono c d) I e
theorem i2.one{N bz:Nat}{w:List Nat}{v:E}{g bN:Nat}{nm a:List Nat}{b:Nat}(h:oE aw N bz w v g bN nm a b)(c:∀bk,pP (w++bk)):i2 aw N bz w [v] g bN nm a b:=by
 have:=i2.cons h c (.nil)
 rwa [gS] at this
theorem rl{N bz:Nat}{w:List Nat}{B:List E}{g bN:Nat}{nm a:List Nat}{b:Nat}(c:7<=N)(h:i2 aw N bz w B g bN nm a b)(d:B.length<=1000):nq aw (N+2) bz w (gy B) g bN nm a b:=Ti (cI λ e=>bB _ (J [_] 0x41100e2088222000121c41 L c e)) (D8 c h d)
theorem Vy{c:Nat}{r:List Nat}(a:c<6):((f' c).2.2++r).take 3≠[40,63,35]:=
 u_ (P:=λ c=>((f' c).2.2++r).take 3≠[40,63,35]) a (λ D=>absurd (e0 D).1 (by decide)) (λ D=>absurd (e0 D).1 (by decide)) (λ D=>absurd (e0 D).1 (by decide)) (λ D=>absurd (e0 D).1 (by decide)) (λ D=>absurd (e0 D).1 (by decide)) λ D=>absurd (e0 D).1 (by decide)
theorem GJ{N bz c m:Nat}{w:List Nat}{v:E}{g bN:Nat}{nm b:List Nat}{f:Nat}(k:7<=N)(i:c<6)(l:m<3)(p:fM v=true)(h:lF aw N bz w v g bN nm b f):oE aw N bz (w++((f' c).2.2++jt m)) (.tup [.str qz,v,.int (dg c),.int (dW c),.str (zH m)]) g bN nm b f:=by
 intro n pr a o u e K bk Y r s V t b6 q
 rw[el,el] at V
 refine h n pr a o u e _ _ Y r s V trivial b6 λ A C j=>bP.VA C (cI λ x=>bB _ (J [_,_] 0x41100a2088a00948121c41 L k Y x)) i l p j t (λ D=>?_) λ B I y=>?_
 ·rw[j] at D
  exact Vy i D
 ·have d:a+(w++((f' c).2.2++jt m)).length=a+w.length+(f' c).2.2.length+(jt m).length:=by
   rw[bR,bR];exact cB (J [_,_,_,_] 0x1cc5200003980501000 L) (J [_,_,_,_] 0x1cc028080398a400000 L)
  refine q _ ?_ ?_
  ·rw[d];exact I
  ·rw[d];exact y
inductive SJ(f:Bool)(k:Nat):Prop where
 |bU (c:Nat) (d:tq k=[c]) (h:(c=97/\gX f k=gX f 0)\/(c=98/\gX f k=gX f 1)\/(c=46/\gX f k=gX f 2))
 |st (cW:Bool) (ee:List Nat) (d:tq k=91::((if cW then[94] else[])++(ee++[93]))) (C:∀c∈ee,c=97\/c=98) (I:ee≠[]) (ag:ee.length<=9) (a5:gX f k=.tup [.str ph,.lst (ee.map vl),.bool cW,.bool f])
 |afa (d:k=4)
theorem aaq{f:Bool}{k:Nat}(h:k<6):SJ f k:=
 u_ h (.bU 97 rfl (.inl ⟨rfl,rfl⟩)) (.bU 98 rfl (.inr (.inl ⟨rfl,rfl⟩))) (.bU 46 rfl (.inr (.inr ⟨rfl,rfl⟩))) (.st _ [97,98] rfl (by decide) (by decide) (ae rfl) rfl) (.afa rfl) (.st _ [97] rfl (by decide) (by decide) (ae rfl) rfl)
theorem aaE{k g:Nat}{nm:List Nat}(s:k<6):lF aw 7 0 (tq k) (gX aw.f k) g g nm nm 0:=by
 intro n pr a o u e K bk Y B b V _ b6 q
 rcases aaq s with⟨c,d,v⟩|⟨cW,l,d,C,I,ag,p⟩|d
 ·rw[d] at V q
  refine bP.plain b (ah (ae rfl) Y) V ?_ λ r C=>q _ C (p_ V)
  rcases v with h|h|h
  ·exact .inl h
  ·exact .inr (.inl h)
  ·exact .inr (.inr (.inl h))
 ·refine a7 (fw (k:=1) (cI λ i=>bB _ (J [_] 0x822004411100121c41 L Y i))) λ n w=>?_;subst w
  have j:aw.t.drop a=91::((if cW then[94] else[])++(l++93::bk)):=by rw[V,d];simp
  refine aH (Ao ..) (bP.peek b (cI λ i=>bB _ (J [_] 0x4110022088800844401c41 L Y i)) (by rw[j];rfl) (kA (by decide) (br (uB (cF (bg (lU (wq _)) (bP.ab4 b (J [_] 4716906028211265 L Y) C I ag j λ r x=>?_)))))))
  rw[<-p]
  have y:(tq k).length=(if cW then 1 else 0)+l.length+2:=by
   rw[d];clear p j;rcases cW with _|_<;>simp<;>(exact cB (J [_] 4434554851328 L) (J [_] 1172530300928 L))
  refine q _ ?_ (p_ V)
  rw[y,<-ez,<-ez]
  exact x
 ·subst d
  exact bP.escape b (ah (ae rfl) Y) V λ m A=>bP.G8 b (cI λ i=>bB _ (J [_,_] 0x20880210445004222808121c41 L Y (aL A.symm) i)) V (.inl ⟨rfl,rfl⟩) λ r C=>q _ C (p_ V)
theorem aaW{w g:Nat}{nm:List Nat}(d:w<3):lF aw 7 0 (rU w) (e1 aw.f (.place w)) g g nm nm 0:=by
 intro n pr a o u e K bk Y j b V _ b6 q
 revert V q;apply u9 d<;>intro V q
 ·exact bP.plain b (ah (ae rfl) Y) V (.inr (.inr (.inr (.inl ⟨rfl,rfl⟩)))) λ c C=>q _ C (p_ V)
 ·exact bP.plain b (ah (ae rfl) Y) V (.inr (.inr (.inr (.inr ⟨rfl,rfl⟩)))) λ c C=>q _ C (p_ V)
 ·exact bP.escape b (ah (ae rfl) Y) V λ m h=>bP.G8 b (cI λ i=>bB _ (J [_,_] 0x20880210445004222808121c41 L Y (aL h.symm) i)) V (.inr ⟨rfl,rfl⟩) λ c C=>q _ C (p_ V)
theorem afe{n u:Nat}{f:Bool}{e:U}{A:bl}(q:A (.int 0) e):call (n+1) 90 [e1 f (.place u)] A e:=
 aH (EE ..) (bx rfl (cb (ae rfl) rfl (bg (r:=false) rfl (br (cb (ae rfl) rfl (bg (r:=true) rfl (cF q)))))))
set_option tactic.hygienic true in
theorem V2{f:Bool}{w:Nat}{x:bq}(h:jA w x):(nQ f x).length=w/\∀(i:Nat)(v:E),(nQ f x)[i]?=some v->∃k,v=gX f k:=by
 induction h with
 |nil=>exact⟨rfl,λ i v h=>bF h⟩
 |@cons w k r b _ a=>
  refine⟨bA _ a.1,λ i v h=>?_⟩
  rcases i with _|_
  case zero=>obtain rfl:=ck h;exact⟨k,rfl⟩
  case succ i=>exact a.2 i v h
theorem aff{f:Bool}{w n:Nat}{x:bq}{e:U}{A:bl}(h:jA w x)(c:w<3)(Y:2<=n)(q:A (.int w) e):call n 90 [e1 f x] A e:=by
 apply D1 Y;intro n j
 rw[rW h.wf.1.1]
 refine bc (V2 h) λ C I=>Ly (aV:=List.replicate w 1) (by rw[C,sx]) (by exact rwl sx (J [_] 0x1f4086400c4111001 L c)) (λ i v l b a K d=>?_) ?_
 ·refine a7 (I i v b) λ k g=>?_;clear b;subst g
  have:=ix.mp a
  obtain⟨m,a⟩:=this
  rw[List.getElem_replicate] at a
  subst a
  exact afg d
 ·rw[show(List.replicate w 1).sum=w by simp]
  exact q
theorem Zn(b cW:Bool):(w3 b cW,b,cW)∈kL:=by rcases b with _|_<;>rcases cW with _|_<;>decide
set_option tactic.hygienic true in
theorem abt:∀(x:bq)(g:Nat)(nm:List Nat),gB x g->Short x->g+dX x<=900->(∀H∈nm,H<=g)->nm.length<=g->
  (d5 x=false->(∀H c m,x≠.rounds H c m)->lF aw (7+6*eS x) (eS x) (cG x nm) (e1 aw.f x) g (g+dX x) nm (nm++er x) (h1 x))/\
  (d5 x=false->oE aw (7+6*eS x) (eS x) (cG x nm) (e1 aw.f x) g (g+dX x) nm (nm++er x) (h1 x))/\
  (d5 x=true->i2 aw (7+6*eS x) (eS x) (cG x nm) (nQ aw.f x) g (g+dX x) nm (nm++er x) (h1 x)):=by
 have G:∀{x:bq}{g:Nat}{nm:List _},d5 x=false->lF aw _ _ _ _ g _ nm _ _->(d5 x=false->(∀H c m,x≠.rounds H c m)->lF aw _ _ _ _ g _ nm _ _)/\
  (d5 x=false->oE aw (7+6*eS x) (eS x) (cG x nm) (e1 aw.f x) g (g+dX x) nm (nm++er x) (h1 x))/\
  (d5 x=true->i2 aw (7+6*eS x) (eS x) (cG x nm) (nQ aw.f x) g (g+dX x) nm (nm++er x) (h1 x)):=λ aM h=>⟨λ z z=>h,λ z=>h.atom (dD ..),λ D=>by rw[aM] at D;exact cy D⟩
 intro x
 induction x with
 |one k=>exact λ g nm h l j t s=>G rfl (by rw[show nm++er _=nm from gS _];exact aaE h)
 |place w=>exact λ g nm h l j t s=>G rfl (by rw[show nm++er _=nm from gS _];exact aaW h)
 |nil=>exact λ g nm h l j t s=>⟨λ D=>(nomatch D),λ D=>(nomatch D),λ z=>by rw[show nm++er _=nm from gS _];exact .nil⟩
 |cons x r C3 C2=>
  intro g nm h l j t s
  have F:dX (.cons x r)=dX x+dX r:=rfl
  have A:=(C3 g nm h.2.1 l.1 (J [_,_,_,_] 0x1c208662000539801e104329001 L j (aL F.symm)) t s).2.1 h.1.1
  have V:=(C2 _ _ h.2.2 l.2 (J [_,_,_,_] 0x708219cc40000539801e104329001 L j (aL F.symm)) (λ H b_=>by
   rcases fv.mp b_ with b_|b_
   ·have:=t H b_;exact J [_,_,_] 211531338881 L this
   ·exact(qy x g h.2.1 H b_).2) (by rw[bR];exact fV s (DG x))).2.2 h.1.2
  refine⟨λ D=>(nomatch D),λ D=>(nomatch D),λ z=>?_⟩
  have X:=i2.cons (A.mono (e7 (ui 6 (rd ..)) 7) (rd ..)) (Ef h.2.1 h.1.1) (V.mono (e7 (ui 6 (rf ..)) 7) (rf ..))
  rw[ez,el] at X
  exact X
 |group n r b E=>
  intro g nm h l j t s
  refine e_ h λ fh C I=>?_;clear h;subst fh
  have F:dX (.group (g+1) r b)=1+dX r:=rfl
  have Z:7<=7+6*eS r+2:=J [_] 74456770352782400 L
  have rD:7+6*eS (.group (g+1) r b)=7+6*eS r+2+4:=cB (J [_] 0x821088609c4000022200c138800 L) (J [_] 0x22200c13880410844304e200000 L)
  have O:∀x∈nm,x<1000:=λ x A=>by have:=t x A;exact J [_,_,_] 0xfa043088c0010c1e104329001 L j this
  refine G rfl ?_
  clear rD;rcases b with _|_
  case true=>
   have V:=(E _ _ I l.1 (J [_,_,_] 0x1c2086608880000a608801e104329001 L j (aL F.symm)) (λ H b_=>by
    rcases fv.mp b_ with b_|b_
    ·have:=t H b_;exact J [_,_] 1173604013185 L this
    ·obtain rfl:=fu.mp b_;exact bw _) (by rw[bR];exact h9 s)).2.2 C
   have y:=rl (J [_] 4605515668544 L) V (by rw[rh];have:=l.2;exact J [_] 0x3e810c8018881 L this)
   rw[<-rW C,el,ez g 1] at y
   exact Z7 Z y (ti r) (J [_,_] 0xfa0430882220000e104329001 L j) O (J [_,_,_] 0x1f4086407082198a009481 L s j) λ D=>by have:=t _ D;exact bB _ (J [_] 71537110618113 L this)
  case false=>
   have V:=(E _ nm I l.1 (J [_,_,_] 0x1c2086608880000a608801e104329001 L j (aL F.symm)) (λ H b_=>by have:=t H b_;exact J [_,_] 1173604013185 L this) (J [_,_] 1173604013185 L s)).2.2 C
   have y:=rl (J [_] 4605515668544 L) V (by rw[rh];have:=l.2;exact J [_] 0x3e810c8018881 L this)
   rw[<-rW C,ez g 1] at y
   exact Xs Z y (ti r) (J [_,_] 0xfa0430882220000e104329001 L j) O (J [_,_,_] 0x1f4086407082198a009481 L s j) (Kh I C)
 |atomic r E=>
  intro g nm h l j t s
  have V:=(E g nm h.2 l.1 j t s).2.2 h.1
  have y:=rl (J [_] 4605515668544 L) V (by rw[rh];have:=l.2;exact J [_] 0x3e810c8018881 L this)
  rw[<-rW h.1] at y
  exact G rfl ((TJ (J [_] 74456770352782400 L) y (ti r)).mono (J _ 0x22200c13880310844304e200000 L) (bw _))
 |d4 ab aT ia ib=>
  intro g nm h l j t s
  have F:dX (.d4 ab aT)=dX ab+dX aT:=rfl
  have M:=(ia g nm h.2.1 l.1.1 (J [_,_,_,_] 0x1c208662000539801e104329001 L j (aL F.symm)) t s).2.2 h.1.1
  have en:=(ib _ _ h.2.2 l.2.1 (J [_,_,_,_] 0x708219cc40000539801e104329001 L j (aL F.symm)) (λ H b_=>by
   rcases fv.mp b_ with b_|b_
   ·have:=t H b_;exact J [_,_,_] 211531338881 L this
   ·exact(qy ab g h.2.1 H b_).2) (by rw[bR];exact fV s (DG ab))).2.2 h.1.2
  have y:=D0 (J [_] 0x441110c13880001c40 L) (Tj (J _ 0x888609c4001c40 L) (D8 (J [_] 4605515668544 L) (M.mono (ks:=7+6*max _ (eS aT)) (oG:=max _ (eS aT)) (e7 (ui 6 (rd ..)) 7) (rd ..)) (by rw[rh];have:=l.1.2;exact J [_] 0x3e810c8018881 L this)) (D8 (J [_] 4605515668544 L) (en.mono (ks:=7+6*max (eS ab) _) (oG:=max (eS ab) _) (e7 (ui 6 (rf ..)) 7) (rf ..)) (by rw[rh];have:=l.2.2;exact J [_] 0x3e810c8018881 L this)))
  rw[<-rW h.1.1,<-rW h.1.2,ez g,show nm++er ab++er aT=nm++(er ab++er aT) from el ..] at y
  exact G rfl (y.mono (J _ 0x11100609c40188220888609c4000000 L) (bw _))
 |again n a=>
  intro g nm h l j t s
  refine G rfl ?_
  rw[show nm++er _=nm from gS _]
  have O:∀x∈nm,x<1000:=λ x A=>by have:=t x A;exact J [_,_,_] 0xfa043088c0010c1e104329001 L j this
  have Y:=h.2.1
  have G6:∀(w:List _),(∀bk,w=107::60::(dQ n++[62])/\n∈nm\/w=103::123::(fj n++[125]))->lF aw 7 1 (92::w) _ g g nm nm 1:=λ w P=>by
   intro m pr a o u e K bk N R Q V _ b6 q
   refine bP.escape Q (cI λ B=>bB _ (J [_] 0x822004411100121c41 L N B)) V λ jR S=>bP.G7 Q (J [_,_] 0xa6100222808121c41 L N (aL S.symm)) h.1 Y (J [_,_,_] 0xfa043088c0010c1e104329001 L j Y) O (J [_,_,_] 0x1f40866010c1e104329001 L j s) (J [_] 0x6ddd0106406ddd0106111001 L b6) V (by rcases P bk with D|D;exact .inl D;exact .inr (.inl D)) λ av C=>q _ C (p_ V)
  rw[xu,AV]
  by_cases M:a=1/\n∈nm
  ·rw[aU M,a8 λ B=>bB _ (J [_] 73253864971830337 L (aL M.1.symm) (aL B.1))]
   exact(G6 _ λ z=>.inl ⟨rfl,M.2⟩).mono (dD ..) (bw _)
  ·rw[a8 M]
   by_cases en:a=0/\n<10
   ·rw[aU en,aU en]
    have n1:oE aw 7 0 (92::fj n) _ g g nm nm 1:=λ m pr a o u e K bk N R Q V HY b6 q=>
     bP.escape Q (cI λ B=>bB _ (J [_] 0x822004411100121c41 L N B)) V λ jR S=>bP.G7 Q (J [_,_] 0xa6100222808121c41 L N (aL S.symm)) h.1 Y (J [_] 0xfa043088800284111001 L en.2) O (J [_,_,_] 0x1f40866010c1e104329001 L j s) (J [_] 0x6ddd0106406ddd0106111001 L b6) V (.inr (.inr ⟨en.2,rfl,λ c r d=>(HY.1 c r d).2.2.2.2⟩)) λ av C=>bP.GN C (cI λ B=>bB _ (J [_] 0x822014411100121c41 L N B)) (by rw[show a+(fj n).length+1=a+(92::fj n).length from rfl,p_ V];exact HY) (q _ C (p_ V))
    exact(D0 (ae rfl) (rl (ae rfl) (i2.one n1 λ bk=>nh (.inr (.inr (.inr (.inr (.inl rfl)))))) (show 1<=1000 by decide))).mono (by show 12<=7+6*1;exact ae rfl) (bw _)
   ·rw[a8 en,a8 en]
    exact(G6 _ λ z=>.inr rfl).mono (dD ..) (bw _)
 |look x p cW E=>
  intro g nm h l j t s
  refine G rfl ?_
  have P:=by rcases p with _|_<;>exact h.2
  refine e_ (E g nm P l.1 j t s) λ T U IB=>?_
  have y:nq aw (7+6*eS x+2) (eS x) (cG x nm) (if d5 x then e1 aw.f x else gy [e1 aw.f x]) g (g+dX x) nm (nm++er x) (h1 x):=by
   by_cases V:d5 x=true
   ·have:=rl (J [_] 4605515668544 L) (IB V) (by rw[rh];have:=l.2;exact J [_] 0x3e810c8018881 L this)
    rw[<-rW V] at this
    rw[aU V]
    exact this
   ·have V:d5 x=false:=by rcases d:d5 x with _|_;rfl;exact(V d).elim
    rw[a8 (by rw[V];decide)]
    exact rl (J [_] 4605515668544 L) (i2.one (U V) (Ef P V)) (show 1<=1000 by decide)
  refine(Zq (J [_] 74456770352782400 L) (Zn p.isSome cW) y (by split;exact ti x;rfl:fM (if d5 x then e1 aw.f x else gy [e1 aw.f x])=true) (λ W n e K Y cq=>?_) λ W=>?_).mono (J _ 0x22200c13880410844304e200000 L) (bw _)
  ·rcases p with _|_
   case none=>exact cy W
   case some w=>
    clear P IB y;rcases h.1.2 with⟨bC,R⟩|⟨rfl,lu,agw,agx,rfl⟩
    ·exact rwl (aU R.wf.1.1) (aff R h.1.1 (cI λ B=>bB _ (J [_,_] 0x4110042088a0094422182710001 L Y B)) cq)
    ·refine a7 (fw (k:=2) (cI λ B=>bB _ (J [_,_] 0x4110042088a0094422182710001 L Y B))) λ n fD=>?_;subst fD
     refine Ly (aV:=[0]) rfl (ae rfl) (λ i v lz mx uY d3 XA=>?_) cq
     rcases i with _|_
     case zero=>obtain rfl:=ck mx;obtain rfl:=ck uY;exact afe XA
     case succ i=>exact bF mx
  ·rcases p with _|_
   case none=>rfl
   case some w=>cases W
 |rounds x c m E=>
  intro g nm h l j t s
  refine⟨λ z D=>((D x c m) rfl).elim,λ z=>e_ (E g nm h.2.2.2 l j t s) λ T U z=>?_,λ D=>cy D⟩
  have a3:cG (.rounds x c m) nm=(if kJ x then cG x nm else[40,63,58]++(cG x nm++[41]))++((f' c).2.2++jt m):=rfl
  have a_:e1 _ (.rounds x c m)=.tup [.str _,if kJ x then e1 _ x else gy [e1 aw.f x],.int _,.int _,.str _]:=rfl
  rw[a3,a_]
  by_cases A:kJ x=true
  ·rw[aU A,aU A]
   exact(GJ (J [_] 4605515668544 L) h.1 h.2.1 (ti x) (T h.2.2.1 λ H c m d=>by clear E l j T a3 a_;subst d;exact cy A)).mono (J _ 0x8880304e2010c138800 L) (J [_] 35782784 L)
  ·rw[a8 A,a8 A]
   exact(GJ (J [_] 0xc42110c13880001c40 L) h.1 h.2.1 rfl (D0 (J _ 74456770352782400 L) (rl (J _ 4605515668544 L) (i2.one (U h.2.2.1) (Ef h.2.2.2 h.2.2.1)) (show 1<=1000 by decide)))).mono (J _ 0x22200c13880310844304e200000 L) (bw _)
end
end
section
section
variable{e:U}{t:List Nat}{k:bl}{A:bl}
theorem wQ{x H D:Int}(h:x+H=D)(q:k (.int D) e):eR .Add (.int x) (.int H) k e:=by subst h;exact q
theorem AX{x H D:Int}(h:x+H=D)(q:k (.int D) e):bu .Add (.int x) (.int H) k e:=by subst h;exact q
theorem aaK{n:Nat}{j:List Nat}(o:j.length<=c7)(q:∀b,A (.bool b) e):call (n+1) 83 [.str j] A e:=by
 have a9:∀{l u:Option E}{dV lu:Option _}{K:bl},jK l=some dV->jK u=some lu->(∀r,K _ e)->eN _ l u K e:=λ C I p=>kR o C I (p _)
 have mr:∀{d:PySem.CmpOp}{x H:List _}{c1:Bool->U->Prop},d=.Eq\/d=.NotEq->(∀b,c1 b e)->aE d (.str x) (.str H) c1 e:=λ h g=>by
  rcases h with rfl|rfl
  ·exact bg rfl (g _)
  ·exact bg rfl (g _)
 refine aH (aeO ..) (a9 rfl (eM (ae rfl)) λ r=>mr (.inr rfl) λ b=>jL (λ z=>q _) λ z=>mA (λ r M=>(∃b,r=.bool b)/\M=e) (λ s a=>?_) λ r M V=>by refine bc V λ i t=>?_;clear V;refine a7 i λ b v=>?_;clear i;subst v;subst t;exact q b)
 have a:=λ b=>a _ _ ⟨⟨b,rfl⟩,rfl⟩
 have f:∀{b:Bool}{r:U->Prop},r e->f_ _ (.bool b) s r e:=λ{b r} h=>by rcases b with _|_;exact yF h;exact Bl (a _)
 refine a9 rfl (eM (n:=2) (by decide)) λ r=>mr (.inl rfl) λ b=>f (a9 rfl (eM (n:=3) (by decide)) λ r=>mr (.inl rfl) λ b=>f (mA (λ r M=>(∃b,r=.bool b)/\M=e) (λ w c=>?_) λ r M V=>by refine bc V λ k y=>?_;clear V;refine a7 k λ b B=>?_;clear k;subst B;clear q f;subst y;exact a b))
 have c:=λ b=>c _ _ ⟨⟨b,rfl⟩,rfl⟩
 have m:∀{b:Bool}{r:U->Prop},r e->f_ _ (.bool b) w r e:=λ{b r} h=>by rcases b with _|_;exact uq (c _);exact p5 h
 exact a9 rfl (eM (n:=2) (by decide)) λ r=>mr (.inl rfl) λ b=>m (a9 (eM (n:=2) (by decide)) (eM (n:=3) (by decide)) λ r=>mr (.inr rfl) λ b=>m (a9 (eM (n:=2) (by decide)) (eM (n:=3) (by decide)) λ r=>mr (.inr rfl) c))
theorem acS{j:List Nat}{i c:Nat}{D:Int}(hz:D=i)(a:i<=1000000000)(b:j[i]?=some c)(q:k (.str [c]) e):item (.str j) (.int D) k e:=by
 subst hz
 exact kk a b q
theorem ab5{n i:Nat}{D:Int}(hz:D=i)(cZ:t.length<=500000)(l:i<t.length)(q:∀y:Nat,i<y->y<=t.length+3->A (.int y) e):call (n+1) 82 [.str t,.int D] A e:=by
 have hC:t.length<=c7:=ah cZ (ae rfl)
 have g:∀y,y<=t.length+4->y<=1000000000:=λ y h=>J [_,_] 0xee6b2800c328082200a17a12020c81 L cZ h
 have m:∀(c:Nat)(y:Nat),y<=t.length+2->∀K:E->U->Prop,(∀f,y<=f->f<=y+1->K _ e)->(bu _ (.int y) (.int 1) λ si=>eN _ (some _) _ λ Q=>aE _ Q (.str [c]) λ R=>aW R (eR _ (.int y) (.int 1) _) _) e:=λ c y dE K j=>by
  refine a7 (⟨_,rfl⟩:∃d,d=y+1) λ d a=>AX (k1.mpr (cB (aL a.symm) (aL a))) (kR hC (eM (g y (J [_,_] 0x208a02004228081 L dE))) (eM (g d (J [_,_,_] 0x82280c0088803044228081 L dE (aL a)))) (hu (jL (λ z=>wQ (k1.mpr (cB (aL a.symm) (aL a))) (j d (J [_,_] 5635165982721 L (aL a.symm)) (aL a))) λ z=>j y (bw _) (hp _))))
 refine a7 (⟨_,rfl⟩:∃d,d=i+1) λ d a=>aH (aeN ..) (wQ (by lia) (m 94 d (J [_,_,_] 0x42280c008880304a111001 L l (aL a)) _ λ y v x=>m 93 y (J [_,_,_,_] 0x108a038022300e108880304a111001 L l (aL a) x) _ λ f B S=>mb (λ bh ak M=>M=e/\∃s,f<=s/\s<=t.length+3/\bh=t.length+3-s/\ak=sg _ (some (.int s))) (λ bh ak T d3 F j z z=>afs F λ W s o k X Y=>?_) ⟨rfl,f,bw _,J [_,_,_,_,_] 0x6228100088e040422300e108880304a111001 L l (aL a) x S,rfl,rfl⟩));clear F;subst W;subst X;subst Y
 refine aH (adl ..) (d_ (j0 hC (iD (iY (λ C=>?_) λ C=>f3 (aH (F' ..) (gm (q s (J [_,_,_,_,_] 0x808880020e139826284a111001 L (aL a.symm) v B o) k)))))))
 have p:=dR.mp (gg C)
 refine a7 (o5 p) λ c G=>kk (g s (J [_,_] 0x208a02006228081 L k)) G (bg rfl (iY (λ I=>aH (UE ..) (mA (λ r M=>(∃w:Nat,r=.int w/\0<w/\w<=2)/\M=T) (λ bj H=>kk (g s (J [_,_] 0x208a02006228081 L k)) G (hu (jL (λ z=>H _ _ ⟨⟨2,rfl,ae rfl,ae rfl⟩,rfl⟩) λ z=>H _ _ ⟨⟨1,rfl,ae rfl,ae rfl⟩,rfl⟩))) λ r M V=>bc V λ N Z=>?_)) λ I=>f3 (aH (F' ..) (gm (q s (J [_,_,_,_,_] 0x808880020e139826284a111001 L (aL a.symm) v B o) k)))));clear V;refine fB N λ w qY Yn O=>?_;clear N;subst qY;clear q m;subst Z
 exact a7 (⟨_,rfl⟩:∃d,d=s+w) λ P b=>wQ (k1.mpr (cB (aL b.symm) (aL b))) (j (t.length+3-P) _ _ (J [_,_,_,_,_,_] 0x10112400188e0324012a00311c01310a00902200801 L Yn (aL b.symm) (d2 _ _) (di (cI λ u=>bB _ (J [_,_,_,_] 0x1044038443114000988038442304a111001 L p O (aL b) u)))) ⟨rfl,P,J [_,_,_,_] 8022283964683393 L o (aL b.symm),cI λ u=>bB _ (J [_,_,_,_] 0x1044038443114000988038442304a111001 L p O (aL b) u),rfl,rfl⟩).1
theorem Vz{n:Nat}(Y:2<=n)(cZ:t.length<=500000)(q:∀m:Int,A (.int m) e):call n 81 [.str t] A e:=by
 apply D1 Y;intro n G
 have hC:t.length<=c7:=ah cZ (ae rfl)
 have i:∀y,y<=t.length+4->y<=1000000000:=λ y h=>J [_,_] 0xee6b2800c328082200a17a12020c81 L cZ h
 refine aH (aeM ..) (mb (λ bh ak M=>M=e/\∃(s:Nat)(m D:Int),D=s/\s<=t.length+4/\bh=t.length+4-s/\ak=q6 _ (some (.int m)) (some (.int D))) (λ bh ak r u l v z z=>tM l λ w s m D hz H x B=>?_) ⟨rfl,0,0,0,rfl,de _,rfl,rfl⟩);clear l;subst w;subst x;subst B
 refine aH (adk ..) (j0 hC (iD ?_))
 by_cases f:s<t.length
 ·rw[fi (show D<t.length by lia)]
  refine a7 (o5 f) λ c E=>?_
  have j:∀K,K (.str [c]) r->item _ _ K _:=λ K=>acS hz (i s (by assumption)) E
  have fin:∀(o:Int)(il:Nat)(k:Int),k=il->s<=il->il<=t.length+3->(eR _ (.int k) (.int 1) λ N=>u _ (q6 _ _ _)) _:=λ o il k O C I=>by
   exact a7 (⟨_,rfl⟩:∃d,d=il+1) λ d g=>wQ (D:=d) (by lia) (v (t.length+4-d) _ _ (J [_,_,_,_,_,_] 0x20224800411c06480244008238026088a009481 L C (aL g.symm) (d2 _ _) (di (J [_,_,_] 0x82280c0088803046228081 L I (aL g)))) ⟨rfl,d,o,_,rfl,J [_,_,_] 0x82280c0088803046228081 L I (aL g),rfl,rfl⟩).1
  refine aH (UC ..) (j _ (hu (jL (λ z=>?_) λ z=>j _ (hu (jL (λ z=>ab5 hz cZ f λ y C=>fin m y _ rfl (ka C)) λ z=>?_)))))
  ·exact a7 (⟨_,rfl⟩:∃d,d=s+1) λ d g=>wQ (by lia) (fin m d _ rfl (J [_,_] 5635165982721 L (aL g.symm)) (cI λ a=>bB _ (J [_,_,_] 0x208806088622800108880304a111001 L f (aL g) a)))
  ·refine d_ (j _ (hu (iY (λ z=>a7 (⟨_,rfl⟩:∃d,d=s+1) λ d g=>a7 (⟨_,rfl⟩:∃d,d=s+4) λ p F=>AX (by lia) (AX (by lia) (kR hC (eM (i d (cI λ a=>bB _ (J [_,_,_] 0x208806088822800108880304a111001 L f (aL g) a)))) (eM (i p (cI λ a=>bB _ (J [_,_,_] 0x208806088822800120880304a111001 L f (aL F) a)))) (aaK ?_ λ b=>dj (iY (λ z=>cF (iC (fin _ s D hz (bw _) (cI λ a=>bB _ (J [_,_] 0x82201022188a0004a111001 L f a))))) λ z=>br (fin m s D hz (bw _) (cI λ a=>bB _ (J [_,_] 0x82201022188a0004a111001 L f a)))))))) λ z=>br (fin m s D hz (bw _) (cI λ a=>bB _ (J [_,_] 0x82201022188a0004a111001 L f a))))))
   show((t.take p).drop d).length<=c7
   rw[jn,nI]
   exact ah (by lia) hC
 ·rw[h8 (show¬D<t.length by lia)]
  exact f3 (aH (UD ..) (gm (q m)))
end
end
section
theorem WV(R:dp)(K:Loc->U->Prop)(e:U)(da dY:E)(a b c o d f:Option E):d6 108 [] 3 R (.tup [da,dY]) (q1 a b c o d f) K e=K (q1 a b c o (some da) (some dY)) e:=by kernel_rfl
theorem WW(R:dp)(K:Loc->U->Prop)(e:U)(da dY f:E)(a b c o d:Option E):d6 110 [] 0 R (.tup [da,dY,f]) (vP a b c o d) K e=K (vP a b (some da) (some dY) (some f)) e:=by kernel_rfl
def kU(e:U)(aZ:Nat)(nm:List Nat):Prop:=aZ<e.next/\∃B,e.get aZ=some (.dict (nm.map dQ) B)/\B.length=nm.length/\∀(i n:Nat),nm[i]?=some n->∃r,B[i]?=some (.ref r)/\r<e.next/\r≠aZ/\(e.get r=some (.list [.int n])\/e.get r=some (.flist [.int n]))
theorem kU.fr{S:Nat->Prop}{e M:U}{aZ:Nat}{nm:List Nat}(h:kU e aZ nm)(f:Fr S e M)(a:∀i,i<e.next->¬S i):kU M aZ nm:=xU h λ C B I ag b=>⟨d7 C f.next,B,f.get I C (a _ C),ag,λ i n c=>xV (b i n c) λ r a0 bL g8 d=>⟨r,a0,d7 bL f.next,g8,by rw[f.same r bL (a r bL)];exact d⟩⟩
set_option tactic.hygienic true in
theorem ho.idx{e:U}{lo st aZ a9:Nat}{nm:List Nat}{B:List E}(h:ho e lo st aZ a9 nm B):∀(i n:Nat),nm[i]?=some n->∃r,B[i]?=some (.ref r)/\r<e.next/\r≠aZ/\(e.get r=some (.list [.int n])\/e.get r=some (.flist [.int n])):=
 h.ind (bh:=λ nm B=>∀(i n:Nat),nm[i]?=some n->∃r,B[i]?=some (.ref r)/\r<e.next/\r≠aZ/\(e.get r=some (.list [.int n])\/e.get r=some (.flist [.int n]))) (λ i n a=>bF a) λ n nm r B I ag b z c i m a=>by
  rcases i with _|_
  case zero=>obtain rfl:=ck a;exact⟨r,rfl,ag,b.2.2.1,I⟩
  case succ i=>exact c i m a
section
variable{e:U}{A:bl}{f:Bool}
theorem acI{n:Nat}{t:List Nat}{cD:Int}{k:bl}(cZ:t.length<=500000)(q:∀c st aZ a9,bP e c st aZ a9 t cD [] 0 0 0 [] 0->k (.ref st) c):cJ cp (call (n+1)) (.cls 64) [.str t,.int cD] k e:=by
 refine v' 64 (by kernel_rfl) (aH (ad7 ..) ?_)
 have u:∀(c:U)(p:dk),ei e c->ei e (c.upd _ p):=λ c p d=>d.j1 (bw _)
 refine e9 (fR ..) (eG:=qH.take 1) (c2:=[.str t]) (by kernel_rfl) (ae rfl) (by kernel_rfl) (e9 (dI ..) (eG:=qH.take 2) (c2:=[.str t,.int cD]) (by kernel_rfl) (ae rfl) (by kernel_rfl) (e9 (dI ..) (eG:=qH.take 3) (c2:=[.str t,.int cD,.int 0]) (by kernel_rfl) (ae rfl) (by kernel_rfl) (e9 (dI ..) (eG:=qH.take 4) (c2:=[.str t,.int cD,.int 0,.int 0]) (by kernel_rfl) (ae rfl) (by kernel_rfl) (e9 (dI ..) (eG:=qH.take 5) (c2:=[.str t,.int cD,.int 0,.int 0,.int 0]) (by kernel_rfl) (ae rfl) (by kernel_rfl) ?_))))
 generalize h:U.upd _ _ _=b
 have cC:e.next<b.next:=by rw[<-h];exact eo _
 refine BG (.inl rfl) (e9 ((iA (e' cC)).trans (by rw[<-h];exact dI ..:b.get e.next=some (.inst 64 (qH.take 5) [.str t,.int cD,.int 0,.int 0,.int 0]))) (eG:=qH.take 6) (c2:=[.str t,.int cD,.int (0:Nat),.int (0:Nat),.int (0:Nat),.ref b.next]) (by kernel_rfl) (ae rfl) (by kernel_rfl) (e2 (ae rfl) ?_))
 generalize g:U.upd _ _ _=f
 have dh:f.next=b.next+1:=by rw[<-g];rfl
 refine e9 ((iA λ a=>bB _ (J [_,_,_] 0x822010c130445004a111001 L cC (aL dh.symm) (aL a.symm))).trans (by rw[<-g];exact dI ..:f.get e.next=some (.inst 64 (qH.take 6) [.str t,.int cD,.int (0:Nat),.int (0:Nat),.int (0:Nat),.ref b.next]))) (by kernel_rfl) (ae rfl) (by kernel_rfl) (q _ _ _ f.next {
  ex:=cu ([]) ([]) ⟨(ef (hU cC)).trans ((iA λ a=>bB _ (J [_,_] 0x208804284a111001 L (aL dh.symm) (aL a.symm))).trans (by rw[<-g];exact(ef (hU cC)).trans (fR ..):f.get b.next=some (.dict [] []))),trivial,(ef λ a=>bB _ (J [_,_,_] 0x822010c130445004a111001 L cC (aL dh.symm) (aL a))).trans (fR ..),λ v j=>(nomatch j),bw 0,λ s i=>nomatch i⟩
  p:=dI ..
  cC:=λ a=>bB _ (J [_,_] 0x208804284a111001 L cC (aL a.symm))
  dh:=λ a=>bB _ (J [_,_,_] 0x822010c130445004a111001 L cC (aL dh.symm) (aL a.symm))
  fL:=λ a=>bB _ (J [_,_] 0x208804284a111001 L (aL dh.symm) (aL a.symm))
  C:=J [_,_,_] 0x1118011100030445004a111001 L cC (aL dh.symm)
  I:=J [_,_] 0x44500444000a111001 L (aL dh.symm)
  ag:=J [_] 1172527190016 L
  aX:=bw _
  bS:=J [_,_] 5635165982721 L cC
  dv:=J [_,_,_] 0x188030445004a111001 L cC (aL dh.symm)
  iH:=λ s i=>nomatch i
  fr:=u _ _ (by rw[<-g];exact u _ _ (by rw[<-h];exact u _ _ (u _ _ (u _ _ (u _ _ (u _ _ (.alloc _ _ _))))):ei e b).jI:ei e f).jI
  iL:=cZ
  al:=de _})
theorem adz{aZ:Nat}{az:List (List Nat)}{B:List E}{v:E}{g:Int}{k:bl}(a:e.get aZ=some (.dict az B))(b:fM v=true)(q:k (.tup [v,.int g,.ref aZ]) e):b9 [v,.int g,.ref aZ] k e:=by
 refine⟨cn (n:=3) (ae rfl),?_⟩
 have c:hc (.ref aZ) e=(.ref aZ,e):=by
  unfold hc
  simp only[a]
 show k (.tup ((hc v e).1::(iz _ _).1)) (iz _ (hc v e).2).2
 rw[(by rcases v with _|_<;>first|rfl|exact cy b:hc v e=(v,e))]
 show k (.tup (v::.int g::[(hc _ e).1])) (hc _ e).2
 exact rwl c q
theorem aaO{x:bq}{n:Nat}(y:gB x 0)(C:Short x)(D:gP x<=3)(V:d5 x=true)(E:dX x<=900)(F:h1 x<=900000)(G:eS x<=39)(Y:12+6*eS x<=n)(cZ:(cG x []).length<=500000)(q:∀M aZ,ei e M->e.next<=aZ->kU M aZ (er x)->A (.tup [e1 f x,.int (dX x),.ref aZ]) M):
  call n 108 [.str (cG x []),.str (eA f)] A e:=by
 refine a7 (fw (k:=1) (cI λ a=>bB _ (J [_,_] 0x8220044111401290c160801 L Y a))) λ n K=>?_;subst K
 refine aH (adM ..) (Vz (cI λ a=>bB _ (J [_,_] 0x4110042088a008445010c160801 L Y a)) cZ λ cD=>a7 (⟨n-1,cB (d2 _ _) (di (cI λ a=>bB _ (J [_,_] 0x4110022088a008445010c160801 L Y a)))⟩:∃m,n=m+1) λ rL N=>?_)
 have key:∀(k:bl),(∀h st aZ a9,bP e h st aZ a9 _ _ [] 0 0 0 [] 0->k _ h)->cJ _ (call n) _ [.str _,.int cD] k e:=λ k O=>by
  rw[N];exact acI cZ O
 refine key _ λ h st aZ a9 P=>u2 ?_
 delta Fd;rw[Gm]
 refine yO (s:=λ c=>iq _ _) rfl (ae rfl) (λ c aG c1 j=>bg rfl (jL (λ d=>by rw[d] at j;exact j) λ d=>by rw[d] at j;exact j)) ?_
 rw[Hh]
 refine I2 ?_
 have o:=rl (J [_] 4605515668544 L) ((abt (aw:=⟨e,st,aZ,a9,cG x [],cD,f⟩) x 0 [] y C (J [_] 0x7082190020038410c81 L E) (λ H b_=>nomatch b_) (bw 0)).2.2 V) (by rw[rh];exact J [_] 0x3e810c8018881 L D)
 rw[<-rW V] at o
 refine o n [] 0 0 0 h _ [] (J [_,_] 0xa2110c13880000445010c160801 L Y) (J [_] 0x4e2190020002710c81 L G) P (by rw[gS];rfl) (λ c r d=>nomatch d) (J [_] 0x6ddd0106400800dbba020c81 L F) λ aS I eb=>?_
 rw[gr,gr] at I
 refine I.at_ (j0 I.hC (rJ (Int.lt_irrefl _) (br (I.KA (ov I.ex λ B agP a3 a_ Q R fQ hW=>?_)))))
 have p:dw _ (.ref a9) _:=⟨by rw[iV,Q];rfl,λ i d=>by(injection d with a0;subst a0);exact I.ag⟩
 refine k8 p.items (λ i ak M=>ei _ M/\∃b3 cX,ak=q1 _ _ _ (some (e1 f x)) b3 cX) ⟨.refl _ _,none,none,rfl⟩ (λ i ak M g=>(p.ext g.1).hQ) (λ i v ak M d3 t g S z z=>?_) λ ak M g=>?_
 ·refine Ay g λ l b3 cX T=>?_;clear g;subst T
  refine jd (R v (j_ t)) λ m b U W X=>?_;clear t;subst U
  have ag:=(I.ext l).ext (.alloc _ _ (.list []))
  refine aH (WV ..) (aH (TP ..) (d_ (e2 (ae rfl) (bg (wj .lst) (iW (lL rfl (rJ (λ a=>bB _ (J [_] 0x4110022088800902200801 L W (dR.mp a))) (iW (lL rfl (ag.nY (wy (λ a=>bB _ (J [_,_] 0x208804088a009481 L X (dR.mp a))) (iW (br (S _ _ ⟨l.jI,_,_,rfl⟩).1)))))))))))))
 ·refine Ay g λ l b3 cX Z=>?_;clear g;subst Z
  have ag:=I.ext l
  refine ov ag.ex λ c2 agQ u w agX xX agY agZ=>f3 (aH (TQ ..) (ag.nY (ag.DA (adz u (ti x) (gm (q _ aZ ag.fr ag.bS ⟨ag.I,c2,u,w.len,w.idx⟩))))))
theorem Vx{x:bq}{n:Nat}(a:gB x 0)(c:Short x)(d:gP x<=3)(V:d5 x=true)(g:dX x<=900)(h:h1 x<=900000)(i:eS x<=39)(Y:13+6*eS x<=n)(fa:cZ x+4<=n)(hz:cR x<=800000)(j:(cG x []).length<=500000)
  (q:∀M ba bM aZ,ei e M->ba<M.next->bM<M.next->M.get ba=some (.inst 49 vi [.ref bM,.int (dX x),.int (d1 x),.ref aZ])->M.get bM=some (.list ((code x 0 0++[ct.fin]).map (ct.v f)))->kU M aZ (er x)->A (.ref ba) M):call n 110 [.str (cG x []),.str (eA f)] A e:=by
 refine a7 (fw (k:=1) (cI λ l=>bB _ (J [_,_] 0x8220044111401290c168801 L Y l))) λ n m=>?_;subst m
 refine aH (adN ..) (aaO a c d V g h i (J [_,_] 0x14860b04000445010c168801 L Y) j λ u aZ o aX p=>aH (WW ..) (aH (TS ..) (adx a (J [_,_] 0x1462200011140411001 L fa) hz λ w ba bM b bS bG r s t=>gm (q _ ba bM aZ (o.trans b) bG r s t (p.fr b λ z z D=>D)))))
end
end
section
theorem wh(n:Nat):(fj n).length<=3:=by
 unfold fj
 split
 ·exact(ae rfl:1<=3)
 ·split
  ·exact(ae rfl:2<=3)
  ·exact bw 3
theorem GK(c:Nat):(f' c).2.2.length<=5:=by
 refine m' ?_ ?_ ?_ ?_ ?_ (λ z=>?_) c<;>exact ae rfl
theorem Jt(m:Nat):(jt m).length<=1:=by
 match m with
 |0=>exact ae rfl
 |1=>exact ae rfl
 |_+2=>exact bw 1
theorem Jj(b cW:Bool):(w3 b cW).length<=4:=by rcases b with _|_<;>rcases cW with _|_<;>decide
theorem jZ:∀(x:bq)(nm:List Nat),(cG x nm).length<=cR x
 |.one k,_=>by
  refine m' ?_ ?_ ?_ ?_ ?_ (λ z=>?_) k<;>exact ae rfl
 |.place w,_=>by
  match w with
  |0=>exact(by decide:1<=20)
  |1=>exact(by decide:1<=20)
  |_+2=>exact(by decide:2<=20)
 |.rounds x c m,nm=>by
  have h:=jZ x nm
  have C:=GK c
  have I:=Jt m
  show((if kJ x then cG x nm else[40,63,58]++(cG x nm++[41]))++((f' c).2.2++jt m)).length<=30+cR x
  split<;>simp only[bR,fW,iP]<;>lia
 |.group n r b,nm=>by
  have o:=wh n
  rcases b with _|_
  case true=>
   have h:=jZ r (nm++[n])
   show([40,63,60]++110::fj n++62::(cG r _++[41])).length<=30+cR r
   simp only[bR,fW,iP];lia
  case false=>
   have h:=jZ r nm
   show([40]++(cG r nm++[41])).length<=30+cR r
   simp only[bR,fW,iP];lia
 |.again n a,nm=>by
  have o:=wh n
  rw[xu]
  show _<=20
  split
  ·show(92::107::60::110::fj n++[62]).length<=20
   simp only[bR,fW,iP];lia
  ·split<;>simp only[bR,fW,iP]<;>lia
 |.d4 ab aT,nm=>by
  have C:=jZ ab nm
  have I:=jZ aT (nm++er ab)
  show([40,63,58]++(cG ab nm++124::cG aT _++[41])).length<=30+cR ab+cR aT
  simp only[bR,fW,iP];lia
 |.atomic r,nm=>by
  have h:=jZ r nm
  show([40,63,62]++(cG r nm++[41])).length<=30+cR r
  simp only[bR,fW,iP];lia
 |.look x w cW,nm=>by
  have h:=jZ x nm
  have d:(w3 w.isSome cW).length<=4:=Jj _ _
  show(w3 _ _++(cG x nm++[41])).length<=30+cR x
  simp only[bR,fW,iP];lia
 |.nil,_=>bw 0
 |.cons x r,nm=>by
  have C:=jZ x nm
  have I:=jZ r (nm++er x)
  show(cG x nm++cG r _).length<=cR x+cR r
  rw[bR];lia
set_option tactic.hygienic true in
theorem ac_{x:bq}(h:d5 x=false):1<=cR x:=by
 rcases x with _|_
 case nil=>cases h
 case cons _ _=>cases h
 case one _=>exact(by decide:1<=20)
 case place _=>exact(by decide:1<=20)
 case again _ _=>exact(by decide:1<=20)
 case d4 ab aT=>show 1<=30+cR ab+cR aT;lia
 all_goals exact ah (ae rfl) (dD _ _)
theorem Lv:∀(x:bq)(g:Nat),gB x g->gP x<=cR x
 |.cons x r,g,h=>by
  have C:=ac_ h.1.1
  have I:=Lv r _ h.2.2
  show gP r+1<=cR x+cR r
  lia
 |.nil,_,_=>bw 0
 |.one _,_,_=>de _
 |.place _,_,_=>de _
 |.rounds _ _ _,_,_=>de _
 |.group _ _ _,_,_=>de _
 |.again _ _,_,_=>de _
 |.d4 _ _,_,_=>de _
 |.atomic _,_,_=>de _
 |.look _ _ _,_,_=>de _
theorem I3:∀(l:List (List Nat))(j:List Nat),ig [] (l++[j])=ig [] l++j
 |[],j=>rfl
 |[x],j=>by show x++[]++j=x++j;rw[gS]
 |x::H::r,j=>by
  show x++[]++ig [] (H::r++[j])=x++[]++ig [] _++j
  rw[I3 _,el,el,el]
theorem HP{n:Nat}(Y:n<1000):∀{nm:List Nat},(∀H∈nm,H<1000)->(nm.map dQ).contains (dQ n)=decide (n∈nm)
 |[],_=>rfl
 |H::nm,h=>by
  show(dQ n==dQ H||(nm.map _).contains _)=_
  rw[HP Y λ D hz=>h D (gT _ hz)]
  by_cases d:n=H
  ·subst d;rw[eC,fi f9 ..];rfl
  ·rw[fH.mpr λ D=>d (zJ Y (h H f9 ..) D)]
   exact decide_eq_decide.mpr (by rw[ew];exact⟨.inr,λ D=>D.resolve_left d⟩)
section
variable{e:U}{k:bl}
theorem sI{R:dp}{n:Nat}(h:n<1000)(q:k (.str (fj n)) e):cJ cp R (.typ .str) [.int (n:Nat)] k e:=by
 refine qS ?_ q
 show(if(decide _&&decide _)=true then _ else _)=_
 rw[fi (by lia:(n:Int)<1000)]
 rfl
set_option tactic.hygienic true in
theorem kU.add{aZ n:Nat}{nm:List Nat}(h:kU e aZ nm)(Y:n<1000)(c:∀H∈nm,H<1000)(d:n∉nm)(f:nm.length<=1000){y:U->Prop}(q:∀M,kU M aZ (nm++[n])->Fr (·=aZ) e M->y M):gM (.ref aZ) (.str (dQ n)) (.ref e.next) y (e.alloc (.list [.int (n:Nat)])):=by
 refine xU h λ C B I ag g=>?_
 refine ab2 ((iA (e' C)).trans I) (by rw[cM];exact f) (q _ ?_ ((Fr.alloc (·=aZ) e (.list [.int n])).trans (.upd _ _ _ rfl)))
 rw[(BK Y c d ag).1]
 refine⟨j9 C,B++[.ref e.next],?_,?_,λ i H b_=>?_⟩
 ·rw[e8];exact dI ..
 ·rw[bR,bR,ag];rfl
 ·rcases Nat.lt_or_ge i _ with a|a
  ·rw[List.getElem?_append_left a] at b_
   refine xV (g i H b_) λ r a0 bL g8 j=>?_
   refine⟨r,by rw[List.getElem?_append_left (by lia)];exact a0,j9 bL,g8,?_⟩
   rw[ef g8,iA (e' bL)]
   exact j
  ·rw[yu a] at b_
   rw[yu (by lia),ag]
   rcases b:i-nm.length with _|_
   case zero=>
    rw[b] at b_
    obtain rfl:=ck b_
    exact⟨e.next,rfl,eo _,(e' C).symm,.inl ((ef (e' C).symm).trans (fR ..))⟩
   case succ k=>rw[b] at b_;exact bF b_
end
def j8(x:bq):Prop:=∀(g:Nat)(nm:List Nat)(n aZ:Nat)(e:U)(A:bl),gB x g->g+dX x<=900->cR x<=800000->(∀H∈nm,H<=g)->nm.length<=g->cZ x+1<=n->kU e aZ nm->
 (∀M,kU M aZ (nm++er x)->Fr (·=aZ) e M->A (.str (cG x nm)) M)->call n 118 [x.v,.ref aZ] A e
def x_:bq->Prop
 |.cons x r=>j8 x/\x_ r
 |_=>True
theorem DE{x:bq}{g:Nat}{nm:List Nat}(a:gB x g)(b:∀H∈nm,H<=g)(c:nm.length<=g):(∀H∈nm++er x,H<=g+dX x)/\(nm++er x).length<=g+dX x:=by
 refine⟨λ H b_=>?_,?_⟩
 ·rcases fv.mp b_ with h|h
  ·exact ah (b H h) (dD ..)
  ·exact(qy x g a H h).2
 ·rw[bR];exact fV c (DG x)
set_option tactic.hygienic true in
theorem Ki{x:bq}(V:d5 x=true)(t:x_ x):j8 x:=by
 intro g nm n aZ e A p u hz w y Y F q
 obtain⟨n,rfl⟩:=fw (n:=n) (k:=1) (by lia)
 have Q:=Lv x g p
 have hsz:=jZ x nm
 rw[EH V]
 refine aH (qT ..) (cO rfl (cO rfl (iK (u2 (bx rfl (uw rfl (λ r h M=>∃H bN a l,r=H.B/\(d5 H=true/\x_ H/\gB H bN/\bN+dX H<=900/\cR H<=800000/\(∀D∈a,D<=bN)/\a.length<=bN/\cZ H<=n)/\h=l.map .str/\ig [] l++cG H a=cG x nm/\a++er H=nm++er x/\l.length+gP H=gP x/\kU M aZ a/\Fr (·=aZ) e M)
  (hZ x g nm ([]) ⟨rfl,⟨V,t,p,u,hz,w,y,by lia⟩,rfl,rfl,rfl,gr _,F,.refl _ _⟩) (λ z z z z=>trivial) (λ v r h G R i J=>?_) λ h G i=>?_))))))
 ·obtain⟨H,bN,a,l,d,⟨C,I,ag,K,L,j,m,N⟩,rfl,b,c,s,f,o⟩:=i
  rcases H with _|_
  case cons H D=>
   (injection d with a0 bL;subst a0 bL)
   have S:bN+(dX H+dX D)<=900:=K
   have T:cR H+cR D<=800000:=L
   have U:max _ _<=n:=N
   have W:l.length+(gP D+1)=gP x:=s
   refine⟨(by rw[cM];lia:(l.map E.str).length<=8000000),I.1 bN _ n aZ _ _ ag.2.1 (by lia) (by lia) j m (by lia) f λ X O P=>J _ _ (hZ D (bN+dX H) (a++er H) (l++[cG H a]) ⟨rfl,⟨ag.1.2,I.2,ag.2.2,by lia,by lia,(DE ag.2.1 j m).1,(DE ag.2.1 j m).2,by lia⟩,?_,?_,?_,?_,O,o.trans P⟩)⟩
   ·rw[e8];rfl
   ·rw[I3,el];exact b
   ·rw[el];exact c
   ·rw[bR];show l.length+1+gP D=_;lia
  case nil=>cases d
  all_goals exact cy C
 ·obtain⟨H,bN,a,l,d,⟨C,_⟩,rfl,b,c,s,f,o⟩:=i
  rcases H with _|_
  case nil=>
   have b:ig [] l++[]=cG x nm:=b
   have c:a++[]=nm++er x:=c
   rw[gS] at b c
   rw[c] at f
   refine zw (by rw[b];show _+l.length*1<=8000000;lia) ?_
   exact rwl b (q _ f o)
  case cons _ _=>cases d
  all_goals exact cy C
theorem opened{e:U}{k:bl}{a w:List Nat}{j:Nat}(b:a.length<=1000)(c:j<=800000)(d:w.length<=j)(q:k (.str (a++(w++[41]))) e):bu .Add (.str a) (.str w) (λ v=>bu .Add v (.str [41]) k) e:=by
 refine qP (by show _<=8000000;lia) (qP (by rw[bR];show _+1<=8000000;lia) ?_)
 rw[el]
 exact q
theorem yX{e:U}{k:bl}{a w b:List Nat}(c:a.length<=100)(d:w.length<=100)(f:b.length<=100)(q:k (.str (a++w++b)) e):bu .Add (.str a) (.str w) (λ v=>bu .Add v (.str b) k) e:=
 qP (by show _<=8000000;lia) (qP (by rw[bR];show _<=8000000;lia) q)
theorem Dz{e:U}{k:bl}{n:Nat}(q:k (.str (dQ n)) e):bu .Add (.str [110]) (.str (fj n)) k e:=by
 have:=wh n
 exact qP (by show 1+_<=8000000;lia) q
theorem aaF(i:Nat):j8 (.one i):=by
 intro g nm n aZ e A b c hz d f Y a q
 obtain⟨n,rfl⟩:=fw (n:=n) (k:=1) (by lia)
 refine aH (qT ..) (iK (bx rfl (bx ?_ (q e (by rw[show er _=[] from rfl,gS];exact a) (.refl _ _)))))
 refine m' ?_ ?_ ?_ ?_ ?_ (λ z=>?_) i<;>rfl
theorem aaX(w:Nat):j8 (.place w):=by
 intro g nm n aZ e A b c hz d f Y a q
 obtain⟨n,rfl⟩:=fw (n:=n) (k:=1) (by lia)
 exact aH (qT ..) (cO rfl (iK (bx rfl (q e (by rw[show er _=[] from rfl,gS];exact a) (.refl _ _)))))
theorem Tg(i a:Nat):j8 (.again i a):=by
 intro g nm n aZ e A m s hz o t Y h q
 obtain⟨n,rfl⟩:=fw (n:=n) (k:=1) (by lia)
 refine e_ m λ u C I=>?_
 have b:i<1000:=by lia
 have dl:=wh i
 have q:=q e (by rw[show er _=[] from rfl,gS];exact h) (.refl _ _)
 rw[xu] at q
 have j:lM e .In (.str (dQ i)) (.ref aZ)=some (decide (i∈nm)):=by
  obtain⟨_,B,ag,_⟩:=h
  show(match e.get aZ with|some p=>C5 _ p|none=>none)=_
  exact rwl ag (bA _ (HP b λ H b_=>by have:=o H b_;lia))
 refine aH (qT ..) (cO rfl (cO rfl (cO rfl (cO rfl (cO rfl (iK ?_))))))
 by_cases d:a=1/\i∈nm
 ·have q:=aU d▸q
  refine d_ (bx rfl (rr (by lia) (gE (bx rfl (sI b (Dz (bg j ?_)))))))
  rw[fi d.2]
  exact gE (cF (bx rfl (sI b (yX (ae rfl) (ah (by assumption) (by decide)) (ae rfl) q))))
 ·rw[a8 d] at q
  refine(λ c=>d_ (bx rfl (jN (iY (λ r=>bx rfl (sI b (Dz (bg j (iY (λ l=>(d ⟨by lia,gg l⟩).elim) λ z=>c))))) λ z=>c)))) ?_
  refine br ?_
  by_cases f:a=0/\i<10
  ·rw[aU f] at q
   exact fX (d_ (bx rfl (rr (by lia) (gE (bx rfl (u' (by lia) (gE (cF (bx rfl (sI b (yX (ae rfl) (ah (by assumption) (by decide)) (ae rfl) q)))))))))))
  ·rw[a8 f] at q
   refine fX ((λ c=>d_ (bx rfl (jN (iY (λ r=>bx rfl (iD (iY (λ l=>(f ⟨by lia,by lia⟩).elim) λ z=>c))) λ z=>c)))) ?_)
   exact br (bx rfl (sI b (yX (ae rfl) (ah (by assumption) (by decide)) (ae rfl) q)))
theorem TK{r:bq}(h:j8 r):j8 (.atomic r):=by
 intro g nm n aZ e A a b hz c d Y f q
 obtain⟨n,rfl⟩:=fw (n:=n) (k:=1) (by lia)
 have hz:30+cR r<=800000:=hz
 have Y:cZ r+4+1<=n+1:=Y
 exact aH (qT ..) (cO rfl (cO rfl (cO rfl (cO rfl (cO rfl (cO rfl (iK (bx rfl (h g nm n aZ e _ a.2 b (by lia) c d (by lia) f λ l i j=>opened (ae rfl) (by lia) (jZ r nm) (q _ i j))))))))))
theorem Zr{x:bq}(h:j8 x)(p:Option Nat)(cW:Bool):j8 (.look x p cW):=by
 intro g nm n aZ e A a b hz c d Y f q
 obtain⟨n,rfl⟩:=fw (n:=n) (k:=1) (by lia)
 have hz:30+cR x<=800000:=hz
 have Y:cZ x+6+1<=n+1:=Y
 have fin:(item (bq.look x p cW).v (.int 1) λ i=>call n _ [i,.ref aZ] λ j=>bu _ _ j _) e:=
  bx rfl (h g nm n aZ e _ (by rcases p with _|_<;>exact a.2) b (by lia) c d (by lia) f λ o l m=>opened (ah (Jj _ _) (ae rfl)) (by lia) (jZ x nm) (q _ l m))
 refine aH (qT ..) (cO rfl (cO rfl (cO rfl (cO rfl (cO rfl (cO rfl (cO rfl (iK (fX ?_)))))))))
 rcases p with _|_
 case none=>
  refine bx rfl (Xh (by decide) (br (df rfl (fX (bx rfl (dj ?_))))))
  rcases cW with _|_
  ·exact br (df rfl fin)
  ·exact cF (df rfl fin)
 case some w=>
  refine bx rfl (HB (i4 _) (cF (df rfl (fX (bx rfl (dj ?_))))))
  clear a b hz q Y;rcases cW with _|_
  ·exact br (df rfl fin)
  ·exact cF (df rfl fin)
theorem Xu{r:bq}(h:j8 r)(i:Nat)(b:Bool):j8 (.group i r b):=by
 intro g nm n aZ e A a d hz c o Y l q
 obtain⟨n,rfl⟩:=fw (n:=n) (k:=1) (by lia)
 have hz:30+cR r<=800000:=hz
 have Y:cZ r+4+1<=n+1:=Y
 have d:g+(1+dX r)<=900:=d
 obtain⟨rfl,_,a⟩:=a
 have dl:=wh (g+1)
 refine aH (qT ..) (cO rfl (cO rfl (cO rfl (cO rfl (iK ?_)))))
 clear d hz Y;rcases b with _|_
 case false=>
  exact h _ nm n aZ e _ a (by lia) (by lia) (λ H b_=>oR (c H b_)) (by lia) (by lia) l λ p f j=>opened (ae rfl) (by lia) (jZ r nm) (q _ f j)
 case true=>
  refine bx rfl (dj (cF (bx rfl ?_)))
  have s:([40,63,60,110]++fj (g+1)++[62]).length<=1000:=by
   rw[bR,bR];show 4+_+1<=1000;lia
  refine e2 (cn (n:=1) (ae rfl)) (bx rfl (sI (by lia) (Dz (l.add (by lia) λ H b_=>by have:=c H b_;lia λ D=>by have:=c _ D;lia (by lia) λ p f j=>fX (bx rfl (dj (cF (bx rfl (sI (by lia) (yX (ae rfl) (ah (by assumption) (by decide)) (ae rfl) (bx rfl (h _ _ n aZ _ _ a (by lia) (by lia) (λ H b_=>?_) ?_ (by lia) f λ u m t=>opened s (by lia) (jZ r _) ?_))))))))))))
  ·rcases fv.mp b_ with b_|b_
   ·exact oR (c H b_)
   ·obtain rfl:=fu.mp b_;exact bw _
  ·rw[bR];exact h9 o
  ·rw[show[40,63,60,110]++fj _++[62]++(cG r _++[41])=[40,63,60]++110::fj (g+1)++62::(cG r (nm++[g+1])++[41]) by simp]
   exact q _ (by rw[el] at m;exact m) (j.trans t)
theorem U9{ab aT:bq}(C:j8 ab)(I:j8 aT):j8 (.d4 ab aT):=by
 intro g nm n aZ e A c l hz m o Y s q
 obtain⟨n,rfl⟩:=fw (n:=n) (k:=1) (by lia)
 have hz:30+cR ab+cR aT<=800000:=hz
 have Y:max _ _+4+1<=n+1:=Y
 have l:g+(dX ab+dX aT)<=900:=l
 have a0:=jZ ab nm
 have bL:=jZ aT (nm++er ab)
 obtain⟨cC,dh⟩:=DE c.2.1 m o
 refine aH (qT ..) (cO rfl (cO rfl (cO rfl (iK (u2 (bx rfl (uw rfl (λ r a M=>r=[ab.v,aT.v]/\a=[]/\M=e\/r=[aT.v]/\a=[.str (cG ab nm)]/\kU M aZ (nm++er ab)/\Fr (·=aZ) e M\/r=[]/\a=[.str (cG ab nm),.str (cG aT (nm++er ab))]/\kU M aZ (nm++er ab++er aT)/\Fr (·=aZ) e M) (.inl ⟨rfl,rfl,rfl⟩) (λ z z z z=>trivial) (λ v r a t x f p=>?_) λ a t f=>?_)))))))
 ·rcases f with⟨d,rfl,rfl⟩|⟨d,rfl,b,h⟩|⟨d,_⟩
  ·(injection d with a0 bL;subst a0 bL)
   exact⟨cn (ae rfl),C g nm n aZ _ _ c.2.1 (by lia) (by lia) m o (by lia) s λ u i j=>p _ _ (.inr (.inl ⟨rfl,rfl,i,j⟩))⟩
  ·(injection d with a0 bL;subst a0 bL)
   exact⟨cn (n:=1) (ae rfl),I _ _ n aZ _ _ c.2.2 (by lia) (by lia) cC dh (by lia) b λ u i j=>p _ _ (.inr (.inr ⟨rfl,rfl,i,h.trans j⟩))⟩
  ·cases d
 ·rcases f with⟨d,_⟩|⟨d,_⟩|⟨_,rfl,b,h⟩
  ·cases d
  ·cases d
  ·have d:ig [124] [cG ab nm,cG aT (nm++er ab)]=cG ab nm++124::cG aT (nm++er ab):=by show cG ab nm++[124]++_=_;rw[el];rfl
   have w:(cG ab nm++124::cG aT (nm++er ab)).length<=cR ab+cR aT+1:=by rw[bR,fW];lia
   refine zw (by rw[d];show _+2*2<=8000000;lia) ?_
   exact rwl d (opened (ae rfl) (by lia) w (q _ (by rw[el] at b;exact b) h))
theorem adt(x:bq):∃t l,x.v=.tup (.str t::l)/\∀e,lM e .In (.str t) (.tup [.str rR,.str jU])=some (kJ x):=by
 rcases x with _|_
 all_goals exact cu _ _ ⟨rfl,λ z=>rfl⟩
theorem abJ{x:bq}(h:j8 x)(c m:Nat):j8 (.rounds x c m):=by
 intro g nm n aZ e A a b hz f i Y j q
 obtain⟨n,rfl⟩:=fw (n:=n) (k:=1) (by lia)
 have hz:30+cR x<=800000:=hz
 have Y:cZ x+12+1<=n+1:=Y
 have a0:=jZ x nm
 have bL:=GK c
 have g8:=Jt m
 refine fC (adt x) λ t l o cZ=>?_
 refine aH (qT ..) (cO rfl (cO rfl (cO rfl (cO rfl (cO rfl (cO rfl (cO rfl (cO rfl (bx rfl (h g nm n aZ e _ a.2.2.2 b (by lia) f i (by lia) j λ B p r=>?_))))))))))
 have fin:∀w,w.length<=800010->w++((f' c).2.2++jt m)=cG _ nm->(item (bq.rounds x c m).v (.int 4) λ s=>bu _ (.str w) s λ u=>item (bq.rounds x c m).v (.int 5) λ y=>bu _ u y _) _:=λ w a d=>
  bx rfl (qP (by show _<=8000000;lia) (bx rfl (qP (by rw[bR];show _<=8000000;lia) (by rewrite[el,d];exact q _ p r))))
 refine fX (bx rfl (bx (by rw[o];rfl) (cb (ae rfl) rfl (bg (cZ _) (jL (λ d=>?_) λ d=>?_)))))
 ·exact fin _ (by lia) (by show _=(if kJ x then cG x nm else _)++_;rw[aU d])
 ·refine opened (ae rfl) (by lia) a0 (fin _ (by simp only[bR,fW,iP];lia) ?_)
  show _=(if kJ x then cG x nm else _)++_
  rw[d,a8 (by decide)]
theorem qN:∀x:bq,j8 x/\x_ x
 |.one i=>⟨aaF i,trivial⟩
 |.place w=>⟨aaX w,trivial⟩
 |.again i a=>⟨Tg i a,trivial⟩
 |.nil=>⟨Ki rfl trivial,trivial⟩
 |.cons x r=>
  have d:=⟨(qN x).1,(qN r).2⟩
  ⟨Ki rfl d,d⟩
 |.group i r b=>⟨Xu (qN r).1 i b,trivial⟩
 |.atomic r=>⟨TK (qN r).1,trivial⟩
 |.look x p cW=>⟨Zr (qN x).1 p _,trivial⟩
 |.d4 ab aT=>⟨U9 (qN ab).1 (qN aT).1,trivial⟩
 |.rounds x c m=>⟨abJ (qN x).1 c m,trivial⟩
end
noncomputable def pD:Nat->Nat
 |0=>20
 |o+1=>50+6*pD o
set_option tactic.hygienic true in
theorem xJ(o:Nat):20<=pD o:=by(rcases o with _|_;(case zero=>exact bw 20);(case succ o=>exact ah (ae rfl) (dD 50 _)))
theorem jA.fit{w:Nat}{x:bq}(h:jA w x):cR x=20*w/\cZ x<=6/\eS x=0/\Short x:=by
 induction h with
 |nil=>exact⟨rfl,ae rfl,rfl,trivial⟩
 |@cons w k r c _ a=>
  exact f5 a λ C I ag b=>⟨(bA _ C).trans (nO ..),Nat.max_le.mpr ⟨(ae rfl:5+1<=6),I⟩,(bA _ ag).trans rfl,trivial,b⟩
structure yd(j h o:Nat)(x:bq):Prop where
 cR:cR x<=j
 cZ:cZ x<=h+13*o
 eS:eS x<=o
 short:Short x
theorem nB.uH{bz:Prop}{r:bq}{o:Nat}(h:nB bz r)(a:bz->yd (gP r*pD o) 6 o r):yd (3*pD o) 6 o r:=have k:=a h.k5;⟨ah k.cR (pU _ h.len),k.cZ,k.eS,k.short⟩
theorem uE{h r o:Nat}(k:r<=6+13*o)(fa:h<=6):r+h<=5+13*(o+1):=J [_,_,_] 0x11140d0944031000308c12b42610081 L k fa
theorem vA{j o:Nat}(k:j<=3*pD o):30+j<=pD (o+1):=J [_,_] 0xa6086421809e1000518481 L k
theorem Ww{x:bq}:∀{o:Nat},h6 x o->(d5 x=false->yd (pD o) 5 o x)/\(d5 x=true->yd (gP x*pD o) 6 o x):=by
 induction x with
 |one k=>exact λ{o} z=>⟨λ z=>⟨xJ o,dD ..,de o,trivial⟩,cy⟩
 |place w=>exact λ{o} z=>⟨λ z=>⟨xJ o,dD ..,de o,trivial⟩,cy⟩
 |again n k=>exact λ{o} h=>⟨λ z=>⟨xJ o,dD ..,h,trivial⟩,cy⟩
 |nil=>exact λ{o} z=>⟨λ h=>cy h.symm,λ z=>⟨de _,ah (ae rfl) (dD ..),de o,trivial⟩⟩
 |cons x r b d=>
  intro o h
  have k:=(b h.2.1).1 h.1.1
  have y:=(d h.2.2).2 h.1.2
  refine⟨λ h=>cy h.symm,λ z=>⟨?_,Nat.max_le.mpr ⟨?_,y.cZ⟩,Nat.max_le.mpr ⟨k.eS,y.eS⟩,k.short,y.short⟩⟩
  ·show cR x+cR r<=(gP r+1)*pD o
   rw[Nat.succ_mul,nO];exact fV y.cR k.cR
  ·exact ah (v3 k.cZ 1) (jE (Nat.add_right_comm ..))
 |rounds x c m a=>
  intro o h
  refine a7 (g' h.1) λ o f=>?_;subst f
  have k:=(a h.2.2.2).1 h.2.2.1
  refine⟨λ z=>⟨vA (ah k.cR (Nat.le_mul_of_pos_left _ (by decide))),?_,h9 k.eS,k.short⟩,cy⟩
  have:=k.cZ
  exact J [_,_,_] 0x44603425101822000110040300222818110040300a12b42510081 L this (hq _ _) (di (J [_] 37385547023424 L))
 |group n r nm a=>
  intro o h
  refine a7 (g' h.1) λ o g=>?_;subst g
  have k:=h.2.uH λ D=>(a D).2 h.2.row
  exact⟨λ z=>⟨vA k.cR,uE k.cZ (by decide),h9 k.eS,k.short,h.2.len⟩,cy⟩
 |atomic r a=>
  intro o h
  refine a7 (g' h.1) λ o i=>?_;subst i
  have k:=h.2.uH λ D=>(a D).2 h.2.row
  exact⟨λ z=>⟨vA k.cR,uE k.cZ (by decide),h9 k.eS,k.short,h.2.len⟩,cy⟩
 |d4 ab aT b d=>
  intro o h
  refine a7 (g' h.1) λ o j=>?_;subst j
  have k:=h.2.1.uH λ D=>(b D).2 h.2.1.row
  have y:=h.2.2.uH λ D=>(d D).2 h.2.2.row
  refine⟨λ z=>⟨?_,uE (Nat.max_le.mpr ⟨k.cZ,y.cZ⟩) (by decide),h9 (Nat.max_le.mpr ⟨k.eS,y.eS⟩),⟨k.short,h.2.1.len⟩,y.short,h.2.2.len⟩,cy⟩
  show 30+cR ab+cR aT<=50+6*pD o
  have:=k.cR
  have:=y.cR
  lia
 |look x p cW a=>
  intro o h
  refine a7 (g' h.1) λ o l=>?_;subst l
  refine⟨λ z=>?_,cy⟩
  rcases h.2 with⟨_,h⟩|⟨w,e,h⟩|⟨u,rfl⟩
  ·have k:=h.uH λ D=>(a D).2 h.row
   exact⟨vA k.cR,uE k.cZ (by decide),h9 k.eS,k.short,h.len⟩
  ·refine f5 h.fit λ C I ag q=>⟨vA ?_,uE (ah I (dD ..)) (by decide),h9 (rwl ag (de o)),q,rwl h.wf.1.2.1 (ka e)⟩
   rw[C,Nat.mul_comm];exact Nat.mul_le_mul (ka e) (xJ o)
  ·exact⟨vA (ah (xJ o) (Nat.le_mul_of_pos_left _ (by decide))),uE (ah (ae rfl:5<=6) (dD ..)) (by decide),h9 (de o),trivial,de 3⟩
theorem ys{a b:Nat}(h:30*a<=b):30*a<=30+b:=ah h (gC ..)
theorem aaa(x:bq):30*dX x<=cR x:=by
 induction x with
 |rounds x _ _ a=>exact ys a
 |group _ r _ a=>exact rwl (Nat.mul_add 30 1 _) (e7 a 30)
 |d4 ab aT b c=>exact rwl (Nat.mul_add 30 _ _) (fV (ys b) c)
 |atomic r a=>exact ys a
 |look x _ _ a=>exact ys a
 |cons x r b c=>exact rwl (Nat.mul_add 30 _ _) (fV b c)
 |_=>exact de _
theorem Z5(x:bq):h1 x<=cR x:=by
 induction x with
 |again _ _=>exact(ae rfl:1<=20)
 |rounds x _ _ a=>exact ah a (gC ..)
 |group _ r _ a=>exact ah a (gC ..)
 |d4 ab aT b c=>exact fV (ah b (gC ..)) c
 |atomic r a=>exact ah a (gC ..)
 |look x _ _ a=>exact ah a (gC ..)
 |cons x r b c=>exact fV b c
 |_=>exact de _
theorem ft.top{g b:Nat}{x:bq}(h:ft 3 2 3 0 0 x g b):(cR x<=27000/\dX x<=900/\h1 x<=900000)/\cZ x<=45/\eS x<=3/\Short x/\gP x<=3:=by
 have k:=h.rw.uH λ D=>(Ww D).2 h.1.1
 have hz:cR x<=27000:=ah k.cR (ae rfl)
 exact⟨⟨hz,Nat.le_of_mul_le_mul_left (ah (aaa x) hz) (ae rfl),ah (Z5 x) (ah hz (ae rfl))⟩,k.cZ,k.eS,k.short,h.1.2⟩
section
section
variable{T:List Nat}{f:Bool}{G:Nat}
theorem qV{N:Nat}{x:bq}(h:∀(n a:Nat)(O:cA)(A:bl)(e:U),N<=n->a<=T.length->hG T O->O.length=G->(∀r M,dw M r ((dK (bI T f x a O)).map eO)->(∀i,r=.ref i->e.next<=i)->ei e M->A r M)->
  bp 125 [] 1 (call n) (gc (some x.v) (some (.str T)) (some (eO (a,O))) (some (.bool f)) (some (.int a)) (some (m2 O)) none none none none none none) (eX A) e):hJ T f (N+1) x G:=by
 intro n a O A e Y b c d q
 refine a7 (fw (k:=1) (J [_,_] 0xa1100a111001 L Y)) λ n g=>?_;subst g
 exact aH (ad0 ..) (aH (WZ ..) (h n a O A e (kZ Y) b c d q))
theorem n'{e:U}{k:bl}{aV:List cm}(a:aV.length<=100)(q:∀r M,dw M r (aV.map eO)->(∀i,r=.ref i->e.next<=i)->ei e M->k r M):dJ (aV.map eO) k e:=
 e2 (by rw[cM];exact cn a) (q _ _ .new (λ i d=>by(injection d with a0;subst a0);exact bw _) (.alloc _ _ _))
theorem afo(b:T.length<=4)(k:fU T){i:Nat}:hJ T f 1 (.one i) G:=by
 refine qV λ n a O A e Y l p s q=>?_
 rw[xh] at q
 refine aH (p4 ..) (iK (j0 (ah b (ae rfl)) (jN ?_)))
 rw[s9]
 refine k3 (λ h=>?_) λ h=>?_
 ·rw[a8 λ D=>absurd (o1 D) (by exact λ m=>bB _ (J [_,_] 0x208804088a009481 L (aL h.symm) m))] at q
  exact n' (aV:=[]) (show 0<=100 by decide) q
 ·refine a7 (⟨_,hK ((um h).elim (λ o=>o) (J [_,_] 0x142220004088a009482 L l))⟩:∃c,T[a]?=some c) λ c g=>?_
  refine a' (JS i) λ j C I=>?_
  have d:gG T f i a=(((pl i).contains c||f&&(pl i).contains (vz c)&&i !=4)!=DT i):=by
   unfold gG;rw[g];rfl
  refine aaC b k g (fX (bx rfl (bx (by rw[C];rfl) (bg (r:=gG T f i a) (by rw[d];rfl) (jL (λ h=>?_) λ h=>?_)))))
  ·rw[aU h] at q
   exact df rfl (cb (cn (n:=2) (ae rfl)) rfl (n' (aV:=[(a+1,O)]) (show 1<=100 by decide) q))
  ·rw[a8 λ D=>by rw[h] at D;exact cy D] at q
   exact n' (aV:=[]) (show 0<=100 by decide) q
theorem LA(b:T.length<=4){w:Nat}(c:w<3):hJ T f 2 (.place w) G:=by
 refine qV (N:=1) λ n a O A e Y d g i q=>?_
 apply i6 (k:=1) Y;intro n
 rw[xS] at q
 refine aH (p4 ..) (cO rfl (iK (fX (bx (v:=.str (rU w)) rfl (aaY c b d ?_)))))
 show aW (kP w T a) _ _ e
 refine jL (λ h=>?_) λ h=>?_
 ·rw[aU h,rT (bw _)] at q
  exact n' (aV:=[(a,O)]) (show 1<=100 by decide) q
 ·rw[a8 (λ D=>by rw[h] at D;exact cy D),rT (de _)] at q
  exact n' (aV:=[]) (show 0<=100 by decide) q
theorem acf{e:U}{k:bl}{r:E}{B:List E}{m:Nat}(h:dw e r B)(a:B.length<=m)(b:m<=8000000)(c:m<=1000000000)(q:k (.lst B) e):eN r none (some (.int m)) k e:=by
 refine h.slice (ah a b) rfl (eM c) ?_
 show k (.lst ((B.take m).drop 0)) e
 rw[List.take_of_length_le a]
 exact q
theorem ZX{m:Nat}(a:m<3)(h:m≠2):(jt m==[43])=false:=by
 match m,a,h with
 |0,_,_=>rfl
 |1,_,_=>rfl
 |2,_,h=>exact(h rfl).elim
theorem aa2:mY .Pow (.int 10) (.int 6)=some (.int ((1000000:Nat):Int)):=by kernel_rfl
theorem afp(t:T.length<=4){N c m:Nat}{x:bq}(j:m<3)(o:hJ T f N x G)(p:∀a O,a<=T.length->hG T O->(bI T f x a O).length<=2557)
  (b:∀a O,a<=T.length->hG T O->(gL (bI T f x) (dg c) (dW c) (m==1) 12 0 (-1) a O).length<=2557):hJ T f (N+15) (.rounds x c m) G:=by
 refine qV (N:=N+14) λ n a O A e Y g h r q=>?_
 have s:lZ T.length (dg c) 0 (-1) a<12:=by
  have:=(Bu c).1
  unfold lZ
  split<;>lia
 have k:=ah (nd _) (b a O g h)
 refine aH (p4 ..) (cO rfl (cO rfl (iK (abK j o p 12 0 (-1) a O n _ e s (b a O g h) Y g h r λ M l=>fX (bx (v:=.str (jt m)) rfl (hu ?_))))))
 rw[EO] at q
 by_cases I:m=2
 ·clear b;subst I
  rw[aU rfl] at q
  refine cF (dw.lst.slice (by rw[cM];exact ah k (ae rfl)) rfl (eM (n:=1) (ae rfl)) (q _ _ ?_ (λ i d=>nomatch d) l))
  rw[rT (vB _),<-zX,List.map_take]
  exact .lst
 ·rw[a8 I] at q
  rw[ZX j I]
  refine br (df aa2 (acf .lst (by rw[cM];exact ah k (ae rfl)) (ae rfl) (ae rfl) (q _ _ .lst (λ i d=>nomatch d) l)))
theorem afn{N i:Nat}{x:bq}{nm:Bool}(s:hJ T f (N+1) x G)(t:∀a O,a<=T.length->hG T O->(bI T f x a O).length<=2557)(u:0<i)(B:i<=G)(C:G<=100000):hJ T f (N+2) (.group i x nm) G:=by
 refine qV (N:=N+1) λ n a O A e Y g h m q=>?_
 refine a7 (fw (k:=1) (J [_,_] 0xa1100a111001 L Y)) λ n D=>?_;subst D
 rw[EN] at q
 have p:=ah (nd _) (t a O g h)
 refine aH (p4 ..) (cO rfl (cO rfl (cO rfl (iK (bx (v:=x.v) rfl (s (n+1) a O _ e (by assumption) g h m λ ab E o V F=>?_))))))
 refine sG o.items (λ y j M=>M=E/\j=(((dK (bI T f x a O)).take y).map λ w=>(w.1,w.2.set (i-1) (some (a,w.1)))).map eO) ⟨rfl,rfl⟩ (λ y j M b=>by rw[b.1];exact o.hQ) (λ y v j H W l b I=>?_) λ j H b=>?_
 ·refine bc b λ K P=>?_;clear b;subst K;subst P
  rw[w6] at l
  refine a' (gD.mp l) λ w c Q=>?_;subst Q
  have r:w.2.length=G:=((iv x a O w g h (n9.mp (j_ c))).2.2.2).trans m
  refine⟨?_,bx (v:=.int w.1) rfl (bx (v:=m2 w.2) rfl (bx (v:=.int i) rfl (bx (v:=.int w.1) rfl (cb (cn (n:=2) (ae rfl)) rfl (ab7 u (by rw[r];exact B) (by rw[r];exact C) (cb (cn (n:=2) (ae rfl)) rfl (I _ _ ⟨rfl,?_⟩)))))))⟩
  ·rw[cM,cM]
   exact ah (sy ..) (ah p (ae rfl))
  ·rw[lJ,c,e8,e8]
   rfl
 ·refine bc b λ R S=>?_;clear b;clear o;subst R;subst S
  rw[cM,nJ]
  refine tp (G:=G) .lst (λ w c=>?_) ?_ ?_
  ·refine a' (nL.mp c) λ v l U=>?_;clear c;subst U
   rw[hr]
   exact((iv x a O v g h (n9.mp l)).2.2.2).trans m
  ·rw[cM];exact ah p (ae rfl)
  ·refine q _ _ ?_ (λ i d=>nomatch d) F
   rw[aaw]
   exact .lst
theorem afj(j:T.length<=4)(t:fU T){i m:Nat}(B:0<i)(u:i<=G)(C:G<=100000):hJ T f 2 (.again i m) G:=by
 refine qV (N:=1) λ n a O A e Y F H I q=>?_
 apply i6 (k:=1) Y;intro n
 refine a7 ((⟨_,hK (by exact J [_,_,_,_] 0xc111c0020447004c509481 L u (aL I.symm) (di (J [_] 4540987353335809 L B)))⟩:∃p,O[i-1]?=some p)) λ p l=>?_
 have c:∀{y},y<=T.length->y<=1000000000:=λ h=>ah h (ah j (ae rfl))
 have o:T.length<=c7:=ah j (ae rfl)
 have w:∀(k:bl)(e:U),k (hA p) e->item (m2 O) (.int ((i-1:Nat):Int)) k e:=λ k e h=>bx (v:=hA p) (by
  show(if 0<=((i-1:Nat):Int)&&dU ((i-1:Nat):Int) then(O.map hA)[(((i-1:Nat):Int)).toNat]? else none)=_
  rw[js (by exact J [_,_,_] 0xee6b2800c33008608c350106509481 L u C (hq _ _)),fi (i4 _)]
  show(O.map hA)[i-1]?=_
  rw[j',l]
  rfl) h
 rw[Au] at q
 rw[l] at q
 refine aH (p4 ..) (cO rfl (cO rfl (cO rfl (cO rfl (iK (bx (v:=.int i) rfl (df (v:=.int ((i-1:Nat):Int)) (bA some (bA E.int (C9 (by assumption)))) (w _ e ?_))))))))
 clear w;rcases p with _|⟨b,d⟩
 ·exact fX (bg (r:=true) rfl (cF (d_ (bg (r:=true) rfl (xl (cF (n' (aV:=[]) (show 0<=100 by decide) q)))))))
 ·have g:=H b d (j_ l)
  dsimp only at q
  refine fX (bg (r:=false) rfl (br (bx (v:=.int d) rfl (df (v:=.int ((a+d:Nat):Int)) rfl (bx (v:=.int b) rfl (df (v:=.int ((a+(d-b):Nat):Int)) (bA some (bA E.int (by lia))) (d_ (bg (r:=false) rfl (iW (j0 o (nZ (l' (λ h=>?_) λ h=>?_))))))))))))
  ·rw[a8 (λ D=>by have:=gg h;exact bB _ (J [_,_,_] 0x208804314013140111001 L (dR.mp (gg h)) D.1)),rT (de _)] at q
   exact cF (n' (aV:=[]) (show 0<=100 by decide) q)
  ·have s:a+(d-b)<=T.length:=by have:=rb h;exact(hT.mp (jF.mp (rb h)))
   refine kR o (eM (c F)) (eM (c s)) (bx (v:=.int b) rfl (bx (v:=.int d) rfl (kR o (eM (c (ah g.1 g.2))) (eM (c g.2)) ?_)))
   show call _ 121 [.str (cut T a (some (a+(d-b)))),.str (cut T b (some d)),.bool f] _ e
   rw[oY,show some d=some (b+(d-b)) by rw[Nat.add_sub_of_le g.1],oY]
   have x:∀y,((T.drop y).take (d-b)).length<=1000:=λ y=>by rw[nI,jn];exact J [_,_,_,_] 0x3e810ce031c243140120881 L j s (Nat.min_le_left _ _)
   refine abW ((t.drop _).take _) ((t.drop _).take _) (x _) (x _) ?_
   refine dj (l' (λ h=>?_) λ h=>?_)
   ·rw[a8 (λ D=>by rw[D.2] at h;exact cy h),rT (de _)] at q
    exact cF (n' (aV:=[]) (show 0<=100 by decide) q)
   ·rw[aU ⟨s,by rcases d:oe f ((T.drop a).take _) ((T.drop b).take _) with _|_;rw[d] at h;exact nomatch h;rfl⟩,rT (bw _)] at q
    exact br (cb (cn (n:=2) (ae rfl)) rfl (n' (aV:=[(a+_,O)]) (show 1<=100 by decide) q))
theorem afl{N:Nat}{x:bq}(g:hJ T f N x G)(h:∀a O,a<=T.length->hG T O->(bI T f x a O).length<=2557):hJ T f (N+1) (.atomic x) G:=by
 refine qV λ n a O A e Y b c j q=>?_
 rw[ae'] at q
 refine aH (p4 ..) (cO rfl (cO rfl (cO rfl (cO rfl (cO rfl (iK (bx (v:=x.v) rfl (g n a O _ e Y b c j λ ab m k o l=>?_))))))))
 refine k.slice (by rw[cM];exact ah (ah (nd _) (h a O b c)) (ae rfl)) rfl (eM (n:=1) (ae rfl)) (q _ _ ?_ (λ i d=>nomatch d) l)
 rw[rT (vB _),<-zX,List.map_take]
 exact .lst
end
end
section
section
variable{T:List Nat}{f:Bool}{G:Nat}
noncomputable def Zo:Option Nat->Int
 |some w=>w
 |none=>-1
theorem zM{B:List E}{i n:Nat}(d:E.lst B=.ref i):n<=i:=nomatch d
set_option tactic.hygienic true in
theorem Aw(bo:T.length<=4){N:Nat}{x:bq}{p:Option Nat}{cW:Bool}(bQ:p.getD 0<=100)(R:hJ T f N x G)(S:∀a O,a<=T.length->hG T O->(bI T f x a O).length<=2557):hJ T f (N+2) (.look x p cW) G:=by
 refine qV λ n a O A e Y K c W q=>a7 (fw (k:=1) (J [_,_] 0xa1100a111001 L Y)) λ n X=>?_;subst X
 refine aH (p4 ..) (cO rfl (cO rfl (cO rfl (cO rfl (cO rfl (cO rfl (iK (aH (adZ ..) (aH (WY ..) (aH (TZ ..) (bx (v:=.int (Zo p)) (by rcases p with _|_<;>rfl) (lL (v:=.int _) ?_ (df (v:=.int (a-p.getD 0)) rfl ?_)))))))))))))
 ·rcases p with _|_
  case none=>rfl
  case some w=>exact bA _ (bA E.int (a8 (show¬(w:Int)<0 by exact λ Z=>bB _ (J [_] 0x8220004111001 L (dR.mp Z)))))
 refine mA (λ r M=>dw M r ((if p.getD 0<=a then(bI T f x (a-p.getD 0) O).take 1 else[]).map eO)/\(∀i,r=.ref i->e.next<=i)/\ei e M) (λ bj m=>uM (k3 (λ h=>?_) λ h=>?_)) λ r g V=>?_
 ·rw[aU (by lia:p.getD 0<=a)] at m
  refine bx rfl (cb (cn (n:=2) (by decide)) rfl ?_)
  rw[show a-p.getD 0=((a-p.getD 0:Nat):Int) by lia]
  refine R n _ O _ e (J [_,_] 0x290011140111001 L Y) (ah (hq _ _) K) c W λ ab g kI cx o=>kI.slice (by rw[cM];exact ah ((λ b=>ah (nd _) (S (a-b) O (ah (hq _ _) K) c)) _) (ae rfl)) rfl (eM (ae rfl)) (m _ _ ⟨?_,λ i=>zM,o⟩)
  rw[<-zX,List.map_take]
  exact .lst
 ·rw[a8 (by lia)] at m
  exact e2 (by decide) (m _ _ ⟨.new,λ i d=>by(injection d with a0;subst a0);exact bw _,.alloc _ _ _⟩)
 ·obtain⟨V,cx,o⟩:=V
  rw[xR] at q
  have u:(if p.getD 0<=a then(bI T f x (a-p.getD 0) O).take 1 else[]).length<=1:=by
   split
   ·exact vB _
   ·exact de _
  generalize (if p.getD 0<=a then(bI T f x _ O).take 1 else[])=l at V q u
  refine bx rfl (dj ?_)
  rcases cW with _|_
  case true=>
   have P:∀{M:U},dw M r (l.map eO)->gF M r=.lst _:=λ{M} h=>by
    have C:=h.1
    rcases r with _|_
    case lst dV=>obtain rfl:=ck C;rfl
    case ref y=>
     rw[iV] at C
     unfold gF
     dsimp only
     rcases c:M.get y with _|_
     case none=>rw[c] at C;exact bF C
     case some D=>
      rw[c] at C
      rcases D with _|_
      case list dV=>obtain rfl:=ck C;rfl
      case flist dV=>obtain rfl:=ck C;rfl
      all_goals exact bF C
    all_goals exact bF C
   have lT:∀{M:U}{r:E}{B:List E},dw _ r B->ic _ r=none:=λ{M r B} h=>by
    have C:=h.1
    clear h;rcases r with _|_
    case lst dV=>rfl
    case ref y=>
     rw[iV] at C
     unfold ic
     dsimp only
     rcases c:M.get y with _|_
     case none=>rfl
     case some D=>
      rw[c] at C
      clear c;rcases D with _|_
      case dict _ _=>exact bF C
      all_goals rfl
    all_goals exact bF C
   have F:dw (g.alloc (.list [])) r _:=V.ext (.alloc _ _ _)
   have Q:jO (g.alloc (.list [])) r (.ref g.next)=gj 10 (.lst (l.map eO)) (.lst []):=by
    unfold jO
    rw[lT F]
    rw[P F]
    show gj 10 _ (match(g.alloc _).get _ with|some (.list B)=>E.lst B|some (.flist B)=>E.lst B|_=>_)=_
    rw[fR]
   refine cF (fX (e2 (by decide) (bg (r:=l.isEmpty) ?_ ?_)))
   ·show jO _ _ _=_
    rw[Q]
    rcases l with _|_<;>rfl
   ·have s:ei e (g.alloc (.list [])):=o.jI
    clear P F Q;rcases l with _|_
    case nil=>
     exact n' (aV:=[(a,O)]) (show 1<=100 by decide) λ eg M C I ag=>q eg _ C (λ i d=>ah s.next (I i d)) (s.trans ag)
    case cons w l=>
     exact n' (aV:=[]) (show 0<=100 by decide) λ eg M C I ag=>q eg _ C (λ i d=>ah s.next (I i d)) (s.trans ag)
  case false=>
   rw[a8 (by decide),rT (by rw[cM];exact u)] at q
   refine br (sG V.items (λ y t M=>M=g/\t=((l.take y).map λ v=>(a,v.2)).map eO) ⟨rfl,rfl⟩ (λ y t M j=>by exact rwl j.1 V.hQ) (λ y v t aS g_ H j cq=>?_) λ t aS j=>?_)
   ·refine bc j λ dZ kq=>?_;clear j;subst dZ;subst kq
    rw[w6] at H
    refine a' (gD.mp H) λ w aD eV=>?_;clear H;subst eV
    refine⟨?_,bx rfl (cb (cn (n:=2) (by decide)) rfl (cq _ _ ⟨rfl,?_⟩))⟩
    ·rw[cM,cM]
     exact ah (sy ..) (ah u (ae rfl))
    ·rw[lJ,aD,e8,e8]
     rfl
   ·refine bc j λ fh mL=>?_;clear j;clear V;subst fh;subst mL
    rw[cM,nJ]
    exact q _ _ .lst (λ i d=>nomatch d) o
theorem afm(K:T.length<=4){N:Nat}{ab aT:bq}(C:hJ T f N ab G)(I:hJ T f N aT G)(y:∀a O,a<=T.length->hG T O->(bI T f ab a O).length<=2557)(B:∀a O,a<=T.length->hG T O->(bI T f aT a O).length<=2557):hJ T f (N+2) (.d4 ab aT) G:=by
 refine qV λ n a O A e Y b c l q=>a7 (fw (k:=1) (J [_,_] 0xa1100a111001 L Y)) λ n D=>?_;subst D
 have aX:=ah (nd _) (y a O b c)
 have bS:=ah (nd _) (B a O b c)
 have cV:∀w∈dK (bI T f ab a O),w.2.length=G:=λ w g=>(iv ab a O w b c (n9.mp g)).2.2.2.trans l
 rw[EM] at q
 refine aH (p4 ..) (cO rfl (cO rfl (cO rfl (cO rfl (cO rfl (cO rfl (cO rfl (fX (cO rfl (e2 (by decide) (bx rfl (k8 rfl (λ i ak M=>(∃b3 cX fz r,ak=gc _ _ _ _ _ _ b3 cX _ _ (some r) fz/\
  dw M r ((match i with|0=>[]|1=>dK (bI T f ab a O)|_=>dK (dK (bI T f ab a O)++dK (bI T f aT a O))).map eO)/\∀i,r=.ref i->e.next<=i)/\ei e M) ⟨(hZ none none none _ ⟨rfl,.new,λ i d=>by(injection d with a0;subst a0);exact bw _⟩),.alloc _ _ _⟩ (λ z z z z=>trivial) (λ i v ak M P o h s z z=>?_) λ ak M h=>?_))))))))))))
 ·refine bc h λ t m=>?_;clear h;refine r8 t λ b3 cX fz r E V u=>?_;clear t;subst E
  refine aH (Ht ..) (aH (F4 ..) (cO rfl ?_))
  rcases i with _|_|i
  ·obtain rfl:=ck o
   refine C (n+1) a O _ M (J [_,_] 0x445010011140111001 L Y) b c l λ eg F p z j=>dw.add (V.ext j) p ?_ (tp (aV:=dK (bI T f ab a O)) (G:=G) .new cV (ah aX (ae rfl)) (s _ _ ⟨(hZ b3 _ fz _ ⟨rfl,?_,λ i d=>zM d⟩),(m.trans j).jI⟩).1)
   ·show 0+_<=_
    rw[gr,cM];exact ah aX (ae rfl)
   ·rw[aav];exact .lst
  ·obtain rfl:=ck o
   refine I (n+1) a O _ M (J [_,_] 0x445010011140111001 L Y) b c l λ eg F p z j=>dw.add (V.ext j) p ?_ (tp (aV:=dK (bI T f ab a O)++dK (bI T f aT a O)) (G:=G) ?_ (λ w g=>(fv.mp g).elim (cV w) ((λ w g=>(iv aT a O w b c (n9.mp g)).2.2.2.trans l) w)) ?_ (s _ _ ⟨(hZ b3 _ fz _ ⟨rfl,.lst,λ i d=>zM d⟩),(m.trans j).jI⟩).1)
   ·rw[cM,cM];exact ah (fV aX bS) (ae rfl)
   ·rw[e8];exact .new
   ·rw[bR];exact ah (fV aX bS) (ae rfl)
  ·exact bF o
 ·refine bc h λ x m=>?_;clear h;refine r8 x λ b3 cX fz r H V u=>?_;clear x;subst H
  refine f3 (aH (F3 ..) (gm (q r M ?_ u m)))
  rw[<-xg]
  exact V
theorem acn{D:bq}{o:Nat}(hz:d5 D=false)(b:h6 D o){s:bq}:d5 s=true->h6 s o->h6 (s.snoc D) o/\d' (s.snoc D)=d' s+d' D/\gP (s.snoc D)=gP s+1/\∀a O,bI T f (s.snoc D) a O=(bI T f s a O).flatMap λ w=>bI T f D w.1 w.2:=by
 induction s with
 |nil=>exact λ z z=>⟨⟨⟨hz,rfl⟩,b,trivial⟩,nO ..,rfl,λ a O=>(List.flatMap_singleton' _).trans (List.flatMap_singleton ..).symm⟩
 |cons x r _ c=>
  intro _ h
  refine f5 (c h.1.2 h.2.2) λ d e g i=>?_
  exact⟨⟨⟨h.1.1,Ky⟩,h.2.1,d⟩,(bA (d' x+·) e).trans (ez ..).symm,bA (·+1) g,λ a O=>(bA ((bI T f x a O).flatMap) (funext λ w=>i w.1 w.2)).trans List.flatMap_assoc.symm⟩
 |_=>exact cy
def vL(bh:bq->Prop):bq->Prop
 |.cons x r=>bh x/\vL bh r
 |_=>True
structure ya(T:List Nat)(f:Bool)(G N o:Nat)(x s H:bq)(i:Nat):Prop where
 abO:d5 s=true
 k5:h6 s o
 l5:d5 H=true
 uA:h6 H o
 b:d' s+d' H<=4
 l:gP s+gP H<=3
 B:H.B=x.B.drop i
 all:vL (λ D=>hJ T f N D G) H
 fl:∀a O,(bI T f s a O).flatMap (λ w=>bI T f H w.1 w.2)=bI T f x a O
theorem ya.step{N o i:Nat}{x s H D:bq}(h:ya T f G N o x s (.cons D H) i):ya T f G N o x (s.snoc D) H (i+1)/\∀a O,bI T f (s.snoc D) a O=(bI T f s a O).flatMap λ w=>bI T f D w.1 w.2:=by
 refine f5 (acn (T:=T) (f:=f) h.uA.1.1 h.uA.2.1 h.abO h.k5) λ d e g c=>?_
 refine⟨⟨Ky,d,h.uA.1.2,h.uA.2.2,?_,?_,(bA List.tail h.B).trans List.tail_drop,h.all.2,λ a O=>?_⟩,c⟩
 ·rw[e,ez];exact h.b
 ·rw[g,ez,nO 1];exact h.l
 ·rw[c,List.flatMap_assoc];exact h.fl a O
theorem yB(b:T.length<=4){x:bq}{o:Nat}(c:o<4)(e:d' x<=4)(i:h6 x o)(j:d5 x=true->gP x<=3){a:Nat}{O:cA}(g:a<=T.length)(h:hG T O):(bI T f x a O).length<=2557:=by
 have t:=KY o c _ (kb e) _ (lY b a)
 have k:=Bf (f:=f) b x o c e i
 rcases d:d5 x with _|_
 case false=>exact ah (k.1 d a O g h).1 t.1
 case true=>exact ah (k.2 d 3 (j d) (bw 3) a O g h).1 (t.2 3 (ae rfl))
set_option tactic.hygienic true
theorem LB(L:T.length<=4){N o:Nat}(P:o<4){x:bq}(V:d5 x=true)(aq:h6 x o)(ax:d' x<=4)(Yk:gP x<=3)(bH:vL (λ D=>hJ T f N D G) x):hJ T f (N+2) x G:=by
 refine qV (N:=N+1) λ Q a O A e Y R S U q=>?_
 refine a7 (g' (ah (gC 1 N) Y)) λ Q kS=>?_;subst kS
 rw[EH V]
 refine aH (p4 ..) (cO rfl (cO rfl (cO rfl (cO rfl (cO rfl (cO rfl (cO rfl (fX (iK (e2 (cn (n:=1) (by decide)) (bx (v:=.lst x.B) rfl ?_)))))))))))
 refine k8 (v:=.lst x.B) rfl (λ i ak M=>(∃b3 cX fz r,ak=gc (some (xp x.B)) (some (.str T)) (some (eO (a,O))) (some (.bool f)) (some (.int a)) (some (m2 O)) b3 cX none none (some r) fz/\
  (∃s H,ya T f G N o x s H i/\dw M r ((dK (bI T f s a O)).map eO))/\(∀i,r=.ref i->e.next<=i))/\ei e M)
  ⟨(hZ none none none _ ⟨rfl,(cu .nil x ⟨⟨rfl,trivial,V,aq,rwl ((gr _)) ax,rwl ((gr _)) Yk,rfl,bH,λ a O=>List.flatMap_singleton ..⟩,.new⟩),λ i d=>by(injection d with a0;subst a0);exact bw _⟩),.alloc _ _ _⟩ (λ z z z z=>trivial) (λ i v ak M d3 c j cq z z=>?_) λ ak M j=>?_
 ·refine bc j λ W F=>?_;clear j;refine r8 W λ b3 cX fz r EY X Z=>?_;clear W;subst EY;refine fC X λ s H g V=>?_;clear X
  have c:H.B[0]?=some v:=by rw[g.B,so];exact c
  rcases H with _|_
  case cons D H=>
   obtain rfl:=dd c
   have J:∀w∈dK (bI T f s a O),kX T a O w:=λ w k=>iv s a O w R S (n9.mp k)
   have Jn:∀w,kX T a O w->(dK (bI T f D w.1 w.2)).length<=2557:=λ w k=>ah (nd _) (yB L P (ah (ah (dD ..) (gC ..)) g.b) g.uA.2.1 (λ d=>cy (g.uA.1.1.symm.trans d)) k.2.1 k.2.2.1)
   have w0:∀y,(((dK (bI T f s a O)).take y).flatMap λ w=>dK (bI T f D w.1 w.2)).length<=6538249:=λ y=>ah (wt (K:=2557) λ w k=>Jn w (J w (ra k))) (pU 2557 (ah (sy ..) (ah (nd _) (yB (f:=f) L P (ah (dD ..) g.b) g.k5 (λ z=>ah (dD ..) g.l) R S))))
   refine aH (Ht ..) (aH (F4 ..) (iK (e2 (by decide) ?_)))
   have kI:dw (M.alloc (.list [])) r ((dK (bI T f s a O)).map eO):=V.ext (.alloc _ _ _)
   refine k8 kI.items (λ y ak m=>(∃p,ak=gc (some (xp x.B)) (some (.str T)) (some (eO (a,O))) (some (.bool f)) (some (.int a)) (some (m2 O)) p (some D.v) none none (some r) (some (.ref M.next)))/\
    m.get M.next=some (.list ((((dK (bI T f s a O)).take y).flatMap λ w=>dK (bI T f D w.1 w.2)).map eO))/\Fr (·=M.next) (M.alloc (.list [])) m) ⟨⟨_,rfl⟩,fR ..,.refl _ _⟩ (λ y ak m j=>(kI.fr j.2.2 (λ y d h=>absurd (V.2 y d) (rwr h (Nat.lt_irrefl _)))).hQ) (λ y v ak m SI c j Cr z z=>?_) λ ak m j=>?_
   ·refine e_ j λ jg u t=>?_;clear j;refine a7 jg λ p xY=>?_;clear jg;subst xY
    rw[w6] at c
    refine a' (gD.mp c) λ w k ko=>?_;subst ko
    have E:=J w (j_ k)
    refine aH (W0 ..) (aH (T1 ..) (g.all.1 (Q+1) w.1 w.2 _ m (oR (kZ Y)) E.2.1 E.2.2.1 (E.2.2.2.trans U) λ aT c9 i_ z gu=>?_))
    refine IJ (gu.get u (d7 (eo _) t.next) λ D=>D) i_ ?_ (Cr _ _ ⟨⟨_,rfl⟩,?_,(t.trans (gu.mono λ z z D=>D.elim)).trans (.upd _ _ _ rfl)⟩).1
    ·rw[cM,cM]
     exact ah (fV (w0 y) (Jn w E)) (ae rfl)
    ·rw[lJ,k,List.flatMap_append,e8,show(some w:Option cm).toList=[w] from rfl,List.flatMap_singleton]
     exact dI ..
   ·refine e_ j λ jx u t=>?_;clear j;refine a7 jx λ p AF=>?_;clear jx;subst AF
    have H6:=w0 ((dK (bI T f s a O)).map eO).length
    rw[cM,nJ] at u H6
    have H':M.next<m.next:=d7 (eo _) t.next
    refine f3 (aH (T2 ..) (tp (G:=G) (aV:=(dK (bI T f s a O)).flatMap λ w=>dK (bI T f D w.1 w.2)) ⟨by rw[iV,u];rfl,λ i d=>by(injection d with a0;subst a0);exact H'⟩ (λ w k=>?_) (ah H6 (ae rfl)) (f3 (aH (T3 ..) (cq _ _ ⟨(hZ _ _ _ _ ⟨rfl,(cu _ _ ⟨g.step.1,?_⟩),λ i d=>zM d⟩),F.trans (⟨ka H',λ y C I=>(t.same y (j9 C) (e' C)).trans (iA (e' C))⟩)⟩).1))))
    ·refine a' (List.mem_flatMap.mp k) λ v C I=>?_
     have c:=J v C
     exact(iv D v.1 v.2 w c.2.1 c.2.2.1 (n9.mp I)).2.2.2.trans (c.2.2.2.trans U)
    ·rw[JQ,DR,<-g.step.2]
     exact .lst
  all_goals exact bF c
 ·refine bc j λ jh F=>?_;clear j;refine r8 jh λ b3 cX fz r tQ xZ Z=>?_;clear jh;subst tQ;refine fC xZ λ s H g V=>?_;clear xZ
  refine f3 (aH (F3 ..) (gm (q r M ?_ Z F)))
  have c:=g.B
  rw[List.drop_length] at c
  rcases H with _|_
  case nil=>exact rwr (g.fl a O) (rwl ((List.flatMap_singleton' (bI T f s a O))) V)
  case cons _ _=>cases c
  all_goals exact cy g.l5
theorem afk(s:T.length<=4)(I:fU T)(J:G<=100000)(x:bq):∀o g,o<4->d' x<=4->h6 x o->gB x g->g+dX x<=G->
  (d5 x=false->hJ T f (20*(o+1)) x G)/\(d5 x=true->vL (λ D=>hJ T f (20*(o+1)) D G) x):=by
 have t:∀{N o x},hJ T f N x G->N<=20*(o+1)->hJ T f (20*(o+1)) x G:=λ h R n a O A e Y=>h n a O A e (ah R Y)
 have row:∀{r:bq}{o N:Nat},o+1<4->d' r<=4->nB (h6 r o) r->(h6 r o->vL (λ D=>hJ T f N D G) r)->hJ T f (N+2) r G/\∀a O,a<=T.length->hG T O->(bI T f r a O).length<=2557:=λ l i h v=>
  ⟨LB s (mm l) h.row h.k5 i h.len (v h.k5),λ a O B C=>yB s (mm l) i h.k5 (λ z=>h.len) B C⟩
 have le:∀{o k:Nat},k<=18->20*(o+1)+k<=20*(o+1+1):=λ h=>ah (e7 h _) ((λ o=>e7 (ae rfl:18<=20) _) _)
 have one:∀{o:Nat}{k:Nat},k<=20->k<=20*(o+1):=λ h=>ah h (Nat.le_mul_of_pos_right _ (jH _))
 induction x with
 |one k=>exact λ o g z z z z z=>⟨λ z=>t (afo s I) (one (ae rfl)),cy⟩
 |place w=>exact λ o g z z z j z=>⟨λ z=>t (LA s j) (one (by decide)),cy⟩
 |again n a=>exact λ o g z z z j q=>⟨λ z=>t (afj s I j.1 (ah j.2.1 q) J) (one (by decide)),cy⟩
 |nil=>exact λ o g z z z z z=>⟨λ h=>cy h.symm,λ z=>trivial⟩
 |cons x r E F=>
  intro o g l i b j q
  have q:g+dX x+dX r<=G:=u4 q
  exact⟨λ h=>cy h.symm,λ z=>⟨(E o g l (ah (dD ..) i) b.2.1 j.2.1 (ah (dD ..) q)).1 b.1.1,(F o _ l (ah (gC ..) i) b.2.2 j.2.2 q).2 b.1.2⟩⟩
 |rounds x c m v=>
  intro o g l i b j q
  refine a7 (g' b.1) λ o S=>?_;subst S
  have y:=mm l
  have fm:d' x<=2:=Nat.le_of_add_le_add_left (a:=2) i
  have lC:=ah fm (ae rfl:2<=4)
  have fM:=b.2.2.1
  refine⟨λ z=>t (afp s j.2.1 ((v o g y lC b.2.2.2 j.2.2.2 q).1 fM) (λ a O B C=>yB s y lC b.2.2.2 (λ d=>cy (fM.symm.trans d)) B C) λ a O B C=>?_) (le (ae rfl)),cy⟩
  exact ah (Gf s l fm j.1 ((Bf s x o y lC b.2.2.2).1 fM) B C).1 (KY (o+1) l _ (kb i) _ (lY s a)).1
 |group n r nm v=>
  intro o g l i b j q
  refine a7 (g' b.1) λ o U=>?_;subst U
  obtain⟨rfl,_,j⟩:=j
  have q:g+1+dX r<=G:=u4 q
  have k:=row (r:=r) l i b.2 λ D=>(v o _ (mm l) i D j q).2 b.2.row
  exact⟨λ z=>t (afn k.1 k.2 (jH _) (ah (dD ..) q) J) (le (k:=3) (by decide)),cy⟩
 |d4 ab aT E F=>
  intro o g l i b j q
  refine a7 (g' b.1) λ o V=>?_;subst V
  have y:=mm l
  have q:g+dX ab+dX aT<=G:=u4 q
  have i:d' ab+d' aT<=4:=ah (gC ..) i
  have fP:d' ab<=4:=ah (dD ..) i
  have gs:d' aT<=4:=ah (gC ..) i
  have K:=row (r:=ab) l fP b.2.1 λ D=>(E o _ y fP D j.2.1 (ah (dD ..) q)).2 b.2.1.row
  have L:=row (r:=aT) l gs b.2.2 λ D=>(F o _ y gs D j.2.2 q).2 b.2.2.row
  exact⟨λ z=>t (afm s K.1 L.1 K.2 L.2) (le (k:=4) (by decide)),cy⟩
 |atomic r v=>
  intro o g l i b j q
  refine a7 (g' b.1) λ o W=>?_;subst W
  have k:=row (r:=r) l i b.2 λ D=>(v o g (mm l) i D j.2 q).2 b.2.row
  exact⟨λ z=>t (afl k.1 k.2) (le (k:=3) (by decide)),cy⟩
 |look x p cW v=>
  intro o g l i b j q
  refine a7 (g' b.1) λ o X=>?_;subst X
  have y:=mm l
  refine⟨λ z=>?_,cy⟩
  rcases p with _|_
  case none=>
   rcases b.2 with⟨_,h⟩|⟨w,_,h⟩|⟨u,rfl⟩
   ·have k:=row (r:=x) l i h λ D=>(v o g y i D j.2 q).2 h.row
    exact t (Aw s (de _) k.1 k.2) (le (k:=4) (by decide))
   ·refine bc h.wf λ M z=>?_;refine f5 M λ ab aT Z H=>?_;clear M
    have k:=row (r:=x) l i ⟨ab,rwl aT (ka ‹_<3›),H o⟩ λ D=>(v o g y i D j.2 q).2 ab
    exact t (Aw s (de _) k.1 k.2) (le (k:=4) (by decide))
   ·exact cy j.1
  case some w=>
   rcases j.1 with⟨P,⟨bC,h⟩|⟨rfl,u,b6,_,rfl⟩⟩
   ·refine bc h.wf λ Q z=>?_;refine f5 Q λ ab aT Z H=>?_;clear Q
    have k:=row (r:=x) l i ⟨ab,rwl aT (ka P),H o⟩ λ D=>(v o g y i D j.2 q).2 ab
    exact t (Aw s (ah (ka P) (ae rfl)) k.1 k.2) (le (k:=4) (by decide))
   ·refine t (Aw s (de _) (LA s b6) λ a O B agq=>?_) (one (ae rfl:4<=20))
    rw[xS]
    split
    ·exact(show 1<=2557 by exact ae rfl)
    ·exact de _
set_option tactic.hygienic false
end
end
section
theorem HH(T:List Nat)(G:Nat):hG T (List.replicate G none):=λ b d h=>by simp at h
theorem W2(R:dp)(K:Loc->U->Prop)(e:U)(v:E)(a b c o d f g h i y k l:Option E):d6 126 [] 10 R v (mi a b c o d f g h i y k l) K e=K (mi a b c o d f g h i y (some v) l) e:=by kernel_rfl
theorem FY:∀(c pre m:List ct),At (pre++(c++m)) pre.length c
 |[],_,_=>trivial
 |a::c,pre,m=>by
  refine⟨by rw[yu (bw _),Nat.sub_self];rfl,?_⟩
  have:=FY c (pre++[a]) m
  rw[el,bR] at this
  exact this
section
variable{T:List Nat}{f:Bool}{e:U}{A:bl}
theorem ac0{c b:Nat->Nat}{l:Nat}(d:l<=4)(h:∀i,i<=l->c i<=b (l-i)):sumTo (λ a=>c a+1) (l+1)<=b 0+b 1+b 2+b 3+b 4+5:=by
 revert h;apply Dq (kb d)<;>intro h
 ·exact J [_,_,_,_,_,_] 0x144941cc500000004440004001481 L (h 0 (ae rfl))
 ·exact J [_,_,_,_,_,_,_] 0x144a4a0a700000004460044400040000e609481 L (h 0 (ae rfl)) (h 1 (ae rfl))
 ·exact J [_,_,_,_,_,_,_,_] 0x144b514e9000000044800446004440004000009404e609481 L (h 0 (ae rfl)) (h 1 (ae rfl)) (h 2 (ae rfl))
 ·exact J [_,_,_,_,_,_,_,_,_] 0x144c29d2b000000044a00448004460044400040000005a829404e609481 L (h 0 (ae rfl)) (h 1 (ae rfl)) (h 2 (ae rfl)) (h 3 (ae rfl))
 ·exact J [_,_,_,_,_,_,_,_,_,_] 0x14453a56d000000044c0044a0044800446004440004000000035815a829404e609481 L (h 0 (ae rfl)) (h 1 (ae rfl)) (h 2 (ae rfl)) (h 3 (ae rfl)) (h 4 (ae rfl))
theorem ft.w9{x:bq}{g b:Nat}(h:ft 3 2 3 0 0 x g b):d' x<=4:=ah (jE ((gr _).symm.trans h.2.gh.symm)) (h.2.four (ae rfl))
theorem K3(a:T.length<=4){x:bq}{g b:Nat}(h:ft 3 2 3 0 0 x g b):vM T (bI T f x) (eE T f x) (kQ 3 3 (d' x)) (kj 3 3 (d' x)):=(Bf a x 3 (ae rfl) h.w9 h.2.k5).2 h.1.1 3 h.1.2 (bw 3)
theorem ac6(c:T.length<=4){x:bq}{g b:Nat}(h:ft 3 2 3 0 0 x g b)(G:Nat):sumTo (λ a=>eE T f x a (List.replicate G none)+1) (T.length+1)<=1000000:=
 ah (ac0 c λ i d=>(K3 c h i _ d (HH T G)).2) (K0 _ (kb h.w9)).1
theorem abB{l:Nat}(h:l<=4):hx e (.rng (l:Nat) (-1) (-1))=some ((List.range (l+1)).map λ(k:Nat)=>E.int ((l:Int)-k)):=by
 show(if(dU _&&dU _&&(-1==1||-1==-1))=true then some _ else none)=_
 rw[js (by exact J [_] 0x3b9aca0030c8020881 L h)]
 show some ((List.range _).map _)=_
 rw[show((l:Int)- -1).toNat=l+1 by lia]
theorem ZV{R:dp}{k:bl}{ai:List E}(h:ai.length<=c7)(q:k (.ref e.next) (e.alloc (.list ai))):cJ cp R (.typ .list) [.tup ai] k e:=⟨h,q⟩
def r9(e:U)(l:Nat)(r:Nat->Option cm)(c:E)(j:Nat):Prop:=(c=.none/\∀a,j<=a->a<=l->r a=none)\/
 ∃q a w,c=.ref q/\q<e.next/\(j<=a/\a<=l/\r a=some w/\∀b,j<=b->b<a->r b=none)/\e.get q=some (.list (.tup [.int (a:Nat),.int (w.1:Nat)]::w.2.map hA))
theorem r9.ext{M:U}{l j:Nat}{r:Nat->Option cm}{b:E}(h:r9 e l r b j)(d:ei e M):r9 M l r b j:=by
 rcases h with h|⟨q,a,w,C,I,ag,c⟩
 ·exact .inl h
 ·exact .inr (gw q a w ⟨C,d7 I d.next,ag,d.get c I id⟩)
theorem V'{g q:Nat}{a b:Nat}{O:cA}{i y:Nat}(C:e.get g=some (.list (.tup [.int a,.int b]::O.map hA)))(I:e.get q=some (.list (.tup [.int a,.int b]::O.map hA))):jO e (.ref g) (.ref q)=some true:=by
 unfold jO
 rw[(by unfold ic;simp only[C]:ic e (.ref g)=none),(by unfold gF;simp only[C]:gF e (.ref g)=.lst (.tup [.int a,.int b]::O.map hA)),(by unfold gF;simp only[I]:gF e (.ref q)=.lst (.tup [.int a,.int b]::O.map hA))]
 show(match(O.map _).length+1==(O.map _).length+1 with|true=>(match some ((a:Int)==a&&((b:Int)==b&&true)),j2 _ _ _ with|some x,some H=>some _|_,_=>none)|false=>some _)=_
 rw[eC,eC,eC,EK 7 O O rfl,fi rfl]
 rfl
theorem YX{n ba bM g b:Nat}{x:bq}{K:ej}{da dY I N O P Q B:E}{b3 cX:Option E}(o:ft 3 2 3 0 0 x g b)(s:T.length<=4)(R:fU T)(S:pN e ba bM (code x 0 0++[ct.fin]) g (d1 x) f)(C:r9 e T.length (λ a=>(bI T f x a (List.replicate g none)).head?) B 0)(q:∀ak M,K (.ret (.bool true)) ak M):
  bp 126 [] 11 (call (n+11)) (mi (some da) (some dY) (some I) (some N) (some (.str T)) (some O) (some P) (some Q) (some (.ref ba)) (some B) b3 cX) K e:=by
 refine bc o.top λ W z=>e_ W λ hz X z=>?_;have k:=o.wf
 have V:=qJ x
 refine aH (T5 ..) (v' 46 (by kernel_rfl) (aH (ad2 ..) (e9 (fR ..) (eG:=rI.take 1) (c2:=[.int 64]) (by kernel_rfl) (ae rfl) (by kernel_rfl) (e9 (dI ..) (eG:=rI.take 2) (c2:=[.int 64,.int 50]) (by kernel_rfl) (ae rfl) (by kernel_rfl) (e9 (dI ..) (eG:=rI.take 3) (c2:=[.int 64,.int 50,.int 1000000]) (by kernel_rfl) (ae rfl) (by kernel_rfl) (e9 (dI ..) (eG:=rI.take 4) (c2:=[.int 64,.int 50,.int 1000000,.int 100000]) (by kernel_rfl) (ae rfl) (by kernel_rfl) (e9 (dI ..) (eG:=rI) (c2:=[.int 64,.int 50,.int 1000000,.int 100000,.int 10000]) (by kernel_rfl) (ae rfl) (by kernel_rfl) ?_)))))))
 generalize t:U.upd _ _ _=c
 have u:∀(c:U)(p:dk),ei e c->ei e (c.upd _ p):=λ c p d=>d.j1 (bw _)
 have v:ei e c:=by rw[<-t];exact u _ _ (u _ _ (u _ _ (u _ _ (u _ _ (.alloc _ _ _)))))
 have Y:∀r∈code x 0 0++[ct.fin],mR g r:=λ r V=>by
  rcases fv.mp V with h|h
  ·exact pv x 0 g 0 0 k.1 (aL k.2.symm) r h
  ·obtain rfl:=fu.mp h;trivial
 have F:At (code x 0 0++[ct.fin]) 0 _/\(code x 0 0++[ct.fin])[(code x 0 0).length]?=some _:=⟨FY _ [] _,by rw[yu (bw _),Nat.sub_self];rfl⟩
 have G:=C.ext v
 refine abY s R (J [_,_] 0x3d090083280850e97818c81 L hz V) (J [_,_] 0xf424020ca0200402878410c81 L X (aL k.2)) Y (by rw[bR];exact J [_,_] 0x77359400618445000850e97818c81 L hz (jq x 0 0):(code x 0 0++[ct.fin]).length<=1000000000) (S.fr v id id) (by rw[<-t];exact dI ..:c.get e.next=some (.inst 46 rI [.int 64,.int 50,.int 1000000,.int 100000,.int 10000])) _ (λ a l=>ZH s (k.1.afb (aL k.2.symm)) F.1 F.2 l (by rw[sx];exact bw _)) (ac6 s o g) (λ A Z H=>?_) λ a w l ax V Z y dE CA H=>?_
 ·rcases G with⟨rfl,_⟩|⟨i,a,w,_,_,⟨_,l,V,_⟩,_⟩
  ·exact bg rfl (q _ _)
  ·have V:(bI T f x a _).head?=some w:=V
   have:=A a l
   rw[this] at V
   exact bF V
 ·clear C t v;rcases G with⟨_,A⟩|⟨i,eL,lz,rfl,aM,⟨_,XC,j,m⟩,XU⟩
  ·have:=show(bI T f x a _).head?=none from A a (de _) l
   rw[this] at V
   exact bF V
  ·have m:∀b,0<=b->b<eL->(bI T f x b _).head?=none:=m
   have j:(bI T f x eL _).head?=some lz:=j
   have d:a=eL:=by
    rcases Nat.lt_trichotomy a eL with D|D|D
    ·have:=m a (de _) D
     rw[this] at V;exact bF V
    ·exact D
    ·have:=ax eL D
     rw[this] at j;exact bF j
   clear left XC m;subst d
   have a_:=dd (V.symm.trans j)
   clear j;subst a_
   exact bg (V' (i:=0) (y:=0) CA (H.get XU aM id)) (q _ _)
end
end
section
section
variable{T:List Nat}{f:Bool}{e:U}{A:bl}
theorem eu.WN{M:U}{s a g b:Nat}(h:eu e s a g b)(d:ei e M):eu M s a g b:=h.same (d7 h.1 d.next) (d.same _ h.1 id)
set_option tactic.hygienic true in
theorem Y4{n s ba g b P a:Nat}{x:bq}{K:ej}{da A B F G:E}{cX:Option E}(d:ft 3 2 3 0 0 x g b)(m:T.length<=4)(Q:fU T)(Y:82<=n)(R:eu e s P g b)(k:a<=T.length)(S:r9 e T.length (λ a=>(bI T f x a (List.replicate g none)).head?) G (a+1))
  (q:∀H p M,r9 M T.length (λ a=>(bI T f x a (List.replicate g none)).head?) H a->ei e M->K .next (mi (some da) (some (.ref s)) (some (.str (eA f))) (some A) (some (.str T)) (some x.v) (some B) (some F) (some (.ref ba)) (some H) (some (.int (a:Nat))) p) M):
  bp 126 [(10,0)] 0 (call n) (mi (some da) (some (.ref s)) (some (.str (eA f))) (some A) (some (.str T)) (some x.v) (some B) (some F) (some (.ref ba)) (some G) (some (.int (a:Nat))) cX) K e:=by
 refine bc d.top λ U z=>e_ U λ hz l z=>?_;have j:=d.wf
 have o:=HH T g
 have N:(bI T f x a _).length<=1000000:=ah (K3 m d a _ k o).1 ((K0 _ (kb d.w9)).2 _ (lY m a))
 refine aH (T4 ..) (cb (cn (n:=1) (by decide)) rfl (R.sQ (df (v:=m2 (List.replicate g none)) ?_ (cb (cn (n:=2) (by decide)) rfl (hu ?_)))))
 ·show(if(decide _&&dU g)=true then some _ else none)=_
  rw[js (by exact J [_,_] 0x3b9aca0030ca0200402878410c81 L l (aL j.2)),fi (by exact J [_,_] 0x1e84800a328420200402878410c81 L l (aL j.2))]
  rw[D6]
  unfold m2
  rw[List.map_replicate]
  rfl
 rw[(by rcases f with _|_<;>rfl:(eA f==[105])=f)]
 refine LB (f:=f) m (by decide) d.1.1 d.2.k5 d.w9 d.1.2 ((afk m Q (j.2.trans (gr _)▸ah l (ae rfl)) x 3 0 (by decide) d.w9 d.2.k5 j.1 (jE j.2.symm)).2 d.1.1) n a _ _ e (J [_] 0x1042140430008290861 L Y) k o sx λ r av V z t=>?_
 generalize u:bI T f x a _=aV at V N
 refine V.slice (by rw[cM];exact J [_] 0x7a120028c80f424020c81 L (ah (nd aV) N)) (by kernel_rfl) (by kernel_rfl) (dV:=none) (lu:=some 1) ?_
 have W:cut ((dK aV).map eO) (none.getD 0) (some 1)=(aV.take 1).map eO:=by
  show(((dK aV).map _).take 1).drop 0=_
  rw[mU,<-List.map_take,zX]
 rw[W]
 refine e2 (ae rfl) (bg (r:=!((aV.take 1).map eO).isEmpty) ?_ ?_)
 ·show(jO _ _ _).map _=_
  rw[wj .lst];rfl
 rcases y:aV with _|_
 case nil=>
  refine br (q _ _ _ ?_ t.jI)
  have key:∀c,a<=c->(∀i,a+1<=i->i<c->(bI T f x i _).head?=none)->∀i,a<=i->i<c->(bI T f x i _).head?=none:=λ c z h i C I=>by
   rcases Nat.eq_or_lt_of_le C with rfl|D
   ·exact(by rw[u,y];rfl:(bI T f x a (List.replicate g none)).head?=none)
   ·exact h i D I
  rcases(S.ext t.jI) with⟨rfl,X⟩|⟨i,c,w,C,I,⟨ag,Z,cY,fx⟩,iB⟩
  ·exact .inl ⟨rfl,λ i C I=>key (T.length+1) (J [_,_] 1173604013185 L k) (λ i C I=>X i C (J [_,_] 0x290011140111001 L I)) i C (J [_,_] 0x88a00888001481 L I)⟩
  ·exact .inr (gw i c w ⟨C,I,⟨J [_,_] 5635165982721 L ag,Z,cY,key c (J [_,_] 5635165982721 L ag) fx⟩,iB⟩)
 case cons w agV=>
  have aa:=by
   have:=(iv x a _ w k o (by rw[u,y];exact f9 ..)).2.2.2
   rwa [sx] at this
  have O:(w.2.map hA).length=g:=by rw[cM,aa]
  refine cF (bx rfl (bx rfl (cb (cn (n:=2) (by decide)) rfl (e2 (cn (n:=1) (by decide)) (bx rfl (bx rfl (ZV (by rw[O];exact J [_,_] 0x7a120028ca0200402878410c81 L l (aL j.2)) (dw.add (dw.new.ext (.alloc _ _ _)) dw.new (by exact rwl (O) (J [_,_] 0x3d0900146508800200402878410c81 L l (aL j.2))) (q _ _ _ (.inr (gw _ a w ⟨rfl,eo _,⟨bw a,k,by show(bI T f x a _).head?=some w;rw[u,y];rfl,λ c C I=>absurd I λ aK=>bB _ (J [_,_] 0x208804088a009481 L C I)⟩,fR ..⟩)) t.jI.jI.jI.jI)))))))))
theorem Y2{n s ba bM g b y:Nat}{x:bq}{da B D F:E}(t:ft 3 2 3 0 0 x g b)(d:T.length<=4)(u:fU T)(Y:82<=n)(G:eu e s y g b)(H:pN e ba bM (code x 0 0++[ct.fin]) g (d1 x) f)(q:∀M,A (.bool true) M):
  (cJ cp (call n) (.bi .len) [.str T] λ K=>cJ cp (call n) (.typ .range) [K,.int (-1),.int (-1)] λ N=>forM N (d6 126 [] 10 (call n)) (bp 126 [(10,0)] 0 (call n)) (mi (some da) (some (.ref s)) (some (.str (eA f))) (some B) (some (.str T)) (some x.v) (some D) (some F) (some (.ref ba)) (some E.none) none none) (fc (bp 126 [] 11 (call n)) (eX A))) e:=by
 refine j0 (ah d (ae rfl)) (qS (v:=.rng T.length (-1) (-1)) ?_ ?_)
 ·show(if(dU _&&dU _&&(-1==1||-1==-1))=true then _ else _)=_
  rw[js (ah d (ae rfl))]
  rfl
 have w:((List.range (T.length+1)).map λ(k:Nat)=>E.int (T.length-k)).length=T.length+1:=by rw[cM,List.length_range]
 refine k8 (abB d) (λ i ak M=>i<=T.length+1/\ei e M/\∃m b3 cX,ak=mi _ _ _ _ _ _ _ _ _ (some m) b3 cX/\r9 M _ (λ a=>(bI T f x a (List.replicate g none)).head?) m (T.length+1-i))
  ⟨de _,.refl _ _,.none,none,none,rfl,.inl ⟨rfl,λ a C I=>(bB _ (J [_,_,_] 0x8220004400446004c509481 L C I (d2 _ _))).elim⟩⟩ (λ z z z z=>trivial) (λ i v ak O Z o h P z z=>?_) λ ak O h=>?_
 ·refine Ax h λ z r m b3 cX Q j=>?_;clear h;subst Q
  have c:i<T.length+1:=by rw[<-w];exact(ix.mp o).1
  refine a7 (⟨_,rfl⟩:∃a,a=T.length-i) λ a l=>?_
  have R:v=.int a:=by
   rw[j',List.getElem?_range c] at o
   obtain rfl:=ck o
   show E.int _=_
   rw[show T.length-(i:Int)=a by lia]
  clear o;subst R
  rw[show T.length+1-i=a+1 by exact cB (J [_,_,_,_,_] 0x2228100088c03a0013900609481 L (aL l.symm) (d2 _ _) (di (J [_,_] 0x445010011140111001 L c))) (J [_,_,_,_,_] 0xe111000320a00a0e0088c009481 L (aL l) (d2 _ _) (di (J [_,_] 0x290011140111001 L c)))] at j
  refine aH (W2 ..) (Y4 t d u Y (G.WN r) (J [_,_,_] 6734715327617 L (aL l) (hq _ _)) j λ S p aS I U=>(P _ _ ⟨c,r.trans U,S,_,p,rfl,?_⟩).1)
  rw[show T.length+1-(i+1)=a by exact cB (J [_,_,_,_,_] 0xa80044600447020013900609481 L (aL l.symm) (d2 _ _) (di c)) (J [_,_,_,_,_] 0xe40190500422400e0088c009481 L (aL l) (d2 _ _) (di (J [_,_] 0x290011140111001 L c)))]
  exact I
 ·refine Ax h λ z r m b3 cX V j=>?_;clear h;subst V
  rw[w,Nat.sub_self] at j
  refine a7 (fw (k:=11) (cI λ W=>bB _ (J [_] 0x20880b104440048290861 L Y W))) λ n X=>?_;subst X
  exact f3 (YX t d u (H.fr r id id) j λ ak M=>gm (q _))
end
end
section
theorem ints_of:∀l:List Int,qp (l.map .int)=some l
 |[]=>rfl
 |x::l=>by
  show(qp _).map _=_
  rw[ints_of l];rfl
theorem GU{e:U}{aZ pe:Nat}{ls:List (List Nat)}{aV:List E}{nm:List Nat}{B:List E}:∀(b:List Nat)(a:List E),a.length=b.length->(∀(i n:Nat),b[i]?=some n->∃u w,a[i]?=some u/\hV ls aV (dQ n)=some w/\gF e u=.lst [.int n]/\gF e w=.lst [.int n])->mZ e ls aV (b.map dQ) a=some true
 |[],[],_,_=>rfl
 |[],_::_,h,_=>nomatch h
 |_::_,[],h,_=>nomatch h
 |n::b,u::a,c,h=>by
  refine tN (h 0 n rfl) λ lu w d f g j=>?_
  obtain rfl:=ck d
  show(match hV ls aV _ with|none=>some _|some w=>match gj 10 _ _,mZ e ls aV _ a with|some x,some H=>some _|_,_=>none)=_
  rw[f]
  show(match gj 10 _ _,mZ e ls aV _ a with|some x,some H=>some _|_,_=>none)=_
  rw[g,j,GU (aZ:=aZ) (pe:=pe) (nm:=nm) (B:=B) b a (Nat.succ.inj c) λ i=>h (i+1)]
  show some ((n:Int)==n&&true&&true)=_
  rw[eC];rfl
theorem GW:∀{nm:List Nat}{B:List E}{i n:Nat},(∀H∈nm,H<1000)->nm.Nodup->B.length=nm.length->nm[i]?=some n->hV (nm.map dQ) B (dQ n)=B[i]?
 |[],_,_,_,_,_,_,h=>by simp at h
 |_::_,[],_,_,_,_,h,_=>nomatch h
 |m::nm,v::B,0,n,a,b,c,h=>by
  obtain rfl:=ck h
  show(match dQ m==dQ m with|true=>some v|false=>_)=_
  rw[eC];rfl
 |m::nm,v::B,i+1,n,a,b,c,h=>by
  have Y:n∈nm:=j_ h
  show(match dQ n==dQ m with|true=>some v|false=>hV _ B _)=_
  exact(rwl (fH.mpr λ D=>(λ d=>(sq.mp b).1 ((rwr d Y)):n≠m) (zJ (a n (gT _ Y)) (a m f9 ..) D)) (GW (λ H b_=>a H (gT _ b_)) (sq.mp b).2 (Nat.succ.inj c) h))
theorem pf:∀(x:bq)(g:Nat),gB x g->(er x).Nodup
 |.one _,_,_=>List.nodup_nil
 |.place _,_,_=>List.nodup_nil
 |.again _ _,_,_=>List.nodup_nil
 |.nil,_,_=>List.nodup_nil
 |.rounds x _ _,g,h=>pf x g h.2.2.2
 |.group n r b,g,⟨C,_,I⟩=>by
  have V:=pf r _ I
  rcases b with _|_
  case false=>exact V
  case true=>exact sq.mpr ⟨λ D=>by have:=(qy r _ I n D).1;exact bB _ (J [_,_] 0x82201022088a00042228081 L (aL C) this),V⟩
 |.d4 ab aT,g,h=>List.nodup_append.mpr ⟨pf ab g h.2.1,pf aT _ h.2.2,λ a c b e d=>by have:=(qy ab g h.2.1 a c).2;have:=(qy aT _ h.2.2 b e).1;lia⟩
 |.atomic r,g,h=>pf r g h.2
 |.look x none _,g,h=>pf x g h.2
 |.look x (some _) _,g,h=>pf x g h.2
 |.cons x r,g,h=>List.nodup_append.mpr ⟨pf x g h.2.1,pf r _ h.2.2,λ a c b e d=>by have:=(qy x g h.2.1 a c).2;have:=(qy r _ h.2.2 b e).1;lia⟩
theorem GR{e:U}{r:Nat}{n:Nat}(h:e.get r=some (.list [.int n])\/e.get r=some (.flist [.int n])):gF e (.ref r)=.lst [.int n]:=by
 unfold gF
 rcases h with h|h<;>simp only[h]
theorem abU{e:U}{aZ pe:Nat}{nm:List Nat}(C:kU e aZ nm)(I:kU e pe nm)(b:∀H∈nm,H<1000)(c:nm.Nodup):jO e (.ref aZ) (.ref pe)=some true:=by
 refine xU C λ z B d f g=>?_
 refine xU I λ z aV gs h k=>?_
 unfold jO
 rw[(by unfold ic;simp only[d]:ic e (.ref aZ)=some (nm.map dQ,B)),(by unfold ic;simp only[gs]:ic e (.ref pe)=some (nm.map dQ,aV))]
 show(match(nm.map _).length==(nm.map _).length with|true=>mZ e _ aV _ B|false=>some _)=_
 rw[eC]
 refine GU (aZ:=aZ) (pe:=pe) (nm:=nm) (B:=B) nm B f λ i n a=>?_
 refine xV (g i n a) λ r a0 z z l=>?_
 refine xV (k i n a) λ j m z z o=>?_
 exact cu _ _ ⟨a0,(GW b c h a).trans m,GR l,GR o⟩
section
variable{e:U}{k:bl}
theorem adu{R:dp}{c:Nat}(Z:c<3125)(q:∀T,T.length<=4->fU T->k (.lst (T.map λ j=>E.str [j])) e):
  (bu .Mod (.int (c:Nat)) (.int 5) λ r=>(cJ cp R (.typ .range) [r] λ t=>(h' t (λ l u=>(u true)) (λ l w=>(bu .FloorDiv (.int (c:Nat)) (.int 5) λ y=>(bu .Pow (.int 5) l λ A=>(bu .FloorDiv y A λ B=>(bu .Mod B (.int 5) λ F=>(item (.str [97,98,97,65,10]) F λ G=>(w G))))))) k))) e:=by
 obtain⟨m,a,K⟩:∃m:Nat,m<5/\(c:Int).fmod 5=m:=by
  refine bc (G1 (x:=c) (m:=5) (by decide)) λ C I=>?_
  exact⟨((c:Int).fmod 5).toNat,by lia,by lia⟩
 refine df ?_ (qS (v:=.rng 0 m 1) (xm (js (J [_] 0x1dcd650018640144111001 L a))) ?_)
 ·show(if(5:Int)=0 then none else some _)=_
  rw[a8 (by decide),K]
 refine sG (zu (J [_] 0x1dcd650018640144111001 L a)) (λ i d M=>M=e/\∃T:List _,T.length=i/\fU T/\d=T.map λ j=>E.str [j]) ⟨rfl,[],rfl,λ z h=>(nomatch h),rfl⟩ (λ z z z z=>trivial) (λ i x d N g_ O f Q=>?_) λ d N f=>?_
 ·obtain⟨rfl,T,b,g,rfl⟩:=f
  obtain⟨n,rfl⟩:=z3 O
  refine⟨by rw[cM];exact J [_,_,_] 0x7a120028ca020446004c50944111001 L a (aL b) n,?_⟩
  obtain⟨s,S,U,cf⟩:∃s:Int,s≠0/\dU s=true/\mY _ _ _=some _:=by
   exact Dq (P:=λ i=>∃s:Int,s≠0/\dU s=true/\mY .Pow (.int 5) (.int i)=some (.int s)) (Nat.lt_trans n a) ⟨1,by decide,rfl,by kernel_rfl⟩ ⟨5,by decide,rfl,by kernel_rfl⟩ ⟨25,by decide,rfl,by kernel_rfl⟩ ⟨125,by decide,rfl,by kernel_rfl⟩ ⟨625,by decide,rfl,by kernel_rfl⟩
  refine df rfl (df cf (df (v:=.int (((c:Int).fdiv 5).fdiv s)) ?_ ?_))
  ·show(if s=0 then none else if dU s=true then some _ else none)=_
   rw[a8 S,aU U]
  generalize ((c:Int).fdiv 5).fdiv s=D
  obtain⟨o,p,V⟩:∃o:Nat,o<5/\D.fmod 5=o:=by
   exact⟨(D.fmod 5).toNat,by lia,by lia⟩
  have W:=by
   exact Dq (P:=λ o=>∃j,[97,98,97,65,10][o]?=some j/\(j=97\/j=98\/j=65\/j=10)) p ⟨_,rfl,.inl rfl⟩ ⟨_,rfl,.inr (.inl rfl)⟩ ⟨_,rfl,.inl rfl⟩ ⟨_,rfl,.inr (.inr (.inl rfl))⟩ ⟨_,rfl,.inr (.inr (.inr rfl))⟩
  refine a' W λ j X Y=>?_
  refine df (v:=.int o) ?_ (kk (J [_] 0x1dcd650018640144111001 L p) X (Q _ _ ⟨rfl,T++[j],?_,λ H b_=>?_,?_⟩))
  ·show(if(5:Int)=0 then none else some _)=_
   rw[a8 (by decide),V]
  ·rw[bR,b];rfl
  ·rcases fv.mp b_ with b_|b_
   ·exact g H b_
   ·obtain rfl:=fu.mp b_;exact Y
  ·rw[e8];rfl
 ·obtain⟨rfl,T,b,g,rfl⟩:=f
  rw[xo] at b
  exact q T (J [_,_] 0x82280850944111001 L a (aL b)) g
theorem join_one:∀T:List Nat,ig [] (T.map λ j=>[j])=T
 |[]=>rfl
 |[x]=>rfl
 |x::H::T=>by
  show[x]++[]++ig [] ((H::T).map λ j=>[j])=_
  rw[join_one _];rfl
end
end
theorem eu.Hp{S:Nat->Prop}{e M:U}{s a g b:Nat}(h:eu e s a g b)(d:Fr S e M)(c:¬S s):eu M s a g b:=h.same (d7 h.1 d.next) (d.same _ h.1 c)
theorem YU{n:Nat}{l:List Int}{e:U}{A:bl}(V:l.length<=63)(Y:90<=n)(q:∀M,A (.bool true) M):call (n+1) 126 [.lst (l.map .int)] A e:=by
 have F:(l.map E.int).length<=c7:=by rw[cM];exact ah V (ae rfl)
 have W:cut (l.map E.int) (none.getD 0) (some 30)=(l.take 30).map E.int:=by
  show((l.map _).take 30).drop 0=_
  rw[mU,List.map_take]
 refine aH (ad1 ..) (dw.lst.slice F (by kernel_rfl) (by kernel_rfl) (dV:=none) (lu:=some 30) (dw.lst.slice F (by kernel_rfl) (by kernel_rfl) (dV:=none) (lu:=some 30) ?_))
 rw[W]
 refine lL (v:=.int (l.take 30).sum) ?_ ?_
 ·show(qp _).map _=_
  rw[ints_of];rfl
 generalize (l.take 30).sum=j
 refine df (v:=.int (j.fmod 997)) ?_ ?_
 ·show(if 997=0 then none else some _)=_
  rw[a8 (by decide)]
 generalize j.fmod _=j
 refine e2 (cn (n:=5) (ae rfl)) (e2 (cn (n:=3) (by decide)) ?_)
 have X:eu (e.alloc (.list [.lst ((l.take 30).map _),.int 0,.int j,.int 0,.int 0])) _ (0+(3*nS 3+1)+1+1) 0 0:=⟨eo _,_,j,0,sj (by kernel_rfl),λ v d=>by refine a' (nL.mp d) λ i z Z=>?_;subst Z;exact⟨i,rfl⟩,by rw[cM,nI];exact J [_] 0x6410c80f0881 L (Nat.min_le_left _ _),fR ..⟩
 refine a7 (⟨n-1,cB (d2 _ _) (di (cI λ a=>bB _ (J [_] 0x2088011044400482d0861 L Y a)))⟩:∃m,n=m+1) λ rL G=>?_
 have s:=X.alloc (.list [.str [],.str [],.str [105]])
 generalize Yg:e.alloc _=eB at*
 have key:∀(k:bl),(∀f M,eu _ _ _ 0 0->k _ _)->call n _ _ (λ o=>item _ o k) _:=λ k t=>by
  rw[G]
  refine vj (l:=3) (fR ..) (λ a=>bB _ (J [_,_] 0x208804284a111001 L (aL (by rw[<-Yg];rfl:eB.next=e.next+1).symm) (aL a))) (eo _) rfl (ae rfl) (by decide) s (.refl _ _) λ m v I d C z=>?_
  have:∃f,v=.str (eA f):=by
   match m,d with
   |0,d=>obtain rfl:=ck d;exact⟨false,rfl⟩
   |1,d=>obtain rfl:=ck d;exact⟨false,rfl⟩
   |2,d=>obtain rfl:=ck d;exact⟨true,rfl⟩
  refine a7 this λ f dZ=>?_;clear this;clear d;subst dZ
  exact t f I C
 refine key _ λ f I s=>df (v:=.int 625) (by kernel_rfl) (df (v:=.int 3125) (by kernel_rfl) ?_)
 have YS:∀(k:bl),(∀(c:Nat) M,c<3125->eu _ _ _ 0 0->k _ _)->call n _ [.ref e.next,.int _] k _:=λ k t=>by
  rw[G]
  exact nT s (by decide) λ c K u w z=>t c K (dR.mp u) w
 refine YS _ λ c K u w=>u2 (adu u λ T bo ec=>?_)
 rw[show(T.map _)=(T.map _).map _ by rw[List.map_map];rfl]
 refine zw (by rw[join_one,cM];show T.length+T.length*1<=8000000;lia) ?_
 rw[join_one]
 refine vm (aag 3) (cI λ a=>bB _ (J [_] 0x41100a2188410044400482d0861 L Y a)) w λ x g b c9 r N z=>BG (.inl rfl) (xT r.top λ eV O P n7 Iu=>e_ eV λ hz y X9=>?_);have p:=r.wf
 have Q:g=dX x:=cB (J [_,_] 5635164930177 L (aL p.2)) (J [_,_] 5635169060865 L (aL p.2.symm))
 refine(qN x).1 0 [] n _ _ _ p.1 (J [_] 0x7082190020038410c81 L y) (J [_] 0x61a8010640697818c81 L hz) (λ H b_=>nomatch b_) (bw 0) (cI λ a=>bB _ (J [_,_] 0x20880111401110010b44328482d0861 L Y O a)) ⟨eo _,[],fR ..,rfl,λ i m h=>by simp at h⟩ λ f6 k9 gu=>?_
 refine Vx p.1 n7 Iu r.abL y X9 (J [_] 42953028503681 L P) (cI λ a=>bB _ (J [_,_] 0x208805305a2004440046229882d0861 L Y P a)) (cI λ a=>bB _ (J [_,_] 0x20880411401110010b44328482d0861 L Y O a)) (J [_] 0x61a8010640697818c81 L hz) (J [_,_] 0x1e848083280850e97818c81 L hz (jZ x [])) λ lB ba bM pe R bG dz B gK Cy=>?_
 have S:=((N.alloc _).Hp gu (e' N.1)).Hp R id
 refine d_ (gU B (v:=.int (dX x)) (by kernel_rfl) (S.sQ (bg ?_ (iW (gU B (v:=.ref pe) (by kernel_rfl) (bg ?_ (iW (br ?_))))))))
 ·show some (!dX x==(g:Int))=_
  rw[Q,eC];rfl
 ·show(jO _ _ _).map _=_
  rw[abU Cy (k9.fr R λ z z D=>D) (λ H b_=>by have:=(qy x 0 p.1 H b_).2;exact J [_,_] 0x1f4086111400200402878410c81 L y this) (pf x 0 p.1)]
  rfl
 ·exact Y2 r bo ec (cI λ a=>bB _ (J [_] 0x82200a421844400482d0861 L Y a)) S ⟨⟨_,by rw[Q];exact B⟩,gK,bG,dz⟩ q
theorem agE(l:List Int)(a:l.length<=63):Run cp 100 126 [.lst (l.map .int)] (λ v z=>v=.bool true) ⟨0,λ z=>none⟩:=YU a (ae rfl) λ z=>rfl
end
end
end Mine.Internal
theorem PySem.Challenge.cw_nz0206_01_holds : PySem.Challenge.rw_nz0206_01.Holds :=
 Mine.Internal.agu Mine.Internal.agE
