import PyProof.Rows.All
import Wide.All
import OpenK.AllK
import Wide.FinOn
import Lean
import PySem.Challenge.RW_sa0047_01
set_option Elab.async false
set_option maxRecDepth 100000
set_option maxHeartbeats 4000000
set_option genInjectivity false
set_option compiler.extract_closed false
set_option genSizeOf false
set_option genSizeOfSpec false
set_option linter.all false
-- The law sa0047-01, joined from 185 texts by programs of its author, which also shortened the names and dropped the spaces.
-- In order: a small program logic over PySem's wpAny (values V, a memory of cells O, trees X and Y read by a checker that the kernel runs),
-- plain facts (congruence closure, undo, least costs, turns), one contract for each Python function, exceptions, the head, the end.
namespace Mine.Internal
open PySem PySem.Calls PyProof.Rows PySem.W
theorem Q4{p:Prop}(h:p:=by assumption):p:=h
theorem Q5{p:Prop}(h:p:=by intros;rfl):p:=h
theorem Q6{p:Prop}(h:p:=by simp+arith only<;>exact af):p:=h
@[reducible] def mV:Lean.Syntax:=Q6._auto_1
@[reducible] def ba:Lean.Syntax:=Q4._auto_1
@[reducible] def bF:Lean.Syntax:=Q5._auto_1
-- For the compiled size alone: the rule drops source positions (so no ranges are stored) and puts noncomputable before def and abbrev. It ends with the namespace.
open Lean in
local macro_rules (kind:=Lean.Parser.Command.declaration)|s=>if s.getPos?.isNone then throw .unsupportedSyntax else let s:=s.rewriteBottomUp (·.setInfo .none);return if s[1][0].getAtomVal∈["def","abbrev"] then s.setArg 0 (s[0].setArg 4 (.node .none `null #[.node .none `Lean.Parser.Command.noncomputable #[.atom .none "noncomputable"]])) else s
abbrev az:=@List.mem_cons_of_mem
abbrev ag:=@wpAny_bind
abbrev aQ:=@List.mem_cons_self
abbrev aG:=@Option.some.inj
abbrev aA:=@Nat.le_of_eq
abbrev aC:=@Nat.le_trans
abbrev bj:=@Heap.get?_push_of_some
abbrev bq:=@List.mem_append_right
abbrev aD:=@wpAny_pure
abbrev bJ:=@List.getElem?_eq_getElem
abbrev bV:=@List.getElem?_eq_some_iff
abbrev aT:=@Nat.le_refl
abbrev bN:=@List.mem_of_getElem?
abbrev cu:=@List.getElem?_append_left
abbrev ai:=@if_neg
abbrev bW:=@Bool.and_eq_true_iff
abbrev bM:=@List.length_append
abbrev ao:=@if_pos
abbrev bz:=@List.map_append
abbrev cg:=@Heap.get?_push_size
abbrev b5:=@List.mem_singleton
abbrev bU:=@List.length_cons
abbrev bZ:=@List.append_nil
abbrev bK:=@List.mem_cons
abbrev dB:=@List.sublist_cons_self
abbrev bI:=@Nat.ne_of_lt
abbrev bg:=@congrArg
abbrev bT:=@List.mem_map
abbrev d6:=@List.getElem?_set_ne
abbrev cO:=@List.mem_append
abbrev dq:=@Nat.le_add_right
abbrev dZ:=@Nat.lt_of_lt_of_le
abbrev fF:=@Nat.le_of_ble_eq_true
abbrev dP:=@List.length_set
abbrev eX:=@List.getElem?_map
abbrev eF:=@List.nodup_cons
abbrev eH:=@List.length_map
abbrev fj:=@List.perm_middle
abbrev fk:=@List.lookup_cons
abbrev eW:=@List.length_zip
abbrev dH:=@Heap.lt_size
abbrev f_:=@List.getElem_mem
abbrev fc:=@decide_eq_true
abbrev eJ:=@wpAny_holding
abbrev eV:=@List.map_cons
abbrev jy:=@Heap.get?_update_other
abbrev hO:=@Nat.le_succ_of_le
abbrev eG:=@List.map_map
abbrev ju:=@List.getElem?_eq_none
abbrev jx:=@Heap.get?_update_self
abbrev gE:=@decide_eq_false
abbrev iZ:=@Heap.SameBut.update
abbrev eU:=@Nat.le_of_lt
abbrev jt:=@List.mem_append_left
abbrev gV:=@wpAny_call_entry
abbrev iT:=@Nat.lt_of_le_of_ne
abbrev gG:=@List.mem_range
abbrev l9:=@List.getElem?_append_right
abbrev j7:=@Array.getElem?_toList
abbrev eT:=@Nat.zero_le
abbrev kR:=@List.getElem?_set_self
abbrev lU:=@Option.isSome_iff_exists
abbrev jo:=@Obj.data_mapFields
abbrev jr:=@Nat.lt_of_le_of_lt
abbrev gH:=@List.cons.inj
abbrev j0:=@List.map_congr_left
abbrev iY:=@List.getElem_zip
abbrev iX:=@List.mem_filter
abbrev jp:=@Nat.succ_le_succ
abbrev jq:=@Nat.lt_succ_self
abbrev jv:=@List.all_eq_true
abbrev kT:=@List.Sublist.append
abbrev ma:=@List.Perm.append_left
abbrev mx:=@wpAny_callSpecial?_slot
abbrev fA:=@beq_iff_eq
abbrev iU:=@Nat.add_le_add
abbrev js:=@List.nil_append
abbrev jG:=@wpAny_execs_cons
abbrev hL:=@Nat.ne_of_gt
abbrev j6:=@Bool.and_eq_true
abbrev mh:=@Array.length_toList
abbrev kg:=@wpAny_newObj_type
abbrev kt:=@of_decide_eq_true
abbrev kS:=@List.append_assoc
abbrev lh:=@wpAny_setField_rec
abbrev lY:=@List.pairwise_cons
abbrev ng:=@Heap.get?_none_of_le
abbrev li:=@wpAny_loadPart_at
abbrev l8:=@List.getElem?_set
abbrev l_:=@List.Sublist.refl
abbrev nk:=@F.excBase_Exception
abbrev iy:=@Nat.le_succ
abbrev l6:=@List.getElem_map
abbrev jY:=@Nat.lt_irrefl
abbrev kW:=@Heap.size_push
abbrev qO:=@Nat.add_sub_cancel_left
abbrev lZ:=@List.length_nil
abbrev qN:=@Nat.le_of_succ_le_succ
abbrev tC:=@List.perm_append_comm_assoc
abbrev ji:=@Prod.mk.inj
abbrev iB:=@wpAny_call
abbrev tI:=@Array.getElem?_eq_some_iff
abbrev qT:=@List.set_append_right
abbrev qW:=@List.mem_iff_getElem?
abbrev tK:=@Array.getElem?_eq_getElem
abbrev mS:=@codeAny_builtin
abbrev m8:=@List.sum_append
abbrev qP:=@Nat.add_le_add_right
abbrev rM:=@wpAny_assignInOrder_more
abbrev lX:=@List.sum_cons
abbrev tD:=@List.filterMap_cons_some
abbrev qQ:=@Nat.add_le_add_left
abbrev qV:=@List.mem_map_of_mem
abbrev rm:=@Bool.or_eq_true_iff
abbrev mw:=@wpAny_setField
abbrev oK:=@beq_self_eq_true
abbrev oS:=@Nat.le_of_not_lt
abbrev oU:=@List.not_mem_nil
abbrev ki:=@sizeLine_eq
abbrev v8:=@List.eq_nil_of_length_eq_zero
abbrev lV:=@Nat.succ_pos
abbrev lW:=@Nat.sub_self
abbrev tJ:=@Array.getElem?_eq_none
abbrev oR:=@Nat.min_le_left
abbrev m_:=@Int.ofNat_inj
abbrev ty:=@Obj.isFreed_of_fields
abbrev pv:=@wpAny_setState_of
abbrev gS:=@Ne.symm
abbrev qU:=@List.nodup_append
abbrev rd:=@Heap.SameBut.refl
abbrev rL:=@wpAny_loadName_local
abbrev tz:=@Nat.pow_le_pow_right
abbrev tA:=@Name_function_global
abbrev qX:=@List.length_take
abbrev qY:=@List.isEmpty_iff
theorem af{a b:Nat}(e:autoParam (Nat.ble a b=true) bF):a<=b:=fF e
theorem aY{α β:Type}{l:List α}{f:α->β}:(l.map f).length=l.length:=eH f
theorem cq{α:Type}{a b c:List α}:a++b++c=a++(b++c):=kS a b c
theorem gN{α:Type}{l r:List α}{a:α}:(l++a::r)[l.length]?=some a:=by rw[l9 (aT _),lW];rfl
theorem jR{α β:Type}{f:α->β}{l:List α}{i:Nat}{x:α}(e:l[i]?=some x):(l.map f)[i]?=some (f x):=by rw[eX,e];rfl
theorem bH{α β:Type}{l:List α}{f:α->β}{a b:Nat}(h:l.length<=a)(e:autoParam (Nat.ble a b=true) bF):(l.map f).length<=b:=by rw[eH];exact aC h (fF e)
section
inductive aV{α β:Type}(p:α->β->Prop):Prop
 |mk(x:α)(y:β)(h:p x y)
inductive cL{α β γ:Type}(p:α->β->γ->Prop):Prop
 |mk(x:α)(y:β)(z:γ)(h:p x y z)
inductive rf{α β γ δ:Type}(p:α->β->γ->δ->Prop):Prop
 |mk(x:α)(y:β)(z:γ)(u:δ)(h:p x y z u)
inductive wb{α β γ δ ε:Type}(p:α->β->γ->δ->ε->Prop):Prop
 |mk(x:α)(y:β)(z:γ)(u:δ)(v:ε)(h:p x y z u v)
inductive oY{α β γ δ ε ζ:Type}(p:α->β->γ->δ->ε->ζ->Prop):Prop
 |mk(x:α)(y:β)(z:γ)(u:δ)(v:ε)(w:ζ)(h:p x y z u v w)
inductive Rl{α β γ δ ε ζ η:Type}(p:α->β->γ->δ->ε->ζ->η->Prop):Prop
 |mk(x:α)(y:β)(z:γ)(u:δ)(v:ε)(w:ζ)(r:η)(h:p x y z u v w r)
inductive zN{α β γ δ ε ζ η θ:Type}(p:α->β->γ->δ->ε->ζ->η->θ->Prop):Prop
 |mk(x:α)(y:β)(z:γ)(u:δ)(v:ε)(w:ζ)(r:η)(q:θ)(h:p x y z u v w r q)
inductive br(a b c:Prop):Prop
 |mk(p1:a)(p2:b)(p3:c)
inductive dQ(a b c d:Prop):Prop
 |mk(p1:a)(p2:b)(p3:c)(p4:d)
inductive gU(a b c d e:Prop):Prop
 |mk(p1:a)(p2:b)(p3:c)(p4:d)(p5:e)
inductive wg(a b c d e f:Prop):Prop
 |mk(p1:a)(p2:b)(p3:c)(p4:d)(p5:e)(p6:f)
inductive o9(a b c d e f g:Prop):Prop
 |mk(p1:a)(p2:b)(p3:c)(p4:d)(p5:e)(p6:f)(p7:g)
inductive tL(a b c d e f g h:Prop):Prop
 |mk(p1:a)(p2:b)(p3:c)(p4:d)(p5:e)(p6:f)(p7:g)(p8:h)
inductive Rm(a b c d e f g h i:Prop):Prop
 |mk(p1:a)(p2:b)(p3:c)(p4:d)(p5:e)(p6:f)(p7:g)(p8:h)(p9:i)
universe u
@[elab_as_elim] theorem Z{α:Sort u}{a b:α}{motive:α->Prop}(h:a=b)(q:motive b):motive a:=by subst h;exact q
section
variable{a b c d x k p q r s:Nat}
theorem aF(h:x<=a)(e:autoParam (Nat.ble a b=true) bF):x<=b:=aC h (fF e)
theorem cV(h:x<=a)(e:autoParam (Nat.ble (a+k) b=true) bF):x+k<=b:=aC (qP h k) (fF e)
theorem jN(h:x<=a)(e:autoParam (Nat.ble (k+a) b=true) bF):k+x<=b:=aC (qQ h k) (fF e)
theorem cN(h:x+k<=a)(e:autoParam (Nat.ble a b=true) bF):x<=b:=aC (aC (dq x k) h) (fF e)
theorem fT(e:autoParam (c<=d) mV):c<=d:=e
theorem sr(e:autoParam (c=d) mV):c=d:=e
theorem aE(h:a<=b)(e:autoParam (c+b<=d+a) mV):c<=d:=Nat.le_of_add_le_add_right (aC e (qQ h d))
theorem aK(h:a<=b)(i:p<=q)(e:autoParam (c+(b+q)<=d+(a+p)) mV):c<=d:=aE (iU h i) e
theorem dL(h:a<=b)(i:p<=q)(j:r<=s)(e:autoParam (c+(b+q+s)<=d+(a+p+r)) mV):c<=d:=aE (iU (iU h i) j) e
theorem uO(h:a<=b)(e:autoParam (b+1<=a) mV):False:=jY _ (aC e h)
theorem Cr(h:a<=b)(i:p<=q)(e:autoParam (b+q+1<=a+p) mV):False:=uO (iU h i) e
theorem ij(h:a=b)(e:autoParam (c+b=d+a) mV):c=d:=by subst h;exact Nat.add_right_cancel e
theorem cw(h:a<b+1)(n:¬a=b):a<b:=iT (Nat.le_of_lt_succ h) n
theorem Cl(h:a<=b)(n:¬b=a):a<b:=iT h λe=>n e.symm
theorem jM(h:¬a=b):¬(a:Int)=b:=λe=>h (Int.ofNat.inj e)
end
theorem aI{t0:Type}{p0:t0->Prop}{G:Prop}(h:∃x0,p0 x0)(f:∀x0,p0 x0->G):G:=by obtain⟨x0,h0⟩:=h;exact f x0 h0
theorem a_{G:Prop}(h:p0/\p1)(f:p0->p1->G):G:=by obtain⟨h0,h1⟩:=h;exact f h0 h1
theorem ac{t0:Type}{p0:t0->Prop}{p1:t0->Prop}{G:Prop}(h:∃x0,p0 x0/\p1 x0)(f:∀x0,p0 x0->p1 x0->G):G:=by obtain⟨x0,h0,h1⟩:=h;exact f x0 h0 h1
theorem ad{t0:Type}{p0:t0->Prop}{p1:t0->Prop} x0(h0:p0 x0)(h1:p1 x0):∃x0,p0 x0/\p1 x0:=⟨x0,h0,h1⟩
theorem gv{G:Prop}(h:p0/\p1/\p2)(f:p0->p1->p2->G):G:=by obtain⟨h0,h1,h2⟩:=h;exact f h0 h1 h2
theorem bt(h0:p0)(h1:p1)(h2:p2):p0/\p1/\p2:=⟨h0,h1,h2⟩
theorem fv{t0:Type}{p0:t0->Prop}{p1:t0->Prop}{p2:t0->Prop}{G:Prop}(h:∃x0,p0 x0/\p1 x0/\p2 x0)(f:∀x0,p0 x0->p1 x0->p2 x0->G):G:=by obtain⟨x0,h0,h1,h2⟩:=h;exact f x0 h0 h1 h2
theorem gx{t0:Type}{p0:t0->Prop}{p1:t0->Prop}{p2:t0->Prop} x0(h0:p0 x0)(h1:p1 x0)(h2:p2 x0):∃x0,p0 x0/\p1 x0/\p2 x0:=⟨x0,h0,h1,h2⟩
theorem lG{t0 t1:Type}{p0:t0->t1->Prop}{p1:t0->t1->Prop}{G:Prop}(h:∃x0,∃x1,p0 x0 x1/\p1 x0 x1)(f:∀x0,∀x1,p0 x0 x1->p1 x0 x1->G):G:=by obtain⟨x0,x1,h0,h1⟩:=h;exact f x0 x1 h0 h1
theorem iI{G:Prop}(h:p0/\p1/\p2/\p3)(f:p0->p1->p2->p3->G):G:=by obtain⟨h0,h1,h2,h3⟩:=h;exact f h0 h1 h2 h3
theorem dm(h0:p0)(h1:p1)(h2:p2)(h3:p3):p0/\p1/\p2/\p3:=⟨h0,h1,h2,h3⟩
theorem qd{t0 t1 t2:Type}{p0:t0->t1->t2->Prop}{p1:t0->t1->t2->Prop}{G:Prop}(h:∃x0,∃x1,∃x2,p0 x0 x1 x2/\p1 x0 x1 x2)(f:∀x0,∀x1,∀x2,p0 x0 x1 x2->p1 x0 x1 x2->G):G:=by obtain⟨x0,x1,x2,h0,h1⟩:=h;exact f x0 x1 x2 h0 h1
theorem qh{t0 t1 t2:Type}{p0:t0->t1->t2->Prop}{p1:t0->t1->t2->Prop} x0 x1 x2(h0:p0 x0 x1 x2)(h1:p1 x0 x1 x2):∃x0,∃x1,∃x2,p0 x0 x1 x2/\p1 x0 x1 x2:=⟨x0,x1,x2,h0,h1⟩
theorem iF{t0 t1 t2:Type}{p0:t0->t1->t2->Prop}{p1:t0->t1->t2->Prop}{p2:t0->t1->t2->Prop}{G:Prop}(h:∃x0,∃x1,∃x2,p0 x0 x1 x2/\p1 x0 x1 x2/\p2 x0 x1 x2)(f:∀x0,∀x1,∀x2,p0 x0 x1 x2->p1 x0 x1 x2->p2 x0 x1 x2->G):G:=by obtain⟨x0,x1,x2,h0,h1,h2⟩:=h;exact f x0 x1 x2 h0 h1 h2
theorem MI{t0 t1:Type}{p0:t0->t1->Prop}{p1:t0->t1->Prop}{p2:t0->t1->Prop}{p3:t0->t1->Prop}{G:Prop}(h:∃x0,∃x1,p0 x0 x1/\p1 x0 x1/\p2 x0 x1/\p3 x0 x1)(f:∀x0,∀x1,p0 x0 x1->p1 x0 x1->p2 x0 x1->p3 x0 x1->G):G:=by obtain⟨x0,x1,h0,h1,h2,h3⟩:=h;exact f x0 x1 h0 h1 h2 h3
theorem vf{t0 t1:Type}{p0:t0->t1->Prop}{p1:t0->t1->Prop}{p2:t0->t1->Prop}{p3:t0->t1->Prop} x0 x1(h0:p0 x0 x1)(h1:p1 x0 x1)(h2:p2 x0 x1)(h3:p3 x0 x1):∃x0,∃x1,p0 x0 x1/\p1 x0 x1/\p2 x0 x1/\p3 x0 x1:=⟨x0,x1,h0,h1,h2,h3⟩
theorem qe{t0:Type}{p1:t0->Prop}{G:Prop}(h:p0/\∃x0,p1 x0)(f:p0->∀x0,p1 x0->G):G:=by obtain⟨h0,x0,h1⟩:=h;exact f h0 x0 h1
theorem iH{t0:Type}{p1:t0->Prop}{p2:t0->Prop}{G:Prop}(h:p0/\∃x0,p1 x0/\p2 x0)(f:p0->∀x0,p1 x0->p2 x0->G):G:=by obtain⟨h0,x0,h1,h2⟩:=h;exact f h0 x0 h1 h2
theorem iG{t0 t1:Type}{p0:t0->Prop}{p1:t0->Prop}{p2:t0->t1->Prop}{G:Prop}(h:∃x0,p0 x0/\p1 x0/\∃x1,p2 x0 x1)(f:∀x0,p0 x0->p1 x0->∀x1,p2 x0 x1->G):G:=by obtain⟨x0,h0,h1,x1,h2⟩:=h;exact f x0 h0 h1 x1 h2
theorem lH{t0 t1:Type}{p0:t0->Prop}{p1:t0->Prop}{p2:t0->t1->Prop} x0(h0:p0 x0)(h1:p1 x0) x1(h2:p2 x0 x1):∃x0,p0 x0/\p1 x0/\∃x1,p2 x0 x1:=⟨x0,h0,h1,x1,h2⟩
theorem sK{t0 t1 t2:Type}{p0:t0->t1->t2->Prop}{p1:t0->t1->t2->Prop}{p2:t0->t1->t2->Prop}{p3:t0->t1->t2->Prop}{G:Prop}(h:∃x0,∃x1,∃x2,p0 x0 x1 x2/\p1 x0 x1 x2/\p2 x0 x1 x2/\p3 x0 x1 x2)(f:∀x0,∀x1,∀x2,p0 x0 x1 x2->p1 x0 x1 x2->p2 x0 x1 x2->p3 x0 x1 x2->G):G:=by obtain⟨x0,x1,x2,h0,h1,h2,h3⟩:=h;exact f x0 x1 x2 h0 h1 h2 h3
theorem ve{t0 t1 t2:Type}{p0:t0->t1->t2->Prop}{p1:t0->t1->t2->Prop}{p2:t0->t1->t2->Prop}{p3:t0->t1->t2->Prop} x0 x1 x2(h0:p0 x0 x1 x2)(h1:p1 x0 x1 x2)(h2:p2 x0 x1 x2)(h3:p3 x0 x1 x2):∃x0,∃x1,∃x2,p0 x0 x1 x2/\p1 x0 x1 x2/\p2 x0 x1 x2/\p3 x0 x1 x2:=⟨x0,x1,x2,h0,h1,h2,h3⟩
theorem eC{p0:t0->t1->Prop}{G:Prop}(h:aV λx0 x1=>p0 x0 x1)(f:∀x0,∀x1,p0 x0 x1->G):G:=by obtain⟨x0,x1,h0⟩:=h;exact f x0 x1 h0
theorem bS{p0:t0->t1->Prop}{p1:t0->t1->Prop}{G:Prop}(h:aV λx0 x1=>p0 x0 x1/\p1 x0 x1)(f:∀x0,∀x1,p0 x0 x1->p1 x0 x1->G):G:=by obtain⟨x0,x1,h0,h1⟩:=h;exact f x0 x1 h0 h1
theorem cP{p0:t0->t1->Prop}{p1:t0->t1->Prop} x0 x1(h0:p0 x0 x1)(h1:p1 x0 x1):aV λx0 x1=>p0 x0 x1/\p1 x0 x1:=⟨x0,x1,h0,h1⟩
theorem bX{p0:t0->t1->Prop}{p1:t0->t1->Prop}{p2:t0->t1->Prop}{G:Prop}(h:aV λx0 x1=>br (p0 x0 x1) (p1 x0 x1) (p2 x0 x1))(f:∀x0,∀x1,p0 x0 x1->p1 x0 x1->p2 x0 x1->G):G:=by obtain⟨x0,x1,h0,h1,h2⟩:=h;exact f x0 x1 h0 h1 h2
theorem fX{p0:t0->t1->Prop}{p1:t0->t1->Prop}{p2:t0->t1->Prop} x0 x1(h0:p0 x0 x1)(h1:p1 x0 x1)(h2:p2 x0 x1):aV λx0 x1=>br (p0 x0 x1) (p1 x0 x1) (p2 x0 x1):=⟨x0,x1,h0,h1,h2⟩
theorem gu{p0:t0->t1->Prop}{p1:t0->t1->Prop}{p2:t0->t1->Prop}{p3:t0->t1->Prop}{G:Prop}(h:aV λx0 x1=>dQ (p0 x0 x1) (p1 x0 x1) (p2 x0 x1) (p3 x0 x1))(f:∀x0,∀x1,p0 x0 x1->p1 x0 x1->p2 x0 x1->p3 x0 x1->G):G:=by obtain⟨x0,x1,h0,h1,h2,h3⟩:=h;exact f x0 x1 h0 h1 h2 h3
theorem hA{p0:t0->t1->Prop}{p1:t0->t1->Prop}{p2:t0->t1->Prop}{p3:t0->t1->Prop} x0 x1(h0:p0 x0 x1)(h1:p1 x0 x1)(h2:p2 x0 x1)(h3:p3 x0 x1):aV λx0 x1=>dQ (p0 x0 x1) (p1 x0 x1) (p2 x0 x1) (p3 x0 x1):=⟨x0,x1,h0,h1,h2,h3⟩
theorem fu{p0:t0->t1->Prop}{p1:t0->t1->Prop}{p2:t0->t1->Prop}{p3:t0->t1->Prop}{p4:t0->t1->Prop}{G:Prop}(h:aV λx0 x1=>gU (p0 x0 x1) (p1 x0 x1) (p2 x0 x1) (p3 x0 x1) (p4 x0 x1))(f:∀x0,∀x1,p0 x0 x1->p1 x0 x1->p2 x0 x1->p3 x0 x1->p4 x0 x1->G):G:=by obtain⟨x0,x1,h0,h1,h2,h3,h4⟩:=h;exact f x0 x1 h0 h1 h2 h3 h4
theorem sP{p0:t0->t1->Prop}{p1:t0->t1->Prop}{p2:t0->t1->Prop}{p3:t0->t1->Prop}{p4:t0->t1->Prop} x0 x1(h0:p0 x0 x1)(h1:p1 x0 x1)(h2:p2 x0 x1)(h3:p3 x0 x1)(h4:p4 x0 x1):aV λx0 x1=>gU (p0 x0 x1) (p1 x0 x1) (p2 x0 x1) (p3 x0 x1) (p4 x0 x1):=⟨x0,x1,h0,h1,h2,h3,h4⟩
theorem yx{p0:t0->t1->t2->Prop}{G:Prop}(h:cL λx0 x1 x2=>p0 x0 x1 x2)(f:∀x0,∀x1,∀x2,p0 x0 x1 x2->G):G:=by obtain⟨x0,x1,x2,h0⟩:=h;exact f x0 x1 x2 h0
theorem om{p0:t0->t1->t2->Prop}{p1:t0->t1->t2->Prop}{G:Prop}(h:cL λx0 x1 x2=>p0 x0 x1 x2/\p1 x0 x1 x2)(f:∀x0,∀x1,∀x2,p0 x0 x1 x2->p1 x0 x1 x2->G):G:=by obtain⟨x0,x1,x2,h0,h1⟩:=h;exact f x0 x1 x2 h0 h1
theorem g_{p0:t0->t1->t2->Prop}{p1:t0->t1->t2->Prop}{p2:t0->t1->t2->Prop}{G:Prop}(h:cL λx0 x1 x2=>br (p0 x0 x1 x2) (p1 x0 x1 x2) (p2 x0 x1 x2))(f:∀x0,∀x1,∀x2,p0 x0 x1 x2->p1 x0 x1 x2->p2 x0 x1 x2->G):G:=by obtain⟨x0,x1,x2,h0,h1,h2⟩:=h;exact f x0 x1 x2 h0 h1 h2
theorem dk{p0:t0->t1->t2->Prop}{p1:t0->t1->t2->Prop}{p2:t0->t1->t2->Prop} x0 x1 x2(h0:p0 x0 x1 x2)(h1:p1 x0 x1 x2)(h2:p2 x0 x1 x2):cL λx0 x1 x2=>br (p0 x0 x1 x2) (p1 x0 x1 x2) (p2 x0 x1 x2):=⟨x0,x1,x2,h0,h1,h2⟩
theorem u8{p0:t0->t1->t2->Prop}{p1:t0->t1->t2->Prop}{p2:t0->t1->t2->Prop}{p3:t0->t1->t2->Prop}{p4:t0->t1->t2->Prop}{p5:t0->t1->t2->Prop}{p6:t0->t1->t2->Prop}{G:Prop}(h:cL λx0 x1 x2=>o9 (p0 x0 x1 x2) (p1 x0 x1 x2) (p2 x0 x1 x2) (p3 x0 x1 x2) (p4 x0 x1 x2) (p5 x0 x1 x2) (p6 x0 x1 x2))(f:∀x0,∀x1,∀x2,p0 x0 x1 x2->p1 x0 x1 x2->p2 x0 x1 x2->p3 x0 x1 x2->p4 x0 x1 x2->p5 x0 x1 x2->p6 x0 x1 x2->G):G:=by obtain⟨x0,x1,x2,h0,h1,h2,h3,h4,h5,h6⟩:=h;exact f x0 x1 x2 h0 h1 h2 h3 h4 h5 h6
theorem yw{p0:t0->t1->t2->t3->t4->Prop}{p1:t0->t1->t2->t3->t4->Prop}{p2:t0->t1->t2->t3->t4->Prop}{p3:t0->t1->t2->t3->t4->Prop}{p4:t0->t1->t2->t3->t4->Prop}{p5:t0->t1->t2->t3->t4->Prop}{p6:t0->t1->t2->t3->t4->Prop}{p7:t0->t1->t2->t3->t4->Prop}{G:Prop}(h:wb λx0 x1 x2 x3 x4=>tL (p0 x0 x1 x2 x3 x4) (p1 x0 x1 x2 x3 x4) (p2 x0 x1 x2 x3 x4) (p3 x0 x1 x2 x3 x4) (p4 x0 x1 x2 x3 x4) (p5 x0 x1 x2 x3 x4) (p6 x0 x1 x2 x3 x4) (p7 x0 x1 x2 x3 x4))(f:∀x0,∀x1,∀x2,∀x3,∀x4,p0 x0 x1 x2 x3 x4->p1 x0 x1 x2 x3 x4->p2 x0 x1 x2 x3 x4->p3 x0 x1 x2 x3 x4->p4 x0 x1 x2 x3 x4->p5 x0 x1 x2 x3 x4->p6 x0 x1 x2 x3 x4->p7 x0 x1 x2 x3 x4->G):G:=by obtain⟨x0,x1,x2,x3,x4,h0,h1,h2,h3,h4,h5,h6,h7⟩:=h;exact f x0 x1 x2 x3 x4 h0 h1 h2 h3 h4 h5 h6 h7
theorem cB{t0:Type}{p0:t0->Prop}{p1:t0->Prop}{p2:t0->Prop}{G:Prop}(h:∃x0,br (p0 x0) (p1 x0) (p2 x0))(f:∀x0,p0 x0->p1 x0->p2 x0->G):G:=by obtain⟨x0,h0,h1,h2⟩:=h;exact f x0 h0 h1 h2
theorem b6{t0:Type}{p0:t0->Prop}{p1:t0->Prop}{p2:t0->Prop} x0(h0:p0 x0)(h1:p1 x0)(h2:p2 x0):∃x0,br (p0 x0) (p1 x0) (p2 x0):=⟨x0,h0,h1,h2⟩
theorem ir{t0:Type}{p0:t0->Prop}{p1:t0->Prop}{p2:t0->Prop}{p3:t0->Prop}{G:Prop}(h:∃x0,dQ (p0 x0) (p1 x0) (p2 x0) (p3 x0))(f:∀x0,p0 x0->p1 x0->p2 x0->p3 x0->G):G:=by obtain⟨x0,h0,h1,h2,h3⟩:=h;exact f x0 h0 h1 h2 h3
theorem gP{t0:Type}{p0:t0->Prop}{p1:t0->Prop}{p2:t0->Prop}{p3:t0->Prop} x0(h0:p0 x0)(h1:p1 x0)(h2:p2 x0)(h3:p3 x0):∃x0,dQ (p0 x0) (p1 x0) (p2 x0) (p3 x0):=⟨x0,h0,h1,h2,h3⟩
theorem sL{G:Prop}(h:br (p0) (p1) (p2))(f:p0->p1->p2->G):G:=by obtain⟨h0,h1,h2⟩:=h;exact f h0 h1 h2
theorem yz{G:Prop}(h:dQ (p0) (p1) (p2) (p3))(f:p0->p1->p2->p3->G):G:=by obtain⟨h0,h1,h2,h3⟩:=h;exact f h0 h1 h2 h3
theorem CZ{G:Prop}(h:o9 (p0) (p1) (p2) (p3) (p4) (p5) (p6))(f:p0->p1->p2->p3->p4->p5->p6->G):G:=by obtain⟨h0,h1,h2,h3,h4,h5,h6⟩:=h;exact f h0 h1 h2 h3 h4 h5 h6
theorem CX{p0:t0->t1->t2->t3->Prop}{p1:t0->t1->t2->t3->Prop}{G:Prop}(h:rf λx0 x1 x2 x3=>p0 x0 x1 x2 x3/\p1 x0 x1 x2 x3)(f:∀x0,∀x1,∀x2,∀x3,p0 x0 x1 x2 x3->p1 x0 x1 x2 x3->G):G:=by obtain⟨x0,x1,x2,x3,h0,h1⟩:=h;exact f x0 x1 x2 x3 h0 h1
theorem CY{t0 t1 t2:Type}{p0:t0->Prop}{p1:t0->t1->t2->Prop}{p2:t0->t1->t2->Prop}{p3:t0->t1->t2->Prop}{p4:t0->t1->t2->Prop}{G:Prop}(h:∃x0,p0 x0/\aV λx1 x2=>dQ (p1 x0 x1 x2) (p2 x0 x1 x2) (p3 x0 x1 x2) (p4 x0 x1 x2))(f:∀x0,p0 x0->∀x1,∀x2,p1 x0 x1 x2->p2 x0 x1 x2->p3 x0 x1 x2->p4 x0 x1 x2->G):G:=by obtain⟨x0,h0,x1,x2,h1,h2,h3,h4⟩:=h;exact f x0 h0 x1 x2 h1 h2 h3 h4
theorem aN{α:Type}{a:α}{P:Prop}(h:none=some a):P:=nomatch h
theorem gO{α:Type}{a:α}{P:Prop}(h:some a=none):P:=nomatch h
theorem aR{P:Prop}(h:false=true):P:=nomatch h
theorem C3{P:Prop}(h:true=false):P:=nomatch h
theorem mN{α:Type}{a:α}{l:List α}{P:Prop}(h:[]=a::l):P:=nomatch h
theorem qg{α:Type}{a:α}{l:List α}{P:Prop}(h:a::l=[]):P:=nomatch h
theorem bx{α:Type}{a:α}{P:Prop}(h:a∈[]):P:=nomatch h
theorem MO{P:Prop}(h:a<0):P:=nomatch h
theorem kk{α:Type}{a b:α}{P:Prop}(f:α->Nat)(h:a=b)(e:Nat.beq (f a) (f b)=false):P:=by subst h;rw[Nat.beq_refl _]at e;exact nomatch e
theorem oq{α:Type}{a b:α}{P:Prop}(f:α->Nat)(h:some a=some b)(e:Nat.beq (f a) (f b)=false):P:=kk f (aG h) e
theorem jc{α:Type}{c G:Prop}[d:Decidable c]{a b x:α}(h:ite c a b=x)(f:c->a=x->G)(g:¬c->b=x->G):G:=(Decidable.em c).elim (λq=>f q ((ao q).symm.trans h)) λq=>g q ((ai q).symm.trans h)
theorem sQ{α:Type}{P:α->Prop}[d:Decidable c]{a b:α}(f:c->P a)(g:¬c->P b):P (ite c a b):=(Decidable.em c).elim (λq=>Z (ao q) (f q)) λq=>Z (ai q) (g q)
theorem yR{k:Nat}(h:i.natAbs<=k): -(k:Int)<=i/\i<=k:=
 ⟨Int.neg_le_of_neg_le (Int.le_trans (Int.natAbs_neg i▸Int.le_natAbs) (Int.ofNat_le.mpr h)),Int.le_trans Int.le_natAbs (Int.ofNat_le.mpr h)⟩
theorem qk{k:Nat}(h:i.natAbs<=k)(e:autoParam (Nat.ble k (2^63-1)=true) bF): -(2^63)<=i/\i<2^63:=
 have⟨a,b⟩:=yR (aC h (fF e))
 ⟨Int.le_trans (by decide) a,Int.lt_of_le_of_lt b (by decide)⟩
theorem Nf(h:i.natAbs<=k)(e:autoParam (Nat.ble k (2^63-1)=true) bF): -9223372036854775808<=i/\i<9223372036854775808:=qk h e
theorem Hj(i:Int):i.toNat<=i.natAbs:=match i with| .ofNat n=>aT n| .negSucc _=>eT _
section
variable{a b c d e k x y:Nat}{i j:Int}
theorem q1(h:autoParam (a<c) ba)(g:autoParam (b<c) ba):max a b<c:=Nat.max_lt.mpr ⟨h,g⟩
theorem q2(h:autoParam (max a b<c) ba):min a b<c:=jr (aC (oR a b) (Nat.le_max_left a b)) h
theorem q3(h:autoParam (a<=c+1) ba)(g:autoParam (c<=b) ba):a<=b+1:=aC h (jp g)
theorem q4(h:autoParam (¬a<b) ba)(g:autoParam (¬a=b) ba):1<=a-b:=Nat.sub_pos_of_lt (iT (oS h) λe=>g e.symm)
theorem q5(h:autoParam (a<2) ba):a=0\/a=1:=by
 cases a with
 |zero=>exact .inl rfl
 |succ a=>exact .inr (bg _ (Nat.lt_one_iff.mp (Nat.lt_of_succ_lt_succ h)))
theorem q6(h:autoParam (a<3) ba):a=0\/a=1\/a=2:=by
 cases a with
 |zero=>exact .inl rfl
 |succ a=>exact .inr ((q5 (Nat.lt_of_succ_lt_succ h)).imp (bg _) (bg _))
theorem JP(h:a<4):a=0\/a=1\/a=2\/a=3:=by
 cases a with
 |zero=>exact .inl rfl
 |succ a=>exact .inr ((q6 (Nat.lt_of_succ_lt_succ h)).imp (bg _) (Or.imp (bg _) (bg _)))
theorem q7(h:autoParam (a<=4) ba):a=0\/a=1\/a=2\/a=3\/a=4:=by
 cases a with
 |zero=>exact .inl rfl
 |succ a=>exact .inr ((JP h).imp (bg _) (Or.imp (bg _) (Or.imp (bg _) (bg _))))
theorem JL(h:a<=5):a=0\/a=1\/a=2\/a=3\/a=4\/a=5:=by
 cases a with
 |zero=>exact .inl rfl
 |succ a=>exact .inr ((q7 (qN h)).imp (bg _) (Or.imp (bg _) (Or.imp (bg _) (Or.imp (bg _) (bg _)))))
theorem q8(h:autoParam (a<=6) ba):a=0\/a=1\/a=2\/a=3\/a=4\/a=5\/a=6:=by
 cases a with
 |zero=>exact .inl rfl
 |succ a=>exact .inr ((JL (qN h)).imp (bg _) (Or.imp (bg _) (Or.imp (bg _) (Or.imp (bg _) (Or.imp (bg _) (bg _))))))
theorem q9(h:autoParam (a<b) ba)(g:autoParam (a<c) ba):a<min b c:=Nat.lt_min.mpr ⟨h,g⟩
theorem J4(h:autoParam (a<b) ba)(g:autoParam (c=b) ba):a<min b c:=Nat.lt_min.mpr ⟨h,g▸h⟩
theorem xC(h:autoParam (¬a=b) ba):min a b<max a b:=(Nat.lt_or_gt_of_ne h).elim (λh=>Z (Nat.min_eq_left (eU h))<|Z (Nat.max_eq_right (eU h)) h) (λh=>Z (Nat.min_eq_right (eU h))<|Z (Nat.max_eq_left (eU h)) h)
theorem BH(h:autoParam (¬a=b) ba):¬min a b=max a b:=bI (xC h)
theorem BG(h:autoParam (a<c) ba):min a b<c:=jr (oR a b) h
theorem xB(h:autoParam (a<=k) ba)(e:autoParam (Nat.ble k c=true) bF):min a b<=c:=aC (oR a b) (aC h (fF e))
theorem pP(h:autoParam (b<=k) ba)(e:autoParam (Nat.ble k c=true) bF):min a b<=c:=aC (Nat.min_le_right a b) (aC h (fF e))
theorem pO(h:autoParam (a<=k) ba)(e:autoParam (Nat.blt k c=true) bF):(a:Int).natAbs<c:=jr h (fF e)
theorem BF(h:autoParam (a<=k) ba)(e:autoParam (Nat.blt (k+1) c=true) bF):((a+1:Nat):Int).natAbs<c:=jr (jp h) (fF e)
theorem BE(h:autoParam (0<a) ba):a=a-1+1:=(Nat.sub_add_cancel h).symm
theorem rY:1<=((a+1:Nat):Int):=Int.ofNat_le.mpr (Nat.le_add_left 1 a)
theorem BD(h:autoParam (a<=b) ba):a-b=0:=Nat.sub_eq_zero_of_le h
theorem J2(h:autoParam (a<=b) ba):a-(b+1)=0:=Nat.sub_eq_zero_of_le (hO h)
theorem BC(h:autoParam (b+1<=a) ba):a-b=a-(b+1)+1:=(Nat.sub_add_cancel (Nat.sub_pos_of_lt h)).symm
theorem J1(h:autoParam (¬a<=b) ba):a-b=a-(b+1)+1:=BC (Nat.lt_of_not_le h)
theorem J0(h:autoParam (0<=i) ba):i=i.toNat:=(Int.toNat_of_nonneg h).symm
theorem ux(h:autoParam (k<=a) ba):¬a<k:=Nat.not_lt.mpr h
theorem uw(h:autoParam (¬a<k) ba):(k:Int)<=a:=Int.ofNat_le.mpr (oS h)
theorem uv(h:autoParam (a<k) ba):(a:Int)<k:=Int.ofNat_lt.mpr h
theorem xA:((a+1:Nat):Int)-1=a:=Int.add_sub_cancel a 1
theorem uu(h:autoParam (a=b) ba):min a b=max a b:=Z h<|Z (Nat.min_self ..)<|Z (Nat.max_self ..) rfl
theorem JZ:min a b<=max a b:=aC (oR a b) (Nat.le_max_left a b)
theorem JY(h:autoParam (a<b) ba):¬a=b:=bI h
theorem JX(h:autoParam (¬b<a) ba)(g:autoParam (¬b=a) ba):a<=b:=oS h
theorem ut(h:autoParam (a<=k) ba)(e:autoParam (k<b) ba):a<b:=jr h e
theorem BB(h:autoParam (a<=k) ba)(e:autoParam (k<=b) ba):a<=b:=aC h e
theorem JW(h:autoParam (k<min a b) ba):k<a:=dZ h (oR a b)
theorem JV(h:autoParam ((a:Int)<=b) ba):a<=b:=Int.ofNat_le.mp h
theorem JU(h:autoParam (¬a=0) ba):0<a:=Nat.pos_of_ne_zero h
theorem ur(h:autoParam (a<=b) ba)(g:autoParam (¬a=b) ba):a<b:=iT h g
theorem JT(h:autoParam (¬b<a) ba):a<=b:=oS h
theorem JS(h:autoParam (a<=b) ba):((b:Int)-a).toNat=b-a:=by refine Z (Int.ofNat_sub h).symm ?_;rfl
theorem xz:(-1+((a+1:Nat):Int)).toNat=a:=by refine Z (show(-1+((a+1:Nat):Int))=a from Z (Int.add_comm ..)<|Int.add_sub_cancel a 1) ?_;rfl
theorem JR(h:autoParam (b-a=k+1) ba):a<b:=Nat.lt_of_sub_pos (h▸lV k)
theorem JQ(h:autoParam (b-a=k+1) ba):b-(a+1)=k:=by refine Z (Nat.sub_succ ..)<|Z h ?_;rfl
theorem JO(h:autoParam (b<a) ba):a=b+1+(a-(b+1)):=(Nat.add_sub_cancel' h).symm
theorem JN(h:autoParam (a-1<=b) ba):a<=b+1:=Nat.sub_le_iff_le_add.mp h
theorem BA:(a:Int)<(a+1:Nat):=Int.ofNat_lt.mpr (jq a)
theorem JM(h:autoParam (a<=k) ba)(e:autoParam (Nat.blt (4*k) c=true) bF):(4*(a:Int)).natAbs<c:=jr (Nat.mul_le_mul_left 4 h) (fF e)
end
section
variable{a b c d e f g h i j k l m n p q r s t u w x y z:Nat}
theorem xy:min a b=max a b↔a=b:=⟨λh=>Nat.le_antisymm (aC (Nat.le_max_left a b) (aC (aA h.symm) (Nat.min_le_right a b))) (aC (Nat.le_max_right a b) (aC (aA h.symm) (oR a b))),λh=>Z h<|Z (Nat.min_self ..)<|Z (Nat.max_self ..) rfl⟩
theorem xx(h:autoParam (¬min a b=max a b) ba):min a b<max a b:=iT (aC (oR a b) (Nat.le_max_left a b)) h
theorem JK:(a=min a b/\b=max a b)\/(a=max a b/\b=min a b):=(Nat.le_total a b).elim (λh=>.inl ⟨(Nat.min_eq_left h).symm,(Nat.max_eq_right h).symm⟩) λh=>.inr ⟨(Nat.max_eq_left h).symm,(Nat.min_eq_right h).symm⟩
theorem JJ:(min a b=a/\max a b=b)\/(min a b=b/\max a b=a):=(Nat.le_total a b).elim (λh=>.inl ⟨Nat.min_eq_left h,Nat.max_eq_right h⟩) λh=>.inr ⟨Nat.min_eq_right h,Nat.max_eq_left h⟩
theorem JI(h:autoParam (i+(k+1)<=5) ba)(g:autoParam (n<=4+(i-3)) ba):n<6:=Nat.lt_succ_of_le (aC g (qQ (Nat.sub_le_sub_right (qN (aC (jp (dq i k)) h)) 3) 4))
theorem JH(h:autoParam (p<=k) ba)(g:autoParam (¬k=p) ba)(e:autoParam (k=l+1) ba):l-p<k-p:=by subst e;exact Nat.sub_lt_sub_right (Nat.le_of_lt_succ (iT h λz=>g z.symm)) (jq l)
theorem JG(h:autoParam (p<=n) ba)(g:autoParam (¬n=p) ba):n=n-1+1:=(Nat.succ_pred_eq_of_pos (jr (eT p) (iT h λz=>g z.symm))).symm
theorem JF(h:autoParam (u+40*d+100<=9800) ba)(i:autoParam (x<=8) ba)(j:autoParam (m<=x) ba):u+1+m<9900:=jr (iU (qP (aC (dq u _) (Nat.le_of_add_le_add_right h)) 1) (aC j i)) (by decide)
theorem JE{k:Int}(h:autoParam (-(2^63)<=k) ba)(g:autoParam (k<2^63) ba):(decide (k< -(2^63))||decide (2^63<=k))=false:=Bool.or_eq_false_iff.mpr ⟨gE (Int.not_lt.mpr h),gE (Int.not_le.mpr g)⟩
theorem Kc(h:autoParam (a+1=b+1) ba):b-a=0:=Z (Nat.succ.inj h)<|lW _
theorem Kb(h:autoParam (k-i=0) ba)(g:autoParam (i<=k) ba):i=k:=Nat.le_antisymm g (Nat.le_of_sub_eq_zero h)
theorem Ka(h:autoParam (k<=2) ba)(j:autoParam (i<k) ba)(e:autoParam (x=t) ba)(g:autoParam (t<=min i k) ba):x<=1:=e▸aC g (aC (oR i k) (Nat.le_of_lt_succ (dZ j h)))
theorem J_(h:autoParam (k<=2) ba):min i k+1+1+(k+1-v)<=10000:=aC (iU (qP (qP (aC (Nat.min_le_right i k) h) 1) 1) (aC (Nat.sub_le _ _) (jp h))) (by decide)
theorem J9{y:Int}(h:autoParam (0<n) ba)(g:autoParam (y<n) ba):y.toNat<n:=by
 cases y with
 |ofNat k=>exact Int.ofNat_lt.mp g
 |negSucc k=>exact h
theorem J8(h:autoParam (2=y+z) ba):(y=0/\z=2)\/(y=2/\z=0)\/(y=1/\z=1):=by
 rcases q6 (jr (Nat.le.intro h.symm) (by decide))with e|e|e<;>rw[e]at h⊢
 ·exact .inl ⟨rfl,(h.trans (Nat.zero_add z)).symm⟩
 ·exact .inr (.inr ⟨rfl,(Nat.add_left_cancel h).symm⟩)
 ·exact .inr (.inl ⟨rfl,(Nat.add_left_cancel h).symm⟩)
theorem J7(h:autoParam (b<=t) ba)(i:autoParam (w+1<=499) ba)(j:autoParam (t+6<=2*n) ba)(k:autoParam (n<=6) ba):w+b<=900:=aC (iU (qN i) (aC h (aC (dq t 6) (aC j (Nat.mul_le_mul_left 2 k))))) (by decide)
theorem J6(h:autoParam (a<=2*e) ba)(i:autoParam (b<=80*k) ba)(j:autoParam (k<=2) ba)(l:autoParam (e<=40) ba):a+b<=300:=aC (iU (aC h (Nat.mul_le_mul_left 2 l)) (aC i (Nat.mul_le_mul_left 80 j))) (by decide)
theorem J5(h:autoParam (l<=k*n) ba)(g:autoParam (a<=k) ba):a+l<=k*n+k:=aC (aA (Nat.add_comm a l)) (iU h g)
theorem J3(h:autoParam (n+42<=499) ba)(g:autoParam (c<=n) ba):c<=1500:=aC g (aC (dq n 42) (aC h (by decide)))
end
section
variable{α:Type}{l:List α}{x:α}{p:Prop}[Decidable p]{a b n:Nat}{i:Int}
theorem z1:l.length<(l++[x]).length:=Z bM<|jq _
theorem z2:(l++[x])[l.length]?=some x:=List.getElem?_concat_length
theorem z3(h:p):(true^^decide p)=false:=by refine Z (fc h) ?_;rfl
theorem z4(h:¬p):(true^^decide p)=true:=by refine Z (gE h) ?_;rfl
theorem z5(h:p):(false^^decide p)=true:=by refine Z (fc h) ?_;rfl
theorem z6(h:¬p):(false^^decide p)=false:=by refine Z (gE h) ?_;rfl
theorem Fq:decide (i<i)=false:=gE (Int.lt_irrefl i)
theorem tP(h:autoParam (l.length=a) ba):(l++[x]).length=a+1:=by refine Z bM<|Z h ?_;rfl
end
end
section
variable{prog:Program}{w:World}{A:Around}{E:Value->Shared->Prop}{s s' s0 s1:Shared}{a g I C C' PF HE fP fH:Addr}{b:Bool}{t:Tok}{v:Value}{P:Addr->Prop}{μ μ' μ0 μ1 cs:List Addr}{h h':Heap}{vs vals:List Value}{o:Obj}{R:Result->Shared->Prop}{i d c j tk k1 np nl:Nat}{sc scope:Scope}{U:Env}{fs:List Env}{mm:Str->Option Value}{G:Prop}{M:Model}{p pos ap fp p2 cp:Pos}{items:Array Value}{e value tg:Expr}{es ifs:List Expr}{xs:List (Nat×Tok)}{as ps:List Str}{name what place:Str}{names:List (Str×NameKind)}{body:List Stmt}{fd:FuncData}{cap:List (Option Nat)}
inductive V where
 |none
 |bool(b:Bool)
 |int(i:Int)
 |str(s:Str)
 |tup(l:List V)
 |loc(n:Nat)
 |obj(c n:Nat)
inductive bR where
 |int(i:Int)
 |str(s:Str)
 deriving DecidableEq
inductive O where
 |list(l:List V)
 |fields(l:List (Nat×V))
 |sdict(l:List (Str×V))
 |idict(l:List (Int×V))
 |tdict(l:List (List bR×V))
 |fix(ob:Obj)(l:List V)
 |part
abbrev av:Type:=List O
abbrev bL:=Value->Shared->Prop
abbrev bY:=av->Prop
abbrev aS:=V->av->Prop
abbrev cD:=List V->av->Prop
structure gT where
 cls:Nat->Addr
 attr:Nat->Str
def bR.is:bR->Value->Bool
 | .int i,v=>Value.isInt i v
 | .str s,v=>Value.isStrOf s v
def bR.hash(w:World):bR->Int
 | .int i=>hashInt i
 | .str s=>hashStr w s
theorem bR.is_inj v a b(d:bR.is a v=true)(e:bR.is b v=true):a=b:=by
 cases a<;>cases b
 ·exact Z (Value.isInt_inj _ _ _ d e) rfl
 ·refine aI (Value.isInt_shape d) λt c=>?_;clear d;subst c;trivial
 ·refine aI (Value.isInt_shape e) λt c=>?_;clear e;subst c;trivial
 ·exact Z (Value.isStrOf_inj _ _ _ d e) rfl
theorem Oh{a:Int}{b:Str}(h:Q false s):wpAny (model prog w) A (eqBool (.int a t) (.str b u)) Q E s:=eJ<|ag<|EqMixed.eq_int_str (wpAny_truthy_bool h)
theorem Og{a:Int}{b:Str}(h:Q false s):wpAny (model prog w) A (eqBool (.str b u) (.int a t)) Q E s:=eJ<|ag<|EqMixed.eq_str_int (wpAny_truthy_bool h)
theorem bR.shape(h:bR.is k v=true):(aV λi t=>k=.int i/\v=.int i t)\/aV λx t=>k=.str x/\v=.str x t:=by
 cases k with
 |int i=>exact aI (Value.isInt_shape h) λt a=>Z a<| .inl (cP i t rfl rfl)
 |str x=>exact aI (Value.isStrOf_shape h) λt a=>Z a<| .inr (cP x t rfl rfl)
def vU(prog:Program)(w:World):KeyKind prog w bR where
 is:=bR.is
 hash:=bR.hash w
 inj:=bR.is_inj
 byValue:=λk v h=>by rcases bR.shape h with⟨i,t,rfl,rfl⟩|⟨x,t,rfl,rfl⟩<;>rfl
 pyHash:=λhv h=>by
  rcases bR.shape hv with⟨i,t,rfl,rfl⟩|⟨x,t,rfl,rfl⟩
  ·exact wpAny_pyHash_int h
  ·exact wpAny_pyHash_str h
 eqBool:=λhu hv h=>by
  rcases bR.shape hu with⟨i,t,rfl,rfl⟩|⟨x,t,rfl,rfl⟩<;>rcases bR.shape hv with⟨j,u,rfl,rfl⟩|⟨y,u,rfl,rfl⟩
  ·rw[show decide (bR.int i=bR.int j)=decide (i=j)from decide_eq_decide.mpr ⟨λq=>by injection q,λq=>by rw[q]⟩]at h
   exact wpAny_eqBool_int h
  ·rw[gE (λq=>by cases q)]at h
   exact Oh h
  ·rw[gE (λq=>by cases q)]at h
   exact Og h
  ·rw[show decide (bR.str x=bR.str y)=decide (x=y)from decide_eq_decide.mpr ⟨λq=>by injection q,λq=>by rw[q]⟩]at h
   exact wpAny_eqBool_str h
 «strs»:=λk x t v h=>by
  rcases bR.shape h with⟨i,u,rfl,hv⟩|⟨y,u,rfl,hv⟩
  ·cases hv
  ·cases hv
   cases v<;>rfl
abbrev Au(prog:Program)(w:World):HeapKind prog w (List bR):=tupleKind (vU prog w)
def yM:Data->Bool
 | .plain=>true
 | .fields _=>true
 |_=>false
mutual
noncomputable def aj (N : gT) (μ : List Addr) (h : Heap) : V → Value → Prop
  | .none, v => v = .none
  | .bool b, v => v = .bool b
  | .int i, v => ∃ t, v = .int i t
  | .str s, v => ∃ t, v = .str s t
  | .tup l, v => aV fun a items => dQ (v = .ref a) (a ∉ μ) (IsTup h a items) (aq N μ h l items.toList)
  | .loc n, v => ∃ a, v = .ref a ∧ μ[n]? = some a
  | .obj c n, v => cL fun a o d => o9 (v = .ref a) (h.get? a = some o) (o.cls = .ref (N.cls c)) (o.dict = some d) (μ[n]? = some d) (yM o.data = true) (a ∉ μ)
noncomputable def aq (N : gT) (μ : List Addr) (h : Heap) : List V → List Value → Prop
  | [], vs => vs = []
  | x :: r, vs => aV fun v w => br (vs = v :: w) (aj N μ h x v) (aq N μ h r w)
end
def iz(P:Addr->Prop)(h h':Heap):Prop:=∀b o,h.get? b=some o->¬P b->h'.get? b=some o
theorem iz.refl P h:iz P h h:=λ_ _ e _=>e
theorem iz.trans(x:iz P h₁ h₂)(y:iz P h₂ h₃):iz P h₁ h₃:=λb o e n=>y b o (x b o e n) n
theorem iz.mono(x:iz P h₁ h₂)(i:∀b,P b->P' b):iz P' h₁ h₂:=λb o e n=>x b o e λq=>n (i b q)
theorem iz.push h o:iz P h (h.push o):=λ_ _ e _=>bj _ e
def dv(o:Obj):Prop:=(o.cls=.type "tuple"/\aV λitems n=>o.data=.seq items n)\/∃a,o.cls=.ref a/\yM o.data=true
def dA(μ:List Addr)(h h':Heap):Prop:=∀b o,h.get? b=some o->dv o->b∉μ->h'.get? b=some o
section
variable{N:gT}{ν:List Addr}
theorem aq.length:∀{l:List V}{vs:List Value},aq N μ h l vs->l.length=vs.length:=by
 intro l
 induction l with
 |nil=>exact@λ_ e=>by refine Z e ?_;rfl
 |cons _ r b=>exact@λ_ e=>bX e λv w a _ e=>Z a<|Z bU<|Z bU<|Z (b e) rfl
theorem yc(b:a∉μ)(c:∀a∈ν,h.get? a=none)(e:h.get? a=some o):a∉μ++ν:=λq=>by
 rcases cO.mp q with q|q
 ·exact b q
 ·rw[c a q]at e;exact aN e
theorem V.ind{P:V->Prop}{R:List V->Prop}(a:P .none)(h1:∀b,P (.bool b))(d:∀i,P (.int i))(e:∀s,P (.str s))(f:∀l,R l->P (.tup l))(g:∀n,P (.loc n))(h:∀c n,P (.obj c n))(j:R [])(k:∀x l,P x->R l->R (x::l)):(∀x,P x)/\∀l,R l:=
 ⟨V.rec a h1 d e f g h j k,V.rec_1 a h1 d e f g h j k⟩
theorem aj.mono(i:∀(n:Nat) a,μ[n]?=some a->μ'[n]?=some a)(k:∀a o,h.get? a=some o->dv o->a∉μ->h'.get? a=some o/\a∉μ'):(∀x v,aj N μ h x v->aj N μ' h' x v)/\∀l vs,aq N μ h l vs->aq N μ' h' l vs:=
 V.ind (λ_ e=>e) (λ_ _ e=>e) (λ_ _ e=>e) (λ_ _ e=>e) (λl t v e=>by refine gu e λa items z j s r=>?_;clear e;refine fv s λo g b w=>?_;clear s;refine aI w λn f=>?_;clear w;exact hA a _ z (k a o g (.inl ⟨b,_,_,f⟩) j).2 (lH o (k a o g (.inl ⟨b,_,_,f⟩) j).1 b n f) (t _ r)) (λn v e=>Exists.imp (λa e=>⟨e.1,i n a e.2⟩) e) (λc n v e=>u8 e λa o d z g b f e m j=>⟨a,o,d,z,(k a o g (.inr (ad _ b m)) j).1,b,f,i n d e,m,(k a o g (.inr (ad _ b m)) j).2⟩) (λ_ e=>e) λx l p r vs e=>bX e λv w z e q=>fX v w z (p _ e) (r _ q)
theorem aj.keep2(k:dA μ h h')(d:∀a∈ν,h.get? a=none):(∀x v,aj N μ h x v->aj N (μ++ν) h' x v)/\∀l vs,aq N μ h l vs->aq N (μ++ν) h' l vs:=
 aj.mono (λ_ _ e=>(cu (bV.mp e).1).trans e) λa o b s c=>⟨k a o b s c,yc c d b⟩
theorem aj.keep(k:dA μ h h')(b:∀a∈ν,h.get? a=none)(e:aj N μ h x v):aj N (μ++ν) h' x v:=(aj.keep2 k b).1 x v e
theorem aq.keep(k:dA μ h h')(b:∀a∈ν,h.get? a=none)(e:aq N μ h l vs):aq N (μ++ν) h' l vs:=(aj.keep2 k b).2 l vs e
theorem aq.get:∀{l:List V}{vs:List Value}{i:Nat}{x:V},aq N μ h l vs->l[i]?=some x->∃v,vs[i]?=some v/\aj N μ h x v:=by
 intro l
 induction l with
 |nil=>exact@λ_ _ _ _ e=>by trivial
 |cons y r c=>
  intro _ i x e a;refine bX e λv w b e d=>Z b ?_
  cases i with
  |zero=>simp only[List.getElem?_cons_zero,Option.some.injEq]at a⊢;subst a;exact(ad v rfl e)
  |succ j=>simp only[List.getElem?_cons_succ]at a⊢;exact c d a
theorem aq.append:∀{l c:List V}{vs a:List Value},aq N μ h l vs->aq N μ h c a->aq N μ h (l++c) (vs++a):=by
 intro l
 induction l with
 |nil=>exact@λ_ _ _ e b=>Z e b
 |cons _ g f=>exact@λ_ _ _ e b=>bX e λv w d e r=>Z d<|(fX v _ rfl e (f r b))
theorem aq.nil:aq N μ h [] []:=rfl
theorem aq.cons(e:aj N μ h x v)(r:aq N μ h l vs):aq N μ h (x::l) (v::vs):=(fX v vs rfl e r)
theorem aq.take k(e:aq N μ h l vs):aq N μ h (l.take k) (vs.take k):=by
 induction l generalizing vs k with
 |nil=>exact Z e<|Z List.take_nil<|Z List.take_nil aq.nil
 |cons x l b=>
  cases k with
  |zero=>exact aq.nil
  |succ k=>refine bX e λv w z a r=>?_;clear e;exact Z z<|aq.cons a (b k r)
theorem aq.drop k(e:aq N μ h l vs):aq N μ h (l.drop k) (vs.drop k):=by
 induction l generalizing vs k with
 |nil=>exact Z e<|Z List.drop_nil<|Z List.drop_nil aq.nil
 |cons x l a=>
  cases k with
  |zero=>exact e
  |succ k=>refine bX e λv w z b r=>?_;clear e;exact Z z<|a k r
theorem aq.inv_cons(e:aq N μ h (x::l) vs):aV λv w=>br (vs=v::w) (aj N μ h x v) (aq N μ h l w):=e
theorem aq.inv_nil(e:aq N μ h [] vs):vs=[]:=e
theorem aq.set i(e:aq N μ h l vs)(q:aj N μ h x v):aq N μ h (l.set i x) (vs.set i v):=by
 induction l generalizing vs i with
 |nil=>exact Z e aq.nil
 |cons y l b=>
  refine bX e λv w z a r=>?_;clear e;refine Z z ?_
  cases i with
  |zero=>exact aq.cons q r
  |succ i=>exact aq.cons a (b i r)
end
def dG(i:Nat):List (Nat×V)->Option V
 |[]=>none
 |(j,v)::r=>if j=i then some v else dG i r
def Ff(N:gT)(μ:List Addr)(h:Heap)(l:List (Nat×V))(mm:Str->Option Value):Prop:=
 (∀i v,dG i l=some v->∃v',mm (N.attr i)=some v'/\aj N μ h v v')/\∀x,(mm x).isSome=true->∃i,(dG i l).isSome=true/\x=N.attr i
def gg(prog:Program)(w:World)(N:gT)(μ:List Addr)(h:Heap)(a:Addr):O->Prop
 | .list l=>∃items,h.PlainList a items/\aq N μ h l items.toList
 | .fields l=>∃mm,h.Ns1 a mm/\Ff N μ h l mm
 | .sdict l=>∃kvs:List (Str×Value),br (h.DictOf (strKind prog w) a kvs) (kvs.map (·.1)=l.map (·.1)) (aq N μ h (l.map (·.2)) (kvs.map (·.2)))
 | .idict l=>∃kvs:List (Int×Value),br (h.DictOf (intKind prog w) a kvs) (kvs.map (·.1)=l.map (·.1)) (aq N μ h (l.map (·.2)) (kvs.map (·.2)))
 | .tdict l=>∃xs:List (List bR×Addr×Value),dQ (h.DictOfH (Au prog w) a xs) (xs.map (·.1)=l.map (·.1)) (aq N μ h (l.map (·.2)) (xs.map (·.2.2))) (∀x∈xs,x.2.1∉μ)
 | .fix ob l=>h.get? a=some ob/\∃items,h.IsList a items/\aq N μ h l items.toList
 | .part=>aV λx y=>h.get? a=some {cls:=.type "tuple",data:=.seq #[x,y]}
def O.isPart:O->Bool
 | .part=>true
 |_=>false
inductive bw(prog:Program)(w:World)(N:gT)(μ:List Addr)(m:av)(h:Heap):Prop
 |mk(len:μ.length=m.length)(nodup:μ.Nodup)(cell:∀(n:Nat)(a:Addr)(o:O),μ[n]?=some a->m[n]?=some o->gg prog w N μ h a o)
section
variable{N:gT}{ν:List Addr}{m:av}
theorem gg.obj{o:O}(c:gg prog w N μ h a o):∃ob,h.get? a=some ob/\(o.isPart=false->∀vs,ob.data≠.fields vs):=by
 cases o with
 |list l=>refine ac c λitems g _=>?_;clear c;refine aI g λn f=>?_;clear g;exact(ad _ f (λ_ vs q=>(kk PySem.Data.ctorIdx q rfl)))
 |fields l=>refine ac c λmm g _=>?_;clear c;refine iF g λob es ep f d _=>?_;clear g;exact(ad ob f (λ_ vs=>Z d<|λq=>kk PySem.Data.ctorIdx q rfl))
 |sdict l=>obtain⟨kvs,⟨ob,es,ep,f,i,d,_⟩,_⟩:=c;exact(ad ob f (λ_ vs=>Z d<|λq=>kk PySem.Data.ctorIdx q rfl))
 |idict l=>obtain⟨kvs,⟨ob,es,ep,f,i,d,_⟩,_⟩:=c;exact(ad ob f (λ_ vs=>Z d<|λq=>kk PySem.Data.ctorIdx q rfl))
 |tdict l=>obtain⟨kvs,⟨ob,es,ep,f,i,d,_⟩,_⟩:=c;exact(ad ob f (λ_ vs=>Z d<|λq=>kk PySem.Data.ctorIdx q rfl))
 |fix ob l=>refine iH c λ_ items g _=>?_;clear c;refine iG g λo e _ n d=>?_;clear g;exact(ad o e (λ_ vs q=>by rw[d]at q;exact kk PySem.Data.ctorIdx q rfl))
 |part=>exact eC c λx y c=>(ad _ c (λ_ vs q=>(kk PySem.Data.ctorIdx q rfl)))
theorem bw.obj(M:bw prog w N μ m h)(d:a∈μ):∃ob,h.get? a=some ob:=by refine aI (qW.mp d) λn c=>?_;have b:=(bV.mp c).1;rw[M.1]at b;refine ac ((M.3 n a _ c (bJ b)).obj) λob e _=>?_;exact⟨ob,e⟩
theorem bw.new_not(M:bw prog w N μ m h)(e:h.get? a=none):a∉μ:=λq=>by refine aI (M.obj q) λob b=>?_;rw[e]at b;exact aN b
theorem AX(k:iz (·∈μ) h h'):dA μ h h':=λb o e _ n=>k b o e n
theorem dA.refl μ h:dA μ h h:=λ_ _ e _ _=>e
theorem IsTupleKey.still(k:dA μ h h')(e:a∉μ)(x:IsTupleKey (vU prog w) h ks a):IsTupleKey (vU prog w) h' ks a:=by refine sK x λo items n d b c r=>?_;clear x;exact(ve o _ n (k a o d (.inl ⟨b,_,_,c⟩) e) b c r)
theorem gg.keep{o:O}(k:dA μ h h')(d:∀a∈ν,h.get? a=none)(e:∀ob,h.get? a=some ob->h'.get? a=some ob)(c:gg prog w N μ h a o):gg prog w N (μ++ν) h' a o:=by
 cases o with
 |list l=>refine ac c λitems f q=>?_;clear c;refine aI f λn b=>?_;clear f;exact(ad _ ⟨n,e _ b⟩ (q.keep k d))
 |fields l=>refine fv c λmm f B C=>?_;clear c;refine qd f λs A u m r=>?_;clear f;exact(gx mm (qh s _ _ (e s m) r) (λi v z=>ac (B i v z) λI z1 z2=>(ad I z1 (z2.keep k d))) C)
 |sdict l=>obtain⟨kvs,⟨ob,es,ep,b,r⟩,p,q⟩:=c;exact(b6 _ (qh ob es ep (e ob b) r) p (q.keep k d))
 |idict l=>obtain⟨kvs,⟨ob,es,ep,b,r⟩,p,q⟩:=c;exact(b6 _ (qh ob es ep (e ob b) r) p (q.keep k d))
 |tdict l=>refine ir c λxs f p q z=>?_;clear c;obtain⟨ob,es,ep,b,E,F,G,t,H⟩:=f;exact(gP xs ⟨ob,es,ep,e ob b,E,F,G,λx g=>IsTupleKey.still k (z x g) (t x g),H⟩ p (q.keep k d) (λx g=>qd (t x g) λΦ _ _ j _=>yc (z x g) d j))
 |part=>exact eC c λx y c=>⟨x,y,e _ c⟩
 |fix ob l=>refine iH c λb items D q=>?_;clear c;exact⟨e ob b,items,D.at λo=>e o,q.keep k d⟩
theorem bw.keep(M:bw prog w N μ m h)(k:∀b o,h.get? b=some o->h'.get? b=some o):bw prog w N μ m h':=
 ⟨M.1,M.2,λn a o c d=>by
  have:=(M.3 n a o c d).keep (λb o e _ _=>k b o e) (λ_ q=>bx q) (λob=>k a ob)
  rwa [bZ]at this⟩
theorem bw.other(M:bw prog w N μ m h)(st:dA μ h h')(k:∀b o,b∈μ->h.get? b=some o->h'.get? b=some o):bw prog w N μ m h':=
 ⟨M.1,M.2,λn a o c d=>by
  have:=(M.3 n a o c d).keep st (λ_ q=>bx q) (λob=>k a ob (bN c))
  rwa [bZ]at this⟩
theorem bw.snoc{o:O}(M:bw prog w N μ m h)(l:a∉μ)(f:∀b o,gg prog w N μ h b o->b∈μ->gg prog w N (μ++[a]) h' b o)(c:gg prog w N (μ++[a]) h' a o):bw prog w N (μ++[a]) (m++[o]) h':=by
 refine⟨by simp[M.1],?_,λn b j d e=>?_⟩
 ·rewrite[qU]
  exact(bt M.2 (by simp) (λx k y i=>by simp only[b5]at i;refine Z i ?_;rintro rfl;exact l k))
 ·rcases Nat.lt_or_ge n _ with q|q
  ·rw[cu q]at d
   rw[cu (M.1▸q)]at e;exact f b j (M.3 n b j d e) (bN d)
  ·rw[l9 q]at d
   rw[l9 (M.1▸q)]at e;have g:n-μ.length=0:=by
    rcases Nat.eq_zero_or_pos _ with z|z
    ·exact z
    ·rw[ju z]at d;exact aN d
   rw[g]at d;rw[<-M.1,g]at e;simp only[List.getElem?_cons_zero,Option.some.injEq]at d e;subst d e;exact c
theorem bw.new(M:bw prog w N μ m h)(k:∀b o,h.get? b=some o->h'.get? b=some o){o:O}(f:h.get? a=none)(c:gg prog w N (μ++[a]) h' a o):bw prog w N (μ++[a]) (m++[o]) h':=M.snoc (λq=>aI (M.obj q) λob e=>by rw[f]at e;exact aN e) (λb o r _=>r.keep (λb o e _ _=>k b o e) (λc d=>Z (b5.mp d) f) λob=>k b ob) c
theorem bw.upd(M:bw prog w N μ m h){o:O}(g:μ[n]?=some a)(k:iz (·=a) h h')(c:gg prog w N μ h' a o):bw prog w N μ (m.set n o) h':=by
 refine⟨by simp[M.1],M.2,λi b l d f=>?_⟩
 by_cases q:i=n
 ·subst q
  rw[g]at d;replace d:=aG d;subst d;rw[kR (M.1▸(bV.mp g).1)]at f;replace f:=aG f;subst f;exact c
 ·rw[d6 (λe=>q e.symm)]at f
  have j:b≠a:=by rintro rfl;exact q ((List.getElem?_inj (bV.mp d).1 M.2).mp (d.trans g.symm))
  have:=(M.3 i b l d f).keep (AX (k.mono λb e=>e▸bN g)) (λ_ q=>bx q) λob e=>k b ob e j
  rwa [bZ]at this
end
variable{Q:aS}{N:gT}{l:List V}{x y:V}{m m' m0:av}
structure bB where
 prog:Program
 w:World
 h0:Heap
 N:gT
 os:OsState
 mg:Str->Option Value
 mb:Str->Option Value
 K:Frag
 G:h0.Ns mainGlobals mg
 BN:h0.Ns builtinsNs mb
 blt:∀x:Str,x≠"__name__"->mb x=bootBuiltins x
 lim:h0.NoLimit
 KX:K.In h0
 sysM:∃o,h0.get? sysModules=some o
 ainj:∀i j,N.attr i=N.attr j->i=j
inductive Ar(d:Nat)(A:Around)(fs:List Env):Prop
 |mk(room:A.depth+4*d+4<=690)(units:A.units+40*d+100<=9800)(frames:A.frames=some fs)(quiet:A.handled=none)
def d9(o:Obj):Prop:=aV λes ep=>o.data=.dict es ep
def j4(fs:List Env)(μ:List Addr)(h:Heap):Prop:=∀U∈fs,aV λL o=>dQ (U.frame=some L) (h.get? L=some o) (d9 o) (L∉μ)
inductive b_(B:bB)(fs:List Env)(m:av)(μ:List Addr)(s:Shared):Prop
 |mk(stay:∀b o,B.h0.get? b=some o->s.heap.get? b=some o)(gens:s.gens=#[])(os:s.os=B.os)(mem:bw B.prog B.w B.N μ m s.heap)(fresh:∀a∈μ,B.h0.get? a=none)(funs:s.heap.FunFrames B.h0 fs)(frs:j4 fs μ s.heap)
def vZ(U:Env)(h:Heap)(x:Str)(v:Value):Prop:=
 (U.kindOf x=some .local/\∃mm,h.Ns U.locals mm/\mm x=some v)\/
 ((U.kindOf x=some .cell\/U.kindOf x=some .free)/\∃c,U.cells.lookup x=some c/\h.IsCell c (some v))
abbrev bh:Type:=List (Option V)
abbrev hS:=bh->av->Prop
def jL(x:Str):Bool:=!(x==("__debug__":Str))&&!(x==("__classdict__":Str))
def fq(sc:Scope):Bool:=decide ((sc.names.map (·.1)).Nodup)&&sc.names.all λp=>jL p.1
inductive kY(N:gT)(sc:Scope)(U:Env)(J:bh)(μ:List Addr)(h:Heap):Prop
 |mk(kind:U.scope.kind=.function)(glb:U.globals=mainGlobals)(bls:U.builtins=builtinsNs)(gk:∀x,sc.names.lookup x=some .globalImplicit->U.kindOf x=some .globalImplicit)(loc:∀x,sc.names.lookup x=some .local->U.kindOf x=some .local)(cel:∀x,sc.names.lookup x=some .cell->U.kindOf x=some .cell)(cinj:∀x y c,U.cells.lookup x=some c->U.cells.lookup y=some c->x=y)(ok:fq sc=true)(len:J.length=sc.names.length)(ns:∃mm,h.Ns U.locals mm)(cells:∀x,sc.names.lookup x=some .cell->aV λc v0=>U.cells.lookup x=some c/\h.IsCell c v0)(ca:∀x c,U.cells.lookup x=some c->∃v0,h.IsCell c v0)(nl:U.locals∉μ)(nc:∀x c,U.cells.lookup x=some c->c∉μ)(vals:∀(i:Nat)(v:V),J[i]?=some (some v)->cL λx k v'=>br (sc.names[i]?=some (x,k)) (vZ U h x v') (aj N μ h v v'))
def No:Addr->Prop:=λ_=>False
def gJ(U:Env):Addr->Prop:=λb=>b=U.locals\/∃x,U.cells.lookup x=some b
def b9(sc:Scope)(U:Env):Addr->Prop:=λb=>b=U.locals\/∃x,sc.names.lookup x=some .cell/\U.cells.lookup x=some b
theorem b9.frm{b:Addr}(o:b9 sc U b):gJ U b:=o.imp id λa=>(by refine ac a λx _ e=>?_;clear a;exact⟨x,e⟩)
inductive St(B:bB)(sc:Scope)(fs:List Env)(U:Env)(J:bh)(m:av)(μ:List Addr)(s:Shared):Prop
 |mk(toCSt:b_ B fs m μ s)(fr:kY B.N sc U J μ s.heap)(own:B.h0.get? U.locals=none/\∀x c,sc.names.lookup x=some .cell->U.cells.lookup x=some c->B.h0.get? c=none)
inductive Nx(B:bB)(P:Addr->Prop)(μ:List Addr)(s:Shared)(m':av)(μ':List Addr)(s':Shared):Prop
 |mk(mem:bw B.prog B.w B.N μ' m' s'.heap)(ext:∃ν,μ'=μ++ν/\∀a∈ν,s.heap.get? a=none)(kept:∀b o,s.heap.get? b=some o->¬(b∈μ\/P b)->s'.heap.get? b=some o\/d9 o/\B.h0.get? b=none/\∃sl,s'.heap.get? b=some {o with slots:=sl})(nf:∀b o,s.heap.get? b=some o->∃o',br (s'.heap.get? b=some o') (((∀vs,o.data≠.fields vs)->∀vs,o'.data≠.fields vs)) ((b∉μ->d9 o->d9 o')))(gens:s'.gens=s.gens)(os:s'.os=s.os)
theorem NC(z:h.objs.size<=a):h.get? a=none:=by
 cases q:h.get? a with
 |none=>rfl
 |some o=>exact absurd (dH q) (Nat.not_lt.mpr z)
theorem Rk{m m':Str->Option Value}(x:h.Ns a m)(y:h.Ns a m'):m=m':=by
 have⟨o,es,ep,j,g,_,i⟩:=x;have⟨k,f,e,b,c,_,d⟩:=y;rw[j]at b;replace b:=aG b;subst b;rw[g]at c;cases c
 funext n
 exact Z (i n).symm<|Z (d n).symm rfl
section
variable{B:bB}{J:bh}{m'':av}{μ'' ν:List Addr}{s'':Shared}
theorem yb(n:h.Ns a mm)(k:∀o,h.get? a=some o->∃b,h'.get? a=some {o with slots:=b}):h'.Ns a mm:=by refine qd n λo es ep c r=>?_;clear n;exact aI (k o c) λb e=>(qh _ es ep e r)
theorem zj{v:Option Value}(n:h.IsCell a v)(k:∀o,h.get? a=some o->∃b,h'.get? a=some {o with slots:=b}):h'.IsCell a v:=by refine ac n λo c r=>?_;clear n;exact aI (k o c) λb e=>(ad _ e r)
theorem vZ.keep{x:Str}(l:vZ U h x v)(k:∀b o,h.get? b=some o->gJ U b->∃f,h'.get? b=some {o with slots:=f}):vZ U h' x v:=by
 rcases l with⟨a,mm,n,e⟩|⟨a,c,e,n⟩
 ·exact .inl ⟨a,mm,yb n λo d=>k _ o d (.inl rfl),e⟩
 ·exact .inr ⟨a,c,e,zj n λo d=>k _ o d (.inr ⟨x,e⟩)⟩
theorem kY.own_not(F:kY N sc U J μ h){b:Addr}(o:gJ U b):b∉μ:=by
 rcases o with rfl|⟨x,e⟩
 ·exact F.13
 ·exact F.14 x b e
theorem kY.nextS(F:kY N sc U J μ h)(st:dA μ h h')(k:∀b o,h.get? b=some o->gJ U b->∃s,h'.get? b=some {o with slots:=s})(j:∀a∈ν,h.get? a=none):kY N sc U J (μ++ν) h':=by
 refine aI F.10 λmm g=>⟨F.1,F.2,F.3,F.4,F.5,F.6,F.7,F.8,F.9,⟨mm,yb g λo d=>k _ o d (.inl rfl)⟩,(λx e=>?_),(λx c e=>?_),(λq=>?_),(λx c e q=>?_),(λi v e=>?_)⟩
 ·exact bS (F.11 x e) λc m f n=>(cP c m f (zj n λo d=>k _ o d (.inr ⟨x,f⟩)))
 ·exact aI (F.12 x c e) λm n=>⟨m,zj n λo d=>k _ o d (.inr ⟨x,e⟩)⟩
 ·rcases cO.mp q with q|q
  ·exact F.13 q
  ·refine qd g λo es ep d _=>?_;clear g
   have:=j _ q;rw[d]at this;exact gO this
 ·rcases cO.mp q with q|q
  ·exact F.14 x c e q
  ·refine lG (F.12 x c e) λ_ u p _=>?_
   have:=j _ q;rw[p]at this;exact gO this
 ·exact g_ (F.15 i v e) λx kk t f l r=>(dk x kk t f (l.keep k) (r.keep st j))
theorem kY.next(F:kY N sc U J μ h)(st:dA μ h h')(k:∀b o,h.get? b=some o->gJ U b->h'.get? b=some o)(c:∀a∈ν,h.get? a=none):kY N sc U J (μ++ν) h':=
 F.nextS st (λb o e w=>⟨o.slots,k b o e w⟩) c
theorem Nx.refl(M:bw B.prog B.w B.N μ m s.heap):Nx B P μ s m μ s:=
 ⟨M,(ad [] (bZ _).symm (λ_ h=>bx h)),λ_ _ e _=>.inl e,λ_ o e=>(b6 o e id (λ_=>id)),rfl,rfl⟩
theorem Nx.not_new(x:Nx B P μ s m' μ' s'){b:Addr}(e:s.heap.get? b=some o)(q:b∉μ):b∉μ':=by
 refine ac x.2 λν a c=>Z a λz=>?_;rcases cO.mp z with z|z
 ·exact q z
 ·rw[c b z]at e;exact aN e
theorem Nx.slots(x:Nx B P μ s m' μ' s'){b:Addr}(e:s.heap.get? b=some o)(q:¬(b∈μ\/P b)):∃sl,s'.heap.get? b=some {o with slots:=sl}:=by
 rcases x.3 b o e q with z|⟨_,_,z⟩
 ·exact⟨o.slots,z⟩
 ·exact z
theorem Nx.kep(x:Nx B P μ s m' μ' s'){b:Addr}(e:s.heap.get? b=some o)(q:¬(b∈μ\/P b))(a:¬d9 o):s'.heap.get? b=some o:=
 (x.3 b o e q).elim id λz=>absurd z.1 a
theorem Nx.ns(x:Nx B P μ s m' μ' s')(n:s.heap.Ns a mm)(q:¬(a∈μ\/P a)):s'.heap.Ns a mm:=yb n λ_ b=>x.slots b q
theorem wY(q:dv o):¬d9 o:=by
 rintro⟨es,ep,e⟩;rcases q with⟨_,i,k,z⟩|⟨_,_,z⟩
 ·rw[e]at z;exact kk PySem.Data.ctorIdx z rfl
 ·rw[e]at z;exact aR z
theorem e8{vs:Array Value}(q:o.data=.fields vs):¬d9 o:=λb=>(by refine eC b λ_ _ e=>?_;clear b;exact by rw[e]at q;exact kk PySem.Data.ctorIdx q rfl)
theorem rU{vs:Array Value}(q:o.data=.seq vs n):¬d9 o:=λb=>(by refine eC b λ_ _ e=>?_;clear b;exact by rw[e]at q;exact kk PySem.Data.ctorIdx q rfl)
theorem Nx.trans(x:Nx B P μ s m' μ' s')(y:Nx B P μ' s' m'' μ'' s''):Nx B P μ s m'' μ'' s'':=by
 have g:=λb o e q=>x.not_new (b:=b) (o:=o) e q;refine ac x.2 λν c A=>?_;subst c;refine ac y.2 λE c C=>?_;subst c;refine⟨y.1,(ad _ (Z cq rfl) (λa f=>?_)),λb o e q=>?_,λb o e=>?_,y.5.trans x.5,y.6.trans x.6⟩
 ·rcases cO.mp f with f|f
  ·exact A a f
  ·cases q:s.heap.get? a with
   |none=>rfl
   |some o=>obtain⟨m,e,_⟩:=x.4 a o q;rw[C a f]at e;exact aN e
 ·have p:¬(b∈μ++ν\/P b):=λz=>z.elim (g b o e λz=>q (.inl z)) λz=>q (.inr z)
  rcases x.3 b o e q with k|⟨d,u,F,k⟩
  ·exact y.3 b o k p
  ·exact aI (y.slots k p) λl v=>.inr ⟨d,u,l,v⟩
 ·exact cB (x.4 b o e) λm t w r=>cB (y.4 b m t) λD i j h=>(b6 _ i (λn=>j (w n)) (λq d=>h (g b o e q) (r q d)))
theorem Nx.mono(x:Nx B P μ s m' μ' s')(i:∀b,P b->P' b):Nx B P' μ s m' μ' s':=
 ⟨x.1,x.2,λb o e q=>x.3 b o e λz=>q (z.imp id (i b)),x.4,x.5,x.6⟩
theorem Nx.still(x:Nx B No μ s m' μ' s'):dA μ s.heap s'.heap:=λ_ _ e w q=>x.kep e (λz=>z.elim q False.elim) (wY w)
theorem Nx.of_keep(M:bw B.prog B.w B.N μ m s.heap)(k:∀b o,s.heap.get? b=some o->s'.heap.get? b=some o)(g:s'.gens=s.gens)(o:s'.os=s.os):Nx B P μ s m μ s':=
 ⟨M.keep k,(ad [] (bZ _).symm (λ_ h=>bx h)),λb o e _=>.inl (k b o e),λb o e=>(b6 o (k b o e) id (λ_=>id)),g,o⟩
theorem Nx.toks(M:bw B.prog B.w B.N μ m s.heap) n:Nx B P μ s m μ {s with toks:=n}:=Nx.of_keep M (λ_ _ e=>e) rfl rfl
theorem Nx.new(M:bw B.prog B.w B.N μ m s.heap)(k:∀b o,s.heap.get? b=some o->s'.heap.get? b=some o){o:O}(f:s.heap.get? a=none)(c:gg B.prog B.w B.N (μ++[a]) s'.heap a o)
 (g:s'.gens=s.gens)(oo:s'.os=s.os):Nx B P μ s (m++[o]) (μ++[a]) s':=
 ⟨M.new k f c,(ad _ rfl (λb d=>by simp only[b5]at d;exact Z d f)),λb o e _=>.inl (k b o e),λb o e=>(b6 o (k b o e) id (λ_=>id)),g,oo⟩
theorem Nx.upd(M:bw B.prog B.w B.N μ m s.heap){o:O}(d:μ[n]?=some a)(k:iz (·=a) s.heap s'.heap)(c:gg B.prog B.w B.N μ s'.heap a o)
 (g:s'.gens=s.gens)(oo:s'.os=s.os)(np:autoParam (o.isPart=false) bF):Nx B P μ s (m.set n o) μ s':=by
 refine⟨(M.upd d k c),(ad [] (bZ _).symm (λ_ h=>bx h)),λb o e q=>.inl (k b o e λz=>q (.inl (z▸(bN d)))),λb f e=>?_,g,oo⟩
 by_cases q:b=a
 ·exact Z q<|ac c.obj λob i n=>(b6 ob i (λ_=>n np) (λz=>absurd (bN d) z))
 ·exact(b6 f (k b f e q) id (λ_=>id))
theorem j4.next(f:j4 fs μ s.heap)(x:Nx B P μ s m' μ' s'):j4 fs μ' s'.heap:=λU he=>gu (f _ he) λL o e a d n=>cB (x.4 L o a) λg c _ b=>(hA L g e c (b n d) (x.not_new a n))
theorem j4.cons(f:j4 fs μ h)(b:U.frame=some L)(c:h.get? L=some o)(d:d9 o)(n:L∉μ):j4 (U::fs) μ h:=λx a=>by
 rcases bK.mp a with rfl|a
 ·exact(hA L o b c d n)
 ·exact f x a
theorem zM(m:∀b o,h.get? b=some o->(∀vs,o.data≠.fields vs)->∃c,h'.get? b=some c/\∀vs,c.data≠.fields vs){l:List Env}(w:h.FunFrames base l):h'.FunFrames base l:=by
 induction l with
 |nil=>trivial
 |cons e l k=>exact MI w.2.1 λL o f g i j=>ac (m L o i j) λc d n=>bt w.1 (vf L c f g d n) (k w.2.2)
theorem Fe(g:∀b o,h.get? b=some o->∃d,br (h'.get? b=some d) (((∀vs,o.data≠.fields vs)->∀vs,d.data≠.fields vs)) ((b∉μ->d9 o->d9 d))){l:List Env}(w:h.FunFrames base l):h'.FunFrames base l:=
 zM (λb o e c=>cB (g b o e) λd f n _=>ad d f (n c)) w
theorem b_.next(S:b_ B fs m μ s)(x:Nx B P μ s m' μ' s')(p:∀b,P b->B.h0.get? b=none):b_ B fs m' μ' s':=by
 refine ac x.2 λν d f=>?_;subst d;refine⟨λb o e=>(x.3 b o (S.1 b o e) λq=>?_).elim id (λz=>by rw[z.2.1]at e;exact aN e),x.5.trans S.2,x.6.trans S.3,x.1,λa c=>?_,Fe x.4 S.6,(S.7.next x)⟩
 ·rcases q with q|q
  ·rw[S.5 b q]at e;exact aN e
  ·rw[p b q]at e;exact aN e
 ·rcases cO.mp c with c|c
  ·exact S.5 a c
  ·cases q:B.h0.get? a with
   |none=>rfl
   |some o=>have:=S.1 a o q;rw[f a c]at this;exact aN this
theorem St.next(S:St B sc fs U J m μ s)(x:Nx B No μ s m' μ' s'):St B sc fs U J m' μ' s':=by refine ac x.2 λν a d=>?_;subst a;exact⟨(S.1.next x λ_ q=>q.elim),S.2.nextS x.still (λb o e c=>(λb o e q=>x.slots e q) b o e λq=>q.elim (S.2.own_not c) False.elim) d,S.3⟩
end
variable{B:bB}{J:bh}
mutual
noncomputable def V.py : V → PyData
  | .none => .none
  | .bool _ => .dict []
  | .int i => .int i
  | .str x => .str x
  | .tup l => .tuple (V.pys l)
  | .loc _ => .dict []
  | .obj _ _ => .dict []
noncomputable def V.pys : List V → List PyData
  | [] => []
  | x :: l => V.py x :: V.pys l
end
mutual
noncomputable def V.plain : Nat → V → Bool
  | _, .none => true
  | _, .bool _ => false
  | _, .int _ => true
  | _, .str x => PyData.strOk x
  | n, .tup l => Nat.casesOn (motive := fun _ => Bool) n false fun n => V.plains n l
  | _, .loc _ => false
  | _, .obj _ _ => false
noncomputable def V.plains : Nat → List V → Bool
  | _, [] => true
  | n, x :: l => V.plain n x && V.plains n l
end
def V.eqb(x y:V):Bool:=PyData.eqv x.py y.py
def V.eqbs(l r:List V):Bool:=PyData.eqvAll (V.pys l) (V.pys r)
theorem V.reads:(∀x v n,aj N μ h x v->x.plain n=true->∃as,Reads h v x.py as)/\∀l vs n,aq N μ h l vs->V.plains n l=true->∃as,ReadsAll h vs (V.pys l) as:=
 V.ind (λ_ _ e _=>Z e<|⟨_,Reads.none⟩) (λ_ _ _ _ p=>aR p) (λ_ _ _ e _=>by refine aI e λt b=>?_;clear e;exact Z b<|⟨_,Reads.int _ _⟩) (λ_ _ _ e _=>by refine aI e λt b=>?_;clear e;exact Z b<|⟨_,Reads.str _ _⟩)
  (λl j v n e p=>by
   cases n with
   |zero=>exact aR p
   |succ n=>refine gu e λa items z _ c r=>?_;clear e;refine fv c λo i f w=>?_;clear c;refine aI w λk g=>?_;clear w;exact aI (j _ n r p) λas q=>⟨_,z▸Reads.tuple i f g q⟩)
  (λ_ _ _ _ p=>aR p) (λ_ _ _ _ _ p=>aR p) (λ_ _ e _=>Z e<|⟨_,ReadsAll.nil⟩) λx l s m vs n e p=>by refine bX e λv w z d r=>?_;clear e;exact a_ (bW.mp p) λu p2=>aI (s v n d u) λas q=>aI (m w n r p2) λA y=>⟨_,z▸ReadsAll.cons q y⟩
theorem aj.reads{v:Value} n(e:aj N μ h x v)(p:x.plain n=true):∃as,Reads h v x.py as:=V.reads.1 x v n e p
theorem aq.reads n(e:aq N μ h l vs)(p:V.plains n l=true):∃as,ReadsAll h vs (V.pys l) as:=V.reads.2 l vs n e p
theorem V.lay2:(∀(x:V) n,x.plain n=true->x.py.canLay0=true/\x.py.depth<=n)/\∀l n,V.plains n l=true->PyData.canLayAll0 (V.pys l)=true/\PyData.depthAll (V.pys l)<=n:=
 V.ind (λn _=>⟨rfl,eT n⟩) (λ_ _ p=>aR p) (λ_ n _=>⟨rfl,eT n⟩) (λ_ n p=>⟨p,eT n⟩)
  (λl a n p=>by
   cases n with
   |zero=>exact aR p
   |succ n=>exact⟨(a n p).1,jp (a n p).2⟩)
  (λ_ _ p=>aR p) (λ_ _ _ p=>aR p) (λn _=>⟨rfl,eT n⟩) λx l c b n p=>⟨bW.mpr ⟨(c n (bW.mp p).1).1,(b n (bW.mp p).2).1⟩,Nat.max_le.mpr ⟨(c n (bW.mp p).1).2,(b n (bW.mp p).2).2⟩⟩
theorem V.lay n(x:V)(p:x.plain n=true):x.py.canLay0=true/\x.py.depth<=n:=V.lay2.1 x n p
theorem V.lays n l(p:V.plains n l=true):PyData.canLayAll0 (V.pys l)=true/\PyData.depthAll (V.pys l)<=n:=V.lay2.2 l n p
theorem V.eqb_eq2:(∀x y:V,V.eqb x y=true->x=y)/\∀l r:List V,V.eqbs l r=true->l=r:=
 V.ind (λy h=>by cases y<;>first|rfl|exact aR h) (λ_ y h=>by cases y<;>exact aR h) (λi y h=>by cases y<;>first|exact bg _ (eq_of_beq h)|exact aR h) (λi y h=>by cases y<;>first|exact bg _ (eq_of_beq h)|exact aR h)
  (λl a y h=>by cases y<;>first|exact bg _ (a _ h)|exact aR h) (λ_ y h=>by cases y<;>exact aR h) (λ_ _ y h=>by cases y<;>exact aR h) (λr h=>by cases r<;>first|rfl|exact aR h) λx l c b r h=>by
   cases r with
   |nil=>exact aR h
   |cons y r=>exact Z (c y (bW.mp h).1)<|Z (b r (bW.mp h).2) rfl
theorem V.eqb_eq x y(h:V.eqb x y=true):x=y:=V.eqb_eq2.1 x y h
theorem V.eqb_refl2:(∀x n,x.plain n=true->V.eqb x x=true)/\∀l n,V.plains n l=true->V.eqbs l l=true:=
 V.ind (λ_ _=>rfl) (λ_ _ p=>aR p) (λi _ _=>oK i) (λi _ _=>oK i) (λl a n p=>by
  cases n with
  |zero=>exact aR p
  |succ n=>exact a n p) (λ_ _ p=>aR p) (λ_ _ _ p=>aR p) (λ_ _=>rfl) λx l c b n p=>bW.mpr ⟨c n (bW.mp p).1,b n (bW.mp p).2⟩
theorem V.eqb_refl n x(h:x.plain n=true):V.eqb x x=true:=V.eqb_refl2.1 x n h
theorem V.eqv n k(x y:V)(_:x.plain n=true)(_:y.plain k=true):PyData.eqv x.py y.py=V.eqb x y:=rfl
inductive ds(B:bB)(μ:List Addr)(s:Shared)(Q:aS)(v':Value)(s':Shared):Prop
 |mk(v:V)(m':av)(μ':List Addr)(q:Q v m')(r:aj B.N μ' s'.heap v v')(n:Nx B No μ s m' μ' s')
theorem ds.k(w:ds B μ s Q v' s')(f:∀v:V,∀m':av,∀μ':List Addr,∀q:Q v m',∀r:aj B.N μ' s'.heap v v',∀n:Nx B No μ s m' μ' s',G):G:=by obtain⟨v,m',μ',q,r,n⟩:=w;exact f v m' μ' q r n
inductive nu(B:bB)(μ:List Addr)(s:Shared)(Q:Bool->av->Prop)(b:Bool)(s':Shared):Prop
 |mk(m':av)(μ':List Addr)(q:Q b m')(n:Nx B No μ s m' μ' s')
theorem nu.k{Q:Bool->av->Prop}(w:nu B μ s Q b s')(f:∀m':av,∀μ':List Addr,∀q:Q b m',∀n:Nx B No μ s m' μ' s',G):G:=by obtain⟨m',μ',q,n⟩:=w;exact f m' μ' q n
inductive qS(B:bB)(μ:List Addr)(s:Shared)(Q:cD)(vs':List Value)(s':Shared):Prop
 |mk(vs:List V)(m':av)(μ':List Addr)(q:Q vs m')(r:aq B.N μ' s'.heap vs vs')(n:Nx B No μ s m' μ' s')
theorem qS.k{Q:cD}(w:qS B μ s Q vs' s')(f:∀vs:List V,∀m':av,∀μ':List Addr,∀q:Q vs m',∀r:aq B.N μ' s'.heap vs vs',∀n:Nx B No μ s m' μ' s',G):G:=by obtain⟨vs,m',μ',q,r,n⟩:=w;exact f vs m' μ' q r n
abbrev DE:=bh->av->aS->Prop
abbrev DB:=bh->av->(Bool->av->Prop)->Prop
abbrev DL:=bh->av->cD->Prop
def a7(B:bB)(sc:Scope)(d:Nat)(e:Expr)(D:DE):Prop:=
 ∀J m Q,D J m Q->∀A fs U μ s E,Ar d A fs->St B sc fs U J m μ s->wpAny (model B.prog B.w) A (eval e U) (ds B μ s Q) E s
def dg(B:bB)(sc:Scope)(d:Nat)(e:Expr)(D:DB):Prop:=
 ∀J m Q,D J m Q->∀A fs U μ s E,Ar d A fs->St B sc fs U J m μ s->wpAny (model B.prog B.w) A (isTrue e U (eval e U)) (nu B μ s Q) E s
def d7(B:bB)(sc:Scope)(d:Nat)(es:List Expr)(D:DL):Prop:=
 ∀J m Q,D J m Q->∀A fs U μ s E,Ar d A fs->St B sc fs U J m μ s->∀pos,wpAny (model B.prog B.w) A (spliced (backTo pos (starEach es U))) (qS B μ s Q) E s
def Rj(B:bB)(d:Nat)(t:Value->Sem Value)(O:V->av->aS->Prop):Prop:=
 ∀x m Q,O x m Q->∀A fs μ s E a,Ar d A fs->b_ B fs m μ s->aj B.N μ s.heap x a->wpAny (model B.prog B.w) A (t a) (ds B μ s Q) E s
def eg(B:bB)(d:Nat)(t:Value->Value->Sem Value)(O:V->V->av->aS->Prop):Prop:=
 ∀x y m Q,O x y m Q->∀A fs μ s E a b,Ar d A fs->b_ B fs m μ s->aj B.N μ s.heap x a->aj B.N μ s.heap y b->wpAny (model B.prog B.w) A (t a b) (ds B μ s Q) E s
section
variable{α β γ:Type}{f:α->Sem β}{Q:β->Shared->Prop}
theorem eQ{v:α}(h:wpAny M A (f v) Q E s):wpAny M A (pure v>>=f) Q E s:=ag (aD h)
theorem gR{f:Unit->Sem β}(h:wpAny M A (f ()) Q E s):wpAny M A (standAt p>>=f) Q E s:=ag (wpAny_standAt h)
theorem jW{p:String}{f:Unit->Sem β}(h:wpAny M A (f ()) Q E s):wpAny M A (rule p>>=f) Q E s:=ag (wpAny_rule h)
theorem eD{m:Sem α}(h:wpAny M A m (λa s'=>wpAny M A (f a) Q E s') E s):wpAny M A (holding vs m>>=f) Q E s:=ag (eJ h)
theorem iw{t:Sem α}{a:α}(e:t=pure a)(h:wpAny M A (f a) Q E s):wpAny M A (t>>=f) Q E s:=ag (wpAny_of_eq e h)
theorem f7{m:Sem α}{g:β->Sem γ}{Q:γ->Shared->Prop}(h:wpAny M A m (λa s'=>wpAny M A (f a) (λb c=>wpAny M A (g b) Q E c) E s') E s):wpAny M A ((m>>=f)>>=g) Q E s:=ag (ag h)
theorem fg{vs:Array Value}{x:Value}{f:Value->Sem β}(d:s.heap.get? a=some o)(b:o.data=.fields vs)(c:vs[i]?=some x)(h:wpAny M A (f x) Q E s):wpAny M A (field (.ref a) i>>=f) Q E s:=ag (wpAny_field d b c h)
theorem lQ{f:Option (Array Value)->Sem β}(c:s.heap.get? a=some o)(b:o.data=.seq items n)(h:wpAny M A (f (some items)) Q E s):wpAny M A (seqItems? (.ref a)>>=f) Q E s:=ag (wpAny_seqItems c b h)
theorem qH{f:Value->Sem β}(e:s.TypeIs v T)(h:wpAny M A (f (.type T)) Q E s):wpAny M A (typeOf v>>=f) Q E s:=ag (wpAny_typeOf e h)
end
theorem mo{t:Sem α}{Q a:α->Shared->Prop}(h:wpAny M A t Q E s)(f:∀v s',Q v s'->a v s'):wpAny M A t a E s:=wpAny_mono h f λ_ _ e=>e
theorem a7.go{P:bL}(h:a7 B sc d e D)(q:D J m Q)(a:Ar d A fs)(S:St B sc fs U J m μ s)(k:∀v s' x m' μ',Q x m'->aj B.N μ' s'.heap x v->Nx B No μ s m' μ' s'->P v s'):wpAny (model B.prog B.w) A (eval e U) P E s:=
 mo (h J m Q q A fs _ μ s E a S) λv s' w=>w.k (k v s')
theorem dg.go{Q:Bool->av->Prop}{P:Bool->Shared->Prop}(h:dg B sc d e D)(q:D J m Q)(a:Ar d A fs)(S:St B sc fs U J m μ s)(k:∀b s' m' μ',Q b m'->Nx B No μ s m' μ' s'->P b s'):wpAny (model B.prog B.w) A (isTrue e U (eval e U)) P E s:=
 mo (h J m Q q A fs _ μ s E a S) λv s' w=>w.k (k v s')
theorem d7.go{Q:cD}{P:List Value->Shared->Prop}(h:d7 B sc d es D)(q:D J m Q)(a:Ar d A fs)(S:St B sc fs U J m μ s) pos(k:∀v s' x m' μ',Q x m'->aq B.N μ' s'.heap x v->Nx B No μ s m' μ' s'->P v s'):wpAny (model B.prog B.w) A (spliced (backTo pos (starEach es U))) P E s:=
 mo (h J m Q q A fs _ μ s E a S _) λv s' w=>w.k (k v s')
theorem eg.go{t:Value->Value->Sem Value}{O:V->V->av->aS->Prop}{P:bL}{v w:Value}(h:eg B d t O)(q:O x y m Q)(a:Ar d A fs)(C:b_ B fs m μ s)(b:aj B.N μ s.heap x v)(c:aj B.N μ s.heap y w)(k:∀v s' x m' μ',Q x m'->aj B.N μ' s'.heap x v->Nx B No μ s m' μ' s'->P v s'):wpAny (model B.prog B.w) A (t v w) P E s:=
 mo (h x y m Q q A fs μ s E v w a C b c) λv s' w=>w.k (k v s')
theorem aj.nx{a:Value}(M:bw B.prog B.w B.N μ m s.heap)(n:Nx B No μ s m' μ' s')(r:aj B.N μ s.heap x a):aj B.N μ' s'.heap x a:=ac n.2 λd b c=>Z b<|r.keep n.still c
theorem aq.nx{x:List V}{a:List Value}(M:bw B.prog B.w B.N μ m s.heap)(n:Nx B No μ s m' μ' s')(r:aq B.N μ s.heap x a):aq B.N μ' s'.heap x a:=ac n.2 λd b c=>Z b<|r.keep n.still c
theorem ds.step(n:Nx B No μ s m' μ' s')(p:ds B μ' s' Q v s''):ds B μ s Q v s'':=by refine p.k λx b a q r d=>?_;clear p;exact⟨x,b,a,q,r,n.trans d⟩
theorem nu.step{Q:Bool->av->Prop}(n:Nx B No μ s m' μ' s'){v:Bool}(p:nu B μ' s' Q v s''):nu B μ s Q v s'':=by refine p.k λb a q d=>?_;clear p;exact⟨b,a,q,n.trans d⟩
theorem qS.step{Q:cD}(n:Nx B No μ s m' μ' s'){v:List Value}(p:qS B μ' s' Q v s''):qS B μ s Q v s'':=by refine p.k λx b a q r d=>?_;clear p;exact⟨x,b,a,q,r,n.trans d⟩
theorem e9{v:V}{a:Value}(M:bw B.prog B.w B.N μ m s.heap)(q:Q v m)(r:aj B.N μ s.heap v a):ds B μ s Q a {s with toks:=n}:=
 ⟨v,m,μ,q,r,Nx.toks M n⟩
theorem fx{v:V}{a:Value}(M:bw B.prog B.w B.N μ m s.heap)(q:Q v m)(r:aj B.N μ s.heap v a):ds B μ s Q a s:=
 ⟨v,m,μ,q,r,Nx.refl M⟩
theorem OO{i:Int}:a7 B sc d (.Constant (.int i) k p) λ_ m Q=>Q (.int i) m:=by intro J m Q q A fs U μ s E a S;exact wpAny_Constant_int (e9 S.1.4 q (⟨_,rfl⟩))
theorem OG{x:Str}:a7 B sc d (.Constant (.str x) k p) λ_ m Q=>Q (.str x) m:=by intro J m Q q A fs U μ s E a S;exact Constant_str (e9 S.1.4 q (⟨_,rfl⟩))
theorem OI:a7 B sc d (.Constant .none k p) λ_ m Q=>Q .none m:=by intro J m Q q A fs U μ s E a S;exact wpAny_Constant_none (fx S.1.4 q rfl)
theorem OY:a7 B sc d (.Constant (.bool b) k p) λ_ m Q=>Q (.bool b) m:=by intro J m Q q A fs U μ s E a S;exact wpAny_Constant_bool (fx S.1.4 q rfl)
def jd(a b:Nat)(P:Prop):Prop:=Bool.casesOn (motive:=λ_=>Prop) (Nat.beq a b) False P
theorem kI{a b:Nat}{P:Prop}(q:jd a b P):a=b/\P:=by
 cases e:Nat.beq a b with
 |false=>unfold jd at q;rw[e]at q;exact q.elim
 |true=>unfold jd at q;rw[e]at q;exact⟨Nat.eq_of_beq_eq_true e,q⟩
def ko{α:Type}(o:Option α)(P:α->Prop):Prop:=Option.casesOn (motive:=λ_=>Prop) o False P
theorem mH{o:Option α}{P:α->Prop}(q:ko o P):∃v,o=some v/\P v:=by
 cases o with
 |none=>exact q.elim
 |some v=>exact(ad v rfl q)
theorem d8{o:Option α}{P:α->Prop}{v:α}(h:o=some v)(q:P v):ko o P:=Z h q
def sa(x:V)(P:Nat->Nat->Prop):Prop:=V.casesOn (motive_1:=λ_=>Prop) x False (λ_=>False) (λ_=>False) (λ_=>False) (λ_=>False) (λ_=>False) P
theorem xT{P:Nat->Nat->Prop}(q:sa x P):aV λc n=>x=.obj c n/\P c n:=by
 cases x with
 |obj c n=>exact(cP c n rfl q)
 |_=>exact q.elim
def xX(P:List (Nat×V)->Prop):O->Prop:=λo=>O.casesOn (motive:=λ_=>Prop) o (λ_=>False) P (λ_=>False) (λ_=>False) (λ_=>False) (λ_ _=>False) False
theorem B3{o:O}{P:List (Nat×V)->Prop}(q:xX P o):∃l,o=.fields l/\P l:=by
 cases o with
 |fields l=>exact(ad l rfl q)
 |_=>exact q.elim
inductive iA(m:av)(n:Nat)(P:O->Prop):Prop
 |mk{o:O}(h:m[n]?=some o)(q:P o)
theorem iA.k{P:O->Prop}(w:iA m n P)(f:∀{o:O},∀h:m[n]?=some o,∀q:P o,G):G:=by obtain⟨h,q⟩:=w;exact f h q
def An(i:Nat):DE:=λJ m Q=>ko J[i]? λo=>ko o λv=>Q v m
inductive qZ(m:av)(n k:Nat)(P:List V->Prop):Prop
 |mk(l:List V)(e:m[n]?=some (.list l))(h:l.length<=k)(q:P l)
theorem qZ.k{n k:Nat}{P:List V->Prop}(w:qZ m n k P)(f:∀l:List V,∀e:m[n]?=some (.list l),∀h:l.length<=k,∀q:P l,G):G:=by obtain⟨l,e,h,q⟩:=w;exact f l e h q
theorem OC{x:Str} i(u:sc.names[i]?=some (x,k)):a7 B sc d (.Name x p) (An i):=by
 refine λJ m Q q A fs U μ s E a S=>ac (mH q) λo e q=>ac (mH q) λv f q=>?_;subst f;refine g_ (S.2.15 i v e) λG D F g l r=>?_;rw[u]at g;replace g:=ji (aG g);refine a_ g λf j=>?_;clear g;subst f;subst j;have C:jL x=true:=have:=(bW.mp S.2.8).2;jv.mp this _ (bN u);refine a_ (bW.mp C) λw y=>?_;simp only[Bool.not_eq_true']at w y;refine wpAny_Name ?_ w;have b:=fx S.1.4 q r;rcases l with⟨h,mm,z,hm⟩|⟨h|h,c,n,t⟩
 ·exact rL S.2.1 h z hm b
 ·exact wpAny_loadName_cell S.2.1 h n t b
 ·exact wpAny_loadName_free S.2.1 h n t b y
theorem O1{l r:Expr}{O:V->V->av->aS->Prop}(h1:a7 B sc d l f)(h:a7 B sc d r D2)(i:eg B d (binaryOp op) O):
 a7 B sc d (.BinOp l op r p) λJ m Q=>f J m λx m=>D2 J m λy m=>O x y m Q:=by
 intro J m Q q A fs U μ s E a S;exact wpAny_BinOp (h1.go q a S λo s1 x m1 μ1 q1 k b=>h.go q1 a (S.next b) λt s2 y j e q2 n c=>mo (i x y j Q q2 A fs e s2 E o t a ((S.next b).next c).1 (k.nx b.1 c) n) (λ_ _ p=>(p.step c).step b))
theorem OV{l r:Expr}{O:V->V->av->aS->Prop}(h1:a7 B sc d l f)(h:a7 B sc d r D2)(i:eg B d (compareOp op) O)
 (hm:behindInMarks op r=false:=by with_unfolding_all rfl):
 a7 B sc d (.Compare l [op] [r] p) λJ m Q=>f J m λx m=>D2 J m λy m=>O x y m Q:=by
 intro J m Q q A fs U μ s E a S;exact wpAny_Compare1 (hm:=hm) (h1.go q a S λo s1 x m1 μ1 q1 k b=>h.go q1 a (S.next b) λt s2 y j e q2 n c=>mo (i x y j Q q2 A fs e s2 E o t a ((S.next b).next c).1 (k.nx b.1 c) n) (λ_ _ p=>(p.step c).step b))
variable{D D1 D2:DE}{Ds:DL}
theorem aj.int_inv{i:Int}(r:aj N μ h (.int i) v):∃t,v=.int i t:=r
theorem aj.str_inv{x:Str}(r:aj N μ h (.str x) v):∃t,v=.str x t:=r
theorem aj.bool_inv(r:aj N μ h (.bool b) v):v=.bool b:=r
theorem aj.none_inv(r:aj N μ h .none v):v=.none:=r
theorem aj.tup_inv(r:aj N μ h (.tup l) v):aV λa items=>dQ (v=.ref a) (IsTup h a items) (aq N μ h l items.toList) (a∉μ):=by refine gu r λa i h1 b c d=>?_;clear r;exact(hA a i h1 c d b)
theorem aj.loc_inv(r:aj N μ h (.loc n) v):∃a,v=.ref a/\μ[n]?=some a:=r
theorem aj.obj_inv(r:aj N μ h (.obj c n) v):cL λa o b=>o9 (v=.ref a) (h.get? a=some o) (o.cls=.ref (N.cls c)) (o.dict=some b) (μ[n]?=some b) (yM o.data=true) (a∉μ):=r
theorem aj.int_ i t:aj N μ h (.int i) (.int i t):=⟨t,rfl⟩
theorem aj.str_ x t:aj N μ h (.str x) (.str x t):=⟨t,rfl⟩
theorem aj.bool_ b:aj N μ h (.bool b) (.bool b):=rfl
theorem aj.none_:aj N μ h .none .none:=rfl
theorem aj.tup_(x:IsTup h a items)(r:aq N μ h l items.toList)(b:a∉μ):aj N μ h (.tup l) (.ref a):=(hA a _ rfl b x r)
theorem aj.loc_(e:μ[n]?=some a):aj N μ h (.loc n) (.ref a):=(ad a rfl e)
def df(x:V)(P:Int->Prop):Prop:=V.casesOn (motive_1:=λ_=>Prop) x False (λ_=>False) P (λ_=>False) (λ_=>False) (λ_=>False) λ_ _=>False
def pR(x:V)(P:Str->Prop):Prop:=V.casesOn (motive_1:=λ_=>Prop) x False (λ_=>False) (λ_=>False) P (λ_=>False) (λ_=>False) λ_ _=>False
def ly(x:V)(T:List V->Prop)(P:Nat->Prop):Prop:=V.casesOn (motive_1:=λ_=>Prop) x False (λ_=>False) (λ_=>False) (λ_=>False) T P λ_ _=>False
def kq(x:V)(P:List V->Prop):Prop:=ly x P λ_=>False
def gp(x:V)(P:Nat->Prop):Prop:=ly x (λ_=>False) P
def g8(vs:List V)(P:V->Prop):Prop:=List.casesOn (motive:=λ_=>Prop) vs False λx t=>List.casesOn (motive:=λ_=>Prop) t (P x) λ_ _=>False
def n9(vs:List V)(P:V->V->Prop):Prop:=List.casesOn (motive:=λ_=>Prop) vs False λx t=>g8 t (P x)
def B7(vs:List V)(P:V->V->V->Prop):Prop:=List.casesOn (motive:=λ_=>Prop) vs False λx t=>n9 t (P x)
@[elab_as_elim] theorem cQ{P:Int->Prop}{M:V->Value->Prop}(q:df x P)(r:aj N μ h x v)(k:∀i t,P i->M (.int i) (.int i t)):M x v:=by
 cases x with
 |int i=>exact aI r.int_inv λt b=>Z b<|k i t q
 |_=>exact q.elim
@[elab_as_elim] theorem ue{P:Str->Prop}{M:V->Value->Prop}(q:pR x P)(r:aj N μ h x v)(k:∀i t,P i->M (.str i) (.str i t)):M x v:=by
 cases x with
 |str i=>exact aI r.str_inv λt b=>Z b<|k i t q
 |_=>exact q.elim
@[elab_as_elim] theorem nM{P:Nat->Prop}{M:V->Value->Prop}(q:ly x T P)(r:aj N μ h x v)(k:∀l a items,IsTup h a items->aq N μ h l items.toList->a∉μ->T l->M (.tup l) (.ref a))(f:∀n a,μ[n]?=some a->P n->M (.loc n) (.ref a)):M x v:=by
 cases x with
 |tup l=>exact gu r.tup_inv λa items c e i g=>Z c<|k l a _ e i g q
 |loc n=>exact ac r.loc_inv λa c d=>Z c<|f n a d q
 |_=>exact q.elim
theorem lx(q:kq x T):∃l,x=.tup l/\T l:=by
 cases x with
 |tup l=>exact(ad l rfl q)
 |_=>exact q.elim
theorem xW{P:Int->Prop}(q:df y P):∃a,y=.int a/\P a:=by
 cases y with
 |int a=>exact(ad a rfl q)
 |_=>exact q.elim
theorem Lg{P:Str->Prop}(q:pR y P):∃a,y=.str a/\P a:=by
 cases y with
 |str a=>exact(ad a rfl q)
 |_=>exact q.elim
@[elab_as_elim] theorem Hb{M:V->Value->Prop}(q:kq x T)(r:aj N μ h x v)(k:∀l a items,IsTup h a items->aq N μ h l items.toList->a∉μ->T l->M (.tup l) (.ref a)):M x v:=nM q r k λ_ _ _ z=>z.elim
@[elab_as_elim] theorem gt{P:Nat->Prop}{M:V->Value->Prop}(q:gp x P)(r:aj N μ h x v)(k:∀n a,μ[n]?=some a->P n->M (.loc n) (.ref a)):M x v:=nM q r (λ_ _ _ _ _ _ z=>z.elim) k
@[elab_as_elim] theorem h9{vs:List V}{P:V->Prop}{M:List V->List Value->Prop}(q:g8 vs P)(r:aq N μ h vs vals)(k:∀x v,aj N μ h x v->P x->M [x] [v]):M vs vals:=by
 cases vs with
 |nil=>exact q.elim
 |cons x t=>
  refine bX r.inv_cons λv w b c d=>Z b ?_;clear r;cases t with
  |nil=>exact Z d.inv_nil<|k x v c q
  |cons y t=>exact q.elim
@[elab_as_elim] theorem pZ{vs:List V}{P:V->V->Prop}{M:List V->List Value->Prop}(q:n9 vs P)(r:aq N μ h vs vals)(k:∀x y v w,aj N μ h x v->aj N μ h y w->P x y->M [x,y] [v,w]):M vs vals:=by
 cases vs with
 |nil=>exact q.elim
 |cons x t=>exact bX r.inv_cons λv w b c d=>Z b<|h9 q d λy w e q=>k x y v w c e q
@[elab_as_elim] theorem Lu{vs:List V}{P:V->V->V->Prop}{M:List V->List Value->Prop}(q:B7 vs P)(r:aq N μ h vs vals)(k:∀x y z v w u,aj N μ h x v->aj N μ h y w->aj N μ h z u->P x y z->M [x,y,z] [v,w,u]):M vs vals:=by
 cases vs with
 |nil=>exact q.elim
 |cons x t=>exact bX r.inv_cons λv w b c d=>Z b<|pZ q d λy z w u e f q=>k x y z v w u c e f q
theorem aq.size(r:aq N μ h l items.toList):l.length=items.size:=by have:=r.length;rwa [mh]at this
theorem aq.fits(r:aq N μ h l items.toList)(hz:l.length<=10000):items.size<=sizeLine:=Z r.size.symm<|aF hz
theorem Ar.line1(a:Ar d A fs):A.in1.units<cLine:=by have:=a.2;refine ?_;unfold cLine;exact aE this
theorem bw.list{n:Nat}(M:bw prog w N μ m h)(b:μ[n]?=some a)(e:m[n]?=some (.list l)):∃items,h.IsList a items/\aq N μ h l items.toList:=ac (M.3 n a _ b e) λi p r=>(ad i p.isList r)
theorem bw.plain{n:Nat}(M:bw prog w N μ m h)(b:μ[n]?=some a)(e:m[n]?=some (.list l)):∃items,h.PlainList a items/\aq N μ h l items.toList:=M.3 n a _ b e
theorem bQ(h:Heap):h.get? h.objs.size=none:=by
 cases q:h.get? _ with
 |none=>rfl
 |some o=>exact absurd (dH q) (jY _)
theorem mP(M:bw B.prog B.w B.N μ m s.heap)(r:aq B.N μ s.heap l vs)(a:o={cls:=.type "tuple",data:=.seq vs.toArray})(q:Q (.tup l) m):
 ds B μ s Q (.ref s.heap.objs.size) {s with heap:=s.heap.push o,toks:=n}:=by
 refine Z a ?_;have k:∀b o,s.heap.get? b=some o->(s.heap.push {cls:=.type "tuple",data:=.seq vs.toArray}).get? b=some o:=λb o e=>bj _ e;refine⟨.tup l,m,μ,q,aj.tup_ (lH _ (cg _ rfl) rfl 0 rfl) ?_ (M.new_not (bQ _)),Nx.of_keep M k rfl rfl⟩;have:=r.keep (λb o e _ _=>k b o e) (λ_ q=>bx q)
 rwa [bZ]at this
theorem vB(M:bw B.prog B.w B.N μ m s.heap)(r:aq B.N μ s.heap l vs)(d:o={cls:=.type "list",data:=.seq vs.toArray})(q:Q (.loc m.length) (m++[.list l])):
 ds B μ s Q (.ref s.heap.objs.size) {s with heap:=s.heap.push o,toks:=n}:=by
 refine Z d ?_;have k:∀b o,s.heap.get? b=some o->(s.heap.push {cls:=.type "list",data:=.seq vs.toArray}).get? b=some o:=λb o e=>bj _ e;refine⟨.loc _,m++[.list l],μ++[s.heap.objs.size],q,aj.loc_ ?_,Nx.new (o:=.list l) (s':={s with heap:=s.heap.push _,toks:=n}) M k (bQ _) (ad _ ⟨0,cg _ rfl⟩ ?_) rfl rfl⟩
 ·exact Z M.1.symm<|gN
 ·exact r.keep (λb o e _ _=>k b o e) (λc a=>by simp only[b5]at a;exact Z a<|bQ _)
def E8(x y:V)(m:av)(Q:aS):Prop:=V.casesOn (motive_1:=λ_=>Prop) x False (λ_=>False) (λi=>df y λj=>Q (.int (i+j)) m) (λx=>pR y λy=>x.length+y.length<=1000/\Q (.str (x++y)) m)
 (λa=>kq y λb=>a.length+b.length<=10000/\Q (.tup (a++b)) m) (λi=>gp y λj=>aV λa b=>dQ (m[i]?=some (.list a)) (m[j]?=some (.list b)) (a.length+b.length<=10000) (Q (.loc m.length) (m++[.list (a++b)]))) λ_ _=>False
theorem Lc:eg B d (binaryOp .Add) E8:=by
 intro x y m Q q A fs μ s E a b X S v D
 cases x with
 |int i=>refine aI v.int_inv λt f=>?_;subst f;exact cQ q D λj u q=>wpAny_add_int (e9 S.4 q (aj.int_ _ _))
 |str i=>refine aI v.str_inv λt f=>?_;subst f;exact ue q D λj u q=>add_str (λt' tk=>e9 S.4 q.2 (aj.str_ _ _)) (aC q.1 (by decide))
 |tup R=>
  refine gu v.tup_inv λI l f L r na=>?_;subst f;refine Hb q D λT Φ o C h nb z=>a_ z λhz q=>?_;clear z;obtain⟨⟨_,k,_,w⟩,g,rfl,n,rfl⟩:=id L;clear X L na;obtain⟨⟨_,F,_,H⟩,e,rfl,p,rfl⟩:=id C;have N:=r.size;have P:=h.size
  by_cases G:l=#[]
  ·subst G
   obtain rfl:R=[]:=v8 N;exact concat_meets (ad _ g rfl) (ad _ e rfl) noFill_tuple_add seq_tuple_add PySem.F.slot_tuple_add PySem.F.entry_tuple_add (PySem.F.args_tuple_add_2 _ _)
    (tuple_addW0 I Φ _ o n p k _ w _ rfl) (bt g e (fx S.4 q (aj.tup_ C h nb)))
  ·by_cases M:o=#[]
   ·subst M
    obtain rfl:T=[]:=v8 P;rw[bZ]at q;exact concat_meets (ad _ g rfl) (ad _ e rfl) noFill_tuple_add seq_tuple_add PySem.F.slot_tuple_add PySem.F.entry_tuple_add (PySem.F.args_tuple_add_2 _ _)
     (tuple_addW1 I Φ l _ n p k _ w _ (by simpa using G) rfl) (bt g e (fx S.4 q v))
   ·exact concat_meets (ad _ g rfl) (ad _ e rfl) noFill_tuple_add seq_tuple_add PySem.F.slot_tuple_add PySem.F.entry_tuple_add (PySem.F.args_tuple_add_2 _ _)
     (tuple_addW2 I Φ l o n p k _ w _ (by simpa using G) (by simpa using M) (Z ki<|dL hz (aA N.symm) (aA P.symm))) (bt g e (mP S.4 (r.append h) (by congr 2;simp) q))
 |loc i=>refine ac v.loc_inv λΩ f ha=>?_;subst f;refine gt q D λj W C z=>gu z λR T Y Ψ hz q=>?_;clear z;obtain⟨l,⟨⟨_,k,_,w⟩,g,rfl,n,rfl⟩,r⟩:=S.4.list ha Y;obtain⟨o,⟨⟨_,F,_,H⟩,e,rfl,p,rfl⟩,h⟩:=S.4.list C Ψ;exact concat_meets (ad _ g rfl) (ad _ e rfl) noFill_list_add seq_list_add PySem.F.slot_list_add PySem.F.entry_list_add (PySem.F.args_list_add_2 _ _) (list_addW Ω W l o n p k _ w _ (Z ki<|dL hz (aA r.size.symm) (aA h.size.symm))) (bt g e (vB S.4 (r.append h) (by congr 2;simp) q))
 |_=>exact q.elim
def AR(x y:V)(m:av)(Q:aS):Prop:=df x λi=>df y λj=>Q (.int (i-j)) m
theorem KJ:eg B d (binaryOp .Sub) AR:=λx y m Q q A fs μ s E a b g S e f=>cQ q e λi t q=>cQ q f λj u q=>PySem.P.sub_int (e9 S.4 q (aj.int_ _ _))
def Cw(x y:V)(m:av)(Q:aS):Prop:=df x λi=>df y λj=>br (i.natAbs<2^30) (j.natAbs<2^30) (Q (.int (i*j)) m)
def yj(x y:V)(m:av)(Q:aS):Prop:=df x λi=>df y λj=>j≠0/\Q (.int (i.fmod j)) m
theorem KS:eg B d (binaryOp .Mod) yj:=λx y m Q q A fs μ s E a b f S c e=>cQ q c λi t q=>cQ q e λj u q=>mod_int' q.1 (e9 S.4 q.2 (aj.int_ _ _))
def D_(x y:V)(m:av)(Q:aS):Prop:=df x λi=>df y λj=>dQ (i.natAbs<2^30) (0<j) (j<2^30) (Q (.int (i.fdiv j)) m)
def pQ(f:Int->Int->Bool)(x y:V)(m:av)(Q:aS):Prop:=df x λi=>df y λj=>Q (.bool (f i j)) m
theorem KV:eg B d (compareOp .Lt) (pQ λi j=>decide (i<j)):=λx y m Q q A fs μ s E a b g S e f=>cQ q e λi t q=>cQ q f λj u q=>PySem.P.lt_int (fx S.4 q (aj.bool_ _))
theorem K5:eg B d (compareOp .Gt) (pQ λi j=>decide (j<i)):=λx y m Q q A fs μ s E a b g S e f=>cQ q e λi t q=>cQ q f λj u q=>PySem.P.gt_int (fx S.4 q (aj.bool_ _))
theorem KZ:eg B d (compareOp .LtE) (pQ λi j=>decide (i<=j)):=λx y m Q q A fs μ s E a b g S e f=>cQ q e λi t q=>cQ q f λj u q=>PySem.P.le_int (fx S.4 q (aj.bool_ _))
def qI:V->Option bR
 | .int i=>some (.int i)
 | .str x=>some (.str x)
 |_=>Option.none
def e6:List V->Option (List bR)
 |[]=>some []
 |x::r=>match qI x,e6 r with
  |some a,some k=>some (a::k)
  |_,_=>Option.none
def bO{K:Type}[DecidableEq K](k:K):List (K×V)->Option V
 |[]=>Option.none
 |(x,v)::r=>if x=k then some v else bO k r
theorem Q8{a:bR}(e:qI x=some a)(r:aj N μ h x v):bR.is a v=true:=by
 cases x with
 |int i=>replace e:=aG e;subst e;exact aI r.int_inv λt b=>Z b<|fc rfl
 |str p=>replace e:=aG e;subst e;exact aI r.str_inv λt b=>Z b<|fc rfl
 |_=>exact aN e
theorem MK:∀{l:List V}{k:List bR}{vs:List Value},e6 l=some k->aq N μ h l vs->ItemsAre (vU prog w) k vs:=by
 intro l
 induction l with
 |nil=>intro k vs e r;replace e:=aG e;subst e;exact Z r.inv_nil .nil
 |cons x l f=>
  intro k vs e r;refine bX r.inv_cons λv ws d g i=>Z d ?_;replace e:(match qI x,e6 l with|some a,some k=>some _|_,_=>Option.none)=some k:=e
  cases b:qI x with
  |none=>rw[b]at e;exact aN e
  |some a=>
   cases c:e6 l with
   |none=>rw[b,c]at e;exact aN e
   |some j=>rw[b,c]at e;replace e:=aG e;subst e;exact .cons (Q8 b g) (f c i)
theorem pF(e:e6 l=some k)(r:aj N μ h (.tup l) v):∃a,br (v=.ref a) ((Au prog w).is h k a) (a∉μ):=by refine gu r.tup_inv λa items c b j i=>Z c<|iG b λo g d n f=>?_;clear b;exact(b6 a rfl (ve o _ n g d f (MK e j)) i)
theorem DZ{K c:Type}[DecidableEq K]{g:c->Value} k{xs:List (K×c)}{l:List (K×V)}(e:xs.map (·.1)=l.map (·.1))(r:aq N μ h (l.map (·.2)) (xs.map λp=>g p.2)):
 (bO k l=Option.none->(xs.find? λp=>decide (p.1=k)).map (·.2)=none)/\∀x,bO k l=some x->∃p,(xs.find? λp=>decide (p.1=k)).map (·.2)=some p/\aj N μ h x (g p):=by
 induction xs generalizing l with
 |nil=>
  cases l with
  |nil=>exact⟨λ_=>rfl,λx e=>aN e⟩
  |cons a l=>exact mN e
 |cons p xs j=>
  cases l with
  |nil=>exact qg e
  |cons q l=>
   injection e with b e;refine bX r.inv_cons λo ws d m n=>?_;injection d with f i;subst f i;refine(?_:((if q.1=k then some _ else bO k l)=none->_)/\∀x,(if q.1=k then some _ else bO k l)=some x->_)
   refine Z List.find?_cons ?_
   by_cases z:q.1=k
   ·exact Z (ao z)<|Z (fc (b.trans z))<|⟨λz=>(gO z),λy z=>(ad _ rfl (aG z▸m))⟩
   ·exact Z (ai z)<|Z (gE λw=>z (b.symm.trans w))<|(j e n)
theorem t8{K:Type}[DecidableEq K]{kvs:List (K×Value)}{l:List (K×V)} k(e:kvs.map (·.1)=l.map (·.1))(r:aq N μ h (l.map (·.2)) (kvs.map (·.2))):
 (bO k l=Option.none->valueAt kvs k=none)/\∀x,bO k l=some x->∃v,valueAt kvs k=some v/\aj N μ h x v:=DZ k e r
theorem oL{xs:List (List bR×Addr×Value)}{l:List (List bR×V)} k(e:xs.map (·.1)=l.map (·.1))(r:aq N μ h (l.map (·.2)) (xs.map (·.2.2))):
 (bO k l=Option.none->atKey xs k=none)/\∀x,bO k l=some x->∃p,atKey xs k=some p/\aj N μ h x p.2:=DZ k e r
theorem Dx{b c:Type}{o:Option b}{a:Option c}{R:b->c->Prop}(h:(a=none->o=none)/\∀x,a=some x->∃v,o=some v/\R v x):o.isSome=a.isSome:=by
 cases a with
 |none=>refine Z (h.1 rfl) ?_;rfl
 |some x=>refine ac (h.2 x rfl) λv e _=>Z e ?_;rfl
theorem b_.notSys(S:b_ B fs m μ s)(b:a∈μ):(a==sysModules)=false:=beq_eq_false_iff_ne.mpr λe=>by refine aI B.sysM λo c=>?_;have:=S.5 a b;rw[e,c]at this;exact gO this
theorem KR:eg B d (binaryOp .Mult) Cw:=λx y m Q q A fs μ s E a b h S f g=>cQ q f λi t q=>cQ q g λj u e=>(PySem.P.mul_int (e9 S.4 e.3 (aj.int_ _ _)) (IntMulOk.of_left (intBits_le_64 (Int.lt_of_lt_of_le (by decide) (yR (eU e.1)).1) (Int.lt_of_le_of_lt (yR (eU e.1)).2 (by decide)))))
theorem K9:eg B d (binaryOp .FloorDiv) D_:=λx y m Q q A fs μ s E a b h S f g=>cQ q f λi t q=>cQ q g λj u e=>(floordiv_int (Int.ne_of_gt e.2) (e9 S.4 e.4 (aj.int_ _ _)) (.inl (PyProof.noPylong_small (Int.ofNat_lt.mp (Z (Int.natAbs_of_nonneg (Int.le_of_lt e.2)) e.3)))))
def qt(neg:Bool)(x y:V)(m:av)(Q:aS):Prop:=
 V.casesOn (motive_1:=λ_=>Prop->Prop) x id (λ_=>id) (λ_=>id) (λ_=>id) (λ_=>id) (λi D=>V.casesOn (motive_1:=λ_=>Prop) y D (λ_=>D) (λ_=>D) (λ_=>D) (λ_=>D)
  (λj=>aV λa b=>gU (m[i]?=some (.list a)) (m[j]?=some (.list b)) (V.plains 8 a=true) (V.plains 8 b=true) (Q (.bool (neg^^V.eqbs a b)) m)) λ_ _=>D) (λ_ _=>id) (br (x.plain 8=true) (y.plain 8=true) (Q (.bool (neg^^V.eqb x y)) m))
theorem Be(p:V.plains 8 l=true):SeqAt.shaped (.list (V.pys l))=true:=by have q:=V.lays 8 l p;unfold SeqAt.shaped;exact Z (show(PyData.list _).canLay0=true by exact q.1)<|fc (by simp only[PyData.depth];lia)
theorem pJ(p:x.plain 8=true):SeqAt.shaped x.py=true:=by have q:=V.lay 8 x p;unfold SeqAt.shaped;exact Z q.1<|fc (by lia)
theorem zt(a:Ar d A fs):A.units+64<cLine:=by unfold cLine;exact aE a.2
theorem bw.reads{n:Nat}(M:bw prog w N μ m h)(f:μ[n]?=some a)(e:m[n]?=some (.list l))(p:V.plains 8 l=true):∃as,Reads h (.ref a) (.list (V.pys l)) as:=by refine ac (M.list f e) λitems b r=>iG b λo g c n d=>?_;clear b;obtain⟨as,q⟩:=r.reads 8 p;exact⟨_,Reads.list g c d q⟩
theorem BR(H:∀{A:Around}{s:Shared}{E:bL}{a b:Value}{h k:PyData}{as g:List Addr}{Q:bL},Reads s.heap a h as->Reads s.heap b k g->SeqAt.shaped h=true->SeqAt.shaped k=true->A.units+64<cLine->
 Q (.bool (neg^^PyData.eqv h k)) s->wpAny (model B.prog B.w) A (compareOp op a b) Q E s):eg B d (compareOp op) (qt neg):=by
 intro x y m Q q A fs μ s E a b n S o p;have e:br (x.plain 8=true) (y.plain 8=true) (Q (.bool (neg^^V.eqb x y)) m)->wpAny _ A _ _ E s:=λw=>sL w λf p2 q=>aI (o.reads 8 f) λas q1=>aI (p.reads 8 p2) λg q2=>H q1 q2 (pJ f) (pJ p2) (zt n)<|fx S.4 q (aj.bool_ _)
 cases x with
 |loc i=>cases y with
  |loc j=>exact ac o.loc_inv λz l u=>Z l<|ac p.loc_inv λC l v=>Z l<|fu q λD F r t f p2 q=>aI (S.4.reads u r f) λas q1=>aI (S.4.reads v t p2) λg q2=>H q1 q2 (Be f) (Be p2) (zt n)<|fx S.4 q (aj.bool_ _)
  |_=>exact e q
 |_=>exact e q
theorem K7:eg B d (compareOp .Eq) (qt false):=BR λh1 a b c e q=>eq_dataH h1 a b c e (by rw[Bool.false_xor]at q;exact q)
theorem KQ:eg B d (compareOp .NotEq) (qt true):=BR λh1 a b c e q=>ne_dataH h1 a b c e (by rw[Bool.true_xor]at q;exact q)
theorem E6(p:x.plain 8=true)(q:V.plains 8 l=true):((V.pys l).any λy=>PyData.eqv y x.py)=l.any λy=>V.eqb y x:=by
 induction l with
 |nil=>rfl
 |cons y l a=>refine((Z (a (bW.mp q).2) (Z (V.eqv 8 8 y x (bW.mp q).1 p) ?_)):(PyData.eqv _ _||(V.pys l).any _)=_);rfl
theorem DG(a:Ar d A fs)(q:x.plain 8=true):A.units+1+min (PyData.depthAll (V.pys l)) x.py.depth<cLine:=by have:=a.2;have:=(V.lay 8 x q).2;have:=Nat.min_le_right (PyData.depthAll (V.pys l)) x.py.depth;unfold cLine;exact JF
def DH(x:V)(P:Bool->Prop)(l:List V):Prop:=br (x.plain 8=true) (V.plains 8 l=true) (P (l.any λy=>V.eqb y x))
def qj(x:V)(P:Bool->Prop):O->Prop:=λo=>O.casesOn (motive:=λ_=>Prop) o (DH x P) (λ_=>False) (λ_=>False) (λl=>df x λi=>P (bO i l).isSome)
 (λl=>kq x λt=>ko (e6 t) λk=>P (bO k l).isSome) (λ_ _=>False) False
def DJ(x y:V)(m:av)(P:Bool->Prop):Prop:=ly y (DH x P) λn=>iA m n (qj x P)
def lI(neg:Bool)(x y:V)(m:av)(Q:aS):Prop:=DJ x y m λr=>Q (.bool (neg^^r)) m
theorem DF{P:Bool->Prop}{a b:Value}(q:DJ x y m P)(F:Ar d A fs)(S:b_ B fs m μ s)(C:aj B.N μ s.heap x a)(W:aj B.N μ s.heap y b):wpAny (model B.prog B.w) A (compareOp .In a b) (λv s'=>aV λr n=>br (v=.bool r) (P r) (s'={s with toks:=n})) E s:=by
 have f:∀{r n},P r->aV λI T=>br (Value.bool r=.bool I) (P I) ({s with toks:=n}={s with toks:=T}):=λp=>⟨_,_,rfl,p,rfl⟩;refine nM q W (λl c items D Ω _ w1=>?_) λn c z D=>?_
 ·refine iG D λob N L X M=>sL w1 λg p2 q=>?_
  obtain⟨as,q1⟩:=C.reads 8 g;obtain⟨Φ,q2⟩:=Ω.reads 8 p2;exact SeqAt.in_tuple_reads (Reads.tuple N L M q2) q1 (V.lays 8 l p2).1 (V.lay 8 x g).1 (DG F g) (Z (E6 g p2) (f (n:=s.toks) q))
 ·refine D.k λe q=>?_;clear D;have ns:=S.notSys (bN z)
  rename_i o
  cases o with
  |list l=>refine sL q λg p2 q=>?_;obtain⟨as,q1⟩:=C.reads 8 g;obtain⟨Φ,q2⟩:=S.4.reads z e p2;exact SeqAt.in_list_reads q2 q1 (V.lays 8 l p2).1 (V.lay 8 x g).1 (DG F g) (Z (E6 g p2) (f (n:=s.toks) q))
  |idict l=>exact cB (S.4.3 _ _ _ z e) λkvs H G r=>cQ q C λi t q=>wpAny_in_of (fc rfl) ns H.mapOf (Z (Dx (t8 i G r)) (f q))
  |tdict l=>refine ir (S.4.3 _ _ _ z e) λxs H G r _=>ac (lx q) λt j q=>?_;subst j;refine ac (mH q) λk Q q=>cB (pF (prog:=B.prog) (w:=B.w) Q C) λY j u R=>?_;subst j;exact wpAny_in_heap F.line1 u ns H (Z (Dx (oL k G r)) (f q))
  |_=>exact q.elim
theorem K4:eg B d (compareOp .In) (lI false):=λx y m Q q A fs μ s E a b c S g h=>mo (DF q c S g h) λv s' w=>bX w λr n e p f=>Z e<|Z f<|e9 S.4 p (Z (Bool.false_xor r) (aj.bool_ _))
def LA:Value->Value
 | .bool r=>.bool (!r)
 |v=>v
theorem LB{a b:Value}:compareOp .NotIn a b=compareOp .In a b>>=λv=>pure (LA v):=by refine((Z (bind_assoc ..) ?_):(contains b a>>=λr=>pure (Value.bool !r))=(contains b a>>=λr=>pure (Value.bool r))>>=_);exact bg _ (funext λr=>(pure_bind ..).symm)
theorem KP:eg B d (compareOp .NotIn) (lI true):=λx y m Q q A fs μ s E a b c S g h=>Z LB<|ag<|mo (DF q c S g h) λv s' w=>bX w λr n e p f=>Z e<|Z f<|aD (e9 S.4 p (Z (Bool.true_xor r) (aj.bool_ _)))
def Dy:V->V->av->aS->Prop
 |x,.none,m,Q=>Q (.bool (match x with| .none=>true|_=>false)) m
 |_,_,_,_=>False
theorem K1:eg B d (compareOp .Is) Dy:=by
 intro x y m Q q A fs μ s E a b o S h n
 cases y<;>try exact q.elim
 refine Z n.none_inv ?_
 have i:∀v,PySem.plainIs v _=true->v≠Value.none->Q _ m->wpAny (model B.prog B.w) A _ _ E s:=λv k l q=>wpAny_is_other k l (fx S.4 q (aj.bool_ _))
 cases x with
 |none=>exact Z h.none_inv<|wpAny_is_self rfl (fx S.4 q (aj.bool_ _))
 |bool c=>exact Z h.bool_inv<|i _ rfl (λe=>(kk PySem.Value.ctorIdx e rfl)) q
 |int c=>refine aI h.int_inv λt g=>?_;subst g;exact i _ rfl (λe=>(kk PySem.Value.ctorIdx e rfl)) q
 |str c=>refine aI h.str_inv λt g=>?_;subst g;exact i _ rfl (λe=>(kk PySem.Value.ctorIdx e rfl)) q
 |tup c=>obtain⟨t,_,rfl,_⟩:=h.tup_inv;exact i _ rfl (λe=>(kk PySem.Value.ctorIdx e rfl)) q
 |loc c=>exact ac h.loc_inv λt j _=>Z j<|i _ rfl (λe=>(kk PySem.Value.ctorIdx e rfl)) q
 |obj c e=>obtain⟨t,_,_,rfl,_⟩:=h.obj_inv;exact i _ rfl (λe=>(kk PySem.Value.ctorIdx e rfl)) q
@[irreducible] noncomputable def fh (Q:Bool->av->Prop):aS:=λx m=>V.casesOn (motive_1:=λ_=>Prop) x False (λb=>Q b m) (λ_=>False) (λ_=>False) (λ_=>False) (λ_=>False) λ_ _=>False
theorem EZ{Q:Bool->av->Prop}(q:fh Q x m):∃b,x=.bool b/\Q b m:=by
 unfold fh at q
 cases x with
 |bool b=>exact(ad b rfl q)
 |_=>exact q.elim
theorem eE{Q:Bool->av->Prop}(q:Q b m):fh Q (.bool b) m:=by unfold fh;exact q
theorem vV{a:Value}{Q:Bool->av->Prop}(M:bw B.prog B.w B.N μ m s.heap)(q:fh Q x m)(r:aj B.N μ s.heap x a):wpAny (model B.prog B.w) A (truthy a) (nu B μ s Q) E s:=by refine ac (EZ q) λb c d=>?_;clear q;subst c;exact Z r.bool_inv<|wpAny_truthy_bool ⟨m,μ,d,Nx.refl M⟩
theorem PJ{x:Expr}{D:DB}(h1:dg B sc d x D):dg B sc d (.UnaryOp .Not x p) λJ m Q=>D J m λb=>Q (!b):=by intro J m Q q A fs U μ s E a S;exact wpAny_isTrue_Not (mo (h1 J m _ q A fs _ μ s E a S) (λ_ _ c=>(by refine c.k λm μ q n=>?_;clear c;exact⟨m,μ,q,n⟩)))
theorem PM{l r:Expr}{O:V->V->av->aS->Prop}(h1:a7 B sc d l D1)(h:a7 B sc d r D2)(i:eg B d (compareOp op) O)
 (hm:behindInMarks op r=false:=by with_unfolding_all rfl):
 dg B sc d (.Compare l [op] [r] p) λJ m Q=>D1 J m λx m=>D2 J m λy m=>O x y m (fh Q):=by
 intro J m Q q A fs U μ s E a S;refine wpAny_isTrue_Compare1 (hm:=hm) (mo (h1 J m _ q A fs _ μ s E a S) (λt s1 c=>?_));obtain⟨x,m1,μ1,q1,k,b⟩:=c;refine h.go q1 a (S.next b) λu s2 y j f q2 n e=>mo (i x y j _ q2 A fs f s2 E t u a ((S.next b).next e).1 (k.nx b.1 e) n) (λD C c=>c.k λz w v q3 o g=>?_);clear c;exact mo (vV g.1 q3 o) (λ_ _ p=>((p.step g).step e).step b)
theorem PN{l n h:Expr}(h1:a7 B sc d l D1)(Φ:a7 B sc d n D2)(L:a7 B sc d h D3)(o:eg B d (compareOp op1) H)(r:eg B d (compareOp k) O2)
 (hm:lastMarks [op1,k] [n,h]=false:=by with_unfolding_all rfl):
 dg B sc d (.Compare l [op1,k] [n,h] p) λJ m Q=>D1 J m λx m=>D2 J m λy m=>H x y m (fh λb m=>if b then D3 J m λz m=>O2 y z m (fh Q)else Q false m):=by
 intro J m Q q A fs U μ s E a S;refine isTrue_chain (hm:=hm) (h1.go q a S λX s1 x m1 μ1 q1 n e=>eD (Φ.go q1 a (S.next e) λF s2 y M u q2 h f=>gR (eD (mo (o x y M _ q2 A fs u s2 E X F a ((S.next e).next f).1 (n.nx e.1 f) h) (λv3 s3 c=>c.k λz m3 Ψ q3 R g=>?_)))));clear c;refine ag (wpAny_release (eD (mo (vV g.1 q3 R) (λb s4 c=>c.k λN v q4 i=>?_))));clear c;cases b with
 |false=>exact aD ⟨N,v,q4,e.trans (f.trans (g.trans i))⟩
 |true=>have C:=(((S.next e).next f).next g).next i;refine eD (L.go q4 a C λY W z5 P w q5 T t=>gR (ag (wpAny_operate' (mo (r y z5 P _ q5 A fs w W E F Y a (C.next t).1 (((h.nx f.1 g).nx g.1 i).nx i.1 t) T) (λv6 s6 c=>c.k λz6 m6 α q6 Ω D=>?_)))));clear c;exact eJ (mo (vV D.1 q6 Ω) (λ_ _ p=>(((((p.step D).step t).step i).step g).step f).step e))
theorem PP{x y:Expr}{D1 D2:DB}(h1:dg B sc d x D1)(e:dg B sc d y D2):
 dg B sc d (.BoolOp .And [x,y] p) λJ m Q=>D1 J m λb m=>if b then D2 J m Q else Q false m:=by
 intro J m Q q A fs U μ s E a S;refine wpAny_isTrue_BoolOp (wpAny_allTrue_And_cons (h1.go q a S λb s1 m1 μ1 q1 c=>?_))
 cases b with
 |false=>exact⟨m1,μ1,q1,c⟩
 |true=>
  refine wpAny_allTrue_And_cons (mo (e J m1 _ q1 A fs _ μ1 s1 E a (S.next c)) (λb s2 p=>?_))
  cases b with
  |false=>exact p.step c
  |true=>exact wpAny_allTrue_And_nil (p.step c)
theorem PO{x y z:Expr}{D1 D2 g:DB}(h1:dg B sc d x D1)(i:dg B sc d y D2)(j:dg B sc d z g):
 dg B sc d (.BoolOp .And [x,y,z] p) λJ m Q=>D1 J m λb m=>if b then D2 J m λb m=>if b then g J m Q else Q false m else Q false m:=by
 intro J m Q q A fs U μ s E a S;refine wpAny_isTrue_BoolOp (wpAny_allTrue_And_cons (h1.go q a S λb s1 m1 μ1 q1 c=>?_))
 cases b with
 |false=>exact⟨m1,μ1,q1,c⟩
 |true=>
  refine wpAny_allTrue_And_cons (i.go q1 a (S.next c) λb s2 h e q2 f=>?_)
  cases b with
  |false=>exact⟨h,e,q2,c.trans f⟩
  |true=>
   refine wpAny_allTrue_And_cons (mo (j J h _ q2 A fs _ e s2 E a ((S.next c).next f)) (λb s2 p=>?_))
   cases b with
   |false=>exact(p.step f).step c
   |true=>exact wpAny_allTrue_And_nil ((p.step f).step c)
theorem PH{x y:Expr}{D1 D2:DB}(h1:dg B sc d x D1)(e:dg B sc d y D2):
 dg B sc d (.BoolOp .Or [x,y] p) λJ m Q=>D1 J m λb m=>if b then Q true m else D2 J m Q:=by
 intro J m Q q A fs U μ s E a S;refine wpAny_isTrue_BoolOp (wpAny_allTrue_Or_cons (h1.go q a S λb s1 m1 μ1 q1 c=>?_))
 cases b with
 |true=>exact⟨m1,μ1,q1,c⟩
 |false=>
  refine wpAny_allTrue_Or_cons (mo (e J m1 _ q1 A fs _ μ1 s1 E a (S.next c)) (λb s2 p=>?_))
  cases b with
  |true=>exact p.step c
  |false=>exact wpAny_allTrue_Or_nil (p.step c)
theorem PL{t x y:Expr}{e D1 D2:DB}(f:dg B sc d t e)(h1:dg B sc d x D1)(g:dg B sc d y D2):
 dg B sc d (.IfExp t x y p) λJ m Q=>e J m λb m=>if b then D1 J m Q else D2 J m Q:=by
 intro J m Q q A fs U μ s E a S;refine isTrue_IfExp (f.go q a S λb s1 m1 μ1 q1 c=>?_)
 cases b with
 |true=>exact mo (h1 J m1 _ q1 A fs _ μ1 s1 E a (S.next c)) (λ_ _ p=>p.step c)
 |false=>exact mo (g J m1 _ q1 A fs _ μ1 s1 E a (S.next c)) (λ_ _ p=>p.step c)
theorem PG(h1:a7 B sc d e D)(he:autoParam (∀U b,isTrue e U b=(do let v<-b;standAt e.pos;holding [v] (truthy v))) bF):
 dg B sc d e λJ m Q=>D J m (fh Q):=by
 intro J m Q q A fs U μ s E a S;exact wpAny_isTrue_value (he:=he _ _) (h1.go q a S λg s1 x m1 μ1 q1 f c=>mo (vV c.1 q1 f) (λ_ _ p=>p.step c))
theorem ON{t x y:Expr}(f:dg B sc d t D0)(h1:a7 B sc d x D1)(g:a7 B sc d y D2):
 a7 B sc d (.IfExp t x y p) λJ m Q=>D0 J m λb m=>if b then D1 J m Q else D2 J m Q:=by
 intro J m Q q A fs U μ s E a S;refine wpAny_IfExp (f.go q a S λb s1 m1 μ1 q1 c=>?_)
 cases b with
 |true=>exact mo (h1 J m1 _ q1 A fs _ μ1 s1 E a (S.next c)) (λ_ _ p=>p.step c)
 |false=>exact mo (g J m1 _ q1 A fs _ μ1 s1 E a (S.next c)) (λ_ _ p=>p.step c)
theorem O5{x y:Expr}(h1:a7 B sc d x D1)(g:a7 B sc d y D2):
 a7 B sc d (.BoolOp .And [x,y] p) λJ m Q=>D1 J m (fh λb m=>if b then D2 J m Q else Q (.bool false) m):=by
 intro J m Q q A fs U μ s E a S;refine wpAny_And2 (h1.go q a S λh s1 x m1 μ1 q1 f e=>ac (EZ q1) λb c q2=>?_);subst c;refine Z f.bool_inv<|wpAny_truthy_bool ?_;clear h1 q q1 f;cases b with
 |false=>exact⟨.bool _,m1,μ1,q2,aj.bool_ _,e⟩
 |true=>exact mo (g J m1 _ q2 A fs _ μ1 s1 E a (S.next e)) (λ_ _ p=>p.step e)
theorem OK{i:Int}:a7 B sc d (.UnaryOp .USub (.Constant (.int i) k p') p) λ_ m Q=>Q (.int (-i)) m:=by intro J m Q q A fs U μ s E a S;exact wpAny_UnaryOp (wpAny_Constant_int (PySem.P.neg_int (e9 S.1.4 q (aj.int_ _ _))))
theorem s9:d7 B sc d [] λ_ m Q=>Q [] m:=by intro J m Q q A fs U μ s E a S pos;exact spliced_none ⟨[],m,μ,q,aq.nil,Nx.refl S.1.4⟩
theorem lO(h1:a7 B sc d e D)(h:d7 B sc d es Ds)(he:autoParam (∀U,starEach (e::es) U=(false,eval e U)::starEach es U) bF):
 d7 B sc d (e::es) λJ m Q=>D J m λv m=>Ds J m λvs m=>Q (v::vs) m:=by
 intro J m Q q A fs U μ s E a S pos;exact spliced_more (he:=he _) (h1.go q a S λl s1 x m1 μ1 q1 j b=>mo (h J m1 _ q1 A fs _ μ1 s1 E a (S.next b) _) (λvs s2 g=>(by refine g.k λxs i c q2 k f=>?_;clear g;exact⟨x::xs,i,c,q2,aq.cons (j.nx b.1 f) k,b.trans f⟩)))
theorem OE(h1:d7 B sc d es Ds):a7 B sc d (.Tuple es k p) λJ m Q=>Ds J m λvs m=>vs.length<=1000/\Q (.tup vs) m:=by intro J m Q q A fs U μ s E a S;exact wpAny_Tuple_spliced (h1.go q a S p λvs s1 xs m1 μ1 q1 c b=>⟨Z c.length.symm<|aF q1.1,((mP b.1 c rfl q1.2).step b)⟩)
theorem OM(h1:d7 B sc d es Ds):a7 B sc d (.List es p) λJ m Q=>Ds J m λvs m=>vs.length<=1000/\Q (.loc m.length) (m++[.list vs]):=by intro J m Q q A fs U μ s E a S;exact wpAny_List_spliced (h1.go q a S p λvs s1 xs m1 μ1 q1 c b=>⟨Z c.length.symm<|aF q1.1,((vB b.1 c rfl q1.2).step b)⟩)
def ja(l:List V)(k:Int):Option V:=(seqIndex? k l.length).bind λj=>l[j]?
inductive zL(l:List V)(k:Int)(m:av)(Q:aS):Prop
 |mk(x:V)(h:l.length<=1000)(n:ja l k=some x)(q:Q x m)
theorem zL.k{k:Int}(w:zL l k m Q)(f:∀x:V,∀h:l.length<=1000,∀n:ja l k=some x,∀q:Q x m,G):G:=by obtain⟨x,h,n,q⟩:=w;exact f x h n q
def Nd(i:V)(m:av)(Q:aS):O->Prop:=λo=>O.casesOn (motive:=λ_=>Prop) o (λl=>df i λk=>∃x,br (l.length<=2^30) (ja l k=some x) (Q x m)) (λ_=>False)
 (λl=>pR i λk=>ko (bO k l) λx=>Q x m) (λl=>df i λk=>ko (bO k l) λx=>Q x m) (λl=>kq i λt=>ko (e6 t) λk=>ko (bO k l) λx=>Q x m) (λ_ _=>False) False
def jQ(x i:V)(m:av)(Q:aS):Prop:=V.casesOn (motive_1:=λ_=>Prop) x False (λ_=>False) (λ_=>False) (λx=>df i λk=>∃c,br ((seqIndex? k x.length).bind (x.cps[·]?)=some c) (x.length<=1000) (Q (.str ⟨#[c]⟩) m))
 (λl=>df i λk=>zL l k m Q) (λn=>iA m n (Nd i m Q)) λ_ _=>False
theorem xm(e:seqIndex? k n=some j):(0<=k/\k<n/\j=k.toNat)\/(k<0/\-n<=k/\j=(k+n).toNat):=by
 unfold seqIndex? at e
 by_cases a:k<0
 ·simp only[a,if_true]at e
  split at e
  ·rename_i z
   simp only[j6,decide_eq_true_eq]at z;exact .inr (bt a (Int.le_of_sub_nonneg (Z (Int.sub_neg ..) z.1)) (aG e).symm)
  ·exact aN e
 ·simp only[a,if_false]at e
  split at e
  ·rename_i z
   simp only[j6,decide_eq_true_eq]at z;exact .inl (bt z.1 z.2 (aG e).symm)
  ·exact aN e
theorem ui(e:seqIndex? k n=some j):j<n:=by
 rcases xm e with⟨a,b,c⟩|⟨a,b,c⟩
 ·exact c▸(Int.toNat_lt a).mpr b
 ·exact c▸(Int.toNat_lt (by exact Z (Int.sub_neg ..).symm<|Int.sub_nonneg_of_le b)).mpr (by have:=Int.add_lt_add_right a n;rwa [Int.zero_add]at this)
theorem uj(e:seqIndex? k n=some j)(d:n<=2^30): -(2^63)<=k/\k<2^63/\j<n:=by
 rcases xm e with⟨a,b,c⟩|⟨a,b,c⟩
 ·exact⟨Int.le_trans (by decide) a,Int.lt_of_lt_of_le b (Int.le_trans (Int.ofNat_le.mpr d) (by decide)),(ui e)⟩
 ·exact⟨Int.le_trans (Int.le_trans (by decide) (Int.neg_le_neg (Int.ofNat_le.mpr d))) b,Int.lt_trans a (by decide),(ui e)⟩
theorem Ci(e:ja l k=some x):∃j,seqIndex? k l.length=some j/\l[j]?=some x:=by
 unfold ja at e
 cases a:seqIndex? k _ with
 |none=>rw[a]at e;exact aN e
 |some j=>rw[a]at e;exact(ad j rfl e)
theorem Nc(q:jQ x y m Q)(Y:Ar d A fs)(S:b_ B fs m μ s)(X:aj B.N μ s.heap x v1)(G:aj B.N μ s.heap y v2)
 (hs:∀o i,subscripted F false o i=operate [o,i] (getItem o i)):wpAny (model B.prog B.w) A (subscriptTail value F v1 v2) (ds B μ s Q) E s:=by
 cases x with
 |tup l=>refine cQ q G λk t z=>z.k λx hz e q=>?_;clear z;exact gu X.tup_inv λa items Φ ht H _=>Z Φ<|ac (Ci e) λj f e=>ac (H.get e) λv N b=>gv (uj f (aF hz)) λb1 b2 _=>item_tupleT ht b1 b2 (Z H.length.symm f) N (fx S.4 q b) (hs _ _)
 |str x=>
  refine cQ q G λk t z=>cB z λc e hz q=>?_;clear z;refine aI X.str_inv λu Φ=>Z Φ<|tail_any (typeIs_str s x u) slot_str_getitem.lookup (getItem_str ?_ e (e9 S.4 q (aj.str_ _ _))) (hs _ _)
  cases f:seqIndex? k _ with
  |none=>rw[f]at e;exact aN e
  |some j=>refine gv (uj f (aF hz)) λb1 b2 _=>?_;exact JE
 |loc n=>
  refine ac X.loc_inv λa Φ R=>Z Φ<|q.k λP q=>?_;rename_i o
  cases o with
  |list l=>
   refine cQ q G λk t z=>cB z λx hz e D=>?_;clear z;refine ac (S.4.list R P) λitems T H=>ac (Ci e) λj f e=>ac (H.get e) λv N b=>gv (uj f hz) λb1 b2 b3=>?_;rw[j7]at N;have g:=fx S.4 D b;rcases xm f with⟨L,_,W⟩|⟨L,lo,W⟩
   ·exact tail_any T.typeIs slot_list_getitem.lookup (wpAny_getItem_list T L b2 (Z W.symm N) g) (hs _ _)
   ·exact tail_any T.typeIs slot_list_getitem.lookup (wpAny_getItem_list_neg T L (Z H.size.symm lo) b1 (Z H.size.symm<|Z W.symm N) g) (hs _ _)
  |idict l=>refine cQ q G λk t q=>?_;obtain⟨x,e,D⟩:=mH q;obtain⟨kvs,h,I,r⟩:=S.4.3 _ _ _ R P;obtain⟨v,Ω,b⟩:=(t8 k I r).2 x e;exact tail_any h.typeIs slot_dict_getitem.lookup (wpAny_getItem_of (fc rfl) h.mapOf Ω (e9 S.4 D b)) (hs _ _)
  |tdict l=>refine ac (lx q) λt C q=>?_;subst C;refine ac (mH q) λk L q=>ac (mH q) λx e D=>cB (pF (prog:=B.prog) (w:=B.w) L G) λta C M Ψ=>?_;subst C;exact ir (S.4.3 _ _ _ R P) λxs h I r _=>ac ((oL k I r).2 x e) λp ep b=>tail_any h.typeIs slot_dict_getitem.lookup (wpAny_getItem_heap Y.line1 M h ep (e9 S.4 D b)) (hs _ _)
  |sdict l=>refine ue q G λk t q=>?_;obtain⟨x,e,D⟩:=mH q;obtain⟨kvs,h,I,r⟩:=S.4.3 _ _ _ R P;obtain⟨v,Ω,b⟩:=(t8 k I r).2 x e;exact tail_any h.typeIs slot_dict_getitem.lookup (wpAny_getItem_of (fc rfl) h.mapOf Ω (e9 S.4 D b)) (hs _ _)
  |_=>exact q.elim
 |_=>exact q.elim
theorem OF(h1:a7 B sc d value D1)(f:a7 B sc d slice D2)(hs:autoParam (∀o i,subscripted slice false o i=operate [o,i] (getItem o i)) bF):
 a7 B sc d (.Subscript value slice p) λJ m Q=>D1 J m λx m=>D2 J m λy m=>jQ x y m Q:=by
 intro J m Q q A fs U μ s E a S;exact Subscript_ (h1.go q a S λl s1 x m1 μ1 q1 g c=>f.go q1 a (S.next c) λn s2 y k j q2 h e=>mo (Nc q2 a ((S.next c).next e).1 (g.nx c.1 e) h hs) (λ_ _ p=>(p.step e).step c))
def tu(K:Frag)(C:Addr)(name:Str):Bool:=plainGet K C name&&hasDictIn K C&&(findIn K (.ref C) name==some none)
def rT(K:Frag)(C:Addr)(name:Str):Bool:=findIn K (.ref C) "__setattr__"==some (some (.builtin "object.__setattr__"))&&plainOver K C&&hasDictIn K C&&(findIn K (.ref C) name==some none)
def mL(K:Frag)(C:Addr)(name:Str)(f:Addr):Bool:=plainGet K C name&&(findIn K (.ref C) name==some (some (.ref f)))&&isFn K (.ref f)&&keepIn K (.ref f)
def eL(i:Nat)(v:V):List (Nat×V)->List (Nat×V)
 |[]=>[(i,v)]
 |(j,x)::r=>if j=i then(j,v)::r else(j,x)::eL i v r
theorem yZ i v:∀l:List (Nat×V),∀j,dG j (eL i v l)=if j=i then some v else dG j l:=by
 intro l
 induction l with
 |nil=>
  intro j
  by_cases q:j=i
  ·refine Z q ?_;rfl
  ·exact(ai (gS q)).trans (ai q).symm
 |cons b r a=>
  obtain⟨k,x⟩:=b;intro j
  by_cases q:k=i
  ·refine Z q.symm ?_
   by_cases z:j=k
   ·exact Z z<|Z (show eL k v ((k,x)::r)=(k,v)::r from ao rfl)<|(ao rfl).trans (ao rfl).symm
   ·exact Z (show eL k v ((k,x)::r)=(k,v)::r from ao rfl)<|(ai (gS z)).trans ((ai z).trans (ai (gS z))).symm
  ·refine Z (show eL i v ((k,x)::r)=(k,x)::eL i v r from ai q) ?_
   by_cases z:k=j
   ·exact Z (show dG j ((k,x)::eL i v r)=some x from ao z)<|Z (show dG j ((k,x)::r)=some x from ao z)<|(ai (λe=>q (z.trans e))).symm
   ·exact Z (show dG j ((k,x)::eL i v r)=dG j _ from ai z)<|Z (show dG j ((k,x)::r)=dG j r from ai z)<|a j
theorem b_.X(S:b_ B fs m μ s):B.K.In s.heap:=B.KX.keeps S.1
theorem yq(n:h.Ns dx mm):∃b,h.get? dx=some b/\∀x,lookIn x b=some (mm x):=by
 refine sK n λo es ep j f i g=>?_;clear n;refine(ad o j (λx=>?_));unfold lookIn;refine Z f<|Z (g x).symm ?_;unfold nsFind findBy;dsimp only;refine Z Array.find?_toList.symm ?_
 cases q:es.toList.find? (λe=>e.key.isStr x)with
 |some e=>rfl
 |none=>
  have:¬(es.toList.any (·.refKey))=true:=by rewrite[List.any_eq_true];rintro⟨e,he,a⟩;refine aI (i e (Array.mem_toList_iff.mp he)) λn h_=>aI h_ λt d=>?_;unfold DictEntry.refKey at a;rw[d]at a;exact aR a
  simp[this]
theorem ya{l:List (Nat×V)}(M:bw B.prog B.w B.N μ m s.heap)(r:aj B.N μ s.heap (.obj c n) v)(e:m[n]?=some (.fields l)):
 wb λa j b f mm=>tL (v=.ref a) (InstAt s.heap a j (B.N.cls c) (some f)) (j.dict=some b) (μ[n]?=some b) (s.heap.get? b=some f) ((∀x,lookIn x f=some (mm x))) (s.heap.Ns1 b mm) (Ff B.N μ s.heap l mm):=u8 r.obj_inv λa o b k w t g h i _=>Z k<|ac (M.3 n b _ h e) λmm ns p=>ac (yq ns.ns) λf d u=>⟨a,o,b,f,mm,rfl,⟨w,t,(by unfold notCls;cases q:o.data<;>rw[q]at i<;>first|rfl|exact aR i),Z g d⟩,g,h,d,u,ns,p⟩
theorem DO(r:aj N μ h x v):handedIn v=true:=by
 cases x with
 |none=>refine Z r.none_inv ?_;rfl
 |bool c=>refine Z r.bool_inv ?_;rfl
 |int c=>refine aI r.int_inv λt a=>Z a ?_;rfl
 |str c=>refine aI r.str_inv λt a=>Z a ?_;rfl
 |tup c=>obtain⟨t,_,rfl,_⟩:=r.tup_inv;rfl
 |loc c=>refine ac r.loc_inv λt a _=>Z a ?_;rfl
 |obj c e=>obtain⟨t,_,_,rfl,_⟩:=r.obj_inv;rfl
def Q7(i:Nat)(m:av)(Q:aS):O->Prop:=xX λl=>ko (dG i l) λv=>Q v m
def vS(c i:Nat):V->av->aS->Prop:=λx m Q=>sa x λc' n=>jd c' c (iA m n (Q7 i m Q))
theorem La(j:tu B.K (B.N.cls c) (B.N.attr i)=true):Rj B d (λo=>getAttr o (B.N.attr i) expr) (vS c i):=by intro x m Q q A fs μ s E a F S r;have g:=xT q;clear q;refine bS g λG n b q=>?_;clear g;subst b;obtain⟨rfl,e,q⟩:=kI q;refine ac (B3 q) λl b q=>?_;subst b;refine ac (mH q) λv t q=>yw (ya S.4 r e) λa N H M mm f I Φ L y w ns u=>Z f<|ac (u.1 i v t) λP p k=>?_;simp only[tu,j6,fA]at j;obtain⟨⟨z,C⟩,D⟩:=j;exact get_value S.X I (plainGet_of z).1 (findObj_own C D rfl (Z (w ..)<|Z p rfl)) (DO k) (e9 S.4 q k)
theorem O4 c i(e:B.N.attr i=name)(h1:a7 B sc d value D)(f:tu B.K (B.N.cls c) name=true)
 (he:∀U,eval (.Attribute value name p) U=(do
  let o<-eval value U
  standAt p.atName
  let r<-holding [o] (getAttr o name true)
  letTemporaryGo value o r
  pure r):=by intro _;with_unfolding_all rfl):
 a7 B sc d (.Attribute value name p) λJ m Q=>D J m λx m=>vS c i x m Q:=by
 subst e;intro J m Q q A fs U μ s E a S;exact Attribute_any_ (he:=he _) (h1.go q a S λh s1 x m1 μ1 q1 g b=>mo (La f x m1 Q q1 A fs μ1 s1 E h a (S.next b).1 g) (λ_ _ p=>p.step b))
def aP(B:bB)(d:Nat)(f:Addr)(vs:List V)(m:av)(Q:aS):Prop:=
 ∀(A:Around)(fs:List Env)(μ:List Addr)(s:Shared)(E:bL)(vals:List Value),Ar d A fs->b_ B fs m μ s->aq B.N μ s.heap vs vals->
  codeAny (model B.prog B.w) A (.call (.ref f) ⟨vals,[]⟩) (λr s'=>match r with| .ok (.ret v)=>ds B μ s Q v s'| .ok _=>False| .error e=>E e s') s
def ye(N:gT)(l:List (Nat×V))(name:Str):Prop:=∀i,(dG i l).isSome=true->N.attr i≠name
theorem DU{l:List (Nat×V)}{Q:Value×List Value->Shared->Prop}(S:b_ B fs m μ s)(r:aj B.N μ s.heap (.obj c n) v)(e:m[n]?=some (.fields l))
 (g:mL B.K (B.N.cls c) name f=true)(u:ye B.N l name)(h:Q (.ref f,[v]) s):wpAny (model B.prog B.w) A (getMethod v name pl) Q E s:=by
 refine yw (ya S.4 r e) λa G z y mm b I C D t p ns o=>?_;clear r;subst b;simp only[mL,j6,fA]at g;obtain⟨⟨⟨d,w⟩,x⟩,F⟩:=g;refine method_fn S.X I (plainGet_of d).1 (plainGet_of d).2 w (fA.mp x) (((Z (p ..) ?_):(lookIn _ y).map _=_)) h
 cases q:mm _ with
 |none=>rfl
 |some v=>
  refine ac (o.2 _ (by refine Z q ?_;rfl)) λi j k=>?_
  exact absurd k.symm (u i j)
theorem EI{xs:List V}(g:Ar d A fs)(S:St B sc fs U J m μ s)
 (h1:d7 B sc d (e::rest) Ds)(h:keepIn B.K (.ref f)=true)(j:aq B.N μ s.heap xs first)(q:Ds J m λvs m=>aP B d f (xs++vs) m Q)
 (he:starEach (e::rest) U=(false,eval e U)::starEach rest U)(c:(backTo pos (starEach rest U)).any (·.1)=false):
 wpAny (model B.prog B.w) A (callWith pos (.ref f) first (backTo pos (starEach (e::rest) U)) []) (ds B μ s Q) E s:=callWith_K B.KX h (he:=he) (hplain:=c) (h1.go q g S _ λvals s1 vs m1 μ1 q1 i b=>⟨(S.next b).1.X,(mo (iB (q1 A fs μ1 s1 E _ g (S.next b).1 ((j.nx S.1.4 b).append i))) (λ_ _ p=>p.step b))⟩)
theorem EH{xs:List V}(b:Ar d A fs)(S:b_ B fs m μ s)
 (c:keepIn B.K (.ref f)=true)(e:aq B.N μ s.heap xs first)(q:aP B d f xs m Q):
 wpAny (model B.prog B.w) A (callWith pos (.ref f) first (backTo pos (starEach [] U)) []) (ds B μ s Q) E s:=callWith_K0 S.X c<|Z (bZ ..)<|iB (q A fs μ s E _ b S e)
theorem OX f(g:d7 B sc d (e::rest) Ds)(j:sc.names.lookup name=some .globalImplicit)(i:nsIn B.K mainGlobals name=some (some (.ref f)))(k:keepIn B.K (.ref f)=true)
 (h:(name=="__debug__")=false:=by decide)
 (b:autoParam (∀U,starEach (e::rest) U=(false,eval e U)::starEach rest U) bF)(c:autoParam (∀U,(backTo p (starEach rest U)).any (·.1)=false) bF):
 a7 B sc d (.Call (.Name name fp) (e::rest) [] p) λJ m Q=>Ds J m λvs m=>aP B d f vs m Q:=by
 intro J m Q q A fs U μ s E a S;exact ag (tA S.2.1 (S.2.4 _ j) (loadGlobal_global (Z S.2.2<|B.G.keeps S.1.1) (mg_of B.KX B.G i) (EI a S g k aq.nil q (b _) (c _))) h)
theorem bw.stillBut(M:bw B.prog B.w B.N μ m s.heap){n:Nat}(c:μ[n]?=some a)(d:Heap.SameBut a s.heap h'):dA μ s.heap h':=
 AX λb o e q=>(d.2 b (λz=>q (z▸bN c))).trans e
theorem aj.stay(st:dA μ h h')(r:aj N μ h x v):aj N μ h' x v:=by have:=r.keep st (λ_ q=>bx q);rwa [bZ]at this
theorem aq.stay{x:List V}{v:List Value}(st:dA μ h h')(r:aq N μ h x v):aq N μ h' x v:=by have:=r.keep st (λ_ q=>bx q);rwa [bZ]at this
theorem Nx.cell(M:bw B.prog B.w B.N μ m s.heap){o:O}(d:μ[n]?=some a)(f:Heap.SameBut a s.heap h')(c:gg B.prog B.w B.N μ h' a o) tk(np:autoParam (o.isPart=false) bF):
 Nx B P μ s (m.set n o) μ {s with heap:=h',toks:=tk}:=
 Nx.upd M d (λb o e q=>(f.2 b q).trans e) c rfl rfl np
inductive o8(B:bB)(sc:Scope)(fs:List Env)(U:Env)(μ:List Addr)(s:Shared)(Q:hS)(u:Unit)(s':Shared):Prop
 |mk(le':bh)(m':av)(μ':List Addr)(q:Q le' m')(st:St B sc fs U le' m' μ' s')(n:Nx B (b9 sc U) μ s m' μ' s')
theorem o8.k{Q:hS}(w:o8 B sc fs U μ s Q u s')(f:∀a:bh,∀m':av,∀μ':List Addr,∀q:Q a m',∀st:St B sc fs U a m' μ' s',∀n:Nx B (b9 sc U) μ s m' μ' s',G):G:=by obtain⟨a,m',μ',q,st,n⟩:=w;exact f _ m' μ' q st n
inductive wf(i n:Nat)(v:V)(m:av)(P:bY):Prop
 |mk{l:List (Nat×V)}(h:m[n]?=some (.fields l))(k:l.length<=1000)(q:P (m.set n (.fields (eL i v l))))
theorem wf.k{v:V}{P:bY}(w:wf i n v m P)(f:∀{l:List (Nat×V)},∀h:m[n]?=some (.fields l),∀k:l.length<=1000,G):G:=by obtain⟨h,k⟩:=w;exact f h k
abbrev DT:=V->bh->av->hS->Prop
def gf(B:bB)(sc:Scope)(d:Nat)(t:Expr)(T:DT):Prop:=
 ∀x J m Q,T x J m Q->∀A fs U μ s E v,Ar d A fs->St B sc fs U J m μ s->aj B.N μ s.heap x v->wpAny (model B.prog B.w) A (assign t U v) (o8 B sc fs U μ s Q) E s
theorem o8.step{Q:hS}(i:∀b,P b->b9 sc U b)(n:Nx B P μ s m' μ' s')(p:o8 B sc fs U μ' s' Q u s''):o8 B sc fs U μ s Q u s'':=by refine p.k λc d a q S f=>?_;clear p;exact⟨c,d,a,q,S,(n.mono i).trans f⟩
theorem cG:∀b,No b->b9 sc U b:=λ_ q=>q.elim
theorem v_(F:kY N sc U J μ h){b:Addr}(o:gJ U b):∃ob,h.get? b=some ob:=by
 rcases o with rfl|⟨x,e⟩
 ·obtain⟨mm,o,es,ep,a,_⟩:=F.10
  exact⟨o,a⟩
 ·exact lG (F.12 x b e) λ_ o a _=>⟨o,a⟩
theorem cW(c:(names.map (·.1)).Nodup){i:Nat}{x:Str}{k:NameKind}(e:names[i]?=some (x,k)):names.lookup x=some k:=by
 induction names generalizing i with
 |nil=>trivial
 |cons p r d=>
  obtain⟨y,g⟩:=p;rw[eV,eF]at c
  cases i with
  |zero=>simp only[List.getElem?_cons_zero,Option.some.injEq,Prod.mk.injEq]at e;refine a_ e λa b=>?_;clear e;subst a;subst b;simp
  |succ j=>exact have f:x≠y:=λq=>c.1 (q▸bT.mpr (ad _ (bN e) rfl));Z fk<|Z (beq_eq_false_iff_ne.mpr f)<|d c.2 e
theorem DM(b:(names.map (·.1)).Nodup){x:Str}(e:names[i]?=some (x,k))(a:names[j]?=some (x,k')):i=j:=by
 have h1:(names.map (·.1))[i]?=some x:=jR e
 exact(List.getElem?_inj (bV.mp h1).1 b).mp (h1.trans (jR a:(names.map _)[j]?=some x).symm)
theorem de(a:fq sc=true):(sc.names.map (·.1)).Nodup:=kt (bW.mp a).1
theorem n_(n:h.Ns a mm)(e:h.get? a=some o):¬dv o:=by
 refine iF n λf es ep b d _=>?_;clear n;rw[e]at b;replace b:=aG b;refine Z b ?_;rintro(⟨_,i,k,q⟩|⟨_,_,q⟩)
 ·rw[d]at q;exact kk PySem.Data.ctorIdx q rfl
 ·rw[d]at q;exact aR q
theorem Ez{v:Option Value}(n:h.IsCell a v)(e:h.get? a=some o):¬dv o:=by
 refine ac n λf b d=>?_;clear n;rw[e]at b;replace b:=aG b;refine Z b ?_;rintro(⟨_,i,k,q⟩|⟨_,_,q⟩)
 ·rw[d]at q;exact kk PySem.Data.ctorIdx q rfl
 ·rw[d]at q;exact aR q
theorem St.own_not_still(S:St B sc fs U J m μ s){b:Addr}(o:b9 sc U b)(e:s.heap.get? b=some ob):¬dv ob:=by
 rcases o with rfl|⟨x,_,q⟩
 ·exact aI S.2.10 λmm n=>n_ n e
 ·exact aI (S.2.12 x b q) λc n=>Ez n e
theorem Nx.stillOwn(S:St B sc fs U J m μ s)(n:Nx B (b9 sc U) μ s m' μ' s'):dA μ s.heap s'.heap:=λb o e q a=>n.kep e (λz=>z.elim a λz=>S.own_not_still z e q) (wY q)
theorem Cj(n:h'.Ns a mm)(x:Prop):∃ob,br (h'.get? a=some ob) ((∀vs,ob.data≠.fields vs)) ((x->d9 ob)):=by refine iF n λo es ep d c _=>?_;clear n;exact(b6 o d (λvs=>(Z c<|λq=>(kk PySem.Data.ctorIdx q rfl))) (λ_=>⟨_,_,c⟩))
theorem Qn{v j:Option Value}(n:h.IsCell a v)(f:h'.IsCell a j):∃ob,br (h'.get? a=some ob) ((∀vs,ob.data≠.fields vs)) (((∃o,h.get? a=some o/\d9 o)->d9 ob)):=by refine ac f λo i g=>?_;clear f;refine ac n λl d c=>?_;clear n;refine(b6 o i (λvs=>(Z g<|λq=>(kk PySem.Data.ctorIdx q rfl))) (λk=>?_));obtain⟨m,e,_,_,q⟩:=k;rw[d]at e;replace e:=aG e;subst e;rw[c]at q;exact kk PySem.Data.ctorIdx q rfl
theorem Nx.own(S:St B sc fs U J m μ s)(o:b9 sc U a)(ns:∀ob,s.heap.get? a=some ob->¬dv ob)(c:Heap.SameBut a s.heap h')(g:∃ob,br (h'.get? a=some ob) ((∀vs,ob.data≠.fields vs)) (((∃o,s.heap.get? a=some o/\d9 o)->d9 ob))):
 Nx B (λb=>b=a) μ s m μ {s with heap:=h',toks:=tk}/\dA μ s.heap h':=by
 have st:dA μ _ h':=λb ob e q _=>(c.2 b (λz=>by subst z;exact ns ob e q)).trans e
 refine⟨⟨S.1.4.other st λb ob k e=>(c.2 b (λz=>(S.2.own_not o.frm) (z▸k))).trans e,(ad [] (bZ _).symm (λ_ h=>bx h)),λb ob e q=>?_,λb ob e=>?_,rfl,rfl⟩,st⟩
 ·exact .inl ((c.2 b (λz=>q (.inr z))).trans e)
 ·by_cases z:b=a
  ·clear S o ns st;subst z
   refine cB g λl j n d=>?_;clear g;exact(b6 l j (λ_=>n) (λ_ i=>d (ad _ e i)))
  ·exact(b6 ob ((c.2 b z).trans e) id (λ_=>id))
theorem xL(o:b9 sc U a):∀b,b=a->b9 sc U b:=λb e=>e▸o
theorem wX{i:Nat}{x:Str}{a:Value}{Q:Unit->Shared->Prop}(S:St B sc fs U J m μ s)(H:sc.names[i]?=some (x,.local))
 (h:∀s',St B sc fs U (J.set i none) m μ s'->Nx B (b9 sc U) μ s m μ s'->(∃mm,s'.heap.Ns U.locals mm/\mm x=some a)->Q () s'):
 wpAny (model B.prog B.w) A (storeName U x a) Q E s:=by
 have F:=S.2;have P:=de F.8;obtain⟨mm,r⟩:=F.10;refine wpAny_storeName_local (F.5 x (cW P H)) r (λh' f C=>?_) (by refine Z F.1 ?_;rfl)
 refine a_ (Nx.own S (.inl rfl) (λob e=>n_ r e) C (Cj f _)) λn st=>h _ ⟨S.1.next n (λb e=>e▸S.3.1),?_,S.3⟩ (n.mono (xL (.inl rfl))) (ad _ f (by simp))
 have d:∀c p,s.heap.IsCell c p->h'.IsCell c p:=λc p T=>(by refine ac T λo N M=>?_;clear T;exact(ad o ((C.2 c (λz=>by subst z;refine iF r λY es ep g t _=>?_;clear r;rw[N]at g;replace g:=aG g;subst g;rw[M]at t;exact kk PySem.Data.ctorIdx t rfl)).trans N) M))
 refine⟨F.1,F.2,F.3,F.4,F.5,F.6,F.7,F.8,(Z dP F.9),⟨_,f⟩,(λy e=>?_),(λy c e=>?_),F.13,F.14,(λj u e=>?_)⟩
 ·exact bS (F.11 y e) λc p w G=>(cP c p w (d c p G))
 ·exact aI (F.12 y c e) λp G=>⟨p,d c p G⟩
 ·by_cases q:j=i
  ·clear S h C n;subst q
   rw[kR (Z F.9<|(bV.mp H).1)]at e;exact nomatch e
  ·rw[d6 (λz=>q z.symm)]at e
   refine g_ (F.15 j u e) λy k X w l R=>(dk y k X w ?_ (R.stay st));rcases l with⟨I,L,v,Φ⟩|⟨I,c,Φ,Ω⟩
   ·have:L=mm:=Rk v r
    clear S h F r C n st e R v;subst this;refine .inl ⟨I,_,f,?_⟩;have W:y≠x:=λz=>q (DM P (z▸w) H);simp[W,Φ]
   ·exact .inr ⟨I,c,Φ,d c _ Ω⟩
theorem nQ{x:Str}{v:V}{a:Value}{Q:Unit->Shared->Prop}(S:St B sc fs U J m μ s)(b:sc.names[i]?=some (x,.local))(r:aj B.N μ s.heap v a)
 (h:∀s',St B sc fs U (J.set i (some v)) m μ s'->Nx B (b9 sc U) μ s m μ s'->Q () s'):
 wpAny (model B.prog B.w) A (storeName U x a) Q E s:=wX S b λs' c n w=>ac w λmm g hm=>h s' ⟨c.1,by
 have F:=c.2;refine⟨F.1,F.2,F.3,F.4,F.5,F.6,F.7,F.8,(dP ..).trans ((dP ..).symm.trans F.9),F.10,F.11,F.12,F.13,F.14,(λj u e=>?_)⟩
 by_cases q:j=i
 ·subst q
  have f:j<J.length:=Z S.2.9<|(bV.mp b).1;rw[kR f]at e;exact Z (aG (aG e)).symm<|(dk x _ a b (.inl ⟨F.5 x (cW (de F.8) b),mm,g,hm⟩) (ac n.2 λl d k=>Z d<|r.keep (n.stillOwn S) k))
 ·rw[d6 (λz=>q z.symm)]at e
  exact F.15 j u ((d6 (λz=>q z.symm)).trans e),c.3⟩ n
theorem HU{x:Str}{v:V}{a:Value}{Q:Unit->Shared->Prop}(S:St B sc fs U J m μ s)(p:sc.names[i]?=some (x,.cell))(r:aj B.N μ s.heap v a)
 (h:∀s',St B sc fs U (J.set i (some v)) m μ s'->Nx B (b9 sc U) μ s m μ s'->Q () s'):
 wpAny (model B.prog B.w) A (storeName U x a) Q E s:=by
 have F:=S.2;have G:=de F.8;have Y:=F.6 x (cW G p);refine bS (F.11 x (cW G p)) λc v0 D C=>wpAny_storeName_cell F.1 Y D C λh' g H=>a_ (Nx.own S (.inr (ad x (cW G p) D)) (λob e=>Ez C e) H (Qn C g)) λn st=>h _ ⟨S.1.next n (λb e=>e▸S.3.2 x c (cW G p) D),(aI F.10 λmm L=>?_),S.3⟩ (n.mono (xL (.inr (ad x (cW G p) D))))
 have M:U.locals≠c:=λz=>by refine iF L λo' es ep f Φ _=>?_;clear L;refine ac C λo w t=>?_;clear C;rw[z,w]at f;replace f:=aG f;subst f;rw[t]at Φ;exact kk PySem.Data.ctorIdx Φ rfl
 refine⟨F.1,F.2,F.3,F.4,F.5,F.6,F.7,F.8,(Z dP F.9),⟨_,(L.sameBut H M)⟩,(λy e=>?_),(λy d e=>?_),F.13,F.14,(λj u e=>?_)⟩
 ·refine bS (F.11 y e) λd N I X=>?_
  by_cases q:d=c
  ·clear S h C n L;subst q;exact(cP _ _ I g)
  ·refine ac X λo w t=>?_;clear X
   exact⟨d,N,I,o,(H.2 d q).trans w,t⟩
 ·refine lG (F.12 y d e) λN o w t=>?_
  by_cases q:d=c
  ·exact Z q<|⟨_,g⟩
  ·exact⟨_,o,((H.2 d q).trans w),t⟩
 ·by_cases q:j=i
  ·clear S h C n L;subst q
   have hl:j<J.length:=Z F.9<|(bV.mp p).1;rw[kR hl]at e
   cases e
   exact(dk x _ a p (.inr ⟨.inl Y,c,D,g⟩) (r.stay st))
  ·rw[d6 (λz=>q z.symm)]at e
   refine g_ (F.15 j u e) λy k v' I l r'=>(dk y k v' I ?_ (r'.stay st));rcases l with⟨Ω,W,T,P⟩|⟨Ω,d,P,Ψ⟩
   ·exact .inl ⟨Ω,W,T.sameBut H M,P⟩
   ·refine ac Ψ λo w t=>?_;clear Ψ
    exact .inr ⟨Ω,d,P,o,(H.2 d (λz=>(λz=>q (DM G (z▸I) p)) (F.7 y x c (z▸P) D))).trans w,t⟩
variable{T:DT}
theorem O_{x:Str} i(c:sc.names[i]?=some (x,.local)):gf B sc d (.Name x p) λv J m Q=>Q (J.set i (some v)) m:=by intro v J m Q q A fs U μ s E a e S r;exact wpAny_assign_Name (nQ S c r λs' b n=>⟨_,_,_,q,b,n⟩)
theorem Pa{x:Str} i(c:sc.names[i]?=some (x,.cell)):gf B sc d (.Name x p) λv J m Q=>Q (J.set i (some v)) m:=by intro v J m Q q A fs U μ s E a e S r;exact wpAny_assign_Name (HU S c r λs' b n=>⟨_,_,_,q,b,n⟩)
theorem NT:∀{l:List (Nat×V)},(dG i l).isSome=true->∃p,p∈l/\p.1=i:=by
 intro l
 induction l with
 |nil=>exact@λe=>aR e
 |cons a r c=>
  intro e
  by_cases q:a.1=i
  ·exact(ad _ (.head _) q)
  ·rw[show dG i (a::r)=dG i r from ai q]at e
   exact ac (c e) λp b ep=>(ad p (.tail _ b) ep)
theorem Ja{l:List (Nat×V)}{a b:Value}{v:V}{Q:Unit->Shared->Prop}(ok:rT B.K (B.N.cls c) (B.N.attr i)=true)(S:b_ B fs m μ s)(r:aj B.N μ s.heap (.obj c n) a)(e:m[n]?=some (.fields l))(hz:l.length<=1000)(rv:aj B.N μ s.heap v b)
 (h:∀s',Nx B No μ s (m.set n (.fields (eL i v l))) μ s'->Q () s'):wpAny (model B.prog B.w) A (setAttr a (B.N.attr i) b) Q E s:=by
 refine yw (ya S.4 r e) λx ox dx od mm e_ I W M P hl ns L=>Z e_ ?_;simp only[rT,j6,fA]at ok;obtain⟨⟨⟨Y,Ψ⟩,o3⟩,o4⟩:=ok;refine set_plain S.X I Y ?_;generalize d:({s with toks:=s.toks+1})=s1;have Φ:B.K.In s1.heap:=Z d.symm S.X;have T:InstAt s1.heap x ox _ _:=Z d.symm I;refine osa_open Φ T Ψ (by unfold takerIn;refine Z o4 ?_;rfl) λbb=>?_
 refine ac (any_some o3) λcd Ω F=>?_;obtain⟨X,f,N,-⟩:=T;obtain⟨oc,δ,γ,ε⟩:=ox;dsimp only at f W;clear e P hl r o4 o3 Y Ψ I N;subst f W;refine eQ (f7 (wpAny_loadPart X (ag ((looks_clsIn Φ Ω).here (Z F (aD (eQ (ag (wpAny_nsSet1 (Z d.symm ns) λh' k R=>?_)))))))));have w:Within mm (l.map λp=>B.N.attr _):=λy H=>ac (L.2 y (Option.isSome_iff_ne_none.mpr H)) λj t u=>Z u<|ac (NT t) λp hp ep=>bT.mpr (ad p hp (bg _ ep));refine iF (k.count (Within.cons _ b w)) λoD β α G D C=>ag (wpAny_lookBehind G (Z D<|pastItsLine_dict (aC C (Z bU<|Z aY<|cV hz))) (aD ?_));clear hz ns Φ Ω F X G D C;subst d;refine h _ (Nx.cell (o:=.fields _) S.4 M R (gx _ k ?_ ?_) _)
 ·have st:=S.4.stillBut M R
  intro j w g;rw[yZ]at g
  by_cases q:j=i
  ·clear S h M k R;subst q
   rw[ao rfl]at g;replace g:=aG g;subst g;exact(ad b (by simp) (rv.stay st))
  ·rw[ai q]at g
   exact ac (L.1 j w g) λw' t u=>(ad w' (by dsimp only;exact Z (ai λz=>q (B.ainj j i z)) t) (u.stay st))
 ·intro y H
  by_cases q:y=B.N.attr i
  ·exact(ad i (by refine Z (yZ ..)<|Z (ao rfl) ?_;rfl) q)
  ·dsimp only at H
   rw[ai q]at H;refine ac (L.2 y H) λj t u=>(ad j (Z (yZ ..) ?_) u)
   split
   ·rfl
   ·exact t
theorem Pb{o:Expr} c i(k:B.N.attr i=name)(h1:a7 B sc d o D)(l:rT B.K (B.N.cls c) name=true):
 gf B sc d (.Attribute o name p) λv J m Q=>D J m λx m=>sa x λg n=>jd g c (wf i n v m (Q J)):=by
 subst k;intro v J m Q q A fs U μ s E a f S r;refine eD (h1.go q f S λu s1 x m1 μ1 q1 t b=>gR ?_);have h:=xT q1;clear q1;refine bS h λg n e q1=>?_;clear h;subst e;clear h1 q f;obtain⟨rfl,j,hz,q1⟩:=kI q1;exact eD (Ja l (S.next b).1 t j hz (r.nx S.1.4 b) λs' n=>wpAny_release ⟨J,_,_,q1,(S.next b).next n,(b.trans n).mono cG⟩)
def c_{K:Type}[DecidableEq K](k:K)(v:V):List (K×V)->List (K×V)
 |[]=>[(k,v)]
 |(x,y)::r=>if x=k then(x,v)::r else(x,y)::c_ k v r
def H0(n:Nat)(i v:V)(m:av)(Q:bY):O->Prop:=λo=>O.casesOn (motive:=λ_=>Prop) o (λl=>df i λk=>∃j,br (l.length<=2^30) (seqIndex? k l.length=some j) (Q (m.set n (.list (l.set j v))))) (λ_=>False)
 (λl=>pR i λk=>l.length<=10000/\Q (m.set n (.sdict (c_ k v l)))) (λl=>df i λk=>l.length<=10000/\Q (m.set n (.idict (c_ k v l))))
 (λl=>kq i λt=>∃k,br (e6 t=some k) (l.length<=10000) (Q (m.set n (.tdict (c_ k v l))))) (λ_ _=>False) False
def hZ(x i v:V)(m:av)(Q:bY):Prop:=gp x λn=>iA m n (H0 n i v m Q)
theorem Ra{K:Type}[DecidableEq K]{kvs:List (K×Value)}{l:List (K×V)} k(e:kvs.map (·.1)=l.map (·.1)):(kvs.any λa=>decide (a.1=k))=(l.any λa=>decide (a.1=k)):=by
 have h:∀{b:Type}(r:List (K×b)),(r.any λa=>decide (a.1=k))=((r.map _).any λx=>decide (x=k)):=λr=>by refine Z List.any_map ?_;rfl
 exact Z (h ..)<|Z (h ..)<|Z e rfl
theorem xh{K:Type}[DecidableEq K] k v:∀{l:List (K×V)},(l.any λc=>decide (c.1=k))=false->c_ k v l=l++[(k,v)]:=by
 intro l
 induction l with
 |nil=>exact@λ_=>rfl
 |cons d r b=>exact@λe=>have a:=Bool.or_eq_false_iff.mp e;(ai (of_decide_eq_false a.1)).trans (bg _ (b a.2))
theorem Bn{K:Type}[DecidableEq K] k v:∀{l:List (K×V)},(l.any λc=>decide (c.1=k))=true->(c_ k v l).map (·.1)=l.map (·.1):=by
 intro l
 induction l with
 |nil=>exact@λe=>aR e
 |cons a r b=>
  intro e
  by_cases q:a.1=k
  ·refine Z (show c_ k v (a::r)=(a.1,v)::r from ao q) ?_;rfl
  ·refine Z (show c_ k v (a::r)=a::c_ k v r from ai q) ?_
   rw[List.any_cons,gE q]at e;exact bg (a.1::·) (b e)
theorem Bm{K:Type}[DecidableEq K] k v b(n:aj N μ h v b){l:List (K×V)}{kvs:List (K×Value)}(e:kvs.map (·.1)=l.map (·.1))(i:(l.map (·.1)).Nodup)(r:aq N μ h (l.map (·.2)) (kvs.map (·.2)))
 (a:(l.any λc=>decide (c.1=k))=true):aq N μ h ((c_ k v l).map (·.2)) ((kvs.map λc=>if c.1=k then(c.1,b)else c).map (·.2)):=by
 induction l generalizing kvs with
 |nil=>exact aR a
 |cons p l j=>
  cases kvs with
  |nil=>exact mN e
  |cons x xs=>
   refine a_ (gH e) λd g=>bX r λu w z m f=>?_;clear r;refine a_ (gH z) λz1 z2=>?_;have f:=z2▸f;have d:x.1=p.1:=d;refine(?_:aq N μ h _ ((if x.1=k then(x.1,b)else x).2::_))
   by_cases q:p.1=k
   ·exact Z (show c_ k v (p::l)=(p.1,v)::l from ao q)<|Z (ao (d.trans q))<|Z (map_store_of_not_mem xs k b (Z g<|Z q.symm<|(eF.mp i).1))<|aq.cons n f
   ·exact Z (show c_ k v (p::l)=p::c_ k v l from ai q)<|Z (ai (by exact Z d q))<|have z1:x.2=u:=z1;aq.cons (z1.symm▸m) (j g (eF.mp i).2 f (by rw[List.any_cons,gE q]at a;exact a))
theorem AT{K:Type}[DecidableEq K] k v b(c:aj N μ h v b){l:List (K×V)}{kvs:List (K×Value)}(e:kvs.map (·.1)=l.map (·.1))(f:(l.map (·.1)).Nodup)(r:aq N μ h (l.map (·.2)) (kvs.map (·.2))):
 (stored kvs k b).map (·.1)=(c_ k v l).map (·.1)/\aq N μ h ((c_ k v l).map (·.2)) ((stored kvs k b).map (·.2)):=by
 unfold stored;refine Z (Ra k e) ?_
 cases a:l.any λd=>decide (d.1=k)with
 |true=>exact⟨Z (keys_map_store ..)<|Z (Bn k v a)<|Z e rfl,Bm k v b c e f r a⟩
 |false=>exact Z (xh k v a)<|⟨by simp[e],(Z bz (Z bz (r.append (aq.cons c aq.nil))))⟩
theorem AU k v b g(i:aj N μ h v b){l:List (List bR×V)}{xs:List (List bR×Addr×Value)}(e:xs.map (·.1)=l.map (·.1))(j:(l.map (·.1)).Nodup)(r:aq N μ h (l.map (·.2)) (xs.map (·.2.2))):
 (storedH xs k g b).map (·.1)=(c_ k v l).map (·.1)/\aq N μ h ((c_ k v l).map (·.2)) ((storedH xs k g b).map (·.2.2)):=by
 have f:(atKey xs k).isSome=(l.any λc=>decide (c.1=k)):=by
  have h1:(atKey xs k).isSome=(xs.map (·.1)).any λx=>decide (x=k):=by refine Z Option.isSome_map<|Z List.any_map ?_;rewrite[Bool.eq_iff_iff];rewrite[List.find?_isSome];rewrite[List.any_eq_true];rfl
  refine Z h1<|Z e<|Z List.any_map ?_;rfl
 unfold storedH;refine Z f ?_
 cases a:l.any λc=>decide (c.1=k)with
 |true=>
  refine⟨Z (keys_map_putAt ..)<|Z (Bn k v a)<|Z e rfl,?_⟩
  have z:(xs.map (putAt k b)).map (·.2.2)=(((xs.map λx=>(x.1,x.2.2)).map λc=>if c.1=k then(c.1,b)else c).map (·.2)):=by
   refine Z eG<|Z eG<|Z eG<|j0 λx _=>?_;simp only[Function.comp_apply,putAt]
   split<;>rfl
  exact Z z<|(Bm k v b i (by refine Z eG<|Z e.symm ?_;rfl) j (Z eG r) a)
 |false=>exact Z (xh k v a)<|⟨by simp[e],(Z bz (Z bz (r.append (aq.cons i aq.nil))))⟩
section
variable{own:Addr->Prop}
theorem Ea{prog:Program}{w:World}{K:Type}[DecidableEq K]{knd:KeyKind prog w K}{kvs:List (K×Value)}(x:h.DictOf knd a kvs):(kvs.map (·.1)).Nodup:=by
 refine sK x λo es ep d b c r=>?_;clear x
 first|exact r.2.1|exact r.2.2|exact r.1|exact r.2
theorem Eb{prog:Program}{w:World}{K:Type}[DecidableEq K]{knd:HeapKind prog w K}{kvs:List (K×Addr×Value)}(x:h.DictOfH knd a kvs):(kvs.map (·.1)).Nodup:=by
 refine sK x λo es ep d b c r=>?_;clear x
 first|exact r.2.1|exact r.2.2.1|exact r.1|exact r.2.2
theorem AV{xs:List (List bR×Addr×Value)}{c:Value}(e:∀x∈xs,x.2.1∉μ)(d:ta∉μ):∀x∈storedH xs k ta c,x.2.1∉μ:=by
 unfold storedH;intro x a
 split at a
 ·refine ac (bT.mp a) λy f b=>?_;clear a;subst b
  unfold putAt
  split
  ·exact e y f
  ·exact e y f
 ·rcases cO.mp a with a|a
  ·exact e x a
  ·simp only[b5]at a;exact Z a d
theorem I7{l:Addr}{Q:Unit->Shared->Prop}(f:s.heap.PlainList l items)
 (g: -(2^63)<=k)(h1:k<2^63)(a:seqIndex? k items.size=some j)
 (h:∀h',h'.PlainList l (items.setIfInBounds j v)->Heap.SameBut l s.heap h'->Q () {s with heap:=h'}):
 wpAny (model prog w) A (setItem (.ref l) (.int k t) v) Q E s:=by
 have e:=f.isList;refine aI f λn d=>?_;clear f;unfold setItem
 try with_reducible refine eJ ?_
 refine ag (wpAny_sequenceKey e.typeIs rfl ?_);refine ag (mx e.typeIs slot_list_setitem
  (gV slot_list_setitem e.typeIs entry_list_setitem ?_ (args_list_setitem _ _ _)))
 refine(?_:wpAny _ _ (Builtin.List.listSubscript? _>>=_) _ _ s);have c:Builtin.List.listFitsIndex k=true:=by
  by_cases q:k<0
  ·exact fitsIndex_neg q g
  ·exact fitsIndex_of (by lia) h1
 refine ag (wpAny_listSubscript_int c ?_);clear c g h1;have b:wpAny (model prog w) A.in1 _ (λ_ s'=>Q () s') E s:=wpAny_setSeqItemAt d rfl (h _ (⟨_,jx _ d rfl⟩) (iZ ..))
 cases k with
 |ofNat i=>
  have:j=i:=by
   unfold seqIndex? at a;have:¬(Int.ofNat i<0):=by simp
   simp only[this,if_false]at a;refine jc a (λm a=>?_) (λm a=>?_)
   ·simpa using(aG a).symm
   ·exact aN a
  subst this;refine f7 (wpAny_seqItemAt d rfl (aD (Z ((tK (ui a))) ?_)));refine ag (mo b (λ_ s' q=>?_))
  first
   |exact eQ _
   |exact aD (ad _ rfl (aD q))
 |negSucc i=>
  refine f7<|lQ d rfl (aD (aD (Z a ?_)));simp only[Option.bind_some,(tK (ui a)),Option.map_some];refine ag (mo b (λ_ s' q=>?_))
  first
   |exact eQ _
   |exact aD (ad _ rfl (aD q))
theorem ym{a b c:Type}{f:a->c}{g:b->c}{x:List a}{y:List b}(e:x.map f=y.map g)(hz:y.length<=10000):x.length<=sizeLine:=by have:=bg List.length e;rw[eH,eH]at this;exact Z this<|aF hz
theorem xk{k v:Value}{R:Unit->Shared->Prop}(t:s.TypeIs (.ref a) "dict")(h:wpAny (model prog w) A.in1 (dictSet a k v) R E s):wpAny (model prog w) A (setItem (.ref a) k v) R E s:=by
 unfold setItem;refine eJ ?_;refine ag (wpAny_sequenceKey t (by decide) ?_)
 refine ag (mx (name:=Str.ofString "__setitem__") t slot_dict_setitem
  (gV slot_dict_setitem t entry_dict_setitem ?_ (args_dict_setitem _ _ _)))
 show wpAny _ _ (Builtin.Dict.notOrdered "__setitem__" ⟨[.ref a,k,v],[]⟩>>=_) _ _ s;refine ag (wpAny_notOrdered_dict t ?_);show wpAny _ _ (dictSet a k v>>=_) _ _ s;exact ag (mo h λ_ _ q=>aD ⟨.none,rfl,aD q⟩)
theorem s8{n:Nat}{H:Addr}{y v:V}{Q:bY}{R:Unit->Shared->Prop}{b c:Value}(q:hZ (.loc n) y v m Q)(nl:∀l,m[n]?≠some (.list l))(I:A.units<cLine)(S:b_ B fs m μ s)(e:μ[n]?=some H)(F:aj B.N μ s.heap y b)(G:aj B.N μ s.heap v c)
 (h:∀m' s',Q m'->Nx B No μ s m' μ s'->R () s'):wpAny (model B.prog B.w) A (dictSet H b c) R E s:=by
 refine q.k λx q=>?_;rename_i o
 cases o with
 |list l=>exact absurd x (nl l)
 |idict l=>
  refine cQ q F λk t u=>a_ u λhz p=>?_;clear u;obtain⟨kvs,g,a,r⟩:=S.4.3 _ _ _ e x;refine wpAny_dictSet_pairs (k:=k) (by simp[intKind,Value.isInt]) g (λh' d f=>?_) (ym a hz)
  have st:=S.4.stillBut e f;obtain⟨z1,z2⟩:=AT k v c (G.stay st) a (a▸Ea g) (r.stay st);exact h _ _ p (Nx.cell (o:=.idict _) S.4 e f (b6 _ d z1 z2) _)
 |tdict l=>obtain⟨t,rfl,k,Φ,hz,p⟩:=lx q;refine cB (pF (prog:=B.prog) (w:=B.w) Φ F) λM C j D=>?_;subst C;refine ir (S.4.3 _ _ _ e x) λxs g a r L=>wpAny_dictSet_heap I j g (λh' d f=>?_) (ym a hz);exact have i:=AU k v c M (G.stay (S.4.stillBut e f)) a (a▸Eb g) (r.stay (S.4.stillBut e f));h _ _ p (Nx.cell (o:=.tdict _) S.4 e f (gP _ d i.1 i.2 (AV L D)) _)
 |sdict l=>
  refine ue q F λk t u=>a_ u λhz p=>?_;clear u;obtain⟨kvs,g,a,r⟩:=S.4.3 _ _ _ e x;refine wpAny_dictSet_pairs (k:=k) (by simp[PySem.strKind,Value.isStrOf]) g (λh' d f=>?_) (ym a hz)
  have st:=S.4.stillBut e f;obtain⟨z1,z2⟩:=AT k v c (G.stay st) a (a▸Ea g) (r.stay st);exact h _ _ p (Nx.cell (o:=.sdict _) S.4 e f (b6 _ d z1 z2) _)
 |_=>exact q.elim
theorem I9{x y v:V}{Q:bY}{R:Unit->Shared->Prop}{a b c:Value}(q:hZ x y v m Q)(u:Ar d A fs)(S:b_ B fs m μ s)(I:aj B.N μ s.heap x a)(p:aj B.N μ s.heap y b)(r:aj B.N μ s.heap v c)
 (h:∀m' s',Q m'->Nx B No μ s m' μ s'->R () s'):wpAny (model B.prog B.w) A (setItem a b c) R E s:=by
 refine gt q I λn Φ f i=>i.k λe q=>?_;clear i;rename_i o
 cases o with
 |list l=>refine cQ q p λk t i=>cB i λj hz D H=>?_;clear i;exact ac (S.4.plain f e) λitems G F=>gv (uj D hz) λb1 b2 L=>I7 G b1 b2 (F.size▸D) λh' w C=>h _ _ H (Nx.cell (o:=.list _) (tk:=s.toks) S.4 f C (ad _ w (Z Array.toList_setIfInBounds ((F.stay (S.4.stillBut f C)).set j (r.stay (S.4.stillBut f C))))))
 |idict l=>exact cB (S.4.3 _ _ _ f e) λ_ g _ _=>xk g.typeIs (s8 (iA.mk e q) (λl z=>by rw[e]at z;cases z) u.line1 S f p r h)
 |tdict l=>exact ir (S.4.3 _ _ _ f e) λ_ g _ _ _=>xk g.typeIs (s8 (iA.mk e q) (λl z=>by rw[e]at z;cases z) u.line1 S f p r h)
 |sdict l=>exact cB (S.4.3 _ _ _ f e) λ_ g _ _=>xk g.typeIs (s8 (iA.mk e q) (λl z=>by rw[e]at z;cases z) u.line1 S f p r h)
 |_=>exact q.elim
theorem O9{o i:Expr}(h1:a7 B sc d o D1)(h:a7 B sc d i D2):
 gf B sc d (.Subscript o i p) λv J m Q=>D1 J m λx m=>D2 J m λy m=>hZ x y v m λm=>Q J m:=by
 intro v J m Q q A fs U μ s E a e S r;exact eD (h1.go q e S λt s1 x m1 μ1 q1 j b=>eD (h.go q1 e (S.next b) λu s2 y n l q2 k c=>have f:=(S.next b).next c;gR (eD (I9 q2 e f.1 (j.nx b.1 c) k ((r.nx S.1.4 b).nx b.1 c) λm' s' q3 g=>wpAny_release ⟨J,_,_,q3,f.next g,((b.trans c).trans g).mono cG⟩))))
def rh(B:bB)(sc:Scope)(d:Nat)(ts:List Expr)(T:List V->bh->av->hS->Prop):Prop:=
 ∀xs J m Q,T xs J m Q->∀A fs U μ s E vs,Ar d A fs->St B sc fs U J m μ s->aq B.N μ s.heap xs vs->wpAny (model B.prog B.w) A (assignInOrder ((assignEach ts U).map (·.2)) vs) (o8 B sc fs U μ s Q) E s
theorem O6:rh B sc d [] λxs J m Q=>match xs with|[]=>Q J m|_=>False:=by
 intro xs J m Q q A fs U μ s E vs a S r
 cases xs with
 |cons x r=>exact q.elim
 |nil=>exact wpAny_assignInOrder_none ⟨J,m,μ,q,S,Nx.refl S.1.4⟩
theorem aj.nxOwn{a:Value}(S:St B sc fs U J m μ s)(n:Nx B (b9 sc U) μ s m' μ' s')(r:aj B.N μ s.heap x a):aj B.N μ' s'.heap x a:=ac n.2 λd b c=>Z b<|r.keep (n.stillOwn S) c
theorem aq.nxOwn{x:List V}{a:List Value}(S:St B sc fs U J m μ s)(n:Nx B (b9 sc U) μ s m' μ' s')(r:aq B.N μ s.heap x a):aq B.N μ' s'.heap x a:=ac n.2 λd b c=>Z b<|r.keep (n.stillOwn S) c
theorem O7{t:Expr}(h1:gf B sc d t T)(i:rh B sc d ts Ts)
 (he:autoParam (∀U,assignEach (t::ts) U=(false,assign t U)::assignEach ts U) bF):
 rh B sc d (t::ts) λxs J m Q=>match xs with|x::r=>T x J m λJ m=>Ts r J m Q|[]=>False:=by
 intro xs J m Q q A fs U μ s E vs b S n
 cases xs with
 |nil=>exact q.elim
 |cons x r=>refine bX n.inv_cons λv ws h k l=>Z h<|Z (he ..)<|rM (mo (h1 x J m _ q A fs _ μ s E v b S k) (λ_ s1 e=>e.k λj m1 μ1 q1 f c=>?_));clear e;exact mo (i r _ m1 _ q1 A fs _ μ1 s1 E ws b f (l.nxOwn S c)) (λ_ _ p=>p.step (λ_ q=>q) c)
theorem GE{it t:Addr}(k:t≠it):∀n i s Q,s.heap.IsListIter it t i->s.heap.IsList t items->i+n<=items.size->
 (∀h',h'.IsListIter it t (i+n)->Heap.SameBut it s.heap h'->Q ((items.toList.drop i).take n) {s with heap:=h'})->wpAny (model prog w) A (draw (.ref it) n) Q E s:=by
 intro n
 induction n with
 |zero=>intro i s Q d _ _ j;exact aD (by simpa using j _ d (rd ..))
 |succ n o=>
  intro i s Q d l f j;have g:i<items.size:=aE f;refine ag (wpAny_pyNext_list_item d l (x:=items[i]) (by simp[g]) λm b a=>eD (o _ _ _ b (l.extBut a.extBut k) (aE f) λh c e=>aD ?_))
  have:=j h (Z (show i+(n+1)=i+1+n by exact sr) c) (a.trans e)
  rw[(by simp[List.drop_eq_getElem_cons,g]:items.toList.drop i=items[i]::items.toList.drop (i+1))]at this
  exact this
theorem GD{t:Addr}{Q:List Value->Shared->Prop}(l:A.handled=none)(f:s.heap.IsList t items)
 (k:∀h',Heap.ExtBut s.heap.objs.size s.heap h'->Q items.toList {s with heap:=h'}):wpAny (model prog w) A (unpackItems (.ref t) items.size none) Q E s:=by
 have g:t≠s.heap.objs.size:=by refine ac f λo m _=>?_;clear f;exact bI (dH m)
 refine ag<|ag (wpAny_specialOf f.typeIs slot_list_iter.lookup (aD (eD (wpAny_pyIter_list f (eD (GE g _ 0 _ _ (gx _ (cg _ rfl) rfl rfl) (f.push _) fT λj c a=>?_))))));exact Z (List.take_of_length_le (aT _))<|Z (ai (by simp))<|eD (wpAny_pyNext_list_end l c ((f.push _).extBut a.extBut g) (by simp) λh d=>aD (k h λb o i e=>d b o i (a.extBut b o i (bj _ e))))
theorem Nx.extB(M:bw B.prog B.w B.N μ m s.heap)(x:Heap.ExtBut s.heap.objs.size s.heap h'):Nx B P μ s m μ {s with heap:=h'}:=
 Nx.of_keep M (λb o e=>x b o (bI (dH e)) e) rfl rfl
theorem wM{a:Value}{Q:List Value->Shared->Prop}(h:Ar d A fs)(S:b_ B fs m μ s)(r:aj B.N μ s.heap x a)(p:x=.tup l\/∃k,x=.loc k/\m[k]?=some (.list l))(o:l.length=n)
 (i:∀vs h',aq B.N μ h' l vs->Nx B No μ s m μ {s with heap:=h'}->Q vs {s with heap:=h'}):wpAny (model B.prog B.w) A (unpackItems a n none) Q E s:=by
 subst o;rcases p with rfl|⟨k,rfl,e⟩
 ·refine gu r.tup_inv λt items c g b _=>Z c ?_
  have f:l.length=items.size:=by have:=b.length;rwa [mh]at this
  exact Z f<|wpAny_unpackItems_tuple h.4 g λh' x=>have n:Nx B No μ s m μ _:=Nx.extB S.4 x;i _ _ (b.nx S.4 n) n
 ·refine ac r.loc_inv λt c g=>Z c<|ac (S.4.list g e) λitems j b=>?_
  have f:l.length=items.size:=by have:=b.length;rwa [mh]at this
  exact Z f<|GD h.4 j λh' x=>have n:Nx B No μ s m μ _:=Nx.extB S.4 x;i _ _ (b.nx S.4 n) n
def wP(n:Nat)(T:List V->bh->av->hS->Prop):DT:=λv J m Q=>match v with
 | .tup l=>l.length=n/\T l J m Q
 | .loc k=>∃l,br (m[k]?=some (.list l)) (l.length=n) (T l J m Q)
 |_=>False
theorem O8{x1:Nat}{T:List V->bh->av->hS->Prop}(h1:rh B sc d ts T)
 (f:autoParam (∀U,(assignEach ts U).length=ts.length) bF)(hs:autoParam (∀U,(assignEach ts U).findIdx? (·.1)=none) bF):
 gf B sc d (.Tuple ts x1 p) (wP ts.length T):=by
 refine λv J m Q q A fs U μ s E a c S r=>gR ?_;unfold unpack;refine Z (hs ..)<|Z (f ..) ?_;obtain⟨l,h,g,q⟩:∃l,br ((v=.tup l\/∃k,v=.loc k/\m[k]?=some (.list l))) (l.length=ts.length) (T l J m Q):=by
  cases v<;>try exact q.elim
  ·exact(b6 _ (.inl rfl) q.1 q.2)
  ·refine cB q λl e q1 q2=>?_;clear q
   exact(b6 l (.inr (ad _ rfl e)) q1 q2)
 exact eD (wM c S.1 r h g λvs h' i n=>mo (h1 l J m Q q A fs _ μ _ E vs c (S.next n) i) (λ_ _ p=>p.step cG n))
end
inductive Fl where
 |next
 |ret(v:V)
abbrev cv:=Fl->bh->av->Prop
def wa(N:gT)(μ:List Addr)(h:Heap):Fl->Flow->Prop
 | .next,f=>f=.next
 | .ret v,f=>∃a,f=.ret a/\aj N μ h v a
inductive lT(B:bB)(sc:Scope)(fs:List Env)(U:Env)(μ:List Addr)(s:Shared)(Q:cv)(f:Flow)(s':Shared):Prop
 |mk(fl:Fl)(le':bh)(m':av)(μ':List Addr)(q:Q fl le' m')(r:wa B.N μ' s'.heap fl f)(st:St B sc fs U le' m' μ' s')(n:Nx B (b9 sc U) μ s m' μ' s')
theorem lT.k{Q:cv}(w:lT B sc fs U μ s Q f s')(f:∀b:Fl,∀a:bh,∀m':av,∀μ':List Addr,∀q:Q b a m',∀r:wa B.N μ' s'.heap b f,∀st:St B sc fs U a m' μ' s',∀n:Nx B (b9 sc U) μ s m' μ' s',G):G:=by obtain⟨b,a,m',μ',q,r,st,n⟩:=w;exact f b _ m' μ' q r st n
abbrev DS:=bh->av->cv->Prop
def fJ(B:bB)(sc:Scope)(d:Nat)(st:Stmt)(D:DS):Prop:=
 ∀J m Q,D J m Q->∀A fs U μ s E,Ar d A fs->St B sc fs U J m μ s->wpAny (model B.prog B.w) A (exec st U) (lT B sc fs U μ s Q) E s
def i3(B:bB)(sc:Scope)(d:Nat)(sts:List Stmt)(D:DS):Prop:=
 ∀J m Q,D J m Q->∀A fs U μ s E,Ar d A fs->St B sc fs U J m μ s->wpAny (model B.prog B.w) A (execs sts U) (lT B sc fs U μ s Q) E s
section
variable{own:Addr->Prop}
theorem lT.step{Q:cv}(i:∀b,P b->b9 sc U b)(n:Nx B P μ s m' μ' s')(p:lT B sc fs U μ' s' Q f s''):lT B sc fs U μ s Q f s'':=by refine p.k λg c d a q r S h=>?_;clear p;exact⟨g,c,d,a,q,r,S,(n.mono i).trans h⟩
theorem xK:∀b,b9 sc U b->b9 sc U b:=λ_ q=>q
theorem Ee:i3 B sc d [] λJ m Q=>Q .next J m:=by intro J m Q q A fs U μ s E a S;exact wpAny_execs_nil ⟨.next,J,m,μ,q,rfl,S,Nx.refl S.1.4⟩
def Bq(D:DS)(Q:cv):cv:=λfl J m=>match fl with
 | .next=>D J m Q
 | .ret v=>Q (.ret v) J m
def nU(D1 D2:DS):DS:=λJ m Q=>D1 J m (Bq D2 Q)
theorem Ef{st:Stmt}{D1 D2:DS}(h1:fJ B sc d st D1)(o:i3 B sc d sts D2):i3 B sc d (st::sts) (nU D1 D2):=by
 refine λJ m Q q A fs U μ s E i S=>jG (mo (h1 J m _ q A fs _ μ s E i S) (λf s1 k=>k.k λn b m1 μ1 q1 c h j=>?_));clear k;cases n with
 |next=>exact Z c<|mo (o _ m1 Q q1 A fs _ μ1 s1 E i h) (λ_ _ p=>p.step xK j)
 |ret v=>refine ac c λa l e=>?_;clear c;exact Z l<|⟨.ret v,b,m1,μ1,q1,(ad a rfl e),h,j⟩
theorem yL(k:U.scope.kind=.function):interactive U=false:=by unfold interactive;refine Z k ?_;rfl
theorem Pn(h1:a7 B sc d e D)(hs:autoParam (∀U,swapsWith e none p.line U=pure false) bF):
 fJ B sc d (.Expr e p) λJ m Q=>D J m λ_ m=>Q .next J m:=by
 intro J m Q q A fs U μ s E c S;exact wpAny_Expr_any (mo (h1 J m _ q A fs _ μ s E c S) (λg s1 b=>(by refine b.k λx m1 μ1 q1 f a=>?_;clear b;exact⟨.next,J,m1,μ1,q1,rfl,S.next a,a.mono cG⟩))) (yL S.2.1) (hs _)
theorem Pi(h1:a7 B sc d e D):fJ B sc d (.Return (some e) p) λJ m Q=>D J m λv m=>Q (.ret v) J m:=by intro J m Q q A fs U μ s E c S;exact wpAny_Return_some (mo (h1 J m _ q A fs _ μ s E c S) (λg s1 b=>(by refine b.k λx m1 μ1 q1 f a=>?_;clear b;exact⟨.ret x,J,m1,μ1,q1,(ad g rfl f),S.next a,a.mono cG⟩)))
theorem Ph:fJ B sc d (.Return none p) λJ m Q=>Q (.ret .none) J m:=by intro J m Q q A fs U μ s E a S;exact wpAny_Return_none ⟨.ret _,J,m,μ,q,(ad _ rfl aj.none_),S,Nx.refl S.1.4⟩
theorem Pl{t:Expr}{D:DB}{D1 D2:DS}(h:dg B sc d t D)(h1:i3 B sc d b1 D1)(e:i3 B sc d b2 D2):
 fJ B sc d (.If t b1 b2 p) λJ m Q=>D J m λb m=>if b then D1 J m Q else D2 J m Q:=by
 intro J m Q q A fs U μ s E c S;refine wpAny_If (h.go q c S λb s1 m1 μ1 q1 a=>?_)
 cases b with
 |true=>exact mo (h1 J m1 Q q1 A fs _ μ1 s1 E c (S.next a)) (λ_ _ p=>p.step cG a)
 |false=>exact mo (e J m1 Q q1 A fs _ μ1 s1 E c (S.next a)) (λ_ _ p=>p.step cG a)
theorem Pg{x y:Str} i j(w:sc.names[i]?=some (x,.local))(z:sc.names[j]?=some (y,.local))(h1:d7 B sc d [f,e2] Ds)
 (N:∀U:Env,U.blockKind=.function->U.kindOf x=some .local->U.kindOf y=some .local->swappedStores [.Tuple [.Name x H,.Name y py] k1 p1] (.Tuple [f,e2] k2 p2) U=pure (some [x,y]))
 (hs:autoParam (∀U,swapsWithSole [.Tuple [.Name x H,.Name y py] k1 p1] (.Tuple [f,e2] k2 p2) p.line U=pure false) bF):
 fJ B sc d (.Assign [.Tuple [.Name x H,.Name y py] k1 p1] (.Tuple [f,e2] k2 p2) p) λJ m Q=>Ds J m λvs m=>aV λa b=>vs=[a,b]/\Q .next ((J.set j (some b)).set i (some a)) m:=by
 intro J m Q q A fs U μ s E u S;refine gR<|eQ<|ag (wpAny_Tuple_spliced (h1.go q u S p2 λvs s1 xs m1 μ1 q1 Φ l=>bS q1 λa b k r=>?_));clear q1;subst k;refine⟨by refine Z Φ.length.symm<|Z bU<|Z bU ?_;decide,?_⟩
 obtain⟨v,Ψ,Y,⟨rfl,rfl⟩,R,D⟩:ds B μ1 s1 (λv m'=>v=.tup _/\m'=m1) _ _:=mP (n:=s1.toks) l.1 Φ rfl ⟨rfl,rfl⟩;have e:=(S.next l).next D;refine Z (N _ (by unfold Env.blockKind;refine Z S.2.1 ?_;rfl) (S.2.5 x (cW (de S.2.8) w)) (S.2.5 y (cW (de S.2.8) z))) ?_
 refine eQ<|((jW (ag (wM u e.1 R (.inl rfl) rfl λX h' W o=>?_))));have⟨v1,ws,h,T,t⟩:=W.inv_cons;refine Z h ?_;have⟨v2,ws,h,Ω,c⟩:=t.inv_cons;exact Z h<|Z c.inv_nil<|ag (rM (wpAny_bindName (nQ (e.next o) z Ω λs4 L F=>rM (wpAny_bindName (nQ L w (T.nxOwn (e.next o) F) λs5 M P=>wpAny_assignInOrder_none (aD ⟨.next,_,_,_,r,rfl,M,(((((l.trans D).trans o).mono cG).trans F).trans P)⟩))))))
def wG(Db:DB)(Dbody:DS):DS:=λJ m Q=>aV λ(I:Nat->hS)(n:Nat)=>I n J m/\∀n J m,I n J m->Db J m λb m=>if b then Dbody J m λfl J m=>match fl with
 | .next=>∃n',n'<n/\I n' J m
 | .ret v=>Q (.ret v) J m
 else Q .next J m
theorem Pd{t:Expr}{D:DB}{D1:DS}(h:dg B sc d t D)(h1:i3 B sc d body D1):fJ B sc d (.While t body [] p) (wG D D1):=by
 refine λJ m Q w A fs U μ s E z S=>bS w λI n M q=>wpAny_While (codeAny_whileLoop (λn s'=>cL λe m' μ'=>br (I n e m') (St B sc fs _ e m' μ' s') (Nx B (b9 sc U) μ s m' μ' s')) (λn s1 c=>g_ c λr m1 μ1 P o H=>?_) n (dk J m μ M S (Nx.refl S.1.4)));clear c;refine mo (h _ m1 _ (q n _ m1 P) A fs _ μ1 s1 _ z o) (λb s2 c=>c.k λC i q2 l=>?_);clear c;cases b with
 |true=>
  refine mo (h1 _ C _ q2 A fs _ i s2 _ z (o.next l)) (λf Ω c=>c.k λL g F j q3 u y T=>?_);clear c;have G:=(H.trans (l.mono cG)).trans T
  cases L with
  |next=>refine Z u<|ac q3 λk N R=>?_;clear q3;exact⟨k,N,g,F,j,R,y,G⟩
  |ret v=>refine ac u λa Φ x=>?_;clear u;exact Z Φ<|⟨.ret v,g,F,j,q3,(ad a rfl x),y,G⟩
 |false=>exact wpAny_execs_nil ⟨.next,r,C,i,q2,rfl,(o.next l),H.trans (l.mono cG)⟩
end
inductive ge(own:Addr->Prop)(μ:List Addr)(m:av)(s s':Shared):Prop
 |mk(kept:∀b o,s.heap.get? b=some o->¬own b->(∀j:Nat,μ[j]?=some b->m[j]?≠some O.part)->s'.heap.get? b=some o)(part:∀(j:Nat) b,μ[j]?=some b->m[j]?=some O.part->aV λx y=>s'.heap.get? b=some {cls:=.type "tuple",data:=.seq #[x,y]})(flds:∀b o,own b->s.heap.get? b=some o->¬dv o/\∃vs,o.data=.fields vs)(gens:s'.gens=s.gens)(os:s'.os=s.os)
inductive dC(own:Addr->Prop)(μ:List Addr)(h:Heap)(μ':List Addr)(h':Heap):Prop
 |mk(ext:∃ν,μ'=μ++ν/\∀a∈ν,h.get? a=none)(dv:dA μ h h')(kept:∀b o,own b->h.get? b=some o->h'.get? b=some o)(off:∀b,own b->b∉μ')
def g9(tg:Expr):Prop:=(aV λx p=>tg=.Name x p)\/cL λes k p=>tg=.Tuple es k p
def j8(own:Addr->Prop)(h:Heap):Prop:=∀b,own b->∃o,h.get? b=some o/\¬d9 o
def gc(B:bB)(it:Value)(tg:Expr)(own:Addr->Prop)(src:bY):List V->List Addr->Heap->Prop
 |[],μ,h=>∀(d:Nat)(A:Around)(fs:List Env)(m:av)(μ':List Addr)(s:Shared)(E:bL)(R:Option Value->Shared->Prop),Ar d A fs->b_ B fs m μ' s->dC own μ h μ' s.heap->src m->(∀s',ge own μ' m s s'->R none s')->wpAny (model B.prog B.w) A (pyNext it) R E s
 |x::r,μ,h=>∀(d:Nat)(A:Around)(fs:List Env)(m:av)(μ':List Addr)(s:Shared)(E:bL)(R:Option Value->Shared->Prop),Ar d A fs->b_ B fs m μ' s->dC own μ h μ' s.heap->src m->
  (∀v s',ge own μ' m s s'->(j8 own s'.heap)->aj B.N μ' s'.heap x v->gc B it tg own src r μ' s'.heap->R (some v) s')->
  wpAny (model B.prog B.w) A (pyNext it) (λo s1=>match o with|none=>R none s1|some v=>wpAny (model B.prog B.w) A (letOwnedTupleGo tg it v) (λ_ s2=>R (some v) s2) E s1) E s
inductive v9(B:bB)(it:Value)(tg:Expr)(own:Addr->Prop)(src:bY)(items:List V)(μ:List Addr)(h:Heap):Prop
 |mk(goes:gc B it tg own src items μ h)(self:∀A E Q s,(∀b o,own b->h.get? b=some o->s.heap.get? b=some o)->Q it s->wpAny (model B.prog B.w) A (pyIter it) Q E s)(alive:j8 own h)
abbrev DI:=bh->av->(List V->bY->av->Prop)->Prop
inductive tE(B:bB)(tg:Expr)(μ:List Addr)(s:Shared)(Q:List V->bY->av->Prop)(it:Value)(s2:Shared):Prop
 |mk(items:List V)(src:bY)(m':av)(μ':List Addr)(own:Addr->Prop)(q:Q items src m')(n:Nx B No μ s m' μ' s2)(i:v9 B it tg own src items μ' s2.heap)(o:∀b,own b->s.heap.get? b=none)(o2:∀b,own b->b∉μ')
theorem tE.k{Q:List V->bY->av->Prop}(w:tE B tg μ s Q it s2)(f:∀items:List V,∀src:bY,∀m':av,∀μ':List Addr,∀a:Addr->Prop,∀q:Q items src m',∀n:Nx B No μ s m' μ' s2,∀i:v9 B it tg a src items μ' s2.heap,∀o:∀b,a b->s.heap.get? b=none,∀c:∀b,a b->b∉μ',G):G:=by obtain⟨items,src,m',μ',a,q,n,i,o,c⟩:=w;exact f _ _ m' μ' _ q n i o c
def j5(B:bB)(sc:Scope)(d:Nat)(tg e:Expr)(D:DI):Prop:=
 ∀J m Q,D J m Q->∀A fs U μ s E,Ar d A fs->St B sc fs U J m μ s->
  wpAny (model B.prog B.w) A (eval e U) (λx s1=>wpAny (model B.prog B.w) A (pyIter x) (tE B tg μ s Q) E s1) E s
section
variable{own:Addr->Prop}
theorem ge.of(S:b_ B fs m μ s)(f:∀b,own b->b∉μ)(a:∀b o,s.heap.get? b=some o->¬own b->s'.heap.get? b=some o)
 (d:∀b o,own b->s.heap.get? b=some o->¬dv o/\∃vs,o.data=.fields vs)(g:s'.gens=s.gens)(o:s'.os=s.os):ge own μ m s s':=
 ⟨λb o e q _=>a b o e q,λj b h i=>eC (S.4.3 j b _ h i) λx y c=>⟨x,y,a b _ c λw=>f b w (bN h)⟩,d,g,o⟩
theorem dC.refl(a:∀b,own b->b∉μ):dC own μ h μ h:=⟨(ad [] (bZ _).symm (λ_ q=>bx q)),.refl _ _,λ_ _ _ e=>e,a⟩
theorem uX{Q:Unit->Shared->Prop}(e:g9 tg)(d:s.heap.get? it=some o)(b:o.cls=.type n)
 (c:["enumerate","zip","dict_itemiterator","dict_reverseitemiterator","odict_iterator","itertools.zip_longest","itertools.pairwise"].contains n=false)(h:Q () s):
 wpAny (model B.prog B.w) A (letOwnedTupleGo tg (.ref it) v) Q E s:=by
 rcases e with⟨x,p,rfl⟩|⟨es,k,p,rfl⟩
 ·exact wpAny_of_eq rfl h
 ·cases v with
  |ref a=>
   refine ag (wpAny_load d (Z b ?_))
   cases f:o.data<;>try exact aD h
   rename_i vs;refine(?_:wpAny _ A (if(_&&_)=true then _ else _) Q E s)
   exact Z c<|aD h
  |_=>exact aD h
theorem vn{x:List V}(g:dC own μ h μ' h')(r:aq B.N μ h x vs):aq B.N μ' h' x vs:=ac g.1 λc a b=>Z a<|r.keep g.2 b
theorem mQ{a:Type}{l:List a}{x:a}{r:List a}(e:l.drop i=x::r):l[i]?=some x/\l.drop (i+1)=r:=by
 have h1:(l.drop i)[0]?=some x:=by refine Z e ?_;rfl
 rw[List.getElem?_drop]at h1;refine⟨h1,?_⟩;have:=bg (List.drop 1) e;rw[List.drop_drop]at this;exact this
theorem lK{it:Addr}{vs:Array Value}(c:o.cls=.type n)(e:n≠"tuple")(d:o.data=.fields vs):¬dv o/\∃vs,o.data=.fields vs:=by
 refine⟨?_,_,d⟩;rintro(⟨q,_⟩|⟨a,q,_⟩)
 ·rw[c]at q;cases q;exact e rfl
 ·rw[c]at q;exact kk PySem.Value.ctorIdx q rfl
theorem yh(q:¬dv o/\∃vs,o.data=.fields vs):¬d9 o:=let⟨_,e⟩:=q.2;e8 e
theorem dC.at(g:dC own μ h μ' h'){n:Nat}(e:μ[n]?=some a):μ'[n]?=some a:=by refine ac g.1 λc b _=>Z b<|Z (cu (bV.mp e).1) ?_;exact e
theorem dC.not(g:dC own μ h μ' h')(c:a∉μ)(e:h.get? a=some o):a∉μ':=ac g.1 λf b d=>Z b<|yc c d e
theorem y_(b:aq B.N μ h l items.toList)(a:l.drop i=[]):items[i]?=none:=
 tJ (aC (aA (mh.symm.trans b.length.symm)) (List.drop_eq_nil_iff.mp a))
theorem Nv{n:Nat}(N:g9 tg):∀r i μ h,l.drop i=r->h.IsListIter I a i->μ[n]?=some a->
 gc B (.ref I) tg (λb=>b=I) (λm=>m[n]?=some (.list l)) r μ h:=by
 have y:∀(h:Heap) i b o,h.IsListIter I a i->b=I->h.get? b=some o->¬dv o/\∃vs,o.data=.fields vs:=by rintro h i b o ⟨ob,j,t,G⟩ rfl e;rw[e]at j;replace j:=aG j;exact Z j<|lK (it:=b) t (by decide) G
 intro r
 induction r with
 |nil=>intro i μ h C k p d A fs m μ' s E R F S g hs u;exact ac (S.4.list (g.at p) hs) λitems w D=>have c:=k.at λo e=>g.3 I o rfl e;wpAny_pyNext_list_end F.4 c w (y_ D C) λh' x=>u _ (.of S g.4 (λb o e q=>x b o q e) (λb o q e=>y _ _ b o c q e) rfl rfl)
 |cons x r Q=>intro i μ h C k p d A fs m μ' s E R F S g hs u;refine ac (S.4.list (g.at p) hs) λitems w D=>?_;have c:=k.at λo e=>g.3 I o rfl e;refine a_ (mQ C) λM H=>ac (D.get M) λv Φ P=>?_;rw[j7]at Φ;exact wpAny_pyNext_list_item c w Φ λh' f L=>fv (id f) λΩ j t G=>uX N j t rfl<|u v _ (.of S g.4 (λb o e q=>(L.2 b q).trans e) (λb o q e=>y _ _ b o c q e) rfl rfl) (λb q=>Z q<|(ad _ j (yh (y _ _ _ _ f rfl j)))) (P.stay (λb o e q T=>(L.2 b (λz=>by clear N C k p F hs w D M Φ t G T;clear S g u P L j;subst z;exact(y _ _ _ _ c rfl e).1 q)).trans e))<|Q _ μ' h' H f (g.at p)
theorem Nt{I t:Addr}(P:g9 tg):∀r i μ h,l.drop i=r->h.IsTupleIter I t i->h.IsTuple t items->t∉μ->t≠I->aq B.N μ h l items.toList->
 gc B (.ref I) tg (λb=>b=I) (λ_=>True) r μ h:=by
 have C:∀(h:Heap) i b o,h.IsTupleIter I t i->b=I->h.get? b=some o->¬dv o/\∃vs,o.data=.fields vs:=by rintro h i b o ⟨ob,c,j,k⟩ rfl e;rw[e]at c;replace c:=aG c;exact Z c<|lK (it:=b) j (by decide) k
 intro r
 induction r with
 |nil=>intro i μ h D p w F u G d A fs m μ' s E R L S g hs H;exact have a:=p.at λo e=>g.3 I o rfl e;wpAny_pyNext_tuple_end L.4 a (by refine iG w λo c j n k=>?_;clear w;exact(lH o (g.2 t o c (.inl ⟨j,_,_,k⟩) F) j n k)) (y_ G D) λh' x=>H _ (.of S g.4 (λb o e q=>x b o q e) (λb o q e=>C _ _ b o a q e) rfl rfl)
 |cons x r N=>
  intro i μ h D p w F u G d A fs m μ' s E R L S g hs H;have a:=p.at λo e=>g.3 I o rfl e;have y:s.heap.IsTuple t items:=by refine iG w λo c j n k=>?_;clear w;exact(lH o (g.2 t o c (.inl ⟨j,_,_,k⟩) F) j n k)
  refine ac ((vn g G).get (mQ D).1) λv M Q=>?_;rw[j7]at M;exact wpAny_pyNext_tuple_item a y M λh' f Φ=>fv (id f) λΩ c j k=>uX P c j rfl<|have st:dA μ' _ h':=λb o e q T=>(Φ.2 b (λz=>by subst z;exact(C _ _ _ _ a rfl e).1 q)).trans e;H v _ (.of S g.4 (λb o e q=>(Φ.2 b q).trans e) (λb o q e=>C _ _ b o a q e) rfl rfl) (λb q=>Z q<|(ad _ c (yh (C _ _ _ _ f rfl c)))) (Q.stay st)<|N _ μ' h' (mQ D).2 f (y.extBut Φ.extBut u) (by refine ac w λo e _=>?_;clear w;exact g.not F e) u ((vn g G).stay st)
def eZ(a c:Int)(n:Nat):List V:=(List.range n).map λ(i:Nat)=>.int (a+i*c)
theorem Nu{I:Addr}{c:Int}(w:g9 tg):∀(n:Nat) a μ h,IsRangeIter h I a n c->
 gc B (.ref I) tg (λb=>b=I) (λ_=>True) (eZ a c n) μ h:=by
 have u:∀h a n b o,IsRangeIter h I a n c->b=I->h.get? b=some o->¬dv o/\∃vs,o.data=.fields vs:=by rintro h a n b o p rfl e;unfold IsRangeIter at p;rw[e]at p;replace p:=aG p;exact Z p<|lK (it:=b) rfl (by decide) rfl
 intro n
 induction n with
 |zero=>intro a μ h j d A fs m μ' s E R t S g hs r;exact have k:=g.3 I _ rfl j;wpAny_pyNext_range_end t.4 k (by trivial) λh' x=>r _ (.of S g.4 (λb o e q=>x b o q e) (λb o q e=>u _ _ _ b o k q e) rfl rfl)
 |succ n v=>
  intro a μ h j;have e:eZ a c (n+1)=.int a::eZ (a+c) c n:=by
   unfold eZ;refine Z List.range_succ_eq_map<|Z eV<|Z eG ?_
   congr 1
   ·simp
   ·refine j0 λi _=>?_
    simp only[Function.comp_apply]
    congr 1
    push_cast
    refine Z (Int.add_mul ..)<|Z (Int.one_mul ..) ?_;lia
  refine Z e ?_;intro d A fs m μ' s E R t S g hs r;refine wpAny_pyNext_range_item (g.3 I _ rfl j) rY λh' f y=>?_;rw[show(((n+1:Nat))-1)=(n:Int)by exact xA]at f
  exact uX w f rfl rfl<|r _ _ (.of S g.4 (λb o e q=>(y.2 b q).trans e) (λb o q e=>u _ _ _ b o (g.3 I _ rfl j) q e) rfl rfl) (λb q=>Z q<|(ad _ f (e8 rfl))) (aj.int_ _ _) (v _ μ' h' f)
end
theorem gc.nil_go{N:Shared->Prop}{S:bL}(G:gc B it tg own src [] μ h)(b:Ar d A fs)(C:b_ B fs m μ' s)(c:dC own μ h μ' s.heap)(hs:src m)(k:∀s1,ge own μ' m s s1->N s1):
 wpAny (model B.prog B.w) A (pyNext it) (λo s1=>match o with|none=>N s1|some v=>S v s1) E s:=G d A fs m μ' s E (λo s1=>match o with|none=>N s1|some v=>S v s1) b C c hs k
theorem gc.cons_go{N:Shared->Prop}{S:bL}(G:gc B it tg own src (x::r) μ h)(b:Ar d A fs)(C:b_ B fs m μ' s)(c:dC own μ h μ' s.heap)(hs:src m)(k:∀v s1,ge own μ' m s s1->j8 own s1.heap->aj B.N μ' s1.heap x v->gc B it tg own src r μ' s1.heap->S v s1):
 wpAny (model B.prog B.w) A (pyNext it) (λo s1=>match o with|none=>N s1|some v=>wpAny (model B.prog B.w) A (letOwnedTupleGo tg it v) (λ_ s2=>S v s2) E s1) E s:=
 mo (G d A fs m μ' s E (λo s1=>match o with|none=>False|some v=>S v s1) b C c hs k) λo s1 w=>by
  cases o with
  |none=>exact w.elim
  |some v=>exact w
section
variable{own:Addr->Prop}
theorem ge.notPart(x:ge own μ m s s'){b:Addr}(e:s.heap.get? b=some o)(q:¬own b)(n:b∉μ):s'.heap.get? b=some o:=x.1 b o e q λ_ a=>(n (bN a)).elim
theorem ge.still(x:ge own μ m s s'):dA μ s.heap s'.heap:=λb o e q n=>x.notPart e (λw=>(x.3 b o w e).1 q) n
theorem ge.mem(x:ge own μ m s s')(M:bw B.prog B.w B.N μ m s.heap)(f:∀b,own b->b∉μ):bw B.prog B.w B.N μ m s'.heap:=
 ⟨M.1,M.2,λn a o c d=>by
  by_cases h:o=.part
  ·subst h;exact x.2 n a c d
  ·have i:∀j:Nat,μ[j]?=some a->m[j]?≠some O.part:=λj g z=>by
    have:=(List.getElem?_inj (bV.mp g).1 M.2).mp (g.trans c.symm);subst this;rw[d]at z;replace z:=aG z;subst z;exact h rfl
   have:=(M.3 n a o c d).keep x.still (λ_ q=>bx q) (λob e=>x.1 a ob e (λw=>f a w (bN c)) i)
   rwa [bZ]at this⟩
theorem ge.alive(x:ge own μ m s s'){b:Addr}(e:s.heap.get? b=some o)(q:¬own b)(k:∀vs,o.data≠.fields vs):∃g,s'.heap.get? b=some g/\∀vs,g.data≠.fields vs:=by
 by_cases h:∃j:Nat,μ[j]?=some b/\m[j]?=some O.part
 ·refine ac h λj h1 f=>?_;clear h
  exact eC (x.2 j b h1 f) λa c i=>(ad _ i (λvs q=>(kk PySem.Data.ctorIdx q rfl)))
 ·exact(ad o (x.1 b o e q λj h1 f=>h (ad j h1 f)) k)
theorem b_.aside(S:b_ B fs m μ s)(x:ge own μ m s s')(c:∀b,own b->b∉μ)(i:∀b,own b->B.h0.get? b=none):b_ B fs m μ s':=by
 refine⟨λb o e=>x.notPart (S.1 b o e) (λq=>?_) (λq=>?_),x.4.trans S.2,x.5.trans S.3,x.mem S.4 c,S.5,zM (λb o e n=>?_) S.6,λU he=>?_⟩
 ·rw[i b q]at e;exact aN e
 ·rw[S.5 b q]at e;exact aN e
 ·exact x.alive e (λq=>qe (x.3 b o q e) λ_ vs a=>n vs a) n
 ·exact gu (S.7 _ he) λL o h f d g=>(hA L o h (x.notPart f (λq=>qe (x.3 L o q f) λ_ vs a=>e8 a d) g) d g)
theorem St.aside(S:St B sc fs U J m μ s)(x:ge own μ m s s')(c:∀b,own b->b∉μ)(a:∀b,own b->¬gJ U b)(d:∀b,own b->B.h0.get? b=none):St B sc fs U J m μ s':=by
 refine⟨S.1.aside x c d,?_,S.3⟩;have:=S.2.next x.still (λb o e w=>x.notPart e (λq=>a b q w) (S.2.own_not w)) (λ_ q=>bx q)
 rwa [bZ]at this
theorem Nx.aside(n:Nx B P μ0 s0 m μ s)(x:ge own μ m s s')(l:∀b,own b->s0.heap.get? b=none)(i:∀b,own b->b∉μ):Nx B P μ0 s0 m μ s':=by
 have np:∀b o,s0.heap.get? b=some o->b∉μ0->b∉μ:=λb o e q z=>by
  refine ac n.2 λH f E=>?_;subst f;rcases cO.mp z with z|z
  ·exact q z
  ·rw[E b z]at e;exact aN e
 refine⟨x.mem n.1 i,n.2,λb o e q=>?_,λb o e=>?_,x.4.trans n.5,x.5.trans n.6⟩
 ·have r:¬own b:=λw=>by rw[l b w]at e;exact aN e
  exact have p:=np b o e λz=>q (.inl z);(n.3 b o e q).imp (λk=>x.notPart k r p) λG=>(by obtain⟨u,A,F,k⟩:=G;exact⟨u,A,F,x.notPart k r p⟩)
 ·refine cB (n.4 b o e) λt y D v=>?_
  by_cases h:∃j:Nat,μ[j]?=some b/\m[j]?=some O.part
  ·refine ac h λj h1 g=>?_;clear h
   exact eC (x.2 j b h1 g) λa c C=>(b6 _ C (λ_ vs q=>((kk PySem.Data.ctorIdx q rfl))) (λq=>absurd (bN h1) (np b o e q)))
  ·exact(b6 t (x.1 b t y (λw=>by rw[l b w]at e;exact aN e) λj h1 g=>h (ad j h1 g)) D v)
theorem dC.nx(S:St B sc fs U J m μ s)(n:Nx B (b9 sc U) μ s m' μ' s')(d:j8 own s.heap)(a:∀b,own b->b∉μ)(g:∀b,own b->¬gJ U b):
 dC own μ s.heap μ' s'.heap/\j8 own s'.heap:=by
 have kp:∀b o,own b->s.heap.get? b=some o->s'.heap.get? b=some o:=λb o w e=>n.kep e (λq=>q.elim (a b w) (λz=>g b w z.frm)) (by refine ac (d b w) λk c f=>?_;rw[e]at c;replace c:=aG c;exact Z c f)
 refine ac n.2 λj i h=>Z i<|⟨⟨(ad j rfl h),n.stillOwn S,kp,λb w q=>?_⟩,λb w=>?_⟩
 ·rcases cO.mp q with q|q
  ·exact a b w q
  ·refine ac (d b w) λo e _=>?_
   rw[h b q]at e;exact aN e
 ·exact ac (d b w) λo e f=>(ad o (kp b o w e) f)
def NR(Db R:DS)(Q:cv):hS:=λJ m=>Db J m (Bq R Q)
def dy(T:DT)(src:bY)(Db:DS):List V->DS
 |[],J,m,Q=>src m/\Q .next J m
 |x::r,J,m,Q=>src m/\T x J m (NR Db (dy T src Db r) Q)
theorem St.h0own(S:St B sc fs U J m μ s){b:Addr}(f:s.heap.get? b=none):B.h0.get? b=none:=by
 cases e:B.h0.get? b with
 |none=>rfl
 |some o=>have:=S.1.1 b o e;rw[f]at this;exact aN this
theorem Pm{I:DI}{D:DS}(hi:j5 B sc d tg iter I)(ht:gf B sc d tg T)(hb:i3 B sc d body D)(hs:autoParam (∀U x,foldedSetIterable iter U x=pure x) bF):
 fJ B sc d (.For tg iter body [] p) λJ m Q=>I J m λitems src m=>dy T src D items J m Q:=by
 intro J m Q q A fs U μ s E y S;refine wpAny_For (mo (hi J m _ q A fs _ μ s E y S) (λx s1 h1=>mo h1 (λit s2 M=>M.k λitems src m2 G own q2 n2 C Φ Ω=>?_))) (hs _);clear M;have c:∀b,own b->¬gJ _ b:=λb w o=>by refine aI (v_ S.2 o) λob e=>?_;rw[Φ b w]at e;exact aN e
 have L:=λb w=>S.h0own (Φ b w)
 refine codeAny_forLoop_any (λk s'=>oY λr i m' μ' n N=>o9 (k=r.length) (dy T _ D r i m' Q) (St B sc fs _ i m' μ' s') (Nx B (b9 sc U) μ s m' μ' s') (gc B it tg _ _ r n N) (dC _ n N μ' s'.heap) (j8 _ s'.heap))
  (λk s' M=>?_) _ ⟨items,J,m2,G,G,s2.heap,rfl,q2,(S.next n2),n2.mono cG,C.1,.refl Ω,C.3⟩
 obtain⟨r,i,m',μ',n,N,hk,q,t,n',g,h,al⟩:=M;cases r with
 |nil=>obtain⟨z,q⟩:=q;exact g.nil_go y t.1 h z λs1 x=>wpAny_execs_nil ⟨.next,i,m',μ',q,rfl,t.aside x h.4 c L,n'.aside x Φ h.4⟩
 |cons x r=>
  refine g.cons_go y t.1 h q.1 λv s2 x1 u rv g2=>mo (ht x _ m' _ q.2 A fs _ μ' s2 _ v y (t.aside x1 h.4 c L) rv) (λ_ s3 w2=>w2.k λα m3 Y q3 S3 P=>?_);clear w2;refine mo (hb _ m3 _ q3 A fs _ Y s3 _ y S3) (λf s4 w2=>w2.k λfl F m4 H q4 W Ψ R=>?_);clear w2;have l:=(n'.aside x1 Φ h.4).trans (P.trans R)
  cases fl with
  |next=>exact Z W<|⟨r.length,Z hk<|jq _,r,F,m4,H,μ',s2.heap,rfl,q4,Ψ,l,g2,(dC.nx (t.aside x1 h.4 c L) (P.trans R) u h.4 c).1,(dC.nx (t.aside x1 h.4 c L) (P.trans R) u h.4 c).2⟩
  |ret v=>refine ac W λa e_ X=>?_;clear W;exact Z e_<|⟨.ret v,F,m4,H,q4,(ad a rfl X),Ψ,l⟩
def Dw:V->av->(List V->bY->av->Prop)->Prop
 | .tup l,m,Q=>Q l (λ_=>True) m
 | .loc n,m,Q=>∃l,m[n]?=some (.list l)/\Q l (λm=>m[n]?=some (.list l)) m
 |_,_,_=>False
theorem uy(M:bw B.prog B.w B.N μ m s.heap)(n:Nx B No μ0 s0 m μ s):Nx B No μ0 s0 m μ {s with heap:=s.heap.push o}:=
 n.trans (Nx.of_keep M (λb a e=>bj _ e) rfl rfl)
theorem Nx.fresh_of(n:Nx B P μ0 s0 m μ s){b:Addr}(f:s.heap.get? b=none):s0.heap.get? b=none:=by
 cases e:s0.heap.get? b with
 |none=>rfl
 |some o=>obtain⟨c,a,_⟩:=n.4 b o e;rw[f]at a;exact aN a
theorem Dr{Q:List V->bY->av->Prop}(j:g9 tg)(q1:Dw x m1 Q)(m:aj B.N μ1 s1.heap x v)(c:Nx B No μ s m1 μ1 s1):wpAny (model B.prog B.w) A (pyIter v) (tE B tg μ s Q) E s1:=by
 cases x<;>try exact q1.elim
 ·rename_i l
  refine gu m.tup_inv λt items f d p u=>Z f<|wpAny_pyIter_tuple d ⟨l,_,m1,μ1,(·=s1.heap.objs.size),q1,(uy c.1 c),⟨Nt (i:=0) j _ _ _ rfl (gx _ (cg _ rfl) rfl rfl) (Heap.IsTuple.at d λo e=>bj _ e) u (λz=>by refine ac d λo e _=>?_;clear d;rw[z,(bQ _)]at e;exact aN e) ?_,?_,?_⟩,?_,?_⟩
  ·exact p.stay λb o e _ _=>bj _ e
  ·exact λA E Q s' k g=>have:=k _ _ rfl (cg _ rfl);wpAny_pyIter_tupleiter (gx _ this rfl rfl) g
  ·rintro b rfl;exact(ad _ (cg _ rfl) (e8 rfl))
  ·rintro b rfl;exact c.fresh_of (bQ _)
  ·rintro b rfl;exact c.1.new_not (bQ _)
 ·rename_i n
  refine ac m.loc_inv λa f h=>Z f<|ac q1 λl q q1=>ac (c.1.list h q) λitems r p=>wpAny_pyIter_list r ⟨l,_,m1,μ1,(·=s1.heap.objs.size),q1,(uy c.1 c),⟨Nv (i:=0) j _ _ _ rfl (gx _ (cg _ rfl) rfl rfl) h,?_,?_⟩,?_,?_⟩
  ·exact λA E Q s' k g=>have:=k _ _ rfl (cg _ rfl);wpAny_pyIter_listiter (gx _ this rfl rfl) g
  ·rintro b rfl;exact(ad _ (cg _ rfl) (e8 rfl))
  ·rintro b rfl;exact c.fresh_of (bQ _)
  ·rintro b rfl;exact c.1.new_not (bQ _)
end
def eS(B:bB)(d:Nat)(f:Value)(O:List V->av->aS->Prop):Prop:=
 ∀vs m Q,O vs m Q->∀A fs μ s E vals,Ar d A fs->b_ B fs m μ s->aq B.N μ s.heap vs vals->wpAny (model B.prog B.w) A (call f vals) (ds B μ s Q) E s
section
variable{own:Addr->Prop}
theorem St.builtin(S:St B sc fs U J m μ s){x:Str}{Q:bL}(c:sc.names.lookup x=some .globalImplicit)(d:nsIn B.K mainGlobals x=some none)(a:bootBuiltins x=some v)(e:x≠"__name__")
 (b:(x=="__debug__")=false)(h:Q v s):wpAny (model B.prog B.w) A (eval (.Name x p) U) Q E s:=by
 refine tA S.2.1 (S.2.4 _ c) (loadGlobal_builtin ?_ (mg_none_of B.KX B.G d) ?_ ((B.blt x e).trans a) h) b
 ·exact Z S.2.2<|B.G.keeps S.1.1
 ·exact Z S.2.3<|B.BN.keeps S.1.1
def vg(v:Value):Prop:=(∃id,v=.builtin id)\/∃T,v=.type T
theorem tt{x:Str}{Q:cD}{R:bL}(n:Ar d A fs)(S:St B sc fs U J m μ s)(o:d7 B sc d (e::rest) Ds)(q:Ds J m Q)
 (u:sc.names.lookup x=some .globalImplicit)(w:nsIn B.K mainGlobals x=some none)(r:bootBuiltins x=some v)(C:vg v)(y:x≠"__name__")(t:(x=="__debug__")=false)
 (c:starEach (e::rest) U=(false,eval e U)::starEach rest U)(i:(backTo p (starEach rest U)).any (·.1)=false)
 (h:∀vs vals m1 μ1 s1,Q vs m1->aq B.N μ1 s1.heap vs vals->Nx B No μ s m1 μ1 s1->wpAny (model B.prog B.w) A (call v vals) R E s1):
 wpAny (model B.prog B.w) A (eval (.Call (.Name x fp) (e::rest) [] p) U) R E s:=by
 refine ag (S.builtin u w r y t ?_)
 have f:wpAny _ A _ (λvals s1=>wpAny _ A _ R E s1) E s:=
  mo (o J m Q q A fs _ μ s E n S p) (λvals s1 z=>(by refine z.k λvs m1 μ1 q1 F D=>?_;clear z;exact h vs _ m1 μ1 s1 q1 F D))
 have j:(backTo p (starEach (e::rest) U)).any (·.1)=false:=by refine Z c<|((Z i ?_));rfl
 have b:wpAny (model B.prog B.w) A (evalArgs v true (backTo p (starEach (e::rest) U)) []) (λa k=>wpAny (model B.prog B.w) A (call v ([]++a.pos) a.kw) R E k) E s:=by rw[c]at f⊢;exact evalArgs_plain f
 have l:wpAny (model B.prog B.w) A (callWith p v [] (backTo p (starEach (e::rest) U)) []) R E s:=by
  clear h f c i q o;clear n S u w r y t;rcases C with⟨id,rfl⟩|⟨T,rfl⟩
  ·exact callWith_builtin j b
  ·exact PyProof.Rows.callWith_type j b
 exact l
theorem O3{x:Str}{O:List V->av->aS->Prop}(g:d7 B sc d (e::rest) Ds)(l:eS B d v O)
 (j:sc.names.lookup x=some .globalImplicit)(k:nsIn B.K mainGlobals x=some none)(h:bootBuiltins x=some v)(n:vg v:=by first|exact .inl ⟨_,rfl⟩|exact .inr ⟨_,rfl⟩)(o:x≠"__name__":=by decide)(i:(x=="__debug__")=false:=by decide)
 (a:autoParam (∀U,starEach (e::rest) U=(false,eval e U)::starEach rest U) bF)(b:autoParam (∀U,(backTo p (starEach rest U)).any (·.1)=false) bF):
 a7 B sc d (.Call (.Name x fp) (e::rest) [] p) λJ m Q=>Ds J m λvs m=>O vs m Q:=by
 intro J m Q q A fs U μ s E c S;exact tt c S g q j k h n o i (a _) (b _) λvs vals m1 μ1 s1 q1 r f=>mo (l vs m1 Q q1 A fs μ1 s1 E _ c (S.next f).1 r) (λ_ _ p=>p.step f)
theorem aq.one(r:aq N μ h [x] vals):∃v,vals=[v]/\aj N μ h x v:=bX r.inv_cons λv w a b c=>Z a<|Z c.inv_nil<|(ad v rfl b)
theorem aq.two(r:aq N μ h [x,y] vals):aV λv w=>br (vals=[v,w]) (aj N μ h x v) (aj N μ h y w):=bX r.inv_cons λv ws a b c=>Z a<|ac c.one λw a d=>Z a<|(fX v w rfl b d)
def CT(vs:List V)(m:av)(Q:aS):Prop:=g8 vs λx=>ly x (λl=>l.length<=2^30/\Q (.int l.length) m) λn=>qZ m n (2^30) λl=>Q (.int l.length) m
theorem KY:eS B d (.builtin "len") CT:=by
 refine λvs m Q q A fs μ s E vals i S r=>h9 q r λx v h q=>nM q h (λl a items f b _ c=>?_) λn a g c=>?_
 ·refine a_ c λhz q=>?_;clear c;refine len_tuple f (by refine Z b.size.symm ?_;lia) ?_
  exact Z b.size.symm<|e9 S.4 q (aj.int_ _ _)
 ·refine c.k λl e hz q=>?_;clear c;refine ac (S.4.list g e) λitems f b=>len_list f (by refine Z b.size.symm ?_;lia) ?_
  exact Z b.size.symm<|e9 S.4 q (aj.int_ _ _)
def At(vs:List V)(m:av)(Q:aS):Prop:=g8 vs λx=>ly x (λl=>Q (.tup l) m) λn=>qZ m n 10000 λl=>Q (.tup l) m
theorem BQ:eS B d (.type "tuple") At:=by refine λvs m Q q A fs μ s E vals o S r=>h9 q r λx v j q=>nM q j (λl a items b c i q=>call_tuple_tup b (fx S.4 q (aj.tup_ b c i))) λn a h g=>g.k λl e hz q=>?_;clear g;refine ac (S.4.list h e) λitems b c=>call_tuple_list b (λh' k=>?_) (c.fits hz);have f:Nx B No μ s m μ {s with heap:=h'}:=Nx.of_keep S.4 k rfl rfl;exact(mP f.1 (c.nx S.4 f) rfl q).step f
def CP(vs:List V)(m:av)(Q:aS):Prop:=g8 vs λx=>gp x λn=>qZ m n 10000 λl=>Q (.loc m.length) (m++[.list l])
theorem KW:eS B d (.type "list") CP:=by
 refine λvs m Q q A fs μ s E vals z S r=>h9 q r λx v y q=>gt q y λn a t i=>i.k λl e hz q=>?_;clear i;refine ac (S.4.list t e) λitems h g=>iG h λo w f C u=>?_;clear h;refine call_list_seq a (.inl rfl) w f u (λh' j k p=>⟨.loc _,_,μ++[s.heap.objs.size],q,aj.loc_ ?_,Nx.new S.4 k (bQ _) (ad _ ⟨j,p⟩ ?_) rfl rfl⟩) (g.fits hz)
 ·exact Z S.4.1.symm<|gN
 ·exact g.keep (λb o e _ _=>k b o e) (λc f=>by simp only[b5]at f;exact Z f<|bQ _)
def CF(vs:List V)(m:av)(Q:aS):Prop:=n9 vs λx y=>df x λa=>df y λb=>Q (.int (if b>a then b else a)) m
theorem KU:eS B d (.builtin "max") CF:=by
 refine λvs m Q q A fs μ s E vals c S r=>pZ q r λx y v w e f q=>cQ q e λa t q=>cQ q f λb u q=>max_two_ints c.4 λh' tk k=>⟨_,m,μ,q,?_,Nx.of_keep S.4 k rfl rfl⟩
 split
 ·exact aj.int_ _ _
 ·exact aj.int_ _ _
def DA(vs:List V)(m:av)(Q:aS):Prop:=g8 vs λx=>df x λa=>Q (.int a) m
theorem K2:eS B d (.type "int") DA:=λvs m Q q A fs μ s E vals c S r=>h9 q r λx v b q=>cQ q b λa t q=>call_int_int (fx S.4 q (aj.int_ _ _))
def AS(vs:List V)(m:av)(Q:aS):Prop:=g8 vs λx=>df x λa=>a.natAbs<1000/\Q (.str (toString a)) m
theorem KK:eS B d (.type "str") AS:=λvs m Q q A fs μ s E vals e S r=>h9 q r λx v c q=>cQ q c λa t b=>(by refine a_ b λh q=>?_;clear b;exact str_of_int_fit (N:=1000) (by split<;>lia) (by decide) λ_=>e9 S.4 q (aj.str_ _ _))
end
section
variable{own:Addr->Prop}
theorem Ba{a b:Int}(h1:a.natAbs<2^30)(c:b.natAbs<2^30):Builtin.Range.small a b 1=true:=by
 unfold Builtin.Range.small Builtin.Range.rangeFitsLong;refine Z (rangeSize_nat a b) ?_;simp only[j6,Bool.or_eq_true,decide_eq_true_eq];refine⟨⟨⟨⟨qk (eU h1),qk (eU c)⟩,by decide⟩,qk (aC (Hj _) (aC (Int.natAbs_sub_le b a) (eU (Nat.add_lt_add c h1))))⟩,.inr ?_⟩
 simp;exact Nf (eU c)
theorem Dq{a b:Int}{t u v:Tok}{Q:List V->bY->av->Prop}(f:g9 tg)(e:IsRange s.heap r a b 1 t u v)(h1:a.natAbs<2^30)(c:b.natAbs<2^30)(n:Nx B No μ0 s0 m μ s)
 (q:Q (eZ a 1 (b-a).toNat) (λ_=>True) m):wpAny (model B.prog B.w) A (pyIter (.ref r)) (tE B tg μ0 s0 Q) E s:=by
 refine wpAny_pyIter_range e (Ba h1 c) ⟨_,_,m,μ,(·=s.heap.objs.size),q,(uy n.1 n),⟨Nu f _ _ _ _ ?_,?_,?_⟩,?_,?_⟩
 ·exact Z (rangeSize_nat a b).symm<|cg _ rfl
 ·exact λA E Q s' k d=>wpAny_pyIter_rangeiter (k _ _ rfl (cg _ rfl)) d
 ·rintro b rfl;exact(ad _ (cg _ rfl) (e8 rfl))
 ·rintro b rfl;exact n.fresh_of (bQ _)
 ·rintro b rfl;exact n.1.new_not (bQ _)
def xw(vs:List V)(m:av)(Q:List V->bY->av->Prop):Prop:=List.casesOn (motive:=λ_=>Prop) vs False λx t=>df x λa=>List.casesOn (motive:=λ_=>Prop) t (a.natAbs<2^30/\Q (eZ 0 1 a.toNat) (λ_=>True) m)
 λy t=>g8 (y::t) λy=>df y λb=>br (a.natAbs<2^30) (b.natAbs<2^30) (Q (eZ a 1 (b-a).toNat) (λ_=>True) m)
theorem Py(l:g9 tg)(i:d7 B sc d (e::rest) Ds)(j:sc.names.lookup ("range":Str)=some .globalImplicit)(k:nsIn B.K mainGlobals "range"=some none)
 (c:autoParam (∀U,starEach (e::rest) U=(false,eval e U)::starEach rest U) bF)(f:autoParam (∀U,(backTo p (starEach rest U)).any (·.1)=false) bF):
 j5 B sc d tg (.Call (.Name "range" fp) (e::rest) [] p) λJ m Q=>Ds J m λvs m=>xw vs m Q:=by
 intro J m Q q A fs U μ s E h S;refine tt h S i q j k boot_range (.inr ⟨_,rfl⟩) (by decide) rfl (c _) (f _) λvs vals m1 μ1 s1 q1 n g=>?_
 cases vs with
 |nil=>exact q1.elim
 |cons x t=>
  refine bX n.inv_cons λv w u o r=>Z u<|cQ q1 o λa D q1=>?_;clear i j k c f q h S o n;cases t with
  |nil=>exact Z r.inv_nil<|call_range_1 (Dq l (IsRange.new ..) (by decide) q1.1 (g.trans (Nx.of_keep g.1 (λb z e=>bj _ e) rfl rfl)) (Z (Int.sub_zero ..) q1.2))
  |cons y t=>exact h9 q1 r λy v C q1=>cQ q1 C λb F q1=>call_range_2 (Dq l (IsRange.new ..) q1.1 q1.2 (g.trans (Nx.of_keep g.1 (λb z e=>bj _ e) rfl rfl)) q1.3)
def vD(i:Nat):List V->List V
 |[]=>[]
 |x::r=>.tup [.int i,x]::vD (i+1) r
theorem Nw{e I a:Addr}{n:Nat}(L:e≠I):∀r i u μ h,l.drop i=r->IsEnum h e I i u->h.IsListIter I a i->μ[n]?=some a->
 gc B (.ref e) (.Tuple es k p) (λb=>b=e\/b=I) (λm=>m[n]?=some (.list l)) (vD i r) μ h:=by
 have W:∀h (i:Nat) u b o,IsEnum h e I i u->h.IsListIter I a i->(b=e\/b=I)->h.get? b=some o->¬dv o/\∃vs,o.data=.fields vs:=by
  rintro h i u b o he ⟨ob,M,e2,e3⟩ (rfl|rfl) y
  ·unfold IsEnum at he;rw[y]at he;replace he:=aG he;exact Z he<|lK (it:=b) rfl (by decide) rfl
  ·rw[y]at M;replace M:=aG M;exact Z M<|lK (it:=b) e2 (by decide) e3
 intro r
 induction r with
 |nil=>intro i u μ h P he G N d A fs m μ' s E R Ψ S g hs Q;exact ac (S.4.list (g.at N) hs) λitems Ω Y=>have c:=G.at λo e=>g.3 I o (.inr rfl) e;have j:=g.3 e _ (.inl rfl) he;wpAny_pyNext_enum_end Ψ.4 j c Ω (y_ Y P) λh' x=>Q _ (.of S g.4 (λb o e q=>x b o (λz=>q (.inr z)) e) (λb o q e=>W _ _ _ b o j c q e) rfl rfl)
 |cons x r ih=>
  intro i u μ h P he G N d A fs m μ' s E R Ψ S g hs Q;refine ac (S.4.list (g.at N) hs) λitems Ω Y=>?_;have c:=G.at λo e=>g.3 I o (.inr rfl) e;have j:IsEnum _ e I i _:=g.3 e _ (.inl rfl) he;refine ac (Y.get (mQ P).1) λv hv rv=>?_;rw[j7]at hv;refine wpAny_pyNext_enum_item j c Ω hv L λα T F Φ X H=>wpAny_letOwnedTupleGo_enum T λD C t=>?_;have kp:∀b o,s.heap.get? b=some o->¬(b=e\/b=I)->D.get? b=some o:=λb o y q=>(t.2 b (λz=>q (.inl z))).trans (H b o (λz=>q (.inl z)) (λz=>q (.inr z)) y);have hT:D.get? _=some _:=(t.2 _ (hL (dH j))).trans Φ;have f:=F.at λo y=>(t.2 I (λz=>L z.symm)).trans y;refine Q _ _ (.of S g.4 kp (λb o q y=>W _ _ _ b o j c q y) rfl rfl) ?_ ?_ ?_
  ·rintro b (rfl|rfl)
   ·exact(ad _ C (e8 rfl))
   ·refine fv f λo eo _ ed=>?_;clear f
    exact(ad o eo (e8 ed))
  ·exact aj.tup_ (lH _ hT rfl _ rfl) (aq.cons (aj.int_ _ _) (aq.cons (rv.stay (λb o y q na=>kp b o y λw=>(W _ _ _ b o j c w y).1 q)) aq.nil)) (S.4.new_not (bQ _))
  ·exact ih _ v μ' D (mQ P).2 (by push_cast;exact C) f (g.at N)
theorem QN:bootBuiltins "enumerate"=some (.type "enumerate"):=rfl
def vC(vs:List V)(m:av)(Q:List V->bY->av->Prop):Prop:=g8 vs λx=>gp x λn=>∃l,m[n]?=some (.list l)/\Q (vD 0 l) (λm=>m[n]?=some (.list l)) m
theorem Pz(w:a7 B sc d e D)(z:sc.names.lookup ("enumerate":Str)=some .globalImplicit)(G:nsIn B.K mainGlobals "enumerate"=some none)
 (g:autoParam (∀U,starEach [e] U=[(false,eval e U)]) bF):
 j5 B sc d (.Tuple es k L) (.Call (.Name "enumerate" fp) [e] [] p) λJ m Q=>D J m λx m=>vC [x] m Q:=by
 intro J m Q q A fs U μ s E j S;refine tt j S (lO w s9 (he:=g)) (Q:=λvs m=>vC vs m Q) q z G QN (.inr ⟨_,rfl⟩) (by decide) rfl (g _) rfl λvs vals m1 μ1 s1 q1 I f=>h9 q1 I λx v Φ q1=>gt q1 Φ λn a h i=>ac i λl t q1=>?_;clear i;refine ac (f.1.list h t) λitems F M=>call_enumerate_list F λh' he c hz C=>?_
 have H:Nx B No μ s m1 μ1 {s1 with heap:=h'}:=f.trans (Nx.of_keep f.1 C rfl rfl);refine wpAny_pyIter_enum he ⟨_,_,m1,μ1,(λb=>b=s1.heap.objs.size+1\/b=s1.heap.objs.size),q1,H,⟨Nw (Nat.succ_ne_self _) _ 0 _ _ _ rfl he c h,?_,?_⟩,?_,?_⟩
 ·exact λA E Q s' k y=>wpAny_pyIter_enum (k _ _ (.inl rfl) he) y
 ·rintro b (rfl|rfl)
  ·exact(ad _ he (e8 rfl))
  ·refine fv c λo u _ r=>?_;clear c
   exact(ad o u (e8 r))
 ·rintro b (rfl|rfl)
  ·exact f.fresh_of (ng (iy _))
  ·exact f.fresh_of (bQ _)
 ·rintro b (rfl|rfl)
  ·exact f.1.new_not (ng (iy _))
  ·exact f.1.new_not (bQ _)
end
section
variable{own:Addr->Prop}
theorem Qm{x:Str}:∀{names:List (Str×NameKind)}{n:Nat}{acc:List (Str×Addr)},(acc.lookup x).isSome=true->((cellsFrom n names acc).lookup x).isSome=true:=by
 intro names
 induction names with
 |nil=>exact@λ_ _ e=>e
 |cons b r a=>
  intro n acc e;unfold cellsFrom
  split
  ·refine a<|Z fk ?_
   split
   ·rfl
   ·exact e
  ·exact a e
theorem vK{x:Str}(e:(x,NameKind.cell)∈names):((cellsFrom n names acc).lookup x).isSome=true:=by
 induction names generalizing n acc with
 |nil=>cases e
 |cons p r a=>
  unfold cellsFrom;rcases bK.mp e with e|e
  ·refine Z e.symm<|Qm<|Z fk<|Z (oK ..) ?_;rfl
  ·split<;>exact a e
theorem uW{a:Type}{x n:Str}{v w:a}{r:List (Str×a)}(e:((n,w)::r).lookup x=some v):n=x/\w=v\/r.lookup x=some v:=by
 rw[fk]at e
 cases q:x==n with
 |true=>rw[q]at e;exact .inl ⟨(eq_of_beq q).symm,aG e⟩
 |false=>rw[q]at e;exact .inr e
theorem fU{x:Str}(e:names.lookup x=some k):(x,k)∈names:=by
 induction names with
 |nil=>exact aN e
 |cons p r b=>
  rcases uW e with⟨h1,a⟩|e
  ·exact Z h1.symm<|Z a.symm aQ
  ·exact az _ (b e)
theorem QT{kindOf:Str->Option NameKind}{x:Str}:∀{a:List (Str×Value)}{mm:Str->Option Value},x∉a.map (·.1)->bindL kindOf a mm x=mm x:=by
 intro a
 induction a with
 |nil=>exact@λ_ _=>rfl
 |cons c r b=>
  intro mm e;rw[eV,bK,not_or]at e;refine Z (b e.2) ?_
  split
  ·exact ai e.1
  ·rfl
theorem QU{kindOf:Str->Option NameKind}{x:Str}(c:kindOf x=some .local){v:Value}(h:(binds.map (·.1)).Nodup)(e:binds.lookup x=some v):bindL kindOf binds mm x=some v:=by
 induction binds generalizing mm with
 |nil=>exact aN e
 |cons p r d=>
  refine a_ (eF.mp h) λf g=>?_;unfold bindL;rcases uW e with⟨h1,b⟩|e
  ·refine Z (QT (h1▸f))<|Z h1<|Z (ao c)<|Z b ?_
   simp
  ·exact d g e
theorem QV{kindOf:Str->Option NameKind}{x:Str}:∀{a:List (Str×Value)}{mm:Str->Option Value},x∉a.map (·.1)->bindC kindOf a mm x=mm x:=by
 intro a
 induction a with
 |nil=>exact@λ_ _=>rfl
 |cons c r b=>
  intro mm e;rw[eV,bK,not_or]at e;refine Z (b e.2) ?_
  split
  ·rfl
  ·exact ai e.1
theorem QW{kindOf:Str->Option NameKind}{x:Str}(c:kindOf x=some .cell){v:Value}(h:(binds.map (·.1)).Nodup)(e:binds.lookup x=some v):bindC kindOf binds mm x=some v:=by
 induction binds generalizing mm with
 |nil=>exact aN e
 |cons p r d=>
  refine a_ (eF.mp h) λf g=>?_;unfold bindC;rcases uW e with⟨h1,b⟩|e
  ·refine Z (QV (h1▸f))<|Z h1<|Z (ai (by refine Z c ?_;decide)) ?_;refine Z b ?_
   simp
  ·exact d g e
def iD(sc:Scope)(ps:List Str)(vs:List V):bh:=sc.names.map λp=>(ps.zip vs).lookup p.1
theorem zQ{x:Str}{vs:List V}{v:V}(r:aq N μ h vs vals)(e:(ps.zip vs).lookup x=some v):∃a,(ps.zip vals).lookup x=some a/\aj N μ h v a:=by
 induction ps generalizing vs vals with
 |nil=>exact aN e
 |cons p ps b=>
  cases vs with
  |nil=>exact aN e
  |cons y vs=>
   refine bX r.inv_cons λf ws z c d=>Z z<|Z fk ?_;rw[List.zip_cons_cons,fk]at e
   cases q:x==p with
   |true=>rw[q]at e;exact ad f rfl (aG e▸c)
   |false=>rw[q]at e;exact b d e
theorem zP{a:Type}{x:Str}{v:a}{vs:List a}(e:(ps.zip vs).lookup x=some v):x∈ps:=by
 induction ps generalizing vs with
 |nil=>exact aN e
 |cons p ps b=>
  cases vs with
  |nil=>exact aN e
  |cons y vs=>
   rcases uW e with⟨h1,_⟩|e
   ·exact Z h1.symm aQ
   ·exact az _ (b e)
theorem Nx.forget(n:Nx B P μ s m' μ' s')(a:∀b,P b->s.heap.get? b=none):Nx B No μ s m' μ' s':=
 ⟨n.1,n.2,λb o e q=>n.3 b o e λz=>z.elim (λz=>q (.inl z)) (λz=>by rw[a b z]at e;exact aN e),n.4,n.5,n.6⟩
theorem Ar.deeper(a:Ar (d+1) A fs):Ar d (A.deeper U) (U::fs):=
 ⟨by have:=a.1;exact((aE this):A.depth+1+4*d+4<=690),by have:=a.2;exact((aE this):A.units+3+40*d+100<=9800),Around.frames_deeper a.3,a.4⟩
theorem AZ{vs:List V}(S:b_ B fs m μ s)(r:aq B.N μ s.heap vs vals)(Φ:ps.Nodup)(g:fq fd.scope=true)
 (j:fd.globals=mainGlobals)(C:fd.builtins=builtinsNs)(H:fd.scope.kind=.function)(l:vs.length=ps.length)
 (D:∀p∈fd.scope.names,p.1∈ps->p.2=.local\/p.2=.cell)
 (x:InCallC s (callEnvC fd s.heap.objs.size f).locals (bindL (callEnvC fd s.heap.objs.size f).kindOf (ps.zip vals) λ_=>none) (callEnvC fd s.heap.objs.size f).cells
  (bindC (callEnvC fd s.heap.objs.size f).kindOf (ps.zip vals) λ_=>none) s1):
 St B fd.scope (callEnvC fd s.heap.objs.size f::fs) (callEnvC fd s.heap.objs.size f) (iD fd.scope ps vs) m μ s1/\Nx B No μ s m μ s1/\∀b,b9 fd.scope (callEnvC fd s.heap.objs.size f) b->s.heap.get? b=none:=by
 have t:s1.gens=s.gens/\s1.os=s.os:=aI x.toInCall.same λh' h_=>aI h_ λtk e=>Z e<|⟨rfl,rfl⟩;have E:Nx B No μ s m μ s1:=Nx.of_keep S.4 x.toInCall.keep t.1 t.2;have w:∀y c,(callEnvC fd _ f).cells.lookup y=some c->s.heap.get? c=none:=λy c e=>have:=x.above y c (mem_of_lookup e);ng (eU this)
 have n:∀b,b9 fd.scope (callEnvC fd s.heap.objs.size f) b->s.heap.get? b=none:=λb o=>by
  rcases o with rfl|⟨y,e⟩
  ·exact(bQ _)
  ·exact w y b e.2
 have d:(ps.zip vals).map (·.1)=ps:=by rewrite[List.map_fst_zip];rfl;exact(aA (Z l.symm r.length.symm:vals.length=ps.length).symm)
 have A:∀b,s.heap.get? b=none->B.h0.get? b=none:=λb e=>by
  cases q:B.h0.get? b with
  |none=>rfl
  |some o=>have:=S.1 b o q;rw[e]at this;exact aN this
 refine(bt ⟨?_,?_,?_⟩ E n)
 ·have a:=(S.next E λ_ q=>q.elim)
  refine iF x.toInCall.ns λo es ep I G _=>⟨a.1,a.2,a.3,a.4,a.5,((bt (by refine Z H ?_;decide) (vf _ o rfl (A _ (bQ _)) I (λvs=>Z G<|λq=>kk PySem.Data.ctorIdx q rfl)) a.6)),a.7.cons rfl I ⟨_,_,G⟩ (S.4.new_not (bQ _))⟩
 ·refine⟨H,j,C,(λ_ e=>e),(λ_ e=>e),(λ_ e=>e),(λy z c t L=>name_of_addr x.apart (mem_of_lookup t) (mem_of_lookup L)),g,(by simp[iD]),⟨_,x.toInCall.ns⟩,(λy e=>?_),(λy c e=>⟨_,x.cell y c e⟩),S.4.new_not (bQ _),(λy c e=>S.4.new_not (w y c e)),(λi v e=>?_)⟩
  ·exact aI (lU.mp (vK (fU e))) λc h=>(cP c _ h (x.cell y c h))
  ·unfold iD at e
   rw[eX]at e
   cases q:fd.scope.names[i]? with
   |none=>rw[q]at e;exact aN e
   |some p=>
    rw[q]at e;obtain⟨y,k⟩:=p;simp only[Option.map_some,Option.some.injEq]at e;refine ac (zQ r e) λN F M=>(dk y k N rfl ?_ (M.nx S.4 E));rcases D _ (bN q) (zP e)with rfl|rfl
    ·exact .inl ⟨(cW (de g) q),_,x.toInCall.ns,QU (cW (de g) q) (Z d Φ) F⟩
    ·obtain⟨c,h⟩:=lU.mp (vK (fU (cW (de g) q)))
     have:=x.cell y c h;rw[QW (cW (de g) q) (Z d Φ) F]at this;exact .inr ⟨.inl (cW (de g) q),c,h,this⟩
 ·exact⟨A _ (bQ _),λy c _ e=>A _ (w y c e)⟩
inductive re(K:Frag)(f:Addr)(fd:FuncData)(body:List Stmt)(ps:List Str):Prop
 |mk(bO:∃o,K.lookup f=some o/\o.data=.func fd)(body:fd.body=.stmts body)(code:codeIn K fd.code fd.qualname=true)(nd:ps.Nodup)(ok:fq fd.scope=true)(glb:fd.globals=mainGlobals)(bls:fd.builtins=builtinsNs)(kind:fd.scope.kind=.function)(co:fd.scope.isCoroutine=false)(gen:fd.scope.isGenerator=false)(loc:∀p∈fd.scope.names,p.1∈ps->p.2=.local\/p.2=.cell)(par:∀x∈ps,∃k,fd.scope.names.lookup x=some k)
def dY(Q:aS):cv:=λfl _ m=>match fl with
 | .ret v=>Q v m
 | .next=>Q .none m
theorem Om(j:Nx B No μ s m μ1 s1)(k:∀b,b9 sc U b->s.heap.get? b=none):lT B sc fs U μ1 s1 (dY Q) f s'->
 (match(Except.ok (.ret (match f with| .ret v=>v|_=>.none)):Result)with| .ok (.ret v)=>ds B μ s Q v s'| .ok _=>False| .error e=>E e s'):=by
 rintro⟨h,i,m',μ',q,c,S,n⟩;have d:=((j.mono cG).trans n).forget k
 cases h with
 |next=>exact Z c<|⟨.none,m',μ',q,aj.none_,d⟩
 |ret v=>refine ac c λa g l=>?_;clear c;exact Z g<|⟨v,m',μ',q,l,d⟩
inductive rg(B:bB)(sc:Scope)(U:Env)(μ:List Addr)(s:Shared)(Q:cv)(f:Flow)(s':Shared):Prop
 |mk(fl:Fl)(le':bh)(m':av)(μ':List Addr)(q:Q fl le' m')(r:wa B.N μ' s'.heap fl f)(n:Nx B (b9 sc U) μ s m' μ' s')
theorem rg.k{Q:cv}(w:rg B sc U μ s Q f s')(f:∀b:Fl,∀a:bh,∀m':av,∀μ':List Addr,∀q:Q b a m',∀r:wa B.N μ' s'.heap b f,∀n:Nx B (b9 sc U) μ s m' μ' s',G):G:=by obtain⟨b,a,m',μ',q,r,n⟩:=w;exact f b _ m' μ' q r n
def o0(B:bB)(sc:Scope)(d:Nat)(sts:List Stmt)(D:DS):Prop:=
 ∀J m Q,D J m Q->∀A fs U μ s E,Ar d A fs->St B sc fs U J m μ s->wpAny (model B.prog B.w) A (execs sts U) (rg B sc U μ s Q) E s
theorem ED{D:DS}(F:re B.K f fd body ps)(g:fd.closure=[])(e:∀vals:List Value,vals.length=ps.length->bindArgs fd ⟨vals,[]⟩=pure (ps.zip vals))
 (C:o0 B fd.scope d body D) vs m Q(c:vs.length=ps.length)(q:D (iD fd.scope ps vs) m (dY Q)):aP B (d+1) f vs m Q:=by
 refine λA fs μ s E vals l S r=>ac F.1 λo y G=>?_;have H:A.depth<recursionLimit:=by have:=l.1;exact((aE this):A.depth<1000)
 refine codeAny_call_cells H (S.X _ _ y) G (B.lim.keeps S.1) (codeRec_of S.X F.3) F.2 (e _ (Z c.symm r.length.symm)) g (λx I=>?_) (λs1 x=>?_) F.9 F.10 F.8
 ·have h:x.1∈ps:=have:=List.of_mem_zip I;this.1
  refine aI (F.12 _ h) λk i=>?_;rcases F.11 _ (fU i) h with z|z
  ·subst z;exact .inl i
  ·subst z;exact .inr ⟨i,vK (fU i)⟩
 ·have b:=AZ S r F.4 F.5 F.6 F.7 F.8 c F.11 x
  refine mo (C _ m _ q _ _ _ μ s1 _ l.deeper b.1) (λf s' t=>t.k λw Φ m' μ' q j n=>?_);clear t;have p:=((b.2.1.mono cG).trans n).forget b.2.2
  cases w with
  |next=>exact Z j<|⟨.none,m',μ',q,aj.none_,p⟩
  |ret v=>refine ac j λa u L=>?_;clear j;exact Z u<|⟨v,m',μ',q,L,p⟩
theorem EE{D:DS}(F:re B.K f fd body ps)(b:fd.closure=[])(a:∀vals:List Value,vals.length=ps.length->bindArgs fd ⟨vals,[]⟩=pure (ps.zip vals))
 (i:i3 B fd.scope d body D) vs m Q(c:vs.length=ps.length)(q:D (iD fd.scope ps vs) m (dY Q)):aP B (d+1) f vs m Q:=ED F b a (λJ m Q q A fs U μ s E g S=>mo (i J m Q q A fs U μ s E g S) λf s' w=>w.k λh e m' μ' q r _ n=>⟨h,e,m',μ',q,r,n⟩) vs m Q c q
end
section
variable{own:Addr->Prop}
theorem CI{x:Str}:∀{l:List (Str×Value)},(l.map (·.1)).Nodup->l.lookup x=some v->l.reverse.lookup x=some v:=by
 intro l
 induction l with
 |nil=>exact λ_ e=>aN e
 |cons d r c=>
  intro a e;obtain⟨n,u⟩:=d;rw[eV,eF]at a;refine Z List.reverse_cons<|Z List.lookup_append ?_;rw[fk]at e
  split at e
  ·rename_i q
   have:=fA.mp q;clear q;subst this;have:r.reverse.lookup x=none:=by rewrite[List.lookup_eq_none_iff];exact λp b=>have:p.1∈r.map _:=bT.mpr (ad p (List.mem_reverse.mp b) rfl);bne_iff_ne.mpr λz=>a.1 (z▸this)
   refine Z this ?_;simpa using e
  ·refine Z (c a.2 e) ?_;rfl
end
section
variable{own:Addr->Prop}
theorem wO(A:Around) C vals:(A.under (.builtin "type.__call__" ⟨.ref C::vals,[]⟩)).depth=A.depth+1/\(A.under (.builtin "type.__call__" ⟨.ref C::vals,[]⟩)).units=A.units+1/\
 (A.under (.builtin "type.__call__" ⟨.ref C::vals,[]⟩)).frames=A.frames/\(A.under (.builtin "type.__call__" ⟨.ref C::vals,[]⟩)).handled=A.handled:=by
 refine(dm rfl rfl ((?_:pushEnvs [] A.frames=A.frames)) rfl)
 cases A.frames<;>rfl
theorem Qe{vs:List V} c(hm:makesIn B.K (B.N.cls c)=true)(w:findIn B.K (.ref (B.N.cls c)) "__init__"=some (some (.ref fI)))(u:typeIn B.K (.ref fI)=some (.type "function"))
 (q:aP B d fI (.obj c m.length::vs) (m++[.fields []]) λv m'=>v=.none/\Q (.obj c m.length) m'):aP B (d+1) (B.N.cls c) vs m Q:=by
 refine λA fs μ s E vals a S r=>make_core (makes_of S.X hm) (looks_findIn S.X w) (λself=>bind_fn S.X _ u) (.inl rfl) ?_;have t:((s.1.push emptyDict).push (instObj (B.N.cls c) s.1.objs.size)).get? (s.1.objs.size+1)=some (instObj (B.N.cls c) s.1.objs.size):=by
  have:=cg (s.1.push emptyDict) (o:=instObj (B.N.cls c) s.1.objs.size) rfl
  rwa [kW]at this
 have f:Nx B No μ ⟨s.1,s.2,s.3,s.4,s.5⟩ (m++[.fields []]) (μ++[s.1.objs.size]) ⟨(s.1.push emptyDict).push (instObj (B.N.cls c) s.1.objs.size),s.2,s.3,s.4,s.5⟩:=by
  refine Nx.new S.4 (λb o e=>bj _ (bj _ e)) (bQ _) (ad (λ_=>none) ?_ ?_) rfl rfl
  ·exact Heap.Ns1.of_empty (ve _ _ 0 ((bj _ (cg _ rfl))) rfl (λe he=>by simp at he) (λn=>rfl))
  ·exact⟨λi v e=>by trivial,λx e=>by trivial⟩
 have k:aj B.N (μ++[s.1.objs.size]) ((s.1.push emptyDict).push (instObj (B.N.cls c) s.1.objs.size)) (.obj c m.length) (.ref (s.1.objs.size+1)):=by
  refine⟨_,_,_,rfl,t,rfl,rfl,?_,rfl,?_⟩
  ·exact Z S.4.1.symm<|gN
  ·intro z
   rcases cO.mp z with z|z
   ·exact S.4.new_not (ng (iy _)) z
   ·simp only[b5]at z;exact absurd z (Nat.succ_ne_self _)
 refine codeAny_mono (q _ fs _ _ E _ (⟨Z ((wO A _ _).1)<|aE a.1,Z ((wO A _ _).2.1)<|aE a.2,a.3,a.4⟩) (S.next f λ_ q=>q.elim) (aq.cons k (r.nx S.4 f))) λh s' p=>?_;rcases h with e|(v|_|_|_)<;>first|exact p|exact p.elim|skip
 refine p.k λD m' μ' l C j=>?_;clear p;refine a_ l λg y=>?_;clear l;subst g;exact⟨C.none_inv,(⟨.obj c _,m',μ',y,k.nx f.1 j,f.trans j⟩)⟩
theorem OW f(e:sc.names.lookup name=some .globalImplicit)(c:nsIn B.K mainGlobals name=some (some (.ref f)))(g:keepIn B.K (.ref f)=true)
 (b:(name=="__debug__")=false:=by decide):
 a7 B sc d (.Call (.Name name fp) [] [] p) λJ m Q=>aP B d f [] m Q:=by
 intro J m Q q A fs U μ s E a S;exact ag (tA S.2.1 (S.2.4 _ e) (loadGlobal_global (Z S.2.2<|B.G.keeps S.1.1) (mg_of B.KX B.G c) (EH a S.1 g aq.nil q)) b)
theorem OP{i:Int}(e:sc.names.lookup name=some .globalImplicit)(c:nsIn B.K mainGlobals name=some (some (.int i t)))
 (b:(name=="__debug__")=false:=by decide):a7 B sc d (.Name name p) λ_ m Q=>Q (.int i) m:=by
 intro J m Q q A fs U μ s E a S;exact tA S.2.1 (S.2.4 _ e) (loadGlobal_global (Z S.2.2<|B.G.keeps S.1.1) (mg_of B.KX B.G c) (fx S.1.4 q (aj.int_ _ _))) b
def fb:Nat->O
 |0=>.sdict []
 |1=>.idict []
 |_=>.tdict []
theorem OR(c:Nat):a7 B sc d (.Dict [] [] p) λ_ m Q=>Q (.loc m.length) (m++[fb c]):=by
 intro J m Q q A fs U μ s E a S;refine wpAny_Dict_empty ?_;have k:∀b o,s.heap.get? b=some o->(s.heap.push {cls:=.type "dict",data:=.dict #[]}).get? b=some o:=λb o e=>bj _ e;have loc:(μ++[s.heap.objs.size])[m.length]?=some s.heap.objs.size:=by exact Z S.1.4.1.symm<|gN
 cases c with
 |zero=>exact⟨_,_,_,q,aj.loc_ loc,Nx.new S.1.4 k (bQ _) (b6 [] (Heap.DictOf.new _) rfl aq.nil) rfl rfl⟩
 |succ f=>cases f with
  |zero=>exact⟨_,_,_,q,aj.loc_ loc,Nx.new S.1.4 k (bQ _) (b6 [] (Heap.DictOf.new _) rfl aq.nil) rfl rfl⟩
  |succ f=>exact⟨_,_,_,q,aj.loc_ loc,Nx.new S.1.4 k (bQ _) (gP [] (Heap.DictOfH.new _) rfl aq.nil (λx g=>bx g)) rfl rfl⟩
end
def nF{K:Type}[DecidableEq K](xs:List (K×Addr×Value))(k:K):List (K×Addr×Value):=xs.filter λx=>decide (x.1≠k)
theorem NW{K b:Type}[DecidableEq K] k{xs:List (K×b)}{p:b}(a:(xs.map (·.1)).Nodup)(e:xs[j]?=some (k,p)):xs.eraseIdx j=xs.filter λx=>decide (x.1≠k):=by
 induction xs generalizing j with
 |nil=>exact aN e
 |cons x r f=>
  cases j with
  |zero=>have c:x.1=k:=bg _ (aG e);refine Z (List.filter_cons_of_neg λz=>kt z c:(x::r).filter (λx=>decide _)=r.filter (λx=>decide (x.1≠k)))<|Z (List.filter_eq_self.mpr λy d=>fc λz=>(eF.mp a).1 (bT.mpr (ad y d (z.trans c.symm))):r.filter (λx=>decide (x.1≠k))=r) ?_;rfl
  |succ j=>exact have g:x.1≠k:=λz=>(eF.mp a).1 (bT.mpr (ad _ (bN e) z.symm));Z List.eraseIdx_cons_succ<|Z (f (eF.mp a).2 e)<|Z (List.filter_cons_of_pos (p:=λx:K×b=>decide (x.1≠k)) (fc g)) rfl
theorem Oe{a c:Type}(f:a->c)(l:List a) j:(l.map f).eraseIdx j=(l.eraseIdx j).map f:=by
 induction l generalizing j with
 |nil=>rfl
 |cons x r b=>
  cases j with
  |zero=>rfl
  |succ j=>exact bg _ (b j)
section
variable{K:Type}[DecidableEq K]{knd:HeapKind prog w K}
theorem AD{d a:Addr}{xs:List (K×Addr×Value)}{p:Addr×Value}{Q:Option DictEntry->Shared->Prop}(n:knd.room A)(b:knd.is s.heap k a)(hm:s.heap.DictOfH knd d xs)(m:atKey xs k=some p)
 (r:∀e h',e.val=p.2->h'.DictOfH knd d (nF xs k)->Heap.SameBut d s.heap h'->Q (some e) {s with heap:=h',toks:=s.toks+knd.draws k})
 (hsz:xs.length<=sizeLine):wpAny (model prog w) A (Builtin.Dict.takeOut d (.ref a)) Q E s:=by
 obtain⟨o,es,ep,g,t,c,he,f,h⟩:=hm;unfold Builtin.Dict.takeOut
 try with_reducible refine eJ ?_
 refine ag (knd.pyHash n b (ag (wpAny_dictFind_heap n b g c he f h ?_ ?_)))
 ·intro l
  rw[atKey_none_of_get l]at m;exact aN m
 ·intro j q i
  have:=atKey_of_get h i;rw[m]at this;replace this:=aG this;subst this;refine ag (wpAny_dictEntries g c (Z (entry_at he j) (Z i (ag (wpAny_updateDictKeys (hz:=(aC (aA (size_of_entries he)) hsz)) g c (aD (r _ _ rfl ⟨_,_,ep+1,jx _ g (Obj.isFreed_of_dict (Obj.data_mapDictKeys c _)),t.mapDictKeys _,Obj.data_mapDictKeys c _,?_,?_,?_⟩ (iZ ..))))))))
  ·have:(es.eraseIdxIfInBounds j).toList=es.toList.eraseIdx j:=by
    unfold Array.eraseIdxIfInBounds
    split
    ·simp
    ·rename_i z
     rewrite[List.eraseIdx_of_length_le];rfl;exact(oS z)
   refine Z this<|Z he ?_;unfold nF;exact Z (NW k h i).symm<|Oe _ _ _
  ·exact λx u=>knd.keeps (f x (iX.mp u).1) g c (iZ ..)
  ·exact(List.filter_sublist.map _).nodup h
theorem I_{d a:Addr}{xs:List (K×Addr×Value)}{Q:bL}(r:knd.room A)(b:knd.is s.heap k a)(hm:s.heap.DictOfH knd d xs)
 (l:∀p,atKey xs k=some p->Q p.2 {s with toks:=s.toks+knd.draws k})
 (f:atKey xs k=none->∀h',h'.DictOfH knd d (storedH xs k a v)->Heap.SameBut d s.heap h'->Q v {s with heap:=h',toks:=s.toks+knd.draws k})
 (hsz:xs.length<=sizeLine):wpAny (model prog w) A (dictSetDefault d (.ref a) v) Q E s:=by
 obtain⟨o,es,ep,m,t,h,he,i,q⟩:=hm;unfold dictSetDefault
 try with_reducible refine eJ ?_
 refine ag (knd.pyHash r b (ag (wpAny_dictFind_heap r b m h he i q ?_ ?_)))
 ·intro n
  have c:=atKey_none_of_get n;refine jW (ag (wpAny_updateDictKeys (hz:=aC (aA (size_of_entries he)) hsz) m h (aD (f c _ ⟨_,_,ep+1,jx _ m (Obj.isFreed_of_dict (Obj.data_mapDictKeys h _)),t.mapDictKeys _,Obj.data_mapDictKeys h _,?_,?_,?_⟩ (iZ ..)))))
  ·refine Z (storedH_new c ..) ?_
   simp[he,entryOfKey]
  ·refine Z (storedH_new c ..) λx g=>?_
   rcases cO.mp g with g|g
   ·exact knd.keeps (i x g) m h (iZ ..)
   ·simp only[b5]at g
    exact Z g<|knd.keeps b m h (iZ ..)
  ·refine Z (storedH_new c ..)<|Z bz ?_;rewrite[qU]
   refine(bt q (by simp) (λx g y z=>?_))
   simp only[eV,List.map_nil,b5]at z;clear r b f hsz t i c;exact Z z<|λe=>(not_mem_keys_of_get n) (e▸g)
 ·exact λj p u=>ag (wpAny_dictEntries m h (Z (entry_at he j) (Z u (jW (aD (l p (atKey_of_get q u)))))))
end
def G8:O->Option String
 | .list _=>some "list"
 | .sdict _=>some "dict"
 | .idict _=>some "dict"
 | .tdict _=>some "dict"
 |_=>Option.none
def CG:V->av->Option String
 | .loc n,m=>m[n]?.bind G8
 | .str _,_=>some "str"
 |_,_=>Option.none
section
variable{own:Addr->Prop}
theorem uT{T:String}(S:b_ B fs m μ s)(r:aj B.N μ s.heap x v)(e:CG x m=some T):s.TypeIs v T/\∀a,v=.ref a->∃o,s.heap.get? a=some o/\o.dict=none:=by
 cases x with
 |str y=>refine aI r.str_inv λt h=>Z h ?_;replace e:=aG e;subst e;exact⟨typeIs_str s y t,λa q=>(kk PySem.Value.ctorIdx q rfl)⟩
 |loc n=>
  refine ac r.loc_inv λa h i=>Z h ?_;have e:m[n]?.bind _=some T:=e
  cases f:m[n]? with
  |none=>rw[f]at e;exact aN e
  |some o=>
   rw[f]at e;have c:=S.4.3 _ _ _ i f;clear S i r f;cases o with
   |list l=>replace e:=aG e;subst e;refine ac c λitems p _=>?_;clear c;refine aI p λk j=>?_;clear p;exact⟨(ad _ j rfl),λb q=>by replace q:=Value.ref.inj q;subst q;exact(ad _ j rfl)⟩
   |sdict l=>replace e:=aG e;subst e;obtain⟨kvs,d,_⟩:=c;exact⟨d.typeIs,d.mapOf.noDict⟩
   |idict l=>replace e:=aG e;subst e;obtain⟨kvs,d,_⟩:=c;exact⟨d.typeIs,d.mapOf.noDict⟩
   |tdict l=>replace e:=aG e;subst e;obtain⟨kvs,d,_⟩:=c;exact⟨d.typeIs,dictOfH_noDict d⟩
   |_=>cases e
 |_=>exact aN e
def nK:Nat->String
 |1=>"list"
 |3=>"str"
 |_=>"dict"
def G9(k:Nat)(R:Prop):O->Prop:=λo=>O.casesOn (motive:=λ_=>Prop) o (λ_=>jd k 1 R) (λ_=>False) (λ_=>jd k 2 R) (λ_=>jd k 2 R) (λ_=>jd k 2 R) (λ_ _=>False) False
def t_(k:Nat)(x:V)(m:av)(R:Prop):Prop:=V.casesOn (motive_1:=λ_=>Prop) x False (λ_=>False) (λ_=>False) (λ_=>jd k 3 R) (λ_=>False) (λn=>iA m n (G9 k R)) λ_ _=>False
theorem pE{R:Prop}(q:t_ k x m R):CG x m=some (nK k)/\R:=by
 cases x with
 |str y=>exact Z ((kI q).1)<|⟨rfl,(kI q).2⟩
 |loc n=>
  refine q.k λh q=>((Z h ?_):m[n]?.bind _=_/\_);rename_i o;clear h;cases o with
  |list l=>exact Z ((kI q).1)<|⟨rfl,(kI q).2⟩
  |sdict l=>exact have a:=kI q;Z a.1<|⟨rfl,a.2⟩
  |idict l=>exact have a:=kI q;Z a.1<|⟨rfl,a.2⟩
  |tdict l=>exact have a:=kI q;Z a.1<|⟨rfl,a.2⟩
  |_=>exact q.elim
 |_=>exact q.elim
theorem O0{o e:Expr}{O:List V->av->aS->Prop}{id:String}(h1:a7 B sc d o D)(F:d7 B sc d (e::rest) Ds)(G:eS B d (.builtin id) O)
 (i:Slot (nK k) name id)(t:typeOf (.builtin id)=pure (.type "method_descriptor"))(I:PlainAttrs (nK k))
 (pl:Env->Sem Bool)(he:autoParam (∀U,eval (.Call (.Attribute o name ap) (e::rest) [] p) U=(do
  let z<-eval o U
  standAt ap.atName
  let(f,b)<-holding [z] (getMethod z name (pl U))
  callWith p f b (backTo p (starEach (e::rest) U)) (backToKw p (keywordEach [] U)))) bF)
 (c:autoParam (∀U,starEach (e::rest) U=(false,eval e U)::starEach rest U) bF)(r:autoParam (∀U,(backTo p (starEach rest U)).any (·.1)=false) bF):
 a7 B sc d (.Call (.Attribute o name ap) (e::rest) [] p) λJ m Q=>D J m λx m=>t_ k x m (Ds J m λvs m=>O (x::vs) m Q):=by
 intro J m Q q A fs U μ s E n S;refine methodCall_KW (he:=he _) (h1.go q n S λL s1 x m1 μ1 q1 w u=>?_);have l:=S.next u;refine getMethod_builtin (uT l.1 w (pE q1).1).1 I i t (uT l.1 w (pE q1).1).2 ?_
 have g:wpAny _ A _ (λvals s2=>wpAny _ A _ _ E s2) E s1:=
  mo (F J m1 _ (pE q1).2 A fs _ μ1 s1 E n l p) (λvals s2 C=>(by refine C.k λvs H y q2 Φ v=>?_;clear C;exact wpAny_mono (G _ H Q q2 A fs y s2 E _ n (l.next v).1 (aq.cons (w.nx u.1 v) Φ)) (λ_ _ p=>(p.step v).step u) λ_ _ e=>e))
 have h:wpAny (model B.prog B.w) A (evalArgs (.builtin id) true (backTo p (starEach (e::rest) U)) []) (λa j=>wpAny (model B.prog B.w) A (call (.builtin id) ([L]++a.pos) a.kw) (ds B μ s Q) E j) E s1:=by rw[c]at g⊢;exact evalArgs_plain g
 exact callWith_builtin (by refine Z (c ..)<|((Z (r ..) ?_));rfl) h
theorem OZ{o:Expr}{O:List V->av->aS->Prop}{id:String}(h1:a7 B sc d o D)(n:eS B d (.builtin id) O)
 (b:Slot (nK k) name id)(g:typeOf (.builtin id)=pure (.type "method_descriptor"))(r:PlainAttrs (nK k))
 (pl:Env->Sem Bool)(he:autoParam (∀U,eval (.Call (.Attribute o name ap) [] [] p) U=(do
  let l<-eval o U
  standAt ap.atName
  let(f,a)<-holding [l] (getMethod l name (pl U))
  callWith p f a (backTo p (starEach [] U)) (backToKw p (keywordEach [] U)))) bF):
 a7 B sc d (.Call (.Attribute o name ap) [] [] p) λJ m Q=>D J m λx m=>t_ k x m (O [x] m Q):=by
 intro J m Q q A fs U μ s E i S;exact methodCall_KW (he:=he _) (h1.go q i S λt s1 x m1 μ1 q1 h j=>have e:=S.next j;getMethod_builtin (uT e.1 h (pE q1).1).1 r b g (uT e.1 h (pE q1).1).2<|((callWith_builtin rfl (PySem.evalArgs_none (mo (n _ m1 Q (pE q1).2 A fs μ1 s1 E [t] i e.1 (aq.cons h aq.nil)) (λ_ _ p=>p.step j))))))
def E5(vs:List V)(m:av)(Q:aS):Prop:=n9 vs λy x=>gp y λn=>qZ m n 10000 λl=>Q .none (m.set n (.list (l++[x])))
theorem Lb:eS B d (.builtin "list.append") E5:=by refine λvs m Q q A fs μ s E vals p S r=>pZ q r λy x v w j k q=>gt q j λn a b h=>h.k λl e hz q=>?_;clear h;exact ac (S.4.plain b e) λitems i g=>wpAny_list_append_plain i (λh' c f=>⟨.none,_,μ,q,aj.none_,Nx.cell (o:=.list _) (tk:=s.toks) S.4 b f (ad _ c (Z Array.toList_push ((g.stay (S.4.stillBut b f)).append (aq.cons (k.stay (S.4.stillBut b f)) aq.nil))))⟩) (g.fits hz)
theorem r0{l:Addr}(a:s.heap.get? l=some {cls:=.type "list",dict:=none,data:=.seq items n,slots:=#[]}) f:
 (s.heap.update l (Obj.mapSeq f)).PlainList l (f items)/\Heap.SameBut l s.heap (s.heap.update l (Obj.mapSeq f)):=⟨⟨_,jx _ a rfl⟩,iZ ..⟩
inductive zK(n:Nat)(m:av)(Q:aS):Prop
 |mk(l:List V)(x:V)(e:m[n]?=some (.list (l++[x])))(h:l.length<=10000)(q:Q x (m.set n (.list l)))
theorem zK.k(w:zK n m Q)(f:∀l:List V,∀x:V,∀e:m[n]?=some (.list (l++[x])),∀h:l.length<=10000,∀q:Q x (m.set n (.list l)),G):G:=by obtain⟨l,x,e,h,q⟩:=w;exact f l x e h q
def BL(vs:List V)(m:av)(Q:aS):Prop:=g8 vs λy=>gp y λn=>zK n m Q
theorem KO:eS B d (.builtin "list.pop") BL:=by
 refine λvs m Q q A fs μ s E vals D S r=>h9 q r λy v z q=>gt q z λn a g u=>u.k λl x e hz q=>?_;clear u;refine ac (S.4.plain g e) λitems t k=>aI t λc j=>?_;clear t;have i:l.length+1=items.size:=by have h1:=k.size;rwa [bM]at h1
 refine ac (k.get (gN)) λy p C=>?_;rw[j7]at p;have h:items.size-1=l.length:=by refine Z i.symm ?_;rfl
 have b:=r0 j (λxs=>xs.eraseIdxIfInBounds (items.size-1));refine call_meets F.slot_list_pop (ad _ j rfl) F.entry_list_pop (F.args_list_pop_1 _) (MeetsSeq.list_pop_last a _ c y (Z h p) (Z ki<|aK hz (aA i.symm))) ⟨j,(⟨x,_,μ,q,C.stay (S.4.stillBut g b.2),Nx.cell (o:=.list l) (tk:=s.toks) S.4 g b.2 (ad _ b.1 ?_)⟩)⟩;have w:(items.eraseIdxIfInBounds (items.size-1)).toList=items.toList.take l.length:=by
  unfold Array.eraseIdxIfInBounds
  split
  ·exact Z Array.toList_eraseIdx<|Z (List.eraseIdx_eq_take_drop_succ ..)<|Z (List.drop_of_length_le (Z mh<|aK (aA i.symm) (aA h.symm)))<|Z (bZ ..)<|Z h rfl
  ·lia
 refine Z w ?_;have:=(k.stay (S.4.stillBut g b.2)).take l.length
 rwa [List.take_left' rfl]at this
def D4(vs:List V)(m:av)(Q:aS):Prop:=n9 vs λx y=>gp x λn=>gp y λk=>aV λl l'=>dQ (m[n]?=some (.list l)) (m[k]?=some (.list l')) (l.length+l'.length<=100000) (Q .none (m.set n (.list (l++l'))))
theorem K6:eS B d (.builtin "list.extend") D4:=by
 refine λvs m Q q A fs μ s E vals N S r=>pZ q r λx y v w L M q=>gt q L λn a t q=>gt q M λk b Φ G=>gu G λl P e I hz q=>?_;clear G;refine ac (S.4.plain t e) λitems p D=>aI p λc i=>?_;clear p;refine ac (S.4.plain Φ I) λf p j=>aI p λH z=>?_;clear p;have C:=D.size;have u:=j.size;have h:¬(!items.isEmpty&&Builtin.List.listTooLong (items.size+f.size))=true:=by
  have:Builtin.List.listTooLong (items.size+f.size)=false:=by
   unfold Builtin.List.listTooLong;simp only[ki]
   lia
  refine Z this<|Z (Bool.and_false ..) ?_;decide
 exact call_meets F.slot_list_extend (ad _ i rfl) F.entry_list_extend (F.args_list_extend_2 _ _) (AutoSeq1.list_extend_list_list_0 a _ c b _ H h (Z ki<|aK hz (aA C.symm)) (Z ki<|dL hz (aA C.symm) (aA u.symm))) (bt i z (have st:=S.4.stillBut t (r0 i (λxs=>xs++f)).2;⟨.none,_,μ,q,aj.none_,Nx.cell (o:=.list _) (tk:=s.toks) S.4 t (r0 i (λxs=>xs++f)).2 (ad _ (r0 i (λxs=>xs++f)).1 (Z Array.toList_append ((D.stay st).append (j.stay st))))⟩))
def A3(vs:List V)(m:av)(Q:aS):Prop:=g8 vs λx=>pR x λx=>Q (.bool (x.length>0&&x.cps.all Unicode.isSpace)) m
theorem K0:eS B d (.builtin "str.isspace") A3:=λvs m Q q A fs μ s E vals c S r=>h9 q r λx v b q=>ue q b λx t q=>PySem.SC.isspace (fx S.4 q (aj.bool_ _))
def fZ{K:Type}[DecidableEq K](k:K)(l:List (K×V)):List (K×V):=l.filter λp=>decide (p.1≠k)
theorem Em{K i:Type}[DecidableEq K](g:i->Value) k{l:List (K×V)}{xs:List (K×i)}(e:xs.map (·.1)=l.map (·.1))(r:aq N μ h (l.map (·.2)) (xs.map λx=>g x.2)):
 (xs.filter λx=>decide (x.1≠k)).map (·.1)=(fZ k l).map (·.1)/\aq N μ h ((fZ k l).map (·.2)) ((xs.filter λx=>decide (x.1≠k)).map λx=>g x.2):=by
 induction l generalizing xs with
 |nil=>
  cases xs with
  |nil=>exact⟨rfl,aq.nil⟩
  |cons x xs=>exact qg e
 |cons p l b=>
  cases xs with
  |nil=>exact mN e
  |cons x xs=>
   have a:=gH e;refine bX r λv w z j c=>?_;clear r
   by_cases q:p.1=k
   ·exact have d:fZ k _=fZ k l:=List.filter_cons_of_neg λz=>kt z q;have f:(x::xs).filter (λx=>decide _)=xs.filter (λx=>decide (x.1≠k)):=List.filter_cons_of_neg λz=>kt z (a.1.trans q);Z d<|Z f<|⟨(b a.2 ((gH z).2▸c)).1,(b a.2 ((gH z).2▸c)).2⟩
   ·exact have d:fZ k _=p::fZ k l:=List.filter_cons_of_pos (fc q);have f:(x::xs).filter (λx=>decide _)=x::xs.filter (λx=>decide (x.1≠k)):=List.filter_cons_of_pos (fc λz=>q (a.1.symm.trans z));Z d<|Z f<|⟨List.cons_eq_cons.mpr ⟨a.1,(b a.2 ((gH z).2▸c)).1⟩,aq.cons ((gH z).1▸j) (b a.2 ((gH z).2▸c)).2⟩
theorem zc{K:Type}[DecidableEq K] k{l:List (K×V)}{kvs:List (K×Value)}(e:kvs.map (·.1)=l.map (·.1))(r:aq N μ h (l.map (·.2)) (kvs.map (·.2))):
 (without kvs k).map (·.1)=(fZ k l).map (·.1)/\aq N μ h ((fZ k l).map (·.2)) ((without kvs k).map (·.2)):=Em (λx:Value=>x) k e r
theorem El{K:Type}[DecidableEq K] k{l:List (K×V)}{xs:List (K×Addr×Value)}(e:xs.map (·.1)=l.map (·.1))(r:aq N μ h (l.map (·.2)) (xs.map (·.2.2))):
 (nF xs k).map (·.1)=(fZ k l).map (·.1)/\aq N μ h ((fZ k l).map (·.2)) ((nF xs k).map (·.2.2)):=Em (λx:Addr×Value=>x.2) k e r
end
section
variable{K:Type}[DecidableEq K]{knd:HeapKind prog w K}{d:Addr}
theorem L7:MeetsIn prog w (Builtin.«dict.pop» ⟨[.ref d,.ref a],[]⟩) (λA R s=>knd.room A.in1/\cL λk xs p=>gU (knd.is s.heap k a) (s.heap.DictOfH knd d xs) (xs.length<=sizeLine) (atKey xs k=some p) (∀h',h'.DictOfH knd d (nF xs k)->Heap.SameBut d s.heap h'->R (.ok (.ret p.2)) {s with heap:=h',toks:=s.toks+knd.draws k})):=
 .of_wp λA R s w=>by
  obtain⟨k,xs,p,b,hm,hsz,g,h⟩:=w.2;refine ag<|ag (wpAny_notOrdered_dict hm.typeIs (aD ?_));have m:(keyPart (.ref a)).isSome=false:=rfl;obtain⟨o,es,ep,n,r,j,he,l,t⟩:=id hm;refine ag (wpAny_dictEntries n j (eQ ?_));have f:es.isEmpty=false:=by
   have:xs≠[]:=λz=>by rw[z]at g;exact aN g
   exact have e:=size_of_entries he;have:0<xs.length:=List.length_pos_iff.mpr this;gE (by lia)
  exact Z f<|ag (AD w.1 b hm g (λe h' i c q=>ag (wpAny_letGo (aD (ad _ rfl (Z i<|h h' c q))))) hsz)
theorem L8:MeetsIn prog w (Builtin.«dict.__delitem__» ⟨[.ref d,.ref a],[]⟩) (λA R s=>knd.room A.in1/\cL λk xs p=>gU (knd.is s.heap k a) (s.heap.DictOfH knd d xs) (xs.length<=sizeLine) (atKey xs k=some p) (∀h',h'.DictOfH knd d (nF xs k)->Heap.SameBut d s.heap h'->R (.ok (.ret .none)) {s with heap:=h',toks:=s.toks+knd.draws k})):=
 .of_wp λA R s w=>by obtain⟨k,xs,p,b,hm,hsz,f,h⟩:=w.2;refine ag<|ag (wpAny_notOrdered_dict hm.typeIs (aD (((ag (AD w.1 b hm f (λe h' i c g=>?_) hsz)):wpAny _ _ _ _ _ s))));exact ag (wpAny_letGo (aD (ad _ rfl (h h' c g))))
theorem L6{dflt:Value}(f:(d==sysModules)=false):MeetsIn prog w (Builtin.«dict.setdefault» ⟨[.ref d,.ref a,dflt],[]⟩) (λA R s=>knd.room A.in1/\aV λk xs=>gU (knd.is s.heap k a) (s.heap.DictOfH knd d xs) (xs.length<=sizeLine) ((∀p,atKey xs k=some p->R (.ok (.ret p.2)) {s with toks:=s.toks+knd.draws k})) ((atKey xs k=none->∀h',h'.DictOfH knd d (storedH xs k a dflt)->Heap.SameBut d s.heap h'->R (.ok (.ret dflt)) {s with heap:=h',toks:=s.toks+knd.draws k}))):=
 .of_wp λA R s w=>fu w.2 λk xs b hm hsz h1 e=>ag<|ag (wpAny_notOrdered_dict hm.typeIs (aD (((Z (ai (by exact Z f Bool.false_ne_true)) (ag (I_ w.1 b hm (λp h=>aD (ad _ rfl (h1 p h))) (λg h' c i=>aD (ad _ rfl (e g h' c i))) hsz))):wpAny _ _ (if(d==sysModules)=true then _ else(dictSetDefault d _ dflt>>=_)) _ _ s))))
end
theorem sN{a b c:Type}{f:a->c}{g:b->c}{x:List a}{y:List b}(e:x.map f=y.map g):x.length=y.length:=by have:=bg List.length e;simpa using this
theorem CL{K:Type}[DecidableEq K]{kvs:List (K×Value)}{l:List (K×V)}{k:K}(e:kvs.map (·.1)=l.map (·.1))(r:aq N μ h (l.map (·.2)) (kvs.map (·.2)))(q:bO k l=some x):∃v,valueAt kvs k=some v/\aj N μ h x v:=(t8 k e r).2 x q
def Ow(n:Nat)(i:V)(m:av)(Q:aS):O->Prop:=λo=>O.casesOn (motive:=λ_=>Prop) o (λ_=>False) (λ_=>False) (λ_=>False)
 (λl=>df i λk=>∃x,br (bO k l=some x) (l.length<=10000) (Q x (m.set n (.idict (fZ k l)))))
 (λl=>kq i λt=>aV λk x=>dQ (e6 t=some k) (bO k l=some x) (l.length<=10000) (Q x (m.set n (.tdict (fZ k l))))) (λ_ _=>False) False
def lN(vs:List V)(m:av)(Q:aS):Prop:=n9 vs λy i=>gp y λn=>iA m n (Ow n i m Q)
theorem Ac{K:Type}[DecidableEq K]{xs:List (K×Addr×Value)}{k:K}(b:∀x∈xs,x.2.1∉μ):∀x∈nF xs k,x.2.1∉μ:=λx a=>b x (iX.mp a).1
theorem K8:eS B d (.builtin "dict.pop") lN:=by
 refine λvs m Q q A fs μ s E vals M S r=>pZ q r λy i v w Ω L q=>gt q Ω λn a f C=>C.k λΦ q=>?_;clear C;rename_i o
 cases o with
 |idict l=>refine cQ q L λk t C=>cB C λx e hz H=>?_;clear C;exact cB (S.4.3 _ _ _ f Φ) λkvs u b h=>ac (CL b h e) λv N I=>call_meetsIn F.slot_dict_pop u.typeIs F.entry_dict_pop (F.args_dict_pop_2 _ _) (meets_dict_pop_there _ a (by simp[intKind,Value.isInt]) [] (.inl rfl) rfl) (vf _ v u (Z (sN b)<|aF hz) N (λh' g j=>have st:=S.4.stillBut f j;⟨x,_,μ,H,I.stay st,Nx.cell (o:=.idict _) S.4 f j (b6 _ g (zc k b (h.stay st)).1 (zc k b (h.stay st)).2) _⟩))
 |tdict l=>refine CY (lx q) λt D k x P e hz H=>?_;clear q;subst D;refine cB (pF (prog:=B.prog) (w:=B.w) P L) λW G z R=>?_;subst G;exact ir (S.4.3 _ _ _ f Φ) λxs u b h T=>ac ((oL k b h).2 x e) λp ep I=>call_meetsIn F.slot_dict_pop u.typeIs F.entry_dict_pop (F.args_dict_pop_2 _ _) L7 ⟨M.line1,k,xs,p,z,u,Z (sN b)<|aF hz,ep,λh' g j=>have c:=El k b (h.stay (S.4.stillBut f j));⟨x,_,μ,H,I.stay (S.4.stillBut f j),Nx.cell (o:=.tdict _) S.4 f j (gP _ g c.1 c.2 (Ac T)) _⟩⟩
 |_=>exact q.elim
def Bh(vs:List V)(m:av)(Q:aS):Prop:=B7 vs λx z y=>gp x λn=>kq z λt=>aV λl k=>dQ (m[n]?=some (.tdict l)) (e6 t=some k) (l.length<=10000)
 (Option.casesOn (motive:=λ_=>Prop) (bO k l) (Q y (m.set n (.tdict (l++[(k,y)])))) λx=>Q x m)
theorem Mh{K:Type}[DecidableEq K]{k:K}:∀{l:List (K×V)},bO k l=none->(l.any λc=>decide (c.1=k))=false:=by
 intro l
 induction l with
 |nil=>exact@λ_=>rfl
 |cons a r b=>
  intro e
  by_cases q:a.1=k
  ·rw[show bO k (a::r)=some _ from ao q]at e;exact gO e
  ·rw[show bO k (a::r)=bO k r from ai q]at e
   exact Z List.any_cons<|Z (gE q)<|b e
theorem KN:eS B d (.builtin "dict.setdefault") Bh:=by
 refine λvs m Q q A fs μ s E vals Φ S r=>Lu q r λx z y v w u T Ω G q=>gt q T λn a f q=>?_;obtain⟨t,rfl,l,k,L,M,hz,q⟩:=lx q;refine cB (pF (prog:=B.prog) (w:=B.w) M Ω) λW h c C=>?_;subst h;refine ir (S.4.3 _ _ _ f L) λxs i b g P=>call_meetsIn F.slot_dict_setdefault i.typeIs F.entry_dict_setdefault (F.args_dict_setdefault_3 _ _ _) (L6 (S.notSys (bN f))) ⟨Φ.line1,k,xs,c,i,Z (sN b)<|aF hz,λp D=>?_,λN h' j I=>?_⟩
 ·cases e:bO k l with
  |none=>rw[(oL k b g).1 e]at D;exact aN D
  |some x=>rw[e]at q;refine ac ((oL k b g).2 x e) λR ep H=>?_;rw[D]at ep;replace ep:=aG ep;exact Z ep<|e9 S.4 q H
 ·cases e:bO k l with
  |some x=>refine ac ((oL k b g).2 x e) λR ep H=>?_;rw[N]at ep;exact aN ep
  |none=>rw[e]at q;have st:=S.4.stillBut f I;refine a_ (AU k y u W (G.stay st) b (b▸Eb i) (g.stay st)) λz1 z2=>?_;rw[xh k y (Mh e)]at z1 z2;exact⟨y,_,μ,q,G.stay st,Nx.cell (o:=.tdict _) S.4 f I (gP _ j z1 z2 (AV P C)) _⟩
theorem PQ{Q:bY}{R:Unit->Shared->Prop}(q:lN [x,y] m λ_ m=>Q m)(Φ:Ar d A fs)(S:b_ B fs m μ s)(T:aj B.N μ s.heap x W)(I:aj B.N μ s.heap y X)
 (H:∀m' s',Q m'->Nx B No μ s m' μ s'->R () s'):wpAny (model B.prog B.w) A (delItem W X) R E s:=by
 refine gt q T λn a i z=>z.k λG q=>?_;clear z;rename_i o
 cases o with
 |idict l=>
  refine cQ q I λk t z=>cB z λx e hz F=>?_;clear z;refine cB (S.4.3 _ _ _ i G) λkvs g f r=>ac (CL f r e) λv L Ω=>wpAny_delItem_slot g.typeIs (by decide) PySem.F.slot_dict_delitem (call_meetsIn PySem.F.slot_dict_delitem g.typeIs PySem.F.entry_dict_delitem (PySem.F.args_dict_delitem_2 _ _) (meets_dict_delitem_pairs _ a (k:=k) (by simp[intKind,Value.isInt]))
   ⟨_,g,(Z (sN f)<|aF hz),(by refine Z L ?_;rfl),(λh' h u=>?_)⟩)
  exact have c:=zc k f (r.stay (S.4.stillBut i u));H _ _ F (Nx.cell (o:=.idict _) S.4 i u (b6 _ h c.1 c.2) _)
 |tdict l=>
  refine CY (lx q) λt C k x M e hz F=>?_;clear q;subst C;refine cB (pF (prog:=B.prog) (w:=B.w) M I) λY D j N=>?_;subst D
  exact ir (S.4.3 _ _ _ i G) λxs g f r P=>ac ((oL k f r).2 x e) λp ep Ω=>wpAny_delItem_slot g.typeIs (by decide) PySem.F.slot_dict_delitem (call_meetsIn PySem.F.slot_dict_delitem g.typeIs PySem.F.entry_dict_delitem (PySem.F.args_dict_delitem_2 _ _) L8
   ⟨Φ.line1,k,xs,p,j,g,Z (sN f)<|aF hz,ep,λh' h u=>have c:=El k f (r.stay (S.4.stillBut i u));H _ _ F (Nx.cell (o:=.tdict _) S.4 i u (gP _ h c.1 c.2 (Ac P)) _)⟩)
 |_=>exact q.elim
theorem Po{o i:Expr}(h1:a7 B sc d o D1)(g:a7 B sc d i D2):fJ B sc d (.Delete [.Subscript o i p] pos) λJ m Q=>D1 J m λx m=>D2 J m λy m=>lN [x,y] m λ_ m=>Q .next J m:=by intro J m Q q A fs U μ s E b S;refine wpAny_Delete (wpAny_deleteEach_cons (wpAny_delete_Subscript (mo (h1 J m _ q A fs _ μ s E b S) (λr s1 k=>?_))));obtain⟨x,m1,μ1,q1,h,a⟩:=k;exact g.go q1 b (S.next a) λt s2 y n l q2 j c=>have e:=(S.next a).next c;PQ q2 b e.1 (h.nx a.1 c) j λm' s' q3 f=>wpAny_deleteEach_nil ⟨.next,J,m',_,q3,rfl,e.next f,((a.trans c).trans f).mono cG⟩
theorem IS{b n:Nat}{Q:Int×Int×Nat->Shared->Prop}(hs:s.heap.IsSliceOf g .none (.int b u) .none)(i:b<=n)(h:Q (0,1,b) s):
 wpAny (model prog w) A (Builtin.Slice.sliceApplied (.ref g) (pure n)) Q E s:=by
 refine fv (id hs) λos c f a=>f7 (wpAny_field c a (x:=.none) rfl (fg c a (x:=.int b u) rfl (fg c a (x:=.none) rfl (aD (ag (slicePart_none (ag (slicePart_none (ag (slicePart_int (eQ ?_)))))))))));have d:Builtin.Slice.sliceAdjust none (some b) 1 n=(0,(b:Int)):=by
  unfold Builtin.Slice.sliceAdjust
  congr 1
  lia
 have e:Builtin.Slice.slicePlaces 0 b 1=b:=by
  unfold Builtin.Slice.slicePlaces;simp only[(by trivial:(1:Int)>0),if_true,Int.ediv_one]
  split<;>lia
 exact Z d<|((Z e (aD h)):wpAny _ _ (pure ((0:Int),(1:Int),Builtin.Slice.slicePlaces 0 b 1)) _ _ s)
theorem Kq(xs:Array Value) b(c:b<=xs.size):((List.range b).filterMap λ(k:Nat)=>xs[(0+(k:Int)*1).toNat]?).toArray=(xs.toList.take b).toArray:=by
 have:=pick_run xs 0 b;rw[List.filterMap_map,List.drop_zero]at this
 have e:((λx=>xs[x]?)∘λx=>0+x)=λ(k:Nat)=>xs[(0+(k:Int)*1).toNat]?:=by
  funext k
  simp only[Function.comp_apply];exact have:(0+(k:Int)*1).toNat=0+k:=Nat.add_comm _ _;Z this rfl
 rw[e]at this;exact bg _ this
theorem NH{t i:Addr}{b:Nat}{Q:bL}(c:IsTup s.heap t items)(hs:s.heap.IsSliceOf i .none (.int b u) .none)(d:b<items.size)
 (h:Q (.ref s.heap.objs.size) {s with heap:=s.heap.push {cls:=.type "tuple",data:=.seq (items.toList.take b).toArray}})
 (hsz:items.size<=sizeLine):wpAny (model prog w) A (getItem (.ref t) (.ref i)) Q E s:=by
 have a:=((Z List.size_toArray (Z qX pP)):(items.toList.take b).toArray.size<=sizeLine);refine fv (id hs) λos g e j=>?_;unfold getItem
 try with_reducible refine eJ ?_
 refine ag (wpAny_sequenceKey c.typeIs rfl ?_);refine ag (mx c.typeIs slot_tuple_getitem
  (gV slot_tuple_getitem c.typeIs entry_tuple_getitem ?_ (args_tuple_getitem _ _)))
 refine((ag (tupleItemsOf_ c ?_)):wpAny _ _ _ _ _ s);refine qH ((ad os g e))<|ag (IS hs (eU d) ?_);have f:¬(((0:Int)==0&&(1:Int)==1&&b==items.size)=true):=by
  have:(b==items.size)=false:=by rewrite[beq_eq_false_iff_ne];exact bI d
  refine Z this ?_;trivial
 refine((Z (ai f) ?_):wpAny _ _ (if((0:Int)==0&&(1:Int)==1&&b==items.size)=true then _ else _) _ _ s);refine Z (Kq _ b (eU d)) ?_
 first
  |exact ag (kg (aD (ad _ rfl (aD h))) a)
  |exact ag _
  |exact f7 _
theorem IQ items(b:Nat):slicePick items none (some b) none=(items.toList.take b).toArray:=by
 by_cases a:b<=items.size
 ·exact slicePick_upto _ b a
 ·have e:slicePick items none (some b) none=slicePick items none (some items.size) none:=by
   unfold slicePick sliceBounds;simp only[Option.getD_none,(by lia:¬(items.size<0)),if_false,(by decide:1>0),if_true]
   have:max 0 (min (b:Int) items.size)=max 0 (min (items.size:Int) items.size):=by lia
   exact Z this rfl
  exact Z e<|Z (slicePick_upto _ _ (aT _))<|Z (List.take_of_length_le (aT _))<|Z (List.take_of_length_le (by simp;exact aE (Nat.lt_of_not_le a))) rfl
theorem Fn{g:Type}(p:Nat->Bool) a:∀(l:List g) i,(∀k,k<i+l.length->p k=decide (a<=k))->(l.zipIdx i).filterMap (λx=>if p x.2=true then none else some x.1)=l.take (a-i):=by
 intro l
 induction l with
 |nil=>exact@λ_ _=>by simp
 |cons x r c=>
  refine λi e=>Z List.filterMap_cons ?_;have c:=c (i+1) (λk f=>e k (Z bU<|aE f));have b:=e i (Z bU fT)
  by_cases q:a<=i
  ·have d:p i=true:=Z b<|fc q
   simp only[d,if_true];exact Z c<|Z (show a-(i+1)=0 by exact J2)<|Z (show a-i=0 by exact BD)<|Z List.take_zero rfl
  ·have d:p i=false:=Z b<|gE q
   simp only[d,Bool.false_eq_true,if_false];exact Z c<|Z (show a-i=(a-(i+1))+1 by exact J1)<|Z List.take_succ_cons rfl
theorem Km{l:Addr}{x y:Array Value}(e:x=y)(p:h.PlainList l x):h.PlainList l y:=e▸p
theorem PR{l h:Addr}{n a:Nat}{Q:Unit->Shared->Prop}(g:s.heap.get? l=some {cls:=.type "list",dict:=none,data:=.seq items n,slots:=#[]})(hs:s.heap.IsSliceOf h (.int a u) .none .none)(o:a<=items.size)
 (j:∀h',h'.PlainList l (items.toList.take a).toArray->Heap.SameBut l s.heap h'->Q () {s with heap:=h'})(hsz:items.size<=sizeLine):wpAny (model prog w) A (delItem (.ref l) (.ref h)) Q E s:=by
 refine fv (id hs) λos c f d=>wpAny_delItem_slot (ad _ g rfl) rfl PySem.F.slot_list_delitem (gV PySem.F.slot_list_delitem (ad _ g rfl) PySem.F.entry_list_delitem (((ag (ag (wpAny_specialOf (ad os c f) slice_no_index (aD ?_)))):wpAny _ _ (Builtin.List.listSubscript? (.ref h)>>=_) _ _ s)) (PySem.F.args_list_delitem_2 _ _));refine qH (ad os c f)<|Z (listSliceParts_eq ..)<|f7 (wpAny_field c d (x:=.none) rfl (ag (wpAny_listPart .none (fg c d (x:=.int a u) rfl (ag (wpAny_listPart (.int a u) (fg c d (x:=.none) rfl (ag (wpAny_listPart .none (aD (ag (lQ g rfl (aD (iw (sliceIndices_raw _ _ _ _ (by trivial)) ?_))))))))))))))
 have i:sliceBounds (some a) none none items.size=((a:Int),(items.size:Int),1):=by
  unfold sliceBounds;have h1:¬((a:Int)<0):=by lia
  simp only[h1,if_false];have:max 0 (min (a:Int) items.size)=a:=by lia
  refine Z this ?_;rfl
 refine Z i<|jW (ag ?_)
 have e:(List.filterMap (λx:Value×Nat=>if(if(1:Int)>0 then decide _&&decide _&&((x.2-(a:Int))%1==0)else decide _&&decide _&&((a-(x.2:Int))%-1==0))=true then none else some _) _).toArray=(items.toList.take a).toArray:=have:=Fn (λk=>(if 1>0 then decide (a<=(k:Int))&&decide (k<(items.size:Int))&&((k-(a:Int))%1==0)else decide (items.size<(k:Int))&&decide (k<=(a:Int))&&((a-(k:Int))%-1==0))) a _ 0 (λk m=>by rw[mh]at m;simp[(by lia:k<items.size)]);bg _ this
 refine wpAny_updateSeq g rfl (_hz':=?_) ?_
 ·exact ag (wpAny_letGo (aD (ad _ rfl (j _ (Km e ((r0 g _).1)) (iZ ..)))))
 ·exact aC (aA (bg _ e))<|Z List.size_toArray<|Z qX pP
def sS(x y:V)(m:av)(Q:aS):Prop:=df y λa=>ly x (λl=>dQ (1<=a) (a<=l.length) (l.length<=10000) (Q (.tup (l.drop a.toNat)) m))
 λn=>∃l,gU (m[n]?=some (.list l)) (0<=a) (a<=l.length) (l.length<=10000) (Q (.loc m.length) (m++[.list (l.drop a.toNat)]))
def mM(m:av)(n:Nat)(l:List V):Prop:=m[n]?=some (.list l)\/∃ob,m[n]?=some (.fix ob l)
theorem bw.listAt(M:bw B.prog B.w B.N μ m s.heap)(c:μ[n]?=some a)(e:mM m n l):∃items,s.heap.IsList a items/\aq B.N μ s.heap l items.toList:=by
 rcases e with e|⟨ob,e⟩
 ·exact M.list c e
 ·exact(M.3 n a _ c e).2
def rQ(x y:V)(m:av)(Q:aS):Prop:=df y λb=>ly x (λl=>dQ (0<=b) (b<l.length) (l.length<=10000) (Q (.tup (l.take b.toNat)) m))
 λn=>∃l,dQ (mM m n l) (0<=b) (l.length<=10000) (Q (.loc m.length) (m++[.list (l.take b.toNat)]))
theorem rZ(M:bw B.prog B.w B.N μ m s.heap):Nx B No μ s m μ {s with heap:=s.heap.push o}:=Nx.of_keep M (λb a e=>bj _ e) rfl rfl
theorem Jc(M:bw B.prog B.w B.N μ m s.heap)(r:aj B.N μ s.heap x v)(q:(∃l,x=.tup l)\/aV λn l=>x=.loc n/\mM m n l):s.TypeIs v "tuple"\/s.TypeIs v "list":=by
 rcases q with⟨l,rfl⟩|⟨n,l,rfl,e⟩
 ·obtain⟨a,items,rfl,f,_⟩:=r.tup_inv
  exact .inl f.typeIs
 ·exact ac r.loc_inv λa b c=>Z b<|ac (M.listAt c e) λitems d _=>.inr d.typeIs
theorem NL{v w:Value}(M:bw B.prog B.w B.N μ m s.heap)(q:sS x y m Q)(z:aj B.N μ s.heap x v)(C:aj B.N μ s.heap y w):
 wpAny (model B.prog B.w) A (getItem v (.ref s.heap.objs.size)) (ds B μ {s with heap:=s.heap.push {cls:=.type "slice",data:=.fields #[w,.none,.none]}} Q) E {s with heap:=s.heap.push {cls:=.type "slice",data:=.fields #[w,.none,.none]}}:=by
 have f:∀o,Nx B No μ s m μ {s with heap:=s.heap.push o}:=λo=>rZ M;refine cQ q C λa t q=>nM q z (λl D items u b F d=>?_) λn D i d=>?_
 ·refine yz d λh1 h hz q=>?_;clear d;obtain⟨k,rfl⟩:=Int.eq_ofNat_of_zero_le (show 0<=a by lia)
  have c:=f {cls:=.type "slice",data:=.fields #[.int k t,.none,.none]};have j:=b.size;refine getItem_tuple_from (let⟨o,p,r⟩:=u;(ad o (bj _ p) r)) (Heap.IsSliceOf.new ..) JV (by lia) ?_ (b.fits hz)
  refine mP c.1 ((b.nx M c).drop k) rfl ?_
  assumption
 ·obtain⟨l,g,h1,h,hz,q⟩:=d;obtain⟨k,rfl⟩:=Int.eq_ofNat_of_zero_le h1
  have c:=f {cls:=.type "slice",data:=.fields #[.int k t,.none,.none]};refine ac (c.1.list i g) λitems e b=>?_;have j:=b.size;refine wpAny_getItem_list_slice e (Heap.IsSliceOf.new ..) (.int k t) .none .none (by trivial) (Z (slicePick_from _ k (by lia)) (vB c.1 (b.drop k) rfl ?_)) (b.fits hz)
  assumption
theorem GV{v w:Value}(M:bw B.prog B.w B.N μ m s.heap)(q:rQ x y m Q)(z:aj B.N μ s.heap x v)(C:aj B.N μ s.heap y w):
 wpAny (model B.prog B.w) A (getItem v (.ref s.heap.objs.size)) (ds B μ {s with heap:=s.heap.push {cls:=.type "slice",data:=.fields #[.none,w,.none]}} Q) E {s with heap:=s.heap.push {cls:=.type "slice",data:=.fields #[.none,w,.none]}}:=by
 have h:∀o,Nx B No μ s m μ {s with heap:=s.heap.push o}:=λo=>rZ M;refine cQ q C λa t q=>nM q z (λl D items u b H d=>?_) λn D j d=>?_
 ·refine yz d λh1 F hz q=>?_;clear d;refine aI (Int.eq_ofNat_of_zero_le h1) λk e=>?_;clear h1;subst e
  have c:=h {cls:=.type "slice",data:=.fields #[.none,.int k t,.none]};have G:=b.size;refine NH (let⟨o,p,r⟩:=u;(ad o (bj _ p) r)) (Heap.IsSliceOf.new ..) (by lia) ?_ (b.fits hz)
  refine mP c.1 ((b.nx M c).take k) rfl ?_
  assumption
 ·refine ir d λl i h1 hz q=>?_;clear d;refine aI (Int.eq_ofNat_of_zero_le h1) λk f=>?_;subst f
  have c:=h {cls:=.type "slice",data:=.fields #[.none,.int k t,.none]};refine ac (c.1.listAt j i) λitems g b=>wpAny_getItem_list_slice g (Heap.IsSliceOf.new ..) .none (.int k t) .none (by trivial) (Z (IQ _ k) (vB c.1 (b.take k) rfl ?_)) (b.fits hz)
  assumption
theorem BV{T:List V->Prop}{P:Nat->Prop}(q:ly x T P)(h:∀n,P n->∃l,mM m n l):(∃l,x=.tup l)\/aV λn l=>x=.loc n/\mM m n l:=by
 cases x with
 |tup l=>exact .inl ⟨l,rfl⟩
 |loc n=>obtain⟨l,e⟩:=h n q;exact .inr (cP n l rfl e)
 |_=>exact q.elim
theorem NM(q:sS x y m Q):(∃l,x=.tup l)\/aV λn l=>x=.loc n/\mM m n l:=ac (xW q) λa _ q=>BV q λn b=>(by refine aI b λl e=>?_;clear b;exact⟨l,.inl e.1⟩)
theorem GW(q:rQ x y m Q):(∃l,x=.tup l)\/aV λn l=>x=.loc n/\mM m n l:=ac (xW q) λa _ q=>BV q λn b=>(by refine aI b λl e=>?_;clear b;exact⟨l,e.1⟩)
theorem TypeIs.push{T:String}(x:s.TypeIs v T):Shared.TypeIs {s with heap:=s.heap.push o} v T:=by
 cases v with
 |ref a=>refine ac x λob e r=>?_;clear x;exact(ad ob (bj _ e) r)
 |_=>exact x
theorem Bo{v i:Value}{R:bL}(M:bw B.prog B.w B.N μ m s.heap)(r:aj B.N μ s.heap x v)(q:(∃l,x=.tup l)\/aV λn l=>x=.loc n/\mM m n l)
 (c:wpAny (model B.prog B.w) A (getItem v i) R E s)(hs:subscripted slice false v i=operate ops (getItem v i)):wpAny (model B.prog B.w) A (subscriptTail value slice v i) R E s:=by
 rcases Jc M r q with b|b
 ·exact tail_any b slot_tuple_getitem.lookup c hs
 ·exact tail_any b slot_list_getitem.lookup c hs
theorem OQ(h1:a7 B sc d value D1)(j:a7 B sc d e D2):a7 B sc d (.Subscript value (.Slice (some e) none none r) p) λJ m Q=>D1 J m λx m=>D2 J m λy m=>sS x y m Q:=by intro J m Q q A fs U μ s E a S;refine Subscript_ (mo (h1 J m _ q A fs _ μ s E a S) (λt s1 i=>?_));obtain⟨x,m1,μ1,q1,l,g⟩:=i;refine wpAny_Slice (mo (j J m1 _ q1 A fs _ μ1 s1 E a (S.next g)) (λo s2 i=>?_));obtain⟨y,k,f,q2,n,b⟩:=i;refine aD (aD ?_);have c:=l.nx g.1 b;have h:Nx B No f s2 k f {s2 with heap:=s2.heap.push {cls:=.type "slice",data:=.fields #[o,.none,.none]}}:=rZ b.1;refine Bo h.1 (c.nx b.1 h) (NM q2) (mo (NL b.1 q2 c n) (λ_ _ p=>((p.step h).step b).step g)) rfl
theorem OD(h1:a7 B sc d value D1)(j:a7 B sc d e D2):a7 B sc d (.Subscript value (.Slice none (some e) none r) p) λJ m Q=>D1 J m λx m=>D2 J m λy m=>rQ x y m Q:=by intro J m Q q A fs U μ s E a S;refine Subscript_ (mo (h1 J m _ q A fs _ μ s E a S) (λt s1 i=>?_));obtain⟨x,m1,μ1,q1,l,g⟩:=i;refine wpAny_Slice (aD (mo (j J m1 _ q1 A fs _ μ1 s1 E a (S.next g)) (λo s2 i=>?_)));obtain⟨y,k,f,q2,n,b⟩:=i;refine aD ?_;have c:=l.nx g.1 b;have h:Nx B No f s2 k f {s2 with heap:=s2.heap.push {cls:=.type "slice",data:=.fields #[.none,o,.none]}}:=rZ b.1;refine Bo h.1 (c.nx b.1 h) (GW q2) (mo (GV b.1 q2 c n) (λ_ _ p=>((p.step h).step b).step g)) rfl
def zb(x y:V)(m:av)(Q:bY):Prop:=gp x λn=>df y λa=>∃l,gU (m[n]?=some (.list l)) (0<=a) (a<=l.length) (l.length<=10000) (Q (m.set n (.list (l.take a.toNat))))
theorem Pp{o e:Expr}(h1:a7 B sc d o D1)(w:a7 B sc d e D2):fJ B sc d (.Delete [.Subscript o (.Slice (some e) none none p') p] pos) λJ m Q=>D1 J m λx m=>D2 J m λy m=>zb x y m λm=>Q .next J m:=by
 intro J m Q q A fs U μ s E v S;refine wpAny_Delete (wpAny_deleteEach_cons (wpAny_delete_Subscript (mo (h1 J m _ q A fs _ μ s E v S) (λT s1 g=>?_))));obtain⟨x,m1,μ1,q1,L,h⟩:=g;refine wpAny_Slice (mo (w J m1 _ q1 A fs _ μ1 s1 E v (S.next h)) (λΩ s2 g=>?_));obtain⟨y,Φ,b,q2,M,i⟩:=g;refine aD (aD (gt q2 (L.nx h.1 i) λn R r q2=>cQ q2 M λa t g=>?_));obtain⟨l,G,h1,w,hz,q2⟩:=g;have f:Nx B No b s2 Φ b {s2 with heap:=s2.heap.push {cls:=.type "slice",data:=.fields #[.int a t,.none,.none]}}:=rZ i.1;have F:=((S.next h).next i).next f;refine ac (f.1.plain r G) λitems D u=>aI D λc H=>?_;clear D;have N:=u.size;refine aI (Int.eq_ofNat_of_zero_le h1) λk j=>?_;clear h1;subst j;refine PR H (Heap.IsSliceOf.new ..) (by lia) (λh' I C=>?_) (u.fits hz)
 have z:Nx B No b _ _ b {s2 with heap:=h'}:=Nx.cell (o:=.list _) (tk:=s2.toks) f.1 r C (ad _ I ((u.stay (f.1.stillBut r C)).take k));refine wpAny_deleteEach_nil ⟨.next,J,_,_,?_,rfl,F.next z,(((h.trans i).trans f).trans z).mono cG⟩
 assumption
def f6(cells:List (Str×Addr)):List (Str×NameKind)->List (Str×Addr)->List (Str×Addr)
 |[],acc=>acc
 |(n,k)::r,acc=>if k==.free then f6 cells r ((n,(cells.lookup n).getD 0)::acc)else f6 cells r acc
theorem vI cells n k r acc:f6 cells ((n,k)::r) acc=if k==.free then f6 cells r ((n,(cells.lookup n).getD 0)::acc)else f6 cells r acc:=rfl
def zl(sc:Scope)(p:(Str×NameKind)×Option Nat):Bool:=match p.1.2,p.2 with
 | .free,some i=>sc.names[i]?==some (p.1.1,.cell)
 | .free,none=>false
 | .cell,_=>false
 |_,none=>true
 |_,some _=>false
def ff(sc scope:Scope)(cap:List (Option Nat)):Bool:=cap.length==scope.names.length&&(scope.names.zip cap).all (zl sc)
def hH(J:bh)(cap:List (Option Nat)):bh:=cap.map λo=>o.bind λi=>(J[i]?).getD none
theorem Ex{M:Model}{Q:List (Str×Addr)->Shared->Prop}(h:∀x,(x,NameKind.free)∈scope.names->(U.cells.lookup x).isSome=true):closureFor scope U=pure (f6 U.cells scope.names []):=by
 have e:∀names acc,(∀x,(x,NameKind.free)∈names->(U.cells.lookup x).isSome=true)->
  (forIn names acc λp cs=>(if p.2==NameKind.free then(do let c<-cellOf U p.1;pure (ForInStep.yield ((p.1,c)::cs)))else pure (ForInStep.yield cs):Sem _))=pure (f6 U.cells names acc):=by
  intro names
  induction names with
  |nil=>intro acc _;rfl
  |cons p r g=>
   intro acc b;obtain⟨n,k⟩:=p;refine Z (List.forIn_cons ..)<|Z (vI ..) ?_
   by_cases f:(k==NameKind.free)=true
   ·have:k=.free:=fA.mp f
    subst this;obtain⟨c,a⟩:=lU.mp (b n aQ);simp only[(by unfold cellOf;exact Z a rfl:cellOf _ n=pure c),a,Option.getD_some]
    exact g _ λx d=>b x (az _ d)
   ·simp only[f]
    exact g _ λx d=>b x (az _ d)
 have:=e _ [] h;unfold closureFor;simp only[bind_pure]
 first|exact this|(rfl)|skip
theorem zg:∀{names:List (Str×NameKind)}{acc:List (Str×Addr)}{x:Str}{c:Addr},(∀x,(x,NameKind.free)∈names->(cells.lookup x).isSome=true)->(∀x c,acc.lookup x=some c->cells.lookup x=some c)->
 (f6 cells names acc).lookup x=some c->cells.lookup x=some c:=by
 intro names
 induction names with
 |nil=>exact@λ_ _ _ _ a e=>a _ _ e
 |cons l r i=>
  obtain⟨n,k⟩:=l;intro acc x c g a e;rw[vI]at e;have h:=λy j=>g y (az _ j)
  by_cases f:(k==NameKind.free)=true
  ·rw[ao f]at e
   have:k=.free:=fA.mp f;subst this;obtain⟨m,b⟩:=lU.mp (g n aQ);refine i h (λy d q=>?_) e;rw[fk]at q
   split at q
   ·rename_i z;refine Z (fA.mp z)<|Z q.symm<|Z b ?_;rfl
   ·exact a y d q
  ·rw[ai f]at e
   exact i h a e
theorem Qh{x:Str}:∀{names:List (Str×NameKind)}{acc:List (Str×Addr)},(acc.lookup x).isSome=true->((f6 cells names acc).lookup x).isSome=true:=by
 intro names
 induction names with
 |nil=>exact@λ_ e=>e
 |cons b r a=>
  obtain⟨n,k⟩:=b;intro acc e;refine Z (vI ..) ?_
  split
  ·refine a<|Z fk ?_
   split
   ·rfl
   ·exact e
  ·exact a e
theorem Qg{x:Str}:∀{names:List (Str×NameKind)}{acc:List (Str×Addr)},(x,NameKind.free)∈names->((f6 cells names acc).lookup x).isSome=true:=by
 intro names
 induction names with
 |nil=>exact λe=>bx e
 |cons p r a=>
  intro acc e;obtain⟨n,k⟩:=p;refine Z (vI ..) ?_;rcases bK.mp e with e|e
  ·refine Z ((ji e).1)<|Z ((ji e).2).symm<|Qh<|Z fk<|Z (oK ..) ?_;rfl
  ·split
   ·exact a e
   ·exact a e
theorem Bw{x:Str}(names:List (Str×NameKind)):
 (names.map λ(n,k)=>if(k==NameKind.free&&U.scope.kind==.function&&U.kindOf n==some .cell)then(n,NameKind.cell)else(n,k)).lookup x=(names.lookup x).map λk=>if(k==NameKind.free&&U.scope.kind==.function&&U.kindOf x==some .cell)then NameKind.cell else k:=by
 induction names with
 |nil=>rfl
 |cons p r b=>
  have e:(if(p.2==NameKind.free&&U.scope.kind==.function&&U.kindOf p.1==some .cell)=true then(p.1,NameKind.cell)else(p.1,p.2))=(p.1,if(p.2==NameKind.free&&U.scope.kind==.function&&U.kindOf p.1==some .cell)=true then NameKind.cell else p.2):=by cases p.2==NameKind.free&&U.scope.kind==.function&&U.kindOf _==some _<;>rfl
  refine((Z e (Z fk ?_)):List.lookup x ((if(p.2==NameKind.free&&U.scope.kind==.function&&U.kindOf _==some _)=true then(p.1,NameKind.cell)else(p.1,p.2))::_)=_);refine Z fk<|Z b ?_
  cases a:x==p.1 with
  |true=>refine Z (eq_of_beq a) ?_;rfl
  |false=>rfl
theorem Bv{x:Str}(a:k≠.free)(e:names.lookup x=some k):
 (names.map λ(n,k)=>if(k==NameKind.free&&U.scope.kind==.function&&U.kindOf n==some .cell)then(n,NameKind.cell)else(n,k)).lookup x=some k:=by
 refine Z (Bw ..)<|Z e<|Z (Option.map_some ..)<|Z (beq_eq_false_iff_ne.mpr a) ?_;rfl
theorem Jv{x:Str}(b:U.scope.kind=.function)(a:U.kindOf x=some .cell)(e:names.lookup x=some .free):
 (names.map λ(n,k)=>if(k==NameKind.free&&U.scope.kind==.function&&U.kindOf n==some .cell)then(n,NameKind.cell)else(n,k)).lookup x=some .cell:=by
 refine Z (Bw ..)<|Z e<|Z b<|Z a ?_;rfl
theorem EC(a:ff sc scope cap=true){p:Str×NameKind}{c:Option Nat}(e:scope.names[j]?=some p)(q:cap[j]?=some c):zl sc (p,c)=true:=
 jv.mp (bW.mp a).2 _ (bN (List.getElem?_zip_eq_some.mpr ⟨e,q⟩))
theorem EA(a:ff sc scope cap=true):cap.length=scope.names.length:=fA.mp (bW.mp a).1
theorem EB(a:ff sc scope cap=true){p:Str×NameKind}(e:scope.names[j]?=some p):∃c,cap[j]?=some c/\zl sc (p,c)=true:=
 have q:=bJ ((EA a).symm▸(bV.mp e).1)
 ⟨_,q,EC a e q⟩
theorem zk(a:ff sc scope cap=true){x:Str}(e:scope.names[j]?=some (x,.free)):∃i,cap[j]?=some (some i)/\sc.names[i]?=some (x,.cell):=
 ac (EB a e) λc q t=>by cases c with|none=>exact aR t|some i=>exact⟨i,q,fA.mp t⟩
theorem Qp(b:ff sc scope cap=true)(e:cap[j]?=some (some i)):∃x,scope.names[j]?=some (x,.free)/\sc.names[i]?=some (x,.cell):=by
 have a:=bJ (EA b▸(bV.mp e).1);have t:=EC b a e
 revert a t
 generalize scope.names[j]'_=p;intro a t;obtain⟨x,k⟩:=p
 cases k with
 |free=>exact⟨x,a,fA.mp t⟩
 |_=>exact aR t
theorem oI(d:ff sc scope cap=true):∀p∈scope.names,p.2≠.cell:=λp a e=>by refine aI (qW.mp a) λj b=>ac (EB d b) λc _ t=>?_;obtain⟨x,k⟩:=p;clear a;subst e;exact aR t
def nr(B:bB)(sc:Scope)(d:Nat)(ifs:List Expr)(D:DB):Prop:=
 ∀J m Q,D J m Q->∀A fs U μ s E,Ar d A fs->St B sc fs U J m μ s->
  wpAny (model B.prog B.w) A (forIn ifs true λc r=>if r=true then do let ok<-isTrue c U (eval c U);pure (ForInStep.yield ok)else pure (ForInStep.yield r)) (nu B μ s Q) E s
def cR(T:DT)(src:bY)(Dt:DB)(De:DE):List V->List V->bh->av->cD->Prop
 |[],acc,_,m,Q=>src m/\Q acc m
 |x::r,acc,J,m,Q=>src m/\T x J m λJ m=>Dt J m λb m=>if b then De J m λv m=>acc.length<=10000/\cR T src Dt De r (acc++[v]) J m Q else cR T src Dt De r acc J m Q
section
variable{own:Addr->Prop}
theorem Eh:nr B sc d [] λ_ m Q=>Q true m:=by intro J m Q q A fs U μ s E a S;exact wpAny_tests_nil ⟨m,μ,q,Nx.refl S.1.4⟩
theorem Pv{c:Expr}{D:DB}(h1:dg B sc d c D):nr B sc d [c] D:=λJ m Q q A fs U μ s E a S=>wpAny_tests_one (h1 J m Q q A fs _ μ s E a S)
theorem Er(S:St B sc fs U J m μ s)(h:ff sc scope cap=true)(t:fq scope=true)(p:scope.kind=.function)
 (D:h1.Ns C λ_=>none)(kp:∀b o,s.heap.get? b=some o->h1.get? b=some o)(G:s.heap.get? C=none):
 St B scope fs (compEnvC scope (f6 U.cells scope.names []) C U) (hH J cap) m μ {s with heap:=h1,toks:=tk}:=by
 have F:=S.2;have L:Nx B No μ s m μ {s with heap:=h1,toks:=tk}:=Nx.of_keep S.1.4 kp rfl rfl;have d:∀x,(x,NameKind.free)∈scope.names->U.kindOf x=some _/\(U.cells.lookup x).isSome=true:=λx f=>aI (qW.mp f) λj T=>ac (zk h T) λi _ u=>have I:=cW (de F.8) u;bS (F.11 x I) λc _ A _=>⟨F.6 x I,by refine Z A ?_;rfl⟩
 have sub:∀x c,(f6 _ _ []).lookup x=some c->U.cells.lookup x=some c:=λx c e=>zg (λx f=>(d x f).2) (λ_ _ q=>by exact aN q) e
 have a:∀c k,s.heap.IsCell c k->h1.IsCell c k:=λc k M=>(by refine ac M λo Ω R=>?_;clear M;exact(ad o (kp c o Ω) R))
 refine⟨(S.next L).1,(⟨p,F.2,F.3,(λx e=>Bv (by decide) e),(λx e=>Bv (by decide) e),(λx e=>absurd rfl (oI h _ (fU e))),(λx y c g Q=>F.7 x y c (sub x c g) (sub y c Q)),t,?_,⟨_,D⟩,(λx e=>absurd rfl (oI h _ (fU e))),(λx c e=>?_),S.1.4.new_not G,(λx c e=>F.14 x c (sub x c e)),(λj v e=>?_)⟩),(S.h0own G),λx c e _=>absurd rfl (oI h _ (fU e))⟩
 ·exact have:=fA.mp (bW.mp h).1;Z aY<|Z this rfl
 ·exact aI (F.12 x c (sub x c e)) λk E=>⟨k,a c k E⟩
 ·unfold hH at e
  rw[eX]at e
  cases q:cap[j]? with
  |none=>rw[q]at e;exact aN e
  |some o=>
   rw[q]at e
   cases o with
   |none=>exact aN (aG e)
   |some i=>
    simp only[Option.map_some,Option.bind_some,Option.some.injEq]at e;refine ac (Qp h q) λx f u=>?_;have P:J[i]?=some (some v):=by
     cases z:J[i]? with
     |none=>rw[z]at e;exact aN e
     |some y=>rw[z]at e;exact bg _ e
    refine g_ (F.15 i v P) λY X W g l r=>?_;rw[u]at g;replace g:=ji (aG g);obtain⟨rfl,rfl⟩:=g;have H:=F.6 x (cW (de F.8) u);refine⟨x,.free,W,f,?_,r.nx S.1.4 L⟩;rcases l with⟨Φ,_⟩|⟨_,c,A,E⟩
    ·rw[H]at Φ;exact oq PySem.NameKind.ctorIdx Φ rfl
    ·refine .inr ⟨.inl (Jv F.1 H (cW (de t) f)),c,(aI (lU.mp (Qg (cells:=U.cells) (acc:=[]) (bN f))) λN n=>?_),a c _ E⟩
     have:=sub x N n;rw[A]at this;replace this:=aG this;exact Z this n
theorem P_(I:Nat->Shared->Prop)
 (u:∀n s,I n s->wpAny (model prog w) A (pyNext it) (λr b=>match r with
  |none=>R (.ok .next) b
  |some v=>wpAny (model prog w) A (letOwnedTupleGo target it v) (λ_ d=>wpAny (model prog w) A (assign target U v) (λ_ j=>
   wpAny (model prog w) A (forIn ifs true λc r=>if r=true then do let ok<-isTrue c U (eval c U);pure (ForInStep.yield ok)else pure (ForInStep.yield r)) (λok f=>
    if ok=true then wpAny (model prog w) A (eval elt U) (λx k=>wpAny (model prog w) A (call (.builtin "list.append") [acc,x]) (λ_ l=>∃m,m<n/\I m l) (notedBy (model prog w) A U λe s'=>R (.error e) s') k) (notedBy (model prog w) A U λe s'=>R (.error e) s') f
    else∃m,m<n/\I m f) (notedBy (model prog w) A U λe s'=>R (.error e) s') j) (notedBy (model prog w) A U λe s'=>R (.error e) s') d) (notedBy (model prog w) A U λe s'=>R (.error e) s') b) (notedBy (model prog w) A U λe s'=>R (.error e) s') s)
 n(h:I n s):
 codeAny (model prog w) A (.compLoop (.ListComp elt [⟨target,z,ifs,0⟩] scope pos) 0 it acc U) R s:=by
 refine codeAny_loop rfl I (λn s B=>(?_:wpAny _ A ((compTurn _ 0 it _ _).onRaise (λx=>do noteFrame x _;theTreesLotGoes x)) _ _ s)) n h
 refine wpAny_noted<|Z (compTurn_list ..)<|gR (ag (mo (u n s B) (λr b g=>?_)))
 cases r with
 |none=>exact aD g
 |some v=>
  refine ag (mo g (λ_ d o=>ag (mo o (λ_ j p=>ag (wpAny_mono p (λok f i=>?_) λ_ _ h'=>h')))))
  cases ok with
  |false=>exact aD ⟨rfl,i⟩
  |true=>exact f7 (mo i (λx k q=>ag (wpAny_mono q (λ_ l t=>aD (aD ⟨rfl,t⟩)) λ_ _ h'=>h')))
inductive oO(D:Addr)(s:Shared)(h':Heap):Prop
 |mk(sb:Heap.SameBut D s.heap h')(old:∀o,s.heap.get? D=some o->¬dv o)(nd:∀o,s.heap.get? D=some o->d9 o->∃o',h'.get? D=some o'/\d9 o')(new:∃o,h'.get? D=some o/\∀vs,o.data≠.fields vs)
theorem oO.still{D:Addr}{tk:Nat}(x:oO D s h'):dA μ s.heap h':=λb o e q _=>(x.1.2 b (λz=>by subst z;exact x.2 o e q)).trans e
theorem b_.side{D:Addr}(S:b_ B fs m μ s)(x:oO D s h')(a:D∉μ)(g:B.h0.get? D=none):b_ B fs m μ {s with heap:=h',toks:=tk}:=by
 refine⟨λb o e=>(x.1.2 b (λz=>by subst z;rw[g]at e;exact aN e)).trans (S.1 b o e),S.2,S.3,S.4.other (x.still (tk:=0)) λb o k e=>(x.1.2 b (λz=>a (z▸k))).trans e,S.5,zM (λb o e n=>?_) S.6,λU he=>?_⟩
 ·by_cases z:b=D
  ·exact Z z x.4
  ·exact(ad o ((x.1.2 b z).trans e) n)
 ·refine gu (S.7 _ he) λL o d f c h=>?_
  by_cases z:L=D
  ·clear S a g he;subst z
   exact ac (x.3 o f c) λl j i=>(hA L l d j i h)
  ·exact(hA L o d ((x.1.2 L z).trans f) c h)
theorem St.side{D:Addr}(S:St B sc fs U J m μ s)(x:oO D s h')(a:D∉μ)(c:¬gJ U D)(d:B.h0.get? D=none):St B sc fs U J m μ {s with heap:=h',toks:=tk}:=by
 refine⟨S.1.side x a d,?_,S.3⟩;have:=S.2.next (x.still (tk:=0)) (λb o e w=>(x.1.2 b (λz=>c (z▸w))).trans e) (λ_ q=>bx q)
 rwa [bZ]at this
theorem Nx.side{D:Addr}(n:Nx B P μ0 s0 m μ s)(x:oO D s h')(a:D∉μ)(c:s0.heap.get? D=none):Nx B P μ0 s0 m μ {s with heap:=h',toks:=tk}:=by
 refine⟨n.1.other (x.still (tk:=0)) λb o i e=>(x.1.2 b (λz=>a (z▸i))).trans e,n.2,λb o e q=>?_,λb o e=>?_,n.5,n.6⟩
 ·have d:b≠D:=λz=>by clear a;subst z;rw[c]at e;exact aN e
  exact(n.3 b o e q).imp (λk=>(x.1.2 b d).trans k) λt=>(by obtain⟨f,h,r,k⟩:=t;exact⟨f,h,r,(x.1.2 b d).trans k⟩)
 exact cB (n.4 b o e) λp g l j=>(b6 p ((x.1.2 b (λz=>by clear n x a;subst z;rw[c]at e;exact aN e)).trans g) l j)
theorem dC.side{D:Addr}(g:dC own μh f μ s.heap)(x:oO D s h')(c:¬own D):dC own μh f μ h':=⟨g.1,λb o e q d=>have:=g.2 b o e q d;(x.1.2 b (λz=>by clear g c e d;subst z;exact x.2 o this q)).trans this,λb o w e=>(x.1.2 b (λz=>c (z▸w))).trans (g.3 b o w e),g.4⟩
theorem Nx.forgetO{Q:Addr->Prop}(n:Nx B (λb=>P b\/Q b) μ s m' μ' s')(a:∀b,Q b->s.heap.get? b=none):Nx B P μ s m' μ' s':=
 ⟨n.1,n.2,λb o e q=>n.3 b o e λz=>z.elim (λz=>q (.inl z)) (λz=>z.elim (λz=>q (.inr z)) (λz=>by rw[a b z]at e;exact aN e)),n.4,n.5,n.6⟩
theorem P5{D:Addr}{items:List V}{Q:cD}
 (ht:gf B scope d tg T)(p:nr B scope d ifs Dt)(he:a7 B scope d ι De)(Ψ:Ar d A fs)(S:St B scope fs f α m μ s)(n0:Nx B P μ0 s0 m μ s)(G:gc B it tg own src items μ h)(ga:dC own μ h μ s.heap)(al:j8 own s.heap)
 (fO:∀b,own b->s0.heap.get? b=none)(fC:∀b,b9 scope f b->s0.heap.get? b=none)(fD:s0.heap.get? D=none)(t:∀b,own b->¬gJ f b)(h0:∀b,own b->B.h0.get? b=none)(hD:s.heap.PlainList D #[])(F:D∉μ)(dF:¬gJ f D)(dO:¬own D)(κ:B.h0.get? D=none)(q:cR T src Dt De items [] α m Q)
 (hR:∀s' m' μ' vs k,Q vs m'->Nx B P μ0 s0 m' μ' s'->s'.heap.PlainList D k->aq B.N μ' s'.heap vs k.toList->D∉μ'->f.locals∉μ'->(∃mm,s'.heap.Ns f.locals mm)->R (.ok .next) s'):
 codeAny (model B.prog B.w) A (.compLoop (.ListComp ι [⟨tg,iter,ifs,0⟩] scope pos) 0 it (.ref D) f) R s:=by
 have u:∀{m1 m2:av}{μ1 ε:List _}{s1 s2:Shared},Nx B (b9 scope _) μ1 s1 m2 ε s2->D∉μ1->∀{k:Array _},s1.heap.PlainList D k->D∉ε/\s2.heap.PlainList D k:=λn F k I=>by
  refine aI I λc ho=>?_;clear I;refine⟨n.not_new ho F,c,n.kep ho (λz=>?_) (rU rfl)⟩;rcases z with z|z
  ·exact F z
  ·exact dF z.frm
 refine P_ (λn s'=>zN λr acc M m' μ' Ω hh k=>Rm (cR T _ Dt De r acc M m' Q) (St B _ fs _ M m' μ' s') (Nx B P μ0 s0 m' μ' s') (gc B it tg _ _ r Ω hh) (dC _ Ω hh μ' s'.heap) (j8 _ s'.heap)
  (s'.heap.PlainList D k) (aq B.N μ' s'.heap acc k.toList) (n=r.length/\D∉μ')) (λn s' w=>?_) _ ⟨items,[],α,m,μ,μ,h,#[],q,S,n0,G,ga,al,hD,aq.nil,rfl,F⟩
 obtain⟨r,acc,M,m',μ',Ω,hh,k,q,W,n',G',j,al',I,ra,hn,g⟩:=w
 cases r with
 |nil=>refine G'.nil_go Ψ W.1 j q.1 λs1 x=>aI I λc p=>?_;clear I;exact hR s1 m' μ' _ k q.2 (n'.aside x fO j.4) ⟨c,x.notPart p dO g⟩ (ra.stay x.still) g (W.aside x j.4 t h0).2.13 (W.aside x j.4 t h0).2.10
 |cons x r=>
  refine G'.cons_go Ψ W.1 j q.1 λv s2 x1 Y rv g2=>?_;have X:=W.aside x1 j.4 t h0;have N2:=n'.aside x1 fO j.4;have Φ:s2.heap.PlainList D k:=by refine aI I λc p=>?_;clear I;exact⟨c,x1.notPart p dO g⟩
  have γ:=ra.stay x1.still;refine mo (ht x _ m' _ q.2 A fs _ μ' s2 _ v Ψ X rv) (λ_ s3 N=>?_);obtain⟨β,m3,μ3,q3,S3,n3⟩:=N;refine mo (p _ m3 _ q3 A fs _ μ3 s3 _ Ψ S3) (λb s4 N=>N.k λm4 ζ q4 n4=>?_);clear N;have l:=n3.trans (n4.mono cG)
  cases b with
  |false=>exact have C:=dC.nx X l Y j.4 t;⟨r.length,Z hn<|jq _,r,acc,β,m4,ζ,μ',s2.heap,k,q4,(S3.next n4),((N2.mono λ_=>.inl).trans (l.mono λ_=>.inr)).forgetO fC,g2,C.1,C.2,(u (m1:=m') l g Φ).2,(γ.nxOwn X l),rfl,(u (m1:=m') l g Φ).1⟩
  |true=>
   refine mo (he _ m4 _ q4 A fs _ ζ s4 _ Ψ (S3.next n4)) (λy s5 N=>N.k λz m5 η u0 r5 n5=>?_);clear N;have H:=l.trans (n5.mono cG);have δ:=γ.nxOwn X H;have i:=u (m1:=m') H g Φ;have E:=dC.nx X H Y j.4 t;have hl:acc.length=k.size:=by have h1:=δ.length;rwa [mh (xs:=k)]at h1
   refine wpAny_list_append_plain i.2 (λh6 L sb=>?_) (Z ki<|aK u0.1 (aA hl.symm))
   have sd:oO D s5 h6:=⟨sb,λo e=>by refine aI i.2 λc p=>?_;rw[p]at e;replace e:=aG e;subst e;rintro(⟨z,_⟩|⟨a,z,_⟩)<;>simp at z,λo e dd=>(by refine aI i.2 λc p=>?_;rw[p]at e;replace e:=aG e;subst e;exact absurd dd (rU rfl)),by refine aI L λc p=>?_;clear L;exact(ad _ p (λvs z=>(kk PySem.Data.ctorIdx z rfl)))⟩
   refine⟨r.length,Z hn<|jq _,r,acc++[z],β,m5,η,μ',s2.heap,k.push y,u0.2,((S3.next n4).next n5).side sd i.1 dF κ,(((N2.mono λ_=>.inl).trans (H.mono λ_=>.inr)).forgetO fC).side sd i.1 fD,g2,E.1.side sd dO,λb w=>?_,L,?_,rfl,i.1⟩
   ·exact ac (E.2 b w) λo e dd=>(ad o ((sb.2 b (λz=>dO (z▸w))).trans e) dd)
   ·refine Z Array.toList_push ?_
    have st:dA η _ h6:=sd.still (tk:=0);exact(δ.stay st).append (aq.cons (r5.stay st) aq.nil)
end
section
variable{D:Addr}
theorem Cn(b:∀o,h.get? D=some o->¬dv o)(c:a∉μ)(e:h.get? a=some o)(st:dv o):a∉μ++[D]:=λq=>by
 rcases cO.mp q with q|q
 ·exact c q
 ·simp only[b5]at q;subst q;exact b o e st
theorem aj.grow2(c:∀o,h.get? D=some o->¬dv o):(∀x v,aj N μ h x v->aj N (μ++[D]) h x v)/\∀l vs,aq N μ h l vs->aq N (μ++[D]) h l vs:=
 aj.mono (λ_ _ e=>(cu (bV.mp e).1).trans e) λa o b s d=>⟨b,Cn c d b s⟩
theorem aj.grow(a:∀o,h.get? D=some o->¬dv o)(e:aj N μ h x v):aj N (μ++[D]) h x v:=(aj.grow2 a).1 x v e
theorem aq.grow(a:∀o,h.get? D=some o->¬dv o)(e:aq N μ h l vs):aq N (μ++[D]) h l vs:=(aj.grow2 a).2 l vs e
theorem gg.grow{o:O}(b:∀o,h.get? D=some o->¬dv o)(c:gg prog w N μ h a o):gg prog w N (μ++[D]) h a o:=by
 cases o with
 |list l=>refine ac c λitems p q=>?_;clear c;exact(ad _ p (q.grow b))
 |fields l=>refine fv c λmm n j k=>?_;clear c;exact(gx mm n (λi v z=>ac (j i v z) λC z1 z2=>(ad C z1 (z2.grow b))) k)
 |sdict l=>refine cB c λkvs x p q=>?_;clear c;exact(b6 _ x p (q.grow b))
 |idict l=>refine cB c λkvs x p q=>?_;clear c;exact(b6 _ x p (q.grow b))
 |tdict l=>refine ir c λxs B p q z=>?_;clear c;obtain⟨ob,es,ep,d,t,u,y,g,A⟩:=B;exact(gP xs ⟨ob,es,ep,d,t,u,y,g,A⟩ p (q.grow b) (λx f=>sK (g x f) λE items n e m r _=>Cn b (z x f) e (.inl ⟨m,_,_,r⟩)))
 |fix ob l=>refine iH c λd items s q=>?_;clear c;exact⟨d,items,s,q.grow b⟩
 |part=>exact c
theorem BM(b:h.PlainList D f):∀o,h.get? D=some o->¬dv o:=λo e=>by refine aI b λc d=>?_;clear b;rw[d]at e;replace e:=aG e;subst e;rintro(⟨z,_⟩|⟨a,z,_⟩)<;>simp at z
theorem bw.adopt{o:O}(M:bw prog w N μ m h)(b:∀o,h.get? D=some o->¬dv o)(a:D∉μ)(c:gg prog w N (μ++[D]) h D o):bw prog w N (μ++[D]) (m++[o]) h:=M.snoc a (λ_ _ r _=>r.grow b) c
end
section
variable{own:Addr->Prop}
theorem Nx.adopt{D:Addr}{vs:List V}(n:Nx B P μ0 s0 m μ s)(d:s.heap.PlainList D ys)(r:aq B.N μ s.heap vs ys.toList)(c:D∉μ)(g:s0.heap.get? D=none):Nx B P μ0 s0 (m++[.list vs]) (μ++[D]) s:=by
 refine⟨n.1.adopt (BM d) c (ad ys d (r.grow (BM d))),(ac n.2 λi f h=>Z f ((ad _ (Z cq rfl) (λa b=>?_)))),n.3,n.4,n.5,n.6⟩;rcases cO.mp b with b|b
 ·exact h a b
 ·simp only[b5]at b;exact Z b g
theorem Nx.letgo(n:Nx B P μ0 s0 m μ s)(f:s.heap.Ns C mm)(c:C∉μ)(d:s0.heap.get? C=none)(a:Heap.SameBut C s.heap h'):Nx B P μ0 s0 m μ {s with heap:=h'}:=by
 have st:dA μ _ h':=λb o e q _=>(a.2 b (λz=>by subst z;exact n_ f e q)).trans e
 refine⟨n.1.other st λb o l e=>(a.2 b (λz=>c (z▸l))).trans e,n.2,λb o e q=>?_,λb o e=>?_,n.5,n.6⟩
 ·have g:b≠C:=λz=>by subst z;rw[d]at e;exact aN e
  exact(n.3 b o e q).imp (λk=>(a.2 b g).trans k) λv=>(by obtain⟨h,j,u,k⟩:=v;exact⟨h,j,u,(a.2 b g).trans k⟩)
 exact cB (n.4 b o e) λt i r p=>(b6 t ((a.2 b (λz=>by clear n f c a st;subst z;rw[d]at e;exact aN e)).trans i) r p)
theorem Es{Q:cD}
 (v:ff sc scope cap=true)(Ω:fq scope=true)(t:scope.kind=.function)(ht:gf B scope d tg T)(hc:nr B scope d ifs Dt)(he:a7 B scope d β De)
 (ar:Ar d A fs)(S:St B sc fs U J m μ s)(I:∀b,s0.heap.get? b=none->B.h0.get? b=none)(Y:∀x c,U.cells.lookup x=some c->∃o,s0.heap.get? c=some o)
 (ε:wpAny (model B.prog B.w) A (eval iter U) (λx s1=>wpAny (model B.prog B.w) A (pyIter x) (λit s2=>wb λitems src L a own=>wg (cR T src Dt De items [] (hH J cap) L Q) (Nx B P μ0 s0 L a s2) (St B sc fs U J L a s2) (v9 B it tg own src items a s2.heap) ((∀b,own b->s0.heap.get? b=none)) (∀b,own b->b∉a)) E s1) E s)(hs:∀U x,foldedSetIterable iter U x=pure x)
 (Φ:∀acc C s' m' μ' D,acc=.ref D->(aV λvs X=>br (Q vs m') (s'.heap.PlainList D X) (aq B.N μ' s'.heap vs X.toList))->Nx B P μ0 s0 m' μ' s'->D∉μ'->s0.heap.get? D=none->C∉μ'->s0.heap.get? C=none->C≠D->(∃mm,s'.heap.Ns C mm)->
  compPost (model B.prog B.w) A E use QQ acc C (.ok .next) s'):
 wpAny (model B.prog B.w) A (comprehension (.ListComp β [⟨tg,iter,ifs,0⟩] scope pos) scope U (firstIterPos [⟨tg,iter,ifs,0⟩] pos) (newList []) false (firstIter [⟨tg,iter,ifs,0⟩] U) use) QQ E s:=by
 have f:∀x,(x,NameKind.free)∈scope.names->(U.cells.lookup x).isSome=true:=λx hx=>by refine aI (qW.mp hx) λj hj=>ac (zk v hj) λi _ hi=>bS (S.2.11 x (cW (de S.2.8) hi)) λc _ hc _=>Z hc ?_;rfl
 refine wpAny_comprehension_free rfl (hs _) (Ex (M:=model B.prog B.w) (Q:=λ_ _=>True) f) t (λy hy e=>?_) ?_
 ·exact aI (qW.mp hy) λj hj=>Z e.symm<|cW (de Ω) hj
 refine mo ε (λx s1 h1=>mo h1 (λit s2 w0=>?_));obtain⟨items,src,L,a,own,q2,N,S2,r,fr,ζ⟩:=w0;refine kg (wpAny_newFunctionEnv (oI v) (by intro y hy;simp at hy) (λp h k=>?_) t)
 generalize H:s2.heap.push _=u at h k⊢;have hC:u.objs.size=s2.heap.objs.size+1:=Z H.symm<|Z (kW ..) rfl;have G:s2.heap.get? u.objs.size=none:=Z hC<|ng (iy _);have F:∀b o,u.get? b=some o->p.get? b=some o:=λb o e=>k.extBut b o (bI (dH e)) (bj _ e);have n:=λb o e=>F b o (H▸bj _ e);have δ:p.get? _=some _:=F _ _ (H▸cg _ rfl);have S3:=Er (tk:=s2.toks+([]:List (Str×Value)).length) S2 v Ω t h n G;have n3:Nx B No a s2 L a {s2 with heap:=p,toks:=s2.toks+([]:List (Str×Value)).length}:=Nx.of_keep N.1 n rfl rfl;have DC:s2.heap.objs.size≠u.objs.size:=Z hC<|bI (jq _)
 have g:∀b,gJ (compEnvC scope (f6 U.cells scope.names []) u.objs.size U) b->b=u.objs.size\/∃o,s0.heap.get? b=some o:=λb z=>by
  rcases z with rfl|⟨x,e⟩
  ·exact .inl rfl
  ·exact .inr (Y x b ((λx c e=>zg f (λ_ _ q=>by exact aN q) e) x b e))
 have R:∀b,b9 _ (compEnvC scope (f6 U.cells scope.names []) u.objs.size U) b->b=u.objs.size:=λb z=>by
  rcases z with rfl|⟨x,e,_⟩
  ·rfl
  ·exact absurd rfl (oI v _ (fU e))
 have W:=N.fresh_of (bQ _);have sC:=N.fresh_of G;refine codeAny_compStart_list (env:=compEnvC _ (f6 _ _ []) u.objs.size _) ?_ (r.2 _ _ _ _ (λb o w e=>n b o e) ?_)<;>
 ·refine P5 ht hc he ar S3 (N.trans (n3.mono (λ_ q=>q.elim))) r.1 (dC.mk (ad [] (bZ _).symm (λ_ q=>bx q)) (λb o e _ _=>n b o e) (λb o _ e=>n b o e) ζ) (λb w=>?_) fr (λb w=>(R b w)▸sC) W (λb w z=>?_) (λb w=>I b (fr b w)) ⟨_,δ⟩ (N.1.new_not (bQ _)) (λz=>?_) (λw=>?_) (I _ W) q2 (λs' m' μ' vs X qv nv hp rv α Ψ γ=>?_)
  ·exact ac (r.3 b w) λo e dd=>(ad o (n b o e) dd)
  ·rcases g b z with rfl|⟨o,e⟩
   ·refine ac (r.3 _ w) λo e _=>?_;rw[G]at e;exact aN e
   ·rw[fr b w]at e;exact aN e
  ·rcases g _ z with z|⟨o,e⟩
   ·exact DC z
   ·rw[W]at e;exact aN e
  ·refine ac (r.3 _ w) λo e _=>?_;rw[(bQ _)]at e;exact aN e
  ·exact Φ _ _ s' m' μ' _ rfl (fX vs X qv hp rv) nv α W Ψ sC (gS DC) γ
theorem Et{I:DI}{Q:cD}
 (h:ff sc scope cap=true)(l:fq scope=true)(g:scope.kind=.function)(F:j5 B sc d tg iter I)(H:gf B scope d tg T)(z:nr B scope d ifs Dt)(he:a7 B scope d elt De)
 (p:Ar d A fs)(S:St B sc fs U J m μ s)(q:I J m λitems src m=>cR T src Dt De items [] (hH J cap) m Q)(hs:∀U x,foldedSetIterable iter U x=pure x)
 (f:∀acc C s' m' μ' D,acc=.ref D->(aV λvs u=>br (Q vs m') (s'.heap.PlainList D u) (aq B.N μ' s'.heap vs u.toList))->Nx B No μ s m' μ' s'->D∉μ'->s.heap.get? D=none->C∉μ'->s.heap.get? C=none->C≠D->(∃mm,s'.heap.Ns C mm)->
  compPost (model B.prog B.w) A E use QQ acc C (.ok .next) s'):
 wpAny (model B.prog B.w) A (comprehension (.ListComp elt [⟨tg,iter,ifs,0⟩] scope pos) scope U (firstIterPos [⟨tg,iter,ifs,0⟩] pos) (newList []) false (firstIter [⟨tg,iter,ifs,0⟩] U) use) QQ E s:=
 Es h l g H z he p S (λb e=>S.h0own e) (λx c e=>lG (S.2.12 x c e) λ_ o G _=>⟨o,G⟩)
  (mo (F J m _ q A fs _ μ s _ p S) (λx s1 h1=>wpAny_mono h1 (λit s2 t=>(by refine t.k λitems src Φ n own q2 r j y k=>?_;clear t;exact⟨items,src,Φ,n,own,q2,r,S.next r,j,y,k⟩)) λ_ _ e=>e)) hs f
theorem OU cap{I:DI}
 (h:ff sc scope cap=true)(k:fq scope=true)(f:scope.kind=.function)(F:j5 B sc d tg iter I)(G:gf B scope d tg T)(l:nr B scope d ifs Dt)(he:a7 B scope d elt De)(hs:autoParam (∀U x,foldedSetIterable iter U x=pure x) bF):
 a7 B sc d (.ListComp elt [⟨tg,iter,ifs,0⟩] scope pos) λJ m Q=>I J m λitems src m=>cR T src Dt De items [] (hH J cap) m λvs m=>Q (.loc m.length) (m++[.list vs]):=by
 intro J m Q q A fs U μ s E w S;refine Et h k f F G l he w S q hs λacc C s' m' μ' D P L n r R g u y w1=>bX L λvs Ω H v Φ=>?_;clear L;refine aI w1 λmm p=>?_;clear w1;refine Z P<|(ad mm p (λh' j=>?_));have i:h'.PlainList D Ω:=by refine aI v λc l=>?_;clear v;exact⟨c,(j.2 D (gS y)).trans l⟩
 refine⟨_,_,_,H,aj.loc_ ?_,Nx.adopt (n.letgo p g u j) i (Φ.stay (λb o e q _=>(j.2 b (λz=>by clear h k f F G l he hs w S n g u y H v Φ j i;subst z;exact n_ p e q)).trans e)) r R⟩
 exact Z ((n.letgo p g u j).1.1).symm<|gN
theorem Pq cap{x:Str}{I:DI} j(L:sc.names[j]?=some (x,.local))
 (l:ff sc scope cap=true)(v:fq scope=true)(g:scope.kind=.function)(Y:j5 B sc d tg f I)(ht:gf B scope d tg T)(X:nr B scope d ifs Dt)(he:a7 B scope d H De)
 (a:(pos'.line==pos.line&&!(scope.names.any λ(n,k)=>n==x&&(k==.local||k==.cell)))=true)(hs:autoParam (∀U x,foldedSetIterable f U x=pure x) bF):
 fJ B sc d (.Assign [.Name x pos'] (.ListComp H [⟨tg,f,ifs,0⟩] scope pos) p) λJ m Q=>I J m λitems src m=>cR T src Dt De items [] (hH J cap) m λvs m=>Q .next (J.set j (some (.loc m.length))) (m++[.list vs]):=by
 intro J m Q q A fs U μ s E P S;refine Z (exec_Assign_Name_used x _ _ p (by
  refine(?_:(pure (U.blockKind==.function&&U.kindOf x==some _&&pos'.line==pos.line&&!(scope.names.any λ(n,k)=>n==x&&(k==.local||k==.cell))):Sem _)=pure _)
  (refine Z (by unfold Env.blockKind;refine Z S.2.1 ?_;rfl:U.blockKind=.function) ?_;refine Z ((S.2.5 x (cW (de S.2.8) L)))<|Z a ?_)<;>rfl)) ?_
 refine gR (ag (ag (mo (Et l v g Y ht X he P S q hs λacc C s' m' μ' D ea w0 n t Ω r Φ R w1=>bX w0 λvs ys qv hp rv=>?_) (λ_ _ p=>aD (aD p)))));clear w0;refine aI w1 λmm Ψ=>?_;clear w1;refine Z ea ?_;have N:=n.adopt hp rv t Ω
 have F:C∉μ'++[D]:=λz=>by
  rcases cO.mp z with z|z
  ·exact r z
  ·simp only[b5]at z;exact R z
 have G:¬gJ _ C:=λz=>by refine aI (v_ S.2 z) λo e=>?_;rw[Φ]at e;exact aN e
 refine wpAny_assign_Name (nQ (S.next N) L (aj.loc_ (by exact Z n.1.1.symm<|gN):aj _ _ _ (.loc m'.length) _) λs2 i M=>?_)
 have c:s2.heap.Ns C mm:=by
  refine M.ns Ψ λz=>?_;rcases z with z|z
  ·exact F z
  ·exact G z.frm
 refine(ad mm c (λh' u=>?_));have y:=((N.mono cG).trans M).letgo c F Φ u;have st:dA (μ'++[D]) _ h':=λb o e q _=>(u.2 b (λz=>by subst z;exact n_ c e q)).trans e
 have W:=i.2.next st (λb o e w=>(u.2 b (λz=>G (z▸w))).trans e) (λ_ q=>bx q);rw[bZ]at W;have cs:b_ B fs (m'++[.list vs]) (μ'++[D]) {s2 with heap:=h'}:=by refine⟨λb o e=>(u.2 b (λz=>by clear L l v g Y ht X he a hs q P n t Ω r R hp rv Ψ N F G M c u st;subst z;rw[S.h0own Φ]at e;exact aN e)).trans (i.1.1 b o e),i.1.2,i.1.3,y.1,i.1.5,Fe y.4 S.1.6,S.1.7.next y⟩
 exact⟨.next,_,_,_,qv,rfl,⟨cs,W,i.3⟩,y⟩
end
def iV(ns:List Int):List V:=ns.map .int
def gY(ns:List Int):List Int:=ns.mergeSort λa b=>decide (a<=b)
theorem xb(f:ns'.Perm ns)(hs:ns'.Pairwise (·<=·)):ns'=gY ns:=by
 refine List.Perm.eq_of_pairwise (λa b _ _ h1 e=>by lia) hs ?_ (f.trans (List.mergeSort_perm ns _).symm)
 have:=List.pairwise_mergeSort (le:=λ(a b)=>decide (a<=b)) (λa b c h1 e=>by simp only[decide_eq_true_eq]at*;lia) (λa b=>by simp only[Bool.or_eq_true,decide_eq_true_eq];lia) ns
 exact this.imp λh=>by simpa using h
section
variable{own:Addr->Prop}
theorem vh:∀{ns:List Int}{vs:List Value},aq N μ h (iV ns) vs->IntsAre vs ns:=by
 intro ns
 induction ns with
 |nil=>exact@λvs r=>Z r.inv_nil .nil
 |cons n ns c=>intro vs r;refine bX (aq.inv_cons (l:=iV ns) r) λv ws a d e=>?_;subst a;exact aI d.int_inv λt b=>Z b<| .cons n t (c e)
theorem vW(q:IntsAre vs ns):aq N μ h (iV ns) vs:=by
 induction q with
 |nil=>exact aq.nil
 |cons n t _ a=>exact aq.cons (aj.int_ n t) a
def A5(vs:List V)(m:av)(Q:aS):Prop:=g8 vs λx=>gp x λn=>∃ns,br (m[n]?=some (.list (iV ns))) (ns.length<64) (Q (.loc m.length) (m++[.list (iV (gY ns))]))
theorem KM:eS B d (.builtin "sorted") A5:=by
 refine λvs m Q q A fs μ s E vals x S r=>h9 q r λy v w q=>gt q w λn a l i=>cB i λns e hz q=>?_;clear i;refine ac (S.4.list l e) λitems z h=>?_;have f:ns.length=items.toList.length:=by have:=h.length;unfold iV at this;rwa [eH]at this
 refine sorted_ints ‹_› (vh h) (aK hz (aA f.symm)) λout u g t hs=>?_;rw[xb t hs]at g;obtain⟨j,c⟩:=sortedAll_at _ _ _;have k:∀b o,s.heap.get? b=some o->(sortedAll _ items.toList out).get? b=some o:=λb o p=>sortedAll_old p;generalize sortedAll _ _ _=H at c k⊢;refine⟨.loc _,_,μ++[s.heap.objs.size+1],q,aj.loc_ ?_,Nx.new S.4 k (ng (iy _)) (ad _ ((⟨j,c⟩)) (vW g)) rfl rfl⟩;exact Z S.4.1.symm<|gN
theorem Dz(q:IntsAre vs ns):∃xs:List (Int×Tok),vs=xs.map (λp=>Value.int p.1 p.2)/\xs.map (·.1)=ns:=by
 induction q with
 |nil=>exact ad [] rfl rfl
 |cons n t _ a=>refine ac a λxs b c=>?_;clear a;exact ad ((n,t)::xs) (by refine Z b ?_;rfl) (Z eV<|Z c rfl)
theorem BK(xs:List (Int×Tok)) k(a:k<=xs.length):preSum (numAt xs.toArray) k=((xs.map (·.1)).take k).sum:=by
 induction k with
 |zero=>rfl
 |succ k c=>
  unfold preSum;refine Z (c (Nat.le_of_succ_le a))<|Z List.take_add_one<|Z m8 ?_;have:numAt xs.toArray k=(xs.map (·.1))[k]'(Z aY a):=by unfold numAt;have b:k<xs.length:=a;simp[b]
  refine Z this ?_;simp[show k<xs.length by exact a]
theorem HO:∀{ns:List Int}{b:Nat},(∀n∈ns,n.natAbs<=b)->ns.sum.natAbs<=ns.length*b:=by
 intro ns
 induction ns with
 |nil=>exact@λ_ _=>af
 |cons n ns a=>exact@λb h=>have a:=a λx c=>h x (az _ c);Z lX<|Z (Nat.add_mul ..)<|Z (Nat.one_mul ..)<|aC (Int.natAbs_add_le n _) (Nat.add_comm _ _▸iU a (h n aQ))
def AQ(vs:List V)(m:av)(Q:aS):Prop:=g8 vs λx=>gp x λn=>∃ns,dQ (m[n]?=some (.list (iV ns))) (ns.length<=1000) ((∀k∈ns,k.natAbs<=1125899906842624)) (Q (.int ns.sum) m)
theorem KI:eS B d (.builtin "sum") AQ:=by
 refine λvs m Q q A fs μ s E vals i S r=>h9 q r λy v C q=>gt q C λn a p h=>ir h λns e hz f q=>?_;clear h;refine ac (S.4.list p e) λitems g D=>ac (Dz (vh D)) λxs l c=>?_;have t:items=intItems xs.toArray:=by unfold intItems;refine Z (Array.toArray_toList (xs:=items)).symm<|Z l ?_;simp
 rw[t]at g
 have F:∀k,k<=xs.length->(preSum _ k).natAbs<=1125899906842624000:=λk w=>by refine Z (BK xs k w)<|Z c ?_;have:=HO (ns:=ns.take k) λx z=>f x (List.mem_of_mem_take z);exact aC this (Nat.mul_le_mul_right _ (Z qX pP:(ns.take k).length<=1000))
 refine sum_intList i.4 g (λj u=>?_) λh' tk G k=>?_
 ·have b:=by simpa using u
  have o:(numAt xs.toArray j).natAbs<=1125899906842624:=by refine f _ (c▸?_);unfold numAt;simp[b];exact⟨_,f_ _⟩
  exact⟨qk o,qk (F _ b)⟩
 ·exact⟨_,m,μ,q,(have:preSum _ _=ns.sum:=Z (BK xs _ (aT _))<|Z c<|Z (List.take_of_length_le ((aA (Z c.symm<|Z aY rfl:xs.length=ns.length).symm))) rfl;Z this<|aj.int_ _ _),Nx.of_keep S.4 k rfl rfl⟩
def CE(vs:List V)(m:av)(Q:aS):Prop:=g8 vs λx=>gp x λn=>∃ns,br (m[n]?=some (.list (iV ns))) (ns≠[]) (∀k∈ns,Q (.int k) m)
theorem KT:eS B d (.builtin "max") CE:=by
 refine λvs m Q q A fs μ s E vals o S r=>h9 q r λy v z q=>gt q z λn a u l=>cB l λns e f q=>?_;clear l;refine ac (S.4.list u e) λitems h C=>ac (Dz (vh C)) λxs t g=>?_;have w:items=intItems xs.toArray:=by unfold intItems;refine Z (Array.toArray_toList (xs:=items)).symm<|Z t ?_;simp
 rw[w]at h;refine max_intList o.4 h (by simpa[(Z g.symm<|Z aY rfl:xs.length=ns.length)]using(List.length_pos_iff.mpr f)) λv h' tk b k=>?_
 generalize argBest (λi j=>decide (numAt _ i>numAt _ j)) _=j at b;unfold intItems at b;rw[Array.getElem?_map]at b;refine ac (Option.map_eq_some_iff.mp b) λp x c=>?_;clear b;subst c;have hm:p.1∈ns:=by
  refine Z g.symm<|bT.mpr (ad p ?_ rfl);have:xs[j]?=some p:=by simpa using x
  exact bN this
 exact⟨_,m,μ,q _ hm,aj.int_ _ _,Nx.of_keep S.4 k rfl rfl⟩
end
section
variable{own:Addr->Prop}
theorem tq{x:Str}{R:bL}(S:St B sc fs U J m μ s)
 (k:sc.names.lookup x=some .globalImplicit)(l:nsIn B.K mainGlobals x=some none)(i:bootBuiltins x=some v)(o:vg v)(n:x≠"__name__")(j:(x=="__debug__")=false)
 (d:starEach [e] U=[(false,eval e U)])(h:wpAny (model B.prog B.w) A (eval e U) (λa s1=>wpAny (model B.prog B.w) A (call v [a]) R E s1) E s):
 wpAny (model B.prog B.w) A (eval (.Call (.Name x fp) [e] [] p) U) R E s:=by
 refine ag (S.builtin k l i n j (Z d ?_))
 have b:wpAny _ A (evalArgs v _ _ []) (λa g=>wpAny _ A (call v ([]++a.pos) a.kw) R E g) E s:=
  evalArgs_plain (spliced_cons (mo h (λ_ _ f=>spliced_nil f)))
 clear S k l i n j d h;rcases o with⟨id,rfl⟩|⟨T,rfl⟩
 ·exact callWith_builtin rfl b
 ·exact PyProof.Rows.callWith_type rfl b
theorem JC{a:Int}:∀{n:Nat}{vs:List Value},vs.length=n->(∀(j:Nat) v,vs[j]?=some v->∃t,v=.int (a+j*1) t)->aq N μ h (eZ a 1 n) vs:=by
 intro n
 induction n generalizing a with
 |zero=>intro vs c _;exact Z (v8 c) aq.nil
 |succ n g=>
  intro vs c f
  cases vs with
  |nil=>cases c
  |cons v r=>
   have e:eZ a 1 (n+1)=.int a::eZ (a+1) 1 n:=by
    unfold eZ;refine Z List.range_succ_eq_map<|Z eV<|Z eG ?_
    congr 1
    ·simp
    ·refine j0 λi _=>?_
     simp only[Function.comp_apply]
     congr 1
     push_cast
     lia
   refine Z e<|aI (f 0 v rfl) λt d=>Z d<|aq.cons ?_ (g (by simpa using c) λj w k=>?_)
   ·have:a+((0:Nat))*1=a:=by simp
    exact Z this<|aj.int_ _ _
   ·exact aI (f (j+1) w ‹_›) λt d=>Z d<|⟨t,by congr 1;push_cast;lia⟩
theorem OL(z:a7 B sc d e D)(G:sc.names.lookup ("range":Str)=some .globalImplicit)(H:nsIn B.K mainGlobals "range"=some none)
 (c:sc.names.lookup ("list":Str)=some .globalImplicit)(f:nsIn B.K mainGlobals "list"=some none)(a:autoParam (∀U,starEach [e] U=[(false,eval e U)]) bF):
 a7 B sc d (.Call (.Name "list" fp2) [.Call (.Name "range" fp) [e] [] p] [] p2) λJ m Q=>D J m λx m=>∃b:Nat,br (x=.int b) (b<=10000) (Q (.loc m.length) (m++[.list (eZ 0 1 b)])):=by
 intro J m Q q A fs U μ s E i S;refine tq S c f boot_list (.inr ⟨_,rfl⟩) (by decide) rfl rfl<|tq S G H boot_range (.inr ⟨_,rfl⟩) (by decide) rfl (a _)<|z.go q i S λv s1 x m1 μ1 r Φ g=>cB r λb I F q1=>?_;clear r;subst I
 refine aI Φ.int_inv λt w=>Z w<|call_range_1 ?_;have o:Nx B No μ s m1 μ1 {s1 with heap:=s1.heap.push {cls:=.type "range",data:=.fields #[.int 0 s1.toks,.int b t,.int 1 (s1.toks+1)]},toks:=s1.toks+1+1}:=g.trans (Nx.of_keep g.1 (λb L e=>bj _ e) rfl rfl);refine call_list_range i.4 (IsRange.new ..) (Ba (by decide) pO) (by refine Z (rangeSize_nat ..) ?_;rfl) (aF F) λh' tk h u k C l=>?_
 refine ds.step o ⟨.loc _,_,μ1++[_],q1,aj.loc_ ?_,Nx.new o.1 k (bQ _) (ad _ ⟨u,C⟩ (JC l.1 λj v n=>l.2 j v (by rw[j7]at n;exact n))) rfl rfl⟩
 exact Z g.1.1.symm<|gN
theorem OJ:a7 B sc d e λ_ _ _=>False:=λ_ _ _ q=>q.elim
theorem PK:dg B sc d e λ_ _ _=>False:=λ_ _ _ q=>q.elim
theorem Pj{st:Stmt}:fJ B sc d st λ_ _ _=>False:=λ_ _ _ q=>q.elim
theorem Pc:i3 B sc d sts λ_ _ _=>False:=λ_ _ _ q=>q.elim
end
open PySem.Sem (wp)
def dW(c:Code){α:Type}(M:Model)(A:Around)(t:Sem α)(Q:α->Shared->Prop)(E:bL)(s:Shared):Prop:=
 ∀Γ p,Γ.code=c->Γ.In A->wp M Γ t (λa _ s'=>Q a s') (λe _ s'=>E e s') p s
section
variable{c:Code}{α β:Type}
theorem dU{t:Sem α}{Q:α->Shared->Prop}(h:wpAny M A t Q E s):dW c M A t Q E s:=λb p _ a=>h b p a
theorem dI{m:Sem α}{Q:β->Shared->Prop}(h:dW c M A m (λa s'=>dW c M A (f a) Q E s') E s):dW c M A (m>>=f) Q E s:=λd p e b=>Z (Sem.wp_bind' ..)<|Sem.wp_mono M d m (λa g s' h'=>h' d g e b) (λ_ _ _ h'=>h') p s (h d p e b)
theorem nE{m:Sem α}{Q d:α->Shared->Prop}(h:dW c M A m Q E s)(j:∀a s',Q a s'->d a s')(i:∀e s',E e s'->E' e s'):dW c M A m d E' s:=λf p k b=>Sem.wp_mono M f m (λa l s' h'=>j a s' h') (λe _ s' h'=>i e s' h') p s (h f p k b)
theorem wE{a:α}{Q:α->Shared->Prop}(h:Q a s):dW c M A (pure a) Q E s:=dU (aD h)
theorem GC{Q:List Env->Shared->Prop}(h:Q [] s):dW (.func body U) M A comprehensionsAround Q E s:=by intro d p b c;unfold comprehensionsAround callersCodes stack;simp only[Sem.wp_bind',Sem.wp_stack,b];refine Z (Sem.wp_pure' ..)<|Z ((rfl:pastTheWaiting ((Code.func _ _,p)::d.below)=(Code.func _ _,p)::pastTheWaiting.go _ (some (.func _ _)) _)) ?_;simp only[eV];exact have a:∀r:List _,List.findSome? (λx:Code=>x.env?) (Code.func _ _::r)=some _:=λ_=>rfl;Z (a ..)<|Z (ai (by simp))<|have e:∀r:List _,List.filterMap (λx:Code=>x.env?) (List.takeWhile (λx=>x.isInlined) (List.filter (λx=>x.env?.isSome) (Code.func body U::r)))=[]:=λ_=>rfl;h
theorem GB{m:Sem α}{Q:α->Shared->Prop}(h:dW c M A m Q (λe s'=>wpAny M A (k e) (λ_ b=>E e b) E s') s):dW c M A (m.onRaise k) Q E s:=λd p f a=>Z (Sem.wp_onRaise ..)<|Sem.wp_mono M d m (λ_ _ _ h'=>h') (λe g s' h'=>h' d g a) p s (h d p f a)
theorem Qb
 (h:dW (.func body U) (model prog w) (A.deeper U) (execs body U) (λf s'=>R (.ok (.ret (match f with| .ret v=>v|_=>.none))) s')
  (λe s'=>wpAny (model prog w) (A.deeper U) (leaving U e) (λ_ b=>R (.error e) b) (λk b=>R (.error k) b) s') s):
 codeAny (model prog w) A (.func body U) R s:=λj p g c=>by
 rewrite[wpCode_iff_wp];refine Z g ?_
 have i:dW (.func body U) (model prog w) (A.under (.func body U)) ((model prog w).den (.func body U)) (λa s'=>match a with| .done f=>R (.ok f) s'| .again d=>d.quiet=true/\codeAny (model prog w) A d R s') (λe s'=>R (.error e) s') s:=by
  refine dI (dU (wpAny_point (dI (GB (nE h (λf s' h'=>?_) λ_ _ h'=>h')))))
  cases f<;>exact dU (aD h')
 refine Sem.wp_mono _ j _ (λa l s' h'=>?_) (λ_ _ _ h'=>h') p s (i j p g (g▸c.in))
 cases a with
 |done f=>exact h'
 |again d=>exact⟨h'.1,h'.2 _ l rfl (c.goto d)⟩
end
theorem Cx:mroOf (.type "super")=pure [.type "super",.type "object"]:=by kernel_rfl
theorem Mg:typeLookup (.type "super") "__new__"=pure (some (.builtin "super.__new__")):=by kernel_rfl
theorem IP:Slot "super" "__init__" "super.__init__":=
 .of (owner:="super") (n:="__init__") (by kernel_rfl) rfl rfl rfl
  (by first|exact .inl rfl|exact .inr _) (by kernel_rfl)
theorem mD:Slot "super" "__getattribute__" "super.__getattribute__":=
 .of (owner:="super") (n:="__getattribute__") (by kernel_rfl) rfl rfl rfl
  (by first|exact .inl rfl|exact .inr _) (by kernel_rfl)
theorem D6:entryFor table "super.__getattribute__"=some Builtin.«super.__getattribute__»:=entryFor_of_tree (by kernel_rfl)
theorem E0 a b:argsOk "super.__getattribute__" ⟨[a,b],[]⟩:=by kernel_rfl
theorem qy:TypeCalled "super" "super.__new__" "super.__init__":=
 ⟨by rfl,by rfl,⟨_,_,Cx⟩,madeBy_type Cx Mg (by decide+kernel),by decide+kernel,by kernel_rfl,IP⟩
theorem LL a b:checkBuiltinCall "super.__new__" ⟨[.type "super",a,b],[]⟩=pure ():=by kernel_rfl
theorem Ok:entryFor table "super.__new__"=some Builtin.«super.__new__»:=entryFor_of_tree (by kernel_rfl)
theorem Ol:entryFor table "super.__init__"=some Builtin.«super.__init__»:=entryFor_of_tree (by kernel_rfl)
theorem Kn:plainId "super.__new__"=true:=by decide+kernel
theorem Q_ a b c:argsOk "super.__init__" ⟨[a,b,c],[]⟩:=by kernel_rfl
abbrev gL(a b c:Value):Obj:={cls:=.type "super",data:=.fields #[a,b,c]}
theorem Qa a b(h:Q₁ (.ref s.heap.objs.size) {s with heap:=s.heap.push (gL .none .none .none)}):
 codeAny (model prog w) A (.call (.builtin "super.__new__") ⟨[.type "super",a,b],[]⟩) (wants Q₁ E) s:=codeAny_of_tree<|iw (LL a b) (aD ⟨plainId_quiet Kn _,mS Ok (ag (kg (aD h)))⟩)
inductive tx(M:Model)(h:Heap)(C x C':Addr):Prop
 |mk(isC:Looks M h (isType (.ref C)) true)(isX:Looks M h (isType (.ref x)) false)(typ:Looks M h (typeOf (.ref x)) (.ref C'))(sub:Looks M h (isSubtype (.ref C') (.ref C)) true)
theorem tx.keeps{C x C':Addr}(p:tx M h C x C')(k:∀b o,h.get? b=some o->h'.get? b=some o):tx M h' C x C':=⟨p.1.keeps k,p.2.keeps k,p.3.keeps k,p.4.keeps k⟩
theorem HB{b C x C':Addr}{Q:Fin->Shared->Prop}(p:tx (model prog w) s.heap C x C')(j:s.heap.get? b=some (gL .none .none .none))
 (h:∀h',h'.get? b=some (gL (.ref C) (.ref x) (.ref C'))->Heap.SameBut b s.heap h'->Q (.done (.ret .none)) {s with heap:=h'}):
 wpAny (model prog w) A (Builtin.«super.__init__» ⟨[.ref b,.ref C,.ref x],[]⟩) Q E s:=by
 refine ag (aD (eQ (ag (p.1.here (ag ?_)))))
 k_delta "superCheck"
 exact ag (p.2.here (ag (p.3.here (ag (p.4.here (aD (ag (lh j af λc f b1=>ag (lh f af λd g b2=>ag (lh g (aT _) λa i e=>aD (h a i ((b1.trans b2).trans e))))))))))))
theorem Qj a b:(match Manifest.signature? "type.super" with|some d=>Bind.checkArgs "type.super" d ⟨[a,b],[]⟩|none=>pure ())=pure ():=by kernel_rfl
theorem Qk{b:Value}{Q:Unit->Shared->Prop}(p:Looks (model prog w) s.heap (isType (.ref C)) true)(h:Q () s):wpAny (model prog w) A (checkTypeCall "super" ⟨[.ref C,b],[]⟩) Q E s:=by
 unfold checkTypeCall;refine Z (ao (show("super"=="super"&&(⟨[.ref C,b],[]⟩:Args).kw.isEmpty)=true from by rfl))<|ag (p.here ?_)
 have a:(toString "type."++toString "super")="type.super":=by rfl
 exact wpAny_of_eq (Qj _ b) h
theorem Qt{C x C':Addr}{Q:bL}(p:tx (model prog w) s.heap C x C')
 (h:∀h',h'.get? s.heap.objs.size=some (gL (.ref C) (.ref x) (.ref C'))->(∀b o,s.heap.get? b=some o->h'.get? b=some o)->Q (.ref s.heap.objs.size) {s with heap:=h'}):
 wpAny (model prog w) A (call (.type "super") [.ref C,.ref x]) Q E s:=by
 have t:=qy.made;have z:=qy.sub;refine iB (codeAny_of_tree (aD ⟨Code.quiet_builtin _ (by decide+kernel),mS F.entry_type_call (Z (Around.under_plain (weight_type_call_type _ _ []) rfl) ?_)⟩))
 repeat (any_goals (first|assumption|(refine Qk p.1 ?_)|wp_step))
 refine codeAny_mono (Qa _ _ (E:=E) (Q₁:=λi d=>i=.ref _/\d={s with heap:=s.heap.push _}) ⟨rfl,rfl⟩) λr d k=>?_
 cases r with
 |error e=>exact k
 |ok D=>
  cases D with
  |ret i=>
   refine a_ k λn q=>?_;clear k;subst n;subst q;have G:Shared.TypeIs {s with heap:=s.heap.push (gL .none .none .none)} (.ref s.heap.objs.size) _:=(ad _ (cg _ rfl) rfl);have I:=qy.init.lookup;have H:=qy.init.bind (.ref s.heap.objs.size)
   repeat (any_goals (first|assumption|wp_step))
   have u:=HB (A:=A.in1.in1) (E:=λe s'=>wants (λr a=>r=Value.none/\Q (.ref s.heap.objs.size) a) E (.error e) s') (Q:=λm s'=>match m with| .done f=>wants (λr a=>r=Value.none/\Q (.ref s.heap.objs.size) a) E (.ok f) s'| .again v=>v.quiet=true/\codeAny (model prog w) A.in1 v (wants (λr a=>r=Value.none/\Q (.ref s.heap.objs.size) a) E) s')
    (s:={s with heap:=s.heap.push (gL .none .none .none)}) (p.keeps (λb o e=>bj _ e)) (cg _ rfl) (λh' e Φ=>⟨rfl,h h' e λb o y=>(Φ.2 b (bI (dH y))).trans ((λb o e=>bj _ e) b o y)⟩)
   refine codeAny_mono (codeAny_call_builtin qy.init.plain Ol (qy.init.check _ _ _ _ _ _ _ _ G (Q_ _ _ _) u)) λj a c=>?_
   cases j with
   |error e=>exact c
   |ok g=>
    cases g with
    |ret r=>
     refine a_ c λB L=>?_;clear c;refine Z B ?_
     repeat (any_goals (first|assumption|wp_step))
    |_=>exact c.elim
  |_=>exact k.elim
inductive zJ(M:Model)(h:Heap)(C C' g:Addr)(name:Str):Prop
 |mk(row:cL λl P r=>br (Looks M h (mroOf (.ref C')) l) ((l.dropWhile (·!=Value.ref C)).drop 1=P::r) (Looks M h (classOwn P name) (some (.ref g))))(fn:Looks M h (typeOf (.ref g)) (.type "function"))(op:Looks M h (notOfAnOpaqueClass name.toString "" (.ref C')) ())
theorem AI{c C x C':Addr}{name:Str}{t:Tok}{Q:Fin->Shared->Prop}{l r:List Value}{P a T:Value}{G:String}(i:Looks (model prog w) s.heap (mroOf (.ref C')) l)(p2:(l.dropWhile (·!=Value.ref C)).drop 1=P::r)(j:Looks (model prog w) s.heap (classOwn P name) (some a))(k:Looks (model prog w) s.heap (typeOf a) T)
 (e:typeLookup T "__get__"=pure (some (.builtin G)))(b:Looks (model prog w) s.heap (notOfAnOpaqueClass name.toString "" (.ref C')) ())(m:s.heap.get? c=some (gL (.ref C) (.ref x) (.ref C')))(f:(name==("__class__":Str))=false)(g:x≠C')
 (h:wpAny (model prog w) A (call (.builtin G) [a,.ref x,.ref C']) (λv s'=>Q (.done (.ret v)) s') E s):wpAny (model prog w) A (Builtin.«super.__getattribute__» ⟨[.ref c,.str name t],[]⟩) Q E s:=by
 repeat (first|(refine b.at ?_)|lk)
 refine Z (ai (by rewrite[f];exact Bool.false_ne_true)) ?_
 refine ag (b.here ?_);refine ag (i.here ?_);refine Z p2<|Z (List.forIn_cons ..) ?_;refine f7 (ag (j.here ?_));refine ag (k.here ?_);refine iw e ?_;have d:(if(Value.ref x==Value.ref C')=true then Value.none else Value.ref x)=Value.ref x:=ai (λz=>g (by injection(eq_of_beq z)))
 refine eD ?_;refine Z d ?_;refine mo h (λv s' q=>?_);exact eQ (aD (aD (aD q)))
theorem HF{a C x C' g:Addr}{name:Str}{t:Tok}{Q:Fin->Shared->Prop}(p:zJ (model prog w) s.heap C C' g name)(c:s.heap.get? a=some (gL (.ref C) (.ref x) (.ref C')))(b:(name==("__class__":Str))=false)(d:x≠C')
 (h:wpAny (model prog w) A (call (.builtin "function.__get__") [.ref g,.ref x,.ref C']) (λv s'=>Q (.done (.ret v)) s') E s):
 wpAny (model prog w) A (Builtin.«super.__getattribute__» ⟨[.ref a,.str name t],[]⟩) Q E s:=by
 obtain⟨⟨l,P,r,u⟩,e,f⟩:=p;exact AI u.1 u.2 u.3 e KF.slot_fn.lookup f c b d h
theorem NB{K:Frag}{b C x C' g:Addr}{name:Str}{a:Bool}{Q:bL}(X:K.In s.heap)(e:typeIn K (.ref g)=some (.type "function"))(p:zJ (model prog w) s.heap C C' g name)(c:s.heap.get? b=some (gL (.ref C) (.ref x) (.ref C')))(f:(name==("__class__":Str))=false)(i:x≠C')
 (h:Q (.ref s.heap.objs.size) {s with heap:=s.heap.push (methodObj (.ref g) (.ref x)),toks:=s.toks+1}):
 wpAny (model prog w) A (getAttr (.ref b) name a) Q E s:=by
 refine ag (wpAny_mkText (eJ (qH (T:="super") (s:={s with toks:=s.toks+1}) (ad _ c rfl) (iw mD.lookup ?_))));refine iw (show hookBefore (.type "super")=pure none from rfl) ?_;refine ag (wpAny_attempt (eJ ?_));have d:callGetattribute (.ref b) (.str name s.toks) (.builtin "super.__getattribute__") a=boundAndCalled (.builtin "super.__getattribute__") (.ref b) (.str name s.toks):=by unfold callGetattribute;exact Z (Bool.and_false ..) rfl
 refine Z d ?_;refine iw (mD.bind (.ref b)) ?_;refine gV mD (s:={s with toks:=s.toks+1}) (ad _ c rfl) D6 ?_ (E0 _ _);refine HF (s:={s with toks:=s.toks+1}) p c f i ?_;refine iB (fn_get (s:={s with toks:=s.toks+1}) X e ?_);refine(ad _ rfl ?_);exact aD h
def Ax(p:Program)(file:Str):=if p.main.file==file then some p.main
 else(p.modules.find? λ(n,_,m)=>m.file==file||("<frozen "++n++">":Str)==file).map (·.2.2)
inductive nh(fd:FuncData)(f:Addr)(U:Env):Prop
 |mk(func:U.func=some f)(code:U.code=fd.code)(cells:U.cells=fd.closure)(scope:U.scope=fd.scope)
inductive tw(B:bB)(f:Addr)(fd:FuncData)(C C':Addr)(i:Nat)(name:Str):Prop
 |mk(bO:∃o,B.K.lookup f=some o/\o.data=.func fd)(first:∃a,(fd.params.posonlyargs++fd.params.args).head?=some a/\fd.scope.names[i]?=some (a.arg,.local))(code:oY λcc o vs file t top=>wg (fd.code=.ref cc) (B.K.lookup cc=some o) (o.data=.fields vs) (vs[2]?=some (.str file t)) (Ax B.prog file=some top) ((top.scope.names.lookup ("super":Str)).isSome=false))(clo:aV λkc o=>br (fd.closure=[(("__class__":Str),kc)]) (B.K.lookup kc=some o) (o.data=.cell (some (.ref C))))(nm:fd.scope.names.lookup ("super":Str)=some .globalImplicit/\fd.scope.names.lookup ("__class__":Str)=some .free/\nsIn B.K mainGlobals "super"=some none)(cls:∃cd,clsIn B.K C=some cd)(sub:subIn B.K (.ref C') (.ref C)=some true)(nn:(name==("__class__":Str))=false)
inductive mX(B:bB)(f:Addr)(fd:FuncData)(C C':Addr)(i:Nat)(name:Str)(g:Addr):Prop
 |mk(toSupB:tw B f fd C C' i name)(fn:fnIn B.K g=true/\typeIn B.K (.ref g)=some (.type "function"))(row:cL λl P r=>dQ (mroIn B.K C' P=some true) ((l.dropWhile (·!=Value.ref C)).drop 1=P::r) (ownIn B.K name P=some (some (.ref g))) (∀M h,B.K.In h->Looks M h (mroOf (.ref C')) l))(op:∀M h,B.K.In h->Looks M h (notOfAnOpaqueClass name.toString "" (.ref C')) ())
theorem QL:bootBuiltins "super"=some (.type "super"):=rfl
theorem Ew{K:Frag}{a:ClassData}(e:clsIn K C=some a):∃c d s,List.lookup C K=some ⟨c,d,.cls a,s⟩:=by
 replace e:(match List.lookup C K with|some ⟨_,_,.cls a,_⟩=>some a|_=>none)=some a:=e
 cases q:List.lookup C K with
 |none=>rw[q]at e;exact aN e
 |some o=>
  rw[q]at e;obtain⟨c,d,b,s⟩:=o
  cases b with
  |cls f=>replace e:=aG e;subst e;exact⟨c,d,s,rfl⟩
  |_=>exact aN e
theorem Co{P:Value}{x:Addr}(f:B.K.In h)(g:aj B.N μ h (.obj c n) (.ref x))(hm:mroIn B.K (B.N.cls c) P=some true):x≠B.N.cls c:=λz=>by
 refine u8 g.obj_inv λl k j d e _ _ _ b _=>?_;replace d:=Value.ref.inj d;subst d;unfold mroIn at hm
 cases a:clsIn _ _ with
 |none=>rw[a]at hm;exact aN hm
 |some i=>obtain⟨_,_,_,q⟩:=Ew a;have:=f _ _ q;rw[<-z,e]at this;rw[aG this]at b;exact aR b
theorem AH{f C C' x:Addr}{np cp:Pos}{Q:bL}(Ω:tw B f fd C C' i name)(l:nh fd f U)(d:∀b o,B.h0.get? b=some o->s.heap.get? b=some o)
 (W:U.scope.kind=.function)(hg:U.globals=mainGlobals)(hb:U.builtins=builtinsNs)(Y:s.heap.get? x=some S)(z:S.cls=.ref C')(g:notCls S=true)
 (hl:∀a,fd.scope.names[i]?=some (a,.local)->∀{R:bL},R (.ref x) s->wpAny (model B.prog B.w) A (loadName U a) R E s)
 (h:∀h',(∀b o,s.heap.get? b=some o->h'.get? b=some o)->h'.get? s.heap.objs.size=some (gL (.ref C) (.ref x) (.ref C'))->Q (.ref s.heap.objs.size) {s with heap:=h'}):
 dW (.func body U) (model B.prog B.w) A (attributeBase (.Call (.Name "super" np) [] [] cp) name U whole) Q E s:=by
 obtain⟨⟨of,hf,D⟩,⟨a,ha,hi⟩,⟨cc,oc,vs,c,t,top,r,u,v,w,Φ,L⟩,⟨kc,ok,F,G,H⟩,⟨n1,n2,n3⟩,⟨cd,y⟩,n,I⟩:=Ω;have k1:U.kindOf "super"=some .globalImplicit:=by unfold Env.kindOf;exact Z l.4 n1
 have N:U.kindOf "__class__"=some .free:=by unfold Env.kindOf;exact Z l.4 n2
 have X:=B.KX.keeps d;refine((Z (ai (by refine Z k1<|Z N<|Z I ?_;trivial)) ?_):dW _ _ _ (if(("super" !=("super":Str)||name=="__class__"||U.kindOf _ !=some NameKind.globalImplicit||U.kindOf "__class__" !=some NameKind.free)=true)then whole else _) _ _ _)
 refine Z (ao (by refine Z l.1 ?_;rfl)) ?_
 refine dI (dU (aD (((Z l.1 (((Z (ai (by refine Z N ?_;trivial)) ?_):dW _ _ _ (if(U.kindOf "__class__" !=some _)=true then _ else _) _ _ _))):dW _ _ _ (getMethod.match_1 (λ_=>Sem _) U.func _ _) _ _ _))))
 obtain⟨oc1,od1,Ψ,δ⟩:=of;subst D;refine dI (dU (ag (wpAny_load (X _ _ hf) (aD (((Z ha (dI (dU (wpAny_askSetting (Z l.2 (Z r ?_)))))):dW _ _ _ (attributeBase.match_5 (λ_=>Sem _) (fd.params.posonlyargs++fd.params.args).head? _ _) _ _ _))))));obtain⟨oc2,od2,α,ε⟩:=oc;subst v;refine dI (dU (wpAny_field (X _ _ u) rfl w ?_));have p:(if((model B.prog B.w).prog.main.file==c)=true then some _ else Option.map (λx=>x.snd.snd) (List.find? (λx=>x.2.snd.file==c||Str.ofString _++x.fst++Str.ofString _==c) (model B.prog B.w).prog.modules))=some _:=Φ
 dsimp only;refine Z p ?_;dsimp only;refine Z (ai (by refine Z L ?_;decide)) ?_
 refine dI (dU (wpAny_rule (dI (dU (wpAny_standAt ?_)))))
 have P:∀{R:bL},R _ s->wpAny (model B.prog B.w) A (loadName _ _) R E s:=λh=>by
  refine Z (PyProof.Rows.loadName_read W k1)<|loadGlobal_builtin ?_ (mg_none_of B.KX B.G n3) ?_ ((B.blt _ (by decide)).trans QL) h
  ·exact Z hg<|B.G.keeps d
  ·exact Z hb<|B.BN.keeps d
 refine dI (dU (P ?_));obtain⟨okc,okd,β,γ⟩:=ok;subst H;refine dI (dU (wpAny_loadName_free W N (by refine Z l.3<|Z F ?_;rfl) (ad _ (X _ _ G) rfl) ?_ rfl))
 refine dI (GC (dI (dU (hl _ hi ?_))))
 have T:∀M,Looks M _ (isType (.ref C)) _:=λM=>by obtain⟨_,_,_,q⟩:=Ew y;exact(Looks.ld (X _ _ q)).andThen .now
 have hX:∀M,Looks M _ (isType (.ref x)) _:=λM=>by
  refine(Looks.ld Y).andThen ?_;unfold notCls at g
  cases e:S.data<;>rw[e]at g<;>first|exact .now|exact aR g
 exact dI (dU ((T _).here (dU (Qt ⟨T _,hX _,z▸(Looks.ld Y).andThen .now,looks_subIn X n⟩ λh' e k=>h h' k e))))
theorem AJ{np cp:Pos}{Q:bL}(Ω:mX B f fd C (B.N.cls c) i name g)(D:nh fd f U)(S:St B fd.scope fs U J m μ s)(L:J[i]?=some (some (.obj c n)))
 (h:∀x s',aj B.N μ s'.heap (.obj c n) (.ref x)->Nx B No μ s m μ s'->s'.heap.get? s.heap.objs.size=some (gL (.ref C) (.ref x) (.ref (B.N.cls c)))->Q (.ref s.heap.objs.size) s'):
 dW (.func body U) (model B.prog B.w) A (attributeBase (.Call (.Name "super" np) [] [] cp) name U whole) Q E s:=by
 refine g_ (S.2.15 i _ L) λW P T j l r=>u8 (id r.obj_inv) λx M N d Φ v G F o I=>?_;subst d;refine AH Ω.1 D S.1.1 S.2.1 S.2.2 S.2.3 Φ v (by unfold notCls;cases q:M.data<;>rw[q]at o<;>first|rfl|exact aR o) (λa y R q=>?_) λh' k e=>?_
 ·rw[y]at j;replace j:=ji (aG j);refine a_ j λd u=>?_;clear j;subst d;subst u
  have t:=S.2.5 _ (cW (de S.2.8) y);rcases l with⟨p,mm,H,hm⟩|⟨p|p,_⟩
  ·exact rL S.2.1 p H hm q
  ·rw[p]at t;exact oq PySem.NameKind.ctorIdx t rfl
  ·rw[p]at t;exact oq PySem.NameKind.ctorIdx t rfl
 ·have z:Nx B No μ s m μ {s with heap:=h'}:=Nx.of_keep S.1.4 k rfl rfl
  exact h x _ (r.nx S.1.4 z) z e
theorem wT{C C' g x b:Addr}{Q:Value×List Value->Shared->Prop}(X:B.K.In s.heap)(c:typeIn B.K (.ref g)=some (.type "function"))(p:zJ (model B.prog B.w) s.heap C C' g name)
 (a:s.heap.get? b=some (gL (.ref C) (.ref x) (.ref C')))(d:(name=="__class__")=false)(e:x≠C')
 (h:Q (.ref s.heap.objs.size,[]) {s with heap:=s.heap.push (methodObj (.ref g) (.ref x)),toks:=s.toks+1}):wpAny (model B.prog B.w) A (getMethod (.ref b) name pl) Q E s:=by
 refine ag (wpAny_specialOf ((ad _ a rfl)) mD.lookup ?_);dsimp only;exact ag (NB X c p a d e (aD h))
theorem HH{np cp ap p:Pos}(Ω:mX B f fd C (B.N.cls c) i name g)(Ψ:nh fd f U)(W:Ar d A fs)(S:St B fd.scope fs U J m μ s)(hv:J[i]?=some (some (.obj c n)))
 (h1:d7 B fd.scope d (e::rest) Ds)(q:Ds J m λvs m=>aP B d g (.obj c n::vs) m Q)
 (hf:methodCallForm ((e::rest).length+0) (backTo p (starEach (e::rest) U)) (backToKw p (keywordEach [] U))=true)(hl:(ap.endLine==p.line)=true)
 (he:starEach (e::rest) U=(false,eval e U)::starEach rest U)(F:(backTo p (starEach rest U)).any (·.1)=false):
 dW (.func body U) (model B.prog B.w) A (eval (.Call (.Attribute (.Call (.Name "super" np) [] [] cp) name ap) (e::rest) [] p) U) (ds B μ s Q) E s:=by
 refine dI (AJ Ω Ψ S hv λx s1 Y j ho=>dU (gR ?_));obtain⟨⟨_,_,_,_,_,_,_,H⟩,a,⟨l,P,r,hm,G,Φ,L⟩,I⟩:=Ω;have h:=(S.next j).1.X;unfold methodCall;refine Z hf<|eD<|wT h a.2 ⟨(dk l P r (L _ _ h) G (looks_ownIn h Φ)),looks_typeIn h a.2,I _ _ h⟩ ho H (Co h Y hm) ?_;have y:Nx B No μ s1 m μ {s1 with heap:=s1.heap.push (methodObj (.ref g) (.ref x)),toks:=s1.toks+1}:=Nx.of_keep j.1 (λb o e=>bj _ e) rfl rfl;have D:=(S.next j).next y;refine iw (show methodCallPos _ _ _ ap p=pure p from by unfold methodCallPos;refine Z hl ?_;rfl) ?_
 have t:wpAny _ A _ (λvals R=>MethP _ s1.heap.objs.size g _ _/\wpAny _ A (call (.ref s1.heap.objs.size) _) _ E R) E _:=
  mo (h1 J m _ q A fs _ μ _ E W D p) (λvals R w=>by
   refine w.k λvs m3 T q3 r3 u=>?_;clear w;have k:=u.kep (cg _ rfl) (λz=>z.elim (j.1.new_not (bQ _)) id) (e8 rfl);refine⟨⟨k,(D.next u).1.X⟩,iB (method_call k (codeAny_mono (q3 A fs T R E _ W (D.next u).1 (aq.cons ((Y.nx j.1 y).nx y.1 u) r3)) λN s4 M=>?_))⟩;rcases N with er|(v|_|_|_)<;>first|exact M|exact M.elim|skip
   exact((M.step u).step y).step j)
 refine callWith_of (P:=MethP _ _ g (.ref x)) (by refine Z he<|Z F ?_;rfl) (keeps_M a.1) ?_
 rw[he]at t⊢;exact evalArgs_plain t
theorem HG{np cp ap p:Pos}(Ω:mX B f fd C (B.N.cls c) i name g)(I:nh fd f U)(Φ:Ar d A fs)(S:St B fd.scope fs U J m μ s)(N:J[i]?=some (some (.obj c n)))
 (q:aP B d g [.obj c n] m Q)(L:(ap.endLine==p.line)=true):
 dW (.func body U) (model B.prog B.w) A (eval (.Call (.Attribute (.Call (.Name "super" np) [] [] cp) name ap) [] [] p) U) (ds B μ s Q) E s:=by
 refine dI (AJ Ω I S N λx s1 H j M=>dU (gR ?_));obtain⟨⟨_,_,_,_,_,_,_,t⟩,a,⟨l,P,r,hm,k,w,y⟩,u⟩:=Ω;have h:=(S.next j).1.X;refine eD<|wT h a.2 ⟨(dk l P r (y _ _ h) k (looks_ownIn h w)),looks_typeIn h a.2,u _ _ h⟩ M t (Co h H hm) ?_;have z:Nx B No μ s1 m μ {s1 with heap:=s1.heap.push (methodObj (.ref g) (.ref x)),toks:=s1.toks+1}:=Nx.of_keep j.1 (λb o e=>bj _ e) rfl rfl;have G:=(S.next j).next z;refine iw (show methodCallPos _ _ _ ap p=pure p from by unfold methodCallPos;refine Z L ?_;rfl) ?_
 refine callWith_M0 ⟨(cg _ rfl),G.1.X⟩ a.1 ?_;refine iB (method_call (cg _ rfl) ?_);refine codeAny_mono (q A fs μ _ E _ Φ G.1 (aq.cons (H.nx j.1 z) aq.nil)) λF T D=>?_;rcases F with R|(v|_|_|_)<;>first|exact D|exact D.elim|skip
 exact(D.step z).step j
def kZ(B:bB)(fd:FuncData)(f:Addr)(body:List Stmt)(d:Nat)(sts:List Stmt)(D:DS):Prop:=
 ∀J m Q,D J m Q->∀A fs U μ s E,nh fd f U->Ar d A fs->St B fd.scope fs U J m μ s->dW (.func body U) (model B.prog B.w) A (execs sts U) (lT B fd.scope fs U μ s Q) E s
theorem Ej{D:DS}(h:i3 B fd.scope d sts D):kZ B fd f body d sts D:=λJ m Q q A fs U μ s E _ b S=>dU (h J m Q q A fs _ μ s E b S)
theorem PB{st:Stmt}{D1 D2:DS}(h1:fJ B fd.scope d st D1)(t:kZ B fd f body d sts D2):kZ B fd f body d (st::sts) (nU D1 D2):=by
 refine λJ m Q q A fs U μ s E n j S=>dI (dU (mo (h1 J m _ q A fs _ μ s E j S) (λu s1 l=>l.k λr b m1 μ1 q1 c i k=>?_)));clear l;cases r with
 |next=>exact Z c<|nE (t _ m1 Q q1 A fs _ μ1 s1 E n j i) (λ_ _ p=>p.step xK k) λ_ _ e=>e
 |ret v=>refine ac c λa o g=>?_;clear c;exact Z o<|wE ⟨.ret v,b,m1,μ1,q1,(ad a rfl g),i,k⟩
def tF(B:bB)(fd:FuncData)(f:Addr)(body:List Stmt)(d:Nat)(e:Expr)(D:DE):Prop:=
 ∀J m Q,D J m Q->∀A fs U μ s E,nh fd f U->Ar d A fs->St B fd.scope fs U J m μ s->dW (.func body U) (model B.prog B.w) A (eval e U) (ds B μ s Q) E s
def pL(i c:Nat)(J:bh)(Q:V->Prop):Prop:=∃n,J[i]?=some (some (.obj c n))/\Q (.obj c n)
theorem PC{np cp ap p:Pos}(Ω:mX B f fd C (B.N.cls c) i name g)(h1:d7 B fd.scope d (e::rest) Ds)
 (j:∀U,methodCallForm ((e::rest).length+0) (backTo p (starEach (e::rest) U)) (backToKw p (keywordEach [] U))=true)(k:(ap.endLine==p.line)=true)
 (he:∀U,starEach (e::rest) U=(false,eval e U)::starEach rest U)(a:∀U,(backTo p (starEach rest U)).any (·.1)=false):
 tF B fd f body d (.Call (.Attribute (.Call (.Name "super" np) [] [] cp) name ap) (e::rest) [] p) λJ m Q=>pL i c J λx=>Ds J m λvs m=>aP B d g (x::vs) m Q:=λJ m Q w A fs U μ s E b h S=>ac w λn l q=>HH Ω b h S l h1 q (j _) k (he _) (a _)
theorem Ek{np cp ap p:Pos}(Ω:mX B f fd C (B.N.cls c) i name g)(e:(ap.endLine==p.line)=true):
 tF B fd f body d (.Call (.Attribute (.Call (.Name "super" np) [] [] cp) name ap) [] [] p) λJ m Q=>pL i c J λx=>aP B d g [x] m Q:=λJ m Q w A fs U μ s E a b S=>ac w λn h q=>HG Ω a b S h q e
theorem Ei{D2:DS}(h1:tF B fd f body d e D1)(h:kZ B fd f body d sts D2)(hs:autoParam (∀U,swapsWith e none p.line U=pure false) bF):
 kZ B fd f body d (.Expr e p::sts) λJ m Q=>D1 J m λ_ m=>D2 J m Q:=by
 intro J m Q q A fs U μ s E b c S;refine Z (arm_execs_cons ..)<|Z (exec_Expr _ e p (yL S.2.1) (hs _))<|dI (dI (dU (wpAny_standAt (dI (nE (h1 J m _ q A fs _ μ s E b c S) (λk s1 i=>?_) λ_ _ e=>e)))));obtain⟨x,m1,μ1,q1,j,g⟩:=i;exact dU (wpAny_dropValue (nE (h J m1 Q q1 A fs _ μ1 s1 E b c (S.next g)) (λ_ _ p=>p.step cG g) λ_ _ e=>e))
theorem PA(h1:tF B fd f body d e D1):
 kZ B fd f body d [.Return (some e) p] λJ m Q=>D1 J m λv m=>Q (.ret v) J m:=by
 intro J m Q q A fs U μ s E b c S;refine dI (dI (dU (wpAny_standAt (dI (nE (h1 J m _ q A fs _ μ s E b c S) (λh s1 i=>?_) λ_ _ e=>e)))));obtain⟨x,m1,μ1,q1,g,a⟩:=i;exact wE (wE ⟨.ret x,J,m1,μ1,q1,(ad h rfl g),S.next a,a.mono cG⟩)
theorem Ev
 (n:A.depth<recursionLimit)(D:s.heap.get? a=some o)(m:o.data=.func fd)(t:s.heap.NoLimit)(y:s.heap.CodeRec fd.code fd.qualname)
 (k:fd.body=.stmts body)(j:BindsTo s fd q binds)
 (l:∀x∈fd.scope.names,x.2≠.cell)(u:∀x∈binds,fd.scope.names.lookup x.1=some .local)
 (h:∀c,c.Ns s.heap.objs.size (λx=>binds.reverse.lookup x)->(∀b o,s.heap.get? b=some o->c.get? b=some o)->
  dW (.func body (callEnv fd s.heap.objs.size a)) (model prog w) (A.deeper (callEnv fd s.heap.objs.size a)) (execs body (callEnv fd s.heap.objs.size a)) (λf s'=>R (.ok (.ret (match f with| .ret v=>v|_=>.none))) s')
   (λe s'=>wpAny (model prog w) (A.deeper (callEnv fd s.heap.objs.size a)) (leaving (callEnv fd s.heap.objs.size a) e) (λ_ p=>R (.error e) p) (λB p=>R (.error B) p) s')
   {s with heap:=c,toks:=s.toks+binds.length})
 (z:fd.scope.isCoroutine=false)(r:fd.scope.isGenerator=false)(C:fd.scope.kind=.function):
 codeAny (model prog w) A (.call (.ref a) q) R s:=codeAny_call_function n D m z r k y (j _ _ _ _ (wpAny_newFunctionEnv l u (λc i g=>⟨t.fresh _ g,Qb (h c i λb o e=>g.extBut b o (bI (dH e)) (bj _ e))⟩) C))
theorem Qw{D:DS}(F:re B.K f fd body ps)(u:fd.closure=[(Ψ,H)])(t:B.K.lookup H=some Y)(P:Y.data=.cell v0)
 (a:∀x∈fd.scope.names,x.2≠.cell)(n:∀vals:List Value,vals.length=ps.length->bindArgs fd ⟨vals,[]⟩=pure (ps.zip vals))
 (hb:kZ B fd f body d body D) vs m Q(C:vs.length=ps.length)(q:D (iD fd.scope ps vs) m (dY Q)):aP B (d+1) f vs m Q:=by
 refine λA fs μ s E vals Ω S r=>ac F.1 λo hK I=>?_;have G:vals.length=ps.length:=Z C.symm r.length.symm
 have j:∀x∈ps,fd.scope.names.lookup x=some .local:=λx Φ=>by
  refine aI (F.12 x Φ) λk w=>?_;rcases F.11 _ (fU w) Φ with z|z
  ·exact Z z.symm w
  ·exact absurd z (a _ (fU w))
 have W:∀b,s.heap.get? b=none->B.h0.get? b=none:=λb e=>by
  cases q:B.h0.get? b with
  |none=>rfl
  |some o=>have:=S.1 b o q;rw[e]at this;exact aN this
 have R:H∉μ:=λz=>by have:=S.5 H z;rw[(B.KX _ _ t)]at this;exact gO this
 refine Ev (((aE Ω.1):A.depth<1000)) (S.X _ _ hK) I (B.lim.keeps S.1) (codeRec_of S.X F.3) F.2 (.of_eq (n _ G)) a (λx Φ=>j _ (List.of_mem_zip Φ).1) (λl h kp=>?_) F.9 F.10 F.8;have T:Nx B No μ s m μ {s with heap:=l,toks:=s.toks+(ps.zip vals).length}:=Nx.of_keep S.4 kp rfl rfl
 have L:∀y c,(callEnv fd s.heap.objs.size f).cells.lookup y=some c->c=H/\y=Ψ:=λy c e=>by
  have e:List.lookup y fd.closure=some c:=e;rw[u,fk]at e
  split at e
  ·rename_i q;replace e:=aG e;exact Z e.symm<|⟨rfl,fA.mp q⟩
  ·cases e
 have N:St B fd.scope (callEnv fd s.heap.objs.size f::fs) (callEnv fd s.heap.objs.size f) (iD fd.scope ps vs) m μ {s with heap:=l,toks:=s.toks+(ps.zip vals).length}:=by
  refine⟨?_,?_,?_⟩
  ·have g:=(S.next T λ_ q=>q.elim)
   refine iF h λo es ep X I _=>?_;clear h;refine⟨g.1,g.2,g.3,g.4,g.5,((bt (by refine Z F.8 ?_;decide) (vf _ o rfl (W _ (bQ _)) X (λvs=>Z I<|λq=>kk PySem.Data.ctorIdx q rfl)) g.6)),g.7.cons rfl X ⟨_,_,I⟩ (S.4.new_not (bQ _))⟩
  ·refine⟨F.8,F.6,F.7,(λ_ e=>e),(λ_ e=>e),(λ_ e=>e),(λy z c e1 e2=>(L y c e1).2.trans (L z c e2).2.symm),F.5,(by simp[iD]),⟨_,h⟩,(λy e=>absurd rfl (a _ (fU e))),(λy c e=>?_),S.4.new_not (bQ _),(λy c e=>(L y c e).1▸R),(λi v e=>?_)⟩
   ·exact Z ((L y c e).1)<|⟨v0,Y,(kp _ _ (S.1 _ _ (B.KX _ _ t))),P⟩
   ·unfold iD at e
    rw[eX]at e
    cases q:fd.scope.names[i]? with
    |none=>rw[q]at e;exact aN e
    |some p=>rw[q]at e;simp only[Option.map_some,Option.some.injEq]at e;exact ac (zQ r e) λv' e' rv=>(dk _ _ v' rfl (.inl ⟨(j _ (zP e)),_,h,CI (Z ((by rewrite[List.map_fst_zip];rfl;exact(aA G.symm):(ps.zip _).map _=ps)) F.4) e'⟩) (rv.nx S.4 T))
  ·exact⟨W _ (bQ _),λy c e _=>absurd rfl (a _ (fU e))⟩
 refine nE (hb _ m _ q _ _ _ μ _ _ ⟨rfl,rfl,rfl,rfl⟩ Ω.deeper N) (λfl s' p=>?_) λ_ _ e=>e
 have of:∀b,b9 _ (callEnv fd s.heap.objs.size f) b->s.heap.get? b=none:=λb o=>by
  rcases o with rfl|⟨y,w,_⟩
  ·exact(bQ _)
  ·exact absurd rfl (a _ (fU w))
 exact Om (E:=E) T of p
theorem I8{y v:V}{Q:bY}(q:hZ (.loc n) y v m Q)(nl:∀l,m[n]?≠some (.list l)):hZ (.loc n) y v m λm'=>Q m'/\∀l,m'[n]?≠some (.list l):=by
 refine q.k λc q=>?_
 have b:∀o,(∀l,o≠.list l)->∀l,(m.set n o)[n]?≠some _:=λo f l e=>by
  rw[l8]at e
  split at e
  ·refine jc e (λg e=>?_) (λg e=>?_)
   ·exact f l (aG e)
   ·exact aN e
  ·rename_i z;exact z rfl
 refine iA.mk c ?_;rename_i o
 cases o with
 |list l=>exact absurd c (nl l)
 |idict l=>exact fv (xW q) λk a hz q=>Z a<|(bt hz q (b _ (λ_ z=>kk O.ctorIdx z rfl)))
 |tdict l=>obtain⟨t,rfl,k,d,hz,q⟩:=lx q;exact⟨k,d,hz,q,b _ (λ_ z=>kk O.ctorIdx z rfl)⟩
 |sdict l=>exact fv (Lg q) λk a hz q=>Z a<|(bt hz q (b _ (λ_ z=>kk O.ctorIdx z rfl)))
 |_=>exact q.elim
def sR(n:Nat):List (V×V)->av->bY->Prop
 |[],m,Q=>Q m
 |(k,v)::r,m,Q=>hZ (.loc n) k v m λm=>sR n r m Q
def qM(N:gT)(μ:List Addr)(h:Heap):List (V×V)->List (Value×Value)->Prop
 |[],vs=>vs=[]
 |(x,y)::r,vs=>cL λa b w=>dQ (vs=(a,b)::w) (aj N μ h x a) (aj N μ h y b) (qM N μ h r w)
theorem qM.nx{x:List (V×V)}:∀{a:List (Value×Value)}{m m':av}{μ':List Addr}{s':Shared}(M:bw B.prog B.w B.N μ m s.heap)(n:Nx B No μ s m' μ' s')(r:qM B.N μ s.heap x a),qM B.N μ' s'.heap x a:=by
 induction x with
 |nil=>intro a m m' μ' s' M n r;exact r
 |cons p r c=>intro a m m' μ' s' M n r;exact yx r λv b w r=>yz r λe d f g=>⟨v,b,w,e,d.nx M n,f.nx M n,c M n g⟩
theorem HV{Q:bY}{R:PUnit->Shared->Prop}(j:Ar d A fs):∀ps vs m s,sR n ps m Q->(∀l,m[n]?≠some (.list l))->b_ B fs m μ s->μ[n]?=some aa->qM B.N μ s.heap ps vs->
 (∀m' s',Q m'->Nx B No μ s m' μ s'->R PUnit.unit s')->wpAny (model B.prog B.w) A (storeAll aa vs) R E s:=by
 intro ps
 induction ps with
 |nil=>exact λvs m s q nl S c r h=>Z r<|aD (h m s q (Nx.refl S.4))
 |cons p ps k=>intro vs m s q nl S c t h;obtain⟨a,b,w,e,v,x,y⟩:=t;refine Z e ?_;unfold storeAll;exact Z (List.forIn_cons ..)<|f7 (s8 (I8 q nl) nl (by unfold cLine;exact aE j.2) S c v x λm1 s1 g f=>aD (k w m1 s1 g.1 g.2 (S.next f λ_ q=>q.elim) c (y.nx S.4 f) λm' s' u o=>h m' s' u (f.trans o)))
abbrev DP:=bh->av->(List (V×V)->av->Prop)->Prop
def oZ(B:bB)(sc:Scope)(d:Nat)(ks:List (Option Expr))(vs:List Expr)(D:DP):Prop:=
 ∀J m Q,D J m Q->∀A fs U μ s E,Ar d A fs->St B sc fs U J m μ s->∀pos,wpAny (model B.prog B.w) A (evalPairs (pairTrees ks vs U pos)) (λps s'=>cL λxs m' μ'=>br (Q xs m') (qM B.N μ' s'.heap xs ps) (Nx B No μ s m' μ' s')) E s
theorem Ps:oZ B sc d [] [] λ_ m Q=>Q [] m:=by intro J m Q q A fs U μ s E a S pos;exact pairTrees_nil_walk (dk [] m μ q rfl (Nx.refl S.1.4))
theorem Pt{k v:Expr}{vs:List Expr}(h1:a7 B sc d k D1)(n:a7 B sc d v D2)(o:oZ B sc d ks vs D3):
 oZ B sc d (some k::ks) (v::vs) λJ m Q=>D1 J m λx m=>D2 J m λy m=>D3 J m λr m=>Q ((x,y)::r) m:=by
 intro J m Q q A fs U μ s E g S pos;refine pairTrees_cons_walk (mo (h1 J m _ q A fs _ μ s E g S) (λa s1 c=>c.k λx m1 μ1 q1 u f=>?_));clear c;refine mo (n J m1 _ q1 A fs _ μ1 s1 E g (S.next f)) (λb s2 c=>c.k λy p i q2 z e=>?_);clear c;refine mo (o J p _ q2 A fs _ i s2 E g ((S.next f).next e) _) (λw D c=>g_ c λxs t j q3 C h=>?_);clear c;exact(dk _ t j q3 ⟨a,b,w,rfl,(u.nx f.1 e).nx e.1 h,z.nx e.1 h,C⟩ (f.trans (e.trans h)))
theorem su a(M:bw B.prog B.w B.N μ m s.heap):(μ++[s.heap.objs.size])[m.length]?=some s.heap.objs.size/\Nx B No μ s (m++[fb a]) (μ++[s.heap.objs.size]) {s with heap:=s.heap.push {cls:=.type "dict",data:=.dict #[]}}:=by
 have k:∀b o,s.heap.get? b=some o->(s.heap.push {cls:=.type "dict",data:=.dict #[]}).get? b=some o:=λb o e=>bj _ e;refine⟨by exact Z M.1.symm<|gN,?_⟩
 match a with
 |0=>exact Nx.new M k (bQ _) (b6 [] (Heap.DictOf.new _) rfl aq.nil) rfl rfl
 |1=>exact Nx.new M k (bQ _) (b6 [] (Heap.DictOf.new _) rfl aq.nil) rfl rfl
 |_+2=>exact Nx.new (o:=.tdict []) M k (bQ _) (gP [] (Heap.DictOfH.new _) rfl aq.nil (λx c=>bx c)) rfl rfl
theorem OS{vs:List Expr}{D:DP} a(h1:oZ B sc d ks vs D)(c:autoParam (ks.all (·.isSome)=true) bF)(o:autoParam (ks.length=vs.length) bF)(n:ks≠[]:=by simp)(e:ks.length<=15:=by decide):
 a7 B sc d (.Dict ks vs p) λJ m Q=>D J (m++[fb a]) λxs m1=>(∀l,m1[m.length]?≠some (.list l))/\sR m.length xs m1 λr=>Q (.loc m.length) r:=by
 intro J m Q q A fs U μ s E h S;have g:=S.next (su a S.1.4).2
 refine wpAny_Dict_any c o n e (mo (h1 J _ _ q A fs _ _ _ E h g p) (λps s1 j=>g_ j λxs m1 μ1 i v f=>?_));clear j;have b:μ1[m.length]?=some s.heap.objs.size:=by refine ac f.2 λw k _=>Z k<|Z (cu (bV.mp (su a S.1.4).1).1) ?_;exact(su a S.1.4).1
 exact HV h xs ps m1 s1 i.2 i.1 (g.next f).1 b v λm' s' u t=>⟨_,_,_,u,aj.loc_ b,(su a S.1.4).2.trans (f.trans t)⟩
def oG(T:DT)(src:bY)(Dk Dv:DE)(n:Nat):List V->bh->av->bY->Prop
 |[],_,m,Q=>src m/\Q m
 |x::r,J,m,Q=>src m/\T x J m λJ m=>Dk J m λk m=>Dv J m λv m=>(∀l,m[n]?≠some (.list l))/\hZ (.loc n) k v m λm=>oG T src Dk Dv n r J m Q
section
variable{own:Addr->Prop}
theorem P9{D:Addr}(I:Nat->Shared->Prop)
 (z:∀n s,I n s->wpAny (model prog w) A (pyNext it) (λr b=>match r with
  |none=>R (.ok .next) b
  |some v=>wpAny (model prog w) A (letOwnedTupleGo target it v) (λ_ d=>wpAny (model prog w) A (assign target U v) (λ_ j=>
   wpAny (model prog w) A (forIn ifs true λc r=>if r=true then do let ok<-isTrue c U (eval c U);pure (ForInStep.yield ok)else pure (ForInStep.yield r)) (λok f=>
    if ok=true then wpAny (model prog w) A (eval kx U) (λC k=>wpAny (model prog w) A (eval H U) (λE l=>wpAny (model prog w) A (dictSet D C E) (λ_ o=>∃m,m<n/\I m o) (notedBy (model prog w) A U λe s'=>R (.error e) s') l) (notedBy (model prog w) A U λe s'=>R (.error e) s') k) (notedBy (model prog w) A U λe s'=>R (.error e) s') f
    else∃m,m<n/\I m f) (notedBy (model prog w) A U λe s'=>R (.error e) s') j) (notedBy (model prog w) A U λe s'=>R (.error e) s') d) (notedBy (model prog w) A U λe s'=>R (.error e) s') b) (notedBy (model prog w) A U λe s'=>R (.error e) s') s)
 n(h:I n s):
 codeAny (model prog w) A (.compLoop (.DictComp kx H [⟨target,iter,ifs,0⟩] scope pos) 0 it (.ref D) U) R s:=by
 refine codeAny_loop rfl I (λn s F=>(?_:wpAny _ A ((compTurn _ 0 it _ _).onRaise (λx=>do noteFrame x _;theTreesLotGoes x)) _ _ s)) n h
 refine wpAny_noted<|Z (compTurn_dict ..)<|gR (ag (mo (z n s F) (λr b g=>?_)))
 cases r with
 |none=>exact aD g
 |some v=>
  refine ag (mo g (λ_ d p=>ag (mo p (λ_ j q=>ag (wpAny_mono q (λok f i=>?_) λ_ _ h'=>h')))))
  cases ok with
  |false=>exact aD ⟨rfl,i⟩
  |true=>exact f7 (mo i (λC k t=>eD (wpAny_mono t (λE l u=>gR (eJ (wpAny_mono u (λ_ o y=>aD ⟨rfl,y⟩) λ_ _ h'=>h'))) λ_ _ h'=>h')))
theorem P1{x:Str}{D:Addr}{items:List V}{Q:bY}
 (ht:gf B scope d (.Name x px) T)(hk:a7 B scope d kx Y)(hv:a7 B scope d vx Ψ)(u:Ar d A fs)(S:St B scope fs cenv le1 m μ s)(n0:Nx B No μ0 s0 m μ s)(G:gc B it (.Name x px) own src items μ' h)(ga:dC own μ' h μ s.heap)(al:j8 own s.heap)
 (fO:∀b,own b->s0.heap.get? b=none)(fC:∀b,b9 scope cenv b->s0.heap.get? b=none)(f:∀b,own b->¬gJ cenv b)(E:∀b,own b->B.h0.get? b=none)(M:μ[n]?=some D)(q:oG T src Y Ψ n items le1 m Q)
 (hR:∀s' m' μ',Q m'->Nx B No μ0 s0 m' μ' s'->μ'[n]?=some D->cenv.locals∉μ'->(∃mm,s'.heap.Ns cenv.locals mm)->R (.ok .next) s'):
 codeAny (model B.prog B.w) A (.compLoop (.DictComp kx vx [⟨.Name x px,α,[],0⟩] scope pos) 0 it (.ref D) cenv) R s:=by
 have i:∀{P:Addr->Prop}{m2:av}{μ1 C:List _}{s1 s2:Shared},Nx B P μ1 s1 m2 C s2->μ1[n]?=some D->C[n]?=some D:=λnx l=>by refine ac nx.2 λν e_ _=>Z e_<|Z (cu (bV.mp l).1) ?_;exact l
 refine P9 (λk s'=>oY λr j m' μ' p Φ=>tL (k=r.length) (oG T _ Y Ψ n r j m' Q) (St B _ fs _ j m' μ' s') (Nx B No μ0 s0 m' μ' s') (gc B it _ _ _ r p Φ) (dC _ p Φ μ' s'.heap) ((j8 _ s'.heap)) (μ'[n]?=some D)) (λk s' w0=>?_) _ ⟨items,le1,m,μ,_,_,rfl,q,S,n0,G,ga,al,M⟩;obtain⟨r,j,m',μ',p,Φ,hn,q,t,n',G',a,β,e⟩:=w0;cases r with
 |nil=>exact G'.nil_go u t.1 a q.1 λs1 x=>hR s1 m' μ' q.2 (n'.aside x fO a.4) e (t.aside x a.4 f E).2.13 (t.aside x a.4 f E).2.10
 |cons y r=>refine G'.cons_go u t.1 a q.1 λv s1 x1 I rv g2=>mo (ht y _ m' _ q.2 A fs _ μ' s1 _ v u (t.aside x1 a.4 f E) rv) (λ_ s3 w2=>w2.k λL m3 Ω q3 S3 n3=>?_);clear w2;refine wpAny_tests_nil<|mo (hk _ m3 _ q3 A fs _ Ω s3 _ u S3) (λka s4 w2=>?_);obtain⟨z4,m4,W,q4,r4,N⟩:=w2;have H:=S3.next N;refine mo (hv _ m4 _ q4 A fs _ W s4 _ u H) (λva s5 w2=>w2.k λz5 m5 X u0 r5 F=>?_);clear w2;exact have z:=n3.trans ((N.trans F).mono cG);s8 u0.2 u0.1 (by unfold cLine;exact aE u.2) (H.next F).1 (i z e) (r4.nx N.1 F) r5 λm6 s6 q6 n6=>have o:=z.trans (n6.mono cG);have g:=dC.nx (t.aside x1 a.4 f E) o I a.4 f;⟨r.length,Z hn<|jq _,r,L,m6,X,μ',s1.heap,rfl,q6,(H.next F).next n6,(((n'.aside x1 fO a.4).mono cG).trans o).forget fC,g2,g.1,g.2,i o e⟩
theorem OT n cap{x:Str}{I:DI}
 (r:ff sc scope cap=true)(N:fq scope=true)(l:scope.kind=.function)(X:j5 B sc d (.Name x px) iter I)(ht:gf B scope d (.Name x px) T)(hk:a7 B scope d kx Dk)(hv:a7 B scope d vx Dv)(hs:autoParam (∀U x,foldedSetIterable iter U x=pure x) bF):
 a7 B sc d (.DictComp kx vx [⟨.Name x px,iter,[],0⟩] scope pos) λJ m Q=>I J m λitems src m1=>oG T src Dk Dv m1.length items (hH J cap) (m1++[fb n]) λm2=>Q (.loc m1.length) m2:=by
 intro J m Q q A fs U μ s E ar S
 have f:∀x,(x,NameKind.free)∈scope.names->(U.cells.lookup x).isSome=true:=λx hx=>by refine aI (qW.mp hx) λj Y=>ac (zk r Y) λi _ X=>bS (S.2.11 x (cW (de S.2.8) X)) λc _ hc _=>Z hc ?_;rfl
 refine wpAny_comprehension_free rfl (hs _) (Ex (M:=model B.prog B.w) (Q:=λ_ _=>True) f) l (λy Ψ e=>?_) ?_
 ·exact aI (qW.mp Ψ) λj Y=>Z e.symm<|cW (de N) Y
 refine mo (X J m _ q A fs _ μ s E ar S) (λx s1 h1=>mo h1 (λit s2 P=>P.k λitems src m2 μ2 own q2 Φ k W α=>?_));clear P;refine a_ (su n (S.next Φ).1.4) λloc R=>?_;have ND:=Φ.trans R;have SD:=(S.next Φ).next R;refine kg (wpAny_newFunctionEnv (oI r) (by intro y Ψ;simp at Ψ) (λH g h=>?_) l)
 generalize G:s2.heap.push _=v at g h R ND SD⊢;have p:=λb o e=>h.extBut b o (bI (dH e)) (bj _ e);have u:=λb o e=>p b o (G▸bj _ e);have D:s2.heap.get? v.objs.size=none:=by
  cases e:s2.heap.get? _ with
  |none=>rfl
  |some o=>have:=bj {cls:=.type "dict",dict:=none,data:=.dict #[]} e;rw[G,(bQ v)]at this;exact aN this
 have n3:Nx B No _ _ _ _ {s2 with heap:=H,toks:=s2.toks+([]:List (Str×Value)).length}:=Nx.of_keep R.1 p rfl rfl
 have t:∀b,gJ (compEnvC scope (f6 U.cells scope.names []) v.objs.size U) b->b=v.objs.size\/∃o,s.heap.get? b=some o:=λb z=>by
  rcases z with rfl|⟨x,e⟩
  ·exact .inl rfl
  ·exact lG (S.2.12 x b ((λx c e=>zg f (λ_ _ q=>by exact aN q) e) x b e)) λ_ o ho _=>.inr ⟨o,ho⟩
 have L:∀b,b9 _ (compEnvC scope (f6 U.cells scope.names []) v.objs.size U) b->b=v.objs.size:=λb z=>by
  rcases z with rfl|⟨x,e,_⟩
  ·rfl
  ·exact absurd rfl (oI r _ (fU e))
 refine codeAny_compStart_dict (env:=compEnvC _ (f6 _ _ []) v.objs.size _) ?_ (k.2 _ _ _ _ (λb o w e=>u b o e) ?_)<;>
 ·refine P1 ht hk hv ar (Er SD r N l g p (bQ v)) (ND.trans n3) k.1 (dC.mk (ad _ rfl (λa ha=>?_)) (λb o e _ _=>u b o e) (λb o _ e=>u b o e) (λb w z=>?_)) (λb w=>?_) W (λb w=>(L b w)▸(Φ.fresh_of D)) (λb w z=>?_) (λb w=>S.h0own (W b w)) loc q2 (λs' m' μ' qv nv lv Ω P=>?_)
  ·simp only[b5]at ha;subst ha;exact(bQ _)
  ·rcases cO.mp z with z|z
   ·exact α b w z
   ·simp only[b5]at z;subst z
    refine ac (k.3 _ w) λo e _=>?_;rw[(bQ _)]at e;exact aN e
  ·exact ac (k.3 b w) λo e dd=>(ad o (u b o e) dd)
  ·rcases t b z with rfl|⟨o,e⟩
   ·refine ac (k.3 _ w) λo e _=>?_;rw[D]at e;exact aN e
   ·rw[W b w]at e;exact aN e
  ·refine aI P λmm F=>?_;clear P;exact(ad mm F (λh' sb=>⟨_,_,_,qv,aj.loc_ lv,nv.letgo F Ω (Φ.fresh_of D) sb⟩))
end
namespace F
theorem len_set:typeLookup (.type "set") "__len__"=pure (some (.builtin "set.__len__")):=by kernel_rfl
theorem len_dict:typeLookup (.type "dict") "__len__"=pure (some (.builtin "dict.__len__")):=by kernel_rfl
end F
section
variable{n:Nat}{P:Nat->Value->Prop}{St:Nat->Shared->Prop}
theorem Eu{T:String}{Q:List Value->Shared->Prop}(q:T="set"\/T="dict")(C:s.heap.get? a=some o)(B:o.cls=.type T)
 (h:∀s1 G I,s1.heap.get? a=some o->G (.ref s1.heap.objs.size) {s1 with heap:=s1.heap.push itObj}->wpAny (model prog w) A.in1 (pyIter (.ref a)) G I s1)
 (W:WalksS prog w A.in1 (s.heap.objs.size+1) [s.heap.objs.size+1,a] [s.heap.objs.size+1] (λx y=>y=x) n P St)
 (D:∀s1:Shared,s1.heap.get? a=some o->s1.heap.get? (s.heap.objs.size+1)=some itObj->St 0 s1)
 (Φ:itObj.isFreed=false)
 (M:∀s' acc,(∀b o,s.heap.get? b=some o->s'.heap.get? b=some o)->s'.gens=s.gens->s'.drawn=s.drawn->s'.os=s.os->ItemsOf P acc n->Q acc.toList s')(N:n<=sizeLine):
 wpAny (model prog w) A (collect (.ref a)) Q E s:=by
 have z:=dH C;have v:s.heap.objs.size∉[s.heap.objs.size+1,a]:=by simp only[bK,oU,or_false,not_or];exact⟨bI (jq _),hL z⟩
 refine ag (wpAny_runValue (mS PySem.F.entry_proto_collect (ag (kg (aD ⟨plainId_quiet PySem.F.plain_list_iadd _,mS PySem.F.entry_list_iadd ?_⟩)))));have i:(s.heap.push {cls:=.type "list",data:=.seq [].toArray}).get? a=some o:=bj _ C;have p:Shared.TypeIs {s with heap:=s.heap.push _} (.ref a) T:=(ad o i B);have f:(s.heap.push _).get? _=some {cls:=.type "list",data:=.seq [].toArray}:=cg _ rfl;refine((qH p (Z (ai (by refine Z ((by simp[Builtin.List.listSameRef,hL z]:Builtin.List.listSameRef _ _=false)) ?_;rcases q with rfl|rfl<;>decide)) ?_)):wpAny _ A.in1 (Builtin.List.listExtendWith (.ref s.heap.objs.size) _ _) _ _ _)
 refine ag (h _ _ _ i ?_);have hsz:(s.heap.push {cls:=.type "list",data:=.seq [].toArray}).objs.size=s.heap.objs.size+1:=kW _ _;dsimp only;generalize L:(s.heap.push _)=l at*;refine Z hsz ?_;have t:(l.push itObj).get? a=some o:=bj _ i;have j:Shared.TypeIs {s with heap:=l.push _} (.ref a) T:=(ad o t B);have d:(l.push itObj).get? _=some _:=bj _ f;refine eD ?_;clear C B h i p f;rcases q with rfl|rfl
 all_goals
  refine ag (wpAny_specialOf j (by first|exact F.len_set|exact F.len_dict) (ag (wpAny_isInstance (b:=true) j (by kernel_rfl) (qH j ?_))))
  refine aD<|jW<|ag<|ag (wpAny_updateSeq d rfl ?_);have g:=jx (Obj.mapSeq (·.push Value.none)) d rfl
  refine wpAny_updateSeq g rfl ?_;have k:∀b o,b≠s.heap.objs.size->(l.push itObj).get? b=some o->(((l.push itObj).update s.heap.objs.size (Obj.mapSeq (·.push Value.none))).update s.heap.objs.size (Obj.mapSeq (·.pop))).get? b=some o:=
   λb o H e=>(jy _ _ (gS H)).trans ((jy _ _ (gS H)).trans e)
  refine aD ⟨plainId_quiet PySem.F.plain_extend_loop _,codeAny_extend_loopS W N _ v _ n 0 _ _ _ rfl (eT _)
   (D _ (k a o (bI z) t) (k _ _ (Nat.succ_ne_self _) (hsz▸cg _ Φ))) (jx (Obj.mapSeq (·.pop)) g rfl) (ItemsOf.nil P) λs' m R hm u r=>?_⟩
  refine ag (wpAny_load u (aD (M s' m (λb o e=>hm.heap b o ?_ (k b o (bI (dH e)) (bj _ (L▸bj _ e)))) hm.gens hm.drawn hm.os r)));simp only[bK,oU,or_false,not_or];exact⟨bI (dH e),bI (Nat.lt_succ_of_lt (dH e))⟩
theorem A4{Q:bL}
 (d:∀g,(∀s' vs,(∀b o,s.heap.get? b=some o->s'.heap.get? b=some o)->s'.gens=s.gens->s'.drawn=s.drawn->s'.os=s.os->(∃ms,IntsAre vs ms/\ms.Perm ns)->g vs s')->wpAny (model prog w) A.in1 (collect (.ref a)) g E s)
 (r:ns.length<64)
 (h:∀L s' out,(∀b o,s.heap.get? b=some o->s'.heap.get? b=some o)->s.heap.get? L=none->s'.gens=s.gens->s'.drawn=s.drawn->s'.os=s.os->s'.heap.PlainList L out->IntsAre out.toList (gY ns)->Q (.ref L) s'):
 wpAny (model prog w) A (call (.builtin "sorted") [.ref a]) Q E s:=by
 refine Calls.call_function_entry kind_sorted plain_sorted entry_sorted (args_sorted1 _)<|ag (aD (ag (d _ λs1 vs k1 p m u k=>ac k λms i j=>?_)));clear k;have c:vs.length<64:=by have:=i.length;have:=j.length_eq;lia
 refine ag (wpAny_newList (hsz:=Z ki<|aE c) ?_);have n:s.heap.get? s1.heap.objs.size=none:=by
  cases e:s.heap.get? _ with
  |none=>rfl
  |some o=>exact absurd (dH (k1 _ _ e)) (jY _)
 refine eD (gV slot_list_sort (ad _ (cg _ rfl) rfl) entry_list_sort (list_sort_tree (cg _ rfl) i c λout t a1 a2 l=>(ad _ rfl ?_)) (args_list_sort _));refine aI (sortedHeap_at (h:=s1.heap.push (seqObj _ vs.toArray 0)) (out:=out) (cg _ rfl)) λe he=>?_;exact aD (ad _ rfl (h _ _ _ (λb o q=>((Z (sortedHeap_old (bI (dH (k1 b o q))) (Z (size_push' ..)<|Nat.lt_succ_of_lt (dH (k1 b o q)))) (bj _ (k1 b o q))))) n p m u ⟨e,he⟩ (Z (xb (a2.trans j) l).symm a1)))
end
theorem M6:∀{ks:List Int}{vs:List Value},vs.length=ks.length->(∀(j:Nat) v,vs[j]?=some v->aV λk t=>ks[j]?=some k/\v=.int k t)->IntsAre vs ks:=by
 intro ks
 induction ks with
 |nil=>intro vs e h;cases vs with
  |nil=>exact .nil
  |cons v vs=>exact kk id e rfl
 |cons k ks d=>
  intro vs e h
  cases vs with
  |nil=>exact kk id e rfl
  |cons v vs=>exact bS (h 0 v rfl) λf t a b=>Z b<|Z ((aG a).symm)<| .cons _ _ (d (Nat.succ.inj e) λj v c=>h (j+1) v c)
def A6(vs:List V)(m:av)(Q:aS):Prop:=g8 vs λx=>gp x λn=>∃l,br (m[n]?=some (.idict l)) (l.length<64) (Q (.loc m.length) (m++[.list (iV (gY (l.map (·.1))))]))
theorem KL:eS B d (.builtin "sorted") A6:=by
 refine λvs m Q q A fs μ s E vals G S r=>h9 q r λy v Ω q=>gt q Ω λn a z D=>cB D λl e hz q=>?_;clear D;refine cB (S.4.3 _ _ _ z e) λkvs M w X=>?_;obtain⟨ep,hm⟩:=M.dictAt;have C:=by simpa using(bg List.length w)
 refine aI (id hm) λo h_=>fv h_ λes f Φ _=>A4 (ns:=l.map (·.1)) (λF i=>?_) (Z aY hz) λL s' out k1 H h u p P I=>?_
 ·refine Eu (itObj:={cls:=.type _,data:=.fields _}) (.inr rfl) f Φ.1 (λs1 F W h1 R=>?_)
   (Walks.dictKeys (by simpa using G.4) _ a (bI (Nat.lt_succ_of_lt (dH f))) _ ep).toS (λs1 h1 c=>⟨(gx _ c rfl rfl),hm.at' λT b=>by rw[f]at b;replace b:=aG b;subst b;exact h1⟩) rfl (λs' acc k1 h u p it=>?_) (Z ki<|aK hz (aA C))
  ·exact wpAny_pyIter_dict (S.notSys (bN z)) (hm.at' λT b=>by rw[f]at b;replace b:=aG b;subst b;exact h1) R
  ·refine i s' _ k1 h u p ⟨l.map _,M6 (Z mh<|Z it.1<|Z aY<|Z C rfl) λj v N=>lG (it.2 j v (by rwa [j7]at N)) λk x h1 c=>?_,.refl _⟩
   refine aI (Value.isInt_shape c) λt g=>?_;clear c;refine Z g<|(cP k t (Z w.symm (Z eX ?_)) rfl);refine Z h1 ?_;rfl
 ·refine⟨.loc _,_,μ++[L],q,aj.loc_ (Z S.4.1.symm (Z (l9 (aT _)) ?_)),Nx.new S.4 k1 H (ad _ P (vW I)) h p⟩;refine Z (lW ..) ?_;rfl
def rS(led:Bool)(ks:List Nat):SetTable:={mask:=7,place:=ks.toArray,dummies:=#[],finger:=0,led,moves:=0,plain:=true}
def dj(xs:List (Nat×Tok)):Array (Int×Value):=(xs.map λp=>((p.1:Int),Value.int p.1 p.2)).toArray
def fR(led:Bool)(ep:Nat)(xs:List (Nat×Tok)):Obj:={cls:=.type "set",dict:=none,data:=.set (dj xs) ep (rS led (xs.map (·.1)))}
def kH(k:Nat)(t:Tok):List (Nat×Tok)->List (Nat×Tok)
 |[]=>[(k,t)]
 |(j,u)::r=>if k<j then(k,t)::(j,u)::r else if k=j then(j,u)::r else(j,u)::kH k t r
theorem yO k t j u r:kH k t ((j,u)::r)=if k<j then(k,t)::(j,u)::r else if k=j then(j,u)::r else(j,u)::kH k t r:=rfl
theorem yt{c:Type}{l:List c}(h:l.length<=1):l=[]\/∃a,l=[a]:=by
 cases l with
 |nil=>exact .inl rfl
 |cons a r=>cases r with
  |nil=>exact .inr ⟨a,rfl⟩
  |cons b r=>exact absurd (qN h) (Nat.not_succ_le_zero _)
theorem yr{l:List α}(h:l.length<=2):l=[]\/(∃a,l=[a])\/aV λa b=>l=[a,b]:=by
 cases l with
 |nil=>exact .inl rfl
 |cons a r=>
  rcases yt (qN h)with e|⟨b,e⟩
  ·exact .inr (.inl ⟨a,Z e rfl⟩)
  ·exact .inr (.inr ⟨a,b,Z e rfl⟩)
theorem Mu led xs(k:Nat) t(c:xs.length<=1)(a:∀p∈xs,p.1<3)(b:k<3)(d:∀p∈xs,p.1≠k):
 layNew (rS led (xs.map (·.1))) (dj xs) k (.int k t)=(dj (kH k t xs),rS led ((kH k t xs).map (·.1)),false,false):=by
 have f:=q6 b;rcases yt c with e|⟨⟨j,u⟩,e⟩
 ·refine Z e ?_;clear d a c e b;rcases f with rfl|rfl|rfl<;>kernel_rfl
 ·have g:=q6 (a _ (Z e aQ))
  have h:j≠k:=d _ (Z e aQ);refine Z e ?_;clear d a c e b;rcases f with rfl|rfl|rfl<;>rcases g with rfl|rfl|rfl<;>first|exact absurd rfl h|kernel_rfl
theorem yV{k:Nat}(b:k<3):hashInt k=k:=by have:k=0\/k=1\/k=2:=q6;rcases this with rfl|rfl|rfl<;>decide+kernel
theorem Oo(b:∀p∈xs,p.1<3):ElemsOf (intKind prog w) (dj xs).toList:=λe he=>by unfold dj at he;rw[bT]at he;refine ac he λp c a=>?_;clear he;subst a;exact⟨(ad _ (intKind_is _ _ _ _) (yV (b p c)).symm),rfl⟩
theorem qr(c:xs.length<=2):(rS led (xs.map (·.1))).fits (dj xs).size=true:=by rcases yr c with e|⟨a,e⟩|⟨a,b,e⟩<;>refine Z e ?_<;>kernel_rfl
theorem NK(c:xs.length<=2):(rS led (xs.map (·.1))).tooFull=false:=by rcases yr c with e|⟨a,e⟩|⟨a,b,e⟩<;>refine Z e ?_<;>kernel_rfl
theorem yN k t:∀xs:List (Nat×Tok),(kH k t xs).length<=xs.length+1:=by
 intro xs
 induction xs with
 |nil=>exact aT _
 |cons b r a=>
  obtain⟨j,u⟩:=b;exact by
   refine Z (yO ..) ?_
   split
   ·exact aT _
   ·split
    ·exact iy _
    ·exact jp a
theorem M7{t:Tok}:∀{xs:List (Nat×Tok)},(∀p∈xs,p.1<3)->k<3->∀p∈kH k t xs,p.1<3:=by
 intro xs
 induction xs with
 |nil=>exact@λ_ c p a=>Z (b5.mp a) c
 |cons f r e=>
  obtain⟨j,u⟩:=f;intro b c p a;rw[yO]at a
  split at a
  ·rcases bK.mp a with rfl|a
   ·exact c
   ·exact b p a
  ·split at a
   ·exact b p a
   ·rcases bK.mp a with rfl|a
    ·exact b _ (.head _)
    ·exact e (λq d=>b q (.tail _ d)) c p a
theorem Rg{Q:Bool->Shared->Prop}(g:s.heap.get? a=some (fR led ep xs))(f:xs.length<=1)(r:∀p∈xs,p.1<3)(v:k<3)
 (h:∀b h' i,h'.get? a=some (fR led i (kH k t xs))->Heap.SameBut a s.heap h'->Q b {s with heap:=h'}):
 wpAny (model prog w) A (setAddHashed a (.int k t) k) Q E s:=by
 have c:=Oo (prog:=prog) (w:=w) r;have l:=qr (led:=led) (aF f);refine eJ (ag (pv g rfl l ?_));dsimp only;refine Z (byScan_of rfl (by refine Z ((by simp[dj]:(dj xs).size=xs.length)) ?_;unfold scanBound;exact aE f) c) ?_
 refine ag<|jW ?_;have sc:=λQ=>wpAny_setScan_of (knd:=intKind _ w) (A:=A) (E:=E) (x:=.int k t) (adding:=true) (Q:=Q) (intKind_is _ _ _ _) g rfl l c;rw[show(intKind _ w).hash k=k from(yV v)]at sc;refine ag (sc _ ?_)
 have o:((∀p∈xs,p.1≠k)/\List.findIdx? (λe=>(intKind prog w).is k e.2) (dj xs).toList=none)\/(List.findIdx? (λe=>(intKind prog w).is k e.2) (dj xs).toList=some 0/\kH k t xs=xs):=by
  rcases yt f with e|⟨⟨j,u⟩,e⟩<;>refine Z e ?_
  ·exact .inl ⟨(λp n=>bx n),rfl⟩
  ·by_cases q:j=k
   ·clear c l sc;refine Z q<| .inr ⟨?_,?_⟩
    ·simp[dj,intKind_is]
    ·exact(ai (jY _)).trans (ao rfl)
   ·refine .inl ⟨(λp n=>Z (b5.mp n) q),?_⟩
    have:(intKind prog w).is k (.int j u)=false:=gE λe=>q (by lia)
    simp[dj,this]
 rcases o with⟨y,d⟩|⟨d,m⟩
 ·refine Z d<|Z (Mu _ xs k t f r v y) ?_
  dsimp only;refine ag (aD (eQ (Z (ao rfl) (ag (wpAny_storeSet_of g rfl ?_ (by refine Z ki ?_;simp[dj];exact aK f (yN k t xs)))))))
  refine Z (ai (by refine Z (NK (aK f (yN k t xs))) ?_;decide)) ?_
  refine aD (aD (h _ _ (ep+1) ?_ (iZ _ a _)));rewrite[jx _ g rfl];refine Z (putSet_of _ _ rfl) ?_;rfl
 ·exact Z d<|aD (aD (h _ _ ep (Z g<|Z m rfl) (rd ..)))
def iu(k:Nat):List Nat->List Nat
 |[]=>[k]
 |j::r=>if k<j then k::j::r else if k=j then j::r else j::iu k r
theorem yP k j r:iu k (j::r)=if k<j then k::j::r else if k=j then j::r else j::iu k r:=rfl
def cy(ks:List Nat):List Nat:=ks.foldl (λacc k=>iu k acc) []
theorem Cf{c:Value}{x:Data}(h1:o.cls=c)(a:o.data=x)(b:o.slots=sl):o=⟨c,o.dict,x,sl⟩:=by subst h1;subst a;subst b;rfl
theorem IX{s t:Shared}(h1:t.gens=s.gens)(a:t.drawn=s.drawn)(b:t.os=s.os):t={s with heap:=t.heap,toks:=t.toks}:=by cases t;cases s;cases h1;cases a;cases b;rfl
theorem DD k t:∀xs:List (Nat×Tok),(kH k t xs).map (·.1)=iu k (xs.map (·.1)):=by
 intro xs
 induction xs with
 |nil=>rfl
 |cons p r a=>
  obtain⟨j,u⟩:=p;refine Z (yO ..)<|Z eV<|Z (yP ..) ?_
  split
  ·rfl
  ·split
   ·rfl
   ·exact Z eV<|Z a rfl
theorem Na ks k:cy (ks++[k])=iu k (cy ks):=by unfold cy;refine Z List.foldl_append ?_;rfl
theorem M9 k l:(iu k l).length<=l.length+1:=by have:=yN k 0 (l.map λj=>(j,0));rw[eH]at this;have e:=bg List.length (DD k 0 (l.map λj=>(j,0)));rw[eH,eG]at e;rw[show((λx:Nat×Tok=>x.1)∘λj=>(j,0))=id from rfl,List.map_id]at e;exact aC (aA e.symm) this
theorem vi ks:(cy ks).length<=ks.length:=by
 suffices∀acc,(ks.foldl (λacc k=>iu k acc) acc).length<=acc.length+ks.length by simpa[cy]using this []
 induction ks with
 |nil=>intro acc;exact aT _
 |cons k ks a=>intro acc;refine Z List.foldl_cons<|Z bU ?_;have:=a (iu k acc);have:=M9 k acc;lia
theorem I5 a
 (h:Q₁ (.ref s.heap.objs.size) {s with heap:=s.heap.push {cls:=.type "set",dict:=none,data:=.set #[] 0 (.fresh 0 0 (!(w.params.followText "set-order")))}}):
 codeAny (model prog w) A (.call (.builtin "set.__new__") ⟨[.type "set",a],[]⟩) (wants Q₁ E) s:=by
 refine codeAny_of_tree<|iw (PySem.F.newCall_set_1 a) (aD ⟨plainId_quiet PySem.F.plain_set_new _,mS PySem.F.entry_set_new ?_⟩);have d:=sub_set_self
 wp_walk
 exact wpAny_askSetting (aD (ag (wpAny_alloc (aD (aD h)))))
theorem GX{I:Addr}{fp H:List Addr}{G:Array GenState->Array GenState->Prop}{P:Nat->Value->Prop}{St:Nat->Shared->Prop}{ks:List Nat}
 (W:WalksS prog w A.in1 I fp H G ks.length P St) S(l:S∉fp)(x:∀i v,P i v->aV λk t=>ks[i]?=some k/\v=.int k t)(X:ks.length<=2)(c:∀k∈ks,k<3):
 ∀k i s,ks.length-i=k->i<=ks.length->St i s->
  (aV λep xs=>br (s.heap.get? S=some (fR led ep xs)) (xs.map (·.1)=cy (ks.take i)) (∀p∈xs,p.1<3))->
  (∀s',Moved (S::H) G s s'->(aV λep xs=>br (s'.heap.get? S=some (fR led ep xs)) (xs.map (·.1)=cy ks) (∀p∈xs,p.1<3))->R (.ok (.ret .none)) s')->
  codeAny (model prog w) A (.builtin "set.update.loop" ⟨[.ref S,.ref I],[]⟩) R s:=by
 have m:=λh=>l (W.sub _ h);intro k
 induction k with
 |zero=>intro i s Q N g ⟨ep,xs,C,y,f⟩ B;have E:i=ks.length:=Kb;subst E;exact mS PyProof.Rows.F.entry_set_update_loop<|((ag (W.done s _ _ g λs' hm=>aD (B s' (hm.mono (λb c=>az _ c)) (fX ep xs (hm.heap S _ m C) (Z y<|Z List.take_length rfl) f)))))
 |succ k T=>
  intro i s Q N g ⟨ep,xs,C,y,f⟩ B;have n:i<ks.length:=JR;refine mS PyProof.Rows.F.entry_set_update_loop<|((ag (W.item i s _ _ n g λv s' M u hm=>bS (x i v M) λkk t d z=>Z z ?_)):wpAny _ _ _ _ _ s);have F:xs.length<=1:=by have:=bg List.length y;rw[eH]at this;have L:=vi (ks.take i);rw[qX]at L;exact Ka
  refine eD<|eJ<|ag ((intKind _ w).pyHash (intKind_is _ _ _ _) (Z (show(intKind _ w).hash kk=kk from yV (c kk (bN d))) (Rg (hm.heap S _ m C) F f (c kk (bN d)) λb h' Φ D r=>aD ⟨plainId_quiet PyProof.Rows.F.plain_set_update_loop _,T _ _ JQ n (W.frame _ s' _ _ u (iy _) λb c o e=>?_) (fX _ _ D ?_ (M7 f (c kk (bN d)))) λΩ q j=>?_⟩)))
  ·exact Z (r.2 b (λh:b=S=>l (Z h.symm c))) e
  ·exact Z (DD ..)<|Z y<|Z List.take_add_one<|Z d<|Z (Na ..) rfl
  ·exact B _ (Moved.trans W.gtrans ((hm.mono (λb c=>az _ c)).then_heap (iy _) λb o c e=>Z (r.2 b (λh:b=S=>c (Z h aQ))) e) q) j
set_option maxHeartbeats 3200000 in
theorem Qu{l:Addr}{Q:bL}
 (hh:A.handled=none)(hl:s.heap.IsList l items)(Ψ:IntsAre items.toList (ks.map λ(k:Nat)=>(k:Int)))(hn:ks.length<=2)(H:∀k∈ks,k<3)
 (h:∀h' tk ep xs,h'.get? s.heap.objs.size=some (fR (!(w.params.followText "set-order")) ep xs)->xs.map (·.1)=cy ks->(∀p∈xs,p.1<3)->
  (∀b o,b<s.heap.objs.size->s.heap.get? b=some o->h'.get? b=some o)->Q (.ref s.heap.objs.size) {s with heap:=h',toks:=tk}):
 wpAny (model prog w) A (call (.type "set") [.ref l]) Q E s:=by
 have hsz:items.size=ks.length:=by have:=Ψ.length;rw[eH]at this;exact this
 have T:=PySem.F.called_set.made;have γ:=PySem.F.called_set.sub;refine iB (codeAny_of_tree (aD ⟨Code.quiet_builtin _ (by decide+kernel),mS PySem.F.entry_type_call (Z (Around.under_plain (weight_type_call_type _ _ []) rfl) ?_)⟩))
 have hct:=PySem.F.typeCall_set_1 (.ref l)
 repeat (any_goals (first|assumption|wp_step))
 refine codeAny_mono (I5 _ (E:=E) (Q₁:=λF f=>F=.ref _/\f={s with heap:=s.heap.push (fR (!(w.params.followText "set-order")) 0 [])}) ⟨rfl,rfl⟩) λr f I=>?_;generalize(!(w.params.followText "set-order"))=led at*
 cases r with
 |error e=>exact I
 |ok fl=>
  cases fl with
  |ret F=>
   refine a_ I λL M=>?_;clear I;subst L;subst M;have hT:Shared.TypeIs {s with heap:=s.heap.push (fR led 0 [])} (.ref s.heap.objs.size) "set":=(ad _ (cg _ rfl) rfl);have hli:=PySem.F.called_set.init.lookup;have δ:=PySem.F.called_set.init.bind (.ref s.heap.objs.size)
   repeat (any_goals (first|assumption|wp_step))
   refine codeAny_mono (codeAny_call_builtin (R:=wants (λr g=>r=.none/\aV λh' tk=>br (g={s with heap:=h',toks:=tk}) ((aV λep xs=>br (h'.get? s.heap.objs.size=some (fR led ep xs)) (xs.map (·.1)=cy ks) (∀p∈xs,p.1<3))) ((∀b o,b<s.heap.objs.size->s.heap.get? b=some o->h'.get? b=some o))) E) PySem.F.called_set.init.plain PySem.F.entry_set_init (check_set_init_1 hT ?_)) λG g c=>?_
   ·refine iG hl λol n q nl x=>?_;clear hl
    rw[Cf q x rfl]at n;clear q x;have β:=PySem.F.sub_list_set;have α:=PySem.F.sub_list_frozenset;have y:(s.heap.push (fR led 0 [])).IsList l items:=(lH _ (bj (fR led 0 []) n) rfl nl rfl);unfold Builtin.«set.__init__» noKeywords Builtin.Frozenset.updateFrom;generalize N:pyIter=PI
    wp_walk
    subst N;refine wpAny_pyIter_list y<|ag (wpAny_runValue ?_);have z:=dH n;have C:l≠(s.heap.push (fR led 0 [])).objs.size:=Z (kW ..)<|bI (Nat.lt_succ_of_lt z);have P:s.heap.objs.size∉[(s.heap.push (fR led 0 [])).objs.size,l]:=by refine Z (kW ..) ?_;simp only[bK,oU,or_false,not_or];exact⟨bI (jq _),hL z⟩
    have D:∀(i:Nat) v,items[i]?=some v->aV λk t=>ks[i]?=some k/\v=.int k t:=λi v hv=>by
     refine aI (IntsAre.int_at Ψ i v (by refine Z j7 ?_;exact hv)) λt e=>?_
     have B:i<ks.length:=Z hsz.symm<|(tI.mp hv).1;refine(cP ks[i] t (bJ B) ?_);refine Z e ?_;simp[bJ B]
    have W:=(Walks.list (prog:=prog) (w:=w) (A:=A.in1.in1.in1) ‹_› (s.heap.push (fR led 0 [])).objs.size l C items).toS;rw[hsz]at W;refine GX (led:=led) (ks:=ks) W s.heap.objs.size
     P D hn H (ks.length-0) 0 _ rfl (eT _)
     ⟨(gx _ (cg _ rfl) rfl rfl),(y.push _)⟩ ⟨0,[],bj _ (cg _ rfl),rfl,λp hp=>bx hp⟩ ?hR
    case hR=>refine λs' hm m=>aD<|aD ⟨rfl,s'.heap,s'.toks,IX hm.gens hm.drawn hm.os,m,λb o H e=>?_⟩;have hb2:b≠(s.heap.push (fR led 0 [])).objs.size:=Z (kW ..)<|bI (Nat.lt_succ_of_lt H);exact hm.heap b o (by simp only[bK,oU,or_false,not_or];exact⟨(bI H:b≠s.heap.objs.size),hb2⟩) (bj _ (bj _ e))
   ·cases G with
    |error e=>exact c
    |ok j=>
     cases j with
     |ret r=>
      refine a_ c λX u=>?_;clear c;refine bX u λh' tk Y u1 S=>?_;clear u;refine bX u1 λep xs m hx Ω=>?_;clear u1;refine Z X<|Z Y ?_;clear X Y
      repeat (any_goals (first|assumption|wp_step))
      exact h _ _ ep xs m hx Ω S
     |_=>exact c.elim
  |_=>exact I.elim
theorem NA next:∀c k b (out:Array α),b.length<=c->(pickOrder.go next c k b out).toList.Perm (out.toList++b):=by
 intro c
 induction c with
 |zero=>exact@λk b out h=>have:b=[]:=List.length_eq_zero_iff.mp (Nat.le_zero.mp h);Z this<|Z (bZ ..)<| .refl _
 |succ c i=>
  intro k b out h;have f:pickOrder.go _ (c+1) k _ _=pickOrder.go.match_1 (λ_=>Array α) _ (λx=>pickOrder.go _ _ _ (b.eraseIdx (next k%b.length)) _) (λ_=>out):=rfl
  refine Z f ?_;clear f
  cases d:b[next k%b.length]? with
  |some x=>
   have g:=(bV.mp d).1;refine(i _ _ _ (by refine Z List.length_eraseIdx ?_;split<;>lia)).trans ?_
   refine Z Array.toList_push<|Z cq<|ma _<|Z ((bV.mp d).2).symm ?_;refine Z (List.eraseIdx_eq_take_drop_succ ..) ?_;have e:=fj (a:=b[next k%b.length]) (l₁:=b.take (next k%b.length)) (l₂:=b.drop (next k%b.length+1))
   rw[<-List.drop_eq_getElem_cons _,List.take_append_drop]at e;exact e.symm
  |none=>
   have:b=[]:=by
    by_cases q:b=[]
    ·exact q
    ·have:=Nat.mod_lt (next k) (List.length_pos_iff.mpr q)
     rw[List.getElem?_eq_none_iff]at d
     lia
   refine Z this<|Z (bZ ..) ?_;rfl
theorem Kr next(xs:Array α):(pickOrder next xs).toList.Perm xs.toList:=by refine(NA _ _ 0 _ _ (aT _)).trans (by rfl)
def km(w:World)(a:Addr)(ep:Nat)(xs:List (Nat×Tok)):Array (Int×Value):=if w.params.followText "set-order" then pickOrder (w.params.setOrder a ep) (dj xs)else dj xs
def g3(w:World)(l:List Nat):Nat->Nat
 |0=>0
 |i+1=>if w.params.followText "set-order" then 0 else match l[i]? with|some j=>j+1|none=>0
theorem QX{l:List Nat}(d:l.length<=2)(a:∀k∈l,k<3)(hs:l.Pairwise (·<·)):SetTable.below l.toArray 0=0/\∀i j,l[i]?=some j->SetTable.below l.toArray (j+1)=i+1:=by
 rcases yr d with e|⟨p,e⟩|⟨p,q,e⟩<;>rw[e]at a hs⊢<;>clear d e
 ·exact⟨by kernel_rfl,λi j h=>aN h⟩
 ·have:=q6 (a p aQ)
  clear a hs;refine⟨by rcases this with rfl|rfl|rfl<;>kernel_rfl,λi j h=>?_⟩
  cases i with
  |zero=>refine Z (aG h).symm ?_;clear h;rcases this with rfl|rfl|rfl<;>kernel_rfl
  |succ i=>exact aN h
 ·have c:=q6 (a q (az _ aQ))
  have h1:=q6 (a p aQ);have b:=(lY.mp hs).1 q aQ;clear a hs;have:p=0/\q=1\/p=0/\q=2\/p=1/\q=2:=by rcases h1 with rfl|rfl|rfl<;>rcases c with rfl|rfl|rfl<;>first|exact absurd b (by decide)|decide
  clear h1 c b;refine⟨by rcases this with⟨rfl,rfl⟩|⟨rfl,rfl⟩|⟨rfl,rfl⟩<;>kernel_rfl,λi j h=>?_⟩
  cases i with
  |zero=>refine Z (aG h).symm ?_;clear h;rcases this with⟨rfl,rfl⟩|⟨rfl,rfl⟩|⟨rfl,rfl⟩<;>kernel_rfl
  |succ i=>cases i with
   |zero=>refine Z (aG h).symm ?_;clear h;rcases this with⟨rfl,rfl⟩|⟨rfl,rfl⟩|⟨rfl,rfl⟩<;>kernel_rfl
   |succ i=>exact aN h
theorem M8:∀{l:List Nat}{x:Nat},x∈iu k l->x=k\/x∈l:=by
 intro l
 induction l with
 |nil=>exact@λx h=>.inl (b5.mp h)
 |cons j r a=>
  intro x h;rw[yP]at h
  split at h
  ·rcases bK.mp h with h|h
   ·exact .inl h
   ·exact .inr h
  ·split at h
   ·exact .inr h
   ·rcases bK.mp h with h|h
    ·exact .inr (h▸.head _)
    ·exact(a h).imp id λh=>.tail _ h
theorem M_ k:∀{l:List Nat},l.Pairwise (·<·)->(iu k l).Pairwise (·<·):=by
 intro l
 induction l with
 |nil=>exact@λ_=>List.pairwise_singleton _ _
 |cons j r b=>
  intro h;rw[lY]at h;refine sQ (λq=>?_) (λq=>?_)
  ·exact lY.mpr ⟨λx a=>by rcases bK.mp a with rfl|a;exact q;exact Nat.lt_trans q (h.1 x a),lY.mpr h⟩
  ·refine sQ (λc=>?_) (λz=>?_)
   ·exact lY.mpr h
   ·refine lY.mpr ⟨λx a=>?_,b h.2⟩
    rcases M8 a with rfl|a
    ·lia
    ·exact h.1 x a
theorem yQ ks:(cy ks).Pairwise (·<·):=by
 suffices∀acc:List _,acc.Pairwise (·<·)->(ks.foldl (λacc k=>iu k acc) acc).Pairwise _ from this [] List.Pairwise.nil
 induction ks with
 |nil=>intro acc h;exact h
 |cons k ks a=>intro acc h;exact a _ (M_ k h)
namespace F
theorem entry_set_iter:entryFor table "set.__iter__"=some Builtin.«frozenset.__iter__»:=
 entryFor_alias (id':="frozenset.__iter__") (by kernel_rfl) rfl (by decide+kernel) (by kernel_rfl)
theorem slot_set_iterator_next:Slot "set_iterator" "__next__" "set_iterator.__next__":=
 .of (owner:="set_iterator") (n:="__next__") (by kernel_rfl) rfl rfl rfl
  (by first|exact .inl rfl|exact .inr _) (by kernel_rfl)
theorem entry_set_iterator_next:entryFor table "set_iterator.__next__"=some Builtin.«set_iterator.__next__»:=entryFor_of_tree (by kernel_rfl)
theorem args_set_iterator_next a:argsOk "set_iterator.__next__" ⟨[a],[]⟩:=by kernel_rfl
theorem slot_set_iterator_iter:Slot "set_iterator" "__iter__" "set_iterator.__iter__":=
 .of (owner:="set_iterator") (n:="__iter__") (by kernel_rfl) rfl rfl rfl
  (by first|exact .inl rfl|exact .inr _) (by kernel_rfl)
theorem entry_set_iterator_iter:entryFor table "set_iterator.__iter__"=some Builtin.«dict_keyiterator.__iter__»:=
 entryFor_alias (id':="dict_keyiterator.__iter__") (by kernel_rfl) rfl (by decide+kernel) (by kernel_rfl)
theorem args_set_iterator_iter a:argsOk "set_iterator.__iter__" ⟨[a],[]⟩:=by kernel_rfl
end F
def oP(h:Heap)(I a:Addr)(sl i n ep:Nat):Prop:=∃o,br (h.get? I=some o) (o.cls=.type "set_iterator") (o.data=.fields #[.int sl 0,.int i 0,.ref a,.int n 0,.int ep 0])
theorem oP.typeIs(x:oP s.heap I a d i n ep):s.TypeIs (.ref I) "set_iterator":=cB x λo c b _=>ad o c b
theorem MY{Q:bL}(c:s.heap.get? a=some (fR (!(w.params.followText "set-order")) ep xs))(e:xs.length<=2)
 (h:Q (.ref s.heap.objs.size) {s with heap:=s.heap.push {cls:=.type "set_iterator",data:=.fields #[.int 0 0,.int 0 0,.ref a,.int xs.length 0,.int ep 0]}}):
 wpAny (model prog w) A (pyIter (.ref a)) Q E s:=by
 have d:=qr (led:=!(w.params.followText "set-order")) e;refine wpAny_pyIter_slot (ad _ c rfl) PySem.F.slot_set_iter (gV PySem.F.slot_set_iter (ad _ c rfl) F.entry_set_iter (((ag (f7 (pv c rfl d (aD (aD (ag ?_)))))):wpAny _ _ (Builtin.Frozenset.sizeOf a>>=_) _ _ s)) (PySem.F.args_set_iter_1 _));refine ag (pv c rfl d (ag (ag (wpAny_askSetting (aD (aD (Z (ai (by refine(?_:¬((!_&&(!true&&_))=true));simp)) ?_)))))))
 refine eQ<|ag (wpAny_setEpoch_of c rfl d (ag (kg (aD ⟨_,rfl,"set_iterator",_,(ad _ (cg _ rfl) rfl),F.slot_set_iterator_next.lookup,?_⟩))));simpa[rawInt,(by simp[dj]:(dj xs).size=xs.length)]using h
theorem MX{Q:bL}(b:oP s.heap I a c i n ep)(h:Q (.ref I) s):wpAny (model prog w) A (pyIter (.ref I)) Q E s:=wpAny_pyIter_slot b.typeIs F.slot_set_iterator_iter (gV F.slot_set_iterator_iter b.typeIs F.entry_set_iterator_iter (aD ⟨_,rfl,"set_iterator",_,b.typeIs,F.slot_set_iterator_next.lookup,h⟩) (F.args_set_iterator_iter _))
theorem Bl{Q:Option (Value×Nat)->Shared->Prop}(g:s.heap.get? a=some (fR (!(w.params.followText "set-order")) ep xs))(j:xs.length<=2)(n:∀p∈xs,p.1<3)
 (hs:(xs.map (·.1)).Pairwise (·<·))(o:i<=xs.length)(h:Q ((km w a ep xs)[i]?.map λe=>(e.2,g3 w (xs.map (·.1)) (i+1))) s):
 wpAny (model prog w) A (setNext a (g3 w (xs.map (·.1)) i) i ep) Q E s:=by
 refine ag (pv g rfl (qr j) (ag (ag (wpAny_askSetting (aD ?_)))));dsimp only[model];unfold km at h
 cases b:w.params.followText _ with
 |true=>
  refine Z (ao rfl)<|Z (ai (by simp)) ?_
  rw[b]at h g;refine ag<|ag (pv g rfl (qr j) (ag (ag (wpAny_askSetting (aD (Z b (ag (wpAny_askSetting (aD (aD ?_))))))))));have m:g3 w (xs.map (·.1)) i=0:=by cases i<;>simp[g3,b]
  rw[(by simp[g3,b]:g3 w _ _=0)]at h
  exact Z m h
 |false=>
  rw[b]at h;rw[ai (by decide)]at h
  have c:SetTable.below (xs.map (·.1)).toArray (g3 w (xs.map (·.1)) i)=i:=by
   have B:=QX (Z aY j) (λk l=>by refine ac (bT.mp l) λp r f=>?_;clear l;subst f;exact n p r) hs
   cases i with
   |zero=>exact B.1
   |succ i=>
    have d:i<(xs.map (·.1)).length:=Z aY o
    simp only[g3,b];refine Z (bJ d) ?_;exact B.2 i _ (bJ d)
  refine Z c<|aD ?_;rcases Nat.lt_or_ge i _ with q|q
  ·rw[(by simp[dj,q]:(dj xs)[i]?=some ((xs[i].1:Int),Value.int xs[i].1 xs[i].2))]at h⊢
   refine Z ((by simp[q]:(xs.map _).toArray[i]?=some xs[i].1)) ?_
   rw[(by simp[g3,b,q]:g3 w _ _=xs[i].1+1)]at h
   exact h
  ·rw[(by simp[dj,q]:(dj xs)[i]?=none)]at h⊢
   exact h
theorem I0{Q:Option Value->Shared->Prop}(b:oP s.heap I a (g3 w (xs.map (·.1)) i) i xs.length ep)(f:s.heap.get? a=some (fR (!(w.params.followText "set-order")) ep xs))(g:xs.length<=2)(j:∀p∈xs,p.1<3)
 (hs:(xs.map (·.1)).Pairwise (·<·))(m:(km w a ep xs)[i]?=some (n,v))(l:i<xs.length)
 (h:∀h',oP h' I a (g3 w (xs.map (·.1)) (i+1)) (i+1) xs.length ep->Heap.SameBut I s.heap h'->Q (some v) {s with heap:=h'}):wpAny (model prog w) A (pyNext (.ref I)) Q E s:=by
 refine cB (id b) λo e k c=>ag (wpAny_attempt (mx b.typeIs F.slot_set_iterator_next
  (gV F.slot_set_iterator_next b.typeIs F.entry_set_iterator_next ?_ (F.args_set_iterator_next _))))
 refine((ag (wpAny_fieldsOf e c ?_)):wpAny _ _ _ _ _ s);dsimp only;refine ag<|ag (pv f rfl (qr g) (aD (Z (ai (by refine Z ((by simp[dj]:(dj xs).size=xs.length)) ?_;simp)) ?_)))
 refine ag<|Bl f g j hs (eU l)<|Z m<|ag (mw e c af ?_);have d:=jx (Obj.mapFields (·.setIfInBounds 0 (rawInt (g3 w (xs.map (·.1)) (i+1))))) e (ty (jo c _))
 refine ag (mw d (jo c _) af (aD (ad _ rfl (aD (h _ (b6 _ (jx _ d (ty (jo (jo c _) _))) ?_ ?_) ((iZ ..).trans (iZ ..)))))))
 ·exact Z (Obj.cls_mapFields ..)<|Z (Obj.cls_mapFields ..) k
 ·refine Z (jo (jo c _) ..) ?_
  rfl
theorem I2{Q:Option Value->Shared->Prop}(i:A.handled=none)(b:oP s.heap I a (g3 w (xs.map (·.1)) xs.length) xs.length xs.length ep)(e:s.heap.get? a=some (fR (!(w.params.followText "set-order")) ep xs))(f:xs.length<=2)(g:∀p∈xs,p.1<3)
 (hs:(xs.map (·.1)).Pairwise (·<·))(j:(km w a ep xs)[xs.length]?=none)
 (h:∀h',Heap.ExtBut I s.heap h'->Q none {s with heap:=h'}):wpAny (model prog w) A (pyNext (.ref I)) Q E s:=by
 refine cB (id b) λo c k d=>ag (wpAny_attempt (mx b.typeIs F.slot_set_iterator_next
  (gV F.slot_set_iterator_next b.typeIs F.entry_set_iterator_next ?_ (F.args_set_iterator_next _))))
 refine((ag (wpAny_fieldsOf c d ?_)):wpAny _ _ _ _ _ s);dsimp only;refine ag<|ag (pv e rfl (qr f) (aD (Z (ai (by refine Z ((by simp[dj]:(dj xs).size=xs.length)) ?_;simp)) ?_)))
 refine ag<|Bl e f g hs (aT _)<|Z j<|ag (mw c d af (ag (ag (kg (ag (wpAny_of_eq (a:=Value.none) (by first|rfl|(rfl)) (kg (ag (wpAny_handled (Z i (eQ (wpAny_throw (ag (wpAny_isInstance (ad _ (cg _ rfl) rfl) isSubtype_stop ?_))))))) (by size_fits)))) (by size_fits)))))
 exact aD (h _ (((iZ ..).extBut.push _).push _))
def nV(ns:List Nat):List V:=ns.map λ(n:Nat)=>.int n
theorem oa{l:List Nat}:nV l++[.int n]=nV (l++[n]):=by unfold nV;refine Z bz ?_;rfl
theorem EQ:bootBuiltins "sorted"=some (.builtin "sorted"):=rfl
theorem QM:bootBuiltins "set"=some (.type "set"):=rfl
theorem M4{xs:List (Int×Value)}:∀{ks:List Int},(∀(i:Nat) v,xs[i]?=some v->aV λk t=>ks[i]?=some k/\v.2=Value.int k t)->xs.length=ks.length->IntsAre (xs.map (·.2)) ks:=by
 induction xs with
 |nil=>intro ks h e;cases ks with
  |nil=>exact .nil
  |cons k ks=>exact kk id e rfl
 |cons x xs d=>intro ks h e;cases ks with
  |nil=>exact kk id e rfl
  |cons k ks=>exact bS (h 0 x rfl) λf t a b=>Z eV<|Z b<|Z ((aG a).symm)<| .cons _ _ (d (λi v c=>h (i+1) v c) (Nat.succ.inj e))
theorem M3{l:List (Int×Value)}(p:l.Perm (dj xs).toList):∃ms,IntsAre (l.map (·.2)) ms/\ms.Perm (xs.map λp=>p.1):=by
 refine(ad (l.map (·.1)) (M4 (λi v b=>?_) (by simp)) ?_)
 ·refine ac (bT.mp (p.mem_iff.mp (bN b))) λq _ a=>?_;subst a
  exact⟨_,q.2,jR b,rfl⟩
 ·have:=p.map (·.1)
  rw[dj,eG]at this;exact this
def w_(x:V)(m:av)(Q:aS):Prop:=gp x λn=>∃ks:List Nat,dQ (m[n]?=some (.list (nV ks))) (ks.length<=2) ((∀k∈ks,k<3)) (Q (.loc m.length) (m++[.list (nV (cy ks))]))
theorem sy ks:nV ks=iV (ks.map λ(k:Nat)=>k):=by unfold nV iV;refine Z eG ?_;rfl
theorem sset{n:Nat}(T:Ar d A fs)(S:b_ B fs m μ s)(ha:μ[n]?=some a)(e:m[n]?=some (.list (nV ks)))(Ψ:ks.length<=2)(g:∀k∈ks,k<3)
 (q:Q (.loc m.length) (m++[.list (nV (cy ks))])):wpAny (model B.prog B.w) A (call (.type "set") [.ref a]) (λv s1=>wpAny (model B.prog B.w) A (call (.builtin "sorted") [v]) (ds B μ s Q) E s1) E s:=by
 refine ac (S.4.plain ha e) λitems hp r=>?_;rw[sy]at r;refine Qu T.4 hp.isList (vh r) Ψ g λh1 tk ep xs X M F k1=>?_;have n1:Nx B No μ s m μ {s with heap:=h1,toks:=tk}:=Nx.of_keep S.4 (λb o q=>k1 b o (dH q) q) rfl rfl;have f:xs.length<=2:=by have h1:=bg List.length M;rw[eH]at h1;exact dL Ψ (aA h1) (vi ks)
 have hs:(xs.map _).Pairwise _:=Z M<|yQ ks;have j:(km B.w s.heap.objs.size ep xs).toList.Perm (dj xs).toList:=by
  unfold km
  split
  ·exact Kr _ _
  ·exact .refl _
 have c:(km B.w s.heap.objs.size ep xs).size=xs.length:=by have:=j.length_eq;rw[mh]at this;refine Z this ?_;simp[dj]
 refine A4 (ns:=xs.map λp=>p.1) (λQ' I=>?_) (Z aY<|aE f) λL s' out N fz H Ω R Φ W=>?_
 ·refine Eu
   (P:=λi v=>((km B.w s.heap.objs.size ep xs)[i]?).map (·.2)=some v)
   (St:=λi s1=>oP s1.heap (h1.objs.size+1) _ (g3 B.w (xs.map (·.1)) i) i _ ep/\s1.heap.get? _=some _)
   (.inl rfl) X rfl (λs1 l G u t=>MY u f t) ?_ (λs1 u h3=>⟨(b6 _ h3 rfl rfl),u⟩) rfl (λs' acc N H Ω R it=>?_) (aF f)
  ·refine⟨(λb g=>by simp only[b5]at g;simp[g]),λ_=>rfl,λ_ _ _ h1 u=>u.trans h1,?_,?_,?_,?_⟩
   ·exact λi s1 h' α w _ kp=>a_ w λw y=>cB w λo x1 x2 x3=>⟨(b6 o (kp _ (by simp) _ x1) x2 x3),kp _ (by simp) _ y⟩
   ·refine λi s1 l G Y w t=>a_ w λx y=>?_
    have C:i<(km _ _ ep xs).size:=Z c Y;refine I0 x y f F hs (tK C) Y λh' x' sb=>?_;refine t _ _ (by refine Z (tK C) ?_;rfl) ⟨x',(sb.2 _ (bI (Nat.lt_succ_of_lt (dH X)))).trans y⟩ ⟨λb o g e=>(sb.2 b (λz=>g (by simp[z]))).trans e,rfl,rfl,rfl,aT _⟩
   ·refine λs1 l G w t=>a_ w λx y=>I2 (by simp[T.4]) x y f F hs (Z (tJ (Z c<|aT _)) rfl) λh' eb=>?_
    exact t _ ⟨λb o g e=>eb b o (λz=>g (by simp[z])) e,rfl,rfl,rfl,aT _⟩
   ·exact λi s1 l G w t=>MX w.1 t
  ·refine I s' _ N H Ω R<|ac (M3 j) λms i1 i2=>(ad ms ?_ i2)
   have:acc.toList=(km B.w s.heap.objs.size ep xs).toList.map (·.2):=by
    refine List.ext_getElem? λi=>Z eX ?_;refine Z j7 ?_;refine Z j7 ?_;rcases Nat.lt_or_ge i _ with z|z
    ·have hz:i<acc.size:=Z it.1 z
     refine Z (it.2 i _ (tK hz)) ?_;exact Z (tK hz) rfl
    ·refine Z (tJ (Z it.1 z)) ?_;refine Z (tJ (Z c z)) ?_;rfl
   exact Z this i1
 ·have D:gY (xs.map λp=>p.1)=(cy ks).map λ(k:Nat)=>(k:Int):=by
   refine Z ((by refine Z M.symm<|Z eG ?_;rfl:xs.map (λp=>(p.1:Int))=(cy ks).map λ(k:Nat)=>(k:Int))) ?_
   refine(xb (.refl _) (List.Pairwise.map _ (λa b h=>?_) (yQ ks))).symm
   lia
  rw[D]at W;refine⟨.loc _,_,μ++[L],q,aj.loc_ (Z S.4.1.symm<|Z (l9 (aT _)) ?_),n1.trans (Nx.new n1.1 N fz (ad _ Φ (Z (sy ..)<|vW W)) H R)⟩;refine Z (lW ..) ?_;rfl
theorem OH(o:a7 B sc d e D)(u:sc.names.lookup ("set":Str)=some .globalImplicit)(y:nsIn B.K mainGlobals "set"=some none)
 (c:sc.names.lookup ("sorted":Str)=some .globalImplicit)(f:nsIn B.K mainGlobals "sorted"=some none)(b:autoParam (∀U,starEach [e] U=[(false,eval e U)]) bF):
 a7 B sc d (.Call (.Name "sorted" fp2) [.Call (.Name "set" fp) [e] [] p] [] p2) λJ m Q=>D J m λx m=>w_ x m Q:=by
 intro J m Q q A fs U μ s E g S;refine tq S c f EQ (.inl ⟨_,rfl⟩) (by decide) rfl rfl<|tq S u y QM (.inr ⟨_,rfl⟩) (by decide) rfl (b _)<|o.go q g S λv s1 x m1 μ1 q1 z i=>gt q1 z λn a r j=>ir j λks k w t q1=>?_;clear j;exact mo (sset g (S.next i).1 r k w t q1) (λF s2 h=>wpAny_mono h (λG C h=>ds.step i h) λ_ _ e=>e)
abbrev gF(h:Heap)(z TI TO:Addr)(f0 f1:Value):Prop:=
 h.get? z=some {cls:=.type "zip",dict:=none,data:=.fields #[f0,f1,.bool false,.ref TI,.ref TO],slots:=#[]}
def lL:Value->Prop
 | .none=>True
 | .int _ _=>True
 |_=>False
theorem uP{it t:Addr}{x:Value}{Q:bL}(b:s.heap.IsTupleIter it t i)
 (g:s.heap.IsTuple t items)(k:items[i]?=some x)
 (h:∀h',h'.IsTupleIter it t (i+1)->Heap.SameBut it s.heap h'->Q x {s with heap:=h'}):
 wpAny (model prog w) A (Builtin.SmallTypes.nextOf (.ref it)) Q E s:=by
 refine fv (id b) λo d j c=>iG g λl f _ nl e=>?_;clear g;refine ag (mx b.typeIs PySem.F.slot_tuple_iterator_next
  (gV PySem.F.slot_tuple_iterator_next b.typeIs PySem.F.entry_tuple_iterator_next ?_ (PySem.F.args_tuple_iterator_next_1 _)))
 refine((fg d c (x:=.ref t) rfl (fg d c (x:=.int i 0) rfl<|lQ f e ?_)));simp only[Int.toNat_natCast,k];refine ag (mw d c (aT _) (aD (ad x rfl (aD (h _ ?_ (iZ ..))))));exact(gx _ (jx _ d (ty (jo c _))) ((Obj.cls_mapFields ..).trans j) (by refine Z (jo c ..) ?_;simp[rawInt]))
theorem Ct{it t:Addr}{Q:bL}(l:A.handled=none)
 (c:s.heap.IsTupleIter it t i)(j:s.heap.IsTuple t items)(m:items[i]?=none)
 (k:∀h' e,Heap.ExtBut it s.heap h'->(∃o,h'.get? e=some o/\o.cls=.type "StopIteration")->E (.ref e) {s with heap:=h'}):
 wpAny (model prog w) A (Builtin.SmallTypes.nextOf (.ref it)) Q E s:=by
 refine fv (id c) λo g n d=>iG j λp h _ nl f=>?_;clear j;refine ag (mx c.typeIs PySem.F.slot_tuple_iterator_next
  (gV PySem.F.slot_tuple_iterator_next c.typeIs PySem.F.entry_tuple_iterator_next ?_ (PySem.F.args_tuple_iterator_next_1 _)))
 refine((fg g d (x:=.ref t) rfl (fg g d (x:=.int i 0) rfl<|lQ h f ?_)));simp only[Int.toNat_natCast,m];exact jW (ag (mw g d af (ag (ag (kg (ag (wpAny_of_eq (a:=Value.none) (by first|rfl|(rfl)) (kg (ag (wpAny_handled (Z l (eQ (wpAny_throw (k _ _ (((iZ ..).extBut.push _).push _) (ad _ (cg _ rfl) rfl))))))) (by size_fits)))) (by size_fits))))))
theorem DY{Q:Bool->Shared->Prop}(hz:gF s.heap z k TO f f1)(m:lL f)
 (h:∀b h' i,gF h' z k TO f i->Heap.SameBut z s.heap h'->Q b {s with heap:=h'}):wpAny (model prog w) A (Builtin.SmallTypes.ownedTupleIsFree (.ref z)) Q E s:=by
 refine fg hz rfl (x:=f) rfl ?_
 cases f<;>try exact m.elim
 ·exact aD (h _ _ f1 hz (rd ..))
 ·rename_i a t
  refine ag (λn p j=>Z (Sem.wp_loadIfAlive ..) ?_)
  revert n p j
  refine aD ?_
  cases s.heap.get? _ with
  |none=>exact aD (h _ _ f1 hz (rd ..))
  |some o=>
   dsimp only[Option.isNone];refine fg hz rfl (x:=f1) rfl ?_
   split
   ·exact ag (lh hz af λe d c=>aD (h _ e _ d c))
   ·exact aD (h _ _ f1 hz (rd ..))
inductive E9(s:Shared)(z TI TO i1 i2 t1 t2:Addr)(k1 k2:Nat)(x y:Value)(R:Addr)(h':Heap):Prop
 |mk(zip:aV λf0 f1=>gF h' z TI TO f0 f1/\lL f0)(own:aV λa b=>IsPair h' TO a b)(it1:h'.IsTupleIter i1 t1 k1)(it2:h'.IsTupleIter i2 t2 k2)(new:IsPair h' R x y)(fresh:s.heap.get? R=none)(kept:∀c o,c≠z->c≠TO->c≠i1->c≠i2->s.heap.get? c=some o->h'.get? c=some o)
theorem jH{b t:Addr}{xs:Array Value}(x:h.IsTuple t xs)(k:∀a o,a≠b->h.get? a=some o->h'.get? a=some o)(n:t≠b):h'.IsTuple t xs:=by refine ac x λo e r=>?_;clear x;exact(ad o (k t o n e) r)
theorem gQ{b i t:Addr}(x:h.IsTupleIter i t n)(k:∀a o,a≠b->h.get? a=some o->h'.get? a=some o)(c:i≠b):h'.IsTupleIter i t n:=x.at λo e=>k i o c e
theorem Fi{xs ys:Array Value}{x y a b f0 f1:Value}{Q:bL}(D:ZipApart z L TO i1 i2 t1 t2)
 (hz:gF s.heap z L TO f0 f1)(ok:lL f0)(hTI:IsPair s.heap L (.ref i1) (.ref i2))(X:IsPair s.heap TO a b)
 (h1:s.heap.IsTupleIter i1 t1 k1)(h2:s.heap.IsTupleIter i2 t2 k2)(Y:s.heap.IsTuple t1 xs)(Ψ:s.heap.IsTuple t2 ys)(hx:xs[k1]?=some x)(hy:ys[k2]?=some y)
 (hQ:∀R h',E9 s z L TO i1 i2 t1 t2 (k1+1) (k2+1) x y R h'->Q (.ref R) {s with heap:=h'}):
 wpAny (model prog w) A (Builtin.«zip.__next__» ⟨[.ref z],[]⟩) (λfin s'=>∃v,fin=.done (.ret v)/\Q v s') E s:=by
 refine((fg hz rfl (x:=.bool _) rfl (fg hz rfl (x:=.ref L) rfl<|lQ hTI rfl<|ag (DY hz ok λbb h0 ε P h=>?_))))
 cases bb with
 |true=>
  refine jW<|fg P rfl (x:=.ref TO) rfl<|ag (lh P af λα q g=>?_);replace q:gF α z L TO _ _:=q;refine ag<|Z (List.forIn_cons ..)<|f7 (wpAny_onRaise (ag (uP (gQ (gQ h1 h.extBut D.i1z) g.extBut D.i1z) (jH (jH Y h.extBut D.l1z) g.extBut D.l1z) hx λβ n d=>aD ?_)));have u:=d.extBut _ _ D.TOi1 (g.extBut _ _ D.TOz (h.extBut _ _ D.TOz X));refine lQ u rfl<|ag (wpAny_updateSeq_pair u λγ k i=>?_);replace k:IsPair γ TO x b:=k;refine ag (wpAny_letGo (aD (f7 (wpAny_onRaise ?_))));refine ag (uP (gQ (gQ (gQ (gQ h2 h.extBut D.i2z) g.extBut D.i2z) d.extBut D.i12.symm) i.extBut D.TOi2.symm)
   (jH (jH (jH (jH Ψ h.extBut D.l2z) g.extBut D.l2z) d.extBut D.l2i1) i.extBut D.l2TO) hy λH p f=>aD (lQ (f.extBut _ _ D.TOi2 k) rfl (ag (wpAny_updateSeq_pair (f.extBut _ _ D.TOi2 k) λj l m=>?_))))
  replace l:IsPair j TO x y:=l;refine ag (wpAny_letGo (aD (aD (lQ l rfl (ag (wpAny_newTuple ?_))))));have G:=m.extBut _ _ D.TOz.symm (f.extBut _ _ D.i2z.symm (i.extBut _ _ D.TOz.symm (d.extBut _ _ D.i1z.symm q)))
  have N:∀c o,c≠z->c≠TO->c≠i1->c≠i2->s.heap.get? c=some o->j.get? c=some o:=λc o Φ T Ω W e=>m.extBut _ _ T (f.extBut _ _ W (i.extBut _ _ T (d.extBut _ _ Ω (g.extBut _ _ Φ (h.extBut _ _ Φ e)))))
  have M:=dH G;refine ag ?_;have S:gF (j.push {cls:=.type "tuple",data:=.seq #[x,y]}) z L TO _ _:=bj _ G;refine ag (lh S af λδ r C=>?_);replace r:gF δ z L TO (rawInt j.objs.size) ε:=r;refine lh r af λI t F=>?_;replace t:gF I z L TO (rawInt j.objs.size) (.bool false):=t;have up:∀c o,c≠z->j.get? c=some o->I.get? c=some o:=λc o Φ e=>F.extBut _ _ Φ (C.extBut _ _ Φ (bj _ e));refine aD (ad _ rfl ?_);exact hQ j.objs.size I ⟨(cP _ _ t trivial),⟨_,_,up _ _ D.TOz l⟩,(gQ (gQ (gQ n i.extBut D.TOi1.symm) f.extBut D.i12) m.extBut D.TOi1.symm).at λo e=>up _ o D.i1z e,(gQ p m.extBut D.TOi2.symm).at λo e=>up _ o D.i2z e,(F.extBut _ _ (hL M) (C.extBut _ _ (hL M) (cg _ rfl))),Z (Z m.1<|Z f.1<|Z i.1<|Z d.1<|Z g.1<|Z h.1 rfl:j.objs.size=s.heap.objs.size)<|bQ _,λc o Φ T Ω W e=>up c o Φ (N c o Φ T Ω W e)⟩
 |false=>
  refine ag<|Z Array.forIn_toList.symm<|Z (List.forIn_cons ..)<|f7 (eJ (ag (uP (gQ h1 h.extBut D.i1z) (jH Y h.extBut D.l1z) hx λβ n d=>aD ?_)));dsimp only;refine aD (f7 (eJ (ag (uP (gQ (gQ h2 h.extBut D.i2z) d.extBut D.i12.symm) (jH (jH Ψ h.extBut D.l2z) d.extBut D.l2i1) hy λH p f=>aD (aD (aD (ag (wpAny_newTuple ?_ (by refine(?_:2<=sizeLine);decide)))))))))
  refine aD (ad _ rfl ?_);exact hQ H.objs.size _ ⟨(cP _ _ (bj _ (f.extBut _ _ D.i2z.symm (d.extBut _ _ D.i1z.symm P))) ok),⟨_,_,bj _ (f.extBut _ _ D.TOi2 (d.extBut _ _ D.TOi1 (h.extBut _ _ D.TOz X)))⟩,(gQ n f.extBut D.i12).at λo e=>bj _ e,p.at λo e=>bj _ e,cg _ rfl,Z (Z f.1<|Z d.1<|Z h.1 rfl:H.objs.size=s.heap.objs.size)<|bQ _,λc o Φ T Ω W e=>bj _ (f.extBut _ _ W (d.extBut _ _ Ω (h.extBut _ _ Φ e)))⟩
theorem Fm{xs:Array Value}{Q:Fin->Shared->Prop}(I:A.handled=none)(D:ZipApart z TI TO i1 S t1 X)
 (hz:gF s.heap z TI TO f0 Ω)(L:lL f0)(q:IsPair s.heap TI (.ref i1) (.ref S))
 (h1:s.heap.IsTupleIter i1 t1 k1)(k:s.heap.IsTuple t1 xs)(Φ:xs[k1]?=none)
 (C:aV λa b=>IsPair s.heap TO a b)
 (H:∀h' e,(∀c o,c≠z->c≠i1->s.heap.get? c=some o->h'.get? c=some o)->(∃o,h'.get? e=some o/\o.cls=.type "StopIteration")->E (.ref e) {s with heap:=h'}):
 wpAny (model prog w) A (Builtin.«zip.__next__» ⟨[.ref z],[]⟩) Q E s:=by
 refine((fg hz rfl (x:=.bool _) rfl (fg hz rfl (x:=.ref TI) rfl<|lQ q rfl<|ag (DY hz L λN W R n l=>?_))));have h1:=gQ h1 l.extBut D.i1z;have k:=jH k l.extBut D.l1z;clear hz L q C;cases N with
 |true=>
  refine jW<|fg n rfl (x:=.ref TO) rfl<|ag (lh n af λt f g=>?_);replace f:gF t z TI TO _ _:=f;refine ag<|f7 (wpAny_onRaise (ag (Ct I (gQ h1 g.extBut D.i1z) (jH k g.extBut D.l1z) Φ λm e d he=>ac he λT h r=>?_)));clear he;have j:=d _ _ D.i1z.symm f;have F:e≠z:=λx=>by clear D n f;subst x;rw[j]at h;replace h:=aG h;subst h;simp at r
  refine lh j af λu _ i=>H u e (λc o p B x=>i.extBut _ _ p (d _ _ B (g.extBut _ _ p (l.extBut _ _ p x)))) (ad T (i.extBut _ _ F h) r)
 |false=>exact ag<|f7 (eJ (ag (Ct I h1 k Φ λm e d he=>H m e (λc o p B x=>d _ _ B (l.extBut _ _ p x)) he)))
theorem LH{k1 m:Nat}{xs q:Array Value}{x y a b p r:Value}{Q:Option Value->Shared->Prop}(D:ZipApart z TI f k i2 n t2)
 (hz:gF s.heap z TI f p r)(C:lL p)(g:IsPair s.heap TI (.ref k) (.ref i2))(h:IsPair s.heap f a b)
 (h1:s.heap.IsTupleIter k n k1)(t:s.heap.IsTupleIter i2 t2 m)(i:s.heap.IsTuple n xs)(j:s.heap.IsTuple t2 q)(v:xs[k1]?=some x)(B:q[m]?=some y)
 (u:∀R h',E9 s z TI f k i2 n t2 (k1+1) (m+1) x y R h'->Q (some (.ref R)) {s with heap:=h'}):wpAny (model prog w) A (pyNext (.ref z)) Q E s:=ag (wpAny_attempt (mx (ad _ hz rfl) PySem.F.slot_zip_next
 (gV PySem.F.slot_zip_next (ad _ hz rfl) PySem.F.entry_zip_next (Fi D hz C g h h1 t i j v B λR h' d=>aD (u R h' d)) (PySem.F.args_zip_next_1 _))))
theorem LI{xs:Array Value}{Q:Option Value->Shared->Prop}(q:A.handled=none)(D:ZipApart z TI k i1 i2 t1 t2)
 (hz:gF s.heap z TI k f0 f1)(x:lL f0)(f:IsPair s.heap TI (.ref i1) (.ref i2))
 (h1:s.heap.IsTupleIter i1 t1 k1)(h:s.heap.IsTuple t1 xs)(u:xs[k1]?=none)(g:aV λa b=>IsPair s.heap k a b)
 (n:∀h',(∀c o,c≠z->c≠i1->s.heap.get? c=some o->h'.get? c=some o)->Q none {s with heap:=h'}):wpAny (model prog w) A (pyNext (.ref z)) Q E s:=by
 refine ag (wpAny_attempt (mx (ad _ hz rfl) PySem.F.slot_zip_next
  (gV PySem.F.slot_zip_next (ad _ hz rfl) PySem.F.entry_zip_next (Fm q D hz x f h1 h u g λh' e r he=>?_) (PySem.F.args_zip_next_1 _))))
 refine ac he λo t p=>?_;clear he;exact ag (wpAny_isInstance (ad o t p) isSubtype_stop (aD (n _ r)))
theorem yI{Q:bL}(hz:gF s.heap z TI TO f0 f1)(h:Q (.ref z) s):wpAny (model prog w) A (pyIter (.ref z)) Q E s:=wpAny_pyIter_slot (ad _ hz rfl) PySem.F.slot_zip_iter (gV PySem.F.slot_zip_iter (ad _ hz rfl) PySem.F.entry_zip_iter (aD ⟨_,rfl,"zip",_,(ad _ hz rfl),PySem.F.slot_zip_next.lookup,h⟩) (PySem.F.args_zip_iter_1 _))
theorem Nz{z i j T:Addr}{Q:Unit->Shared->Prop}(g:g9 tg)(hz:gF s.heap z i j f0 f1)(l:lL f0)
 (h:∀h' a d,gF h' z i j a d->lL a->Heap.SameBut z s.heap h'->Q () {s with heap:=h'}):wpAny (model prog w) A (letOwnedTupleGo tg (.ref z) (.ref T)) Q E s:=by
 rcases g with⟨x,p,rfl⟩|⟨es,k,p,rfl⟩
 ·exact wpAny_of_eq rfl (h _ f0 f1 hz l (rd ..))
 ·refine ag (wpAny_load hz ?_)
  dsimp only
  split
  ·exact jW<|lh hz af λh' f e=>h h' _ f1 f trivial e
  ·exact aD (h _ f0 f1 hz l (rd ..))
abbrev wn(h:Heap)(l1:Addr):Heap:=h.push {cls:=.type "tuple_iterator",data:=.fields #[.ref l1,.int 0 0]}
abbrev wm(h:Heap)(l1 l2:Addr):Heap:=(wn h l1).push {cls:=.type "tuple_iterator",data:=.fields #[.ref l2,.int 0 0]}
abbrev wj(h:Heap)(l1 l2:Addr):Heap:=(wm h l1 l2).push {cls:=.type "tuple",data:=.seq #[.ref h.objs.size,.ref (wn h l1).objs.size]}
abbrev wi(h:Heap)(l1 l2:Addr):Heap:=(wj h l1 l2).push {cls:=.type "tuple",data:=.seq #[.none,.none]}
abbrev rn(h:Heap)(l1 l2:Addr):Heap:=(wi h l1 l2).push {cls:=.type "zip",data:=.fields #[.none,.bool false,.bool false,.ref (wm h l1 l2).objs.size,.ref (wj h l1 l2).objs.size]}
theorem L5 a b xs f:
 Meets (Builtin.«zip.__new__» ⟨[.type "zip",.ref a,.ref b],[]⟩) (λ_ R s=>s.heap.IsTuple a xs/\s.heap.IsTuple b f/\
  R (.ok (.ret (.ref (wi s.heap a b).objs.size))) {s with heap:=rn s.heap a b}):=
 .of_wp λprog w A R s h=>by
  have d:=sub_zip;have c:Heap.IsTuple (Shared.heap ⟨s.1.push {cls:=.type "tuple_iterator",data:=.fields #[.ref a,.int 0 0]},s.2,s.3,s.4,s.5⟩) b f:=Heap.IsTuple.at h.2.1 λo e=>bj _ e
  wp_walk using wpAny_pyIter_tuple h.1,wpAny_pyIter_tuple c
  exact(ad _ rfl h.2.2)
theorem Qq{xs l:Array Value}{Q:bL}(f:s.heap.IsTuple l1 xs)(g:s.heap.IsTuple l2 l)
 (h:∀h',gF h' (s.heap.objs.size+4) (s.heap.objs.size+2) (s.heap.objs.size+3) .none (.bool false)->IsPair h' (s.heap.objs.size+2) (.ref s.heap.objs.size) (.ref (s.heap.objs.size+1))->
  IsPair h' (s.heap.objs.size+3) .none .none->h'.IsTupleIter s.heap.objs.size l1 0->h'.IsTupleIter (s.heap.objs.size+1) l2 0->
  (∀c o,s.heap.get? c=some o->h'.get? c=some o)->Q (.ref (s.heap.objs.size+4)) {s with heap:=h'}):
 wpAny (model prog w) A (call (.type "zip") [.ref l1,.ref l2]) Q E s:=by
 refine callType_new PySem.F.called_zip rfl (PySem.F.typeCall_zip_2 _ _) (PySem.F.newCall_zip_2 _ _) (λm=>PySem.F.args_object_init_3 _ _ _) PySem.F.entry_zip_new
  (L5 l1 l2 xs l) (bt f g ?_)
 have z1:(wn _ l1).objs.size=s.heap.objs.size+1:=kW ..;have z2:(wm _ l1 l2).objs.size=s.heap.objs.size+2:=Z (kW ..)<|Z z1 rfl;have z3:(wj _ l1 l2).objs.size=s.heap.objs.size+3:=Z (kW ..)<|Z z2 rfl;have z4:(wi _ l1 l2).objs.size=s.heap.objs.size+4:=Z (kW ..)<|Z z3 rfl;have e:(rn s.heap l1 l2).get? _=some _:=cg _ rfl;have k:(rn s.heap l1 l2).get? _=some _:=bj _ (cg _ rfl);have j:(rn s.heap l1 l2).get? _=some _:=bj _ (bj _ (cg _ rfl));have i:(rn s.heap l1 l2).get? _=some _:=bj _ (bj _ (bj _ (cg _ rfl)));refine(?_:_/\_);rw[z2,z3,z4]at e;rw[z1,z2]at j;rw[z3]at k;rw[z1]at i
 exact Z z4<|⟨(ad _ e rfl),h _ e j k (gx _ ((bj _ (bj _ (bj _ (bj _ (cg _ rfl)))))) rfl rfl) (gx _ i rfl rfl) λc o x=>bj _ (bj _ (bj _ (bj _ (bj _ x))))⟩
inductive hJ(h:Heap)(z TI TO i1 i2 t1 t2:Addr)(xs ys:Array Value)(k:Nat):Prop
 |mk(D:ZipApart z TI TO i1 i2 t1 t2)(zip:aV λf0 f1=>gF h z TI TO f0 f1/\lL f0)(ti:IsPair h TI (.ref i1) (.ref i2))(it1:h.IsTupleIter i1 t1 k)(it2:h.IsTupleIter i2 t2 k)(tu1:h.IsTuple t1 xs)(tu2:h.IsTuple t2 ys)
def hV(z i1 i2:Addr):Addr->Prop:=λb=>b=z\/b=i1\/b=i2
def jC:List V->List V->List V
 |x::l,y::r=>.tup [x,y]::jC l r
 |_,_=>[]
section
variable{z TI TO i1 i2 t1 t2:Addr}{xs ys:Array Value}{k:Nat}
theorem qi{t:Addr}(x:h.IsTuple t xs)(st:dA μ h h')(n:t∉μ):h'.IsTuple t xs:=by refine iG x λo e a k b=>?_;clear x;exact(lH o (st t o e (.inl ⟨a,_,_,b⟩) n) a k b)
theorem hJ.flds(Ψ:hJ h z TI TO i1 i2 t1 t2 xs ys k):∀b o,hV z i1 i2 b->h.get? b=some o->¬dv o/\∃vs,o.data=.fields vs:=by
 rintro b o (rfl|rfl|rfl) e
 ·refine bS Ψ.2 λg i hz _=>?_
  rw[hz]at e;replace e:=aG e;subst e;exact lK (it:=b) rfl (by decide) rfl
 ·have⟨f,a,c,d⟩:=Ψ.4
  rw[a]at e;replace e:=aG e;subst e;exact lK (it:=b) c (by decide) d
 ·have⟨f,a,c,d⟩:=Ψ.5
  rw[a]at e;replace e:=aG e;subst e;exact lK (it:=b) c (by decide) d
theorem hJ.go(Ψ:hJ h z TI TO i1 i2 t1 t2 xs ys k)(a:∀b o,hV z i1 i2 b->h.get? b=some o->h'.get? b=some o)(st:dA μ h h')(c:TI∉μ)(g:t1∉μ)(i:t2∉μ):hJ h' z TI TO i1 i2 t1 t2 xs ys k:=bS Ψ.2 λd f hz j=>⟨Ψ.1,(cP d f (a _ _ (.inl rfl) hz) j),st _ _ Ψ.3 (.inl ⟨rfl,_,_,rfl⟩) c,Ψ.4.at λo e=>a _ o (.inr (.inl rfl)) e,Ψ.5.at λo e=>a _ o (.inr (.inr rfl)) e,qi Ψ.6 st g,qi Ψ.7 st i⟩
theorem GS(r:aq N μ h l xs.toList):l.length=xs.size:=by have:=r.length;rwa [mh (xs:=xs)]at this
theorem Nr(ok:g9 tg)(hl:l1.length=l2.length):∀Y D k μ h,l1.drop k=Y->l2.drop k=D->hJ h z TI TO i1 i2 t1 t2 xs ys k->μ[j]?=some TO->TI∉μ->t1∉μ->t2∉μ->
 aq B.N μ h l1 xs.toList->aq B.N μ h l2 ys.toList->
 gc B (.ref z) tg (hV z i1 i2) (λm=>m[j]?=some .part) (jC Y D) μ h:=by
 intro Y
 induction Y with
 |nil=>
  intro D k μ h l n Ψ M p Ω W v1 v2;have:jC [] D=[]:=by cases D<;>rfl
  intro d A fs m μ' s E R ar S g hs hR;have f:=Ψ.go g.3 g.2 p Ω W;refine eC (S.4.3 j TO _ (g.at M) hs) λa b i=>bS f.2 λf0 f1 hz Φ=>LI ar.4 f.1 hz Φ f.3 f.4 f.6 (tJ (Z (GS v1).symm<|(List.drop_eq_nil_iff.mp l))) ⟨a,b,i⟩ λh' kp=>?_;exact hR _ (.of S g.4 (λb o e q=>kp b o (λw=>q (.inl w)) (λw=>q (.inr (.inl w))) e) (λb o q e=>f.flds b o q e) rfl rfl)
 |cons x Y ih=>
  refine λD k μ h l n Ψ M p Ω W v1 v2=>a_ (mQ l) λhx N=>?_
  cases D with
  |nil=>exact absurd (List.drop_eq_nil_iff.mp n) (Nat.not_le.mpr (Z hl.symm<|(bV.mp hx).1))
  |cons y D=>
   obtain⟨hy,P⟩:=mQ n;intro d A fs m μ' s E R ar S g hs hR;have f:=Ψ.go g.3 g.2 p Ω W;have r:=g.at M;refine eC (S.4.3 j TO _ r hs) λa b i=>bS f.2 λf0 f1 hz Φ=>?_;have α:=vn g v1;have β:=vn g v2;refine ac (α.get hx) λvx t rx=>ac (β.get hy) λvy C ry=>?_;rw[j7]at t C;refine LH f.1 hz Φ f.3 i f.4 f.5 f.6 f.7 t C λT h1 F=>bS F.1 λg0 g1 I H=>Nz ok I H λh2 γ δ Q L sb=>?_;have oz:=g.4 z (.inl rfl);have o1:=g.4 i1 (.inr (.inl rfl));have o2:=g.4 i2 (.inr (.inr rfl));have Tz:T≠z:=λq=>by clear ok hl l M v1 v2 hx n hy ar g i Φ t C I H;subst q;have:=F.6;rw[hz]at this;exact gO this
   have kp:=λc o c1 c2 c3 c4 e=>sb.extBut _ _ c1 (F.7 c o c1 c2 c3 c4 e);refine eC F.2 λa' b' G=>?_;have x:ge (hV z i1 i2) μ' m s {s with heap:=h2}:=by
    refine⟨λb o e q np=>kp b o (λw=>q (.inl w)) (λw=>?_) (λw=>q (.inr (.inl w))) (λw=>q (.inr (.inr w))) e,λj' b hb hp=>?_,f.flds,rfl,rfl⟩
    ·subst w;exact np j r hs
    ·by_cases q:b=TO
     ·exact Z q<|⟨_,_,(sb.extBut _ _ (λq=>oz (q▸(bN r))) G)⟩
     ·exact eC (S.4.3 j' b _ hb hp) λu v c=>⟨u,v,kp b _ (λw=>oz (w▸(bN hb))) q (λw=>o1 (w▸(bN hb))) (λw=>o2 (w▸(bN hb))) c⟩
   have st:=x.still;have Z2:hJ h2 z TI TO i1 i2 t1 t2 xs ys (k+1):=by
    have X:=g.not p Ψ.3;refine⟨f.1,(cP _ _ Q L),st _ _ f.3 (.inl ⟨rfl,_,_,rfl⟩) X,F.3.at λo e=>sb.extBut _ _ f.1.i1z e,F.4.at λo e=>sb.extBut _ _ f.1.i2z e,?_,?_⟩
    ·obtain⟨o,e,_⟩:=Ψ.6;exact qi f.6 st (g.not Ω e)
    ·obtain⟨o,e,_⟩:=Ψ.7;exact qi f.7 st (g.not W e)
   refine hR _ _ x (λb w=>?_) ?_ ?_
   ·clear ok hl l M v1 v2 hx n hy ar hs g hR f i hz Φ t C I H L oz o1 o2 kp G x;rcases w with rfl|rfl|rfl
    ·exact(ad _ Q (e8 rfl))
    ·obtain⟨o,e,_,ed⟩:=Z2.4;exact⟨o,e,e8 ed⟩
    ·obtain⟨o,e,_,ed⟩:=Z2.5;exact⟨o,e,e8 ed⟩
   ·exact aj.tup_ (lH _ (sb.extBut _ _ Tz F.5) rfl _ rfl) (aq.cons (rx.stay st) (aq.cons (ry.stay st) aq.nil)) (S.4.new_not F.6)
   ·refine ih D _ μ' h2 N P Z2 r ?_ ?_ ?_ (α.stay st) (β.stay st)
    ·exact g.not p Ψ.3
    ·obtain⟨o,e,_⟩:=Ψ.6;exact g.not Ω e
    ·obtain⟨o,e,_⟩:=Ψ.7;exact g.not W e
theorem Cu{a b:Value}{Q:List V->bY->av->Prop}(S:b_ B fs m μ s)(G:aj B.N μ s.heap (.tup l1) a)(H:aj B.N μ s.heap (.tup l2) b)(L:l1.length=l2.length)
 {R:bL}
 (h:∀h' z TI TO i1 i2 t1 t2 xs ys,hJ h' z TI TO i1 i2 t1 t2 xs ys 0->Nx B No μ s (m++[.part]) (μ++[TO]) {s with heap:=h'}->(μ++[TO])[m.length]?=some TO->TI∉μ++[TO]->t1∉μ++[TO]->t2∉μ++[TO]->
  (∀b,hV z i1 i2 b->s.heap.get? b=none/\b∉μ++[TO])->aq B.N (μ++[TO]) h' l1 xs.toList->aq B.N (μ++[TO]) h' l2 ys.toList->R (.ref z) {s with heap:=h'}):
 wpAny (model B.prog B.w) A (call (.type "zip") [a,b]) R E s:=by
 refine gu G.tup_inv λt1 xs k f I D=>Z k<|gu H.tup_inv λt2 ys k g Φ F=>Z k<|Qq f g λh' hz l p r u kp=>?_;have i:∀n,s.heap.get? (s.heap.objs.size+n)=none:=λn=>ng (dq _ _);have v:@LT.lt Nat _ t1 s.heap.objs.size:=by refine ac f λo e _=>?_;clear f;exact dH e
 have w:@LT.lt Nat _ t2 s.heap.objs.size:=by refine ac g λo e _=>?_;clear g;exact dH e
 have x:Nx B No μ s (m++[.part]) _ {s with heap:=h'}:=Nx.new S.4 kp (i 3) ⟨_,_,p⟩ rfl rfl
 have d:∀c,s.heap.get? c=none->c≠s.heap.objs.size+3->c∉μ++[s.heap.objs.size+3]:=λc e q z=>by
  rcases cO.mp z with z|z
  ·exact S.4.new_not e z
  ·simp only[b5]at z;exact q z
 have j:∀t,t∉μ->@LT.lt Nat _ t _->t∉μ++[s.heap.objs.size+3]:=λt e q z=>by
  rcases cO.mp z with z|z
  ·exact e z
  ·simp only[b5]at z;exact bI (Nat.lt_add_right 3 q) z
 refine h h' _ _ _ _ _ t1 t2 xs ys ⟨⟨?_,?_,?_,?_,?_,?_,?_,?_,?_,?_,?_,?_,?_,?_,?_,?_,?_,?_⟩,(cP _ _ hz trivial),l,r,u,qi f (λb o e _ _=>kp b o e) D,qi g (λb o e _ _=>kp b o e) F⟩ x ?_
  (d _ (i 2) (neN (bI fT))) (j _ D v) (j _ F w) ?_ (I.nx S.4 x) (Φ.nx S.4 x)
 all_goals first|(refine neN ?_;lia)|skip
 ·exact Z S.4.1.symm<|gN
 ·rintro c (rfl|rfl|rfl)
  ·exact⟨i 4,d _ (i 4) (neN (hL fT))⟩
  ·exact⟨(bQ _),d _ (bQ _) (neN (bI fT))⟩
  ·exact⟨i 1,d _ (i 1) (neN (bI fT))⟩
end
theorem EP:bootBuiltins "zip"=some (.type "zip"):=rfl
theorem QK:bootBuiltins "tuple"=some (.type "tuple"):=rfl
def zi(x:Str):List V:=x.cps.toList.map λc=>.str ⟨#[c]⟩
def wh(vs:List V)(m:av)(Q:List V->bY->av->Prop):Prop:=n9 vs λx y=>kq x λl1=>kq y λl2=>l1.length=l2.length/\Q (jC l1 l2) (λm'=>m'[m.length]?=some .part) (m++[.part])
section
variable{own:Addr->Prop}{z TI TO i1 i2 t1 t2:Addr}{xs ys:Array Value}{k:Nat}
theorem hJ.alive(Ψ:hJ h z TI TO i1 i2 t1 t2 xs ys k):j8 (hV z i1 i2) h:=by
 rintro b (rfl|rfl|rfl)
 ·exact bS Ψ.2 λc d hz _=>(ad _ hz (e8 rfl))
 ·have⟨o,e,_,a⟩:=Ψ.4;exact⟨o,e,e8 a⟩
 ·have⟨o,e,_,a⟩:=Ψ.5;exact⟨o,e,e8 a⟩
theorem hJ.iter(l:g9 tg)(Ψ:hJ h z TI TO i1 i2 t1 t2 xs ys 0)(d:μ[j]?=some TO)(c:TI∉μ)(g:t1∉μ)(i:t2∉μ)(e:l1.length=l2.length)
 (n:aq B.N μ h l1 xs.toList)(o:aq B.N μ h l2 ys.toList):v9 B (.ref z) tg (hV z i1 i2) (λm=>m[j]?=some .part) (jC l1 l2) μ h:=
 ⟨Nr l e l1 l2 0 μ h rfl rfl Ψ d c g i n o,λA E Q s k f=>bS Ψ.2 λp q hz _=>yI (k _ _ (.inl rfl) hz) f,Ψ.alive⟩
theorem Pw(H:g9 tg)(r:d7 B sc d [e1,e2] Ds)(t:sc.names.lookup ("zip":Str)=some .globalImplicit)(C:nsIn B.K mainGlobals "zip"=some none)
 (f:autoParam (∀U,starEach [e1,e2] U=(false,eval e1 U)::starEach [e2] U) bF)(g:autoParam (∀U,(backTo p (starEach [e2] U)).any (·.1)=false) bF):
 j5 B sc d tg (.Call (.Name "zip" fp) [e1,e2] [] p) λJ m Q=>Ds J m λvs m=>wh vs m Q:=by
 intro J m Q q A fs U μ s E o S;refine tt o S r q t C EP (.inr ⟨_,rfl⟩) (by decide) rfl (f _) (g _) λvs vals m1 μ1 s1 q1 I h=>pZ q1 I λx y v w Φ L q1=>ac (lx q1) λD a q2=>?_;clear q1;subst a
 refine fv (lx q2) λF a l q3=>?_;clear q2;subst a;exact Cu (Q:=Q) (S.next h).1 Φ L l λh' z TI TO i1 i2 t1 t2 xs ys Ψ G u i j k n M N=>bS (id Ψ.2) λP R hz _=>yI hz<|⟨jC D F,_,_,_,hV z i1 i2,q3,h.trans G,Ψ.iter H u i j k l M N,λb w=>h.fresh_of (n b w).1,λb w=>(n b w).2⟩
theorem Ny{x:Str}(D:g9 tg):∀r i μ h,x.cps.toList.drop i=r->h.IsStrIter I "str_ascii_iterator" x t i->
 gc B (.ref I) tg (λb=>b=I) (λ_=>True) (r.map λc=>.str ⟨#[c]⟩) μ h:=by
 have w:∀(h:Heap) i b o,h.IsStrIter I "str_ascii_iterator" x t i->b=I->h.get? b=some o->¬dv o/\∃vs,o.data=.fields vs:=by rintro h i b o ⟨ob,k,l,G⟩ rfl e;rw[e]at k;replace k:=aG k;exact Z k<|lK (it:=b) l (by decide) G
 intro r
 induction r with
 |nil=>
  refine λi μ h p f=>Z List.map_nil ?_;intro d A fs m μ' s E R u S g hs n;refine ac f λo k l=>?_;clear f;have a:s.heap.IsStrIter I _ x t i:=(ad o (g.3 I o rfl k) l);refine wpAny_pyNext_ascii_end u.4 a (tJ (by simpa using(List.drop_eq_nil_iff.mp p))) λh' x=>?_
  exact n _ (.of S g.4 (λb o e q=>x b o q e) (λb o q e=>w _ _ b o a q e) rfl rfl)
 |cons c r Φ=>refine λi μ h p f=>Z eV ?_;intro d A fs m μ' s E R u S g hs n;refine ac f λo k l=>?_;clear f;have a:s.heap.IsStrIter I _ x t i:=(ad o (g.3 I o rfl k) l);refine a_ (mQ p) λz y=>?_;rw[j7]at z;exact wpAny_pyNext_ascii_item a z λh' j F=>fv (id j) λL v C H=>uX D v C rfl<|n _ _ (.of S g.4 (λb o e q=>(F.2 b q).trans e) (λb o q e=>w _ _ b o a q e) rfl rfl) (λb q=>by clear D p u S g hs n k l a z F C H;exact Z q<|(ad _ v (yh (w _ _ _ _ j rfl v)))) (aj.str_ _ _) (Φ _ μ' h' y j)
def Du:V->av->(List V->bY->av->Prop)->Prop
 | .str x,m,Q=>x.cps.all (·<128)=true/\Q (zi x) (λ_=>True) m
 |v,m,Q=>Dw v m Q
theorem Px(h1:a7 B sc d e D)(f:g9 tg):j5 B sc d tg e λJ m Q=>D J m λx m=>Du x m Q:=by
 intro J m Q q A fs U μ s E h S;refine h1.go q h S λv s1 x m1 μ1 q1 g a=>?_
 cases x with
 |str x=>
  refine aI g.str_inv λt j=>Z j ?_;have c:(s1.heap.push _).get? _=some {cls:=.type "str_ascii_iterator",data:=.fields #[.str x t,.int 0 0]}:=cg _ rfl;refine wpAny_pyIter_ascii q1.1 ⟨zi x,_,m1,μ1,(·=s1.heap.objs.size),q1.2,(uy a.1 a),⟨Ny (i:=0) f _ _ _ rfl (gx _ c rfl rfl),?_,?_⟩,?_,?_⟩
  ·exact λA E Q s' k o=>wpAny_pyIter_striter_ascii (gx _ (k _ _ rfl c) rfl rfl) o
  ·rintro b rfl;exact⟨_,c,e8 rfl⟩
  ·rintro b rfl;exact a.fresh_of (bQ _)
  ·rintro b rfl;exact a.1.new_not (bQ _)
 |none=>exact q1.elim
 |bool _=>exact q1.elim
 |int _=>exact q1.elim
 |obj _ _=>exact q1.elim
 |tup l=>exact Dr (x:=.tup l) f q1 g a
 |loc n=>exact Dr (x:=.loc n) f q1 g a
def DK(x y:V)(m:av)(Q:aS):Prop:=V.casesOn (motive_1:=λ_=>Prop->Prop) x id (λ_=>id) (λ_=>id) (λz D=>V.casesOn (motive_1:=λ_=>Prop) y D (λ_=>D) (λ_=>D)
 (λx=>Q (.bool !(Builtin.Str.occurrences x z 0 x.length 1).isEmpty) m) (λ_=>D) (λ_=>D) λ_ _=>D) (λ_=>id) (λ_=>id) (λ_ _=>id) (lI false x y m Q)
theorem K3:eg B d (compareOp .In) DK:=by
 intro x y m Q q A fs μ s E a b h S f g;have c:lI _ x y m Q->wpAny _ A _ _ E s:=λq=>K4 _ _ _ _ q _ _ _ _ _ _ _ h S f g
 cases x with
 |str z=>cases y with
  |str x=>exact aI f.str_inv λt e=>Z e<|aI g.str_inv λu e=>Z e<|P.in_str (fx S.4 q (aj.bool_ _))
  |_=>exact c q
 |_=>exact c q
end
section
variable{own:Addr->Prop}{z TI TO i1 i2 t1 t2:Addr}{xs ys:Array Value}{k:Nat}
theorem rg.step{Q:cv}(i:∀b,P b->b9 sc U b)(n:Nx B P μ s m' μ' s')(p:rg B sc U μ' s' Q f s''):rg B sc U μ s Q f s'':=by refine p.k λe a g d q r h=>?_;clear p;exact⟨e,a,g,d,q,r,(n.mono i).trans h⟩
theorem PE{st:Stmt}{D1 D2:DS}(h1:fJ B sc d st D1)(o:o0 B sc d sts D2):o0 B sc d (st::sts) (nU D1 D2):=by
 refine λJ m Q q A fs U μ s E h S=>jG (mo (h1 J m _ q A fs _ μ s E h S) (λf s1 j=>j.k λn b m1 μ1 q1 c k i=>?_));clear j;cases n with
 |next=>exact Z c<|mo (o _ m1 Q q1 A fs _ μ1 s1 E h k) (λ_ _ p=>p.step xK i)
 |ret v=>refine ac c λa l e=>?_;clear c;exact Z l<|⟨.ret v,b,m1,μ1,q1,(ad a rfl e),i⟩
theorem hJ.nx(Ψ:hJ s.heap z TI TO i1 i2 t1 t2 xs ys k)(n:Nx B P μ s m' μ' s')(a:∀b,hV z i1 i2 b\/b=TI\/b=t1\/b=t2->b∉μ/\¬P b):
 hJ s'.heap z TI TO i1 i2 t1 t2 xs ys k/\∀b,hV z i1 i2 b\/b=TI\/b=t1\/b=t2->b∉μ':=by
 have kp:∀b o,hV z i1 i2 b\/b=TI\/b=t1\/b=t2->s.heap.get? b=some o->s'.heap.get? b=some o:=λb o w e=>n.kep e (λq=>q.elim (a b w).1 (a b w).2) (by
  rcases w with w|rfl|rfl|rfl
  ·obtain⟨_,q⟩:=(Ψ.flds b o w e).2;exact e8 q
  ·have d:s.heap.get? b=some _:=Ψ.3;rw[e]at d;replace d:=aG d;exact Z d<|rU rfl
  ·obtain⟨m,c,_,_,f⟩:=Ψ.6;rw[e]at c;cases c;exact rU f
  ·obtain⟨m,c,_,_,f⟩:=Ψ.7;rw[e]at c;cases c;exact rU f)
 refine⟨?_,λb w q=>?_⟩
 ·refine bS Ψ.2 λi j hz p=>⟨Ψ.1,(cP i j (kp _ _ (.inl (.inl rfl)) hz) p),kp _ _ (.inr (.inl rfl)) Ψ.3,Ψ.4.at λo e=>kp _ o (.inl (.inr (.inl rfl))) e,Ψ.5.at λo e=>kp _ o (.inl (.inr (.inr rfl))) e,?_,?_⟩
  ·exact ac Ψ.6 λo e r=>(ad o (kp _ o (.inr (.inr (.inl rfl))) e) r)
  ·exact ac Ψ.7 λo e r=>(ad o (kp _ o (.inr (.inr (.inr rfl))) e) r)
 ·refine ac n.2 λt g l=>?_;subst g
  rcases cO.mp q with q|q
  ·exact(a b w).1 q
  ·have h:∃o,s.heap.get? b=some o:=by
    clear a kp n;rcases w with w|rfl|rfl|rfl
    ·exact ac (Ψ.alive b w) λo e _=>⟨o,e⟩
    ·exact⟨_,Ψ.3⟩
    ·exact ac Ψ.6 λo e _=>⟨o,e⟩
    ·exact ac Ψ.7 λo e _=>⟨o,e⟩
   obtain⟨o,e⟩:=h;rw[l b q]at e;exact aN e
theorem PD{x:Str}{px h zp tp p1 p2 M p4 p5 pos:Pos}{k1 Φ c0 r f:Expr}{kk:Nat} cap(hx:sc.names[i]?=some (x,.local))(ι:jL x=true)
 (ok:g9 tg)(hk:d7 B sc d [k1,Φ] Dk)(h0:a7 B sc d c0 D0)(h1:a7 B sc d r D1)(ht:gf B scope d tg T)(he:a7 B scope d f De)
 (W:ff sc scope cap=true)(sok:fq scope=true)(t:scope.kind=.function)
 (hg:sc.names.lookup ("zip":Str)=some .globalImplicit)(hn:nsIn B.K mainGlobals "zip"=some none)(β:sc.names.lookup ("tuple":Str)=some .globalImplicit)(ζ:nsIn B.K mainGlobals "tuple"=some none)
 (hs:autoParam (∀U,swapsWithSole [.Name x px] (.Call (.Name "zip" zp) [k1,Φ] [] p1) p2.line U=pure false) bF)(hw:autoParam (∀U,swappedStores [.Name x px] (.Call (.Name "zip" zp) [k1,Φ] [] p1) U=pure none) bF)
 (θ:autoParam (∀U x2,foldedSetIterable (.Name x h) U x2=pure x2) bF)
 (ha1:autoParam (∀U,starEach [k1,Φ] U=(false,eval k1 U)::starEach [Φ] U) bF)(ha2:autoParam (∀U,(backTo p1 (starEach [Φ] U)).any (·.1)=false) bF)
 (hb1:autoParam (∀U,starEach [c0,r,.Call (.Name "tuple" tp) [.ListComp f [⟨tg,.Name x h,[],0⟩] scope pos] [] M] U=(false,eval c0 U)::starEach [r,.Call (.Name "tuple" tp) [.ListComp f [⟨tg,.Name x h,[],0⟩] scope pos] [] M] U) bF)
 (hb2:autoParam (∀U,starEach [r,.Call (.Name "tuple" tp) [.ListComp f [⟨tg,.Name x h,[],0⟩] scope pos] [] M] U=(false,eval r U)::starEach [.Call (.Name "tuple" tp) [.ListComp f [⟨tg,.Name x h,[],0⟩] scope pos] [] M] U) bF):
 o0 B sc d [.Assign [.Name x px] (.Call (.Name "zip" zp) [k1,Φ] [] p1) p2,.Return (some (.Tuple [c0,r,.Call (.Name "tuple" tp) [.ListComp f [⟨tg,.Name x h,[],0⟩] scope pos] [] M] kk p4)) p5]
  λJ m Q=>Dk J m λvs m=>aV λl1 l2=>br (vs=[.tup l1,.tup l2]) (l1.length=l2.length) (D0 (J.set i none) (m++[.part]) λv0 m2=>∃a0,v0=.str a0/\D1 (J.set i none) m2 λv1 m3=>∃a1,v1=.str a1/\
   cR T (λm'=>m'[m.length]?=some .part) (λ_ m Q=>Q true m) De (jC l1 l2) [] (hH (J.set i none) cap) m3 λvs m4=>vs.length<=10000/\Q (.ret (.tup [v0,v1,.tup vs])) (J.set i none) (m4++[.list vs])):=by
 intro J m Q q A fs U μ s E Ω S;refine jG (wpAny_Assign_stores (tt Ω S hk q hg hn EP (.inr ⟨_,rfl⟩) (by decide) rfl (ha1 _) (ha2 _) λvs vals m1 μ1 s1 q1 r1 n1=>bX q1 λl1 l2 h0_ hl q1z=>?_) (hs _) (hw _));clear q1;subst h0_
 refine bX r1.two λv w Y ra rb=>Z Y ?_;have S1:=S.next n1;refine Cu (Q:=λ_ _ _=>True) S1.1 ra rb hl λh' z TI TO i1 i2 t1 t2 xs ys Ψ n2 hj ξ ο π of v1 v2=>?_;have N:=S1.next n2
 have α:∀b,hV z i1 i2 b->¬gJ _ b:=λb w o=>by refine aI ((λb o=>v_ S.2 o) b o) λob e=>?_;rw[n1.fresh_of (of b w).1]at e;exact aN e
 have p:∀{b o},b9 sc _ b->{s1 with heap:=h'}.heap.get? b=some o->¬dv o:=λw e=>N.own_not_still w e
 have u:∀b,hV z i1 i2 b\/b=TI\/b=t1\/b=t2->b∉μ1++[TO]/\¬b9 sc _ b:=λb w=>by
  rcases w with w|rfl|rfl|rfl
  ·exact⟨(of b w).2,λq=>α b w q.frm⟩
  ·exact⟨ξ,λq=>p q Ψ.3 (.inl ⟨rfl,_,_,rfl⟩)⟩
  ·have⟨o,e,X,kk,e3⟩:=Ψ.6;exact⟨ο,λq=>p q e (.inl ⟨X,_,_,e3⟩)⟩
  ·have⟨o,e,X,kk,e3⟩:=Ψ.7;exact⟨π,λq=>p q e (.inl ⟨X,_,_,e3⟩)⟩
 refine wpAny_assign_Name (wX N hx λs3 L n3 H=>ac H λmm δ ε=>?_);clear H;refine a_ (Ψ.nx n3 u) λZ3 F=>jG (wpAny_Return_some (wpAny_Tuple_spliced (spliced_more (he:=hb1 _) (h0.go q1z Ω L λj s4 v0 m4 μ4 j r4 n4=>ac j λa0 ea0 q4=>?_))));clear j;subst ea0;have S4:=L.next n4;refine a_ (Z3.nx n4 (λb w=>⟨F b w,id⟩)) λZ4 G=>spliced_more (he:=hb2 _) (h1.go q4 Ω S4 λu1 s5 v1' m5 μ5 j r5 n5=>ac j λa1 ea1 q5=>?_);clear j;subst ea1;have R:=S4.next n5;refine a_ (Z4.nx n5 (λb w=>⟨G b w,id⟩)) λZ5 a=>?_;have g:=n4.trans n5;have κ:=g.ns δ (λw=>w.elim (λw=>L.2.13 w) id);refine((spliced_cons (tq R β ζ QK (.inr ⟨_,rfl⟩) (by decide) rfl rfl ?_)):wpAny _ _ (spliced [(false,eval (.Call _ [.ListComp _ _ _ _] [] M) _)]) _ _ _)
 have γ:μ5[m1.length]?=some TO:=by refine ac g.2 λν e _=>Z e<|Z (cu (bV.mp hj).1) ?_;exact hj
 refine a_ (bW.mp ι) λo1 o2=>?_;simp only[Bool.not_eq_true']at o1 o2;refine Es (μ0:=μ) (P:=b9 sc U) (Q:=λvs m4=>vs.length<=10000/\Q (.ret (.tup [.str a0,.str a1,.tup vs])) (J.set i none) (m4++[.list vs])) W sok t ht Eh he Ω R (λb e=>S.h0own e) (λy c e=>lG (S.2.12 y c e) λ_ o ho _=>⟨o,ho⟩) ?_ θ (λacc C s' m' μ' D ea H n dμ fD I fC cd w1=>?_)
 ·refine wpAny_Name (rL R.2.1 (S.2.5 x (cW (de S.2.8) hx)) κ ε (bS (id Z5.2) λf0 f1 hz _=>yI hz<|⟨jC l1 l2,_,_,_,hV z i1 i2,q5,((((n1.trans n2).mono cG).trans n3).trans (g.mono cG)),R,Z5.iter ok γ (a _ (.inr (.inl rfl))) (a _ (.inr (.inr (.inl rfl)))) (a _ (.inr (.inr (.inr rfl)))) hl ((aq.nxOwn N n3 v1).nx L.1.4 g) ((aq.nxOwn N n3 v2).nx L.1.4 g),λb w=>n1.fresh_of (of b w).1,λb w=>a b (.inl w)⟩)) o1
 ·refine bX H λvs zs qv hp rv=>?_;clear H;refine aI w1 λmm' l=>?_;clear w1;refine Z ea<|(ad mm' l (λh2 sb=>?_))
  have η:h2.PlainList D zs:=by refine aI hp λc hc=>?_;clear hp;exact⟨c,(sb.2 D (gS cd)).trans hc⟩
  have nA:=Nx.adopt (n.letgo l I fC sb) η (rv.stay (λb o e q _=>(sb.2 b (λz=>by clear hx ι ok hk h0 h1 ht he W sok t hg hn β ζ hs hw θ ha1 ha2 hb1 hb2 n1 hl q1z ra rb r1 S1 Ψ n2 hj ξ ο π of v1 v2 N α p u L n3 δ ε Z3 F n4 q4 S4 Z4 G n5 q5 R Z5 a g κ γ o1 o2 I fC cd hp rv sb η;subst z;exact n_ l e q)).trans e)) dμ fD
  have CA:b_ B fs (m'++[.list vs]) (μ'++[D]) {s' with heap:=h2}:=S.1.next nA λb w=>by
   rcases w with rfl|⟨y,r,X⟩
   ·exact S.3.1
   ·exact S.3.2 y b r X
  refine mo (BQ [.loc m'.length] (m'++[.list vs]) (λv mq=>v=.tup vs/\mq=m'++[.list vs]) ⟨vs,by simp,qv.1,rfl,rfl⟩ A fs (μ'++[D]) {s' with heap:=h2} E [.ref D] Ω CA (aq.cons (aj.loc_ (by exact Z ((n.letgo l I fC sb).1.1).symm<|gN)) aq.nil)) (λw s6 H=>?_)
  refine H.k λ_ _ μ6 j r6 n6=>?_;clear H;refine a_ j λev em=>?_;clear j;subst ev em;refine spliced_nil ⟨by refine(?_:3<=sizeLine);decide,?_⟩
  refine aI r4.str_inv λt0 Y=>Z Y<|aI r5.str_inv λt5 Y=>Z Y<|(mP (Q:=λv mq=>v=.tup [.str a0,.str a1,.tup vs]/\mq=m'++[.list vs]) (n:=s6.toks) n6.1 (aq.cons (aj.str_ _ _) (aq.cons (aj.str_ _ _) (aq.cons r6 aq.nil)):aq B.N μ6 s6.heap [.str a0,.str a1,.tup vs] [.str a0 t0,.str a1 t5,w]) rfl ⟨rfl,rfl⟩).k λv7 m7 μ7 j r7 n7=>?_;obtain⟨e7,em7⟩:=j;subst e7 em7;exact⟨.ret _,_,_,_,qv.2,(ad _ rfl r7),(nA.trans (n6.mono cG)).trans (n7.mono cG)⟩
end
theorem Pf{x y z:Str} i j l(H:sc.names[i]?=some (x,.local))(I:sc.names[j]?=some (y,.local))(hz:sc.names[l]?=some (z,.local))(h1:d7 B sc d [e1,r,e3] Ds)
 (Ψ:∀U:Env,U.blockKind=.function->U.kindOf x=some .local->U.kindOf y=some .local->U.kindOf z=some .local->swappedStores [.Tuple [.Name x px,.Name y py,.Name z pz] k1 p1] (.Tuple [e1,r,e3] Φ p2) U=pure (some [x,y,z]))
 (hs:autoParam (∀U,swapsWithSole [.Tuple [.Name x px,.Name y py,.Name z pz] k1 p1] (.Tuple [e1,r,e3] Φ p2) p.line U=pure false) bF):
 fJ B sc d (.Assign [.Tuple [.Name x px,.Name y py,.Name z pz] k1 p1] (.Tuple [e1,r,e3] Φ p2) p) λJ m Q=>Ds J m λvs m=>cL λa b c=>vs=[a,b,c]/\Q .next (((J.set l (some c)).set j (some b)).set i (some a)) m:=by
 intro J m Q q A fs U μ s E G S;refine gR<|eQ<|ag (wpAny_Tuple_spliced (h1.go q G S p2 λvs s1 xs m1 μ1 q1 Ω w=>om q1 λa b c u D=>?_));clear q1;subst u;refine⟨Z Ω.length.symm<|af,?_⟩;obtain⟨v,m2,β,⟨rfl,rfl⟩,r2,L⟩:ds B μ1 s1 (λv m'=>v=.tup _/\m'=m1) _ _:=mP (n:=s1.toks) w.1 Ω rfl ⟨rfl,rfl⟩;have h:=(S.next w).next L;refine Z (Ψ _ (by unfold Env.blockKind;refine Z S.2.1 ?_;rfl) (S.2.5 x (cW (de S.2.8) H)) (S.2.5 y (cW (de S.2.8) I)) (S.2.5 z (cW (de S.2.8) hz))) ?_
 refine eQ<|((jW (ag (wM G h.1 r2 (.inl rfl) rfl λα h' rs k=>?_))));have⟨v1,ws,f,ra,F⟩:=rs.inv_cons;refine Z f ?_;have⟨v2,ws,f,rb,g⟩:=F.inv_cons;refine Z f ?_;have⟨v3,ws,f,rc,e⟩:=g.inv_cons;exact Z f<|Z e.inv_nil<|ag (rM (wpAny_bindName (nQ (h.next k) hz rc λs4 W C=>rM (wpAny_bindName (nQ W I (rb.nxOwn (h.next k) C) λs5 X M=>rM (wpAny_bindName (nQ X H (ra.nxOwn (h.next k) (C.trans M)) λs6 Y n6=>wpAny_assignInOrder_none (aD ⟨.next,_,_,_,D,rfl,Y,((((((w.trans L).trans k).mono cG).trans C).trans M).trans n6)⟩))))))))
structure EV where
 tag:Nat
 es:List Expr:=[]
 s:Str:=⟨#[]⟩
 c:Const:=.none
 op:Operator:=.Add
 uop:UnaryOp:=.Not
 ops:List CmpOp:=[]
 bo:BoolOp:=.And
 p:Pos:=⟨0,0,0,0⟩
 sc:Scope:=⟨.function,[],false,false,[]⟩
 k:Int:=0
 ks:List (Option Expr):=[]
noncomputable section
def d_:EV:={tag:=0}
def N_(a b c:Option Expr):EV:=Option.casesOn (motive:=λ_=>EV) c (Option.casesOn (motive:=λ_=>EV) a (Option.casesOn (motive:=λ_=>EV) b d_ λy=>{tag:=12,es:=[y]}) λx=>Option.casesOn (motive:=λ_=>EV) b {tag:=11,es:=[x]} λ_=>d_) λ_=>d_
def Oc(e:Expr)(gs:List Comprehension)(sc:Scope)(p:Pos):EV:=List.casesOn (motive:=λ_=>EV) gs d_ λg r=>List.casesOn (motive:=λ_=>EV) r {tag:=15,es:=e::g.target::g.iter::g.ifs,sc,k:=g.is_async,p} λ_ _=>d_
def Od(a b:Expr)(gs:List Comprehension)(sc:Scope):EV:=List.casesOn (motive:=λ_=>EV) gs d_ λg r=>List.casesOn (motive:=λ_=>EV) r (List.casesOn (motive:=λ_=>EV) g.ifs {tag:=16,es:=[a,b,g.target,g.iter],sc,k:=g.is_async} λ_ _=>d_) λ_ _=>d_
def ev(x:Expr):EV:=Expr.casesOn (motive_1:=λ_=>EV) x (λbo es _=>{tag:=6,bo,es}) (λ_ _ _=>d_) (λl op r _=>{tag:=3,op,es:=[l,r]}) (λuop y _=>{tag:=4,uop,es:=[y]}) (λ_ _ _ _=>d_) (λt a b _=>{tag:=7,es:=[t,a,b]}) (λks es _=>{tag:=17,ks,es}) (λ_ _ _=>d_) Oc (λ_ _ _ _=>d_) (λa b gs sc _=>Od a b gs sc) (λ_ _ _ _=>d_) (λ_ _=>d_) (λ_ _=>d_) (λ_ _=>d_)
 (λl ops rs _=>{tag:=5,ops,es:=l::rs}) (λf args kw p=>List.casesOn (motive:=λ_=>EV) kw {tag:=14,p,es:=f::args} λ_ _=>d_) (λ_ _ _ _=>d_) (λ_ _=>d_) (λc _ _=>{tag:=1,c}) (λv n p=>{tag:=13,s:=n,p,es:=[v]}) (λv s _=>{tag:=10,es:=[v,s]}) (λ_ _=>d_) (λn p=>{tag:=2,s:=n,p}) (λes _=>{tag:=9,es}) (λes _ _=>{tag:=8,es}) (λa b c _=>N_ a b c)
end
def yK(e:Expr):Bool:=Nat.beq e.ctorIdx 22
theorem HZ{vs:List Expr}(a:∀e,f e=true->yK e=true)(h:(!(vs.any yK))=true):¬vs.any f=true:=λz=>by refine ac (List.any_eq_true.mp z) λe m q=>?_;rw[List.any_eq_true.mpr (ad e m (a e q))]at h;exact aR h
def nO(vs:List Expr):Bool:=!(vs.any yK)&&!(vs.all (foldedForSure 8))&&!(vs.all (constantsAlone 8))
def yf(U:Env)(line:Nat):Expr->Option Str:=λx=>swappedStores.match_8 (λ_=>Option Str) x (λid pos=>if(U.kindOf id==some .local&&pos.line==line)=true then some id else none) λ_=>none
def Mn(ts:List Expr):Nat:=(ts.head?.map (·.pos.line)).getD 0
theorem AG{a vs:List Expr}{names:List Str}(h1:(!(a.length==2||a.length==3)||vs.length !=a.length||U.blockKind !=.function)=false)(j:nO vs=true)
 (f:a.filterMap (yf U (Mn a))=names)(g:(names.length !=a.length||names.eraseDups.length !=names.length)=false):swappedStores [.Tuple a k1 p1] (.Tuple vs k p2) U=pure (some names):=by
 refine a_ (bW.mp j) λc i=>?_;have d:∀{b:Bool},(!b)=true->¬b=true:=λh z=>by rw[z]at h;exact aR h
 subst f;refine(ai (Bool.eq_false_iff.mp h1)).trans ((ai (HZ (λe q=>by cases e<;>first|rfl|exact aR q) (bW.mp c).1)).trans ((ai (Bool.eq_false_iff.mp g)).trans ((ai (d (bW.mp c).2)).trans ((ai (d i)).trans rfl))))
theorem sq{x:Str}{l:Nat}(h:U.kindOf x=some .local)(a:(p.line==l)=true):yf U l (.Name x p)=some x:=ao (by refine Z h<|Z a ?_;rfl)
theorem Hw{x y:Str}(d:(px.line==py.line)=true)(e:(x==y)=false)(f:nO [e1,e2]=true) U(a:U.blockKind=.function)(g:U.kindOf x=some .local)(h:U.kindOf y=some .local):
 swappedStores [.Tuple [.Name x px,.Name y py] k1 p1] (.Tuple [e1,e2] k p2) U=pure (some [x,y]):=by
 refine AG (by refine Z a ?_;rfl) f ?_ ?_
 ·refine((Z (tD (sq g (oK _))) (Z (tD (sq h (fA.mpr (eq_of_beq d).symm))) ?_)));rfl
 ·have:(y==x)=false:=Z Bool.beq_comm e
  simp[List.eraseDups_cons,this]
theorem Hv{x y z:Str}(b:(px.line==k.line&&px.line==pz.line)=true)(a:(x==y||x==z||y==z)=false)(h:nO [e,f,e3]=true) U(d:U.blockKind=.function)(i:U.kindOf x=some .local)(j:U.kindOf y=some .local)(hz:U.kindOf z=some .local):
 swappedStores [.Tuple [.Name x px,.Name y k,.Name z pz] k1 n] (.Tuple [e,f,e3] k2 p2) U=pure (some [x,y,z]):=by
 refine AG (by refine Z d ?_;rfl) h ?_ ?_
 ·refine((Z (tD (sq i (oK _))) (Z (tD (sq j (fA.mpr (eq_of_beq (bW.mp b).1).symm))) (Z (tD (sq hz (fA.mpr (eq_of_beq (bW.mp b).2).symm))) ?_))));rfl
 ·simp only[Bool.or_eq_false_iff]at a
  simp[List.eraseDups_cons,(Z Bool.beq_comm a.1.1:(y==x)=false),(Z Bool.beq_comm a.1.2:(z==x)=false),(Z Bool.beq_comm a.2:(z==y)=false)]
def sk(sc:Scope)(t v:Expr):Bool:=!(Nat.beq t.ctorIdx 25||Nat.beq t.ctorIdx 24)||!(Nat.beq v.ctorIdx 25)||(Nat.beq t.ctorIdx 25&&(ev t).es.any λt=>!(Nat.beq t.ctorIdx 23)||sc.names.lookup (ev t).s==some .cell)
theorem NX{c g:Type}(f:c->Option g){l:List c}(h:∃x∈l,f x=none):(l.filterMap f).length<l.length:=by
 induction l with
 |nil=>refine ac h λ_ h _=>?_;cases h
 |cons y r d=>
  refine ac h λx b e=>?_;clear h
  cases a:f y with
  |none=>exact Z (List.filterMap_cons_none a)<|Nat.lt_succ_of_le (List.length_filterMap_le f r)
  |some z=>
   refine Z (tD a) ?_;rcases bK.mp b with rfl|b
   ·rw[e]at a;exact aN a
   ·exact Nat.succ_lt_succ (d (ad x b e))
theorem LG{l:Nat}(a:∀x,sc.names.lookup x=some .cell->U.kindOf x=some .cell){t:Expr}(h:(!(Nat.beq t.ctorIdx 23)||sc.names.lookup (ev t).s==some .cell)=true):yf U l t=none:=by
 cases t<;>try rfl
 rename_i x p;exact ai (by exact Z (a x (eq_of_beq h)) Bool.false_ne_true)
theorem AF{t value:Expr}(a:sk sc t value=true)(b:∀x,sc.names.lookup x=some .cell->U.kindOf x=some .cell):swappedStores [t] value U=pure none:=by
 cases t<;>try rfl
 ·cases value<;>first|rfl|exact aR a
 ·cases value<;>try rfl
  rename_i g k1 f vs d p2;refine ac (List.any_eq_true.mp a) λt c e=>?_;show(if _ then _ else if _ then _ else if _ then _ else _)=_
  split
  ·rfl
  ·split
   ·rfl
   ·exact ao (rm.mpr (.inl (bne_iff_ne.mpr (bI (NX _ (ad t c (LG b e)))))))
theorem Pr{t value:Expr}(h1:a7 B sc d value D)(h:gf B sc d t T)(i:sk sc t value=true)
 (hs:∀U:Env,(∀x,sc.names.lookup x=some .cell->U.kindOf x=some .cell)->swapsWithSole [t] value p.line U=pure false)(he:∀U,(assignEach [t] U).map (·.2)=[assign t U]):
 fJ B sc d (.Assign [t] value p) λJ m Q=>D J m λv m=>T v J m λJ m=>Q .next J m:=by
 intro J m Q q A fs U μ s E e S;refine wpAny_Assign_stores (mo (h1 J m _ q A fs _ μ s E e S) (λn s1 a=>a.k λx m1 μ1 q1 l f=>?_)) (hs _ S.2.6) (AF i S.2.6);clear a;exact Z (he ..)<|mo (h x J m1 _ q1 A fs _ μ1 s1 E n e (S.next f) l) (λ_ s2 a=>(by refine a.k λb j c q2 g k=>?_;clear a;exact⟨.next,b,j,c,q2,rfl,g,(f.mono cG).trans k⟩))
def bA(e:Expr):Bool:=!(Nat.beq e.ctorIdx 22)
def lw(e:Expr):Bool:=!(Nat.beq e.ctorIdx 16)
def yd(e:Expr):Bool:=!(Nat.beq e.ctorIdx 26)
def gM(e:Expr):Bool:=!(Nat.beq e.ctorIdx 7)
def uK(e:Expr):Bool:=!(Nat.ble 8 e.ctorIdx&&Nat.ble e.ctorIdx 10)
theorem dJ(h:bA e=true) es U:starEach (e::es) U=(false,eval e U)::starEach es U:=by cases e<;>first|rfl|exact aR h
theorem lC:∀{es:List Expr},es.all bA=true->(backTo p (starEach es U)).any (·.1)=false:=by
 intro es
 induction es with
 |nil=>exact@λ_=>rfl
 |cons e es a=>exact@λh=>by simp only[List.all_cons,j6]at h;refine Z (dJ h.1 ..)<|((Z (a h.2) ?_));rfl
theorem Cq:∀{es:List Expr},es.all bA=true->(backTo p (starEach es U)).all (!·.1)=true:=by
 intro es
 induction es with
 |nil=>exact@λ_=>rfl
 |cons e es a=>exact@λh=>by simp only[List.all_cons,j6]at h;refine Z (dJ h.1 ..)<|((Z (a h.2) ?_));rfl
theorem ET{o:Expr}(h:lw o=true) b U a:attributeBase o b U a=a:=by cases o<;>first|rfl|exact aR h
theorem HQ{s:Expr}(h:yd s=true) o i:subscripted s false o i=operate [o,i] (getItem o i):=by cases s<;>first|rfl|exact aR h
theorem vt(h:gM e=true) U x:foldedSetIterable e U x=pure x:=by cases e<;>first|rfl|exact aR h
theorem zD(h:gM e=true):behindInMarks op e=false:=by cases e<;>first|rfl|exact aR h
theorem Hu(h:uK e=true) t n U:swapsWith e t n U=pure false:=by cases e<;>first|rfl|exact aR h
theorem zH{t:Expr}(h:bA t=true) a U:assignEach (t::a) U=(false,assign t U)::assignEach a U:=by cases t<;>first|rfl|exact aR h
theorem EY:∀{a:List Expr},a.all bA=true->(assignEach a U).length=a.length/\(assignEach a U).findIdx? (·.1)=none:=by
 intro a
 induction a with
 |nil=>exact@λ_=>⟨rfl,rfl⟩
 |cons t a b=>intro h;simp only[List.all_cons,j6]at h;exact Z (zH h.1 ..)<|⟨Z bU<|Z bU<|Z ((b h.2).1) rfl,by refine Z List.findIdx?_cons ?_;simp[(b h.2).2]⟩
theorem uR{o:Expr}(d:lw o=true)(g:(ap.endLine==p.line)=true)(hs:args.all bA=true)(h:args.length<30) U:
 eval (.Call (.Attribute o name ap) args [] p) U=(do
  let c<-eval o U
  standAt ap.atName
  let(f,b)<-holding [c] (getMethod c name (do return (<-importBound o U).getD true))
  callWith p f b (backTo p (starEach args U)) (backToKw p (keywordEach [] U))):=by
 refine(?_:(do
  let c<-attributeBase o _ _ _
  standAt _
  methodCall o _ ap p _ c _ _ _)=_)
 refine Z (ET d ..) ?_;have e:methodCallForm (args.length+([]:List Keyword).length) (backTo p (starEach args U)) (backToKw p (keywordEach [] U))=true:=by unfold methodCallForm;refine Z (Cq hs) ?_;have:backToKw p (keywordEach [] U)=[]:=rfl;refine Z this ?_;simp[h]
 unfold methodCall;refine Z e ?_;unfold calleeOf methodCallPos;refine Z g<|Z (Bool.or_true ..)<|Z (ao rfl) ?_;rfl
theorem EX(a:lw value=true) U:eval (.Attribute value name p) U=(do
 let o<-eval value U
 standAt p.atName
 let r<-holding [o] (getAttr o name true)
 letTemporaryGo value o r
 pure r):=by
 refine(?_:(do
  let o<-attributeBase _ _ _ _
  standAt _
  let r<-holding _ _
  letTemporaryGo _ o r
  pure r)=_)
 exact Z (ET a ..) rfl
def Av(e:Expr):Bool:=!(Nat.beq e.ctorIdx 0||Nat.beq e.ctorIdx 3||Nat.beq e.ctorIdx 5||Nat.beq e.ctorIdx 15)
theorem M0(h:Av e=true) U a:isTrue e U a=(do let v<-a;standAt e.pos;holding [v] (truthy v)):=by cases e<;>first|rfl|exact aR h
def lc{α:Type}(l:List α)(f:α->List α->Bool):Bool:=List.casesOn (motive:=λ_=>Bool) l false f
def l0{α:Type}(l:List α)(b:Bool):Bool:=List.casesOn (motive:=λ_=>Bool) l b λ_ _=>false
def l1{α:Type}(l:List α)(f:α->Bool):Bool:=lc l λa r=>l0 r (f a)
def l2{α:Type}(l:List α)(f:α->α->Bool):Bool:=lc l λa r=>l1 r (f a)
def l3{α:Type}(l:List α)(f:α->α->α->Bool):Bool:=lc l λa r=>l2 r (f a)
def fS{α:Type}(o:Option α)(f:α->Bool):Bool:=Option.casesOn (motive:=λ_=>Bool) o false f
section
variable{a c d e f g:Bool}
theorem bE(h:(a&&b)=true)(k:a=true->b=true->G):G:=k (bW.mp h).1 (bW.mp h).2
theorem cK(h:(a&&b&&c)=true)(k:a=true->b=true->c=true->G):G:=bE h λh z=>bE h λx y=>k x y z
theorem iQ(h:(a&&b&&c&&d)=true)(k:a=true->b=true->c=true->d=true->G):G:=bE h λh z=>cK h λx y u=>k x y u z
theorem hI(h:(a&&b&&c&&d&&e)=true)(k:a=true->b=true->c=true->d=true->e=true->G):G:=bE h λh z=>iQ h λx y u v=>k x y u v z
theorem zF(h:(a&&b&&c&&d&&e&&f)=true)(k:a=true->b=true->c=true->d=true->e=true->f=true->G):G:=bE h λh z=>hI h λx y u v w=>k x y u v w z
theorem Q3(h:(a&&b&&c&&d&&e&&f&&g)=true)(k:a=true->b=true->c=true->d=true->e=true->f=true->g=true->G):G:=bE h λh z=>zF h λx y u v w r=>k x y u v w r z
theorem mK(h:(!a)=true):a=false:=by cases a with|false=>rfl|true=>exact aR h
end
section
variable{α:Type}{l:List α}{P:List α->Prop}
@[elab_as_elim] theorem fV(h:lc l f=true)(k:∀a r,f a r=true->P (a::r)):P l:=by
 cases l with
 |nil=>exact aR h
 |cons a r=>exact k a r h
@[elab_as_elim] theorem CW(h:l0 l b=true)(k:b=true->P []):P l:=by
 cases l with
 |nil=>exact k h
 |cons a r=>exact aR h
@[elab_as_elim] theorem e0(h:l1 l f=true)(k:∀a,f a=true->P [a]):P l:=fV h λa _ h=>CW h (k a)
@[elab_as_elim] theorem iq(h:l2 l f=true)(k:∀a b,f a b=true->P [a,b]):P l:=fV h λa _ h=>e0 h (k a)
@[elab_as_elim] theorem u6(h:l3 l f=true)(k:∀a b c,f a b c=true->P [a,b,c]):P l:=fV h λa _ h=>iq h (k a)
@[elab_as_elim] theorem kG(h:l.isEmpty=true)(k:P []):P l:=by
 cases l with
 |nil=>exact k
 |cons a r=>exact aR h
@[elab_as_elim] theorem uC{o:Option α}{P:Option α->Prop}(h:fS o f=true)(k:∀a,f a=true->P (some a)):P o:=by
 cases o with
 |none=>exact aR h
 |some a=>exact k a h
end
theorem uZ{l:List α}{a:α}(h:lc l f=true)(e:l=a::r):f a r=true:=by subst e;exact h
theorem kC{l:List α}{a:α}(h:l1 l f=true)(e:l=[a]):f a=true:=by subst e;exact h
theorem u7{l:List α}{a b:α}(h:l2 l f=true)(e:l=[a,b]):f a b=true:=by subst e;exact h
theorem MF{l:List α}{a b c:α}(h:l3 l f=true)(e:l=[a,b,c]):f a b c=true:=by subst e;exact h
theorem i8{o:Option α}(h:fS o f=true):∃a,o=some a/\f a=true:=uC h λa h=>ad a rfl h
theorem lF{l:List α}(h:lc l f=true):aV λa r=>l=a::r/\f a r=true:=fV h λa r h=>cP a r rfl h
theorem MH{l:List α}(h:l1 l f=true):∃a,l=[a]/\f a=true:=e0 h λa h=>ad a rfl h
theorem MG{l:List α}(h:l2 l f=true):aV λa b=>l=[a,b]/\f a b=true:=iq h λa b h=>cP a b rfl h
def Fg(x:Expr)(v:EV):Nat->Prop
 |1=>aV λk p=>x=.Constant v.c k p
 |2=>x=.Name v.s v.p
 |3=>cL λl r p=>v.es=[l,r]/\x=.BinOp l v.op r p
 |4=>aV λy p=>v.es=[y]/\x=.UnaryOp v.uop y p
 |5=>cL λl r p=>v.es=l::r/\x=.Compare l v.ops r p
 |6=>∃p,x=.BoolOp v.bo v.es p
 |7=>rf λa b c p=>v.es=[a,b,c]/\x=.IfExp a b c p
 |8=>aV λk p=>x=.Tuple v.es k p
 |9=>∃p,x=.List v.es p
 |10=>cL λa b p=>v.es=[a,b]/\x=.Subscript a b p
 |11=>aV λa p=>v.es=[a]/\x=.Slice (some a) none none p
 |12=>aV λa p=>v.es=[a]/\x=.Slice none (some a) none p
 |13=>∃a,v.es=[a]/\x=.Attribute a v.s v.p
 |14=>aV λf r=>v.es=f::r/\x=.Call f r [] v.p
 |15=>rf λa b c r=>v.es=a::b::c::r/\x=.ListComp a [⟨b,c,r,v.k⟩] v.sc v.p
 |16=>wb λa b c e p=>v.es=[a,b,c,e]/\x=.DictComp a b [⟨c,e,[],v.k⟩] v.sc p
 |17=>∃p,x=.Dict v.ks v.es p
 |_=>True
theorem N8 x:Fg x (ev x) (ev x).tag:=by
 cases x with
 |Constant c k p=>exact⟨_,_,rfl⟩
 |Name n p=>exact rfl
 |BinOp l op r p=>exact⟨_,_,_,rfl,rfl⟩
 |UnaryOp u y p=>exact⟨_,_,rfl,rfl⟩
 |Compare l m o p=>exact⟨_,_,_,rfl,rfl⟩
 |BoolOp b es p=>exact⟨_,rfl⟩
 |IfExp a b c p=>exact⟨_,_,_,_,rfl,rfl⟩
 |Tuple es k p=>exact⟨_,_,rfl⟩
 |List es p=>exact⟨_,rfl⟩
 |Subscript a b p=>exact⟨_,_,_,rfl,rfl⟩
 |Slice a b c p=>cases a<;>cases b<;>cases c<;>first|exact trivial|exact⟨_,_,rfl,rfl⟩
 |Attribute a n p=>exact⟨_,rfl,rfl⟩
 |Call f h j p=>cases j<;>first|exact trivial|exact⟨_,_,rfl,rfl⟩
 |ListComp e d sc p=>
  cases d with
  |nil=>exact trivial
  |cons g d=>
   cases d with
   |nil=>cases g;exact⟨_,_,_,_,rfl,rfl⟩
   |cons _ _=>cases g;exact trivial
 |DictComp a b d sc p=>
  cases d with
  |nil=>exact trivial
  |cons g d=>
   cases g with
   |mk t i ifs k=>cases ifs<;>cases d<;>first|exact trivial|exact⟨_,_,_,_,_,rfl,rfl⟩
 |Dict ks es p=>exact⟨_,rfl⟩
 |_=>exact trivial
theorem gC{x:Expr}(h:((ev x).tag==n)=true):Fg x (ev x) n:=(eq_of_beq h)▸N8 x
noncomputable section
def n8(c:Const)(x:Expr):Bool:=(ev x).tag==1&&(ev x).c==c
def h8(f:Str->Pos->Bool)(x:Expr):Bool:=(ev x).tag==2&&f (ev x).s (ev x).p
def x_(op:Operator)(f:Expr->Expr->Bool)(x:Expr):Bool:=(ev x).tag==3&&(ev x).op==op&&l2 (ev x).es f
def r9(op:UnaryOp)(f:Expr->Bool)(x:Expr):Bool:=(ev x).tag==4&&(ev x).uop==op&&l1 (ev x).es f
def mJ(ops:List CmpOp)(f:Expr->List Expr->Bool)(x:Expr):Bool:=(ev x).tag==5&&(ev x).ops==ops&&lc (ev x).es f
def kr(op:BoolOp)(f:List Expr->Bool)(x:Expr):Bool:=(ev x).tag==6&&(ev x).bo==op&&f (ev x).es
def sf(f:Expr->Expr->Expr->Bool)(x:Expr):Bool:=(ev x).tag==7&&l3 (ev x).es f
def g7(f:List Expr->Bool)(x:Expr):Bool:=(ev x).tag==8&&f (ev x).es
def xU(f:List Expr->Bool)(x:Expr):Bool:=(ev x).tag==9&&f (ev x).es
def iM(f:Expr->Expr->Bool)(x:Expr):Bool:=(ev x).tag==10&&l2 (ev x).es f
def se(f:Expr->Bool)(x:Expr):Bool:=(ev x).tag==11&&l1 (ev x).es f
def xO(f:Expr->Bool)(x:Expr):Bool:=(ev x).tag==12&&l1 (ev x).es f
def lz(f:Expr->Str->Pos->Bool)(x:Expr):Bool:=(ev x).tag==13&&l1 (ev x).es λv=>f v (ev x).s (ev x).p
def sh(f:Expr->List Expr->Pos->Bool)(x:Expr):Bool:=(ev x).tag==14&&lc (ev x).es λg a=>f g a (ev x).p
def pU(f:Expr->Expr->Expr->List Expr->Scope->Pos->Bool)(x:Expr):Bool:=(ev x).tag==15&&(ev x).k==0&&lc (ev x).es λy r=>lc r λt r=>lc r λi r=>f y t i r (ev x).sc (ev x).p
def xZ(f:Expr->Expr->Expr->Expr->Scope->Bool)(x:Expr):Bool:=(ev x).tag==16&&(ev x).k==0&&lc (ev x).es λy r=>l3 r λz t i=>f y z t i (ev x).sc
def xY(f:List (Option Expr)->List Expr->Bool)(x:Expr):Bool:=(ev x).tag==17&&f (ev x).ks (ev x).es
end
section
variable{P:Expr->Prop}{x:Expr}
@[elab_as_elim] theorem pW{c:Const}(h:n8 c x=true)(k:∀k p,P (.Constant c k p)):P x:=bE h λh1 b=>eC (gC h1) λn p e=>Z e<|Z (eq_of_beq b)<|k n p
@[elab_as_elim] theorem i_(h:h8 f x=true)(k:∀n p,f n p=true->P (.Name n p)):P x:=bE h λh1 b=>(gC h1)▸k _ _ b
@[elab_as_elim] theorem Ls(h:x_ op f x=true)(k:∀l r p,f l r=true->P (.BinOp l op r p)):P x:=cK h λh1 c d=>om (gC h1) λl r p e b=>Z b<|Z (eq_of_beq c)<|k l r p (u7 d e)
@[elab_as_elim] theorem xP(h:r9 op f x=true)(k:∀y p,f y=true->P (.UnaryOp op y p)):P x:=cK h λh1 c d=>bS (gC h1) λy p e b=>Z b<|Z (eq_of_beq c)<|k y p (kC d e)
@[elab_as_elim] theorem sg(h:mJ ops f x=true)(k:∀l r p,f l r=true->P (.Compare l ops r p)):P x:=cK h λh1 d g=>om (gC h1) λl r p e c=>Z c<|Z (eq_of_beq d)<|k l r p (uZ g e)
@[elab_as_elim] theorem si(h:kr op f x=true)(k:∀es p,f es=true->P (.BoolOp op es p)):P x:=cK h λh1 c d=>aI (gC h1) λp b=>Z b<|Z (eq_of_beq c)<|k _ p d
@[elab_as_elim] theorem B0(h:sf f x=true)(k:∀a b c p,f a b c=true->P (.IfExp a b c p)):P x:=bE h λh1 i=>CX (gC h1) λa b c p e g=>Z g<|k a b c p (MF i e)
@[elab_as_elim] theorem mI(h:g7 f x=true)(k:∀es k p,f es=true->P (.Tuple es k p)):P x:=bE h λh1 c=>eC (gC h1) λn p b=>Z b<|k _ n p c
@[elab_as_elim] theorem Lj(h:xU f x=true)(k:∀es p,f es=true->P (.List es p)):P x:=bE h λh1 c=>aI (gC h1) λp b=>Z b<|k _ p c
@[elab_as_elim] theorem qB(h:iM f x=true)(k:∀a b p,f a b=true->P (.Subscript a b p)):P x:=bE h λh1 g=>om (gC h1) λa b p e d=>Z d<|k a b p (u7 g e)
@[elab_as_elim] theorem BZ(h:se f x=true)(k:∀a p,f a=true->P (.Slice (some a) none none p)):P x:=bE h λh1 d=>bS (gC h1) λa p e c=>Z c<|k a p (kC d e)
@[elab_as_elim] theorem Lf(h:xO f x=true)(k:∀a p,f a=true->P (.Slice none (some a) none p)):P x:=bE h λh1 d=>bS (gC h1) λa p e c=>Z c<|k a p (kC d e)
@[elab_as_elim] theorem pY(h:lz f x=true)(k:∀a n p,f a n p=true->P (.Attribute a n p)):P x:=bE h λh1 d=>ac (gC h1) λa e c=>Z c<|k a _ _ (kC (f:=λv=>f v _ _) d e)
@[elab_as_elim] theorem uI(h:sh f x=true)(k:∀g a p,f g a p=true->P (.Call g a [] p)):P x:=bE h λh1 d=>bS (gC h1) λg r e c=>Z c<|k g r _ (uZ d e)
@[elab_as_elim] theorem xV(h:pU f x=true)(k:∀y t i r sc p,f y t i r sc p=true->P (.ListComp y [⟨t,i,r,0⟩] sc p)):P x:=cK h λh1 c d=>CX (gC h1) λy t i r e b=>Z b<|Z (eq_of_beq c)<|k y t i r _ _ (uZ d e)
@[elab_as_elim] theorem Lo(h:xZ f x=true)(k:∀y z t i sc p,f y z t i sc=true->P (.DictComp y z [⟨t,i,[],0⟩] sc p)):P x:=cK h λh1 c d=>by obtain⟨y,z,t,i,p,e,b⟩:=gC h1;exact Z b<|Z (eq_of_beq c)<|k y z t i _ p (uZ d e)
@[elab_as_elim] theorem Ln(h:xY f x=true)(k:∀ks es p,f ks es=true->P (.Dict ks es p)):P x:=bE h λh1 c=>aI (gC h1) λp b=>Z b<|k _ _ p c
end
noncomputable section
set_option genCtorIdx false in
inductive X where
 |int(i:Int)
 |neg(i:Int)
 |str(s:Str)
 |none
 |bool(b:Bool)
 |var(i:Nat)
 |glob(i:Int)
 |bin(op:Operator)(a b:X)
 |cmp(op:CmpOp)(a b:X)
 |chain(o1 o2:CmpOp)(a b c:X)
 |not(a:X)
 |and(a b:X)
 |and3(a b c:X)
 |or(a b:X)
 |andv(a b:X)
 |ite(t a b:X)
 |tup(l:X)
 |lst(l:X)
 |nil
 |cons(a l:X)
 |sub(a i:X)
 |lo(a i:X)
 |up(a i:X)
 |attr(c i:Nat)(a:X)
 |meth(c:Nat)(f:Addr)(a l:X)
 |call(f:Addr)(l:X)
 |blt(k:Nat)(l:X)
 |bm(k:Nat)(a l:X)
 |lrange(a:X)
 |sset(a:X)
 |comp(cap:List (Option Nat))(tg it c elt:X)
 |dcomp(kind:Nat)(cap:List (Option Nat))(tg it k v:X)
 |dict(kind:Nat)(l:X)
 |pair(k v r:X)
 |range(l:X)
 |enum(a:X)
 |zip(a b:X)
 |never
structure CR where
 e:Scope->Expr->Bool
 b:Scope->Expr->Bool
 l:Scope->List Expr->Bool
 i:Scope->Expr->Expr->Bool
 t:Scope->Expr->Bool
 ts:Scope->List Expr->Bool
 p:Scope->List (Option Expr)->List Expr->Bool
def CR.no:CR:=⟨λ_ _=>false,λ_ _=>false,λ_ _=>false,λ_ _ _=>false,λ_ _=>false,λ_ _=>false,λ_ _ _=>false⟩
abbrev tG:=List V->bh->av->hS->Prop
structure DR where
 e:DE
 b:DB
 l:DL
 i:DI
 t:DT
 ts:tG
 p:DP
def DR.no:DR:=⟨λ_ _ _=>False,λ_ _ _=>False,λ_ _ _=>False,λ_ _ _=>False,λ_ _ _ _=>False,λ_ _ _ _=>False,λ_ _ _=>False⟩
def zA:Operator->V->V->av->aS->Prop
 | .Add=>E8
 | .Sub=>AR
 | .Mult=>Cw
 | .Mod=>yj
 | .FloorDiv=>D_
 |_=>λ_ _ _ _=>False
def dz:CmpOp->V->V->av->aS->Prop
 | .Eq=>qt false
 | .NotEq=>qt true
 | .Lt=>pQ λi j=>decide (i<j)
 | .LtE=>pQ λi j=>decide (i<=j)
 | .Gt=>pQ λi j=>decide (j<i)
 | .In=>DK
 | .NotIn=>lI true
 | .Is=>Dy
 |_=>λ_ _ _ _=>False
def zB:Operator->Bool
 | .Add| .Sub| .Mult| .Mod| .FloorDiv=>true
 |_=>false
def mT:CmpOp->Bool
 | .Eq| .NotEq| .Lt| .LtE| .Gt| .In| .NotIn| .Is=>true
 |_=>false
def tm:Nat->Str
 |0=>"len"|1=>"tuple"|2=>"list"|3=>"max"|4=>"int"|5=>"str"|6=>"sorted"|7=>"sum"|8=>"max"|_=>"sorted"
def zx:Nat->Value
 |0=>.builtin "len"|1=>.type "tuple"|2=>.type "list"|3=>.builtin "max"|4=>.type "int"|5=>.type "str"|6=>.builtin "sorted"|7=>.builtin "sum"|8=>.builtin "max"|_=>.builtin "sorted"
def zy:Nat->List V->av->aS->Prop
 |0=>CT|1=>At|2=>CP|3=>CF|4=>DA|5=>AS|6=>A5|7=>AQ|8=>CE|_=>A6
def zu:Nat->Str
 |0=>"append"|1=>"pop"|2=>"extend"|3=>"isspace"|4=>"pop"|_=>"setdefault"
def zw:Nat->Nat
 |0=>1|1=>1|2=>1|3=>3|4=>2|_=>2
def vP:Nat->List V->av->aS->Prop
 |0=>E5|1=>BL|2=>D4|3=>A3|4=>lN|_=>Bh
def yJ(e:Expr):Bool:=Nat.beq e.ctorIdx 25
def kF(e:Expr):Bool:=yJ e||Nat.beq e.ctorIdx 23
theorem sj(h:kF e=true):g9 e:=by cases e<;>first|exact .inl ⟨_,_,rfl⟩|exact .inr ⟨_,_,_,rfl⟩|exact aR h
def NJ(K:Frag)(sc:Scope)(n m:Str):Bool:=n==m&&sc.names.lookup m==some .globalImplicit&&nsIn K mainGlobals m==some none
def vq(K:Frag)(sc:Scope)(n:Str)(f:Addr):Bool:=sc.names.lookup n==some .globalImplicit&&nsIn K mainGlobals n==some (some (.ref f))&&keepIn K (.ref f)&&!(n==("__debug__":Str))
def NI(K:Frag)(sc:Scope)(n:Str)(i:Int):Bool:=sc.names.lookup n==some .globalImplicit&&!(n==("__debug__":Str))&&fS (nsIn K mainGlobals n) λo=>fS o λv=>Value.isInt i v
def cH(cs:List Addr)(as:List Str):gT:=⟨λc=>cs.getD c 0,λi=>as.getD i ⟨#[i]⟩⟩
def vT(as:List Str)(n:Str):Bool:=!(as.contains n)&&decide (2<=n.cps.size)
def EJ(sc:Scope)(i:Nat)(n:Str):Bool:=fS sc.names[i]? λp=>p.1==n
def Qz(sc:Scope)(i:Nat)(n:Str):Bool:=fS sc.names[i]? λp=>p.1==n&&(p.2==.local||p.2==.cell)
def th(c:CR)(isNil:Bool)(sc:Scope)(l:List Expr):Bool:=l0 l isNil||l1 l λx=>!isNil&&c.b sc x
def X.len(x:X):Nat:=X.rec (motive:=λ_=>Nat) (λ_=>0) (λ_=>0) (λ_=>0) 0 (λ_=>0) (λ_=>0) (λ_=>0) (λ_ _ _ _ _=>0) (λ_ _ _ _ _=>0) (λ_ _ _ _ _ _ _ _=>0) (λ_ _=>0) (λ_ _ _ _=>0) (λ_ _ _ _ _ _=>0) (λ_ _ _ _=>0) (λ_ _ _ _=>0) (λ_ _ _ _ _ _=>0) (λ_ _=>0) (λ_ _=>0) 0 (λ_ _ _ n=>n+1) (λ_ _ _ _=>0) (λ_ _ _ _=>0) (λ_ _ _ _=>0) (λ_ _ _ _=>0) (λ_ _ _ _ _ _=>0) (λ_ _ _=>0) (λ_ _ _=>0) (λ_ _ _ _ _=>0) (λ_ _=>0) (λ_ _=>0) (λ_ _ _ _ _ _ _ _ _=>0) (λ_ _ _ _ _ _ _ _ _ _=>0) (λ_ _ _=>0) (λ_ _ _ _ _ _=>0) (λ_ _=>0) (λ_ _=>0) (λ_ _ _ _=>0) 0 x
def X.isNil(x:X):Bool:=X.casesOn (motive:=λ_=>Bool) x (λ_=>false) (λ_=>false) (λ_=>false) false (λ_=>false) (λ_=>false) (λ_=>false) (λ_ _ _=>false) (λ_ _ _=>false) (λ_ _ _ _ _=>false) (λ_=>false) (λ_ _=>false) (λ_ _ _=>false) (λ_ _=>false) (λ_ _=>false) (λ_ _ _=>false) (λ_=>false) (λ_=>false) true (λ_ _=>false) (λ_ _=>false) (λ_ _=>false) (λ_ _=>false) (λ_ _ _=>false) (λ_ _ _ _=>false) (λ_ _=>false) (λ_ _=>false) (λ_ _ _=>false) (λ_=>false) (λ_=>false) (λ_ _ _ _ _=>false) (λ_ _ _ _ _ _=>false) (λ_ _=>false) (λ_ _ _=>false) (λ_=>false) (λ_=>false) (λ_ _=>false) false
section
variable(K:Frag)(cs:List Addr)(as:List Str)
def b8(c:Scope->Expr->Bool):CR:={CR.no with e:=c,b:=(λsc x=>Av x&&c sc x),i:=(λsc tg x=>kF tg&&gM x&&c sc x)}
def qC(x:Expr)(f:Str->List Expr->Bool):Bool:=sh (λg args _=>h8 (λn _=>f n args) g) x
def fy(sc:Scope)(m:Str)(x:Expr)(f:List Expr->Bool):Bool:=qC x λn args=>NJ K sc n m&&f args
def qD(x:Expr)(f:Expr->Str->List Expr->Bool):Bool:=sh (λg args p=>lz (λo n ap=>lw o&&ap.endLine==p.line&&decide (args.length<30)&&args.all bA&&f o n args) g) x
def aU:X->CR
 | .int i=>b8 λ_ x=>n8 (.int i) x
 | .neg i=>b8 λ_ x=>r9 .USub (n8 (.int i)) x
 | .str s=>b8 λ_ x=>n8 (.str s) x
 | .none=>b8 λ_ x=>n8 .none x
 | .bool b=>b8 λ_ x=>n8 (.bool b) x
 | .var i=>{b8 (λsc x=>h8 (λn _=>EJ sc i n) x)with t:=λsc x=>h8 (λn _=>Qz sc i n) x}
 | .glob i=>b8 λsc x=>h8 (λn _=>NI K sc n i) x
 | .bin op a b=>b8 λsc x=>zB op&&x_ op (λl r=>(aU a).e sc l&&(aU b).e sc r) x
 | .cmp op a b=>
  let c:Scope->Expr->Bool:=λsc x=>mT op&&mJ [op] (λl r=>l1 r λr=>gM r&&(aU a).e sc l&&(aU b).e sc r) x
  {CR.no with e:=c,b:=c}
 | .chain o1 o2 a b c=>{CR.no with b:=λsc x=>mT o1&&mT o2&&mJ [o1,o2] (λl r=>l2 r λr1 r2=>gM r2&&(aU a).e sc l&&(aU b).e sc r1&&(aU c).e sc r2) x}
 | .not a=>{CR.no with b:=λsc x=>r9 .Not ((aU a).b sc) x}
 | .and a b=>{CR.no with b:=λsc x=>kr .And (λes=>l2 es λy z=>(aU a).b sc y&&(aU b).b sc z) x}
 | .and3 a b c=>{CR.no with b:=λsc x=>kr .And (λes=>l3 es λy z u=>(aU a).b sc y&&(aU b).b sc z&&(aU c).b sc u) x}
 | .or a b=>{CR.no with b:=λsc x=>kr .Or (λes=>l2 es λy z=>(aU a).b sc y&&(aU b).b sc z) x}
 | .andv a b=>{CR.no with e:=λsc x=>kr .And (λes=>l2 es λy z=>(aU a).e sc y&&(aU b).e sc z) x}
 | .ite t a b=>{b8 (λsc x=>sf (λu y z=>(aU t).b sc u&&(aU a).e sc y&&(aU b).e sc z) x)with b:=λsc x=>sf (λu y z=>(aU t).b sc u&&(aU a).b sc y&&(aU b).b sc z) x}
 | .tup l=>{b8 (λsc x=>g7 ((aU l).l sc) x)with t:=λsc x=>g7 (λes=>es.length==l.len&&es.all bA&&(aU l).ts sc es) x}
 | .lst l=>b8 λsc x=>xU ((aU l).l sc) x
 | .nil=>{CR.no with l:=(λ_ es=>es.isEmpty),ts:=(λ_ es=>es.isEmpty),p:=(λ_ ks vs=>ks.isEmpty&&vs.isEmpty)}
 | .cons a l=>{CR.no with l:=(λsc es=>lc es λx r=>bA x&&(aU a).e sc x&&(aU l).l sc r),ts:=(λsc es=>lc es λx r=>bA x&&(aU a).t sc x&&(aU l).ts sc r)}
 | .sub a i=>{b8 (λsc x=>iM (λv s=>yd s&&(aU a).e sc v&&(aU i).e sc s) x)with t:=λsc x=>iM (λv s=>(aU a).e sc v&&(aU i).e sc s) x}
 | .lo a i=>b8 λsc x=>iM (λv s=>(aU a).e sc v&&se ((aU i).e sc) s) x
 | .up a i=>b8 λsc x=>iM (λv s=>(aU a).e sc v&&xO ((aU i).e sc) s) x
 | .attr c i a=>{b8 (λsc x=>lz (λv n _=>(cH cs as).attr i==n&&tu K ((cH cs as).cls c) n&&lw v&&(aU a).e sc v) x)
  with t:=λsc x=>lz (λv n _=>(cH cs as).attr i==n&&rT K ((cH cs as).cls c) n&&(aU a).e sc v) x}
 | .meth c f a l=>b8 λsc x=>qD x λo n args=>mL K ((cH cs as).cls c) n f&&vT as n&&args.isEmpty==l.isNil&&(aU a).e sc o&&(aU l).l sc args
 | .call f l=>b8 λsc x=>qC x λn args=>vq K sc n f&&args.all bA&&args.isEmpty==l.isNil&&(aU l).l sc args
 | .blt k l=>b8 λsc x=>fy K sc (tm k) x λargs=>lc args λe r=>bA e&&r.all bA&&(aU l).l sc (e::r)
 | .bm k a l=>b8 λsc x=>qD x λo n args=>n==zu k&&args.isEmpty==l.isNil&&(aU a).e sc o&&(aU l).l sc args
 | .lrange a=>b8 λsc x=>fy K sc "list" x λargs=>l1 args λy=>fy K sc "range" y λargs=>l1 args λy=>bA y&&(aU a).e sc y
 | .sset a=>b8 λsc x=>fy K sc "sorted" x λargs=>l1 args λy=>fy K sc "set" y λargs=>l1 args λy=>bA y&&(aU a).e sc y
 | .comp cap tg it c elt=>b8 λsc x=>pU (λy tgx itx ifs s _=>(ff sc s cap&&fq s&&s.kind==.function)&&
  (gM itx&&(aU it).i sc tgx itx&&(aU tg).t s tgx&&th (aU c) c.isNil s ifs&&(aU elt).e s y)) x
 | .dcomp _ cap tg it k v=>b8 λsc x=>xZ (λy z tgx itx s=>(ff sc s cap&&fq s&&s.kind==.function)&&
  (h8 (λ_ _=>true) tgx&&gM itx&&(aU it).i sc tgx itx&&(aU tg).t s tgx&&(aU k).e s y&&(aU v).e s z)) x
 | .dict _ l=>b8 λsc x=>xY (λks es=>if l.isNil then ks.isEmpty&&es.isEmpty else ks.all (·.isSome)&&ks.length==es.length&&!ks.isEmpty&&decide (ks.length<=15)&&(aU l).p sc ks es) x
 | .pair k v r=>{CR.no with p:=λsc ks vs=>lc ks λy ks=>fS y λy=>lc vs λz vs=>(aU k).e sc y&&(aU v).e sc z&&(aU r).p sc ks vs}
 | .range l=>{CR.no with i:=λsc tg x=>kF tg&&fy K sc "range" x λargs=>lc args λe r=>bA e&&r.all bA&&(aU l).l sc (e::r)}
 | .enum a=>{CR.no with i:=λsc tg x=>yJ tg&&fy K sc "enumerate" x λargs=>l1 args λy=>bA y&&(aU a).e sc y}
 | .zip a b=>{CR.no with i:=λsc tg x=>kF tg&&fy K sc "zip" x λargs=>l2 args λy z=>bA y&&bA z&&(aU a).e sc y&&(aU b).e sc z}
 | .never=>{CR.no with e:=(λ_ _=>true),b:=(λ_ _=>true)}
end
def b7(D:DE):DR:={DR.no with e:=D,b:=(λJ m Q=>D J m (fh Q)),i:=(λJ m Q=>D J m λx m=>Du x m Q)}
def tc(r:DR)(isNil:Bool):DB:=if isNil then λ_ m Q=>Q true m else r.b
def C7(O:V->V->av->aS->Prop)(x:V)(Q:aS):aS:=λy m=>O x y m Q
def jb(D:DE)(O:V->V->av->aS->Prop)(J:bh)(Q:aS):aS:=λx m=>D J m (C7 O x Q)
def vc(O:V->av->aS->Prop)(Q:aS):aS:=λx m=>O x m Q
def Da(O:List V->av->aS->Prop)(Q:aS):cD:=λvs m=>O vs m Q
def MP(v:V)(Q:cD):cD:=λvs m=>Q (v::vs) m
def Df(L:DL)(J:bh)(Q:cD):aS:=λv m=>L J m (MP v Q)
def C1(Q:aS):cD:=λvs m=>vs.length<=1000/\Q (.tup vs) m
def C_(Q:aS):cD:=λvs m=>vs.length<=1000/\Q (.loc m.length) (m++[.list vs])
def C8(Q:Bool->av->Prop):Bool->av->Prop:=λb=>Q (!b)
def yB(D:DB)(J:bh)(Q:Bool->av->Prop):Bool->av->Prop:=λt m=>if t then D J m Q else Q false m
def Dn(D D':DB)(J:bh)(Q:Bool->av->Prop):Bool->av->Prop:=λt m=>if t then D J m (yB D' J Q)else Q false m
def C6(D:DB)(J:bh)(Q:Bool->av->Prop):Bool->av->Prop:=λt m=>if t then Q true m else D J m Q
def Dm(D:DE)(J:bh)(Q:aS):Bool->av->Prop:=λt m=>if t then D J m Q else Q (.bool false) m
def qf{β:Type}(D D':bh->av->β->Prop)(J:bh)(Q:β):Bool->av->Prop:=λc m=>if c then D J m Q else D' J m Q
def MQ(D:DE)(o:V->V->av->aS->Prop)(J:bh)(y:V)(Q:Bool->av->Prop):Bool->av->Prop:=λt m=>if t then D J m (C7 o y (fh Q))else Q false m
def MR(D:DE)(o1 o2:V->V->av->aS->Prop)(J:bh)(x:V)(Q:Bool->av->Prop):aS:=λy m=>o1 x y m (fh (MQ D o2 J y Q))
def Dg(D D':DE)(o1 o2:V->V->av->aS->Prop)(J:bh)(Q:Bool->av->Prop):aS:=λx m=>D J m (MR D' o1 o2 J x Q)
def MN(x v:V)(J:bh)(Q:hS):aS:=λy m=>hZ x y v m (Q J)
def C4(D:DE)(v:V)(J:bh)(Q:hS):aS:=λx m=>D J m (MN x v J Q)
def Dj(c i:Nat)(v:V)(J:bh)(Q:hS):aS:=λx m=>sa x λc' n=>jd c' c (wf i n v m (Q J))
def MS(B:bB)(d:Nat)(f:Addr)(x:V)(Q:aS):cD:=λvs m=>aP B d f (x::vs) m Q
def LY(R:Prop):O->Prop:=xX λ_=>R
def C9(B:bB)(d c:Nat)(f:Addr)(L:DL)(J:bh)(Q:aS):aS:=λx m=>sa x λc' n=>jd c' c (iA m n (LY (L J m (MS B d f (.obj c' n) Q))))
def Dh(B:bB)(d:Nat)(f:Addr)(Q:aS):cD:=λvs m=>aP B d f vs m Q
def MT(k:Nat)(x:V)(Q:aS):cD:=λvs m=>vP k (x::vs) m Q
def Di(k:Nat)(L:DL)(J:bh)(Q:aS):aS:=λx m=>t_ (zw k) x m (L J m (MT k x Q))
def C2(T:tG)(r:List V)(Q:hS):hS:=λJ m=>T r J m Q
section
variable(B:bB)(d:Nat)
def au:X->DR
 | .int i=>b7 λ_ m Q=>Q (.int i) m
 | .neg i=>b7 λ_ m Q=>Q (.int (-i)) m
 | .str s=>b7 λ_ m Q=>Q (.str s) m
 | .none=>b7 λ_ m Q=>Q .none m
 | .bool b=>b7 λ_ m Q=>Q (.bool b) m
 | .var i=>{b7 (An i)with t:=λv J m Q=>Q (J.set i (some v)) m}
 | .glob i=>b7 λ_ m Q=>Q (.int i) m
 | .bin op a b=>b7 λJ m Q=>(au a).e J m (jb (au b).e (zA op) J Q)
 | .cmp op a b=>{DR.no with e:=(λJ m Q=>(au a).e J m (jb (au b).e (dz op) J Q)),b:=(λJ m Q=>(au a).e J m (jb (au b).e (dz op) J (fh Q)))}
 | .chain o1 o2 a b c=>{DR.no with b:=λJ m Q=>(au a).e J m (Dg (au b).e (au c).e (dz o1) (dz o2) J Q)}
 | .not a=>{DR.no with b:=λJ m Q=>(au a).b J m (C8 Q)}
 | .and a b=>{DR.no with b:=λJ m Q=>(au a).b J m (yB (au b).b J Q)}
 | .and3 a b c=>{DR.no with b:=λJ m Q=>(au a).b J m (Dn (au b).b (au c).b J Q)}
 | .or a b=>{DR.no with b:=λJ m Q=>(au a).b J m (C6 (au b).b J Q)}
 | .andv a b=>{DR.no with e:=λJ m Q=>(au a).e J m (fh (Dm (au b).e J Q))}
 | .ite t a b=>{b7 (λJ m Q=>(au t).b J m (qf (au a).e (au b).e J Q))with b:=λJ m Q=>(au t).b J m (qf (au a).b (au b).b J Q)}
 | .tup l=>{b7 (λJ m Q=>(au l).l J m (C1 Q))with t:=wP l.len (au l).ts}
 | .lst l=>b7 λJ m Q=>(au l).l J m (C_ Q)
 | .nil=>
  let d1:DL:=λ_ m Q=>Q [] m
  let d2:tG:=λxs J m Q=>match xs with
   |[]=>Q J m
   |_=>False
  let d3:DP:=λ_ m Q=>Q [] m
  {DR.no with l:=d1,ts:=d2,p:=d3}
 | .cons a l=>
  let d1:DL:=λJ m Q=>(au a).e J m (Df (au l).l J Q)
  let d2:tG:=λxs J m Q=>match xs with
   |x::r=>(au a).t x J m (C2 (au l).ts r Q)
   |[]=>False
  {DR.no with l:=d1,ts:=d2}
 | .sub a i=>{b7 (λJ m Q=>(au a).e J m (jb (au i).e jQ J Q))with t:=λv J m Q=>(au a).e J m (C4 (au i).e v J Q)}
 | .lo a i=>b7 λJ m Q=>(au a).e J m (jb (au i).e sS J Q)
 | .up a i=>b7 λJ m Q=>(au a).e J m (jb (au i).e rQ J Q)
 | .attr c i a=>{b7 (λJ m Q=>(au a).e J m (vc (vS c i) Q))with t:=λv J m Q=>(au a).e J m (Dj c i v J Q)}
 | .meth c f a l=>b7 λJ m Q=>(au a).e J m (C9 B d c f (au l).l J Q)
 | .call f l=>b7 λJ m Q=>(au l).l J m (Dh B d f Q)
 | .blt k l=>b7 λJ m Q=>(au l).l J m (Da (zy k) Q)
 | .bm k a l=>b7 λJ m Q=>(au a).e J m (Di k (au l).l J Q)
 | .lrange a=>b7 λJ m Q=>(au a).e J m λx m=>∃b:Nat,br (x=.int b) (b<=10000) (Q (.loc m.length) (m++[.list (eZ 0 1 b)]))
 | .sset a=>b7 λJ m Q=>(au a).e J m (vc w_ Q)
 | .comp cap tg it c elt=>b7 λJ m Q=>(au it).i J m λitems src m=>cR (au tg).t src (tc (au c) c.isNil) (au elt).e items [] (hH J cap) m λvs m=>Q (.loc m.length) (m++[.list vs])
 | .dcomp kind cap tg it k v=>b7 λJ m Q=>(au it).i J m λitems src m=>oG (au tg).t src (au k).e (au v).e m.length items (hH J cap) (m++[fb kind]) λm'=>Q (.loc m.length) m'
 | .dict kind l=>b7 λJ m Q=>if l.isNil then Q (.loc m.length) (m++[fb kind])else(au l).p J (m++[fb kind]) λxs m1=>(∀l,m1[m.length]?≠some (.list l))/\sR m.length xs m1 λm2=>Q (.loc m.length) m2
 | .pair k v r=>{DR.no with p:=λJ m Q=>(au k).e J m λx m=>(au v).e J m λy m=>(au r).p J m λz m=>Q ((x,y)::z) m}
 | .range l=>{DR.no with i:=λJ m Q=>(au l).l J m λvs m=>xw vs m Q}
 | .enum a=>{DR.no with i:=λJ m Q=>(au a).e J m λx m=>vC [x] m Q}
 | .zip a b=>{DR.no with i:=λJ m Q=>(au a).e J m λx m=>(au b).e J m λy m=>wh [x,y] m Q}
 | .never=>DR.no
end
end
inductive bG(B:bB)(d:Nat)(c:CR)(r:DR):Prop
 |mk(e:∀sc x,c.e sc x=true->a7 B sc d x r.e)(b:∀sc x,c.b sc x=true->dg B sc d x r.b)(l:∀sc x,c.l sc x=true->x.all bA=true/\d7 B sc d x r.l)(i:∀sc tg x,c.i sc tg x=true->kF tg=true/\j5 B sc d tg x r.i)(t:∀sc x,c.t sc x=true->gf B sc d x r.t)(ts:∀sc x,c.ts sc x=true->rh B sc d x r.ts)(p:∀sc ks vs,c.p sc ks vs=true->oZ B sc d ks vs r.p)
theorem bG.no:bG B d .no .no:=by constructor<;>intros<;>contradiction
theorem eu{c:Scope->Expr->Bool}(h:∀sc x,c sc x=true->a7 B sc d x D):bG B d (b8 c) (b7 D):=
 ⟨h,λsc x q=>a_ (bW.mp q) λq1 q2=>PG (h sc x q2) (λU a=>M0 q1 _ _),λ_ _ q=>Bool.noConfusion q,λsc tg x q=>have q3:=(bW.mp (bW.mp q).1).1;⟨q3,Px (h sc x (bW.mp q).2) (sj q3)⟩,λ_ _ q=>Bool.noConfusion q,λ_ _ q=>Bool.noConfusion q,λ_ _ _ q=>Bool.noConfusion q⟩
theorem ug{c:Scope->Expr->Bool}(h:∀sc x,c sc x=true->a7 B sc d x D)(b:∀sc x,ct sc x=true->gf B sc d x T):bG B d {b8 c with t:=ct} {b7 D with t:=T}:=
 ⟨(eu h).1,(eu h).2,λ_ _ q=>Bool.noConfusion q,(eu h).4,b,λ_ _ q=>Bool.noConfusion q,λ_ _ _ q=>Bool.noConfusion q⟩
theorem rR{c:Scope->Expr->Bool}{D:DB}(h:∀sc x,c sc x=true->dg B sc d x D):bG B d {CR.no with b:=c} {DR.no with b:=D}:=
 ⟨λ_ _ q=>Bool.noConfusion q,h,λ_ _ q=>Bool.noConfusion q,λ_ _ _ q=>Bool.noConfusion q,λ_ _ q=>Bool.noConfusion q,λ_ _ q=>Bool.noConfusion q,λ_ _ _ q=>Bool.noConfusion q⟩
theorem xc{c:Scope->Expr->Expr->Bool}{D:DI}(h:∀sc tg x,c sc tg x=true->kF tg=true/\j5 B sc d tg x D):bG B d {CR.no with i:=c} {DR.no with i:=D}:=
 ⟨λ_ _ q=>Bool.noConfusion q,λ_ _ q=>Bool.noConfusion q,λ_ _ q=>Bool.noConfusion q,h,λ_ _ q=>Bool.noConfusion q,λ_ _ q=>Bool.noConfusion q,λ_ _ _ q=>Bool.noConfusion q⟩
theorem K_(h:zB op=true):eg B d (binaryOp op) (zA op):=by cases op<;>first|exact Lc|exact KJ|exact KR|exact KS|exact K9|exact aR h
theorem uD(h:mT op=true):eg B d (compareOp op) (dz op):=by cases op<;>first|exact K7|exact KQ|exact KV|exact KZ|exact K5|exact K3|exact KP|exact K1|exact aR h
theorem QR k:eS B d (zx k) (zy k)/\bootBuiltins (tm k)=some (zx k)/\vg (zx k)/\(tm k≠"__name__")/\(tm k=="__debug__")=false:=by
 match k with
 |0=>exact⟨KY,by rfl,.inl ⟨_,rfl⟩,by decide,by rfl⟩
 |1=>exact⟨BQ,by rfl,.inr ⟨_,rfl⟩,by decide,by rfl⟩
 |2=>exact⟨KW,by rfl,.inr ⟨_,rfl⟩,by decide,by rfl⟩
 |3=>exact⟨KU,by rfl,.inl ⟨_,rfl⟩,by decide,by rfl⟩
 |4=>exact⟨K2,by rfl,.inr ⟨_,rfl⟩,by decide,by rfl⟩
 |5=>exact⟨KK,by rfl,.inr ⟨_,rfl⟩,by decide,by rfl⟩
 |6=>exact⟨KM,by rfl,.inl ⟨_,rfl⟩,by decide,by rfl⟩
 |7=>exact⟨KI,by rfl,.inl ⟨_,rfl⟩,by decide,by rfl⟩
 |8=>exact⟨KT,by rfl,.inl ⟨_,rfl⟩,by decide,by rfl⟩
 |n+9=>exact⟨KL,EQ,.inl ⟨_,rfl⟩,by refine(?_:(Str.ofString _)≠Str.ofString _);decide,by refine ?_;rfl⟩
def zv:Nat->String
 |0=>"list.append"|1=>"list.pop"|2=>"list.extend"|3=>"str.isspace"|4=>"dict.pop"|_=>"dict.setdefault"
theorem QP k:eS B d (.builtin (zv k)) (vP k)/\Slot (nK (zw k)) (zu k) (zv k)/\typeOf (.builtin (zv k))=pure (.type "method_descriptor")/\PlainAttrs (nK (zw k)):=by
 match k with
 |0=>exact(dm Lb PySem.F.slot_list_append (by kernel_rfl) PySem.F.plainAttrs_list)
 |1=>exact(dm KO PySem.F.slot_list_pop (by kernel_rfl) PySem.F.plainAttrs_list)
 |2=>exact(dm K6 PySem.F.slot_list_extend (by kernel_rfl) PySem.F.plainAttrs_list)
 |3=>exact(dm K0 PySem.F.slot_str_isspace (by kernel_rfl) PySem.F.plainAttrs_str)
 |4=>exact(dm K8 PySem.F.slot_dict_pop (by kernel_rfl) PySem.F.plainAttrs_dict)
 |n+5=>exact(dm KN PySem.F.slot_dict_setdefault (by kernel_rfl) PySem.F.plainAttrs_dict)
theorem cC{a b:Bool}(h:(a&&b)=true):a=true/\b=true:=bW.mp h
theorem jV{a b c:Bool}(d:(a&&b&&c)=true):br (a=true) (b=true) (c=true):=cK d .mk
theorem jU{a b c d e:Bool}(f:(a&&b&&c&&d&&e)=true):gU (a=true) (b=true) (c=true) (d=true) (e=true):=hI f .mk
theorem zE{a b c d e f g:Bool}(h:(a&&b&&c&&d&&e&&f&&g)=true):o9 (a=true) (b=true) (c=true) (d=true) (e=true) (f=true) (g=true):=Q3 h .mk
section
variable{K:Frag}
theorem Qy(h:EJ sc i n=true):∃k,sc.names[i]?=some (n,k):=ac (i8 h) λp e h=>⟨p.2,e.trans (bg (λx=>some (x,p.2)) (eq_of_beq h))⟩
theorem DX(h:vq K sc n f=true)(k:sc.names.lookup n=some .globalImplicit->nsIn K mainGlobals n=some (some (.ref f))->keepIn K (.ref f)=true->(n=="__debug__")=false->G):G:=
 iQ h λh1 a b c=>k (eq_of_beq h1) (eq_of_beq a) b (mK c)
theorem EW(h:vT as n=true) i:(cH cs as).attr i≠n:=bE h λh1 c e=>by
 have b:as.getD i _=n:=e;rw[List.getD_eq_getElem?_getD]at b;clear h e;cases q:as[i]? with
 |none=>rw[q]at b;subst b;trivial
 |some a=>rw[q]at b;have:as.contains n=true:=Z b.symm<|List.contains_iff_mem.mpr (bN q);rw[this]at h1;exact aR h1
section
variable{P:Expr->Prop}{x:Expr}
@[elab_as_elim] theorem zq(h:qC x f=true)(k:∀n q c p,f n c=true->P (.Call (.Name n q) c [] p)):P x:=
 uI h λg a p h=>i_ h λn q h=>k n q a p h
@[elab_as_elim] theorem kN{m:Str}(h:fy K sc m x f=true)(k:∀q a p,sc.names.lookup m=some .globalImplicit->nsIn K mainGlobals m=some none->f a=true->P (.Call (.Name m q) a [] p)):P x:=
 zq h λn q a p h=>bE h λh1 c=>cK h1 λh1 d e=>Z (eq_of_beq h1)<|k q _ p (eq_of_beq d) (eq_of_beq e) c
@[elab_as_elim] theorem zr(h:qD x f=true)(k:∀o n ap b p,lw o=true->(ap.endLine==p.line)=true->b.all bA=true->b.length<30->f o n b=true->P (.Call (.Attribute o n ap) b [] p)):P x:=
 uI h λg a p h=>pY h λo n ap h=>hI h λh1 d e i j=>k o n ap a p h1 d i (kt e) j
end
end
section
variable{ca cb cc ci ce:CR}{da db dc di dd:DR}
theorem Im{c:Scope->Expr->Bool}(h:∀sc x,c sc x=true->a7 B sc d x D):bG B d {CR.no with e:=c} {DR.no with e:=D}:=
 ⟨h,λ_ _=>aR,λ_ _=>aR,λ_ _ _=>aR,λ_ _=>aR,λ_ _=>aR,λ_ _ _=>aR⟩
theorem A9{c a:Scope->Expr->Bool}(h:∀sc x,c sc x=true->a7 B sc d x D)(h':∀sc x,a sc x=true->dg B sc d x f):bG B d {CR.no with e:=c,b:=a} {DR.no with e:=D,b:=f}:=
 ⟨h,h',λ_ _=>aR,λ_ _ _=>aR,λ_ _=>aR,λ_ _=>aR,λ_ _ _=>aR⟩
theorem H4{c a:Scope->Expr->Bool}(h:∀sc x,c sc x=true->a7 B sc d x D)(h':∀sc x,a sc x=true->dg B sc d x D'):bG B d {b8 c with b:=a} {b7 D with b:=D'}:=
 ⟨h,h',λ_ _=>aR,(eu h).4,λ_ _=>aR,λ_ _=>aR,λ_ _ _=>aR⟩
theorem A8{cp:Scope->List (Option Expr)->List Expr->Bool}{L:DL}{T:tG}(h:∀sc x,cl sc x=true->x.all bA=true/\d7 B sc d x L)(h':∀sc x,cts sc x=true->rh B sc d x T)(e:∀sc ks vs,cp sc ks vs=true->oZ B sc d ks vs Dp):
 bG B d {CR.no with l:=cl,ts:=cts,p:=cp} {DR.no with l:=L,ts:=T,p:=Dp}:=
 ⟨λ_ _=>aR,λ_ _=>aR,h,λ_ _ _=>aR,λ_ _=>aR,h',e⟩
theorem Ia{cp:Scope->List (Option Expr)->List Expr->Bool}(b:∀sc ks vs,cp sc ks vs=true->oZ B sc d ks vs Dp):bG B d {CR.no with p:=cp} {DR.no with p:=Dp}:=
 ⟨λ_ _=>aR,λ_ _=>aR,λ_ _=>aR,λ_ _ _=>aR,λ_ _=>aR,λ_ _=>aR,b⟩
theorem Eg{c:CR}(S:bG B d c r)(h:th c b sc ifs=true):nr B sc d ifs (tc r b):=by
 rcases rm.mp h with h|h
 ·exact CW h λh=>Z h Eh
 ·exact e0 h λx h=>bE h λh1 a=>by
   cases b with
   |true=>exact aR h1
   |false=>exact Pv (S.2 _ _ a)
variable(ia:bG B d ca da)(ib:bG B d cb db)(ic:bG B d cc dc)(ii:bG B d ci di)(ie:bG B d ce dd)
include ia
theorem Ic:bG B d {CR.no with b:=λsc x=>r9 .Not (ca.b sc) x} {DR.no with b:=λJ m Q=>da.b J m (C8 Q)}:=
 rR λsc x h=>xP h λy p h=>PJ (ia.2 _ _ h)
theorem Ig:bG B d (b8 λsc x=>xU (ca.l sc) x) (b7 λJ m Q=>da.l J m (C_ Q)):=
 eu λsc x h=>Lj h λes p h=>OM (ia.3 _ _ h).2
theorem H6:bG B d {b8 (λsc x=>g7 (ca.l sc) x)with t:=λsc x=>g7 (λes=>es.length==n&&es.all bA&&ca.ts sc es) x} {b7 (λJ m Q=>da.l J m (C1 Q))with t:=wP n da.ts}:=
 ug (λsc x h=>mI h λes k p h=>OE (ia.3 _ _ h).2) λsc x h=>mI h λes k p h=>cK h λh1 a b=>Z (eq_of_beq h1).symm<|O8 (ia.6 _ _ b) (λU=>(EY a).1) (λU=>(EY a).2)
theorem Iz(f:B.N=cH cs as):bG B d {b8 (λsc x=>lz (λv n _=>(cH cs as).attr i==n&&tu B.K ((cH cs as).cls c) n&&lw v&&ca.e sc v) x)with t:=λsc x=>lz (λv n _=>(cH cs as).attr i==n&&rT B.K ((cH cs as).cls c) n&&ca.e sc v) x}
 {b7 (λJ m Q=>da.e J m (vc (vS c i) Q))with t:=λv J m Q=>da.e J m (Dj c i v J Q)}:=Z f.symm<|ug (λsc x h=>pY h λv n p h=>iQ h λh1 a b e=>O4 c i (eq_of_beq h1) (ia.1 _ _ e) a (EX b))
 λsc x h=>pY h λv n p h=>cK h λh1 a b=>Pb c i (eq_of_beq h1) (ia.1 _ _ b) a
theorem Iv(o:b=true->da.l=λ_ m Q=>Q [] m):bG B d (b8 λsc x=>qC x λn a=>vq B.K sc n f&&a.all bA&&a.isEmpty==b&&ca.l sc a) (b7 λJ m Q=>da.l J m (Dh B d f Q)):=
 eu λsc x h=>zq h λn q a p h=>iQ h λh1 r s t=>DX h1 λi j k l=>by
  cases a with
  |nil=>exact Z (o (eq_of_beq s).symm)<|OW f i j k l
  |cons e rest=>exact bE r λc g=>OX f (ia.3 _ _ t).2 i j k l (λU=>dJ c _ _) (λU=>lC g)
theorem Ix:bG B d (b8 λsc x=>fy B.K sc (tm k) x λa=>lc a λe r=>bA e&&r.all bA&&ca.l sc (e::r)) (b7 λJ m Q=>da.l J m (Da (zy k) Q)):=
 eu λsc x h=>kN h λq a p g i h=>fV h λe rest h=>cK h λh1 j l=>a_ (QR k) λb1 h_=>iI h_ λb2 b c f=>O3 (ia.3 _ _ l).2 b1 g i b2 b c f (λU=>dJ h1 _ _) (λU=>lC j)
theorem Ih:bG B d (b8 λsc x=>fy B.K sc "list" x λa=>l1 a λy=>fy B.K sc "range" y λa=>l1 a λy=>bA y&&ca.e sc y)
 (b7 λJ m Q=>da.e J m λx m=>∃b:Nat,br (x=.int b) (b<=10000) (Q (.loc m.length) (m++[.list (eZ 0 1 b)]))):=
 eu λsc x h=>kN h λq a p e f h=>e0 h λy h=>kN h λq2 c p2 j k h=>e0 h λy h=>bE h λg i=>OL (ia.1 _ _ i) j k e f (λU=>dJ g _ _)
theorem H8:bG B d (b8 λsc x=>fy B.K sc "sorted" x λa=>l1 a λy=>fy B.K sc "set" y λa=>l1 a λy=>bA y&&ca.e sc y) (b7 λJ m Q=>da.e J m (vc w_ Q)):=
 eu λsc x h=>kN h λq a p c e h=>e0 h λy h=>kN h λq2 b p2 i j h=>e0 h λy h=>bE h λf g=>OH (ia.1 _ _ g) i j c e (λU=>dJ f _ _)
theorem H9:bG B d {CR.no with i:=λsc tg x=>kF tg&&fy B.K sc "range" x λa=>lc a λe r=>bA e&&r.all bA&&ca.l sc (e::r)} {DR.no with i:=λJ m Q=>da.l J m λvs m=>xw vs m Q}:=
 xc λsc tg x h=>bE h λb h=>kN h λq a p c f h=>fV h λe rest h=>cK h λh1 g j=>⟨b,Py (sj b) (ia.3 _ _ j).2 c f (λU=>dJ h1 _ _) (λU=>lC g)⟩
theorem Il:bG B d {CR.no with i:=λsc tg x=>yJ tg&&fy B.K sc "enumerate" x λa=>l1 a λy=>bA y&&ca.e sc y} {DR.no with i:=λJ m Q=>da.e J m λx m=>vC [x] m Q}:=
 xc λsc tg x h=>bE h λb h=>kN h λq a p c f h=>e0 h λy h=>bE h λg j=>by
  rcases sj (by rewrite[kF];refine Z b ?_;rfl)with h|h
  ·refine eC h λ_ _ e=>?_;clear h;rw[e]at b;exact aR b
  ·refine yx h λ_ _ _ e=>?_;clear h;exact Z e<|⟨rfl,Pz (ia.1 _ _ j) c f (λU=>dJ g _ _)⟩
theorem Io{b:Bool}:bG B d (b8 λsc x=>xY (λks es=>if b then ks.isEmpty&&es.isEmpty else ks.all (·.isSome)&&ks.length==es.length&&!ks.isEmpty&&decide (ks.length<=15)&&ca.p sc ks es) x)
 (b7 λJ m Q=>if b then Q (.loc m.length) (m++[fb kind])else da.p J (m++[fb kind]) λxs m1=>(∀l,m1[m.length]?≠some (.list l))/\sR m.length xs m1 λk=>Q (.loc m.length) k):=
 eu λsc x h=>Ln h λks es p h=>by
  cases b with
  |true=>exact bE h λh1 c=>kG h1 (kG c λJ m Q q A fs U μ s E g S=>OR kind J m Q q A fs _ μ s E g S)
  |false=>exact hI h λh1 c f i j=>OS _ (ia.7 _ _ _ j) h1 (eq_of_beq c) (λe=>by rw[e]at f;exact aR f) (kt i)
include ib
theorem Iy:bG B d (b8 λsc x=>zB op&&x_ op (λl r=>ca.e sc l&&cb.e sc r) x) (b7 λJ m Q=>da.e J m (jb db.e (zA op) J Q)):=
 eu λsc x h=>bE h λh1 h=>Ls h λl r p h=>bE h λa b=>O1 (ia.1 _ _ a) (ib.1 _ _ b) (K_ h1)
theorem It:bG B d {CR.no with e:=λsc x=>mT op&&mJ [op] (λl r=>l1 r λr=>gM r&&ca.e sc l&&cb.e sc r) x,b:=λsc x=>mT op&&mJ [op] (λl r=>l1 r λr=>gM r&&ca.e sc l&&cb.e sc r) x}
 {DR.no with e:=λJ m Q=>da.e J m (jb db.e (dz op) J Q),b:=λJ m Q=>da.e J m (jb db.e (dz op) J (fh Q))}:=
 A9 (λsc x h=>bE h λh1 h=>sg h λl r p h=>e0 h λr h=>cK h λa c f=>OV (ia.1 _ _ c) (ib.1 _ _ f) (uD h1) (zD a))
  λsc x h=>bE h λh1 h=>sg h λl r p h=>e0 h λr h=>cK h λa c f=>PM (ia.1 _ _ c) (ib.1 _ _ f) (uD h1) (zD a)
theorem IC:bG B d {CR.no with b:=λsc x=>kr .And (λes=>l2 es λy z=>ca.b sc y&&cb.b sc z) x} {DR.no with b:=λJ m Q=>da.b J m (yB db.b J Q)}:=
 rR λsc x h=>si h λes p h=>iq h λy z h=>bE h λa c=>PP (ia.2 _ _ a) (ib.2 _ _ c)
theorem Ib:bG B d {CR.no with b:=λsc x=>kr .Or (λes=>l2 es λy z=>ca.b sc y&&cb.b sc z) x} {DR.no with b:=λJ m Q=>da.b J m (C6 db.b J Q)}:=
 rR λsc x h=>si h λes p h=>iq h λy z h=>bE h λa c=>PH (ia.2 _ _ a) (ib.2 _ _ c)
theorem IA:bG B d {CR.no with e:=λsc x=>kr .And (λes=>l2 es λy z=>ca.e sc y&&cb.e sc z) x} {DR.no with e:=λJ m Q=>da.e J m (fh (Dm db.e J Q))}:=
 Im λsc x h=>si h λes p h=>iq h λy z h=>bE h λa b=>O5 (ia.1 _ _ a) (ib.1 _ _ b)
theorem Iq:bG B d {CR.no with l:=(λsc es=>lc es λx r=>bA x&&ca.e sc x&&cb.l sc r),ts:=(λsc es=>lc es λx r=>bA x&&ca.t sc x&&cb.ts sc r)}
 {DR.no with l:=λJ m Q=>da.e J m (Df db.l J Q),ts:=λxs J m Q=>match xs with|x::r=>da.t x J m (C2 db.ts r Q)|[]=>False}:=
 A8 (λsc x h=>fV h λy r h=>cK h λh1 b a=>⟨by refine Z List.all_cons<|Z h1<|Z ((ib.3 _ _ a).1) ?_;rfl,lO (ia.1 _ _ b) (ib.3 _ _ a).2 (λU=>dJ h1 _ _)⟩)
  (λsc x h=>fV h λy r h=>cK h λh1 b a=>O7 (ia.5 _ _ b) (ib.6 _ _ a) (λU=>zH h1 _ _)) λ_ _ _=>aR
theorem H7:bG B d {b8 (λsc x=>iM (λv s=>yd s&&ca.e sc v&&cb.e sc s) x)with t:=λsc x=>iM (λv s=>ca.e sc v&&cb.e sc s) x}
 {b7 (λJ m Q=>da.e J m (jb db.e jQ J Q))with t:=λv J m Q=>da.e J m (C4 db.e v J Q)}:=
 ug (λsc x h=>qB h λv s p h=>cK h λh1 a b=>OF (ia.1 _ _ a) (ib.1 _ _ b) (HQ h1)) λsc x h=>qB h λv s p h=>bE h λh1 a=>O9 (ia.1 _ _ h1) (ib.1 _ _ a)
theorem Ii:bG B d (b8 λsc x=>iM (λv s=>ca.e sc v&&se (cb.e sc) s) x) (b7 λJ m Q=>da.e J m (jb db.e sS J Q)):=
 eu λsc x h=>qB h λv s p h=>bE h λb h=>BZ h λa p h=>OQ (ia.1 _ _ b) (ib.1 _ _ h)
theorem H5:bG B d (b8 λsc x=>iM (λv s=>ca.e sc v&&xO (cb.e sc) s) x) (b7 λJ m Q=>da.e J m (jb db.e rQ J Q)):=
 eu λsc x h=>qB h λv s p h=>bE h λb h=>Lf h λa p h=>OD (ia.1 _ _ b) (ib.1 _ _ h)
theorem Ie(z:B.N=cH cs as)(H:b=true->db.l=λ_ m Q=>Q [] m):bG B d (b8 λsc x=>qD x λo n a=>mL B.K ((cH cs as).cls c) n f&&vT as n&&a.isEmpty==b&&ca.e sc o&&cb.l sc a)
 (b7 λJ m Q=>da.e J m (C9 B d c f db.l J Q)):=
 eu λsc x h=>zr h λo n ap a p Φ L y M h=>hI h λh1 I R N P=>by
  rw[<-z]at h1;intro J m Q q A fs U μ s E j S;refine methodCall_KW (he:=uR Φ L y M _) (mo (ia.1 _ _ N J m _ q A fs _ μ s E j S) (λY s1 C=>C.k λx m1 μ1 q1 u t=>?_));clear C;have v:=xT q1;clear q1;refine bS v λT W k q1=>?_;clear v;subst k;refine a_ (kI q1) λF w=>?_;clear q1;subst F;refine w.k λG q2=>?_;clear w;refine ac (B3 q2) λΩ D q1=>?_;clear q2;subst D;have g:=S.next t;refine DU g.1 u G h1 (λi _=>Z z<|EW I i) ?_
  cases a with
  |nil=>rw[H (eq_of_beq R).symm]at q1;exact mo (EH j g.1 (cC h1).2 (aq.cons u aq.nil) q1) (λ_ _ p=>p.step t)
  |cons e rest=>exact bE y λl r=>mo (EI j g (ib.3 _ _ P).2 (cC h1).2 (aq.cons u aq.nil) q1 (dJ l _ _) (lC r)) (λ_ _ p=>p.step t)
theorem Iw(t:b=true->db.l=λ_ m Q=>Q [] m):bG B d (b8 λsc x=>qD x λo n a=>n==zu k&&a.isEmpty==b&&ca.e sc o&&cb.l sc a) (b7 λJ m Q=>da.e J m (Di k db.l J Q)):=
 eu λsc x h=>zr h λo n ap a p l q c r h=>iQ h λh1 v s u=>by
  refine iI (QP (B:=B) (d:=d) k) λb1 b2 i j=>Z (eq_of_beq h1) ?_
  cases a with
  |nil=>exact Z (t (eq_of_beq v).symm)<|OZ (ia.1 _ _ s) b1 b2 i j _ (uR l q c r)
  |cons e rest=>exact bE c λf g=>O0 (ia.1 _ _ s) (ib.3 _ _ u).2 b1 b2 i j _ (uR l q c r) (λU=>dJ f _ _) (λU=>lC g)
theorem H2:bG B d {CR.no with i:=λsc tg x=>kF tg&&fy B.K sc "zip" x λa=>l2 a λy z=>bA y&&bA z&&ca.e sc y&&cb.e sc z} {DR.no with i:=λJ m Q=>da.e J m λx m=>db.e J m λy m=>wh [x,y] m Q}:=
 xc λsc tg x h=>bE h λb h=>kN h λq a p f g h=>iq h λy z h=>iQ h λc e j k=>⟨b,Pw (sj b) (lO (ia.1 _ _ j) (lO (ib.1 _ _ k) s9 (λU=>dJ e _ _)) (λU=>dJ c _ _)) f g (λU=>dJ c _ _) (λU=>lC (by refine Z List.all_cons<|Z e ?_;rfl))⟩
include ic
theorem Iu:bG B d {CR.no with b:=λsc x=>mT o1&&mT o2&&mJ [o1,o2] (λl r=>l2 r λf a=>gM a&&ca.e sc l&&cb.e sc f&&cc.e sc a) x} {DR.no with b:=λJ m Q=>da.e J m (Dg db.e dc.e (dz o1) (dz o2) J Q)}:=
 rR λsc x h=>cK h λh1 g h=>sg h λl r p h=>iq h λf a h=>iQ h λi j k n=>PN (ia.1 _ _ j) (ib.1 _ _ k) (ic.1 _ _ n) (uD h1) (uD g) (zD i)
theorem IB:bG B d {CR.no with b:=λsc x=>kr .And (λes=>l3 es λy z u=>ca.b sc y&&cb.b sc z&&cc.b sc u) x} {DR.no with b:=λJ m Q=>da.b J m (Dn db.b dc.b J Q)}:=
 rR λsc x h=>si h λes p h=>u6 h λy z u h=>cK h λa c e=>PO (ia.2 _ _ a) (ib.2 _ _ c) (ic.2 _ _ e)
theorem Ij:bG B d {b8 (λsc x=>sf (λu y z=>ca.b sc u&&cb.e sc y&&cc.e sc z) x)with b:=λsc x=>sf (λu y z=>ca.b sc u&&cb.b sc y&&cc.b sc z) x}
 {b7 (λJ m Q=>da.b J m (qf db.e dc.e J Q))with b:=λJ m Q=>da.b J m (qf db.b dc.b J Q)}:=
 H4 (λsc x h=>B0 h λu y z p h=>cK h λa c e=>ON (ia.2 _ _ a) (ib.1 _ _ c) (ic.1 _ _ e)) λsc x h=>B0 h λu y z p h=>cK h λa c e=>PL (ia.2 _ _ a) (ib.2 _ _ c) (ic.2 _ _ e)
theorem H_:bG B d {CR.no with p:=λsc ks vs=>lc ks λy ks=>fS y λy=>lc vs λz vs=>ca.e sc y&&cb.e sc z&&cc.p sc ks vs} {DR.no with p:=λJ m Q=>da.e J m λx m=>db.e J m λy m=>dc.p J m λz m=>Q ((x,y)::z) m}:=
 Ia λsc ks vs h=>fV h λy ks h=>uC h λy h=>fV h λz vs h=>cK h λh1 a b=>Pt (ia.1 _ _ h1) (ib.1 _ _ a) (ic.7 _ _ _ b)
include ii
theorem Ir:bG B d (b8 λsc x=>pU (λy c a ifs s _=>(ff sc s cap&&fq s&&s.kind==.function)&&(gM a&&cb.i sc c a&&ca.t s c&&th cc b s ifs&&ci.e s y)) x)
 (b7 λJ m Q=>db.i J m λitems src m=>cR da.t src (tc dc b) di.e items [] (hH J cap) m λvs m=>Q (.loc m.length) (m++[.list vs])):=
 eu λsc x h=>xV h λy t i r s p h=>bE h λh1 h=>cK h1 λh1 f g=>hI h λj k l n e=>OU _ h1 f (eq_of_beq g) (ib.4 _ _ _ k).2 (ia.5 _ _ l) (Eg ic n) (ii.1 _ _ e) (vt j)
omit ic in
include ie in
theorem Ip:bG B d (b8 λsc x=>xZ (λy z a e s=>(ff sc s cap&&fq s&&s.kind==.function)&&(h8 (λ_ _=>true) a&&gM e&&cb.i sc a e&&ca.t s a&&ci.e s y&&ce.e s z)) x)
 (b7 λJ m Q=>db.i J m λitems src m=>oG da.t src di.e dd.e m.length items (hH J cap) (m++[fb kind]) λm'=>Q (.loc m.length) m'):=
 eu λsc x h=>Lo h λy z t i s p h=>bE h λh1 h=>cK h1 λh1 j k=>zF h λl o b c r f=>have b:=(ib.4 _ _ _ b).2;have c:=ia.5 _ _ c;i_ l (λn q _ b c=>OT _ _ h1 j (eq_of_beq k) b c (ii.1 _ _ r) (ie.1 _ _ f) (vt o)) b c
end
theorem yg{l:X}(h:l.isNil=true):(au B d l).l=λ_ m Q=>Q [] m:=by cases l<;>first|rfl|exact aR h
theorem Id:bG B d (aU B.K cs as .nil) (au B d .nil):=
 A8 (λsc x h=>kG h ⟨rfl,s9⟩) (λsc x h=>kG h O6) λsc ks vs h=>bE h λh1 a=>kG h1 (kG a Ps)
theorem H3:bG B d (aU B.K cs as (.var i)) (au B d (.var i)):=
 ug (λsc x h=>i_ h λn p h=>(Qy h).elim λk e=>OC i e) λsc x h=>i_ h λn p h=>by
  refine ac (i8 h) λq e h=>bE h λb a=>?_;rcases rm.mp a with a|a
  ·exact O_ i (e.trans (Z (eq_of_beq b).symm<|Z (eq_of_beq a).symm rfl))
  ·exact Pa i (e.trans (Z (eq_of_beq b).symm<|Z (eq_of_beq a).symm rfl))
theorem Ik{i:Int}:bG B d (aU B.K cs as (.glob i)) (au B d (.glob i)):=
 eu λsc x h=>i_ h λn p h=>cK h λh1 f a=>by refine ac (i8 a) λo e a=>ac (i8 a) λv b a=>aI (Value.isInt_shape a) λt c=>?_;exact OP (eq_of_beq h1) (e.trans (Z b<|Z c rfl)) (mK f)
theorem jK(C:B.N=cH cs as):∀x,bG B d (aU B.K cs as x) (au B d x):=by
 intro x
 induction x with
 |int i=>exact eu λsc x h=>pW h λk p=>OO
 |neg i=>exact eu λsc x h=>xP h λy p h=>pW h λk p=>OK
 |str s=>exact eu λsc x h=>pW h λk p=>OG
 |none=>exact eu λsc x h=>pW h λk p=>OI
 |bool b=>exact eu λsc x h=>pW h λk p=>OY
 |var i=>exact H3
 |glob i=>exact Ik
 |bin op a b e g=>exact Iy e g
 |cmp op a b e g=>exact It e g
 |chain F G a b c e g o=>exact Iu e g o
 |not a e=>exact Ic e
 |and a b e g=>exact IC e g
 |and3 a b c e g o=>exact IB e g o
 |or a b e g=>exact Ib e g
 |andv a b e g=>exact IA e g
 |ite t a b it e g=>exact Ij it e g
 |tup l j=>exact H6 j
 |lst l j=>exact Ig j
 |nil=>exact Id
 |cons a l e j=>exact Iq e j
 |sub a i e u=>exact H7 e u
 |lo a i e u=>exact Ii e u
 |up a i e u=>exact H5 e u
 |attr c i a e=>exact Iz e C
 |meth c f a l e j=>exact Ie e j C yg
 |call f l j=>exact Iv j yg
 |blt k l j=>exact Ix j
 |bm k a l e j=>exact Iw e j yg
 |lrange a e=>exact Ih e
 |sset a e=>exact H8 e
 |comp cap tg it c D n m o q=>exact Ir n m o q
 |dcomp w cap tg it k v n m z A=>exact Ip n m z A
 |dict w l j=>exact Io j
 |pair k v r z A E=>exact H_ z A E
 |range l j=>exact H9 j
 |enum a e=>exact Il e
 |zip a b e g=>exact H2 e g
 |never=>exact A9 (λ_ _ _=>OJ) λ_ _ _=>PK
noncomputable section
set_option genCtorIdx false in
inductive Y where
 |expr(e:X)
 |asg(t e:X)
 |swap2(i j:Nat)(a b:X)
 |swap3(i j k:Nat)(a b c:X)
 |cmpa(j:Nat)(cap:List (Option Nat))(tg it c elt:X)
 |ret(e:X)
 |ret0
 |iff(t:X)(a b:Y)
 |whl(t:X)(a:Y)
 |fr(tg it:X)(a:Y)
 |delk(o i:X)
 |delf(o e:X)
 |nil
 |cons(s r:Y)
 |never
abbrev aM(a:X):X:=.cons a .nil
abbrev aZ(a b:X):X:=.cons a (.cons b .nil)
abbrev cM(a b c:X):X:=.cons a (.cons b (.cons c .nil))
abbrev kf(a b c d:X):X:=.cons a (.cons b (.cons c (.cons d .nil)))
abbrev pu(a b c d e:X):X:=.cons a (.cons b (.cons c (.cons d (.cons e .nil))))
abbrev aJ:X:=.var 0
abbrev j_:X:=.var 10
abbrev mi:X:=.var 11
abbrev o_:X:=.var 12
abbrev ax:X:=.var 1
abbrev aO:X:=.var 2
abbrev aW:X:=.var 3
abbrev bc:X:=.var 4
abbrev bC:X:=.var 5
abbrev cz:X:=.var 6
abbrev eY:X:=.var 7
abbrev j9:X:=.var 8
abbrev i4:X:=.var 9
abbrev a6(a:Y):Y:=.cons a .nil
abbrev cT(a b:Y):Y:=.cons a (.cons b .nil)
abbrev dR(a b c:Y):Y:=.cons a (.cons b (.cons c .nil))
abbrev rq(a b c d:Y):Y:=.cons a (.cons b (.cons c (.cons d .nil)))
abbrev ro(a b c d e:Y):Y:=.cons a (.cons b (.cons c (.cons d (.cons e .nil))))
abbrev wo(a b c d e f:Y):Y:=.cons a (.cons b (.cons c (.cons d (.cons e (.cons f .nil)))))
abbrev zS(a b c d e f g:Y):Y:=.cons a (.cons b (.cons c (.cons d (.cons e (.cons f (.cons g .nil))))))
abbrev tQ(a b c d e f g h:Y):Y:=.cons a (.cons b (.cons c (.cons d (.cons e (.cons f (.cons g (.cons h .nil)))))))
abbrev et:X:=aZ ax aO
abbrev dD:X:=aM ax
abbrev i5:X:=.attr 3 19 aJ
abbrev jF:X:=.attr 3 17 aJ
abbrev cY:X:=.lst .nil
abbrev gK:X:=.attr 0 5 aJ
abbrev jE:X:=aM aW
abbrev jD:X:=.sub aW (.int 0)
abbrev mj:Y:=a6 (.ret (.bool false))
abbrev wv:X:=.bin .Add (.bin .Add (.up aW aO) (.tup dD)) (.lo aW (.bin .Add aO (.int 1)))
abbrev k_:X:=.attr 2 5 aJ
abbrev pt:X:=.blt 0 (aM (.attr 1 11 aJ))
abbrev fL:X:=aM aO
abbrev ke:X:=.attr 2 15 aJ
abbrev pr:X:=.call 595 (aZ aW bC)
abbrev pq:X:=.call 595 (aZ aW cz)
abbrev kd:X:=.attr 0 1 aJ
abbrev tW:X:=.call 590 (aZ aJ (.blt 0 (aM bC)))
abbrev i6:X:=.blt 0 jE
abbrev k9:X:=.attr 0 0 aJ
abbrev rI:X:=.cmp .NotIn (.tup et) i5
abbrev k6:X:=.attr 0 0 jF
abbrev ny:X:=.sub aW (.int 1)
abbrev kb:Y:=a6 .never
abbrev mt:X:=aZ bC cz
abbrev mr:X:=.attr 0 8 aJ
abbrev po:X:=cM ax aO aW
abbrev tV:X:=.call 590 (aZ ax (.int 2))
abbrev pk:X:=.sub aW (.neg 1)
abbrev rH:X:=.sub i5 (.tup et)
abbrev rG:X:=.blt 0 (aM k_)
abbrev wA:X:=.bin .Mod (.blt 4 dD) (.int 1000003)
abbrev pi:X:=.attr 3 21 aJ
abbrev ph:X:=.attr 3 19 aO
abbrev rF:X:=.sub aO (.neg 1)
abbrev pg:X:=.attr 0 2 aJ
abbrev pe:X:=aZ aO aW
abbrev pd:X:=.attr 0 6 aJ
abbrev wz:X:=.meth 0 480 (.attr 3 17 aO) dD
abbrev wy:X:=.sub (.attr 3 20 aJ) (.tup et)
abbrev ml:X:=aM bc
abbrev tU:X:=.meth 0 431 aO dD
abbrev pb:X:=.dict 2 .nil
abbrev rE:X:=.attr 1 11 aJ
abbrev rD:X:=.attr 1 12 aJ
abbrev rC:X:=.sub aO ax
abbrev rB:X:=aZ aW bc
abbrev rA:X:=.attr 0 4 aJ
abbrev ru:X:=.attr 0 9 aJ
abbrev ww:X:=.blt 3 (aZ ax (.int 0))
structure SV where
 tag:Nat
 es:List Expr:=[]
 s1:List Stmt:=[]
 s2:List Stmt:=[]
 hs:List ExceptHandler:=[]
def dE:SV:={tag:=0}
def CM(l:List Expr)(f:Expr->SV):SV:=List.casesOn (motive:=λ_=>SV) l dE λt r=>List.casesOn (motive:=λ_=>SV) r (f t) λ_ _=>dE
def sv(x:Stmt):SV:=Stmt.casesOn (motive_2:=λ_=>SV) x (λ_ _ _ _ _ _ _ _ _ _=>dE) (λ_ _ _ _ _ _ _ _ _ _=>dE) (λ_ _ _ _ _ _ _ _ _ _ _=>dE) (λe _=>Option.casesOn (motive:=λ_=>SV) e {tag:=4} λe=>{tag:=3,es:=[e]}) (λts _=>CM ts λt=>{tag:=8,es:=[t]}) (λts v _=>CM ts λt=>{tag:=2,es:=[t,v]}) (λ_ _ _ _ _ _ _=>dE) (λ_ _ _ _=>dE) (λ_ _ _ _ _=>dE)
 (λt i a b _=>List.casesOn (motive:=λ_=>SV) b {tag:=7,es:=[t,i],s1:=a} λ_ _=>dE) (λ_ _ _ _ _=>dE) (λt a b _=>List.casesOn (motive:=λ_=>SV) b {tag:=6,es:=[t],s1:=a} λ_ _=>dE) (λt a b _=>{tag:=5,es:=[t],s1:=a,s2:=b}) (λ_ _ _=>dE) (λ_ _ _=>dE) (λ_ _ _=>dE)
 (λe c _=>Option.casesOn (motive:=λ_=>SV) e dE λe=>Option.casesOn (motive:=λ_=>SV) c {tag:=9,es:=[e]} λ_=>dE) (λa h e f _=>List.casesOn (motive:=λ_=>SV) e (List.casesOn (motive:=λ_=>SV) f {tag:=10,s1:=a,hs:=h} λ_ _=>dE) λ_ _=>dE) (λ_ _ _ _ _=>dE) (λ_ _ _=>dE) (λ_ _=>dE) (λ_ _ _ _=>dE) (λ_ _=>dE) (λ_ _=>dE) (λe _=>{tag:=1,es:=[e]}) (λ_=>dE) (λ_=>dE) λ_=>dE
def E_(x:Stmt)(v:SV):Nat->Prop
 |1=>aV λa p=>v.es=[a]/\x=.Expr a p
 |2=>cL λa b p=>v.es=[a,b]/\x=.Assign [a] b p
 |3=>aV λa p=>v.es=[a]/\x=.Return (some a) p
 |4=>∃p,x=.Return none p
 |5=>aV λa p=>v.es=[a]/\x=.If a v.s1 v.s2 p
 |6=>aV λa p=>v.es=[a]/\x=.While a v.s1 [] p
 |7=>cL λa b p=>v.es=[a,b]/\x=.For a b v.s1 [] p
 |8=>aV λa p=>v.es=[a]/\x=.Delete [a] p
 |9=>aV λa p=>v.es=[a]/\x=.Raise (some a) none p
 |10=>∃p,x=.Try v.s1 v.hs [] [] p
 |_=>True
theorem HA x:E_ x (sv x) (sv x).tag:=by
 cases x with
 |Expr e p=>exact⟨_,_,rfl,rfl⟩
 |Assign d v p=>
  cases d with
  |nil=>exact trivial
  |cons t d=>cases d with
   |nil=>exact⟨_,_,_,rfl,rfl⟩
   |cons _ _=>exact trivial
 |Return e p=>cases e with
  |none=>exact⟨_,rfl⟩
  |some e=>exact⟨_,_,rfl,rfl⟩
 |If t a b p=>exact⟨_,_,rfl,rfl⟩
 |While t a b p=>cases b with
  |nil=>exact⟨_,_,rfl,rfl⟩
  |cons _ _=>exact trivial
 |For t i a b p=>cases b with
  |nil=>exact⟨_,_,_,rfl,rfl⟩
  |cons _ _=>exact trivial
 |Delete d p=>
  cases d with
  |nil=>exact trivial
  |cons t d=>cases d with
   |nil=>exact⟨_,_,rfl,rfl⟩
   |cons _ _=>exact trivial
 |Raise e c p=>cases e with
  |none=>exact trivial
  |some e=>cases c with
   |none=>exact⟨_,_,rfl,rfl⟩
   |some _=>exact trivial
 |Try a h e f p=>cases e with
  |nil=>cases f with
   |nil=>exact⟨_,rfl⟩
   |cons _ _=>exact trivial
  |cons _ _=>exact trivial
 |_=>exact trivial
theorem kh{x:Stmt}(h:((sv x).tag==n)=true):E_ x (sv x) n:=(eq_of_beq h)▸HA x
def pT(f:Expr->Bool)(x:Stmt):Bool:=(sv x).tag==1&&l1 (sv x).es f
def i9(f:Expr->Expr->Bool)(x:Stmt):Bool:=(sv x).tag==2&&l2 (sv x).es f
def pS(f:Expr->Bool)(x:Stmt):Bool:=(sv x).tag==3&&l1 (sv x).es f
def uG(f:Expr->List Stmt->List Stmt->Bool)(x:Stmt):Bool:=(sv x).tag==5&&l1 (sv x).es λe=>f e (sv x).s1 (sv x).s2
def xQ(f:Expr->List Stmt->Bool)(x:Stmt):Bool:=(sv x).tag==6&&l1 (sv x).es λe=>f e (sv x).s1
def xR(f:Expr->Expr->List Stmt->Bool)(x:Stmt):Bool:=(sv x).tag==7&&l2 (sv x).es λa e=>f a e (sv x).s1
def r_(f:Expr->Bool)(x:Stmt):Bool:=(sv x).tag==8&&l1 (sv x).es f
section
variable{P:Stmt->Prop}{x:Stmt}
@[elab_as_elim] theorem uH(h:pT f x=true)(k:∀a p,f a=true->P (.Expr a p)):P x:=bE h λh1 d=>bS (kh h1) λa p e c=>Z c<|k a p (kC d e)
@[elab_as_elim] theorem nZ(h:i9 f x=true)(k:∀a b p,f a b=true->P (.Assign [a] b p)):P x:=bE h λh1 g=>om (kh h1) λa b p e d=>Z d<|k a b p (u7 g e)
@[elab_as_elim] theorem uF(h:pS f x=true)(k:∀a p,f a=true->P (.Return (some a) p)):P x:=bE h λh1 d=>bS (kh h1) λa p e c=>Z c<|k a p (kC d e)
@[elab_as_elim] theorem BW(h:uG f x=true)(k:∀a s t p,f a s t=true->P (.If a s t p)):P x:=bE h λh1 d=>bS (kh h1) λa p e c=>Z c<|k a _ _ p (kC (f:=λe=>f e _ _) d e)
@[elab_as_elim] theorem Lh(h:xQ f x=true)(k:∀a s p,f a s=true->P (.While a s [] p)):P x:=bE h λh1 d=>bS (kh h1) λa p e c=>Z c<|k a _ p (kC (f:=λe=>f e _) d e)
@[elab_as_elim] theorem Li(h:xR f x=true)(k:∀a b s p,f a b s=true->P (.For a b s [] p)):P x:=bE h λh1 g=>om (kh h1) λa b p e d=>Z d<|k a b _ p (u7 g e)
@[elab_as_elim] theorem BX(h:r_ f x=true)(k:∀a p,f a=true->P (.Delete [a] p)):P x:=bE h λh1 d=>bS (kh h1) λa p e c=>Z c<|k a p (kC d e)
end
structure CS where
 s:Scope->Stmt->Bool
 ss:Scope->List Stmt->Bool
def CS.no:CS:=⟨λ_ _=>false,λ_ _=>false⟩
def cS(f:Scope->Stmt->Bool):CS:={CS.no with s:=f}
structure wc where
 s:DS
 ss:DS
def dS(D:DS):wc:=⟨D,λ_ _ _=>False⟩
def oJ(sc:Scope)(i:Nat)(x:Expr):Bool:=h8 (λn _=>sc.names[i]?==some (n,.local)) x
def iN(sc:Scope)(i:Nat)(f:Str->Nat->Bool)(x:Expr):Bool:=h8 (λn p=>sc.names[i]?==some (n,.local)&&f n p.line) x
def uM(sc:Scope)(t v:Expr):Bool:=uK v||!((ev t).tag==2)||sc.names.lookup (ev t).s==some .cell
section
variable(K:Frag)(cs:List Addr)(as:List Str)
def iK:Y->CS
 | .expr e=>cS λsc x=>pT (λa=>uK a&&(aU K cs as e).e sc a) x
 | .asg t e=>cS λsc x=>i9 (λa b=>sk sc a b&&uM sc a b&&bA a&&(aU K cs as t).t sc a&&(aU K cs as e).e sc b) x
 | .swap2 i j a b=>cS λsc x=>i9 (λt v=>g7 (λts=>g7 (λvs=>l2 ts λx y=>l2 vs λe1 e2=>iN sc i (λn l=>iN sc j (λn' l'=>l==l'&&!(n==n')) y) x&&
  (nO [e1,e2]&&bA e1&&bA e2&&(aU K cs as a).e sc e1&&(aU K cs as b).e sc e2)) v) t) x
 | .swap3 i j k a b c=>cS λsc x=>i9 (λt v=>g7 (λts=>g7 (λvs=>l3 ts λx y z=>l3 vs λe1 e2 e3=>
  iN sc i (λn l=>iN sc j (λn' l'=>iN sc k (λn'' l''=>(l==l'&&l==l'')&&!(n==n'||n==n''||n'==n'')) z) y) x&&
  (nO [e1,e2,e3]&&(bA e1&&bA e2&&bA e3)&&(aU K cs as a).e sc e1&&(aU K cs as b).e sc e2&&(aU K cs as c).e sc e3)) v) t) x
 | .cmpa j cap tg it c elt=>cS λsc x=>i9 (λt v=>pU (λy tgx itx ifs s p=>iN sc j (λn l=>l==p.line&&!(s.names.any λ(m,k)=>m==n&&(k==.local||k==.cell))) t&&(ff sc s cap&&fq s&&s.kind==.function)&&
  (gM itx&&(aU K cs as it).i sc tgx itx&&(aU K cs as tg).t s tgx&&th (aU K cs as c) c.isNil s ifs&&(aU K cs as elt).e s y)) v) x
 | .ret e=>cS λsc x=>pS ((aU K cs as e).e sc) x
 | .ret0=>cS λ_ x=>(sv x).tag==4
 | .iff t a b=>cS λsc x=>uG (λu s r=>(aU K cs as t).b sc u&&(iK a).ss sc s&&(iK b).ss sc r) x
 | .whl t a=>cS λsc x=>xQ (λu s=>(aU K cs as t).b sc u&&(iK a).ss sc s) x
 | .fr tg it a=>cS λsc x=>xR (λu v s=>gM v&&(aU K cs as it).i sc u v&&(aU K cs as tg).t sc u&&(iK a).ss sc s) x
 | .delk o i=>cS λsc x=>r_ (iM λa b=>(aU K cs as o).e sc a&&(aU K cs as i).e sc b) x
 | .delf o e=>cS λsc x=>r_ (iM λa b=>(aU K cs as o).e sc a&&se ((aU K cs as e).e sc) b) x
 | .nil=>{CS.no with ss:=λ_ xs=>xs.isEmpty}
 | .cons s r=>{CS.no with ss:=λsc xs=>lc xs λx xs=>(iK s).s sc x&&(iK r).ss sc xs}
 | .never=>⟨λ_ _=>true,λ_ _=>true⟩
end
def Dd(J:bh)(Q:cv):aS:=λ_ m=>Q .next J m
def Dl(T:DT)(J:bh)(Q:cv):aS:=λv m=>T v J m (Q .next)
def C5(J:bh)(Q:cv):aS:=λv m=>Q (.ret v) J m
section
variable(B:bB)(d:Nat)
def bu:Y->wc
 | .expr e=>dS λJ m Q=>(au B d e).e J m (Dd J Q)
 | .asg t e=>dS λJ m Q=>(au B d e).e J m (Dl (au B d t).t J Q)
 | .swap2 i j a b=>dS λJ m Q=>(au B d a).e J m λv m=>(au B d b).e J m λw m=>aV λx y=>[v,w]=[x,y]/\Q .next ((J.set j (some y)).set i (some x)) m
 | .swap3 i j k a b c=>dS λJ m Q=>(au B d a).e J m λv m=>(au B d b).e J m λw m=>(au B d c).e J m λz m=>cL λx y u=>[v,w,z]=[x,y,u]/\Q .next (((J.set k (some u)).set j (some y)).set i (some x)) m
 | .cmpa j cap tg it c elt=>dS λJ m Q=>(au B d it).i J m λitems src m=>cR (au B d tg).t src (tc (au B d c) c.isNil) (au B d elt).e items [] (hH J cap) m λvs m=>Q .next (J.set j (some (.loc m.length))) (m++[.list vs])
 | .ret e=>dS λJ m Q=>(au B d e).e J m (C5 J Q)
 | .ret0=>dS λJ m Q=>Q (.ret .none) J m
 | .iff t a b=>dS λJ m Q=>(au B d t).b J m (qf (bu a).ss (bu b).ss J Q)
 | .whl t a=>dS (wG (au B d t).b (bu a).ss)
 | .fr tg it a=>dS λJ m Q=>(au B d it).i J m λitems src m=>dy (au B d tg).t src (bu a).ss items J m Q
 | .delk o i=>dS λJ m Q=>(au B d o).e J m λx m=>(au B d i).e J m λy m=>lN [x,y] m λ_ m=>Q .next J m
 | .delf o e=>dS λJ m Q=>(au B d o).e J m λx m=>(au B d e).e J m λy m=>zb x y m λm=>Q .next J m
 | .nil=>⟨λ_ _ _=>False,λJ m Q=>Q .next J m⟩
 | .cons s r=>⟨λ_ _ _=>False,nU (bu s).s (bu r).ss⟩
 | .never=>⟨λ_ _ _=>False,λ_ _ _=>False⟩
end
end
inductive f8(B:bB)(d:Nat)(c:CS)(r:wc):Prop
 |mk(s:∀sc x,c.s sc x=true->fJ B sc d x r.s)(ss:∀sc x,c.ss sc x=true->i3 B sc d x r.ss)
theorem i7{c:Scope->Stmt->Bool}{D:DS}(h:∀sc x,c sc x=true->fJ B sc d x D):f8 B d (cS c) (dS D):=⟨h,λ_ _ q=>aR q⟩
theorem A7{c:Scope->List Stmt->Bool}{D:DS}(h:∀sc x,c sc x=true->i3 B sc d x D):f8 B d {CS.no with ss:=c} ⟨λ_ _ _=>False,D⟩:=⟨λ_ _ q=>aR q,h⟩
@[elab_as_elim] theorem qF{x:Expr}{P:Expr->Prop}(h:iN sc i f x=true)(k:∀n p,sc.names[i]?=some (n,.local)->f n p.line=true->P (.Name n p)):P x:=
 i_ h λn p h=>bE h λh1 b=>k n p (eq_of_beq h1) b
@[elab_as_elim] theorem qE{x:Expr}{P:Expr->Prop}(h:oJ sc i x=true)(k:∀n p,sc.names[i]?=some (n,.local)->P (.Name n p)):P x:=
 i_ h λn p h=>k n p (eq_of_beq h)
theorem LF{a b c:Bool}{x:Option NameKind}(e:x=some .cell):(pure (a&&x==some .local&&b&&c):Sem Bool)=pure false:=by subst e;cases a<;>rfl
theorem Cp{t v:Expr}(h:uM sc t v=true)(a:∀x,sc.names.lookup x=some .cell->U.kindOf x=some .cell):swapsWithSole [t] v n U=pure false:=by cases v<;>first|rfl|(cases t<;>first|rfl|exact LF (a _ (eq_of_beq h)))
section
variable{cb c1 c2 c3 ct ci:CR}{db d1 d2 d3 dt di:DR}{ca cc:CS}{da dc:wc}{k:Nat}(x1:bG B d c1 d1)(x2:bG B d c2 d2)(x3:bG B d c3 d3)(xt:bG B d ct dt)(xi:bG B d ci di)
include x1
theorem IJ:f8 B d (cS λsc x=>pT (λa=>uK a&&c1.e sc a) x) (dS λJ m Q=>d1.e J m (Dd J Q)):=
 i7 λsc x h=>uH h λa p h=>bE h λb c=>Pn (x1.1 _ _ c) (λU=>Hu b _ _ _)
theorem IG:f8 B d (cS λsc x=>pS (c1.e sc) x) (dS λJ m Q=>d1.e J m (C5 J Q)):=
 i7 λsc x h=>uF h λa p h=>Pi (x1.1 _ _ h)
include x2
theorem IN:f8 B d (cS λsc x=>i9 (λa b=>sk sc a b&&uM sc a b&&bA a&&c1.t sc a&&c2.e sc b) x) (dS λJ m Q=>d2.e J m (Dl d1.t J Q)):=
 i7 λsc x h=>nZ h λa b p h=>hI h λc e f g i=>Pr (x2.1 _ _ i) (x1.5 _ _ g) c (λU j=>Cp e j) (λU=>by refine Z (zH f ..) ?_;rfl)
theorem IF:f8 B d (cS λsc x=>i9 (λt v=>g7 (λf=>g7 (λvs=>l2 f λx y=>l2 vs λa b=>iN sc i (λn l=>iN sc j (λe D=>l==D&&!(n==e)) y) x&&
 (nO [a,b]&&bA a&&bA b&&c1.e sc a&&c2.e sc b)) v) t) x)
 (dS λJ m Q=>d1.e J m λv m=>d2.e J m λw m=>aV λx y=>[v,w]=[x,y]/\Q .next ((J.set j (some y)).set i (some x)) m):=
 i7 λsc x h=>nZ h λt v p h=>mI h λf k1 F h=>mI h λvs E p2 h=>iq h λx y h=>iq h λa b h=>bE h λh A=>qF h λn q C h=>qF h λe G c h=>bE h λg k=>hI A λo r s u z=>Pg i j C c (lO (x1.1 _ _ u) (lO (x2.1 _ _ z) s9 (λU=>dJ s _ _)) (λU=>dJ r _ _)) (Hw g (mK k) o)
theorem IK:f8 B d (cS λsc x=>r_ (iM λa b=>c1.e sc a&&c2.e sc b) x) (dS λJ m Q=>d1.e J m λx m=>d2.e J m λy m=>lN [x,y] m λ_ m=>Q .next J m):=
 i7 λsc x h=>BX h λa p h=>qB h λa b f h=>bE h λc e=>Po (x1.1 _ _ c) (x2.1 _ _ e)
theorem IL:f8 B d (cS λsc x=>r_ (iM λa b=>c1.e sc a&&se (c2.e sc) b) x) (dS λJ m Q=>d1.e J m λx m=>d2.e J m λy m=>zb x y m λm=>Q .next J m):=
 i7 λsc x h=>BX h λa p h=>qB h λa b f h=>bE h λc h=>BZ h λb p e=>Pp (x1.1 _ _ c) (x2.1 _ _ e)
theorem II(i:f8 B d ca da):f8 B d (cS λsc x=>xR (λu v s=>gM v&&c2.i sc u v&&c1.t sc u&&ca.ss sc s) x) (dS λJ m Q=>d2.i J m λitems src m=>dy d1.t src da.ss items J m Q):=
 i7 λsc x h=>Li h λa b s p h=>iQ h λc e f g=>Pm (x2.4 _ _ _ e).2 (x1.5 _ _ f) (i.2 _ _ g) (vt c)
omit x2 in
theorem ID(e:f8 B d ca da):f8 B d (cS λsc x=>xQ (λu s=>c1.b sc u&&ca.ss sc s) x) (dS (wG d1.b da.ss)):=
 i7 λsc x h=>Lh h λa s p h=>bE h λb c=>Pd (x1.2 _ _ b) (e.2 _ _ c)
omit x2 in
theorem IH(f:f8 B d ca da)(g:f8 B d cc dc):f8 B d (cS λsc x=>uG (λu s r=>c1.b sc u&&ca.ss sc s&&cc.ss sc r) x) (dS λJ m Q=>d1.b J m (qf da.ss dc.ss J Q)):=
 i7 λsc x h=>BW h λa s r p h=>cK h λb c e=>Pl (x1.2 _ _ b) (f.2 _ _ c) (g.2 _ _ e)
include x3
theorem IE:f8 B d (cS λsc x=>i9 (λt v=>g7 (λE=>g7 (λvs=>l3 E λx y z=>l3 vs λb c e=>
 iN sc i (λn l=>iN sc j (λD N=>iN sc k (λa C=>(l==N&&l==C)&&!(n==D||n==a||D==a)) z) y) x&&
 (nO [b,c,e]&&(bA b&&bA c&&bA e)&&c1.e sc b&&c2.e sc c&&c3.e sc e)) v) t) x)
 (dS λJ m Q=>d1.e J m λv m=>d2.e J m λw m=>d3.e J m λz m=>cL λx y u=>[v,w,z]=[x,y,u]/\Q .next (((J.set k (some u)).set j (some y)).set i (some x)) m):=
 i7 λsc x h=>nZ h λt v p h=>mI h λE k1 S h=>mI h λvs P p2 h=>u6 h λx y z h=>u6 h λb c e h=>bE h λh L=>qF h λn q M h=>qF h λD T s h=>qF h λR q2 A h=>bE h λF G=>hI L λH r f g o=>cK r λr I Φ=>Pf i j k M s A (lO (x1.1 _ _ f) (lO (x2.1 _ _ g) (lO (x3.1 _ _ o) s9 (λU=>dJ Φ _ _)) (λU=>dJ I _ _)) (λU=>dJ r _ _)) (Hv F (mK G) H)
include xi
theorem IM:f8 B d (cS λsc x=>i9 (λt v=>pU (λy c a ifs s p=>iN sc j (λn l=>l==p.line&&!(s.names.any λ(m,k)=>m==n&&(k==.local||k==.cell))) t&&(ff sc s cap&&fq s&&s.kind==.function)&&
 (gM a&&c2.i sc c a&&c1.t s c&&th c3 b s ifs&&ci.e s y)) v) x)
 (dS λJ m Q=>d2.i J m λitems src m=>cR d1.t src (tc d3 b) di.e items [] (hH J cap) m λvs m=>Q .next (J.set j (some (.loc m.length))) (m++[.list vs])):=
 i7 λsc x h=>nZ h λt v p h=>xV h λy tg it ifs s C h=>cK h λh h1 r=>qF h λn q A h=>cK h1 λg i o=>hI r λu f w z e=>Pq _ j A g i (eq_of_beq o) (x2.4 _ _ _ f).2 (x1.5 _ _ w) (Eg x3 z) (xi.1 _ _ e) h (vt u)
end
theorem nR(n:B.N=cH cs as):∀y,f8 B d (iK B.K cs as y) (bu B d y):=by
 have f:=λx=>jK (d:=d) n x;intro y
 induction y with
 |expr e=>exact IJ (f e)
 |asg t e=>exact IN (f t) (f e)
 |swap2 i j a b=>exact IF (f a) (f b)
 |swap3 i j k a b c=>exact IE (f a) (f b) (f c)
 |cmpa j cap tg it c l=>exact IM (f tg) (f it) (f c) (f _)
 |ret e=>exact IG (f e)
 |ret0=>exact i7 λsc x h=>(kh h).elim λp e=>Z e Ph
 |iff t a b g q=>exact IH (f t) g q
 |whl t a g=>exact ID (f t) g
 |fr tg it a g=>exact II (f tg) (f it) g
 |delk o i=>exact IK (f o) (f i)
 |delf o e=>exact IL (f o) (f e)
 |nil=>exact A7 λsc x h=>kG h Ee
 |cons s r v u=>exact A7 λsc x h=>fV h λx xs h=>bE h λh1 m=>Ef (v.1 _ _ h1) (u.2 _ _ m)
 |never=>exact⟨λ_ _ _=>Pj,λ_ _ _=>Pc⟩
theorem tN{b:Type}{v:b}:∀{ps:List Str}{vs:List b},ps.Nodup->(n,v)∈ps.zip vs->(ps.zip vs).lookup n=some v:=by
 intro ps
 induction ps with
 |nil=>exact λ_ h=>by cases h
 |cons p ps c=>
  intro vs a h
  cases vs with
  |nil=>cases h
  |cons w vs=>
   rw[List.zip_cons_cons,bK]at h;refine Z fk ?_;rcases h with h|h
   ·exact Z ((ji h).1)<|Z ((ji h).2)<|Z (oK ..) rfl
   ·have:(n==p)=false:=by
     refine beq_eq_false_iff_ne.mpr λe=>(eF.mp a).1 (e▸(List.of_mem_zip h).1)
    exact Z this<|c (eF.mp a).2 h
theorem Fk{g:Type}{vs:List g}(f:ps.Nodup)(b:vs.length=ps.length):ps.filterMap (λn=>((ps.zip vs).lookup n).map (n,·))=ps.zip vs:=by
 have c:∀(a:List _) ws,ws.length=a.length->(∀p∈a.zip ws,p∈ps.zip vs)->a.filterMap (λn=>((ps.zip vs).lookup n).map (n,·))=a.zip ws:=by
  intro a
  induction a with
  |nil=>intro ws _ _;rfl
  |cons q a e=>
   intro ws b h
   cases ws with
   |nil=>cases b
   |cons w ws=>refine Z List.filterMap_cons<|Z (tN f (h _ aQ))<|(?_:(q,w)::_=_);refine Z (e ws (Nat.succ.inj b) λp d=>h p (az _ d)) ?_;rfl
 exact c ps vs b λ_ h=>h
theorem Fj{e:Type}{vs:List e}(d:ps.Nodup)(b:vs.length=ps.length):ps.filter (λn=>((ps.zip vs).lookup n).isNone)=[]:=by
 rewrite[List.filter_eq_nil_iff];intro n c;obtain⟨i,a,rfl⟩:=List.getElem_of_mem c;have:(ps[i],vs[i]'(b▸a))∈ps.zip vs:=by
  have:i<(ps.zip vs).length:=Z eW J4;have h:=f_ this
  rwa [iY]at h
 refine Z (tN d this) ?_;simp
def xG(p:Arguments):Bool:=p.posonlyargs.isEmpty&&p.vararg.isNone&&p.kwonlyargs.isEmpty&&p.kwarg.isNone
theorem Ku{p:Arguments}(h1:p.posonlyargs=[])(a:p.vararg=none)(b:p.kwonlyargs=[])(c:p.kwarg=none):p={p with posonlyargs:=[],vararg:=none,kwonlyargs:=[],kwarg:=none}:=by cases p;cases h1;cases a;cases b;cases c;rfl
theorem NY{p:Arguments}(h:fd.params=p)(a:fd.defaults=.none):fd={fd with params:=p,defaults:=.none}:=by cases fd;cases h;cases a;rfl
theorem QS(b:xG fd.params=true)(j:fd.defaults=.none)(d:(fd.params.args.map (·.arg)).Nodup)(a:vals.length=(fd.params.args.map (·.arg)).length):
 bindArgs fd ⟨vals,[]⟩=pure ((fd.params.args.map (·.arg)).zip vals):=by
 unfold xG at b;simp only[j6,qY,Option.isNone_iff_eq_none]at b;refine a_ b λc i=>?_;clear b;refine a_ c λc g=>a_ c λh1 f=>?_;clear c;refine(bg (λx=>bindArgs x _) (NY (Ku h1 f g i) j)).trans ?_;unfold bindArgs;dsimp only[List.map_nil,js,List.forIn_nil,Option.getD_none,List.drop_nil,lZ,Nat.sub_zero];generalize fd.params.args.map _=ps at d a;refine(pure_bind _ _).trans<|(bg _ rfl).trans ((pure_bind _ _).trans ((ai λh=>absurd (kt (bW.mp h).1) (by exact Z a<|jY _)).trans ?_))
 have e:List.drop (0-ps.length) ([]:List Value)=[]:=List.drop_nil
 refine(ai (show¬(!((ps.take _).filter (λn=>((ps.zip _).lookup n).isNone)).isEmpty)=true by exact Z e<|Z (List.take_length ..)<|Z (Fj d a) Bool.false_ne_true)).trans ?_
 show(forIn _ _ _>>=_)=_;exact Z e<|Z List.zip_nil_right<|(pure_bind (ps.zip _) _).trans ((pure_bind _ _).trans ((ai Bool.false_ne_true).trans (bg _ (Z (show List.map _ []++ps++List.map _ []=ps from bZ ps) (Fk d a)))))
def ew(fd:FuncData):List Str:=fd.params.args.map (·.arg)
def B1(v:Data)(f:FuncData->Bool):Bool:=match v with| .func a=>f a|_=>false
theorem Ll{v:Data}(h:B1 v f=true):∃a,v=.func a/\f a=true:=by cases v<;>first|exact⟨_,rfl,h⟩|exact aR h
def B6(v:FuncBody)(f:List Stmt->Bool):Bool:=match v with| .stmts a=>f a|_=>false
theorem Lr{v:FuncBody}(h:B6 v f=true):∃a,v=.stmts a/\f a=true:=by cases v<;>first|exact⟨_,rfl,h⟩|exact aR h
def hE(K:Frag)(f:Addr)(np nl:Nat)(k:FuncData->List Stmt->Bool):Bool:=fS (K.lookup f) λo=>B1 o.data λfd=>B6 fd.body λbody=>
 (codeIn K fd.code fd.qualname&&xG fd.params&&fd.defaults==.none&&fq fd.scope)&&(fd.globals==mainGlobals&&fd.builtins==builtinsNs&&fd.scope.kind==.function&&!fd.scope.isCoroutine&&!fd.scope.isGenerator)&&
 ((fd.scope.names.take np).map (·.1)==ew fd&&fd.scope.names.length==nl&&(ew fd).length==np&&(fd.scope.names.take np).all (λp=>p.2==.local||p.2==.cell))&&k fd body
theorem HY{vs:List V}(h:(sc.names.take ps.length).map (·.1)=ps)(c:(sc.names.map (·.1)).Nodup)(g:vs.length=ps.length):
 iD sc ps vs=vs.map some++List.replicate (sc.names.length-ps.length) none:=by
 have e:sc.names=sc.names.take _++sc.names.drop ps.length:=(List.take_append_drop _ _).symm;rw[e,bz,h]at c;unfold iD;refine Z (Z bz.symm<|Z e.symm rfl:sc.names.map (λp=>(ps.zip vs).lookup _)=(sc.names.take _).map (λp=>(ps.zip vs).lookup _)++(sc.names.drop _).map (λp=>(ps.zip vs).lookup _)) ?_
 congr 1
 ·have:(sc.names.take ps.length).map (λp=>(ps.zip vs).lookup p.1)=ps.map λx=>(ps.zip vs).lookup x:=by
   have q:=bg (List.map λx=>(ps.zip vs).lookup x) h;rw[eG]at q;exact q
  refine Z this ?_;apply List.ext_getElem (by simp[g])
  refine λi h1 d=>Z (l6 ..)<|Z (l6 ..) ?_;simp only[eH]at h1 d;have:(ps[i],vs[i]'d)∈ps.zip vs:=by
   have hz:i<(ps.zip vs).length:=Z eW q9;have h:=f_ hz
   rwa [iY]at h
  exact tN (qU.mp c).1 this
 ·refine List.eq_replicate_iff.mpr ⟨by simp,λb f=>ac (bT.mp f) λp j a=>?_⟩;clear f;subst a
  rewrite[List.lookup_eq_none_iff];refine λq k=>bne_iff_ne.mpr λz=>(qU.mp c).2.2 _ (List.of_mem_zip k).1 _ (qV j) z.symm
theorem oC{K:Frag}(h:hE K f np nl k=true):aV λfd body=>gU (re K f fd body (ew fd)) ((∀vals:List Value,vals.length=(ew fd).length->bindArgs fd ⟨vals,[]⟩=pure ((ew fd).zip vals))) ((ew fd).length=np) ((∀vs:List V,vs.length=np->iD fd.scope (ew fd) vs=vs.map some++List.replicate (nl-np) none)) (k fd body=true):=by
 refine ac (i8 h) λo w h=>ac (Ll h) λfd y h=>ac (Lr h) λbody A h=>iQ h λL M g N=>iQ L λh1 D E m=>hI M λF G H I Φ=>iQ g λs B c C=>?_;have c:=eq_of_beq c;have d:(fd.scope.names.take (ew fd).length).map _=ew fd:=Z c<|(eq_of_beq s);have j:(ew fd).Nodup:=Z d.symm<|Z List.map_take<|(de m).sublist (List.take_sublist _ _)
 have i:∀p∈fd.scope.names,p.1∈ew fd->p∈fd.scope.names.take np:=λp a n=>by
  rw[<-(eq_of_beq s)]at n;refine ac (bT.mp n) λq b u=>?_;have e:fd.scope.names=fd.scope.names.take np++fd.scope.names.drop np:=(List.take_append_drop _ _).symm;have l:=(de m);rw[e,bz]at l;rw[e]at a;rcases cO.mp a with a|a
  ·exact a
  ·exact absurd u λz=>(qU.mp l).2.2 _ (qV b) _ (qV a) z
 refine(sP fd _ ⟨⟨o,w,y⟩,A,h1,j,m,eq_of_beq F,eq_of_beq G,eq_of_beq H,mK I,mK Φ,λp a n=>?_,λx v=>?_⟩ (λvals t=>QS D (eq_of_beq E) j t) c (λvs t=>?_) N)
 ·rcases rm.mp (jv.mp C p (i p a n))with z|z
  ·exact .inl (eq_of_beq z)
  ·exact .inr (eq_of_beq z)
 ·rw[<-(eq_of_beq s)]at v
  refine ac (bT.mp v) λq b r=>?_;clear v;subst r
  cases z:fd.scope.names.lookup _ with
  |some k=>exact⟨k,rfl⟩
  |none=>rw[List.lookup_eq_none_iff]at z;have:=z q (List.mem_of_mem_take b);simp at this
 ·exact Z (HY d (de m) (t.trans c.symm))<|Z (eq_of_beq B)<|Z c rfl
def vu(K:Frag)(cs:List Addr)(as:List Str)(f:Addr)(np nl:Nat)(y:Y):Bool:=hE K f np nl λfd body=>fd.closure.isEmpty&&(iK K cs as y).ss fd.scope body
theorem EF(c:B.N=cH cs as){y:Y}(h:vu B.K cs as f np nl y=true){vs:List V}(b:vs.length=np)
 (q:(bu B d y).ss (vs.map some++List.replicate (nl-np) none) m (dY Q)):aP B (d+1) f vs m Q:=fu (oC h) λfd body F g e hs a=>EE F (qY.mp (cC a).1) g ((nR c y).2 _ _ (cC a).2) vs m Q (b.trans e.symm) (Z (hs vs b) q)
abbrev w0:Str:=⟨#[116,111,108,100]⟩
abbrev w1:Str:=⟨#[114,117,108,101]⟩
abbrev w2:Str:=⟨#[106,111,105,110]⟩
abbrev w3:Str:=⟨#[115,97,109,101]⟩
abbrev w4:Str:=⟨#[108,105,107,101]⟩
abbrev w5:Str:=⟨#[101,100,103,101]⟩
abbrev w6:Str:=⟨#[111,118,101,114]⟩
abbrev w7:Str:=⟨#[116,117,114,110]⟩
abbrev w8:Str:=⟨#[117,110,100,101,114]⟩
abbrev w9:Str:=⟨#[]⟩
abbrev wK:Str:=⟨#[40,41,91,93,123,125,44,58]⟩
abbrev Am:Str:=⟨#[63]⟩
abbrev t7:Str:=⟨#[109,97,100,101]⟩
abbrev wJ:Str:=⟨#[107,110,111,119,110]⟩
abbrev pD:Str:=⟨#[97,116]⟩
abbrev rO:Str:=⟨#[114,111,119]⟩
abbrev wI:Str:=⟨#[102,103]⟩
abbrev Ak:Str:=⟨#[102]⟩
abbrev pC:Str:=⟨#[103,111,110,101]⟩
abbrev GR:Str:=⟨#[116]⟩
abbrev Aj:Str:=⟨#[97]⟩
abbrev Ai:Str:=⟨#[98]⟩
abbrev Ah:Str:=⟨#[99]⟩
abbrev wx:X:=.bin .Add (.str GR) (.blt 5 jE)
def Fv:Y:=(a6 (.ret (.tup (cM (.meth 0 402 aJ .nil) (.blt 0 (aM pg)) (.attr 0 7 aJ)))))
def Fr:Y:=(cT (.iff (.cmp .Gt (.meth 1 278 k9 dD) (.glob 100000)) kb .nil) (.ret (.meth 1 271 k9 dD)))
def Ft:Y:=(dR (.asg aO (.sub (.sub pg ax) (.int 2))) (.iff (.cmp .Eq (.sub aO (.int 0)) (.str w0)) (a6 (.ret (.tup (aZ (.str w0) (.sub aO (.int 1)))))) .nil) (.ret (.tup (cM (.str w1) (.sub aO (.int 1)) (.blt 1 (aM (.comp [none,none,none,none,some 0] (.tup et) (.sub aO (.int 2)) .nil (.tup (aZ ax (.call 116 (aZ bc aO)))))))))))
def FH:Y:=(dR (.asg aW (.blt 2 fL)) (.whl (.cmp .Gt i6 (.int 1)) (cT (.cmpa 4 [none,none,some 3] ax (.range (cM (.int 0) (.bin .Sub i6 (.int 1)) (.int 2))) .nil (.tup (cM (.str w2) rC (.sub aO (.bin .Add ax (.int 1)))))) (.asg aW (.bin .Add bc (.lo aW (.bin .Sub i6 (.bin .Mod i6 (.int 2)))))))) (.ret (.ite (.cmp .Eq i6 (.int 1)) jD (.tup (aZ (.str w3) (.call 116 (aZ aJ ax)))))))
def FU:Y:=(wo (.asg jF ax) (.asg (.attr 3 18 aJ) .none) (.asg i5 pb) (.asg (.attr 3 20 aJ) pb) (.asg pi (.bool true)) (.expr (.meth 3 145 aJ .nil)))
def FS:Y:=(.cons (.asg ax (.call 109 (aM jF))) (tQ (.iff (.cmp .Eq ax (.attr 3 18 aJ)) (a6 .ret0) .nil) (.iff (.cmp .Gt (.meth 0 402 jF .nil) (.glob 60)) kb .nil) (.asg (.tup (aZ (.attr 3 18 aJ) (.attr 3 20 aJ))) (.tup (aZ ax pb))) (.asg i5 (.dcomp 2 [none,none] ax (.range (aM (.meth 0 402 jF .nil))) (.tup (aZ ax ax)) (.int 0))) (.fr aO (.range (aM (.blt 0 (aM (.attr 0 2 jF))))) (cT (.asg (.tup (cM aW bc bC)) (.sub (.attr 0 2 jF) aO)) (.iff (.cmp .NotEq (.sub bC (.int 0)) (.str w4)) (cT (.expr (.meth 3 152 aJ (kf aW bc (.int 1) (.tup (cM (.str w5) aO (.bool false)))))) (.expr (.meth 3 152 aJ (kf bc aW (.int 1) (.tup (cM (.str w5) aO (.bool true))))))) .nil))) (.cmpa 6 [none,none,some 0] ax (.meth 0 473 jF .nil) .nil wz) (.asg pi (.bool true)) (.whl pi (cT (.asg pi (.bool false)) (.fr eY cz (cT (.expr (.meth 3 157 aJ (aM eY))) (.expr (.meth 3 164 aJ (aM eY)))))))))
def FT:Y:=(a6 (.iff (.or rI (.cmp .Lt aW rH)) (dR (.asg rH aW) (.asg wy bc) (.asg pi (.bool true))) .nil))
def FW:Y:=(a6 (.fr aO ax (a6 (.fr aW ax (cT (.swap2 4 5 (.meth 1 259 k6 fL) (.meth 1 259 k6 jE)) (.iff (.and3 (.cmp .NotEq aO aW) (.cmp .Eq (.meth 1 252 k6 fL) (.meth 1 252 k6 jE)) (.cmp .Eq (.blt 0 ml) (.blt 0 (aM bC)))) (a6 (.iff (.cmp .Eq (.comp [none,none,some 0] ax (.zip bc bC) (.cmp .NotIn ax ph) ax) cY) (a6 (.expr (.meth 3 152 aJ (kf aO aW (.blt 7 (aM (.comp [none,none,some 0] ax (.zip bc bC) .nil (.sub ph ax)))) (.tup (aM (.str w4))))))) .nil)) .nil))))))
def FV:Y:=(a6 (.fr aO ax (a6 (.fr aW ax (a6 (.fr bc ax (a6 (.iff (.and (.cmp .In (.tup (aZ aW aO)) i5) (.cmp .In (.tup (aZ aO bc)) i5)) (cT (.asg bC (.bin .Add (.sub i5 (.tup (aZ aW aO))) (.sub i5 (.tup (aZ aO bc))))) (.expr (.meth 3 152 aJ (kf aW bc bC (.tup (aZ (.str w6) aO)))))) .nil))))))))
def FI:Y:=(a6 (.ret (.andv (.cmp .NotEq aJ (.str w9)) (.cmp .Eq (.comp [none,none] ax aJ (.or (.bm 3 ax .nil) (.cmp .In ax (.str wK))) ax) cY))))
def Gm:Y:=(rq (.asg rE cY) (.asg rD pb) (.asg (.attr 1 13 aJ) cY) (.asg (.attr 1 14 aJ) cY))
def Gi:Y:=(a6 (.ret pt))
def Gh:Y:=(.cons (.asg aW (.bin .Add (.tup dD) (.blt 1 fL))) (tQ (.iff (.cmp .In aW rD) (a6 (.ret (.sub rD aW))) .nil) (.expr (.meth 1 226 aJ dD)) (.fr bc (.lo aW (.int 1)) (a6 (.iff (.not (.chain .LtE .Lt (.int 0) bc pt)) kb .nil))) (.asg (.sub rD aW) pt) (.expr (.bm 0 rE jE)) (.expr (.bm 0 (.attr 1 13 aJ) (aM (.bin .Add (.int 1) (.blt 7 (aM (.comp [none,none,some 0] ax (.lo aW (.int 1)) .nil (.sub (.attr 1 13 aO) ax)))))))) (.expr (.bm 0 (.attr 1 14 aJ) (aM (.bin .Add (.int 1) (.blt 8 (aM (.bin .Add (.comp [none,none,some 0] ax (.lo aW (.int 1)) .nil (.sub (.attr 1 14 aO) ax)) (.lst (aM (.int 0)))))))))) (.ret (.bin .Sub pt (.int 1)))))
def Gj:Y:=(a6 (.iff (.or (.not (.call 188 dD)) (.cmp .Eq (.sub ax (.int 0)) (.str Am))) kb .nil))
def Gn:Y:=(a6 (.whl (.cmp .Gt pt ww) (dR (.expr (.bm 4 rD (aM (.bm 1 rE .nil)))) (.expr (.bm 1 (.attr 1 13 aJ) .nil)) (.expr (.bm 1 (.attr 1 14 aJ) .nil)))))
def Gk:Y:=(a6 (.ret (.sub (.sub rE ax) (.int 0))))
def Gl:Y:=(a6 (.ret (.lo (.sub rE ax) (.int 1))))
def Gg:Y:=(ro (.swap2 2 3 (.dict 1 (.pair ax (.bool true) .nil)) (.lst dD)) (.whl (.cmp .Gt i6 (.int 0)) (a6 (.fr bc (.meth 1 259 aJ (aM (.bm 1 aW .nil))) (a6 (.iff (.cmp .NotIn bc aO) (cT (.asg (.sub aO bc) (.bool true)) (.expr (.bm 0 aW ml))) .nil))))) (.asg bC (.dict 1 .nil)) (.fr cz (.blt 9 fL) (a6 (.asg (.sub bC cz) (.bin .Add (.tup (aM (.meth 1 252 aJ (aM cz)))) (.blt 1 (aM (.comp [none,none,some 5] ax (.meth 1 259 aJ (aM cz)) .nil rC))))))) (.ret (.sub bC ax)))
def Gf:Y:=(a6 (.ret (.sub (.attr 1 13 aJ) ax)))
def FN:Y:=(dR (.asg k_ cY) (.asg ke cY) (.asg (.attr 2 16 aJ) cY))
def FM:Y:=(dR (.expr (.bm 0 k_ (aM rG))) (.expr (.bm 0 ke (aM (.lst (aM (.blt 0 (aM ke))))))) (.ret (.bin .Sub rG (.int 1))))
def FJ:Y:=(a6 (.ret rG))
def FO:Y:=(cT (.whl (.cmp .NotEq (.sub k_ ax) ax) (a6 (.asg ax (.sub k_ ax)))) (.ret ax))
def FK:Y:=(wo (.asg (.tup rB) (.blt 6 (aM (.lst (aZ (.meth 2 334 aJ dD) (.meth 2 334 aJ fL)))))) (.iff (.cmp .Eq aW bc) (a6 (.ret .none)) .nil) (.asg (.sub k_ bc) aW) (.expr (.bm 2 (.sub ke aW) (aM (.sub ke bc)))) (.expr (.bm 0 (.attr 2 16 aJ) (aM (.tup rB)))) (.ret (.tup rB)))
def FL:Y:=(a6 (.ret (.blt 6 (aM (.sub ke (.meth 2 334 aJ dD))))))
def FQ:Y:=(a6 (.ret (.comp [none,none,some 0] ax (.range (aM rG)) (.cmp .Eq (.sub (.attr 2 5 aO) ax) ax) ax)))
def FR:Y:=(a6 (.whl (.cmp .Gt (.blt 0 (aM (.attr 2 16 aJ))) ww) (dR (.asg (.tup pe) (.bm 1 (.attr 2 16 aJ) .nil)) (.asg (.sub k_ aW) aW) (.delf (.sub ke aO) (.bin .Sub (.blt 0 (aM (.sub ke aO))) (.blt 0 (aM (.sub ke aW))))))))
def FP:Y:=(rq (.asg ax ww) (.fr aO (.range (aZ ax rG)) (a6 (.iff (.cmp .NotEq (.meth 2 348 aJ fL) (.lst fL)) kb .nil))) (.delf k_ ax) (.delf ke ax))
def Ga:Y:=(tQ (.asg k9 (.call 295 .nil)) (.asg kd (.call 377 .nil)) (.asg pg cY) (.asg (.attr 0 3 aJ) cY) (.asg rA pb) (.asg gK (.dict 1 .nil)) (.asg pd cY) (.asg (.attr 0 7 aJ) (.int 0)))
def F3:Y:=(a6 (.ret (.meth 1 214 k9 .nil)))
def F6:Y:=(a6 (.ret (.bin .Add (.tup (aM (.meth 1 252 k9 dD))) (.blt 1 (aM (.comp [none,none,some 0] ax (.meth 1 259 k9 dD) .nil tU))))))
def Ge:Y:=(zS (.asg aW (.meth 1 219 k9 et)) (.iff (.cmp .Lt aW (.meth 2 327 kd .nil)) (a6 (.ret aW)) .nil) (.expr (.meth 2 320 kd .nil)) (.asg (.sub gK aW) cY) (.fr bc (.sset (.comp [none,none,some 0] ax aO .nil tU)) (a6 (.expr (.bm 0 (.sub gK bc) jE)))) (.expr (.meth 0 558 aJ jE)) (.ret aW))
def F5:Y:=(a6 (.ret (.meth 0 412 aJ (aZ (.sub ax (.int 0)) (.blt 1 (aM (.comp [none,none,some 0] ax (.lo ax (.int 1)) .nil (.meth 0 417 aO dD))))))))
def F9:Y:=(cT (.asg aO (.bm 5 rA (aZ (.meth 0 407 aJ dD) ax))) (.iff (.cmp .NotEq (.meth 0 431 aJ fL) (.meth 0 431 aJ dD)) (a6 (.expr (.meth 0 566 aJ (cM aO ax (.tup (aM (.str w4))))))) .nil))
def Gb:Y:=(a6 (.ret (.meth 2 334 kd dD)))
def F7:Y:=(a6 (.ret (.meth 0 566 aJ po)))
def F_:Y:=(tQ (.expr (.bm 0 pg (aM (.tup po)))) (.asg bc (.meth 2 341 kd et)) (.iff (.cmp .Is bc .none) mj .nil) (.asg (.tup mt) bc) (.expr (.bm 0 (.attr 0 3 aJ) (aM (.bin .Sub (.blt 0 (aM pg)) (.int 1))))) (.expr (.bm 2 pd (aM (.sub gK cz)))) (.asg (.sub gK bC) (.bin .Add (.sub gK bC) (.bm 4 gK (aM cz)))) (.ret (.bool true)))
def F4:Y:=(a6 (.whl (.cmp .Gt (.blt 0 (aM pd)) (.int 0)) (a6 (.expr (.meth 0 558 aJ (aM (.bm 1 pd .nil)))))))
def Gc:Y:=(a6 (.ret (.meth 2 353 kd .nil)))
def F8:Y:=(a6 (.ret (.meth 2 348 kd dD)))
def F2:Y:=(a6 (.ret (.blt 0 (aM ru))))
def FZ:Y:=(a6 (.expr (.bm 0 ru (aM (.tup (aZ (.blt 0 (aM mr)) (.blt 2 (aM pd))))))))
def F0:Y:=(ro (.iff (.cmp .Eq (.blt 0 (aM ru)) (.int 0)) kb .nil) (.asg (.tup et) (.bm 1 ru .nil)) (.asg (.attr 0 7 aJ) (.bin .Add (.attr 0 7 aJ) (.int 1))) (.whl (.cmp .Gt (.blt 0 (aM mr)) ax) (cT (.asg aW (.bm 1 mr .nil)) (.iff (.cmp .Eq jD (.str t7)) (a6 (.expr (.meth 0 571 aJ (aM ny)))) (a6 (.iff (.cmp .Eq jD (.str wJ)) (a6 (.delk rA ny)) (a6 (.expr (.meth 0 578 aJ jE)))))))) (.asg pd aO))
def FX:Y:=(ro (.fr aO (.sset (.comp [none,none,some 0] ax (.meth 1 259 k9 dD) .nil tU)) (a6 (.expr (.bm 1 (.sub gK aO) .nil)))) (.delk gK ax) (.expr (.meth 2 374 kd dD)) (.expr (.meth 1 245 k9 dD)) (.asg (.attr 0 10 aJ) ax))
def FY:Y:=(dR (.asg (.tup (pu aO aW bc bC cz)) ax) (.expr (.bm 1 pg .nil)) (.iff (.cmp .NotEq aW bC) (rq (.expr (.bm 1 (.attr 0 3 aJ) .nil)) (.expr (.meth 2 367 kd (aM (.bin .Sub (.blt 0 (aM (.attr 2 16 kd))) (.int 1))))) (.asg (.sub gK aW) (.up (.sub gK aW) bc)) (.asg (.sub gK bC) cz)) .nil))
def FD:Y:=(dR (.asg aO (.sub aJ (.str pD))) (.asg (.sub aJ (.str pD)) (.bin .Add aO (.int 1))) (.ret (.bin .Mod (.ite (.cmp .Lt aO (.blt 0 (aM (.sub aJ (.str rO))))) (.sub (.sub aJ (.str rO)) aO) (.bin .Add (.bin .Add (.bin .Add (.bin .Mult (.bin .Mult (.int 4) aO) aO) (.bin .Mult (.int 7) aO)) (.bin .FloorDiv aO (.int 3))) (.int 3))) ax)))
def Fz:Y:=(a6 (.ret (.bin .Add (.tup (aM (.sub (.sub aJ ax) (.int 0)))) (.blt 1 (aM (.comp [none,none,none,some 0] ax (.lo (.sub aJ ax) (.int 1)) .nil (.call 595 (aZ aW ax))))))))
def FB:Y:=(dR (.asg (.tup (aZ bc bC)) (.tup (aZ (.lrange (.blt 0 (aM aJ))) (.comp [none,none,none,none] (.tup po) ax .nil (.tup et))))) (.whl (.cmp .NotEq bC cY) (dR (.fr (.tup pe) bC (cT (.asg (.tup (aZ cz eY)) (.blt 6 (aM (.lst (aZ (.sub bc aO) (.sub bc aW)))))) (.asg bc (.comp [none,none,some 7,some 6] ax bc .nil (.ite (.cmp .Eq ax aO) aW ax))))) (.swap2 8 5 pb cY) (.fr (.tup (aZ i4 j_)) (.enum aJ) (cT (.asg mi (.bm 5 j9 (aZ (.bin .Add (.tup (aM (.sub j_ (.int 0)))) (.blt 1 (aM (.comp [none,none,some 4] ax (.lo j_ (.int 1)) .nil rC)))) i4))) (.iff (.cmp .NotEq (.sub bc mi) (.sub bc i4)) (a6 (.expr (.bm 0 bC (aM (.tup (aZ mi i4)))))) .nil))))) (.ret bc))
def Fx:Y:=(dR (.cmpa 2 [none,none,none,some 0] (.tup et) ax (.cmp .Eq ax aW) aO) (.fr aW (.range (aZ (.int 1) (.blt 0 (aM aJ)))) (a6 (.expr (.bm 2 aO (aM (.comp [none,none,some 3,some 0] ax (.call 605 (aZ (.sub aJ aW) ax)) .nil wv)))))) (.ret aO))
def Fy:Y:=(rq (.iff (.cmp .In (.sub aJ (.int 0)) (.tup (aZ (.str w3) (.str w0)))) (a6 (.ret (.ite (.cmp .Eq (.sub aJ (.int 0)) (.str w0)) (.lst (aM (.sub aJ (.int 1)))) cY))) .nil) (.asg ax cY) (.fr aO (.ite (.cmp .Eq (.sub aJ (.int 0)) (.str w8)) (.sub aJ (.int 2)) (.lo aJ (.int 1))) (a6 (.expr (.bm 2 ax (aM (.call 612 fL)))))) (.ret ax))
def FA:Y:=(rq (.asg aW (.sub (.str wI) (.call 590 (aZ aJ (.int 2))))) (.asg bc (.bin .Add (.tup jE) (.blt 1 (aM (.comp [none,none,none,some 0] ax (.range (aM (.ite (.cmp .Eq aW (.str Ak)) (.int 1) (.int 2)))) .nil (.call 590 (aZ aW (.int 3)))))))) (.expr (.meth 0 412 ax (aZ aW (.lo bc (.int 1))))) (.ret (.ite (.cmp .In bc aO) aO (.bin .Add aO (.lst ml)))))
def FF:Y:=(dR (.asg (.tup (aZ bc (.tup mt))) (.tup (aZ (.ite (.cmp .Lt aW (.int 3)) (.sub (.tup (cM (.int 3) (.int 0) (.int 3))) aW) (.call 590 (aZ aJ (.int 5)))) rF))) (.iff (.cmp .Eq bc (.int 0)) (cT (.expr (.meth 0 543 ax .nil)) (.expr (.bm 0 aO (aM (.tup mt))))) (a6 (.iff (.and (.cmp .Lt bc (.int 3)) (.cmp .Gt (.blt 0 fL) (.int 1))) (dR (.expr (.meth 0 550 ax .nil)) (.expr (.bm 1 aO .nil)) (.asg (.sub aJ (.str pC)) (.up (.sub cz (.neg 1)) (.int 2)))) (a6 (.iff (.cmp .Lt bc (.int 4)) (dR (.swap2 7 8 tW tW) (.expr (.meth 0 445 ax (cM eY j9 (.tup (aZ (.str w0) wx))))) (.asg rF (.tup (aZ bC (.bin .Add cz (.lst (aM (.tup (cM eY j9 wx))))))))) (a6 (.asg rF (.tup (aZ (.call 617 (cM aJ ax bC)) cz))))))))) (.expr (.meth 0 459 ax .nil)))
def FC:Y:=(ro (.iff (.cmp .Eq aJ ax) (a6 (.ret (.int 0))) .nil) (.asg aW (.call 605 (aZ aJ aO))) (.iff (.cmp .In ax aW) (a6 (.ret (.int 1))) .nil) (.asg bc (.call 605 et)) (.ret (.ite (.cmp .NotEq (.comp [none,none,some 4] ax aW (.cmp .In ax aO) ax) cY) (.int 2) (.int 3))))
def FG:Y:=(wo (.asg (.tup rB) aO) (.swap3 8 9 10 (.call 600 rB) (.comp [none,none,none,none] (.tup po) bc .nil aW) cY) (.fr (.tup (cM bC cz eY)) bc (a6 (.expr (.bm 2 j_ (aM (.lst (aZ (.tup (aZ pr pq)) (.tup (aZ pq pr))))))))) (.asg mi (.lst (cM (.tup (aZ (.call 590 (aZ aJ i6)) (.call 590 (aZ aJ i6)))) (.up (.sub bc (.neg 1)) (.int 2)) (.sub aJ (.str pC))))) (.fr (.tup mt) mi (a6 (.iff (.cmp .Lt (.blt 3 mt) i6) (cT (.asg o_ (.ite (.cmp .Eq (.sub j9 bC) (.sub j9 cz)) (.call 629 (cM pr pq j_)) (.neg 1))) (.iff (.or (.not (.call 634 (pu ax bC cz o_ i4))) (.not (.call 634 (pu ax cz bC o_ i4)))) mj .nil)) .nil))) (.ret (.bool true)))
def Fw:Y:=(zS (.asg ax (.dict 0 (.pair (.str rO) (.comp [none,none,none] ax (.up aJ (.int 45)) .nil wA) (.pair (.str pD) (.int 0) (.pair (.str pC) (.tup (aZ (.int 0) (.int 1))) .nil))))) (.asg (.tup pe) (.tup (aZ (.call 581 .nil) (.lst (aM (.tup (aZ (.lst (cM (.tup (aM (.str Aj))) (.tup (aM (.str Ai))) (.tup (aM (.str Ah))))) cY))))))) (.fr bc (.sub jD (.int 0)) (a6 (.expr (.meth 0 417 aO ml)))) (.asg jD (.tup (aZ (.call 617 (cM ax aO (.sub jD (.int 0)))) cY))) (.asg bC (.lst (aZ (.call 179 fL) (.call 179 fL)))) (.fr cz (.range (aM (.bin .Add (.int 4) tV))) (dR (.expr (.call 624 (kf ax aO aW cz))) (.iff (.or (.cmp .NotEq (.meth 0 402 aO .nil) (.blt 0 (aM (.sub pk (.int 0))))) (.cmp .NotEq (.meth 0 536 aO .nil) (.bin .Sub i6 (.int 1)))) mj .nil) (.iff (.not (.call 639 (cM ax (.sub bC tV) pk))) mj .nil))) (.ret (.cmp .Eq (.comp [none,none,none,some 3,some 1] ax bC (.not (.call 639 (cM bc ax pk))) ax) cY)))
def fe:List Addr:=[581,295,377,179]
def dN:List Str:=[⟨#[98,97,110,107]⟩,⟨#[117,110,105,111,110,115]⟩,⟨#[101,100,103,101,115]⟩,⟨#[102,111,114,101,115,116]⟩,⟨#[107,110,111,119,110]⟩,⟨#[97,98,111,118,101]⟩,⟨#[119,97,105,116,105,110,103]⟩,⟨#[98,97,99,107,115]⟩,⟨#[99,104,97,110,103,101,115]⟩,⟨#[109,97,114,107,115]⟩,⟨#[109,97,100,101]⟩,⟨#[110,111,100,101,115]⟩,⟨#[110,117,109,98,101,114,115]⟩,⟨#[119,101,105,103,104,116,115]⟩,⟨#[100,101,112,116,104,115]⟩,⟨#[108,111,116,115]⟩,⟨#[109,101,114,103,101,100]⟩,⟨#[104,101,97,112]⟩,⟨#[109,97,114,107]⟩,⟨#[99,111,115,116,115]⟩,⟨#[119,97,121,115]⟩,⟨#[105,115,95,116,117,114,110,101,100]⟩]
def yY:List (Addr×Nat×Nat×Y):=[(109,1,2,Fv),(116,2,4,Fr),(121,2,4,Ft),(126,3,9,FH),(140,2,2,FU),(145,1,13,FS),(152,5,5,FT),(157,2,9,FW),(164,2,6,FV),(188,1,1,FI),(207,1,1,Gm),(214,1,2,Gi),(219,3,10,Gh),(226,2,4,Gj),(245,2,4,Gn),(252,2,2,Gk),(259,2,2,Gl),(271,2,10,Gg),(278,2,2,Gf),(313,1,1,FN),(320,1,2,FM),(327,1,2,FJ),(334,2,2,FO),(341,3,6,FK),(348,2,3,FL),(353,1,3,FQ),(367,2,6,FR),(374,2,7,FP),(395,1,3,Ga),(402,1,1,F3),(407,2,3,F6),(412,3,7,Ge),(417,2,3,F5),(424,2,3,F9),(431,2,2,Gb),(445,4,4,F7),(452,4,8,F_),(459,1,2,F4),(473,1,1,Gc),(480,2,2,F8),(536,1,2,F2),(543,1,3,FZ),(550,1,6,F0),(571,2,5,FX),(578,2,8,FY),(590,2,4,FD),(595,2,3,Fz),(600,2,18,FB),(605,2,7,Fx),(612,1,4,Fy),(617,3,8,FA),(624,4,13,FF),(629,3,6,FC),(639,3,20,FG),(644,1,15,Fw)]
def uJ(K:Frag):Bool:=yY.all λr=>vu K fe dN r.1 r.2.1 r.2.2.1 r.2.2.2
theorem Lw{K:Frag}(h:uJ K=true)(i:Nat){r:Addr×Nat×Nat×Y}(hi:yY[i]?=some r):vu K fe dN r.1 r.2.1 r.2.2.1 r.2.2.2=true:=jv.mp h r (bN hi)
def jf(K:Frag)(cs:List Addr)(as:List Str)(k:Scope->List Stmt->Bool)(sc:Scope):Y->List Stmt->Bool
 | .cons s r,x::xs=>(iK K cs as s).s sc x&&jf K cs as k sc r xs
 | .nil,xs=>k sc xs
 |_,_=>false
def qw(B:bB)(d:Nat)(D:DS):Y->DS
 | .cons s r=>nU (bu B d s).s (qw B d D r)
 | .nil=>D
 |_=>λ_ _ _=>False
section
variable{D:DS}{k:Scope->List Stmt->Bool}
theorem A_(a:B.N=cH cs as)(h:∀xs,k fd.scope xs=true->kZ B fd f body d xs D) y:∀xs,jf B.K cs as k fd.scope y xs=true->kZ B fd f body d xs (qw B d D y):=by
 induction y with
 |cons s r _ b=>
  intro xs q
  cases xs with
  |nil=>exact aR q
  |cons x xs=>exact PB ((nR a s).1 _ _ (cC q).1) (b xs (cC q).2)
 |nil=>exact λxs q=>h xs (by cases xs<;>exact q)
 |_=>exact λ_ q=>aR q
end
def tf(f:Str->List Expr->Bool)(x:Expr):Bool:=sh (λg args p=>lz (λo n ap=>sh (λnn as _=>as.isEmpty&&h8 (λs _=>s==("super":Str)) nn) o&&ap.endLine==p.line&&decide (args.length<30)&&args.all bA&&f n args) g) x
@[elab_as_elim] theorem vL{x:Expr}{P:Expr->Prop}(h:tf f x=true)(k:∀np cp n ap b p,(ap.endLine==p.line)=true->b.length<30->b.all bA=true->f n b=true->P (.Call (.Attribute (.Call (.Name "super" np) [] [] cp) n ap) b [] p)):P x:=
 uI h λg a p h=>pY h λo n ap h=>hI h λh1 d e i j=>uI h1 λr as cp h=>bE h λl m=>kG l (i_ m λs np q=>Z (eq_of_beq q)<|k np cp n ap a p d (kt e) i j)
def xS(v:Value)(f:Addr->Bool):Bool:=match v with| .ref a=>f a|_=>false
def BU(v:Value)(f:Str->Bool):Bool:=match v with| .str a _=>f a|_=>false
def B2(v:Data)(f:Array Value->Bool):Bool:=match v with| .fields a=>f a|_=>false
def B5(v:Data)(f:Option Value->Bool):Bool:=match v with| .cell a=>f a|_=>false
theorem BY(h:xS v f=true):∃a,v=.ref a/\f a=true:=by cases v<;>first|exact⟨_,rfl,h⟩|exact aR h
theorem Ld(h:BU v f=true):aV λa t=>v=.str a t/\f a=true:=by cases v<;>first|exact⟨_,_,rfl,h⟩|exact aR h
theorem Lm{v:Data}(h:B2 v f=true):∃a,v=.fields a/\f a=true:=by cases v<;>first|exact⟨_,rfl,h⟩|exact aR h
theorem Lq{v:Data}(h:B5 v f=true):∃a,v=.cell a/\f a=true:=by cases v<;>first|exact⟨_,rfl,h⟩|exact aR h
def ud(K:Frag)(p:Program)(fd:FuncData)(C Cc:Addr)(name:Str):Bool:=
 (lc fd.params.args λa _=>fd.params.posonlyargs.isEmpty&&fd.scope.names[0]?==some (a.arg,.local))&&
 (xS fd.code λcc=>fS (K.lookup cc) λo=>B2 o.data λvs=>fS (vs[2]?:Option Value) λv=>BU v λfile=>fS (Ax p file) λtop=>!(top.scope.names.lookup ("super":Str)).isSome)&&
 (l1 fd.closure λx=>x.1==("__class__":Str)&&fS (K.lookup x.2) λo=>B5 o.data λw=>fS w λv=>xS v λC'=>C'==C)&&
 (fd.scope.names.lookup ("super":Str)==some .globalImplicit&&fd.scope.names.lookup ("__class__":Str)==some .free&&nsIn K mainGlobals "super"==some none)&&
 (clsIn K C).isSome&&subIn K (.ref Cc) (.ref C)==some true&&
 (nsIn K cStatics "thirdparty.any"==some none&&!(name==("__class__":Str))&&fd.scope.names.all (λx=>!(x.2==.cell)))
def uc(K:Frag)(p:Program)(fd:FuncData)(C Cc:Addr)(name:Str)(g:Addr):Bool:=ud K p fd C Cc name&&(fnIn K g&&typeIn K (.ref g)==some (.type "function"))&&
 (fS (clsIn K Cc) λcd=>lc ((cd.mro.dropWhile (·!=Value.ref C)).drop 1) λP _=>mroIn K Cc P==some true&&ownIn K name P==some (some (.ref g)))
theorem CK{K:Frag}(X:K.In h)(e:clsIn K C=some cd):Looks M h (mroOf (.ref C)) cd.mro:=(looks_clsIn X e).andThen .now
theorem CJ{K:Frag}{what a:String}(X:K.In h)(e:nsIn K cStatics "thirdparty.any"=some none):Looks M h (notOfAnOpaqueClass what a (.ref C)) ():=
 (looks_opaque X e).andThen .now
theorem wW{p:Program}(I:∃o,B.K.lookup f=some o/\o.data=.func fd)(Φ:B.prog=p)(h:ud B.K p fd C C' name=true):
 tw B f fd C C' 0 name/\(aV λd D=>br (fd.closure=[(("__class__":Str),d)]) (B.K.lookup d=some D) (D.data=.cell (some (.ref C))))/\(∀x∈fd.scope.names,x.2≠.cell)/\nsIn B.K cStatics "thirdparty.any"=some none:=by
 refine CZ (zE h) λh1 b q s G H y=>?_
 have q3:aV λd o=>br (fd.closure=[(("__class__":Str),d)]) (B.K.lookup d=some o) (o.data=.cell (some (.ref C))):=by refine ac (MH q) λu e q=>?_;obtain⟨n,d⟩:=u;exact a_ (cC q) λm c=>have m:n="__class__":=eq_of_beq m;ac (i8 c) λo i c=>ac (Lq c) λw j c=>ac (i8 c) λv k c=>ac (BY c) λC' l c=>(fX d o (Z e<|Z m rfl) i (Z j<|Z k<|Z l<|Z (eq_of_beq c) rfl))
 refine(dm ⟨I,?_,?_,q3,⟨eq_of_beq (jV s).1,eq_of_beq (jV s).2,eq_of_beq (jV s).3⟩,lU.mp G,eq_of_beq H,by simpa using(jV y).2⟩ q3 (λx L=>?_) (eq_of_beq (jV y).1))
 ·exact bS (lF h1) λa r e h1=>(ad a (by refine Z (qY.mp (cC h1).1)<|Z e ?_;rfl) (eq_of_beq (cC h1).2))
 ·exact ac (BY b) λE e b=>ac (i8 b) λo i b=>ac (Lm b) λvs j b=>ac (i8 b) λv k b=>bS (Ld b) λg t F b=>ac (i8 b) λA l b=>⟨E,o,vs,g,t,A,e,i,j,F▸k,Z Φ l,by simpa using b⟩
 ·have:=jv.mp (jV y).3 x L
  intro z;rw[z]at this;exact aR this
theorem wU{p:Program}(q:∃o,B.K.lookup f=some o/\o.data=.func fd)(s:B.prog=p)(h:uc B.K p fd C C' name g=true):
 mX B f fd C C' 0 name g/\(rf λl c i v=>br (fd.closure=[(l,c)]) (B.K.lookup c=some i) (i.data=.cell v))/\∀x∈fd.scope.names,x.2≠.cell:=by
 refine sL (jV h) λh d a=>iI (wW q s h) λΩ j u op=>bX j λt o m b n=>?_;clear j;exact(bt ⟨Ω,⟨(cC d).1,eq_of_beq (cC d).2⟩,(ac (i8 a) λk e a=>bS (lF a) λP r b a=>⟨k.mro,P,r,eq_of_beq (cC a).1,b,eq_of_beq (cC a).2,λM h X=>CK X e⟩),λM h X=>CJ X op⟩ ⟨_,t,o,_,m,b,n⟩ u)
theorem Pu(b:B.N=cH cs as){l:X}(h:(aU B.K cs as l).l sc args=true):d7 B sc d args (au B d l).l:=((jK b l).3 sc _ h).2
theorem AL(o:B.N=cH cs as){np cp ap p:Pos}{l:X}(Ω:mX B f fd C (B.N.cls c) 0 name g)(h1:(ap.endLine==p.line)=true)(h:args.length<30)
 (b:args.all bA=true)(i:(aU B.K cs as l).l fd.scope args=true):
 tF B fd f body d (.Call (.Attribute (.Call (.Name "super" np) [] [] cp) name ap) args [] p) λJ m Q=>pL 0 c J λx=>(au B d l).l J m λvs m=>aP B d g (x::vs) m Q:=by
 cases args with
 |nil=>
  intro J m Q q A fs U μ s E j k S;obtain⟨n,t,q⟩:=q;refine Ek Ω h1 J m Q (ad n t ?_) A fs _ μ s E j k S
  cases l<;>first|exact q|exact aR i
 |cons e r=>refine PC Ω (Pu o i) (λU=>?_) h1 (λU=>dJ (cC b).1 r _) (λU=>lC (cC b).2);unfold methodCallForm;refine Z (Cq b) ?_;have:backToKw p (keywordEach [] U)=[]:=rfl;refine Z this ?_;simp at h⊢;exact h
def jS(K:Frag)(p:Program)(f:Addr)(np nl:Nat)(C Cc:Addr)(name:Str)(g:Addr)(k:FuncData->List Stmt->Bool):Bool:=hE K f np nl λfd body=>uc K p fd C Cc name g&&k fd body
theorem zm{p:Program}(l:B.prog=p){D:DS}(h:jS B.K p f np nl C (B.N.cls c) name g k=true)
 (r:∀fd body,mX B f fd C (B.N.cls c) 0 name g->k fd body=true->kZ B fd f body d body D){vs:List V}(a:vs.length=np)
 (q:D (vs.map some++List.replicate (nl-np) none) m (dY Q)):aP B (d+1) f vs m Q:=by
 refine fu (oC h) λfd body F n e hs h=>a_ (cC h) λk1 s=>gv (wU F.1 l k1) λΩ t o=>?_;obtain⟨v,u,w,x,b,i,j⟩:=t;exact Qw F b i j o n (r fd _ Ω s) vs m Q (a.trans e.symm) (Z (hs vs a) q)
def wV(K:Frag)(cs:List Addr)(as:List Str)(name:Str)(y:Y)(fd:FuncData)(body:List Stmt):Bool:=lc body λx xs=>pT (tf λn args=>n==name&&args.isEmpty) x&&(iK K cs as y).ss fd.scope xs
theorem HJ(o:B.N=cH cs as){p:Program}(r:B.prog=p){y:Y}(h:jS B.K p f np nl C (B.N.cls c) name g (wV B.K cs as name y)=true){vs:List V}(s:vs.length=np)
 (q:pL 0 c (vs.map some++List.replicate (nl-np) none) λx=>aP B d g [x] m λ_ m=>(bu B d y).ss (vs.map some++List.replicate (nl-np) none) m (dY Q)):aP B (d+1) f vs m Q:=
 zm r h (λfd body Ω k=>fV k λx xs k=>bE k λk1 t=>uH k1 λe q k=>vL k λnp cp n ap a p b u v i=>bE i λl j=>kG j (Z (eq_of_beq l)<|Ei (Ek Ω b) (Ej ((nR o y).2 _ _ t)))) s q
def AN(K:Frag)(cs:List Addr)(as:List Str)(name:Str)(l:X)(sc:Scope)(body:List Stmt):Bool:=l1 body (pT (tf λn args=>n==name&&(aU K cs as l).l sc args))
theorem AK(b:B.N=cH cs as){p:Program}(z:B.prog=p){y:Y}{l:X}(h:jS B.K p f np nl C (B.N.cls c) name g (λfd body=>jf B.K cs as (AN B.K cs as name l) fd.scope y body)=true){vs:List V}(D:vs.length=np)
 (q:qw B d (λJ m Q=>pL 0 c J λx=>(au B d l).l J m λvs m=>aP B d g (x::vs) m λ_ m=>Q .next J m) y (vs.map some++List.replicate (nl-np) none) m (dY Q)):aP B (d+1) f vs m Q:=
 by
 refine zm z h (λfd body Ω k=>A_ b (λxs k=>?_) y _ k) D q;exact e0 k λx k=>uH k λe q k=>vL k λnp cp n ap a p o r t u=>bE u λw v=>Z (eq_of_beq w)<|λJ m Q q A fs U μ s E i j S=>Ei (AL b Ω o r t v) (Ej Ee) (λ_=>rfl) J m Q q A fs _ μ s E i j S
def AM(K:Frag)(cs:List Addr)(as:List Str)(name:Str)(l:X)(sc:Scope)(body:List Stmt):Bool:=l1 body (pS (tf λn args=>n==name&&(aU K cs as l).l sc args))
theorem HI(b:B.N=cH cs as){p:Program}(D:B.prog=p){y:Y}{l:X}(h:jS B.K p f np nl C (B.N.cls c) name g (λfd body=>jf B.K cs as (AM B.K cs as name l) fd.scope y body)=true){vs:List V}(F:vs.length=np)
 (q:qw B d (λJ m Q=>pL 0 c J λx=>(au B d l).l J m λvs m=>aP B d g (x::vs) m λv m=>Q (.ret v) J m) y (vs.map some++List.replicate (nl-np) none) m (dY Q)):aP B (d+1) f vs m Q:=
 by
 refine zm D h (λfd body Ω k=>A_ b (λxs k=>?_) y _ k) F q;exact e0 k λx k=>uF k λe q k=>vL k λnp cp n ap a p o r t u=>bE u λz w=>Z (eq_of_beq z)<|λJ m Q q A fs U μ s E i j S=>PA (AL b Ω o r t w) J m Q q A fs _ μ s E i j S
section
variable{D:DS}{k:Scope->List Stmt->Bool}
theorem IO(a:B.N=cH cs as)(h:∀xs,k sc xs=true->o0 B sc d xs D):∀y xs,jf B.K cs as k sc y xs=true->o0 B sc d xs (qw B d D y):=by
 intro y
 induction y with
 |cons s r _ b=>
  intro xs q
  cases xs with
  |nil=>exact Bool.noConfusion q
  |cons x xs=>exact PE ((nR a s).1 _ _ (cC q).1) (b xs (cC q).2)
 |nil=>exact λxs q=>h xs (by cases xs<;>exact q)
 |_=>intro xs q;exact Bool.noConfusion q
def xH(K:Frag)(cs:List Addr)(as:List Str)(i:Nat)(cap:List (Option Nat))(l c0 e1 tg elt:X)(sc:Scope)(body:List Stmt):Bool:=l2 body λs1 s2=>i9 (λt v=>h8 (λnm _=>(sc.names[i]?==some (nm,.local)&&jL nm)&&
 (fy K sc "zip" v λargs=>l2 args λy z=>bA y&&bA z&&(aU K cs as l).l sc [y,z])&&
  pS (g7 λes=>l3 es λa b c=>(bA a&&bA b&&(aU K cs as c0).e sc a&&(aU K cs as e1).e sc b)&&fy K sc "tuple" c λargs=>l1 args
   (pU λy tgx itx ifs s _=>(ff sc s cap&&fq s&&s.kind==.function)&&(ifs.isEmpty&&h8 (λm _=>m==nm) itx&&kF tgx&&(aU K cs as tg).t s tgx&&(aU K cs as elt).e s y))) s2) t) s1
def BP(B:bB)(d:Nat)(i:Nat)(cap:List (Option Nat))(l c0 e1 tg elt:X):DS:=λJ m Q=>(au B d l).l J m λvs m=>aV λl1 l2=>br (vs=[.tup l1,.tup l2]) (l1.length=l2.length) ((au B d c0).e (J.set i none) (m++[.part]) λv0 m2=>∃a0,v0=.str a0/\(au B d e1).e (J.set i none) m2 λv1 m3=>∃a1,v1=.str a1/\
 cR (au B d tg).t (λm'=>m'[m.length]?=some .part) (λ_ m Q=>Q true m) (au B d elt).e (jC l1 l2) [] (hH (J.set i none) cap) m3 λvs m4=>vs.length<=10000/\Q (.ret (.tup [v0,v1,.tup vs])) (J.set i none) (m4++[.list vs]))
theorem Kx(f:B.N=cH cs as){l n o tg e:X}(h:xH B.K cs as i cap l n o tg e sc body=true):o0 B sc d body (BP B d i cap l n o tg e):=
 iq h λs1 s2 h=>nZ h λt v p h=>i_ h λnm pn h=>cK h λh F D=>bE h λΨ A=>kN F λqn x qp z1 z2 h=>iq h λy z h=>cK h λu w C=>uF D λr p2 h=>mI h λes kk p3 h=>u6 h λa b c h=>bE h λk E=>iQ k λS T Ω W=>
  kN E λα g β z3 z4 h=>e0 h λq h=>xV h λyy γ N ifs s pc h=>bE h λj h=>cK j λP Q R=>hI h λG H I Φ L=>kG G (i_ H λm pm M=>Z (eq_of_beq M)<|PD _ (eq_of_beq Ψ) A (sj I) ((jK f l).3 _ _ C).2 ((jK f n).1 _ _ Ω) ((jK f o).1 _ _ W) ((jK f tg).5 _ _ Φ) ((jK f _).1 _ _ L) P Q (eq_of_beq R) z1 z2 z3 z4
   (ha1:=λU=>dJ u _ _) (ha2:=λU=>by refine Z (dJ w ..) ?_;rfl) (hb1:=λU=>dJ S _ _) (hb2:=λU=>dJ T _ _))
theorem Qv(g:B.N=cH cs as){y:Y}{l b c tg a:X}(h:hE B.K f np nl (λfd body=>fd.closure.isEmpty&&jf B.K cs as (xH B.K cs as i cap l b c tg a) fd.scope y body)=true)
 {vs:List V}(k:vs.length=np)(q:qw B d (BP B d i cap l b c tg a) y (vs.map some++List.replicate (nl-np) none) m (dY Q)):aP B (d+1) f vs m Q:=fu (oC h) λfd body F n e hs j=>ED F (qY.mp (cC j).1) n (IO g (λxs q=>Kx g q) y _ (cC j).2) vs m Q (k.trans e.symm) (Z (hs vs k) q)
end
def zV:Y:=(dR (.asg mr cY) (.asg ru cY) (.asg (.attr 0 10 aJ) (.int 0)))
def wq:Y:=(dR (.iff (.cmp .Eq ax (.attr 0 10 aJ)) (cT (.expr (.bm 0 mr (aM (.tup (aZ (.str t7) ax))))) (.asg (.attr 0 10 aJ) (.bin .Add ax (.int 1)))) .nil) (.asg aO (.meth 0 407 aJ dD)) (.iff (.cmp .NotIn aO rA) (a6 (.expr (.bm 0 mr (aM (.tup (aZ (.str wJ) aO)))))) .nil))
def F1:Y:=(cT (.asg (.tup (aZ bc bC)) (.blt 6 (aM (.lst (aZ (.meth 0 431 aJ dD) (.meth 0 431 aJ fL)))))) (.expr (.bm 0 mr (aM (.tup (pu (.str w5) bc (.blt 0 (aM (.sub gK bc))) bC (.sub gK bC)))))))
def Fu:Y:=(ro (.iff (.cmp .Gt (.meth 3 171 aJ et) (.glob 20000)) kb .nil) (.iff (.cmp .Eq ax aO) (a6 (.ret (.call 126 (cM jF ax cY)))) .nil) (.asg aW wy) (.iff (.cmp .Eq jD (.str w6)) (a6 (.ret (.tup (cM (.str w2) (.meth 3 176 aJ (aZ ax ny)) (.meth 3 176 aJ (aZ ny aO)))))) .nil) (.iff (.cmp .Eq jD (.str w5)) (cT (.asg bc (.call 121 (aZ jF ny))) (.ret (.ite (.sub aW (.int 2)) (.tup (aZ (.str w7) bc)) bc))) .nil))
abbrev mz:Str:=⟨#[95,95,105,110,105,116,95,95]⟩
abbrev Af:Str:=⟨#[108,111,111,107,95,97,116]⟩
abbrev Ag:Str:=⟨#[106,111,105,110]⟩
abbrev MC:X:=dD
abbrev ME:X:=(.cons ax pe)
def B9(K:Frag)(p:Program):Bool:=
 jS K p 529 1 3 581 581 mz 395 (wV K fe dN mz zV)&&
 jS K p 558 2 5 581 581 Af 424 (λfd body=>jf K fe dN (AN K fe dN Af MC) fd.scope wq body)&&
 jS K p 566 4 10 581 581 Ag 452 (λfd body=>jf K fe dN (AM K fe dN Ag ME) fd.scope F1 body)
abbrev MD:X:=.cons (.meth 1 259 k6 dD) (aM (.meth 1 259 k6 fL))
def Cb(K:Frag):Bool:=hE K 176 3 12 λfd body=>fd.closure.isEmpty&&jf K fe dN (xH K fe dN 5 [none,none,none,some 0] MD (.str ⟨#[117,110,100,101,114]⟩) (.meth 1 252 k6 dD)
 (.tup et) (.meth 3 176 aW et)) fd.scope Fu body
def Ce(K:Frag):Bool:=[(581,529),(295,207),(377,313),(179,140)].all λp=>makesIn K p.1&&findIn K (.ref p.1) "__init__"==some (some (.ref p.2))&&typeIn K (.ref p.2)==some (.type "function")
end
section
variable{op:Nat->Str}{kids:Nat->List Nat}{ed:Nat->Option (Nat×Nat)}{c:Nat->Nat->Option Nat}{w up wait cs hs:List Nat}{a b y x g i j mk:Nat}{p:Nat×Nat}{l:List (Nat×Nat)}{lab:Option Nat}{u:List (List Nat)}
inductive Gr(n:Nat)(op:Nat->Str)(kids:Nat->List Nat):Prop
 |mk(three:3<=n)(leaf:∀i,i<3->kids i=[])(some:∀i,3<=i->i<n->kids i≠[])(low:∀i,i<n->∀k∈kids i,k<3)(two:∀i,(kids i).length<=2)(inj:∀i j,i<n->j<n->op i=op j->kids i=kids j->i=j)
inductive Al(n:Nat)(op:Nat->Str)(kids:Nat->List Nat)(told:Nat->Nat->Prop):Nat->Nat->Prop
 |refl(a:Nat):Al n op kids told a a
 |told{a b:Nat}(h:told a b):Al n op kids told a b
 |back{a b:Nat}(h:told a b):Al n op kids told b a
 |cong{a b:Nat}(ha:a<n)(hb:b<n)(ho:op a=op b)(hl:(kids a).length=(kids b).length)(hk:∀p,p∈(kids a).zip (kids b)->Al n op kids told p.1 p.2):Al n op kids told a b
 |trans{a b c:Nat}(x:Al n op kids told a b)(y:Al n op kids told b c):Al n op kids told a c
inductive eR where
 |edge(i:Nat)(rev:Bool)
 |like
 |over(m:Nat)
def cI(c:Nat->Nat->Option Nat):List (Nat×Nat)->Option Nat
 |[]=>some 0
 |p::r=>match c p.1 p.2,cI c r with
  |some x,some y=>some (x+y)
  |_,_=>none
theorem vM(e:c p.1 p.2=some x)(a:cI c r=some y):cI c (p::r)=some (x+y):=by
 refine(?_:(match c _ _,cI c r with|some x,some y=>some _|_,_=>none)=_)
 exact Z e<|Z a rfl
def md(op:Nat->Str)(kids:Nat->List Nat)(ed:Nat->Option (Nat×Nat))(c:Nat->Nat->Option Nat)(a b x:Nat):eR->Prop
 | .edge i rev=>x=1/\ed i=some (if rev then(b,a)else(a,b))
 | .like=>op a=op b/\(kids a).length=(kids b).length/\∃y,cI c ((kids a).zip (kids b))=some y/\y<=x
 | .over m=>m≠a/\m≠b/\aV λy z=>br (c a m=some y) (c m b=some z) (y+z<=x)
inductive Cs(n:Nat)(op:Nat->Str)(kids:Nat->List Nat)(told:Nat->Nat->Prop)(ed:Nat->Option (Nat×Nat))(c:Nat->Nat->Option Nat)(w:Nat->Nat->Option eR):Prop
 |mk(g:Gr n op kids)(tell:∀a b,told a b->a<n/\b<n)(edt:∀i a b,ed i=some (a,b)->told a b)(dom:∀a b x,c a b=some x->a<n/\b<n)(zero:∀a,a<n->c a a=some 0)(one:∀a b,told a b->(∃x,c a b=some x/\x<=1)/\∃x,c b a=some x/\x<=1)(cong:∀a b y,a<n->b<n->a≠b->Al n op kids told a b->op a=op b->(kids a).length=(kids b).length->cI c ((kids a).zip (kids b))=some y->∃x,c a b=some x/\x<=y)(tri:∀a m b y z,Al n op kids told a m->Al n op kids told m b->c a m=some y->c m b=some z->∃x,c a b=some x/\x<=y+z)(way:∀a b x,a≠b->c a b=some x->1<=x/\∃v,w a b=some v/\md op kids ed c a b x v)
section
variable{n:Nat}{told:Nat->Nat->Prop}{w:Nat->Nat->Option eR}
theorem zO{d e:Type}:∀(l:List d)(r:List e),(l.zip r).map Prod.swap=r.zip l:=by
 intro l
 induction l with
 |nil=>intro r;cases r<;>rfl
 |cons a l c=>intro r;cases r with
  |nil=>rfl
  |cons b r=>refine Z List.zip_cons_cons<|Z eV<|Z (c ..) ?_;rfl
theorem Al.symm(h:Al n op kids told a b):Al n op kids told b a:=by
 induction h with
 |refl a=>exact .refl a
 |told h=>exact .back h
 |back h=>exact .told h
 |@cong a b c d f e _ i=>exact .cong d c f.symm e.symm λp g=>have:(p.2,p.1)∈(kids a).zip _:=Z (zO ..).symm<|bT.mpr (ad p g rfl);i _ this
 |trans _ _ j k=>exact k.trans j
theorem mU{y:Nat}(h:cI c (p::r)=some y):aV λx z=>br (c p.1 p.2=some x) (cI c r=some z) (x+z=y):=by
 have h:(match c _ _,cI c r with|some x,some y=>some _|_,_=>none)=some y:=h
 cases a:c _ _ with
 |none=>rw[a]at h;exact aN h
 |some x=>
  cases b:cI c r with
  |none=>rw[a,b]at h;exact aN h
  |some z=>rw[a,b]at h;exact fX x z rfl rfl (aG h)
theorem qz{y:Nat}(h:cI c l=some y):∀p∈l,∃x,c p.1 p.2=some x/\x<=y:=by
 induction l generalizing y with
 |nil=>intro p a;cases a
 |cons q r g=>
  refine bX (mU h) λx i d f b=>Z b.symm λp a=>?_;clear h b;rcases bK.mp a with rfl|a
  ·exact(ad x d (dq _ _))
  ·exact ac (g f p a) λz e l=>(ad z e (aE l))
theorem EM(h:∀p∈l,∃x,c p.1 p.2=some x):∃y,cI c l=some y:=by
 induction l with
 |nil=>exact⟨0,rfl⟩
 |cons q r d=>exact aI (h q aQ) λx e=>aI (d λp b=>h p (az _ b)) λy a=>⟨x+y,vM e a⟩
def eP(a:Nat):Nat:=if a<3 then 0 else 1
theorem sI(G:Gr n op kids)(d:a<n)(e:b<n)(f:p∈(kids a).zip (kids b)):p.1<3/\p.2<3/\3<=a/\3<=b:=by
 refine a_ (List.of_mem_zip f) λh1 c=>(dm (G.4 a d _ h1) (G.4 b e _ c) ?_ ?_)
 ·refine Nat.not_lt.mp λq=>?_;rw[G.2 a q]at h1;exact bx h1
 ·refine Nat.not_lt.mp λq=>?_;rw[G.2 b q]at c;exact bx c
theorem Cs.al(C:Cs n op kids told ed c w):∀k a b x,2*x+eP a<=k->c a b=some x->Al n op kids told a b:=by
 intro k
 induction k with
 |zero=>
  intro a b x B h
  by_cases e:a=b
  ·exact e▸.refl a
  ·have:=(C.9 a b x e h).1;lia
 |succ k o=>
  intro a b x B h
  by_cases e:a=b
  ·exact e▸.refl a
  ·refine iH (C.9 a b x e h) λp v _ f=>a_ (C.4 a b x h) λs t=>?_
   cases v with
   |edge i r=>
    cases r
    ·exact .told (C.3 i a b f.2)
    ·exact .back (C.3 i b a f.2)
   |like=>obtain⟨g,j,y,d,l⟩:=f;exact .cong s t g j λq u=>ac (qz d q u) λz A G=>iI (sI C.1 s t u) λD I Φ _=>have E:eP _=0:=ao D;have F:eP a=1:=ai (by lia);o _ _ z (by lia) A
   |over m=>obtain⟨g,j,y,z,d,l,H⟩:=f;exact have K:=(C.9 a m y (λq=>g q.symm) d).1;have L:=(C.9 m b z j l).1;have:=(λi=>by unfold eP;split<;>lia:∀i,eP i<=1) m;(o a m y (by lia) d).trans (o m b z (by lia) l)
theorem Cs.of_al(C:Cs n op kids told ed c w)(h:Al n op kids told a b)(d:a<n)(f:b<n):∃x,c a b=some x:=by
 have g:∀a b,Al n op kids told a b->a<n->(b<n/\∃x,c a b=some x):=by
  intro a b h
  induction h with
  |refl a=>intro d;exact⟨d,0,C.5 a d⟩
  |told h=>intro _;exact ac ((C.6 _ _ h).1) λx e _=>⟨(C.2 _ _ h).2,x,e⟩
  |back h=>intro _;exact ac ((C.6 _ _ h).2) λx e _=>⟨(C.2 _ _ h).1,x,e⟩
  |@cong a b d f j i o r=>
   refine λ_=>⟨f,?_⟩
   by_cases e:a=b
   ·exact e▸⟨0,C.5 a d⟩
   ·exact aI (EM λp k=>(r p k (dZ (sI C.1 d f k).1 C.1.1)).2) λy q=>ac (C.7 a b y d f e (.cong d f j i o) j i q) λx e _=>⟨x,e⟩
  |trans x y s t=>exact λd=>qe (s d) λhm u l=>qe (t hm) λf v m=>ac (C.8 _ _ _ _ _ x y l m) λx e _=>⟨f,x,e⟩
 exact(g a b h d).2
theorem Cs.iff(C:Cs n op kids told ed c w)(e:a<n)(f:b<n):(∃x,c a b=some x)↔Al n op kids told a b:=
 ⟨λd=>(by refine aI d λx h=>?_;clear d;exact C.al _ a b x (aT _) h),λh=>C.of_al h e f⟩
theorem Cs.exact_over(C:Cs n op kids told ed c w)(k:c a b=some x)(f:md op kids ed c a b x (.over m)):aV λy z=>gU (c a m=some y) (c m b=some z) (x=y+z) (1<=y) (1<=z):=by obtain⟨h,i,y,z,d,g,j⟩:=f;refine ac (C.8 a m b y z (C.al _ _ _ _ (aT _) d) (C.al _ _ _ _ (aT _) g) d g) λo e l=>?_;rw[k]at e;replace e:=aG e;subst e;exact(sP y z d g (Nat.le_antisymm l j) (C.9 a m y (λq=>h q.symm) d).1 (C.9 m b z i g).1)
theorem Cs.exact_like(C:Cs n op kids told ed c w)(h:a≠b)(k:c a b=some x)(f:md op kids ed c a b x .like):cI c ((kids a).zip (kids b))=some x/\3<=a/\3<=b:=by
 obtain⟨g,d,y,m,o⟩:=f;refine a_ (C.4 a b x k) λi j=>ac (C.7 a b y i j h (C.al _ _ _ _ (aT _) k) g d m) λp e l=>?_;rw[k]at e;replace e:=aG e;subst e;obtain rfl:x=y:=Nat.le_antisymm l o;refine(bt m ?_ ?_)
 ·refine Nat.not_lt.mp λq=>h (C.1.6 a b i j g ?_)
  rw[C.1.2 a q]at d⊢;exact(v8 d.symm).symm
 ·refine Nat.not_lt.mp λq=>h (C.1.6 a b i j g ?_)
  rw[C.1.2 b q]at d⊢;exact v8 d
end
section
variable{n:Nat}{told:Nat->Nat->Prop}{w:Nat->Nat->Option eR}
theorem Ed i:eP i<=1:=by unfold eP;split<;>lia
theorem QB{y:Nat}(h:∀p∈l,∀x,c p.1 p.2=some x->∃a,c p.2 p.1=some a/\a<=x)(e:cI c l=some y):∃b,cI c (l.map Prod.swap)=some b/\b<=y:=by
 induction l generalizing y with
 |nil=>exact(ad y e (aT _))
 |cons q r m=>
  refine bX (mU e) λx z d f g=>ac (h q aQ x d) λa i n=>ac (m (λp k=>h p (az _ k)) f) λs j o=>ad _ ((?_:(match c _ _,cI c _ with|some x,some y=>some _|_,_=>none)=_)) (g▸iU n o)
  exact Z i<|Z j rfl
theorem Cs.sym_le(C:Cs n op kids told ed c w):∀k a b x,2*x+eP a<=k->c a b=some x->∃g,c b a=some g/\g<=x:=by
 intro k
 induction k with
 |zero=>
  intro a b x H h
  by_cases e:a=b
  ·subst e;exact(ad x h (aT _))
  ·have:=(C.9 a b x e h).1;lia
 |succ k t=>
  intro a b x H h
  by_cases e:a=b
  ·subst e;exact(ad x h (aT _))
  ·refine iH (C.9 a b x e h) λp v _ f=>?_
   cases v with
   |edge i u=>
    obtain⟨G,f⟩:=f;refine Z G ?_
    cases u
    ·exact(C.6 a b (C.3 i a b f)).2
    ·exact(C.6 b a (C.3 i b a f)).1
   |like=>
    refine gv (C.exact_like e h f) λj s B=>?_
    have⟨A,d,l⟩:=QB (λq D z hz=>by refine ac (qz j q D) λF d r=>?_;rw[hz]at d;replace d:=aG d;subst d;exact have o:=sI C.1 (C.4 a b x h).1 (C.4 a b x h).2 D;have I:eP _=0:=ao o.1;have Φ:eP a=1:=ai ux;t _ _ z (by lia) hz) j
    rw[zO]at d;exact ac (C.7 b a A (C.4 a b x h).2 (C.4 a b x h).1 (λq=>e q.symm) (C.al _ _ _ _ (aT _) h).symm f.1.symm f.2.1.symm d) λg r E=>(ad g r (aC E l))
   |over m=>exact fu (C.exact_over h f) λy z d r K O E=>have:=Ed m;ac (t a m y (by lia) d) λA j L=>ac (t m b z (by lia) r) λF s M=>ac (C.8 b m a F A (C.al _ _ _ _ (aT _) s) (C.al _ _ _ _ (aT _) j) s j) λg B N=>(ad g B (by lia))
theorem Cs.sym(C:Cs n op kids told ed c w)(h:c a b=some x):c b a=some x:=by refine ac (C.sym_le _ a b x (aT _) h) λg e l=>ac (C.sym_le _ b a g (aT _) e) λx2 d f=>?_;rw[h]at d;replace d:=aG d;subst d;refine Z e ?_;congr 1;exact Nat.le_antisymm l f
theorem QA(i:l.length<=2)(h:cI c l=some x)(g:1<=x):
 (∃p∈l,c p.1 p.2=some x)\/∃p∈l,∃q∈l,aV λy z=>gU (c p.1 p.2=some y) (c q.1 q.2=some z) (x=y+z) (1<=y) (1<=z):=by
 have a:∀{p:Nat×Nat}{z},cI c [p]=some z->c _ _=some z:=λh=>by refine bX (mU h) λy z d e b=>Z d<|Z b.symm<|Z (aG e).symm ?_;rfl
 cases l with
 |nil=>rw[<-aG h]at g;exact absurd g (Nat.not_succ_le_zero 0)
 |cons p r=>
  cases r with
  |nil=>exact .inl (ad p aQ (a h))
  |cons q r=>
   cases r with
   |cons s r=>exact absurd i (by simp)
   |nil=>
    refine bX (mU h) λy z d e b=>?_;have f:q∈[p,q]:=az _ aQ
    cases y with
    |zero=>exact .inl (ad q f (Z (a e)<|Z b.symm<|Z (Nat.zero_add ..) rfl))
    |succ y=>
     cases z with
     |zero=>exact .inl (ad p aQ (b▸d))
     |succ z=>exact .inr ⟨p,aQ,q,f,y+1,z+1,d,(a e),b.symm,lV y,lV z⟩
theorem Cs.half(C:Cs n op kids told ed c w):∀k a b x,2*x+eP a<=k->c a b=some x->1<x->cL λi j y=>br (c i j=some y) (y<x) (x<=2*y):=by
 intro k
 induction k with
 |zero=>intro a b x u h s;lia
 |succ k F=>
  intro a b x u h s
  have e:a≠b:=λe=>by subst e;rw[C.5 a (C.4 a a x h).1]at h;replace h:=aG h;subst h;exact uO s
  refine iH (C.9 a b x e h) λp v _ f=>?_
  cases v with
  |edge i G=>
   refine a_ f λH f=>?_
   lia
  |like=>
   have E:((kids a).zip (kids b)).length<=2:=by refine Z eW ?_;have:=C.1.5 a;exact xB
   rcases QA E (C.exact_like e h f).1 p with⟨q,A,g⟩|⟨q,A,r,I,y,z,g,o,d,l,t⟩
   ·exact iI (sI C.1 (C.4 a b x h).1 (C.4 a b x h).2 A) λl _ _ _=>have B:eP _=0:=ao l;have D:eP a=1:=ai ux;F _ _ x (dL u (aA B) (aA D.symm)) g s
   ·by_cases J:y<=z
    ·exact⟨_,_,z,o,aK (aA d.symm) l,aK (aA d) J⟩
    ·exact⟨_,_,y,g,aK (aA d.symm) t,aK (aA d) (Nat.lt_of_not_le J)⟩
  |over m=>
   refine fu (C.exact_over h f) λy z g o d l t=>?_
   by_cases J:y<=z
   ·exact⟨_,_,z,o,aK (aA d.symm) l,aK (aA d) J⟩
   ·exact⟨_,_,y,g,aK (aA d.symm) t,aK (aA d) (Nat.lt_of_not_le J)⟩
theorem te{i:Type}{f g:i->Bool}{l:List i}(h:∀x∈l,f x=true->g x=true){a:i}(c:a∈l)(h1:f a=false)(j:g a=true):l.countP f+1<=l.countP g:=by
 induction l with
 |nil=>cases c
 |cons b r k=>
  refine Z List.countP_cons<|Z List.countP_cons ?_;rcases bK.mp c with rfl|c
  ·have:=(λl h=>List.countP_mono_left h) r λx d=>h x (az _ d)
   refine Z h1<|Z j ?_;simp;exact this
  ·have:=k (λx d=>h x (az _ d)) c
   cases e:f b with
   |false=>cases g b<;>simp<;>lia
   |true=>refine Z ((h b aQ) e) ?_;simp;exact this
def nY(n:Nat):List (Nat×Nat):=(List.range n).flatMap λj=>(List.range j).map λi=>(i,j)
theorem CD(h1:i<j)(a:j<n):(i,j)∈nY n:=List.mem_flatMap.mpr (ad j (gG.mpr a) (bT.mpr (ad i (gG.mpr h1) rfl)))
def under(c:Nat->Nat->Option Nat)(x:Nat)(p:Nat×Nat):Bool:=match c p.1 p.2 with
 |some y=>decide (y<x)
 |none=>false
theorem wN(h:c p.1 p.2=some y):under c x p=decide (y<x):=by unfold under;exact Z h rfl
theorem Cs.listed(C:Cs n op kids told ed c w)(h:c a b=some x)(e:a≠b):∃p∈nY n,c p.1 p.2=some x:=by
 by_cases l:a<b
 ·exact(ad _ (CD l (C.4 a b x h).2) h)
 ·exact(ad _ (CD (by lia) (C.4 a b x h).1) (C.sym h))
theorem Cs.pow(C:Cs n op kids told ed c w):∀k a b x,x<=k->c a b=some x->1<=x->x<=2^(nY n).countP (under c x):=by
 intro k
 induction k with
 |zero=>intro a b x r _ _;lia
 |succ k v=>
  intro a b x r h u
  by_cases h1:x=1
  ·exact Z h1 Nat.one_le_two_pow
  ·refine g_ (C.half _ a b x (aT _) h (Cl u h1)) λi j y d l s=>?_
   have:=v i j y (aK r l) d (by lia)
   have z:i≠j:=λq=>by subst q;rw[C.5 i (C.4 i i y d).1]at d;replace d:=aG d;lia
   refine ac (C.listed d z) λp t o=>?_
   have m:=te (f:=under c y) (g:=under c x) (λq _ e=>by
    unfold under at e⊢
    split at e
    ·exact fc (Nat.lt_trans (kt e) l)
    ·exact aR e) t (Z (wN o)<|gE (jY _)) (Z (wN o)<|fc l)
   calc x<=2*y:=s
    _<=2*2^(nY n).countP _:=Nat.mul_le_mul_left 2 this
    _=2^((nY n).countP _+1):=Z (Nat.pow_succ ..)<|Z (Nat.mul_comm ..) rfl
    _<=2^(nY n).countP _:=tz (fF rfl) m
theorem Cs.bound(C:Cs n op kids told ed c w)(j:n<=6)(h:c a b=some x):x<=16384:=by
 by_cases e:a=b
 ·subst e;rw[C.5 a (C.4 a a x h).1]at h;replace h:=aG h;subst h;exact af
 ·refine ac (C.listed h e) λp i d=>?_
  have g:(nY n).countP (λ_=>true)<=15:=by have:n=0\/n=1\/n=2\/n=3\/n=4\/n=5\/n=6:=q8;rcases this with rfl|rfl|rfl|rfl|rfl|rfl|rfl<;>decide
  calc x<=_:=(C.pow _ a b x (aT _) h (C.9 a b x e h).1)
   _<=2^14:=tz (fF rfl) (aK (te (f:=under c x) (λ_ _ _=>rfl) i (Z (wN d)<|gE (jY _)) rfl) g)
   _=16384:=rfl
end
section
variable{n:Nat}{told:Nat->Nat->Prop}{w:Nat->Nat->Option eR}
def jh(n:Nat):List (Nat×Nat):=(List.range n).flatMap λi=>(List.range n).map λj=>(i,j)
theorem uS(h1:i<n)(a:j<n):(i,j)∈jh n:=List.mem_flatMap.mpr ⟨i,gG.mpr h1,bT.mpr (ad j (gG.mpr a) rfl)⟩
def ms(c:Nat->Nat->Option Nat)(k:Nat)(p:Nat×Nat):Bool:=match c p.1 p.2 with
 |some y=>decide (2*y+eP p.1<k)
 |none=>false
def rk(n:Nat)(c:Nat->Nat->Option Nat)(a x:Nat):Nat:=(jh n).countP (ms c (2*x+eP a))
theorem Jr(b:n<=6) a x:rk n c a x<=36:=by refine aC List.countP_le_length ?_;have:n=0\/n=1\/n=2\/n=3\/n=4\/n=5\/n=6:=q8;rcases this with rfl|rfl|rfl|rfl|rfl|rfl|rfl<;>decide
theorem Bu{a b x i j y:Nat}(f:i<n)(g:j<n)(h:c i j=some y)(e:2*y+eP i<2*x+eP a):rk n c i y<rk n c a x:=by
 refine te (λp _ d=>?_) (uS f g) ?_ ?_
 ·unfold ms at d⊢
  split at d
  ·exact fc (Nat.lt_trans (kt d) e)
  ·exact aR d
 ·unfold ms;exact Z h<|gE (jY _)
 ·unfold ms;exact Z h<|fc e
variable{β:Type}{T:Nat->β}{mk:Str->List β->β}
inductive iS(n:Nat)(op:Nat->Str)(kids:Nat->List Nat)(T:Nat->β)(mk:Str->List β->β):Prop
 |mk(eq:∀a,a<n->T a=mk (op a) ((kids a).map T))(inj:∀o l o' l',mk o l=mk o' l'->o=o'/\l=l')
theorem iS.leaf(M:iS n op kids T mk)(G:Gr n op kids)(d:a<3)(f:b<n)(h:T a=T b):a=b:=by have c:=dZ d G.1;rw[M.1 a c,M.1 b f]at h;refine a_ (M.2 _ _ _ _ h) λh1 e=>?_;rw[G.2 a d]at e;exact G.6 a b c f h1 (Z (G.2 a d)<|(List.map_eq_nil_iff.mp e.symm).symm)
theorem iS.map_inj(M:iS n op kids T mk)(G:Gr n op kids):∀{l r:List Nat},(∀k∈l,k<3)->(∀k∈r,k<n)->l.map T=r.map T->l=r:=by
 intro l
 induction l with
 |nil=>intro r _ _ h;cases r with
  |nil=>rfl
  |cons b r=>exact mN h
 |cons a l g=>
  intro r h1 d h
  cases r with
  |nil=>exact qg h
  |cons b r=>exact a_ (gH h) λe f=>Z (M.leaf G (h1 a aQ) (d b aQ) e)<|Z (g (λk c=>h1 k (az _ c)) (λk c=>d k (az _ c)) f) rfl
theorem iS.node(M:iS n op kids T mk)(G:Gr n op kids)(c:a<n)(d:b<n)(h:T a=T b):a=b:=by rw[M.1 a c,M.1 b d]at h;exact G.6 a b c d (M.2 _ _ _ _ h).1 (M.map_inj G (G.4 a c) (λk e=>dZ (G.4 b d k e) G.1) (M.2 _ _ _ _ h).2)
def Tl(told:Nat->Nat->Prop)(a b:Nat):Prop:=told a b\/told b a
theorem Tl.symm(h:Tl told a b):Tl told b a:=h.elim .inr .inl
def mZ(op:Nat->Str)(kids:Nat->List Nat)(told:Nat->Nat->Prop)(T:Nat->β)(mk:Str->List β->β)(a:Nat)(t:β):Prop:=
 (∃b,Tl told a b/\t=T b)\/cL λk x r=>br ((kids a)[k]?=some x) (Tl told x r) (t=mk (op a) (((kids a).map T).set k (T r)))
theorem Cs.tl(C:Cs n op kids told ed c w)(h:Tl told a b):a<n/\b<n/\∃x,c a b=some x/\x<=1:=by
 rcases h with h|h
 ·exact⟨(C.2 _ _ h).1,(C.2 _ _ h).2,(C.6 _ _ h).1⟩
 ·exact⟨(C.2 _ _ h).2,(C.2 _ _ h).1,(C.6 _ _ h).2⟩
theorem Tl.al(h:Tl told a b):Al n op kids told a b:=h.elim .told .back
theorem Cs.leaf_one(C:Cs n op kids told ed c w){a b:Nat}(j:a<3)(h:c a b=some 1):Tl told a b:=by
 refine a_ (C.4 a b 1 h) λd k=>?_;have e:a≠b:=λe=>by clear j k;subst e;rw[C.5 a d]at h;exact oq id h rfl
 refine iH (C.9 a b 1 e h) λ_ v _ f=>?_
 cases v with
 |edge i g=>
  have f:=f.2
  cases g
  ·exact .inl (C.3 i a b f)
  ·exact .inr (C.3 i b a f)
 |like=>have:=(C.exact_like e h f).2.1;lia
 |over m=>refine fu (C.exact_over h f) λy z _ _ l o p=>?_;lia
theorem Gr.two_cases(G:Gr n op kids)(d:a<n)(c:3<=a):(∃x,kids a=[x])\/aV λx y=>kids a=[x,y]:=by
 have b:=G.5 a
 match e:kids a with
 |[]=>exact absurd e (G.3 a c d)
 |[x]=>exact .inl ⟨x,rfl⟩
 |[x,y]=>exact .inr ⟨x,y,rfl⟩
 |_::_::_::_=>rw[e]at b;simp at b
theorem Cs.eq_of_zero(C:Cs n op kids told ed c w)(h:c a b=some 0):a=b:=by
 by_cases e:a=b
 ·exact e
 ·have:=(C.9 a b 0 e h).1;trivial
end
section
variable{n:Nat}{told:Nat->Nat->Prop}{w:Nat->Nat->Option eR}
variable{β:Type}{T:Nat->β}{mk:Str->List β->β}
theorem Cs.cong2(C:Cs n op kids told ed c w)(d:a<n)(f:b<n)(e:a≠b)(i:op a=op b)(g:(kids a).length=(kids b).length)(h:cI c ((kids a).zip (kids b))=some y):∃x,c a b=some x/\x<=y:=
 C.7 a b y d f e (.cong d f i g λp j=>ac (qz h p j) λx e _=>C.al _ _ _ _ (aT _) e) i g h
theorem zo(h:c p.1 p.2=some x):cI c [p]=some x:=vM (y:=0) h rfl
theorem qA(h:c p.1 p.2=some x)(a:c q.1 q.2=some y):cI c [p,q]=some (x+y):=vM h (zo a)
theorem vN(h:cI c [p]=some x):c p.1 p.2=some x:=by refine bX (mU h) λy z a b d=>Z a<|Z d.symm<|Z (aG b).symm ?_;rfl
theorem zn(h:cI c [p,q]=some x):aV λy z=>br (c p.1 p.2=some y) (c q.1 q.2=some z) (x=y+z):=bX (mU h) λy z a b d=>fX y z a (vN b) d.symm
theorem iS.lists(M:iS n op kids T mk)(G:Gr n op kids):∀{l r:List Nat},(∀k∈l,k<n)->(∀k∈r,k<n)->l.map T=r.map T->l=r:=by
 intro l
 induction l with
 |nil=>intro r _ _ h;cases r with|nil=>rfl|cons b r=>exact mN h
 |cons a l e=>
  intro r h1 d h
  cases r with
  |nil=>exact qg h
  |cons b r=>exact have h:=gH h;Z (M.node G (h1 a aQ) (d b aQ) h.1)<|Z (e (λk c=>h1 k (az _ c)) (λk c=>d k (az _ c)) h.2) rfl
theorem u_(G:Gr n op kids)(b:a<n):∀k∈kids a,k<n:=λk c=>dZ (G.4 a b k c) G.1
theorem u9(G:Gr n op kids){a k x:Nat}(h:(kids a)[k]?=some x):3<=a:=Nat.not_lt.mp λq=>by rw[G.2 a q]at h;exact aN h
theorem xg(G:Gr n op kids)(b:a<n)(d:r<n):∀j∈(kids a).set k r,j<n:=λj c=>by
 rcases List.mem_or_eq_of_mem_set c with h|h
 ·exact u_ G b j h
 ·exact aK d (aA h)
theorem vo{p x k:Nat}(h:[p][k]?=some x):k=0/\p=x:=by
 cases k with
 |zero=>exact⟨rfl,aG h⟩
 |succ k=>exact aN h
theorem DW{p q x k:Nat}(h:[p,q][k]?=some x):k=0/\p=x\/k=1/\q=x:=by
 cases k with
 |zero=>exact .inl ⟨rfl,aG h⟩
 |succ k=>exact .inr ⟨bg _ (vo h).1,(vo h).2⟩
theorem Cs.meet(C:Cs n op kids told ed c w)(I:a<n)(Φ:b<n)(e:a≠b)(O:op a=op b)(h1:(kids a)[k]?=some x)(v:(kids b)[P]?=some L)(D:Tl told x r)(E:Tl told L R)
 (f:(kids a).set k r=(kids b).set P R)(M:c a b=some z):z<=2:=by
 have F:=by simpa using(bg List.length f)
 have l:∀{i},i∈kids a->c i i=some 0:=λN=>C.5 _ (u_ C.1 I _ N);have G:∃y,cI c ((kids a).zip (kids b))=some y/\y<=2:=by
  rcases C.1.two_cases I (u9 C.1 h1)with⟨p,s⟩|⟨p,q,s⟩
  ·rcases C.1.two_cases Φ (u9 C.1 v)with⟨K,t⟩|⟨K,Q,t⟩
   ·rw[s]at h1 f⊢
    rw[t]at v f⊢;refine a_ (vo h1) λm o=>?_;clear h1;subst m;refine Z o<|a_ (vo v) λm o=>?_;clear v;subst m;refine Z o ?_;replace f:=(gH f).1;subst f;exact ac ((C.tl D).2.2) λS g h=>ac ((C.tl E.symm).2.2) λT d j=>ac (C.8 _ _ _ _ _ D.al E.symm.al g d) λy A H=>(ad y (zo A) (dL h j H))
   ·rw[s,t]at F;exact kk id F rfl
  ·rcases C.1.two_cases Φ (u9 C.1 v)with⟨K,t⟩|⟨K,Q,t⟩
   ·rw[s,t]at F;exact kk id F rfl
   ·rw[s]at h1 f⊢
    rw[t]at v f⊢;refine ac ((C.tl D).2.2) λS g h=>ac ((C.tl E.symm).2.2) λT d j=>?_;rcases DW h1 with⟨rfl,rfl⟩|⟨rfl,rfl⟩<;>rcases DW v with⟨rfl,rfl⟩|⟨rfl,rfl⟩<;>have⟨B,u⟩:=(λe=>gH e) f<;>have⟨u,_⟩:=(λe=>gH e) u
    ·obtain⟨y,A,H⟩:=C.8 _ _ _ _ _ D.al (B▸E.symm.al) g (B▸d)
     exact(ad (y+0) (qA A (u▸(l (i:=q) (Z s<| .tail _ (.head _))))) (dL h j H))
    ·exact(ad _ (qA (B▸g) (u▸d)) (aK h j))
    ·exact(ad _ (qA (B▸d) (u▸g)) (aK h j))
    ·exact ac (C.8 _ _ _ _ _ D.al (u▸E.symm.al) g (u▸d)) λy A H=>(ad (0+y) (qA (B▸(l (i:=p) (by refine Z s ?_;simp))) A) (dL h j H))
 refine ac G λy g h=>?_;clear G;refine ac (C.cong2 I Φ e O F g) λL d j=>?_;rw[M]at d;replace d:=aG d;exact Z d<|aC j h
theorem Cs.near_cost(C:Cs n op kids told ed c w)(M:iS n op kids T mk)(g:a<n)(m:b<n)(h:mZ op kids told T mk a (T b)):∃x,c a b=some x/\x<=1:=by
 rcases h with⟨I,h1,l⟩|⟨k,x,r,h1,l,t⟩
 ·obtain rfl:=M.node C.1 m (C.tl h1).2.1 l
  exact(C.tl h1).2.2
 ·by_cases e:a=b
  ·exact Z e.symm<|(ad 0 (C.5 a g) af)
  ·rw[M.1 b m]at t
   refine a_ (M.2 _ _ _ _ t) λD u=>?_;rw[<-List.map_set]at u;have v:=M.lists C.1 (u_ C.1 m) (xg C.1 g (C.tl l).2.1) u;refine ac ((C.tl l).2.2) λy o s=>?_;have d:∀{i},i∈kids a->c i i=some 0:=λE=>C.5 _ (u_ C.1 g _ E);have j:∃z,cI c ((kids a).zip (kids b))=some z/\z<=1:=by
    refine Z v ?_;rcases C.1.two_cases g (u9 C.1 h1)with⟨p,f⟩|⟨p,q,f⟩
    ·rw[f]at h1⊢
     match k,h1 with
     |0,h1=>replace h1:=aG h1;exact Z h1<|(ad y (zo o) s)
    ·rw[f]at h1⊢
     match k,h1 with
     |0,h1=>replace h1:=aG h1;exact Z h1<|(ad _ (qA o (d (i:=q) (Z f<| .tail _ (.head _)))) s)
     |1,h1=>replace h1:=aG h1;exact Z h1<|(ad _ (qA (d (i:=p) (by refine Z f ?_;simp)) o) (jN s))
   refine ac j λz A F=>?_;clear j;refine ac (C.cong2 g m e D.symm (by refine Z v ?_;simp) A) λH B G=>?_
   exact(ad H B (aC G F))
theorem Cs.cost_near(C:Cs n op kids told ed c w)(M:iS n op kids T mk){a b:Nat}(h:c a b=some 1):mZ op kids told T mk a (T b):=by
 refine a_ (C.4 a b 1 h) λo r=>?_;have e:a≠b:=λe=>by subst e;rw[C.5 a o]at h;exact oq id h rfl
 refine iH (C.9 a b 1 e h) λ_ v _ f=>?_
 cases v with
 |edge i A=>
  cases A
  ·exact .inl ⟨b,.inl (C.3 i a b f.2),rfl⟩
  ·exact .inl ⟨b,.inr (C.3 i b a f.2),rfl⟩
 |over m=>refine fu (C.exact_over h f) λy z _ _ G H I=>?_;lia
 |like=>
  refine gv (C.exact_like e h f) λj t s=>gv f λu k _=>?_;clear f;rcases C.1.two_cases o t with⟨p,d⟩|⟨p,q,d⟩
  ·rcases C.1.two_cases r s with⟨l,g⟩|⟨l,x,g⟩
   ·rw[d,g]at j
    exact have:=C.leaf_one (C.1.4 a o p (Z d<| .head _)) (vN j);.inr (dk 0 p l (by refine Z d ?_;rfl) this (by refine Z (M.1 b r)<|Z d<|Z g<|Z u ?_;rfl))
   ·rw[d,g]at k;exact kk id k rfl
  ·rcases C.1.two_cases r s with⟨l,g⟩|⟨l,x,g⟩
   ·rw[d,g]at k;exact kk id k rfl
   ·rw[d,g]at j
    refine bX (zn j) λy z B D E=>?_
    by_cases F:y=0
    ·clear h e t s k j;subst F
     obtain rfl:z=1:=ij E.symm;have:=C.leaf_one (C.1.4 a o q (Z d<| .tail _ (.head _))) D;obtain rfl:p=l:=C.eq_of_zero B;exact .inr (dk 1 q x (by refine Z d ?_;rfl) this (by refine Z (M.1 b r)<|Z d<|Z g<|Z u ?_;rfl))
    ·obtain rfl:z=0:=by lia
     clear h e t s k j F;obtain rfl:y=1:=E.symm;have:=C.leaf_one (C.1.4 a o p (Z d<| .head _)) B;obtain rfl:q=x:=C.eq_of_zero D;exact .inr (dk 0 p l (by refine Z d ?_;rfl) this (by refine Z (M.1 b r)<|Z d<|Z g<|Z u ?_;rfl))
theorem Cs.far_cost(C:Cs n op kids told ed c w)(M:iS n op kids T mk)(h:c a b=some z)(h1:mZ op kids told T mk a t)(E:mZ op kids told T mk b t):z<=2:=by
 refine a_ (C.4 a b z h) λv D=>?_
 have j:∀m l o,c a m=some l->c b m=some o->l<=1->o<=1->z<=2:=λm l o f d p s=>by refine ac (C.8 a m b _ _ (C.al _ _ _ _ (aT _) f) (C.al _ _ _ _ (aT _) (C.sym d)) f (C.sym d)) λx u G=>?_;rw[h]at u;replace u:=aG u;exact Z u<|dL p s G
 have g:∀{i m},Tl _ i m->∃y,c i m=some y/\y<=1:=λq=>(C.tl q).2.2;rcases h1 with⟨m,q1,q2⟩|⟨k,x,r,q1,q2,q3⟩
 ·exact ac (g q1) λl f p=>ac (C.near_cost M D (C.tl q1).2.1 (q2▸E)) λo d s=>j m l o f d p s
 ·rcases E with⟨m,A,B⟩|⟨H,Φ,I,A,B,F⟩
  ·exact ac (g A) λo d s=>ac (C.near_cost M v (C.tl A).2.1 (.inr (dk k x r q1 q2 (B▸q3)))) λl f p=>j m l o f d p s
  ·rw[F]at q3
   refine a_ (M.2 _ _ _ _ q3) λf d=>?_
   by_cases e:a=b
   ·clear j g q3 F;subst e;rw[C.5 a v]at h;replace h:=aG h;subst h;exact af
   ·rw[<-List.map_set,<-List.map_set]at d
    exact C.meet v D e f.symm q1 A q2 B (M.lists C.1 (xg C.1 D (C.tl B).2.1) (xg C.1 v (C.tl q2).2.1) d).symm h
theorem Cs.leaf_two(C:Cs n op kids told ed c w)(q:a<3)(r:b<3)(h:c a b=some 2):∃m,Tl told a m/\Tl told b m:=by
 refine a_ (C.4 a b 2 h) λd g=>?_;have e:a≠b:=λe=>by clear g;subst e;rw[C.5 a d]at h;exact oq id h rfl
 refine iH (C.9 a b 2 e h) λ_ v _ f=>?_
 cases v with
 |edge i s=>exact nomatch f.1
 |like=>have:=(C.exact_like e h f).2.1;lia
 |over m=>
  refine fu (C.exact_over h f) λy z j k l o p=>?_;obtain rfl:y=1:=by lia
  clear h d g e f p o;obtain rfl:z=1:=ij l.symm;exact(ad m (C.leaf_one q j) (C.leaf_one r (C.sym k)))
theorem Cs.cost_far(C:Cs n op kids told ed c w)(M:iS n op kids T mk){a b:Nat}(h:c a b=some 2):∃t,mZ op kids told T mk a t/\mZ op kids told T mk b t:=by
 refine a_ (C.4 a b 2 h) λk u=>?_;have e:a≠b:=λe=>by subst e;rw[C.5 a k]at h;exact oq id h rfl
 refine iH (C.9 a b 2 e h) λ_ v _ f=>?_
 cases v with
 |edge i K=>exact nomatch f.1
 |over m=>
  refine fu (C.exact_over h f) λy z l o Φ L N=>?_;obtain rfl:y=1:=by lia
  obtain rfl:z=1:=ij Φ.symm;exact(ad _ (C.cost_near M l) (C.cost_near M (C.sym o)))
 |like=>
  obtain⟨r,F,D⟩:=C.exact_like e h f;refine gv f λB s _=>?_;clear f;rcases C.1.two_cases k F with⟨p,g⟩|⟨p,q,g⟩
  ·rcases C.1.two_cases u D with⟨j,d⟩|⟨j,A,d⟩
   ·rw[g,d]at r
    exact ac (C.leaf_two (C.1.4 a k p (Z g<| .head _)) (C.1.4 b u j (Z d<| .head _)) (vN r)) λm m1 x=>(ad (mk _ [T m]) (.inr (dk 0 p m (by refine Z g ?_;rfl) m1 (by refine Z g ?_;rfl))) (.inr (dk 0 j m (by refine Z d ?_;rfl) x (by refine Z d<|Z B ?_;rfl))))
   ·rw[g,d]at s;exact kk id s rfl
  ·rcases C.1.two_cases u D with⟨j,d⟩|⟨j,A,d⟩
   ·rw[g,d]at s;exact kk id s rfl
   ·rw[g,d]at r
    have G:=C.1.4 a k p (Z g<| .head _);have H:=C.1.4 a k q (Z g<| .tail _ (.head _));have E:=C.1.4 b u j (by refine Z d ?_;simp)
    refine bX (zn r) λy z l o I=>?_;have:y=0/\z=2\/y=2/\z=0\/y=1/\z=1:=J8;clear M h k e F D s r I;rcases this with⟨rfl,rfl⟩|⟨rfl,rfl⟩|⟨rfl,rfl⟩
    ·refine ac (C.leaf_two H (C.1.4 b u A (Z d<| .tail _ (.head _))) o) λm m1 x=>?_
     obtain rfl:p=j:=C.eq_of_zero l;exact(ad _ (.inr (dk 1 q m (by refine Z g ?_;rfl) m1 (by refine Z g ?_;rfl))) (.inr (dk 1 A m (by refine Z d ?_;rfl) x (by refine Z d<|Z B ?_;rfl))))
    ·refine ac (C.leaf_two G E l) λm m1 x=>?_
     obtain rfl:q=A:=C.eq_of_zero o;exact(ad _ (.inr (dk 0 p m (by refine Z g ?_;rfl) m1 (by refine Z g ?_;rfl))) (.inr (dk 0 j m (by refine Z d ?_;rfl) x (by refine Z d<|Z B ?_;rfl))))
    ·exact(ad _ (.inr (dk 0 p j (by refine Z g ?_;rfl) (C.leaf_one G l) (by refine Z g ?_;rfl))) (.inr (dk 1 A q (by refine Z d ?_;rfl) (C.leaf_one H o).symm (by refine Z d<|Z B ?_;rfl))))
end
def kj(up:List Nat):Nat->Nat->Nat
 |0,a=>a
 |f+1,a=>match up[a]? with
  |some b=>if b=a then a else kj up f b
  |none=>a
def bi(up:List Nat)(a:Nat):Nat:=kj up (a+1) a
def dr(up:List Nat):Prop:=∀(i b:Nat),up[i]?=some b->b<=i
theorem Jp(d:dr up):∀f a,a<f->kj up (f+1) a=kj up f a:=by
 intro f
 induction f with
 |zero=>exact@λa h=>by lia
 |succ f c=>
  refine λa h=>(?_:(match up[a]? with|some b=>if b=a then a else kj up _ b|none=>a)=(match up[a]? with|some b=>if b=a then a else kj up f b|none=>a))
  cases e:up[a]? with
  |none=>rfl
  |some b=>
   dsimp only
   by_cases q:b=a
   ·exact Z (ao q)<|Z (ao q) rfl
   ·exact Z (ai q)<|Z (ai q)<|have:=d a b e;c b (by lia)
theorem Jq(c:dr up):∀f a,a<f->kj up f a=bi up a:=λf a h=>by
 obtain⟨k,rfl⟩:∃k,f=a+1+k:=⟨f-(a+1),JO⟩
 induction k with
 |zero=>rfl
 |succ k b=>exact Z (Jp c _ _ (dq _ _))<|Z (b (dq _ _)) rfl
theorem mE(c:dr up)(h:up[a]?=some b):bi up a=if b=a then a else bi up b:=by
 refine(?_:(match up[a]? with|some b=>if b=a then a else kj up a b|none=>a)=_)
 refine Z h ?_;dsimp only
 by_cases q:b=a
 ·exact Z (ao q)<|Z (ao q) rfl
 ·exact Z (ai q)<|Z (ai q)<|Jq c a b (iT (c a b h) q)
theorem pN(h:up[a]?=some a):bi up a=a:=by
 refine(?_:(match up[a]? with|some b=>if b=a then a else kj up a b|none=>a)=_)
 exact Z h<|ao rfl
theorem lq(c:dr up):∀a,bi up a<=a:=by
 intro a
 induction a using Nat.strongRecOn with
 |_ a d=>
  cases e:up[a]? with
  |none=>exact aA (by refine(?_:(match up[a]? with|some b=>if b=a then a else kj up a b|none=>a)=_);exact Z e rfl)
  |some b=>
   refine Z (mE c e) ?_;have:=c a b e
   split
   ·exact aT _
   ·exact aC (d b ur) this
theorem g6(b:dr up)(c:a<up.length):up[bi up a]?=some (bi up a):=by
 induction a using Nat.strongRecOn with
 |_ a d=>
  have e:=bJ c;have l:=b a _ e;refine Z (mE b e) ?_
  split
  ·rename_i q;rw[q]at e;exact e
  ·exact d _ ur ut
theorem yo(c:dr up)(h:k<=g):dr (up.set g k):=λi b e=>by
 rw[l8]at e;refine jc e (λq e=>?_) (λa e=>?_)
 ·refine jc e (λa e=>?_) (λa e=>?_)
  ·replace e:=aG e;subst e;exact aC h (aA q)
  ·cases e
 ·exact c i b e
theorem um(b:dr up)(f:up[g]?=some g)(i:up[k]?=some k)(h:k<g):∀a,a<up.length->bi (up.set g k) a=if bi up a=g then k else bi up a:=by
 intro a
 induction a using Nat.strongRecOn with
 |_ a j=>
  intro d
  by_cases e:a=g
  ·subst e
   refine Z (mE (yo b (eU h)) (kR d)) ?_;exact Z (pN f)<|Z (ao rfl)<|Z (ai (bI h))<|pN (by refine Z (d6 (hL h)) ?_;exact i)
  ·have c:=bJ d
   have l:=b a _ c;refine Z (mE (yo b (eU h)) (by refine Z (d6 (λq=>e q.symm)) ?_;exact c)) ?_;refine Z (mE b c) ?_
   by_cases q:up[a]=a
   ·exact Z (ao q)<|Z (ao q)<|Z (ai e) rfl
   ·exact Z (ai q)<|Z (ai q)<|j _ ur ut
theorem sE(a:dr up):dr (up++[up.length]):=λi b e=>by
 rw[List.getElem?_append]at e;refine jc e (λc e=>?_) (λc e=>?_)
 ·exact a i b e
 ·have:i-up.length=0:=by
   refine Decidable.byContradiction λq=>?_;rw[ju (by simp;exact JU)]at e;cases e
  rw[this]at e;replace e:=aG e;subst e;exact JT
theorem xr(d:dr up)(c:dr (up++[x])):∀a,a<up.length->bi (up++[x]) a=bi up a:=by
 intro a
 induction a using Nat.strongRecOn with
 |_ a e=>
  intro b;have l:=d a _ (bJ b);refine Z (mE c (by refine Z (cu b) ?_;exact(bJ b))) ?_;refine Z (mE d (bJ b)) ?_
  split
  ·rfl
  ·exact e _ ur ut
def bf(nodes:List (Str×List Nat))(i:Nat):Str:=match nodes[i]? with
 |some p=>p.1
 |none=>⟨#[]⟩
def aH(nodes:List (Str×List Nat))(i:Nat):List Nat:=match nodes[i]? with
 |some p=>p.2
 |none=>[]
def ay(l:List (List Nat))(i:Nat):List Nat:=match l[i]? with
 |some x=>x
 |none=>[]
def fm(ed:List (Nat×Nat×Option Nat))(a b:Nat):Prop:=∃l,(a,b,some l)∈ed
structure PS where
 nodes:List (Str×List Nat)
 up:List Nat
 lot:List (List Nat)
 use:List (List Nat)
 mg:List (Nat×Nat)
 ed:List (Nat×Nat×Option Nat)
 fo:List Nat
 kn:List ((Str×List Nat)×Nat)
abbrev PS.n(s:PS):Nat:=s.nodes.length
abbrev PS.rt(s:PS)(a:Nat):Nat:=bi s.up a
abbrev PS.al(s:PS):Nat->Nat->Prop:=Al s.n (bf s.nodes) (aH s.nodes) (fm s.ed)
def PS.sig(s:PS)(i:Nat):Str×List Nat:=(bf s.nodes i,(aH s.nodes i).map s.rt)
def PS.joined(s:PS)(a b:Nat)(lab:Option Nat):PS:=
 let k:=min (s.rt a) (s.rt b)
 let g:=max (s.rt a) (s.rt b)
 if k=g then{s with ed:=s.ed++[(a,b,lab)]}
 else{nodes:=s.nodes,up:=s.up.set g k,lot:=s.lot.set k (ay s.lot k++ay s.lot g),use:=s.use.set k (ay s.use k++ay s.use g),mg:=s.mg++[(k,g)],ed:=s.ed++[(a,b,lab)],fo:=s.fo++[s.ed.length],kn:=s.kn}
theorem Al.mono{op e:Nat->Str}{kids c:Nat->List Nat}{told d:Nat->Nat->Prop}(k:n<=s)(l:∀i,i<n->op i=e i)(j:∀i,i<n->kids i=c i)(o:∀a b,told a b->d a b)(h:Al n op kids told a b):Al s e c d a b:=by
 induction h with
 |refl a=>exact .refl a
 |told h=>exact .told (o _ _ h)
 |back h=>exact .back (o _ _ h)
 |@cong a b f g h1 q _ r=>refine .cong (aC f k) (aC g k) (Z (l a f).symm<|Z (l b g).symm h1) (Z (j a f).symm<|Z (j b g).symm q) λp m=>?_;rw[<-j a f,<-j b g]at m;exact r p m
 |trans _ _ x y=>exact x.trans y
theorem CQ:∀{n:Nat}{l:List Nat},l.Nodup->(∀x∈l,x<n)->l.length<=n:=by
 intro n
 induction n with
 |zero=>intro l b h;cases l with
  |nil=>exact aT _
  |cons x l=>exact absurd (h x aQ) (Nat.not_lt_zero _)
 |succ n c=>
  intro l b h
  by_cases q:n∈l
  ·have:=c (b.erase n) λx a=>cw (h x (List.mem_of_mem_erase a)) (λe=>by subst e;exact(b.mem_erase_iff.mp a).1 rfl)
   rw[List.length_erase_of_mem q]at this;exact JN
  ·exact hO (c b λx a=>cw (h x a) (λe=>q (e▸a)))
theorem gz{l:List (List Nat)}(h:k<l.length) i:ay (l.set k v) i=if i=k then v else ay l i:=by
 unfold ay;refine Z l8 ?_
 by_cases e:k=i
 ·subst e;exact Z (ao rfl)<|Z (ao h)<|Z (ao rfl) rfl
 ·exact Z (ai e)<|Z (ai (λq=>e q.symm)) rfl
inductive Gd(s:PS)(mk:Nat)(wait:List Nat):Prop
 |mk(lu:s.up.length=s.n)(ll:s.lot.length=s.n)(ls:s.use.length=s.n)(gr:Gr s.n (bf s.nodes) (aH s.nodes))(low:dr s.up)(al:∀a,a<s.n->s.al a (s.rt a))(kns:∀k v,(k,v)∈s.kn->v<s.n/\k.1=bf s.nodes v/\k.2.length=(aH s.nodes v).length/\∀p∈k.2.zip (aH s.nodes v),s.al p.1 p.2)(knd:(s.kn.map (·.1)).Nodup)(tj:∀a b,fm s.ed a b->a<s.n/\b<s.n/\s.rt a=s.rt b)(knc:∀i,i<mk->(∃v,s.kn.lookup (s.sig i)=some v/\s.rt v=s.rt i)\/i∈wait)(us:∀i,i<s.n->∀k∈aH s.nodes i,i∈ay s.use (s.rt k))(ub:∀r,∀i∈ay s.use r,i<s.n)(lt:∀r,s.up[r]?=some r->∀a,a∈ay s.lot r↔a<s.n/\s.rt a=r)(ld:∀r,s.up[r]?=some r->(ay s.lot r).Nodup)(lb:∀r,(ay s.lot r).length<=s.n)(mn:mk<=s.n)(wt:∀i∈wait,i<mk)(el:s.ed.length<=s.mg.length+(s.ed.filter λe=>e.2.2.isSome).length)
theorem Gd.rt_lt(G:Gd s mk wait)(h:a<s.n):s.rt a<s.n:=jr (lq G.5 a) h
theorem gq(i j:Nat):min i j=i/\max i j=j\/min i j=j/\max i j=i:=JJ
theorem AA{ed:List (Nat×Nat×Option Nat)}(w:fm (ed++[(a,b,lab)]) x y):fm ed x y\/(x=a/\y=b/\lab.isSome=true):=by
 refine aI w λl h=>?_;clear w;rcases cO.mp h with h|h
 ·exact .inl ⟨l,h⟩
 ·rw[b5]at h;cases h;exact .inr (bt rfl rfl rfl)
theorem Gd.jn(G:Gd s mk wait){a b k g:Nat}(Φ:a<s.n)(K:b<s.n)(D:mk=s.n)
 (f:∀{x y},s.al x y->Al s.n (bf s.nodes) (aH s.nodes) (fm (s.ed++[(a,b,lab)])) x y)(l:k<g)(B:s.up[k]?=some k)(A:s.up[g]?=some g)
 (t:Al s.n (bf s.nodes) (aH s.nodes) (fm (s.ed++[(a,b,lab)])) g k)(C:s.rt a=k/\s.rt b=g\/s.rt a=g/\s.rt b=k):Gd {nodes:=s.nodes,up:=s.up.set g k,lot:=s.lot.set k (ay s.lot k++ay s.lot g),use:=s.use.set k (ay s.use k++ay s.use g),mg:=s.mg++[(k,g)],ed:=s.ed++[(a,b,lab)],fo:=s.fo++[s.ed.length],kn:=s.kn} mk (wait++ay s.use g):=by
 have E:k<s.n:=aK l (Z G.1.symm<|(bV.mp A).1:g<s.n);have R:∀x,x<s.n->bi _ x=if s.rt x=g then k else s.rt x:=λx n=>um G.5 A B l x (Z G.1 n)
 have o:∀{x y},x<s.n->y<s.n->s.rt x=s.rt y->bi _ x=bi _ y:=λn L q=>Z (R _ n)<|Z (R _ L)<|Z q rfl;have e:=λi d j m=>dZ (G.4.4 i d j m) G.4.1;have H:∀i,ay _ i=if i=k then ay s.use k++ay s.use g else ay _ i:=gz (Z G.3 E)
 have F:∀i,ay _ i=if i=k then ay s.lot k++ay s.lot g else ay _ i:=gz (Z G.2 E)
 have c:∀r,(s.up.set g k)[r]?=some r->r≠g/\s.up[r]?=some r:=λr h=>by
  rw[l8]at h
  by_cases q:g=r
  ·subst q
   rw[ao rfl]at h;refine jc h (λS h=>?_) (λS h=>?_)
   ·replace h:=aG h;lia
   ·exact aN h
  ·rw[ai q]at h;exact⟨λz=>q z.symm,h⟩
 have LT:∀r,(s.up.set g k)[r]?=some r->∀x,x∈ay _ r↔x<s.n/\bi (s.up.set g k) x=r:=λr h x=>by
  refine Z (F ..) ?_
  by_cases q:r=k
  ·clear E;subst q
   refine Z (ao rfl) ?_;rewrite[cO];rewrite[G.13 r B];rewrite[G.13 g A];constructor
   ·rintro(⟨x1,x2⟩|⟨x1,x2⟩)
    ·exact⟨x1,Z (R x x1)<|Z x2<|Z (ai (c r h).1) rfl⟩
    ·exact⟨x1,Z (R x x1)<|Z x2<|Z (ao rfl) rfl⟩
   ·rintro⟨x1,x2⟩
    rw[R x x1]at x2
    by_cases z:s.rt x=g
    ·exact .inr ⟨x1,z⟩
    ·rw[ai z]at x2;exact .inl ⟨x1,x2⟩
  ·refine Z (ai q) ?_;rewrite[G.13 r (c r h).2]
   refine and_congr_right λx1=>Z (R x x1) ?_
   by_cases z:s.rt x=g
   ·exact Z (ao z)<|Z z<|⟨λw=>absurd w.symm (c r h).1,λw=>absurd w.symm q⟩
   ·refine Z (ai z) ?_;rfl
 have M:∀r,(s.up.set g k)[r]?=some r->(ay _ r).Nodup:=λr h=>by
  refine Z (F ..) ?_
  by_cases q:r=k
  ·refine Z (ao q)<|qU.mpr (bt (G.14 k B) (G.14 g A) (λx n y L z=>?_))
   subst z;have:=(G.13 k B x).mp n;have:=(G.13 g A x).mp L
   lia
  ·exact Z (ai q)<|G.14 r (c r h).2
 refine⟨(Z dP G.1),(Z dP G.2),(Z dP G.3),G.4,yo G.5 (eU l),(λx n=>?_),(λq v h=>?_),G.8,(λx y h=>?_),(λi d=>?_),(λi d j m=>?_),(λr i d=>?_),LT,M,(λr=>?_),G.16,(λi d=>?_),?_⟩
 ·refine((Z (R x n) ?_):Al _ _ _ _ x (bi _ x))
  by_cases z:s.rt x=g
  ·exact Z (ao z)<|(z▸f (G.6 x n)).trans t
  ·exact Z (ai z)<|f (G.6 x n)
 ·exact iI (G.7 q v h) λh1 u I O=>(dm h1 u I (λp P=>f (O p P)))
 ·rcases AA h with h|⟨rfl,rfl,_⟩
  ·exact gv (G.9 x y h) λh1 u I=>(bt h1 u (o h1 u I))
  ·refine(bt Φ K (((Z (R x Φ) (Z (R y K) ?_)):bi _ x=bi (s.up.set g k) y)))
   rcases C with⟨q1,q2⟩|⟨q1,q2⟩
   ·exact Z q1<|Z q2<|Z (ai (bI l))<|Z (ao rfl) rfl
   ·exact Z q1<|Z q2<|Z (ao rfl)<|Z (ai (bI l)) rfl
 ·by_cases z:∃j∈aH s.nodes i,s.rt j=g
  ·obtain⟨j,m,z⟩:=z
   exact .inr (bq _ (z▸G.11 i (aC d (aA D)) j m))
  ·rcases G.10 i d with⟨v,h1,u⟩|h
   ·refine .inl (ad v ?_ ?_)
    ·have:PS.sig {nodes:=s.nodes,up:=s.up.set g k,lot:=s.lot.set k (ay s.lot k++ay s.lot g),use:=s.use.set k (ay s.use k++ay s.use g),mg:=s.mg++[(k,g)],ed:=s.ed++[(a,b,lab)],fo:=s.fo++[s.ed.length],kn:=s.kn} i=s.sig i:=bg _ (j0 λj m=>((Z (R j (e i (aC d (aA D)) j m)) (Z (ai λq=>z (ad j m q)) rfl)):bi _ j=s.rt j))
     exact Z this h1
    ·have Q:v<s.n:=by
      have:(s.sig i,v)∈s.kn:=by refine lG (List.lookup_eq_some_iff.mp h1) λT Ω h1 _=>Z h1 ?_;simp
      exact(G.7 _ _ this).1
     exact o Q (aC d (aA D)) u
   ·exact .inr (jt _ h)
 ·refine((Z (R j (e i d j m)) (Z (H ..) ?_)):i∈ay _ (bi _ j))
  by_cases z:s.rt j=g
  ·exact Z (ao z)<|Z (ao rfl)<|bq _ (z▸(G.11 i d j m))
  ·refine Z (ai z) ?_
   by_cases y:s.rt j=k
   ·exact Z (ao y)<|jt _ (y▸(G.11 i d j m))
   ·exact Z (ai y)<|(G.11 i d j m)
 ·rw[H]at d
  by_cases z:r=k
  ·rw[ao z]at d
   exact(cO.mp d).elim (G.12 k i) (G.12 g i)
  ·rw[ai z]at d;exact G.12 r i d
 ·by_cases z:r=k
  ·clear Φ K f A t C E R o e H c;subst z
   have N:(s.up.set g r)[r]?=some r:=by refine Z (d6 (hL l)) ?_;exact B
   exact CQ (M r N) λx n=>((LT r N x).mp n).1
  ·exact Z (F ..)<|Z (ai z)<|G.15 r
 ·rcases cO.mp d with h|h
  ·exact G.17 i h
  ·exact Z D<|G.12 g i h
 ·refine Z (List.filter_append ..)<|Z bM<|Z bM<|Z bM ?_
  simp only[bU,lZ];exact aE G.18
theorem Gd.joined(G:Gd s mk wait)(f:a<s.n)(g:b<s.n)(j:lab.isSome=true\/(lab=none/\s.al a b/\s.rt a≠s.rt b))(t:mk=s.n):
 Gd (s.joined a b lab) mk (wait++(if s.rt a=s.rt b then[]else ay s.use (max (s.rt a) (s.rt b)))):=by
 have w:=g6 G.5 (Z G.1 f);have A:=g6 G.5 (Z G.1 g);have m:∀x y,fm _ x y->fm (s.ed++[(a,b,lab)]) x y:=λx y n=>(by refine aI n λl h=>?_;clear n;exact⟨l,jt _ h⟩)
 have c:∀{x y},s.al x y->Al _ _ _ _ x y:=λh=>h.mono (aT _) (λ_ _=>rfl) (λ_ _=>rfl) m;have o:Al s.n (bf s.nodes) (aH s.nodes) (fm (s.ed++[(a,b,lab)])) a b:=by
  rcases j with h|⟨_,h,_⟩
  ·exact aI (lU.mp h) λl i=>Z i<| .told ⟨l,bq _ aQ⟩
  ·exact c h
 unfold PS.joined
 by_cases e:s.rt a=s.rt b
 ·refine Z (ao uu)<|Z (ao e)<|Z (bZ ..)<|⟨G.1,G.2,G.3,G.4,G.5,(λx u=>c (G.6 x u)),(λk v h=>?_),G.8,(λx y h=>?_),G.10,G.11,G.12,G.13,G.14,G.15,G.16,G.17,?_⟩
  ·exact(dm (G.7 k v h).1 (G.7 k v h).2.1 (G.7 k v h).2.2.1 (λp r=>c ((G.7 k v h).2.2.2 p r)))
  ·clear w A m;rcases AA h with h|⟨rfl,rfl,_⟩
   ·exact G.9 x y h
   ·exact(bt f g e)
  ·refine Z (List.filter_append ..)<|Z bM<|Z bM ?_
   have q:lab.isSome=true:=by
    rcases j with h|⟨_,_,h⟩
    ·exact h
    ·exact absurd e h
   simp only[List.filter_cons,q,if_true,List.filter_nil,bU,lZ];exact aE G.18
 ·refine Z (ai (bI (xx λz=>e (xy.mp z))))<|Z (ai e) ?_
  have d:Al s.n (bf s.nodes) (aH s.nodes) (fm (s.ed++[(a,b,lab)])) (max (s.rt a) (s.rt b)) (min (s.rt a) (s.rt b)):=by
   have h:=((c (G.6 a f)).symm.trans o).trans (c (G.6 b g));rcases gq _ _ with⟨q,q2⟩|⟨q,q2⟩
   ·exact Z q<|Z q2 h.symm
   ·exact Z q<|Z q2 h
  exact G.jn f g t c (xx λz=>e (xy.mp z)) (by rcases gq _ _ with⟨q,_⟩|⟨q,_⟩<;>refine Z q ?_<;>assumption) (by rcases gq _ _ with⟨_,q⟩|⟨_,q⟩<;>refine Z q ?_<;>assumption) d JK
variable{s s':PS}
theorem Bb(G:Gd s mk wait)(b:n<s.n)(h:(s.sig n,v)∈s.kn):s.al v n:=by
 refine iI (G.7 _ _ h) λh1 c a d=>?_;have a:((aH _ n).map _).length=(aH _ v).length:=a;rw[eH]at a;refine .cong h1 b c.symm a.symm λp g=>?_;obtain⟨i,f,rfl⟩:=List.getElem_of_mem g;rw[eW]at f;refine Z iY ?_;have:((s.rt ((aH s.nodes n)[i]'(by lia))),(aH _ v)[i]'(JW))∈(s.sig n).2.zip (aH s.nodes v):=by
  have hz:i<((s.sig n).2.zip (aH s.nodes v)).length:=by refine Z eW<|Z aY ?_;lia
  have:=f_ hz;rw[iY]at this;have e:(s.sig n).2[i]'(by change i<((aH _ n).map _).length;refine Z aY ?_;lia)=s.rt ((aH s.nodes n)[i]'(by lia)):=l6 _
  rw[e]at this;exact this
 exact((G.6 _ (dZ (G.4.4 n b _ (f_ _)) G.4.1)).trans (d _ this)).symm
theorem uV{K V:Type}[BEq K][LawfulBEq K]{k:K}{v:V}{l:List (K×V)}(h:l.lookup k=some v):(k,v)∈l:=by refine lG (List.lookup_eq_some_iff.mp h) λa b h1 _=>Z h1 ?_;simp
theorem Gd.drop{w1 w2:List Nat}(G:Gd s mk (w1++n::w2))(h:(∃v,s.kn.lookup (s.sig n)=some v/\s.rt v=s.rt n)\/n∈w1++w2):Gd s mk (w1++w2):=
 ⟨G.1,G.2,G.3,G.4,G.5,G.6,G.7,G.8,G.9,(λi a=>by
  rcases G.10 i a with q|q
  ·exact .inl q
  ·rcases cO.mp q with q|q
   ·exact .inr (jt _ q)
   ·rcases bK.mp q with rfl|q
    ·exact h
    ·exact .inr (bq _ q)),G.11,G.12,G.13,G.14,G.15,G.16,(λi a=>G.17 i (by
  rcases cO.mp a with q|q
  ·exact jt _ q
  ·exact bq _ (az _ q))),G.18⟩
def PS.knew(s:PS)(n:Nat):PS:={s with kn:=s.kn++[(s.sig n,n)]}
theorem Gd.look_new(G:Gd s s.n (w++[n]))(h:s.kn.lookup (s.sig n)=none):Gd (s.knew n) s.n w:=by
 have d:=G.17 n (bq _ aQ)
 have c:∀v,(s.sig n,v)∉s.kn:=λv q=>by rw[List.lookup_eq_none_iff]at h;have:=h _ q;simp at this
 have g:Gd (s.knew n) _ _:=⟨G.1,G.2,G.3,G.4,G.5,G.6,(λk v q=>by
  rcases cO.mp q with q|q
  ·exact G.7 k v q
  ·rw[b5]at q
   cases q
   refine(dm d rfl (eH _) (λp j=>?_));obtain⟨i,a,rfl⟩:=List.getElem_of_mem j;refine Z iY ?_;have l:=by rw[eW]at a;exact dZ a (Nat.min_le_right _ _)
   exact Z (l6 _)<|(G.6 _ (dZ (G.4.4 n d _ (f_ _)) G.4.1)).symm),(by
  refine Z bz<|qU.mpr ⟨G.8,by simp,λx e y f z=>ac (bT.mp e) λq m b=>?_⟩;clear e;subst b
  simp at f;subst f;exact c _ (Z z.symm m)),G.9,(λi a=>by
  rcases G.10 i a with⟨v,q1,q2⟩|q
  ·exact .inl (ad v (by refine Z List.lookup_append<|Z q1 ?_;rfl) q2)
  ·exact .inr q),G.11,G.12,G.13,G.14,G.15,G.16,G.17,G.18⟩
 have:=g.drop (.inl (ad n (by refine((Z List.lookup_append (Z h ?_)):(s.kn++[(s.sig n,n)]).lookup _=some n);simp) rfl))
 rwa [bZ]at this
theorem Gd.look_old(G:Gd s s.n (w++[n]))(h:s.kn.lookup (s.sig n)=some v)(e:s.rt v=s.rt n):Gd s s.n w:=by
 have:=G.drop (.inl (ad v h e))
 rwa [bZ]at this
theorem Gd.look_join(G:Gd s s.n (w++[n]))(h:s.kn.lookup (s.sig n)=some v)(e:s.rt v≠s.rt n):Gd (s.joined v n none) s.n (w++ay s.use (max (s.rt v) (s.rt n))):=by
 have b:=G.17 n (bq _ aQ);have i:=(G.7 _ _ (uV h)).1;have d:=G.joined i b (.inr (bt rfl (Bb G b (uV h)) e)) rfl;rw[ai e,kS]at d;refine d.drop ?_;rcases d.10 n b with q|q
 ·exact .inl q
 ·have l:=g6 G.5 (Z G.1 i)
  have k:=g6 G.5 (Z G.1 b);have a:=xC;have g:s.up[min (s.rt v) (s.rt n)]?=some (min (s.rt v) (s.rt n)):=by rcases gq _ _ with⟨q,_⟩|⟨q,_⟩<;>refine Z q ?_<;>assumption
  have f:s.up[max (s.rt v) (s.rt n)]?=some (max (s.rt v) (s.rt n)):=by rcases gq _ _ with⟨_,q⟩|⟨_,q⟩<;>refine Z q ?_<;>assumption
  by_cases z:∃j∈aH s.nodes n,s.rt j=max (s.rt v) (s.rt n)
  ·exact ac z λj c z=>.inr (bq _ (z▸G.11 n b j c))
  ·refine .inl ⟨v,?_,?_⟩
   ·have:(s.joined v n none).sig n=s.sig n:=by
     unfold PS.joined;exact Z (ai (bI a))<|bg _ (j0 λj c=>((Z (um G.5 f g a j (Z G.1<|dZ (G.4.4 n b _ c) G.4.1)) (Z (ai λq=>z (ad j c q)) rfl)):bi _ j=s.rt j))
    refine Z this ?_;have:(s.joined v n none).kn=s.kn:=by unfold PS.joined;dsimp only;split<;>rfl
    exact Z this h
   ·have:(s.joined v n none).up=s.up.set (max (s.rt v) (s.rt n)) (min (s.rt v) (s.rt n)):=by unfold PS.joined;exact Z (ai (bI a)) rfl
    refine((Z this (Z (um G.5 f g a v (Z G.1 i)) (Z (um G.5 f g a n (Z G.1 b)) ?_))):bi (s.joined v n _).up v=bi (s.joined v n _).up n);rcases gq _ _ with⟨q1,q2⟩|⟨q1,q2⟩
    ·exact Z q1<|Z q2<|Z (ai e)<|Z (ao rfl) rfl
    ·exact Z q1<|Z q2<|Z (ao rfl)<|Z (ai (λz=>e z.symm)) rfl
theorem Gd.settled(G:Gd s s.n [])(c:a<s.n)(d:b<s.n):s.rt a=s.rt b↔s.al a b:=by
 constructor
 ·exact λh=>(G.6 a c).trans (h▸(G.6 b d).symm)
 ·intro h
  have f:∀a b,s.al a b->a<s.n->b<s.n/\s.rt a=s.rt b:=by
   intro a b h
   induction h with
   |refl a=>intro c;exact⟨c,rfl⟩
   |told h=>intro _;exact(G.9 _ _ h).2
   |back h=>intro _;exact gv (G.9 _ _ h) λh1 g k=>⟨h1,k.symm⟩
   |@cong a b c d o l _ m=>
    refine λ_=>⟨d,?_⟩;have e:s.sig a=s.sig b:=by
     unfold PS.sig
     congr 1
     apply List.ext_getElem (by exact Z aY<|Z aY l)
     refine λi h1 g=>Z (l6 ..)<|Z (l6 ..) ?_;rw[eH]at h1 g;have hz:i<((aH _ a).zip _).length:=Z eW q9;have j:=f_ hz;rw[iY]at j;exact(m _ j (dZ (G.4.4 a c _ (f_ _)) G.4.1)).2
    rcases G.10 a c with⟨v,q1,q2⟩|q
    ·rcases G.10 b d with⟨p,q3,q4⟩|n
     ·rw[e,q3]at q1
      replace q1:=aG q1;subst q1;exact Z q2.symm<|Z q4 rfl
     ·cases n
    ·cases q
   |trans _ _ x y=>exact λc=>⟨(y (x c).1).1,(x c).2.trans (y (x c).1).2⟩
  exact(f a b h c).2
def ix(x:Nat):List Nat->List (List Nat)->List (List Nat)
 |[],u=>u
 |c::r,u=>ix x r (u.set c (ay u c++[x]))
def lr:List Nat->List (List Nat)->List (List Nat)
 |[],u=>u
 |c::r,u=>lr r (u.set c (ay u c).dropLast)
theorem vX:∀{cs:List Nat}{u:List (List Nat)},(ix x cs u).length=u.length:=by
 intro cs
 induction cs with
 |nil=>exact@λ_=>rfl
 |cons c r a=>exact@λu=>Z a<|Z dP rfl
theorem ql:∀{cs:List Nat}{u:List (List Nat)},(∀c∈cs,c<u.length)->cs.Nodup->ay (ix x cs u) i=if i∈cs then ay u i++[x]else ay u i:=by
 intro cs
 induction cs with
 |nil=>exact@λ_ _ _=>rfl
 |cons c r a=>
  intro u h d;refine a_ (eF.mp d) λg b=>Z (a (λj f=>Z dP<|h j (az _ f)) b)<|Z (gz (h c aQ) ..) ?_
  by_cases e:i=c
  ·clear a h d b;subst e;exact Z (ai g)<|Z (ao rfl)<|Z (ao aQ) rfl
  ·refine Z (ai e) ?_
   by_cases q:i∈r
   ·exact Z (ao q)<|Z (ao (az _ q)) rfl
   ·exact Z (ai q)<|Z (ai λz=>(bK.mp z).elim e q) rfl
theorem Kl:∀{cs:List Nat}{u:List (List Nat)},(lr cs u).length=u.length:=by
 intro cs
 induction cs with
 |nil=>exact@λ_=>rfl
 |cons c r a=>exact@λu=>Z a<|Z dP rfl
theorem NG:∀{cs:List Nat}{u:List (List Nat)},(∀c∈cs,c<u.length)->cs.Nodup->ay (lr cs u) i=if i∈cs then(ay u i).dropLast else ay u i:=by
 intro cs
 induction cs with
 |nil=>exact@λ_ _ _=>rfl
 |cons c r d=>
  intro u h a;refine Z (d (λj b=>Z dP<|h j (az _ b)) (eF.mp a).2)<|Z (gz (h c aQ) ..) ?_
  by_cases e:i=c
  ·exact Z e<|Z (ai (eF.mp a).1)<|Z (ao rfl)<|Z (ao aQ) rfl
  ·refine Z (ai e) ?_
   by_cases q:i∈r
   ·exact Z (ao q)<|Z (ao (az _ q)) rfl
   ·exact Z (ai q)<|Z (ai λz=>(bK.mp z).elim e q) rfl
theorem DV{l r:List (List Nat)}(b:l.length=r.length)(h:∀i,ay l i=ay r i):l=r:=by apply List.ext_getElem b;intro i h1 a;have:=h i;unfold ay at this;rw[bJ h1,bJ a]at this;exact this
theorem Kk(h:∀c∈cs,c<u.length)(a:cs.Nodup):lr cs (ix x cs u)=u:=by
 refine DV (Z Kl<|Z vX rfl) λi=>Z (NG (Z vX h) a)<|Z (ql h a) ?_
 by_cases q:i∈cs
 ·exact Z (ao q)<|Z (ao q)<|Z List.dropLast_concat rfl
 ·exact Z (ai q)<|Z (ai q) rfl
def PS.added(s:PS)(op:Str)(ks cs:List Nat):PS:=
 {s with nodes:=s.nodes++[(op,ks)],up:=s.up++[s.n],lot:=s.lot++[[s.n]],use:=ix s.n cs (s.use++[[]])}
theorem zG{a b:Type}(f:Option a->b){l:List a}{p:a}{i:Nat}:f (l++[p])[i]?=if i=l.length then f (some p)else f l[i]?:=by
 refine Z List.getElem?_append ?_
 by_cases h:i<l.length
 ·exact Z (ao h)<|Z (ai (bI h)) rfl
 ·refine Z (ai h) ?_
  by_cases e:i=l.length
  ·refine Z e<|Z (lW ..)<|Z (ao rfl) ?_;rfl
  ·refine Z (ai e)<|Z (ju (l:=l) JX) ?_;exact Z (ju q4) rfl
theorem uE{l:List (Str×List Nat)}{p:Str×List Nat}:bf (l++[p]) i=if i=l.length then p.1 else bf l i:=zG λ(o:Option (Str×List Nat))=>(match o with|some p=>p.1|none=>⟨#[]⟩:Str)
theorem ot{l:List (Str×List Nat)}{p:Str×List Nat}:aH (l++[p]) i=if i=l.length then p.2 else aH l i:=zG λ(o:Option (Str×List Nat))=>match o with|some p=>p.2|none=>[]
theorem kJ{l:List (List Nat)}{p:List Nat}{i:Nat}:ay (l++[p]) i=if i=l.length then p else ay l i:=zG λ(o:Option (List Nat))=>match o with|some p=>p|none=>[]
theorem p_{l:List (Str×List Nat)}{i:Nat} h:l[i]=(bf l i,aH l i):=by unfold bf aH;exact Z (bJ h) rfl
theorem Gd.added(G:Gd s s.n w){op:Str}(h1:ks≠[])(K:∀k∈ks,k<3)(h3:ks.length<=2)(H:(op,ks)∉s.nodes)(D:∀x,x∈cs↔x∈ks.map s.rt)(nd:cs.Nodup):
 Gd (s.added op ks cs) (s.n+1) (w++[s.n]):=by
 have M:=G.4.1;have A:dr (s.up++[s.n]):=Z G.1.symm<|sE G.5;have R:∀a,a<s.n->bi _ a=s.rt a:=λa Y=>xr G.5 A a (Z G.1 Y);have N:bi (s.up++[s.n]) _=s.n:=pN (by exact Z G.1.symm<|gN)
 have m:(s.added op ks cs).n=s.n+1:=by refine((Z bM ?_):(s.nodes++[(op,ks)]).length=_);rfl
 have O:∀i,i<s.n->bf (s.nodes++[(op,ks)]) i=bf s.nodes i:=λi d=>Z uE<|Z (ai (by exact bI d)) rfl
 have g:∀i,i<s.n->aH (s.nodes++[(op,ks)]) i=aH s.nodes i:=λi d=>Z ot<|Z (ai (by exact bI d)) rfl
 have X:bf (s.nodes++[(op,ks)]) _=op:=Z uE<|Z (ao rfl) rfl;have F:aH (s.nodes++[(op,ks)]) s.n=ks:=Z ot<|Z (ao rfl) rfl
 have B:∀{x y},s.al x y->Al (s.nodes++[(op,ks)]).length _ _ _ x y:=λh=>h.mono (by exact Z bM<|dq _ _) (λi d=>(O i d).symm) (λi d=>(g i d).symm) λ_ _ h=>h
 have l:=λi d j t=>dZ (G.4.4 i d j t) M
 have P:∀c∈cs,c<(s.use++[[]]).length:=λc L=>by
  refine ac (bT.mp ((D c).mp L)) λk f C=>?_;subst C;have:=lq G.5 k;have:=K k f;refine Z bM<|Z G.3 ?_
  lia
 have Q:∀c∈cs,c<s.n:=λc L=>by
  refine ac (bT.mp ((D c).mp L)) λk f C=>?_;clear L;subst C;have:=lq G.5 k;have:=K k f
  lia
 have Ω:∀i,ay (ix _ cs _) i=if i∈cs then ay s.use i++[s.n]else if i=s.n then[]else ay s.use i:=λi=>by
  refine Z (ql P nd)<|Z kJ ?_
  by_cases q:i∈cs
  ·exact have:=Q i q;Z (ao q)<|Z (ao q)<|Z (ai (by exact Z G.3<|bI this)) rfl
  ·exact Z (ai q)<|Z (ai q)<|Z G.3 rfl
 have T:∀i,ay _ i=if i=s.n then[s.n]else ay s.lot i:=λi=>Z kJ<|Z G.2 rfl
 have I:∀r,(s.up++[s.n])[r]?=some r->r=s.n\/r<s.n/\s.up[r]?=some r:=λr h=>by
  rw[List.getElem?_append]at h;refine jc h (λq h=>?_) (λq h=>?_)
  ·exact .inr ⟨Z G.1.symm q,h⟩
  ·left
   refine Decidable.byContradiction λz=>?_;rw[ju (by rw[G.1]at q⊢;exact q4)]at h;exact aN h
 refine⟨(by refine Z m<|Z bM<|Z G.1 ?_;rfl),(by refine Z m<|Z bM<|Z G.2 ?_;rfl),(by refine Z m<|Z vX<|Z bM<|Z G.3 ?_;rfl),?_,A,(λa Y=>?_),(λk v h=>?_),G.8,(λa b h=>?_),(λi d=>?_),(λi d k f=>?_),(λr i d=>?_),(λr W a=>?_),(λr W=>?_),(λr=>?_),(Z m<|aT _),(λi d=>?_),G.18⟩
 ·refine Z m<|⟨aE M,λi d=>Z (g i (aC d M))<|G.4.2 i d,λi S d=>?_,λi d k f=>?_,λi=>?_,λi j d t u f=>?_⟩
  ·by_cases e:i=s.n
   ·exact Z e<|Z F h1
   ·exact Z (g i (cw d e))<|G.4.3 i S (cw d e)
  ·have f:k∈aH (s.nodes++[(op,ks)]) i:=f
   by_cases e:i=s.n
   ·rw[e,F]at f;exact K k f
   ·rw[g i (cw d e)]at f;exact G.4.4 i (cw d e) k f
  ·refine Z ot ?_
   split
   ·exact h3
   ·exact G.4.5 i
  ·have u:bf (s.nodes++[(op,ks)]) i=bf (s.nodes++[(op,ks)]) j:=u
   have f:aH (s.nodes++[(op,ks)]) i=aH (s.nodes++[(op,ks)]) j:=f
   have Φ:∀i,i<s.n->¬(bf _ i=op/\aH _ i=ks):=λi d w=>by have:=p_ d;rw[w.1,w.2]at this;exact H (this▸f_ d)
   by_cases e:i=s.n
   ·by_cases o:j=s.n
    ·exact e.trans o.symm
    ·rw[e,X,O j (cw t o)]at u;rw[e,F,g j (cw t o)]at f
     exact absurd ⟨u.symm,f.symm⟩ (Φ j (cw t o))
   ·by_cases o:j=s.n
    ·rw[o,X,O i (cw d e)]at u;rw[o,F,g i (cw d e)]at f
     exact absurd ⟨u,f⟩ (Φ i (cw d e))
    ·rw[O i (cw d e),O j (cw t o)]at u;rw[g i (cw d e),g j (cw t o)]at f
     exact G.4.6 i j (cw d e) (cw t o) u f
 ·refine(?_:Al _ _ _ _ a (bi _ a))
  by_cases e:a=s.n
  ·exact Z e<|Z N<| .refl _
  ·exact Z (R a (by lia))<|B (G.6 a (by lia))
 ·refine iI (G.7 k v h) λq1 q2 q3 q4=>(dm (aK (aA m.symm) q1) ?_ ?_ (λp V=>B (q4 p ?_)))
  ·exact Z (O v q1) q2
  ·exact Z (g v q1) q3
  ·have V:p∈k.2.zip (aH (s.nodes++[(op,ks)]) v):=V
   rwa [g v q1]at V
 ·obtain⟨q1,q2,q3⟩:=G.9 a b h
  exact(bt (aK (aA m.symm) q1) (aK (aA m.symm) q2) (((Z (R a q1) (Z (R b q2) q3)):bi _ a=bi _ b)))
 ·by_cases e:i=s.n
  ·exact .inr (e▸bq _ aQ)
  ·rcases G.10 i (cw d e)with⟨v,q1,q2⟩|q
   ·refine .inl (ad v ?_ ?_)
    ·exact have:(s.added op ks cs).sig i=s.sig i:=((Z (O i (cw d e)) (Z (g i (cw d e)) (bg _ (j0 λj t=>R j (l i (cw d e) j t))))):(bf _ i,(aH _ i).map _)=_);Z this q1
    ·exact((Z (R v (G.7 _ _ (uV q1)).1) (Z (R i (cw d e)) q2)):bi _ v=bi _ i)
   ·exact .inr (jt _ q)
 ·refine(?_:i∈ay _ (bi _ k))
  have f:k∈aH (s.nodes++[(op,ks)]) i:=f
  by_cases e:i=s.n
  ·rw[e,F]at f
   exact have:=K k f;Z (R k (aC this M))<|Z (Ω ..)<|Z (ao ((D _).mpr (bT.mpr (ad k f rfl))))<|Z e<|bq _ aQ
  ·rw[g i (by lia)]at f
   have Ψ:=l i (by lia) k f
   have:=G.11 i (by lia) k f
   refine Z (R k Ψ)<|Z (Ω ..)<|sQ (λq_=>?_) (λq_=>?_)
   ·exact jt _ this
   ·exact Z (ai (bI (G.rt_lt Ψ))) this
 ·have d:i∈ay (ix _ cs _) r:=d
  rw[Ω]at d;refine Z m ?_
  split at d
  ·rcases cO.mp d with q|q
   ·have:=G.12 r i q;exact aE this
   ·rw[b5]at q;exact aE (aA q)
  ·split at d
   ·exact bx d
   ·have:=G.12 r i d;exact aE this
 ·refine((Z (T ..) (Z m ?_)):a∈ay _ r↔a<(s.added op ks cs).n/\bi (s.up++[s.n]) a=r)
  rcases I r W with e|⟨e,E⟩
  ·refine Z (ao e) ?_;rewrite[b5];refine Z e ?_
   constructor
   ·rintro rfl;exact⟨aT _,N⟩
   ·rintro⟨q1,q2⟩
    refine Decidable.byContradiction λz=>?_;rw[R a (cw q1 z)]at q2;exact have:=G.rt_lt (cw q1 z);Cr (aA q2.symm) this
  ·refine Z (ai (bI e)) ?_;rewrite[G.13 r E]
   constructor
   ·rintro⟨q1,q2⟩;exact⟨aE q1,Z (R a q1) q2⟩
   ·rintro⟨q1,q2⟩
    by_cases z:a=s.n
    ·rw[z,N]at q2;lia
    ·rw[R a (cw q1 z)]at q2;exact⟨cw q1 z,q2⟩
 ·refine Z (T ..) ?_
  rcases I r W with e|⟨e,E⟩
  ·refine Z (ao e) ?_;simp
  ·exact Z (ai (bI e))<|G.14 r E
 ·refine Z (T ..)<|Z m ?_
  split
  ·exact af
  ·have:=G.15 r;exact aE this
 ·rcases cO.mp d with q|q
  ·have:=G.17 i q;exact aE this
  ·rw[b5]at q;exact aE (aA q)
inductive Ch where
 |made(n:Nat)
 |known(k:Str×List Nat)
 |edge(k many g:Nat)
theorem Bj{l:List (List Nat)}(h:k<l.length):l.set k (ay l k)=l:=by
 refine DV dP λi=>Z (gz h ..) ?_
 split
 ·rename_i e;exact Z e rfl
 ·rfl
theorem I3{l:List Nat}(h:l[k]?=some x):(l.set k y).set k x=l:=by
 have a:=(bV.mp h).1;apply List.ext_getElem?;refine λi=>Z (List.set_set ..)<|Z l8 ?_
 split
 ·rename_i e;exact Z e.symm<|Z h rfl
 ·rfl
variable{ia:List Nat->List Nat}
def PS.roots(s:PS):Nat:=(List.range s.n).countP λr=>s.up[r]?==some r
def PS.tot(s:PS):Nat:=((List.range s.n).map λr=>if s.up[r]?=some r then(ay s.use r).length else 0).sum
theorem AP{f:Nat->Nat}:∀{n:Nat},g<n->f g<=((List.range n).map f).sum:=by
 intro n
 induction n with
 |zero=>exact λh=>MO h
 |succ n a=>
  refine λh=>Z List.range_succ<|Z bz<|Z m8 ?_
  by_cases e:g=n
  ·refine Z e ?_;simp
  ·exact have:=a (cw h e);aE this
theorem HL(j:f' k=f k+f g)(d:f' g=0)(c:∀i,i≠k->i≠g->f' i=f i)(l:k<g)(h:g<n):((List.range n).map f').sum=((List.range n).map f).sum:=by
 have a:∀m,m<=g->((List.range m).map f').sum=((List.range m).map f).sum+if k<m then f g else 0:=by
  intro m
  induction m with
  |zero=>intro _;rfl
  |succ m b=>
   refine λhm=>Z List.range_succ<|Z bz<|Z bz<|Z m8<|Z m8<|Z (b (aE hm)) ?_;simp only[eV,List.map_nil,lX]
   by_cases e:m=k
   ·clear b;exact Z e<|Z j<|Z (ai (jY _))<|Z (ao (jq _)) sr
   ·refine Z (c m e (bI hm)) ?_
    by_cases q:k<m
    ·exact Z (ao q)<|Z (ao (by exact aE q)) sr
    ·exact Z (ai q)<|Z (ai (by lia)) rfl
 induction n with
 |zero=>exact absurd h (Nat.not_lt_zero g)
 |succ n b=>
  refine Z List.range_succ<|Z bz<|Z bz<|Z m8<|Z m8 ?_;simp only[eV,List.map_nil,lX]
  by_cases e:g=n
  ·exact Z e.symm<|Z (a g (aT _))<|Z (ao l)<|Z d rfl
  ·exact Z (b (cw h e))<|Z (c n (by lia) (λq=>e q.symm)) rfl
theorem Gd.tot_joined(G:Gd s mk wait)(n:a<s.n)(o:b<s.n):
 (s.joined a b lab).tot=s.tot/\(s.rt a≠s.rt b->(s.joined a b lab).roots+1<=s.roots/\(ay s.use (max (s.rt a) (s.rt b))).length<=s.tot):=by
 unfold PS.joined
 by_cases e:min (s.rt a) (s.rt b)=max (s.rt a) (s.rt b)
 ·exact Z (ao e)<|⟨rfl,λq=>absurd (by lia) q⟩
 ·refine Z (ai e) ?_
  have t:=g6 G.5 (Z G.1 n);have u:=g6 G.5 (Z G.1 o);have j:s.up[min (s.rt a) (s.rt b)]?=some (min (s.rt a) (s.rt b)):=by rcases gq _ _ with⟨q,_⟩|⟨q,_⟩<;>refine Z q ?_<;>assumption
  have d:s.up[max (s.rt a) (s.rt b)]?=some (max (s.rt a) (s.rt b)):=by rcases gq _ _ with⟨_,q⟩|⟨_,q⟩<;>refine Z q ?_<;>assumption
  have h:=xx;generalize min _ (s.rt b)=k at h j⊢;generalize max _ (s.rt b)=g at h d⊢;have c:g<s.n:=Z G.1.symm<|(bV.mp d).1;have ks:k<s.use.length:=Z G.3<|aK h c
  have Ω:∀i,(s.up.set g k)[i]?=some i↔i≠g/\s.up[i]?=some i:=λi=>by
   refine Z l8 ?_
   by_cases q:g=i
   ·subst q
    exact Z (ao rfl)<|Z (ao (Z G.1 c))<|⟨λz=>by replace z:=aG z;lia,λz=>absurd rfl z.1⟩
   ·exact Z (ai q)<|⟨λz=>⟨λw=>q w.symm,z⟩,λz=>z.2⟩
  refine⟨?_,λ_=>⟨?_,?_⟩⟩
  ·refine HL ?_ ?_ (λi h1 m=>?_) h c
   ·exact Z (ao ((Ω k).mpr ⟨bI h,j⟩))<|Z (gz ks ..)<|Z (ao rfl)<|Z bM<|Z (ao j)<|Z (ao d) rfl
   ·exact Z (ai λz=>((Ω g).mp z).1 rfl) rfl
   ·refine((Z (gz ks ..) (Z (ai h1) ?_)):(if(s.up.set g k)[i]?=some i then(ay _ i).length else 0)=_)
    by_cases q:s.up[i]?=some i
    ·exact Z (ao ((Ω i).mpr ⟨m,q⟩))<|Z (ao q) rfl
    ·exact Z (ai (λz=>q ((Ω i).mp z).2))<|Z (ai q) rfl
  ·refine te (l:=List.range s.n) (f:=λr=>(s.up.set g k)[r]?==some r) (λx _ p=>?_) (gG.mpr c) ?_ ?_
   ·exact fA.mpr ((Ω x).mp (fA.mp p)).2
   ·refine beq_eq_false_iff_ne.mpr λz=>((Ω g).mp z).1 rfl
   ·exact fA.mpr d
  ·have:=AP (f:=λr=>if s.up[r]?=some r then(ay s.use r).length else 0) c
   rw[ao d]at this;exact this
section
variable{n:Nat}{told:Nat->Nat->Prop}{c':Nat->Nat->Option Nat}{w:Nat->Nat->Option eR}
def eA{α:Type}(f:Nat->Nat->Option α)(a b:Nat)(x:α):Nat->Nat->Option α:=λi j=>if i=a/\j=b then some x else f i j
def nX(c:Nat->Nat->Option Nat)(p:Nat×Nat):Bool:=(c p.1 p.2).isSome
def Fh:Nat:=2^40
def wH(c:Nat->Nat->Option Nat)(p:Nat×Nat):Nat:=(c p.1 p.2).getD Fh
def jZ(n:Nat)(c:Nat->Nat->Option Nat):Nat:=((jh n).map (wH c)).sum
inductive Lv(n:Nat)(op:Nat->Str)(kids:Nat->List Nat)(told:Nat->Nat->Prop)(ed:Nat->Option (Nat×Nat))(c:Nat->Nat->Option Nat)(w:Nat->Nat->Option eR):Prop
 |mk(g:Gr n op kids)(dom:∀a b x,c a b=some x->a<n/\b<n)(zero:∀a,a<n->c a a=some 0)(way:∀a b x,a≠b->c a b=some x->1<=x/\∃v,w a b=some v/\md op kids ed c a b x v)(big:∀a b x,c a b=some x->x<=2^(jh n).countP (nX c))
def iW(c c':Nat->Nat->Option Nat):Prop:=∀a b x,c a b=some x->∃x',c' a b=some x'/\x'<=x
theorem iW.sum(h:iW c c'){y:Nat}(e:cI c l=some y):∃a,cI c' l=some a/\a<=y:=by
 induction l generalizing y with
 |nil=>exact ad y e (aT _)
 |cons p r m=>exact bX (mU e) λx z b d f=>ac (h _ _ _ b) λn g j=>ac (m d) λo i k=>ad _ (vM g i) (f▸iU j k)
theorem iW.fits(h:iW c c')(f:md op kids ed c a b x v):md op kids ed c' a b x v:=by
 cases v with
 |edge i r=>exact f
 |like=>obtain⟨e,g,y,j,k⟩:=f;exact ac (h.sum j) λn d l=>⟨e,g,n,d,aC l k⟩
 |over m=>obtain⟨e,g,y,z,j,k,p⟩:=f;exact ac (h _ _ _ j) λn d l=>ac (h _ _ _ k) λs o q=>⟨e,g,n,s,d,o,dL p l q⟩
theorem uU(h:∀y,c a b=some y->x<y):iW c (eA c a b x):=λi j y e=>by
 unfold eA
 by_cases q:i=a/\j=b
 ·refine Z (ao q)<|a_ q λd f=>?_;clear q;subst d;subst f;exact(ad x rfl (eU (h y e)))
 ·exact Z (ai q)<|(ad y e (aT _))
theorem AO{i:Type}[DecidableEq i]{f g:i->Nat}{l:List i}(h:∀x∈l,f x<=g x){a:i}(j:a∈l)(m:f a<g a):(l.map f).sum<(l.map g).sum:=by
 induction l with
 |nil=>cases j
 |cons b r k=>
  simp only[eV,lX];have e:∀l:List i,(∀x∈l,f x<=g x)->(l.map f).sum<=(l.map g).sum:=by
   intro l
   induction l with
   |nil=>intro _;exact aT _
   |cons c s k=>intro h;simp only[eV,lX];have:=h c aQ;have:=k λx d=>h x (az _ d);lia
  rcases bK.mp j with rfl|j
  ·have:=e r λx d=>h x (az _ d);lia
  ·have:=k (λx d=>h x (az _ d)) j;exact aK (h b aQ) this
theorem zC(a:n<=6) f(h:k<=2^(jh n).countP f):k<Fh:=by
 have h1:(jh n).countP f<=36:=by refine aC List.countP_le_length ?_;have:n=0\/n=1\/n=2\/n=3\/n=4\/n=5\/n=6:=q8;rcases this with rfl|rfl|rfl|rfl|rfl|rfl|rfl<;>decide
 exact aK h (tz (fF rfl) h1)
theorem Lv.lessen(L:Lv n op kids told ed c w)(A:n<=6){a b x:Nat}{v:eR}(l:a<n)(r:b<n)(E:1<=x)(k:∀y,c a b=some y->x<y)(f:md op kids ed c a b x v)
 (hb2:x<=1\/oY λi j y B C z=>br (c i j=some y) (c B C=some z) (x<=y+z)):Lv n op kids told ed (eA c a b x) (eA w a b v)/\jZ n (eA c a b x)<jZ n c:=by
 have e:a≠b:=λq=>by subst q;exact uO (k 0 (L.3 a l))
 have t:∀p∈jh n,nX c p=true->nX (eA c a b x) p=true:=λp _ h=>by unfold nX at h⊢;refine aI (lU.mp h) λy F=>ac ((uU k) _ _ _ F) λH s _=>Z s ?_;rfl
 have u:x<=2^(jh n).countP (nX (eA c a b x)):=by
  cases h:c a b with
  |some y=>exact aC (eU (k y h)) (aC (L.5 a b y h) (tz (fF rfl) (List.countP_mono_left t)))
  |none=>
   rcases hb2 with q|⟨i,j,y,B,C,z,h1,m,o⟩
   ·exact aC q Nat.one_le_two_pow
   ·calc x<=y+z:=o
     _<=2^(jh n).countP _+2^(jh n).countP _:=iU (L.5 _ _ _ h1) (L.5 _ _ _ m)
     _=2^((jh n).countP _+1):=Z (Nat.pow_succ ..) sr
     _<=_:=tz (fF rfl) (te t (uS l r) (by unfold nX;refine Z h ?_;rfl) (by unfold nX eA;refine Z (ao ⟨rfl,rfl⟩) ?_;rfl))
 refine⟨⟨L.1,λi j y h=>?_,λi D=>?_,λi j y q h=>?_,λi j y h=>?_⟩,?_⟩
 ·unfold eA at h
  split at h
  ·rename_i q;refine a_ q λd g=>?_;clear q;subst d;subst g;exact⟨l,r⟩
  ·exact L.2 i j y h
 ·unfold eA;exact Z (ai (by rintro⟨rfl,q⟩;exact e q))<|L.3 i D
 ·by_cases z:i=a/\j=b
  ·refine a_ z λd g=>?_;clear z;subst d;subst g
   have:eA c i j x i j=some x:=ao ⟨rfl,rfl⟩;rw[this]at h;replace h:=aG h;subst h;exact⟨E,v,ao ⟨rfl,rfl⟩,(uU k).fits f⟩
  ·exact iH (L.4 i j y q (by unfold eA at h;rwa [ai z]at h)) λh1 G m o=>⟨h1,G,by unfold eA;exact Z (ai z) m,(uU k).fits o⟩
 ·by_cases z:i=a/\j=b
  ·refine a_ z λd g=>?_;clear z;subst d;subst g
   have:eA c i j x i j=some x:=ao ⟨rfl,rfl⟩;rw[this]at h;replace h:=aG h;subst h;exact u
  ·exact aC (L.5 i j y (by unfold eA at h;rwa [ai z]at h)) (tz (fF rfl) (List.countP_mono_left t))
 ·refine AO (λp _=>?_) (uS l r) ?_
  ·unfold wH eA
   by_cases z:p.1=a/\p.2=b
   ·refine Z (ao z)<|Z z.1<|Z z.2 ?_
    cases h:c a b with
    |none=>exact eU (zC A _ u)
    |some y=>exact eU (k y h)
   ·exact Z (ai z)<|aT _
  ·unfold wH eA
   refine Z (ao ⟨rfl,rfl⟩) ?_
   cases h:c a b with
   |none=>exact zC A _ u
   |some y=>exact k y h
theorem Lv.eq_of_zero(L:Lv n op kids told ed c w)(h:c a b=some 0):a=b:=by
 by_cases e:a=b
 ·exact e
 ·have:=(L.4 a b 0 e h).1;trivial
theorem Lv.like_pos(L:Lv n op kids told ed c w)(d:a<n)(f:b<n)(e:a≠b)(g:op a=op b)(l:(kids a).length=(kids b).length)(h:cI c ((kids a).zip (kids b))=some y):1<=y:=by
 refine Nat.pos_of_ne_zero λz=>e (L.1.6 a b d f g ?_);clear d f e g;subst z;apply List.ext_getElem l;intro i h1 m;have hz:i<((kids a).zip _).length:=Z eW q9;have j:=f_ hz;rw[iY]at j;refine ac (qz h _ j) λx k o=>?_;obtain rfl:x=0:=by exact BD
 exact L.eq_of_zero k
theorem Lv.rest(L:Lv n op kids told ed c w)(e:∀a b,told a b->a<n/\b<n)(f:∀i a b,ed i=some (a,b)->told a b)(g:∀a b,told a b->(∃x,c a b=some x/\x<=1)/\∃x,c b a=some x/\x<=1)
 (d:∀a b y,a<n->b<n->a≠b->Al n op kids told a b->op a=op b->(kids a).length=(kids b).length->cI c ((kids a).zip (kids b))=some y->∃x,c a b=some x/\x<=y)
 (h:∀a m b y z,Al n op kids told a m->Al n op kids told m b->c a m=some y->c m b=some z->∃x,c a b=some x/\x<=y+z):Cs n op kids told ed c w:=
 ⟨L.1,e,f,L.2,L.3,g,d,h,L.4⟩
end
def aX(l:List Nat)(i:Nat):Nat:=match l[i]? with
 |some x=>x
 |none=>0
def im(hs:List Nat)(a b:Nat):List Nat:=hs.map λh=>if h=max (aX hs a) (aX hs b)then min (aX hs a) (aX hs b)else h
theorem ku:(im hs a b).length=hs.length:=eH _
theorem qJ(h:i<hs.length):aX (im hs a b) i=if aX hs i=max (aX hs a) (aX hs b)then min (aX hs a) (aX hs b)else aX hs i:=by
 refine(?_:(match(im hs a b)[i]? with|some x=>x|none=>0)=_)
 refine Z eX ?_;refine Z (bJ h) ?_;refine Z (by unfold aX;exact Z (bJ h) rfl:aX hs i=hs[i]) ?_
 rfl
theorem LQ(c:i<hs.length)(d:j<hs.length)(h:aX hs i=aX hs j):aX (im hs a b) i=aX (im hs a b) j:=Z (qJ c)<|Z (qJ d)<|Z h rfl
theorem LR(c:a<hs.length)(d:b<hs.length):aX (im hs a b) a=aX (im hs a b) b:=by
 refine Z (qJ c)<|Z (qJ d) ?_
 by_cases e:aX hs a=aX hs b
 ·exact Z e rfl
 ·rcases gq _ _ with⟨q1,q2⟩|⟨q1,q2⟩
  ·exact Z q1<|Z q2<|Z (ai e)<|Z (ao rfl) rfl
  ·exact Z q1<|Z q2<|Z (ao rfl)<|Z (ai (λz=>e z.symm)) rfl
def oX(al:Nat->Nat->Prop)(hs:List Nat):Prop:=∀i j,i<hs.length->j<hs.length->aX hs i=aX hs j->al i j
theorem LP(o:∀a b c,d a b->d b c->d a c)(n:∀a b,d a b->d b a)(S:oX d hs)(p:a<hs.length)(r:b<hs.length)(h:d a b):oX d (im hs a b):=λi j f g e=>by
 rw[ku]at f g;rw[qJ f,qJ g]at e
 have l:∀x,x<hs.length->aX hs x=max _ _->d x a:=λx k q=>by
  rcases gq _ _ with⟨_,q2⟩|⟨_,q2⟩
  ·exact o _ _ _ (S x b k r (q.trans q2)) (n _ _ h)
  ·exact S x a k p (q.trans q2)
 have m:∀x,x<hs.length->aX hs x=min _ _->d x a:=λx k q=>by
  rcases gq _ _ with⟨q2,_⟩|⟨q2,_⟩
  ·exact S x a k p (q.trans q2)
  ·exact o _ _ _ (S x b k r (q.trans q2)) (n _ _ h)
 by_cases z:aX hs i=max (aX hs a) (aX hs b)
 ·rw[ao z]at e
  by_cases y:aX hs j=max (aX hs a) (aX hs b)
  ·exact S i j f g (z.trans y.symm)
  ·rw[ai y]at e
   exact o _ _ _ (l i f z) (n _ _ (m j g e.symm))
 ·rw[ai z]at e
  by_cases y:aX hs j=max (aX hs a) (aX hs b)
  ·rw[ao y]at e
   exact o _ _ _ (m i f e) (n _ _ (l j g y))
  ·rw[ai y]at e;exact S i j f g e
theorem HM(l:List Nat):(l.map λx=>x).sum=l.sum:=Z (List.map_id' ..) rfl
theorem LO:(im hs a b).sum<=hs.sum:=by
 have q:min _ _<=max (aX hs a) (aX hs b):=JZ;unfold im;generalize max _ (aX hs b)=g at q;generalize min _ (aX hs b)=k at q;generalize hs=l
 induction l with
 |nil=>exact aT _
 |cons x r c=>simp only[eV,lX];split<;>lia
theorem LN(c:a<hs.length)(d:b<hs.length)(e:aX hs a≠aX hs b):(im hs a b).sum<hs.sum:=by
 refine Z (HM hs).symm ?_;have h1:=xC;have f:max (aX hs a) (aX hs b)∈hs:=by
  rcases gq _ _ with⟨_,q⟩|⟨_,q⟩
  ·refine Z q ?_;unfold aX;refine Z (bJ d) ?_;exact f_ d
  ·refine Z q ?_;unfold aX;refine Z (bJ c) ?_;exact f_ c
 refine AO (λx _=>?_) f ?_
 ·split<;>lia
 ·exact Z (ao rfl) h1
def g4(nodes:List (Str×List Nat))(hs:List Nat)(i:Nat):Str×List Nat:=(bf nodes i,(aH nodes i).map (aX hs))
inductive jA(nodes:List (Str×List Nat))(hs:List Nat)(i:Nat)(fs:List ((Str×List Nat)×Nat))(ws:List (Nat×Nat)):Prop
 |mk(f1:∀j,j<i->∃f,fs.lookup (g4 nodes hs j)=some f/\(aX hs f≠aX hs j->(f,j)∈ws))(f2:∀k f,fs.lookup k=some f->f<i/\g4 nodes hs f=k)(f3:∀p∈ws,p.1<i/\p.2<i/\g4 nodes hs p.1=g4 nodes hs p.2/\aX hs p.1≠aX hs p.2)(f4:fs.length<=i)(f5:ws.length<=i)
section
variable{nodes:List (Str×List Nat)}{fs:List ((Str×List Nat)×Nat)}{ws:List (Nat×Nat)}
theorem jA.nil:jA nodes hs 0 [] []:=⟨λ_ h=>absurd h (Nat.not_lt_zero _),λ_ _ h=>by trivial,(λ_ h=>bx h),aT _,aT _⟩
theorem jA.old(F:jA nodes hs i fs ws)(h:fs.lookup (g4 nodes hs i)=some f):jA nodes hs (i+1) fs (if aX hs f=aX hs i then ws else ws++[(f,i)]):=by
 refine⟨λj b=>?_,λk f h=>?_,λp a=>?_,hO F.4,?_⟩
 ·by_cases e:j=i
  ·exact Z e<|(ad f h (λq=>Z (ai q) (bq _ aQ)))
  ·refine ac (F.1 j (cw b e)) λf' q1 q2=>(ad f' q1 (λq=>sQ (λc=>?_) (λc=>?_)))
   ·exact q2 q
   ·exact jt _ (q2 q)
 ·have:=F.2 k f h;exact⟨by lia,this.2⟩
 ·by_cases q:aX hs f=aX hs i
  ·rw[ao q]at a
   have:=F.3 p a;exact(bt (by lia) (by lia) this.2.2)
  ·rw[ai q]at a
   rcases cO.mp a with a|a
   ·have:=F.3 p a;exact(bt (by lia) (by lia) this.2.2)
   ·rw[b5]at a;exact Z a<|(dm (aE (F.2 _ _ h).1) (aT _) (F.2 _ _ h).2 q)
 ·split
  ·exact aE F.5
  ·simp;exact F.5
theorem jA.new(F:jA nodes hs i fs ws)(h:fs.lookup (g4 nodes hs i)=none):jA nodes hs (i+1) (fs++[(g4 nodes hs i,i)]) ws:=by
 refine⟨λj a=>?_,λk f h'=>?_,λp b=>?_,Z bM<|jp F.4,hO F.5⟩
 ·by_cases e:j=i
  ·subst e
   exact(ad j (by refine Z List.lookup_append<|Z h ?_;simp) (λq=>absurd rfl q))
  ·exact ac (F.1 j (cw a e)) λf' q1 q2=>(ad f' (by refine Z List.lookup_append<|Z q1 ?_;rfl) q2)
 ·rw[List.lookup_append]at h'
  cases e:fs.lookup k with
  |some c=>rw[e]at h';cases h';have:=F.2 k f e;exact⟨by lia,this.2⟩
  |none=>
   rw[e]at h';rw[fk]at h'
   split at h'
   ·rename_i q;replace h':=aG h';subst h';exact⟨jq _,(eq_of_beq q).symm⟩
   ·cases h'
 ·have:=F.3 p b;exact(bt (by lia) (by lia) this.2.2)
theorem IU(G:Gr n (bf nodes) (aH nodes))(l:hs.length=n)(S:oX (Al n (bf nodes) (aH nodes) d) hs)(g:a<n)(h:b<n)(e:g4 nodes hs a=g4 nodes hs b):Al n (bf nodes) (aH nodes) d a b:=by
 have f:(aH _ a).map _=(aH _ b).map _:=bg Prod.snd e;have c:=by simpa using(bg List.length f)
 refine .cong g h (bg Prod.fst e) c λp k=>?_;obtain⟨i,j,rfl⟩:=List.getElem_of_mem k;rw[eW]at j;refine Z iY ?_;have m:(aH nodes a)[i]'(by lia)<n:=dZ (G.4 a g _ (f_ _)) G.1
 have o:(aH nodes b)[i]'(by lia)<n:=dZ (G.4 b h _ (f_ _)) G.1
 refine S _ _ (by lia) (by lia) ?_
 have h1:((aH nodes a).map (aX hs))[i]'(by refine Z aY ?_;lia)=((aH nodes b).map (aX hs))[i]'(by refine Z aY ?_;lia):=by simp only[f]
 rwa [l6,l6]at h1
theorem Ng(G:Gr n (bf nodes) (aH nodes))(d:∀a b,told a b->a<n/\b<n)(o:hs.length=n)(S:oX (Al n (bf nodes) (aH nodes) told) hs)(q:∀a b,told a b->aX hs a=aX hs b)
 (F:jA nodes hs n fs [])(c:a<n)(l:b<n):aX hs a=aX hs b↔Al n (bf nodes) (aH nodes) told a b:=by
 refine⟨λe=>S a b (aC c (aA o.symm)) (aC l (aA o.symm)) e,λh=>?_⟩;have m:∀a b,Al n (bf nodes) (aH nodes) told a b->a<n->b<n/\aX hs a=aX hs b:=by
  intro a b h
  induction h with
  |refl a=>intro c;exact⟨c,rfl⟩
  |told h=>intro _;exact⟨(d _ _ h).2,q _ _ h⟩
  |back h=>intro _;exact⟨(d _ _ h).1,(q _ _ h).symm⟩
  |@cong a b c l t k _ s=>
   refine λ_=>⟨l,?_⟩;have e:g4 nodes hs a=g4 nodes hs b:=by
    unfold g4
    congr 1
    apply List.ext_getElem (by exact Z aY<|Z aY k)
    refine λi h1 r=>Z (l6 ..)<|Z (l6 ..) ?_;rw[eH]at h1 r;have hz:i<((aH _ a).zip _).length:=Z eW q9;have p:=f_ hz;rw[iY]at p;exact(s _ p (dZ (G.4 a c _ (f_ _)) G.1)).2
   have g:∀f j,(f,j)∉([]:List (Nat×Nat)):=λ_ _ h=>bx h;refine ac (F.1 a c) λf q1 q2=>ac (F.1 b l) λf' q3 q4=>?_;rw[e,q3]at q1
   cases q1
   exact Z ((Decidable.byContradiction λz=>g _ _ (q2 z))).symm<|Z ((Decidable.byContradiction λz=>g _ _ (q4 z))) rfl
  |trans _ _ x y=>exact λc=>⟨(y (x c).1).1,(x c).2.trans (y (x c).1).2⟩
 exact(m a b h c).2
end
inductive kO(ia:List Nat->List Nat):PS->Ch->PS->Prop
 |made{s:PS}{w:List Nat}{op:Str}{ks:List Nat}(G:Gd s s.n w)(h2:∀k∈ks,k<3)(h3:ks.length<=2)(h4:(op,ks)∉s.nodes):kO ia s (.made s.n) (s.added op ks (ia (ks.map s.rt)))
 |known{s:PS}{mk n:Nat}{w:List Nat}(G:Gd s mk w)(hn:n<s.n)(h:s.kn.lookup (s.sig n)=none):kO ia s (.known (s.sig n)) (s.knew n)
 |edge{s:PS}{mk a b:Nat}{w:List Nat}{lab:Option Nat}(G:Gd s mk w)(ha:a<s.n)(hb:b<s.n):kO ia s (.edge (min (s.rt a) (s.rt b)) (ay s.use (min (s.rt a) (s.rt b))).length (max (s.rt a) (s.rt b))) (s.joined a b lab)
structure ec where
 s0:PS
 c:Ch
 l:Nat
def rj(s:PS)(g:Nat):Prop:=∃p,s.up[g]?=some p/\p≠g
inductive fG(ia:List Nat->List Nat):List ec->PS->List Nat->Prop
 |nil{s:PS}{ul:List Nat}:fG ia [] s ul
 |snoc{rs:List ec}{r:ec}{s:PS}{ul ul':List Nat}(h:fG ia rs r.s0 ul)(t:kO ia r.s0 r.c s)(a:∀g,rj r.s0 g->ul'[g]?=ul[g]?)(e:∀k many g,r.c=.edge k many g->k≠g->ul'[g]?=some r.l):fG ia (rs++[r]) s ul'
section
variable{ia:List Nat->List Nat}
theorem pM(G:Gd s mk w){a:Nat}(b:a<s.n):s.up[s.rt a]?=some (s.rt a):=g6 G.5 (Z G.1 b)
theorem io(G:Gd s mk w)(c:a<s.n)(d:b<s.n):s.up[min (s.rt a) (s.rt b)]?=some (min (s.rt a) (s.rt b))/\s.up[max (s.rt a) (s.rt b)]?=some (max (s.rt a) (s.rt b)):=by have e:=pM G c;have f:=pM G d;rcases gq _ _ with⟨q,q2⟩|⟨q,q2⟩<;>(refine Z q<|Z q2 ?_)<;>exact⟨by assumption,by assumption⟩
theorem kO.dead{c:Ch}(t:kO ia s c s')(h:rj s g):rj s' g:=by
 refine ac h λp h1 d=>?_;clear h;refine(ad p ?_ d)
 cases t with
 |made G _ _ _=>refine Z (cu (bV.mp h1).1) ?_;exact h1
 |known G i h=>exact h1
 |@edge _ a b _ lab G e f=>
  unfold PS.joined;dsimp only
  split
  ·exact h1
  ·rewrite[d6];exact h1
   intro z;have:=(io G e f).2;rw[z]at this;rw[h1]at this;exact d (aG this)
theorem kO.dead_edge(t:kO ia s (.edge k many g) s')(e:k≠g):rj s' g/\s.up[k]?=some k:=by
 generalize h:Ch.edge k _ g=c at t
 cases t with
 |@edge _ a b _ lab G d f=>
  cases h
  refine⟨(ad _ ?_ e),(io G d f).1⟩;unfold PS.joined;refine Z (ai e) ?_;rewrite[kR];rfl;exact(bV.mp (io G d f).2).1
 |_=>cases h
theorem fG.agree(h:fG ia rs s ul)(a:∀g,rj s g->ul'[g]?=ul[g]?):fG ia rs s ul':=by
 cases h with
 |nil=>exact .nil
 |snoc h t b e=>refine .snoc h t (λg q=>(a g (t.dead q)).trans (b g q)) λk many g d f=>?_;rw[d]at t;exact(a g (t.dead_edge f).1).trans (e k _ g d f)
theorem fG.last(h:fG ia (d++[r]) s ul'):∃f,dQ (fG ia d r.s0 f) (kO ia r.s0 r.c s) ((∀g,rj r.s0 g->ul'[g]?=f[g]?)) (∀k many g,r.c=.edge k many g->k≠g->ul'[g]?=some r.l):=by
 generalize c:d++[r]=q at h
 cases h with
 |nil=>simp at c
 |snoc h t a e=>have:=List.append_inj' c rfl;refine a_ this λi j=>?_;clear this;refine Z i ?_;clear c;cases j;exact(gP _ h t a e)
def gX(rs:List ec)(p:Nat)(s:PS):PS:=match rs[p]? with
 |some r=>r.s0
 |none=>s
theorem pH:gX rs rs.length s=s:=by unfold gX;exact Z (ju (aT _)) rfl
theorem A0{p:Nat}(h:p<=rs.length):gX (rs++[r]) p s=gX rs p r.s0:=by
 unfold gX
 by_cases e:p=rs.length
 ·refine Z e<|Z (l9 (aT _)) ?_;refine Z (lW ..)<|Z (ju (aT _)) ?_;rfl
 ·refine Z (cu (iT h e)) ?_
  exact Z (bJ (iT h e)) rfl
def gb(rs:List ec)(s:PS)(rs':List ec)(s':PS):Prop:=∃ex,rs'=rs++ex/\gX rs' rs.length s'=s
theorem gb.refl:gb rs s rs s:=(ad [] (bZ _).symm pH)
theorem gb.at(h:gb rs s rs' s'){p:Nat}(d:p<=rs.length):gX rs' p s'=gX rs p s:=by
 refine ac h λf a q=>?_;clear h;subst a
 by_cases e:p=rs.length
 ·exact Z e<|Z q<|Z pH rfl
 ·unfold gX
  refine Z (cu (iT d e)) ?_;exact Z (bJ (iT d e)) rfl
theorem gb.trans(x:gb e s rs' s')(y:gb rs' s' rs'' d):gb e s rs'' d:=by have f:=x;refine ac x λh h1 q1=>?_;clear x;have g:=y;refine ac y λi b q2=>?_;clear y;subst b;exact(ad _ (Z h1<|Z cq rfl) (Z (g.at (Z h1<|Z bM<|dq _ _)) (Z (f.at (aT _))<|Z pH rfl)))
theorem gb.snoc:gb rs r.s0 (rs++[r]) s':=(ad _ rfl (Z (A0 (aT _))<|Z pH rfl))
def PS.msr(s:PS)(w:Nat):Nat:=s.roots*(s.tot+1)+w
theorem Gd.msr_joined(G:Gd s mk wait)(d:a<s.n)(f:b<s.n)(e:s.rt a≠s.rt b) w:
 (s.joined a b lab).msr (w+(ay s.use (max (s.rt a) (s.rt b))).length)+1<=s.msr (w+1):=by
 refine a_ (G.tot_joined (lab:=lab) d f) λh1 c=>?_;unfold PS.msr;refine Z h1 ?_;have:((s.joined a b _).roots+1)*(s.tot+1)<=s.roots*(s.tot+1):=Nat.mul_le_mul_right _ (c e).1
 lia
theorem PS.roots_le(s:PS):s.roots<=s.n:=aC List.countP_le_length (by simp)
theorem rP(a:r<s.n)(h:s.up[r]?=some r):(ay s.use r).length<=s.tot:=by
 have:=AP (f:=λr=>if s.up[r]?=some r then(ay s.use r).length else 0) a
 rw[ao h]at this;exact this
end
variable{rs:List ec}
theorem HN{c:Nat}(h1:f' c<=f c+1)(b:∀i,i≠c->f' i=f i) n:((List.range n).map f').sum<=((List.range n).map f).sum+1/\(n<=c->((List.range n).map f').sum=((List.range n).map f).sum):=by
 induction n with
 |zero=>exact⟨af,λ_=>rfl⟩
 |succ n a=>
  refine Z List.range_succ<|Z bz<|Z bz<|Z m8<|Z m8 ?_;simp only[eV,List.map_nil,lX];refine⟨?_,λh=>?_⟩
  ·by_cases e:n=c
   ·have:=a.2 ((aA e));subst e;exact aK (aA this) h1
   ·exact aK a.1 (aA (b n e))
  ·have:=a.2 (aE h);have:=b n (bI h);lia
def mC(up:List Nat)(n:Nat)(u:List (List Nat)):Nat:=((List.range n).map λr=>if up[r]?=some r then(ay u r).length else 0).sum
theorem Hd{cs:List Nat}(h:∀c∈cs,c<u.length):mC up n (ix x cs u)<=mC up n u+cs.length:=by
 induction cs generalizing u with
 |nil=>exact aT _
 |cons c r a=>
  have b:=h c aQ;have d:=a (u:=u.set c (ay u c++[x])) λj f=>Z dP<|h j (az _ f)
  have:=(HN (f':=λr=>if up[r]?=some r then(ay (u.set c (ay u c++[x])) r).length else 0)
   (by refine Z (gz b ..)<|Z (ao rfl)<|Z bM ?_;simp only[bU,lZ];split<;>lia) (λi e=>Z (gz b ..)<|Z (ai e) rfl) n).1
  refine(?_:mC up n (ix x r _)<=_);refine Z bU ?_;unfold mC at d⊢;exact aK d this
theorem Gd.tot_added(G:Gd s mk w){op:Str}(b:∀c∈cs,c<s.n):(s.added op ks cs).tot<=s.tot+cs.length:=by
 have h1:=Hd (up:=s.up++[s.n]) (n:=s.n+1) (x:=s.n) (u:=s.use++[[]]) λc h=>Z bM<|Z G.3<|aE (b c h);have e:mC (s.up++[s.n]) (s.n+1) (s.use++[[]])=s.tot:=by
  unfold mC PS.tot;refine Z List.range_succ<|Z bz ?_
  have:((List.range s.n).map λr=>if(s.up++[s.n])[r]?=some r then(ay (s.use++[[]]) r).length else 0)=(List.range s.n).map λr=>if s.up[r]?=some r then(ay s.use r).length else 0:=by refine j0 λr a=>Z (cu (Z G.1<|(gG.mp a))) ?_;exact Z kJ<|Z (ai (show¬r=s.use.length by exact Z G.3<|bI (gG.mp a))) rfl
  refine Z this ?_;simp only[eV];refine Z kJ<|Z (ao G.3.symm) ?_;simp
 rw[e]at h1;have:(s.added op ks cs).tot=mC (s.up++[s.n]) (s.n+1) (ix s.n cs (s.use++[[]])):=by unfold PS.tot mC PS.n PS.added;simp only[bM,List.length_singleton]
 exact Z this h1
def s3(a b c:Str):PS:={nodes:=[(a,[]),(b,[]),(c,[])],up:=[0,1,2],lot:=[[0],[1],[2]],use:=[[],[],[]],mg:=[],ed:=[],fo:=[],kn:=[((a,[]),0),((b,[]),1),((c,[]),2)]}
theorem lE(h:i<3):i=0\/i=1\/i=2:=q6
section
variable{a b c:Str}
theorem rV i:aH (s3 a b c).nodes i=[]:=by
 match i with
 |0=>rfl
 |1=>rfl
 |2=>rfl
 |i+3=>rfl
theorem Bt i:ay (s3 a b c).use i=[]:=by
 match i with
 |0=>rfl
 |1=>rfl
 |2=>rfl
 |i+3=>rfl
theorem xq(h:i<3):(s3 a b c).rt i=i:=by rcases lE h with rfl|rfl|rfl<;>exact pN rfl
theorem Jo(f:a≠b)(g:a≠c)(m:b≠c):Gd (s3 a b c) 3 []:=
 ⟨rfl,rfl,rfl,(⟨aT _,λi _=>rV i,λi h1 s=>absurd s ux,λi _ k n=>by rw[rV]at n;(cases n),λi=>Z (rV ..)<|eT _,λi j t u d _=>by
  rcases lE t with rfl|rfl|rfl<;>rcases lE u with rfl|rfl|rfl<;>first|rfl|exact absurd d f|exact absurd d g|exact absurd d m|exact absurd d.symm f|exact absurd d.symm g|exact absurd d.symm m⟩),(λi x h=>by
  rcases lE ((bV.mp h).1:i<3)with rfl|rfl|rfl<;>exact aA (aG h).symm),(λi h=>Z (xq h)<| .refl _),(λk v h=>by
  have h:(k,v)∈[((a,[]),0),((b,[]),1),((c,[]),2)]:=h;simp only[bK,oU,or_false]at h;rcases h with h|h|h<;>cases h<;>exact(dm (by refine(?_:_<3);trivial) rfl rfl (λp w=>by cases w))),(by
  refine(?_:([(a,[]),(b,[]),(c,[])]).Nodup);simp[f,g,m]),(λx y q=>(by refine aI q λl h=>?_;clear q;exact by cases h)),(λi h=>by
  refine .inl ⟨i,?_,rfl⟩;have e:(s3 a b c).sig i=(bf (s3 a b c).nodes i,[]):=by unfold PS.sig;refine Z (rV ..) ?_;rfl
  refine(?_:List.lookup _ [((a,([]:List Nat)),0),((b,[]),1),((c,[]),2)]=some i);rcases lE h with rfl|rfl|rfl
  ·show List.lookup (a,[]) _=_;simp
  ·show List.lookup (b,[]) _=_
   refine Z fk<|Z (beq_false_of_ne (λz=>f (bg Prod.fst z).symm)) ?_;simp
  ·show List.lookup (c,[]) _=_
   refine Z fk<|Z (beq_false_of_ne (λz=>g (bg Prod.fst z).symm))<|Z fk<|Z (beq_false_of_ne (λz=>m (bg Prod.fst z).symm)) ?_;simp),(λi _ k n=>by rw[rV]at n;cases n),(λr i t=>by rw[Bt]at t;exact bx t),(λr o x=>by
  have:x∈ay (s3 a b c).lot r↔x=r:=by rcases lE (bV.mp o).1 with rfl|rfl|rfl<;>exact b5
  rewrite[this];exact⟨λe=>by clear f g m this;exact Z e<|⟨(bV.mp o).1,xq (bV.mp o).1⟩,λq=>(by refine a_ q λh1 s=>?_;clear q;exact by rw[xq h1]at s;exact s)⟩),(λr o=>by
  have A:r<3:=(bV.mp o).1;rcases lE A with rfl|rfl|rfl<;>exact eF.mpr ⟨oU,List.nodup_nil⟩),(λr=>by
  cases r with
  |zero=>exact(by decide:1<=3)
  |succ r=>cases r with
   |zero=>exact(by decide:1<=3)
   |succ r=>cases r with
    |zero=>exact(by decide:1<=3)
    |succ r=>exact eT _),(aT _),(λi h=>bx h),(aT _)⟩
end
end
section
variable{B:bB}{np d l a b c i j p N M z D ep lp:Nat}{m:av}{Q P:aS}{x v gone:V}{t pre:List V}{R F L T A C RO SS:List (Nat×O)}{up ll ks xs hs:List Nat}{o op:Str}{nodes:List (Str×List Nat)}{src:bY}{lot:List (List Nat)}{lab:Option Nat}{J:bh}{rs:List ec}{w:Nat×O}{ws:List (Nat×Nat)}{v0:Option V}{evs:List (Nat×Nat×Nat)}
inductive Hx(B:bB):Prop
 |mk(N:B.N=cH fe dN)(fns:uJ B.K=true)(sup:B9 B.K B.prog=true)(pap:Cb B.K=true)(cls:Ce B.K=true)
theorem bv(H:Hx B)(i:Nat)(a:yY[i]?=some (f,np,nl,y))(b:vs.length=np)
 (q:(bu B d y).ss (vs.map some++List.replicate (nl-np) none) m (dY Q)):aP B (d+1) f vs m Q:=EF H.1 (Lw H.2 i a) b q
section
variable{n:Nat}{l:List V}
theorem Bp(h:a<n):seqIndex? a n=some a:=by unfold seqIndex?;simp only[(by lia:¬((a:Int)<0)),if_false,(by simp;exact h:((0:Int)<=a&&decide ((a:Int)<n))=true),if_true,Int.toNat_natCast]
theorem cU(h:l[a]?=some x):ja l a=some x:=by unfold ja;refine Z (Bp (bV.mp h).1) ?_;exact h
theorem yi{l:List Nat}(h:l[a]?=some b):(nV l)[a]?=some (.int b):=by refine Z eX ?_;refine Z h ?_;rfl
theorem a9{l:List Nat}:(nV l).length=l.length:=eH _
theorem cZ(h:m[n]?=some (.list l))(a:l.length<=10000)(b:ja l k=some x)(q:Q x m):jQ (.loc n) (.int k) m Q:=⟨h,x,aF a,b,q⟩
theorem nB{l:List (List bR×V)}(h:m[n]?=some (.tdict l))(a:e6 t=some k)(b:bO k l=some x)(q:Q x m):jQ (.loc n) (.tup t) m Q:=⟨h,d8 a (d8 b q)⟩
theorem la{l:List (Int×V)}(h:m[n]?=some (.idict l))(a:bO k l=some x)(q:Q x m):jQ (.loc n) (.int k) m Q:=⟨h,d8 a q⟩
theorem Gu{l:List (Str×V)}(h:m[n]?=some (.sdict l))(a:bO k l=some x)(q:Q x m):jQ (.loc n) (.str k) m Q:=⟨h,d8 a q⟩
theorem wu{R:bY}(h:m[n]?=some (.list l))(b:l.length<=10000)(a:k<l.length)(q:R (m.set n (.list (l.set k v)))):hZ (.loc n) (.int k) v m R:=⟨h,k,aF b,Bp a,q⟩
theorem tS{l:List (List bR×V)}{R:bY}(h:m[n]?=some (.tdict l))(a:e6 t=some k)(b:l.length<=10000)(q:R (m.set n (.tdict (c_ k v l)))):hZ (.loc n) (.tup t) v m R:=⟨h,k,a,b,q⟩
theorem nw{l:List (Int×V)}{R:bY}(h:m[n]?=some (.idict l))(a:l.length<=10000)(q:R (m.set n (.idict (c_ k v l)))):hZ (.loc n) (.int k) v m R:=⟨h,a,q⟩
theorem tT{l:List (Str×V)}{R:bY}(h:m[n]?=some (.sdict l))(a:l.length<=10000)(q:R (m.set n (.sdict (c_ k v l)))):hZ (.loc n) (.str k) v m R:=⟨h,a,q⟩
theorem Aa{l:List (Int×V)}(h:m[n]?=some (.idict l))(b:bO k l=some x)(a:l.length<=10000)(q:Q x (m.set n (.idict (fZ k l)))):lN [.loc n,.int k] m Q:=⟨h,x,b,a,q⟩
theorem z_{l:List (List bR×V)}(h:m[n]?=some (.tdict l))(a:e6 t=some k)(c:bO k l=some x)(b:l.length<=10000)(q:Q x (m.set n (.tdict (fZ k l)))):lN [.loc n,.tup t] m Q:=⟨h,k,x,a,c,b,q⟩
theorem rK{l:List (List bR×V)}(h:m[n]?=some (.tdict l))(a:e6 t=some k)(q:Q (.bool (neg^^(bO k l).isSome)) m):lI neg (.tup t) (.loc n) m Q:=⟨h,d8 a q⟩
theorem Gs{l:List (Int×V)}(h:m[n]?=some (.idict l))(q:Q (.bool (neg^^(bO k l).isSome)) m):lI neg (.int k) (.loc n) m Q:=⟨h,q⟩
theorem mv{a b:Int}(q:Q (.bool (neg^^decide (a=b))) m):qt neg (.int a) (.int b) m Q:=⟨rfl,rfl,q⟩
end
theorem vz(H:Hx B){F:List (Nat×V)}{a:Nat}(h1:m[u]?=some (.fields F))(g:dG 5 F=some (.loc s))(h:m[s]?=some (.list (nV up)))(lo:dr up)(j:a<up.length)(hs:up.length<=10000)
 (q:Q (.int (bi up a)) m):aP B (d+1) 334 [.obj 2 u,.int a] m Q:=by
 refine bv H 22 rfl rfl ?_
 have p:∀(i b:Nat) R,up[i]?=some b->R (.int b) m->(au B d (.sub k_ ax)).e [some (.obj 2 u),some _] m R:=λi b R f r=>⟨h1,d8 g (cZ h (Z a9 hs) (cU (yi f)) r)⟩
 refine(cP (λn J o=>o=m/\J=[some _,some (.int n)]/\n<up.length/\bi up n=bi up a) a (dm rfl rfl j rfl) ?_);rintro n J o ⟨rfl,rfl,f,k⟩;have c:=bJ f;have st:=mE lo c;have l:=lo _ _ c;generalize up[n]=b at c st l;refine p n b _ c (mv (eE ?_))
 by_cases e:b=n
 ·clear H g lo j hs h1 h f;subst e
  refine Z (ai (by simp)) ?_
  rw[ao rfl]at st;exact(by rw[<-k,st]at q;exact q)
 ·refine Z (ao (by simp;lia)) ?_
  refine p n b _ c ⟨b,iT l e,rfl,rfl,ut,?_⟩;rw[ai e]at st;exact Z st.symm<|Z k rfl
inductive ae(L:List (Nat×O))(m:av):Prop
 |mk(nd:(L.map (·.1)).Nodup)(at_:∀(i c:Nat)(o:O),L[i]?=some (c,o)->m[c]?=some o)
section
variable{L':List (Nat×O)}{o o':O}
theorem ae.get(W:ae L m)(i:Nat)(h:L[i]?=some (c,o)):m[c]?=some o:=W.2 i c o h
theorem ae.mem(W:ae L m)(h:(c,o)∈L):m[c]?=some o:=by refine aI (List.getElem?_of_mem h) λi a=>?_;exact W.2 i c o a
theorem Mb(h:L[i]?=some (c,o)):(L.set i (c,o')).map (·.1)=L.map (·.1):=by
 refine Z List.map_set<|List.ext_getElem? λj=>Z l8 ?_
 split
 ·rename_i e
  subst e;refine Z aY<|Z (ao (bV.mp h).1) ?_;refine Z eX ?_;refine Z h ?_;rfl
 ·rfl
theorem ae.set(W:ae L m) i(h:L[i]?=some (c,o)) o':ae (L.set i (c,o')) (m.set c o'):=by
 refine⟨Z (Mb h) W.1,λj d p a=>?_⟩;rw[l8]at a
 split at a
 ·rename_i e
  refine jc a (λb a=>?_) (λb a=>?_)
  ·replace a:=ji (aG a);obtain⟨rfl,rfl⟩:=a;exact Z (kR (bV.mp (W.2 i c o h)).1) rfl
  ·cases a
 ·rename_i e
  have:c≠d:=λz=>by
   subst z;have h1:(L.map (·.1))[i]?=some c:=jR h
   exact e ((List.getElem?_inj (bV.mp h1).1 W.1).mp (h1.trans (jR a:(L.map _)[j]?=some c).symm))
  refine Z (d6 this) ?_;exact(W.2 j d p a)
theorem ae.app(W:ae L m) g:ae L (m++g):=⟨W.1,λi c o h=>by refine Z (cu (bV.mp (W.2 i c o h)).1) ?_;exact(W.2 i c o h)⟩
theorem ae.fresh(W:ae L m):m.length∉L.map (·.1):=λh=>by refine ac (bT.mp h) λp a e=>?_;have:=W.mem a;rw[e]at this;exact absurd (bV.mp this).1 (jY _)
theorem ae.new(W:ae L m) o:ae ((m.length,o)::L) (m++[o]):=by
 refine⟨eF.mpr ⟨W.fresh,W.1⟩,λi c p h=>?_⟩
 match i,h with
 |0,h=>replace h:=ji (aG h);refine a_ h λa b=>?_;clear h;subst a;subst b;exact z2
 |i+1,h=>exact(W.app _).2 i c p h
theorem ae.sub(W:ae L m)(h:L'.Sublist L):ae L' m:=⟨(h.map _).nodup W.1,λi c o e=>W.mem (h.subset (bN e))⟩
theorem ae.perm(W:ae L m)(h:L'.Perm L):ae L' m:=⟨((h.map _).nodup_iff).mpr W.1,λi c o e=>W.mem (h.subset (bN e))⟩
end
def cA(p:Str×List Nat):V:=.tup (.str p.1::nV p.2)
def iP:List (Nat×V):=[(11,.loc 6),(12,.loc 7),(13,.loc 8),(14,.loc 9)]
def iC:List (Nat×V):=[(5,.loc 11),(15,.loc 12),(16,.loc 13)]
def ky(wl backs made:Nat):List (Nat×V):=[(0,.obj 1 5),(1,.obj 2 10),(2,.loc 14),(3,.loc 15),(4,.loc 16),(5,.loc 17),(6,.loc wl),(7,.int backs),(8,.loc 19),(9,.loc 20),(10,.int made)]
theorem uQ{l:List (Str×List Nat)}{i:Nat}(h:i<l.length):(l.map cA)[i]?=some (.tup (.str (bf l i)::nV (aH l i))):=by refine Z eX ?_;refine Z (bJ h) ?_;refine Z (p_ h) ?_;rfl
theorem xN(H:Hx B)(a:m[5]?=some (.fields iP))(b:m[6]?=some (.list (nodes.map cA)))(f:n<nodes.length)(e:nodes.length<=1000)(c:(aH nodes n).length<=2)
 (q:Q (.str (bf nodes n)) m):aP B (d+1) 252 [.obj 1 5,.int n] m Q:=bv H 15 rfl rfl<|⟨a,cZ b (bH e) (cU (uQ f)) (⟨_,Z bU<|Z a9<|cV c,cU rfl,q⟩)⟩
theorem sM(H:Hx B)(a:m[5]?=some (.fields iP))(b:m[6]?=some (.list (nodes.map cA)))(f:n<nodes.length)(e:nodes.length<=1000)(c:(aH nodes n).length<=2)
 (q:Q (.tup (nV (aH nodes n))) m):aP B (d+1) 259 [.obj 1 5,.int n] m Q:=bv H 16 rfl rfl<|⟨a,cZ b (bH e) (cU (uQ f)) (⟨by trivial,Z bU rY,Z bU<|Z a9<|cV c,q⟩)⟩
section
variable{F:List (Nat×V)}
theorem cj(m:av) o:(m++[o])[m.length]?=some o:=gN
theorem lJ(H:Hx B)(e:m[4]?=some (.fields F))(g:dG 1 F=some (.obj 2 10))(b:m[10]?=some (.fields iC))(c:m[11]?=some (.list (nV up)))(lo:dr up)(f:a<up.length)(hs:up.length<=1000)
 (q:Q (.int (bi up a)) m):aP B (d+2) 431 [.obj 0 4,.int a] m Q:=bv H 34 rfl rfl<|⟨e,d8 g ⟨b,vz H b rfl c lo f (aF hs) q⟩⟩
theorem vG{k:Type}{g f:k->V}{c:k->Bool}{l:DB}{n:DE}{rest:bh}{R:cD}(a:src m):∀(xs:List k) acc l0 l1,(∀x∈xs,∀l0 (Y:aS)(N:bY),(c x=true->Y (f x) m)->(c x=false->N m)->l (l0::some (g x)::rest) m λb m=>if b then n (l0::some (g x)::rest) m Y else N m)->
 acc.length+xs.length<=10000->R (acc++(xs.filter c).map f) m->cR (au B d ax).t src l n (xs.map g) acc (l0::l1::rest) m R:=by
 intro xs
 induction xs with
 |nil=>exact λacc _ _ _ _ q=>⟨a,Z (bZ acc).symm q⟩
 |cons x xs o=>
  intro acc l0 l1 h i q;have h':=λj p=>h j (az _ p);rw[List.filter_cons]at q;rw[bU]at i;refine⟨a,h x aQ l0 _ _ (λe=>?_) (λe=>?_)⟩
  ·rw[ao e]at q
   exact⟨cN i,o _ _ _ h' (Z bM<|aE i) (Z cq q)⟩
  ·rw[ai (by exact Z e Bool.false_ne_true)]at q
   exact o _ _ _ h' (aE i) q
theorem lP{c:Type}{g f:c->V}{b:DE}{rest:bh}{R:cD}(a:src m)(xs:List c)(acc:List V)(l0 l1)(h:∀x∈xs,∀l0 P,P (f x) m->b (l0::some (g x)::rest) m P)(e:acc.length+xs.length<=10000)(q:R (acc++xs.map f) m):
 cR (au B d ax).t src (λ_ m Q=>Q true m) b (xs.map g) acc (l0::l1::rest) m R:=
 vG a xs _ l0 l1 (λx i l0 _ _ y _=>h x i l0 _ (y rfl)) e (Z (List.filter_eq_self.mpr λ_ _=>rfl) q)
theorem zf(H:Hx B)(f:m[4]?=some (.fields F))(g:dG 1 F=some (.obj 2 10))(b:m[10]?=some (.fields iC))(c:m[11]?=some (.list (nV up)))(lo:dr up)(hs:up.length<=1000)(a:src m){R:cD}:
 ∀ks acc l0 l1,(∀k∈ks,k<up.length)->acc.length+ks.length<=1000->R (acc++nV (ks.map (bi up))) m->
  cR (au B (d+2) ax).t src (λ_ m Q=>Q true m) (au B (d+2) tU).e (nV ks) acc [l0,l1,some (.obj 0 4)] m R:=λks acc l0 l1 i j q=>lP a ks _ l0 l1 (λk h _ _ q=>⟨f,lJ H f g b c lo (i k h) hs q⟩) (aF j) (by unfold nV at q;rw[eG]at q;exact q)
theorem uL(H:Hx B)(g:m[4]?=some (.fields F))(o:dG 1 F=some (.obj 2 10))(b:dG 0 F=some (.obj 1 5))(c:m[5]?=some (.fields iP))(h:m[6]?=some (.list (nodes.map cA)))(e:m[10]?=some (.fields iC))(f:m[11]?=some (.list (nV up)))
 (lo:dr up)(j:n<nodes.length)(i:nodes.length<=1000)(r:up.length<=1000)(a:(aH nodes n).length<=2)(p:∀k∈aH nodes n,k<up.length)
 (q:∀l,Q (.tup (.str (bf nodes n)::nV ((aH nodes n).map (bi up)))) (m++[.list l])):aP B (d+4) 407 [.obj 0 4,.int n] m Q:=bv H 30 rfl rfl<|⟨g,d8 b ⟨c,xN H c h j i a ⟨af,(⟨g,d8 b ⟨c,sM H c h j i a (zf H g o e f lo r trivial _ [] _ _ p (by simp;exact aF a) (⟨_,cj _ _,Z a9<|bH a,(⟨Z a9<|Z aY<|jN a,q _⟩)⟩))⟩⟩)⟩⟩⟩
end
def cE{K α:Type}[DecidableEq K](k:K)(v:α):List (K×α)->List (K×α)
 |[]=>[(k,v)]
 |(x,y)::r=>if x=k then(x,v)::r else(x,y)::cE k v r
theorem xF{K a:Type}[DecidableEq K](k:K)(v:a)(p:K×a)(r:List (K×a)):cE k v (p::r)=if p.1=k then(p.1,v)::r else p::cE k v r:=rfl
def a5{K α:Type}[DecidableEq K](k:K):List (K×α)->Option α
 |[]=>none
 |(x,v)::r=>if x=k then some v else a5 k r
def fY{K α:Type}[DecidableEq K](k:K)(l:List (K×α)):List (K×α):=l.filter λp=>decide (p.1≠k)
section
variable{K K' α:Type}[DecidableEq K][DecidableEq K']{f:K->K'}{g:α->V}
def fa(f:K->K')(g:α->V)(l:List (K×α)):List (K'×V):=l.map λp=>(f p.1,g p.2)
theorem eN(c:∀a b,f a=f b->a=b) k:∀l:List (K×α),bO (f k) (fa f g l)=(a5 k l).map g:=by
 intro l
 induction l with
 |nil=>exact rfl
 |cons d r h=>
  exact by
   refine(?_:(if f _=f k then some _ else bO _ (fa f g r))=(if d.1=k then some _ else a5 k r).map g)
   by_cases e:d.1=k
   ·refine Z e<|Z (ao rfl)<|Z (ao rfl) ?_;rfl
   ·exact Z (ai (λq=>e (c _ _ q)))<|Z (ai e) h
theorem lm(c:∀a b,f a=f b->a=b) k v:∀l:List (K×α),c_ (f k) (g v) (fa f g l)=fa f g (cE k v l):=by
 intro l
 induction l with
 |nil=>rfl
 |cons p r d=>
  obtain⟨x,y⟩:=p;refine(?_:(if f x=f k then(f x,g v)::fa f g r else(f x,g y)::c_ _ _ (fa f g r))=fa f g (if x=k then(x,v)::r else(x,y)::cE k v r))
  by_cases e:x=k
  ·subst e;refine Z (ao rfl)<|Z (ao rfl) ?_;rfl
  ·refine Z (ai (λq=>e (c _ _ q)))<|Z (ai e)<|Z d ?_;rfl
theorem vF(c:∀a b,f a=f b->a=b) k l:fZ (f k) (fa f g l)=fa f g (fY k l):=by
 unfold fZ fa fY;refine Z List.filter_map ?_
 congr 1
 refine List.filter_congr λp _=>((decide_eq_decide.mpr ⟨λq z=>q (bg _ z),λq z=>q (c _ _ z)⟩):decide (f _≠f k)=decide (p.1≠k))
theorem je k j v:∀l:List (K×α),a5 j (cE k v l)=if j=k then some v else a5 j l:=by
 intro l
 induction l with
 |nil=>
  refine(?_:(if k=j then some v else none)=_)
  by_cases e:j=k
  ·exact Z (ao e.symm)<|Z (ao e) rfl
  ·refine Z (ai (λq=>e q.symm))<|Z (ai e) ?_;rfl
 |cons p r a=>
  obtain⟨x,y⟩:=p;refine(?_:a5 j (if x=k then(x,v)::r else(x,y)::cE k v r)=_)
  by_cases e:x=k
  ·subst e
   refine Z (ao rfl)<|(?_:(if x=j then some v else a5 j r)=if j=x then some v else if x=j then some y else a5 j r)
   by_cases q:x=j
   ·exact Z (ao q)<|Z (ao q.symm) rfl
   ·exact Z (ai q)<|Z (ai (λz=>q z.symm))<|Z (ai q) rfl
  ·refine Z (ai e)<|((Z a ?_):(if x=j then some y else a5 j _)=if j=k then some v else if x=j then some y else a5 j r)
   by_cases q:x=j
   ·subst q;exact Z (ao rfl)<|Z (ai e)<|Z (ao rfl) rfl
   ·exact Z (ai q)<|Z (ai q) rfl
theorem DQ k j:∀l:List (K×α),a5 j (fY k l)=if j=k then none else a5 j l:=by
 intro l
 induction l with
 |nil=>exact by refine ?_;split<;>rfl
 |cons a r b=>
  exact by
   unfold fY;refine Z List.filter_cons ?_
   by_cases e:a.1=k
   ·subst e
    refine Z (ai (by simp))<|Z b ?_
    by_cases q:j=a.1
    ·exact Z (ao q)<|Z (ao q) rfl
    ·exact Z (ai q)<|Z (ai q)<|((Z (ai (λz=>q z.symm)) rfl):_=if a.1=j then _ else _)
   ·refine Z (ao (fc ‹_›))<|(?_:(if a.1=j then some _ else a5 j _)=_)
    have:=b;refine Z this ?_
    by_cases q:a.1=j
    ·clear b this;subst q;exact Z (ao rfl)<|Z (ai e)<|((Z (ao rfl) rfl):_=if a.1=a.1 then _ else _)
    ·refine Z (ai q) ?_
     by_cases z:j=k
     ·exact Z (ao z)<|Z (ao z) rfl
     ·exact Z (ai z)<|Z (ai z)<|((Z (ai q) rfl):_=if a.1=j then _ else _)
theorem mF k v:∀l:List (K×α),(cE k v l).length<=l.length+1:=by
 intro l
 induction l with
 |nil=>exact aT _
 |cons b r a=>
  exact by
   refine Z (xF ..) ?_
   split
   ·exact iy _
   ·exact jp a
theorem D8 k(l:List (K×α)):(fY k l).length<=l.length:=List.length_filter_le _ _
end
def kK(p:Str×List Nat):List bR:=.str p.1::p.2.map λk=>.int (k:Nat)
theorem jO a b(h:kK a=kK b):a=b:=by
 obtain⟨a1,a2⟩:=a;obtain⟨b1,b2⟩:=b;unfold kK at h;rw[List.cons.injEq]at h;refine a_ h λh1 c=>?_;clear h
 cases h1
 congr 1
 revert b2
 induction a2 with
 |nil=>intro b2 c;cases b2<;>first|rfl|exact mN c
 |cons x r g=>
  intro b2 c
  cases b2 with
  |nil=>exact qg c
  |cons y s=>exact a_ (gH c) λd e=>have f:x=y:=m_.mp (bR.noConfusion d id);Z f<|Z (g s e) rfl
theorem C0:∀ks:List Nat,e6 (nV ks)=some (ks.map λk=>bR.int (k:Nat))
 |[]=>rfl
 |k::r=>by
  refine(?_:(match qI _,e6 _ with|some a,some k=>some _|_,_=>none)=_)
  refine Z (C0 r) ?_;rfl
theorem kE p:e6 (.str p.1::nV p.2)=some (kK p):=by
 refine(?_:(match qI _,e6 _ with|some a,some k=>some _|_,_=>none)=_)
 refine Z (C0 ..) ?_;rfl
def nI(n:Nat):V:=.int n
def gw:List ((Str×List Nat)×Nat)->List (List bR×V):=fa kK nI
def jX:List (Nat×Nat)->List (Int×V):=fa (λk:Nat=>(k:Int)) .loc
def cJ(ll:List Nat)(lot:List (List Nat)):List (Nat×O):=(ll.zip lot).map λp=>(p.1,.list (nV p.2))
theorem vQ h1(a:k<lot.length):(cJ ll lot)[k]?=some (ll[k],.list (nV (ay lot k))):=by refine Z eX ?_;refine Z (bJ (Z eW q9)) ?_;refine Z iY ?_;unfold ay;refine Z (bJ a) ?_;rfl
theorem iO(h:ll.length=lot.length):(cJ ll lot).length=lot.length:=by refine Z aY<|Z eW ?_;lia
theorem zz{v:List Nat} h1:(cJ ll lot).set k (ll[k],.list (nV v))=cJ ll (lot.set k v):=by
 refine List.ext_getElem? λi=>Z l8 ?_;refine Z eX ?_;refine Z eX ?_;refine Z aY<|Z eW ?_
 by_cases e:k=i
 ·subst e
  refine Z (ao rfl) ?_
  by_cases q:k<lot.length
  ·refine Z (ao (by lia))<|Z (bJ (by refine Z eW<|Z dP ?_;lia)) ?_;refine Z iY<|Z (List.getElem_set_self ..) ?_;rfl
  ·refine Z (ai (by lia))<|Z (ju (by refine Z eW<|Z dP ?_;lia)) ?_;rfl
 ·refine Z (ai e) ?_
  congr 1
  by_cases q:i<ll.length/\i<lot.length
  ·refine Z (bJ (by refine Z eW ?_;lia)) ?_;refine Z (bJ (by refine Z eW<|Z dP ?_;lia)) ?_;exact Z iY<|Z iY<|Z (List.getElem_set_ne e ..) rfl
  ·refine Z (ju (by refine Z eW ?_;lia)) ?_;exact Z (ju (by refine Z eW<|Z dP ?_;lia)) rfl
def pV(p:Nat×Nat):V:=.tup [.int p.1,.int p.2]
def Bs:Str:=⟨#[108,105,107,101]⟩
def uk:Str:=⟨#[116,111,108,100]⟩
def fW(l:Nat):Str:=⟨#[116]⟩++(toString (l:Int):String)
def hG(e:Nat×Nat×Option Nat):V:=.tup [.int e.1,.int e.2.1,match e.2.2 with
 |some l=>.tup [.str uk,.str (fW l)]
 |none=>.tup [.str Bs]]
theorem xa(a b:Nat):gY [a,b]=[((min a b:Nat):Int),((max a b:Nat))]:=by
 unfold gY
 by_cases h:a<=b
 ·exact Z (Nat.min_eq_left h)<|Z (Nat.max_eq_right h)<|List.mergeSort_of_pairwise (by simp;exact h)
 ·refine Z (Nat.min_eq_right (aE (Nat.lt_of_not_le h)))<|Z (Nat.max_eq_left (aE (Nat.lt_of_not_le h))) ?_
  have:¬(a<=b):=by lia
  simp[List.mergeSort,this]
theorem nS{x y:Nat×O}(h:L[j]?=some y)(e:i≠j):(L.set i x)[j]?=some y:=by refine Z (d6 e) ?_;exact h
theorem L1(H:Hx B)(W:ae L m)(c:L[j10]?=some (10,.fields iC))(o:L[j11]?=some (11,.list (nV up)))(y:L[j12]?=some (12,.list (ll.map .loc)))
 (A:L[j13]?=some (13,.list (mg.map pV)))(lo:dr up)(Ψ:a<up.length)(hb:b<up.length)(w:up.length<=1000)(G:ll.length<=1000)(hm:mg.length<=1000)(v:tk.length<=1000)(u:tg.length<=1000)
 (F:ll[min (bi up a) (bi up b)]?=some lk)(E:ll[max (bi up a) (bi up b)]?=some lg)
 (ik:L[jk]?=some (lk,.list (nV tk)))(ig:L[jg]?=some (lg,.list (nV tg)))(I:j11≠j12)(Φ:j11≠jk)(N:j11≠jg)(P:j11≠j13)(R:jk≠j13)(S:j10≠j11)(T:jk≠j10)
 (q0:bi up a=bi up b->∀s,ae L s->Q .none s)
 (q1:bi up a≠bi up b->∀s,ae (((L.set j11 (11,.list (nV (up.set (max (bi up a) (bi up b)) (min (bi up a) (bi up b)))))).set jk (lk,.list (nV (tk++tg)))).set j13 (13,.list ((mg++[(min (bi up a) (bi up b),max (bi up a) (bi up b))]).map pV))) s->
  Q (.tup [.int (min (bi up a) (bi up b):Nat),.int (max (bi up a) (bi up b):Nat)]) s):aP B (d+2) 341 [.obj 2 10,.int a,.int b] m Q:=by
 refine bv H 23 rfl rfl<|⟨(W.get _ c),vz H (W.get _ c) rfl (W.get _ o) lo Ψ (aF w) (⟨(W.get _ c),vz H (W.get _ c) rfl (W.get _ o) lo hb (aF w) ⟨af,((b6 _ (cj _ _) af (Z (xa ..) ?_)))⟩⟩)⟩;have ra:=lq lo a;have rb:=lq lo b;have D:max (bi up a) (bi up b)<up.length:=Nat.max_lt.mpr ⟨jr (m:=a) ‹_› ‹_›,jr (m:=b) ‹_› ‹_›⟩;have n:min _ _=max _ _↔bi up a=bi up b:=xy;generalize min _ (bi up b)=k at F n q1⊢;generalize max _ (bi up b)=g at E n D q1⊢;refine(b6 _ (cj _ _) rfl ?_);generalize Ω:(m++[O.list _])++[O.list _]=M;have t:=Ω▸(W.app _).app _;refine(mv (eE ?_));show if _ then _ else _
 by_cases e:k=g
 ·exact Z (ao (by simp;exact bg _ e))<|q0 (n.mp e) M t
 ·refine Z (ai (by simp;exact jM e)) ?_
  have f:=t.set _ o (.list (nV (up.set g k)));have p:=nS (x:=(11,.list (nV (up.set g k)))) c S.symm;have q:=nS (x:=(11,.list (nV (up.set g k)))) y I;have kk:=nS (x:=(11,.list (nV (up.set g k)))) ik Φ;refine⟨t.get _ c,wu (t.get _ o) (Z a9<|aF w) (Z a9 D) (Z (show(nV up).set g _=nV _ from List.map_set.symm) ?_)⟩;generalize M.set 11 _=M1 at f⊢;have r:∀{i l},ll[i]?=some l->(ll.map _)[i]?=some (V.loc l):=λh=>jR h;refine⟨f.get _ p,cZ (f.get _ q) (bH G) (cU (r F)) ⟨f.get jk kk,(⟨f.get _ p,cZ (f.get _ q) (bH G) (cU (r E)) ⟨_,_,f.get jk kk,f.get jg (nS ig N),Z a9<|Z a9<|aK v u,(Z bz.symm ?_)⟩⟩)⟩⟩;have j:=nS (x:=(lk,.list (nV (tk++tg)))) (nS (x:=(11,.list (nV (up.set g k)))) A P) R;refine⟨(f.set jk kk _).get _ (nS p T),(f.set jk kk _).get _ j,af,_,(f.set jk kk _).get _ j,bH hm,(Z (show mg.map pV++[V.tup _]=(mg++[(k,g)]).map pV from by refine Z bz ?_;rfl) ?_)⟩
  exact⟨af,(q1 (λz=>e (n.mpr z))) _ ((f.set jk kk _).set _ j _)⟩
def dX(ks:List Nat):List Nat:=ks.mergeSort λa b=>decide (a<=b)
theorem sz{x:Nat}:x∈dX ks↔x∈ks:=(List.mergeSort_perm ks _).mem_iff
theorem H1:(dX ks).length=ks.length:=List.length_mergeSort ks
theorem A2 ks:gY (ks.map λ(k:Nat)=>k)=(dX ks).map λ(k:Nat)=>(k:Int):=by unfold gY dX;rewrite[List.map_mergeSort];rfl;refine λa _ b _=>decide_eq_decide.mpr (by lia)
section
variable{F:List (Nat×V)}
theorem CC(H:Hx B){ll lot:List Nat}(b:m[10]?=some (.fields iC))(c:m[11]?=some (.list (nV up)))(e:m[12]?=some (.list (ll.map .loc)))(lo:dr up)(f:a<up.length)(n:up.length<=1000)(g:ll.length<=1000)
 (i:ll[bi up a]?=some l)(j:m[l]?=some (.list (nV lot)))(h:lot.length<64)(q:Q (.loc m.length) (m++[.list (nV (dX lot))])):aP B (d+2) 348 [.obj 2 10,.int a] m Q:=by
 refine bv H 24 rfl rfl<|⟨b,b,vz H b rfl c lo f (aF n) (cZ e (bH g) (cU (jR i)) ?_)⟩;exact(b6 (lot.map λ(k:Nat)=>k) (Z j<|Z (sy ..) rfl) (Z aY h) (Z (A2 ..)<|Z (sy ..).symm q))
theorem Ni(H:Hx B){ll lot:List Nat}(f:m[4]?=some (.fields F))(h:dG 1 F=some (.obj 2 10))(b:m[10]?=some (.fields iC))(c:m[11]?=some (.list (nV up)))(e:m[12]?=some (.list (ll.map .loc)))(lo:dr up)(g:a<up.length)(o:up.length<=1000)(i:ll.length<=1000)
 (k:ll[bi up a]?=some l)(n:m[l]?=some (.list (nV lot)))(j:lot.length<64)(q:Q (.loc m.length) (m++[.list (nV (dX lot))])):aP B (d+3) 480 [.obj 0 4,.int a] m Q:=bv H 39 rfl rfl<|⟨f,d8 h ⟨b,CC H b c e lo g o i k n j q⟩⟩
theorem IT(H:Hx B)(a:m[5]?=some (.fields iP))(b:m[6]?=some (.list (nodes.map cA)))(c:nodes.length<=1000)(q:Q (.int nodes.length) m):aP B (d+1) 214 [.obj 1 5] m Q:=bv H 11 rfl rfl<|⟨a,_,b,bH c,Z aY q⟩
theorem vk(H:Hx B)(b:m[4]?=some (.fields F))(e:dG 0 F=some (.obj 1 5))(a:m[5]?=some (.fields iP))(c:m[6]?=some (.list (nodes.map cA)))(f:nodes.length<=1000)(q:Q (.int nodes.length) m):aP B (d+2) 402 [.obj 0 4] m Q:=bv H 29 rfl rfl<|⟨b,d8 e ⟨a,IT H a c f q⟩⟩
theorem Ao(H:Hx B)(a:m[10]?=some (.fields iC))(b:m[11]?=some (.list (nV up)))(c:up.length<=1000)(q:Q (.int up.length) m):aP B (d+1) 327 [.obj 2 10] m Q:=bv H 21 rfl rfl<|⟨a,_,b,Z a9<|aF c,Z a9 q⟩
theorem L_(H:Hx B){f:Nat}(a:m[4]?=some (.fields F))(j:dG 0 F=some (.obj 1 5))(c:dG 2 F=some (.loc 14))(e:dG 7 F=some (.int f))(h:m[5]?=some (.fields iP))(i:m[6]?=some (.list (nodes.map cA)))
 (b:m[14]?=some (.list g))(k:nodes.length<=1000)(he:g.length<=1000)(q:Q (.tup [.int nodes.length,.int g.length,.int f]) m):aP B (d+3) 109 [.obj 0 4] m Q:=bv H 0 rfl rfl<|⟨a,vk H a j h i k (⟨a,d8 c ⟨_,b,aF he,(⟨a,d8 e ⟨af,q⟩⟩)⟩⟩)⟩
end
theorem LD{l:List Nat}{i x:Nat}(c:l.Nodup)(h:x∉l):(l.set i x).Nodup:=by
 induction l generalizing i with
 |nil=>exact c
 |cons a r d=>
  refine a_ (eF.mp c) λe b=>?_
  cases i with
  |zero=>exact eF.mpr ⟨λq=>h (az _ q),b⟩
  |succ i=>
   refine eF.mpr ⟨λq=>?_,d b λq=>h (az _ q)⟩;rcases List.mem_or_eq_of_mem_set q with q|q
   ·exact e q
   ·exact h (q▸aQ)
theorem ae.renew(W:ae L m) i o:ae (L.set i (m.length,o)) (m++[o]):=by
 refine⟨Z List.map_set<|LD W.1 W.fresh,λj c p h=>?_⟩;rw[l8]at h;refine jc h (λa h=>?_) (λa h=>?_)
 ·refine jc h (λa h=>?_) (λa h=>?_)
  ·replace h:=ji (aG h);obtain⟨rfl,rfl⟩:=h;exact cj m o
  ·cases h
 ·exact(W.app _).2 j c p h
structure HS where
 s:PS
 wl:Nat
 wait:List Nat
 backs:Nat
 made:Nat
 ll:List Nat
 ul:List Nat
 ab:List (Nat×Nat)
 ch:List V
 mks:List V
 dp:List Int
def lA(nodes:List (Str×List Nat)):List (List bR×V):=fa kK nI (nodes.zipIdx)
def cf(h:HS)(T:List (Nat×O)):List (Nat×O):=
 (4,.fields (ky h.wl h.backs h.made))::(5,.fields iP)::(6,.list (h.s.nodes.map cA))::(7,.tdict (lA h.s.nodes))::(8,.list (nV (h.s.nodes.map λp=>1+p.2.length)))::(9,.list (iV h.dp))::
 (10,.fields iC)::(11,.list (nV h.s.up))::(12,.list (h.ll.map .loc))::(13,.list (h.s.mg.map pV))::(14,.list (h.s.ed.map hG))::(15,.list (nV h.s.fo))::(16,.tdict (gw h.s.kn))::(17,.idict (jX h.ab))::(19,.list h.ch)::(20,.list h.mks)::
 (h.wl,.list (nV h.wait))::T
def ah(h:HS)(R:List (Nat×O)):List (Nat×O):=cf h (cJ h.ll h.s.lot++(cJ h.ul h.s.use++R))
theorem qo{p:Nat×O}(a:p∈T):p∈cf h T:=by
 unfold cf
 repeat (first|exact a|refine az _ ?_)
theorem eO{p:Nat×O}(a:p∈R):p∈ah h R:=qo (bq _ (bq _ a))
inductive ej(h:HS)(xs:List Nat):Prop
 |mk(g:Gd h.s h.made (h.wait++xs))(n6:h.s.n<=6)(ll:h.ll.length=h.s.n)(ul:h.ul.length=h.s.n)(ab:∀r,r<h.s.n->a5 r h.ab=if h.s.up[r]?=some r then h.ul[r]? else none)(abl:h.ab.length<=1000)(edl:h.s.ed.length<=500)(knl:h.s.kn.length<=900)(chl:h.ch.length<=1500)(mkl:h.mks.length<=10)(fol:h.s.fo.length<=500)(mgl:h.s.mg.length<=500)(wtl:h.wait.length<=900)(usl:∀r,(ay h.s.use r).length<=50)(dl:h.dp.length=h.s.n)
section
variable{h:HS}
theorem yp(K:ej h xs) a:(ah h R)[k+17]?=some (h.ll[k]'(by rw[K.3];exact a),.list (nV (ay h.s.lot k))):=by refine Z (cu (Z (iO (Z K.3<|Z K.1.2 rfl))<|Z K.1.2 a)) ?_;exact vQ _ (Z K.1.2 a)
theorem t9(K:ej h xs) a:(ah h R)[h.s.n+k+17]?=some (h.ul[k]'(by rw[K.4];exact a),.list (nV (ay h.s.use k))):=by have l1:(cJ _ _).length=h.s.n:=Z (iO (Z K.3<|Z K.1.2 rfl))<|Z K.1.2 rfl;refine Z (l9 (Z l1<|dq _ _)) ?_;refine Z l1<|Z (qO ..)<|Z (cu (Z (iO (Z K.4<|Z K.1.3 rfl))<|Z K.1.3 a)) ?_;exact vQ _ (Z K.1.3 a)
end
variable{h:HS}
theorem ER{k l:Nat}{v:List Nat}:(cJ ll lot).set k (l,.list (nV v))=cJ (ll.set k l) (lot.set k v):=by
 have:∀k (ll:List _) lot,((ll.zip lot).map λp=>(p.1,O.list (nV p.2))).set k (l,.list (nV v))=((ll.set k l).zip (lot.set k v)).map λp=>(p.1,O.list (nV p.2)):=by
  intro k
  induction k with
  |zero=>intro ll lot;cases ll<;>cases lot<;>rfl
  |succ k c=>
   intro ll lot
   cases ll with
   |nil=>rfl
   |cons a r=>cases lot with
    |nil=>rfl
    |cons b s=>
     refine(?_:_::_=_::_)
     congr 1
     exact c r s
 exact this k ll _
def PS.jn(s:PS)(e:Nat×Nat×Option Nat)(k g:Nat):PS:=
 {nodes:=s.nodes,up:=s.up.set g k,lot:=s.lot.set k (ay s.lot k++ay s.lot g),use:=s.use.set k (ay s.use k++ay s.use g),mg:=s.mg++[(k,g)],ed:=s.ed++[e],fo:=s.fo++[s.ed.length],kn:=s.kn}
theorem PS.joined_ne{s:PS}(h:min (s.rt a) (s.rt b)≠max (s.rt a) (s.rt b)):s.joined a b lab=s.jn (a,b,lab) (min (s.rt a) (s.rt b)) (max (s.rt a) (s.rt b)):=by unfold PS.joined;refine Z (ai h) ?_;rfl
theorem PS.joined_eq{s:PS}(h:min (s.rt a) (s.rt b)=max (s.rt a) (s.rt b)):s.joined a b lab={s with ed:=s.ed++[(a,b,lab)]}:=by unfold PS.joined;exact Z (ao h) rfl
def HS.jn(h:HS)(e:Nat×Nat×Option Nat)(k g l:Nat):HS:={h with s:=h.s.jn e k g,wait:=h.wait++ay h.s.use g,ul:=h.ul.set k l,ab:=cE k l (fY g h.ab)}
def HS.joined(h:HS)(a b:Nat)(lab:Option Nat)(l:Nat):HS:=
 if min (h.s.rt a) (h.s.rt b)=max (h.s.rt a) (h.s.rt b)then{h with s:=h.s.joined a b lab}else h.jn (a,b,lab) (min (h.s.rt a) (h.s.rt b)) (max (h.s.rt a) (h.s.rt b)) l
theorem Hs{x y:Nat×O}(a:A.length=n)(b:k<n)(c:k<Ω.length):((A++(Ω++R)).set k x).set (n+k) y=A.set k x++(Ω.set k y++R):=Z (List.set_append_left _ _ (aC b (aA a.symm)))<|Z (qT _ _ (Z dP<|aE (aA a)))<|Z dP<|Z a<|Z (qO ..)<|Z (List.set_append_left _ _ c) rfl
theorem Ab(q:lN [x,v] m P):(au B d X.nil).l J m λvs m=>vP 4 (x::v::vs) m P:=q
theorem MW(H:Hx B)(K:ej h xs)(W:ae (ah h R) m)(t:a<h.s.n)(u:b<h.s.n)(Φ:hG (a,b,lab)=.tup [.int a,.int b,rv])
 (q:∀v l x,ae (ah (h.joined a b lab l) R) x->Q v x):aP B (d+3) 452 [.obj 0 4,.int a,.int b,rv] m Q:=by
 refine bv H 36 rfl rfl ?_;have G:=K.1;refine⟨W.get 0 rfl,W.get 10 rfl,(⟨af,_,W.get 10 rfl,bH K.7,(Z Φ.symm<|Z (show h.s.ed.map _++[hG _]=(h.s.ed++[(a,b,lab)]).map hG from by refine Z bz ?_;rfl) ?_)⟩)⟩
 have y:=W.set 10 rfl (.list ((h.s.ed++[(a,b,lab)]).map hG));have E:=G.rt_lt t;have F:=G.rt_lt u;have c:min (h.s.rt a) (h.s.rt b)<h.s.n:=BG;have n:max (h.s.rt a) (h.s.rt b)<h.s.n:=q1;refine⟨y.get 0 rfl,y.get 6 rfl,?_⟩;refine L1 (j10:=6) (j11:=7) (j12:=8) (j13:=9) (jk:=min _ _+17) (jg:=max _ _+17) H y rfl rfl rfl rfl G.5 (Z G.1 t) (Z G.1 u) (Z G.1<|aF K.2) (Z K.3<|aF K.2) (aF K.12)
  (aK K.2 (G.15 _)) (aK K.2 (G.15 _)) (bJ _) (bJ _)
  (yp K c) (yp K n) (by decide) (bI fT) (bI fT) (by decide) (hL fT) (by decide) (hL fT) (λe C f=>?_) (λe C f=>?_)
 ·refine eE (q _ 0 C ?_)
  unfold HS.joined;exact Z (ao uu)<|Z (PS.joined_eq uu) f
 ·have z:min _ _≠max (h.s.rt a) (h.s.rt b):=BH
  have q:=λv l x w=>q v l x (by unfold HS.joined;exact Z (ai z) w)
  have rk:h.s.up[min (h.s.rt a) (h.s.rt b)]?=some (min (h.s.rt a) (h.s.rt b)):=by have E:=g6 G.5 (Z G.1 t);have F:=g6 G.5 (Z G.1 u);rcases gq _ _ with⟨q,_⟩|⟨q,_⟩<;>refine Z q ?_<;>assumption
  have I:h.s.up[max (h.s.rt a) (h.s.rt b)]?=some (max (h.s.rt a) (h.s.rt b)):=by have E:=g6 G.5 (Z G.1 t);have F:=g6 G.5 (Z G.1 u);rcases gq _ _ with⟨_,q⟩|⟨_,q⟩<;>refine Z q ?_<;>assumption
  generalize min _ (h.s.rt b)=k at c z q rk f⊢;generalize max _ (h.s.rt b)=g at n z q I f⊢;have D:a5 g _=some (h.ul[g]'(aC n (aA K.4.symm))):=Z (K.5 g n)<|Z (ao I)<|bJ _;have p:∀a b:Nat,(a:Int)=b->a=b:=λ_ _=>m_.mp;refine eE<|⟨rfl,(⟨f.get 0 rfl,f.get 11 rfl,(⟨f.get 0 rfl,_,f.get 10 rfl,by refine Z aY ?_;simp;exact aF K.7,?_⟩)⟩)⟩
  refine⟨_,f.get 11 rfl,Z a9<|aF K.11,?_⟩
  refine Z (show nV h.s.fo++[V.int (((h.s.ed++[(a,b,lab)]).map hG).length-1)]=nV (h.s.fo++[h.s.ed.length])from by refine Z aY ?_;unfold nV;simp) ?_
  have i:=f.set 11 rfl (.list (nV (h.s.fo++[h.s.ed.length])));generalize C.set 15 (O.list (nV (h.s.fo++[h.s.ed.length])))=L at i⊢;refine⟨i.get 0 rfl,i.get 16 rfl,(⟨i.get 0 rfl,la (i.get 13 rfl) (by unfold jX;refine Z (eN p g ..)<|Z D ?_;rfl) ?_⟩)⟩
  refine(hA (nV h.wait) (nV (ay h.s.use g)) (i.get 16 rfl) ?_ (by refine Z a9<|Z a9 ?_;have:=K.13;have:=K.14 g;lia) ?_)
  ·refine i.get (h.s.n+g+17)<|((Z (d6 (bI (aE c))) ?_):((cJ h.ll h.s.lot++(cJ h.ul h.s.use++R)).set k _)[h.s.n+g]?=_)
   exact(t9 K n)
  refine Z (show nV h.wait++nV (ay h.s.use g)=nV (h.wait++ay h.s.use g)from bz.symm) ?_;have j:=i.set 16 rfl (.list (nV (h.wait++ay h.s.use g)));generalize L.set h.wl (O.list (nV (h.wait++ay h.s.use g)))=M at j⊢;refine⟨j.get 0 rfl,la (j.get 13 rfl) (by unfold jX;refine Z (eN p k ..)<|Z ((Z (K.5 k c)<|Z (ao rk)<|bJ _:a5 k h.ab=some (h.ul[k]'(aC c (aA K.4.symm))))) ?_;rfl) ?_⟩
  refine⟨j.get 0 rfl,(j.get 13 rfl),(Ab (B:=B) (d:=0) (J:=[]) (Aa (j.get 13 rfl) (by unfold jX;refine Z (eN p g ..)<|Z D ?_;rfl) (bH K.6) ?_))⟩
  refine Z (show fZ (g:Int) (jX h.ab)=jX (fY g h.ab)from vF p g h.ab) ?_;have r:=j.set 13 rfl (.idict (jX (fY g h.ab)));generalize M.set 17 (O.idict (jX (fY g h.ab)))=N at r⊢;refine(hA (nV (ay h.s.use k)) (nV (ay h.s.use g)) (r.get (h.s.n+k+17) ?_) (r.get (h.s.n+g+17) ?_) (by refine Z a9<|Z a9 ?_;have:=K.14 g;have:=K.14 k;lia) ?_)
  ·refine((Z (d6 (bI (aE G.4.1))) ?_):((cJ h.ll h.s.lot++(cJ h.ul h.s.use++R)).set k _)[h.s.n+k]?=_)
   exact(t9 K c)
  ·refine((Z (d6 (bI (aE c))) ?_):((cJ h.ll h.s.lot++(cJ h.ul h.s.use++R)).set k _)[h.s.n+g]?=_)
   exact(t9 K n)
  refine Z bz.symm ?_;have s:=r.renew (h.s.n+k+17) (.list (nV (ay h.s.use k++ay h.s.use g)));generalize N.length=o at s⊢;refine⟨s.get 0 rfl,nw (s.get 13 rfl) (by refine Z aY ?_;have:=K.6;have:=D8 g h.ab;lia) ?_⟩
  refine Z (lm p k o _)<|q _ o _ ?_;have A:ah (h.jn (a,b,lab) k g o) R=cf (h.jn (a,b,lab) k g o) (((cJ h.ll h.s.lot++(cJ h.ul h.s.use++R)).set k (h.ll[k]'(Z K.3 c),.list (nV (ay h.s.lot k++ay h.s.lot g)))).set (h.s.n+k) (o,.list (nV (ay h.s.use k++ay h.s.use g)))):=by refine Z (Hs (Z (iO (Z K.3<|Z G.2 rfl))<|Z G.2 rfl) c (Z (iO (Z K.4<|Z G.3 rfl))<|Z G.3 c))<|Z (zz (Z K.3 c))<|Z ER ?_;rfl
  exact Z A<|(s.set 13 rfl (.idict (jX (cE k o (fY g h.ab)))))
def xp:Str:=⟨#[101,100,103,101]⟩
def oE(k many g l:Nat):V:=.tup [.str xp,.int k,.int many,.int g,.loc l]
def HS.joinedL(h:HS)(a b:Nat)(lab:Option Nat)(l:Nat):HS:=
 {h with ch:=h.ch++[oE (min (h.s.rt a) (h.s.rt b)) (ay h.s.use (min (h.s.rt a) (h.s.rt b))).length (max (h.s.rt a) (h.s.rt b)) ((h.ul[max (h.s.rt a) (h.s.rt b)]?).getD 0)]}.joined a b lab l
theorem ej.chs(K:ej h xs)(a:ch.length<=1500):ej {h with ch:=ch} xs:=⟨K.1,K.2,K.3,K.4,K.5,K.6,K.7,K.8,a,K.10,K.11,K.12,K.13,K.14,K.15⟩
theorem CO(H:Hx B)(K:ej h xs)(o:h.ch.length<1500)(W:ae (ah h R) m)(g:a<h.s.n)(i:b<h.s.n)(r:hG (a,b,lab)=.tup [.int a,.int b,s])
 (q:∀v l e,ae (ah (h.joinedL a b lab l) R) e->Q v e):aP B (d+4) 566 [.obj 0 4,.int a,.int b,s] m Q:=by
 refine HI H.1 rfl (Z H.1<|(cC H.3).2:jS _ _ _ 4 10 _ (B.N.cls 0) _ _ (λt n=>jf _ _ _ _ _ _ _)=true) rfl ?_;have G:=K.1;have y:=G.rt_lt g;have z:=G.rt_lt i;have u:=g6 G.5 (Z G.1 g);have w:=g6 G.5 (Z G.1 i);refine⟨(W.get 0 rfl),lJ H (W.get 0 rfl) rfl (W.get 6 rfl) (W.get 7 rfl) G.5 (Z G.1 g) (Z G.1<|aF K.2) (⟨(W.get 0 rfl),lJ H (W.get 0 rfl) rfl (W.get 6 rfl) (W.get 7 rfl) G.5 (Z G.1 i) (Z G.1<|aF K.2) ⟨af,((b6 _ (cj _ _) af (Z (xa ..) ((b6 _ (cj _ _) rfl ?_)))))⟩⟩)⟩;have j:min (h.s.rt a) (h.s.rt b)<h.s.n:=BG;have f:max (h.s.rt a) (h.s.rt b)<h.s.n:=q1;generalize p:(m++[O.list _])++[O.list _]=M;have c:=p▸(W.app _).app _;have q:∀v l e,ae (ah ({h with ch:=h.ch++[oE (min (h.s.rt a) (h.s.rt b)) (ay h.s.use (min (h.s.rt a) (h.s.rt b))).length (max (h.s.rt a) (h.s.rt b)) ((h.ul[max (h.s.rt a) (h.s.rt b)]?).getD 0)]}.joined a b lab l) R) e->Q v e:=q;refine⟨c.get 0 rfl,c.get 14 rfl,(⟨c.get 0 rfl,la (x:=.loc (h.ul[min _ _]'(aC j (aA K.4.symm)))) (c.get 13 rfl) ((eN (λ_ _=>m_.mp) _ _).trans (by refine Z ((by refine Z (K.5 _ j)<|Z (ao (by rcases gq _ _ with⟨q,_⟩|⟨q,_⟩<;>refine Z q ?_<;>assumption)) ?_;exact bJ _:a5 _ _=some (h.ul[min _ _]'(aC j (aA K.4.symm))))) ?_;rfl)) ⟨_,c.get _ (t9 K j),Z a9<|aF (K.14 _),?_⟩⟩)⟩
 refine⟨c.get 0 rfl,la (c.get 13 rfl) ((eN (λ_ _=>m_.mp) _ _).trans (by refine Z ((by refine Z (K.5 _ f)<|Z (ao (by rcases gq _ _ with⟨_,q⟩|⟨_,q⟩<;>refine Z q ?_<;>assumption)) ?_;exact bJ _:a5 _ _=some (h.ul[max _ _]'(aC f (aA K.4.symm))))) ?_;rfl)) ⟨af,_,c.get 14 rfl,aE o,?_⟩⟩
 have ev:oE (min (h.s.rt a) (h.s.rt b)) (ay h.s.use (min (h.s.rt a) (h.s.rt b))).length (max (h.s.rt a) (h.s.rt b)) ((h.ul[max (h.s.rt a) (h.s.rt b)]?).getD 0)=
  .tup [.str xp,.int (min (h.s.rt a) (h.s.rt b):Nat),.int (nV (ay h.s.use (min (h.s.rt a) (h.s.rt b)))).length,.int (max (h.s.rt a) (h.s.rt b):Nat),.loc (h.ul[max _ (h.s.rt b)]'(aC f (aA K.4.symm)))]:=by
  refine Z a9<|Z (bJ (aC f (aA K.4.symm))) ?_;rfl
 have k:=c.set 14 rfl (.list (h.ch++[oE (min (h.s.rt a) (h.s.rt b)) (ay h.s.use (min (h.s.rt a) (h.s.rt b))).length (max (h.s.rt a) (h.s.rt b)) ((h.ul[max (h.s.rt a) (h.s.rt b)]?).getD 0)]));rw[ev]at k q;exact(ad _ rfl (MW (h:={h with ch:=h.ch++[.tup _]}) H (K.chs (by simp;exact aE o)) k g i r q))
theorem yk{K a:Type}[DecidableEq K]{k:K}{v:a}:∀{l:List (K×a)},a5 k l=some v->(k,v)∈l:=by
 intro l
 induction l with
 |nil=>exact λh=>aN h
 |cons p r b=>
  intro h;obtain⟨x,y⟩:=p;have h:=h;refine jc h (λq h=>?_) (λc h=>?_)
  ·replace h:=aG h;exact Z h<|Z q aQ
  ·exact az _ (b h)
theorem By(K:ej h xs)(b:n<h.s.n):∀k∈aH h.s.nodes n,k<h.s.up.length:=λk a=>Z K.1.1<|dZ (K.1.4.4 n b k a) K.1.4.1
theorem vl(H:Hx B)(K:ej h xs)(o:h.ch.length<1500)(W:ae (ah h R) m)(f:n<h.s.n)
 (q:a5 (h.s.sig n) h.s.kn=none->∀b,ae (ah {h with s:=h.s.knew n} R) b->Q .none b)
 (q1:∀v,a5 (h.s.sig n) h.s.kn=some v->h.s.rt v=h.s.rt n->∀b,ae (ah h R) b->Q .none b)
 (q2:∀v,a5 (h.s.sig n) h.s.kn=some v->h.s.rt v≠h.s.rt n->∀l b,ae (ah (h.joinedL v n none l) R) b->Q .none b):aP B (d+5) 424 [.obj 0 4,.int n] m Q:=by
 refine bv H 33 rfl rfl ?_;have G:=K.1;refine⟨W.get 0 rfl,W.get 12 rfl,(⟨W.get 0 rfl,uL H (W.get 0 rfl) rfl rfl (W.get 1 rfl) (W.get 2 rfl) (W.get 6 rfl) (W.get 7 rfl) G.5 f (by refine(?_:h.s.n<=_);exact aF K.2) (Z G.1<|aF K.2) (G.4.5 n) (By K f) λl=>?_⟩)⟩
 have a:=W.app [O.list l];generalize m++[O.list l]=m1 at a⊢;refine(hA _ _ (a.get 12 rfl) (kE (h.s.sig n)) (bH K.8) (Z (eN jO _ _) ?_))
 cases e:a5 _ h.s.kn with
 |none=>
  have k:gw h.s.kn++[(kK (h.s.sig n),V.int n)]=gw (h.s.knew n).kn:=by unfold PS.knew gw fa;refine Z bz ?_;rfl
  have c:=a.set 12 rfl (.tdict (gw (h.s.knew n).kn));refine((Z k (⟨c.get 0 rfl,lJ H (c.get 0 rfl) rfl (c.get 6 rfl) (c.get 7 rfl) G.5 (Z G.1 f) (Z G.1<|aF K.2) (⟨c.get 0 rfl,lJ H (c.get 0 rfl) rfl (c.get 6 rfl) (c.get 7 rfl) G.5 (Z G.1 f) (Z G.1<|aF K.2) (mv (eE ?_))⟩)⟩)));show if _ then _ else _
  exact Z (ai (by simp))<|q e _ c
 |some v=>
  have j:=(G.7 _ _ (yk e)).1;refine⟨a.get 0 rfl,lJ H (a.get 0 rfl) rfl (a.get 6 rfl) (a.get 7 rfl) G.5 (Z G.1 j) (Z G.1<|aF K.2) (⟨a.get 0 rfl,lJ H (a.get 0 rfl) rfl (a.get 6 rfl) (a.get 7 rfl) G.5 (Z G.1 f) (Z G.1<|aF K.2) (mv (eE ?_))⟩)⟩;show if _ then _ else _
  by_cases g:h.s.rt v=h.s.rt n
  ·exact have i:bi _ v=bi _ n:=g;Z i<|Z (ai (by simp))<|q1 v e g _ a
  ·exact Z (ao (by simp;exact λz=>g (m_.mp z)))<|⟨a.get 0 rfl,lV _,CO H K o a j f rfl λr p b w=>q2 v e g p b w⟩
def Jj:Str:=⟨#[109,97,100,101]⟩
def Jk:Str:=⟨#[107,110,111,119,110]⟩
def kv(n:Nat):V:=.tup [.str Jj,.int n]
def kD(k:Str×List Nat):V:=.tup [.str Jk,.tup (.str k.1::nV k.2)]
theorem bD{c:Bool}{F:Bool->av->Prop}(h:c=true)(x:F true m):fh F (.bool c) m:=Z h<|eE x
theorem bn{c:Bool}{F:Bool->av->Prop}(h:c=false)(x:F false m):fh F (.bool c) m:=Z h<|eE x
theorem Ml(H:Hx B)(K:ej h xs)(c:h.ch.length<1400)(W:ae (ah h R) m)(f:n<h.s.n)(hm:n≠h.made)
 (j:a5 (h.s.sig n) h.s.kn=none->∀a,ae (ah {h with s:=h.s.knew n,ch:=h.ch++[kD (h.s.sig n)]} R) a->Q .none a)
 (q1:∀v,a5 (h.s.sig n) h.s.kn=some v->h.s.rt v=h.s.rt n->∀a,ae (ah h R) a->Q .none a)
 (q2:∀v,a5 (h.s.sig n) h.s.kn=some v->h.s.rt v≠h.s.rt n->∀l a,ae (ah (h.joinedL v n none l) R) a->Q .none a):aP B (d+6) 558 [.obj 0 4,.int n] m Q:=by
 refine AK H.1 rfl (Z H.1<|(cC (cC H.3).1).2:jS _ _ _ 2 5 _ (B.N.cls 0) _ _ (λk g=>jf _ _ _ _ _ wq _)=true) rfl<|⟨W.get 0 rfl,mv (eE ?_)⟩;show if _ then _ else _
 refine Z (ai (by simp;exact jM hm)) ?_
 refine⟨W.get 0 rfl,uL H (W.get 0 rfl) rfl rfl (W.get 1 rfl) (W.get 2 rfl) (W.get 6 rfl) (W.get 7 rfl) K.1.5 f (by refine(?_:h.s.n<=_);exact aF K.2) (Z K.1.1<|aF K.2) (K.1.4.5 n) (By K f) λl=>?_⟩
 have b:=W.app [O.list l];generalize m++[O.list l]=m1 at b⊢;refine⟨b.get 0 rfl,rK (b.get 12 rfl) (kE (h.s.sig n)) (Z (eN jO _ _) ?_)⟩
 cases e:a5 _ h.s.kn with
 |none=>
  refine bD rfl<|⟨b.get 0 rfl,b.get 14 rfl,(⟨af,_,b.get 14 rfl,aE c,?_⟩)⟩
  exact have i:=b.set 14 rfl (.list (h.ch++[kD (h.s.sig n)]));(ad _ rfl (vl H (K.chs (Z bM<|aE c)) (Z bM<|aE c) i f (λz a w=>j e a w)
   (λv z=>by rw[e]at z;exact aN z) (λv z=>by rw[e]at z;exact aN z)))
 |some v=>exact bn rfl (ad _ rfl (vl H K (aF c) b f (λz=>by rw[e]at z;exact gO z) q1 q2))
theorem oh{K c:Type}[DecidableEq K][BEq K][LawfulBEq K] k:∀l:List (K×c),l.lookup k=a5 k l:=by
 intro l
 induction l with
 |nil=>exact rfl
 |cons b r a=>
  obtain⟨x,v⟩:=b;exact by
   refine Z fk<|(?_:_=if x=k then some v else a5 k r)
   by_cases e:k=x
   ·subst e;exact Z (oK ..)<|Z (ao rfl) rfl
   ·exact Z (beq_false_of_ne e)<|Z (ai (λq=>e q.symm)) a
def iv(r:ec):V:=match r.c with
 | .made n=>kv n
 | .known k=>kD k
 | .edge k many g=>oE k many g r.l
def gi(ed:List (Nat×Nat×Option Nat)):List (Nat×Nat×Option Nat):=ed.filter λe=>e.2.2.isSome
inductive Bd(h:HS)(N:Nat):Prop
 |mk(ed:h.s.ed.length<=N)(kn:h.s.kn.length<=N)(ch:h.ch.length<=N)(fo:h.s.fo.length<=N)(mg:h.s.mg.length<=N)(ab:h.ab.length<=N)
theorem Bd.mono(b:Bd h N)(l:N<=N'):Bd h N':=⟨aC b.1 l,aC b.2 l,aC b.3 l,aC b.4 l,aC b.5 l,aC b.6 l⟩
def gI(n:Nat)(ab:List (Nat×Nat)):Prop:=(ab.map (·.1)).Nodup/\∀k∈ab.map (·.1),k<n
theorem yA{K a:Type}[DecidableEq K]{k j:K}{v:a}:∀{l:List (K×a)},j∈(cE k v l).map (·.1)->j=k\/j∈l.map (·.1):=by
 intro l
 induction l with
 |nil=>exact λh=>.inl (b5.mp h)
 |cons c r b=>
  intro h;rw[xF]at h
  split at h
  ·exact .inr h
  ·rcases bK.mp h with h|h
   ·exact .inr (h▸.head _)
   ·exact(b h).imp id (.tail _)
theorem BI{K a:Type}[DecidableEq K]{k:K}{v:a}:∀{l:List (K×a)},(l.map (·.1)).Nodup->((cE k v l).map (·.1)).Nodup:=by
 intro l
 induction l with
 |nil=>exact λ_=>eF.mpr ⟨oU,List.nodup_nil⟩
 |cons c r b=>
  refine λh=>Z (xF ..) ?_
  split
  ·exact h
  ·rename_i e
   exact have h:=eF.mp h;eF.mpr ⟨λq=>(yA q).elim e h.1,b h.2⟩
theorem gI.put{n k v:Nat}{l:List (Nat×Nat)}(h:gI n l)(b:k<n):gI n (cE k v l):=⟨BI h.1,λj a=>by rcases yA a with e|e;exact e▸b;exact h.2 j e⟩
theorem gI.drop{l:List (Nat×Nat)}(h:gI n l):gI n (fY k l):=⟨(List.filter_sublist.map _).nodup h.1,λj a=>h.2 j ((List.filter_sublist.map _).subset a)⟩
theorem gI.mono{l:List (Nat×Nat)}(h:gI n l)(b:n<=n'):gI n' l:=⟨h.1,λj a=>dZ (h.2 j a) b⟩
theorem gI.len{l:List (Nat×Nat)}(h:gI n l):l.length<=n:=by
 have:=CQ h.1 h.2
 rwa [eH]at this
inductive Lk(pre:List V)(h:HS)(rs:List ec)(xs:List Nat)(N M:Nat):Prop
 |mk(k:ej h xs)(mn:h.made=h.s.n)(ch:h.ch=pre++rs.map iv)(hist:fG cy rs h.s h.ul)(tot:h.s.tot+6<=2*h.s.n)(bd:Bd h N)(ms:N+h.s.msr (h.wait.length+xs.length)<=M)(M5:M<=499)(ak:gI h.s.n h.ab)(N6:6<=N)
inductive jz(h:HS)(rs:List ec)(h':HS)(rs':List ec):Prop
 |mk(nodes:h'.s.nodes=h.s.nodes)(told:gi h'.s.ed=gi h.s.ed)(ext:gb rs h.s rs' h'.s)(mks:h'.mks=h.mks)(backs:h'.backs=h.backs)(wl:h'.wl=h.wl)(el:h.s.ed.length<=h'.s.ed.length)(eq:h'.s.ed.length=h.s.ed.length->h'.s.ed=h.s.ed)
theorem jz.refl:jz h rs h rs:=⟨rfl,rfl,.refl,rfl,rfl,rfl,aT _,λ_=>rfl⟩
theorem jz.trans(x:jz h rs h' rs')(y:jz h' rs' h'' rs''):jz h rs h'' rs'':=
 ⟨y.1.trans x.1,y.2.trans x.2,x.3.trans y.3,y.4.trans x.4,y.5.trans x.5,y.6.trans x.6,aC x.7 y.7,λe=>(y.8 (by have:=x.7;have:=y.7;lia)).trans (x.8 (by have:=x.7;have:=y.7;lia))⟩
theorem sO:(h.joinedL a b lab l).s=h.s.joined a b lab:=by
 unfold HS.joinedL HS.joined
 split
 ·rfl
 ·rename_i q;exact(PS.joined_ne q).symm
def HS.knewL(h:HS)(n:Nat):HS:={h with s:=h.s.knew n,ch:=h.ch++[kD (h.s.sig n)]}
theorem aL{a:Type}{l:List a}{x:a}:(l++[x]).length=l.length+1:=by refine Z bM ?_;rfl
theorem Lk.knew(L:Lk pre h rs [n] N M)(e:a5 (h.s.sig n) h.s.kn=none):Lk pre (h.knewL n) (rs++[⟨h.s,.known (h.s.sig n),0⟩]) [] (N+1) M/\jz h rs (h.knewL n) (rs++[⟨h.s,.known (h.s.sig n),0⟩]):=by
 have K:=L.1;have c:=K.1;rw[L.2]at c;have f:=(oh _ _).trans e;have b:=L.6;have ms:=L.7;have kn:(h.s.knew n).kn.length=h.s.kn.length+1:=aL;have a:(h.knewL n).ch.length=h.ch.length+1:=aL;have d:N+1<=499:=have:h.s.msr (h.wait.length+[n].length)=h.s.msr 0+(h.wait.length+1):=by unfold PS.msr;rfl;;dL ms L.8 (aA this.symm)
 refine⟨⟨⟨(Z (bZ ..)<|Z L.2<|c.look_new f),K.2,K.3,K.4,K.5,K.6,K.7,(by refine(?_:(h.s.knew n).kn.length<=_);have:=b.2;exact dL (aA kn) d this),(by have:=b.3;exact dL (aA a) d this),K.10,K.11,K.12,K.13,K.14,K.15⟩,L.2,?_,?_,L.5,⟨?_,?_,?_,?_,?_,?_⟩,?_,L.8,L.9,hO L.10⟩,⟨rfl,rfl,gb.snoc,rfl,rfl,rfl,aT _,λ_=>rfl⟩⟩
 ·refine((Z L.3 ?_):h.ch++[_]=_);refine Z bz<|Z cq ?_;rfl
 ·exact .snoc L.4 (.known K.1 (c.17 n (bq _ aQ)) f) (λ_ _=>rfl) λk many g z=>by cases z
 ·exact hO b.1
 ·refine(?_:(h.s.knew n).kn.length<=_);have:=b.2;exact aK (aA kn) this
 ·have:=b.3;exact aK (aA a) this
 ·exact hO b.4
 ·exact hO b.5
 ·exact hO b.6
 ·refine(?_:N+1+h.s.msr (h.wait.length+0)<=M)
  unfold PS.msr at ms⊢;exact have:[n].length=1:=rfl;aK ms (aA this)
theorem Lk.old{n v:Nat}(L:Lk pre h rs [n] N M)(e:a5 (h.s.sig n) h.s.kn=some v)(a:h.s.rt v=h.s.rt n):Lk pre h rs [] N M:=by have G:=L.1.1;rw[L.2]at G;refine⟨⟨(Z (bZ ..)<|Z L.2<|G.look_old ((oh _ _).trans e) a),L.1.2,L.1.3,L.1.4,L.1.5,L.1.6,L.1.7,L.1.8,L.1.9,L.1.10,L.1.11,L.1.12,L.1.13,L.1.14,L.1.15⟩,L.2,L.3,L.4,L.5,L.6,?_,L.8,L.9,L.10⟩;have ms:=L.7;unfold PS.msr at ms⊢;have:[n].length=1:=rfl;simp only[lZ]at*;exact aK ms (aA this)
def HS.rc(h:HS)(a b:Nat):ec:=⟨h.s,.edge (min (h.s.rt a) (h.s.rt b)) (ay h.s.use (min (h.s.rt a) (h.s.rt b))).length (max (h.s.rt a) (h.s.rt b)),(h.ul[max (h.s.rt a) (h.s.rt b)]?).getD 0⟩
theorem yF:(h.joinedL a b lab l).wait=h.wait++(if h.s.rt a=h.s.rt b then[]else ay h.s.use (max (h.s.rt a) (h.s.rt b))):=by
 unfold HS.joinedL HS.joined
 by_cases e:h.s.rt a=h.s.rt b
 ·exact Z (ao uu)<|Z (ao e)<|Z (bZ ..) rfl
 ·refine Z (ai BH)<|Z (ai e) ?_;rfl
theorem vd(C:h.ch=pre++rs.map iv):(h.joinedL a b lab l).ch=pre++(rs++[h.rc a b]).map iv:=by
 refine Z bz<|Z cq.symm<|Z C.symm ?_;unfold HS.joinedL HS.joined
 split<;>rfl
theorem mO{s:PS}:(s.joined a b lab).ed=s.ed++[(a,b,lab)]:=by unfold PS.joined;dsimp only;split<;>rfl
theorem jP{s:PS}:(s.joined a b lab).nodes=s.nodes:=by unfold PS.joined;dsimp only;split<;>rfl
theorem yD{s:PS}:(s.joined a b lab).kn=s.kn:=by unfold PS.joined;dsimp only;split<;>rfl
theorem yE{s:PS}:(s.joined a b lab).fo.length<=s.fo.length+1:=by
 unfold PS.joined;dsimp only;split
 ·exact iy _
 ·exact aA aL
theorem yC{s:PS}:(s.joined a b lab).mg.length<=s.mg.length+1:=by
 unfold PS.joined;dsimp only;split
 ·exact iy _
 ·exact aA aL
theorem yH:(h.joinedL a b lab l).ab.length<=h.ab.length+1:=by
 unfold HS.joinedL HS.joined
 split
 ·exact iy _
 ·exact aC (mF _ _ _) (jp (D8 _ _))
theorem Do(c:gI h.s.n h.ab)(d:min (h.s.rt a) (h.s.rt b)<h.s.n):gI h.s.n (h.joinedL a b lab l).ab:=by
 unfold HS.joinedL HS.joined
 split
 ·exact c
 ·exact c.drop.put d
theorem yG:(h.joinedL a b lab l).made=h.made/\(h.joinedL a b lab l).ll=h.ll/\(h.joinedL a b lab l).mks=h.mks/\(h.joinedL a b lab l).backs=h.backs/\(h.joinedL a b lab l).wl=h.wl/\(h.joinedL a b lab l).dp=h.dp:=by
 unfold HS.joinedL HS.joined
 split<;>exact⟨rfl,rfl,rfl,rfl,rfl,rfl⟩
theorem MV:(h.joinedL a b lab l).ul.length=h.ul.length:=by
 unfold HS.joinedL HS.joined
 split
 ·rfl
 ·exact dP
theorem ej.joinedL(K:ej h xs)(hm:h.made=h.s.n)(m:a<h.s.n)(n:b<h.s.n)(v:h.s.tot<=20)(i:Bd h N)(t:N<499)(u:(h.joinedL a b lab l).wait.length<=900)
 (g:Gd (h.s.joined a b lab) h.s.n ((h.joinedL a b lab l).wait++xs')):ej (h.joinedL a b lab l) xs':=by
 have G:=K.1;have c:=yG (h:=h) (a:=a) (b:=b) (l:=l) (lab:=lab);have d:=sO (h:=h) (a:=a) (b:=b) (l:=l) (lab:=lab);have o:(h.joinedL a b lab l).ch.length=h.ch.length+1:=by
  unfold HS.joinedL HS.joined
  split<;>exact aL
 have q:max (h.s.rt a) (h.s.rt b)<h.s.n:=by have:=G.rt_lt m;have:=G.rt_lt n;exact q1
 refine⟨Z c.1<|Z d<|Z hm g,by refine Z d ?_;unfold PS.n;exact Z jP K.2,by refine Z c.2.1<|Z d ?_;unfold PS.n;exact Z jP K.3,by refine Z MV<|Z d ?_;unfold PS.n;exact Z jP K.4,λr f=>?_,by have:=yH (h:=h) (a:=a) (b:=b) (l:=l) (lab:=lab);have:=i.6;lia,Z d<|Z ((Z mO aL:(h.s.joined a b _).ed.length=h.s.ed.length+1))<|aK t i.1,Z d<|Z yD K.8,dL t (aA o) i.3,Z c.2.2.1 K.10,by refine Z d ?_;have:=yE (s:=h.s) (a:=a) (b:=b) (lab:=lab);have:=i.4;lia,by refine Z d ?_;have:=yC (s:=h.s) (a:=a) (b:=b) (lab:=lab);have:=i.5;lia,u,λr=>?_,by refine Z c.2.2.2.2.2<|Z d ?_;unfold PS.n;exact Z jP K.15⟩
 ·rw[d]at f⊢
  have f:=by unfold PS.n at f;rw[jP]at f;exact f
  unfold HS.joinedL HS.joined PS.joined;dsimp only
  by_cases e:min (h.s.rt a) (h.s.rt b)=max (h.s.rt a) (h.s.rt b)
  ·exact Z (ao e)<|Z (ao e)<|K.5 r f
  ·refine Z (ai e)<|Z (ai e)<|((Z (je ..) (Z (DQ ..) ?_)):a5 r (cE _ l (fY _ h.ab))=if(h.s.up.set _ _)[r]?=some r then(h.ul.set _ l)[r]? else none)
   by_cases j:r=min (h.s.rt a) (h.s.rt b)
   ·refine Z (ao j)<|Z (ao (by refine Z j<|Z (d6 (λz=>e z.symm)) ?_;exact(io G m n).1)) ?_;exact Z j<|Z (kR (Z K.4 q2)) rfl
   ·refine Z (ai j) ?_
    by_cases k:r=max (h.s.rt a) (h.s.rt b)
    ·refine Z (ao k)<|Z k<|Z (kR (Z G.1 q)) ?_;exact Z (ai (λz=>e (aG z))) rfl
    ·refine Z (ai k)<|Z (d6 (λz=>k z.symm)) ?_;refine Z (d6 (λz=>j z.symm)) ?_
     exact K.5 r f
 ·refine Z d ?_
  unfold PS.joined;dsimp only
  split
  ·exact K.14 r
  ·refine Z (gz (Z G.3 q2) ..) ?_
   split
   ·refine Z bM ?_
    have w:=rP q2 (io G m n).1;have x:=rP q (io G m n).2
    lia
   ·exact K.14 r
theorem fG.joinedL(K:ej h xs)(H:fG cy rs h.s h.ul)(c:a<h.s.n)(d:b<h.s.n):fG cy (rs++[h.rc a b]) (h.joinedL a b lab l).s (h.joinedL a b lab l).ul:=by
 refine Z sO ?_;have j:max (h.s.rt a) (h.s.rt b)<h.s.n:=by have:=K.1.rt_lt c;have:=K.1.rt_lt d;exact q1
 have same:∀g,g≠min (h.s.rt a) (h.s.rt b)->(h.joinedL a b lab l).ul[g]?=h.ul[g]?:=λg m=>by
  unfold HS.joinedL HS.joined
  split
  ·rfl
  ·exact Z (d6 m.symm) rfl
 refine .snoc H (.edge K.1 c d) (λg ⟨p,e,f⟩=>same g λz=>?_) λk many g i n=>?_
 ·subst z
  rw[show(h.rc a b).s0=h.s from rfl,(io K.1 c d).1]at e;exact f (aG e).symm
 ·cases i
  refine Z (same _ λz=>n z.symm) ?_;show _=some (h.ul[_]?.getD 0);refine Z (bJ (Z K.4 j)) ?_;rfl
theorem Lk.join{n v:Nat}(L:Lk pre h rs [n] N M)(e:a5 (h.s.sig n) h.s.kn=some v)(k:h.s.rt v≠h.s.rt n):Lk pre (h.joinedL v n none l) (rs++[h.rc v n]) [] (N+1) M/\jz h rs (h.joinedL v n none l) (rs++[h.rc v n]):=by
 have G:=L.1.1;rw[L.2]at G;have f:=G.17 n (bq _ aQ);have m:=(oh _ _).trans e;have g:=(G.7 _ _ (yk e)).1;have c:=yG (h:=h) (a:=v) (b:=n) (l:=l) (lab:=none);have d:=sO (h:=h) (a:=v) (b:=n) (l:=l) (lab:=none);have j:=yF (h:=h) (a:=v) (b:=n) (l:=l) (lab:=none);rw[ai k]at j;have b:=L.6;have ms:=L.7;have o:max (h.s.rt v) (h.s.rt n)<h.s.n:=by have:=G.rt_lt g;have:=G.rt_lt f;exact q1
 have q:=rP o (io G g f).2;have i:=G.msr_joined (lab:=none) g f k h.wait.length;have l1:[n].length=1:=rfl;have p:(h.joinedL v n none l).wait.length<=900:=by
  refine Z j<|Z bM ?_;have:h.wait.length+1<=499:=by unfold PS.msr at ms;exact dL ms L.8 (aA l1.symm)
  exact have:=L.5;have:=L.1.2;J7
 refine⟨⟨L.1.joinedL L.2 g f (by have:=L.5;have:=L.1.2;lia) b ((by rw[l1]at ms;exact dL ms L.8 i)) p (Z (bZ ..)<|Z j<|G.look_join m k),by refine Z c.1<|Z d ?_;unfold PS.n;exact Z jP L.2,vd L.3,L.4.joinedL L.1 g f,by refine Z d<|Z ((G.tot_joined g f).1) ?_;unfold PS.n;exact Z jP L.5,⟨?_,?_,?_,?_,?_,?_⟩,?_,L.8,by refine Z d ?_;unfold PS.n;exact Z jP<|Do L.9 q2,hO L.10⟩,⟨Z d<|Z jP rfl,?_,gb.snoc,c.2.2.1,c.2.2.2.1,c.2.2.2.2.1,?_,?_⟩⟩
 ·exact Z d<|Z mO<|Z aL<|aE b.1
 ·exact Z d<|Z yD<|aE b.2
 ·exact Z (vd L.3)<|Z bz<|Z cq.symm<|Z L.3.symm<|aC (aA aL) (jp b.3)
 ·refine Z d ?_;have:=yE (s:=h.s) (a:=v) (b:=n) (lab:=none);have:=b.4;exact q3
 ·refine Z d ?_;have:=yC (s:=h.s) (a:=v) (b:=n) (lab:=none);have:=b.5;exact q3
 ·have:=yH (h:=h) (a:=v) (b:=n) (l:=l) (lab:=none);have:=b.6;exact q3
 ·refine Z d<|Z j<|Z bM ?_
  simp only[lZ,Nat.add_zero];rw[l1]at ms;exact aK ms i
 ·refine Z d<|Z mO ?_;unfold gi;simp
 ·exact Z d<|Z mO<|Z aL<|dq _ _
 ·intro z;rw[d,mO,aL]at z;lia
theorem Mi(H:Hx B)(L:Lk pre h rs [n] N M)(W:ae (ah h R) m)
 (q:∀h' c g b,Lk pre h' c [] g M->jz h rs h' c->h'.s.msr h'.wait.length<h.s.msr (h.wait.length+1)->ae (ah h' R) b->Q .none b):aP B (d+6) 558 [.obj 0 4,.int n] m Q:=by
 have G:=L.1.1;rw[L.2]at G;have f:=G.17 n (bq _ aQ);refine Ml H L.1 (aE (dL L.8 L.7 L.6.3:h.ch.length<=499)) W f (Z L.2<|bI f) (λe b w=>?_) (λv e a b w=>?_) (λv e a l b w=>?_)
 ·exact q _ _ _ _ (L.knew e).1 (L.knew e).2 (by refine ?_;unfold PS.msr;exact aT _) w
 ·exact q _ _ _ _ (L.old e a) .refl (by unfold PS.msr;exact aT _) w
 ·refine q _ _ _ _ (L.join e a).1 (L.join e a).2 ?_ w
  have:=G.msr_joined (lab:=none) ((G.7 _ _ (yk e)).1) f a h.wait.length;exact Z yF<|Z (ai a)<|Z bM<|Z sO<|aK (aA (rfl:[n].length=1)) this
theorem Lk.pop{w:List Nat}(L:Lk pre h rs [] N M)(e:h.wait=w++[n]):Lk pre {h with wait:=w} rs [n] N M:=by have K:=L.1;have g:=K.1;have a:=K.13;have ms:=L.7;rw[e]at g a ms;rw[bZ]at g;rw[aL]at a ms;exact⟨⟨g,K.2,K.3,K.4,K.5,K.6,K.7,K.8,K.9,K.10,K.11,K.12,(cN a),K.14,K.15⟩,L.2,L.3,L.4,L.5,⟨L.6.1,L.6.2,L.6.3,L.6.4,L.6.5,L.6.6⟩,ms,L.8,L.9,L.10⟩
theorem IZ(H:Hx B)(L:Lk pre h rs [] N M)(W:ae (ah h R) m)
 (q:∀h' b i s,Lk pre h' b [] i M->jz h rs h' b->h'.wait=[]->ae (ah h' R) s->Q .none s):aP B (d+7) 459 [.obj 0 4] m Q:=by
 refine bv H 37 rfl rfl<|(cP (λk J m=>J=[some _,none]/\cL λh' b i=>dQ (Lk _ h' b [] i M) (jz h rs h' b) (ae (ah h' R) m) (k=h'.s.msr h'.wait.length)) _ ⟨rfl,h,rs,N,L,.refl,W,rfl⟩ ?_);rintro k J m ⟨rfl,h',b,i,L',g,f,rfl⟩;refine⟨f.get 0 rfl,_,f.get 16 rfl,Z a9<|aF L'.1.13,(eE ?_)⟩;rcases List.eq_nil_or_concat h'.wait with e|⟨w,n,e⟩
 ·exact Z e<|q h' _ i m L' g e f
 ·rw[List.concat_eq_append]at e
  refine Z e<|Z (ao (by refine Z a9<|Z aL ?_;simp)) ?_
  have c:m[h'.wl]?=some _:=Z (f.get 16 rfl)<|Z e<|Z oa.symm rfl;refine⟨f.get 0 rfl,f.get 0 rfl,c,_,_,c,by refine Z a9 ?_;have:=L'.1.13;rw[e,aL]at this;exact cN this,?_⟩
  exact Mi H (L'.pop e) (f.set 16 rfl _) λp j o t l a ms r=>⟨_,(Z aL ms),rfl,p,j,o,l,g.trans ⟨a.1,a.2,a.3,a.4,a.5,a.6,a.7,a.8⟩,r,rfl⟩
def sA:Str:=⟨#[97]⟩
def sB:Str:=⟨#[98]⟩
def sC:Str:=⟨#[99]⟩
def sF:Str:=⟨#[102]⟩
def sG:Str:=⟨#[103]⟩
def jl(o:Str):Prop:=o=sA\/o=sB\/o=sC\/o=sF\/o=sG
inductive ef(o:Str):Prop
 |mk(pl:V.plain 8 (.str o)=true)(as:o.cps.all (·<128)=true)(ch:zi o=[.str o])(sp:(decide (o.length>0)&&o.cps.all Unicode.isSpace)=false)(oc:(!(Builtin.Str.occurrences wK o 0 wK.length 1).isEmpty)=false)(ne:V.eqb (.str o) (.str w9)=false)(qm:V.eqb (.str o) (.str Am)=false)(i0:∃c,(seqIndex? 0 o.length).bind (o.cps[·]?)=some c/\(⟨#[c]⟩:Str)=o)(ln:o.length<=1000)
theorem jl.f(h:jl o):ef o:=by rcases h with rfl|rfl|rfl|rfl|rfl<;>exact⟨by decide+kernel,by decide+kernel,rfl,by decide+kernel,by decide+kernel,rfl,rfl,(ad _ rfl rfl),by trivial⟩
theorem Gy{x:Str}(q:P (.bool (decide (x.length>0)&&x.cps.all Unicode.isSpace)) m):(au B d X.nil).l J m λvs m=>vP 3 (.str x::vs) m P:=q
theorem Gq{x y:Str}(q:P (.bool !(Builtin.Str.occurrences x y 0 x.length 1).isEmpty) m):(au B d (.str x)).e J m λz m=>dz .In (.str y) z m P:=q
theorem MZ(O:ef o)(H:Hx B)(q:Q (.bool true) (m++[.list []]++[.list []])):aP B (d+1) 188 [.str o] m Q:=by
 refine bv H 9 rfl rfl<|⟨O.1,by decide+kernel,bD (by refine Z O.6 ?_;rfl) ⟨O.2,?_⟩⟩
 exact Z O.3<|⟨trivial,(Gy (B:=B) (d:=0) (J:=[]) (bn O.4 (Gq (B:=B) (d:=0) (J:=[]) (bn O.5 (⟨trivial,(⟨af,[],[],by refine Z (cu z1) ?_;exact cj _ _,cj _ _,rfl,rfl,q⟩)⟩)))))⟩
theorem Ju(O:ef o)(H:Hx B)(q:∀g,Q .none (m++g)):aP B (d+2) 226 [.obj 1 5,.str o] m Q:=bv H 13 rfl rfl<|(MZ O H (Z cq (ac O.8 λc h1 b=>eE (b6 c h1 O.9 (Z b (⟨O.1,by decide+kernel,bn (by refine Z O.7 ?_;rfl) (q _)⟩))))))
section
variable{α:Type}[DecidableEq α]
theorem Fo{p:α}:∀{l:List α}{k:Nat},a5 p (l.zipIdx k)=some i->k<=i/\l[i-k]?=some p:=by
 intro l
 induction l with
 |nil=>exact@λ_ h=>aN h
 |cons x r b=>
  intro k h;have h:(if x=p then some k else a5 p _)=some i:=h
  by_cases e:x=p
  ·rw[ao e]at h;replace h:=aG h;exact Z h<|Z e<|Z (lW ..)<|⟨aT _,rfl⟩
  ·rw[ai e]at h
   exact a_ (b h) λh1 a=>⟨aE h1,(Z BC a)⟩
theorem Fp{p:α}:∀{l:List α}{k:Nat},a5 p (l.zipIdx k)=none->p∉l:=by
 intro l
 induction l with
 |nil=>exact@λ_ _=>oU
 |cons x r a=>
  intro k h;have h:(if x=p then some k else a5 p _)=none:=h
  by_cases e:x=p
  ·rw[ao e]at h;exact gO h
  ·rw[ai e]at h
   intro q;rcases bK.mp q with q|q
   ·exact e q.symm
   ·exact a h q
theorem xD{p:α}{v:β}:∀{l:List (α×β)},a5 p l=none->cE p v l=l++[(p,v)]:=by
 intro l
 induction l with
 |nil=>exact@λ_=>rfl
 |cons a r b=>
  intro h;have h:(if a.1=p then some _ else a5 p r)=none:=h
  by_cases e:a.1=p
  ·rw[ao e]at h;exact gO h
  ·rw[ai e]at h
   refine((Z (ai e) (Z (b h) ?_)):(if a.1=p then(a.1,v)::r else(a.1,a.2)::cE p v r)=_);rfl
end
def HS.took(h:HS)(op:Str)(ks:List Nat)(x:Int):HS:={h with s:={h.s with nodes:=h.s.nodes++[(op,ks)]},dp:=h.dp++[x]}
theorem Cg:bO (kK (op,ks)) (lA nodes)=(a5 (op,ks) nodes.zipIdx).map nI:=eN jO _ _
theorem HK(l:List Nat):(l.map λ_=>(1:Int)).sum=l.length:=by
 induction l with
 |nil=>rfl
 |cons k r a=>refine Z lX<|Z a<|Z bU ?_;lia
theorem z0{a b:Int}(q:P (.bool (decide (a<b))) m):dz .Lt (.int a) (.int b) m P:=q
theorem Ho{a b c:Option V}{rest:bh}{P:cv}(W:ae (cf h T) m) src:∀ks x,(∀k∈ks,k<h.s.n)->h.s.n<=1000->src m->
 (∀x,P .next (some (.obj 1 5)::a::b::c::x::rest) m)->
 dy (au B d bc).t src (bu B d (a6 (.iff (.not (.chain .LtE .Lt (.int 0) bc pt)) kb .nil))).ss (nV ks) (some (.obj 1 5)::a::b::c::x::rest) m P:=by
 intro ks
 induction ks with
 |nil=>exact@λx _ _ hs q=>⟨hs,q x⟩
 |cons k ks i=>
  refine λx e f hs q=>⟨hs,(bD rfl ⟨W.get 1 rfl,_,W.get 2 rfl,bH f,(bD ?_ ?_)⟩)⟩
  ·refine Z aY ?_;simp;exact(e k aQ)
  exact i _ (λj g=>e j (az _ g)) f hs q
theorem Hp(H:Hx B)(W:ae (cf h T) m)(E:ef op)(c:ks.length<=2)(v:∀k∈ks,k<h.s.n/\aH h.s.nodes k=[])(b:h.s.n<=1000)(A:h.dp.length=h.s.n)
 (M:∀i:Nat,h.s.nodes[i]?=some (op,ks)->∀t,ae (cf h T) t->Q (.int i) t)
 (q1:(op,ks)∉h.s.nodes->∀x t,ae (cf (h.took op ks x) T) t->Q (.int h.s.n) t):aP B (d+3) 219 [.obj 1 5,.str op,.tup (nV ks)] m Q:=by
 refine bv H 12 rfl rfl<|(bt (lV _) (Z a9<|jN c) (⟨W.get 1 rfl,rK (W.get 3 rfl) (kE (op,ks)) (Z Cg ?_)⟩))
 cases e:a5 _ h.s.nodes.zipIdx with
 |some i=>exact bD rfl ⟨W.get 1 rfl,nB (W.get 3 rfl) (kE (op,ks)) (by refine Z Cg<|Z e ?_;rfl) (M i (Fo e).2 m W)⟩
 |none=>
  refine bn rfl ⟨W.get 1 rfl,Ju E H λg=>?_⟩;have W:=W.app g;generalize m++g=m at W⊢;refine⟨by decide,by refine Z bM<|Z a9 ?_;simp;lia,Z bM<|Z a9<|jN c,?_⟩
  refine Ho W _ ks _ (λk a=>(v k a).1) b trivial λx=>⟨W.get 1 rfl,_,W.get 2 rfl,bH b,W.get 1 rfl,tS (W.get 3 rfl) (kE (op,ks)) (Z aY<|Z List.length_zipIdx<|aF b) ?_⟩
  refine Z (show c_ _ _ _=lA (h.s.nodes++[(op,ks)])from by refine Z aY ?_;unfold lA;refine Z (show V.int _=nI _ from rfl)<|Z (lm jO ..)<|Z (xD e)<|Z List.zipIdx_append<|Z (Nat.zero_add ..) ?_;rfl) ?_
  have l:=W.set 3 rfl (.tdict (lA (h.s.nodes++[(op,ks)])));generalize m.set 7 _=m1 at l⊢;refine⟨l.get 1 rfl,l.get 2 rfl,(⟨_,l.get 2 rfl,bH b,(Z (show h.s.nodes.map _++[V.tup _]=(h.s.nodes++[(op,ks)]).map cA from by refine Z bz ?_;rfl) ?_)⟩)⟩
  have f:=l.set 2 rfl (.list ((h.s.nodes++[(op,ks)]).map cA));generalize m1.set 6 _=F at f⊢;refine⟨f.get 1 rfl,f.get 4 rfl,(⟨by decide,by refine Z bM<|Z a9 ?_;simp;lia,Z bM<|Z a9<|jN c,?_⟩)⟩
  have r:∀k∈ks,(nV (h.s.nodes.map λp=>1+p.2.length))[k]?=some (.int 1):=λk a=>by refine Z eX ?_;refine Z eX ?_;refine Z (bJ (v k a).1) ?_;refine Z (p_ _)<|Z ((v k a).2) ?_;rfl
  refine lP (rest:=[some _]) trivial ks [] none none (λk a l0 P q=>⟨f.get 1 rfl,cZ (f.get 4 rfl) (Z a9<|bH b) (cU (r k a)) q⟩) (by simp;exact aF c) ?_
  refine(gP _ (Z (cj ..)<|Z (js ..)<|Z ((by unfold iV;refine Z eG ?_;rfl:ks.map (λ_=>V.int 1)=iV (ks.map λ_=>1))) rfl) (bH c) (λk a=>by refine ac (bT.mp a) λ_ _ z=>?_;clear a;subst z;decide) ?_)
  have w:=f.app [O.list ([]++ks.map λ_=>V.int 1)];generalize F++[O.list ([]++ks.map λ_=>V.int 1)]=G at w⊢;refine⟨_,w.get 4 rfl,Z a9<|bH b,?_⟩
  refine Z (show nV (h.s.nodes.map λp=>1+p.2.length)++[V.int (1+(ks.map λ_=>1).sum)]=nV ((h.s.nodes++[(op,ks)]).map λp=>1+p.2.length)from by refine Z (HK ..) ?_;unfold nV;refine Z bz<|Z bz ?_;rfl) ?_
  have j:=w.set 4 rfl (.list (nV ((h.s.nodes++[(op,ks)]).map λp=>1+p.2.length)));generalize G.set 8 (O.list (nV ((h.s.nodes++[(op,ks)]).map λp=>1+p.2.length)))=I at j⊢;refine⟨j.get 1 rfl,j.get 5 rfl,(⟨by decide,by refine Z bM<|Z a9 ?_;simp;lia,Z bM<|Z a9<|jN c,?_⟩)⟩
  have s:∀k∈ks,(iV _)[k]?=some (.int (h.dp[k]?.getD 0)):=λk a=>by refine Z eX ?_;refine Z (bJ (aC (v k a).1 (aA A.symm))) ?_;rfl
  refine lP (rest:=[some _]) trivial ks [] none none (λk a l0 P q=>⟨j.get 1 rfl,cZ (j.get 5 rfl) (Z aY<|aK b (aA A)) (cU (s k a)) q⟩) (by simp;exact aF c) ?_
  rewrite[js];refine Z ((by unfold iV;refine Z eG ?_;rfl:ks.map (λk=>V.int _)=iV (ks.map λk=>h.dp[k]?.getD 0))) ?_
  have o:(ks.map λk=>h.dp[k]?.getD 0).length<=2:=Z aY c;generalize ks.map (λk=>h.dp[k]?.getD 0)=n at o⊢;have C:=(j.app [O.list (iV n)]).app [O.list [.int 0]];refine⟨by decide,iV n,[.int 0],by refine Z (cu (by simp)) ?_;exact cj _ _,cj _ _,by refine Z aY ?_;simp;exact aF o,?_⟩
  refine Z (show iV n++[V.int 0]=iV (n++[0])from by unfold iV;refine Z bz ?_;rfl) ?_
  generalize I++[O.list _]++[O.list _]=Φ at C⊢;refine(b6 _ (cj _ _) (by simp) (λx _=>?_))
  have y:=C.app [O.list (iV (n++[0]))];generalize Φ++[O.list _]=L at y⊢;refine⟨_,y.get 5 rfl,Z aY<|aK b (aA A),(Z (show iV _++[V.int _]=iV (h.dp++[1+x])from by unfold iV;refine Z bz ?_;rfl) ?_)⟩
  have u:=y.set 5 rfl (.list (iV (h.dp++[1+x])));generalize L.set 9 _=D at u⊢;exact⟨u.get 1 rfl,_,u.get 2 rfl,Z aY<|Z aL<|cV b,(((Z aY (Z aL (Z xA ((q1 (Fp e) _ D u))))):Q (.int (((h.s.nodes++[(op,ks)]).map _).length-1)) D))⟩
theorem sU{x:Nat×O}:(cf h (x::T)).Perm (x::cf h T):=fj (l₁:=cf h [])
theorem vw(p:T.Perm T'):(cf h T).Perm (cf h T'):=ma (cf h []) p
inductive HW(h:HS)(n:Nat):Prop
 |mk(low:dr h.s.up)(lu:h.s.up.length=h.s.n)(n6:h.s.n<=10)(nn:n<h.s.n)(two:(aH h.s.nodes n).length<=2)(kl:∀k∈aH h.s.nodes n,k<h.s.n)(chl:h.ch.length<=1400)(knl:h.s.kn.length<=900)
def HS.mk1(h:HS)(n:Nat):HS:={h with made:=n+1,ch:=h.ch++[kv n]}
def HS.mk2(h:HS)(n:Nat):HS:=if a5 (h.s.sig n) h.s.kn=none then{h.mk1 n with ch:=(h.mk1 n).ch++[kD (h.s.sig n)]}else h.mk1 n
theorem Mc(H:Hx B)(W:ae (cf h T) m)(c:h.s.up.length<=1000)(f:h.ll.length=h.s.up.length)
 (q:∀v l g,ae (cf {h with s:={h.s with up:=h.s.up++[h.s.up.length]},ll:=h.ll++[l]} ((l,.list (nV [h.s.up.length]))::T)) g->Q v g):aP B (d+1) 320 [.obj 2 10] m Q:=by
 refine bv H 20 rfl rfl<|⟨W.get 6 rfl,W.get 7 rfl,(⟨W.get 6 rfl,_,W.get 7 rfl,Z a9<|aF c,(⟨_,W.get 7 rfl,Z a9<|aF c,(Z (show nV _++[V.int (nV _).length]=nV _ from Z a9<|Z oa.symm rfl) ?_)⟩)⟩)⟩;have a:=W.set 7 rfl (.list (nV (h.s.up++[h.s.up.length])));generalize m.set 11 _=m1 at a⊢;refine⟨a.get 6 rfl,a.get 8 rfl,(⟨a.get 6 rfl,_,a.get 8 rfl,Z aY<|aK c (aA f),lV _,(Z aY ?_)⟩)⟩;have e:=(a.new (.list [V.int h.ll.length])).perm (sU (h:={h with s:={h.s with up:=h.s.up++[h.s.up.length]}}));generalize m1++[O.list _]=i at e⊢;generalize m1.length=l at e⊢;refine⟨_,e.get 8 rfl,Z aY<|aK c (aA f),(Z (show h.ll.map _++[V.loc l]=(h.ll++[l]).map V.loc from by refine Z bz ?_;rfl) ?_)⟩
 have b:=e.set 8 rfl (.list ((h.ll++[l]).map V.loc));generalize i.set 12 _=j at b⊢;refine⟨b.get 6 rfl,_,b.get 7 rfl,Z a9<|Z aL<|cV c,?_⟩;rw[f]at b;exact q _ l j b
theorem CN(H:Hx B)(K:HW h n)(W:ae (ah h R) m)(hm:n=h.made)
 (q:∀g,ae (ah (h.mk2 n) R) g->aP B (d+5) 424 [.obj 0 4,.int n] g λ_ m=>Q .none m):aP B (d+6) 558 [.obj 0 4,.int n] m Q:=by
 refine AK H.1 rfl (Z H.1<|(cC (cC H.3).1).2:jS _ _ _ 2 5 _ (B.N.cls 0) _ _ (λj f=>jf _ _ _ _ _ wq _)=true) rfl<|⟨W.get 0 rfl,mv (eE ?_)⟩;show if _ then _ else _
 refine Z (ao (by simp;exact bg _ hm)) ?_
 refine⟨W.get 0 rfl,W.get 14 rfl,(⟨af,_,W.get 14 rfl,aF K.7,?_⟩)⟩;have c:=W.set 14 rfl (.list (h.ch++[kv n]));replace c:ae _ (m.set 19 (O.list (h.ch++[V.tup [V.str t7,V.int n]]))):=c;generalize m.set 19 _=m1 at c⊢;refine⟨c.get 0 rfl,af,?_⟩;have a:=c.set 0 rfl (.fields (ky h.wl h.backs (n+1)));replace a:ae (ah (h.mk1 n) R) (m1.set 4 (.fields (eL 10 (.int (n+1)) (ky _ _ h.made)))):=a;generalize m1.set 4 _=k at a⊢;refine⟨a.get 0 rfl,uL H (a.get 0 rfl) rfl rfl (a.get 1 rfl) (a.get 2 rfl) (a.get 6 rfl) (a.get 7 rfl) K.1 K.4 (by refine(?_:h.s.n<=_);exact aF K.3) (Z K.2<|aF K.3) K.5 (Z K.2 K.6) λl=>?_⟩
 have b:=a.app [O.list l];refine⟨b.get 0 rfl,rK (b.get 12 rfl) (kE (h.s.sig n)) (Z (eN jO _ _) ?_)⟩;unfold HS.mk2 at q
 cases e:a5 _ h.s.kn with
 |none=>rw[ao e]at q;exact Z e<|bD rfl<|⟨b.get 0 rfl,b.get 14 rfl,(⟨af,_,b.get 14 rfl,Z aL<|cV K.7,(have i:=b.set 14 rfl _;(ad _ rfl (q _ i)))⟩)⟩
 |some v=>
  rw[ai (by refine Z e ?_;intro z;exact gO z)]at q
  exact Z e<|bn rfl (ad _ rfl (q _ b))
theorem ib(a b:Nat)(h:(a:Int)=b):a=b:=m_.mp h
theorem qG a(b:u.length=h.ul.length):
 (cf h (A++(cJ h.ul u++R)))[A.length+c+17]?=some (h.ul[c],.list (nV (ay u c))):=by
 refine Z (l9 (dq _ _)) ?_;refine Z (qO ..)<|Z (cu (Z (iO b.symm)<|aC a (aA b.symm))) ?_;exact vQ a (aC a (aA b.symm))
theorem ES{v:List Nat} a(b:u.length=h.ul.length):
 (cf h (A++(cJ h.ul u++R))).set (A.length+c+17) (h.ul[c],.list (nV v))=cf h (A++(cJ h.ul (u.set c v)++R)):=((Z (qT _ _ (dq _ _)) (Z (qO ..) (Z (List.set_append_left _ _ (Z (iO b.symm)<|aC a (aA b.symm))) (Z (zz a) rfl)))):cf h ((A++(cJ _ u++R)).set _ _)=_)
def HS.added(h:HS)(op:Str)(ks:List Nat)(x:Int)(l l2:Nat):HS:=
 {h with s:=h.s.added op ks (cy (ks.map h.s.rt)),dp:=h.dp++[x],ll:=h.ll++[l],ul:=h.ul++[l2],ab:=cE h.s.n l2 h.ab}
theorem Rh{a b:Option V}{rest:bh}{P:cv}(hs:(sl,.list L0)∈R)(r:h.ab.length<=1000):∀cs u m x,ae (cf h (A++(cJ h.ul u++R))) m->u.length=h.ul.length->(∀c∈cs,c<h.ul.length/\a5 c h.ab=h.ul[c]?)->(∀c,(ay u c).length+cs.length<=1000)->
 (∀x m,ae (cf h (A++(cJ h.ul (ix n cs u)++R))) m->P .next (some (.obj 0 4)::a::b::some (.int n)::x::rest) m)->
 dy (au B d bc).t (λm=>m[sl]?=some (.list L0)) (bu B d (a6 (.expr (.bm 0 (.sub gK bc) jE)))).ss (nV cs) (some (.obj 0 4)::a::b::some (.int n)::x::rest) m P:=by
 intro cs
 induction cs with
 |nil=>exact@λu m x W _ _ _ q=>⟨W.mem (qo (bq _ (bq _ hs))),q x m W⟩
 |cons c cs v=>
  refine λu m x W f l g q=>a_ (l c aQ) λe p=>⟨W.mem (qo (bq _ (bq _ hs))),(⟨W.get 0 rfl,la (x:=.loc _) (W.get 13 rfl) ((eN ib _ _).trans (by refine Z p<|Z (bJ e) ?_;rfl)) ⟨W.get _ (qG e f),?_⟩⟩)⟩
  refine⟨_,W.get _ (qG e f),Z a9<|cN (g c),(Z (show nV _++[V.int n]=nV (ay u c++[n])from by unfold nV;refine Z bz ?_;rfl) ?_)⟩
  have i:=W.set _ (qG e f) (.list (nV (ay u c++[n])));rw[ES e f]at i;refine v _ _ _ i (Z dP f) (λj s=>l j (az _ s)) (λj=>Z (gz (aC e (aA f.symm)) ..) ?_) q;have h1:=g c;have k:=g j;rw[bU]at h1 k
  split
  ·exact Z aL<|aE h1
  ·exact aE k
theorem vR{x:List Nat}(h:ll.length=lot.length):cJ (ll++[l]) (lot++[x])=cJ ll lot++[(l,.list (nV x))]:=by unfold cJ;refine Z (List.zip_append h)<|Z bz ?_;rfl
theorem Ks{a:Type}{A Ω R:List a}{x y:a}:(y::x::(A++(Ω++R))).Perm ((A++[x])++((Ω++[y])++R)):=((Z cq fj.symm:(x::(A++(Ω++R))).Perm ((A++[x])++(Ω++R))).cons y).trans<|Z (kS Ω ..)<|Z (kS _ Ω R).symm<|Z (kS _ Ω ..).symm fj.symm
theorem uA{a:Type}{A Ω R:List a}{x:a}:(x::(A++(Ω++R))).Perm (A++(Ω++x::R)):=Z cq.symm<|Z cq.symm fj.symm
theorem L2{k x:Nat}:∀{l:List Nat},x∈iu k l↔x=k\/x∈l:=by
 intro l
 induction l with
 |nil=>exact bK
 |cons j r a=>
  exact by
   rw[yP]
   split
   ·simp
   ·split
    ·rename_i e;refine Z e ?_;simp
    ·rewrite[bK];rewrite[a];rewrite[bK];exact⟨λh=>by rcases h with h|h|h<;>simp[h],λh=>by rcases h with h|h|h<;>simp[h]⟩
theorem L3{x:Nat}:∀{ks acc:List Nat},x∈ks.foldl (λacc k=>iu k acc) acc↔x∈acc\/x∈ks:=by
 intro ks
 induction ks with
 |nil=>exact@λacc=>by simp
 |cons k r a=>intro acc;refine Z List.foldl_cons ?_;rewrite[a];rewrite[L2];rewrite[bK];exact⟨λh=>by rcases h with(h|h)|h<;>simp[h],λh=>by rcases h with h|h|h<;>simp[h]⟩
theorem sD{x:Nat}:x∈cy ks↔x∈ks:=by unfold cy;rewrite[L3];simp
theorem ow ks:(cy ks).Nodup:=(yQ ks).imp λh=>bI h
theorem y0(p:T'.Sublist T):(cf h T').Sublist (cf h T):=kT (l_ (cf h [])) p
inductive AW(h:HS):Prop
 |mk(low:dr h.s.up)(lu:h.s.up.length=h.s.n)(n6:h.s.n<=10)(ll:h.ll.length=h.s.n)(lo:h.s.lot.length=h.s.n)(ul:h.ul.length=h.s.n)(ls:h.s.use.length=h.s.n)(dl:h.dp.length=h.s.n)(ab:∀r,r<h.s.n->h.s.up[r]?=some r->a5 r h.ab=h.ul[r]?)(abl:h.ab.length<=900)(usl:∀r,(ay h.s.use r).length<=50)
def HS.grown(h:HS)(op:Str)(ks:List Nat)(x:Int)(l:Nat):HS:={h with s:={h.s with nodes:=h.s.nodes++[(op,ks)],up:=h.s.up++[h.s.n]},dp:=h.dp++[x],ll:=h.ll++[l]}
theorem E7(H:Hx B)(K:AW h)(W:ae (ah h R) m)(G:ef op)(q:ks.length<=2)(o:∀k∈ks,k<h.s.n/\k<3/\aH h.s.nodes k=[])
 (Φ:∀i:Nat,h.s.nodes[i]?=some (op,ks)->∀j,ae (ah h R) j->Q (.int i) j)
 (q1:(op,ks)∉h.s.nodes->∀x l l2 j,ae (ah (h.added op ks x l l2) R) j->∀P:aS,(∀v m,Q (.int h.s.n) m->P v m)->aP B (d+3) 558 [.obj 0 4,.int h.s.n] j P):aP B (d+4) 412 [.obj 0 4,.str op,.tup (nV ks)] m Q:=by
 have f:=K.2;refine bv H 31 rfl rfl<|⟨W.get 0 rfl,W.get 1 rfl,(Hp H W G q (λk a=>⟨(o k a).1,(o k a).2.2⟩) (aF K.3) K.8 (λi w j b=>?_) (λw x j b=>?_))⟩
 ·refine⟨b.get 0 rfl,b.get 6 rfl,Ao H (b.get 6 rfl) (b.get 7 rfl) (aK K.3 (aA f)) ((bD (Z f ?_) (Φ i w j b)))⟩;simp;exact(bV.mp w).1
 ·refine⟨b.get 0 rfl,b.get 6 rfl,Ao H (b.get 6 rfl) (b.get 7 rfl) (by refine(?_:h.s.up.length<=_);exact aK K.3 (aA f)) ((bn ?_ ?_))⟩
  ·exact Z f Fq
  refine⟨b.get 0 rfl,b.get 6 rfl,Mc H b (by refine(?_:h.s.up.length<=_);exact aK K.3 (aA f)) (((Z K.4 (Z f rfl)))) λv l m1 t=>?_⟩
  rw[show(h.took op ks x).s.up.length=h.s.n from f]at t;replace t:ae (cf (h.grown op ks x l) _) m1:=t;refine⟨af,?_⟩;have n:=(t.new (.list (nV []))).perm sU;replace n:ae _ (m1++[O.list []]):=n;generalize m1++[O.list []]=L at n⊢;generalize m1.length=l2 at n⊢;refine⟨n.get 0 rfl,nw (n.get 13 rfl) (bH K.10) (Z (lm ib _ l2 _) ?_)⟩;have p:=(n.set 13 rfl _).perm (vw (h:={h.grown op ks x l with ab:=cE h.s.n l2 h.ab,ul:=h.ul++[l2]}) Ks.symm);rw[<-vR (Z K.4<|Z K.5 rfl),<-vR (Z K.6<|Z K.7 rfl)]at p;have g:dr (h.s.up++[h.s.n]):=Z f.symm<|sE K.1;have r:(h.s.up++[h.s.n]).length=h.s.n+1:=tP;refine zf H (p.get 0 rfl) rfl (p.get 6 rfl) (p.get 7 rfl) g (by refine(?_:(h.s.up++[h.s.n]).length<=_);exact aK K.3 (aA r)) trivial ks [] none none (λk a=>by refine(?_:k<(h.s.up++[h.s.n]).length);have:=(o k a).1;exact aK (aA r.symm) this) (by simp;exact aF q) ?_
  have D:∀c∈ks.map h.s.rt,c<3/\c<h.s.n/\h.s.up[c]?=some c:=λc u=>by
   refine ac (bT.mp u) λk a A=>?_;clear u;subst A;refine(bt ?_ ?_ (g6 K.1 (aC (o k a).1 (aA f.symm))))
   ·exact((aK (lq K.1 k) (o k a).2.1):bi _ k<3)
   ·exact((aK (lq K.1 k) (o k a).1):bi _ k<h.s.n)
  refine(gP _ (by refine Z (cj ..)<|Z ((j0 λk a=>xr K.1 g k (Z f<|(o k a).1))) ?_;rfl) (Z aY q) (λk a=>(D k a).1) ?_)
  have E:=(((p.app [O.list ([]++nV (ks.map (bi (h.s.up++[h.s.n]))))]).new (.list (nV (cy (ks.map h.s.rt))))).perm sU).perm (vw uA.symm);refine⟨_,cj _ _,?_⟩;have y:=vi (ks.map h.s.rt);rw[eH]at y;refine Rh aQ (aK K.10 (mF _ l2 h.ab)) _ _ _ _ E (Z aL<|Z aL<|Z K.6<|Z K.7 rfl) (λc u=>?_) (λc=>?_) λM I F=>?_
  ·exact have e:=D c (sD.mp u);⟨Z aL<|Z K.6<|aE e.2.1,(((Z (je ..) (Z (ai (bI e.2.1)) (Z (K.9 c e.2.1 e.2.2) (Z (cu (Z K.6 e.2.1)) rfl))))))⟩
  ·refine Z kJ ?_
   split
   ·simp;exact aK q y
   ·exact dL q y (K.11 c)
  ·have C:=F.sub (y0 (by
    refine kT (l_ _) (kT (l_ _) (dB _ R))))
   exact⟨C.get 0 rfl,q1 w x l l2 I C _ λ_ _ z=>z⟩
theorem PS.msr_le{s:PS}(a:s.n<=6)(b:s.tot+6<=2*s.n) w:s.msr w<=42+w:=by unfold PS.msr;exact aE (Nat.mul_le_mul (aC s.roots_le a) (by lia):s.roots*(s.tot+1)<=6*7)
theorem ej.aw(K:ej h xs)(b:Bd h N)(c:N<=900):AW h:=⟨K.1.5,K.1.1,aF K.2,K.3,K.1.2,K.4,K.1.3,K.15,λr h1 a=>Z (K.5 r h1)<|Z (ao a) rfl,aC b.6 c,K.14⟩
theorem Nq{op:Nat->Str}(G:Gr n op kids)(h:k<3):kids k=[]:=G.2 k h
theorem Lk.added(L:Lk pre h rs [] N M)(A:h.wait=[])(w:h.s.n<6)(h1:ks≠[])(q:ks.length<=2)(s:∀k∈ks,k<3)(v:(op,ks)∉h.s.nodes)(u:N+44<=499) x l l2:
 Lk pre ((h.added op ks x l l2).mk1 h.s.n) (rs++[⟨h.s,.made h.s.n,0⟩]) [h.s.n] (N+1) (N+44):=by
 have K:=L.1;have G:=K.1;rw[L.2,bZ]at G
 have a:∀c∈cy (ks.map h.s.rt),c<h.s.n/\h.s.up[c]?=some c:=λc d=>by refine ac (bT.mp (((λx=>sD) c).mp d)) λk t o=>?_;subst o;exact have:=s k t;⟨G.rt_lt (aC this G.4.1),pM G (aC this G.4.1)⟩
 have f:(h.s.added op ks (cy (ks.map h.s.rt))).n=h.s.n+1:=aL;have j:(h.s.added op ks _).tot+6<=2*(h.s.n+1):=dL (aC (vi _) (Z aY q)) (G.tot_added λc d=>(a c d).1) L.5;have b:=L.6
 have Ω:∀i,ay _ i=if i∈cy _ then ay _ i++[h.s.n]else ay (h.s.use++[[]]) i:=λi=>ql (λc d=>Z aL<|Z G.3<|aE (a c d).1) (ow _)
 refine⟨⟨?_,?_,?_,?_,λr m=>?_,?_,?_,?_,?_,?_,?_,?_,?_,λr=>?_,?_⟩,f.symm,?_,?_,?_,⟨?_,?_,?_,?_,?_,?_⟩,?_,u,?_,hO L.10⟩
 ·exact(G.added h1 s q v (λx=>sD) (ow _))
 ·exact((aC (aA f) w))
 ·exact Z aL<|Z f<|Z K.3 rfl
 ·exact Z aL<|Z f<|Z K.4 rfl
 ·have m:r<(h.s.added op ks _).n:=m
  rw[f]at m;refine((Z (je ..) ?_):a5 r _=if(h.s.up++[h.s.n])[r]?=some r then(h.ul++[l2])[r]? else none)
  by_cases e:r=h.s.n
  ·refine Z (ao e)<|Z e<|Z (ao (Z G.1.symm z2))<|Z K.4.symm ?_;simp
  ·refine Z (ai e)<|Z (cu (Z G.1<|cw m e)) ?_;refine Z (cu (Z K.4<|cw m e)) ?_
   exact K.5 r (cw m e)
 ·refine(?_:(cE _ l2 h.ab).length<=_);have:=mF h.s.n l2 h.ab;have:=b.6;lia
 ·exact K.7
 ·exact K.8
 ·refine((Z aL ?_):(h.ch++[kv _]).length<=_);have:=b.3;exact aK u this
 ·exact K.10
 ·exact K.11
 ·exact K.12
 ·exact K.13
 ·refine Z (Ω r)<|Z kJ ?_
  split
  ·rename_i d
   refine Z (ai (λe=>(λe d=>by rw[G.3]at e;exact Cr (aA e.symm) (a r d).1) e d))<|Z aL ?_
   have:=rP (a r d).1 (a r d).2;have:=L.5
   lia
  ·split
   ·exact af
   ·exact(K.14 r)
 ·exact Z aL<|Z f<|Z K.15 rfl
 ·refine((Z L.3 ?_):h.ch++[kv _]=_);refine Z bz<|Z cq ?_;rfl
 ·refine .snoc L.4 (.made G s q v) (λg w0=>?_) λk many g z=>by cases z
  refine ac w0 λp y _=>?_;clear w0;have:=(bV.mp y).1;rw[G.1]at this;exact cu (Z K.4 this)
 ·exact Z f j
 ·exact hO b.1
 ·exact hO b.2
 ·refine((Z aL ?_):(h.ch++[kv _]).length<=_);have:=b.3;exact aE this
 ·exact hO b.4
 ·exact hO b.5
 ·refine ?_;have:=mF h.s.n l2 h.ab;have:=b.6;exact q3
 ·exact((Z A (have:=(h.s.added op ks _).msr_le (aC (aA f) w) (Z f j) ([].length+1);aE this)):N+1+(h.s.added op ks _).msr (h.wait.length+1)<=N+44)
 ·exact Z f<|(L.9.mono (iy _)).put (jq _)
inductive Fd(h:HS)(rs:List ec)(h':HS)(rs':List ec)(op:Str)(ks:List Nat):Prop
 |mk(nodes:h'.s.nodes=h.s.nodes++[(op,ks)])(told:gi h'.s.ed=gi h.s.ed)(ext:gb rs h.s rs' h'.s)(mks:h'.mks=h.mks)(backs:h'.backs=h.backs)(wl:h'.wl=h.wl)(el:h.s.ed.length<=h'.s.ed.length)
theorem Rc{op:Nat->Str}(g:Gr n op kids)(d:∀a b,¬told a b)(h:Al n op kids told a b):a=b:=by
 induction h with
 |refl _=>rfl
 |told h=>exact absurd h (d _ _)
 |back h=>exact absurd h (d _ _)
 |@cong a b e f k j _ l=>
  refine g.6 a b e f k (List.ext_getElem j λi h1 m=>?_);have:=l _ (f_ (Z eW q9))
  rwa [iY]at this
 |trans _ _ x y=>exact x.trans y
theorem Mj(H:Hx B)(L:Lk pre (h.mk1 n) rs [n] N M)(W:ae (ah (h.mk2 n) R) m)
 (q:∀h' g k f,Lk pre h' g [] k M->jz (h.mk1 n) rs h' g->((∀a b,¬fm h.s.ed a b)->h'.wait=h.wait)->ae (ah h' R) f->Q .none f):aP B (d+5) 424 [.obj 0 4,.int n] m Q:=by
 have G:=L.1.1;rw[L.2]at G;have j:=G.17 n (bq _ aQ);have l1:[n].length=1:=rfl;have i:(h.mk1 n).ch.length<=499:=dL L.8 L.7 L.6.3;unfold HS.mk2 at W
 cases e:a5 _ h.s.kn with
 |none=>
  rw[ao e]at W;refine vl (h:={h.mk1 n with ch:=(h.mk1 n).ch++[kD _]}) H (L.1.chs (Z aL<|cV i)) (Z aL<|aE i) W j (λ_ f w=>?_) (λv z=>?_) (λv z=>?_)
  ·exact q _ _ _ _ (L.knew e).1 (L.knew e).2 (λ_=>rfl) w
  ·exact absurd (e.symm.trans z) (by intro z;exact aN z)
  ·exact absurd (e.symm.trans z) (by intro z;exact aN z)
 |some v=>
  rw[ai (by refine Z e ?_;intro z;exact gO z)]at W
  refine vl H L.1 (aE i) W j (λz=>?_) (λv ev c f w=>?_) (λv ev c l f w=>?_)
  ·exact absurd (e.symm.trans z) (by intro z;exact gO z)
  ·exact q _ _ _ _ (L.old ev c) .refl (λ_=>rfl) w
  ·refine q _ _ _ _ (L.join ev c).1 (L.join ev c).2 (λo=>absurd (bg _ (Rc G.4 o (Bb G j (uV ((oh _ _).trans ev))))) c) w
theorem MA(H:Hx B)(L:Lk pre h rs [] N M)(u:h.wait=[])(v:h.s.n<6)(o:N+44<=499)(W:ae (ah h R) m)(D:jl op)(h1:ks≠[])(r:ks.length<=2)(j:∀k∈ks,k<3)
 (G:∀i:Nat,h.s.nodes[i]?=some (op,ks)->∀n,ae (ah h R) n->Q (.int i) n)
 (q1:(op,ks)∉h.s.nodes->∀h' e q n,Lk pre h' e [] q (N+44)->Fd h rs h' e op ks->((∀a b,¬fm h.s.ed a b)->h'.wait=[])->ae (ah h' R) n->Q (.int h.s.n) n):aP B (d+7) 412 [.obj 0 4,.str op,.tup (nV ks)] m Q:=by
 refine E7 H (L.1.aw L.6 (cN o)) W D.f r (λk c=>(bt (aC (j k c) L.1.1.4.1) (j k c) (Nq L.1.1.4 (j k c)))) G λt x l l2 m1 y P C=>?_;have f:=(L.added u v h1 r j t o x l l2).1;have p:(h.added op ks x l l2).s.n=h.s.n+1:=aL;refine CN H (h:=h.added op ks x l l2) ⟨f.1.5,f.1.1,aK v (aA p),Z p<|aT _,f.1.4.5 _,λk c=>?_,?_,f.8⟩ y L.2.symm λΦ z=>?_
 ·exact Z p<|have:k<3:=f.1.4.4 _ (Z p<|aT _) k c;aK L.1.1.4.1 this
 ·refine(?_:h.ch.length<=_)
  exact aK o L.6.3
 ·refine Mj H (L.added u v h1 r j t o x l l2) z λh' e q E w g I A=>C _ _ (q1 t h' _ q E w ⟨g.1,g.2,(gb.snoc.trans g.3),g.4,g.5,g.6,g.7⟩ (λF=>(I F).trans u) A)
inductive Fc(h:HS)(rs:List ec)(h':HS)(rs':List ec)(e:Nat×Nat×Nat):Prop
 |mk(nodes:h'.s.nodes=h.s.nodes)(ed:h'.s.ed=h.s.ed++[(e.1,e.2.1,some e.2.2)])(ext:gb rs h.s rs' h'.s)(mks:h'.mks=h.mks)(backs:h'.backs=h.backs)(wl:h'.wl=h.wl)
theorem Lk.told(L:Lk pre h rs [] N M)(r:h.wait=[])(g:a<h.s.n)(i:b<h.s.n)(o:N+50<=499):
 Lk pre (h.joinedL a b (some c) l) (rs++[h.rc a b]) [] (N+1) (N+50)/\Fc h rs (h.joinedL a b (some c) l) (rs++[h.rc a b]) (a,b,c):=by
 have G:=L.1.1;rw[L.2,bZ]at G;have d:=yG (h:=h) (a:=a) (b:=b) (l:=l) (lab:=some c);have e:=sO (h:=h) (a:=a) (b:=b) (l:=l) (lab:=some c);have m:=yF (h:=h) (a:=a) (b:=b) (l:=l) (lab:=some c);have f:=L.6;have q:max (h.s.rt a) (h.s.rt b)<h.s.n:=by have:=G.rt_lt g;have:=G.rt_lt i;exact q1
 have u:=rP q (io G g i).2;have p:=L.5;have t:=L.1.2;have j:(h.s.joined a b (some c)).n=h.s.n:=bg List.length jP;have k:(h.joinedL a b (some c) l).wait.length<=6:=by
  refine Z m<|Z r<|Z (js ..) ?_
  split
  ·exact af
  ·lia
 refine⟨⟨L.1.joinedL L.2 g i (by lia) f (aE o) (aF k) (Z (bZ ..)<|Z m<|(G.joined g i (.inl rfl) rfl)),Z d.1<|Z e<|Z j L.2,vd L.3,L.4.joinedL L.1 g i,Z e<|Z ((G.tot_joined g i).1)<|Z j p,⟨?_,?_,?_,?_,?_,?_⟩,?_,o,Z e<|Z j<|Do L.9 q2,hO L.10⟩,⟨Z e<|Z jP rfl,Z e<|Z mO rfl,gb.snoc,d.2.2.1,d.2.2.2.1,d.2.2.2.2.1⟩⟩
 ·exact Z e<|Z mO<|Z aL<|aE f.1
 ·exact Z e<|Z yD<|aE f.2
 ·exact Z (vd L.3)<|Z bz<|Z cq.symm<|Z L.3.symm<|aC (aA aL) (jp f.3)
 ·refine Z e ?_;have:=yE (s:=h.s) (a:=a) (b:=b) (lab:=some c);have:=f.4;exact q3
 ·refine Z e ?_;have:=yC (s:=h.s) (a:=a) (b:=b) (lab:=some c);have:=f.5;exact q3
 ·have:=yH (h:=h) (a:=a) (b:=b) (l:=l) (lab:=some c);have:=f.6;exact q3
 ·refine Z e ?_
  have:=(h.s.joined a b _).msr_le (aC (aA j) t) (Z ((G.tot_joined g i).1)<|Z j p) ((h.joinedL a b (some c) l).wait.length+([]:List Nat).length);simp only[lZ]at*;exact aK k this
theorem Mk(H:Hx B)(L:Lk pre h rs [] N M)(k:h.wait=[])(i:a<h.s.n)(j:b<h.s.n)(g:N+50<=499)(n:hG (a,b,some c)=.tup [.int a,.int b,rv])(W:ae (ah h R) m)
 (q:∀v h' e f,Lk pre h' e [] (N+1) (N+50)->Fc h rs h' e (a,b,c)->ae (ah h' R) f->Q v f):aP B (d+5) 445 [.obj 0 4,.int a,.int b,rv] m Q:=bv H 35 rfl rfl<|⟨W.get 0 rfl,(CO H L.1 (aK g L.6.3) W i j n λv l f w=>q v _ _ f (L.told k i j g).1 (L.told k i j g).2 w)⟩
theorem CH(b:h.ll.length=h.s.lot.length) a:(ah h R)[k+17]?=some (h.ll[k],.list (nV (ay h.s.lot k))):=by refine Z (cu (Z (iO b)<|aC a (aA b))) ?_;exact vQ a (aC a (aA b))
theorem Mf{v:List Nat}(b:h.ll.length=h.s.lot.length) a:(ah h R).set (k+17) (h.ll[k],.list (nV v))=ah {h with s:={h.s with lot:=h.s.lot.set k v}} R:=by refine((Z (List.set_append_left _ _ (Z (iO b)<|aC a (aA b))) (Z (zz a) ?_)):cf h ((cJ _ _++(cJ _ _++R)).set k _)=_);rfl
theorem Q2(H:Hx B)(W:ae (ah h R) m)(t:h.s.mg=mg0++[(k,g)])(v:h.ll.length=h.s.lot.length)(p:k<h.ll.length)(u:g<h.ll.length)(A:h.s.up.length=h.ll.length)(z:h.ll.length<=100)(x:mg0.length<=900)
 (l1:(ay h.s.lot g).length<=(ay h.s.lot k).length)(l2:(ay h.s.lot k).length<=1000)
 (q:∀C,ae (ah {h with s:={h.s with up:=h.s.up.set g g,lot:=h.s.lot.set k ((ay h.s.lot k).take ((ay h.s.lot k).length-(ay h.s.lot g).length)),mg:=mg0}} R) C->Q .none C):aP B (d+1) 367 [.obj 2 10,.int mg0.length] m Q:=by
 refine bv H 26 rfl rfl<|(cP (λi J m=>(i=1/\J=[some _,some _,none,none,none,none]/\ae _ m)\/(i=0/\(aV λa b=>J=[some (.obj 2 10),some (.int mg0.length),a,b,none,none])/\ae (ah {h with s:={h.s with up:=h.s.up.set g g,lot:=h.s.lot.set k ((ay h.s.lot k).take ((ay h.s.lot k).length-(ay h.s.lot g).length)),mg:=mg0}} R) m)) 1 (.inl (bt rfl rfl W)) ?_);rintro i J m1 (⟨rfl,rfl,f⟩|⟨rfl,⟨a,b,rfl⟩,f⟩)
 ·refine⟨f.get 6 rfl,_,f.get 9 rfl,Z aY<|Z t<|Z aL<|cV x,(((bD ?_ ?_)))⟩
  ·refine Z aY<|Z t<|Z aL ?_;simp;exact BA
  have n:m1[13]?=some (.list (mg0.map pV++[pV (k,g)])):=by refine Z (f.get 9 rfl)<|Z t<|Z bz ?_;rfl
  refine⟨f.get 6 rfl,n,_,_,n,bH x,rfl,?_⟩;have o:=f.set 9 rfl (.list (mg0.map pV));generalize m1.set 13 _=E at o⊢;refine⟨o.get 6 rfl,wu (o.get 7 rfl) (Z a9<|aK (aA A) z) (Z a9<|aC u (aA A.symm)) (Z (show(nV _).set g _=nV _ from List.map_set.symm) ?_)⟩;have e:=o.set 7 rfl (.list (nV (h.s.up.set g g)));generalize E.set 11 _=F at e⊢;replace e:ae (ah {h with s:={h.s with mg:=mg0,up:=h.s.up.set g g}} R) F:=e;have w:=CH (h:={h with s:={h.s with mg:=mg0,up:=h.s.up.set g g}}) (R:=R) v p;have l:∀{i}(y:i<h.ll.length),(h.ll.map _)[i]?=some (V.loc _):=λy=>jR (bJ y);have j:(h.ll.map V.loc).length<=10000:=bH z;refine⟨e.get 6 rfl,cZ (e.get 8 rfl) j (cU (l p)) (⟨e.get 6 rfl,cZ (e.get 8 rfl) j (cU (l p)) ⟨_,e.get _ w,Z a9<|aF l2,(⟨e.get 6 rfl,cZ (e.get 8 rfl) j (cU (l u)) ⟨_,e.get _ (CH (h:={h with s:={h.s with mg:=mg0,up:=h.s.up.set g g}}) v u),Z a9<|((aK l1 l2)),(Z a9<|Z a9<|⟨_,e.get _ w,by refine(?_:0<=((ay h.s.lot k).length:Int)-(ay h.s.lot g).length);lia,by refine Z a9<|(?_:((ay h.s.lot k).length:Int)-(ay h.s.lot g).length<=(ay h.s.lot k).length);lia,Z a9<|aF l2,?_⟩)⟩⟩)⟩⟩)⟩
  have D:(nV (ay h.s.lot k)).take (((ay h.s.lot k).length:Int)-(ay h.s.lot g).length).toNat=nV ((ay h.s.lot k).take ((ay h.s.lot k).length-(ay h.s.lot g).length)):=by refine Z JS ?_;unfold nV;exact Z List.map_take rfl
  have r:=e.set _ w (.list (nV ((ay h.s.lot k).take ((ay h.s.lot k).length-(ay h.s.lot g).length))));rw[Mf (h:={h with s:={h.s with mg:=mg0,up:=h.s.up.set g g}}) v p]at r;refine(ad 0 af (.inr (bt rfl ⟨_,_,rfl⟩ ?_)));rw[<-D]at r;exact r
 ·refine⟨f.get 6 rfl,_,f.get 9 rfl,bH x,(((bn ?_ (q m1 f))))⟩
  simp;lia
theorem Hr{a:Type}{A B:List a}:(A++B).take ((A++B).length-B.length)=A:=by refine Z bM<|Z (Nat.add_sub_cancel ..) ?_;rewrite[List.take_left'];rfl;rfl
theorem mu{a b:Int}(q:P (.bool (true^^decide (a=b))) m):dz .NotEq (.int a) (.int b) m P:=⟨rfl,rfl,q⟩
theorem GU(a:h.ll.length=h.s.lot.length)(c:h.ul.length=h.s.use.length) b:(ah h R)[h.ll.length+k+17]?=some (h.ul[k],.list (nV (ay h.s.use k))):=by have:=qG (A:=cJ h.ll h.s.lot) (R:=R) b c.symm;rw[iO a,<-a]at this;exact this
theorem GT{v:List Nat}(a:h.ll.length=h.s.lot.length)(b:h.ul.length=h.s.use.length)(c:k<h.ul.length):(ah h R).set (h.ll.length+k+17) (l,.list (nV v))=ah {h with s:={h.s with use:=h.s.use.set k v},ul:=h.ul.set k l} R:=by refine((Z (qT _ _ (Z (iO a)<|aE (aA a.symm))) (Z (iO a)<|Z a.symm<|Z (qO ..)<|Z (List.set_append_left _ _ (Z (iO b)<|aC c (aA b))) (Z ER ?_))):cf h ((cJ _ _++(cJ _ _++R)).set _ _)=_);rfl
theorem G0(H:Hx B)(W:ae (ah {h with s:=s0.jn e k g} R) m)(F:k≠g)(a:k<s0.n)(L:g<s0.n)(N:s0.n<=100)(ll:h.ll.length=s0.n)(ul:h.ul.length=s0.n)(lo:s0.lot.length=s0.n)(u:s0.use.length=s0.n)
 (M:s0.up.length=s0.n)(P:s0.up[g]?=some g)(ab:a5 k h.ab=h.ul[k]?)(j:h.ab.length<=900)(I:s0.ed.length<=900)(Φ:s0.fo.length<=900)(E:s0.mg.length<=900)(A:∀r,(ay s0.lot r).length<=400)(G:∀r,(ay s0.use r).length<=100)
 (q:∀f C,ae (ah {h with s:=s0,ul:=h.ul.set k f,ab:=cE g l (cE k f h.ab)} R) C->Q .none C):aP B (d+2) 578 [.obj 0 4,oE k (ay s0.use k).length g l] m Q:=by
 refine bv H 44 rfl rfl<|⟨rfl,?_⟩;have n:m[14]?=some (.list (s0.ed.map hG++[hG e])):=by refine Z (W.get 10 rfl)<|Z bz ?_;rfl
 refine⟨W.get 0 rfl,n,_,_,n,bH I,?_⟩;have p:=W.set 10 rfl (.list (s0.ed.map hG));generalize m.set 14 _=m1 at p⊢;refine(mu (bD (by simp;exact jM F) ?_))
 have o:m1[15]?=some _:=Z (p.get 11 rfl)<|Z oa.symm rfl;refine⟨p.get 0 rfl,o,_,_,o,Z a9<|aF Φ,?_⟩;have b:=p.set 11 rfl (.list (nV s0.fo));generalize m1.set 15 _=D at b⊢;replace b:ae (ah {h with s:={s0.jn e k g with ed:=s0.ed,fo:=s0.fo}} R) D:=b;refine⟨b.get 0 rfl,b.get 6 rfl,b.get 0 rfl,b.get 6 rfl,_,b.get 9 rfl,Z aY<|Z aL<|cV E,(((Z ((Z aY<|Z aL xA:(((s0.mg++[(k,g)]).map pV).length:Int)-1=s0.mg.length)) ?_):aP B _ _ [.obj 2 10,.int ((((s0.mg++[(k,g)]).map pV).length)-1)] D _))⟩;have w:ay _ k=ay s0.lot k++ay s0.lot g:=Z (gz (aC a (aA lo.symm)) ..)<|Z (ao rfl) rfl;have y:ay (s0.lot.set k (ay s0.lot k++ay s0.lot g)) g=ay s0.lot g:=Z (gz (aC a (aA lo.symm)) ..)<|Z (ai (λz=>F z.symm)) rfl;refine Q2 H b rfl (Z dP<|ll.trans lo.symm) (((aC a (aA ll.symm)))) (((aC L (aA ll.symm)))) (Z dP<|M.trans ll.symm) (aC (aA ll) N) E
  (Z w<|Z y<|Z bM<|Nat.le_add_left _ _)
  (by refine Z w<|Z bM ?_;have:=A k;have:=A g;lia) λx i=>?_
 replace i:ae (ah {h with s:={s0.jn e k g with ed:=s0.ed,fo:=s0.fo,mg:=s0.mg,up:=(s0.up.set g k).set g g,lot:=(s0.lot.set k _).set k ((ay (s0.lot.set k _) k).take ((ay (s0.lot.set k _) k).length-(ay (s0.lot.set k _) g).length))}} R) x:=i;rw[w,y,Hr,show(s0.lot.set k _).set k _=s0.lot from Z (List.set_set ..)<|Z (Bj (aC a (aA lo.symm))) rfl,I3 P]at i;have t:=GU (h:={h with s:={s0.jn e k g with ed:=s0.ed,fo:=s0.fo,mg:=s0.mg,up:=s0.up,lot:=s0.lot}}) (R:=R) (ll.trans lo.symm) (((Z dP (ul.trans u.symm)))) (((aC a (aA ul.symm))));replace t:(ah _ R)[h.ll.length+k+17]?=some (h.ul[k]'(aC a (aA ul.symm)),.list (nV (ay (s0.use.set k _) k))):=t;rw[(Z (gz (aC a (aA u.symm)) ..)<|Z (ao rfl) rfl:ay _ k=ay s0.use k++ay _ g)]at t;refine⟨i.get 0 rfl,la (i.get 13 rfl) ((eN ib _ _).trans (by refine Z ab<|Z (bJ (aC a (aA ul.symm))) ?_;rfl):bO _ _=some (.loc _)) (gP _ (.inl (i.get _ t)) (by lia) (by refine Z a9<|Z bM ?_;have:=G k;have:=G g;lia) ?_)⟩
 refine Z (show(nV _).take _=nV _ from by unfold nV;refine Z List.map_take.symm ?_;rewrite[List.take_left'];rfl;rfl) ?_
 have c:=i.renew (h.ll.length+k+17) (.list (nV (ay s0.use k)));rw[GT (by exact ll.trans lo.symm) (by exact Z dP<|ul.trans u.symm) (by exact((aC a (aA ul.symm)):k<h.ul.length))]at c
 replace c:ae (ah {h with s:={s0 with use:=(s0.use.set k _).set k _},ul:=h.ul.set k _} R) _:=c;rw[List.set_set,Bj (aC a (aA u.symm))]at c;generalize x++[O.list _]=S at c⊢;generalize x.length=f at c⊢;exact⟨c.get 0 rfl,nw (c.get 13 rfl) (bH j) (Z (show c_ _ _ _=jX (cE k f h.ab)from lm ib k f _) (have v:=c.set 13 rfl _;⟨v.get 0 rfl,nw (v.get 13 rfl) (Z aY<|aK j (mF k f h.ab)) (Z (lm ib g l _)<|q f _ (v.set 13 rfl (.idict (jX (cE g l (cE k f h.ab))))))⟩))⟩
theorem GZ(H:Hx B)(W:ae (ah {h with s:={s0 with ed:=s0.ed++[e]}} R) m)(f:s0.ed.length<=900)
 (q:∀c,ae (ah {h with s:=s0} R) c->Q .none c):aP B (d+2) 578 [.obj 0 4,oE k many k l] m Q:=by
 refine bv H 44 rfl rfl<|⟨rfl,?_⟩;have a:m[14]?=some (.list (s0.ed.map hG++[hG e])):=by refine Z (W.get 10 rfl)<|Z bz ?_;rfl
 refine⟨W.get 0 rfl,a,_,_,a,bH f,?_⟩;have b:=W.set 10 rfl (.list (s0.ed.map hG));generalize m.set 14 _=m1 at b⊢;exact(mu (bn (z3 rfl) (q m1 b)))
theorem D9{b c:Type}[DecidableEq b]{p:b}{v:c}{l:List (b×c)}(h:a5 p l=none):fY p (l++[(p,v)])=l:=by
 unfold fY;refine Z (List.filter_append ..) ?_
 have d:l.filter (λq=>decide (q.1≠p))=l:=List.filter_eq_self.mpr λq a=>by
  simp only[decide_eq_true_eq];intro e
  induction l with
  |nil=>cases a
  |cons x r f=>
   have h:(if x.1=p then some _ else a5 p r)=none:=h
   by_cases z:x.1=p
   ·rw[ao z]at h;exact gO h
   ·rw[ai z]at h
    rcases bK.mp a with rfl|a
    ·exact z e
    ·exact f h a
 refine Z d ?_;simp
theorem zR{a:Type}[DecidableEq a]{p:a}:∀{l:List a}{k:Nat},p∉l->a5 p (l.zipIdx k)=none:=by
 intro l
 induction l with
 |nil=>exact@λ_ _=>rfl
 |cons x r b=>exact@λk h=>((Z (ai (show¬x=p from λe=>h (Z e aQ))) (b λq=>h (az _ q))):(if x=p then some k else a5 p _)=none)
theorem QZ(H:Hx B){x:Int}(W:ae (cf {h with s:={h.s with nodes:=nodes++[(op,ks)]},dp:=dp++[x]} T) m)(n:(op,ks)∉nodes)(b:nodes.length<=900)(t:dp.length<=900)
 (q:∀o,ae (cf {h with s:={h.s with nodes:=nodes},dp:=dp} T) o->Q .none o):aP B (d+1) 245 [.obj 1 5,.int nodes.length] m Q:=by
 refine bv H 14 rfl rfl<|(cP (λi J m=>J=[some _,some _,none,none]/\((i=1/\ae _ m)\/(i=0/\ae (cf {h with s:={h.s with nodes:=nodes},dp:=dp} T) m))) 1 ⟨rfl,.inl ⟨rfl,W⟩⟩ ?_);rintro i J m1 ⟨rfl,⟨rfl,a⟩|⟨rfl,a⟩⟩
 ·refine⟨a.get 1 rfl,_,a.get 2 rfl,Z aY<|Z aL<|cV b,(((bD ?_ ?_)))⟩
  ·refine Z aY<|Z aL ?_;simp;exact BA
  have g:m1[6]?=some (.list (nodes.map cA++[cA (op,ks)])):=by refine Z (a.get 2 rfl)<|Z bz ?_;rfl
  refine⟨a.get 1 rfl,a.get 3 rfl,(⟨a.get 1 rfl,g,_,_,g,bH b,?_⟩)⟩;have f:=a.set 2 rfl (.list (nodes.map cA));generalize m1.set 6 _=u at f⊢;have l:lA (nodes++[(op,ks)])=fa kK nI (nodes.zipIdx++[((op,ks),nodes.length)]):=by unfold lA;exact Z ((by refine Z List.zipIdx_append<|Z (Nat.zero_add ..) ?_;rfl:(nodes++[(op,ks)]).zipIdx=nodes.zipIdx++[((op,ks),nodes.length)])) rfl
  refine Ab (B:=B) (z_ (f.get 3 rfl) (kE _) (by refine Z l<|Z (eN jO ..)<|Z (Z (xD (zR n)).symm<|Z (je ..)<|Z (ao rfl) rfl:a5 _ (nodes.zipIdx++[((op,ks),nodes.length)])=some _) ?_;rfl) (Z aY<|Z List.length_zipIdx<|Z aL<|cV b) ?_)
  refine Z (show fZ _ _=lA nodes from by refine Z l<|Z (vF jO ..)<|Z (D9 (zR n)) ?_;rfl) ?_
  have c:=f.set 3 rfl (.tdict (lA nodes));generalize u.set 7 _=r at c⊢;have j:r[8]?=some (.list (nV (nodes.map λp=>1+p.2.length)++[.int (1+ks.length)])):=by refine Z (c.get 4 rfl) ?_;unfold nV;refine Z bz<|Z bz ?_;rfl
  refine⟨c.get 1 rfl,j,_,_,j,Z a9<|bH b,?_⟩;have e:=c.set 4 rfl (.list (nV (nodes.map λp=>1+p.2.length)));generalize r.set 8 (O.list (nV (nodes.map λp=>1+p.2.length)))=v at e⊢;have k:v[9]?=some (.list (iV dp++[.int x])):=by refine Z (e.get 5 rfl) ?_;unfold iV;refine Z bz ?_;rfl
  exact⟨e.get 1 rfl,k,_,_,k,bH t,((gx 0 af rfl (.inr ⟨rfl,e.set 5 rfl _⟩)))⟩
 ·refine⟨a.get 1 rfl,_,a.get 2 rfl,bH b,(((bn (Z aY ?_) (q m1 a))))⟩;simp;lia
theorem wB{a b:List V}(h1:m[i]?=some (.list a))(c:m[j]?=some (.list b))(d:V.plains 8 a=true)(e:V.plains 8 b=true)(q:P (.bool (true^^V.eqbs a b)) m):dz .NotEq (.loc i) (.loc j) m P:=⟨a,b,h1,c,d,e,q⟩
theorem G7(H:Hx B)(W:ae (cf {h with s:={h.s with up:=up0++[up0.length]},ll:=ll0++[l]} T) m)(lo:dr (up0++[up0.length]))(i:ll0.length=up0.length)(f:up0.length<=900)(n:(l,.list (nV [up0.length]))∈T)
 (q:∀j,ae (cf {h with s:={h.s with up:=up0},ll:=ll0} T) j->Q .none j):aP B (d+3) 374 [.obj 2 10,.int up0.length] m Q:=by
 refine bv H 27 rfl rfl<|(?_:iA _ _ _);refine Z (ai (show¬((0:Int)>up0.length)by lia))<|⟨W.get 6 rfl,_,W.get 7 rfl,Z a9<|Z aL<|cV f,pO,Z a9<|Z aL BF,?_⟩
 refine Z (show eZ _ 1 _=[.int up0.length]from by
  refine Z a9<|Z aL<|Z (show(((up0.length+1):Int)-up0.length).toNat=1 from by lia) ?_
  unfold eZ;rfl) ?_
 refine⟨trivial,(⟨W.get 6 rfl,CC (lot:=[up0.length]) (l:=l) H (W.get 6 rfl) (W.get 7 rfl) (W.get 8 rfl) lo (Z aL<|aT _) (Z aL<|cV f) (Z aL<|aK (aA i) f) ?_ ?_ af ?_⟩)⟩
 ·exact((Z (pN z2) (Z i.symm z2)):(ll0++[l])[bi _ _]?=some l)
 ·exact W.mem (qo n)
 ·have e:=(W.app [O.list (nV (dX [up0.length]))]).app [O.list [V.int up0.length]]
  have k:dX _=[up0.length]:=List.mergeSort_singleton _;refine⟨af,?_⟩;rw[k]at e⊢;refine wB (by refine Z (cu z1) ?_;exact cj _ _) (cj _ _) rfl rfl (bn (bg (λb=>true^^b) (V.eqb_refl2.2 _ 8 rfl)) ?_)
  generalize m++[O.list _]++[O.list _]=m1 at e⊢;refine⟨trivial,(⟨e.get 6 rfl,_,e.get 7 rfl,by lia,by refine Z a9<|Z aL ?_;lia,Z a9<|Z aL<|cV f,?_⟩)⟩
  refine Z (by refine Z (Int.toNat_natCast ..) ?_;unfold nV;refine Z List.map_take.symm ?_;rewrite[List.take_left'];rfl;rfl:(nV _).take _=nV _) ?_
  have g:=e.set 7 rfl (.list (nV up0));generalize m1.set 11 _=o at g⊢;refine⟨g.get 6 rfl,_,g.get 8 rfl,by lia,by refine Z aY<|Z aL ?_;lia,Z aY<|Z aL<|aK (aA i) f,?_⟩
  exact Z (by refine Z (Int.toNat_natCast ..)<|Z i.symm<|Z List.map_take.symm ?_;rewrite[List.take_left'];rfl;rfl:((ll0++[l]).map _).take _=ll0.map _)<|q _ (g.set 8 rfl (.list (ll0.map _)))
theorem Ki{a:Option V}{rest:bh}{P:cv}(hs:(sl,.list L0)∈R):∀cs u m x,ae (cf h (A++(cJ h.ul u++R))) m->u.length=h.ul.length->cs.Nodup->(∀c∈cs,c<h.ul.length/\a5 c h.ab=h.ul[c]?/\aV λp y=>ay u c=p++[y]/\p.length<=1000)->
 (∀x m,ae (cf h (A++(cJ h.ul (lr cs u)++R))) m->P .next (some (.obj 0 4)::a::x::rest) m)->
 dy (au B d aO).t (λm=>m[sl]?=some (.list L0)) (bu B d (a6 (.expr (.bm 1 (.sub gK aO) .nil)))).ss (nV cs) (some (.obj 0 4)::a::x::rest) m P:=by
 intro cs
 induction cs with
 |nil=>exact@λu m x W _ _ _ q=>⟨W.mem (qo (bq _ (bq _ hs))),q x m W⟩
 |cons c cs v=>
  intro u m x W g w i q;obtain⟨f,r,p,y,n,s⟩:=i c aQ;have e:=eF.mp w;refine⟨W.mem (qo (bq _ (bq _ hs))),?_⟩;have b:=W.get _ (qG f g);rw[n,<-oa]at b;refine⟨W.get 0 rfl,la (x:=.loc _) (W.get 13 rfl) ((eN ib _ _).trans (by refine Z r<|Z (bJ f) ?_;rfl)) ⟨b,_,_,b,Z a9<|aF s,?_⟩⟩
  have l:=W.set _ (qG f g) (.list (nV p));rw[ES f g]at l;rw[(((Z n (Z List.dropLast_concat rfl)):lr cs (u.set c (ay u c).dropLast)=_):lr _ u=lr cs _)]at q;exact v _ _ _ l (Z dP g) e.2 (λj k=>(bt (i j (az _ k)).1 (i j (az _ k)).2.1 (Z (gz (aC f (aA g.symm)) ..) (Z (ai (show¬j=c from λz=>e.1 (Z z.symm k))) ((i j (az _ k)).2.2))))) q
theorem G6(e:n=up0.length)(H:Hx B)(W:ae (cf {h with s:={h.s with up:=up0++[n]},ll:=ll0++[l]} T) m)(lo:dr (up0++[n]))(g:ll0.length=up0.length)(i:up0.length<=900)(f:(l,.list (nV [n]))∈T)
 (q:∀c,ae (cf {h with s:={h.s with up:=up0},ll:=ll0} T) c->Q .none c):aP B (d+3) 374 [.obj 2 10,.int n] m Q:=by
 subst e;exact G7 H W lo g i f q
theorem GY(H:Hx B){x:Int}{l l2:Nat}(W:ae (ah {h with s:=s0.added op ks (cy (ks.map s0.rt)),ll:=ll0++[l],ul:=e++[l2],dp:=dp0++[x]} R) m)
 (u:s0.n<=10)(f:dr s0.up)(n:s0.up.length=s0.n)(ll:ll0.length=s0.n)(ul:e.length=s0.n)(lo:s0.lot.length=s0.n)(M:s0.use.length=s0.n)(dl:dp0.length=s0.n)(D:ks.length<=2)(t:∀k∈ks,k<3/\k<s0.n)(P:(op,ks)∉s0.nodes)
 (ab:∀r,r<s0.n->s0.up[r]?=some r->a5 r h.ab=e[r]?)(z:a5 s0.n h.ab=some l2)(y:h.ab.length<=900)(S:∀r,(ay s0.use r).length<=100)
 (q:∀I,ae (ah {h with s:=s0,ll:=ll0,ul:=e,dp:=dp0,ab:=fY s0.n h.ab,made:=s0.n} R) I->Q .none I):aP B (d+4) 571 [.obj 0 4,.int s0.n] m Q:=by
 have Φ:(s0.nodes++[(op,ks)]).length=s0.n+1:=aL;have g:dr (s0.up++[s0.n]):=Z n.symm<|sE f;have G:aH (s0.nodes++[(op,ks)]) _=ks:=Z ot<|Z (ao rfl) rfl;refine bv H 43 rfl rfl<|⟨W.get 0 rfl,W.get 1 rfl,(sM (nodes:=s0.nodes++[(op,ks)]) H (W.get 1 rfl) (W.get 2 rfl) ((aA Φ.symm)) (aK u (aA Φ)) (Z G D) (Z G<|zf H (W.get 0 rfl) rfl (W.get 6 rfl) (W.get 7 rfl) g (Z aL<|aK u (aA n)) trivial ks [] none none (λk a=>Z aL<|aK (aA n.symm) (t k a).2) (by simp;exact aF D) ?_))⟩
 refine Z ((j0 λk a=>xr f g k (Z n<|(t k a).2):ks.map _=ks.map s0.rt)) ?_
 have L:∀c∈ks.map s0.rt,c<3/\c<s0.n/\s0.up[c]?=some c:=λc i=>by
  refine ac (bT.mp i) λk a C=>?_;subst C;refine(bt ?_ ?_ (g6 f (aC (t k a).2 (aA n.symm))))
  ·exact((aK (lq f k) (t k a).1):bi _ k<3)
  ·exact((aK (lq f k) (t k a).2):bi _ k<s0.n)
 refine(gP _ (cj _ _) (Z aY D) (λk a=>(L k a).1) ?_);have N:=(((W.app [O.list ([]++nV (ks.map s0.rt))]).new (.list (nV (cy (ks.map s0.rt))))).perm sU).perm (vw uA.symm);refine(ad _ (cj _ _) ?_);have A:=λc i=>(L c (sD.mp i)).2;refine Ki aQ _ _ _ _ N (((Z vX (Z tP (Z aL (Z ul rfl)))):(ix _ _ _).length=(e++[l2]).length)) (ow _) (λc i=>?_) λΨ m1 E=>?_
 ·have b:=A c i
  refine⟨Z aL<|aK (aA ul.symm) b.1,?_,ay _ c,s0.n,?_,aF (S c)⟩
  ·exact((Z (ab c b.1 b.2) (Z (cu (aC b.1 (aA ul.symm))) rfl)))
  ·refine Z (ql (λc i=>by refine Z tP ?_;have:=(A c i).1;exact aE this) (ow _)) ?_;exact Z (ao i)<|Z kJ<|Z (ai (by exact Z M<|bI b.1)) rfl
 ·rw[show lr _ (s0.added op ks _).use=s0.use++[[]]from Kk (λc i=>by refine Z tP ?_;have:=(A c i).1;exact aE this) (ow _)]at E
  have j:ae (cf _ (cJ _ (s0.lot++[[s0.n]])++(cJ (e++[l2]) _++R))) m1:=
   E.sub (y0 (kT (l_ _) (kT (l_ _) (dB _ R))))
  rw[vR (ll.trans lo.symm),vR (ul.trans M.symm)]at j;refine⟨j.get 0 rfl,Aa (j.get 13 rfl) ((eN ib _ _).trans (by refine Z z ?_;rfl)) (bH y) ?_⟩
  exact Z (vF ib _ h.ab)<|have v:=j.set 13 rfl _;⟨v.get 0 rfl,v.get 6 rfl,(G6 (h:={h with s:={s0 with nodes:=s0.nodes++[(op,ks)]},ul:=e++[l2],dp:=dp0++[x],ab:=fY _ _}) n.symm H v g (ll.trans n.symm) (aK u (aA n)) (by simp) λT w=>⟨w.get 0 rfl,w.get 1 rfl,(QZ (h:={h with s:=s0,ll:=ll0,ul:=e++[l2],ab:=fY _ _}) H w P (aF u) (aK u (aA dl)) λΩ F=>⟨F.get 0 rfl,af,(q _ (((F.set 0 rfl _).sub (y0 (kT (List.sublist_append_left _ _) (kT (List.sublist_append_left _ _) (l_ _)))))))⟩)⟩)⟩
inductive Un(pre:List V)(N:Nat)(rs:List ec)(h:HS):Prop
 |mk(ch:h.ch=pre++rs.map iv)(hist:fG cy rs h.s h.ul)(mn:h.made=h.s.n)(n6:h.s.n<=6)(ll:h.ll.length=h.s.n)(ul:h.ul.length=h.s.n)(dl:h.dp.length=h.s.n)(ab:∀r,r<h.s.n->a5 r h.ab=if h.s.up[r]?=some r then h.ul[r]? else none)(ak:gI h.s.n h.ab)(ed:h.s.ed.length<=N)(kn:h.s.kn.length<=N)(fo:h.s.fo.length<=N)(mg:h.s.mg.length<=N)(chl:h.ch.length<=N)(usl:∀r,(ay h.s.use r).length<=50)
theorem Lk.un(L:Lk pre h rs xs N M):Un pre N rs h:=
 ⟨L.3,L.4,L.2,L.1.2,L.1.3,L.1.4,L.1.15,L.1.5,L.9,L.6.1,L.6.2,L.6.4,L.6.5,L.6.3,L.1.14⟩
theorem pI{l:List α}(h:l.length=n+1):aV λr x=>l=r++[x]:=by
 rcases List.eq_nil_or_concat l with e|⟨r,y,e⟩
 ·rw[e]at h;exact kk id h rfl
 ·exact⟨r,y,Z e<|Z List.concat_eq_append rfl⟩
theorem uz(h:(pre++(rs++[r]).map iv).length<=N):(pre++rs.map iv).length<=N:=by rw[bz,<-kS,bM]at h;exact aE h
section
variable{r:ec}
theorem Un.known(Ω:Un pre N (rs++[r]) h)(m:h.s=t0.knew n)(h1:fG cy rs t0 h.ul):Un pre N rs {h with s:=t0,ch:=pre++rs.map iv}:=by have c:=Ω.14;rw[Ω.1]at c;have k:=Ω.11;obtain⟨_,_,i,j,ll,l,dl,d,e,f,_,g,mg,_,b⟩:=Ω;rw[m]at i j ll l dl d e f g mg b k;exact⟨rfl,h1,i,j,ll,l,dl,d,e,f,by rw[show(t0.knew n).kn=t0.kn++[(t0.sig n,n)]from rfl,aL]at k;exact((aE k)),g,mg,uz c,b⟩
theorem Un.edge_eq(Ω:Un pre N (rs++[r]) h)(n:h.s={t0 with ed:=t0.ed++[e]})(h1:fG cy rs t0 h.ul):Un pre N rs {h with s:=t0,ch:=pre++rs.map iv}:=by have c:=Ω.14;rw[Ω.1]at c;have k:=Ω.10;obtain⟨_,_,j,l,ll,m,dl,d,f,_,i,g,mg,_,a⟩:=Ω;rw[n]at j l ll m dl d f i g mg a k;exact⟨rfl,h1,j,l,ll,m,dl,d,f,by rw[aL]at k;exact((aE k)),i,g,mg,uz c,a⟩
theorem Un.edge{k g l n:Nat}(Ω:Un pre N (rs++[r]) h)(v:h.s=t0.jn e k g)(A:k≠g)(o:k<t0.n)(w:g<t0.n)(E:t0.up.length=t0.n)(D:t0.use.length=t0.n)(C:t0.up[k]?=some k)(B:t0.up[g]?=some g)(y:h.ul[g]?=some l)
 (h1:fG cy rs t0 (h.ul.set k n)):Un pre N rs {h with s:=t0,ul:=h.ul.set k n,ab:=cE g l (cE k n h.ab),ch:=pre++rs.map iv}:=by
 have c:=Ω.14;rw[Ω.1]at c;have d:=Ω.10;have f:=Ω.12;have i:=Ω.13;have m:=Ω.15;obtain⟨_,_,t,u,ll,ul,dl,ab,p,_,q,_,_,_,_⟩:=Ω;rw[v]at t u ll ul dl ab p q m d f i;replace d:(t0.ed++[e]).length<=N:=d;replace f:(t0.fo++[t0.ed.length]).length<=N:=f;replace i:(t0.mg++[(k,g)]).length<=N:=i;rw[aL]at d f i;refine⟨rfl,h1,t,u,ll,Z dP ul,dl,λj x=>?_,?_,?_,q,?_,?_,uz c,λj=>?_⟩
 ·refine((Z (je ..) (Z (je ..) ?_)):a5 j _=if t0.up[j]?=some j then(h.ul.set k n)[j]? else none)
  have a:=ab j x;replace a:a5 j _=if(t0.up.set g k)[j]?=some j then h.ul[j]? else none:=a
  by_cases q1:j=g
  ·refine Z (ao q1)<|Z q1<|Z (ao B)<|Z (d6 A) ?_;exact Z y rfl
  ·refine Z (ai q1) ?_
   rw[d6 (λz=>q1 z.symm)]at a
   by_cases q2:j=k
   ·exact Z (ao q2)<|Z q2<|Z (ao C)<|Z (kR (Z ul o)) rfl
   ·exact Z (ai q2)<|Z a<|Z (d6 (λz=>q2 z.symm)) rfl
 ·exact(gI.put p o).put w
 ·exact((aE d))
 ·exact((aE f))
 ·exact((aE i))
 ·have:=m j
  replace this:(ay (t0.use.set k _) j).length<=50:=this;rw[gz (aC o (aA D.symm))]at this;refine(?_:(ay t0.use j).length<=50)
  split at this
  ·rename_i z;rw[bM]at this;exact Z z<|cN this
  ·exact this
theorem Un.made{x:Int}{l l2:Nat}(Ω:Un pre N (rs++[r]) h)(t:h.s=t0.added op ks (cy (ks.map t0.rt)))(y:h.ll=k++[l])(o:h.ul=ul0++[l2])(A:h.dp=f++[x])
 (F:t0.up.length=t0.n)(E:t0.use.length=t0.n)(cs:∀c∈cy (ks.map t0.rt),c<t0.n)(h1:fG cy rs t0 ul0):Un pre N rs {h with s:=t0,ll:=k,ul:=ul0,dp:=f,ab:=fY t0.n h.ab,made:=t0.n,ch:=pre++rs.map iv}:=by
 have c:=Ω.14;rw[Ω.1]at c;have d:=Ω.15;obtain⟨_,_,G,m,ll,ul,dl,ab,e,q,v,u,mg,_,_⟩:=Ω;have w:(t0.added op ks (cy (ks.map t0.rt))).n=t0.n+1:=aL;rw[t]at m ab e q v u mg d;rw[t,w]at ll ul dl;rw[w]at m e ab;rw[y,aL]at ll;rw[o,aL]at ul;rw[A,aL]at dl;refine⟨rfl,h1,rfl,((cN m)),((ij ll)),((ij ul)),((ij dl)),λj i=>?_,?_,q,v,u,mg,uz c,λj=>?_⟩
 ·refine((Z (DQ ..) (Z (ai JY) (Z ((ab j (by lia))) (Z (cu (by lia)) ?_)))));exact Z o<|Z (cu (by lia)) rfl
 ·refine⟨(gI.drop e).1,λj i=>ac (bT.mp i) λp C g=>?_⟩;clear i;subst g
  obtain⟨D,H⟩:=iX.mp C;have q1:=e.2 _ (qV D);refine(?_:p.1<t0.n)
  lia
 ·have:=d j
  replace this:(ay (ix _ _ _) j).length<=50:=this;rw[ql (λc B=>Z aL<|Z E<|aE (cs c B)) (ow _),kJ]at this;refine(?_:(ay t0.use j).length<=50)
  by_cases z:j=t0.use.length
  ·unfold ay;refine Z (ju (by lia)) ?_;exact af
  ·rw[ai z]at this
   split at this
   ·rw[aL]at this;exact cN this
   ·exact this
end
def Fb(h h':HS):Prop:=h'.wl=h.wl/\h'.wait=h.wait/\h'.backs=h.backs/\h'.mks=h.mks
section
variable{r:ec}
theorem yS(e:h.s=s):ah h R=ah {h with s:=s} R:=by subst e;rfl
theorem Nm{l u:List Nat}{x:List Int}(e:h.s=s)(a:h.ll=l)(b:h.ul=u)(c:h.dp=x):ah h R=ah {h with s:=s,ll:=l,ul:=u,dp:=x} R:=by subst e;subst a;subst b;subst c;rfl
theorem fM{a b:Str}(c:V.plain 8 (.str a)=true)(d:V.plain 8 (.str b)=true)(q:P (.bool (false^^V.eqb (.str a) (.str b))) m):dz .Eq (.str a) (.str b) m P:=⟨c,d,q⟩
abbrev G3:Y:=(cT (.asg aW (.bm 1 mr .nil)) (.iff (.cmp .Eq jD (.str t7)) (a6 (.expr (.meth 0 571 aJ (aM ny)))) (a6 (.iff (.cmp .Eq jD (.str wJ)) (a6 (.delk rA ny)) (a6 (.expr (.meth 0 578 aJ jE)))))))
theorem G2(H:Hx B){a b x:Option V}{P:cv}(Ω:Un pre N (rs++[r]) h)(Q:N<=499)(W:ae (ah h R) m)
 (q:∀x h' m',Un pre N rs h'->h'.s=r.s0->Fb h h'->ae (ah h' R) m'->P .next [some (.obj 0 4),a,b,x,none,none] m'):
 (bu B (d+4) G3).ss [some (.obj 0 4),a,b,x,none,none] m P:=by
 have C:=Ω.1;rw[bz,<-kS]at C;have cl:=Ω.14;rw[C,bM]at cl;have o:m[19]?=some (.list ((pre++rs.map iv)++[iv r])):=by refine Z (W.get 14 rfl)<|Z C ?_;rfl
 refine⟨W.get 0 rfl,o,_,_,o,aK Q cl,?_⟩;have i:=W.set 14 rfl (.list (pre++rs.map iv));generalize m.set 19 _=m1 at i⊢;refine ir Ω.2.last λul0 h1 t a1 e1=>?_;obtain⟨s0,c,l⟩:=r;generalize hs:h.s=s at t;replace t:kO _ s0 c s:=t;have M:=Ω.4;clear W cl o;cases t with
 |@known mk n w G hn hk=>
  refine⟨_,af,rfl,fM (by decide+kernel) (by decide+kernel) (bn rfl (⟨_,af,rfl,fM (by decide+kernel) (by decide+kernel) (bD rfl ?_)⟩))⟩
  have kl:=Ω.11;rw[hs]at kl;have α:=(oh _ _).symm.trans hk;refine⟨i.get 0 rfl,_,af,rfl,(z_ (by refine Z (i.get 12 rfl)<|Z hs ?_;rfl:m1[16]?=some (.tdict (gw (s0.kn++[(s0.sig n,n)])))) (kE _) ((eN jO _ _).trans (by refine Z (xD α).symm<|Z (je ..)<|Z (ao rfl) ?_;rfl)) (by refine Z aY<|Z aL ?_;have:(s0.knew n).kn.length=s0.kn.length+1:=aL;exact dL Q kl (aA this.symm)) ?_)⟩
  refine Z ((vF jO _ _).trans (by refine Z (D9 α) ?_;rfl)) ?_
  refine q _ _ _ (Ω.known hs (h1.agree a1)) rfl (dm rfl rfl rfl rfl) ?_;rw[yS hs]at i;exact(i.set 12 rfl _)
 |@edge mk D E w lab G S T=>
  refine⟨_,af,rfl,fM (by decide+kernel) (by decide+kernel) (bn rfl (⟨_,af,rfl,fM (by decide+kernel) (by decide+kernel) (bn rfl (⟨i.get 0 rfl,?_⟩))⟩))⟩
  have gl:max (s0.rt D) (s0.rt E)<s0.n:=by have:=G.rt_lt S;have:=G.rt_lt T;exact q1
  by_cases e:min (s0.rt D) (s0.rt E)=max (s0.rt D) (s0.rt E)
  ·have A:h.s={s0 with ed:=s0.ed++[(D,E,lab)]}:=Z hs<|Z (PS.joined_eq e) rfl
   have el:s0.ed.length<=900:=by have:=Ω.10;rw[hs,mO,aL]at this;exact aK Q this
   rw[yS A]at i;exact Z e.symm<|GZ (h:={h with s:=s0,ch:=pre++rs.map _}) H i el λm' W'=>q _ _ _ (Ω.edge_eq A (h1.agree a1)) rfl (dm rfl rfl rfl rfl) W'
  ·have A:h.s=s0.jn _ _ _:=Z hs<|Z (PS.joined_ne e) rfl
   have Ψ:h.s.n=s0.n:=by refine Z A ?_;rfl
   have U':=Ω;obtain⟨_,_,_,_,ll,ul,_,ab,ak,ed,_,fo,mg,_,y⟩:=Ω;rw[Ψ]at ll ul ak M;have ek:a5 (min (s0.rt D) (s0.rt E)) h.ab=h.ul[min (s0.rt D) (s0.rt E)]?:=by refine Z (ab _ (Z Ψ q2)) ?_;rewrite[ao];rfl;refine Z A<|Z (d6 (λz=>e z.symm)) ?_;exact(io G S T).1
   rw[A]at ed fo mg y;have j1:(s0.ed++[(D,E,lab)]).length<=N:=ed;have j2:(s0.fo++[s0.ed.length]).length<=N:=fo;have j3:(s0.mg++[(min _ _,max _ _)]).length<=N:=mg;rw[aL]at j1 j2 j3
   have ub:∀r,(ay _ r).length<=100:=λr=>by
    have:=y r;replace this:(ay (s0.use.set _ _) r).length<=50:=this;rw[gz (Z G.3 q2)]at this
    split at this
    ·rename_i z;rw[bM]at this;exact Z z<|cN this
    ·exact aF this
   have Φ:∀l',Un _ N rs {h with s:=s0,ul:=h.ul.set _ l',ab:=cE _ l _,ch:=pre++rs.map _}:=λl'=>
    U'.edge A e q2 gl G.1 G.3 (io G S T).1 (io G S T).2 (e1 _ _ _ rfl e) (h1.agree λg L=>by
     rewrite[d6 (λz=>?_)]
     ·exact a1 g L
     ·refine ac L λp p1 p2=>?_;clear L
      rw[<-z]at p1 p2;exact p2 (aG (p1.symm.trans (io G S T).1)))
   rw[yS A]at i
   exact G0 (h:={h with s:=s0,ch:=pre++rs.map _}) H i e q2 gl (aF M) ll ul G.2 G.3 G.1 (io G S T).2 ek ((aK M ak.len)) (aK Q j1) (aK Q j2) (aK Q j3) (λr=>aK M (G.15 r)) ub
    λl' m' W'=>q _ _ _ (Φ l') rfl (dm rfl rfl rfl rfl) W'
 |@made w op ks G h2 h3 h4=>
  refine⟨_,af,rfl,fM (by decide+kernel) (by decide+kernel) (bD rfl (⟨i.get 0 rfl,_,af,rfl,?_⟩))⟩
  have Ψ:h.s.n=s0.n+1:=Z hs aL;have U':=Ω;obtain⟨_,_,_,_,ll,ul,dl,ab,ak,_,_,_,_,_,y⟩:=Ω;rw[Ψ]at ll ul dl ak M;refine eC (pI ll) λζ l1 F=>eC (pI ul) λu l2 j=>eC (pI dl) λδ x1 I=>?_;rw[F,aL]at ll;rw[j,aL]at ul;rw[I,aL]at dl
  have cs:∀c∈cy (ks.map s0.rt),c<s0.n:=λc C=>by refine ac (bT.mp (sD.mp C)) λk v ε=>?_;clear C;subst ε;exact G.rt_lt (aC (h2 k v) G.4.1)
  have hu:fG _ rs s0 u:=h1.agree λg L=>by refine Z (a1 g L).symm<|Z j ?_;rewrite[cu];rfl;refine ac L λp p1 _=>?_;clear L;have:=(bV.mp p1).1;rw[G.1]at this;exact aK (aA ul.symm) this
  have Φ:=U'.made hs F j I G.1 G.3 cs hu;have β:a5 s0.n h.ab=some l2:=by
   refine Z (ab _ ((aA Ψ.symm))) ?_;rewrite[ao];refine Z j<|Z (l9 (aE (aA ul))) ?_
   ·refine Z Kc ?_;rfl
   ·refine Z hs<|(?_:(s0.up++[s0.n])[s0.n]?=_)
    refine Z G.1.symm ?_;simp
  have γ:∀r,r<s0.n->s0.up[r]?=some r->a5 r _=u[r]?:=λr hr hu=>by refine Z (ab r (aK (aA Ψ.symm) hr)) ?_;rewrite[ao];refine Z j ?_;exact Z (cu (aK (aA ul.symm) hr)) rfl;refine Z hs<|Z (cu (Z G.1 hr)) ?_;exact hu
  have ub:∀r,(ay _ r).length<=100:=λr=>by
   have:=y r;rw[hs]at this;replace this:(ay (ix _ (cy (ks.map s0.rt)) (s0.use++[[]])) r).length<=50:=this;rw[ql (λc C=>by refine Z aL<|Z G.3 ?_;have:=cs c C;exact aE this) (ow _),kJ]at this
   by_cases z:r=s0.use.length
   ·unfold ay;refine Z (ju ((aA z.symm))) ?_;exact af
   ·rw[ai z]at this
    split at this
    ·rw[aL]at this;exact cN this
    ·exact aF this
  rw[Nm hs F j I]at i
  exact GY (h:={h with s:=s0,ll:=ζ,ul:=u,ch:=pre++rs.map iv,dp:=δ}) H i (cN M) G.5 G.1 (ij ll) (ij ul) G.2 G.3 (ij dl) h3 (λk v=>⟨h2 k v,aC (h2 k v) G.4.1⟩) h4 γ β (aK M ak.len) ub
   λm' W'=>q _ _ _ Φ rfl (dm rfl rfl rfl rfl) W'
end
theorem Hy(a:h.wait=[])(W:ae ((cf h (A++(Ω++(wl',.list [])::R))).set 0 (4,.fields (ky wl' h.backs h.made))) m):ae (cf {h with wl:=wl'} (A++(Ω++R))) m:=by
 have e:cf {h with wl:=wl'} (A++(Ω++R))=((cf h []).set 0 (4,.fields (ky wl' h.backs h.made))).take 16++(wl',.list [])::(A++(Ω++R)):=by refine((Z a.symm ?_):_=_++(wl',O.list (nV []))::_);rfl
 exact Z e<|(W.sub (kT (l_ _) (dB _ _))).perm (ma _ uA)
def og(many wl:Nat):V:=.tup [.int many,.loc wl]
theorem Kj(H:Hx B){ms:List V}{p wl':Nat}(L:Lk pre h rs [] N M)(s:h.wait=[])(u:h.mks=ms++[og (pre.length+p) wl'])(Ψ:p<=rs.length)(T:gX rs p h.s=S)(F:Gd S S.n [])(E:S.tot+6<=2*S.n)(g:N+42<=499)
 (W:ae (ah h ((wl',.list [])::R)) m)
 (q:∀h' D,Lk pre h' (rs.take p) [] N (N+42)->h'.s=S->h'.wait=[]->h'.mks=ms->h'.backs=h.backs+1->h'.wl=wl'->ae (ah h' R) D->Q .none D):aP B (d+5) 550 [.obj 0 4] m Q:=by
 have c:=L.1.10;rw[u,aL]at c;refine bv H 42 rfl rfl<|⟨W.get 0 rfl,_,W.get 15 rfl,Z u<|Z aL<|aF c,(mv (bn (by refine Z u<|Z aL ?_;simp;lia) ?_))⟩
 have k:m[20]?=some _:=Z (W.get 15 rfl)<|Z u rfl;refine⟨W.get 0 rfl,k,_,_,k,cN c,rfl,?_⟩;have t:=W.set 15 rfl (.list ms);generalize m.set 20 _=m1 at t⊢;refine⟨t.get 0 rfl,t.get 0 rfl,by simp[ky],((cP (λi J m=>cL λh' a x=>tL (i=a.length-p) (p<=a.length) ((∃y,rs=a++y)) (Un pre N a h') (gX a p h'.s=S) (Fb _ h') (ae (ah h' _) m) (J=[some _,some _,some _,x,none,none])) _ ⟨{h with mks:=ms,backs:=h.backs+1},rs,none,rfl,Ψ,⟨[],(bZ _).symm⟩,?_,T,(dm rfl rfl rfl rfl),(t.set 0 rfl _),rfl⟩ ?_))⟩
 ·exact⟨L.un.1,L.un.2,L.un.3,L.un.4,L.un.5,L.un.6,L.un.7,L.un.8,L.un.9,L.un.10,L.un.11,L.un.12,L.un.13,L.un.14,L.un.15⟩
 rintro i J m3 ⟨h',a,x,rfl,A,⟨y,o⟩,Ω,n,same,j,rfl⟩;have Φ:=Ω.14;have l:h'.ch.length=pre.length+a.length:=Z Ω.1<|Z bM<|Z aY rfl;refine⟨j.get 0 rfl,_,j.get 14 rfl,by lia,?_⟩
 by_cases e:a.length=p
 ·refine(bn (by refine Z l<|Z e ?_;simp) ?_)
  have v:h'.s=S:=Z n.symm<|Z e.symm<|Z pH rfl;refine⟨j.get 0 rfl,by simp[ky],?_⟩
  have C:rs.take p=a:=by refine Z o<|Z e.symm ?_;rewrite[List.take_left'];rfl;rfl
  refine q {h' with wl:=wl'} _ ⟨⟨?_,Ω.4,Ω.5,Ω.6,Ω.8,?_,?_,?_,?_,?_,?_,?_,?_,Ω.15,Ω.7⟩,Ω.3,?_,?_,?_,⟨Ω.10,Ω.11,Ω.14,Ω.12,Ω.13,?_⟩,?_,g,Ω.9,L.10⟩ v (same.2.1.trans s) same.2.2.2 same.2.2.1 rfl ?_
  ·exact((Z Ω.3 (Z (same.2.1.trans s) (Z v F))):Gd h'.s h'.made (h'.wait++[]))
  ·have:=Ω.9.len;have:=Ω.4;refine(?_:h'.ab.length<=1000);lia
  ·exact aK g Ω.10
  ·exact aK g Ω.11
  ·exact J3
  ·exact Z same.2.2.2<|cN c
  ·exact aK g Ω.12
  ·exact aK g Ω.13
  ·exact Z (same.2.1.trans s)<|af
  ·exact Z C Ω.1
  ·exact Z C Ω.2
  ·exact Z v E
  ·have:=Ω.9.len;have:=Ω.4;have:=L.10;refine(?_:h'.ab.length<=N);lia
  ·refine((Z (same.2.1.trans s) ?_):N+h'.s.msr (h'.wait.length+0)<=N+42)
   have:=h'.s.msr_le Ω.4 (Z v E) (([]:List Nat).length+0);simp only[lZ]at*;exact aE this
  ·exact Hy (same.2.1.trans s) (j.set 0 rfl _)
 ·refine(bD (by refine Z l ?_;simp;exact Cl A e) ?_)
  refine eC (pI JG) λf r z=>?_;subst z;have ln:(f++[r]).length=f.length+1:=aL;refine G2 H Ω (cN g) j λx2 P m4 G w b I=>⟨_,?_,P,f,x2,rfl,by lia,⟨[r]++y,Z o<|Z cq rfl⟩,G,?_,(dm (b.1.trans same.1) (b.2.1.trans same.2.1) (b.2.2.1.trans same.2.2.1) (b.2.2.2.trans same.2.2.2)),I,rfl⟩
  ·exact JH
  ·exact Z w<|Z (A0 (by lia)).symm n
section
variable{vs:List V}
theorem vH(H:Hx B){C f:Addr}(a:fe.getD c 0=C)(hm:(C,f)∈[(581,529),(295,207),(377,313),(179,140)])(q:aP B d f (.obj c m.length::vs) (m++[.fields []]) λv b=>v=.none/\Q (.obj c m.length) b):aP B (d+1) C vs m Q:=by
 have e:B.N.cls c=C:=Z H.1 a;have:=Qe c (Z e<|(jV (jv.mp H.5 _ hm)).1) (Z e<|eq_of_beq (jV (jv.mp H.5 _ hm)).2) (eq_of_beq (jV (jv.mp H.5 _ hm)).3) q
 rwa [e]at this
variable{c0 c1 c2 c3 c4 c5 c6 c7 c8 c9:O}
theorem Q1(H:Hx B)(q:Q (.obj 1 5) [c0,c1,c2,c3,c4,.fields iP,.list [],.tdict [],.list [],.list []]):aP B (d+2) 295 [] [c0,c1,c2,c3,c4] Q:=vH (c:=1) H rfl (by trivial)<|bv H 10 rfl rfl<|⟨af,rfl,af,(⟨rfl,af,(⟨af,rfl,af,(⟨af,rfl,af,rfl,q⟩)⟩)⟩)⟩
theorem G1(H:Hx B)(q:Q (.obj 2 10) [c0,c1,c2,c3,c4,c5,c6,c7,c8,c9,.fields iC,.list [],.list [],.list []]):aP B (d+2) 377 [] [c0,c1,c2,c3,c4,c5,c6,c7,c8,c9] Q:=vH (c:=2) H rfl (by trivial)<|bv H 19 rfl rfl<|⟨af,rfl,af,(⟨af,rfl,af,(⟨af,rfl,af,rfl,q⟩)⟩)⟩
theorem Mr(H:Hx B)(q:Q (.obj 0 4) [c0,c1,c2,c3,.fields (ky 18 0 0),.fields iP,.list [],.tdict [],.list [],.list [],.fields iC,.list [],.list [],.list [],.list [],.list [],.tdict [],.idict [],.list [],.list [],.list []]):aP B (d+5) 581 [] [c0,c1,c2,c3] Q:=by
 refine vH H rfl (by trivial)<|HJ H.1 rfl (Z H.1<|(cC (cC H.3).1).1:jS _ _ _ 1 3 _ (B.N.cls 0) _ _ (wV _ _ _ _ zV)=true) rfl (ad _ rfl (bv H 28 rfl rfl (Q1 H (⟨rfl,af,(G1 H (⟨rfl,by trivial,(⟨af,rfl,af,(⟨af,rfl,af,(⟨rfl,af,(⟨rfl,af,(⟨af,rfl,af,(⟨rfl,af,((?_:(bu B _ _).ss _ [c0,c1,c2,c3,.fields _,.fields _,.list [],.tdict [],.list [],.list [],.fields _,.list [],.list [],.list [],.list [],.list [],.tdict [],.idict [],.list []] _))⟩)⟩)⟩)⟩)⟩)⟩)⟩))⟩))))
 exact⟨af,rfl,af,(⟨af,rfl,af,(⟨rfl,af,rfl,q⟩)⟩)⟩
end
def HS.leaf(h:HS)(op:Str)(x:Int)(l l2:Nat):HS:=
 {s:={nodes:=h.s.nodes++[(op,[])],up:=h.s.up++[h.s.n],lot:=h.s.lot++[[h.s.n]],use:=h.s.use++[[]],mg:=h.s.mg,ed:=h.s.ed,fo:=h.s.fo,kn:=h.s.kn++[((op,[]),h.s.n)]},wl:=h.wl,wait:=h.wait,backs:=h.backs,made:=h.s.n+1,ll:=h.ll++[l],ul:=h.ul++[l2],ab:=cE h.s.n l2 h.ab,ch:=h.ch++[kv h.s.n]++[kD (op,[])],mks:=h.mks,dp:=h.dp++[x]}
theorem Nj(H:Hx B)(K:HW h n)(W:ae (ah h R) m)(e:a5 (h.s.sig n) h.s.kn=none)(q:∀c,ae (ah {h with s:=h.s.knew n} R) c->Q .none c):aP B (d+5) 424 [.obj 0 4,.int n] m Q:=by
 refine bv H 33 rfl rfl<|⟨W.get 0 rfl,W.get 12 rfl,(⟨W.get 0 rfl,uL H (W.get 0 rfl) rfl rfl (W.get 1 rfl) (W.get 2 rfl) (W.get 6 rfl) (W.get 7 rfl) K.1 K.4 ((aF K.3)) (aK K.3 (aA K.2)) K.5 (Z K.2 K.6) λl=>?_⟩)⟩;have b:=W.app [O.list l];generalize m++[O.list l]=m1 at b⊢;refine(hA _ _ (b.get 12 rfl) (kE (h.s.sig n)) (bH K.8) (Z (eN jO _ _)<|Z e ?_));have a:=b.set 12 rfl (.tdict (gw (h.s.knew n).kn));refine((Z ((by unfold PS.knew gw fa;refine Z bz ?_;rfl:gw _++[(kK _,V.int n)]=gw (h.s.knew n).kn)) ?_))
 refine⟨a.get 0 rfl,lJ H (a.get 0 rfl) rfl (a.get 6 rfl) (a.get 7 rfl) K.1 (Z K.2 K.4) (aK K.3 (aA K.2)) (⟨a.get 0 rfl,lJ H (a.get 0 rfl) rfl (a.get 6 rfl) (a.get 7 rfl) K.1 (Z K.2 K.4) (aK K.3 (aA K.2)) (mv (eE ?_))⟩)⟩;show if _ then _ else _
 exact Z (ai (by simp))<|q _ a
theorem xE(H:Hx B)(K:AW h)(W:ae (ah h R) m)(F:ef op)(G:h.s.n<=5)(hm:h.made=h.s.n)(E:(op,[])∉h.s.nodes)(r:a5 (op,[]) h.s.kn=none)(e:h.ch.length<=900)(j:h.s.kn.length<=900)
 (q:∀x l l2 t,ae (ah (h.leaf op x l l2) R) t->Q (.int h.s.n) t):aP B (d+8) 417 [.obj 0 4,.tup [.str op]] m Q:=by
 refine bv H 32 rfl rfl<|⟨W.get 0 rfl,_,af,rfl,(⟨by simp,by simp,af,trivial,(⟨_,cj _ _,af,?_⟩)⟩)⟩
 have w:=W.app [O.list []];refine E7 H K w F af (λk a=>bx a) (λi g=>absurd (bN g) E) λ_ x l l2 L y P D=>?_;have n:(h.added op [] x l l2).s.sig h.s.n=(op,[]):=by refine((Z uE (Z (ao rfl) (Z ot (Z (ao rfl) ?_)))):(bf _ h.s.n,(aH _ h.s.n).map _)=_);rfl
 have c:∀b:HS,b.s.up=h.s.up++[h.s.n]->b.s.nodes=h.s.nodes++[(op,[])]->b.ch.length<=1000->b.s.kn=h.s.kn->HW b _:=λb v f I Φ=>by
  refine⟨Z v<|(Z K.2.symm<|sE K.1),?_,?_,?_,?_,?_,aF I,Z Φ j⟩
  ·unfold PS.n;exact Z v<|Z f<|Z aL<|Z aL<|Z K.2 rfl
  ·unfold PS.n;exact Z f<|Z aL<|cV G
  ·unfold PS.n;exact Z f<|Z aL<|aT _
  ·exact Z f<|Z ot<|Z (ao rfl)<|af
  ·refine Z f<|Z ot<|Z (ao rfl) ?_;intro k a;cases a
 refine CN H (c (h.added op [] x l l2) rfl rfl (aF e) rfl) y hm.symm λM o=>?_;have A:(h.added op [] x l l2).mk2 h.s.n={(h.added op [] x l l2).mk1 h.s.n with ch:=h.ch++[kv h.s.n]++[kD (op,[])]}:=by unfold HS.mk2;exact Z n<|ao r
 rw[A]at o;refine Nj H (c {(h.added op [] x l l2).mk1 _ with ch:=h.ch++[kv _]++[kD _]} rfl rfl (Z aL<|Z aL<|aE e) rfl) o (Z n r) λu z=>D _ _<|q x l l2 u ?_;have C:(h.added op [] x l l2).s.knew h.s.n=(h.leaf op x l l2).s:=by unfold PS.knew;refine Z n ?_;rfl
 have p:ae (ah {(h.added op [] x l l2).mk1 _ with ch:=h.ch++[kv _]++[kD _],s:=(h.added op [] x l l2).s.knew _} R) u:=z;rw[C]at p;exact p
theorem KB(a:(L.map (·.1)).Nodup)(h:∀p∈L,m[p.1]?=some p.2):ae L m:=⟨a,λi c o e=>h _ (bN e)⟩
def h0:HS:=⟨⟨[],[],[],[],[],[],[],[]⟩,18,[],0,0,[],[],[],[],[],[]⟩
theorem EU:AW h0:=⟨(λi b h=>aN h),rfl,af,rfl,rfl,rfl,rfl,rfl,λr h=>absurd h (Nat.not_lt_zero r),af,λr=>eT _⟩
theorem AW.leaf(K:AW h)(f:h.s.n<=5)(d:h.ab.length<=800) op x l l2:AW (h.leaf op x l l2):=by
 have a:(h.leaf op x l l2).s.n=h.s.n+1:=aL;refine⟨?_,?_,?_,?_,?_,?_,?_,?_,λr b c=>?_,?_,λr=>?_⟩
 ·exact((Z K.2.symm (sE K.1)):dr (h.s.up++[h.s.n]))
 ·exact Z a<|Z aL<|Z K.2 rfl
 ·exact Z a<|cV f
 ·exact Z a<|Z aL<|Z K.4 rfl
 ·exact Z a<|Z aL<|Z K.5 rfl
 ·exact Z a<|Z aL<|Z K.6 rfl
 ·exact Z a<|Z aL<|Z K.7 rfl
 ·exact Z a<|Z aL<|Z K.8 rfl
 ·rw[a]at b
  refine((Z (je ..) ?_):a5 r _=(h.ul++[l2])[r]?)
  by_cases e:r=h.s.n
  ·refine Z (ao e)<|Z e<|Z K.6.symm ?_;simp
  ·refine Z (ai e)<|Z (cu (Z K.6<|cw b e)) ?_
   refine K.9 r (cw b e) ?_;have c:(h.s.up++[h.s.n])[r]?=some r:=c
   rwa [cu (Z K.2<|cw b e)]at c
 ·refine(?_:(cE _ l2 h.ab).length<=_);exact aK d (mF _ l2 h.ab)
 ·refine Z kJ ?_
  split
  ·exact af
  ·exact K.11 r
def h3(x0 x1 x2:Int)(a0 a1 a2 b0 b1 b2:Nat):HS:=((h0.leaf sA x0 a0 b0).leaf sB x1 a1 b1).leaf sC x2 a2 b2
section
variable{x0 x1 x2:Int}{a0 a1 a2 b0 b1 b2:Nat}
theorem Mm:Lk (h3 x0 x1 x2 a0 a1 a2 b0 b1 b2).ch (h3 x0 x1 x2 a0 a1 a2 b0 b1 b2) [] [] 10 60:=by
 refine⟨⟨(Jo (by trivial) (by trivial) (by trivial)),(af:3<=6),rfl,rfl,λr b=>?_,?_,?_,?_,?_,?_,?_,?_,?_,λr=>?_,rfl⟩,rfl,(bZ _).symm,.nil,?_,⟨?_,?_,?_,?_,?_,?_⟩,?_,af,⟨?_,λk a=>?_⟩,by decide⟩
 ·rcases lE b with rfl|rfl|rfl<;>rfl
 ·exact(af:3<=1000)
 ·exact eT _
 ·exact(af:3<=900)
 ·exact af
 ·exact eT _
 ·exact eT _
 ·exact eT _
 ·exact eT _
 ·exact Z (Bt ..)<|af
 ·exact((aT _))
 ·exact eT _
 ·exact(by decide:3<=10)
 ·exact(by decide:6<=10)
 ·exact eT _
 ·exact eT _
 ·exact(by decide:3<=10)
 ·exact((have:=(s3 sA sB sC).msr_le af (aT _) (0+0);jN this))
 ·exact(by decide:[0,1,2].Nodup)
 ·exact(by decide:∀k∈[0,1,2],k<3) k a
end
theorem Kg(H:Hx B)(W:ae (ah h R) m)(e:h.wait=[])(c:h.ch.length<=1000)(hm:h.mks.length<=9)
 (q:∀l b,ae (ah {h with mks:=h.mks++[og h.ch.length l]} ((l,.list [])::R)) b->Q .none b):aP B (d+1) 543 [.obj 0 4] m Q:=by
 refine bv H 41 rfl rfl<|⟨W.get 0 rfl,W.get 15 rfl,(⟨W.get 0 rfl,_,W.get 14 rfl,aF c,(⟨W.get 0 rfl,_,(by refine Z (W.get 16 rfl)<|Z e ?_;rfl),af,af,?_⟩)⟩)⟩
 have a:=((W.new (.list [])).perm sU).perm (vw uA.symm);generalize m.length=l at a⊢;exact⟨_,a.get 15 rfl,aF hm,(q l _ (a.set 15 rfl _))⟩
def pK(p:Nat×Nat):List bR:=[.int p.1,.int p.2]
theorem r8 a b(h:pK a=pK b):a=b:=by injection h with h1 c;injection c with c _;injection h1 with h1;injection c with c;exact Prod.ext (m_.mp h1) (m_.mp c)
def Ji:Str:=⟨#[111,118,101,114]⟩
def rN:eR->V
 | .edge i rev=>.tup [.str xp,.int i,.bool rev]
 | .like=>.tup [.str Bs]
 | .over m=>.tup [.str Ji,.int m]
def iL:List ((Nat×Nat)×Nat)->List (List bR×V):=fa pK nI
def nH:List ((Nat×Nat)×eR)->List (List bR×V):=fa pK rN
structure SH where
 z:Nat
 pc:Nat
 pw:Nat
 mark:Option (Nat×Nat×Nat)
 cd:List ((Nat×Nat)×Nat)
 wd:List ((Nat×Nat)×eR)
 tn:Bool
def qb:Option (Nat×Nat×Nat)->V
 |some p=>.tup [.int p.1,.int p.2.1,.int p.2.2]
 |none=>.none
def eK(s:SH):List (Nat×V):=[(17,.obj 0 4),(18,qb s.mark),(19,.loc s.pc),(20,.loc s.pw),(21,.bool s.tn)]
def a8(s:SH)(F:List (Nat×O)):List (Nat×O):=(s.z,.fields (eK s))::(s.pc,.tdict (iL s.cd))::(s.pw,.tdict (nH s.wd))::F
theorem Bg{p:Nat×O}(a:p∈F):p∈a8 s F:=.tail _ (.tail _ (.tail _ a))
def SH.put(s:SH)(a b x:Nat)(v:eR):SH:={s with cd:=cE (a,b) x s.cd,wd:=cE (a,b) v s.wd,tn:=true}
section
variable{s:SH}
theorem kM:bO (pK k) (iL s.cd)=(a5 k s.cd).map nI:=eN r8 _ _
theorem GK:bO (pK k) (nH s.wd)=(a5 k s.wd).map rN:=eN r8 _ _
theorem tY{l:List (List bR×V)}(h:m[n]?=some (.tdict l))(a:e6 t=some k)(q:P (.bool (true^^(bO k l).isSome)) m):dz .NotIn (.tup t) (.loc n) m P:=rK h a q
theorem z7{l:List (List bR×V)}(h:m[n]?=some (.tdict l))(a:e6 t=some k)(q:P (.bool (bO k l).isSome) m):dz .In (.tup t) (.loc n) m P:=rK h a (Z (Bool.false_xor _) q)
theorem Mt(H:Hx B){a b x:Nat}{v:eR}(W:ae (a8 s F) m)(n:s.cd.length<=1000)(o:s.wd.length<=1000)
 (p:∀y,a5 (a,b) s.cd=some y->y<=x->Q .none m)(q1:(∀y,a5 (a,b) s.cd=some y->x<y)->∀j,ae (a8 (s.put a b x v) F) j->Q .none j):aP B (d+1) 152 [.obj 3 s.z,.int a,.int b,.int x,rN v] m Q:=by
 refine bv H 6 rfl rfl ?_;have i:(∀y,a5 _ _=some y->x<y)->(bu B d (dR (.asg rH aW) (.asg wy bc) (.asg pi (.bool true)))).ss
  [some (.obj 3 _),some (.int a),some (.int b),some _,some _] m λl J m=>match l with
   | .next=>(bu B d .nil).ss J m (dY Q)
   | .ret v=>dY Q (.ret v) J m:=λh=>by
  refine⟨W.get 0 rfl,af,(tS (k:=pK _) (W.get 1 rfl) rfl (bH n) (Z (show c_ _ (V.int x) (iL _)=iL _ from lm (g:=nI) r8 (a,b) x _) ?_))⟩;have c:=W.set 1 rfl (.tdict (iL (cE (a,b) x s.cd)));generalize m.set _ _=m1 at c⊢;exact⟨c.get 0 rfl,af,(tS (k:=pK _) (c.get 2 rfl) rfl (bH o) (Z (lm r8 _ v _)<|have f:=c.set 2 rfl _;⟨f.get 0 rfl,af,q1 h _ (f.set 0 rfl _)⟩))⟩
 refine⟨af,W.get 0 rfl,tY (k:=pK (a,b)) (W.get 1 rfl) rfl (Z kM ?_)⟩
 cases e:a5 _ s.cd with
 |none=>exact bD rfl (i λy z=>by rw[e]at z;exact aN z)
 |some y=>
  refine bn rfl ⟨W.get 0 rfl,af,nB (k:=pK _) (W.get 1 rfl) rfl (by refine Z kM<|Z e ?_;rfl) ?_⟩
  refine z0 ?_
  by_cases h:x<y
  ·exact bD (by simp;exact h) (i λq z=>by rw[e]at z;replace z:=aG z;subst z;exact h)
  ·exact bn (by simp;exact(oS h)) (p y e ((oS h)))
end
variable{s:SH}
def Pk{α:Type}(n:Nat)(l:List ((Nat×Nat)×α)):Prop:=(l.map (·.1)).Nodup/\∀k∈l.map (·.1),k.1<n/\k.2<n
theorem Pk.put{v:α}{l:List ((Nat×Nat)×α)}(h:Pk n l)(h1:k.1<n)(a:k.2<n):Pk n (cE k v l):=⟨BI h.1,λj b=>by
 rcases yA b with e|e
 ·exact Z e<|⟨h1,a⟩
 ·exact h.2 j e⟩
theorem Rb n:(jh n).length=n*n:=by
 refine Z List.length_flatMap ?_
 have:∀m,((List.range m).map λ_=>n).sum=m*n:=λm=>by
  induction m with
  |zero=>simp
  |succ m a=>refine Z List.range_succ<|Z bz<|Z m8<|Z a<|Z (Nat.succ_mul ..) ?_;rfl
 simpa using this n
theorem Pk.len{l:List ((Nat×Nat)×α)}(h:Pk n l)(b:n<=6):l.length<=36:=by have:=List.Nodup.length_le_of_subset h.1 λk a=>uS (h.2 k a).1 (h.2 k a).2;rw[eH,Rb]at this;exact aC this (Nat.mul_le_mul b b)
def cF(s:SH):Nat->Nat->Option Nat:=λa b=>a5 (a,b) s.cd
def wF(s:SH):Nat->Nat->Option eR:=λa b=>a5 (a,b) s.wd
def oF(ed:List (Nat×Nat×Option Nat))(i:Nat):Option (Nat×Nat):=match ed[i]? with
 |some (a,b,some _)=>some (a,b)
 |_=>none
theorem D7{p:Nat×Nat}(e:oF ed i=some p):∃c,ed[i]?=some (p.1,p.2,some c):=by
 have e:(match ed[i]? with|some (a,b,some _)=>some _|_=>none)=some p:=e
 cases q:ed[i]? with
 |none=>rw[q]at e;exact aN e
 |some x=>
  obtain⟨a,b,c⟩:=x
  cases c with
  |none=>rw[q]at e;exact aN e
  |some c=>rw[q]at e;exact⟨c,Z (aG e).symm rfl⟩
theorem vO{a b x:Nat}{v:eR}:cF (s.put a b x v)=eA (cF s) a b x:=by
 funext i j
 unfold cF eA SH.put;refine Z (je ..) ?_
 by_cases e:i=a/\j=b
 ·exact Z (ao e)<|Z (ao (Z e.1<|Z e.2 rfl)) rfl
 ·exact Z (ai e)<|Z (ai (λz=>e (ji z))) rfl
theorem GQ{a b x:Nat}{v:eR}:wF (s.put a b x v)=eA (wF s) a b v:=by
 funext i j
 unfold wF eA SH.put;refine Z (je ..) ?_
 by_cases e:i=a/\j=b
 ·exact Z (ao e)<|Z (ao (Z e.1<|Z e.2 rfl)) rfl
 ·exact Z (ai e)<|Z (ai (λz=>e (ji z))) rfl
abbrev PS.lv(p:PS)(c:Nat->Nat->Option Nat)(w:Nat->Nat->Option eR):Prop:=Lv p.n (bf p.nodes) (aH p.nodes) (fm p.ed) (oF p.ed) c w
inductive f9(p:PS)(s:SH):Prop
 |mk(lv:p.lv (cF s) (wF s))(ck:Pk p.n s.cd)(wk:Pk p.n s.wd)(n6:p.n<=6)
inductive Le(p:PS)(s s':SH):Prop
 |mk(i:f9 p s')(z:s'.z=s.z)(pc:s'.pc=s.pc)(pw:s'.pw=s.pw)(mark:s'.mark=s.mark)(low:iW (cF s) (cF s'))(or:s'=s\/(s'.tn=true/\jZ p.n (cF s')<jZ p.n (cF s)))
section
variable{s' s'':SH}{p:PS}
theorem iW.refl c:iW c c:=λ_ _ x h=>(ad x h (aT _))
theorem iW.trans{c e d:Nat->Nat->Option Nat}(x:iW c e)(y:iW e d):iW c d:=λa b u h=>ac (x a b u h) λv h1 f=>ac (y a b v h1) λw h3 g=>(ad w h3 (aC g f))
theorem Le.refl(i:f9 p s):Le p s s:=⟨i,rfl,rfl,rfl,rfl,.refl _,.inl rfl⟩
theorem Le.msr(x:Le p s s'):jZ p.n (cF s')<=jZ p.n (cF s):=by
 rcases x.7 with e|e
 ·exact Z e<|aT _
 ·exact eU e.2
theorem Le.trans(x:Le p s s')(y:Le p s' s''):Le p s s'':=⟨y.1,y.2.trans x.2,y.3.trans x.3,y.4.trans x.4,y.5.trans x.5,x.6.trans y.6,by
 rcases y.7 with e|e
 ·exact Z e x.7
 ·exact .inr ⟨e.1,dZ e.2 x.msr⟩⟩
theorem Le.mid(x:Le p s s')(y:Le p s' s'')(e:s''=s):s'=s:=by
 rcases x.7 with q|q
 ·exact q
 ·have:=y.msr
  rw[e]at this
  lia
theorem Ms(H:Hx B){a b x:Nat}{v:eR}(I:f9 p s)(W:ae (a8 s F) m)(c:a<p.n)(e:b<p.n)
 (r:(∀y,cF s a b=some y->x<y)->1<=x/\md (bf p.nodes) (aH p.nodes) (oF p.ed) (cF s) a b x v/\(x<=1\/oY λi j y t u z=>br (cF s i j=some y) (cF s t u=some z) (x<=y+z)))
 (q:∀s' f,Le p s s'->(∃y,cF s' a b=some y/\y<=x)->ae (a8 s' F) f->Q .none f):aP B (d+1) 152 [.obj 3 s.z,.int a,.int b,.int x,rN v] m Q:=by
 refine Mt H W (aF (I.2.len I.4)) (aF (I.3.len I.4)) (λy h1 o=>q s m (.refl I) (ad y h1 o) W) λh f n=>gv (r h) λg k l=>q (s.put a b x v) f ⟨⟨?_,I.2.put c e,I.3.put c e,I.4⟩,rfl,rfl,rfl,rfl,?_,.inr ⟨rfl,?_⟩⟩ (ad x ?_ (aT _)) n
 ·exact Z vO<|Z GQ<|(I.1.lessen I.4 c e g h k l).1
 ·exact Z vO<|uU h
 ·exact Z vO<|(I.1.lessen I.4 c e g h k l).2
 ·refine Z vO ?_;unfold eA;exact Z (ao ⟨rfl,rfl⟩) rfl
end
abbrev oB:Y:=(a6 (.iff (.and (.cmp .In (.tup (aZ aW aO)) i5) (.cmp .In (.tup (aZ aO bc)) i5)) (cT (.asg bC (.bin .Add (.sub i5 (.tup (aZ aW aO))) (.sub i5 (.tup (aZ aO bc))))) (.expr (.meth 3 152 aJ (kf aW bc bC (.tup (aZ (.str w6) aO)))))) .nil))
abbrev oA:Y:=(a6 (.fr bc ax oB))
abbrev oM:Y:=(a6 (.fr aW ax oA))
def lS(s:SH)(i a b:Nat):Prop:=∀y z,cF s a i=some y->cF s i b=some z->∃x,cF s a b=some x/\x<=y+z
section
variable{p:PS}{ll:Nat}{lot:List Nat}{P:cv}
theorem gZ(W:ae (a8 s F) m)(a:(ll,.list (nV lot))∈F):m[ll]?=some (.list (nV lot)):=W.mem (by unfold a8;simp[a])
theorem uY(H:Hx B){a b x:Nat}{v:eR}(hz:s.z=z)(I:f9 p s)(W:ae (a8 s F) m)(e:a<p.n)(f:b<p.n)
 (g:(∀y,cF s a b=some y->x<y)->1<=x/\md (bf p.nodes) (aH p.nodes) (oF p.ed) (cF s) a b x v/\(x<=1\/oY λi j y h k z=>br (cF s i j=some y) (cF s h k=some z) (x<=y+z)))
 (q:∀s' c,Le p s s'->(∃y,cF s' a b=some y/\y<=x)->ae (a8 s' F) c->Q .none c):aP B (d+1) 152 [.obj 3 z,.int a,.int b,.int x,rN v] m Q:=by
 subst hz;exact Ms H I W e f g q
theorem KE(H:Hx B)(N:(ll,.list (nV lot))∈F){i a:Nat}(R:i<p.n)(G:a<p.n):∀r s m g j,(∀b∈r,b<p.n)->s.z=z->f9 p s->ae (a8 s F) m->
 (∀s' Φ g j,Le p s s'->(s'=s->∀b∈r,lS s i a b)->ae (a8 s' F) Φ->P .next [some (.obj 3 z),some (.loc ll),some (.int i),some (.int a),g,j] Φ)->
 dy (au B (d+1) bc).t (λm=>m[ll]?=some (.list (nV lot))) (bu B (d+1) oB).ss (nV r) [some (.obj 3 z),some (.loc ll),some (.int i),some (.int a),g,j] m P:=by
 intro r
 induction r with
 |nil=>exact@λs m g j _ _ I W q=>⟨gZ W N,q s m g j (.refl I) (λ_ _ h=>bx h) W⟩
 |cons b r S=>
  intro s m g j A hz I W q;have w0:m[z]?=some _:=Z hz.symm<|W.get 0 rfl
  have L:∀s1 m1 g j,Le p s s1->(s1=s->lS s i a b)->ae _ m1->dy _ (λm=>m[ll]?=some _) _ _ _ m1 P:=λs1 m1 g j f t1 M=>
   S s1 m1 g j (λc C=>A c (az _ C)) (f.2.trans hz) f.1 M λs' Φ g j D t2 Ω=>q s' Φ g j (f.trans D) (λe c C=>by
    have l:=f.mid D e;subst l;rcases bK.mp C with rfl|C
    ·exact t1 rfl
    ·exact t2 e c C) Ω
  refine⟨gZ W N,(⟨af,w0,z7 (k:=pK (a,i)) (W.get 1 rfl) rfl (Z kM ?_)⟩)⟩;clear N S q;cases l:a5 _ s.cd with
  |none=>exact bn rfl (L s m _ _ (.refl I) (λ_ y z h=>by unfold cF at h;rw[l]at h;exact aN h) W)
  |some y=>
   refine bD rfl ⟨af,w0,z7 (k:=pK (i,b)) (W.get 1 rfl) rfl (Z kM ?_)⟩
   cases x:a5 _ s.cd with
   |none=>exact bn rfl (L s m _ _ (.refl I) (λ_ y z _ h=>by unfold cF at h;rw[x]at h;exact aN h) W)
   |some w=>
    refine bD rfl<|⟨w0,af,nB (k:=pK _) (W.get 1 rfl) rfl (by refine Z kM<|Z l ?_;rfl) ?_⟩
    refine⟨w0,af,nB (k:=pK _) (W.get 1 rfl) rfl (by refine Z kM<|Z x ?_;rfl) ?_⟩
    refine⟨w0,af,?_⟩;have o:cF s a i=some y:=l;have n:cF s i b=some w:=x;refine uY (v:=.over i) H hz I W G (A b aQ) (λQ=>?_) λs1 m1 f w0 M=>?_
    ·have T:i≠a:=λe=>by
      clear H A hz W l x;subst e;rw[(I.1.3 i G)]at o;replace o:=aG o;exact uO (Q w n)
     have Ψ:i≠b:=λe=>by clear H G A hz W l x;subst e;rw[(I.1.3 i R)]at n;replace n:=aG n;subst n;exact jY _ (Q y o)
     exact have y1:=(I.1.4 a i y (λe=>T e.symm) o).1;(bt (aE y1) ⟨T,Ψ,y,w,o,n,aT _⟩ (.inr ⟨a,i,y,i,b,w,o,n,aT _⟩))
    ·refine ac w0 λu u1 u2=>?_;clear w0;exact L s1 m1 _ _ f (λe y' z' h1 E=>by clear H R G A hz I W w0 L l x f;refine Z e.symm ?_;rw[o]at h1;replace h1:=aG h1;subst h1;rw[n]at E;replace E:=aG E;subst E;exact(ad u u1 u2)) M
theorem KG(H:Hx B)(n:(ll,.list (nV lot))∈F)(A:∀b∈lot,b<p.n){i:Nat}(y:i<p.n):∀l s m l3 f g,(∀b∈l,b<p.n)->s.z=z->f9 p s->ae (a8 s F) m->
 (∀s' r l3 f g,Le p s s'->(s'=s->∀a∈l,∀b∈lot,lS s i a b)->ae (a8 s' F) r->P .next [some (.obj 3 z),some (.loc ll),some (.int i),l3,f,g] r)->
 dy (au B (d+1) aW).t (λm=>m[ll]?=some (.list (nV lot))) (bu B (d+1) oA).ss (nV l) [some (.obj 3 z),some (.loc ll),some (.int i),l3,f,g] m P:=by
 intro l
 induction l with
 |nil=>exact@λs m l3 f g _ _ I W q=>⟨gZ W n,q s m l3 f g (.refl I) (λ_ _ h=>bx h) W⟩
 |cons a l C=>
  refine λs m l3 f g u hz I W q=>⟨gZ W n,((ad _ (gZ W n) (KE H n y (u a aQ) _ s m f g A hz I W λs1 m1 f g j E v=>C s1 m1 _ f g (λc o=>u c (az _ o)) (j.2.trans hz) j.1 v λs' r l3 f g k G w=>q s' r l3 f g (j.trans k) (λe c o b x=>?_) w)))⟩;have D:=j.mid k e;clear H n A y C u hz I W q j v k w;subst D;rcases bK.mp o with rfl|o
  ·exact E rfl b x
  ·exact G e c o b x
theorem KD(H:Hx B)(n:(ll,.list (nV lot))∈F)(v:∀b∈lot,b<p.n):∀l s m l2 l3 f g,(∀b∈l,b<p.n)->s.z=z->f9 p s->ae (a8 s F) m->
 (∀s' r l2 l3 f g,Le p s s'->(s'=s->∀i∈l,∀a∈lot,∀b∈lot,lS s i a b)->ae (a8 s' F) r->P .next [some (.obj 3 z),some (.loc ll),l2,l3,f,g] r)->
 dy (au B (d+1) aO).t (λm=>m[ll]?=some (.list (nV lot))) (bu B (d+1) oM).ss (nV l) [some (.obj 3 z),some (.loc ll),l2,l3,f,g] m P:=by
 intro l
 induction l with
 |nil=>exact@λs m l2 l3 f g _ _ I W q=>⟨gZ W n,q s m l2 l3 f g (.refl I) (λ_ _ h=>bx h) W⟩
 |cons i l C=>
  refine λs m l2 l3 f g u hz I W q=>⟨gZ W n,((ad _ (gZ W n) (KG H n v (u i aQ) _ s m l3 f g v hz I W λs1 m1 l3 f g j E w=>C s1 m1 _ l3 f g (λc o=>u c (az _ o)) (j.2.trans hz) j.1 w λs' r l2 l3 f g k G x=>q s' r l2 l3 f g (j.trans k) (λe c o a y b A=>?_) x)))⟩;have D:=j.mid k e;clear H n v C u hz I W q j w k x;subst D;rcases bK.mp o with rfl|o
  ·exact E rfl a y b A
  ·exact G e c o a y b A
theorem QF(H:Hx B)(e:(ll,.list (nV lot))∈F)(f:∀b∈lot,b<p.n)(I:f9 p s)(W:ae (a8 s F) m)
 (q:∀s' c,Le p s s'->(s'=s->∀i∈lot,∀a∈lot,∀b∈lot,lS s i a b)->ae (a8 s' F) c->Q .none c):aP B (d+2) 164 [.obj 3 s.z,.loc ll] m Q:=bv H 8 rfl rfl<|(ad _ (gZ W e) (KD H e f _ s m _ _ _ _ f rfl I W λs' c _ _ _ _ J t g=>q s' c J t g))
end
theorem Of x y:V.eqb (.str x) (.str y)=(x==y):=rfl
theorem tO:∀l r,jC (nV l) (nV r)=(l.zip r).map pV
 |[],_=>rfl
 |_::_,[]=>rfl
 |a::l,b::r=>by refine((Z (tO l r) ?_):V.tup _::jC _ _=pV _::(l.zip r).map pV);rfl
theorem xJ:∀l:List (Nat×Nat),V.plains 8 (l.map pV)=true
 |[]=>rfl
 |a::l=>by refine((Z (xJ l) ?_));rfl
theorem QC{c:Nat->Nat->Option Nat}:∀{l:List (Nat×Nat)}{y:Nat},cI c l=some y->(l.map λq=>(c q.1 q.2).getD 0).sum=y:=by
 intro l
 induction l with
 |nil=>exact@λy h=>by replace h:=aG h;subst h;rfl
 |cons q r d=>
  intro y h;replace h:(match c _ _,cI c r with|some x,some y=>some _|_,_=>none)=some y:=h
  cases b:c _ _ with
  |none=>rw[b]at h;cases a:cI c r<;>rw[a]at h<;>exact aN h
  |some x=>
   cases a:cI c r with
   |none=>rw[b,a]at h;exact aN h
   |some z=>rw[b,a]at h;replace h:=aG h;subst h;refine Z eV<|Z lX<|Z (d a)<|Z b ?_;rfl
theorem P6(W:ae (a8 s F) m)(hz:m[z]?=some (.fields (eK s)))(c:src m){R:cD}:∀(l:List (Nat×Nat)) acc l0 l1,acc.length+l.length<=1000->
 R (acc++(l.filter λq=>(cF s q.1 q.2).isNone).map pV) m->
 cR (au B d ax).t src (au B d (.cmp .NotIn ax ph)).b (au B d ax).e (l.map pV) acc [l0,l1,some (.obj 3 z)] m R:=λl acc l0 l1 f q=>vG c l _ l0 l1 (λa _ l0 Y N y n=>⟨hz,tY (k:=pK a) (W.get 1 rfl) rfl (Z kM (by
 cases e:a5 a _ with
 |none=>exact bD rfl (y (by refine((Z e ?_):(a5 a _).isNone=true);rfl))
 |some v=>exact bn rfl (n (by refine((Z e ?_):(a5 a _).isNone=false);rfl))))⟩) (aF f) q
theorem P7(W:ae (a8 s F) m)(hz:m[z]?=some (.fields (eK s)))(b:src m){R:cD}:∀(l:List (Nat×Nat)) acc l0 l1,acc.length+l.length<=1000->(∀q∈l,∃y,cF s q.1 q.2=some y)->
 R (acc++l.map λq=>V.int ((cF s q.1 q.2).getD 0)) m->
 cR (au B d ax).t src (λ_ m Q=>Q true m) (au B d (.sub ph ax)).e (l.map pV) acc [l0,l1,some (.obj 3 z)] m R:=λl acc l0 l1 h g q=>lP b l _ l0 l1 (λa f l0 P q=>by
 refine aI (g a f) λy e=>?_;rw[e]at q;exact have c:a5 a _=some y:=e;⟨hz,nB (k:=pK a) (W.get 1 rfl) rfl (by refine Z kM<|Z c ?_;rfl) q⟩) (aF h) q
abbrev kX(i:Nat):X:=.meth 1 259 k6 (aM (.var i))
abbrev pX(i:Nat):X:=.meth 1 252 k6 (aM (.var i))
abbrev kB:Y:=(cT (.swap2 4 5 (kX 2) (kX 3)) (.iff (.and3 (.cmp .NotEq aO aW) (.cmp .Eq (pX 2) (pX 3)) (.cmp .Eq (.blt 0 ml) (.blt 0 (aM bC)))) (a6 (.iff (.cmp .Eq (.comp [none,none,some 0] ax (.zip bc bC) (.cmp .NotIn ax ph) ax) cY) (a6 (.expr (.meth 3 152 aJ (kf aO aW (.blt 7 (aM (.comp [none,none,some 0] ax (.zip bc bC) .nil (.sub ph ax)))) (.tup (aM (.str w4))))))) .nil)) .nil))
abbrev kA:Y:=(a6 (.fr aW ax kB))
inductive HR(h:HS):Prop
 |mk(n6:h.s.n<=6)(two:∀i,(aH h.s.nodes i).length<=2)(op:∀i,i<h.s.n->ef (bf h.s.nodes i))
def nt(p:PS)(s:SH)(a b:Nat):Prop:=∀y,a≠b->bf p.nodes a=bf p.nodes b->(aH p.nodes a).length=(aH p.nodes b).length->cI (cF s) ((aH p.nodes a).zip (aH p.nodes b))=some y->∃x,cF s a b=some x/\x<=y
section
variable{ll:Nat}{lot:List Nat}{P:cv}
theorem vb(H:Hx B)(K:HR h)(W:ae (a8 s (ah h R)) m)(hz:m[z]?=some (.fields (eK s)))(f:a<h.s.n)(b:J[0]?=some (some (.obj 3 z)))(c:J[i]?=some (some (.int a)))(q:Q (.tup (nV (aH h.s.nodes a))) m):(au B (d+1) (kX i)).e J m Q:=(d8 b ⟨hz,W.get 3 rfl,W.get 4 rfl,d8 c (sM H (W.get 4 rfl) (W.get 5 rfl) f (aF K.1) (K.2 a) q)⟩)
theorem xI(H:Hx B)(K:HR h)(W:ae (a8 s (ah h R)) m)(hz:m[z]?=some (.fields (eK s)))(f:a<h.s.n)(b:J[0]?=some (some (.obj 3 z)))(c:J[i]?=some (some (.int a)))(q:Q (.str (bf h.s.nodes a)) m):(au B (d+1) (pX i)).e J m Q:=(d8 b ⟨hz,W.get 3 rfl,W.get 4 rfl,d8 c (xN H (W.get 4 rfl) (W.get 5 rfl) f (aF K.1) (K.2 a) q)⟩)
theorem z9{a:List V}{P:aS}(h1:m[i]?=some (.list a))(b:m[j]?=some (.list []))(c:V.plains 8 a=true)(q:P (.bool (false^^V.eqbs a [])) m):dz .Eq (.loc i) (.loc j) m P:=(sP a [] h1 b c rfl q)
theorem nC{a b:Int}{P:aS}(q:P (.bool (false^^decide (a=b))) m):dz .Eq (.int a) (.int b) m P:=⟨rfl,rfl,q⟩
theorem Qo{b:Type}{f:b->Nat}(l:List b):(l.map λq=>((f q):Int)).sum=((l.map f).sum):=by
 induction l with
 |nil=>rfl
 |cons a r c=>refine Z lX<|Z c ?_;rfl
theorem Mo(H:Hx B)(K:HR h){a b:Nat}(t:a<h.s.n)(C:b<h.s.n){l1:Option V} G Φ(rest:bh)(hz:s.z=z)(I:f9 h.s s)(W:ae (a8 s (ah h R)) m)
 (q:∀s' m' G Φ,Le h.s s s'->(s'=s->nt h.s s a b)->ae (a8 s' (ah h R)) m'->P .next (some (.obj 3 z)::l1::some (.int a)::some (.int b)::G::Φ::rest) m'):
 (bu B (d+1) kB).ss (some (.obj 3 z)::l1::some (.int a)::some (.int b)::G::Φ::rest) m P:=by
 have w0:m[z]?=some _:=Z hz.symm<|W.get 0 rfl;have N:=K.2 b;refine vb (J:=some _::l1::some _::some _::G::Φ::rest) H K W w0 t rfl rfl (vb H K W w0 C rfl rfl (cP _ _ rfl ((mu ?_))))
 by_cases E:a=b
 ·exact bn (by simp;exact bg _ E) (q s m _ _ (.refl I) (λ_ y n=>absurd E n) W)
 refine bD (by simp;exact jM E) ?_
 refine xI (J:=some _::l1::some _::some _::some _::some _::rest) H K W w0 t rfl rfl (xI H K W w0 C rfl rfl (fM (K.3 a t).1 (K.3 b C).1 (Z (Of ..) ?_)))
 by_cases A:bf h.s.nodes a=bf h.s.nodes b
 case neg=>exact bn (by simp;exact A) (q s m _ _ (.refl I) (λ_ y _ n=>absurd n A) W)
 refine bD (by simp;exact A) ?_
 refine(bt (Z a9<|aF (K.2 a)) (Z a9<|aF N) (nC (Z a9<|Z a9 ?_)))
 by_cases j:(aH h.s.nodes a).length=(aH h.s.nodes b).length
 case neg=>exact bn (by simp;exact jM j) (q s m _ _ (.refl I) (λ_ y _ _ n=>absurd n j) W)
 refine bD (by simp;exact bg _ j) ?_
 have D:((aH h.s.nodes a).zip (aH h.s.nodes b)).length<=2:=by refine Z eW ?_;lia
 refine⟨Z a9<|Z a9 j,(Z (tO ..) ?_)⟩;have w:=W.app [O.part];refine P6 w (Z hz.symm<|w.get 0 rfl:(m++[O.part])[z]?=some _) (cj _ _) _ [] _ _ (by simp;lia) ?_
 rewrite[js];refine⟨af,z9 (by refine Z (cu z1) ?_;exact cj _ _) (cj _ _) (xJ _) ?_⟩
 have p:=(w.app [O.list (((aH h.s.nodes a).zip (aH h.s.nodes b)).filter (λq=>(cF s q.1 q.2).isNone)|>.map pV)]).app [O.list []];generalize(m++[O.part]++[O.list (((aH _ a).zip _).filter (λq=>(cF s _ _).isNone)|>.map pV)]++[O.list []])=S at p⊢
 cases Ω:((aH _ a).zip _).filter λq=>(cF s _ _).isNone with
 |cons g r=>refine bn rfl (q s S _ _ (.refl I) (λ_ y _ _ _ hs=>a_ (iX.mp (Z Ω aQ)) λL M=>ac (qz hs g L) λx F _=>?_) p);rw[F]at M;exact aR M
 |nil=>
  have c:∀q∈(aH _ a).zip _,∃y,cF s q.1 q.2=some y:=λq hq=>by
   cases e5:cF s _ _ with
   |some y=>exact⟨y,rfl⟩
   |none=>
    have:q∈((aH _ a).zip _).filter λq=>(cF s _ _).isNone:=iX.mpr ⟨hq,by refine Z e5 ?_;rfl⟩
    rw[Ω]at this;exact bx this
  refine aI (EM c) λy f=>bD rfl ⟨(Z hz.symm<|p.get 0 rfl:S[z]?=some (.fields _)),(⟨Z a9<|Z a9 j,(Z (tO ..)<|P7 (p.app _) (Z hz.symm<|(p.app _).get 0 rfl:(S++[O.part])[z]?=some _) (cj _ _) _ [] _ _ (by simp;lia) c ?_)⟩)⟩
  rewrite[js];generalize o:(aH _ a).zip _=i at D c f⊢;refine(gP (i.map λq=>(((cF s _ q.2).getD 0))) (Z (cj ..)<|Z ((by unfold iV;refine Z eG ?_;rfl:(i.map λq=>V.int ((cF s q.1 q.2).getD 0))=iV (i.map λq=>(((cF s q.1 q.2).getD 0))))) rfl) (bH D) (λk Ψ=>?_) ?_)
  ·refine ac (bT.mp Ψ) λg hg l=>?_;clear Ψ;subst l
   exact aI (c g hg) λx F=>Z F<|((aE (zC K.1 _ (I.1.5 _ _ _ F))):x<=_)
  have W4:=(p.app [O.part]).app [O.list (i.map λq=>V.int ((cF s q.1 q.2).getD 0))];refine Z (Qo ..)<|Z (QC f)<|⟨af,(uY (v:=.like) H hz I W4 t C (λgd=>(bt ?_ ⟨A,j,y,Z o f,aT _⟩ ?_)) λs1 m1 Q w0 w=>?_)⟩
  ·exact I.1.like_pos t C E A j (Z o f)
  ·match i,D,f with
   |[],_,f=>replace f:=aG f;exact Z f.symm<| .inl af
   |[L],_,f=>exact .inr ⟨_,_,y,a,a,0,vN f,(I.1.3 a t),aT _⟩
   |[L,M],_,f=>exact bX (zn f) λy1 y2 c1 c2 l=>Z l<| .inr ⟨_,_,y1,_,_,y2,c1,c2,aT _⟩
   |_::_::_::_,D,_=>simp at D
  ·refine ac w0 λu u1 u2=>?_;clear w0;refine q s1 m1 _ _ Q (λe y' _ _ _ hs=>?_) w
   rw[o,f]at hs;replace hs:=aG hs;subst hs;exact Z e.symm<|(ad u u1 u2)
theorem Mp(H:Hx B)(K:HR h)(o:(ll,.list (nV lot))∈ah h R){a:Nat}(v:a<h.s.n):∀k s m l3 g i,(∀b∈k,b<h.s.n)->s.z=z->f9 h.s s->ae (a8 s (ah h R)) m->
 (∀s' n l3 g i,Le h.s s s'->(s'=s->∀b∈k,nt h.s s a b)->ae (a8 s' (ah h R)) n->P .next [some (.obj 3 z),some (.loc ll),some (.int a),l3,g,i,none,none,none] n)->
 dy (au B (d+1) aW).t (λm=>m[ll]?=some (.list (nV lot))) (bu B (d+1) kB).ss (nV k) [some (.obj 3 z),some (.loc ll),some (.int a),l3,g,i,none,none,none] m P:=by
 intro k
 induction k with
 |nil=>exact@λs m l3 g i _ _ I W q=>⟨gZ W o,q s m l3 g i (.refl I) (λ_ _ h=>bx h) W⟩
 |cons b k w=>
  refine λs m l3 g i p hz I W q=>⟨gZ W o,(Mo H K v (p b aQ) g i _ hz I W λs1 m1 C D f y r=>w s1 m1 _ C D (λc l=>p c (az _ l)) (f.2.trans hz) f.1 r λs' n l3 g i j A u=>q s' n l3 g i (f.trans j) (λe c l=>?_) u)⟩;have x:=f.mid j e;clear H K o v w p hz I W q f r j u;subst x;rcases bK.mp l with rfl|l
  ·exact y rfl
  ·exact A e c l
theorem Mq(H:Hx B)(K:HR h)(l:(ll,.list (nV lot))∈ah h R)(w:∀b∈lot,b<h.s.n):∀k s m l2 l3 g i,(∀b∈k,b<h.s.n)->s.z=z->f9 h.s s->ae (a8 s (ah h R)) m->
 (∀s' o l2 l3 g i,Le h.s s s'->(s'=s->∀a∈k,∀b∈lot,nt h.s s a b)->ae (a8 s' (ah h R)) o->P .next [some (.obj 3 z),some (.loc ll),l2,l3,g,i,none,none,none] o)->
 dy (au B (d+1) aO).t (λm=>m[ll]?=some (.list (nV lot))) (bu B (d+1) kA).ss (nV k) [some (.obj 3 z),some (.loc ll),l2,l3,g,i,none,none,none] m P:=by
 intro k
 induction k with
 |nil=>exact@λs m l2 l3 g i _ _ I W q=>⟨gZ W l,q s m l2 l3 g i (.refl I) (λ_ _ h=>bx h) W⟩
 |cons a k x=>
  refine λs m l2 l3 g i p hz I W q=>⟨gZ W l,((ad _ (gZ W l) (Mp H K l (p a aQ) _ s m l3 g i w hz I W λs1 m1 l3 g i f A r=>x s1 m1 _ l3 g i (λc n=>p c (az _ n)) (f.2.trans hz) f.1 r λs' o l2 l3 g i j C u=>q s' o l2 l3 g i (f.trans j) (λe c n b v=>?_) u)))⟩;have y:=f.mid j e;clear H K l w x p hz I W q f r j u;subst y;rcases bK.mp n with rfl|n
  ·exact A rfl b v
  ·exact C e c n b v
theorem QG(H:Hx B)(K:HR h)(e:(ll,.list (nV lot))∈ah h R)(f:∀b∈lot,b<h.s.n)(I:f9 h.s s)(W:ae (a8 s (ah h R)) m)
 (q:∀s' c,Le h.s s s'->(s'=s->∀a∈lot,∀b∈lot,nt h.s s a b)->ae (a8 s' (ah h R)) c->Q .none c):aP B (d+2) 157 [.obj 3 s.z,.loc ll] m Q:=bv H 7 rfl rfl<|(ad _ (gZ W e) (Mq H K e f _ s m _ _ _ _ f rfl I W λs' c _ _ _ _ J t g=>q s' c J t g))
end
theorem rW n:eZ 0 1 n=nV (List.range n):=j0 λi _=>Z (show(0:Int)+i*1=i from by lia) rfl
theorem P8{sv:Option V}{R:cD}(a:src m)(he:∀k l0 P,P (.int k) m->De [l0,some (.int (k:Nat)),sv] m P):∀ks acc l0 l1,(∀k∈ks,∀l0 P,P (f k) m->Dc [l0,some (.int k),sv] m P)->acc.length+ks.length<=10000->R (acc++nV (ks.filter f)) m->
 cR (au B d ax).t src Dc De (nV ks) acc [l0,l1,sv] m R:=λks acc l0 l1 h i q=>vG a ks _ l0 l1 (λk g l0 _ _ y n=>h k g l0 _ (by cases e:f k with|true=>exact he k _ _ (y e)|false=>exact n e)) i q
def ft(up:List Nat):List Nat:=(List.range up.length).filter λa=>up[a]?==some a
theorem Qd(H:Hx B)(b:m[10]?=some (.fields iC))(c:m[11]?=some (.list (nV up)))(g:up.length<=1000)(q:Q (.loc m.length) (m++[.list (nV (ft up))])):aP B (d+1) 353 [.obj 2 10] m Q:=by
 refine bv H 25 rfl rfl<|⟨b,_,c,Z a9<|aF g,Z a9 pO,(Z a9<|Z (rW ..)<|P8 (f:=λa=>up[a]?==some a) (sv:=some _) trivial (λk l0 P h=>h) (List.range up.length) [] none none (λk j l0 P h=>?_) (by simp;exact aF g) ?_)⟩
 ·have i:=gG.mp j
  refine⟨b,cZ c (Z a9<|aF g) (cU (yi (bJ i))) (nC ?_)⟩;refine eE ?_;rw[bJ i]at h;have e:(false^^decide (up[k]=(k:Int)))=(some up[k]==some k):=by
   by_cases e:up[k]=k
   ·simp[e]
   ·have:¬(up[k]:Int)=k:=by lia
    refine Z (gE this) ?_;simp[e]
  exact Z e h
 ·exact q
theorem Nn(H:Hx B)(c:m[4]?=some (.fields G))(e:dG 1 G=some (.obj 2 10))(a:m[10]?=some (.fields iC))(b:m[11]?=some (.list (nV up)))(f:up.length<=1000)(q:Q (.loc m.length) (m++[.list (nV (ft up))])):aP B (d+2) 473 [.obj 0 4] m Q:=bv H 38 rfl rfl<|⟨c,d8 e ⟨a,Qd H a b f q⟩⟩
theorem dM:ah h R=ah h []++R:=by unfold ah cf;simp only[bZ,List.cons_append,kS]
theorem yU:(ah h (C++R)).Perm (C++ah h R):=Z dM<|Z (dM (R:=R))<|tC _ _ _
theorem uh:(a8 s (ah h (C++R))).Perm (C++a8 s (ah h R)):=(ma _ yU).trans (tC (a8 s []) C _)
def kz(ls:List (Nat×List Nat)):List (Nat×O):=ls.map λp=>(p.1,.list (nV p.2))
def qu:List Nat->List ((Nat×Nat)×Nat)->List ((Nat×Nat)×Nat)
 |[],l=>l
 |k::r,l=>qu r (cE (k,k) 0 l)
theorem NF:∀{ks:List Nat}{l:List ((Nat×Nat)×Nat)},a5 (i,j) (qu ks l)=if i=j/\i∈ks then some 0 else a5 (i,j) l:=by
 intro ks
 induction ks with
 |nil=>exact@λl=>(Z (ai (by simp)) rfl)
 |cons k r c=>
  intro l;refine Z c<|Z (je ..) ?_
  by_cases h:i=j/\i∈r
  ·exact Z (ao h)<|Z (ao ⟨h.1,az _ h.2⟩) rfl
  ·refine Z (ai h) ?_
   by_cases e:(i,j)=(k,k)
   ·injection e with a b
    exact Z (ao (Z a<|Z b rfl))<|Z (ao ⟨Z a<|Z b rfl,Z a aQ⟩) rfl
   ·exact Z (ai e)<|Z (ai (λ⟨q1,q2⟩=>by
     rcases bK.mp q2 with q|q
     ·exact e (Z q1.symm<|Z q rfl)
     ·exact h ⟨q1,q⟩)) rfl
theorem Kp:∀{ks:List Nat}{l:List ((Nat×Nat)×Nat)},(∀k∈ks,k<n)->Pk n l->Pk n (qu ks l):=by
 intro ks
 induction ks with
 |nil=>exact@λ_ _ h=>h
 |cons k r c=>exact@λl a h=>c (λj b=>a j (az _ b)) (h.put (a k aQ) (a k aQ))
def jm(s:SH)(a b:Nat):Prop:=∃x,cF s a b=some x/\x<=1
theorem jm.low(h:jm s a b)(l:iW (cF s) (cF s')):jm s' a b:=by refine ac h λx h1 c=>?_;clear h;exact ac (l a b x h1) λy h3 d=>(ad y h3 (aC d c))
theorem Me(H:Hx B)(K:ej h xs){P:cD}:∀rs a m l0 l1,(∀r∈rs,h.s.up[r]?=some r)->a.length+rs.length<=1000->
 ae (kz a++(k,.list (nV (ft h.s.up)))::a8 s (ah h R)) m->
 (∀b g,b.map (·.2)=rs.map (λr=>dX (ay h.s.lot r))->ae (kz (a++b)++(k,.list (nV (ft h.s.up)))::a8 s (ah h R)) g->P ((a++b).map λp=>.loc p.1) g)->
 cR (au B (d+3) ax).t (λm=>m[k]?=some (.list (nV (ft h.s.up)))) (λ_ m Q=>Q true m) (au B (d+3) wz).e (nV rs) (a.map λp=>.loc p.1) [l0,l1,some (.obj 3 s.z)] m P:=by
 intro rs
 induction rs with
 |nil=>exact@λa m l0 l1 _ _ W q=>⟨W.mem (by simp),by have:=q [] m rfl (Z (bZ ..) W);rwa [bZ]at this⟩
 |cons r rs x=>
  intro a m l0 l1 l i W q;have c:=W.sub (List.sublist_append_right _ _);refine⟨W.mem (by simp),?_⟩
  have f:=l r aQ;have n:r<h.s.n:=Z K.1.1.symm<|(bV.mp f).1;have u:=pN f;have y:=c.get (r+17+4) (yp K n);refine⟨c.get 1 rfl,c.get 4 rfl,(Ni H (c.get 4 rfl) rfl (c.get 10 rfl) (c.get 11 rfl) (c.get 12 rfl) K.1.5 (Z K.1.1 n) (Z K.1.1<|aF K.2) (Z K.3<|aF K.2) (Z u<|bJ _) y (aK K.2 (K.1.15 r)) ?_)⟩;refine⟨Z aY<|cN i,?_⟩;have o:=(W.new (.list (nV (dX _)))).perm (L':=kz (a++[(m.length,dX (ay h.s.lot r))])++(k,.list _)::a8 s _) (by unfold kz;exact Z bz<|Z cq fj)
  refine Z ((by refine Z bz ?_;rfl:(a.map λp=>V.loc _)++[V.loc _]=(a++[(m.length,dX (ay h.s.lot r))]).map λp=>V.loc _)) ?_
  refine x _ _ _ _ (λj v=>l j (az _ v)) (by refine Z aL ?_;rw[bU]at i;exact aE i) o λb g e w=>?_
  exact have:=q _ g (bg _ e) (by rw[kS]at w;exact w);Z cq this
theorem OA{P:bY}:∀ks l m l0 l1,l.length+ks.length<=1000->ae ((c,.tdict (iL l))::L) m->
 (∀b,ae ((c,.tdict (iL (qu ks l)))::L) b->P b)->
 oG (au B d ax).t (λ_=>True) (au B d (.tup (aZ ax ax))).e (au B d (.int 0)).e c (nV ks) [l0,l1] m P:=by
 intro ks
 induction ks with
 |nil=>exact@λl m l0 l1 _ W q=>⟨trivial,q m W⟩
 |cons k ks f=>
  intro l m l0 l1 a W q;rw[bU]at a;refine(dm trivial af (λl=>by refine Z (W.get 0 rfl) ?_;simp) ?_)
  exact tS (k:=pK _) (W.get 0 rfl) rfl (Z aY<|cN a)<|Z (lm (g:=nI) r8 _ 0 l)<|f _ _ _ _ (aK a (mF _ 0 l)) (W.set 0 rfl _) q
abbrev eB:Y:=(cT (.asg (.tup (cM aW bc bC)) (.sub (.attr 0 2 jF) aO)) (.iff (.cmp .NotEq (.sub bC (.int 0)) (.str w4)) (cT (.expr (.meth 3 152 aJ (kf aW bc (.int 1) (.tup (cM (.str w5) aO (.bool false)))))) (.expr (.meth 3 152 aJ (kf bc aW (.int 1) (.tup (cM (.str w5) aO (.bool true))))))) .nil))
abbrev lB:Y:=(cT (.expr (.meth 3 157 aJ (aM eY))) (.expr (.meth 3 164 aJ (aM eY))))
section
variable{P:cv}
theorem zZ{a b:Str}{P:aS}(c:V.plain 8 (.str a)=true)(d:V.plain 8 (.str b)=true)(q:P (.bool (true^^V.eqb (.str a) (.str b))) m):dz .NotEq (.str a) (.str b) m P:=⟨c,d,q⟩
theorem Oq(H:Hx B)(C:∀a b,fm h.s.ed a b->a<h.s.n/\b<h.s.n)(N:h.s.ed.length<=900){rest:bh}:∀p s m l2 l3 l n,(∀i∈p,i<h.s.ed.length)->s.z=z->f9 h.s s->ae (a8 s (ah h R)) m->
 (∀s' A l2 l3 l n,Le h.s s s'->(∀i∈p,∀a b c,h.s.ed[i]?=some (a,b,some c)->jm s' a b/\jm s' b a)->ae (a8 s' (ah h R)) A->P .next (some (.obj 3 z)::mk::l2::l3::l::n::rest) A)->
 dy (au B (d+1) aO).t (λ_=>True) (bu B (d+1) eB).ss (nV p) (some (.obj 3 z)::mk::l2::l3::l::n::rest) m P:=by
 intro p
 induction p with
 |nil=>exact@λs m l2 l3 l n _ _ I W q=>⟨trivial,q s m l2 l3 l n (.refl I) (λ_ h=>bx h) W⟩
 |cons i p F=>
  intro s m l2 l3 l n E hz I W q;have Q:=E i aQ;have w0:m[z]?=some _:=Z hz.symm<|W.get 0 rfl;have G:∀s1 m1 l2 l3 l n,Le _ s s1->(∀a b c,h.s.ed[i]?=some (a,b,some c)->jm s1 a b/\jm s1 b a)->ae _ m1->
   dy _ (λ_=>True) _ _ _ m1 P:=λs1 m1 l2 l3 l n g Φ y=>
   F s1 m1 l2 l3 l n (λj u=>E j (az _ u)) (g.2.trans hz) g.1 y λs' A l2 l3 l n k t2 D=>q s' A l2 l3 l n (g.trans k) (λj u a b c e=>by
    clear F E q;rcases bK.mp u with rfl|u
    ·exact⟨(Φ a b c e).1.low k.6,(Φ a b c e).2.low k.6⟩
    ·exact t2 j u a b c e) D
  have o:=bJ Q;generalize h.s.ed[i]=e at o;obtain⟨a,b,lab⟩:=e;refine⟨trivial,w0,W.get 3 rfl,cZ (W.get 13 rfl) (bH N) (cU (jR o)) ?_⟩;refine⟨rfl,?_⟩
  cases lab with
  |none=>refine⟨_,af,rfl,zZ (by decide+kernel) (by decide+kernel) (bn rfl (G s m _ _ _ _ (.refl I) (λL M c e=>by rw[o]at e;cases e) W))⟩
  |some c=>
   have r:oF h.s.ed i=some (a,b):=by unfold oF;exact Z o rfl
   refine⟨_,af,rfl,zZ (by decide+kernel) (by decide+kernel) (bD rfl (⟨w0,af,(uY (x:=1) (v:=.edge i _) H hz I W (C a b ⟨c,bN o⟩).1 (C a b ⟨c,bN o⟩).2 (λ_=>(bt (aT _) ⟨rfl,r⟩ (.inl (aT _)))) λs1 m1 g Ω y=>?_)⟩))⟩
   have w:=g.2.trans hz;refine⟨(Z w.symm<|y.get 0 rfl:m1[z]?=some (.fields _)),af,?_⟩
   exact uY (x:=1) (v:=.edge i _) H w g.1 y (C a b ⟨c,bN o⟩).2 (C a b ⟨c,bN o⟩).1 (λ_=>(bt (aT _) ⟨rfl,r⟩ (.inl (aT _)))) λs2 S k Ψ D=>G s2 S _ _ _ _ (g.trans k) (λL M c' e=>by rw[o]at e;cases e;exact⟨jm.low Ω k.6,Ψ⟩) D
theorem Ht(H:Hx B)(K:HR h)(w:(S,.list y)∈ah h R){L l2 l3 G Φ u:Option V}{rest:bh}:∀(n:List (Nat×List Nat)) s m l,(∀p∈n,(p.1,O.list (nV p.2))∈ah h R/\∀b∈p.2,b<h.s.n)->s.z=z->f9 h.s s->ae (a8 s (ah h R)) m->
 (∀s' g l,Le h.s s s'->(s'=s->∀p∈n,(∀a∈p.2,∀b∈p.2,nt h.s s a b)/\∀i∈p.2,∀a∈p.2,∀b∈p.2,lS s i a b)->ae (a8 s' (ah h R)) g->P .next (some (.obj 3 z)::L::l2::l3::G::Φ::u::l::rest) g)->
 dy (au B (d+2) eY).t (λm=>m[S]?=some (.list y)) (bu B (d+2) lB).ss (n.map λp=>.loc p.1) (some (.obj 3 z)::L::l2::l3::G::Φ::u::l::rest) m P:=by
 intro n
 induction n with
 |nil=>exact@λs m l _ _ I W q=>⟨W.mem (by unfold a8;simp[w]),q s m l (.refl I) (λ_ _ h=>bx h) W⟩
 |cons p n F=>
  refine λs m l x hz I W q=>a_ (x p aQ) λA C=>⟨W.mem (by unfold a8;simp[w]),?_⟩
  refine⟨(Z hz.symm<|W.get 0 rfl:m[z]?=some (.fields _)),((λq=>Z hz.symm<|QG H K A C I W q:∀{Q:aS},(∀s' g,Le _ s s'->(s'=s->∀a∈p.2,∀b∈p.2,nt _ s a b)->ae _ g->Q _ g)->aP B _ _ [.obj 3 z,.loc _] m Q) λs1 m1 f Ω v=>?_)⟩;have j:=f.2.trans hz;refine⟨(Z j.symm<|v.get 0 rfl:m1[z]?=some (.fields _)),((λq=>Z j.symm<|QF H A C f.1 v q:∀{Q:aS},(∀s' g,Le _ s1 s'->(s'=s1->∀i∈p.2,∀a∈p.2,∀b∈p.2,lS s1 i a b)->ae _ g->Q _ g)->aP B _ _ [.obj 3 z,.loc _] m1 Q) λs2 T c Ψ D=>F s2 T _ (λr o=>x r (az _ o)) (c.2.trans j) c.1 D λs' g l k t3 E=>q s' g l (f.trans (c.trans k)) (λe r o=>?_) E)⟩;have M:=f.mid (c.trans k) e;clear H K w F x hz I W q A C f v j D E;subst M;have N:=c.mid k e;clear c k;subst N;rcases bK.mp o with rfl|o
  ·exact⟨Ω rfl,Ψ rfl⟩
  ·exact t3 e r o
end
def eM(h:HS):Nat×Nat×Nat:=(h.s.n,h.s.ed.length,h.backs)
inductive fK(p:PS)(s:SH):Prop
 |mk(cs:Cs p.n (bf p.nodes) (aH p.nodes) (fm p.ed) (oF p.ed) (cF s) (wF s))(ck:Pk p.n s.cd)(wk:Pk p.n s.wd)(n6:p.n<=6)
def SH.fresh(s:SH)(mk:Nat×Nat×Nat)(n pc pw:Nat):SH:={s with mark:=some mk,pw:=pw,wd:=[],pc:=pc,cd:=qu (List.range n) []}
theorem NN{p:PS}(G:Gr p.n (bf p.nodes) (aH p.nodes))(i:p.n<=6):f9 p (s.fresh g p.n pc pw):=by
 have e:∀a b,cF (s.fresh g _ pc pw) a b=if a=b/\a∈List.range p.n then some 0 else none:=λa b=>NF
 have c:∀{o:Type},Pk p.n ([]:List ((Nat×Nat)×o)):=⟨List.nodup_nil,λk h=>bx h⟩;refine⟨⟨G,λa b x h=>?_,λa d=>?_,λa b x n h=>?_,λa b x h=>?_⟩,Kp (λk f=>gG.mp f) c,c,i⟩
 ·rw[e]at h
  split at h
  ·rename_i q;exact⟨(gG.mp q.2),q.1▸(gG.mp q.2)⟩
  ·cases h
 ·exact Z (e ..)<|Z (ao ⟨rfl,gG.mpr d⟩) rfl
 ·rw[e,ai (λq=>n q.1)]at h;cases h
 ·rw[e]at h
  refine jc h (λm h=>?_) (λm h=>?_)
  ·cases h;exact eT _
  ·cases h
theorem Jt(G:Gd h.s h.s.n [])(I:f9 h.s s)(m:∀i,i<h.s.ed.length->∀a b c,h.s.ed[i]?=some (a,b,some c)->jm s a b/\jm s b a)
 (k:∀r∈ft h.s.up,(∀a∈dX (ay h.s.lot r),∀b∈dX (ay h.s.lot r),nt h.s s a b)/\∀i∈dX (ay h.s.lot r),∀a∈dX (ay h.s.lot r),∀b∈dX (ay h.s.lot r),lS s i a b):fK h.s s:=by
 have d:∀a,a<h.s.n->h.s.rt a∈ft _/\∀b,b<h.s.n->h.s.rt b=h.s.rt a->b∈dX _:=λa f=>by refine⟨iX.mpr ⟨gG.mpr (bV.mp (pM G f)).1,Z (pM G f)<|fc rfl⟩,λb g e=>sz.mpr ((G.13 _ (pM G f) b).mpr ⟨g,e⟩)⟩
 have same:∀{a b},a<h.s.n->b<h.s.n->Al _ _ _ _ a b->h.s.rt b=h.s.rt a:=λf g n=>((G.settled f g).mpr n).symm;refine⟨I.1.rest (λa b t=>⟨(G.9 a b t).1,(G.9 a b t).2.1⟩) (λi a b e=>?_) (λa b ⟨c,t⟩=>?_) (λa b y f g x n o l hs=>?_) (λa i b y z p u h1 v=>?_),I.2,I.3,I.4⟩
 ·exact aI (D7 e) λc q=>⟨c,bN q⟩
 ·obtain⟨i,j⟩:=List.getElem?_of_mem t
  exact m i (bV.mp j).1 a b c j
 ·exact(k _ (d a f).1).1 a ((d a f).2 a f rfl) b ((d a f).2 b g (same f g n)) y x o l hs
 ·exact a_ (I.1.2 a i y h1) λf j=>have w:=same f j p;(k _ (d a f).1).2 i ((d a f).2 i j w) a ((d a f).2 a f rfl) b ((d a f).2 b (I.1.2 i b z v).2 ((same j (I.1.2 i b z v).2 u).trans w)) y z h1 v
theorem L9{a b:Nat×Nat×Nat}:V.eqb (qb (some a)) (qb (some b))=decide (a=b):=by rewrite[Bool.eq_iff_iff];rewrite[decide_eq_true_iff];refine⟨λh=>?_,λh=>h▸V.eqb_refl 8 _ rfl⟩;have e:=V.eqb_eq _ _ h;injection e with e;injection e with c e;injection e with d e;injection e with f _;injection c with c;injection d with d;injection f with f;exact Prod.ext (Int.ofNat.inj c) (Prod.ext (Int.ofNat.inj d) (Int.ofNat.inj f))
theorem ej.hr(K:ej h xs)(op:∀i,i<h.s.n->ef (bf h.s.nodes i)):HR h:=⟨K.2,K.1.4.5,op⟩
theorem wD(a:∀n,x≠.loc n)(b:x.plain 8=true)(c:y.plain 8=true)(q:P (.bool (false^^V.eqb x y)) m):dz .Eq x y m P:=by
 cases x with
 |loc n=>exact absurd rfl (a n)
 |_=>exact⟨b,c,q⟩
theorem Bi{b:Bool}(W:ae (a8 s F) m)(hz:s.z=z):ae (a8 {s with tn:=b} F) (m.set z (.fields (eL 21 (.bool b) (eK s)))):=by subst hz;exact W.set 0 rfl _
theorem Md(H:Hx B)(hz:s.z=z)(K:ej h xs){P:cD} l0 l1(g:∀r∈ft h.s.up,h.s.up[r]?=some r)(f:(ft h.s.up).length<=1000)
 (W:ae ((rl,.list (nV (ft h.s.up)))::a8 s (ah h R)) m)
 (q:∀a b,a.map (·.2)=(ft h.s.up).map (λr=>dX (ay h.s.lot r))->ae (kz a++(rl,.list (nV (ft h.s.up)))::a8 s (ah h R)) b->P (a.map λp=>.loc p.1) b):
 cR (au B (d+3) ax).t (λm=>m[rl]?=some (.list (nV (ft h.s.up)))) (λ_ m Q=>Q true m) (au B (d+3) wz).e (nV (ft h.s.up)) [] [l0,l1,some (.obj 3 z)] m P:=by
 subst hz;exact Me H K _ [] m l0 l1 g (by simp;exact f) W λa b e w=>q a b e w
theorem Ma o:(qb o).plain 8=true:=by cases o<;>rfl
theorem xv(H:Hx B)(K:ej h [])(hw:h.wait=[])(hm:h.made=h.s.n)(op:∀i,i<h.s.n->ef (bf h.s.nodes i))(W:ae (a8 s (ah h R)) m)
 (q0:s.mark=some (eM h)->∀Ω,ae (a8 s (ah h R)) Ω->Q .none Ω)
 (q1:s.mark≠some (eM h)->∀s' Ω,s'.z=s.z->s'.mark=some (eM h)->fK h.s s'->ae (a8 s' (ah h R)) Ω->Q .none Ω):aP B (d+4) 145 [.obj 3 s.z] m Q:=by
 have G:=K.1;rw[hw,hm]at G;have D:=K.2;refine bv H 5 rfl rfl<|⟨W.get 0 rfl,L_ H (W.get 3 rfl) rfl rfl rfl (W.get 4 rfl) (W.get 5 rfl) (W.get 13 rfl) (aF D) (bH K.7) (Z aY<|⟨W.get 0 rfl,wD (x:=.tup _) (by intro n;simp) rfl (Ma _) ?_⟩)⟩
 have δ:(false^^V.eqb (V.tup [.int h.s.nodes.length,.int h.s.ed.length,.int h.backs]) (qb s.mark))=decide (s.mark=some (eM h)):=by
  cases e:s.mark with
  |none=>rfl
  |some k=>
   refine Z (show V.tup [.int h.s.nodes.length,.int h.s.ed.length,.int h.backs]=qb (some (eM h))from rfl)<|Z L9 ?_
   by_cases q:k=eM h
   ·simp[q]
   ·have q':¬eM h=k:=λz=>q z.symm
    simp[q,q']
 refine Z δ ?_
 by_cases em:s.mark=some (eM h)
 ·exact bD (by simp[em]) (q0 em m W)
 refine bn (by simp[em])<|⟨W.get 0 rfl,W.get 3 rfl,vk H (W.get 3 rfl) rfl (W.get 4 rfl) (W.get 5 rfl) (aF D) ((bn (by simp;lia) ?_))⟩
 refine⟨af,?_⟩;have E:=W.new (.tdict (nH []));replace E:ae _ (m++[fb 2]):=E;generalize m++[fb 2]=m1 at E⊢;generalize m.length=pw at E⊢;refine⟨rfl,(⟨E.get 1 rfl,by simp[eK],?_⟩)⟩
 have M:=E.set 1 rfl (.fields (eK {s with mark:=some (eM h)}));replace M:ae _ (m1.set _ (.fields (eL 18 (.tup [.int h.s.nodes.length,.int h.s.ed.length,.int h.backs]) (eK s)))):=M;generalize m1.set _ _=m2 at M⊢;refine⟨M.get 1 rfl,by simp[eK],?_⟩
 have u:=M.set 1 rfl (.fields (eK {s with mark:=some (eM h),pw:=pw}));replace u:ae _ (m2.set _ (.fields (eL 20 _ (eK {s with mark:=some _})))):=u;generalize m2.set _ (.fields (eL 20 (.loc pw) _))=m3 at u⊢;refine⟨u.get 1 rfl,u.get 4 rfl,vk H (u.get 4 rfl) rfl (u.get 5 rfl) (u.get 6 rfl) (aF D) ⟨pO,(Z (rW ..) (OA _ [] _ none none (by simp;exact aF D) (u.new _) λm5 W5=>?_))⟩⟩
 generalize m3.length=L at W5⊢;refine⟨W5.get 2 rfl,by simp[eK],?_⟩
 have W6:=W5.set 2 rfl (.fields (eK (s.fresh (eM h) h.s.n L pw)));replace W6:ae _ (m5.set _ (.fields (eL 19 (.loc L) (eK {s with mark:=some _,pw:=pw})))):=W6;generalize m5.set _ _=m6 at W6⊢;have W7:ae (a8 (s.fresh (eM h) h.s.n L pw) (ah h R)) m6:=by
  refine(W6.sub (L':=(L,.tdict (iL (qu (List.range h.s.n) [])))::(pw,.tdict (nH []))::(s.z,.fields (eK (s.fresh (eM h) h.s.n L pw)))::ah h R) ?_).perm ?_
  ·exact((((dB _ _).trans (dB _ _)).cons_cons _).cons_cons _).cons_cons _
  ·exact(List.Perm.swap _ _ _).trans ((List.Perm.swap _ _ _).cons _)
 refine⟨W7.get 0 rfl,W7.get 3 rfl,_,W7.get 13 rfl,bH K.7,by refine Z aY ?_;have:=K.7;exact pO,?_⟩
 refine Z aY<|Z (rW ..)<|Oq H (λa b t=>⟨(G.9 a b t).1,(G.9 a b t).2.1⟩) (aF K.7) _ (s.fresh _ _ L pw) m6 _ _ _ _ (λi Φ=>gG.mp Φ) rfl (NN G.4 D) W7 λs1 m7 l2 l3 l4 l5 j Ψ F=>?_;have z1:s1.z=s.z:=j.2;refine⟨(Z z1.symm<|F.get 0 rfl:m7[s.z]?=some (.fields (eK s1))),F.get 3 rfl,Nn H (F.get 3 rfl) rfl (F.get 9 rfl) (F.get 10 rfl) (Z G.1<|aF D) ?_⟩;have W9:=F.new (.list (nV (ft h.s.up)));refine(ad _ (cj _ _) ?_);have rr:∀r∈ft _,h.s.up[r]?=some r:=λr hr=>by simpa using(iX.mp hr).2
 have ζ:(ft h.s.up).length<=1000:=by have:(ft _).length<=(List.range h.s.up.length).length:=List.length_filter_le _ _;rw[List.length_range,G.1]at this;exact aK D this
 refine Md H z1 K none none rr ζ W9 λg m9 N β=>?_;have w:=β.new (.list (g.map λp=>V.loc p.1));generalize hM:m9++[O.list (g.map λp=>V.loc _)]=θ at w⊢;generalize m9.length=S at w⊢;have y:ae (a8 s1 (ah h (((S,.list (g.map λp=>V.loc _))::kz g)++R))) _:=(w.sub ((kT (l_ _) (dB _ _)).cons_cons _)).perm uh;have C:∀x∈((S,O.list (g.map λp=>V.loc _))::kz g),x∈ah h (((S,.list (g.map λp=>V.loc p.1))::kz g)++R):=λx hx=>yU.symm.subset (jt _ hx)
 have T:∀p∈g,∃r∈ft h.s.up,p.2=dX _:=λp v=>by have:p.2∈g.map _:=qV v;rw[N]at this;exact ac (bT.mp this) λr h1 h2=>(ad r h1 h2.symm)
 have l:∀p∈g,(p.1,O.list _)∈ah h (((S,.list (g.map λp=>V.loc _))::kz g)++R)/\∀b∈p.2,b<h.s.n:=λp v=>by refine⟨C _ (az _ (bT.mpr (ad p v rfl))),λb hb=>ac (T p v) λr h1 h2=>?_⟩;rw[h2]at hb;exact((G.13 r (rr r h1) b).mp (sz.mp hb)).1
 generalize hR:(((S,O.list (g.map λp=>V.loc _))::kz g)++R)=R2 at y C l;refine⟨(Z z1.symm<|y.get 0 rfl),by simp[eK],?_⟩
 have I1:f9 _ {s1 with tn:=true}:=⟨j.1.1,j.1.2,j.1.3,j.1.4⟩;refine(cP (λk J m=>aV λs' l7=>tL (k=2*jZ h.s.n (cF s')+(if s'.tn then 1 else 0)) (J=some _::some _::l2::l3::l4::l5::some _::l7::List.replicate 5 _) (f9 _ s') (s'.z=s.z) (s'.mark=some _) ((∀i,i<h.s.ed.length->∀a b c,h.s.ed[i]?=some (a,b,some c)->jm s' a b/\jm s' b a)) ((s'.tn=false->∀p∈g,(∀a∈p.2,∀b∈p.2,nt h.s s' a b)/\∀i∈p.2,∀a∈p.2,∀b∈p.2,lS s' i a b)) (ae (a8 s' _) m)) _ ⟨{s1 with tn:=true},none,rfl,rfl,I1,z1,j.5,(λi Φ=>Ψ i (gG.mpr Φ)),(λz=>C3 z),(Bi y z1)⟩ ?_)
 rintro k J m ⟨s',l7,rfl,rfl,I,hz,P,on,cond,W'⟩;have w0:m[s.z]?=some _:=Z hz.symm<|W'.get 0 rfl;refine⟨w0,?_⟩
 cases e:s'.tn with
 |false=>
  refine bn e (q1 em s' m hz P (Jt G I on λr hr=>?_) ?_)
  ·exact have:dX _∈g.map _:=Z N<|bT.mpr (ad r hr rfl);ac (bT.mp this) λp v ep=>Z ep.symm<|cond e p v
  ·rw[<-hR]at W'
   exact(W'.perm uh.symm).sub (List.sublist_append_right _ _)
 |true=>
  refine bD e ⟨w0,by simp[eK],?_⟩
  have A:=Bi (b:=false) W' hz;generalize m.set _ _=ι at A⊢;have h6:=C _ aQ;refine(ad _ (A.mem (o:=.list (g.map λp=>V.loc p.1)) (by unfold a8;simp[h6])) ?_)
  refine Ht H (K.hr op) h6 g {s' with tn:=false} _ l7 l hz ⟨I.1,I.2,I.3,I.4⟩ A λα η ε f t2 γ=>⟨_,?_,α,ε,rfl,rfl,f.1,f.2.trans hz,f.5.trans P,λi Φ a b c ei=>⟨(on i Φ a b c ei).1.low f.6,(on i Φ a b c ei).2.low f.6⟩,λen p v=>?_,γ⟩
  ·have f.msr:jZ _ _<=jZ _ (cF s'):=f.msr
   rewrite[ao rfl];rcases f.7 with q|⟨q,q2⟩
   ·refine Z (Z q rfl:α.tn=false) ?_;lia
   ·exact have q2:jZ _ _<jZ _ (cF s'):=q2;Z (ao q)<|aK f.msr q2
  ·rcases f.7 with q|⟨q,_⟩
   ·exact have:=t2 q p v;Z q this
   ·rw[q]at en;exact C3 en
theorem Bc(H:Hx B)(K:ej h [])(x:h.wait=[])(hm:h.made=h.s.n)(op:∀i,i<h.s.n->ef (bf h.s.nodes i))(W:ae (ah h R) m)
 (q:∀s' n,s'.mark=some (eM h)->fK h.s s'->ae (a8 s' (ah h R)) n->Q (.obj 3 s'.z) n):aP B (d+6) 179 [.obj 0 4] m Q:=by
 refine vH (c:=3) H rfl (by trivial)<|bv H 4 rfl rfl ?_
 have k:=W.new (.fields []);generalize m++[O.fields []]=m1 at k⊢;generalize m.length=z at k⊢;refine⟨k.get 0 rfl,af,?_⟩;have g:=k.set 0 rfl (.fields [(17,.obj 0 4)]);replace g:ae _ (m1.set z (.fields (eL 17 _ []))):=g;generalize m1.set z _=t at g⊢;refine⟨g.get 0 rfl,af,?_⟩;have j:=g.set 0 rfl (.fields [(17,.obj 0 4),(18,.none)]);replace j:ae _ (t.set z (.fields (eL 18 _ [(17,.obj 0 4)]))):=j;generalize t.set z _=o at j⊢;refine⟨(j.new (.tdict (iL []))).get 1 rfl,af,?_⟩;have a:=(j.new (.tdict (iL []))).set 1 rfl (.fields [(17,.obj 0 4),(18,.none),(19,.loc o.length)]);replace a:ae _ ((o++[fb 2]).set z (.fields (eL 19 _ [(17,.obj 0 4),(18,.none)]))):=a;generalize(o++[fb 2]).set z _=p at a⊢;generalize o.length=f at a⊢;refine⟨(a.new (.tdict (nH []))).get 2 rfl,af,?_⟩;have b:=(a.new (.tdict (nH []))).set 2 rfl (.fields [(17,.obj 0 4),(18,.none),(19,.loc f),(20,.loc p.length)]);replace b:ae _ ((p++[fb 2]).set z (.fields (eL 20 _ [(17,.obj 0 4),(18,.none),(19,.loc f)]))):=b;generalize(p++[fb 2]).set z _=u at b⊢;generalize p.length=r at b⊢;refine⟨b.get 2 rfl,af,?_⟩;have l:=b.set 2 rfl (.fields (eK ⟨z,f,r,none,[],[],true⟩));replace l:ae ((r,.tdict _)::(f,.tdict _)::(z,.fields _)::ah h R) (u.set z (.fields (eL 21 (.bool true) [(17,.obj 0 4),(18,.none),(19,.loc f),(20,.loc r)]))):=l;generalize u.set z _=y at l⊢;have s:ae (a8 ⟨z,f,r,none,[],[],true⟩ _) y:=l.perm (((List.Perm.swap _ _ _).trans ((List.Perm.swap _ _ _).cons _)).trans (List.Perm.swap _ _ _));refine⟨s.get 0 rfl,xv H K x hm op s (λe=>aN e) λ_ s' n hz w cs v=>⟨rfl,?_⟩⟩;have:=q s' n w cs v;rw[hz]at this;exact this
def mA(bl:List Nat):List (Int×V):=bl.map λ(k:Nat)=>((k:Int),V.bool true)
theorem G5{k:Nat}:∀{a:List Nat},bO (k:Int) (mA a)=if k∈a then some (V.bool true)else none:=by
 intro a
 induction a with
 |nil=>exact rfl
 |cons x r b=>
  exact by
   refine((Z b ?_):(if(x:Int)=k then some _ else bO _ _)=_)
   by_cases e:x=k
   ·exact Z (ao (bg _ e))<|Z (ao (Z e aQ)) rfl
   ·refine Z (ai (jM e)) ?_
    by_cases q:k∈r
    ·exact Z (ao q)<|Z (ao (az _ q)) rfl
    ·exact Z (ai q)<|Z (ai (λz=>by rcases bK.mp z with z|z;exact e z.symm;exact q z)) rfl
theorem G4:∀{a:List Nat},k∉a->c_ (k:Int) (V.bool true) (mA a)=mA (a++[k]):=by
 intro a
 induction a with
 |nil=>exact@λ_=>rfl
 |cons x r b=>intro h;refine((Z (ai (by exact jM (λe=>h (e▸aQ)))) (Z (b (λq=>h (az _ q))) ?_)):(if(x:Int)=k then _ else((x:Int),V.bool _)::c_ k _ _)=_);rfl
def yl:List (Nat×V)->List (Int×V):=fa (λk:Nat=>(k:Int)) id
abbrev tB:Y:=(a6 (.iff (.cmp .NotIn bc aO) (cT (.asg (.sub aO bc) (.bool true)) (.expr (.bm 0 aW ml))) .nil))
abbrev tM:Y:=(a6 (.asg (.sub bC cz) (.bin .Add (.tup (aM (.meth 1 252 aJ (aM cz)))) (.blt 1 (aM (.comp [none,none,some 5] ax (.meth 1 259 aJ (aM cz)) .nil rC))))))
theorem z8{a b:Int}(q:P (.bool (decide (b<a))) m):(au B d (X.int b)).e J m λy m=>dz .Gt (.int a) y m P:=q
theorem Gp{l:List (Int×V)}(h:m[n]?=some (.idict l))(q:P (.bool (true^^(bO k l).isSome)) m):dz .NotIn (.int k) (.loc n) m P:=Gs h q
theorem Hm{b st:Nat}{rest:bh}{P:cv}:∀ks f g m x,f.length+ks.length<=900->g.length+ks.length<=900->ae ((b,.idict (mA f))::(st,.list (nV g))::L) m->
 (∀a c x i,(∀k,k∈a↔k∈f\/k∈ks)->a.length<=f.length+ks.length->c.length<=g.length+ks.length->(∀k∈c,k∈g\/k∈ks)->ae ((b,.idict (mA a))::(st,.list (nV c))::L) i->P .next (a0::a1::some (.loc b)::some (.loc st)::x::rest) i)->
 dy (au B d bc).t (λ_=>True) (bu B d tB).ss (nV ks) (a0::a1::some (.loc b)::some (.loc st)::x::rest) m P:=by
 intro ks
 induction ks with
 |nil=>exact@λf g m x _ _ W q=>⟨trivial,q f g x m (λk=>⟨.inl,λh=>h.resolve_right (λz=>bx z)⟩) (aT _) (aT _) (λk h=>.inl h) W⟩
 |cons k ks r=>
  intro f g m x n hs W q;rw[bU]at n hs;refine⟨trivial,Gp (W.get 0 rfl) (Z G5 ?_)⟩
  by_cases e:k∈f
  ·refine Z (ao e)<|bn rfl (r f g m _ (aE n) (aE hs) W λa c x i h1 l h3 o w=>q a c x i (λj=>?_) (Z bU<|aE l) (Z bU<|aE h3) (λj p=>?_) w)
   ·rewrite[h1 j];rewrite[bK]
    exact⟨λh=>by rcases h with h|h;exact .inl h;exact .inr (.inr h),λh=>by rcases h with h|h|h;exact .inl h;exact .inl (h▸e);exact .inr h⟩
   ·rcases o j p with h|h
    ·exact .inl h
    ·exact .inr (az _ h)
  ·refine Z (ai e)<|bD rfl (nw (W.get 0 rfl) (Z aY<|cN n) (Z (G4 e)<|⟨(W.set 0 rfl _).get 1 rfl,_,(W.set 0 rfl _).get 1 rfl,Z a9<|cN hs,(Z oa<|r _ _ _ _ (Z aL<|aE n) (Z aL<|aE hs) ((W.set 0 rfl _).set 1 rfl _) λa c x i h1 l h3 o w=>q _ _ x i (λj=>?_) (by refine Z bU ?_;rw[aL]at l;exact aE l) (by refine Z bU ?_;rw[aL]at h3;exact aE h3) (λj p=>?_) w)⟩))
   ·rewrite[h1 j];rewrite[cO];rewrite[b5];rewrite[bK]
    exact⟨λh=>by rcases h with(h|h)|h;exact .inl h;exact .inr (.inl h);exact .inr (.inr h),λh=>by rcases h with h|h|h;exact .inl (.inl h);exact .inl (.inr h);exact .inr h⟩
   ·rcases o j p with h|h
    ·rcases cO.mp h with h|h
     ·exact .inl h
     ·exact .inr (Z (b5.mp h) aQ)
    ·exact .inr (az _ h)
theorem Hn(H:Hx B)(s:(5,O.fields iP)∈L)(I:(6,O.list (nodes.map cA))∈L)(hs:(sp,O.list (nV y))∈L)(M:nodes.length<=1000)(p:∀i,(aH nodes i).length<=2){rest:bh}{P:cv}:
 ∀ks l m x,l.length+ks.length<=900->(∀k∈ks,k<nodes.length)->ae ((E,.idict (yl l))::L) m->(ks.Pairwise λa b=>a<=b)->(∀k∈ks,∀j∈aH nodes k,j<k/\((∃v,a5 j l=some v)\/j∈ks))->
 (∀x o u,(∀k,(∃v,a5 k l=some v)\/k∈ks->∃v,a5 k o=some v)->ae ((E,.idict (yl o))::L) u->P .next (some (.obj 1 5)::a1::a2::S::a4::some (.loc E)::x::rest) u)->
 dy (au B (d+1) cz).t (λm=>m[sp]?=some (.list (nV y))) (bu B (d+1) tM).ss (nV ks) (some (.obj 1 5)::a1::a2::S::a4::some (.loc E)::x::rest) m P:=by
 intro ks
 induction ks with
 |nil=>exact@λl m x _ _ W _ _ q=>⟨W.mem (az _ hs),q x l m (λk h=>h.resolve_right (λz=>bx z)) W⟩
 |cons k ks ih=>
  intro l m x A C W Q Φ q;rw[bU]at A;refine⟨W.mem (az _ hs),(⟨(W.mem (az _ s)),xN H (W.mem (az _ s)) (W.mem (az _ I)) (C k aQ) M (p k) ⟨lV _,(⟨(W.mem (az _ s)),sM H (W.mem (az _ s)) (W.mem (az _ I)) (C k aQ) M (p k) ?_⟩)⟩⟩)⟩
  have D:∀j∈aH _ k,∃v,a5 j l=some v:=λj n=>by
   refine a_ (Φ k aQ j n) λN c=>?_;rcases c with c|c
   ·exact c
   ·rcases bK.mp c with c|c
    ·lia
    ·have:=(lY.mp Q).1 j c;lia
  refine lP (f:=λj=>(a5 j l).getD .none) trivial _ [] none none (λj n l0 R h=>?_) (by simp;exact aF (p k)) ?_
  ·obtain⟨v,hv⟩:=D j n
   exact(la (W.get 0 rfl) ((eN ib j l).trans (by refine Z hv ?_;rfl)) h)
  ·rewrite[js]
   refine⟨_,cj _ _,bH (p k),by simp;exact jN (p k),?_⟩
   have G:=W.app [O.list ((aH nodes k).map λj=>(a5 j l).getD .none)];refine(nw (G.get 0 rfl) (Z aY<|cN A) ?_);generalize V.tup ([V.str _]++(aH _ k).map λj=>(a5 j l).getD _)=F;refine Z (lm (g:=id) ib k F l) ?_
   have r:∀j:Nat,(∃v,a5 j l=some v)\/j=k->∃v,a5 j (cE k F l)=some v:=λj h=>by
    refine Z (je ..) ?_
    by_cases e:j=k
    ·exact Z (ao e)<|⟨_,rfl⟩
    ·exact Z (ai e)<|h.resolve_right e
   refine ih _ _ _ (aK A (mF k F l)) (λj n=>C j (az _ n)) (G.set 0 rfl _) (lY.mp Q).2 (λi Ψ j n=>?_) λx o u Ω w=>q x _ u (λj h=>Ω j ?_) w
   ·refine a_ (Φ i (az _ Ψ) j n) λN c=>⟨N,?_⟩
    rcases c with c|c
    ·exact .inl (r j (.inl c))
    ·rcases bK.mp c with c|c
     ·exact .inl (r j (.inr c))
     ·exact .inr c
   ·rcases h with h|h
    ·exact .inl (r j (.inl h))
    ·rcases bK.mp h with h|h
     ·exact .inl (r j (.inr h))
     ·exact .inr h
theorem QH(H:Hx B)(W:ae L m)(N:(5,O.fields iP)∈L)(Ω:(6,O.list (nodes.map cA))∈L)(Ψ:nodes.length<=1000)(F:∀i,(aH nodes i).length<=2)(P:n<nodes.length)(I:∀j∈aH nodes n,j<n/\aH nodes j=[])
 (q:∀v m',ae L m'->Q v m'):aP B (d+2) 271 [.obj 1 5,.int n] m Q:=by
 refine bv H 17 rfl rfl<|⟨λl=>Z (cj ..) nofun,(nw (cj _ _) af ?_)⟩;have A:=(W.new (.idict [])).set 0 rfl (.idict (mA [n]));replace A:ae _ ((m++[fb 1]).set _ (O.idict (c_ n _ []))):=A;generalize(m++[fb 1]).set _ _=m1 at A⊢;generalize m.length=b at A⊢;refine⟨af,_,_,rfl,?_⟩;have C:=A.new (.list (nV [n]));replace C:ae _ (m1++[O.list [V.int n]]):=C;generalize m1++[O.list _]=m2 at C⊢;generalize m1.length=st at C⊢;refine(cP (λk J m=>cL λo y x=>wg (J=some _::some _::some _::some _::x::List.replicate 5 _) (ae ((b,.idict (mA o))::(st,.list (nV y))::L) m) (n∈o) (o.length<=3) ((∀k∈o,k=n\/k∈aH nodes n)) (((y=[n]/\o=[n]/\k=10)\/((∀j∈y,j<nodes.length/\aH nodes j=[])/\(∀j∈aH nodes n,j∈o)/\k=y.length/\y.length<=3)))) 10 ⟨[n],[n],none,rfl,(C.perm (List.Perm.swap _ _ _)),b5.mpr rfl,lV _,λk h=>.inl (b5.mp h),.inl (bt rfl rfl rfl)⟩ ?_);rintro k J R ⟨o,y,x,rfl,D,nb,t,bk,u⟩;have g:y.length<=3:=by rcases u with⟨rfl,_⟩|⟨_,_,_,h⟩;exact af;exact h
 refine⟨_,D.get 1 rfl,Z a9<|aF g,z8 (Z a9 ?_)⟩;clear W A C;rcases List.eq_nil_or_concat y with rfl|⟨f,j,e⟩
 ·refine bn rfl ?_
  have p:=D.new (.idict (yl []));replace p:ae _ (R++[fb 1]):=p;refine(b6 _ (p.get 1 rfl) (Z aY<|aE t) ?_);generalize R++[fb 1]=m4 at p⊢;have ek:iV (gY ((mA o).map (·.1)))=nV (dX o):=by refine Z (sy ..)<|Z (A2 ..).symm<|Z eG ?_;rfl
  refine Z ek ?_;have E:=(p.new (.list (nV (dX o)))).perm (List.Perm.swap _ _ _);generalize m4++[O.list _]=m5 at E⊢
  have T:∀k∈dX o,k<nodes.length/\∀j∈aH _ k,j<k/\j∈dX o:=λk h=>by
   rcases bk k (sz.mp h)with rfl|h
   ·exact⟨P,λj w=>⟨(I j w).1,sz.mpr ((u.resolve_left (λh=>mN h.1)).2.1 j w)⟩⟩
   ·exact⟨aK P (I k h).1,λj w=>by rw[(I k h).2]at w;exact bx w⟩
  refine(ad _ (E.get 1 rfl) (Hn H (az _ (az _ (az _ N))) (az _ (az _ (az _ Ω))) aQ Ψ F _ [] m5 _
   (by refine Z H1 ?_;simp;exact aF t) (λk h=>(T k h).1) E ?_ (λk h j w=>⟨((T k h).2 j w).1,.inr ((T k h).2 j w).2⟩) λx dn m6 hd W7=>?_))
  ·have:=List.pairwise_mergeSort (le:=λa b:Nat=>decide (a<=b)) (λa b c h1 F=>by simp at*;exact aC h1 F) (λa b=>by lia) o
   exact this.imp λh=>by simpa using h
  ·refine aI (hd n (.inr (sz.mpr nb))) λv hv=>(la (W7.get 0 rfl) ((eN ib n dn).trans (by refine Z hv ?_;rfl)) (q _ _ (W7.sub ?_)))
   exact(((dB _ _).trans (dB _ _)).trans (dB _ _)).trans (dB _ _)
 ·rw[List.concat_eq_append]at e
  subst e;refine bD (by refine Z aL ?_;simp) ?_
  have r:R[st]?=some _:=Z (D.get 1 rfl)<|Z oa.symm rfl;refine⟨(D.mem (az _ (az _ N))),r,_,_,r,by refine Z a9 ?_;rw[aL]at g;exact cN g,?_⟩
  have p:=D.set 1 rfl (.list (nV f));generalize R.set st _=m4 at p⊢;rw[aL]at g;have jn:j<nodes.length:=by
   rcases u with⟨h,_⟩|⟨h,_⟩
   ·have:f=[]/\j=n:=by have:=List.append_inj' (show f++[j]=[]++[n]from h) rfl;exact⟨this.1,gH this.2|>.1⟩
    exact Z this.2 P
   ·exact(h j (bq _ (b5.mpr rfl))).1
  refine sM H (p.mem (az _ (az _ N))) (p.mem (az _ (az _ Ω))) jn Ψ (F j) ?_;have Φ:=F j;refine Hm _ o _ m4 x (aK t Φ) (aK g Φ) p λS M x' m5 b1 b2 s b4 E=>⟨M.length,?_,S,M,x',rfl,E,(b1 n).mpr (.inl nb),?_,λk h=>?_,.inr (dm (λi G=>?_) (λi G=>?_) rfl ?_)⟩
  ·rcases u with⟨_,_,rfl⟩|⟨h,_,rfl,_⟩
   ·exact dL g Φ s
   ·rw[(h j (bq _ (b5.mpr rfl))).2]at s
    refine Z aL ?_;simp at s;exact aE s
  ·clear H N Ω Ψ F q nb D r p jn E;rcases u with⟨_,rfl,_⟩|⟨h,_,_,_⟩
   ·exact aK Φ b2
   ·rw[(h j (bq _ (b5.mpr rfl))).2]at b2
    exact aC b2 t
  ·rcases(b1 k).mp h with h|h
   ·exact bk k h
   ·rcases u with⟨hs,_⟩|⟨hs,_⟩
    ·have:j=n:=by have:=List.append_inj' (show f++[j]=[]++[n]from hs) rfl;exact gH this.2|>.1
     rw[this]at h;exact .inr h
    ·rw[(hs j (bq _ (b5.mpr rfl))).2]at h;exact bx h
  ·rcases u with⟨hs,_⟩|⟨hs,_⟩
   ·have z:=List.append_inj' (show f++[j]=[]++[n]from hs) rfl
    rcases b4 i G with h|h
    ·rw[z.1]at h;exact bx h
    ·rw[(gH z.2).1]at h
     exact⟨aK P (I i h).1,(I i h).2⟩
   ·rcases b4 i G with h|h
    ·exact hs i (jt _ h)
    ·rw[(hs j (bq _ (b5.mpr rfl))).2]at h;exact bx h
  ·rcases u with⟨hs,_⟩|⟨_,hs,_⟩
   ·have:j=n:=by have:=List.append_inj' (show f++[j]=[]++[n]from hs) rfl;exact gH this.2|>.1
    exact(b1 i).mpr (.inr (Z this G))
   ·exact(b1 i).mpr (.inl (hs i G))
  ·rcases u with⟨hs,_⟩|⟨hs,_,_,h3⟩
   ·have:f=[]:=(List.append_inj' (show f++[j]=[]++[n]from hs) rfl).1
    rw[this]at s;simp at s;exact aK Φ s
   ·rw[(hs j (bq _ (b5.mpr rfl))).2]at s
    simp at s;exact aK g s
def xn:Str:=⟨#[115,97,109,101]⟩
inductive kQ(h:HS)(L:List (Nat×O)):Prop
 |mk(c4:(4,O.fields (ky h.wl h.backs h.made))∈L)(c5:(5,O.fields iP)∈L)(c6:(6,O.list (h.s.nodes.map cA))∈L)(c8:(8,O.list (nV (h.s.nodes.map λp=>1+p.2.length)))∈L)(c14:(14,O.list (h.s.ed.map hG))∈L)
theorem kQ.of h R:kQ h (ah h R):=⟨bN (i:=0) rfl,bN (i:=1) rfl,bN (i:=2) rfl,bN (i:=4) rfl,bN (i:=10) rfl⟩
theorem kQ.mono(r:kQ h L)(s:∀x∈L,x∈L'):kQ h L':=⟨s _ r.1,s _ r.2,s _ r.3,s _ r.4,s _ r.5⟩
theorem Hf(H:Hx B)(W:ae L m)(r:kQ h L)(e:h.s.n<=6)(g:Gr h.s.n (bf h.s.nodes) (aH h.s.nodes))(a:n<h.s.n)(q:∀v c,ae L c->Q v c):aP B (d+3) 116 [.obj 0 4,.int n] m Q:=by
 refine bv H 1 rfl rfl<|⟨W.mem r.1,W.mem r.2,(bv H 18 rfl rfl ?_)⟩
 have f:(nV (h.s.nodes.map λp=>1+p.2.length))[n]?=some (.int (1+(aH h.s.nodes n).length)):=by refine Z eX ?_;refine Z eX ?_;refine Z (bJ a) ?_;refine Z (p_ a) ?_;rfl
 refine⟨W.mem r.2,cZ (W.mem r.4) (Z a9<|bH e) (cU f) ((bn (by have:=g.5 n;simp;lia) ?_))⟩
 refine⟨W.mem r.1,W.mem r.2,(QH H W r.2 r.3 (aF e) g.5 a (λj b=>⟨dZ (g.4 n a j b) (Nat.not_lt.mp λz=>?_),g.2 j (g.4 n a j b)⟩) q)⟩;rw[g.2 n z]at b;exact bx b
theorem MU(H:Hx B)(W:ae ((e,.list [])::L) m)(r:kQ h L)(o:h.s.n<=6)(g:Gr h.s.n (bf h.s.nodes) (aH h.s.nodes))(j:a<h.s.n)(q:∀v f,ae L f->Q (.tup [.str xn,v]) f):aP B (d+4) 126 [.obj 0 4,.int a,.loc e] m Q:=by refine bv H 3 rfl rfl<|⟨_,W.get 0 rfl,af,?_⟩;have c:=W.new (.list []);generalize m.length=p at c⊢;refine(cP (λk J m=>J=[some _,some _,some _,some _,none,none,none,none,none]/\ae _ m) 0 ⟨rfl,c⟩ ?_);rintro k J s ⟨rfl,b⟩;refine⟨_,b.get 0 rfl,af,(bn rfl (⟨_,b.get 0 rfl,af,nC (bn rfl ((Hf H b (r.mono λx l=>az _ (az _ l)) o g j λv n i=>⟨af,q v n (i.sub ((dB _ _).trans (dB _ _)))⟩)))⟩))⟩
theorem Kt(H:Hx B)(W:ae L m)(r:kQ h L)(g:h.s.ed.length<=900)(f:h.s.ed[i]?=some (a,b,some c))(q:Q (.tup [.str uk,.str (fW c)]) m):aP B (d+1) 121 [.obj 0 4,.int i] m Q:=by refine bv H 2 rfl rfl<|⟨W.mem r.1,cZ (W.mem r.5) (bH g) (cU (jR f)) ?_⟩;exact⟨_,af,rfl,(⟨_,af,rfl,fM (by decide+kernel) (by decide+kernel) (bD rfl (⟨_,af,rfl,af,q⟩))⟩)⟩
def Jl:Str:=⟨#[106,111,105,110]⟩
def Jh:Str:=⟨#[116,117,114,110]⟩
def Jg:Str:=⟨#[117,110,100,101,114]⟩
mutual
inductive jj : Nat → V → List Str → Prop
  | same (n : Nat) (v : V) : jj n (.tup [.str xn, v]) []
  | told (n : Nat) (l : Str) : jj n (.tup [.str uk, .str l]) [l]
  | join {n : Nat} {p q : V} {l r : List Str} (x : jj n p l) (y : jj n q r) : jj (n + 1) (.tup [.str Jl, p, q]) (l ++ r)
  | turn {n : Nat} {p : V} {l : List Str} (x : jj n p l) : jj (n + 1) (.tup [.str Jh, p]) l
  | under {n : Nat} {o : Str} {ps : List V} {l : List Str} (x : mY n ps l) : jj (n + 1) (.tup [.str Jg, .str o, .tup ps]) l
inductive mY : Nat → List V → List Str → Prop
  | nil (n : Nat) : mY n [] []
  | cons {n : Nat} {p : V} {ps : List V} {l r : List Str} (x : jj n p l) (y : mY n ps r) : mY n (p :: ps) (l ++ r)
end
def Fs:Y:=(dR (.expr (.meth 3 145 aJ .nil)) (.iff rI kb .nil) (.ret rH))
def B_(K:Frag):Bool:=vu K fe dN 171 3 4 Fs
inductive Hz(B:bB):Prop
 |mk(toHx:Hx B)(stp:B_ B.K=true)
inductive kP(h:HS):Prop
 |mk(k:ej h [])(w:h.wait=[])(m:h.made=h.s.n)(op:∀i,i<h.s.n->ef (bf h.s.nodes i))
theorem AY(H:Hz B)(K:kP h)(W:ae (a8 s (ah h R)) m)
 (q:∀s' c,s'.z=s.z->s'.mark=some (eM h)->(s.mark=some (eM h)/\s'=s\/s.mark≠some (eM h)/\fK h.s s')->ae (a8 s' (ah h R)) c->∃x:Nat,cF s' a b=some x/\Q (.int x) c):aP B (d+5) 171 [.obj 3 s.z,.int a,.int b] m Q:=by
 refine EF H.1.1 H.2 rfl ?_;have g:∀s' c,s'.z=s.z->s'.mark=some _->(s.mark=some _/\s'=s\/s.mark≠some _/\fK _ s')->ae _ c->
  (bu B (d+4) (cT (.iff rI kb .nil) (.ret rH))).ss
   [some (.obj 3 _),some (.int a),some (.int b),none] c (dY Q):=λs' c hz i l f=>by
  refine ac (q s' c hz i l f) λx o n=>?_;have w0:c[s.z]?=some _:=Z hz.symm<|f.get 0 rfl;have j:bO (pK (a,b)) (iL s'.cd)=some (nI x):=by refine Z kM<|Z (show a5 _ _=some x from o) ?_;rfl
  exact⟨af,w0,tY (k:=pK _) (f.get 1 rfl) rfl (Z j (bn rfl ⟨w0,af,nB (k:=pK _) (f.get 1 rfl) rfl j n⟩))⟩
 exact⟨W.get 0 rfl,xv H.1 K.1 K.2 K.3 K.4 W (λe c f=>g s c rfl e (.inl ⟨e,rfl⟩) f) λp s' c hz i cs f=>g s' c hz i (.inr ⟨p,cs⟩) f⟩
def oW(h:HS)(l:Str):Prop:=cL λa b c=>(a,b,some c)∈h.s.ed/\l=fW c
inductive Ri(h:HS)(n x:Nat)(v:V)(ls:List Str):Prop
 |mk(p:jj n v ls)(len:ls.length=x)(lab:∀l∈ls,oW h l)
abbrev qL(B:bB)(h:HS)(s:SH)(D n a b x:Nat):Prop:=∀(R:List (Nat×O))(m:av)(Q:aS),ae (a8 s (ah h R)) m->(∀v ls m',Ri h n x v ls->ae (a8 s (ah h R)) m'->Q v m')->aP B D 176 [.obj 3 s.z,.int a,.int b] m Q
theorem Kv{P:cD}(k:(pl,O.part)∈R):∀a y acc m l0 l1 l2,cI (cF s) a=some y->(∀q∈a,∀x,cF s q.1 q.2=some x->qL B h s D n q.1 q.2 x)->acc.length+a.length<=1000->ae (a8 s (ah h R)) m->
 (∀d f i,mY n d f->f.length=y->d.length=a.length->(∀l∈f,oW h l)->ae (a8 s (ah h R)) i->P (acc++d) i)->
 cR (au B D (.tup et)).t (λm=>m[pl]?=some .part) (λ_ m Q=>Q true m) (au B D (.meth 3 176 aW et)).e (a.map pV) acc [l0,l1,l2,some (.obj 3 s.z)] m P:=by
 intro a
 induction a with
 |nil=>exact@λy acc m _ _ _ b _ _ W q=>⟨W.mem (Bg (eO k)),by replace b:=aG b;subst b;have:=q [] [] m (.nil n) rfl rfl (λ_ z=>bx z) W;rwa [bZ]at this⟩
 |cons p a C=>
  intro y acc m l0 l1 l2 b j c W q;rw[bU]at c;obtain⟨x,z,u,w,b⟩:=mU b
  ·subst b
   refine(bt (W.mem (Bg (eO k))) rfl (⟨W.get 0 rfl,j p aQ x u R m _ W λv f m1 O o=>⟨cN c,(C z _ m1 _ _ _ w (λg A=>j g (az _ A)) (Z aL<|aE c) o λd E i F G H I r=>Z cq<|q (v::d) _ i (.cons O.1 F) (Z bM<|Z O.2<|Z G rfl) (by refine Z bU<|Z H ?_;rfl) (λl c=>?_) r)⟩⟩))
   rcases cO.mp c with h|h
   ·exact O.3 l h
   ·exact I l h
theorem BO(H:Hz B)(K:kP h)(C:fK h.s s)(hk:s.mark=some (eM h)){n a b x:Nat}(r:cF s a b=some x)(sub:∀u w E,cF s u w=some E->2*E+eP u<2*x+eP a->qL B h s (d+7) n u w E):qL B h s (d+8) (n+1) a b x:=by
 intro R m Q W q;have Ω:=C.4;refine a_ (C.1.4 a b x r) λA hb=>?_;have hr:=K.1.hr K.4;refine Qv H.1.1 H.1.4 rfl<|⟨W.get 0 rfl,AY H K W λs' m1 hz _ hc j=>a_ (hc.resolve_right λz=>z.1 hk) λ_ N=>?_⟩;subst N;refine(ad x r (bn (by have:=C.1.bound Ω r;simp;lia) ?_))
 refine(nC ?_)
 by_cases e:a=b
 ·subst e
  have x0:x=0:=by have:=C.1.5 a A;rw[r]at this;exact aG this
  refine bD (z5 rfl) ⟨j.get 0 rfl,af,(MU H.1 (j.new _) ((kQ.of h R).mono λy S=>az _ (az _ (az _ S))) Ω K.1.1.4 A λv T o=>q _ [] T ⟨.same _ v,by refine Z x0 ?_;rfl,λ_ z=>bx z⟩ o)⟩
 refine bn (by simp;exact jM e) ?_
 refine iH (C.1.9 a b x e r) λx1 v hv f=>⟨j.get 0 rfl,af,nB (k:=pK _) (j.get 2 rfl) rfl (by refine Z GK<|Z (show a5 _ _=some v from hv) ?_;rfl) ?_⟩
 match v,f with
 | .over i,f=>refine fu (C.1.exact_over r f) λy z c1 c2 M y1 z1=>?_;clear r;subst M;exact⟨_,af,rfl,fM (by decide+kernel) (by decide+kernel) (bD rfl (⟨j.get 0 rfl,_,af,rfl,sub a i y c1 (aE z1) R m1 _ j λv1 l1 T I o=>⟨o.get 0 rfl,_,af,rfl,sub i b z c2 (by have:=Ed i;lia) R T _ o λv2 l2 m3 Φ L=>⟨af,(q _ _ m3 ⟨.join I.1 Φ.1,Z bM<|Z I.2<|Z Φ.2 rfl,λl P=>(cO.mp P).elim (I.3 l) (Φ.3 l)⟩ L)⟩⟩⟩))⟩
 | .edge i Ψ,⟨f1,f2⟩=>
  clear Ω hk W hz hc x1 hv;subst f1;refine⟨_,af,rfl,fM (by decide+kernel) (by decide+kernel) (bn rfl (⟨_,af,rfl,fM (by decide+kernel) (by decide+kernel) (bD rfl ?_)⟩))⟩
  have G:cL λu w c=>h.s.ed[i]?=some (u,w,some c):=aI (D7 f2) λc q=>⟨_,_,c,q⟩;refine yx G λu w c G=>?_;have lab:∀l∈[fW c],oW h l:=λl P=>⟨u,w,c,bN G,b5.mp P⟩;refine⟨j.get 0 rfl,_,af,rfl,(Kt H.1 j ((kQ.of h R).mono λy S=>az _ (az _ (az _ S))) (aF K.1.7) G (⟨_,af,rfl,?_⟩))⟩
  cases Ψ with
  |true=>exact bD rfl ⟨af,q _ _ m1 ⟨.turn (.told _ _),rfl,lab⟩ j⟩
  |false=>exact bn rfl (q _ _ m1 ⟨.told _ _,rfl,lab⟩ j)
 | .like,f=>
  have t:=C.1.exact_like e r f;refine⟨_,af,rfl,fM (by decide+kernel) (by decide+kernel) (bn rfl (⟨_,af,rfl,fM (by decide+kernel) (by decide+kernel) (bn rfl (vb (J:=some _::some _::_) H.1 hr j (j.get 0 rfl) A rfl rfl (vb (J:=some _::_::some _::_) H.1 hr j (j.get 0 rfl) hb rfl rfl ((fX _ _ rfl (Z a9<|Z a9 f.2.1) ?_)))))⟩))⟩
  have o:=(j.new _).perm (uh (C:=[(m1.length,O.part)]));refine(ad _ rfl (xI H.1 hr o (o.get 0 rfl) A rfl rfl ((ad _ rfl (Z (tO ..) (Kv (n:=n) aQ _ x [] _ none none none t.1 (λp hp E D=>?_) (by have:=K.1.1.4.5 a;simp;exact xB) o λps ls m3 p1 p2 p3 p4 L=>?_))))))
  ·refine iI (sI K.1.1.4 A hb hp) λl1 _ _ _=>ac (qz t.1 p hp) λx2 F α=>?_
   rw[D]at F;replace F:=aG F;subst F;exact sub _ _ E D (by
    have d1:eP _=0:=ao l1;have d2:eP a=1:=ai ux
    lia)
  ·refine⟨by refine Z p3<|Z eW ?_;have:=K.1.1.4.5 a;exact xB,?_⟩
   exact q _ ls _ ⟨.under p1,p2,p4⟩ (((L.perm (uh (C:=[(m1.length,O.part)])).symm).sub (dB _ _)).app _)
theorem Kw(H:Hz B)(K:kP h)(C:fK h.s s)(j:s.mark=some (eM h)) d:∀k a b x,cF s a b=some x->rk h.s.n (cF s) a x<=k->qL B h s (d+k+8) (k+1) a b x:=by
 intro k
 induction k with
 |zero=>
  exact@λa b x i m=>BO H K C j i λe f g c l=>by
   have:=Bu (b:=b) (C.1.4 e f g c).1 (C.1.4 e f g c).2 c l
   lia
 |succ k n=>
  intro a b x i m
  have:=BO H K C j i λe f g c l=>by have:=Bu (b:=b) (C.1.4 e f g c).1 (C.1.4 e f g c).2 c l;exact n e f g c (aK m this)
  exact this
def gj(l:List Str):List V:=l.map .str
abbrev vY(B:bB)(D:Nat)(v:V)(ls:List Str):Prop:=∀(L:List (Nat×O))(m:av)(Q:aS),ae L m->(∀l m',ae ((l,.list (gj ls))::L) m'->Q (.loc l) m')->aP B D 612 [v] m Q
abbrev pB:Y:=(a6 (.expr (.bm 2 ax (aM (.call 612 fL)))))
theorem rJ{l:List V}(d:∀s,x=.str s->True)(b:x.plain 8=true)(c:V.plains 8 l=true)(q:P (.bool (l.any λy=>V.eqb y x)) m):dz .In x (.tup l) m P:=by
 have h:lI false x (.tup l) m P:=⟨b,c,(Z (Bool.false_xor (l.any λy=>V.eqb y x)) q:P (.bool (false^^l.any λy=>V.eqb y x)) m)⟩
 cases x<;>exact h
theorem wQ(H:Hz B)(sub:∀v b,jj n v b->b.length<=20000->vY B D v b){rest:bh}{P:cv}(c:∀m,ae L m->src m):∀d b acc m x,mY n d b->acc.length+b.length<=20000->ae ((f,.list (gj acc))::L) m->
 (∀x g,ae ((f,.list (gj (acc++b)))::L) g->P .next (a0::some (.loc f)::x::rest) g)->
 dy (au B D aO).t src (bu B D pB).ss d (a0::some (.loc f)::x::rest) m P:=by
 intro d
 induction d with
 |nil=>
  intro b acc m x i _ W q
  cases i
  exact⟨c m (W.sub (dB _ _)),q x m (Z (bZ ..) W)⟩
 |cons p d s=>
  intro b acc m x i e W q
  cases i with
  |@cons _ _ _ l r k o=>rw[bM]at e;refine⟨c m (W.sub (dB _ _)),(⟨W.get 0 rfl,sub p l k (aE e) _ m _ W λt m1 h=>(hA _ _ (h.get 1 rfl) (h.get 0 rfl) (Z aY<|Z aY<|aE e) (Z bz.symm ?_))⟩)⟩;have j:=(h.set 1 rfl (.list (gj (acc++l)))).sub (dB _ _);refine s r _ _ _ o (Z bM<|aE e) j λx g w=>q x g (Z cq.symm w)
theorem Az(H:Hz B){v:V}:vY B (d+1) (.tup [.str xn,v]) []:=by refine λL m Q W q=>bv H.1 49 rfl rfl ?_;refine⟨_,af,rfl,af,rJ (λ_ _=>trivial) (by decide+kernel) (by decide+kernel) (bD rfl (⟨_,af,rfl,fM (by decide+kernel) (by decide+kernel) (bn rfl ⟨af,q _ _ (W.new _)⟩)⟩))⟩
theorem Ay(H:Hz B){l:Str}(c:[l].length<=20000):vY B (d+1) (.tup [.str uk,.str l]) [l]:=by refine λL m Q W q=>bv H.1 49 rfl rfl ?_;refine⟨_,af,rfl,af,rJ (λ_ _=>trivial) (by decide+kernel) (by decide+kernel) (bD rfl (⟨_,af,rfl,fM (by decide+kernel) (by decide+kernel) (bD rfl ⟨_,af,rfl,af,q _ _ (W.new _)⟩)⟩))⟩
theorem Hg(H:Hz B) d:∀n v e,jj n v e->e.length<=20000->vY B (d+n+1) v e:=by
 intro n
 induction n with
 |zero=>
  refine λv e g c L m Q W q=>?_
  cases g with
  |same _ v=>exact Az H L m Q W q
  |told _ l=>exact Ay H c L m Q W q
 |succ n h=>
  refine λv e g c L m Q W q=>?_
  cases g with
  |same _ v=>exact Az H L m Q W q
  |told _ l=>exact Ay H c L m Q W q
  |@join _ p r l1 l2 x y=>
   refine bv H.1 49 rfl rfl ?_;refine⟨_,af,rfl,af,rJ (λ_ _=>trivial) (by decide+kernel) (by decide+kernel) (bn rfl ⟨af,(⟨_,af,rfl,fM (by decide+kernel) (by decide+kernel) (bn rfl ⟨by decide,by simp,af,?_⟩)⟩)⟩)⟩
   have:=mY.cons x (.cons y (.nil n));rw[bZ]at this;refine wQ H h (λ_ _=>trivial) _ _ [] _ _ this (by simpa using c) (W.new _) λx f w=>(q _ f w)
  |@turn _ p l x=>
   refine bv H.1 49 rfl rfl ?_;refine⟨_,af,rfl,af,rJ (λ_ _=>trivial) (by decide+kernel) (by decide+kernel) (bn rfl ⟨af,(⟨_,af,rfl,fM (by decide+kernel) (by decide+kernel) (bn rfl ⟨by decide,by simp,af,?_⟩)⟩)⟩)⟩
   have:=mY.cons x (.nil n);rw[bZ]at this;refine wQ H h (λ_ _=>trivial) [p] _ [] _ _ this (by simpa using c) (W.new _) λx f w=>(q _ f w)
  |@under _ o i l x=>refine bv H.1 49 rfl rfl ?_;refine⟨_,af,rfl,af,rJ (λ_ _=>trivial) (by decide+kernel) (by decide+kernel) (bn rfl ⟨af,(⟨_,af,rfl,fM (by decide+kernel) (by decide+kernel) (bD rfl ⟨_,af,rfl,(wQ H h (λ_ _=>trivial) i _ [] _ _ x (by simpa using c) (W.new _) λx f w=>(q _ f w))⟩)⟩)⟩)⟩
def gW(at_:Nat)(gone:V):List (Str×V):=[(⟨#[114,111,119]⟩,.loc 3),(⟨#[97,116]⟩,.int at_),(⟨#[103,111,110,101]⟩,gone)]
def bP(nodes:List (Str×List Nat))(i:Nat):V:=.tup (.str (bf nodes i)::(aH nodes i).map λk=>.tup [.str (bf nodes k)])
theorem NS(x:Int){n:Nat}(h:0<n):∃v:Nat,x.fmod n=v/\v<n:=have h1:=Int.fmod_nonneg_of_pos x (show(0:Int)<n by lia);have a:=Int.fmod_lt_of_pos x (show(0:Int)<n by lia);(ad _ J0 J9)
theorem tR{l:List (Str×V)}(h:m[n]?=some (.sdict l))(a:bO k l=some x)(q:P x m):jQ (.loc n) (.str k) m P:=Gu h a q
theorem zY{l:List (Str×V)}{R:bY}(h:m[n]?=some (.sdict l))(a:l.length<=10000)(q:R (m.set n (.sdict (c_ k v l)))):hZ (.loc n) (.str k) v m R:=tT h a q
theorem GI:bO pD (gW at_ gone)=some (.int at_):=rfl
theorem Ad:bO rO (gW at_ gone)=some (.loc 3):=rfl
theorem GF{a:Nat}:c_ pD (.int (a+1)) (gW a gone)=gW (a+1) gone:=rfl
theorem Ov(H:Hx B) i(W:ae L m)(g:L[i]?=some (1,.sdict (gW at_ gone)))(h:(3,.list (iV row))∈L.set i (1,.sdict (gW (at_+1) gone)))(n:at_<=10000)(hm:0<many)(k:row.length<=100)
 (q:∀(v:Nat) j,v<many->ae (L.set i (1,.sdict (gW (at_+1) gone))) j->Q (.int v) j):aP B (d+1) 590 [.loc 1,.int many] m Q:=by
 refine bv H 45 rfl rfl<|(tR (W.get i g) GI ((zY (W.get i g) af ?_)));have b:=W.set i g (.sdict (gW (at_+1) gone));refine Z GF ?_;generalize m.set 1 _=m1 at b⊢;have f:(L.set i _)[i]?=some (1,.sdict (gW (at_+1) gone)):=Z (kR (bV.mp g).1) rfl;have c:∀x:Int,yj (.int x) (.int _) m1 Q:=λx=>ac (NS x hm) λv h1 l=>⟨by lia,(Z h1 (q v m1 l b))⟩
 refine(tR (b.get i f) Ad ⟨_,b.mem h,bH k,z0 ?_⟩)
 by_cases e:at_<row.length
 ·refine bD (by refine Z aY ?_;simp;exact e) (tR (b.get i f) Ad (cZ (x:=.int _) (b.mem h) (bH k) (cU (jR (bJ e))) (c _)))
 ·refine bn (by refine Z aY ?_;simp;exact(oS e)) ?_
  exact⟨af,by lia,JM,by lia,af,by lia,by lia,by decide,by decide,c _⟩
theorem qc(H:Hx B){p n:Nat}(W:ae L m)(x:(p,O.list (nodes.map cA))∈L)(f:nodes.length<=1000)(g:Gr nodes.length (bf nodes) (aH nodes))(w:n<nodes.length)(q:∀a,ae L a->Q (bP nodes n) a):aP B (d+2) 595 [.loc p,.int n] m Q:=by
 have step:∀{D i:Nat}{m:av}{Q:aS} W b (c:∀ks m l0 l1 P,(∀k∈ks,k∈aH _ i)->ae L m->∀acc,acc.length+ks.length<=100->(∀a,ae L a->P (acc++ks.map λk=>.tup [.str (bf nodes k)]) a)->cR _ (λ_=>True) (λ_ m Q=>Q _ m) _ (nV ks) acc [l0,l1,none,some _] m P)
  (q:∀a,ae L a->Q (bP _ i) a),aP B (D+1) _ [.loc p,.int i] m Q:=λ{D i m Q} W b c q=>by
  refine bv H 46 rfl rfl<|(cZ (W.mem x) (bH f) (cU (uQ b)) ⟨_,Z bU<|Z a9<|cV (g.5 i),cU rfl,lV _,((cZ (W.mem x) (bH f) (cU (uQ b)) ⟨by decide,Z bU rY,Z bU<|Z a9<|cV (g.5 i),(c _ m none none _ (λk h=>h) W [] (by simp;exact aF (g.5 i)) λa l=>?_)⟩))⟩)
  refine⟨_,cj _ _,bH (g.5 i),by simp;exact jN (g.5 i),q _ (l.app _)⟩
 have s:∀{D i:Nat}{m:av}{Q:aS} W h3 (q:∀a,ae L a->Q (.tup [.str _]) a),aP B (D+1) _ [.loc p,.int i] m Q:=λ{D i m Q} W h3 q=>
  step W (dZ h3 g.1) (λks m l0 l1 P u W acc _ o=>by
   have:ks=[]:=List.eq_nil_iff_forall_not_mem.mpr λk v=>by have:=u k v;rw[g.2 i h3]at this;exact bx this
   subst this;refine⟨trivial,?_⟩;simpa using(o m W)) λa l=>by
   unfold bP;exact Z (g.2 i h3)<|(q a l)
 have r:∀{D i:Nat} b,∀ks m l0 l1 P,(∀k∈ks,k∈aH _ i)->ae L m->∀acc,acc.length+ks.length<=100->(∀a,ae L a->P (acc++ks.map λk=>.tup [.str (bf nodes k)]) a)->
  cR (au B (D+1) ax).t (λ_=>True) (λ_ m Q=>Q true m) (au B (D+1) (.call _ (aZ aW ax))).e (nV ks) acc [l0,l1,none,some _] m P:=λ{D i} b ks=>by
  induction ks with
  |nil=>intro m l0 l1 P _ W acc _ o;exact⟨trivial,by simpa using(o m W)⟩
  |cons k ks A=>intro m l0 l1 P u W acc f o;rw[bU]at f;exact⟨trivial,s W (g.4 i b k (u k aQ)) λm1 y=>⟨cN f,(A m1 _ _ P (λj z=>u j (az _ z)) y _ (Z aL<|aE f) λa l=>Z cq<|o a l)⟩⟩
 exact step W w (r w) q
def g5(p:V×V):V:=.tup [p.1,p.2]
def iJ(sides:List (V×V))(t:V):List V:=(sides.filter λp=>V.eqb p.1 t).map (·.2)
def nP(o:Str)(ks:List V)(r:V->List V)(i:Nat):List V:=(r (ks[i]?.getD .none)).map λlate=>.tup (.str o::ks.set i late)
abbrev uB:Y:=(a6 (.expr (.bm 2 aO (aM (.comp [none,none,some 3,some 0] ax (.call 605 (aZ (.sub aJ aW) ax)) .nil wv)))))
abbrev tv(B:bB)(sides:List (V×V))(p D:Nat)(t:V)(res:List V):Prop:=∀(L:List (Nat×O))(m:av)(Q:aS),ae L m->(p,O.list (sides.map g5))∈L->(∀l m',ae ((l,.list res)::L) m'->Q (.loc l) m')->aP B D 605 [t,.loc p] m Q
section
variable{sides:List (V×V)}
theorem Ox{t:V}{R:cD}(c:src m)(k:∀n,t≠.loc n)(j:t.plain 8=true):∀l acc l0 l1 l2,(∀q∈l,q.1.plain 8=true/\∀n,q.1≠.loc n)->acc.length+l.length<=1000->R (acc++iJ l t) m->
 cR (au B D (.tup et)).t src (au B D (.cmp .Eq ax aW)).b (au B D aO).e (l.map g5) acc [l0,l1,l2,some t] m R:=by
 intro l
 induction l with
 |nil=>exact@λacc _ _ _ _ _ q=>⟨c,by simpa[iJ]using q⟩
 |cons a l i=>
  intro acc l0 l1 l2 f d q;rw[bU]at d;refine(bt c rfl (wD (f a aQ).2 (f a aQ).1 j ?_));unfold iJ at q;rw[List.filter_cons]at q
  cases e:V.eqb _ t with
  |true=>rw[e]at q;exact bD rfl ⟨cN d,i _ _ _ _ (λg h=>f g (az _ h)) (Z aL<|aE d) (Z cq q)⟩
  |false=>rw[e]at q;exact bn rfl (i _ _ _ _ (λg h=>f g (az _ h)) (aE d) q)
theorem Mx{ks:List V}{R:cD}(b:src m)(f:i<ks.length)(d:ks.length<=2):∀l acc l0 l1,acc.length+l.length<=1000->R (acc++l.map λc=>.tup (.str o::ks.set i c)) m->
 cR (au B D ax).t src (λ_ m Q=>Q true m) (au B D wv).e l acc [l0,l1,some (.int (i+1)),some (.tup (.str o::ks))] m R:=λl acc l0 l1 g q=>Z (List.map_id l).symm<|lP b l _ l0 l1 (λa _ _ P q=>by
 refine⟨by lia,by refine Z bU ?_;lia,cV d,lV _,by simp;exact pP,by lia,by refine Z bU ?_;lia,cV d,by simp;exact J_,?_⟩
 have e:(V.str o::ks).take ((i:Int)+1).toNat++[a]++(V.str o::ks).drop ((i:Int)+1+1).toNat=.str o::ks.set i a:=by
  congr 1
  refine Z cq<|Z List.set_eq_take_append_cons_drop<|Z (ao f) ?_;rfl
 exact Z e q) (aF g) q
theorem G_(H:Hx B){ks:List V}(n:ks.length<=2)(sub:∀k∈ks,tv B sides p D k (r k))(s:∀k,(r k).length<=100){rest:bh}{P:cv}(z:(p,O.list (sides.map g5))∈L):∀(a:List Nat) acc m x,(∀i∈a,i<ks.length)->acc.length+100*a.length<=1000->ae ((f,.list acc)::L) m->
 (∀x d,ae ((f,.list (acc++a.flatMap (nP o ks r)))::L) d->P .next (some (.tup (.str o::ks))::some (.loc p)::some (.loc f)::x::rest) d)->
 dy (au B D aW).t (λ_=>True) (bu B D uB).ss (a.map λi:Nat=>.int (i+1)) (some (.tup (.str o::ks))::some (.loc p)::some (.loc f)::x::rest) m P:=by
 intro a
 induction a with
 |nil=>exact@λacc m x _ _ W q=>⟨trivial,q x m (by simpa using W)⟩
 |cons i a A=>
  intro acc m x l h W q;rw[bU]at h;have c:=l i aQ;refine⟨trivial,W.get 0 rfl,((⟨ks[i],cV n,?_,?_⟩))⟩
  ·exact cU ((bJ c))
  refine(sub _ (f_ c) _ m _ W (az _ z) λt m1 e=>(ad _ (e.get 0 rfl) (Mx (e.get 0 rfl) c n _ [] none none (by have:=s ks[i];simp;lia) ?_)))
  rewrite[js];have u:(nP o ks r i).length<=100:=Z aY<|s _;refine Z ((by unfold nP;refine Z (bJ c) ?_;rfl:nP o ks r i=(r _).map λlate=>.tup (.str o::ks.set i late))).symm ?_
  exact have g:=e.new _;(hA _ _ (g.get 2 rfl) (g.get 0 rfl) (aK h u) (have v:=(g.set 2 rfl _).sub ((dB _ _).trans (dB _ _));A _ _ _ (λj y=>l j (az _ y)) (Z bM<|aK h u) v λx d w=>q x d<|Z cq.symm w))
theorem Aq(H:Hx B)(hs:∀q∈sides,q.1.plain 8=true/\∀n,q.1≠.loc n)(d:sides.length<=100){o:Str}{ks:List V}(c:ks.length<=2)(h:(V.tup (.str o::ks)).plain 8=true)(sub:∀k∈ks,tv B sides p D k (r k))(g:∀k,(r k).length<=100):
 tv B sides p (D+1) (.tup (.str o::ks)) (iJ sides (.tup (.str o::ks))++(List.range ks.length).flatMap (nP o ks r)):=by
 refine λL m Q W a q=>bv H 48 rfl rfl ?_;have dl:(iJ _ (.tup (.str o::ks))).length<=100:=Z aY<|aC (List.length_filter_le _ _) d;refine(ad _ (W.mem a) (Ox (W.mem a) (λn=>by simp) h _ [] none none none hs (by simp;exact aF d) ?_))
 rewrite[js];have b:=W.new (.list (iJ sides (.tup (.str o::ks))));generalize m++[O.list _]=m1 at b⊢;exact⟨cV c,af,Z bU BF,(Z (show eZ 1 1 (((V.str o::ks).length:Int)-1).toNat=(List.range _).map λi:Nat=>.int (i+1)from Z xz<|j0 λi _=>Z (show(1:Int)+i*1=i+1 from by lia) rfl)<|G_ H c sub g a _ _ m1 _ (λi e=>gG.mp e) (by refine Z List.length_range ?_;lia) b λx f w=>(q _ f w))⟩
end
theorem V.plain_mono2:(∀(x:V) n,x.plain n=true->x.plain (n+1)=true)/\∀l n,V.plains n l=true->V.plains (n+1) l=true:=
 V.ind (λ_ _=>rfl) (λ_ _ p=>aR p) (λ_ _ _=>rfl) (λ_ _ p=>p) (λl a n p=>by
  cases n with
  |zero=>exact aR p
  |succ n=>exact a n p) (λ_ _ p=>aR p) (λ_ _ _ p=>aR p) (λ_ _=>rfl) λx l c b n p=>bW.mpr ⟨c n (cC p).1,b n (cC p).2⟩
theorem V.plain_mono n(x:V)(h:x.plain n=true):x.plain (n+1)=true:=V.plain_mono2.1 x n h
theorem mG:∀{l:List V},(∀x∈l,x.plain n=true)->V.plains n l=true:=by
 intro l
 induction l with
 |nil=>exact@λ_=>by rfl
 |cons x l b=>intro h;exact bW.mpr ⟨h x aQ,b λy a=>h y (az _ a)⟩
theorem oN(b:x.plain n=true){l:List V}:(l.any λy=>V.eqb y x)=true↔x∈l:=by rewrite[List.any_eq_true];exact⟨λ⟨y,h1,a⟩=>V.eqb_eq y x a▸h1,λh=>⟨x,h,V.eqb_refl n x b⟩⟩
def qa(o:Str)(l:List V):V:=.tup (.str o::l)
theorem LX o l b a(h:qa o l=qa b a):o=b/\l=a:=by unfold qa at h;injection h with h;injection h with h1 c;injection h1 with h1;exact⟨h1,c⟩
theorem wS(g:Gr nodes.length (bf nodes) (aH nodes))(h:k<3):bP nodes k=.tup [.str (bf nodes k)]:=by unfold bP;refine Z (g.2 k h) ?_;rfl
theorem Hk(g:Gr nodes.length (bf nodes) (aH nodes))(h:a<nodes.length):((aH nodes a).map λk=>V.tup [.str (bf nodes k)])=(aH nodes a).map (bP nodes):=j0 λk b=>(wS g (g.4 a h k b)).symm
theorem ua(g:Gr nodes.length (bf nodes) (aH nodes)):iS nodes.length (bf nodes) (aH nodes) (bP nodes) qa:=⟨λa b=>by refine((Z (Hk g b) ?_):V.tup (.str _::(aH _ a).map λk=>V.tup _)=qa _ _);rfl,LX⟩
theorem jI(op:∀i,i<nodes.length->ef (bf nodes i))(g:Gr nodes.length (bf nodes) (aH nodes))(h:a<nodes.length):(bP nodes a).plain 5=true:=by
 unfold bP;refine((mG λx b=>?_));rcases bK.mp b with rfl|b
 ·exact(λi n d=>(op i d).1) a 4 h
 ·refine ac (bT.mp b) λk e c=>?_;clear b;exact Z c.symm<|((mG λx b=>Z (b5.mp b) ((λi n d=>(op i d).1) k 3 (dZ (g.4 a h k e) g.1))))
def fN(sides:List (V×V))(nodes:List (Str×List Nat))(a:Nat):List V:=iJ sides (bP nodes a)++(List.range (aH nodes a).length).flatMap (nP (bf nodes a) ((aH nodes a).map (bP nodes)) (iJ sides))
def dw(nodes:List (Str×List Nat))(ev:List (Nat×Nat)):List (V×V):=ev.flatMap λe=>[(bP nodes e.1,bP nodes e.2),(bP nodes e.2,bP nodes e.1)]
inductive iR(nodes:List (Str×List Nat))(ev:List (Nat×Nat)):Prop
 |mk(g:Gr nodes.length (bf nodes) (aH nodes))(op:∀i,i<nodes.length->ef (bf nodes i))(lt:∀e∈ev,e.1<nodes.length/\e.2<nodes.length)(el:ev.length<=40)(nl:nodes.length<=1000)
section
variable{ev:List (Nat×Nat)}
theorem xe:q∈dw nodes ev↔aV λa b=>Tl (λa b=>(a,b)∈ev) a b/\q=(bP nodes a,bP nodes b):=by
 unfold dw;rewrite[List.mem_flatMap];constructor
 ·rintro⟨e,he,c⟩
  rcases bK.mp c with rfl|c
  ·exact(cP _ _ (.inl he) rfl)
  ·exact Z (b5.mp c)<|(cP _ _ (.inr he) rfl)
 ·rintro⟨a,b,h|h,rfl⟩
  ·exact(ad _ h aQ)
  ·exact(ad _ h (az _ (b5.mpr rfl)))
theorem iR.tl(T:iR nodes ev)(h:Tl (λa b=>(a,b)∈ev) a b):a<nodes.length/\b<nodes.length:=by
 rcases h with h|h
 ·exact T.3 _ h
 ·exact(T.3 _ h).symm
theorem iR.sides(T:iR nodes ev)(h:q∈dw nodes ev):q.1.plain 5=true/\q.2.plain 5=true/\∀n,q.1≠.loc n:=bS (xe.mp h) λa b t c=>Z c<|(bt (jI T.2 T.1 (T.tl t).1) (jI T.2 T.1 (T.tl t).2) (λn=>by unfold bP;simp))
theorem nJ(h:x.plain 5=true):x.plain 8=true:=V.plain_mono _ _ (V.plain_mono _ _ (V.plain_mono _ _ h))
theorem xf:(dw nodes ev).length=2*ev.length:=by
 unfold dw
 induction ev with
 |nil=>rfl
 |cons e r a=>exact Z bM<|Z a<|Nat.add_comm _ _
theorem za(T:iR nodes ev)(f:a<nodes.length){t:V}:t∈iJ (dw nodes ev) (bP nodes a)↔∃b,Tl (λa b=>(a,b)∈ev) a b/\t=bP nodes b:=by
 unfold iJ;rewrite[bT];constructor
 ·rintro⟨q,g,rfl⟩
  obtain⟨h1,d⟩:=iX.mp g;refine bS (xe.mp h1) λh b h3 c=>?_;subst c;have e:=(ua T.1).node T.1 (T.tl h3).1 f (V.eqb_eq _ _ d);clear g h1 d;subst e;exact(ad b h3 rfl)
 ·rintro⟨b,h3,rfl⟩
  exact(ad _ (iX.mpr ⟨xe.mpr (cP a b h3 rfl),V.eqb_refl 5 _ (jI T.2 T.1 f)⟩) rfl)
theorem nL(T:iR nodes ev)(f:a<nodes.length){t:V}:t∈fN (dw nodes ev) nodes a↔mZ (bf nodes) (aH nodes) (λa b=>(a,b)∈ev) (bP nodes) qa a t:=by
 unfold fN mZ;rewrite[cO];rewrite[za T f];rewrite[List.mem_flatMap];refine or_congr Iff.rfl ⟨?_,?_⟩
 ·rintro⟨i,j,g⟩
  have d:=gG.mp j;refine ac (bT.mp g) λh h1 c=>?_;clear g;subst c;rw[eX,bJ d]at h1;refine ac ((za T (dZ (T.1.4 a f _ (f_ d)) T.1.1)).mp h1) λr e c=>?_;clear h1;exact Z c<|(dk i _ r (bJ d) e rfl)
 ·rintro⟨i,x,r,h1,e,rfl⟩
  have d:=(bV.mp h1).1;refine⟨i,gG.mpr d,bT.mpr (ad _ (Z eX ?_) rfl)⟩;exact Z h1<|(za T (dZ (T.1.4 a f x (bN h1)) T.1.1)).mpr (ad r e rfl)
theorem sw(T:iR nodes ev)(e:a<nodes.length){t:V}(h:t∈fN (dw nodes ev) nodes a):t.plain 8=true:=by
 rcases(nL T e).mp h with⟨b,h1,rfl⟩|⟨k,x,r,h1,g,rfl⟩
 ·exact nJ (jI T.2 T.1 (T.tl h1).2)
 ·refine mG λy c=>?_
  rcases bK.mp c with rfl|c
  ·exact(T.2 a e).1
  ·rcases List.mem_or_eq_of_mem_set c with c|rfl
   ·refine ac (bT.mp c) λi f d=>?_;clear c;exact Z d.symm<|V.plain_mono _ _ (V.plain_mono _ _ (jI T.2 T.1 (dZ (T.1.4 a e i f) T.1.1)))
   ·exact V.plain_mono _ _ (V.plain_mono _ _ (jI T.2 T.1 (T.tl g).2))
theorem vE{t:V}:(iJ sides t).length<=sides.length:=Z aY<|List.length_filter_le _ _
theorem As(H:Hx B)(T:iR nodes ev) D(b:a<nodes.length):tv B (dw nodes ev) p (D+2) (bP nodes a) (fN (dw nodes ev) nodes a):=by
 have hs:∀q∈dw _ ev,q.1.plain 8=true/\∀n,q.1≠.loc n:=λq i=>⟨nJ (T.sides i).1,(T.sides i).2.2⟩;have f:(dw nodes ev).length<=100:=by refine Z xf ?_;have:=T.4;lia
 have c:∀k∈(aH nodes a).map (bP nodes),tv B _ p _ k _:=λk d=>by refine ac (bT.mp d) λx h g=>?_;clear d;subst g;have:=Aq (p:=p) (D:=D) (r:=iJ _) H hs f af (Z (wS T.1 (T.1.4 a b x h)).symm<|nJ (jI T.2 T.1 (dZ (T.1.4 a b x h) T.1.1))) (λk d=>bx d) (λk=>aC vE f);rw[<-wS T.1 (T.1.4 a b x h)]at this;rw[lZ,List.range_zero,List.flatMap_nil,bZ]at this;exact this
 have e:bP _ a=.tup _:=(ua T.1).1 a b;have:=Aq H hs f (Z aY<|(T.1.5 a)) (Z e.symm<|nJ (jI T.2 T.1 b)) c (λk=>aC vE f);rw[<-e,eH]at this;exact this
end
section
variable{ev:List (Nat×Nat)}
theorem wC{l:List V}(h:m[n]?=some (.list l))(c:x.plain 8=true)(b:V.plains 8 l=true)(q:P (.bool (l.any λy=>V.eqb y x)) m):dz .In x (.loc n) m P:=by
 have h:lI false x (.loc n) m P:=⟨h,c,b,(Z (Bool.false_xor (l.any λy=>V.eqb y x)) q:P (.bool (false^^l.any λy=>V.eqb y x)) m)⟩
 cases x<;>exact h
theorem QJ{R:cD}(i:src m)(o:m[n]?=some (.list far))(j:V.plains 8 far=true):∀l acc l0 l1,(∀t∈l,t.plain 8=true)->acc.length+l.length<=1000->R (acc++l.filter λt=>far.any λy=>V.eqb y t) m->
 cR (au B D ax).t src (au B D (.cmp .In ax aO)).b (au B D ax).e l acc [l0,l1,some (.loc n)] m R:=λl acc l0 l1 r p q=>Z (List.map_id l).symm<|vG (c:=λt=>far.any λy=>V.eqb y t) (f:=id) (g:=id) i l acc l0 l1 (λa k _ _ _ y n=>wC o (r a k) j (by cases e:far.any λy=>V.eqb y a with|true=>exact bD e (y e)|false=>exact bn e (n e))) (aF p) (Z (List.map_id _) q)
theorem NU{c d:Type}{f:c->List d}(h:∀a,(f a).length<=k):∀l:List c,(l.flatMap f).length<=k*l.length:=by
 intro l
 induction l with
 |nil=>exact eT _
 |cons a l e=>exact Z List.flatMap_cons<|Z bM<|Z (Nat.mul_succ ..)<|have:=h a;J5
theorem Ha(T:iR nodes ev):(fN (dw nodes ev) nodes a).length<=300:=by
 refine Z bM ?_;have h1:=vE (sides:=dw nodes ev) (t:=bP nodes a)
 have c:=NU (k:=80) (f:=nP (bf nodes a) ((aH nodes a).map (bP nodes)) (iJ (dw nodes ev))) (λi=>by refine Z aY<|aC vE<|Z xf ?_;have:=T.4;lia) (List.range (aH nodes a).length)
 rw[List.length_range]at c;have:=T.1.5 a;have:=T.4;rw[xf]at h1;exact J6
theorem Gv l:V.eqbs l []=l.isEmpty:=by cases l<;>rfl
def s7(nodes:List (Str×List Nat))(ev:List (Nat×Nat))(a b:Nat):Nat:=
 if a=b then 0 else if(fN (dw nodes ev) nodes a).any λy=>V.eqb y (bP nodes b)then 1
 else if((fN (dw nodes ev) nodes a).filter λt=>(fN (dw nodes ev) nodes b).any λy=>V.eqb y t).isEmpty then 3 else 2
theorem Os(T:iR nodes ev){c:Nat->Nat->Option Nat}{w:Nat->Nat->Option eR}(C:Cs nodes.length (bf nodes) (aH nodes) (λa b=>(a,b)∈ev) q c w){a b x:Nat}(h:c a b=some x):s7 nodes ev a b=min x 3:=by
 refine a_ (C.4 a b x h) λg i=>?_;have M:=ua T.1;have k:=nJ (jI T.2 T.1 i);unfold s7
 by_cases e:a=b
 ·subst e
  have x0:x=0:=by have:=C.5 a g;rw[h]at this;exact aG this
  refine Z (ao rfl) ?_;lia
 have x1:=(C.9 a b x e h).1;refine Z (ai e) ?_
 cases j:(fN _ _ a).any λy=>V.eqb y _ with
 |true=>refine ac (C.near_cost M g i ((nL T g).mp ((oN k).mp j))) λu f m=>?_;rw[h]at f;replace f:=aG f;subst f;refine Z (ao rfl) ?_;lia
 |false=>
  have n:x≠1:=λz=>by clear e x1;subst z;have:=(oN k).mpr ((nL T g).mpr (C.cost_near M h));rw[j]at this;cases this
  cases l:(fN _ _ a).filter λt=>(fN _ _ b).any λy=>V.eqb y t with
  |nil=>
   have s:x≠2:=λz=>by clear k e x1 j n;subst z;refine ac (C.cost_far M h) λt o p=>?_;have h1:=(nL T g).mpr o;have:t∈(fN _ _ a).filter λt=>(fN _ _ b).any λy=>V.eqb y t:=iX.mpr ⟨h1,(oN (sw T g h1)).mpr ((nL T i).mpr p)⟩;rw[l]at this;exact bx this
   refine(?_:3=min x 3);lia
  |cons t r=>have d:=iX.mp (Z l aQ);have:=C.far_cost M h ((nL T g).mp d.1) ((nL T i).mp ((oN (sw T g d.1)).mp d.2));refine(?_:2=min x 3);lia
theorem Ot(H:Hx B)(T:iR nodes ev)(d:a<nodes.length)(h:b<nodes.length) D(W:ae L m)(r:(p,O.list ((dw nodes ev).map g5))∈L)
 (q:∀s,ae L s->Q (.int (s7 nodes ev a b)) s):aP B (D+3) 629 [bP nodes a,bP nodes b,.loc p] m Q:=by
 have u:=nJ (jI T.2 T.1 d);have v:=nJ (jI T.2 T.1 h);unfold s7 at q;refine bv H 52 rfl rfl<|(wD ((λi n=>by unfold bP;simp:∀i n,bP _ i≠.loc n) a) u v ?_)
 refine Z (Bool.false_xor ..) ?_
 by_cases e:a=b
 ·subst e
  rw[ao rfl]at q;exact bD (V.eqb_refl 8 _ u) (q m W)
 have A:V.eqb (bP nodes a) (bP nodes b)=false:=by
  cases z:V.eqb _ _ with
  |false=>rfl
  |true=>exact absurd ((ua T.1).node T.1 d h (V.eqb_eq _ _ z)) e
 rw[ai e]at q;refine bn A (As H T D d L m _ W r λl1 m1 j=>?_);have np:∀{i:Nat},i<nodes.length->V.plains 8 _=true:=λx=>mG λt f=>sw T x f;refine(wC (j.get 0 rfl) v (np d) ?_)
 cases l:(fN _ _ a).any λy=>V.eqb y _ with
 |true=>rw[l]at q;exact bD rfl (q m1 (j.sub (dB _ _)))
 |false=>
  rw[l]at q;refine bn rfl (As H T D h _ m1 _ j (az _ r) λl2 C g=>(ad _ (g.get 1 rfl) (QJ (g.get 1 rfl) (g.get 0 rfl) (np h) _ [] none none (λt f=>sw T d f) (by simp;exact aF (Ha T)) ?_)))
  have w:=(g.app [O.list ((fN (dw nodes ev) nodes a).filter λt=>(fN (dw nodes ev) nodes b).any λy=>V.eqb y t)]).app [O.list []];refine⟨af,wB (by refine Z (cu z1) ?_;exact cj _ _) (cj _ _) (mG λt f=>sw T d (iX.mp f).1) rfl ?_⟩
  refine Z (Gv ..) ?_;have k:=w.sub ((dB _ _).trans (dB _ _))
  cases o:((fN _ _ a).filter λt=>(fN _ _ b).any λy=>V.eqb y t).isEmpty with
  |true=>rw[o]at q;exact bn rfl (q _ k)
  |false=>rw[o]at q;exact bD rfl (q _ k)
end
def il:List (Nat×Nat)->List Nat->List Nat
 |[],hs=>hs
 |p::r,hs=>il r (im hs p.1 p.2)
theorem LU:∀{ws:List (Nat×Nat)}{hs:List Nat},(il ws hs).length=hs.length:=by
 intro ws
 induction ws with
 |nil=>exact@λ_=>rfl
 |cons p r a=>exact@λhs=>Z a<|Z ku rfl
theorem Cy:∀{ws:List (Nat×Nat)}{hs:List Nat},(il ws hs).sum<=hs.sum:=by
 intro ws
 induction ws with
 |nil=>exact@λ_=>aT _
 |cons p r a=>exact@λhs=>aC a LO
theorem Cz:∀{ws:List (Nat×Nat)}{hs:List Nat},i<hs.length->j<hs.length->aX hs i=aX hs j->aX (il ws hs) i=aX (il ws hs) j:=by
 intro ws
 induction ws with
 |nil=>exact@λ_ _ _ e=>e
 |cons p r c=>exact@λhs a b e=>c (Z ku a) (Z ku b) (LQ a b e)
theorem LV:∀{ws:List (Nat×Nat)}{hs:List Nat},(∀p∈ws,p.1<hs.length/\p.2<hs.length)->q∈ws->aX (il ws hs) q.1=aX (il ws hs) q.2:=by
 intro ws
 induction ws with
 |nil=>exact λ_ h=>bx h
 |cons p r d=>
  intro hs h b;have a:=h p aQ;rcases bK.mp b with rfl|b
  ·exact Cz (ws:=r) (Z ku a.1) (Z ku a.2) (LR a.1 a.2)
  ·exact d (λg c=>Z ku<|h g (az _ c)) b
theorem LS(m:∀a b c,al a b->al b c->al a c)(l:∀a b,al a b->al b a):∀{ws:List (Nat×Nat)}{hs:List Nat},oX al hs->(∀p∈ws,p.1<hs.length/\p.2<hs.length/\al p.1 p.2)->oX al (il ws hs):=by
 intro ws
 induction ws with
 |nil=>exact@λ_ S _=>S
 |cons p r f=>exact@λhs S h=>gv (h p aQ) λi j k=>f (LP m l S i j k) λg e=>Z ku<|h g (az _ e)
theorem lR{i:Nat}(h:i<hs.length):(nV hs)[i]?=some (.int (aX hs i)):=by unfold aX;refine Z (bJ h) ?_;exact yi (bJ h)
abbrev mB:Y:=(cT (.asg (.tup (aZ cz eY)) (.blt 6 (aM (.lst (aZ (.sub bc aO) (.sub bc aW)))))) (.asg bc (.comp [none,none,some 7,some 6] ax bc .nil (.ite (.cmp .Eq ax aO) aW ax))))
theorem LZ{rest:bh}{P:cv}(a:∀m,ae L m->src m):∀ws hs b m x2 i j l,(∀p∈ws,p.1<hs.length/\p.2<hs.length)->hs.length<=1000->ae ((b,.list (nV hs))::L) m->
 (∀c s x2 i j l,ae ((c,.list (nV (il ws hs)))::L) s->P .next (v0::v1::x2::i::some (.loc c)::y::j::l::rest) s)->
 dy (au B d (.tup pe)).t src (bu B d mB).ss (ws.map pV) (v0::v1::x2::i::some (.loc b)::y::j::l::rest) m P:=by
 intro ws
 induction ws with
 |nil=>exact@λhs b m x2 i j l _ _ W q=>⟨a m (W.sub (dB _ _)),q b m _ _ _ _ W⟩
 |cons p ws w=>
  refine λhs b m x2 i j l r o W q=>(bt (a m (W.sub (dB _ _))) rfl ((cZ (W.get 0 rfl) (Z a9<|aF o) (cU (lR (r p aQ).1)) ((cZ (W.get 0 rfl) (Z a9<|aF o) (cU (lR (r p aQ).2)) ⟨af,((b6 _ (cj _ _) af (Z (xa ..) ?_)))⟩)))));have n:=(W.app [O.list [V.int (aX hs p.1),V.int (aX hs p.2)]]).app [O.list (iV [((min (aX hs p.1) (aX hs p.2):Nat)),((max (aX hs p.1) (aX hs p.2):Nat))])];refine(b6 _ (cj _ _) rfl ?_);generalize(m++[O.list _]++[O.list _])=m1 at n⊢;refine⟨_,n.get 0 rfl,lP (rest:=[some _,some _]) (f:=λk=>.int ((if k=max (aX hs p.1) (aX hs p.2)then min (aX hs p.1) (aX hs p.2)else k:Nat))) (n.get 0 rfl) hs [] none none (λk _ l0 R h=>?_) (by simp;exact aF o) ?_⟩
  ·refine(nC ?_)
   by_cases e:k=max (aX hs p.1) (aX hs p.2)
   ·rw[ao e]at h
    exact bD (by simp;exact bg _ e) h
   ·rw[ai e]at h
    exact bn (by simp;exact jM e) h
  ·refine Z ((by unfold im nV;refine Z eG ?_;rfl:(hs.map λk=>V.int _)=nV (im hs _ _))) ?_
   exact have u:=(n.new _).sub ((dB _ _).cons_cons _);w _ _ _ _ _ _ _ (λg v=>Z ku<|r g (az _ v)) (Z ku o) u q
abbrev fB:Y:=(cT (.asg mi (.bm 5 j9 (aZ (.bin .Add (.tup (aM (.sub j_ (.int 0)))) (.blt 1 (aM (.comp [none,none,some 4] ax (.lo j_ (.int 1)) .nil rC)))) i4))) (.iff (.cmp .NotEq (.sub bc mi) (.sub bc i4)) (a6 (.expr (.bm 0 bC (aM (.tup (aZ mi i4)))))) .nil))
theorem NV{rest:bh}{P:cv}(T:(np,O.list (nodes.map cA))∈L)(Φ:(G,O.list (nV hs))∈L)(g:Gr nodes.length (bf nodes) (aH nodes))(s:hs.length=nodes.length)(r:nodes.length<=900):
 ∀k i b ws m A l n,i+k=nodes.length->jA nodes hs i b ws->ae ((u,.tdict (gw b))::(H,.list (ws.map pV))::L) m->
 (∀v z y A l n,jA nodes hs nodes.length v z->ae ((u,.tdict (gw v))::(H,.list (z.map pV))::L) y->P .next (v0::v1::x2::x3::some (.loc G)::some (.loc H)::x6::x7::some (.loc u)::A::l::n::rest) y)->
 dy (au B d (.tup (aZ i4 j_))).t (λm=>m[np]?=some (.list (nodes.map cA))) (bu B d fB).ss (vD i ((nodes.drop i).map cA)) (v0::v1::x2::x3::some (.loc G)::some (.loc H)::x6::x7::some (.loc u)::A::l::n::rest) m P:=by
 intro k
 induction k with
 |zero=>refine λi b ws m A l n o F W q=>Z (List.drop_eq_nil_of_le ((aA o.symm))) ?_;subst o;exact⟨W.mem (.tail _ (.tail _ T)),q b ws m _ _ _ F W⟩
 |succ k N=>
  intro i b ws m A l n o F W q;have Q:i<nodes.length:=aE (aA o);have S:∀j∈aH _ i,j<hs.length:=λj M=>by have:=g.4 i Q j M;have:=g.1;lia
  refine Z (List.drop_eq_getElem_cons Q)<|Z (p_ Q)<|(bt (W.mem (.tail _ (.tail _ T))) rfl (⟨W.get 0 rfl,(⟨_,((Z bU (Z a9 (cV (g.5 i))))),cU rfl,af,(⟨by decide,((Z bU rY)),((Z bU (Z a9 (cV (g.5 i))))),(lP (rest:=[some _]) trivial _ [] none none (λj M l0 R h=>(cZ (W.mem (by simp[Φ])) (Z a9<|aK (aA s) r) (cU (lR (S j M))) h)) (by simp;exact aF (g.5 i)) ?_)⟩)⟩)⟩))
  rewrite[js,show((aH _ i).map λj=>V.int _)=nV ((aH _ i).map (aX hs))from by unfold nV;refine Z eG ?_;rfl]
  have Ω:(nV ((aH _ i).map (aX hs))).length<=2:=Z a9<|Z aY<|(g.5 i);have p:=W.app [O.list (nV ((aH nodes i).map (aX hs)))];refine⟨_,cj _ _,aF Ω,jN Ω,?_⟩;generalize m++[O.list _]=m1 at p⊢;have f5:=F.5;refine(hA _ _ (p.get 0 rfl) (kE (g4 _ hs i)) (Z aY<|dL r (aA o) F.4) (Z (eN jO _ _) ?_));have c:∀{y},ae ((u,.tdict (gw b))::(H,.list (ws.map pV))::L) y->y[G]?=some (.list (nV hs)):=λw=>w.mem (by simp[Φ])
  cases e:a5 _ b with
  |some f=>
   have E:=(oh _ b).trans e;have C:=F.old E;refine(cZ (c p) (Z a9<|aK (aA s) r) (cU (lR (dL (aA s.symm) (aA o) (F.2 _ _ E).1))) (cZ (c p) (Z a9<|aK (aA s) r) (cU (lR (by lia))) (mu ?_)))
   by_cases D:aX hs f=aX hs i
   ·rw[ao D]at C
    exact bn (by simp;exact bg _ D) (N _ b ws m1 _ _ _ (ij o) C p q)
   ·rw[ai D]at C
    refine bD (by simp;exact jM D) ⟨p.get 1 rfl,af,_,p.get 1 rfl,Z aY<|dL r (aA o) f5,?_⟩
    refine Z (show ws.map pV++[V.tup _]=(ws++[(f,i)]).map pV from by refine Z bz ?_;rfl) ?_
    exact N _ b _ _ _ _ _ (ij o) C (p.set 1 rfl _) q
  |none=>
   have E:=(oh _ b).trans e;refine((Z (show gw b++[(kK _,V.int i)]=gw (b++[(g4 _ hs i,i)])from by unfold gw fa;refine Z bz ?_;rfl) ?_))
   have I:=p.set 0 rfl (.tdict (gw (b++[(g4 nodes hs i,i)])));generalize m1.set u _=Ψ at I⊢;exact have x:Ψ[G]?=some (.list (nV hs)):=I.mem (by simp[Φ]);(cZ x (Z a9<|aK (aA s) r) (cU (lR (by lia))) (cZ x (Z a9<|aK (aA s) r) (cU (lR (by lia))) (mu (bn (by simp) (N _ _ ws Ψ _ _ _ (ij o) (F.new E) I q)))))
def jT(e:Nat×Nat×Str):V:=.tup [.int e.1,.int e.2.1,.str e.2.2]
def ey(evs:List (Nat×Nat×Str)):List (Nat×Nat):=evs.map λe=>(e.1,e.2.1)
theorem N9{R:cD}(b:src m):∀l acc l0 l1 l2 l3,acc.length+l.length<=1000->R (acc++(ey l).map pV) m->
 cR (au B d (.tup po)).t src (λ_ m Q=>Q true m) (au B d (.tup et)).e (l.map jT) acc [l0,l1,l2,l3] m R:=by
 intro l
 induction l with
 |nil=>exact@λacc _ _ _ _ _ q=>⟨b,by simpa[ey]using q⟩
 |cons a l f=>intro acc l0 l1 l2 l3 c q;rw[bU]at c;exact⟨b,rfl,af,cN c,f _ _ _ _ _ (Z aL<|aE c) (Z cq q)⟩
theorem Nh(H:Hx B){evs:List (Nat×Nat×Str)}(T:iR nodes (ey evs))(ne:evs≠[]){np ep:Nat}(W:ae L m)(R:(np,O.list (nodes.map cA))∈L)(he:(ep,O.list (evs.map jT))∈L)(C:nodes.length<=900)
 (q:∀c hs m',hs.length=nodes.length->(∀a b,a<nodes.length->b<nodes.length->(aX hs a=aX hs b↔Al nodes.length (bf nodes) (aH nodes) (λa b=>(a,b)∈ey evs) a b))->ae ((c,.list (nV hs))::L) m'->Q (.loc c) m'):aP B (d+1) 600 [.loc np,.loc ep] m Q:=by
 have el:evs.length<=40:=by have:=T.4;unfold ey at this;rwa [eH]at this
 refine bv H 47 rfl rfl<|⟨_,W.mem R,bH C,nodes.length,Z aY rfl,aF C,(Z (rW ..) ?_)⟩;have n:=W.new (.list (nV (List.range nodes.length)));generalize m++[O.list _]=m1 at n⊢;generalize m.length=c at n⊢;refine(ad _ (n.mem (az _ he)) (N9 (n.mem (az _ he)) _ [] none none none none (by simp;exact aF el) ?_))
 rewrite[js];have G:=n.new (.list ((ey evs).map pV));generalize m1.length=u at G⊢;refine(bt af rfl ((cP (λk J m=>zN λhs ws c u x2 x3 x6 x7=>rf λx8 x9 v A=>wg (J=some _::some _::x2::x3::some (.loc c)::some (.loc u)::x6::x7::x8::x9::v::A::List.replicate 6 _) (hs.length=nodes.length) (oX (Al nodes.length (bf nodes) (aH nodes) (λa b=>(a,b)∈ey evs)) hs) ((∀p∈ws,p.1<nodes.length/\p.2<nodes.length/\Al nodes.length (bf nodes) (aH nodes) (λa b=>(a,b)∈ey _) p.1 p.2)) (ae ((u,.list (ws.map pV))::(c,.list (nV hs))::L) m) (((ws=ey _/\k=hs.sum+1)\/((∀a b,(a,b)∈ey evs->aX hs a=aX hs b)/\(∃I,jA nodes hs nodes.length I ws)/\k=hs.sum)))) _ ⟨List.range _,ey _,c,u,none,none,none,none,none,none,none,none,rfl,List.length_range,λi j N P e=>?_,λp c=>(bt (T.3 p c).1 (T.3 p c).2 (.told c)),G,.inl ⟨rfl,rfl⟩⟩ ?_)))
 ·rw[List.length_range]at N P
  unfold aX at e;rw[List.getElem?_range N,List.getElem?_range P]at e;clear N P;subst e;exact .refl _
 rintro k J m3 ⟨hs,ws,c,u,x2,x3,x6,x7,x8,x9,v,A,rfl,s,S,f,W3,M⟩;refine⟨af,?_⟩;have o:=W3.app [O.list []];refine wB (o.get 0 rfl) (cj _ _) (xJ _) rfl ?_;generalize m3++[O.list []]=m4 at o⊢;clear H W he el n G W3;cases hw:ws with
 |nil=>subst hw;refine bn rfl<|gv (M.resolve_left λz=>ne (List.map_eq_nil_iff.mp z.1.symm)) λht u0 _=>aI u0 λI F=>?_;clear u0;exact q c hs m4 s (λa b ha hb=>Ng T.1 (λa b t=>T.3 _ t) s S ht F ha hb) (o.sub (dB _ _))
 |cons p r=>
  refine bD rfl ?_;have g:∀p∈ws,p.1<hs.length/\p.2<hs.length:=λp c=>Z s<|⟨(f p c).1,(f p c).2.1⟩;refine(ad _ ((o.perm (List.Perm.swap _ _ _)).get 1 rfl) (LZ (λm w=>w.get 0 rfl) ws hs c m4 x2 x3 x6 x7 g (aK C (aA s)) (o.perm (List.Perm.swap _ _ _)) λΩ m5 y2 y3 y6 y7 W6=>?_));have h:(il ws hs).length=nodes.length:=Z LU<|Z s rfl;have D:=LS (λ_ _ _ x y=>x.trans y) (λ_ _ x=>x.symm) S λp c=>(bt (g p c).1 (g p c).2 (f p c).2.2)
  have l:∀a b,(a,b)∈ey evs->aX (il ws hs) a=aX (il ws hs) b:=λa b t=>by
   rcases M with⟨rfl,_⟩|⟨ht,_,_⟩
   ·exact LV g t
   ·exact have:=T.3 _ t;Cz (by lia) (by lia) (ht a b t)
  have sm:(il ws hs).sum<k:=by
   rcases M with⟨_,rfl⟩|⟨_,⟨I,F⟩,rfl⟩
   ·exact Nat.lt_succ_of_le Cy
   ·exact Z hw<|have pm:p∈ws:=Z hw aQ;jr (Cy (ws:=r)) (LN (g p pm).1 (g p pm).2 (F.3 p pm).2.2.2)
  generalize il ws hs=Ψ at h D l sm W6;exact have W8:=((W6.sub ((dB _ _).cons_cons _)).new _).new _;⟨af,_,_,rfl,((ad _ ((W8.perm (List.Perm.swap _ _ _)).mem (az _ (az _ (az _ R)))) (NV (az _ R) aQ T.1 h C _ 0 [] [] _ x9 _ _ (Nat.zero_add _) .nil (W8.perm (List.Perm.swap _ _ _)) λΦ α m6 y9 β γ F E=>⟨_,sm,Ψ,α,Ω,_,y2,y3,y6,y7,_,y9,β,γ,rfl,h,D,λp c=>iI (F.3 p c) λh1 h2 h3 _=>(bt h1 h2 (IU T.1 h D h1 h2 h3)),E.sub (dB _ _),.inr (bt l ⟨Φ,F⟩ rfl)⟩)))⟩
theorem vm{x:Nat×O}:(ah h (x::R))[(ah h []).length]?=some x:=by exact Z dM<|gN
theorem yT{x y:Nat×O}:(ah h (x::R)).set (ah h []).length y=ah h (y::R):=by refine Z dM<|Z (dM (R:=y::R))<|Z (qT _ _ (aT _))<|Z (lW ..) ?_;rfl
def dh(a:Nat)(gone:V):Nat×O:=(1,.sdict (gW a gone))
theorem LM{p q:Str×List Nat}(h:cA p=cA q):p=q:=by
 obtain⟨o,k⟩:=p;obtain⟨i,d⟩:=q;injection h with h;injection h with h1 c;injection h1 with h1;subst h1
 congr 1
 unfold nV at c
 revert d
 induction k with
 |nil=>intro d c;cases d with
  |nil=>rfl
  |cons _ _=>exact mN c
 |cons a r f=>intro d c;cases d with
  |nil=>exact qg c
  |cons b g=>injection c with h3 e;injection h3 with h3;exact Z (m_.mp h3)<|Z (f g e) rfl
theorem Cv{p:Str×List Nat}(h:ef p.1):(cA p).plain 8=true:=by
 refine mG λx a=>?_;rcases bK.mp a with rfl|a
 ·exact h.1
 ·refine ac (bT.mp a) λk _ b=>?_;clear a;refine Z b.symm ?_
  rfl
theorem lM(H:Hx B)(W:ae (ah h (dh a gone::R)) m)(f:(3,.list (iV row))∈R)(e:a<=10000)(hm:0<many)(i:row.length<=100)
 (q:∀(v:Nat) b,v<many->ae (ah h (dh (a+1) gone::R)) b->Q (.int v) b):aP B (d+1) 590 [.loc 1,.int many] m Q:=by
 refine Ov H _ W vm ?_ e hm i λv b g c=>q v b g ?_
 ·exact Z yT<|eO (az _ f)
 ·rw[yT]at c;exact c
theorem Ou(H:Hx B){P:cD}(r:(3,.list (iV row))∈R)(w:row.length<=100):∀c ks a m l0 l1 l2,a+c.length<=10000->ks.length+c.length<=100->ae (ah h (dh a gone::R)) m->
 (∀b f,b.length=c.length->(∀k∈b,k<3)->ae (ah h (dh (a+c.length) gone::R)) f->P (nV (ks++b)) f)->
 cR (au B (d+1) ax).t (λ_=>True) (λ_ m Q=>Q true m) (au B (d+1) (.call 590 (aZ aW (.int 3)))).e c (nV ks) [l0,l1,l2,some (.loc 1)] m P:=by
 intro c
 induction c with
 |nil=>exact@λks a m _ _ _ _ _ W q=>⟨trivial,by have:=q [] m rfl (λ_ z=>bx z) W;rwa [bZ]at this⟩
 |cons j c u=>
  intro ks a m l0 l1 l2 g l W q;rw[bU]at g l;refine⟨trivial,lM H W r (cN g) af w λv m1 s n=>⟨Z a9<|cN l,(Z oa<|u _ _ m1 _ _ _ (aE g) (Z aL<|aE l) n λb f h1 p o=>Z cq<|q (v::b) f (by refine Z bU<|Z h1 ?_;rfl) (λk i=>?_) (Z (show a+(c.length+1)=a+1+c.length from sr) o))⟩⟩
  rcases bK.mp i with rfl|i
  ·exact s
  ·exact p k i
theorem CB(H:Hx B)(L:Lk pre h rs [] N M)(hw:h.wait=[])(n6:h.s.n<6)(hN:N+44<=499)(op:∀i,i<h.s.n->ef (bf h.s.nodes i))(ha:a+10<=10000)(hr:(3,.list (iV row))∈R)(rl:row.length<=100)(hn:(np,.list (h.s.nodes.map cA))∈R)
 (W:ae (ah h (dh a gone::R)) m)
 (q0:∀q g,q<=a+3->ae (ah h (dh q gone::R)) g->Q (.loc np) g)
 (q1:∀q o ks h' l A u g,q<=a+3->jl o->Lk pre h' l [] A (N+44)->Fd h rs h' l o ks->((∀a b,¬fm h.s.ed a b)->h'.wait=[])->ae (ah h' (dh q gone::(u,.list (h'.s.nodes.map cA))::R)) g->Q (.loc u) g):aP B (d+8) 617 [.loc 1,.obj 0 4,.loc np] m Q:=by
 refine bv H 50 rfl rfl<|(lM H W hr (cN ha) af rl λv m1 hv W1=>?_)
 have s:cL λo (c k)=>br ((o=sF/\k=1\/o=sG/\k=2)) ((seqIndex? v wI.length).bind (wI.cps[·]?)=some c) (⟨#[c]⟩=o):=by
  rcases(show v=0\/v=1 by exact q5)with rfl|rfl
  ·exact⟨sF,102,1,.inl ⟨rfl,rfl⟩,rfl,rfl⟩
  ·exact⟨sG,103,2,.inr ⟨rfl,rfl⟩,rfl,rfl⟩
 refine g_ s λo c k G hc ho=>?_;clear s;have oo:jl o:=by rcases G with⟨rfl,_⟩|⟨rfl,_⟩<;>simp[jl]
 refine(b6 c hc af (Z ho (⟨af,fM oo.f.1 (by decide+kernel) ?_⟩)))
 have j:∀P,P (.int k) m1->fh (λt m=>if t then(au B (d+7) (.int 1)).e [some (.loc 1),some (.obj 0 4),some (.loc np),some (.str o),none,none,none,none] m P else(au B (d+7) (.int 2)).e [some (.loc 1),some (.obj 0 4),some (.loc np),some (.str o),none,none,none,none] m P) (.bool (false^^V.eqb (.str o) (.str Ak))) m1:=λP hP=>by
  clear ha W hv hc ho;rcases G with⟨rfl,rfl⟩|⟨rfl,rfl⟩
  ·exact bD rfl hP
  ·exact bn rfl hP
 refine j _ ⟨by rcases G with⟨_,rfl⟩|⟨_,rfl⟩<;>decide,?_⟩
 have S:(eZ 0 1 (k:Int).toNat).length=k:=Z aY<|Z List.length_range<|Z (Int.toNat_natCast ..) rfl;refine Ou H hr rl _ [] _ m1 none none none (by refine Z S ?_;lia) (by refine Z S ?_;simp;lia) W1 λks m2 T k2 C=>?_
 rw[S]at T C;rewrite[js];refine⟨_,cj _ _,by refine Z a9 ?_;lia,by refine Z a9 ?_;simp;lia,?_⟩
 refine⟨(C.app _).get 0 rfl,by decide,((Z bU rY)),by refine((Z bU (Z a9 ?_)));lia,?_⟩
 have r:∀{h':HS}{g:av}{R':List _}{P:aS},ae (ah h' (dh (a+1+k) gone::R')) g->(np,.list _)∈R'->((o,ks)∈h.s.nodes->P _ g)->((o,ks)∉h.s.nodes->P _ _)->
  (au B (d+7) (.ite (.cmp .In bc aO) aO (.bin .Add aO (.lst ml)))).e [some (.loc 1),some (.obj 0 4),some (.loc np),some (.str o),some _,none,none,none] g P:=λW' I p0 p1=>by
  have D:=W'.mem (eO (az _ I))
  have pl:V.plains 8 (h.s.nodes.map _)=true:=mG λx hx=>by refine ac (bT.mp hx) λp Φ E=>?_;clear hx;subst E;obtain⟨i,f,rfl⟩:=List.getElem_of_mem Φ;exact Cv<|Z (p_ f)<|op i f
  have Ω:(cA (o,ks)).plain 8=true:=Cv oo.f;refine(wC D Ω pl ?_)
  by_cases f:(o,ks)∈h.s.nodes
  ·exact bD ((oN Ω).mpr (qV f)) (p0 f)
  ·refine bn ?_ ⟨af,_,_,by refine Z (cu (bV.mp D).1) ?_;exact D,cj _ _,by simp;lia,p1 f⟩
   cases e:(h.s.nodes.map _).any λy=>V.eqb y _ with
   |false=>rfl
   |true=>exact ac (bT.mp ((oN Ω).mp e)) λp Φ e2=>absurd (LM e2▸Φ) f
 refine MA H L hw n6 hN (C.app _) oo (λz=>by rw[z]at T;simp at T;lia) (by lia) k2 (λi f m4 n=>?_) (λf h' l A m4 L4 F Ψ n=>?_)
 ·exact r n hn (λ_=>q0 _ m4 (by lia) n) λz=>absurd (bN f) z
 ·refine r n hn (λz=>absurd z f) λ_=>?_
  have W5:=(n.app [O.list [cA (o,ks)]]).new (.list (h'.s.nodes.map cA));rw[F.1,bz]at W5;exact q1 _ o ks h' _ A _ _ (by lia) oo L4 F Ψ (W5.perm (Z F.1 (Z bz (Z dM (Z (dM (R:=_::R)) ((ma _ (List.Perm.swap _ _ _)).trans fj))))))
theorem gy(p:R'.Perm R):(ah h R').Perm (ah h R):=Z dM<|Z (dM (R:=R))<|ma _ p
theorem Lx{l:List V}:ja (l++[x]) (-1)=some x:=by
 unfold ja seqIndex?;refine Z aL ?_;have e:(-1<0):=by decide
 exact Z (ao (by simp;lia:(0<= -1+((l.length+1):Int)&&decide (-1+((l.length+1))<((l.length+1):Int)))=true))<|Z xz z2
theorem Jb n:seqIndex? (-1) (n+1)=some n:=by
 unfold seqIndex?;have e:(-1<0):=by decide
 exact Z (ao (by simp;lia:(0<= -1+((n+1):Int)&&decide (-1+((n+1))<((n+1):Int)))=true))<|Z xz rfl
def hY(np ep:Nat):V:=.tup [.loc np,.loc ep]
def sZ(evs:List (Nat×Nat×Nat)):List (Nat×Nat×Option Nat):=evs.map λe=>(e.1,e.2.1,some e.2.2)
def gD(evs:List (Nat×Nat×Nat)):List V:=evs.map λe=>jT (e.1,e.2.1,fW e.2.2)
structure ez where
 p:Nat
 wl:Nat
 s:PS
 np:Nat
 ep:Nat
 evs:List (Nat×Nat×Nat)
def dK(s:SH):List (Nat×O):=[(s.z,.fields (eK s)),(s.pc,.tdict (iL s.cd)),(s.pw,.tdict (nH s.wd))]
def cm(h:HS)(s:SH):Prop:=cL λk1 k2 k3=>br (s.mark=some (k1,k2,k3)) (k3<=h.backs) ((k3=h.backs->k1<=h.s.n/\k2<=h.s.ed.length/\(k1=h.s.n->k2=h.s.ed.length->fK h.s s)))
theorem fK.congr{p f:PS}(c:fK p s)(g:p.nodes=f.nodes)(h:p.ed=f.ed):fK f s:=by obtain⟨a,b,d,e⟩:=c;unfold PS.n at a b d e;rw[g]at a b d e;rw[h]at a;exact⟨a,b,d,e⟩
theorem cm.step{s:SH}(o:cm h s)(b:h'.backs=h.backs)(n:h.s.n<=h'.s.n)(e:h.s.ed.length<=h'.s.ed.length)(a:h'.s.n=h.s.n->h'.s.ed.length=h.s.ed.length->h'.s.nodes=h.s.nodes/\h'.s.ed=h.s.ed):cm h' s:=by refine g_ o λc d f g i j=>?_;clear o;exact(dk c d f g (aC i (aA b.symm)) (λz=>gv (j (z.trans b)) λq1 q2 q3=>(bt BB BB (λz1 z2=>(q3 (by lia) (by lia)).congr (a (by lia) (by lia)).1.symm (a (by lia) (by lia)).2.symm))))
theorem cm.back{s:SH}(o:cm h s)(b:h'.backs=h.backs+1):cm h' s:=by refine g_ o λa c d e f _=>?_;clear o;exact(dk a c d e (aK (aA b.symm) f) (λz=>by lia))
theorem cm.of(m:s.mark=some (eM h))(c:fK h.s s):cm h s:=(dk _ _ _ m (aT _) (λ_=>⟨aT _,aT _,λ_ _=>c⟩))
theorem cm.at(o:cm h s)(m:s.mark=some (eM h)):fK h.s s:=by refine g_ o λc d e a _ b=>?_;clear o;rw[a]at m;clear a;cases m;exact(b rfl).2.2 rfl rfl
inductive qR(rs:List ec)(s:PS)(RO:List (Nat×O))(l:ez):Prop
 |mk(J:l.p<=rs.length)(at_:gX rs l.p s=l.s)(g:Gd l.s l.s.n [])(tot:l.s.tot+6<=2*l.s.n)(op:∀i,i<l.s.n->ef (bf l.s.nodes i))(ev:gi l.s.ed=sZ l.evs)(ne:l.evs≠[])(cn:(l.np,O.list (l.s.nodes.map cA))∈RO)(ce:(l.ep,O.list (gD l.evs))∈RO)
theorem qR.ext{s s':PS}{l:ez}(o:qR rs s RO l)(e:gb rs s rs' s')(r:∀x∈RO,x∈RO'):qR rs' s' RO' l:=by refine⟨(ac e λc h1 _=>?_),(e.at o.1).trans o.2,o.3,o.4,o.5,o.6,o.7,r _ o.8,r _ o.9⟩;clear e;exact Z h1<|Z bM<|aC o.1 (dq _ _)
structure qK where
 l:List Int
 ob:Obj
 ws:List Int
inductive oQ(row:qK)(RO:List (Nat×O)):Prop
 |mk(r:(3,O.list (iV row.l))∈RO)(f:(0,O.fix row.ob (iV row.ws))∈RO)
theorem oQ.cons{x:Nat×O}(i:oQ row RO):oQ row (x::RO):=⟨az _ i.1,az _ i.2⟩
inductive eh(pre:List V)(row:qK)(h:HS)(rs:List ec)(N:Nat)(lv:List ez)(np ep:Nat)(evs:List (Nat×Nat×Nat))(RO:List (Nat×O)):Prop
 |mk(lk:Lk pre h rs [] N (N+42))(hw:h.wait=[])(op:∀i,i<h.s.n->ef (bf h.s.nodes i))(ev:gi h.s.ed=sZ evs)(mks:h.mks=(lv.map λl=>og (pre.length+l.p) l.wl).reverse)(lvs:∀l∈lv,qR rs h.s RO l)(gY:lv.Pairwise λx y=>y.p<=x.p)(cn:(np,O.list (h.s.nodes.map cA))∈RO)(ce:(ep,O.list (gD evs))∈RO)(cr:oQ row RO)(rl:row.l.length<=100)
def lD(lv:List ez):List (Nat×O):=lv.map λl=>(l.wl,.list [])
def fQ(lv:List ez)(np ep:Nat):List V:=(lv.map λl=>hY l.np l.ep).reverse++[hY np ep]
def gm(a:Nat)(gone:V)(lv:List ez)(np ep:Nat)(X:List (Nat×O)):List (Nat×O):=lD lv++(dh a gone::(23,.list (fQ lv np ep))::X)
theorem Lk.rest(L:Lk pre h rs [] N M)(b:h.wait=[])(a:M+42<=499):Lk pre h rs [] M (M+42):=by refine⟨L.1,L.2,L.3,L.4,L.5,L.6.mono (aE L.7),?_,a,L.9,aC L.10 (aE L.7)⟩;have:=h.s.msr_le L.1.2 L.5 (h.wait.length+([]:List Nat).length);rw[b]at this⊢;simp only[lZ]at*;exact aE this
theorem BS(op:∀i,i<nodes.length->ef (bf nodes i))(b:ef o) ks:∀i,i<(nodes++[(o,ks)]).length->ef (bf (nodes++[(o,ks)]) i):=λi a=>by
 refine Z uE<|sQ (λc=>?_) (λc=>?_)
 ·exact b
 ·refine op i ?_
  rw[aL]at a
  lia
variable{row:qK}
theorem Nl{x:Nat×O}:(ah h (A++x::R))[(ah h []).length+A.length]?=some x:=by refine Z dM<|Z (l9 (dq _ _)) ?_;exact Z (qO ..)<|gN
theorem Nk{x y:Nat×O}:(ah h (A++x::R)).set ((ah h []).length+A.length) y=ah h (A++y::R):=by refine Z dM<|Z (dM (R:=A++y::R))<|Z (qT _ _ (dq _ _))<|Z (qO ..)<|Z (qT _ _ (aT _))<|Z (lW ..) ?_;rfl
section
variable{lv:List ez}
theorem PZ(H:Hx B)(L:Lk pre h rs [] N M)(u:M+42<=499)(op:∀i,i<h.s.n->ef (bf h.s.nodes i))(ev:gi h.s.ed=sZ evs)(f:h.mks=(lv.map λl=>og (pre.length+l.p) l.wl).reverse)(c:∀l∈lv,qR rs h.s RO l)(gY:lv.Pairwise λx y=>y.p<=x.p)
 (r:(np,O.list (h.s.nodes.map cA))∈RO)(p:(ep,O.list (gD evs))∈RO)(t:oQ row RO)(w:row.l.length<=100)(W:ae (ah h R) m)
 (q:∀h' a b,eh pre row h' a M lv np ep evs RO->(∀s,cm h s->cm h' s)->h'.s.n=h.s.n->ae (ah h' R) b->Q .none b):aP B (d+7) 459 [.obj 0 4] m Q:=by
 refine IZ H L W λh' a A b L' g k n=>?_;have j:h'.s.n=h.s.n:=bg List.length g.1;refine q h' _ b ⟨L'.rest k u,k,Z j<|Z g.1 op,g.2.trans ev,g.4.trans f,λl v=>(c l v).ext g.3 λ_ z=>z,gY,Z g.1 r,p,t,w⟩ (λs o=>o.step g.5 ((aA j.symm)) g.7 λ_ e=>⟨g.1,g.8 e⟩) j n
theorem nG{X:List (Nat×O)}:(dh a gone::(lD lv++(23,.list (fQ lv np ep))::X)).Perm (gm a gone lv np ep X):=fj.symm
theorem jJ{A X:List (Nat×O)}{x:Nat×O}{o:O}(W:ae (ah h (A++(x::(23,o)::X))) m):m[23]?=some o:=W.mem (eO (by simp))
theorem pG{A X:List (Nat×O)}{x:Nat×O}{o:O}(W:ae (ah h (A++(x::(23,o)::X))) m) a:ae (ah h (A++(x::(23,a)::X))) (m.set 23 a):=by
 rw[(λy=>by refine Z cq ?_;rfl:∀y:Nat×O,A++(x::y::X)=(A++[x])++y::X)]at W⊢
 have:=W.set _ Nl a;rw[Nk]at this;exact this
theorem GL(H:Hx B)(I:eh pre row h rs N lv np ep evs RO)(k:evs≠[])(n:N+92<=499)(f:lv.length<=8)(W:ae (ah h (gm a gone lv np ep (SS++RO))) m)
 (q:∀h' i c,eh pre row h' rs N (⟨rs.length,i,h.s,np,ep,evs⟩::lv) np ep evs RO->(∀s,cm h s->cm h' s)->h'.s.n=h.s.n->ae (ah h' (lD (⟨rs.length,i,h.s,np,ep,evs⟩::lv)++(dh a gone::(23,.list (fQ lv np ep))::(SS++RO)))) c->Q .none c):aP B (d+1) 543 [.obj 0 4] m Q:=by
 have L:=I.1;have G:=L.1.1;rw[I.2,L.2]at G;have g:h.mks.length=lv.length:=Z I.5<|Z List.length_reverse<|Z aY rfl;refine Kg H W I.2 (by have:=L.6.3;lia) (aK f (aA g)) λl c j=>?_
 refine q {h with mks:=h.mks++[og _ l]} l c ⟨⟨⟨L.1.1,L.1.2,L.1.3,L.1.4,L.1.5,L.1.6,L.1.7,L.1.8,L.1.9,(Z aL<|aK f (aA g)),L.1.11,L.1.12,L.1.13,L.1.14,L.1.15⟩,L.2,L.3,L.4,L.5,⟨L.6.1,L.6.2,L.6.3,L.6.4,L.6.5,L.6.6⟩,L.7,L.8,L.9,L.10⟩,I.2,I.3,I.4,?_,λe b=>?_,lY.mpr ⟨λe b=>(I.6 e b).1,I.7⟩,I.8,I.9,I.10,I.11⟩ (λs o=>o) rfl j
 ·refine(?_:h.mks++[og _ l]=_)
  exact Z List.reverse_cons<|Z I.5<|Z (Z L.3<|Z bM<|Z aY rfl:h.ch.length=pre.length+rs.length) rfl
 ·rcases bK.mp b with rfl|b
  ·exact⟨aT _,pH,G,L.5,I.3,I.4,k,I.8,I.9⟩
  ·exact I.6 e b
theorem GM(H:Hx B){l:ez}(I:eh pre row h rs N (l::lv) np ep evs RO)(k:N+92<=499)(W:ae (ah h (gm a gone (l::lv) np ep (SS++RO))) m)
 (q:∀h' i,eh pre row h' (rs.take l.p) N lv l.np l.ep l.evs RO->(∀s,cm h s->cm h' s)->h'.s.n=l.s.n->ae (ah h' (lD lv++(dh a gone::(23,.list (fQ (l::lv) np ep))::(SS++RO)))) i->Q .none i):aP B (d+5) 550 [.obj 0 4] m Q:=by
 have o:=I.6 l aQ;refine a_ (lY.mp I.7) λs1 s2=>Kj H I.1 I.2 (Z I.5<|Z List.reverse_cons rfl) o.1 o.2 o.3 o.4 (aE k) W λh' i L' c p ms n _ j=>?_;have J:(rs.take l.p).length=l.p:=by refine Z qX ?_;have:=o.1;lia
 refine q h' i ⟨L',p,Z c o.5,Z c o.6,ms,λg f=>?_,s2,Z c o.8,o.9,I.10,I.11⟩ (λs r=>r.back n) (bg _ c) j;have b:=I.6 g (az _ f);have lp:=s1 g f;refine⟨aC lp (aA J.symm),(Z c ?_),b.3,b.4,b.5,b.6,b.7,b.8,b.9⟩
 by_cases e:g.p=l.p
 ·have:gX (rs.take l.p) g.p l.s=l.s:=by unfold gX;exact Z (ju (by lia)) rfl
  exact Z this<|Z o.2.symm<|Z e.symm<|Z b.2 rfl
 ·refine Z b.2.symm ?_
  unfold gX;refine Z (List.getElem?_take_of_lt (iT lp e)) ?_;exact Z (bJ (by have:=o.1;lia)) rfl
end
section
variable{lv:List ez}
theorem tZ{a b:Int}(q:P (.bool (decide (a<b))) m):dz .Lt (.int a) (.int b) m P:=q
theorem Gx{a b:Int}(q:P (.bool (false^^decide (a=b))) m):dz .Eq (.int a) (.int b) m P:=⟨rfl,rfl,q⟩
theorem nz{l:List V}(h:m[n]?=some (.list (l++[x])))(a:l.length<=9000)(q:P x m):jQ (.loc n) (.int (-1)) m P:=cZ h (Z aL<|cV a) Lx q
theorem wr{l:List V}{R:bY}(h:m[n]?=some (.list (l++[x])))(a:l.length<=9000)(q:R (m.set n (.list (l++[v])))):hZ (.loc n) (.int (-1)) v m R:=by
 refine⟨h,l.length,Z aL<|cV a,Z aL<|Jb _,(Z (show(l++[x]).set _ v=l++[v]from by refine Z (qT _ _ (aT _))<|Z (lW ..) ?_;rfl) ?_)⟩
 exact q
theorem uo{P:List (Nat×O)}{x:Nat×O}:(ah h (P++x::RO)).Perm (x::ah h (P++RO)):=Z dM<|Z (dM (R:=P++RO))<|Z cq.symm<|Z cq.symm fj
theorem uq:gm a gone lv np ep (SS++RO)=(lD lv++(dh a gone::(23,.list (fQ lv np ep))::SS))++RO:=by refine Z cq ?_;rfl
abbrev uf(lv:List ez):List V:=(lv.map λl=>hY l.np l.ep).reverse
theorem hW:(uf lv).length=lv.length:=Z List.length_reverse<|Z aY rfl
theorem sV(H:Hx B)(h1:J[1]?=some (some (.obj 0 4)))(L:Lk pre h rs [] N M)(k:M+42<=499)(op:∀i,i<h.s.n->ef (bf h.s.nodes i))(ev:gi h.s.ed=sZ evs)(e:h.mks=(lv.map λl=>og (pre.length+l.p) l.wl).reverse)(c:∀l∈lv,qR rs h.s RO l)(gY:lv.Pairwise λx y=>y.p<=x.p)
 (g:(np,O.list (h.s.nodes.map cA))∈RO)(f:(ep,O.list (gD evs))∈RO)(j:oQ row RO)(p:row.l.length<=100)(W:ae (ah h R) m)
 (q:∀h' a b,eh pre row h' a M lv np ep evs RO->(∀s,cm h s->cm h' s)->h'.s.n=h.s.n->ae (ah h' R) b->Q .none b):(bu B (d+7) (a6 (.expr (.meth 0 459 ax .nil)))).ss J m (dY Q):=
 (d8 h1 ⟨W.get 0 rfl,PZ H L k op ev e c gY g f j p W λh' a b I o n w=>q h' _ b I o n w⟩)
end
inductive kU(h:HS)(lv:List ez)(evs:List (Nat×Nat×Nat))(E K:Nat):Prop
 |mk(e:evs.length<=E)(es:∀l∈lv,l.evs.length<=E)(n:h.s.n<=K)(ns:∀l∈lv,l.s.n<=K)(lb:∀e∈evs,e.2.2<=4)(lbs:∀l∈lv,∀e∈l.evs,e.2.2<=4)
abbrev ri(pre:List V)(row:qK)(h:HS)(N a:Nat)(E K:Nat)(lv:List ez)(SS:List (Nat×O))(Q:aS):Prop:=
 ∀a' gone' h' rs' N' lv' np' ep' evs' RO' m',N'<=N+50->eh pre row h' rs' N' lv' np' ep' evs' RO'->(∀s,cm h s->cm h' s)->a'<=a+10->evs'≠[]->kU h' lv' evs' (E+1) K->lv'.length<=lv.length+1->(aV λ(g1 g2:Nat)=>gone'=V.tup [.int g1,.int g2])->
  ae (ah h' (gm a' gone' lv' np' ep' (SS++RO'))) m'->Q .none m'
section
variable{lv:List ez}{lap w E K:Nat}{rest:bh}
theorem kU.mono(l:kU h lv evs E K)(e:E<=E')(k:K<=K'):kU h lv evs E' K':=⟨aC l.1 e,λx a=>aC (l.2 x a) e,aC l.3 k,λx a=>aC (l.4 x a) k,l.5,l.6⟩
abbrev td:Y:=(a6 (.expr (.meth 0 459 ax .nil)))
abbrev P2:Y:=(cT (.expr (.meth 0 543 ax .nil)) (.expr (.bm 0 aO (aM (.tup mt)))))
abbrev P3:Y:=(dR (.expr (.meth 0 550 ax .nil)) (.expr (.bm 1 aO .nil)) (.asg (.sub aJ (.str pC)) (.up (.sub cz (.neg 1)) (.int 2))))
abbrev s_(lap w np ep:Nat)(rest:bh):bh:=some (.loc 1)::some (.obj 0 4)::some (.loc 23)::some (.int lap)::some (.int w)::some (.loc np)::some (.loc ep)::rest
theorem PV{P:cv}(p:∀J m,(bu B (d+8) td).ss J m (dY Q)->P .next J m)(H:Hx B)(I:eh pre row h rs N lv np ep evs RO)(g:evs≠[])(f:N+92<=499)(b:lv.length<=8)(lp:kU h lv evs E K)(r:aV λ(k n:Nat)=>gone=V.tup [.int k,.int n])(W:ae (ah h (gm a gone lv np ep (SS++RO))) m)(q:ri pre row h N a E K lv SS Q):
 (bu B (d+8) P2).ss (s_ lap w np ep rest) m P:=by
 refine⟨W.get 0 rfl,GL H I g f b W λh1 A m1 c y v e=>⟨(jJ e),af,_,(jJ e),Z aL<|Z hW<|cV b,(Z (show fQ lv np ep++[V.tup _]=fQ (⟨rs.length,A,h.s,np,ep,evs⟩::lv) np ep from by unfold fQ;refine Z List.reverse_cons ?_;rfl) ?_)⟩⟩
 refine p _ _<|sV H rfl c.1 (aE f) c.3 c.4 c.5 c.6 c.7 c.8 c.9 c.10 c.11 (pG e _) λh' z t i x u j=>q a _ h' _ _ _ np ep _ RO t fT i (λs o=>x s (y s o)) (dq _ _) g ⟨aE lp.1,λl b=>?_,Z u<|Z v lp.3,λl b=>?_,lp.5,λl b=>?_⟩ (aT _) r j
 ·rcases bK.mp b with rfl|b
  ·exact(aE lp.1)
  ·exact aE (lp.2 l b)
 ·rcases bK.mp b with rfl|b
  ·exact lp.3
  ·exact lp.4 l b
 ·rcases bK.mp b with rfl|b
  ·exact lp.5
  ·exact lp.6 l b
theorem PW{P:cv}(v:∀J m,(bu B (d+8) td).ss J m (dY Q)->P .next J m)(H:Hx B){l:ez}(I:eh pre row h rs N (l::lv) np ep evs RO)(D:evs≠[])(p:N+92<=499)(x:lv.length<=8)(lp:kU h (l::lv) evs E K)(he:E<=20)(W:ae (ah h (gm a gone (l::lv) np ep (SS++RO))) m)(q:ri pre row h N a E K (l::lv) SS Q):
 (bu B (d+8) P3).ss (s_ lap w np ep rest) m P:=by
 refine⟨W.get 0 rfl,GM H I p W λh1 m1 c G C j=>?_⟩;have e:m1[23]?=some (.list (fQ lv l.np l.ep++[hY np ep])):=by refine Z (jJ j) ?_;unfold fQ;exact Z List.reverse_cons rfl
 refine⟨e,_,_,e,Z aL<|Z hW<|cV x,?_⟩;have g:=pG j (.list (fQ lv l.np l.ep));generalize m1.set 23 _=z at g⊢;refine eC (pI (by have:=List.length_pos_iff.mpr D;exact BE)) λd_ i n=>?_
 have u:d_.length<=20:=by have:=lp.1;rw[n,aL]at this;exact aK he this
 refine(nz (by refine Z ((g.mem (eO (bq _ (az _ (az _ (bq _ I.9)))))))<|Z n ?_;unfold gD;refine Z bz ?_;rfl:z[ep]?=some (.list (gD _++[jT _]))) (bH u) ⟨by decide,by simp,af,?_⟩)
 refine(zY ((g.perm (gy nG)).get _ vm) af ?_);have k:=(g.perm (gy nG)).set _ vm (.sdict (gW a (.tup [.int i.1,.int i.2.1])));rw[yT]at k;refine v _ _<|sV H rfl c.1 (aE p) c.3 c.4 c.5 c.6 c.7 c.8 c.9 c.10 c.11 (k.perm (gy fj)) λh' Φ y r F A t=>q a _ h' _ _ lv _ _ _ RO y fT r (λs o=>F s (G s o)) (dq _ _) (I.6 l aQ).7 ⟨aE (lp.2 l aQ),λf b=>aE (lp.2 f (az _ b)),Z A<|Z C<|lp.4 l aQ,λf b=>lp.4 f (az _ b),lp.6 l aQ,λf b=>lp.6 f (az _ b)⟩ (by simp;exact fT) ⟨i.1,i.2.1,rfl⟩ t
end
section
variable{lv:List ez}{lap w E K:Nat}{rest:bh}
abbrev tX:X:=wx
theorem AE(h3:J[3]?=some (some (.int lap)))(b:lap<=4)(q:Q (.str (fW lap)) m):(au B d tX).e J m Q:=by refine(d8 h3 (bt pO ?_ q));rcases(show lap=0\/lap=1\/lap=2\/lap=3\/lap=4 by exact q7)with rfl|rfl|rfl|rfl|rfl<;>decide+kernel
abbrev Eo:Y:=(dR (.swap2 7 8 tW tW) (.expr (.meth 0 445 ax (cM eY j9 (.tup (aZ (.str w0) tX))))) (.asg rF (.tup (aZ bC (.bin .Add cz (.lst (aM (.tup (cM eY j9 tX)))))))))
abbrev En:Y:=(a6 (.asg rF (.tup (aZ (.call 617 (cM aJ ax bC)) cz))))
theorem Hh{x y c:Nat}:gi (ed++[(x,y,some c)])=gi ed++[(x,y,some c)]:=by unfold gi;refine Z (List.filter_append ..) ?_;rfl
theorem PY{P:cv}(R:∀J m,(bu B (d+8) td).ss J m (dY Q)->P .next J m)(H:Hx B)(I:eh pre row h rs N lv np ep evs RO)(D:N+92<=499)(F:a+10<=10000)(i:lv.length<=8)(c:lap<=4)(lp:kU h lv evs E K)(he:E<=19)(S:aV λ(b M:Nat)=>gone=V.tup [.int b,.int M])(W:ae (ah h (gm a gone lv np ep (SS++RO))) m)(q:ri pre row h N a E K lv SS Q):
 (bu B (d+8) Eo).ss (s_ lap w np ep (x7::x8::rest)) m P:=by
 have n3:=I.1.1.1.4.1;have C:(3,O.list _)∈lD lv++(23,.list (fQ lv np ep))::(SS++RO):=bq _ (az _ (bq _ I.10.1));have A:(np,O.list _)∈lD lv++(23,.list (fQ lv np ep))::(SS++RO):=bq _ (az _ (bq _ I.8));refine⟨_,((W.perm (gy nG)).mem (eO (az _ A))),bH I.1.1.2,(Z aY<|lM H (W.perm (gy nG)) C (cN F) (by lia) I.11 λx m1 T p=>⟨_,(p.mem (eO (az _ A))),bH I.1.1.2,(Z aY<|lM H p C (aE F) (by lia) I.11 λy m2 Ω r=>(cP _ _ rfl (⟨r.get 0 rfl,AE (B:=B) (d:=0) (J:=[none,none,none,some _]) rfl c ⟨af,(Mk H I.1 I.2 T Ω (aE D) rfl r λv h1 β j Φ b t=>?_)⟩⟩)))⟩)⟩
 have g:=t.mem (eO (az _ (bq _ (az _ (bq _ I.9)))));refine(AE (B:=B) (d:=0) (J:=[none,none,none,some _]) rfl c (bt af af (⟨gD _,[jT (x,y,fW _)],by refine Z (cu (bV.mp g).1) ?_;exact g,cj _ _,Z ((Z aY rfl:(gD _).length=evs.length))<|aK he lp.1,af,?_⟩)))
 have f:=(t.app [O.list [jT (x,y,fW lap)]]).new (.list (gD (evs++[(x,y,lap)])));refine Z (show gD _++[jT _]=gD (evs++[(x,y,lap)])from by unfold gD;refine Z bz ?_;rfl) ?_
 replace f:ae (((j++[O.list [V.tup [.int x,.int y,.str (fW _)]]]).length,.list _)::ah h1 _) (j++[O.list [V.tup [.int x,.int y,.str (fW _)]]]++[O.list _]):=f;generalize j++[O.list _]++[O.list _]=m4 at f⊢;generalize(j++[O.list _]).length=k at f⊢;have u:=f.perm (L':=ah h1 (gm _ _ lv np ep _)) (Z uq<|uo.trans (List.Perm.cons _ (Z uq.symm (gy fj))));refine(wr (jJ u) (Z hW<|aF i) ?_);have n:h1.s.n=h.s.n:=bg List.length b.1
 refine R _ _<|sV (RO:=(k,.list (gD (evs++[(x,y,lap)])))::RO) H rfl Φ D (Z n<|Z b.1 I.3) (by refine Z b.2<|Z Hh<|Z I.4 ?_;unfold sZ;refine Z bz ?_;rfl) (b.4.trans I.5) (λl i=>(I.6 l i).ext b.3 λz hz=>az _ hz) I.7
  (Z b.1<|az _ I.8) aQ I.10.cons I.11 (pG u (.list (fQ lv np _))) λh' α Ψ G o' n' L=>?_
 refine q _ _ h' _ _ lv np _ _ _ Ψ (aT _) G (λs o=>o' s (o.step b.5 ((aA n.symm)) (Z b.2<|Z aL<|dq _ _) λ_ z=>by rw[b.2,aL]at z;lia)) fT (by simp) ⟨Z aL<|aE lp.1,λl i=>aE (lp.2 l i),Z n'<|Z n lp.3,lp.4,λe he=>(cO.mp he).elim (lp.5 e) λz=>Z (b5.mp z) c,lp.6⟩ (dq _ _) S L
theorem PX{P:cv}(v:∀J m,(bu B (d+8) td).ss J m (dY Q)->P .next J m)(H:Hx B)(I:eh pre row h rs N lv np ep evs RO)(y:evs≠[])(n:N+92<=499)(F:a+10<=10000)(b:lv.length<=8)(G:h.s.n<6)(lp:kU h lv evs E K)(x:aV λ(c D:Nat)=>gone=V.tup [.int c,.int D])(W:ae (ah h (gm a gone lv np ep (SS++RO))) m)(q:ri pre row h N a E (K+1) lv SS Q):
 (bu B (d+8) En).ss (s_ lap w np ep rest) m P:=by
 refine(CB H I.1 I.2 G (aE n) I.3 F (bq _ (az _ (bq _ I.10.1))) I.11 (bq _ (az _ (bq _ I.8))) (W.perm (gy nG)) (λg m1 e k=>?_) (λg o ks h1 L M Φ m1 e oo C c _ k=>?_))
 ·exact⟨af,(have f:=k.perm (gy fj);(wr (jJ f) (Z hW<|aF b) (v _ _<|sV H rfl I.1 (aE n) I.3 I.4 I.5 I.6 I.7 I.8 I.9 I.10 I.11 (pG f (.list (fQ lv np ep))) λh' u p i t r j=>q g _ h' _ _ lv np ep _ RO p fT i t (aE e) y ⟨aE lp.1,λl b=>aE (lp.2 l b),aK (aA r) lp.3,λl b=>by have:=lp.4 l b;exact aE this,lp.5,lp.6⟩ (dq _ _) x j)))⟩
 ·refine⟨af,?_⟩
  have f:=k.perm (L':=ah h1 (gm g _ lv np ep _)) (Z uq<|uo.trans<|Z uq.symm<|(List.Perm.cons _ (gy fj)).trans<|Z dM<|Z (dM (R:=_::_::_))<|fj.symm.trans (ma _ (List.Perm.swap _ _ _)));refine(wr (jJ f) (Z hW<|aF b) ?_);have A:h1.s.n=h.s.n+1:=by unfold PS.n;exact Z c.1<|Z aL rfl
  exact v _ _<|sV H rfl C (aE n) (by unfold PS.n;exact Z c.1<|BS I.3 oo.f ks) (c.2.trans I.4) (c.4.trans I.5) (λl b=>(I.6 l b).ext c.3 λz hz=>az _ hz) I.7
   aQ (az _ I.9) I.10.cons I.11 (pG f (.list (fQ lv _ ep))) λh' u p i t r j=>q g _ h' _ _ lv _ ep _ _ p fT i (λs o=>t s (o.step c.5 (aE (aA A.symm)) c.7 λz=>by lia)) (aE e) y ⟨aE lp.1,λl b=>aE (lp.2 l b),dL (aA A) (aA r) lp.3,λl b=>by have:=lp.4 l b;exact aE this,lp.5,lp.6⟩ (dq _ _) x j
end
section
variable{lv:List ez}{lap w E K:Nat}{rest:bh}
abbrev GO:X:=(.ite (.cmp .Lt aW (.int 3)) (.sub (.tup (cM (.int 3) (.int 0) (.int 3))) aW) (.call 590 (aZ aJ (.int 5))))
theorem GN(H:Hx B)(I:eh pre row h rs N lv np ep evs RO)(g:a+20<=10000)(f:J[0]?=some (some (.loc 1)))(b:J[3]?=some (some (.int lap)))(W:ae (ah h (gm a gone lv np ep (SS++RO))) m)
 (q:∀(w a1:Nat) m1,a1<=a+1->w<5->(lap<3->w=if lap=1 then 0 else 3)->ae (ah h (gm a1 gone lv np ep (SS++RO))) m1->P (.int w) m1):(au B (d+8) GO).e J m P:=by
 refine(d8 b (tZ ?_))
 by_cases i:lap<3
 ·refine bD (by simp;exact uv) ⟨af,d8 b ?_⟩
  clear b;rcases(show lap=0\/lap=1\/lap=2 by exact q6)with rfl|rfl|rfl
  ·exact⟨_,af,rfl,q 3 a m (dq _ _) af (λ_=>rfl) W⟩
  ·exact⟨_,af,rfl,q 0 a m (dq _ _) af (λ_=>rfl) W⟩
  ·exact⟨_,af,rfl,q 3 a m (dq _ _) af (λ_=>rfl) W⟩
 ·exact bn (by simp;exact uw) (d8 f (lM (many:=5) H (W.perm (gy nG)) (bq _ (az _ (bq _ I.10.1))) (cN g) af I.11 λv m1 j c=>q v _ m1 (aT _) j (λz=>absurd z i) (c.perm (gy fj))))
theorem P0(H:Hx B)(I:eh pre row h rs N lv np ep evs RO)(s:0<lap->evs≠[])(k:N+92<=499)(p:a+30<=10000)(i:lv.length<=8)(j:lap<=4)(P:3<=lap->h.s.n<6)(lp:kU h lv evs E K)(he:E<=19)(r:aV λ(F G:Nat)=>gone=V.tup [.int F,.int G])(W:ae (ah h (gm a gone lv np ep (SS++RO))) m)
 (q:ri pre row h N (a+1) E (K+if lap<3 then 0 else 1) lv SS Q):aP B (d+9) 624 [.loc 1,.obj 0 4,.loc 23,.int lap] m Q:=by
 refine bv H 51 rfl rfl<|GN (J:=[some _,none,none,some _]) H I (aE p) rfl rfl W λw a1 m1 ha1 u f g=>(nz (jJ g) (Z hW<|aF i) (dm af rfl rfl ?_));have q1:∀n,n<=K+(if lap<3 then 0 else 1)->ri _ _ h N a1 E n lv SS Q:=λn Φ A o h' S x L R C t y M x1 x2 T Ω Ψ x6 x7 x8 x9=>q A _ h' _ x _ _ _ _ _ M x1 x2 T (aK ha1 Ω) Ψ (x6.mono (aT _) Φ) x7 x8 x9
 have c:w=0\/(w<3/\1<lv.length+1)\/w=4->evs≠[]:=λz=>s (by
  refine Nat.pos_of_ne_zero λe=>?_;clear s W q u;subst e;have:=f af
  lia)
 refine(Gx ?_)
 by_cases w0:w=0
 ·clear s W q u;subst w0
  exact bD rfl<|PV (λ_ _ z=>z) H I (c (.inl rfl)) k i lp r g (q1 K (dq _ _))
 refine bn (by simp;exact w0) ?_
 refine(tZ ?_)
 have b:(bu B (d+8) (a6 (.iff (.cmp .Lt bc (.int 4)) Eo En))).ss (s_ lap w np ep (List.replicate 6 none)) m1 λD J m=>match D with
  | .next=>(bu B (d+8) td).ss J m (dY Q)
  | .ret v=>dY Q (.ret v) J m:=by
  refine(tZ ?_)
  by_cases w4:w<4
  ·exact bD (by simp;exact uv) (PY (λ_ _ z=>z) H I k (aK p ha1) i j lp he r g (q1 K (dq _ _)))
  ·refine bn (by simp;exact uw) (PX (λ_ _ z=>z) H I (c (.inr (.inr (by lia)))) k (aK p ha1) i (P (Nat.not_lt.mp λz=>?_)) lp r g (q1 _ ?_))
   ·have:=f z
    split at this<;>lia
   ·have:¬lap<3:=λz=>by
     have:=f z
     split at this<;>lia
    exact Z (ai this)<|aT _
 by_cases w3:w<3
 ·refine bD (by simp;exact uv) ⟨_,(jJ g),Z aL<|Z hW<|cV i,z8 ?_⟩
  by_cases l1:1<lv.length+1
  ·refine bD (by refine Z aL<|Z hW ?_;simp;exact uv) ?_
   cases lv with
   |nil=>trivial
   |cons l lv=>exact PW (λ_ _ z=>z) H I (c (.inr (.inl ⟨w3,l1⟩))) k (cN i) lp (aF he) g (q1 K (dq _ _))
  ·exact bn (by refine Z aL<|Z hW ?_;simp;exact uw) b
 ·exact bn (by simp;exact uw) b
end
theorem Kf{w c:Nat×O}{X:List (Nat×O)}:(ah h (w::c::X)).Perm (c::ah h (w::X)):=by refine Z dM<|Z (dM (R:=w::X)) ?_;have:=fj (l₁:=ah h []++[w]) (a:=c) (l₂:=X);rw[kS,kS]at this;exact this
theorem IW:(a8 s (ah h (w::(C++R)))).Perm (ah h (w::(C++(dK s++R)))):=by
 refine Z ((by refine Z dM<|Z cq ?_;rfl:ah h _=(ah h []++(w::C))++R)) ?_;refine Z ((by refine Z dM<|Z cq ?_;rfl:ah h (w::(C++(dK s++R)))=(ah h []++(w::C))++(dK s++R))) ?_
 exact((tC _ _ R):(dK s++((ah h []++(w::C))++R)).Perm _)
inductive jw(B:bB)(D:Nat):Prop
 |mk(like:∀{h:HS}{s:SH}{R:List (Nat×O)}{m:av}{Q:aS}{a b lp due:Nat}{labels:List Str},kP h->cm h s->a<h.s.n->b<h.s.n->h.s.al a b->(∀s' x,fK h.s s'->cF s' a b=some x->due=min x 3)->(lp,O.list (gj labels))∈R->(∀l,oW h l->l∈labels)->(∀l∈labels,(V.str l).plain 8=true)->labels.length<=100->ae (a8 s (ah h R)) m->(∀s' m',s'.z=s.z->cm h s'->ae (a8 s' (ah h R)) m'->Q (.bool true) m')->aP B D 634 [.obj 3 s.z,.int a,.int b,.int due,.loc lp] m Q)(notl:∀{h:HS}{s:SH}{R:List (Nat×O)}{m:av}{Q:aS}{a b lp:Nat},kP h->cm h s->a<h.s.n->b<h.s.n->¬h.s.al a b->ae (a8 s (ah h R)) m->(∀s' m',s'.z=s.z->cm h s'->ae (a8 s' (ah h R)) m'->Q (.bool true) m')->aP B D 634 [.obj 3 s.z,.int a,.int b,.int (-1),.loc lp] m Q)
theorem jw.like'(I:jw B D)(hz:s.z=z)(r:kP h)(o:cm h s)(i:a<h.s.n)(j:b<h.s.n)(f:h.s.al a b)(k:∀s' x,fK h.s s'->cF s' a b=some x->due=min x 3)(n:(lp,O.list (gj labels))∈R)(h1:∀l,oW h l->l∈labels)(g:∀l∈labels,(V.str l).plain 8=true)(h3:labels.length<=100)
 (W:ae (a8 s (ah h R)) m)(q:∀s' e,s'.z=z->cm h s'->ae (a8 s' (ah h R)) e->Q (.bool true) e):aP B D 634 [.obj 3 z,.int a,.int b,.int due,.loc lp] m Q:=by
 subst hz;exact I.1 r o i j f k n h1 g h3 W q
theorem jw.not'(I:jw B D)(hz:s.z=z)(r:kP h)(o:cm h s)(e:a<h.s.n)(f:b<h.s.n)(d:¬h.s.al a b)
 (W:ae (a8 s (ah h R)) m)(q:∀s' c,s'.z=z->cm h s'->ae (a8 s' (ah h R)) c->Q (.bool true) c):aP B D 634 [.obj 3 z,.int a,.int b,.int (-1),.loc lp] m Q:=by
 subst hz;exact I.2 r o e f d W q
def kL(evs:List (Nat×Nat×Nat)):List (Nat×Nat×Str):=evs.map λe=>(e.1,e.2.1,fW e.2.2)
theorem Ob:gD evs=(kL evs).map jT:=by refine Z eG ?_;rfl
theorem Oa:(a,b)∈ey (kL evs)↔∃c,(a,b,c)∈evs:=by
 unfold ey kL;refine Z eG ?_;constructor
 ·refine λh=>ac (bT.mp h) λe h1 f=>?_
  have d:=ji f;clear f;exact Z d.1.symm<|Z d.2.symm<|⟨e.2.2,h1⟩
 ·rintro⟨c,h⟩
  exact bT.mpr (ad _ h rfl)
section
variable{lv:List ez}
theorem eh.told(I:eh pre row h rs N lv np ep evs RO){a b c:Nat}:(a,b,some c)∈h.s.ed↔(a,b,c)∈evs:=by
 rewrite[<-(by unfold gi;rewrite[iX];exact⟨λz=>z.1,λz=>⟨z,rfl⟩⟩:(a,b,some c)∈gi _↔(a,b,some c)∈h.s.ed)];refine Z I.4 ?_
 constructor
 ·refine λh=>ac (bT.mp h) λe d h3=>?_
  cases h3
  exact d
 ·exact λh=>bT.mpr (ad _ h rfl)
theorem eh.toldP(I:eh pre row h rs N lv np ep evs RO):(λa b=>(a,b)∈ey (kL evs))=fm h.s.ed:=by
 funext a b
 refine propext (Oa.trans ⟨λw0=>(by refine aI w0 λc z=>?_;clear w0;exact⟨c,I.told.mpr z⟩),λw0=>(by refine aI w0 λc z=>?_;clear w0;exact⟨c,I.told.mp z⟩)⟩)
theorem eh.tol(I:eh pre row h rs N lv np ep evs RO)(a:evs.length<=40):iR h.s.nodes (ey (kL evs)):=⟨I.1.1.1.4,I.3,λe he=>have:fm _ _ _:=Z I.toldP.symm he;⟨(I.1.1.1.9 _ _ this).1,(I.1.1.1.9 _ _ this).2.1⟩,Z aY<|Z aY a,by have:=I.1.1.2;lia⟩
theorem eh.rst(I:eh pre row h rs N lv np ep evs RO):kP h:=⟨I.1.1,I.2,I.1.2,I.3⟩
end
theorem MB{R:cD}(b:src m):∀(l:List (Nat×Nat×Str)) acc l0 l1 l2 l3,acc.length+l.length<=1000->R (acc++gj (l.map (·.2.2))) m->
 cR (au B d (.tup po)).t src (λ_ m Q=>Q true m) (au B d aW).e (l.map jT) acc [l0,l1,l2,l3] m R:=by
 intro l
 induction l with
 |nil=>exact@λacc _ _ _ _ _ q=>⟨b,by simpa[gj]using q⟩
 |cons a l f=>intro acc l0 l1 l2 l3 c q;rw[bU]at c;exact(dm b rfl (cN c) (f _ _ _ _ _ (Z aL<|aE c) (Z cq q)))
abbrev Jf:Y:=(a6 (.expr (.bm 2 j_ (aM (.lst (aZ (.tup (aZ pr pq)) (.tup (aZ pq pr))))))))
theorem IV(H:Hx B){rest:bh}{P:cv}(C:(p,O.list (nodes.map cA))∈L)(he:(ep,O.list k)∈L)(n:nodes.length<=1000)(g:Gr nodes.length (bf nodes) (aH nodes)):
 ∀b acc m h i j,(∀e∈b,e.1<nodes.length/\e.2.1<nodes.length)->acc.length+2*b.length<=1000->ae ((r,.list (acc.map g5))::L) m->
 (∀h i j o,ae ((r,.list ((acc++dw nodes (ey b)).map g5))::L) o->P .next (v0::E::v2::some (.loc p)::G::h::i::j::I::Φ::some (.loc r)::rest) o)->
 dy (au B (d+2) (.tup (cM bC cz eY))).t (λm=>m[ep]?=some (.list k)) (bu B (d+2) Jf).ss (b.map jT) (v0::E::v2::some (.loc p)::G::h::i::j::I::Φ::some (.loc r)::rest) m P:=by
 intro b
 induction b with
 |nil=>exact@λacc m h i j _ _ W q=>⟨W.mem (az _ he),q _ _ _ m (by simpa[dw,ey]using W)⟩
 |cons e b D=>
  intro acc m h i j l a W q;rw[bU]at a;have c:=az (r,O.list (acc.map g5)) C;refine(bt (W.mem (az _ he)) rfl (⟨W.get 0 rfl,((qc H W c n g (l e aQ).1 λm1 u=>(qc H u c n g (l e aQ).2 λM v=>⟨af,((qc H v c n g (l e aQ).2 λN x=>(qc H x c n g (l e aQ).1 λQ y=>(bt af af ?_))))⟩)))⟩));have s:=y.new (.list [g5 (bP nodes e.1,bP nodes e.2.1),g5 (bP nodes e.2.1,bP nodes e.1)]);refine⟨acc.map _,_,s.get 1 rfl,s.get 0 rfl,by simp;exact cN a,?_⟩
  have z:=(s.set 1 rfl (.list ((acc++[(bP nodes e.1,bP nodes e.2.1),(bP nodes e.2.1,bP nodes e.1)]).map g5))).sub (dB _ _);refine Z (show acc.map _++[g5 _,g5 _]=(acc++[(bP _ _,bP _ _),(bP _ _,bP _ _)]).map g5 from by refine Z bz ?_;rfl) ?_
  refine D _ _ _ _ _ (λf A=>l f (az _ A)) (by simp;exact aE a) z λh i j o w=>q h i j o ?_
  have:acc++dw nodes (ey (e::b))=acc++[(bP nodes e.1,bP nodes e.2.1),(bP nodes e.2.1,bP nodes e.1)]++dw nodes (ey b):=by unfold dw ey;exact Z List.flatMap_cons<|Z cq rfl
  exact Z this w
section
variable{lv:List ez}{XC:List (Nat×O)}
abbrev aB:Y:=(a6 (.iff (.cmp .Lt (.blt 3 mt) i6) (cT (.asg o_ (.ite (.cmp .Eq (.sub j9 bC) (.sub j9 cz)) (.call 629 (cM pr pq j_)) (.neg 1))) (.iff (.or (.not (.call 634 (pu ax bC cz o_ i4))) (.not (.call 634 (pu ax cz bC o_ i4)))) mj .nil)) .nil))
theorem Ky(H:Hx B)(Φ:jw B (d+3))(I:eh pre row h rs N lv np ep evs RO)(Ψ:evs.length<=20)(lb:∀e∈evs,e.2.2<=4){z hp lp sp op:Nat}{prs0:List V}(n:hs.length=h.s.n)(hh:∀a b,a<h.s.n->b<h.s.n->(aX hs a=aX hs b↔h.s.al a b))
 (S:(np,O.list (h.s.nodes.map cA))∈XC)(c2:(hp,O.list (nV hs))∈XC)(c3:(lp,O.list (gj (evs.map λe=>fW e.2.2)))∈XC)(c4:(sp,O.list ((dw h.s.nodes (ey (kL evs))).map g5))∈XC)(c5:(op,O.list prs0)∈XC){v0 v2 v4 x7:Option V}{rest:bh}{P:cv}:
 ∀(k:List (Nat×Nat)) s m u v i,s.z=z->cm h s->ae (a8 s (ah h XC)) m->
 (∀s' m' u v i,s'.z=z->cm h s'->ae (a8 s' (ah h XC)) m'->P .next (v0::some (.obj 3 z)::v2::some (.loc np)::v4::u::v::x7::some (.loc hp)::some (.loc lp)::some (.loc sp)::some (.loc op)::i::rest) m')->
 dy (au B (d+3) (.tup mt)).t (λm=>m[op]?=some (.list prs0)) (bu B (d+3) aB).ss (k.map pV) (v0::some (.obj 3 z)::v2::some (.loc np)::v4::u::v::x7::some (.loc hp)::some (.loc lp)::some (.loc sp)::some (.loc op)::i::rest) m P:=by
 intro k
 induction k with
 |nil=>exact@λs m u v i hz G W q=>⟨W.mem (bq (dK s) (eO c5)),q s m _ _ _ hz G W⟩
 |cons p k ih=>
  intro s m u v i hz G W q;have F:=I.1.1.2;have nl:h.s.nodes.length=h.s.n:=rfl;have T:=I.tol (aF Ψ);have g:∀{s:SH}{m:av}{c:Nat}{o:O},ae (a8 s (ah h XC)) m->(c,o)∈XC->m[c]?=some o:=λ{s} _ _ _ w hc=>w.mem (bq (dK s) (eO hc))
  have nx:∀s1 m1 u v i,s1.z=z->cm h s1->ae _ m1->dy _ (λm=>m[op]?=some _) _ _ _ m1 P:=λs1 m1 y5 y6 β α j M=>ih s1 m1 y5 y6 β α j M q
  refine(bt (g W c5) rfl (⟨_,g W S,bH F,?_⟩))
  by_cases f:p.1<h.s.n/\p.2<h.s.n
  case neg=>exact bn (by refine Z aY ?_;split<;>simp<;>lia) (nx s m _ _ _ hz G W)
  refine bD (by refine Z aY ?_;split<;>simp<;>lia) ?_
  refine(cZ (g W c2) (Z a9<|aK (aA n) F) (cU (lR (aC f.1 (aA n.symm)))) (cZ (g W c2) (Z a9<|aK (aA n) F) (cU (lR (aC f.2 (aA n.symm)))) (nC ?_)))
  by_cases e:aX hs p.1=aX hs p.2
  ·have A:=(hh _ _ f.1 f.2).mp e
   have mR:∀{s:SH}{y:Nat×O},y∈XC->y∈a8 s (ah h XC):=λ{s} _ hy=>bq (dK s) (eO hy);refine bD (by simp;exact bg _ e) (qc H W (mR S) (aF F) T.1 f.1 λm1 M=>?_)
   refine(qc H M (mR S) (aF F) T.1 f.2 λm2 W2=>(Ot H T f.1 f.2 d W2 (mR c4) λm3 W3=>?_));have D:∀l,oW h l->l∈evs.map λe=>fW e.2.2:=λl w0=>(by refine om w0 λa b c h1 h2=>?_;clear w0;exact bT.mpr (ad _ (I.told.mp h1) h2.symm))
   have E:∀l∈evs.map (λe=>fW e.2.2),(V.str l).plain 8=true:=λl n=>by refine ac (bT.mp n) λe he Ω=>?_;clear n;subst Ω;have:=lb e he;rcases(show e.2.2=0\/e.2.2=1\/e.2.2=2\/e.2.2=3\/e.2.2=4 by exact q7)with q|q|q|q|q<;>refine Z q ?_<;>decide+kernel
   have dc:∀s' x,fK _ s'->cF s' _ _=some x->s7 _ _ p.1 p.2=min x 3:=λs' x C hx=>by have c:=C.1;rw[<-I.toldP]at c;exact Os T c hx
   exact Φ.like' hz I.rst G f.1 f.2 A dc c3 D E (bH Ψ) W3 λs1 m4 z1 j Q=>eE<|Φ.like' z1 I.rst j f.2 f.1 A.symm (λs' x C hx=>dc s' x C (C.1.sym hx)) c3 D E (bH Ψ) Q λs2 m5 z2 r R=>eE (nx s2 m5 _ _ _ z2 r R)
  ·exact have A:=λz=>e ((hh _ _ f.1 f.2).mpr z);bn (by simp;exact jM e)<|Φ.not' hz I.rst G f.1 f.2 A W λs1 m4 z1 j Q=>eE<|Φ.not' z1 I.rst j f.2 f.1 (λz=>A z.symm) Q λs2 m5 z2 r R=>eE (nx s2 m5 _ _ _ z2 r R)
end
theorem GG:bO pC (gW a gone)=some gone:=rfl
theorem BJ{C Y:List (Nat×O)}:(ah h (w::(C++Y))).Perm (C++ah h (w::Y)):=by
 refine Z ((by refine Z dM<|Z cq ?_;rfl:ah h _=(ah h []++[w])++(C++Y))) ?_;refine Z ((by refine Z dM<|Z cq ?_;rfl:ah h (w::Y)=(ah h []++[w])++Y)) ?_
 exact tC _ C Y
theorem IY:(ah h (w::(C++(dK s++R)))).Perm (C++a8 s (ah h (w::R))):=
 BJ.trans (ma C BJ)
theorem HT:(a8 s (ah h (w::R))).Sublist (a8 s (ah h (w::(C++R)))):=by refine Z dM<|Z (dM (R:=w::(C++R))) ?_;generalize ah h []=P;exact kT (l_ (dK s)) (kT (l_ _) ((List.sublist_append_right C R).cons_cons _))
section
variable{lv:List ez}
set_option maxHeartbeats 2000000 in
theorem E4(H:Hx B)(IR:jw B (d+3))(I:eh pre row h rs N lv np ep evs RO)(ne:evs≠[])(n:evs.length<=20)(lb:∀e∈evs,e.2.2<=4){a i j:Nat}(ha:a+10<=10000)(so:cm h s)(r:∀x∈RO,x∈R)(W:ae (a8 s (ah h (dh a (.tup [.int i,.int j])::R))) m)
 (q:∀s' Ψ v,s'.z=s.z->Ψ<=a+2->cm h s'->ae (a8 s' (ah h (dh Ψ (.tup [.int i,.int j])::R))) v->Q (.bool true) v):aP B (d+4) 639 [.loc 1,.obj 3 s.z,hY np ep] m Q:=by
 have nl:h.s.nodes.length=h.s.n:=rfl;have T:=I.tol (aF n);have b:∀{w:Nat×O}{y:Nat×O},y∈R->y∈a8 s (ah h (w::R)):=λt=>bq (dK s) (eO (az _ t));have c:(ep,O.list ((kL _).map _))∈R:=Z Ob.symm<|r _ I.9;have f:=r _ I.8;have sl:(kL _).length<=20:=Z aY n;refine bv H 53 rfl rfl<|⟨rfl,((Nh H T (λz=>ne (List.map_eq_nil_iff.mp z)) W (b f) (b c) (aF I.1.1.2) λhp hs m1 hl hh D=>?_))⟩;rw[I.toldP]at hh;refine(ad _ (D.mem (az _ (b c))) (MB (D.mem (az _ (b c))) _ [] none none none none (by simp;exact aF sl) ?_))
 rewrite[js,show(kL _).map _=evs.map λe=>fW _ from by refine Z eG ?_;rfl]
 have o:=D.new (.list (gj (evs.map λe=>fW e.2.2)));generalize m1++[O.list (gj (evs.map λe=>fW _))]=m2 at o⊢;generalize m1.length=lp at o⊢;refine⟨af,_,_,_,rfl,((ad _ ((o.new _).mem (az _ (az _ (az _ (b c))))) (IV H (az _ (az _ (b f))) (az _ (az _ (b c))) (aF I.1.1.2) T.1 _ [] _ _ _ _ (λe he=>T.3 _ (bT.mpr (ad e he rfl))) (by simp;lia) (o.new _) λx5 x6 x7 m4 M=>?_)))⟩
 generalize m2.length=sp at M⊢;obtain⟨C,p⟩:∃C:List _,C=[(sp,O.list ((dw h.s.nodes (ey (kL evs))).map g5)),(lp,.list (gj (evs.map λe=>fW e.2.2))),(hp,.list (nV hs))]:=⟨_,rfl⟩;have P:ae (ah h (dh a _::(C++(dK s++R)))) m4:=Z p<|M.perm IY;have k:∀{y:Nat×O}{w:Nat×O},y∈R->y∈ah h (w::(C++(dK s++R))):=λt=>eO (az _ (bq _ (bq _ t)));have cr:(3,O.list _)∈C++(dK s++R):=bq _ (bq _ (r _ I.10.1));refine⟨_,P.mem (k f),bH I.1.1.2,(Z aY<|Z nl<|lM H P cr (cN ha) (aE I.1.1.1.4.1) I.11 λx m5 hx S=>⟨_,S.mem (k f),bH I.1.1.2,(Z aY<|Z nl<|lM H S cr (aE ha) (aE I.1.1.1.4.1) I.11 λy A t F=>⟨af,(eC (pI (by have:=List.length_pos_iff.mpr ne;exact BE)) λd_ l ee=>?_)⟩)⟩)⟩
 refine(nz (by refine Z (F.mem (k (r _ I.9)))<|Z ee ?_;unfold gD;refine Z bz ?_;rfl:A[ep]?=some (.list (gD _++[jT _]))) (bH (by rw[ee,aL]at n;exact cN n:d_.length<=20)) ⟨by decide,by simp,af,?_⟩)
 refine(tR (F.get _ vm) GG ⟨af,?_⟩);have Ω:=F.new (.list (([(x,y),(l.1,l.2.1),(i,j)]).map pV));refine(ad _ (Ω.get 0 rfl) ?_);have W9:=Ω.perm (L':=a8 s (ah h (dh _ _::(((A.length,.list _)::C)++R)))) (IW.trans Kf);have G:∀u∈C,u∈dh (a+1+1) (V.tup [.int i,.int j])::(((A.length,O.list (([(x,y),(l.1,l.2.1),(i,j)]).map pV))::C)++R):=λu Φ=>az _ (az _ (jt _ Φ));have rX:∀u∈R,u∈dh (a+1+1) (V.tup [.int i,.int j])::(((A.length,O.list (([(x,y),(l.1,l.2.1),(i,j)]).map pV))::C)++R):=λu Φ=>az _ (az _ (bq _ Φ));refine Ky H IR I n lb hl hh (rX _ f) (G _ (by refine Z p ?_;simp)) (G _ (by refine Z p ?_;simp)) (G _ (by refine Z p ?_;simp)) (az _ aQ) _ s _ _ _ _ rfl so W9 λs' v y5 y6 y12 hz L E=>?_
 exact q s' (a+1+1) v hz (aT _) L (E.sub HT)
end
def nW(script:List Int):List Int:=(script.take 45).map λc=>c.fmod 1000003
theorem LW{R:cD}(b:src m):∀l acc l0 l1 l2,acc.length+l.length<=1000->R (acc++iV (l.map λc=>c.fmod 1000003)) m->
 cR (au B d ax).t src (λ_ m Q=>Q true m) (au B d wA).e (iV l) acc [l0,l1,l2] m R:=λl acc l0 l1 l2 f q=>lP b l _ l0 l1 (λa _ _ _ q=>⟨by decide,q⟩) (aF f) (by unfold iV at q;rw[eG]at q;exact q)
abbrev GJ:X:=(.dict 0 (.pair (.str rO) (.comp [none,none,none] ax (.up aJ (.int 45)) .nil wA) (.pair (.str pD) (.int 0) (.pair (.str pC) (.tup (aZ (.int 0) (.int 1))) .nil))))
theorem GH(c:script.length<=63)(b:J[0]?=some (some (.loc 0)))(q:Q (.loc 1) [.fix ob (iV script),.sdict (gW 0 (.tup [.int 0,.int 1])),.list (iV (script.take 45)),.list (iV (nW script))]):(au B d GJ).e J [.fix ob (iV script)] Q:=by
 refine(d8 b (gP _ (.inr ⟨ob,rfl⟩) (by decide) (aK c (aA (by exact eH _:(iV _).length=script.length))) (Z (show(iV _).take _=iV (script.take 45)from by refine Z List.map_take.symm ?_;rfl) ?_)))
 refine⟨_,rfl,(LW (src:=λm=>m[2]?=some _) rfl _ [] none none none (by refine Z qX ?_;simp;exact pP) ?_)⟩
 exact(bt af (λl=>nofun) (tT rfl af (tT rfl af (tT rfl af q))))
theorem Bf:(a8 s (ah h (w::(mk++(A++Ψ))))).Perm (ah h (mk++(w::(A++(dK s++Ψ))))):=by
 have b:(ah h (mk++(w::(A++(dK s++Ψ))))).Perm ((ah h []++(w::(mk++A)))++(dK s++Ψ)):=by refine Z dM<|Z cq ?_;rewrite[List.cons_append];exact Z cq<|ma _ fj
 refine Z ((by refine Z dM<|Z cq ?_;rewrite[List.cons_append];exact Z cq rfl:ah h _=(ah h []++(w::(mk++A)))++Ψ)) ?_
 exact(tC _ _ Ψ).trans b.symm
inductive oV(pre:List V)(row:qK)(z1 z2 i:Nat)(h:HS)(rs:List ec)(N:Nat)(lv:List ez)(np ep:Nat)(evs:List (Nat×Nat×Nat))(RO:List (Nat×O))(a:Nat)(gone:V)(s1 s2:SH):Prop
 |mk(inv:eh pre row h rs N lv np ep evs RO)(nN:N<=60+50*i)(na:a<=10+20*i)(ne:0<i->evs≠[])(lp:kU h lv evs i (4+(i-3)))(lvl:lv.length<=i)(gn:aV λ(g1 g2:Nat)=>gone=V.tup [.int g1,.int g2])(o1:cm h s1)(o2:cm h s2)(e1:s1.z=z1)(e2:s2.z=z2)
def ou(kp z1 z2:Nat):Nat×O:=(kp,.list [.obj 3 z1,.obj 3 z2])
abbrev iE(h:HS)(lv:List ez)(np ep:Nat)(RO:List (Nat×O))(a:Nat)(gone:V)(s1 s2:SH)(k:Nat×O):List (Nat×O):=ah h (gm a gone lv np ep ((dK s1++(dK s2++[k]))++RO))
section
variable{z1 z2:Nat}{lv:List ez}{s1 s2:SH}{kp:Nat}
theorem CU:(a8 s1 (ah h (dh a gone::(lD lv++([(23,.list (fQ lv np ep))]++((dK s2++[k])++RO)))))).Perm (iE h lv np ep RO a gone s1 s2 k):=by refine Bf.trans ?_;unfold iE gm;exact List.Perm.refl _
theorem yu:(a8 s2 (ah h (dh a gone::(lD lv++(((23,.list (fQ lv np ep))::dK s1)++([k]++RO)))))).Perm (iE h lv np ep RO a gone s1 s2 k):=by refine Bf.trans ?_;unfold iE gm;exact List.Perm.refl _
theorem zI(H:Hx B)(o:jw B (d+3))(S:oV pre row z1 z2 i h rs N lv np ep evs RO a0 gone s1 s2)(c:a+10<=10000)(p:0<i)(r:i<=20) v(u:v<2)(W:ae (iE h lv np ep RO a gone s1 s2 (ou kp z1 z2)) m)
 (q:∀b f g e,b<=a+2->oV pre row z1 z2 i h rs N lv np ep evs RO a0 gone f g->ae (iE h lv np ep RO b gone f g (ou kp z1 z2)) e->Q (.bool true) e):aP B (d+4) 639 [.loc 1,.obj 3 (if v=0 then z1 else z2),hY np ep] m Q:=by
 refine eC S.7 λs t k=>?_;subst k;rcases(show v=0\/v=1 by exact q5)with rfl|rfl
 ·exact Z S.10.symm<|E4 H o S.1 (S.4 p) (aC S.5.1 r) S.5.5 c S.8 (λx l=>bq _ (bq _ (bq _ l))) (W.perm CU) λs' b e hz c n j=>q b s' s2 e c ⟨S.1,S.2,S.3,S.4,S.5,S.6,S.7,n,S.9,hz.trans S.10,S.11⟩ (j.perm CU.symm)
 ·exact Z S.11.symm<|E4 H o S.1 (S.4 p) (aC S.5.1 r) S.5.5 c S.9 (λx l=>bq _ (bq _ (bq _ l))) (W.perm yu) λs' b e hz c n j=>q b s1 s' e c ⟨S.1,S.2,S.3,S.4,S.5,S.6,S.7,S.8,n,S.10,hz.trans S.11⟩ (j.perm yu.symm)
theorem OB(H:Hx B)(W:ae (ah h R) m)(a:h.mks.length<=100)(q:Q (.int h.mks.length) m):aP B (d+1) 536 [.obj 0 4] m Q:=bv H 40 rfl rfl<|⟨W.get 0 rfl,_,W.get 15 rfl,aF a,q⟩
end
section
variable{z1 z2:Nat}{lv:List ez}{s1 s2:SH}{kp:Nat}
abbrev gB:Y:=(dR (.expr (.call 624 (kf ax aO aW cz))) (.iff (.or (.cmp .NotEq (.meth 0 402 aO .nil) (.blt 0 (aM (.sub pk (.int 0))))) (.cmp .NotEq (.meth 0 536 aO .nil) (.bin .Sub i6 (.int 1)))) mj .nil) (.iff (.not (.call 639 (cM ax (.sub bC tV) pk))) mj .nil))
theorem ML{v:Nat}(a:v<2):ja [V.obj 3 z1,V.obj 3 z2] v=some (.obj 3 (if v=0 then z1 else z2)):=by rcases(show v=0\/v=1 by exact q5)with rfl|rfl<;>rfl
theorem oj{i k:Nat}(h:i+(k+1)<=5):i<=4:=qN (aC (qQ (jp (eT k)) i) h)
theorem u5{i x a b k c:Nat}(j:i<=4)(h:x<=a+b*i)(e:autoParam (Nat.ble (a+b*4+k) c=true) bF):x+k<=c:=aC (qP (aC h (qQ (Nat.mul_le_mul_left b j) a)) k) (fF e)
theorem yv{i N M a b k:Nat}(h:N<=a+b*i)(g:M<=N+k)(e:autoParam (Nat.ble k b=true) bF):M<=a+b*(i+1):=aC g (aC (iU h (fF e)) (aA (Nat.add_assoc a (b*i) b)))
theorem Mz(H:Hx B)(Φ:jw B (d+8)){rest:bh}{P:cv}:∀k i h rs N lv np ep evs RO a gone s1 s2 m g,i+k<=5->oV pre row z1 z2 i h rs N lv np ep evs RO a gone s1 s2->ae (iE h lv np ep RO a gone s1 s2 (ou kp z1 z2)) m->
 (∀h rs N lv np ep evs RO a gone s1 s2 m g,oV pre row z1 z2 (i+k) h rs N lv np ep evs RO a gone s1 s2->ae (iE h lv np ep RO a gone s1 s2 (ou kp z1 z2)) m->P .next (v0::some (.loc 1)::some (.obj 0 4)::some (.loc 23)::v4::some (.loc kp)::g::rest) m)->
 dy (au B (d+9) cz).t (λ_=>True) (bu B (d+9) gB).ss (nV (List.range' i k)) (v0::some (.loc 1)::some (.obj 0 4)::some (.loc 23)::v4::some (.loc kp)::g::rest) m P:=by
 intro k
 induction k with
 |zero=>exact@λi h rs N lv np ep evs RO a gone s1 s2 m g _ S W q=>⟨trivial,q h rs N lv np ep _ RO a _ s1 s2 m g S W⟩
 |succ k T=>
  intro i h rs N lv np ep evs RO a gone s1 s2 m g hk S W q;have nN:=S.2;have na:=S.3;have Ψ:=S.6;refine⟨trivial,(P0 H S.1 S.4 (u5 (oj hk) S.2) (u5 (oj hk) S.3) (aF (aC S.6 (oj hk))) (oj hk) (λz=>by have:=S.5.3;exact JI) S.5 (aF (oj hk)) S.7 W λa1 b h1 D E f n l r p m1 Q o G ha1 ij A Ω x e=>?_)⟩
  have n6:=o.1.1.2;have C:h1.mks.length=f.length:=Z o.5<|Z List.length_reverse<|Z aY rfl
  have L:∀u,u<=10+20*(i+1)->oV _ _ z1 z2 _ h1 _ E _ _ _ _ _ u _ s1 s2:=λu y=>⟨o,yv S.2 ‹_›,y,λ_=>ij,by
   refine A.mono (aT _) ?_
   split
   ·exact qQ (Nat.sub_le_sub_right (iy i) 3) 4
   ·rename_i h;exact aA (bg (4+·) (Nat.succ_sub (Nat.not_lt.mp h)).symm),q3,x,G s1 S.8,G s2 S.9,S.10,S.11⟩
  have j:∀{m:av}{a:Nat},ae (iE h1 _ _ _ p a b s1 s2 (ou kp z1 z2)) m->m[23]?=some (.list (uf f++[hY n l])):=λw=>jJ w;have I:(uf _++[hY n l]).length=f.length+1:=Z aL<|Z hW rfl;refine⟨e.get 0 rfl,vk H (e.get 0 rfl) rfl (e.get 1 rfl) (e.get 2 rfl) (by lia) ((nz (j e) (by refine Z hW ?_;lia) ⟨_,af,rfl,_,e.mem ((λR=>eO (bq _ (az _ (az _ (bq _ R))))) o.8),by refine Z aY ?_;lia,mu (bn (by simp) ?_)⟩))⟩
  refine⟨e.get 0 rfl,OB H e (by lia) ⟨_,j e,by refine Z I ?_;lia,mu (bn (by refine Z I<|Z C ?_;simp) ?_)⟩⟩
  refine(lM H (e.perm (gy nG)) (bq _ (az _ (bq _ o.10.1))) (aC ha1 (u5 (k:=11) (oj hk) S.3)) (by trivial) o.11 λv m2 F s=>cZ ((s.perm (gy fj)).mem (eO (bq _ (az _ (az _ (jt _ (bq _ (bq _ (b5.mpr rfl))))))))) af (ML F) (nz (j (s.perm (gy fj))) (by refine Z hW ?_;lia) ?_))
  refine zI H Φ (L (a1+1) (yv (k:=12) S.3 (jp ha1))) (aC (qP ha1 11) (u5 (k:=22) (oj hk) S.3)) (by lia) (by lia) v F (s.perm (gy fj)) λa2 t1 t2 m3 ha2 c M=>eE<|T (i+1) h1 D E f n l r p a2 b t1 t2 m3 _ (aC (aA (Nat.succ_add i k)) hk) ⟨c.1,c.2,yv (k:=14) S.3 (aC ha2 (qP ha1 3)),c.4,c.5,c.6,c.7,c.8,c.9,c.10,c.11⟩ M λh rs N lv np ep evs RO a gone s1 s2 m g S W=>q h rs N lv np ep evs RO a gone s1 s2 m g (Z (show i+(k+1)=i+1+k from(Nat.succ_add i k).symm) S) W
end
abbrev oy:V:=.tup [.int 0,.int 1]
def sx:List V:=[.tup [.str sA],.tup [.str sB],.tup [.str sC]]
def wZ(script:List Int)(ob:Obj):av:=[.fix ob (iV script),.sdict (gW 0 oy),.list (iV (script.take 45)),.list (iV (nW script)),.fields (ky 18 0 0),.fields iP,.list [],.tdict [],.list [],.list [],.fields iC,.list [],.list [],.list [],.list [],.list [],.tdict [],.idict [],.list [],.list [],.list [],.list sx,.list [],.list [hY 21 22]]
def xu(script:List Int)(ob:Obj):List (Nat×O):=(23,.list [hY 21 22])::(21,.list sx)::(3,.list (iV (nW script)))::(0,.fix ob (iV script))::[]
theorem xM a ob:ae (ah h0 (dh 0 oy::xu a ob)) (wZ a ob):=by
 refine KB ?_ ?_
 ·refine(?_:([4,5,6,7,8,9,10,11,12,13,14,15,16,17,19,20,18,1,23,21,3,0]).Nodup)
  decide
 ·repeat' first
   |exact List.forall_mem_nil _
   |refine List.forall_mem_cons.mpr ⟨rfl,?_⟩
theorem QY(H:Hx B){P:cv}(q:P .next ((J.set 2 (some (.obj 0 4))).set 3 (some (.loc 23))) (wZ script ob)):
 (bu B (d+5) (.asg (.tup pe) (.tup (aZ (.call 581 .nil) (.lst (aM (.tup (aZ (.lst (cM (.tup (aM (.str Aj))) (.tup (aM (.str Ai))) (.tup (aM (.str Ah))))) cY)))))))).s J [.fix ob (iV script),.sdict (gW 0 oy),.list (iV (script.take 45)),.list (iV (nW script))] P:=Mr H<|⟨af,af,af,af,af,af,af,af,rfl,q⟩
abbrev Ke:Y:=(a6 (.expr (.meth 0 417 aO ml)))
theorem Kd(H:Hx B){rest:bh}{P:cv}(q:∀x0 x1 x2 a0 a1 a2 b0 b1 b2 x4 i,ae (ah (h3 x0 x1 x2 a0 a1 a2 b0 b1 b2) (dh 0 oy::xu script ob)) i->P .next (v0::n::some (.obj 0 4)::v3::x4::rest) i):
 dy (au B (d+8) bc).t (λm=>m[21]?=some (.list sx)) (bu B (d+8) Ke).ss sx (v0::n::some (.obj 0 4)::v3::x4::rest) (wZ script ob) P:=by
 have b:∀{h:HS}{m:av},ae (ah h (dh 0 oy::xu script ob)) m->m[21]?=some _:=λw=>w.mem (eO (az _ (az _ aQ)));have oA:jl sA:=.inl rfl;have oB:jl sB:=.inr (.inl rfl);have l:jl sC:=.inr (.inr (.inl rfl));have p:sB≠sA:=by trivial
 have r:sC≠sA:=by trivial
 have s:sC≠sB:=by trivial
 refine⟨b (xM _ ob),(xM _ ob).get 0 rfl,xE H EU (xM _ ob) oA.f (by decide) rfl (by trivial) rfl af af λx0 a0 b0 m1 c=>?_⟩
 have g:=EU.leaf (by decide) af sA x0 a0 b0
 refine⟨b c,c.get 0 rfl,xE H g c oB.f (by refine(?_:1<=5);decide) rfl (by refine(?_:(sB,[])∉[(sA,[])]);trivial) (by refine ?_;trivial) (by refine(?_:2<=900);decide) ((af:1<=900)) λx1 a1 b1 u e=>?_⟩
 refine⟨b e,e.get 0 rfl,xE H (g.leaf (by refine(?_:1<=5);decide) ((af:1<=800)) sB x1 a1 b1) e l.f ((af)) rfl (by refine(?_:(sC,[])∉[(sA,[]),(sB,[])]);trivial) (by refine ?_;trivial) ((af)) (by refine(?_:2<=900);decide) λx2 a2 b2 k f=>?_⟩
 exact⟨b f,q _ _ _ _ _ _ _ _ _ _ k f⟩
section
variable{s1 s2:SH}{kp:Nat}
theorem Mv:(iE h [] np ep RO a gone s1 s2 k).Perm (k::a8 s2 (ah h (dK s1++(dh a gone::(23,.list [hY np ep])::RO)))):=yu.symm.trans<|(ma (dK s2) (uo.trans ((gy (tC [dh a _,(23,.list _)] (dK s1) RO):(ah h ((dh a _::((23,.list _)::dK s1))++RO)).Perm _).cons k))).trans fj
abbrev zX:X:=.cmp .Eq (.comp [none,none,none,some 3,some 1] ax bC (.not (.call 639 (cM bc ax pk))) ax) cY
theorem On(H:Hx B)(g:jw B (d+8)){z1 z2 i:Nat}(S:oV pre row z1 z2 i h rs N lv np ep evs RO a gone s1 s2)(k:0<i)(c:i<=5){rest:bh}(W:ae (iE h lv np ep RO a gone s1 s2 (ou kp z1 z2)) m)
 (q:∀l,l[0]?=some (.fix row.ob (iV row.ws))->Q (.bool true) l):(au B (d+9) zX).e (v0::some (.loc 1)::u::some (.loc 23)::v4::some (.loc kp)::rest) m Q:=have t:=S.3;have qj:∀{s1 s2:SH}{a:Nat},ou kp z1 z2∈iE h lv np ep RO a _ s1 s2 _:=eO (bq _ (az _ (az _ (jt _ (bq _ (bq _ (b5.mpr rfl)))))));have b:∀{m:av}{a:Nat}{s1 s2:SH},ae (iE h lv np ep RO a _ s1 s2 _) m->m[23]?=some (.list (uf lv++[hY np ep])):=λw=>jJ w;⟨_,W.mem qj,W.mem qj,((nz (b W) (Z hW<|aK c S.6) (zI H g S (by lia) k (aF c) 0 af W λa1 p r m1 ha1 n f=>eE ⟨f.mem qj,((nz (b f) (Z hW<|aK c S.6) (zI H g n (by lia) k (aF c) 1 af f λa2 p r s ha2 o j=>eE ⟨j.mem qj,(⟨af,[],[],by refine Z (cu (by simp)) ?_;exact cj _ _,cj _ _,rfl,rfl,q _ (((j.app _).app _).mem (eO (bq _ (az _ (az _ (bq _ o.1.10.2))))))⟩)⟩)))⟩)))⟩
end
theorem AB(h:gi ed=[]):∀a b,¬fm ed a b:=λa b ⟨l,z⟩=>by have:(a,b,some l)∈gi ed:=iX.mpr ⟨z,rfl⟩;rw[h]at this;exact bx this
theorem yW:∀i,i<(h3 x0 x1 x2 a0 a1 a2 b0 b1 b2).s.n->ef (bf (h3 x0 x1 x2 a0 a1 a2 b0 b1 b2).s.nodes i):=λi a=>by
 have oA:jl sA:=.inl rfl;have oB:jl sB:=.inr (.inl rfl);have b:jl sC:=.inr (.inr (.inl rfl));rcases lE a with rfl|rfl|rfl
 ·exact oA.f
 ·exact oB.f
 ·exact b.f
theorem CV(H:Hx B)(r:jw B (d+8))(y:row.l.length<=100){rest:bh}(L:Lk pre h rs [] 54 96)(o:h.wait=[])(op:∀i,i<h.s.n->ef (bf h.s.nodes i))(ev:gi h.s.ed=[])(p:h.mks=[])(n4:h.s.n<=4)(l:a<=9)
 (N:(np,O.list (h.s.nodes.map cA))∈RO)(u:oQ row RO)(W:ae (ah h (dh a oy::(23,.list [hY 21 22])::RO)) m)
 (q:∀x,x[0]?=some (.fix row.ob (iV row.ws))->Q (.bool true) x):
 (au B (d+9) cY).e (v0::some (.loc 1)::some (.obj 0 4)::some (.loc 23)::v4::v5::v6::rest) m λv m=>([V.loc np,v]).length<=1000/\(au B (d+9) jD).t (.tup [.loc np,v]) (v0::some (.loc 1)::some (.obj 0 4)::some (.loc 23)::v4::v5::v6::rest) m λJ m=>(bu B (d+9) (dR (.asg bC (.lst (aZ (.call 179 fL) (.call 179 fL)))) (.fr cz (.range (aM (.bin .Add (.int 4) tV))) gB) (.ret zX))).ss J m (dY Q):=by
 refine(bt af af ?_);have b:=(W.new (.list (gD []))).perm (uo (P:=[dh a _,(23,.list _)]));replace b:ae _ (m++[O.list []]):=b;generalize m++[O.list []]=m1 at b⊢;generalize m.length=ep at b⊢;have f:m1[23]?=some _:=jJ (A:=[]) b;refine wu f af (aT _) ?_;have c:=pG (A:=[]) b (.list [hY np ep]);replace c:ae _ _:=c;refine(Bc H L.1 o L.2 op c λs1 m3 T g G=>(Bc H L.1 o L.2 op (G.perm (yU (C:=dK s1))) λs2 m4 Ω j I=>⟨af,?_⟩));have s:=(I.new (.list [.obj 3 s1.z,.obj 3 s2.z])).perm Mv;generalize m4.length=kp at s⊢;exact have S:oV _ _ _ _ 0 h rs 54 [] np ep [] _ a oy s1 s2:=⟨(⟨L,o,op,ev,p,(λ_ z=>bx z),List.Pairwise.nil,az _ N,aQ,u.cons,y⟩),af,aF l,λz=>absurd z (by decide),⟨aT _,(λ_ z=>bx z),n4,(λ_ z=>bx z),(λ_ z=>bx z),(λ_ z=>bx z)⟩,aT _,⟨0,1,rfl⟩,.of T g,.of Ω j,rfl,rfl⟩;(lM H s (az _ (bq _ (az _ u.1))) (aF l) af y λv m6 n Φ=>⟨jN n,(Z (show eZ 0 1 _=nV _ from Z (show((4:Int)+v).toNat=4+v from rfl)<|Z (rW ..)<|Z List.range_eq_range' rfl) (Mz H r (4+v) 0 h rs 54 [] np ep [] _ _ _ s1 s2 m6 v6 (aE n) ⟨S.1,S.2,cV l,S.4,S.5,S.6,S.7,S.8,S.9,S.10,S.11⟩ Φ λh' β N' Ψ α R w E a' k t1 t2 m7 x6 F M=>On H r F fT (aE n) M q))⟩)
theorem Jn{t e:X}{P:cv}(q:(au B d e).e J m λv m=>(au B d t).t v J m λJ m=>(bu B d r).ss J m P):(bu B d (.cons (.asg t e) r)).ss J m P:=q
theorem zW{l:List V}(h:m[n]?=some (.list l))(a:l.length<=10000)(b:ja l k=some x)(q:P x m):jQ (.loc n) (.int k) m P:=cZ h a b q
theorem Jm{s r:Y}{P:cv}(q:(bu B d s).s J m λa J m=>match a with
 | .next=>(bu B d r).ss J m P
 | .ret v=>P (.ret v) J m):(bu B d (.cons s r)).ss J m P:=q
theorem Mw(H:Hx B)(h:jw B (d+8))(p:script.length<=63)(q:∀j,j[0]?=some (.fix ob (iV script))->Q (.bool true) j):aP B (d+10) 644 [.loc 0] [.fix ob (iV script)] Q:=by
 have g:(nW _).length<=100:=Z aY<|Z qX pP;refine bv H 54 rfl rfl<|Jn (GH p rfl (Jm (QY H ?_)));refine(zW rfl af rfl ⟨_,af,rfl,sx,rfl,(Kd H λx0 x1 x2 a0 a1 a2 b0 b1 b2 w v i=>?_)⟩);have b:=Mm (x0:=x0) (x1:=x1) (x2:=x2) (a0:=a0) (a1:=a1) (a2:=a2) (b0:=b0) (b1:=b1) (b2:=b2);refine(zW (i.mem (eO (az _ aQ))) af rfl ⟨_,af,rfl,(CB H b rfl ((af)) af yW af (az _ (az _ aQ)) g (az _ aQ) i (λn r f e=>?_) (λn o ks h' t u s r f oo l c k e=>?_))⟩)
 ·exact have m:Lk _ _ [] [] 54 96:=⟨b.1,b.2,b.3,b.4,b.5,b.6.mono af,qQ (PS.msr_le b.1.2 b.5 0) 54,af,b.9,af⟩;CV H h (row:=⟨nW _,ob,script⟩) g m rfl yW rfl rfl ((af)) (aF f) aQ ⟨az _ aQ,az _ (az _ aQ)⟩ e q
 ·refine CV H h (row:=⟨nW _,ob,script⟩) g (l.rest (k (AB rfl)) af) (k (AB rfl)) (by unfold PS.n;exact Z c.1<|BS yW oo.f ks) (c.2.trans rfl) (c.4.trans rfl) ((aA (by unfold PS.n;refine Z c.1 ?_;rfl))) (aF f) aQ ⟨az _ (az _ aQ),az _ (az _ (az _ aQ))⟩ (e.perm (gy ((List.Perm.swap _ _ _).cons _))) q
def zT:Y:=.cons (.asg bC (.meth 3 171 aJ et)) .nil
def zU:Y:=(dR (.iff (.or (.cmp .Eq aW (.neg 1)) (.ite (.cmp .Lt aW (.int 3)) (.cmp .NotEq bC aW) (.cmp .Lt bC (.int 3)))) mj .nil) (.asg eY (.call 612 (aM (.meth 3 176 aJ et)))) (.ret (.andv (.cmp .Eq (.blt 0 (aM eY)) bC) (.cmp .Eq (.comp [none,none,some 4] ax eY (.cmp .NotIn ax aO) ax) cY))))
theorem Gw{a b:Int}(q:P (.bool (false^^decide (a= -b))) m):dz .Eq (.int a) (.int (-b)) m P:=⟨rfl,rfl,q⟩
theorem Go{l:List V}(h:m[n]?=some (.list l))(b:x.plain 8=true)(a:V.plains 8 l=true)(q:P (.bool (true^^l.any λy=>V.eqb y x)) m):dz .NotIn x (.loc n) m P:=⟨h,b,a,q⟩
theorem LC{P:cD}(c:src m)(i:m[lp]?=some (.list (gj labels)))(k:∀l∈labels,(V.str l).plain 8=true):∀f l0 l1,(∀l∈f,l∈labels)->P [] m->
 cR (au B d ax).t src (au B d (.cmp .NotIn ax aO)).b (au B d ax).e (gj f) [] [l0,l1,some (.loc lp)] m P:=by
 intro f
 induction f with
 |nil=>exact@λ_ _ _ q=>⟨c,q⟩
 |cons l f p=>
  intro l0 l1 h q
  have pl:V.plains 8 (gj _)=true:=mG λx n=>by refine ac (bT.mp n) λl i g=>?_;clear n;subst g;exact k l i
  exact⟨c,Go i (k l (h l aQ)) pl (Z ((oN (k l (h l aQ))).mpr (qV (h l aQ))) (bn rfl (p _ _ (λj o=>h j (az _ o)) q)))⟩
theorem Js(H:Hz B)(K:kP h)(N:cm h s){a b lp e:Nat}(G:a<h.s.n)(I:b<h.s.n)(E:h.s.al a b)(L:∀s' x,fK h.s s'->cF s' a b=some x->e=min x 3)(k:(lp,O.list (gj labels))∈R)(h1:∀l,oW h l->l∈labels)(F:∀l∈labels,(V.str l).plain 8=true)
 (W:ae (a8 s (ah h R)) m)(q:∀s' u,s'.z=s.z->cm h s'->ae (a8 s' (ah h R)) u->Q (.bool true) u):
 nU (bu B (d+44) zT).ss (bu B (d+44) zU).ss [some (.obj 3 s.z),some (.int a),some (.int b),some (.int e),some (.loc lp),none,none,none,none,none,none] m (dY Q):=by
 refine⟨W.get 0 rfl,AY H K W λs1 m1 hz r Φ p=>?_⟩;have C:fK h.s s1:=by
  clear W;rcases Φ with⟨z1,rfl⟩|⟨_,z⟩
  ·exact N.at z1
  ·exact z
 refine aI (C.1.of_al E G I) λx j=>(ad x j ?_);have S:=L s1 x C j;refine(Gw (bn (by simp;try lia) (tZ ?_)))
 have g:(bu B (d+44) (cT (.asg eY (.call 612 (aM (.meth 3 176 aJ et)))) (.ret (.andv (.cmp .Eq (.blt 0 (aM eY)) bC) (.cmp .Eq (.comp [none,none,some 4] ax eY (.cmp .NotIn ax aO) ax) cY))))).ss
  [some (.obj 3 s.z),some (.int a),some (.int b),some (.int e),some (.loc lp),some (.int x),none,none,none,none,none] m1 (dY Q):=by
  have o:qL B h s1 (d+44) 37 a b x:=Kw H K C r d 36 a b x j (Jr C.4 a x);unfold qL at o;rw[hz]at o;refine⟨(Z hz.symm<|p.get 0 rfl:m1[s.z]?=some (.fields _)),o R m1 _ p λv n M i A=>?_⟩;have y:=C.1.bound C.4 j;refine Hg H _ 37 v n i.1 (Z i.2<|aF y) _ M _ A λt T f=>?_;have w:(gj n).length=x:=Z aY<|Z i.2 rfl;refine⟨_,f.get 0 rfl,Z w<|aF y,nC (bD (Z w<|z5 rfl) ((ad _ (f.get 0 rfl) (LC (f.get 0 rfl) (f.mem (az _ (bq (dK s1) (eO k)))) F n none none (λl k=>h1 l (i.3 l k)) ?_))))⟩;have D:=((f.app [O.list []]).app [O.list []]).sub (dB _ _);refine⟨af,z9 (by refine Z (cu z1) ?_;exact cj _ _) (cj _ _) rfl ?_⟩
  exact q s1 _ hz (.of r C) D
 by_cases P:e<3
 ·exact bD (by simp;lia) (mu (bn (by simp;lia) g))
 ·exact bn (by simp;lia) ((bn (by simp;lia) g))
end
section
variable{prog:Program}{w:World}{A:Around}{E:bL}{s s' s0 s1:Shared}{a g I C C' PF HE fP fH:Addr}{b:Bool}{t:Tok}{Q:aS}{v:Value}{P:Addr->Prop}{N:gT}{μ μ' μ0 μ1 cs:List Addr}{h h':Heap}{l:List V}{vs vals:List Value}{o:Obj}{R:Result->Shared->Prop}{x y:V}{i d c j tk k1 np nl:Nat}{m m' m0:av}{sc scope:Scope}{U:Env}{B:bB}{fs:List Env}{J:bh}{mm:Str->Option Value}{G:Prop}{M:Model}{p pos ap fp p2 cp:Pos}{items:Array Value}{T:DT}{e value tg:Expr}{D D1 D2:DE}{es ifs:List Expr}{xs:List (Nat×Tok)}{as ps:List Str}{Ds:DL}{name what place:Str}{names:List (Str×NameKind)}{body:List Stmt}{fd:FuncData}{cap:List (Option Nat)}
def Bx(v:Value):Bool:=Nat.beq v.ctorIdx (Value.ref 0).ctorIdx
theorem Jy(h:Bx v=true):∃c,v=.ref c:=by cases v<;>first|exact⟨_,rfl⟩|exact aR h
def sY:List Value:=[.type "Exception",.type "BaseException",.type "object"]
def gA:List Value->Bool
 |[]=>false
 |v::r=>v::r==sY||(Bx v&&gA r)
theorem y4{P:List Value->Prop}(f:P sY)(h1:∀c r,P r->P (.ref c::r)){l:List Value}(h:gA l=true):P l:=by
 induction l with
 |nil=>exact aR h
 |cons v r g=>
  rcases rm.mp h with e|e
  ·exact(eq_of_beq e).symm▸f
  ·refine a_ (bW.mp e) λb d=>aI (Jy b) λc a=>?_;clear b;exact Z a<|h1 c r (g d)
theorem N4{c:Addr}(e:gA (.ref c::r)=true):gA r=true:=(rm.mp e).elim (λz=>nomatch(eq_of_beq z)) λz=>(bW.mp z).2
theorem D5{c:Addr}(e:gA r=true):gA (.ref c::r)=true:=rm.mpr (.inr e)
theorem Jw self:refuseLoop self "__setattr__" sY=pure ():=by kernel_rfl
theorem Jx self{l:List Value}(e:gA l=true):refuseLoop self "__setattr__" l=pure ():=
 y4 (P:=λl=>refuseLoop _ _ l=pure ()) (Jw _) (λc r a=>(refuseLoop_ref ..).trans a) e
theorem sW{T:String}{l:List Value}(h:sY.contains (.type T)=b)(e:gA l=true):l.contains (.type T)=b:=
 y4 (P:=λl=>l.contains _=b) h (λc r a=>by refine Z List.contains_cons<|Z a ?_;rfl) e
theorem vA{l:List Value}(e:gA l=true):l.contains (.type "object")=true/\l.contains (.type "BaseException")=true/\l.isEmpty=false:=
 (bt (sW rfl e) (sW rfl e) (y4 (P:=λl=>l.isEmpty=false) rfl (λ_ _ _=>rfl) e))
inductive nq(K:Frag)(h:Heap)(x C:Addr)(ox:Obj)(od:Option Obj)(cd:ClassData):Prop
 |mk(inst:InstAt h x ox C od)(cls:clsIn K C=some cd)(over:gA cd.mro=true)(has:cd.hasDict=true)
section
variable{K:Frag}{x:Addr}{ox:Obj}{od:Option Obj}{cd:ClassData}
theorem nq.sub(X:K.In h)(I:nq K h x C ox od cd){b:Value}(e:cd.mro.contains b=true):Looks M h (isInstance (.ref x) b) true:=
 I.1.type.andThen (looks_mroIn X (by unfold mroIn;refine Z I.2<|Z (Option.bind_some ..)<|Z (ai (by refine Z ((vA I.3).2.2) ?_;decide)) ?_;exact Z e rfl))
theorem Bk{Q:Unit->Shared->Prop}(X:K.In s.heap)(I:nq K s.heap x C ox od cd)(hs:findIn K (.ref C) "__setattr__"=some (some (.builtin "object.__setattr__")))
 (j:findIn K (.ref C) name=some none)(k:∀A Q E,Q (some dx) {s with heap:=h1,toks:=s.toks+1}->wpAny (model prog w) A (instanceDict x true) Q E {s with toks:=s.toks+1})(l:h1.Ns1 dx mm)(m:Within mm ns)(hz:ns.length<=1000)
 (h:∀h' tk,h'.Ns1 dx (λy=>if y=name then some v else mm y)->Heap.SameBut dx h1 h'->Q () {s with heap:=h',toks:=tk}):wpAny (model prog w) A (setAttr (.ref x) name v) Q E s:=set_plain X I.1 hs<|codeAny_call_builtin PySem.F.store_object.slot.plain PySem.F.store_object.entry (@check_slot _ _ _ _ _ _ _ _ _ [] _ PySem.F.store_object.kind PySem.F.store_object.split (I.sub X (vA I.3).1) (PySem.F.store_object.args _ _ v) (Z (osa_eq ..) (Z (refuse_eq ..) (f7 (I.1.type.at (ag (((looks_clsIn X I.2).andThen .now:Looks _ _ _ cd.mro).at (Z (Jx _ I.3) (aD (ag (I.1.type.at (ag ((looks_findIn X j).at (eQ (eQ (ag (k _ _ _ (eQ (ag (wpAny_nsSet1 l λh' b n=>iF (b.count (Within.cons _ v m)) λo i g f e d=>ag (wpAny_lookBehind f (Z e<|pastItsLine_dict (aC d (cV hz))) (aD (h _ _ b n)))))))))))))))))))))))
theorem Oy{d:Addr}(X:K.In s.heap)(I:nq K s.heap x C ox od cd)(c:ox.dict=some d){Q:Option Addr->Shared->Prop}(q:Q (some d) s):wpAny M A (instanceDict x true) Q E s:=by obtain⟨⟨g,a,b,-⟩,e,-,f⟩:=I;obtain⟨k,i,h,j⟩:=ox;dsimp only at a c;clear b;subst a c;exact ag (wpAny_loadPart g (ag ((looks_clsIn X e).here (Z f (aD q)))))
theorem Oz(X:K.In s.heap)(I:nq K s.heap x C ox od cd)(d:ox.dict=none){Q:Option Addr->Shared->Prop}
 (q:Q (some s.heap.objs.size) {s with heap:=(s.heap.push emptyDict).update x λo=>{o with dict:=some s.heap.objs.size}}):wpAny M A (instanceDict x true) Q E s:=by
 obtain⟨⟨e,a,b,-⟩,f,-,g⟩:=I;obtain⟨j,h,c,i⟩:=ox;dsimp only at a d;subst a d;refine ag (wpAny_loadPart e (ag ((looks_clsIn X f).here (Z g ?_))))
 cases c<;>first
  |(exact aR b;done)
  |exact ag (wpAny_alloc (ag (wpAny_update (bj _ e) (aD q))))
end
section
variable{K:Frag}{x:Addr}{ox:Obj}{od:Option Obj}{cd:ClassData}
theorem NE{Q:bL}(X:K.In s.heap)(I:nq K s.heap x C ox od cd)(d:findIn K (.ref C) "__getattribute__"=some (some (.builtin "BaseException.__getattribute__")))
 (f:findIn K (.ref C) "__getattr__"=some none)(c:findObj K C od name=some (.value v))(e:handedIn v=true)(h:Q v {s with toks:=s.toks+1}):wpAny (model prog w) A (getAttr (.ref x) name expr) Q E s:=by
 refine ag (wpAny_mkText (eJ (ag (I.1.type.at (ag ((looks_findIn X d).at ?_))))));have i:(Value.builtin "BaseException.__getattribute__"==Value.builtin "object.__getattribute__")=false:=by rfl
 have g:(onTheHeap (.ref C)&&Value.builtin "BaseException.__getattribute__"==Value.builtin "object.__getattribute__")=false:=by rfl
 refine((ag ((looks_findIn X f).at (ag (wpAny_attempt (eJ ?_))))));have b:callGetattribute (.ref x) (.str name s.4) (.builtin "BaseException.__getattribute__") expr=boundAndCalled (.builtin "BaseException.__getattribute__") (.ref x) (.str name s.4):=by unfold callGetattribute;refine Z (Bool.and_false ..) ?_;rfl
 exact Z b<|iw (F.attr_Exception.ga.bind _)<|iB (codeAny_call_builtin F.attr_Exception.ga.plain F.entry_bexc_ga (@check_slot _ _ _ _ _ "BaseException" "__getattribute__" _ _ [] _ rfl rfl (I.sub X (vA I.3).2.1) (F.args_bexc_ga _ _) (eQ (eQ (ag (I.1.type.at (ag ((looks_find X I.1 c).at (aD (((Z (handedOut_of e) (aD h)):wpAny _ _ (handedOut v) _ _ _)))))))))))
end
theorem xd:Slot "wrapper_descriptor" "__get__" "wrapper_descriptor.__get__":=
 .of (owner:="wrapper_descriptor") (n:="__get__") (by kernel_rfl) rfl rfl rfl
  (by first|exact .inl rfl|exact .inr _) (by kernel_rfl)
theorem Oj:entryFor table "wrapper_descriptor.__get__"=some Builtin.«wrapper_descriptor.__get__»:=entryFor_of_tree (by kernel_rfl)
theorem Q9 a b c:argsOk "wrapper_descriptor.__get__" ⟨[a,b,c],[]⟩:=by kernel_rfl
theorem Ap:typeOf (.builtin "Exception.__init__")=pure (.type "wrapper_descriptor"):=by kernel_rfl
abbrev lf(f self:Value):Obj:={cls:=.type "method-wrapper",data:=.fields #[f,self]}
theorem Kz:(".".intercalate ("Exception.__init__".cutAt '.').dropLast)="Exception":=by rfl
theorem Gz{x C:Addr}{Q:bL}(b:Looks (model prog w) s.heap (typeOf (.ref x)) (.ref C))(a:Looks (model prog w) s.heap (isSubtype (.ref C) (.type "Exception")) true)
 (h:Q (.ref s.heap.objs.size) {s with heap:=s.heap.push (lf (.builtin "Exception.__init__") (.ref x))}):wpAny (model prog w) A (call (.builtin "wrapper_descriptor.__get__") [.builtin "Exception.__init__",.ref x,tp]) Q E s:=by
 refine iB (codeAny_call_builtin xd.plain Oj (xd.check _ _ _ _ _ _ _ _ Ap (Q9 _ _ _) ?_));rw[<-Kz]at a
 repeat lk
 exact h
inductive Fa(M:Model)(h:Heap)(name:Str)(C C':Addr):Prop
 |mk(row:aV λl r=>Looks M h (mroOf (.ref C')) l/\(l.dropWhile (·!=Value.ref C)).drop 1=.type "Exception"::r)(op:Looks M h (notOfAnOpaqueClass name.toString "" (.ref C')) ())(sub:Looks M h (isSubtype (.ref C') (.type "Exception")) true)
theorem KA:classOwn (.type "Exception") "__init__"=pure (some (.builtin "Exception.__init__")):=by kernel_rfl
theorem HD{a C x C':Addr}{Q:Fin->Shared->Prop}(e:classOwn (.type "Exception") name=pure (some (.builtin "Exception.__init__")))(f:(name=="__class__")=false)(p:Fa (model prog w) s.heap name C C')(d:Looks (model prog w) s.heap (typeOf (.ref x)) (.ref C'))(c:s.heap.get? a=some (gL (.ref C) (.ref x) (.ref C')))(b:x≠C')
 (h:Q (.done (.ret (.ref s.heap.objs.size))) {s with heap:=s.heap.push (lf (.builtin "Exception.__init__") (.ref x))}):
 wpAny (model prog w) A (Builtin.«super.__getattribute__» ⟨[.ref a,.str name t],[]⟩) Q E s:=by
 obtain⟨⟨l,r,g,p2⟩,i,j⟩:=p;exact AI g p2 (Z e .now) (Z Ap .now) xd.lookup i c f b (Gz d j h)
theorem HC{b C x C':Addr}{Q:Value×List Value->Shared->Prop}(p:Fa (model prog w) s.heap "__init__" C C')(d:Looks (model prog w) s.heap (typeOf (.ref x)) (.ref C'))(a:s.heap.get? b=some (gL (.ref C) (.ref x) (.ref C')))(c:x≠C')
 (h:Q (.ref s.heap.objs.size,[]) {s with heap:=s.heap.push (lf (.builtin "Exception.__init__") (.ref x)),toks:=s.toks+1}):wpAny (model prog w) A (getMethod (.ref b) "__init__" pl) Q E s:=ag (wpAny_specialOf ((ad _ a rfl)) mD.lookup (ag (ag (wpAny_mkText (eJ (qH (ad _ a rfl) (iw mD.lookup (iw rfl (ag (wpAny_attempt (eJ (iw (mD.bind _) (gV mD (ad _ a rfl) D6 (HD KA rfl p d a c ((ad _ rfl (aD (aD h))))) (E0 _ _))))))))))))))
theorem MM{f x:Value} h(a:h.get? q=some (lf f x)):∃k,(k=Keeper.frame\/k=Keeper.machine\/k=Keeper.boundFrame)/\Looks M h (keeperOf (.ref q)) k:=
 (ad _ (.inr (.inl rfl)) ((Looks.ld a).andThen .now))
theorem Op{x:Addr}{vs:Array Value}(d:s.heap.get? x=some ox)(c:ox.data=.fields vs)(b:vs[0]?=some f)
 (h:R (.ok (.ret .none)) {s with heap:=(s.heap.push {cls:=.type "tuple",data:=.seq #[v]}).update x (Obj.mapFields (·.setIfInBounds 0 (.ref s.heap.objs.size)))}):
 codeAny (model prog w) A (.builtin "Exception.__init__" ⟨[.ref x,v],[]⟩) R s:=by
 refine mS nk.initEntry<|ag ?_
 repeat lk
 have a:=bj {cls:=.type "tuple",data:=.seq #[v]} d;refine wpAny_load a<|Z c<|aD<|Z b<|aD (ag (mw a c (tI.mp b).1 ?_))
 cases f<;>first|exact aD (aD h)|exact wpAny_letGo (aD h)
def B4(v:Data)(f:ClassData->Bool):Bool:=match v with| .cls a=>f a|_=>false
theorem Lp{v:Data}(h:B4 v f=true):∃a,v=.cls a/\f a=true:=by cases v<;>first|exact⟨_,rfl,h⟩|exact aR h
def y8(K:Frag)(C:Addr):Bool:=fS (K.lookup C) λo=>B4 o.data λcd=>o.cls==.type "type"&&(lc o.slots.toList λk0 r=>lc r λk1 r=>lc r λk2 r=>lc r λk3 r=>l2 r λk4 k5=>k4==some (.builtin "Exception.__new__"))&&
 (lc cd.mro λa r=>a==.ref C)&&gA cd.mro&&!cd.hasDel&&cd.hasDict
theorem Qc{d:ClassData}{m:List Value}{a b:Bool}(h1:d.mro=m)(c:d.hasDict=a)(e:d.hasDel=b):d=⟨d.name,d.bases,m,d.ns,d.qualname,a,d.slotNames,d.subclasses,d.abstract,d.collection,b⟩:=by subst h1;subst c;subst e;rfl
theorem qs{K:Frag}(h:y8 K C=true):zN λ(c:ClassData) p l g k1 i j k=>K.lookup C=some (excClassObj c.name c.qualname C c.ns c.bases l true c.slotNames c.subclasses c.abstract c.collection p g k1 i j k "Exception.__new__")/\gA l=true:=by refine ac (i8 h) λo e h=>ac (Lp h) λn w h=>zF h λh1 b f m y z=>bS (lF b) λg B q b=>bS (lF b) λk1 D s b=>bS (lF b) λi E t b=>bS (lF b) λj F u b=>bS (MG b) λA k v x=>bS (lF f) λa r d f=>?_;rw[eq_of_beq f]at d;rw[d]at m;exact⟨n,o.dict,r,g,k1,i,j,k,e.trans (bg _ (Cf (eq_of_beq h1) (w.trans (bg _ (Qc d z (mK y)))) (bg Array.mk (Z q<|Z s<|Z t<|Z u<|Z v<|Z (eq_of_beq x) rfl)))),N4 m⟩
section
variable{g:Array GenState}{d:Drawn}{t:Nat}{os:OsState}
variable{nm q:Str}{N:Addr}{bs bm:List Value}{sn:List Str}{sub:List Value}{ab:Bool}{col:Option Bool}{dd:Option Addr}{k0 k1 k2 k3 k5:Option Value}
theorem sX(he:gA bm=true){T:String}(e:sY.contains (.type T)=b):(Value.ref C::bm).contains (.type T)=b:=sW e (D5 he)
theorem LK(he:gA bm=true)(a:h.get? C=some (excClassObj nm q C N bs bm true sn sub ab col dd k0 k1 k2 k3 k5 "Exception.__new__")){Q:Unit->Shared->Prop}(b:Q () ⟨h,g,d,t,os⟩):
 wpAny M A (checkBuiltinCall "Exception.__new__" ⟨.ref C::rest,[]⟩) Q E ⟨h,g,d,t,os⟩:=by
 unfold checkBuiltinCall;refine Z nk.newKind<|Z nk.newSplit ?_
 repeat (first|refine li a ?_|(refine wpAny_isSubtype_exc a<|Z ((sX he (by rfl))) ?_)|refine wpAny_staticBase_exc a ?_|refine wpAny_madeBy_exc a ?_|rfl|wp_step)
 exact b
theorem LJ(he:gA bm=true)(b:h.get? C=some (excClassObj nm q C N bs bm true sn sub ab col dd k0 k1 k2 k3 k5 "Exception.__new__"))
 (f:R (.ok (.ret (.ref (h.objs.size+1)))) ⟨(h.push {cls:=.type "tuple",data:=.seq rest.toArray}).push {cls:=.ref C,data:=.fields #[.ref h.objs.size,.none,.none,.none,.bool false,.none]},g,d,t,os⟩)(e:rest.length<=sizeLine):
 codeAny (model prog w) A (.builtin "Exception.__new__" ⟨.ref C::rest,[]⟩) R ⟨h,g,d,t,os⟩:=by
 have c:=nk.ends;refine codeAny_builtinAt nk.entry<|_root_.PySem.wpAt_bind<|_root_.PySem.wpAt_bind (_root_.PySem.wpAt_stack λp a=>_root_.PySem.wpAt_of_wpAny ?_)
 wp_walk
 refine _root_.PySem.wpAt_of_wpAny<|Z nk.owner ?_
 repeat (first|with_reducible refine wpAny_madeHere_exc nk.canon b ?_|with_reducible refine li b ?_|(with_reducible refine wpAny_isSubtype_exc b ?_;first|(rewrite[(sX he (by trivial))];try with_reducible rfl)|(rewrite[(sX he (by trivial))];try with_reducible rfl)|(rewrite[(sX he (by trivial))];try with_reducible rfl))|wp_step)
 refine(?_:R _ _);exact Z (kW ..) f
theorem QI(b:h.get? C=some (excClassObj nm q C N bs bm true sn sub ab col dd k0 k1 k2 k3 k5 "Exception.__new__")){x:Addr}(e:h.get? x=some f)(a:f.cls=.ref C){Q:Unit->Shared->Prop}(c:Q () ⟨h,g,d,t,os⟩):
 wpAny M A (checkBoundCall "Exception.__init__" ⟨[.ref x,v],[]⟩) Q E ⟨h,g,d,t,os⟩:=by
 have F:=nk
 repeat (first|(with_reducible refine li e<|Z a ?_)|with_reducible refine li b ?_|wp_step)
 exact c
theorem GA(c:h.get? C=some (excClassObj nm q C N bs bm true sn sub ab col dd k0 k1 k2 k3 k5 "Exception.__new__")){p x:Addr}(e:h.get? p=some (lf (.builtin "Exception.__init__") (.ref x)))(i:h.get? x=some ox)(a:ox.cls=.ref C)
 (f:codeAny (model prog w) A (.builtin "Exception.__init__" ⟨[.ref x,v],[]⟩) R ⟨h,g,d,t,os⟩):codeAny (model prog w) A (.call (.ref p) ⟨[v],[]⟩) R ⟨h,g,d,t,os⟩:=codeAny_of_tree<|ag (wpAny_load e (ag (QI c i a (aD ⟨Code.quiet_builtin _ (by decide+kernel),f⟩))))
theorem N1(he:gA bm=true)(c:h.get? C=some (excClassObj nm q C N bs bm true sn sub ab col dd k0 k1 k2 k3 k5 "Exception.__new__")){Q:bL}(m:Looks (model prog w) h (typeLookup (.ref C) "__init__") (some (.ref fI)))
 (l:Looks (model prog w) h (typeOf (.ref fI)) (.type "function"))(f:rest.length<=sizeLine)
 (n:∀h' e,Heap.MadeExcOf h h' e (.ref C) rest->wpAny (model prog w) (A.under (.builtin "type.__call__" ⟨.ref C::rest,[]⟩)) (call (.ref fI) (.ref e::rest)) (λr s'=>r=.none/\Q (.ref e) s') E ⟨h',g,d,t,os⟩):
 wpAny (model prog w) A (call (.ref C) rest) Q E ⟨h,g,d,t,os⟩:=by
 have p:=tc_lookup;have s:=tc_bind (.ref C);have u:(⟨h,g,d,t,os⟩:Shared).TypeIs (.ref C) _:=(ad _ c rfl);refine iB (codeAny_of_tree ((?_:wpAny _ _ (callAny (.ref C) _) _ _ _)))
 repeat (any_goals (first|assumption|with_reducible refine li c ?_|wp_step))
 refine⟨rfl,(codeAny_call_builtin_at (Code.quiet_builtin _ (by decide+kernel)) entry_typeCall (wpAny_check_type_call_sub c ?_))⟩
 repeat (first|with_reducible refine li c ?_|with_reducible refine wpAny_madeBy_exc c ?_|wp_step)
 refine codeAny_call_builtin_code (Code.quiet_builtin _ nk.quiet) (LK he c (LJ he c ?_ f));have kp:∀b o,h.get? b=some o->((h.push {cls:=.type "tuple",data:=.seq rest.toArray}).push {cls:=.ref C,data:=.fields #[.ref h.objs.size,.none,.none,.none,.bool false,.none]}).get? b=some o:=λb o e=>bj _ (bj _ e);have a:((h.push {cls:=.type "tuple",data:=.seq rest.toArray}).push
  {cls:=.ref C,data:=.fields #[.ref h.objs.size,.none,.none,.none,.bool false,.none]}).get? (h.objs.size+1)=some
  {cls:=.ref C,data:=.fields #[.ref h.objs.size,.none,.none,.none,.bool false,.none]}:=by heap_get
 have j:(Value.ref C::bm).contains (.ref C)=true:=by simp
 repeat (first|with_reducible refine li a ?_|(with_reducible refine wpAny_isSubtype_exc (kp _ _ c) ?_;rfl)|wp_step)
 refine wpAny_isSubtype_exc (kp _ _ c)<|Z j ?_
 repeat (first|with_reducible refine li a ?_|wp_step)
 refine(m.keeps kp).at (eJ (ag (ag ((l.keeps kp).at (aD (ag (mo (n _ (h.objs.size+1) ⟨kp,ng (iy _),h.objs.size,a,ng (aT _),?_⟩) (λr s' k=>?_))))))))
 ·exact bj _ (Heap.get?_push_at rfl rfl)
 ·refine Z k.1 ?_
  wp_walk
  exact k.2
end
def qx(fd:FuncData)(nm:Str)(j:Nat)(field:Str)(body:List Stmt):Bool:=l2 body λx y=>pT (tf λn args=>n==nm&&l1 args (oJ fd.scope 1)) x&&i9 (λtg v=>lz (λo n _=>n==field&&oJ fd.scope 0 o) tg&&oJ fd.scope j v) y
theorem Qi{field:Str}(h:qx fd nm j field body=true):Rl λnp cp ap p q x1 d=>oY λx0 c f b g q2=>
 gU (body=[.Expr (.Call (.Attribute (.Call (.Name "super" np) [] [] cp) nm ap) [.Name x1 d] [] p) q,.Assign [.Attribute (.Name x0 c) field f] (.Name b g) q2]) ((ap.endLine==p.line)=true)
  (fd.scope.names[1]?=some (x1,.local)) (fd.scope.names[0]?=some (x0,.local)) (fd.scope.names[j]?=some (b,.local)):=
 iq h λx y h=>bE h λh1 r=>uH h1 λe q h=>vL h λnp cp n ap i p a1 _ _ h=>bE h λs t=>e0 t λa h=>qE h λx1 d l=>nZ r λtg v q2 h=>bE h λu w=>pY u λo C f h=>bE h λz A=>qE A λx0 c k=>qE w λb g m=>Z (eq_of_beq s)<|Z (eq_of_beq z)<|⟨np,cp,ap,p,q,x1,d,x0,c,f,b,g,q2,rfl,a1,l,k,m⟩
theorem Nb{f C C' x:Addr}{np cp ap p q L:Pos}{st:Stmt}(Ω:tw B f fd C C' 0 n)(u:nh fd f U)(c:∀b o,B.h0.get? b=some o->s.heap.get? b=some o)
 (m:U.scope.kind=.function)(H:U.globals=mainGlobals)(D:U.builtins=builtinsNs)(Φ:s.heap.get? x=some ox)(i:ox.cls=.ref C')(j:notCls ox=true)(g:(ap.endLine==p.line)=true)(G:jL x1=true)
 (I:∀a,fd.scope.names[0]?=some (a,.local)->∀{A:Around}{E:bL}{R:bL},R (.ref x) s->wpAny (model B.prog B.w) A (loadName U a) R E s)
 (h1:∀s' {A:Around}{E:bL}{R:bL},(∀b o,s.heap.get? b=some o->s'.heap.get? b=some o)->R va s'->wpAny (model B.prog B.w) A (loadName U x1) R E s')
 (h:∀h' pl,(∀b o,s.heap.get? b=some o->h'.get? b=some o)->h'.get? s.heap.objs.size=some (gL (.ref C) (.ref x) (.ref C'))->
  wpAny (model B.prog B.w) A (getMethod (.ref s.heap.objs.size) n pl) (λr s1=>∃d,dQ (r=(.ref d,[])) ((∀b o,h'.get? b=some o->s1.heap.get? b=some o)) ((∃k,(k=Keeper.frame\/k=Keeper.machine\/k=Keeper.boundFrame)/\Looks (model B.prog B.w) s1.heap (keeperOf (.ref d)) k)) (wpAny (model B.prog B.w) A (call (.ref d) [va]) (λ_ s2=>wpAny (model B.prog B.w) A (execs [st] U) Qf E s2) E s1)) E {s with heap:=h'}):
 dW (.func body U) (model B.prog B.w) A (execs [.Expr (.Call (.Attribute (.Call (.Name "super" np) [] [] cp) n ap) [.Name x1 L] [] p) q,st] U) Qf E s:=by
 refine Z (arm_execs_cons ..)<|Z (exec_Expr _ _ q (yL m) rfl)<|dI (dI (dU (wpAny_standAt (dI (dI (AH Ω u c m H D Φ i j (λa z R r=>I a z r) λh' k e=>dU (gR ?_)))))));unfold methodCall;refine eD<|mo (h h' _ k e) (λr s1 w0=>ir w0 λd w k1 kk F=>?_);clear w0;refine Z w<|iw (show methodCallPos true _ _ ap p=pure p from by unfold methodCallPos;refine Z g ?_;rfl) ?_
 exact callWith_of (P:=λl=>l=s1.heap) rfl (λl e=>e▸kk)<|evalArgs_plain (spliced_cons (wpAny_Name (h1 s1 (λb o e=>k1 b o (k b o e)) (spliced_nil ⟨rfl,mo F (λv s2 y=>dU (wpAny_dropValue (dU y)))⟩)) (by simpa[jL]using(bW.mp G).1)))
def mf(x:Addr)(h h':Heap):Prop:=∀b o,b≠x->h.get? b=some o->h'.get? b=some o
def jB(h:Heap)(x PF:Addr)(od:Option Addr):Prop:=aV λvs v0=>br (h.get? x=some {cls:=.ref PF,dict:=od,data:=.fields vs}) (vs[0]?=some v0) (vs[1]?=some .none)
inductive eI(B:bB)(PF HE fP fH:Addr)(what place nI:Str):Prop
 |mk(cls:y8 B.K PF=true)(set:findIn B.K (.ref PF) "__setattr__"=some (some (.builtin "object.__setattr__")))(fw:findIn B.K (.ref PF) what=some none)(fp:findIn B.K (.ref PF) place=some none)(fi:findIn B.K (.ref PF) "__init__"=some (some (.ref fP))/\typeIn B.K (.ref fP)=some (.type "function"))(ni:nI="__init__")(ne:what≠place)(ga:findIn B.K (.ref PF) "__getattribute__"=some (some (.builtin "BaseException.__getattribute__")))(gh:findIn B.K (.ref PF) "__getattr__"=some none)(kp:keepIn B.K (.ref PF)=true)(row:∃r,((clsIn B.K PF).elim [] (·.mro)).dropWhile (·!=Value.ref HE)=.ref HE::.type "Exception"::r)(fnH:hE B.K fH 2 4 (λfd body=>(fd.scope.names.take 2).map (·.1)==ew fd&&ud B.K B.prog fd HE PF nI&&qx fd nI 1 what body)=true)(fnP:hE B.K fP 3 5 (λfd body=>(fd.scope.names.take 3).map (·.1)==ew fd&&uc B.K B.prog fd PF PF nI fH&&qx fd nI 2 place body)=true)
def Ec(h:Heap):Option Addr->Option Obj->Prop
 |some dx,some o=>h.get? dx=some o
 |none,none=>True
 |_,_=>False
section
variable{nI:Str}
theorem eI.inst(F:eI B PF HE fP fH what place nI){x:Addr}{vs:Array Value}(f:s.heap.get? x=some {cls:=.ref PF,dict:=od,data:=.fields vs})(h:Ec s.heap od oo):∃c,clsIn B.K PF=some c/\nq B.K s.heap x PF {cls:=.ref PF,dict:=od,data:=.fields vs} oo c:=by
 obtain⟨a,j,e,k,k1,l,m,n,g,i⟩:=qs F.1;have d:clsIn B.K PF=some {name:=a.name,bases:=a.bases,mro:=.ref PF::e,ns:=a.ns,qualname:=a.qualname,hasDict:=true,slotNames:=a.slotNames,subclasses:=a.subclasses,abstract:=a.abstract,collection:=a.collection,hasDel:=false}:=by unfold clsIn;exact Z g rfl
 refine⟨_,d,⟨f,rfl,rfl,?_⟩,d,?_,rfl⟩
 ·cases od<;>cases oo<;>exact h
 ·exact D5 i
theorem eI.at(F:eI B PF HE fP fH what place nI)(j:B.K.In s.heap){x:Addr}(e:jB s.heap x PF od)(i:Ec s.heap od oo):cL λvs c a=>gU (s.heap.get? x=some {cls:=.ref PF,dict:=od,data:=.fields vs}) (vs[0]?=some c) (vs[1]?=some .none) (clsIn B.K PF=some a) (nq B.K s.heap x PF {cls:=.ref PF,dict:=od,data:=.fields vs} oo a):=by refine bX e λvs c d f g=>?_;clear e;exact ac (F.inst d i) λa h1 h=>⟨vs,c,a,d,f,g,h1,h⟩
theorem JB(F:re B.K f fd body (ew fd))(r:∀vals:List Value,vals.length=(ew fd).length->bindArgs fd ⟨vals,[]⟩=pure ((ew fd).zip vals))
 (m:∀x∈fd.scope.names,x.2≠.cell)(hz:vals.length=(ew fd).length)(u:A.depth<1000)(c:∀b o,B.h0.get? b=some o->s.heap.get? b=some o)
 (h:∀a tk,a.Ns s.heap.objs.size (λx=>((ew fd).zip vals).reverse.lookup x)->(∀b o,s.heap.get? b=some o->a.get? b=some o)->nh fd f (callEnv fd s.heap.objs.size f)->
  dW (.func body (callEnv fd s.heap.objs.size f)) (model B.prog B.w) (A.deeper (callEnv fd s.heap.objs.size f)) (execs body (callEnv fd s.heap.objs.size f)) (λp s'=>R (.ok (.ret (match p with| .ret v=>v|_=>.none))) s')
   (λe s'=>wpAny (model B.prog B.w) (A.deeper (callEnv fd s.heap.objs.size f)) (leaving (callEnv fd s.heap.objs.size f) e) (λ_ d=>R (.error e) d) (λn d=>R (.error n) d) s') {s with heap:=a,toks:=tk}):
 codeAny (model B.prog B.w) A (.call (.ref f) ⟨vals,[]⟩) R s:=by
 refine ac F.1 λo q t=>?_
 have g:∀x∈ew fd,fd.scope.names.lookup x=some .local:=λx i=>by
  refine aI (F.12 x i) λk j=>?_;rcases F.11 _ (fU j) i with z|z
  ·exact Z z.symm j
  ·exact absurd z (m _ (fU j))
 exact Ev u ((B.KX.keeps c) _ _ q) t (B.lim.keeps c) (codeRec_of (B.KX.keeps c) F.3) F.2 (.of_eq (r _ hz)) m (λx i=>g _ (List.of_mem_zip i).1) (λa l kp=>h a _ l kp ⟨rfl,rfl,rfl,rfl⟩) F.9 F.10 F.8
theorem Ly(e:(sc.names.take k).map (·.1)=ps)(a:ps.Nodup)(c:vals.length=ps.length)(b:i<k)(d:sc.names[i]?=some (n,.local))(f:vals[i]?=some v):(ps.zip vals).reverse.lookup n=some v:=CI (Z (List.map_fst_zip (aA c.symm)) a) (tN a (bN (by rewrite[List.getElem?_zip_eq_some];exact⟨(by refine Z e.symm<|Z eX ?_;refine Z List.getElem?_take ?_;refine Z (ao b)<|Z d ?_;rfl),f⟩)))
theorem yX{x:Addr}(e:h.get? x=some o)(a:(f o).isFreed=false):(h.update x f).get? x=some (f o):=jx _ e a
theorem I6(F:eI B PF HE fP fH what place nI)(a:∀b o,B.h0.get? b=some o->s.heap.get? b=some o){x:Addr}(e:jB s.heap x PF none)(h:findIn B.K (.ref PF) name=some none){Q:Unit->Shared->Prop}
 (q:∀h' tk D,mf x s.heap h'->jB h' x PF (some D)->s.heap.get? D=none->h'.Ns1 D (λy=>if y=name then some v else none)->Q () {s with heap:=h',toks:=tk}):wpAny (model B.prog B.w) A (setAttr (.ref x) name v) Q E s:=by
 have X:=B.KX.keeps a;obtain⟨vs,k,m,a1,a2,g,l,I⟩:=F.at (oo:=none) X e trivial;have f:=bI (dH a1)
 have i:((s.heap.push _).update x λo=>{o with dict:=some s.heap.objs.size}).Ns1 _ λ_=>none:=
  Heap.Ns1.of_empty (ve emptyDict _ 0 ((jy _ _ f).trans (cg _ rfl)) rfl (λe he=>by simp at he) (λn=>rfl))
 refine Bk X I F.2 h (λA Q E r=>Oz (s:={s with toks:=s.toks+1}) X I rfl r) i Within.nil af λh' tk ns d=>q h' tk _ (λb o j c=>?_) (fX vs k ((d.2 x f).trans (yX (bj _ a1) rfl)) a2 g) (bQ _) ns;exact(d.2 b (bI (dH c))).trans ((jy _ _ (gS j)).trans (bj _ c))
theorem eI.neq(F:eI B PF HE fP fH what place nI)(X:B.K.In h){x:Addr}{c:Value}{d:Option Addr}{vs:Array Value}(f:h.get? x=some ⟨c,d,.fields vs,sl⟩):x≠PF:=λz=>by obtain⟨i,j,g,k,k1,l,m,n,b,e⟩:=qs F.1;have:=X _ _ b;rw[<-z,f]at this;exact kk PySem.Data.ctorIdx (bg Obj.data (aG this)) rfl
theorem Bz(F:eI B PF HE fP fH what place nI){field:Str}{kk:FuncData->Bool}
 (hF:hE B.K f vals.length nl (λfd body=>(fd.scope.names.take vals.length).map (·.1)==ew fd&&kk fd&&qx fd nI j field body)=true)
 (hU:∀fd,(∃o,B.K.lookup f=some o/\o.data=.func fd)->kk fd=true->tw B f fd C PF 0 nI/\∀x∈fd.scope.names,x.2≠.cell)
 {x:Addr}(u:vals[0]?=some (.ref x))(v1:vals[1]?=some va)(vJ:vals[j]?=some vj)(t:∀b o,B.h0.get? b=some o->s.heap.get? b=some o)(hr:A.depth<990)(e:jB s.heap x PF none)
 (g:∀fd d tk U D M x0 I S L Φ q2 vs u G h' pl,(∃o,B.K.lookup f=some o/\o.data=.func fd)->kk fd=true->D.depth=A.depth+1->(∀b o,s.heap.get? b=some o->d.get? b=some o)->
  (∀{A:Around}{E:bL}{R:bL} s',mf x d s'.heap->R (.ref x) s'->wpAny (model B.prog B.w) A (eval (.Name x0 I) U) R E s')->
  (∀{A:Around}{E:bL}{R:bL} s',mf x d s'.heap->R vj s'->wpAny (model B.prog B.w) A (eval (.Name L Φ) U) R E s')->
  d.get? x=some {cls:=.ref PF,data:=.fields vs}->vs[0]?=some u->vs[1]?=some .none->clsIn B.K PF=some G->gA G.mro=true->(∀b o,d.get? b=some o->h'.get? b=some o)->h'.get? d.objs.size=some (gL (.ref C) (.ref x) (.ref PF))->
  wpAny (model B.prog B.w) D (getMethod (.ref d.objs.size) nI pl) (λr s1=>∃N,dQ (r=(.ref N,[])) (∀b o,h'.get? b=some o->s1.heap.get? b=some o) (∃k,(k=Keeper.frame\/k=Keeper.machine\/k=Keeper.boundFrame)/\Looks (model B.prog B.w) s1.heap (keeperOf (.ref N)) k)
   (wpAny (model B.prog B.w) D (call (.ref N) [va]) (λ_ s2=>wpAny (model B.prog B.w) D (execs [.Assign [.Attribute (.Name x0 I) field S] (.Name L Φ) q2] U) (λH s'=>H=.next/\R (.ok (.ret .none)) s') M s2) M s1)) M {s with heap:=h',toks:=tk}):
 codeAny (model B.prog B.w) A (.call (.ref f) ⟨vals,[]⟩) R s:=by
 obtain⟨fd,body,q,hb,W,-,Ψ⟩:=oC hF;refine sL (jV Ψ) λk1 k2 k3=>?_;clear Ψ;obtain⟨np,cp,ap,p,qq,x1,p1,x0,I,S,L,Φ,q2,rfl,P,n1,n0,nj⟩:=Qi k3;refine a_ (hU fd q.1 k2) λΩ nc=>?_;have y:∀i n,fd.scope.names[i]?=some (n,NameKind.local)->jL n=true:=λi n h=>jv.mp (bW.mp q.5).2 _ (bN h);have nd:∀i n,fd.scope.names[i]?=some _->(n==("__debug__":Str))=false:=λi n h=>by simpa[jL]using(bW.mp (y i n h)).1
 refine JB q hb nc W.symm (aF hr) t λd tk w kp FE=>?_;have l:=λb o z=>kp b o (t b o z);have ld:∀{i:Nat}{n:Str}{v:Value},fd.scope.names[i]?=some _->vals[i]?=some v->∀{A:Around}{E:bL}{R:bL} s',mf x d s'.heap->R v s'->
  wpAny (model B.prog B.w) A (loadName (callEnv fd s.heap.objs.size f) n) R E s':=λhn hv A E R s' k r=>by
  refine rL (m:=λT=>((ew fd).zip _).reverse.lookup T) q.8 (cW (de q.5) hn) ?_ (Ly (eq_of_beq k1) q.4 W.symm (bV.mp hv).1 hn hv) r;refine qd w λo es ep Q rr=>?_;clear w;obtain⟨_,_,ox,_⟩:=e;exact(qh o es ep (k _ _ (λz=>have:=dH ox;absurd this (z▸jY _)) Q) rr)
 obtain⟨vs,α,G,a1,a2,a3,a4,I1⟩:=F.at (s:={s with heap:=d,toks:=tk}) (oo:=none) (B.KX.keeps l) (by refine bX e λvs u a b c=>?_;clear e;exact(fX vs u (kp _ _ a) b c):jB d x PF none) trivial
 refine nE (Nb Ω FE l q.8 q.6 q.7 a1 rfl rfl P (y _ _ n1) (λa ha A E R r=>ld ha u _ (λ_ _ _ z=>z) r) (λs' A E R k r=>ld n1 v1 s' (λb o _ z=>k b o z) r) (Qf:=λH s'=>H=.next/\R (.ok (.ret .none)) s') λh' pl k Q=>?_) (λH s' h=>?_) λ_ _ z=>z
 ·exact g fd d tk _ _ _ x0 I S L Φ q2 vs _ G h' pl q.1 k2 rfl kp (λs' b r=>wpAny_Name (ld n0 u s' b r) (nd _ _ n0)) (λs' b r=>wpAny_Name (ld nj vJ s' b r) (nd _ _ nj)) a1 a2 a3 a4 I1.3 k Q
 ·exact Z h.1 h.2
theorem JA(F:eI B PF HE fP fH what place nI)(d:∀b o,B.h0.get? b=some o->s.heap.get? b=some o)(hr:A.depth<990){x:Addr}(e:jB s.heap x PF none)(x0:B.h0.get? x=none)
 (q:∀h' tk D,mf x s.heap h'->jB h' x PF (some D)->s.heap.get? D=none->h'.Ns1 D (λy=>if y=what then some va else none)->R (.ok (.ret .none)) {s with heap:=h',toks:=tk}):
 codeAny (model B.prog B.w) A (.call (.ref fH) ⟨[.ref x,va],[]⟩) R s:=by
 refine Bz F F.12 (λfd l k=>iI (wW l rfl k) λΩ _ nc _=>⟨Ω,nc⟩) rfl rfl rfl d hr e λfd m tk U A1 E1 ζ p0 pa xj pj q2 vs v0 cd h' pl lk kk _ kp l0 lj a1 a2 L p Φ k Ψ=>iI (wW lk rfl kk) λ_ _ _ op=>?_;have c:=λb o z=>kp b o (d b o z);refine Z F.6 ?_;have g:=B.KX.keeps λb o z=>k b o (c b o z);have j:=k _ _ a1;obtain⟨cX,dd,bm,k0,β,γ,δ,k5,T,α⟩:=qs F.1;obtain⟨r,i⟩:=F.11;rw[p]at i;have h:Looks (model B.prog B.w) h' (isSubtype _ (.type "Exception")) _:=
  looks_mroIn g (by unfold mroIn;refine Z p<|Z (Option.bind_some ..)<|Z (ai (by refine Z ((vA Φ).2.2) ?_;decide)) ?_;exact Z (sW rfl Φ) rfl)
 refine HC ⟨(cP _ r (CK g p) (by refine Z i ?_;rfl)),CJ g op,h⟩ ((Looks.ld j).andThen .now) Ψ (F.neq g j) ?_
 have n:∀b o,h'.get? b=some o->(h'.push (lf (.builtin "Exception.__init__") (.ref x))).get? b=some o:=λb o z=>bj _ z;have G:(h'.push (lf (.builtin "Exception.__init__") (.ref x))).get? _=some _:=cg _ rfl;refine(gP _ rfl n (MM _ G) (iB (GA (n _ _ (g _ _ T)) G (n _ _ j) rfl (Op (n _ _ j) rfl a2 ?_))));generalize v:((h'.push _).push _)=u;have I:=λb o z=>v▸bj _ (n b o z);have t:jB (u.update x (Obj.mapFields (·.setIfInBounds 0 (.ref (h'.push (lf (.builtin "Exception.__init__") (.ref x))).objs.size)))) x PF _:=
  (fX _ _ (yX (I _ _ j) rfl) (by simp[((tI.mp a2).1)];rfl) (by simpa using L))
 have E:mf x h' (u.update x (Obj.mapFields (·.setIfInBounds 0 (.ref (h'.push (lf (.builtin "Exception.__init__") (.ref x))).objs.size)))):=λb o f z=>(jy _ _ (gS f)).trans (I b o z)
 generalize W:u.update x _=P at t E;have a:mf x m P:=λb o f z=>E b o f (k b o z);refine jG (plainObj_wpAny_Assign_Attribute (lj _ a (l0 _ a (I6 F (λb o z=>a b o (λw=>by subst w;rw[x0]at z;exact aN z) (c b o z)) t F.3 λQ ε D M N H C=>wpAny_execs_nil ⟨rfl,q Q _ D (λb o f z=>M b o f (a b o f (kp b o z))) N ?_ C⟩))) rfl)
 cases S:s.heap.get? D with
 |none=>rfl
 |some o=>
  have nx:D≠x:=λw=>by subst w;obtain⟨_,_,z,_⟩:=t;rw[H]at z;exact aN z
  have:=a D o nx (kp D o S);rw[H]at this;exact aN this
end
section
variable{nI:Str}
theorem I4(F:eI B PF HE fP fH what place nI)(a:∀b o,B.h0.get? b=some o->s.heap.get? b=some o){x D:Addr}(e:jB s.heap x PF (some D))(ns:s.heap.Ns1 D (λy=>if y=what then some va else none)){Q:Unit->Shared->Prop}
 (q:∀h' tk,Heap.SameBut D s.heap h'->jB h' x PF (some D)->h'.Ns1 D (λy=>if y=place then some v else if y=what then some va else none)->Q () {s with heap:=h',toks:=tk}):wpAny (model B.prog B.w) A (setAttr (.ref x) place v) Q E s:=by
 have X:=B.KX.keeps a;refine ac (yq ns.ns) λl c j=>?_;obtain⟨vs,m,p,a1,a2,g,h,I⟩:=F.at (oo:=some l) X e c;have n:x≠D:=λz=>by clear a e c j h;subst z;refine iF ns.ns λo _ _ d i _=>?_;rw[a1]at d;replace d:=aG d;subst d;cases i
 refine Bk X I F.2 F.4 (λA Q E r=>Oy (s:={s with toks:=s.toks+1}) X I rfl r) ns (Within.cons _ va Within.nil) af λh' tk k f=>q h' tk f (fX vs m ((f.2 x n).trans a1) a2 g) k
theorem Jz(F:eI B PF HE fP fH what place nI)(d:∀b o,B.h0.get? b=some o->s.heap.get? b=some o)(G:A.depth<980){x:Addr}{va I:Value}(e:jB s.heap x PF none)(x0:B.h0.get? x=none)
 (q:∀h' tk D,mf x s.heap h'->jB h' x PF (some D)->s.heap.get? D=none->h'.Ns1 D (λy=>if y=place then some I else if y=what then some va else none)->R (.ok (.ret .none)) {s with heap:=h',toks:=tk}):
 codeAny (model B.prog B.w) A (.call (.ref fP) ⟨[.ref x,va,I],[]⟩) R s:=by
 refine Bz F F.13 (λfd l k=>gv (wU l rfl k) λΩ _ nc=>⟨Ω.1,nc⟩) rfl rfl rfl d (aE G) e λfd i tk U A1 E1 β p0 pa xj pj q2 vs v0 cd h' pl lk kk W kp l0 lj a1 a2 Φ a4 ov k ho=>gv (wU lk rfl kk) λΩ _ _=>?_;have a:=λb o z=>kp b o (d b o z);have f:=B.KX.keeps λb o z=>k b o (a b o z);have H:=k _ _ a1;obtain⟨-,g,⟨l,P,r,hm,j,n,p⟩,m⟩:=Ω;refine wT f g.2 ⟨(dk l P r (p _ _ f) j (looks_ownIn f n)),looks_typeIn f g.2,m _ _ f⟩ ho (by refine Z F.6 ?_;rfl) (F.neq f H) ?_
 have h:∀b o,h'.get? b=some o->(h'.push (methodObj (.ref fH) (.ref x))).get? b=some o:=λb o z=>bj _ z;have E:(h'.push (methodObj (.ref fH) (.ref x))).get? h'.objs.size=some (methodObj (.ref fH) (.ref x)):=cg _ rfl;refine⟨_,rfl,h,keeps_M g.1 _ ⟨E,f.keeps h⟩,iB (method_call E (JA F (λb o z=>h b o (k b o (a b o z))) (Z W<|aE G) ((fX vs v0 (h _ _ H) a2 Φ)) x0 λS α D L M Q u=>?_))⟩;have c:mf x i S:=λb o t z=>L b o t (h b o (k b o z));refine jG (plainObj_wpAny_Assign_Attribute (lj _ c (l0 _ c ?_)) rfl);have fs:s.heap.get? D=none:=by
  cases Ψ:s.heap.get? D with
  |none=>rfl
  |some o=>have:=h D o (k D o (kp D o Ψ));rw[Q]at this;exact aN this
 refine I4 F (λb o z=>c b o (λw=>by subst w;rw[x0]at z;exact aN z) (a b o z)) M u λT C sb N v=>wpAny_execs_nil ⟨rfl,q T C D (λb o t z=>(sb.2 b λw=>?_).trans (c b o t (kp b o z))) N fs v⟩
 subst w;rw[fs]at z;exact aN z
end
inductive fE(B:bB)(μ:List Addr)(s1 s':Shared)(PF:Addr)(place:Str)(v:V)(x:Addr)(tb:Option Addr):Prop
 |mk(keep:∀b o,s1.heap.get? b=some o->s'.heap.get? b=some o\/(d9 o/\B.h0.get? b=none/\b∉μ)/\∃sl,s'.heap.get? b=some {o with slots:=sl})(gens:s'.gens=s1.gens)(os:s'.os=s1.os)(new:s1.heap.get? x=none)(ob:rf λD vs mm a=>o9 (s'.heap.get? x=some {cls:=.ref PF,dict:=some D,data:=.fields vs}) (vs[1]?=some (tb.elim .none .ref)) (s1.heap.get? D=none) (D≠x) (s'.heap.Ns1 D mm) (mm place=some a) (aj B.N μ s1.heap v a))(tbk:∀T,tb=some T->aV λoT ts=>gU (s'.heap.get? T=some oT) (oT.data=.fields ts) (ts[3]?=some .none) (s1.heap.get? T=none) (T≠x))
section
variable{nI:Str}{v:V}{x:Addr}{tb:Option Addr}{m1:av}
theorem fE.stay(R:fE B μ s1 s' PF place v x tb)(S:∀b o,B.h0.get? b=some o->s1.heap.get? b=some o):∀b o,B.h0.get? b=some o->s'.heap.get? b=some o:=λb o e=>(R.1 b o (S b o e)).elim id λz=>by rw[z.1.2.1]at e;exact aN e
theorem fE.still(R:fE B μ s1 s' PF place v x tb):dA μ s1.heap s'.heap:=λb o e q _=>(R.1 b o e).elim id λz=>absurd z.1.1 (wY q)
theorem fE.nx(R:fE B μ s1 s' PF place v x tb)(M:bw B.prog B.w B.N μ m s1.heap):Nx B P μ s1 m μ s':=by
 refine⟨M.other R.still λb o a e=>(R.1 b o e).elim id λz=>absurd a z.1.2.2,(ad [] (bZ _).symm (λ_ h=>bx h)),λb o e _=>(R.1 b o e).imp id λz=>(bt z.1.1 z.1.2.1 z.2),λb o e=>?_,R.2,R.3⟩;rcases R.1 b o e with z|⟨⟨_,_,_⟩,c,z⟩
 ·exact⟨o,z,id,λ_=>id⟩
 ·exact(b6 _ z id (λ_=>id))
theorem N3(F:eI B PF HE fP fH what place nI)(S:b_ B fs m μ s)(h:A.depth<970)(r:aj B.N μ s.heap v vp){Q:bL}
 (q:∀s' x,fE B μ s s' PF place v x none->Q (.ref x) s'):wpAny (model B.prog B.w) A (call (.ref PF) [va,vp]) Q E s:=by
 have X:=S.X;obtain⟨u,y,t,G,l,n,p,H,g,a⟩:=qs F.1;refine N1 a (X _ _ g) (looks_findIn X F.5.1) (looks_typeIn X F.5.2) af λh' e hm=>iB<|fv hm.there λI he _ _=>?_;have x0:B.h0.get? e=none:=by
  cases z:B.h0.get? e with
  |none=>rfl
  |some o=>have:=S.1 e o z;rw[hm.new]at this;exact aN this
 refine Jz F (λb o z=>hm.keeps b o (S.1 b o z)) (Z ((wO A PF _).1)<|aE h) (fX _ _ he rfl rfl) x0 λC tk D d f c ns=>⟨rfl,q _ e (bX f λvs Φ a1 a2 k=>?_)⟩;clear f;have j:s.1.get? D=none:=by
  cases z:s.1.get? D with
  |none=>rfl
  |some o=>have:=hm.keeps D o z;rw[c]at this;exact aN this
 exact⟨λb o z=>.inl ((λb o z=>d b o (λw=>by clear F h g a S q X x0 d;subst w;rw[hm.new]at z;exact aN z) (hm.keeps b o z)) b o z),rfl,rfl,hm.new,⟨D,vs,_,vp,a1,k,j,λz=>(by rw[z,he]at c;exact gO c),ns,ao rfl,r⟩,λT z=>aN z⟩
theorem JD(F:eI B PF HE fP fH what place nI){xs:Sem Value}{Q:Flow->Shared->Prop}(g:A.handled=none)
 (h:wpAny (model B.prog B.w) A xs (λr s'=>cL λx D vs=>gU (r=.ref x) (B.K.In s'.heap) (s'.heap.get? x=some {cls:=.ref PF,dict:=some D,data:=.fields vs}) (vs[1]?=some .none) (E (.ref x) s')) E s):wpAny (model B.prog B.w) A (raiseStmt U (some xs) none) Q E s:=by
 obtain⟨m,n,l,o,i,j,k,p,f,b⟩:=qs F.1;refine ag (mo h (λr d a=>?_));obtain⟨x,D,vs,rfl,X,he,h1,e⟩:=a;have c:=X _ _ f
 repeat (first|with_reducible refine li he ?_|with_reducible refine li c ?_|(with_reducible refine wpAny_isSubtype_exc c<|Z ((sX b (by trivial))) ?_)|with_reducible refine wpAny_field he rfl h1 ?_|wp_step)
 exact wpAny_raiseNew_none g e
end
theorem Oi{L x:Addr}{vs:Array Value}{Q:Unit->Shared->Prop}(B:A.frames=some (U::outer))(G:s.heap.FunFrames F (U::outer))(P:U.frame=some L)
 (he:s.heap.get? x=some oe)(z:oe.data=.fields vs)(hsz:1<vs.size)
 (h:∀h' T H Φ,(∀b o,b≠x->s.heap.get? b=some o->h'.get? b=some o\/(∃e∈U::outer,e.frame=some b)/\∃D,h'.get? b=some {o with slots:=D})->h'.get? x=some (oe.mapFields (·.setIfInBounds 1 (.ref T)))->
  s.heap.get? T=none->h'.get? T=some H->H.data=.fields Φ->Φ[3]?=some .none->Q () {s with heap:=h'}):
 wpAny M A (do let a<-frameOf U;let pl<-entryPlaceOf L hn;let b<-EntryCells.newEntry k a .none (rawInt L) .none pl;setField (.ref x) 1 b) (λ_ s'=>wpAny M A (setFlight (.ref x) none) Q E s') E s:=by
 have u:x∉(U::outer).filterMap _:=λhm=>by refine iH (G.mem hm) λ_ o w C=>?_;rw[he]at w;replace w:=aG w;subst w;exact C vs z
 refine ag (wpAny_frameOf_fun B G P λc d=>ag (wpAny_entryPlaceOf λpl v=>ag (kg ?_ (v.sizeOk5 _ _ _ _ _))));have l:=(d.2.1 x u).trans he;have m:=bj {cls:=.type "traceback",dict:=none,data:=.fields ([k,.ref L,.none,rawInt L,.none]++(if pl.isEmpty then List.replicate 6 Value.none else pl)).toArray} l
 refine mw m z hsz ?_;have r:=hL (dH l);have j:=jo z (·.setIfInBounds 1 (Value.ref c.objs.size))
 have n:=jx _ m (ty j);have i:=(jy (c.push {cls:=.type "traceback",dict:=none,data:=.fields ([k,.ref L,.none,rawInt L,.none]++(if pl.isEmpty then List.replicate 6 Value.none else pl)).toArray})
  (Obj.mapFields (·.setIfInBounds 1 (Value.ref c.objs.size))) (gS r)).trans (cg c rfl)
 refine fg n j (x:=.ref _) (by simp[hsz])<|mw i rfl (by simp only[List.size_toArray]<;>exact fT) ?_
 refine h _ _ _ _ (λb o y t=>?_) ((jy _ _ r).trans n) (NC (Z d.1<|aT _)) (jx _ i (ty (jo rfl _))) (jo rfl _)
  (by first|(simp;done)|(rcases v with rfl|⟨_,_,_,_,_,_,_,rfl⟩<;>simp))
 have q:∀o,c.get? b=some o->(((c.push {cls:=.type "traceback",dict:=none,data:=.fields ([k,.ref L,.none,rawInt L,.none]++(if pl.isEmpty then List.replicate 6 Value.none else pl)).toArray}).update x (Obj.mapFields (·.setIfInBounds 1 (Value.ref c.objs.size)))).update _
  (Obj.mapFields (·.setIfInBounds 3 ((none:Option Addr).elim Value.none λf=>rawInt f)))).get? b=some o:=λo t=>by
  refine Z (jy _ _ (hL (dH t))) ?_;refine Z (jy _ _ (gS y)) ?_;exact bj _ t
 by_cases hm:b∈(U::outer).filterMap (·.frame)
 ·exact aI (d.2.2 b o t) λD hs=>ac (List.mem_filterMap.mp hm) λe h1 N=>.inr ⟨(ad e h1 N),D,q _ hs⟩
 ·exact .inl (q _ ((d.2.1 b hm).trans t))
section
variable{v:V}{x:Addr}{tb:Option Addr}{m1:av}
theorem fE.frames(R:fE B μ s1 s' PF place v x tb)(a:s1.heap.FunFrames B.h0 fs):s'.heap.FunFrames B.h0 fs:=a.of_keeps λb o e _=>(R.1 b o e).elim (λz=>(ad o z rfl)) λz=>qe z λ_ c z=>(ad _ z rfl)
theorem NO(h:s1.heap.FunFrames B.h0 fs)(f:j4 fs μ s1.heap){b:Addr}{e:Env}(he:e∈fs)(g:e.frame=some b)(i:s1.heap.get? b=some o):d9 o/\B.h0.get? b=none/\b∉μ:=by refine gu (f e he) λL j a c d n=>?_;rw[g]at a;replace a:=aG a;subst a;rw[i]at c;replace c:=aG c;exact Z c<|(bt d (h.mem (List.mem_filterMap.mpr ⟨e,he,g⟩)).1 n)
theorem Cm(R:fE B μ s1 s' PF place v x tb)(m:A.frames=some (U::fs))(N:U.frame=some L)(G:s1.heap.FunFrames B.h0 (U::fs))(f:j4 (U::fs) μ s1.heap){Q:Unit->Shared->Prop}
 (q:∀w T,fE B μ s1 w PF place v x (some T)->Q () w):wpAny (model B.prog B.w) A (noteFrame (.ref x) U) (λ_ s2=>wpAny (model B.prog B.w) A (setFlight (.ref x) none) Q E s2) E s':=by
 obtain⟨D,vs,mm,a,t,l,o3,P,S,o6,o7⟩:=R.5;have hsz:=(tI.mp l).1;have g:∀hd hn s2,s2.gens=s'.gens->s2.os=s'.os->(∀b o,(∀T,tb=some T->b≠T)->s'.heap.get? b=some o->s2.heap.get? b=some o)->s2.heap.FunFrames B.h0 (U::fs)->
  wpAny _ A (do let a<-frameOf _;let pl<-entryPlaceOf L hn;let b<-EntryCells.newEntry hd a _ _ _ pl;setField _ 1 b) (λ_ s'=>wpAny (model B.prog B.w) A _ Q E s') E s2:=λhd hn s2 g2 u k p=>by
  have nT:=λT e=>fu (R.6 T e) λ_ _ _ _ _ _ h=>gS h;have H:∀b o,s1.heap.get? b=some o->∀T,tb=some T->b≠T:=λb o e T Φ z=>by refine fu (R.6 T Φ) λ_ _ _ _ _ h _=>?_;rw[<-z,e]at h;exact gO h
  refine Oi m p N (k _ _ nT t) rfl hsz λh' T oT' ts kp ex M Φ dT C=>q _ T ⟨λb o e=>?_,g2.trans R.2,u.trans R.3,R.4,⟨D,_,mm,a,ex,by simp[hsz],o3,P,?_,o6,o7⟩,λT' e=>?_⟩
  ·have nb:b≠x:=λz=>by subst z;rw[R.4]at e;exact aN e
   have step:∀s,s'.heap.get? b=some s->h'.get? b=some s\/(d9 o/\B.h0.get? b=none/\b∉μ)/\∃I,h'.get? b=some _:=λs e'=>(kp b s nb (k b s (H b o e) e')).imp id λw0=>(ac w0.1 λen h1 F=>⟨NO G f h1 F e,w0.2⟩)
   rcases R.1 b o e with z|⟨c,I,z⟩
   ·exact step o z
   ·rcases step _ z with y|⟨_,Ω,y⟩
    ·exact .inr ⟨c,I,y⟩
    ·exact .inr ⟨c,Ω,y⟩
  ·refine iF S λod es ep ho i r=>?_;clear S
   have nD:∀T,tb=some T->D≠T:=λT e z=>by obtain⟨oT1,ts1,h1,F,_⟩:=R.6 T e;rw[<-z,ho]at h1;replace h1:=aG h1;subst h1;rw[i]at F;cases F
   rcases kp D od P (k _ _ nD ho)with y|⟨_,I,y⟩
   ·exact⟨od,es,ep,y,i,r⟩
   ·exact⟨_,es,ep,y,i,r⟩
  ·replace e:=aG e;clear g2 u p kp ex;subst e
   refine(sP _ _ Φ dT C ?_ ?_)
   ·cases z:s1.heap.get? T with
    |none=>rfl
    |some o=>
     rcases R.1 T o z with y|⟨_,I,y⟩
     ·have:=k _ _ (H T o z) y;rw[M]at this;cases this
     ·have:=k _ _ (H T o z) y;rw[M]at this;exact aN this
   ·intro z;subst z;have:=k _ _ nT t;rw[M]at this;exact aN this
 unfold noteFrame;simp only[N]
 cases tb with
 |none=>exact have l:=l;fg t rfl l<|g _ _ s' rfl rfl (λb o _ e=>e) (R.frames G)
 |some T=>
  refine fu (R.6 T rfl) λH ts W Ψ C t4 t5=>fg t rfl l<|fg W Ψ C<|ag (mw W Ψ (tI.mp C).1 ?_);have j:∀b,b≠T->(s'.heap.update T (Obj.mapFields (·.setIfInBounds 3 Value.none))).get? b=s'.heap.get? b:=λb hb=>jy _ _ (gS hb)
  refine g _ _ _ rfl rfl (λb o n e=>(j b (n T rfl)).trans e) ((R.frames G).of_keeps λb o e nf=>(ad o ((j b λz=>?_).trans e) rfl));clear m N G f q t o3 P S o6 o7 hsz R l g C t4 t5 j;subst z;rw[W]at e;replace e:=aG e;subst e;exact nf ts Ψ
end
def EO(f:Str->List Expr->Bool)(x:Stmt):Bool:=(sv x).tag==9&&l1 (sv x).es λe=>qC e f
@[elab_as_elim] theorem QE{x:Stmt}{P:Stmt->Prop}(h:EO f x=true)(k:∀n np a cp pos,f n a=true->P (.Raise (some (.Call (.Name n np) a [] cp)) none pos)):P x:=bE h λh1 g=>bS (kh h1) λe pos c d=>Z d<|zq (kC (f:=λe=>qC e f) g c) λn q a p h=>k n q _ p _ h
section
variable{nI:Str}{v:V}{x:Addr}{m1:av}
theorem NZ(F:eI B PF HE fP fH what place nI){a:Expr}{np cp pos:Pos}{X:bY}{Q:Flow->Shared->Prop}(h1:d7 B sc d (a::args) Ds)(hs:(a::args).all bA=true)(o:sc.names.lookup n=some .globalImplicit)(l:nsIn B.K mainGlobals n=some (some (.ref PF)))
 (p:keepIn B.K (.ref PF)=true)(k:(n=="__debug__")=false)(f:Ar d A fs)(S:St B sc fs U J m μ s)(q:Ds J m λvs m=>(∃w,vs=[w,v])/\X m)
 (h:∀s1 m1 μ1 s' x,X m1->Nx B No μ s m1 μ1 s1->fE B μ1 s1 s' PF place v x none->E (.ref x) s'):wpAny (model B.prog B.w) A (exec (.Raise (some (.Call (.Name n np) (a::args) [] cp)) none pos) U) Q E s:=by
 refine gR<|JD F f.4 (ag (ag (tA S.2.1 (S.2.4 _ o) (loadGlobal_global (Z S.2.2<|B.G.keeps S.1.1) (mg_of B.KX B.G l) (callWith_K B.KX p (mo (h1 J m _ q A fs _ μ s E f S cp) (λvs s1 w0=>w0.k λws m1 μ1 z u g=>?_)) (dJ (bW.mp hs).1 _ _) (lC (bW.mp hs).2))) k)));clear w0;obtain⟨⟨w,e⟩,j⟩:=z;subst e;refine bX u.two λva H i G y=>Z i ?_;have c:=S.next g;refine⟨c.1.X,N3 F c.1 (aE f.1) y λs' x R=>gR (aD ?_)⟩;obtain⟨D,vs,mm,C,r,t,_⟩:=R.5;exact⟨x,D,vs,rfl,B.KX.keeps (R.stay c.1.1),r,t,h s1 m1 μ1 s' x j g R⟩
theorem EG{vs:List V}(F:re B.K f fd body ps)(j:fd.closure=[])(g:∀vals:List Value,vals.length=ps.length->bindArgs fd ⟨vals,[]⟩=pure (ps.zip vals))(c:vs.length=ps.length)
 (p:Ar (d+1) A fs)(S:b_ B fs m μ s)(r:aq B.N μ s.heap vs vals)
 (h:∀U s1,U.frame=some U.locals->Ar d (A.deeper U) (U::fs)->St B fd.scope (U::fs) U (iD fd.scope ps vs) m μ s1->Nx B No μ s m μ s1->(∀b,b9 fd.scope U b->s.heap.get? b=none)->
  wpAny (model B.prog B.w) (A.deeper U) (execs body U) (λf s'=>R (.ok (.ret (match f with| .ret v=>v|_=>.none))) s')
   (λe s'=>wpAny (model B.prog B.w) (A.deeper U) (leaving U e) (λ_ i=>R (.error e) i) (λq i=>R (.error q) i) s') s1):codeAny (model B.prog B.w) A (.call (.ref f) ⟨vals,[]⟩) R s:=by
 refine ac F.1 λo t u=>codeAny_call_cells (((aE p.1):A.depth<1000)) (S.X _ _ t) u (B.lim.keeps S.1) (codeRec_of S.X F.3) F.2 (g _ (Z c.symm r.length.symm)) j (λx w=>?_) (λs1 x=>?_) F.9 F.10 F.8
 ·have l:=(List.of_mem_zip w).1
  refine aI (F.12 _ l) λk n=>?_;rcases F.11 _ (fU n) l with z|z
  ·subst z;exact .inl n
  ·subst z;exact .inr ⟨n,vK (fU n)⟩
 ·exact have a:=AZ S r F.4 F.5 F.6 F.7 F.8 c F.11 x;h _ s1 rfl p.deeper a.1 a.2.1 a.2.2
def tH(B:bB)(PF:Addr)(place:Str)(d:Nat)(f:Addr)(vs:List V)(m:av)(v:V)(X:bY):Prop:=
 ∀(A:Around)(fs:List Env)(μ:List Addr)(s:Shared)(vals:List Value)(R:Result->Shared->Prop),Ar d A fs->b_ B fs m μ s->aq B.N μ s.heap vs vals->
  (∀s1 m1 μ1 s' x T,X m1->Nx B No μ s m1 μ1 s1->s1.heap.FunFrames B.h0 fs->j4 fs μ1 s1.heap->fE B μ1 s1 s' PF place v x (some T)->R (.error (.ref x)) s')->codeAny (model B.prog B.w) A (.call (.ref f) ⟨vals,[]⟩) R s
def Ey(K:Frag)(cs:List Addr)(as:List Str)(PF:Addr)(y:Y)(xt xl:X)(fd:FuncData)(body:List Stmt):Bool:=lc body λst r=>lc r λi _=>(iK K cs as y).s fd.scope st&&uG (λt r _=>(aU K cs as xt).b fd.scope t&&l1 r (EO λn args=>lc args λa args=>vq K fd.scope n PF&&(aU K cs as xl).l fd.scope (a::args))) i
theorem Qx(F:eI B PF HE fP fH what place nI)(p:B.N=cH cs as){y:Y}(h:hE B.K f np nl (λfd body=>fd.closure.isEmpty&&Ey B.K cs as PF y Ω xl fd body)=true){vs:List V}(L:vs.length=np)
 (q:(bu B d y).s (vs.map some++List.replicate (nl-np) none) m λI J m=>I=.next/\(au B d Ω).b J m λb m=>b=true/\(au B d xl).l J m λvs m=>(∃w,vs=[w,v])/\XX m):tH B PF place (d+1) f vs m v XX:=by
 refine fu (oC h) λfd body W hb en u Φ=>λA fs μ s vals R ar S r hR=>EG W (qY.mp (cC Φ).1) hb (L.trans en.symm) ar S r λU s1 hf c D n1 of=>?_;rw[u vs L]at D;refine fV (cC Φ).2 λst r1 u1=>fV u1 λi rest g=>bE g λc1 g=>BW g λt P _ ip g=>bE g λc3 g=>e0 g λrz g=>QE g λn np' o cp pos u3=>fV u3 λa H u4=>bE u4 λd0 d5=>DX d0 λd1 d2 d3 d4=>?_;obtain⟨hs,hD⟩:=(jK p xl).3 _ _ d5;refine jG (mo ((nR p y).1 _ _ c1 _ m _ q _ _ _ μ s1 _ c D) (λf s2 w0=>w0.k λI le2 m2 z j P E n2=>?_));clear w0;refine a_ j λe4 q2=>?_;clear j;subst e4;subst P;refine jG (wpAny_If (mo ((jK p Ω).2 _ _ c3 _ m2 _ q2 _ _ _ z s2 _ c E) (λb s3 w0=>w0.k λm3 μ3 j M=>?_)));clear w0;refine a_ j λe5 q3=>?_;clear j;subst e5;exact have G:=E.next M;jG (NZ F hD hs d1 d2 d3 d4 c G q3 λs4 m4 C s' x hX N RX=>have k:=G.next N;ag (Cm RX c.3 hf k.1.6 k.1.7 λs5 T Ψ=>hR s4 m4 C s5 x T hX (((n1.mono cG).trans ((n2.trans (M.mono cG)).trans (N.mono cG))).forget of) k.1.6.2.2 (λe he=>k.1.7 e (az _ he)) Ψ))
end
def XE(B:bB)(PF:Addr)(place:Str)(v:V)(X:bY)(fs:List Env)(μ:List Addr)(s:Shared)(E:bL):Prop:=
 ∀s1 m1 μ1 s' x T,X m1->Nx B No μ s m1 μ1 s1->s1.heap.FunFrames B.h0 fs->j4 fs μ1 s1.heap->fE B μ1 s1 s' PF place v x (some T)->E (.ref x) s'
section
variable{nI:Str}{v:V}{x:Addr}{m1:av}{XX:bY}
theorem XE.step(h:XE B PF place v XX fs μ s E)(n:Nx B No μ s m' μ' s'):XE B PF place v XX fs μ' s' E:=λs1 m1 μ1 s2 x T c d a b R=>h s1 m1 μ1 s2 x T c (n.trans d) a b R
theorem N7{o:Expr}{a:Expr}{f c:Nat}{Q:bL}(h1:a7 B sc d o D)(H:d7 B sc d (a::args) Ds)(i:mL B.K (B.N.cls c) n f=true)(Ω:∀G,ye B.N G n)(L:lw o=true)(M:(ap.endLine==p.line)=true)(hz:(a::args).length<30)(hs:(a::args).all bA=true)
 (h:Ar d A fs)(S:St B sc fs U J m μ s)(q:D J m λx m=>aV λk l=>br (x=.obj c k) (m[k]?=some (.fields l)) (Ds J m λvs m=>tH B PF place d f (x::vs) m v XX))(I:XE B PF place v XX fs μ s E):
 wpAny (model B.prog B.w) A (eval (.Call (.Attribute o n ap) (a::args) [] p) U) Q E s:=by
 refine methodCall_KW (he:=uR L M hs hz _) (h1.go q h S λv1 s1 x m1 μ1 w u t=>bX w λk l z y q1=>?_);clear w;subst z;exact have e:=S.next t;DU e.1 u y i (Ω _)<|callWith_K B.KX (by simp only[mL,j6]at i;exact i.2) (he:=dJ (bW.mp hs).1 _ _) (hplain:=lC (bW.mp hs).2) (H.go q1 h e p λvals s2 vs m2 j q2 W g=>⟨(e.next g).1.X,iB (q2 A fs j s2 _ _ h (e.next g).1 (aq.cons (u.nx e.1.4 g) W) (λΨ N r s4 x T Φ P C F R=>(I.step t).step g Ψ N r s4 x T Φ P C F R))⟩)
theorem Ck(n:h.Ns1 a mm)(k:∀o,h.get? a=some o->∃b,h'.get? a=some {o with slots:=b}):h'.Ns1 a mm:=by refine qd n λo es ep c r=>?_;clear n;exact aI (k o c) λb e=>(qh _ es ep e r)
theorem Lz(n:h.Ns1 a mm)(e:h.get? a=some o):d9 o:=by refine iF n λd es ep b c _=>?_;clear n;rw[e]at b;replace b:=aG b;exact Z b<|⟨es,ep,c⟩
theorem fE.flight{T:Addr}(R:fE B μ s1 s' PF place v x (some T)){Q:Unit->Shared->Prop}(q:∀f,fE B μ s1 f PF place v x (some T)->Q () f):wpAny M A (setFlight (.ref x) none) Q E s':=by
 obtain⟨D,vs,mm,a,i,j,m,n,p,r,s⟩:=R.5;refine fu (R.6 T rfl) λG H k g t u w=>?_;have hsz:=(tI.mp t).1;have d:∀b,b≠T->(s'.heap.update T (Obj.mapFields (·.setIfInBounds 3 .none))).get? b=s'.heap.get? b:=λb y=>jy _ _ (gS y)
 have h:∀b o,s1.heap.get? b=some o->b≠T:=λb o e z=>by rw[z,u]at e;exact aN e
 refine wpAny_setFlight_none i rfl j k g hsz (q _ ⟨λb o e=>(R.1 b o e).imp (λz=>(d b (h b o e)).trans z) λw0=>(by refine qe w0 λc C z=>?_;clear w0;exact⟨c,C,(d b (h b o e)).trans z⟩),R.2,R.3,R.4,⟨D,vs,mm,a,(d x w.symm).trans i,j,m,n,Ck p λo e=>⟨o.slots,(d D λz=>?_).trans e⟩,r,s⟩,λF e=>?_⟩)
 ·clear R q i j m n r s t d h;subst z;refine eC (Lz p e) λes ep l=>?_;rw[k]at e;replace e:=aG e;subst e;rw[g]at l;cases l
 ·replace e:=aG e;subst e
  exact(sP _ _ (yX k (ty (jo g _))) (jo g _) (by simp[hsz]) u w)
end
section
variable{nI:Str}{v:V}{x:Addr}{m1:av}
theorem wL(S:St B sc fs U J m μ s)(c:sc.names[i]?=some (n,.local))(f:J[i]?=some (some v)){Q:bL}(q:∀a,aj B.N μ s.heap v a->Q a s):wpAny (model B.prog B.w) A (eval (.Name n p) U) Q E s:=by
 refine g_ (S.2.15 i v f) λj g h d l r=>?_;rw[c]at d;cases d;have lc:=S.2.5 n (cW (de S.2.8) c);refine wpAny_Name ?_ (by simpa[jL]using(bW.mp (jv.mp (bW.mp S.2.8).2 _ (bN c))).1)
 rcases l with⟨b,mm,e,hm⟩|⟨b|b,_⟩
 ·exact rL S.2.1 b e hm (q _ r)
 ·rw[b]at lc;cases lc
 ·rw[b]at lc;cases lc
theorem Ko(F:eI B C HE fP fH what place nI){a b:Int}{D:Addr}{vs:Array Value}{Q:bL}(R:U.kindOf n=some .local)(Ψ:jL n=true)(h1:sc.names[1]?=some (t1,.local))(M:sc.names[2]?=some (t2,.local))
 (w1:J[1]?=some (some (.int a)))(w2:J[2]?=some (some (.int b)))(h:A.units+64<cLine)(S:St B sc fs U J m μ s)(k:s.heap.Ns U.locals mm)(l:mm n=some (.ref x))(x3:s.heap.get? x=some {cls:=.ref C,dict:=some D,data:=.fields vs})(L:s.heap.Ns1 D r)(Ω:r place=some a0)
 (w:aj B.N μ s.heap (.tup [.int a,.int b]) a0)(q:∀s',Nx B No μ s m μ s'->Q (.bool true) s'):
 wpAny (model B.prog B.w) A (eval (.Compare (.Attribute (.Name n fp) place pa) [.Eq] [.Tuple [.Name t1 α,.Name t2 β] tk γ] Φ) U) Q E s:=by
 refine ac (yq L.ns) λW p j=>ac (F.inst (oo:=some W) x3 p) λcd N I=>wpAny_Compare1 (Attribute_any_ (wpAny_Name (rL S.2.1 R k l (NE S.1.X I F.8 F.9 (findObj_own (by unfold hasDictIn;exact Z N I.4) F.4 rfl (Z (j ..)<|Z Ω rfl)) (DO w) ?_)) (by simpa[jL]using(bW.mp Ψ).1)) (EX rfl _))
 have f:=Nx.toks (P:=No) S.1.4 (s.toks+1);have v:=S.next f;refine wpAny_Tuple_spliced (spliced_cons (wL v h1 w1 λG t=>spliced_cons (wL v M w2 λH u=>spliced_nil ⟨Z ki<|af,?_⟩)));have i:Nx B No μ _ m μ {s with toks:=s.toks+1,heap:=s.heap.push {cls:=.type "tuple",data:=.seq #[G,H]}}:=Nx.of_keep f.1 (λb o e=>bj _ e) rfl rfl
 exact have rt:aj _ μ _ _ (.ref s.heap.objs.size):=
  aj.tup_ ⟨_,cg _ rfl,rfl,_,rfl⟩ (aq.cons (t.nx f.1 i) (aq.cons (u.nx f.1 i) aq.nil)) (S.1.4.new_not (bQ _));aI ((w.nx f.1 i).reads 8 rfl) λas q1=>aI (rt.reads 8 rfl) λbs q2=>eq_dataH q1 q2 (pJ rfl) (pJ rfl) h<|Z (V.eqv 8 8 _ _ rfl rfl)<|Z (V.eqb_refl 8 _ rfl)<|q _ (f.trans i)
theorem HP(F:eI B PF HE fP fH what place nI){T:Addr}{a b:Int}{Q:Flow->Shared->Prop}(G:sc.names[i]?=some (n,.local))(h1:sc.names[1]?=some (t1,.local))(h2:sc.names[2]?=some (t2,.local))(h3:sc.names[3]?=some (du,.local))(v:3<i)
 (v1:J[1]?=some (some (.int a)))(v2:J[2]?=some (some (.int b)))(v3:J[3]?=some (some (.int (-1))))(g:A.units+64<cLine)(S:St B sc fs U J m μ s1)(R:fE B μ s1 s' PF place (.tup [.int a,.int b]) x (some T))
 (q:∀s2,Nx B (b9 sc U) μ s1 m μ s2->St B sc fs U (J.set i none) m μ s2->Q (.ret (.bool true)) s2):
 wpAny (model B.prog B.w) A (setFlight (.ref x) none) (λ_ s1=>wpAny (model B.prog B.w) A (storeName U n (.ref x)) (λ_ s2=>wpAny (model B.prog B.w) A (execs [.Return (some (.BoolOp .And [.Compare (.Name du dp) [.Eq] [.UnaryOp .USub (.Constant (.int 1) k kp) up] Ψ,.Compare (.Attribute (.Name n fp) place pa) [.Eq] [.Tuple [.Name t1 tp1,.Name t2 tp2] tk ttp] α] bp)) rp] U) Q E s2) E2 s1) E3 s':=by
 refine R.flight λs2 p=>?_;have L:=S.next (p.nx S.1.4);obtain⟨D,vs,β,a0,o1,o2,o3,o4,o5,o6,o7⟩:=p.5;have N:∀c,s1.heap.get? c=none->¬(c∈μ\/b9 sc _ c):=λc e z=>z.elim (S.1.4.new_not e) λw=>by refine aI (v_ S.2 w.frm) λob h=>?_;rw[e]at h;cases h
 refine wX L G λs3 l s w=>ac w λmm y C=>?_;clear w;refine jG (wpAny_Return_some (wpAny_And2 (wpAny_Compare1 (wL l h3 (by refine Z (d6 (hL v)) ?_;exact v3) λc rc=>wpAny_UnaryOp (wpAny_Constant_int (PySem.P.neg_int (aI rc.int_inv λt e_=>Z e_ (eq_dataH (Reads.int _ _) (Reads.int _ _) (pJ (x:=.int _) rfl) (pJ (x:=.int _) rfl) g (Z (show PyData.eqv _ _=true from by simp[PyData.eqv]) (wpAny_truthy_bool (Z (ao rfl) ?_)))))))))))
 have H:=Nx.toks (P:=No) l.1.4 (s3.toks+1+1);have Φ:=s.stillOwn L;have k3:=s.kep o1 (N x p.4) (e8 rfl);have I:=Ck o5 λo e=>s.slots e (N D o3);exact Ko F (l.2.5 n (cW (de l.2.8) G)) (jv.mp (bW.mp S.2.8).2 _ (bN G)) h1 h2 (by refine Z (d6 (hL (aE v))) ?_;exact v1) (by refine Z (d6 (hL (aE v))) ?_;exact v2) g (l.next H) y C k3 I o6 ((o7.stay p.still).stay Φ) λs5 M=>q s5 (((p.nx S.1.4).trans s).trans ((H.trans M).mono cG)) (l.next (H.trans M))
end
section
variable{nI:Str}{v:V}{x:Addr}{m1:av}{XX:bY}
theorem Np(F:eI B PF HE fP fH what place nI){T:Addr}{a b:Int}{Q:Flow->Shared->Prop}(z:sc.names.lookup pn=some .globalImplicit)(y:nsIn B.K mainGlobals pn=some (some (.ref PF)))(w:(pn=="__debug__")=false)
 (l:sc.names[i]?=some (n,.local))(h1:sc.names[1]?=some (t1,.local))(t:sc.names[2]?=some (Ω,.local))(u:sc.names[3]?=some (du,.local))(C:3<i)
 (v1:J[1]?=some (some (.int a)))(v2:J[2]?=some (some (.int b)))(v3:J[3]?=some (some (.int (-1))))(o:Ar d A fs)(S:St B sc fs U J m μ s1)(R:fE B μ s1 s' PF place (.tup [.int a,.int b]) x (some T))
 (q:∀s2,Nx B (b9 sc U) μ s1 m μ s2->Q (.ret (.bool true)) s2):
 wpAny (model B.prog B.w) A (handleBy (.ref x) U [.ExceptHandler (some (.Name pn pp)) (some n) [.Return (some (.BoolOp .And [.Compare (.Name du dp) [.Eq] [.UnaryOp .USub (.Constant (.int 1) k kp) up] c1p,.Compare (.Attribute (.Name n fp) place pa) [.Eq] [.Tuple [.Name t1 W,.Name Ω Ψ] tk α] r] bp)) rp] hp]) Q E s':=by
 obtain⟨cX,dd,bm,k0,G,H,I,k5,v,g⟩:=qs F.1;obtain⟨D,vs,Φ,a0,M,_⟩:=R.5;refine wpAny_handleBy_cons (codeAny_handlers_test (tA S.2.1 (S.2.4 _ z) (loadGlobal_global (Z S.2.2<|B.G.keeps (R.stay S.1.1)) (mg_of B.KX B.G y) ?_) w)) (by intro q;exact kk PySem.Value.ctorIdx q rfl)
 refine wpAny_excMatches_sub_self (B.KX.keeps (R.stay S.1.1) _ _ v) M rfl (sW rfl g)<|codeAny_handlers_suite_as (HP F l h1 t u C v1 v2 v3 (show A.units+64<cLine from zt o) S R λs2 L c=>?_);obtain⟨mm,j⟩:=c.2.10;refine wpAny_nameGoes (c.2.5 n (cW (de c.2.8) l)) j (by refine Z c.2.1 ?_;rfl) λh' m' ns N=>?_
 exact q _ (L.trans ((Nx.own c (.inl rfl) (λob e=>n_ j e) N (Cj ns _)).1.mono (xL (.inl rfl))))
theorem Hc(F:eI B PF HE fP fH what place nI){o g tg:Expr}{f c i:Nat}{n r:Str}{a b:Int}{Q:Flow->Shared->Prop}
 (hg:sc.names.lookup r=some .globalImplicit)(hf:nsIn B.K mainGlobals r=some (some (.ref PF)))(hd:(r=="__debug__")=false)
 (hx:sc.names[i]?=some (n,.local))(h1:sc.names[1]?=some (t1,.local))(P:sc.names[2]?=some (t2,.local))(Ω:sc.names[3]?=some (Φ,.local))(hi:3<i)
 (v1:J[1]?=some (some (.int a)))(v2:J[2]?=some (some (.int b)))(v3:J[3]?=some (some (.int (-1))))
 (ho:a7 B sc d o D)(Ψ:d7 B sc d (g::args) Ds)(ok:mL B.K (B.N.cls c) nm f=true)(nf:∀N,ye B.N N nm)(hb:lw o=true)(hl:(ap.endLine==p.line)=true)(hz:(g::args).length<30)(hs:(g::args).all bA=true)
 (v:swapsWithSole [tg] (.Call (.Attribute o nm ap) (g::args) [] p) mp.line U=pure false)(w:swappedStores [tg] (.Call (.Attribute o nm ap) (g::args) [] p) U=pure none)
 (t:Ar d A (U::fs))(u:U.frame=some U.locals)(S:St B sc (U::fs) U J m μ s)
 (q:D J m λx m=>aV λk l=>br (x=.obj c k) (m[k]?=some (.fields l)) (Ds J m λvs m=>tH B PF place d f (x::vs) m (.tup [.int a,.int b]) XX))
 (h:∀s2 z y,XX z->Nx B (b9 sc U) μ s z y s2->Q (.ret (.bool true)) s2):
 wpAny (model B.prog B.w) A (execs (.Try [.Assign [tg] (.Call (.Attribute o nm ap) (g::args) [] p) mp] [.ExceptHandler (some (.Name r pp)) (some n) [.Return (some (.BoolOp .And [.Compare (.Name Φ dp) [.Eq] [.UnaryOp .USub (.Constant (.int 1) k kp) up] H,.Compare (.Attribute (.Name n fp) place pa) [.Eq] [.Tuple [.Name t1 α,.Name t2 β] tk γ] c2p] bp)) rp] hp] [] [] tp::rest) U) Q E s:=jG (wpAny_Try_except (jG (wpAny_Assign_stores (N7 ho Ψ ok nf hb hl hz hs t S q λs1 m1 μ1 s' x T W C L M R=>Cm R t.3 u L M λs2 T' G=>Np F hg hf hd hx h1 P Ω hi v1 v2 v3 t (S.next C) G λs3 n3=>h s3 m1 μ1 W ((C.mono cG).trans n3)) v w)))
theorem Pe{D:DS}(h1:i3 B sc d body D):fJ B sc d (.Try body (h₀::hs) [] [] pos) D:=by
 refine λJ m Q q A fs U μ s E b S=>wpAny_Try_except (mo (h1 J m Q q A fs _ μ s _ b S) (λf s1 h=>?_))
 cases f<;>first|exact h|exact wpAny_execs_nil h
end
def hT:ExceptHandler->Option Expr| .ExceptHandler t _ _ _=>t
def hN:ExceptHandler->Option Str| .ExceptHandler _ n _ _=>n
def hB:ExceptHandler->List Stmt| .ExceptHandler _ _ b _=>b
def EL(f:Stmt->Expr->Str->Stmt->Bool)(x:Stmt):Bool:=(sv x).tag==10&&l1 (sv x).s1 λa=>l1 (sv x).hs λh=>fS (hT h) λt=>fS (hN h) λn=>l1 (hB h) λr=>f a t n r
@[elab_as_elim] theorem EK{x:Stmt}{P:Stmt->Prop}(h:EL f x=true)(k:∀a t n r d g,f a t n r=true->P (.Try [a] [.ExceptHandler (some t) (some n) [r] d] [] [] g)):P x:=bE h λh1 c=>by
 refine aI (kh h1) λg e=>Z e ?_;generalize(sv x).s1=s at c;generalize(sv x).hs=hs at c;refine e0 c λa c=>e0 c λu c=>?_
 cases u with
 |ExceptHandler l j i d=>exact uC (P:=λl=>P (.Try _ [.ExceptHandler l j i d] [] [] g)) c λt h=>uC (P:=λj=>P (.Try _ [.ExceptHandler _ j i d] [] [] g)) h λn h=>e0 (P:=λi=>P (.Try [a] [.ExceptHandler _ _ i d] [] [] g)) h λr h=>k a t n r d g h
def EN(sc:Scope)(n place:Str)(r:Stmt):Bool:=pS (kr .And λes=>l2 es λc1 c2=>
 mJ [.Eq] (λl u=>l1 u λu=>oJ sc 3 l&&r9 .USub (n8 (.int 1)) u) c1&&
 mJ [.Eq] (λg t=>l1 t λt=>lz (λf m _=>m==place&&h8 (λm _=>m==n) f) g&&g7 (λes=>l2 es λa b=>oJ sc 1 a&&oJ sc 2 b) t) c2) r
@[elab_as_elim] theorem QD{P:Stmt->Prop}(h:EN sc n place r=true)(k:∀s v w z up kp d fp B o p q i x C k tk,sc.names[1]?=some (v,.local)->sc.names[2]?=some (w,.local)->sc.names[3]?=some (s,.local)->
 P (.Return (some (.BoolOp .And [.Compare (.Name s z) [.Eq] [.UnaryOp .USub (.Constant (.int 1) k kp) up] d,.Compare (.Attribute (.Name n fp) place B) [.Eq] [.Tuple [.Name v o,.Name w p] tk q] i] x)) C)):P r:=
 uF h λe C h=>si h λes x h=>iq h λΦ L h=>bE h λh D=>sg h λl u d h=>e0 h λu h=>bE h λG h=>qE G λs z I=>xP h λy up h=>pW h λkk kp=>sg D λg t i h=>e0 h λt h=>bE h λj h=>pY j λf m B j=>bE j λhm j=>i_ j λm' fp A=>mI h λes tk q h=>iq h λa b h=>bE h λE F=>qE E λv o m1=>qE F λw p H=>Z (eq_of_beq hm)<|Z (eq_of_beq A)<|k s v w z up kp _ fp B _ _ _ _ x C kk tk m1 H I
def zh(K:Frag)(cs:List Addr)(as:List Str)(PF:Addr)(place:Str)(i:Nat)(c f:Nat)(xo xl:X)(y:Y)(rest:Y)(fd:FuncData)(body:List Stmt):Bool:=lc body λt r=>EL (λa e n q=>
 ((iK K cs as y).ss fd.scope [a]&&(iK K cs as rest).ss fd.scope r)&&
  i9 (λtg v=>sk fd.scope tg v&&uM fd.scope tg v&&qD v λo nm args=>lc args λaa args=>mL K (cs.getD c 0) nm f&&vT as nm&&(aU K cs as xo).e fd.scope o&&(aU K cs as xl).l fd.scope (aa::args)) a&&
  h8 (λm _=>fd.scope.names.lookup m==some .globalImplicit&&nsIn K mainGlobals m==some (some (.ref PF))&&!(m==("__debug__":Str))) e&&
  fd.scope.names[i]?==some (n,.local)&&EN fd.scope n place q) t
section
variable{nI:Str}
theorem Qs(hN:B.N=cH cs as){y rest:Y}(h:hE B.K g np nl (λfd body=>fd.closure.isEmpty&&zh B.K cs as PF place i c f xo z y rest fd body)=true){vs:List V}(k:vs.length=np)
 (q:nU (bu B d y).ss (bu B d rest).ss (vs.map some++List.replicate (nl-np) none) m (dY Q)):aP B (d+1) g vs m Q:=fu (oC h) λfd body l p o b s=>a_ (cC s) λk1 j=>EE l (qY.mp k1) p (fV j λt r u=>EK u λa e n q w x u=>hI u λu _ _ _ _=>bE u λj v=>Ef (Pe ((nR hN y).2 _ _ j)) ((nR hN _).2 _ _ v)) vs m Q (k.trans o.symm) (Z (b vs k) q)
theorem Qr(F:eI B PF HE fP fH what place nI)(hN:B.N=cH cs as){y rest:Y}(h:hE B.K g np nl (λfd body=>fd.closure.isEmpty&&zh B.K cs as PF place i c f xo xl y rest fd body)=true){vs:List V}{a b:Int}(P:vs.length=np)(hi:3<i)
 (v1:vs[1]?=some (.int a))(v2:vs[2]?=some (.int b))(v3:vs[3]?=some (.int (-1)))(hX:∀m,XX m->Q (.bool true) m)
 (q:(au B d xo).e (vs.map some++List.replicate (nl-np) none) m λx m=>aV λk l=>br (x=.obj c k) (m[k]?=some (.fields l)) ((au B d xl).l (vs.map some++List.replicate (nl-np) none) m λvs m=>tH B PF place d f (x::vs) m (.tup [.int a,.int b]) XX)):
 aP B (d+1) g vs m Q:=by
 refine fu (oC h) λfd body Ω hb Ψ G hk=>a_ (cC hk) λk1 k2=>λA fs μ s E vals W S r=>EG Ω (qY.mp k1) hb (P.trans Ψ.symm) W S r λU s1 hf Φ H n1 of=>?_;rw[G vs P]at H;clear h P Ω hb Ψ G hk k1 W S r;refine fV k2 λt r' u=>EK u λa' e n qq hp tp u=>hI u λ_ v R k7 k8=>nZ v λtg vv mp v=>cK v λz C v=>zr v (λo nm ap D p b1 b2 L M v=>fV v (λaa D v L M z C=>iQ v λd1 d2 d3 d5=>i_ R λne ep R=>cK R λf2 f3 f4=>QD k8 λdu t1 t2 dp up kp α fp pa γ δ ε β bp rp k tk m1 I m3=>?_) L M) z C
 have N:∀{j:Nat}{w:V},vs[j]?=some w->(vs.map _++List.replicate (nl-np) none)[j]?=some (some w):=λhj=>by refine Z (cu (Z aY<|(bV.mp hj).1)) ?_;refine Z eX ?_;refine Z hj ?_;rfl
 refine Hc (XX:=XX) F (eq_of_beq f2) (eq_of_beq f3) (mK f4) (eq_of_beq k7) m1 I m3 hi (N v1) (N v2) (N v3) ((jK hN xo).1 _ _ d3) ((jK hN xl).3 _ _ d5).2 (Z hN d1) (λfl i _=>Z hN<|EW d2 i) b1 b2 M L (Cp C H.2.6) (AF z H.2.6) Φ hf H ?_ λs2 I T hx n2=>?_
 ·exact q
 ·exact⟨.bool _,I,T,hX I hx,aj.bool_ _,((n1.mono cG).trans n2).forget of⟩
end
end
section
variable{B:bB}{np d l a b c i j p N M z D ep lp:Nat}{m:av}{Q P:aS}{x v gone:V}{t pre:List V}{R F L T A C RO SS:List (Nat×O)}{up ll ks xs hs:List Nat}{o op:Str}{nodes:List (Str×List Nat)}{src:bY}{lot:List (List Nat)}{h:HS}{s:SH}{lab:Option Nat}{J:bh}{rs:List ec}{w:Nat×O}{row:qK}{ws:List (Nat×Nat)}{v0:Option V}{evs:List (Nat×Nat×Nat)}
def Ae:Str:=⟨#[116,119,111,32,110,117,109,98,101,114,115,32,97,114,101,32,110,111,116,32,97,108,105,107,101]⟩
def t6:Str:=⟨#[119,104,97,116]⟩
def pA:Str:=⟨#[112,108,97,99,101]⟩
def Ca(K:Frag):Bool:=hE K 171 3 4 λfd body=>fd.closure.isEmpty&&Ey K fe dN 88 (.expr (.meth 3 145 aJ .nil)) rI (aZ (.str Ae) (.tup et)) fd body
def B8(K:Frag):Bool:=hE K 634 5 11 λfd body=>fd.closure.isEmpty&&zh K fe dN 88 pA 6 3 171 aJ et zT zU fd body
inductive Hq(B:bB):Prop
 |mk(toHz:Hz B)(pf:eI B 88 47 78 37 t6 pA mz)(rz:Ca B.K=true)(tr:B8 B.K=true)
theorem HX(H:Hq B)(K:kP h)(i:cm h s)(p:a<h.s.n)(q:b<h.s.n)(j:¬h.s.al a b)(W:ae (a8 s (ah h R)) m):
 tH B 88 pA (d+5) 171 [.obj 3 s.z,.int a,.int b] m (.tup [.int a,.int b]) λc=>∃s',br (s'.z=s.z) (cm h s') (ae (a8 s' (ah h R)) c):=by
 refine Qx H.2 H.1.1.1 H.3 rfl ?_
 have g:∀s' c,s'.z=s.z->cm h s'->fK _ s'->ae (a8 s' _) c->(au B (d+4) rI).b [some (.obj 3 _),some (.int a),some (.int b),none] c λt c=>t=true/\
  (au B (d+4) (aZ (.str Ae) (.tup et))).l [some (.obj 3 s.z),some _,some _,none] c λvs c=>(∃w,vs=[w,.tup [.int a,.int b]])/\∃s',br (s'.z=s.z) (cm h s') (ae (a8 s' (ah h R)) c):=λs' c hz o C f=>by
  have w0:c[s.z]?=some _:=Z hz.symm<|f.get 0 rfl;have n:bO (pK (a,b)) (iL s'.cd)=none:=by
   refine Z kM ?_
   cases e:a5 _ s'.cd with
   |none=>rfl
   |some x=>exact absurd ((C.1.iff p q).mp ⟨x,e⟩) j
  exact⟨af,w0,tY (k:=pK _) (f.get 1 rfl) rfl (Z n (eE ⟨rfl,af,⟨_,rfl⟩,s',hz,o,f⟩))⟩
 exact⟨W.get 0 rfl,xv H.1.1 K.1 K.2 K.3 K.4 W (λe c f=>⟨rfl,g s c rfl i (i.at e) f⟩) λu s' c hz r cs f=>⟨rfl,g s' c hz (.of r cs) cs f⟩⟩
theorem M2(H:Hq B):jw B (d+45):=
 ⟨(λr o f g c j k h1 i h3 W q=>Qs H.1.1.1 H.4 rfl (Js H.1 r o f g c j k h1 i W q)),(λ{h s R m Q a b lp} r o f g c W q=>Qr H.2 H.1.1.1 H.4 rfl af rfl rfl rfl (λl ⟨s',e,n,w⟩=>q s' l e n w)
  (fX _ _ rfl (W.get 0 rfl) (HX H r o f g c W)))⟩
end
section
variable{prog:Program}{w:World}{A:Around}{E:bL}{s s' s0 s1:Shared}{a g I C C' PF HE fP fH:Addr}{b:Bool}{t:Tok}{Q:aS}{v:Value}{P:Addr->Prop}{N:gT}{μ μ' μ0 μ1 cs:List Addr}{h h':Heap}{l:List V}{vs vals:List Value}{o:Obj}{R:Result->Shared->Prop}{x y:V}{i d c j tk k1 np nl:Nat}{m m' m0:av}{sc scope:Scope}{U:Env}{B:bB}{fs:List Env}{J:bh}{mm:Str->Option Value}{G:Prop}{M:Model}{p pos ap fp p2 cp:Pos}{items:Array Value}{T:DT}{e value tg:Expr}{D D1 D2:DE}{es ifs:List Expr}{xs:List (Nat×Tok)}{as ps:List Str}{Ds:DL}{name what place:Str}{names:List (Str×NameKind)}{body:List Stmt}{fd:FuncData}{cap:List (Option Nat)}
def Cd(K:Frag)(p:Program):Bool:=
 y8 K 88&&findIn K (.ref 88) "__setattr__"==some (some (.builtin "object.__setattr__"))&&findIn K (.ref 88) t6==some none&&findIn K (.ref 88) pA==some none&&
 (findIn K (.ref 88) "__init__"==some (some (.ref 78))&&typeIn K (.ref 78)==some (.type "function"))&&
 findIn K (.ref 88) "__getattribute__"==some (some (.builtin "BaseException.__getattribute__"))&&findIn K (.ref 88) "__getattr__"==some none&&keepIn K (.ref 88)&&
 (lc (((clsIn K 88).elim [] (·.mro)).dropWhile (·!=Value.ref 47)) λa r=>a==.ref 47&&lc r λb _=>b==.type "Exception")&&
 hE K 37 2 4 (λfd body=>(fd.scope.names.take 2).map (·.1)==ew fd&&ud K p fd 47 88 mz&&qx fd mz 1 t6 body)&&
 hE K 78 3 5 (λfd body=>(fd.scope.names.take 3).map (·.1)==ew fd&&uc K p fd 88 88 mz 37&&qx fd mz 2 pA body)
theorem N5{p:Program}(n:B.prog=p)(h:Cd B.K p=true):eI B 88 47 78 37 t6 pA mz:=by
 subst n;refine CZ (zE h) λh i j k f l m=>⟨(jU h).1,eq_of_beq (jU h).2,eq_of_beq (jU h).3,eq_of_beq (jU h).4,⟨eq_of_beq (cC (jU h).5).1,eq_of_beq (cC (jU h).5).2⟩,rfl,by trivial,eq_of_beq i,eq_of_beq j,k,(bS (lF f) λa r e f=>a_ (cC f) λg c=>bS (lF c) λb r d c=>?_),l,m⟩;subst d
 rw[eq_of_beq g,eq_of_beq c]at e;exact⟨r,e⟩
def uN(K:Frag):Bool:=K.all λp=>!(p.2.data.ctorIdx==(Data.seq #[] 0).ctorIdx)
theorem LE{K:Frag}(h:uN K=true){a:Addr}{o:Obj}(e:K.lookup a=some o){vs:Array Value}:o.data≠.seq vs n:=λz=>by
 have hm:(a,o)∈K:=by
  clear h
  induction K with
  |nil=>cases e
  |cons p r c=>
   obtain⟨b,x⟩:=p;rw[fk]at e
   cases q:a==b with
   |true=>rw[q]at e;replace e:=aG e;exact Z e<|Z (eq_of_beq q) aQ
   |false=>rw[q]at e;exact az _ (c e)
 have:=jv.mp h _ hm;rw[z]at this;exact aR this
def mW(K:Frag)(p:Program):Bool:=uJ K&&B9 K p&&Cb K&&Ce K&&B_ K&&Ca K&&B8 K&&Cd K p&&uN K&&(K.lookup sysModules).isSome&&nsIn K mainGlobals "law"==some (some (.ref 644))
theorem DN(hN:B.N=cH fe dN)(h:mW B.K B.prog=true):Hq B/\uN B.K=true/\(B.K.lookup sysModules).isSome=true/\nsIn B.K mainGlobals "law"=some (some (.ref 644)):=have a:=zE h;(dm ⟨⟨⟨hN,(jU a.1).1,(jU a.1).2,(jU a.1).3,(jU a.1).4⟩,(jU a.1).5⟩,N5 rfl a.4,a.2,a.3⟩ a.5 a.6 (eq_of_beq a.7))
def pw:=PySem.Challenge.pw_sa0047_01
def qv:Program:=view pw [36]
def Aw:List Obj->BT->Nat->BT
 |[],t,_=>t
 |o::l,t,n=>Aw l (t.ins n o) (n+1)
def wR(h:Heap)(os:OsState):SharedT:=⟨Aw h.objs.toList .nil 0,h.objs.size,h.life,#[],boot_drawn,boot_toks,os⟩
theorem Hi(P:Params)(os:OsState):(wR (boot_heap P) os).abs=⟨boot_heap P,#[],boot_drawn,boot_toks,os⟩:=by kernel_rfl
theorem AC(t:Thread):through t=(endAt 0 t).isSome:=by
 unfold endAt through
 cases t.stack with
 |cons _ _=>rfl
 |nil=>
  cases t.cur with
  |pure x=>cases x<;>rfl
  |_=>rfl
theorem He{g:String->Option Builtin}{p:Program}{w:World}{b:Nat}{d:Option Value}:∀{n:Nat}{s s':Shared}{t:Thread}{f:Flow}{c:Code}{q:Pos},segRun g p w b d 0 n s t=some (f,s',c,q)->topRun g p w b d n s t=some s':=by
 intro n
 induction n with
 |zero=>exact@λ_ _ _ _ _ _ h=>by cases h
 |succ n k=>
  intro s s' t f c q h;unfold segRun at h;unfold topRun
  cases he:endAt 0 t with
  |some x=>rw[he]at h;cases h;rewrite[AC];rewrite[he];rfl
  |none=>
   rw[he]at h;rewrite[AC];rewrite[he]
   cases i:stepOk b d t with
   |false=>rw[i]at h;cases h
   |true=>
    rw[i]at h;dsimp only at h⊢
    cases hs:step (denote g) p w s t with
    |halt o e=>rw[hs]at h;cases h
    |go e j=>rw[hs]at h;exact k h
def oi:Str:="law"
def N0:Nat:=8916
theorem QO(w:World):∃os,fencedOpening treeTable pw w N0=some ⟨boot_heap w.params,#[],boot_drawn,boot_toks,os⟩:=by
 obtain⟨s,h1,f⟩:=Option.map_eq_some_iff.mp (boot_open (p:=pw) (N:=N0) (by kernel_rfl) (by kernel_rfl) (λs=>by kernel_rfl) w)
 obtain⟨a,b,c,d,os⟩:=s;simp only[Prod.mk.injEq]at f;obtain⟨rfl,rfl,rfl,rfl⟩:=f;exact⟨os,h1⟩
theorem KH{d:String->Option Builtin}{p:Program}{w:World}{N:Nat}{s0 s1:Shared}{e:Type}{c:Shared->e}{a:e}(f:fencedOpening d p w N=some s0)(g:(s0.heap.isNs mainGlobals&&s0.gens.size==0)=true)
 (i:topRun d p w s0.heap.objs.size (s0.heap.nsMap mainGlobals "__annotations__") N s0 (topStub p)=some s1)
 (hs:(staticsOk (importedModules p.main.body) s0.heap s1.heap&&namesBound p s1.heap&&gensDone s1&&laidKept s0.heap s1.heap)=true)(h:c s1=a):(openEnds d p w N).map c=some a:=by
 unfold openEnds;rewrite[f];rewrite[Option.bind_some];unfold topFrom;rewrite[g];dsimp only;rewrite[i];rewrite[Option.bind_some];rewrite[hs];rewrite[<-h];rfl
def sJ(tb:String->Option Builtin)(p:Program)(w:World)(N:Nat)(s0:Shared)(t0:SharedT):Option SharedT:=
 (segRunT tb p w s0.heap.objs.size (s0.heap.nsMap mainGlobals "__annotations__") 0 N t0 (topStub p)).map λr=>r.2.1
theorem My{p:Program}{w:World}{N:Nat}{s0:Shared}{g:SharedT}{i:Type}{d:Shared->i}{a:i}(m:fencedOpening treeTable p w N=some s0)(n:(s0.heap.isNs mainGlobals&&s0.gens.size==0)=true)(j:g.abs=s0)
 (h:(sJ treeTable p w N s0 g).map (λs=>(staticsOk (importedModules p.main.body) s0.heap s.abs.heap&&namesBound p s.abs.heap&&gensDone s.abs&&laidKept s0.heap s.abs.heap,d s.abs))=some (true,a)):
 (openEnds treeTable p w N).map d=some a:=by
 obtain⟨s,h1,e⟩:=Option.map_eq_some_iff.mp h;obtain⟨r,k,l⟩:=Option.map_eq_some_iff.mp h1;obtain⟨f,s',c,q⟩:=r;subst(l:s'=s);have:=He (segRun_of k);rw[j]at this;exact KH m n this (bg Prod.fst e) (bg Prod.snd e)
def sH:List Str:=["_wall","HeapError","TermFault","PaperFault","LimitFault","MOST_NODES","MOST_PARTS","MOST_NUMBERS","mark_of","told_term","paper_of_edge","joined_row","Shortest","is_op","parts","Bank","Unions","Heap","Levels","_law_drop","_law_term","_law_homes","_law_turns","_law_told_parts","_law_more","_law_deed","_law_due","_law_is_right","_law_are_right"]
def NP:List Nat:=sysModules::[3,2,581,580,509,508,295,294,377,376,179,178,517,109,108,116,115,121,120,126,125,140,139,145,144,152,151,157,156,164,163,171,170,176,175,188,187,207,206,214,213,219,218,226,225,245,244,252,251,259,258,271,270,278,277,313,312,320,319,327,326,334,333,341,340,348,347,353,352,367,366,374,373,395,394,402,401,407,406,412,411,417,416,424,423,431,430,445,444,452,451,459,458,473,472,480,479,529,528,536,535,543,542,550,549,558,557,566,565,571,570,578,577,590,589,595,594,600,599,605,604,612,611,617,616,624,623,629,628,634,633,639,638,644,643,47,46,25,88,87,66,37,36,78,77]
def sT(h:Heap):Frag:=NP.filterMap λa=>(h.get? a).map λo=>(a,o)
theorem yn{h:Heap}:∀{l:List Nat}{a:Addr}{o:Obj},(l.filterMap λa=>(h.get? a).map λo=>(a,o)).lookup a=some o->h.get? a=some o
 |[],_,_,e=>by cases e
 |b::l,a,o,e=>by
  rw[List.filterMap_cons]at e
  cases d:h.get? b with
  |none=>rw[d]at e;exact yn e
  |some x=>
   rw[d]at e;dsimp only[Option.map]at e;rw[fk]at e
   split at e
   ·rename_i q
    cases e
    exact Z (eq_of_beq q) d
   ·exact yn e
theorem NQ(h:Heap):(sT h).In h:=λ_ _ e=>yn e
theorem Je(w:World)(os:OsState):(sJ treeTable pw w N0 ⟨boot_heap w.params,#[],boot_drawn,boot_toks,os⟩ (wR (boot_heap w.params) os)).map (λs=>(staticsOk (importedModules pw.main.body) (boot_heap w.params) s.abs.heap&&namesBound pw s.abs.heap&&gensDone s.abs&&laidKept (boot_heap w.params) s.abs.heap,openSeen qv sH (importedModules pw.main.body) (λ_=>true) true s.abs))=some (true,openGood qv sH):=by
 unfold sJ;refine Z Fast.te10110043849684766642<|Z Fast.te14364793385576792824 ?_
 kernel_rfl
theorem Jd(w:World)(os:OsState):(sJ treeTable pw w N0 ⟨boot_heap w.params,#[],boot_drawn,boot_toks,os⟩ (wR (boot_heap w.params) os)).map (λs=>mW (sT s.abs.heap) pw)=some true:=by
 unfold sJ;refine Z Fast.te10110043849684766642<|Z Fast.te14364793385576792824 ?_
 kernel_rfl
theorem left:LeftO pw qv sH (λ_=>true) (λs=>mW (sT s.heap) pw) (λ_=>true) N0:=λw=>by
 obtain⟨os,c⟩:=QO w;refine My c (by kernel_rfl) (Hi w.params os) ?_
 obtain⟨s,h1,b⟩:=Option.map_eq_some_iff.mp (Je w os);have h3:=Jd w os;rw[h1]at h3⊢;refine((Z (aG h3:mW (sT s.abs.heap) pw=true) ?_):some (_,_,mW (sT s.abs.heap) pw)=some (true,_,true));exact bg (λx:Bool×_=>some (x.1,x.2,true)) b
theorem Re:(dN.all λx=>decide (2<=x.cps.size))=true:=rfl
theorem Rd:dN.Nodup:=by trivial
theorem Rf(i j:Nat)(e:(cH fe dN).attr i=(cH fe dN).attr j):i=j:=by
 have k:∀n,dN[n]?=none/\(cH fe dN).attr n=⟨#[n]⟩\/∃x,dN[n]?=some x/\(cH fe dN).attr n=x/\2<=x.cps.size:=λn=>by
  refine(?_:_/\dN.getD n _=_\/∃x,_/\dN.getD n _=_/\_);refine Z List.getD_eq_getElem?_getD ?_
  cases h:dN[n]? with
  |none=>exact .inl ⟨rfl,rfl⟩
  |some x=>exact .inr (gx x rfl rfl (kt (jv.mp Re x (bN h))))
 rcases k i with⟨_,a1⟩|⟨x,x1,x2,b⟩<;>rcases k j with⟨_,b1⟩|⟨y,d,a,c⟩
 ·rw[a1,b1]at e;injection e with e;simpa using e
 ·rw[a1,a]at e;subst e;exact absurd c (by simp)
 ·rw[x2,b1]at e;subst e;exact absurd b (by simp)
 ·rw[x2,a]at e;clear k x2 b a c;subst e
  exact(List.getElem?_inj (bV.mp x1).1 Rd).mp (x1.trans d.symm)
def oH(h:Heap)(a:Addr):Heap:=h.update a λo=>{o with data:=.freed}
theorem Ep(h:Heap)(a:Addr):(oH h a).get? a=none:=by
 unfold oH Heap.update Heap.get?;dsimp only;refine Z Array.getElem?_modify ?_;refine Z (ao rfl) ?_
 cases h.objs[a]?<;>rfl
theorem ze{h:Heap}{a b:Addr}{o:Obj}(e:h.get? b=some o)(n:b≠a):(oH h a).get? b=some o:=(jy h _ (gS n)).trans e
theorem P4{h:Heap}{a b:Addr}{o:Obj}(e:(oH h a).get? b=some o):h.get? b=some o/\b≠a:=by
 have n:b≠a:=λz=>by rw[z,Ep]at e;exact aN e
 exact⟨(jy h _ (gS n)).symm.trans e,n⟩
theorem zd{h:Heap}{a b:Addr}{m:Str->Option Value}{items:Array Value}(l:h.IsList a items)(x:h.Ns b m):(oH h a).Ns b m:=by refine iF x λo es ep c d r=>?_;clear x;refine iG l λg f _ n e=>?_;clear l;exact⟨o,es,ep,(ze c (λz=>by rw[z,f]at c;replace c:=aG c;subst c;rw[e]at d;cases d)),d,r⟩
theorem GP{d:DefRec}{Ψ:List (Str×Expr)}(hn:d.name="law"):WalkO qv sH (λ_ _=>True) (λ_ h=>∃K:Frag,K.In h/\mW K pw=true) PySem.Challenge.rw_sa0047_01.row.toRowW d Ψ (λf vs=>PySem.call f vs):=by
 intro w γ g mg mb G Y a o pm cd δ dV kV ho hd ε hD A hg β vals as D x S W M
 wrow_args D x S W M
 refine enter_call ?_;rename_i xs _ _ _ _ _ _ _ s vs _ L _ _ _ ie _ cx _;refine ac Y λK KX ok=>?_;clear Y;have L':=L;refine iG L' λob i hc n j=>?_;clear L';have T:=G.T;have Φ:xs.length<=63:=by lia
 refine ac T.nolimit λmc P y=>?_;have F:uJ K=true/\uN K=true/\(K.lookup sysModules).isSome=true/\nsIn K mainGlobals "law"=some (some (.ref 644)):=by unfold mW at ok;simp only[j6,fA]at ok;exact(dm ok.1.1.1.1.1.1.1.1.1.1 ok.1.1.2 ok.1.2 ok.2)
 refine iI F λ_ R E u=>?_;clear F
 have KC:K.In (oH g.heap s):=λb l e=>by refine ze (KX b l e) λz=>?_;have:=KX b l e;rw[z,i]at this;replace this:=aG this;subst this;exact LE R e j
 obtain⟨so,Ω⟩:=lU.mp E
 let B:bB:={prog:=pw,w:=w,h0:=oH g.heap s,N:=cH fe dN,os:=g.os,mg:=mg,mb:=mb,K:=K,G:=zd L T.g,BN:=zd L T.b,blt:=T.builtins,lim:=(ad mc (zd L P) y),KX:=KC,sysM:=⟨so,KC _ _ Ω⟩,ainj:=Rf}
 have ea:a=644:=by have:=mg_of KX T.g u;rw[hn]at A;rw[A]at this;injection this with this;injection this
 refine Z ea ?_;have C:b_ B [] [.fix ob (iV xs)] [s] g:=by
  refine⟨λb l e=>(P4 e).1,hg,rfl,⟨rfl,by simp,λk b c H I=>?_⟩,λb hb=>?_,trivial,λ_ h=>by cases h⟩
  ·cases k with
   |succ k=>exact aN H
   |zero=>replace H:=aG H;subst H;replace I:=aG I;subst I;exact⟨i,vs.toArray,(lH ob i hc n j),(vW ie)⟩
  ·exact Z (b5.mp hb)<|Ep _ _
 have run:=Mw (Q:=λv m=>v=.bool true/\m[0]?=some (.fix ob (iV xs))) (DN (B:=B) rfl ok).1.1.1 (M2 (DN (B:=B) rfl ok).1 (d:=0)) (ob:=ob) Φ (λm' h=>⟨rfl,h⟩)
  callerA [] [s] g (λ_ _=>False) [.ref s] (⟨by decide,by decide,rfl,rfl⟩) C (aq.cons ((ad s rfl rfl)) aq.nil)
 refine codeAny_mono run λr s' q=>?_
 cases r with
 |error e=>exact q.elim
 |ok fl=>
  cases fl with
  |ret v=>
   refine q.k λ_ m' μ' u0 vr N=>?_;clear q;refine a_ u0 λt hm=>?_;clear u0;subst t;refine Z vr<|ac N.2 λν t _=>?_;subst t
   have α:∀b l,g.heap.get? b=some l->s'.heap.get? b=some l:=λb l e=>by
    by_cases z:b=s
    ·subst z
     rw[i]at e;replace e:=aG e;subst e;exact(N.1.3 0 b _ rfl hm).1
    ·rcases N.3 b l e (by simp[No,z])with h|⟨_,h,_⟩
     ·exact h
     ·exact absurd ((ze e z).symm.trans h) (by simp)
   exact(dm (.inl ⟨_,_,[],rfl,λ_=>rfl,ReadsW.bool true,by wrow_post,λ_=>⟨List.nodup_nil,λ_ hm=>(nomatch hm)⟩⟩) (.of_keep α) N.6 (.of_eq (N.5.trans hg)))
  |_=>exact q.elim
theorem Br:PySem.Challenge.rw_sa0047_01.wellSaid=true:=by
 delta OpenLaw.wellSaid
 repeat' first|with_reducible refine look_both ?_ ?_|(delta OpenRow.wellSaid OpenRow.partSaid looksOpen;with_reducible refine look_both ?_ ?_)
 all_goals decide+kernel
theorem PT:(defOf qv oi).isSome=true:=by kernel_rfl
theorem PU:(defOf qv oi).map (λx=>x.1.name)=some oi:=by kernel_rfl
theorem Hl:pw.theDef oi=(defOf qv oi).map λx=>(x.1.params,x.1.body,x.1.scope):=by kernel_rfl
theorem MJ:(defOf qv oi).map (λx=>kwWritten? x.1.params.kwonlyargs x.1.params.kw_defaults)=(defOf qv oi).map λx=>some x.2:=by kernel_rfl
theorem Ql:(chainsOk qv&&opensWell pw&&(frees PySem.Challenge.rw_sa0047_01.row.toRowW&&PySem.Challenge.rw_sa0047_01.row.within.isEmpty))=true:=by kernel_rfl
theorem Q0:pw.bare:=⟨by kernel_rfl,by kernel_rfl,by kernel_rfl,by kernel_rfl,by kernel_rfl,by kernel_rfl⟩
theorem Kh:PySem.Challenge.rw_sa0047_01.row.toRowW.promised:=⟨[.list []],by decide+kernel,by decide+kernel⟩
theorem ends:PySem.Challenge.rw_sa0047_01.Holds:=by
 obtain⟨x,e⟩:=lU.mp PT;have h1:=PU;have h2:=Hl;have h3:=MJ;rw[e]at h1 h2 h3;obtain⟨d,kwd⟩:=x
 exact holds_law Br λ_=>holds_open (r:=PySem.Challenge.rw_sa0047_01.row) (q:=qv) (loose:=sH) (XP:=λ_ _=>True) (YP:=λ_ h=>∃K:Frag,K.In h/\mW K pw=true) left
  (λw s h=>⟨_,NQ s.heap,h⟩) (λ_ _ _ ⟨K,i,o⟩ k=>⟨K,i.keeps k,o⟩) (λ_ _=>trivial) (λ_ _ _ _ _=>trivial) e h2 (aG h3) (λs _=>recFacts_nil rfl) rfl (row_said Br) Ql Q0 Kh (GP (aG h1))
end
end Mine.Internal
theorem PySem.Challenge.cw_sa0047_01_holds : PySem.Challenge.rw_sa0047_01.Holds :=
 Mine.Internal.ends
