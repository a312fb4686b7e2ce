import PyProof.Rows.All
import Wide.All
import OpenK.AllK
import Wide.FinOn
import Lean
import PySem.Challenge.RW_nn0387_01
/-! The law nn0387-01, the whole proof: joined and shortened by a program out of 115 texts of our own. The local rules below serve the size of the file alone and touch no statement: `show e` stands for refine and exact, `ext` for rintro, `let` for have, `erw` for the library's rw, `#[a,b]` for an anonymous constructor (only where these words stand here, not inside a library tactic); `rw` on a goal goes by the lemmas jX and jY; large numbers (positions of the source) are raw literals; a declaration's syntax bears one position. -/
set_option maxHeartbeats 4000000
set_option maxRecDepth 100000
set_option Elab.async false
set_option autoImplicit true
set_option genSizeOf false
set_option genCtorIdx false
set_option genInjectivity false
set_option linter.all false
set_option tactic.hygienic false
open PySem PySem.W PyProof.Rows
set_option compiler.extract_closed false
local macro_rules
 |`($n:num)=>if n.getNat>50001&&n.getNat<1000000000&&n.getNat%500!=0 then `(nat_lit $n) else Lean.Macro.throwUnsupported
open Lean in
local macro_rules (kind:=Lean.Parser.Tactic.rwSeq)
 |s=>do
  let a:=s[2][1]
  if a.isNone||!s[3].isNone||s[0].getAtomVal=="erw" then Macro.throwUnsupported
  let t:TSyntax `tactic:=⟨s.setArg 2 (s[2].setArg 1 (a.setArgs (a.getArgs.extract 2 999)))⟩
  `(tactic|(refine $(mkIdent (if a[0][0].isNone then `jX else `jY)) ($(⟨a[0][1]⟩) ..) ?_;$t))
open Lean in
def Mine.kk(k:Name)(s:Syntax):MacroM Syntax:=if (s[0].getPos? true).isNone then Macro.throwUnsupported else pure (s.setKind k)
local macro_rules (kind:=Lean.Parser.Tactic.show)|s=>Mine.kk `Lean.Parser.Tactic.refine s
local macro_rules (kind:=Lean.Elab.Tactic.Ext.ext)|s=>Mine.kk `Lean.Parser.Tactic.rintro s
local macro_rules (kind:=Lean.Parser.Tactic.tacticLet__)|s=>Mine.kk `Lean.Parser.Tactic.tacticHave__ s
local macro_rules (kind:=Lean.Parser.Tactic.tacticErw___)|s=>Mine.kk `Lean.Parser.Tactic.rwSeq s
local macro_rules (kind:=«term#[_,]»)|s=>if s[1].getNumArgs=0 then Lean.Macro.throwUnsupported else Mine.kk `Lean.Parser.Term.anonymousCtor s
open Lean in
local macro_rules (kind:=Lean.Parser.Command.declaration)
 |s=>if s.getPos?==some 0 then Macro.throwUnsupported else pure (s.rewriteBottomUp (·.setInfo (.synthetic 0 0 true)))
namespace Mine.Internal
abbrev Gt:=@Nat.le_trans
abbrev If:=@wpAny_bind
abbrev Is:=@Option.some.inj
abbrev Lt:=@List.length_map
abbrev Q4:=@List.mem_of_getElem?
abbrev Q5:=@Nat.lt_of_le_of_lt
abbrev Q6:=@List.mem_singleton
abbrev Q7:=@Nat.le_of_ble_eq_true
abbrev Q8:=@wpAny_pure
abbrev Q9:=@List.length_append
abbrev Ra:=@List.mem_append
abbrev Rb:=@Nat.add_le_add_left
abbrev Rc:=@Nat.lt_of_lt_of_le
abbrev Rd:=@List.map_append
abbrev Re:=@List.mem_map
abbrev Rf:=@Nat.le_of_lt
abbrev Rg:=@List.getElem?_eq_getElem
abbrev Rh:=@Heap.get?_push_of_some
abbrev Ri:=@Nat.le_add_right
abbrev Rj:=@Nat.succ_le_succ
abbrev Rk:=@List.mem_append_right
abbrev Rm:=@Nat.le_refl
abbrev Rn:=@List.mem_map_of_mem
abbrev Ro:=@List.getElem?_append_right
abbrev Rq:=@List.length_cons
abbrev Rs:=@congrArg
abbrev Ru:=@List.getElem?_append_left
abbrev Rv:=@Nat.add_le_add_right
abbrev Rx:=@Nat.zero_le
abbrev Ry:=@Int.natCast_nonneg
abbrev Rz:=@List.append_assoc
abbrev RA:=@Heap.get?_push_size
abbrev RB:=@List.mem_cons
abbrev RC:=@List.getElem?_eq_some_iff
abbrev RD:=@List.append_nil
abbrev RE:=@List.mem_append_left
abbrev RF:=@List.getElem?_map
abbrev RG:=@List.length_singleton
abbrev RH:=@of_decide_eq_true
abbrev RI:=@List.take_length
abbrev RJ:=@List.pairwise_singleton
abbrev RK:=@beq_self_eq_true
abbrev RL:=@List.mem_iff_getElem?
abbrev RM:=@Array.getElem?_toList
abbrev RN:=@List.length_range
abbrev RO:=@if_pos
abbrev RP:=@beq_iff_eq
abbrev RQ:=@wpAny_mono
abbrev RS:=@Nat.add_le_add
abbrev RU:=@List.length_reverse
abbrev RV:=@Nat.mul_le_mul_left
abbrev RW:=@Nat.le_of_eq
abbrev RX:=@if_neg
abbrev RY:=@Nat.ne_of_lt
abbrev RZ:=@List.lookup_cons
abbrev R1:=@of_decide_eq_false
abbrev R3:=@List.nodup_append
abbrev R4:=@Nat.le_of_lt_succ
abbrev R5:=@Int.ofNat_inj
abbrev R6:=@Nat.le_of_not_lt
abbrev R7:=@List.length_take
abbrev R8:=@Bool.and_eq_true_iff
abbrev R9:=@List.nodup_cons
abbrev Sa:=@List.mem_filter
abbrev Sb:=@List.map_cons
abbrev Sc:=@Nat.add_comm
abbrev Sd:=@Int.ofNat_lt
abbrev Se:=@List.nil_sublist
abbrev Sf:=@Heap.lt_size
abbrev Sg:=@List.eq_nil_of_length_eq_zero
abbrev Sh:=@Option.isSome_iff_exists
abbrev Si:=@Nat.lt_irrefl
abbrev Sj:=@Nat.lt_of_le_of_ne
abbrev Sk:=@wpAny_call_entry
abbrev Sl:=@Heap.SameBut.update
abbrev Sn:=@Nat.not_lt
abbrev So:=@Option.bind_eq_some_iff
abbrev Sp:=@List.length_replicate
abbrev Sq:=@Nat.lt_succ_self
abbrev Sr:=@Bool.false_ne_true
abbrev Su:=@List.map_map
abbrev Sv:=@Nat.testBit_or
abbrev Sw:=@List.getD_eq_getElem?_getD
abbrev Sy:=@Nat.ne_of_gt
abbrev SA:=@Bool.not_eq_true'
abbrev SB:=@wpAny_holding
abbrev SC:=@decide_eq_false
abbrev SE:=@beq_false_of_ne
abbrev SF:=@List.take_zero
abbrev SG:=@List.getElem?_eq_none
abbrev SH:=@Heap.get?_update_self
abbrev SI:=@Nat.add_assoc
abbrev SJ:=@Array.length_toList
abbrev SK:=@Option.isNone_iff_eq_none
abbrev SL:=@Nat.min_le_left
abbrev SM:=@Nat.le_antisymm
abbrev SN:=@wpAny_newObj_type
abbrev SO:=@Option.map_eq_some_iff
abbrev SP:=@Nat.sub_self
abbrev SQ:=@Nat.succ_add_eq_add_succ
abbrev SR:=@List.perm_append_comm_assoc
abbrev SS:=@Nat.le_succ
abbrev ST:=@List.length_filter_le
abbrev SU:=@Int.ofNat_le
abbrev SV:=@Nat.not_lt_zero
abbrev SW:=@decide_eq_true
abbrev SX:=@Nat.add_sub_cancel_left
abbrev SY:=@List.mem_range
abbrev SZ:=@Prod.mk.inj
abbrev S4:=@List.take_of_length_le
abbrev S5:=@List.all_eq_true
abbrev S6:=@Nat.add_lt_add_left
abbrev S7:=@List.take_append_drop
abbrev S8:=@List.perm_append_comm
abbrev S9:=@Nat.zero_add
abbrev Ta:=@List.reverse_cons
abbrev Tc:=@Nat.add_right_comm
abbrev Td:=@List.zip_cons_cons
abbrev Te:=@List.cons.inj
abbrev Tf:=@Nat.lt_trans
abbrev Tg:=@Decidable.byContradiction
abbrev Th:=@wpAny_truthy_bool
abbrev Ti:=@List.size_toArray
abbrev Tj:=@Int.toNat_natCast
abbrev Tl:=@Nat.succ.inj
abbrev Tm:=@List.length_nil
abbrev Tn:=@List.getElem?_take
abbrev To:=@decide_eq_decide
abbrev Tp:=@Nat.zero_testBit
abbrev Tq:=@Nat.lt_succ_of_le
abbrev Tr:=@Nat.le_succ_of_le
abbrev Tt:=@Array.getElem?_eq_none
abbrev Tu:=@Nat.sub_lt_sub_left
abbrev Tw:=@List.reverse_append
abbrev Ty:=@List.map_congr_left
abbrev Tz:=@List.filter_sublist
abbrev TB:=@List.length_set
abbrev TG:=@Bool.or_eq_true
abbrev TH:=@Array.getElem?_eq_getElem
abbrev TI:=@List.isEmpty_iff
abbrev TJ:=@Nat.pow_le_pow_right
abbrev TK:=@List.mem_of_mem_take
abbrev TM:=@Nat.lt_succ_of_lt
abbrev TU:=@List.getElem?_replicate
abbrev TX:=@List.getElem?_nil
abbrev TY:=@wpAny_rule
abbrev T2:=@wpAny_ite_false
abbrev T3:=@wpAny_richCompare_same_room
abbrev T4:=@List.sublist_cons_self
abbrev T5:=@wpAny_field
abbrev T6:=@List.length_drop
abbrev T7:=@Option.isSome_eq_false_iff
abbrev T8:=@List.filter_append
abbrev T9:=@wpAny_specialOf
abbrev Ua:=@cond_true
abbrev Ub:=@and_congr_right
abbrev Uc:=@Nat.min_eq_left
abbrev Ud:=@List.reverse_reverse
abbrev Ue:=@List.mem_iff_getElem
abbrev Uf:=@List.getElem?_set
abbrev Ug:=@List.ext_getElem?
abbrev Uh:=@Int.le_trans
abbrev Ui:=@cond_false
abbrev Uj:=@Nat.add_sub_cancel'
abbrev Uk:=@Nat.add_left_cancel
abbrev Ul:=@wpAny_isInstance
abbrev Um:=@Nat.min_le_right
abbrev Un:=@List.nodup_nil
abbrev Uo:=@List.length_eq_zero_iff
abbrev Up:=@Int.eq_ofNat_of_zero_le
abbrev Uq:=@Bool.not_eq_true
abbrev Ur:=@wpAny_typeNameOfWhole_keyiter
abbrev Ut:=@wpAny_of_eq
abbrev Uu:=@List.take_append_of_le_length
abbrev Uv:=@List.getElem?_drop
abbrev Uw:=@List.filter_eq_nil_iff
abbrev Ux:=@List.any_cons
abbrev Uy:=@wpAny_setField
abbrev Uz:=@Nat.mul_le_mul_right
abbrev UA:=@Int.not_lt
abbrev UB:=@Array.mem_toList_iff
abbrev UC:=@List.isEmpty_map
abbrev UD:=@List.filter_cons
abbrev UE:=@List.drop_eq_getElem_cons
abbrev UF:=@List.flatMap_append
abbrev UG:=@wpAny_typeNameOf_keyiter
abbrev UH:=@Bool.eq_iff_iff
abbrev UI:=@wpAny_tupleItemsOf
abbrev UJ:=@Nat.not_le
abbrev UK:=@List.map_inj_right
noncomputable abbrev UL:=@Classical.propDecidable
abbrev UM:=@wpAny_typeOf
abbrev UN:=@wpAny_seqItems
abbrev UO:=@wpAny_dictEntries
abbrev UP:=@Nat.mul_le_mul
abbrev UQ:=@Nat.eq_zero_of_le_zero
abbrev UR:=@List.pairwise_map
abbrev US:=@List.map_set
abbrev UT:=@List.forIn_nil
abbrev UU:=@wpAny_notOrdered_dict
abbrev UV:=@Nat.le_of_sub_eq_zero
abbrev UW:=@List.set_append_right
universe u v w x y
abbrev TN:Type:=List Nat
abbrev TP:Type:=List (Nat×Nat)
abbrev TQ:Type:=List ((Nat×Nat)×Nat)
abbrev TF:Type:=Nat->List Nat
abbrev TZ:Type:=List Int
theorem dR{p:Prop}[Decidable p](h:decide p=true):p:=RH h
@[elab_as_elim] theorem jX{α:Sort u}{a b:α}{M:α->Prop}(e:a=b)(t:M b):M a:=e▸t
@[elab_as_elim] theorem jY{α:Sort u}{a b:α}{M:α->Prop}(e:b=a)(t:M b):M a:=e▸t
theorem ao{P0 a:Prop}{G:Prop}(h:P0/\a)(k:P0->a->G):G:=k h.1 h.2
theorem az{α:Sort u}{P0:α->Prop}{G:Prop}(h:∃a,P0 a)(k:∀a,P0 a->G):G:=h.elim λa h=>k a h
theorem bP{P0 b a:Prop}{G:Prop}(h:P0/\b/\a)(k:P0->b->a->G):G:=k h.1 h.2.1 h.2.2
theorem aq{α:Sort u}{P0 b:α->Prop}{G:Prop}(h:∃a,P0 a/\b a)(k:∀a,P0 a->b a->G):G:=h.elim λa h=>k a h.1 h.2
theorem uJ{α:Sort u}{β:Sort v}{P0:α->β->Prop}{G:Prop}(h:∃a b,P0 a b)(k:∀a,∀b,P0 a b->G):G:=h.elim λa h=>h.elim λb h=>k a b h
theorem t9{P0 b a P3:Prop}{G:Prop}(h:P0/\b/\a/\P3)(k:P0->b->a->P3->G):G:=k h.1 h.2.1 h.2.2.1 h.2.2.2
theorem bS{α:Sort u}{P0 c b:α->Prop}{G:Prop}(h:∃a,P0 a/\c a/\b a)(k:∀a,P0 a->c a->b a->G):G:=h.elim λa h=>k a h.1 h.2.1 h.2.2
theorem ck{α:Sort u}{β:Sort v}{P0 c:α->β->Prop}{G:Prop}(h:∃a b,P0 a b/\c a b)(k:∀a,∀b,P0 a b->c a b->G):G:=h.elim λa h=>h.elim λb h=>k a b h.1 h.2
theorem ON{α:Sort u}{β:Sort v}{γ:Sort w}{P0:α->β->γ->Prop}{G:Prop}(h:∃a b c,P0 a b c)(k:∀a,∀b,∀c,P0 a b c->G):G:=h.elim λa h=>h.elim λb h=>h.elim λc h=>k a b c h
theorem Ci{α:Sort u}{P0 c b P3:α->Prop}{G:Prop}(h:∃a,P0 a/\c a/\b a/\P3 a)(k:∀a,P0 a->c a->b a->P3 a->G):G:=h.elim λa h=>k a h.1 h.2.1 h.2.2.1 h.2.2.2
theorem fH{α:Sort u}{β:Sort v}{P0 d c:α->β->Prop}{G:Prop}(h:∃a b,P0 a b/\d a b/\c a b)(k:∀a,∀b,P0 a b->d a b->c a b->G):G:=h.elim λa h=>h.elim λb h=>k a b h.1 h.2.1 h.2.2
theorem uI{α:Sort u}{β:Sort v}{γ:Sort w}{P0 d:α->β->γ->Prop}{G:Prop}(h:∃a b c,P0 a b c/\d a b c)(k:∀a,∀b,∀c,P0 a b c->d a b c->G):G:=h.elim λa h=>h.elim λb h=>h.elim λc h=>k a b c h.1 h.2
theorem Qc{P0 d c P3 b a:Prop}{G:Prop}(h:P0/\d/\c/\P3/\b/\a)(k:P0->d->c->P3->b->a->G):G:=k h.1 h.2.1 h.2.2.1 h.2.2.2.1 h.2.2.2.2.1 h.2.2.2.2.2
theorem N4{α:Sort u}{P0 d c P3 b:α->Prop}{G:Prop}(h:∃a,P0 a/\d a/\c a/\P3 a/\b a)(k:∀a,P0 a->d a->c a->P3 a->b a->G):G:=h.elim λa h=>k a h.1 h.2.1 h.2.2.1 h.2.2.2.1 h.2.2.2.2
theorem HO{α:Sort u}{β:Sort v}{P0 d c P3:α->β->Prop}{G:Prop}(h:∃a b,P0 a b/\d a b/\c a b/\P3 a b)(k:∀a,∀b,P0 a b->d a b->c a b->P3 a b->G):G:=h.elim λa h=>h.elim λb h=>k a b h.1 h.2.1 h.2.2.1 h.2.2.2
theorem kD{α:Sort u}{β:Sort v}{γ:Sort w}{P0 e d:α->β->γ->Prop}{G:Prop}(h:∃a b c,P0 a b c/\e a b c/\d a b c)(k:∀a,∀b,∀c,P0 a b c->e a b c->d a b c->G):G:=h.elim λa h=>h.elim λb h=>h.elim λc h=>k a b c h.1 h.2.1 h.2.2
theorem N3{α:Sort u}{β:Sort v}{γ:Sort w}{f:Sort x}{P0 e:α->β->γ->f->Prop}{G:Prop}(h:∃a b c d,P0 a b c d/\e a b c d)(k:∀a,∀b,∀c,∀d,P0 a b c d->e a b c d->G):G:=h.elim λa h=>h.elim λb h=>h.elim λc h=>h.elim λd h=>k a b c d h.1 h.2
theorem C6{α:Sort u}{β:Sort v}{γ:Sort w}{g:Sort x}{f:Sort y}{P0:α->β->γ->g->f->Prop}{G:Prop}(h:∃a b c d e,P0 a b c d e)(k:∀a,∀b,∀c,∀d,∀e,P0 a b c d e->G):G:=h.elim λa h=>h.elim λb h=>h.elim λc h=>h.elim λd h=>h.elim λe h=>k a b c d e h
theorem OO{α:Sort u}{β:Sort v}{P0 e d P3 c:α->β->Prop}{G:Prop}(h:∃a b,P0 a b/\e a b/\d a b/\P3 a b/\c a b)(k:∀a,∀b,P0 a b->e a b->d a b->P3 a b->c a b->G):G:=h.elim λa h=>h.elim λb h=>k a b h.1 h.2.1 h.2.2.1 h.2.2.2.1 h.2.2.2.2
theorem AU{α:Sort u}{β:Sort v}{γ:Sort w}{P0 e d P3:α->β->γ->Prop}{G:Prop}(h:∃a b c,P0 a b c/\e a b c/\d a b c/\P3 a b c)(k:∀a,∀b,∀c,P0 a b c->e a b c->d a b c->P3 a b c->G):G:=h.elim λa h=>h.elim λb h=>h.elim λc h=>k a b c h.1 h.2.1 h.2.2.1 h.2.2.2
theorem EE{α:Sort u}{β:Sort v}{γ:Sort w}{g:Sort x}{P0 f e:α->β->γ->g->Prop}{G:Prop}(h:∃a b c d,P0 a b c d/\f a b c d/\e a b c d)(k:∀a,∀b,∀c,∀d,P0 a b c d->f a b c d->e a b c d->G):G:=h.elim λa h=>h.elim λb h=>h.elim λc h=>h.elim λd h=>k a b c d h.1 h.2.1 h.2.2
theorem QA{P0 f e P3 d c b a:Prop}{G:Prop}(h:P0/\f/\e/\P3/\d/\c/\b/\a)(k:P0->f->e->P3->d->c->b->a->G):G:=k h.1 h.2.1 h.2.2.1 h.2.2.2.1 h.2.2.2.2.1 h.2.2.2.2.2.1 h.2.2.2.2.2.2.1 h.2.2.2.2.2.2.2
theorem Jh{α:Sort u}{β:Sort v}{γ:Sort w}{P0 f e P3 d:α->β->γ->Prop}{G:Prop}(h:∃a b c,P0 a b c/\f a b c/\e a b c/\P3 a b c/\d a b c)(k:∀a,∀b,∀c,P0 a b c->f a b c->e a b c->P3 a b c->d a b c->G):G:=h.elim λa h=>h.elim λb h=>h.elim λc h=>k a b c h.1 h.2.1 h.2.2.1 h.2.2.2.1 h.2.2.2.2
theorem gX{α:Sort u}{β:Sort v}{γ:Sort w}{g:Sort x}{P0 f e P3:α->β->γ->g->Prop}{G:Prop}(h:∃a b c d,P0 a b c d/\f a b c d/\e a b c d/\P3 a b c d)(k:∀a,∀b,∀c,∀d,P0 a b c d->f a b c d->e a b c d->P3 a b c d->G):G:=h.elim λa h=>h.elim λb h=>h.elim λc h=>h.elim λd h=>k a b c d h.1 h.2.1 h.2.2.1 h.2.2.2
theorem OM{α:Sort u}{β:Sort v}{γ:Sort w}{j:Sort x}{i:Sort y}{P0 g f:α->β->γ->j->i->Prop}{G:Prop}(h:∃a b c d e,P0 a b c d e/\g a b c d e/\f a b c d e)(k:∀a,∀b,∀c,∀d,∀e,P0 a b c d e->g a b c d e->f a b c d e->G):G:=h.elim λa h=>h.elim λb h=>h.elim λc h=>h.elim λd h=>h.elim λe h=>k a b c d e h.1 h.2.1 h.2.2
theorem nS{α:Type u}{a:α}{G:Prop}(h:none=some a):G:=by cases h
theorem nC{α:Type u}{a:α}{l:List α}{G:Prop}(h:a::l=[]):G:=by cases h
theorem nF{G:Prop}(h:false=true):G:=by cases h
theorem n0{α:Type u}{x:α}{G:Prop}(h:x∈([]:List α)):G:=(List.not_mem_nil h).elim
theorem yS{α:Type u}{a b:α}{G:Prop}(h:some a=some b)(k:a=b->G):G:=k (Is h)
theorem yP{α:Type u}{β:Type v}{a c:α}{b d:β}{G:Prop}(h:(a,b)=(c,d))(k:a=c->b=d->G):G:=k (SZ h).1 (SZ h).2
theorem yC{α:Type u}{a c:α}{b d:List α}{G:Prop}(h:a::b=c::d)(k:a=c->b=d->G):G:=k (Te h).1 (Te h).2
section
variable{c ep:Nat}{α:Type}
set_option genCtorIdx true in
set_option genInjectivity true in
inductive V where
 |none
 |bool(b:Bool)
 |int(i:Int)
 |str(s:Str)
 |tup(l:List V)
 |ref(a:Nat)
inductive O where
 |list(l:List V)
 |dict(es:List (V×V))(ep:Nat)
 |inst(c:Nat)(d:Nat)
 |attrs(fs:List (Nat×V))
 |Wb(l:List V)
noncomputable abbrev aw:=Nat->Option O
noncomputable def bq(U:aw)(a:Nat)(o:O):aw:=λb=>if b=a then some o else U b
noncomputable def bu:Nat:=1000000
noncomputable def V.VI(a b:V):Bool:=@decide (a=b) (UL _)
theorem V.U9{a b:V}:V.VI a b=true↔a=b:=by unfold V.VI;show @decide_eq_true_iff _ (Classical.propDecidable _)
theorem V.VQ{a b:V}:V.VI a b=false↔a≠b:=by erw[<- Uq,V.U9]
noncomputable def fP(es:List (V×V))(k:V):Option V:=(es.find? λe=>V.VI e.1 k).map (·.2)
noncomputable def iN(es:List (V×V))(k:V):Bool:=es.any λe=>V.VI e.1 k
noncomputable def eG(es:List (V×V))(k v:V):List (V×V):=
 if iN es k then es.map (λe=>if V.VI e.1 k then(e.1,v) else e) else es++[(k,v)]
set_option genCtorIdx true in
inductive DK where|i|s|ti|ts|tt
noncomputable def DK.is:DK->V->Prop
 |.i,v=>∃n,v=.int n
 |.s,v=>∃x,v=.str x
 |.ti,v=>∃ns:List Int,v=.tup (ns.map .int)
 |.ts,v=>∃xs:List Str,v=.tup (xs.map .str)
 |.tt,v=>∃a:List (List Int),v=.tup (a.map λxs=>.tup (xs.map .int))
def c6(es:List (V×V))(k:V):Prop:=∃κ:DK,κ.is k/\∀e∈es,κ.is e.1
set_option genCtorIdx true in
inductive FK where|i|s
noncomputable def FK.is:FK->V->Prop
 |.i,v=>∃n,v=.int n
 |.s,v=>∃x,v=.str x
def FK.all(φ:FK)(l:List V):Prop:=∀v∈l,φ.is v
set_option genCtorIdx true in
inductive C where|eq|ne|lt|le|gt|ge|isin|Vi|isN|VC
set_option genCtorIdx true in
inductive P where
 |len|list|tuple|dict|sorted|abs|int
 |append|extend|pop|index|get|setdefault
noncomputable abbrev Ps:=Nat
noncomputable def dP(p:Ps):Pos:=#[p / 17956 % 600+19,p / 134 % 134,p / 17956 % 600+19+p / 10773600,p % 134]
structure Nm where
 i:Nat
 n:Nat
 p:Ps
inductive Tx where
 |nm(x:Nm)
 |tup(l:List Nm)(p:Ps)
noncomputable def Tx.ar:Tx->Option Nat
 |.nm _=>none
 |.tup l _=>some l.length
mutual
inductive E where
 |lit(v:V)(p:Ps)
 |neg(i:Int)(p q:Ps)
 |glob(n:Nat)(p:Ps)
 |loc(x:Nm)
 |bin(o:Operator)(x y:E)(p:Ps)
 |W6(e:E)(p:Ps)
 |ite(t:T)(x y:E)(p:Ps)
 |test(t:T)
 |tup(es:Es)(p:Ps)
 |list(es:Es)(p:Ps)
 |Vf(p:Ps)
 |Wy(k v:E)(p:Ps)
 |comp(elt:E)(t:Tx)(src:yc)(ifs:Ts)(sc:Scope)(p:Ps)
 |attr(e:E)(m:Nat)(p:Ps)
 |VT(e u:E)(p q:Ps)
 |VM(e u:E)(p q:Ps)
 |item(e i:E)(p:Ps)
 |prim(b:P)(es:Es)(p q:Ps)
 |call(f n:Nat)(es:Es)(p q:Ps)
 |new(c n:Nat)(es:Es)(p q:Ps)
 |U5(m:Nat)(e:E)(es:Es)(p q:Ps)
 |U1(b:P)(e:E)(es:Es)(p q:Ps)
inductive Es where
 |nil
 |cons(e:E)(es:Es)
inductive T where
 |truth(e:E)
 |cmp(c:C)(x y:E)(p:Ps)
 |not(t:T)(p:Ps)
 |all(ts:Ts)(p:Ps)
 |any(ts:Ts)(p:Ps)
inductive Ts where
 |nil
 |cons(t:T)(ts:Ts)
inductive yc where
 |seq(e:E)
 |range(e:E)(p q:Ps)
 |rev(e:E)(p q:Ps)
 |enum(e:E)(p q:Ps)
end
mutual
inductive S where
 |expr(e:E)(p:Ps)
 |VF(x:Nm)(e:E)(p:Ps)
 |VL(l:List Nm)(q:Ps)(e:E)(p:Ps)
 |U8(o:E)(m:Nat)(q:Ps)(e:E)(p:Ps)
 |Ve(o i:E)(q:Ps)(e:E)(p:Ps)
 |aug(x:Nm)(e:E)(p:Ps)
 |ite(t:T)(a b:Ss)(p:Ps)
 |while(t:T)(b:Ss)(p:Ps)
 |for(t:Tx)(s:yc)(b:Ss)(p:Ps)
 |ret(e:E)(p:Ps)
 |Y9(p:Ps)
 |cont(p:Ps)
 |pass(p:Ps)
 |fail(x:Option Expr)(p:Ps)
inductive Ss where
 |nil
 |cons(s:S)(ss:Ss)
end
inductive Fl where|next|cont|ret (v:V)
noncomputable abbrev aQ:=List (Option V)
abbrev QF:Type:=Fl->aQ->aw->Prop
abbrev QV:Type:=V->aw->Prop
abbrev QS:Type:=Value->Shared->Prop
abbrev QC:Type:=Nat->List V->aw->QV->Prop
abbrev QP:Type:=List V->(aw->Prop)->aw->Prop
abbrev TV:Type:=List V
abbrev TO:Type:=Option V
abbrev TD:Type:=List (V×V)
abbrev TA:Type:=List (Nat×O)
abbrev TW:Type:=List Value
abbrev TS:Type:=List Str
abbrev TR:Type:=Nat->Str
abbrev TC:Type:=Array Value
abbrev TE:Type:=Array DictEntry
abbrev TL:Type:=List DictEntry
noncomputable def bJ(L:aQ)(i:Nat):Option V:=(L[i]?).join
def yX(x:V)(fB:Bool->Prop)(fI:Int->Prop)(fS:Str->Prop)(fT:List V->Prop)(fR:Nat->Prop):Prop:=V.casesOn x False fB fI fS fT fR
def HN(x:V)(fI:Int->Prop)(fT:List V->Prop)(fR:Nat->Prop):Prop:=yX x (λ_=>False) fI (λ_=>False) fT fR
def OK(x:V)(f:Bool->Prop):Prop:=yX x f (λ_=>False) (λ_=>False) (λ_=>False) λ_=>False
def jI(x:V)(f:Int->Prop):Prop:=yX x (λ_=>False) f (λ_=>False) (λ_=>False) λ_=>False
def N2(x:V)(f:Str->Prop):Prop:=yX x (λ_=>False) (λ_=>False) f (λ_=>False) λ_=>False
def MX(x:V)(f:List V->Prop):Prop:=yX x (λ_=>False) (λ_=>False) (λ_=>False) f λ_=>False
def yW(x:V)(f:Nat->Prop):Prop:=yX x (λ_=>False) (λ_=>False) (λ_=>False) (λ_=>False) f
def qI(o:Option O)(fL:List V->Prop)(fD:List (V×V)->Nat->Prop):Prop:=Option.casesOn o False λo=>O.casesOn o fL fD (λ_ _=>False) (λ_=>False) λ_=>False
def HK(o:Option O)(f:List V->Prop):Prop:=Option.casesOn o False λo=>O.casesOn o f (λ_ _=>False) (λ_ _=>False) (λ_=>False) f
def KA(o:Option O)(f:Nat->Nat->Prop):Prop:=Option.casesOn o False λo=>O.casesOn o (λ_=>False) (λ_ _=>False) f (λ_=>False) λ_=>False
def KB(o:Option O)(f:List (Nat×V)->Prop):Prop:=Option.casesOn o False λo=>O.casesOn o (λ_=>False) (λ_ _=>False) (λ_ _=>False) f λ_=>False
def oS(o:Option α)(f:α->Prop):Prop:=Option.casesOn o False f
def GO(l:TV)(f:V->Prop):Prop:=List.casesOn l False λx l=>List.casesOn l (f x) λ_ _=>False
def MZ(l:TV)(f:V->V->Prop):Prop:=List.casesOn l False λx l=>GO l (f x)
def KC(l:TV)(f:V->V->V->Prop):Prop:=List.casesOn l False λx l=>MZ l (f x)
def ya(o:Option O)(f:List V->Prop):Prop:=qI o f λ_ _=>False
def MY(o:Option O)(f:List (V×V)->Nat->Prop):Prop:=qI o (λ_=>False) f
section
variable{o:Option O}{l:TV}{es:TD}{fL:List V->Prop}{fD:List (V×V)->Nat->Prop}
theorem C8(h:o=some (.list l))(k:fL l):qI o fL fD:=h▸k
theorem GR(h:o=some (.dict es ep))(k:fD es ep):qI o fL fD:=h▸k
theorem gL(h:o=some (.list l))(k:fL l):ya o fL:=h▸k
theorem gD(h:o=some (.dict es ep))(k:fD es ep):MY o fD:=h▸k
theorem QG(h:o=some (.list l))(k:fL l):HK o fL:=h▸k
theorem QJ(h:o=some (.Wb l))(k:fL l):HK o fL:=h▸k
theorem QH{d:Nat}{f:Nat->Nat->Prop}(h:o=some (.inst c d))(k:f c d):KA o f:=h▸k
theorem QK{fs:List (Nat×V)}{f:List (Nat×V)->Prop}(h:o=some (.attrs fs))(k:f fs):KB o f:=h▸k
theorem gO{o:Option α}{f:α->Prop}{v:α}(h:o=some v)(k:f v):oS o f:=h▸k
end
section a0i
variable(U:aw)(Q:QV)
def MV(x y:V):Prop:=HN x (λi=>jI y λj=>Q (.int (i+j)) U) (λl=>MX y λm=>l.length+m.length<=bu/\Q (.tup (l++m)) U) λa=>yW y λb=>ya (U a) λl=>ya (U b) λm=>l.length+m.length<=bu/\∀c,U c=none->Q (.ref c) (bq U c (.list (l++m)))
def MJ(x y:V):Prop:=jI x λi=>jI y λj=>Q (.int (i - j)) U
def MO(x y:V):Prop:=HN x (λi=>jI y λj=>(i.natAbs<=2000\/j.natAbs<=2000)/\Q (.int (i*j)) U) (λ_=>False) λa=>jI y λj=>ya (U a) λl=>∃v,l=[v]/\0<=j/\j<=bu/\∀c,U c=none->Q (.ref c) (bq U c (.list (List.replicate j.toNat v)))
def Jc(x y:V):Prop:=jI x λi=>jI y λj=>0<j/\j<=1000/\Q (.int (i / j)) U
def MP(x y:V):Prop:=jI x λi=>jI y λj=>0<j/\j<=1000/\Q (.int (i % j)) U
def MU(x y:V):Prop:=jI x λi=>jI y λj=>0<=i/\0<=j/\Q (.int ((i.toNat ||| j.toNat:Nat):Int)) U
def Je(x y:V):Prop:=jI x λi=>jI y λj=>0<=i/\0<=j/\Q (.int ((i.toNat&&& j.toNat:Nat):Int)) U
def ML(x y:V):Prop:=jI x λi=>jI y λj=>i=1/\0<=j/\j<=1000/\Q (.int ((2 ^ j.toNat:Nat):Int)) U
def MK(x y:V):Prop:=jI x λi=>jI y λj=>0<=i/\0<=j/\j<=1000/\Q (.int ((i.toNat >>> j.toNat:Nat):Int)) U
def MQ(x:V):Prop:=HN x (λ_=>False) (λl=>l.length<=bu/\Q (.int l.length) U) λa=>qI (U a) (λl=>l.length<=bu/\Q (.int l.length) U) λes _=>(∀e∈es,DK.s.is e.1)/\es.length<=bu/\Q (.int es.length) U
noncomputable def b9(x:V):Option (List V):=V.casesOn x none (λ_=>none) (λ_=>none) (λ_=>none) some λa=>Option.casesOn (U a) none λo=>O.casesOn o some (λes _=>some (es.map (·.1))) (λ_ _=>none) (λ_=>none) λ_=>none
noncomputable def vp(x:V):Option (List V):=V.casesOn x none (λ_=>none) (λ_=>none) (λ_=>none) some λa=>Option.casesOn (U a) none λo=>O.casesOn o some (λ_ _=>none) (λ_ _=>none) (λ_=>none) λ_=>none
def Jb(x:V):Prop:=oS (b9 U x) λl=>l.length<=bu/\∀c,U c=none->Q (.ref c) (bq U c (.list l))
def Ep(x:V):Prop:=yW x λa=>ya (U a) λl=>l.length<=bu/\Q (.tup l) U
noncomputable def cT:List V->List (V×V)->Option (List (V×V))
 |[],acc=>some acc
 |.tup [k,v]::r,acc=>cT r (eG acc k v)
 |_::_,_=>none
noncomputable def N0:V->V
 |.tup [k,_]=>k
 |v=>v
def Jd(x:V):Prop:=oS (vp U x) λl=>(∃κ:DK,∀e∈l,(∃k v,e=.tup [k,v]/\κ.is k))/\l.length<=bu /\
   (∃es,cT l []=some es/\∀c ep,U c=none->Q (.ref c) (bq U c (.dict es ep)))
def AN(x:V):Prop:=oS (b9 U x) λl=>l.length<64 /\
      ((∃ns:List Int,l=ns.map .int/\∀(c:Nat)(ms:TZ),U c=none->ms.Perm ns->ms.Pairwise (·<=·)->Q (.ref c) (bq U c (.list (ms.map .int)))) \/
       ((l.length<2\/(∀e∈l,∃i j:Int,e=.tup [.int i,.int j])\/(∀e∈l,∃xs:List Str,e=.tup (xs.map .str))) /\
          ∀(c:Nat)(m:TV),U c=none->m.Perm l->Q (.ref c) (bq U c (.list m))))
def MW(x:V):Prop:=jI x λi=>Q (.int i.natAbs) U
def MR(x:V):Prop:=yX x (λb=>Q (.int (if b then 1 else 0)) U) (λi=>Q (.int i) U) (λ_=>False) (λ_=>False) λ_=>False
noncomputable def cJ(l:TV)(i:Int):Option V:=if 0<=i then l[i.toNat]? else if i = -1 then l.getLast? else none
def lC(x y:V):Prop:=HN x (λ_=>False) (λl=>jI y λi=>l.length<=bu/\oS (cJ l i) λv=>Q v U) λa=>qI (U a) (λl=>jI y λi=>l.length<=bu/\oS (cJ l i) λv=>Q v U) λes _=>c6 es y/\oS (fP es y) λv=>Q v U
def AM(x y:V):Prop:=yX x (λ_=>False) (λ_=>False) (λs=>jI y λi=>i=1/\s.cps.size=1/\Q (.str s) U) (λl=>jI y λi=>0<=i/\l.length<=bu/\Q (.tup (l.take i.toNat)) U) λa=>jI y λi=>HK (U a) λl=>0<=i/\l.length<=bu/\∀c,U c=none->Q (.ref c) (bq U c (.list (l.take i.toNat)))
def Ex(x y:V):Prop:=MX x λl=>jI y λi=>1<=i/\i<=l.length/\l.length<=bu/\Q (.tup (l.drop i.toNat)) U
def AQ(x v:V):Prop:=yW x λa=>ya (U a) λl=>l.length<bu/\Q .none (bq U a (.list (l++[v])))
def AO(x y:V):Prop:=yW x λa=>yW y λb=>ya (U a) λl=>ya (U b) λm=>a≠b/\l.length+m.length<=bu/\Q .none (bq U a (.list (l++m)))
def MN(x:V):Prop:=yW x λa=>ya (U a) λl=>l.length<=bu/\oS l.getLast? λv=>Q v (bq U a (.list l.dropLast))
def Ew(x y:V):Prop:=yW x λa=>ya (U a) λl=>(∃φ:FK,φ.is y/\φ.all l)/\l.length<=bu/\oS (l.findIdx? λv=>V.VI v y) λi=>Q (.int i) U
def MT(x k d:V):Prop:=yW x λa=>MY (U a) λes _=>c6 es k/\Q ((fP es k).getD d) U
def qp(x k d:V):Prop:=yW x λa=>MY (U a) λes ep=>c6 es k/\es.length<bu/\Option.casesOn (fP es k) (Q d (bq U a (.dict (es++[(k,d)]) (ep+1)))) λv=>Q v U
def qH(o:Operator)(x y:V):Prop:=match o with
 |.Add=>MV U Q x y
 |.Sub=>MJ U Q x y
 |.Mult=>MO U Q x y
 |.FloorDiv=>Jc U Q x y
 |.Mod=>MP U Q x y
 |.BitOr=>MU U Q x y
 |.BitAnd=>Je U Q x y
 |.LShift=>ML U Q x y
 |.RShift=>MK U Q x y
 |_=>False
def prim(p:P)(vs:TV):Prop:=P.casesOn p (GO vs (MQ U Q)) (GO vs (Jb U Q)) (GO vs (Ep U Q)) (GO vs (Jd U Q)) (GO vs (AN U Q)) (GO vs (MW U Q)) (GO vs (MR U Q)) (MZ vs (AQ U Q)) (MZ vs (AO U Q)) (GO vs (MN U Q)) (MZ vs (Ew U Q)) (KC vs (MT U Q)) (KC vs (qp U Q))
end a0i
section a0L
variable(U:aw)(Q:Bool->Prop)
noncomputable def V.Vw(l m:TV):Bool:=@decide (l=m) (UL _)
def OJ(x y:V)(Q:Bool->Prop):Prop:=yX x (λa=>OK y λb=>Q (a== b)) (λi=>jI y λj=>Q (i== j)) (λs=>N2 y λt=>Q (s== t)) (λl=>MX y λm=>(∃φ:FK,φ.all l/\φ.all m)/\Q (V.Vw l m)) λa=>yW y λb=>
 qI (U a) (λl=>ya (U b) λm=>(l=[]\/m=[]\/∃φ:FK,φ.all l/\φ.all m)/\Q (V.Vw l m)) λes _=>MY (U b) λfs _=>(es=[]\/fs=[])/\(∃κ:DK,(κ=.i\/κ=.s)/\(∀e∈es,κ.is e.1)/\(∀e∈fs,κ.is e.1))/\Q (es.length== fs.length)
def Qb(x y:V)(Q:Bool->Prop):Prop:=yX x (λa=>OK y λb=>Q (a != b)) (λi=>jI y λj=>Q (i != j)) (λs=>N2 y λt=>Q (s != t)) (λ_=>False) λa=>yW y λb=>ya (U a) λl=>ya (U b) λm=>(l=[]\/m=[])/\Q (!V.Vw l m)
def HI(f:Int->Int->Bool)(x y:V):Prop:=jI x λi=>jI y λj=>Q (f i j)
def MS(x y:V)(Q:Bool->Prop):Prop:=yX y (λ_=>False) (λ_=>False) (λs=>N2 x λt=>(match t.cps.toList with|[c]=>Q (decide (c∈s.cps.toList))|_=>False)) (λl=>(∃φ:FK,φ.is x/\φ.all l)/\Q (l.any λv=>V.VI v x)) λa=>
 qI (U a) (λl=>(∃φ:FK,φ.is x/\φ.all l)/\Q (l.any λv=>V.VI v x)) λes _=>c6 es x/\Q (iN es x)
def jG(c:C)(x y:V):Prop:=match c with
 |.eq=>OJ U x y Q
 |.ne=>Qb U x y Q
 |.lt=>HI Q (λi j=>decide (i<j)) x y
 |.le=>HI Q (λi j=>decide (i<=j)) x y
 |.gt=>HI Q (λi j=>decide (j<i)) x y
 |.ge=>HI Q (λi j=>decide (j<=i)) x y
 |.isin=>MS U x y Q
 |.Vi=>MS U x y λb=>Q (!b)
 |.isN=>match y with|.none=>(match x with|.none=>Q true|_=>Q false)|_=>False
 |.VC=>match y with|.none=>(match x with|.none=>Q false|_=>Q true)|_=>False
def l8(x:V):Prop:=yX x Q (λ_=>False) (λ_=>False) (λ_=>False) λa=>ya (U a) λl=>l.length<=bu/\Q (!l.isEmpty)
end a0L
def mo(U:aw)(p:P)(v:V):Prop:=yW v λa=>qI (U a) (λ_=>p=.append\/p=.extend\/p=.pop\/p=.index) λ_ _=>p=.get\/p=.setdefault
noncomputable def bZ:List Nat->List V->aQ->Option aQ
 |[],[],L=>some L
 |i::is,v::vs,L=>bZ is vs (L.set i (some v))
 |_,_,_=>none
noncomputable def lA(t:Tx)(v:V)(L:aQ):Option aQ:=match t with
 |.nm x=>some (L.set x.i (some v))
 |.tup l _=>match v with
  |.tup vs=>bZ (l.map (·.i)) vs L
  |_=>none
noncomputable def wb(k:Option Nat)(v:V):Option (List V):=match k with
 |none=>some [v]
 |some n=>match v with
  |.tup vs=>if vs.length=n then some vs else none
  |_=>none
noncomputable def fM(g:aw->Prop)(step:V->aQ->aw->(Fl->aQ->aw->Prop)->Prop):List V->aQ->aw->(Fl->aQ->aw->Prop)->Prop
 |[],L,U,Q=>g U/\Q .next L U
 |x::xs,L,U,Q=>g U/\step x L U λfl L' UX=>match fl with
  |.ret v=>Q (.ret v) L' UX
  |_=>fM g step xs L' UX Q
noncomputable def hG(g:aw->Prop)(step:V->aw->(Option V->aw->Prop)->Prop):List V->List V->aw->(List V->aw->Prop)->Prop
 |[],acc,U,Q=>g U/\Q acc U
 |x::xs,acc,U,Q=>g U/\step x U λr UX=>match r with
  |some v=>acc.length<bu/\hG g step xs (acc++[v]) UX Q
  |none=>hG g step xs acc UX Q
def yV(U:aw)(v:V)(Q:QP):Prop:=HN v (λ_=>False) (λl=>Q l (λ_=>True) U) λa=>qI (U a) (λl=>Q l (λU=>U a=some (.list l)) U) λes ep=>Q (es.map (·.1)) (λU=>U a=some (.dict es ep)) U
def Et(U:aw)(v:V)(Q:QP):Prop:=jI v λn=>n.natAbs<=bu/\Q ((List.range n.toNat).map λ(i:Nat)=>V.int (i:Int)) (λ_=>True) U
def MM(U:aw)(v:V)(Q:QP):Prop:=MX v λl=>l.length<=bu/\Q l.reverse (λ_=>True) U
noncomputable def f9(l:TV):List V:=l.zipIdx.map λ(x:V×Nat)=>V.tup [V.int (x.2:Int),x.1]
def AP(U:aw)(v:V)(Q:QP):Prop:=HN v (λ_=>False) (λl=>Q (f9 l) (λ_=>True) U) λa=>ya (U a) λl=>Q (f9 l) (λU=>U a=some (.list l)) U
structure wt where
 nm:Nat->Str
 mt:Nat->Nat->Option (Option Nat)
 Wq:Nat->Option Nat
 cst:Nat->Option V
 fns:Nat->Option Nat
 cls:Nat->Option Nat
def bA(o:Option α)(Q:α->Prop):Prop:=match o with|some v=>Q v|none=>False
theorem bQ{o:Option α}{Q:α->Prop}(h:bA o Q):∃v,o=some v/\Q v:=by
 induction o with
 |none=>show h.elim
 |some v=>show#[v,rfl,h]
section wp
variable(tab:wt)(CS:QC)
mutual
noncomputable def bj:E->aQ->aw->(V->aw->Prop)->Prop
 |.lit v _,_,U,Q=>Q v U
 |.neg i _ _,_,U,Q=>Q (.int (-i)) U
 |.glob n _,_,U,Q=>bA (tab.cst n) λv=>Q v U
 |.loc x,L,U,Q=>bA (bJ L x.i) λv=>Q v U
 |.bin o x y _,L,U,Q=>bj x L U λu UX=>bj y L UX λv U2=>qH U2 Q o u v
 |.W6 e _,L,U,Q=>bj e L U λv UX=>l8 UX (λb=>Q (.bool (!b)) UX) v
 |.ite t x y _,L,U,Q=>jm t L U λb UX=>(b=true->bj x L UX Q)/\(b=false->bj y L UX Q)
 |.test t,L,U,Q=>jm t L U λb UX=>Q (.bool b) UX
 |.tup es _,L,U,Q=>dN es L U λvs UX=>vs.length<=bu/\Q (.tup vs) UX
 |.list es _,L,U,Q=>dN es L U λvs UX=>vs.length<=bu/\∀c,UX c=none->Q (.ref c) (bq UX c (.list vs))
 |.Vf _,_,U,Q=>∀c ep,U c=none->Q (.ref c) (bq U c (.dict [] ep))
 |.Wy k v _,L,U,Q=>bj k L U λx UX=>bj v L UX λy U2=>(∃κ:DK,κ.is x)/\∀c ep,U2 c=none->Q (.ref c) (bq U2 c (.dict [(x,y)] ep))
 |.comp elt t src ifs _ _,L,U,Q=>gP src L U λitems g UX=>
   hG g (λx U K=>bA (wb t.ar x) λl=>gQ ifs (L++l.map some) U λb UX=>(b=true->bj elt (L++l.map some) UX λv U2=>K (some v) U2)/\(b=false->K none UX)) items [] UX λvs U2=>∀c,U2 c=none->Q (.ref c) (bq U2 c (.list vs))
 |.attr e m _,L,U,Q=>bj e L U λv UX=>match v with
  |.ref a=>match UX a with
   |some (.inst c d)=>(tab.Wq c).isSome=true/\tab.mt c m=some none/\match UX d with
    |some (.attrs fs)=>bA (fs.lookup m) λv=>Q v UX
    |_=>False
   |_=>False
  |_=>False
 |.VT e u _ _,L,U,Q=>bj e L U λx UX=>bj u L UX λy U2=>AM U2 Q x y
 |.VM e u _ _,L,U,Q=>bj e L U λx UX=>bj u L UX λy U2=>Ex U2 Q x y
 |.item e i _,L,U,Q=>bj e L U λx UX=>bj i L UX λy U2=>lC U2 Q x y
 |.prim b es _ _,L,U,Q=>dN es L U λvs UX=>prim UX Q b vs
 |.call f _ es _ _,L,U,Q=>dN es L U λvs UX=>CS f vs UX Q
 |.new c _ es _ _,L,U,Q=>dN es L U λvs UX=>bA (tab.Wq c) λf=>∀a d,a≠d->UX a=none->UX d=none->CS f (.ref a::vs) (bq (bq UX d (.attrs [])) a (.inst c d)) λv U2=>v=.none/\Q (.ref a) U2
 |.U5 m e es _ _,L,U,Q=>bj e L U λv UX=>match v with
  |.ref a=>match UX a with
   |some (.inst c d)=>match UX d,tab.mt c m with
    |some (.attrs fs),some (some f)=>(tab.Wq c).isSome=true/\(fs.all λx=>x.1 != m)=true/\dN es L UX λvs U2=>CS f (.ref a::vs) U2 Q
    |_,_=>False
   |_=>False
  |_=>False
 |.U1 p e es _ _,L,U,Q=>bj e L U λv UX=>mo UX p v/\dN es L UX λvs U2=>prim U2 Q p (v::vs)
noncomputable def dN:Es->aQ->aw->(List V->aw->Prop)->Prop
 |.nil,_,U,Q=>Q [] U
 |.cons e es,L,U,Q=>bj e L U λv UX=>dN es L UX λvs U2=>Q (v::vs) U2
noncomputable def jm:T->aQ->aw->(Bool->aw->Prop)->Prop
 |.truth e,L,U,Q=>bj e L U λv UX=>l8 UX (λb=>Q b UX) v
 |.cmp c x y _,L,U,Q=>bj x L U λu UX=>bj y L UX λv U2=>jG U2 (λb=>Q b U2) c u v
 |.not t _,L,U,Q=>jm t L U λb UX=>Q (!b) UX
 |.all ts _,L,U,Q=>gQ ts L U Q
 |.any ts _,L,U,Q=>jA ts L U Q
noncomputable def gQ:Ts->aQ->aw->(Bool->aw->Prop)->Prop
 |.nil,_,U,Q=>Q true U
 |.cons t ts,L,U,Q=>jm t L U λb UX=>(b=true->gQ ts L UX Q)/\(b=false->Q false UX)
noncomputable def jA:Ts->aQ->aw->(Bool->aw->Prop)->Prop
 |.nil,_,U,Q=>Q false U
 |.cons t ts,L,U,Q=>jm t L U λb UX=>(b=true->Q true UX)/\(b=false->jA ts L UX Q)
noncomputable def gP:yc->aQ->aw->(List V->(aw->Prop)->aw->Prop)->Prop
 |.seq e,L,U,Q=>bj e L U λv UX=>yV UX v Q
 |.range e _ _,L,U,Q=>bj e L U λv UX=>Et UX v Q
 |.rev e _ _,L,U,Q=>bj e L U λv UX=>MM UX v Q
 |.enum e _ _,L,U,Q=>bj e L U λv UX=>AP UX v Q
end
def vb(o:V)(m:Nat)(v:V)(U:aw)(Q:aw->Prop):Prop:=yW o λa=>KA (U a) λc d=>(tab.Wq c).isSome=true/\tab.mt c m=some none/\KB (U d) λfs=>fs.length<100/\Q (bq U d (.attrs (if(fs.any λx=>x.1== m) then fs.map (λx=>if x.1== m then(m,v) else x) else fs++[(m,v)])))
def r4(o k v:V)(U:aw)(Q:aw->Prop):Prop:=yW o λa=>qI (U a) (λl=>jI k λj=>0<=j/\j.toNat<l.length/\l.length<=bu/\Q (bq U a (.list (l.set j.toNat v)))) λes ep=>c6 es k/\es.length<bu/\Q (bq U a (.dict (eG es k v) (if iN es k then ep else ep+1)))
def IM(x y:V)(Q:V->Prop):Prop:=jI x λa=>jI y λb=>Q (.int (a+b))
def vc(v:V)(Q:Prop):Prop:=V.casesOn v Q (λ_=>Q) (λ_=>Q) (λ_=>Q) (λ_=>False) λ_=>False
mutual
noncomputable def LS:S->aQ->aw->(Fl->aQ->aw->Prop)->Prop
 |.expr e _,L,U,Q=>bj tab CS e L U λv UX=>vc v (Q .next L UX)
 |.VF x e _,L,U,Q=>bj tab CS e L U λv UX=>Q .next (L.set x.i (some v)) UX
 |.VL l q e _,L,U,Q=>bj tab CS e L U λv UX=>bA (lA (.tup l q) v L) λL'=>Q .next L' UX
 |.U8 o m _ e _,L,U,Q=>bj tab CS e L U λv UX=>bj tab CS o L UX λu U2=>vb tab u m v U2 (Q .next L)
 |.Ve o i _ e _,L,U,Q=>bj tab CS e L U λv UX=>bj tab CS o L UX λu U2=>bj tab CS i L U2 λk d=>r4 u k v d (Q .next L)
 |.aug x e _,L,U,Q=>bA (bJ L x.i) λu=>bj tab CS e L U λv UX=>IM u v λy=>Q .next (L.set x.i (some y)) UX
 |.ite t a b _,L,U,Q=>jm tab CS t L U λc UX=>(c=true->an a L UX Q)/\(c=false->an b L UX Q)
 |.while t b _,L,U,Q=>∃I:Nat->aQ->aw->Prop,(∃n,I n L U)/\∀n L U,I n L U->
   jm tab CS t L U λc UX=>(c=true->an b L UX λfl L' U2=>match fl with
    |.ret v=>Q (.ret v) L' U2
    |_=>∃m,m<n/\I m L' U2)/\(c=false->Q .next L UX)
 |.for t s b _,L,U,Q=>gP tab CS s L U λitems g UX=>
   fM g (λx L U K=>bA (lA t x L) λL'=>an b L' U K) items L UX Q
 |.ret e _,L,U,Q=>bj tab CS e L U λv UX=>Q (.ret v) L UX
 |.Y9 _,L,U,Q=>Q (.ret .none) L U
 |.cont _,L,U,Q=>Q .cont L U
 |.pass _,L,U,Q=>Q .next L U
 |.fail _ _,_,_,_=>False
noncomputable def an:Ss->aQ->aw->(Fl->aQ->aw->Prop)->Prop
 |.nil,L,U,Q=>Q .next L U
 |.cons s ss,L,U,Q=>LS s L U λfl L' UX=>match fl with
  |.next=>an ss L' UX Q
  |fl=>Q fl L' UX
end
end wp
noncomputable def N1:C->CmpOp
 |.eq=>.Eq|.ne=>.NotEq|.lt=>.Lt|.le=>.LtE|.gt=>.Gt|.ge=>.GtE|.isin=>.In|.Vi=>.NotIn|.isN=>.Is|.VC=>.IsNot
structure Fn where
 n:Nat
 params:List Nat
 dflt:List V
 body:Ss
end
section
variable{a:Addr}{ds:TL}{es:TD}{h h' h'':Heap}{i n:Nat}{items:TC}{l:TV}{m:TW}{o:Option O}{o':O}{ro:Obj}{u:Value}{v:V}{w:World}{α:Type}{U UX U2:aw}
def tW(h:Heap)(a:Addr)(items:TC):Prop:=∃n,h.get? a=some (seqObj "tuple" items n)
theorem tW.isTup(x:tW h a items):IsTup h a items:=by show az x λn e=>#[_,e,rfl,n,rfl]
mutual
inductive VR(h:Heap):V->Value->Prop
 |none:VR h .none .none
 |bool(b:Bool):VR h (.bool b) (.bool b)
 |int(i:Int)(t:Tok):VR h (.int i) (.int i t)
 |str(s:Str)(t:Tok):VR h (.str s) (.str s t)
 |tup{l:TV}{a:Addr}{items:TW}:tW h a items.toArray->aY h l items->VR h (.tup l) (.ref a)
 |ref(a:Nat):VR h (.ref a) (.ref a)
inductive aY(h:Heap):List V->List Value->Prop
 |nil:aY h [] []
 |cons{v:V}{u:Value}{l:TV}{m:TW}:VR h v u->aY h l m->aY h (v::l) (u::m)
end
section
variable{a:Value}{G:Prop}
def VR.sh(h:Heap)(a:Value)(v:V):Prop:=V.casesOn v (a=.none) (λb=>a=.bool b) (λi=>∃t,a=.int i t) (λs=>∃t,a=.str s t) (λl=>∃t items,a=.ref t/\tW h t items.toArray/\aY h l items) λn=>a=.ref n
theorem VR.inv(r:VR h v a):VR.sh h a v:=VR.casesOn r rfl (λ_=>rfl) (λ_ t=>#[t,rfl]) (λ_ t=>#[t,rfl]) (λx y=>#[_,_,rfl,x,y]) λ_=>rfl
def aY.sh(h:Heap)(m:TW)(l:TV):Prop:=List.casesOn l (m=[]) λv l=>∃u us,m=u::us/\VR h v u/\aY h l us
theorem aY.inv(r:aY h l m):aY.sh h m l:=aY.casesOn r rfl λx y=>#[_,_,rfl,x,y]
theorem Q0(r:VR h .none a)(k:a=.none->G):G:=k r.inv
theorem Q3{b:Bool}(r:VR h (.bool b) a)(k:a=.bool b->G):G:=k r.inv
theorem P9{i:Int}(r:VR h (.int i) a)(k:∀t,a=.int i t->G):G:=r.inv.elim k
theorem PZ{s:Str}(r:VR h (.str s) a)(k:∀t,a=.str s t->G):G:=r.inv.elim k
theorem vh(r:VR h (.tup l) a)(k:∀t items,a=.ref t->tW h t items.toArray->aY h l items->G):G:=fH r.inv k
theorem QZ(r:VR h (.ref n) a)(k:a=.ref n->G):G:=k r.inv
theorem Dg(r:aY h [] m)(k:m=[]->G):G:=k r.inv
theorem C3(r:aY h (v::l) m)(k:∀u us,m=u::us->VR h v u->aY h l us->G):G:=fH r.inv k
theorem H8{fL:List V->Prop}{fD:List (V×V)->Nat->Prop}(k:qI o fL fD)(gL:∀l,o=some (.list l)->fL l->G)(gD:∀es ep,o=some (.dict es ep)->fD es ep->G):G:=by
 induction o with
 |none=>show k.elim
 |some o=>induction o with|list l=>show gL l rfl k|dict es ep=>show gD es ep rfl k|_=>show k.elim
theorem QB{f:List V->Prop}(k:HK o f)(gL:∀l,o=some (.list l)->f l->G)(gF:∀l,o=some (.Wb l)->f l->G):G:=by
 induction o with
 |none=>show k.elim
 |some o=>induction o with|list l=>show gL l rfl k|Wb l=>show gF l rfl k|_=>show k.elim
theorem QD{f:Nat->Nat->Prop}(k:KA o f)(g:∀c d,o=some (.inst c d)->f c d->G):G:=by
 induction o with
 |none=>show k.elim
 |some o=>induction o with|inst c d=>show g c d rfl k|_=>show k.elim
theorem QE{f:List (Nat×V)->Prop}(k:KB o f)(g:∀fs,o=some (.attrs fs)->f fs->G):G:=by
 induction o with
 |none=>show k.elim
 |some o=>induction o with|attrs fs=>show g fs rfl k|_=>show k.elim
theorem iO{o:Option α}{f:α->Prop}(k:oS o f)(g:∀v,o=some v->f v->G):G:=by induction o with|none=>show k.elim|some v=>show g v rfl k
theorem AS{f:V->Prop}(k:GO l f):l.length=1:=by cases l with|nil=>show k.elim|cons x l=>cases l with|nil=>rfl|cons _ _=>show k.elim
theorem AR{f:V->V->Prop}(k:MZ l f):l.length=2:=by induction l with|nil=>show k.elim|cons x l=>show Rs Nat.succ (AS k)
theorem HM{f:V->V->V->Prop}(k:KC l f):l.length=3:=by induction l with|nil=>show k.elim|cons x l=>show Rs Nat.succ (AR k)
theorem iL{f:List V->Prop}(k:ya o f)(g:∀l,o=some (.list l)->f l->G):G:=H8 k g λ_ _ _ k=>k.elim
theorem iD{f:List (V×V)->Nat->Prop}(k:MY o f)(g:∀es ep,o=some (.dict es ep)->f es ep->G):G:=H8 k (λ_ _ k=>k.elim) g
end
section
variable{a b:Value}{x y:V}{fB:Bool->Prop}{fI:Int->Prop}{fS:Str->Prop}{fT:List V->Prop}{fR:Nat->Prop}{G:Value->Prop}
@[elab_as_elim] theorem i5(r:VR h x a)(k:yX x fB fI fS fT fR)(g:∀b,fB b->G (.bool b))(f:∀i t,fI i->G (.int i t))(d:∀s t,fS s->G (.str s t))(c:∀l t us,tW h t us.toArray->aY h l us->fT l->G (.ref t))(e:∀n,fR n->G (.ref n)):G a:=by
 cases r with
 |none=>show k.elim
 |bool b=>show g b k
 |int i t=>show f i t k
 |str s t=>show d s t k
 |tup hi hr=>show c _ _ _ hi hr k
 |ref n=>show e n k
@[elab_as_elim] theorem i3(r:VR h x a)(k:HN x fI fT fR)(d:∀i t,fI i->G (.int i t))(b:∀l t us,tW h t us.toArray->aY h l us->fT l->G (.ref t))(c:∀n,fR n->G (.ref n)):G a:=i5 r k (λ_ k=>k.elim) d (λ_ _ k=>k.elim) b c
@[elab_as_elim] theorem iB(r:VR h x a)(k:OK x fB)(g:∀b,fB b->G (.bool b)):G a:=i5 r k g (λ_ _ k=>k.elim) (λ_ _ k=>k.elim) (λ_ _ _ _ _ k=>k.elim) λ_ k=>k.elim
@[elab_as_elim] theorem iI(r:VR h x a)(k:jI x fI)(g:∀i t,fI i->G (.int i t)):G a:=i5 r k (λ_ k=>k.elim) g (λ_ _ k=>k.elim) (λ_ _ _ _ _ k=>k.elim) λ_ k=>k.elim
@[elab_as_elim] theorem iS(r:VR h x a)(k:N2 x fS)(g:∀s t,fS s->G (.str s t)):G a:=i5 r k (λ_ k=>k.elim) (λ_ _ k=>k.elim) g (λ_ _ _ _ _ k=>k.elim) λ_ k=>k.elim
@[elab_as_elim] theorem iT(r:VR h x a)(k:MX x fT)(g:∀l t us,tW h t us.toArray->aY h l us->fT l->G (.ref t)):G a:=i5 r k (λ_ k=>k.elim) (λ_ _ k=>k.elim) (λ_ _ k=>k.elim) g λ_ k=>k.elim
@[elab_as_elim] theorem iR(r:VR h x a)(k:yW x fR)(g:∀n,fR n->G (.ref n)):G a:=i5 r k (λ_ k=>k.elim) (λ_ _ k=>k.elim) (λ_ _ k=>k.elim) (λ_ _ _ _ _ k=>k.elim) g
@[elab_as_elim] theorem E0{G:Value->Value->Prop}{f:Int->Int->Prop}(hx:VR h x a)(hy:VR h y b)(k:jI x λi=>jI y λj=>f i j)(g:∀i t j u,f i j->G (.int i t) (.int j u)):G a b:=iI hx k λi t k=>iI hy k λj u k=>g i t j u k
end
def aD(h h':Heap):Prop:=∀a UZ n,h.get? a=some (seqObj "tuple" UZ n)->h'.get? a=some (seqObj "tuple" UZ n)
theorem tW.keep(k:aD h h')(x:tW h a items):tW h' a items:=
 by show az x λn e=>#[n,k a _ _ e]
theorem aY.ind{P:List V->List Value->Prop}(r:aY h l m)(n:P [] [])(c:∀{v u l m},VR h v u->aY h l m->P l m->P (v::l) (u::m)):P l m:=
 aY.rec (motive_1:=λ_ _ _=>True) trivial (λ_=>trivial) (λ_ _=>trivial) (λ_ _=>trivial) (λ_ _ _=>trivial) (λ_=>trivial) n (λa b _ k=>c a b k) r
theorem VR.keep(k:aD h h')(r:VR h v u):VR h' v u:=
 VR.rec .none .bool .int .str (λhi _ c=>.tup (tW.keep k hi) c) .ref .nil (λ_ _ a b=>.cons a b) r
section
variable{l':TV}{m':TW}
theorem aY.keep(k:aD h h')(r:aY h l m):aY h' l m:=r.ind .nil λa _ b=>.cons (a.keep k) b
theorem aY.length(r:aY h l m):l.length=m.length:=r.ind (P:=λl m=>l.length=m.length) rfl λ_ _ e=>Rs Nat.succ e
theorem aY.append(r:aY h l m)(y:aY h l' m'):aY h (l++l') (m++m'):=r.ind (P:=λl m=>aY h (l++l') (m++m')) y λa _ b=>.cons a b
theorem aY.get(r:aY h l m):l[i]?=some v->∃u,m[i]?=some u/\VR h v u:=
 r.ind (P:=λl m=>∀i,l[i]?=some v->∃u,m[i]?=some u/\VR h v u) (λ_ e=>nS (TX.symm.trans e)) (λ{_ u _ _} a _ b i=>Nat.casesOn i (λe=>#[u,rfl,Is e▸a]) b) i
theorem aY.get'(r:aY h l m):m[i]?=some u->∃v,l[i]?=some v/\VR h v u:=
 r.ind (P:=λl m=>∀i,m[i]?=some u->∃v,l[i]?=some v/\VR h v u) (λ_ e=>nS (TX.symm.trans e)) (λ{v _ _ _} a _ b i=>Nat.casesOn i (λe=>#[v,rfl,Is e▸a]) b) i
theorem aY.take(n:Nat)(r:aY h l m):aY h (l.take n) (m.take n):=
 r.ind (P:=λl m=>∀n,aY h (l.take n) (m.take n)) (λn=>Nat.casesOn n .nil λ_=>.nil) (λa _ b n=>Nat.casesOn n .nil λn=>.cons a (b n)) n
theorem aY.drop(n:Nat)(r:aY h l m):aY h (l.drop n) (m.drop n):=
 r.ind (P:=λl m=>∀n,aY h (l.drop n) (m.drop n)) (λn=>Nat.casesOn n .nil λ_=>.nil) (λa r b n=>Nat.casesOn n (.cons a r) b) n
theorem aY.set(n:Nat)(r:aY h l m)(x:VR h v u):aY h (l.set n v) (m.set n u):=
 r.ind (P:=λl m=>∀n,aY h (l.set n v) (m.set n u)) (λ_=>.nil) (λa r b n=>Nat.casesOn n (.cons x r) λn=>.cons a (b n)) n
theorem aY.reverse(r:aY h l m):aY h l.reverse m.reverse:=
 r.ind (P:=λl m=>aY h l.reverse m.reverse) .nil λa _ b=>by rw[Ta,Ta];show b.append (.cons a .nil)
theorem aY.dropLast(x:aY h l m):aY h l.dropLast m.dropLast:=by rw[List.dropLast_eq_take,List.dropLast_eq_take,x.length];show x.take _
theorem aY.replicate(x:VR h v u)(n:Nat):aY h (List.replicate n v) (List.replicate n u):=n.rec .nil λ_ b=>.cons x b
theorem aY.all(r:aY h l m):∀u∈m,∃v∈l,VR h v u:=
 r.ind (P:=λl m=>∀u∈m,∃v∈l,VR h v u) (λ_ k=>(n0 k)) λ{v _ _ _} a _ b u hu=>(RB.mp hu).elim (λe=>#[v,.head _,e▸a]) λhu=>(b u hu).elim λv k=>#[v,.tail _ k.1,k.2]
end
noncomputable def bX(w:World):V->Int
 |.int i=>hashInt i
 |.str s=>hashStr w s
 |.tup l=>reduceHash (Builtin.Tuple.tupleHashOf (VY w l))
 |_=>0
where VY (w:World):List V->List Int
 |[]=>[]
 |v::l=>bX w v::VY w l
theorem w7:bX.VY w (v::l)=bX w v::bX.VY w l:=rfl
class inductive U6 (w:World) (h:Heap):List (V×V)->List DictEntry->Prop
 |nil:U6 w h [] []
 |cons{k v:V}{e:DictEntry}{es:TD}{ds:TL}:e.hash=bX w k->VR h k e.key->VR h v e.val->U6 w h es ds->U6 w h ((k,v)::es) (e::ds)
structure Gc where
 H0:Heap
 cls:Nat->Addr
 nm:Nat->Str
 WK:Nat->Option Obj
class inductive Vl (w:World) (G:Gc) (h:Heap):List (Nat×V)->List DictEntry->Prop
 |nil:Vl w G h [] []
 |cons{k:Nat}{v:V}{e:DictEntry}{t:Tok}{es:List (Nat×V)}{ds:TL}:e.key=.str (G.nm k) t->VR h v e.val->Vl w G h es ds->Vl w G h ((k,v)::es) (e::ds)
noncomputable def qf(w:World)(G:Gc)(h:Heap)(a:Addr):O->Prop
 |.list l=>∃vs n,h.get? a=some (seqObj "list" vs n)/\aY h l vs.toList
 |.dict es ep=>∃ds,h.get? a=some {cls:=.type "dict",data:=.dict ds ep}/\U6 w h es ds.toList/\(es.map (·.1)).Nodup
 |.inst c d=>h.get? a=some (instObj (G.cls c) d)
 |.attrs fs=>∃ds n,h.get? a=some (dictOf ds n)/\Vl w G h fs ds/\(fs.map (·.1)).Nodup
 |.Wb l=>∃vs n,h.get? a=some (seqObj "list" vs n)/\aY h l vs.toList/\G.WK a=some (seqObj "list" vs n)
theorem U6.keep(k:aD h h')(r:U6 w h es ds):U6 w h' es ds:=
 r.rec .nil λa b c _ r=>.cons a (b.keep k) (c.keep k) r
theorem Vl.keep{G:Gc}(k:aD h h'){es:List (Nat×V)}(r:Vl w G h es ds):Vl w G h' es ds:=
 r.rec .nil λa b _ r=>.cons a (b.keep k) r
theorem qf.ex{G:Gc}{o:O}(x:qf w G h a o):∃ro,h.get? a=some ro/\ro.cls≠.type "tuple":=by
 induction o with
 |list l=>show ck x λvs n e _=>#[_,e,by simp]
 |dict es ep=>show aq x λds e _=>#[_,e,by simp]
 |inst c d=>show#[_,x,by simp]
 |attrs fs=>show ck x λds n e _=>#[_,e,by simp]
 |Wb l=>show ck x λvs n e _=>#[_,e,by simp]
theorem qf.keep{G:Gc}{o:O}(x:qf w G h a o)(k:aD h h')(e:∀ro,h.get? a=some ro->h'.get? a=some ro):qf w G h' a o:=by
 induction o with
 |list l=>show ck x λvs n ho r=>#[vs,n,e _ ho,r.keep k]
 |dict es ep=>show bS x λds ho r q=>#[ds,e _ ho,r.keep k,q]
 |inst c d=>show e _ x
 |attrs fs=>show fH x λds n ho r q=>#[ds,n,e _ ho,r.keep k,q]
 |Wb l=>show fH x λvs n ho r q=>#[vs,n,e _ ho,r.keep k,q]
structure ba(w:World)(G:Gc)(U:aw)(h:Heap):Prop where
 base:∀b o,G.H0.get? b=some o->h.get? b=some o
 obj:∀a o,U a=some o->G.H0.get? a=none/\qf w G h a o
structure dM(X:Addr->Prop)(U:aw)(h:Heap)(UX:aw)(h':Heap):Prop where
 live:∀b o,h.get? b=some o->¬X b->∃o',h'.get? b=some o'
 keep:∀b o,h.get? b=some o->U b=none->¬X b->h'.get? b=some o
 W4:∀b o,h.get? b=some o->U b=none->¬X b->UX b=none
theorem dM.refl{X:Addr->Prop}{U:aw}{h:Heap}:dM X U h U h:=#[λ_ o e _=>#[o,e],λ_ _ e _ _=>e,λ_ _ _ e _=>e]
theorem dM.trans{X:Addr->Prop}(a:dM X U h UX h')(b:dM X UX h' U2 h''):dM X U h U2 h'':=
  #[λc o e x=>(by show az (a.live c o e x) λo' d=>?_;show b.live c o' d x),λc o e n x=>b.keep c o (a.keep c o e n x) (a.W4 c o e n x) x,
   λc o e n x=>(by show az (a.live c o e x) λo' d=>?_;show b.W4 c o' d (a.W4 c o e n x) x)]
theorem dM.mono{X Y:Addr->Prop}(a:dM X U h UX h')(k:∀b,X b->Y b):dM Y U h UX h':=
 #[λb o e x=>a.live b o e λq=>x (k b q),λb o e n x=>a.keep b o e n λq=>x (k b q),λb o e n x=>a.W4 b o e n λq=>x (k b q)]
section
variable{G:Gc}{X:Addr->Prop}
theorem ba.no(S:ba w G U h)(e:h.get? a=none):U a=none:=by
 cases q:U a with
 |none=>rfl
 |some o=>show ao (S.obj a o q) λ_ r=>?_;show aq r.ex λro hr _=>?_;rw[e]at hr;show nS hr
theorem ba.fresh(S:ba w G U h)(e:h.objs.size<=a):h.get? a=none/\U a=none/\G.H0.get? a=none:=by
 let e1:h.get? a=none:=by
  cases q:h.get? a with
  |none=>rfl
  |some o=>show absurd (Sf q) (Sn.mpr e)
 show#[e1,S.no e1,?_];cases q:G.H0.get? a with
 |none=>rfl
 |some o=>rw[S.base a o q]at e1;show nS e1.symm
theorem ba.lt(S:ba w G U h){o:O}(e:U a=some o):a<h.objs.size:=by show aq ((S.obj a o e).2.ex) λro hr _=>?_;show Sf hr
theorem ba.tup(S:ba w G U h)(b:∀a o,X a->h.get? a=some o->o.cls≠.type "tuple")(st:dM X U h UX h'):aD h h':=λa _ _ e=>by
 show st.keep a _ e ?_ λx=>b a _ x e rfl;cases q:U a with
 |none=>rfl
 |some o'=>
  show aq ((S.obj a o' q).2.ex) λro hr n=>?_;rw[e]at hr;replace hr:=Is hr;cases hr;show absurd rfl n
theorem ba.W5(S:ba w G U h)(st:dM (λ_=>False) U h UX h'):aD h h':=S.tup (λ_ _ x=>x.elim) st
theorem aD.push{o:Obj}:aD h (h.push o):=λ_ _ _ e=>Rh _ e
theorem aD.trans(a:aD h h')(b:aD h' h''):aD h h'':=λx _ _ e=>b x _ _ (a x _ _ e)
theorem aD.of_keeps(k:∀b o,h.get? b=some o->h'.get? b=some o):aD h h':=λb _ _ e=>k b _ e
theorem ba.keeps(S:ba w G U h)(k:∀b o,h.get? b=some o->h'.get? b=some o):ba w G U h':=
 #[λb o e=>k b o (S.base b o e),λa o e=>#[(S.obj a o e).1,(S.obj a o e).2.keep (.of_keeps k) λro=>k a ro]]
theorem dM.keeps(k:∀b o,h.get? b=some o->h'.get? b=some o):dM X U h U h':=#[λb o e _=>#[o,k b o e],λb o e _ _=>k b o e,λ_ _ _ e _=>e]
theorem ba.push(S:ba w G U h)(o:Obj):ba w G U (h.push o):=S.keeps λ_ _ e=>Rh _ e
theorem dM.push{o:Obj}:dM X U h U (h.push o):=.keeps (λ_ _ e=>Rh _ e)
set_option tactic.hygienic true in
theorem ba.enter(S:ba w G U h){o:O}(e0:G.H0.get? a=none)(r:qf w G h a o):ba w G (bq U a o) h:=
 #[S.base,λb o' e=>by
  unfold bq at e;split at e
  .rename_i q;subst q;replace e:=Is e;cases e;show#[e0,r]
  show S.obj b o' e]
theorem dM.enter{o:O}(st:dM X U h UX h')(l:h.get? a=none):dM X U h (bq UX a o) h':=
 #[st.live,st.keep,λb d c n x=>by unfold bq;rw[if_neg (λq=>by rw[q,l]at c;show nS c)];show st.W4 b d c n x]
theorem ba.alloc(S:ba w G U h){o:O}(r:qf w G (h.push ro) h.objs.size o):
  U h.objs.size=none/\ba w G (bq U h.objs.size o) (h.push ro)/\dM X U h (bq U h.objs.size o) (h.push ro):=
 have f:=S.fresh (Rm h.objs.size)
 #[f.2.1,(S.push ro).enter f.2.2 r,dM.push.enter f.1]
set_option tactic.hygienic true in
theorem ba.update(S:ba w G U h){o:O}(e:U a=some o)(f:Heap.SameBut a h h')(r:aD h h'->qf w G h' a o'):
  ba w G (bq U a o') h'/\dM X U h (bq U a o') h':=by
 show ao (S.obj a o e) λg ra=>?_;show aq ra.ex λro hr hn=>?_;let tk:aD h h':=λb _ _ c=>by
  by_cases q:b=a
  .clear ra g r f e;subst q;rw[hr]at c;replace c:=Is c;cases c;show absurd rfl hn
  show(f.2 b q).trans c
 let k:∀b d,b≠a->h.get? b=some d->h'.get? b=some d:=λb d q c=>(f.2 b q).trans c;show#[#[λb d c=>k b d (λq=>by rw[q,g]at c;show nS c) (S.base b d c),λb d c=>?_],λb d c _=>?_,λb d c n _=>k b d (λq=>by rw[q,e]at n;show nS n.symm) c,λb d c n _=>?_]
 .unfold bq at c;split at c
  .rename_i q;clear k hr ra f e;subst q;replace c:=Is c;cases c;show#[g,r tk]
  rename_i q;show#[(S.obj b d c).1,(S.obj b d c).2.keep tk λro=>k b ro q]
 .by_cases q:b=a
  .clear k hr ra g f e;subst q;show aq ((r tk).ex) λr' i _=>#[r',i]
  show#[d,k b d q c]
 unfold bq;rw[RX (λq=>by rw[q,e]at n;show nS n.symm)];show n
end
variable{A:Around}{G:Gc}{c t:Nat}{i:Int}{UZ:TC}{o:O}{prog:Program}{s s' Xf:Shared}
structure Mv(w:World)(G:Gc)(X:Addr->Prop)(U:aw)(s:Shared)(UX:aw)(s':Shared):Prop where
 sim:ba w G UX s'.heap
 st:dM X U s.heap UX s'.heap
 gens:s'.gens=s.gens
 os:s'.os=s.os
theorem EM{i:Int}(h:0<=i):¬0<=-i - 1:=Int.not_le.mpr (Int.lt_of_lt_of_le (Int.sub_lt_self _ (dR rfl)) (Int.neg_nonpos_of_nonneg h))
theorem OP(i:Int): -(-i - 1) - 1=i:=by rw[Int.neg_sub,Int.sub_neg,Int.add_comm,Int.add_sub_cancel]
theorem Mv.trans{X:Addr->Prop}(a:Mv w G X U s UX s')(b:Mv w G X UX s' U2 Xf):Mv w G X U s U2 Xf:=
 #[b.sim,a.st.trans b.st,b.gens.trans a.gens,b.os.trans a.os]
theorem Mv.mono{X Y:Addr->Prop}(a:Mv w G X U s UX s')(k:∀b,X b->Y b):Mv w G Y U s UX s':=
 #[a.sim,a.st.mono k,a.gens,a.os]
def aJ(w:World)(G:Gc)(X:Addr->Prop)(U:aw)(s:Shared)(P:QV)(v:Value)(s':Shared):Prop:=
 ∃x UX,P x UX/\VR s'.heap x v/\Mv w G X U s UX s'
def jl(w:World)(G:Gc)(X:Addr->Prop)(U:aw)(s:Shared)(P:Bool->aw->Prop)(b:Bool)(s':Shared):Prop:=
 ∃UX,P b UX/\Mv w G X U s UX s'
def u5(w:World)(G:Gc)(X:Addr->Prop)(U:aw)(s:Shared)(P:aw->Prop)(_:Unit)(s':Shared):Prop:=
 ∃UX,P UX/\Mv w G X U s UX s'
theorem aJ.trans{X:Addr->Prop}{P:QV}{v:Value}(m:Mv w G X U s UX s')(p:aJ w G X UX s' P v Xf):aJ w G X U s P v Xf:=
 by show fH p λx τ h r n=>#[x,τ,h,r,m.trans n]
theorem jl.trans{X:Addr->Prop}{P:Bool->aw->Prop}{v:Bool}(m:Mv w G X U s UX s')(p:jl w G X UX s' P v Xf):jl w G X U s P v Xf:=
 by show aq p λτ h n=>#[τ,h,m.trans n]
abbrev cE:Addr->Prop:=λ_=>False
abbrev aV:Value->Shared->Prop:=λ_ _=>False
section
variable{X:Addr->Prop}
theorem Mv.toks(S:ba w G U s.heap)(t:Nat):Mv w G X U s U {s with toks:=t}:=#[S,.refl,rfl,rfl]
theorem Mv.refl(S:ba w G U s.heap):Mv w G X U s U s:=#[S,.refl,rfl,rfl]
theorem Mv.keeps(S:ba w G U s.heap)(k:∀b o,s.heap.get? b=some o->h'.get? b=some o):Mv w G X U s U {s with heap:=h',toks:=t}:=
 #[S.keeps k,.keeps k,rfl,rfl]
theorem Mv.push(S:ba w G U s.heap){o:Obj}:Mv w G X U s U {s with heap:=s.heap.push o,toks:=t}:=
 Mv.keeps S (λ_ _ e=>Rh _ e)
theorem Mv.alloc(S:ba w G U s.heap)(r:qf w G (s.heap.push ro) s.heap.objs.size o):
  Mv w G X U s (bq U s.heap.objs.size o) {s with heap:=s.heap.push ro,toks:=t}:=
 by obtain⟨_,b,c⟩:=S.alloc r;show#[b,c,rfl,rfl]
theorem Mv.enter(m:Mv w G X U s UX s')(l:s.heap.get? a=none)(e0:G.H0.get? a=none)(r:qf w G s'.heap a o):Mv w G X U s (bq UX a o) s':=
 #[m.sim.enter e0 r,m.st.enter l,m.gens,m.os]
theorem Mv.update(S:ba w G U s.heap)(e:U a=some o)(d:Heap.SameBut a s.heap h')(r:aD s.heap h'->qf w G h' a o'):
  Mv w G X U s (bq U a o') {s with heap:=h',toks:=t}:=
 by obtain⟨b,c⟩:=S.update e d r;show#[b,c,rfl,rfl]
theorem VR.mv(S:ba w G U s.heap)(m:Mv w G cE U s UX s')(r:VR s.heap v u):VR s'.heap v u:=r.keep (S.W5 m.st)
theorem aY.mv(S:ba w G U s.heap)(m:Mv w G cE U s UX s'){v:TV}{u:TW}(r:aY s.heap v u):aY s'.heap v u:=r.keep (S.W5 m.st)
theorem ba.list(S:ba w G U s.heap)(e:U a=some (.list l)):∃vs n,s.heap.get? a=some (seqObj "list" vs n)/\aY s.heap l vs.toList:=(S.obj a _ e).2
theorem ba.dict(S:ba w G U s.heap){a:Addr}{es:TD}{ep:Nat}(e:U a=some (.dict es ep)):
  ∃ds,s.heap.get? a=some {cls:=.type "dict",data:=.dict ds ep}/\U6 w s.heap es ds.toList/\(es.map (·.1)).Nodup:=(S.obj a _ e).2
theorem ba.inst(S:ba w G U s.heap){d:Nat}(e:U a=some (.inst c d)):s.heap.get? a=some (instObj (G.cls c) d):=(S.obj a _ e).2
theorem ba.attrs(S:ba w G U s.heap){fs:List (Nat×V)}(e:U a=some (.attrs fs)):∃ds n,s.heap.get? a=some (dictOf ds n)/\Vl w G s.heap fs ds/\(fs.map (·.1)).Nodup:=(S.obj a _ e).2
end
theorem cf(h:n<=bu):n<=sizeLine:=by rw[sizeLine_eq];show Gt ‹_› (dR rfl)
theorem lF(h:i.natAbs<=2000):Builtin.Int.intBits i<=64:=by
 unfold Builtin.Int.intBits;split
 .show Rx _
 let:i.natAbs.log2<11:=by
  rcases Nat.eq_zero_or_pos i.natAbs with h0|h0
  .rw[h0];decide
  show(Nat.log2_lt (λe=>‹¬(i== 0)=true› (RP.mpr (Int.natAbs_eq_zero.mp e)))).mpr (Gt (Rj ‹_›) (dR rfl))
 show Gt ‹_› (dR rfl)
section
variable{X:Addr->Prop}{Q:QV}{x y:V}{a b:Value}
theorem aJ.int{k:Tok}(S:ba w G U s.heap)(h:Q (.int i) U):aJ w G X U s Q (.int i k) {s with toks:=t}:=#[_,_,h,.int _ _,.toks S _]
theorem aJ.val(S:ba w G U s.heap)(h:Q x U)(r:VR s.heap x a):aJ w G X U s Q a {s with toks:=t}:=#[_,_,h,r,.toks S _]
theorem aJ.newList(S:ba w G U s.heap)(r:aY s.heap l UZ.toList)(h:∀c,U c=none->Q (.ref c) (bq U c (.list l))):
  aJ w G X U s Q (.ref s.heap.objs.size) {s with heap:=s.heap.push (seqObj "list" UZ n),toks:=t}:=
 #[_,_,h _ (S.fresh (Rm _)).2.1,.ref _,.alloc S #[UZ,n,RA _ rfl,r.keep .push]]
theorem aJ.WG(S:ba w G U s.heap){UZ:TW}(r:aY s.heap l UZ)(h:Q (.tup l) U):
  aJ w G X U s Q (.ref s.heap.objs.size) {s with heap:=s.heap.push (seqObj "tuple" UZ.toArray n),toks:=t}:=
 #[_,_,h,.tup #[n,RA _ rfl] (r.keep .push),.push S]
theorem My(S:ba w G U s.heap)(hx:VR s.heap x a)(hy:VR s.heap y b)(h:MV U Q x y):
  wpAny (model prog w) A (binaryOp .Add a b) (aJ w G X U s Q) aV s:=by
 show i3 hx h (λi t h=>iI hy h λj u h=>add_int (.int S h)) (λl t vs hi hr h=>?_) λp h=>?_
 .show iT hy h λm u ws k d h=>?_
  ·.show ao h ?_;clear h;ext hz h;let o:vs.length+ws.length<=sizeLine:=by rw[<- hr.length,<- d.length];show cf hz
    show az (id hi) λn ho=>?_;show az (id k) λn2 c=>?_;by_cases f:vs=[]
    .show concat_meets #[_,ho,rfl] #[_,c,rfl] noFill_tuple_add seq_tuple_add PySem.F.slot_tuple_add PySem.F.entry_tuple_add (PySem.F.args_tuple_add_2 _ _)
      (tuple_addW0 t u vs.toArray ws.toArray n n2 none none #[] #[] (by simp[f])) #[ho,c,?_]
     clear ho o hz hi;subst f;cases hr;show .val S h (.tup k d)
    by_cases g:ws=[]
    .show concat_meets #[_,ho,rfl] #[_,c,rfl] noFill_tuple_add seq_tuple_add PySem.F.slot_tuple_add PySem.F.entry_tuple_add (PySem.F.args_tuple_add_2 _ _)
      (tuple_addW1 t u vs.toArray ws.toArray n n2 none none #[] #[] (by simpa using f) (by simp[g])) #[ho,c,?_]
     clear c o hz k;subst g;cases d;rw[RD]at h;show .val S h (.tup hi hr)
    show concat_meets #[_,ho,rfl] #[_,c,rfl] noFill_tuple_add seq_tuple_add PySem.F.slot_tuple_add PySem.F.entry_tuple_add (PySem.F.args_tuple_add_2 _ _)
     (tuple_addW2 t u vs.toArray ws.toArray n n2 none none #[] #[] (by simpa using f) (by simpa using g) (by rw[List.size_toArray,List.size_toArray];show o)) #[ho,c,?_]
    let e:vs.toArray++ws.toArray=(vs++ws).toArray:=by simp
    rw[e];show .WG S (hr.append d) h
 show iR hy h λp2 h=>iL h λl r h=>iL h λm q h=>?_
 .show ck (S.list r) λvs n ho hr=>?_;show ck (S.list q) λws n2 c d=>?_;show ao h ?_;ext hz h;show P.add_list ho c (.newList S ?_ h) (by rw[<- SJ,<- SJ,<- hr.length,<- d.length];show cf hz);rw[Array.toList_append];show hr.append d
theorem Mj(S:ba w G U s.heap)(hx:VR s.heap x a)(hy:VR s.heap y b)(h:MJ U Q x y):
  wpAny (model prog w) A (binaryOp .Sub a b) (aJ w G X U s Q) aV s:=by
 show E0 hx hy h λi t j u h=>sub_int (.int S h)
theorem i4(v:Value):∀(k:Nat)(acc:TC),(List.foldl (λb a=>b++a) acc (List.replicate k (List.toArray [v]))).toList=acc.toList++List.replicate k v
 |0,acc=>by simp
 |k+1,acc=>by
  erw[List.replicate_succ,List.foldl_cons,i4 v k];simp[List.replicate_succ]
theorem Mq(S:ba w G U s.heap)(hx:VR s.heap x a)(hy:VR s.heap y b)(h:MO U Q x y):
  wpAny (model prog w) A (binaryOp .Mult a b) (aJ w G X U s Q) aV s:=by
 show i3 hx h (λi t h=>iI hy h λj u h=>mul_int (.int S h.2) (h.1.elim (λq=>.of_left (lF q)) λq=>.of_right (lF q))) (λ_ _ _ _ _ h=>h.elim) λl h=>?_
 .show iI hy h λj u h=>iL h λm k h=>?_
  .show ck (S.list k) λvs n ho hr=>?_;show Ci h ?_;clear h;ext v rfl h0 h1 h;let g:∃u,vs = (List.toArray [u])/\VR s.heap v u:=by
    obtain⟨vs⟩:=vs;cases hr with
    |cons r1 r2=>clear ho;cases r2;show#[_,rfl,r1]
   show aq g ?_;clear g;ext c rfl d;let f:j<=1000000:=by unfold bu at h1;show h1
   show wpAny_binaryOp_repeat_ref (dR rfl) #[_,ho,rfl] (λs'=>typeIs_int s' j u) noFill_list_mul PySem.F.fills_int_mul PySem.F.slot_int_rmul repeat_list PySem.F.slot_int_index.lookup
    (call_meets PySem.F.slot_int_rmul (typeIs_int s j u) PySem.F.entry_int_rmul (PySem.F.args_int_rmul_2 _ _) (int___rmul___int_list j u l (List.toArray [c]) n)
     #[ho,rfl,#[_,ho,rfl],call_meets PySem.F.slot_list_mul #[_,ho,rfl] PySem.F.entry_list_mul (PySem.F.args_list_mul_2 _ _)
      (AutoListH.list___mul___list_int_3 l (List.toArray [c]) n j u (by simp[Builtin.List.listFitsIndex];show#[Uh (dR rfl) h0,Int.lt_of_le_of_lt f (dR rfl)]) (by simp;show Int.le_trans f (dR rfl)) (by simp[Builtin.List.listTooLong,sizeLine];show Uh f (dR rfl)))
      #[ho,?_]])
   show aJ.newList S ?_ h;let e:(if (List.toArray [c]).isEmpty=true then 0 else j.toNat)=j.toNat:=by simp
   rw[e,i4];simpa using aY.replicate d j.toNat
theorem Kh(S:ba w G U s.heap)(hx:VR s.heap x a)(hy:VR s.heap y b)(h:Jc U Q x y):
  wpAny (model prog w) A (binaryOp .FloorDiv a b) (aJ w G X U s Q) aV s:=by
 show E0 hx hy h λi t j u h=>?_
 .show bP h ?_;clear h;show λh0 h1 h=>floordiv_int (Int.ne_of_gt h0) ?_ (.inl ?_)
  .rw[Int.fdiv_eq_ediv_of_nonneg _ (Int.le_of_lt h0)];show .int S h
  unfold Builtin.divisionGoesByPylong;let:¬((if(j== 0)=true then 0 else j.natAbs.log2 / 30+1)>300):=by
   split
   .decide
   let:j.natAbs.log2<10:=(Nat.log2_lt (λe=>Int.ne_of_gt h0 (Int.natAbs_eq_zero.mp e))).mpr (Q5 ((SU (n:=1000)).mp (by rw[Int.natAbs_of_nonneg (Int.le_of_lt h0)];show h1)) (dR rfl));show Sn.mpr (Gt (Rj (Nat.div_le_self _ _)) (Gt this (dR rfl)))
  change(decide ((if(j== 0)=true then 0 else j.natAbs.log2 / 30+1)>300)&& _)=false;rw[SC this];rfl
theorem Mr(S:ba w G U s.heap)(hx:VR s.heap x a)(hy:VR s.heap y b)(h:MP U Q x y):
  wpAny (model prog w) A (binaryOp .Mod a b) (aJ w G X U s Q) aV s:=by
 show E0 hx hy h λi t j u h=>?_
 .show bP h ?_;clear h;ext h0 h1 h;show mod_int' (Int.ne_of_gt h0) ?_;rw[Int.fmod_eq_emod_of_nonneg _ (Int.le_of_lt h0)];show .int S h
theorem zO{j:Int}(hi:0<=i)(a:0<=j):Builtin.bitAnd i j=((i.toNat&&& j.toNat:Nat):Int):=by unfold Builtin.bitAnd;rw[decide_eq_true hi,decide_eq_true a]
theorem CV{j:Int}(hi:0<=i)(a:0<=j):Builtin.bitOr i j=((i.toNat ||| j.toNat:Nat):Int):=by unfold Builtin.bitOr Builtin.bitAnd Builtin.bitNot;rw[SC (EM hi),SC (EM a)];let e1:(-(-i - 1) - 1)=i:=OP _;let e2:(-(-j - 1) - 1)=j:=OP _;rw[e1,e2];change -(-((i.toNat ||| j.toNat):Int) - 1) - 1=_;show OP _
theorem Mx(S:ba w G U s.heap)(hx:VR s.heap x a)(hy:VR s.heap y b)(h:MU U Q x y):
  wpAny (model prog w) A (binaryOp .BitOr a b) (aJ w G X U s Q) aV s:=by
 show E0 hx hy h λi t j u h=>?_
 .show bP h<|λh0 h1 h=>or_int ?_;rw[CV h0 h1];show .int S h
theorem Kk(S:ba w G U s.heap)(hx:VR s.heap x a)(hy:VR s.heap y b)(h:Je U Q x y):
  wpAny (model prog w) A (binaryOp .BitAnd a b) (aJ w G X U s Q) aV s:=by
 show E0 hx hy h λi t j u h=>?_
 .show bP h<|λh0 h1 h=>and_int ?_;rw[zO h0 h1];show .int S h
theorem Mm(S:ba w G U s.heap)(hx:VR s.heap x a)(hy:VR s.heap y b)(h:ML U Q x y):
  wpAny (model prog w) A (binaryOp .LShift a b) (aJ w G X U s Q) aV s:=by
 show E0 hx hy h λi t j u h=>?_
 .show t9 h ?_;clear h;ext c h0 h1 h;subst c;show lshift_int_small h0 (Uh h1 (dR rfl)) (dR rfl) ?_;let e:1*2 ^ j.toNat=((2 ^ j.toNat:Nat):Int):=by rw[Int.one_mul];show(Int.natCast_pow 2 _).symm
  rw[e];show .int S h
theorem Ml(S:ba w G U s.heap)(hx:VR s.heap x a)(hy:VR s.heap y b)(h:MK U Q x y):
  wpAny (model prog w) A (binaryOp .RShift a b) (aJ w G X U s Q) aV s:=by
 show E0 hx hy h λi t j u h=>?_
 .show t9 h ?_;clear h;show λh0 h1 c h=>rshift_int h1 ?_;let e:i.fdiv (2 ^ j.toNat)=((i.toNat >>> j.toNat):Int):=by
   show az (Up h0) ?_;clear h h0;ext n rfl;rw[Int.fdiv_eq_ediv_of_nonneg _ (Int.pow_nonneg (dR rfl)),Nat.shiftRight_eq_div_pow,Tj,Int.natCast_ediv,Int.natCast_pow];rfl
  rw[e];show .int S h
end
variable{sl t:Addr}{u:Tok}
theorem aY.size{m:TC}(x:aY h l m.toList):l.length=m.size:=by rw[x.length,SJ]
theorem NV(h:n<=bu):((n:Nat):Int)<2 ^ 63:=by unfold bu at h;show Int.lt_of_le_of_lt (Int.ofNat_le.mpr h) (dR rfl)
theorem IsL.list{l:Addr}(x:h.get? l=some (seqObj "list" UZ n)):h.IsList l UZ:=#[_,x,rfl,n,rfl]
section
variable{X:Addr->Prop}{Q:QV}{x y:V}{a b:Value}
theorem Mz(S:ba w G U s.heap)(hx:VR s.heap x a)(h:MW U Q x):
  wpAny (model prog w) A (call (.builtin "abs") [a]) (aJ w G X U s Q) aV s:=by
 show iI hx h λi t h=>?_
 .show call_abs_int λu tk=>?_;let e:(if i<0 then -i else i)=i.natAbs:=by
   split
   .show(Int.ofNat_natAbs_of_nonpos (Int.le_of_lt ‹_›)).symm
   show(Int.natAbs_of_nonneg (UA.mp ‹_›)).symm
  rw[e];show .int S h
theorem Mt(S:ba w G U s.heap)(hx:VR s.heap x a)(h:MR U Q x):
  wpAny (model prog w) A (call (.type "int") [a]) (aJ w G X U s Q) aV s:=by
 show i5 hx h (λb h=>call_int_bool (.int S h)) (λi t h=>call_int_int (aJ.int S h)) (λ_ _ h=>h.elim) (λ_ _ _ _ _ h=>h.elim) λ_ h=>h.elim
set_option tactic.hygienic true in
theorem uF(hz:l.length<=bu)(e:cJ l i=some v):
  -(2 ^ 63)<=i/\i<2 ^ 63/\∃j,seqIndex? i l.length=some j/\l[j]?=some v/\(0<=i->j=i.toNat)/\(i<0->-(l.length:Int)<=i/\j=(i+l.length).toNat):=by
 unfold cJ at e;split at e
 .rename_i h0
  let c:i.toNat<l.length:=by
   rcases Nat.lt_or_ge i.toNat l.length with h|h
   .show h
   rw[SG h]at e;show nS e
  let b:=Int.toNat_of_nonneg h0;show#[Uh (dR rfl) h0,b▸Sd.mpr (Rc c (Gt hz (dR rfl))),i.toNat,?_,e,λ_=>rfl,λh=>absurd h0 (Int.not_le.mpr h)];show seqIndex_of h0 (b▸Sd.mpr c)
 split at e
 .rename_i h0 h1
  clear h0 hz;subst h1;let d:l≠[]:=by ext rfl;simp at e
  let hlen:0<l.length:=by induction l with|nil=>show absurd rfl d|cons _ _=>simp
  show az (Nat.exists_eq_add_of_lt hlen) λk a=>?_;rw[S9]at a;let e1:(-1+(l.length:Int)).toNat=l.length - 1:=by rw[a,Int.natCast_succ,Int.add_comm,Int.add_neg_cancel_right];rfl
  let e2:0<=-1+(l.length:Int):=by rw[a,Int.natCast_succ,Int.add_comm,Int.add_neg_cancel_right];show Ry _
  show#[by decide,by decide,l.length - 1,?_,?_,λh=>absurd h (dR rfl),λ_=>#[Int.neg_le_neg (SU.mpr hlen),e1.symm]]
  .let:=MeetsSeq.seqIndex_neg (dR rfl) e2;rw[this,e1]
  rw[List.getLast?_eq_getElem?]at e;show e
 show nS e
theorem yK(S:ba w G U s.heap)(ht:tW s.heap t UZ)(hr:aY s.heap l UZ.toList)(hz:l.length<=bu)(e:cJ l i=some v)(h:Q v U):
  wpAny (model prog w) A (getItem (.ref t) (.int i u)) (aJ w G X U s Q) aV s:=by
 show bP (uF hz e) λh1 d f=>?_;show bS f λj b c _=>?_;show aq (hr.get c) λx hx a=>?_;rw[hr.size]at b;show getItem_tuple ht.isTup h1 d b (by rw[<- hx,RM]) (aJ.val S h a)
theorem wR(S:ba w G U s.heap)(ht:s.heap.get? t=some (seqObj "list" UZ n))(hr:aY s.heap l UZ.toList)(hz:l.length<=bu)(e:cJ l i=some v)(h:Q v U):
  wpAny (model prog w) A (getItem (.ref t) (.int i u)) (aJ w G X U s Q) aV s:=by
 show bP (uF hz e) λh1 g k=>?_;show Ci k λj f b c d=>?_;show aq (hr.get b) λx hx a=>?_;rw[RM]at hx;clear b f;rcases Int.lt_or_le i 0 with hi|hi
 .show ao (d hi) λa1 a2=>?_;clear d c;subst a2;let es:=hr.size;show wpAny_getItem_list_neg (IsL.list ht) hi (by rw[<- es];show a1) h1 (by rw[<- es];show hx) (aJ.val S h a)
 rw[c hi]at hx;show wpAny_getItem_list (IsL.list ht) hi g hx (aJ.val S h a)
theorem sj(items:TC)(b:Nat):slicePick items none (some b) none=(items.toList.take b).toArray:=by
 rcases Nat.lt_or_ge items.size b with h|h
 .rw[S4 (Rf h),Array.toArray_toList];let:=slicePick_upto items items.size (Rm _);rw[S4 (Rm items.size),Array.toArray_toList]at this;show Eq.trans ?_ this;unfold slicePick;let e:sliceBounds none (some b) none items.size=sliceBounds none (some items.size) none items.size:=by
   unfold sliceBounds;let h1:¬((b:Int)<0):=UA.mpr (Ry _);let a:¬((items.size:Int)<0):=UA.mpr (Ry _);let h3:min (b:Int) items.size=min (items.size:Int) items.size:=by rw[Int.min_eq_right (SU.mpr (Rf h)),Int.min_self]
   simp only[h1,a,if_false,Option.getD_none,h3,show((1:Int)>0) from by decide,if_true]
  rw[e]
 show slicePick_upto items b h
theorem wQ(S:ba w G U s.heap)(ht:s.heap.get? t=some (seqObj "list" UZ n))(hr:aY s.heap l UZ.toList)
  (a:s.heap.IsSliceOf sl .none (.int i u) .none) (h0:0<=i) (hz:l.length<=bu) (h:∀c,U c=none->Q (.ref c) (bq U c (.list (l.take i.toNat)))):
  wpAny (model prog w) A (getItem (.ref t) (.ref sl)) (aJ w G X U s Q) aV s:=by
 show az (Up h0) ?_;ext k rfl;show wpAny_getItem_list_slice (IsL.list ht) a .none (.int _ _) .none (by simp) ?_ (by rw[<- hr.size];show cf hz);rw[sj];show .newList S (by simpa using hr.take k) h
theorem xU(b n:Nat):Builtin.Slice.sliceAdjust none (some (b:Int)) 1 (n:Int)=(0,((min b n:Nat):Int)):=by
 change(0,(if(b:Int)<0 then max (b+(n:Int)) 0 else min b n))=_;rw[RX (UA.mpr (Ry b))];rcases Nat.le_total b n with q|q
 .rw[Uc q,Int.min_eq_left (SU.mpr q)]
 rw[Nat.min_eq_right q,Int.min_eq_right (SU.mpr q)]
theorem wT(n:Nat):Builtin.Slice.slicePlaces 0 (n:Int) 1=n:=by unfold Builtin.Slice.slicePlaces;simp;split<;>lia
theorem nN{b:Nat}{E:QS}{Q:Int×Int×Nat->Shared->Prop}(d:s.heap.IsSliceOf sl .none (.int b u) .none)(h:Q (0,1,min b n) s):
  wpAny (model prog w) A (Builtin.Slice.sliceApplied (.ref sl) (pure (n:Int))) Q E s:=by
 show bS (id d) λos a e c=>?_;show If (If (T5 a c (x:=.none) rfl (If (T5 a c (x:=.int b u) rfl (If (T5 a c (x:=.none) rfl (Q8 ?_)))))));show If (slicePart_none ?_);rw[RX (dR rfl)];show If (slicePart_none (If (slicePart_int (If (Q8 ?_)))));change wpAny _ _ (match Builtin.Slice.sliceAdjust none (some b) 1 n with|(lo,hi)=>pure (lo,(1:Int),Builtin.Slice.slicePlaces lo hi 1)) _ _ s;rw[xU b n];change wpAny _ _ (pure (0,1,Builtin.Slice.slicePlaces 0 ((min b n:Nat):Int) 1)) _ _ s;rw[wT];show Q8 h
theorem B9(xs:TC)(b:Nat):((List.range (min b xs.size)).filterMap λ(k:Nat)=>xs[((0:Int)+(k:Int)*1).toNat]?).toArray=(xs.toList.take b).toArray:=by
 let e:(λ(k:Nat)=>xs[(0+(k:Int)*1).toNat]?)=λk=>xs[0+k]?:=by
  funext k;rw[Int.zero_add,Int.mul_one,Tj,S9]
 rw[e];let:=pick_run xs 0 (min b xs.size);rw[List.filterMap_map]at this;let e2:((λx=>xs[x]?)∘λx=>0+x)=λk=>xs[0+k]?:=rfl;rw[e2]at this;rw[this,List.drop_zero];congr 1;rcases Nat.le_total b xs.size with h|h
 .rw[Uc h]
 rw[Nat.min_eq_right h,S4 (Rm xs.size),S4 h]
theorem mq{b:Nat}{E:QS}{Q:QS}(ht:IsTup s.heap t items)(g:s.heap.IsSliceOf sl .none (.int b u) .none)
  (h0:items.size<=b->Q (.ref t) s)
  (h:Q (.ref s.heap.objs.size) {s with heap:=s.heap.push {cls:=.type "tuple",data:=.seq (items.toList.take b).toArray}})
  (hsz:items.size<=sizeLine):wpAny (model prog w) A (getItem (.ref t) (.ref sl)) Q E s:=by
 let c:sizeOk (.seq (items.toList.take b).toArray):=by
  change(items.toList.take b).toArray.size<=sizeLine;rw[Ti,R7,SJ];show Gt (Um ..) hsz
 show bS (id g) λos i d j=>?_;let f:s.TypeIs (.ref sl) "slice":=#[os,i,d];show SB<|If (wpAny_sequenceKey ht.typeIs (dR rfl) ?_);show If (wpAny_callSpecial?_slot ht.typeIs slot_tuple_getitem
  (Sk slot_tuple_getitem ht.typeIs entry_tuple_getitem ?_ (args_tuple_getitem _ _)))
 change wpAny _ _ (Builtin.Tuple.tupleItemsOf (.ref t) >>= _) _ _ s;show If (tupleItemsOf_ ht ?_);show If (UM f ?_);rw[RO (dR rfl)];show If (nN g ?_);change wpAny _ _ (if((0:Int)== 0&& (1:Int)== 1&& ((min b items.size)== items.size))=true then _ else _) _ _ s;by_cases a:items.size<=b
 .rw[RO (by rw[Nat.min_eq_right a,RK,RK,RK];rfl)];show If (If (UM ht.typeIs (Q8 ?_)));rw[RO (dR rfl)];first
   |show If (TY (Q8 #[_,rfl,Q8 (h0 a)]))
   |show If (TY (If (Q8 (Q8 #[_,rfl,Q8 (h0 a)]))))
 rw[RX (λe=>a (Gt (RW (RP.mp (R8.mp e).2).symm) (SL ..))),B9 items b];first
  |show If (SN (Q8 #[_,rfl,Q8 h]) c)
  |show If (SN (If (Q8 (Q8 #[_,rfl,Q8 h]))) c)
  |show If (If (SN (Q8 (Q8 #[_,rfl,Q8 h])) c))
  |show If (If (SN (Q8 #[_,rfl,Q8 h]) c))
theorem yE(S:ba w G U s.heap)(ht:tW s.heap t UZ)(hr:aY s.heap l UZ.toList)
  (b:s.heap.IsSliceOf sl .none (.int i u) .none) (h0:0<=i) (hz:l.length<=bu) (h:Q (.tup (l.take i.toNat)) U):
  wpAny (model prog w) A (getItem (.ref t) (.ref sl)) (aJ w G X U s Q) aV s:=by
 show az (Up h0) ?_;ext k rfl;show mq ht.isTup b (λa=>?_) (.WG S (by simpa using hr.take k) h) (by rw[<- hr.size];show cf hz);rw[<- hr.size]at a;rw[Tj,S4 a]at h;show aJ.val S h (.tup (by simpa using ht) hr)
theorem yM(S:ba w G U s.heap)(ht:tW s.heap t UZ)(hr:aY s.heap l UZ.toList)
  (a:s.heap.IsSliceOf sl (.int i u) .none .none) (h0:1<=i) (h1:i<=l.length) (hz:l.length<=bu) (h:Q (.tup (l.drop i.toNat)) U):
  wpAny (model prog w) A (getItem (.ref t) (.ref sl)) (aJ w G X U s Q) aV s:=by
 show az (Up (show 0<=i by show Uh (dR rfl) h0)) ?_;ext k rfl;show getItem_tuple_from ht.isTup a (SU.mp h0) (by rw[<- hr.size];show SU.mp h1) ?_ (by rw[<- hr.size];show cf hz);show .WG S (by simpa using hr.drop k) h
theorem yF{x:Str}{t:Tok}(S:ba w G U s.heap)(a:s.heap.IsSliceOf sl .none (.int 1 u) .none)(hx:x.cps.size=1)(h:Q (.str x) U):
  wpAny (model prog w) A (getItem (.str x t) (.ref sl)) (aJ w G X U s Q) aV s:=by
 show wpAny_getItem_str_slice (l:=none) (u:=some (1,u)) (st:=none) a rfl ?_;obtain⟨⟨l⟩⟩:=x;show az (List.length_eq_one_iff.mp hx) ?_;ext c rfl
 .let e:sliceMade #[#[[c]]] t none (some (1,u)) none=.val (.str #[#[[c]]] t):=by
   unfold sliceMade;erw[RO];rfl
  rw[e];show aJ.val S h (.str _ _)
theorem D4(S:ba w G U s.heap)(hx:VR s.heap x a)(hy:VR s.heap y b)(h:AQ U Q x y):
  wpAny (model prog w) A (call (.builtin "list.append") [a,b]) (aJ w G X U s Q) aV s:=by
 show iR hx h λp h=>iL h λl c h=>?_
 ·.show ck (S.list c) λvs n ho hr=>?_;show wpAny_list_append_plain #[n,ho] (λh' e d=>?_) (by rw[<- hr.size];show cf (Rf h.1));show az e λn' f=>#[_,_,h.2,.none,Mv.update S c d λtk=>#[_,n',f,by rw[Array.toList_push];show(hr.keep tk).append (.cons (hy.keep tk) .nil)]]
theorem D3(S:ba w G U s.heap)(hx:VR s.heap x a)(hy:VR s.heap y b)(h:AO U Q x y):
  wpAny (model prog w) A (call (.builtin "list.extend") [a,b]) (aJ w G X U s Q) aV s:=by
 show iR hx h λa h=>iR hy h λb h=>iL h λl e h=>iL h λm f h=>?_
 ·.show ck (S.list e) λvs n ho hr=>?_;show ck (S.list f) λws n2 g d=>?_;show bP h ?_;ext _ hz h;let e1:=hr.size;let e2:=d.size;let c:=cf hz;show call_meets PySem.F.slot_list_extend #[_,ho,rfl] PySem.F.entry_list_extend (PySem.F.args_list_extend_2 _ _)
    (AutoSeq1.list_extend_list_list_0 a vs n b ws n2 (by simp[Builtin.List.listTooLong];ext _;rw[<- e1,<- e2];show c) (Gt (Ri _ ws.size) (by rw[<- e1,<- e2];show c)) (Tr (by rw[<- e1,<- e2];show c))) #[ho,g,?_]
   show#[_,_,h,.none,Mv.update S e (Sl ..) λtk=>#[vs++ws,_,SH _ ho rfl,by rw[Array.toList_append];show(hr.keep tk).append (d.keep tk)]]
theorem Mn(S:ba w G U s.heap)(hx:VR s.heap x a)(h:MN U Q x):
  wpAny (model prog w) A (call (.builtin "list.pop") [a]) (aJ w G X U s Q) aV s:=by
 show iR hx h λa h=>iL h λl d h=>?_
 ·.show ck (S.list d) λvs n ho hr=>ao h ?_;clear h;show λhz h=>iO h λv f h=>?_
   .let e1:=hr.size;rw[List.getLast?_eq_getElem?]at f;show aq (hr.get f) λu hu c=>?_;rw[e1,RM]at hu;let g:vs.size - 1<vs.size:=by
     rcases Nat.lt_or_ge (vs.size - 1) vs.size with q|q
     .show q
     rw[Tt q]at hu;show nS hu
    show call_meets PySem.F.slot_list_pop #[_,ho,rfl] PySem.F.entry_list_pop (PySem.F.args_list_pop_1 _) (MeetsSeq.list_pop_last a vs n u hu (by rw[<- e1];show cf hz)) #[ho,?_];let el:(vs.eraseIdxIfInBounds (vs.size - 1)).toList=vs.toList.dropLast:=by
     unfold Array.eraseIdxIfInBounds;rw[dif_pos g,Array.toList_eraseIdx,List.dropLast_eq_take,SJ,List.eraseIdx_eq_take_drop_succ,List.drop_eq_nil_of_le (by rw[SJ];show Nat.le_add_of_sub_le (Rm _)),RD]
    let mv:Mv w G X U s (bq U a (.list l.dropLast)) {s with heap:=s.heap.update a (Obj.mapSeq λxs=>xs.eraseIdxIfInBounds (vs.size - 1)),toks:=s.toks}:=
     Mv.update S d (Sl ..) λtk=>#[vs.eraseIdxIfInBounds (vs.size - 1),_,SH _ ho rfl,by rw[el];show(hr.keep tk).dropLast]
    let tk:aD s.heap (s.heap.update a (Obj.mapSeq λxs=>xs.eraseIdxIfInBounds (vs.size - 1))):=λb _ _ e=>by
     by_cases q:b=a
     .clear mv h d;subst q;rw[ho]at e;show absurd (Rs Obj.cls (Is e)) (by simp)
     show((Sl ..).2 b q).trans e
    show#[_,_,h,c.keep tk,mv]
theorem Kf(S:ba w G U s.heap){T:String}(hT:T="list"\/T="tuple")(ho:s.heap.get? t=some (seqObj T UZ n))(hr:aY s.heap l UZ.toList)
  (hz:l.length<=bu) (h:∀c,U c=none->Q (.ref c) (bq U c (.list l))):
  wpAny (model prog w) A (call (.type "list") [.ref t]) (aJ w G X U s Q) aV s:=by
 show call_list_seq t hT ho rfl rfl (λh' b a hn=>?_) (by rw[<- hr.size];show cf hz);let f:=S.fresh (Rm s.heap.objs.size);let m:Mv w G X U s U {s with heap:=h',toks:=s.toks}:=.keeps S a;show#[_,_,h _ f.2.1,.ref _,m.enter f.1 f.2.2 #[_,b,hn,hr.keep (.of_keeps a)]]
theorem Hs(S:ba w G U s.heap)(ho:s.heap.get? t=some (seqObj "list" UZ n))(hr:aY s.heap l UZ.toList)
  (hz:l.length<=bu) (h:Q (.tup l) U):
  wpAny (model prog w) A (call (.type "tuple") [.ref t]) (aJ w G X U s Q) aV s:=by
 show call_tuple_list (IsL.list ho) (λh' c=>?_) (by rw[<- hr.size];show cf hz);let a:∀b o,s.heap.get? b=some o->(h'.push {cls:=.type "tuple",data:=.seq UZ}).get? b=some o:=λb o e=>Rh _ (c b o e);show#[_,_,h,.tup #[0,?_] (hr.keep (.of_keeps a)),Mv.keeps S a];rw[Array.toArray_toList];show RA _ rfl
end
end
section
variable{A:Around}{G:Gc}{ds gs:TL}{ep i:Nat}{es:TD}{h:Heap}{k v:V}{prog:Program}{s:Shared}{u:Value}{us:TW}{w:World}{α β:Type}{κ κ':DK}{U:aw}
theorem U6.get'(r:U6 w h es ds)(e:es[i]?=some (k,v)):∃e,ds[i]?=some e/\e.hash=bX w k/\VR h k e.key/\VR h v e.val
 := by
  induction r generalizing i with
  |nil=>cases TX.symm.trans e
  |cons a b c _ d=>
    induction i with
    |zero=>cases Is e;show#[_,rfl,a,b,c]
    |succ i=>show d e
theorem U6.length(r:U6 w h es ds):es.length=ds.length:=r.rec rfl λ_ _ _ _ e=>Rs Nat.succ e
theorem U6.append{fs:TD}(r:U6 w h es ds)(y:U6 w h fs gs):U6 w h (es++fs) (ds++gs):=r.rec y λa b c _ r=>.cons a b c r
theorem U6.set(hu:VR h v u)(r:U6 w h es ds)(hn:(es.map (·.1)).Nodup)(e:∃v,es[i]?=some (k,v)):
    U6 w h (es.map λe=>if V.VI e.1 k then(e.1,v) else e) (ds.modify i λe=>{e with val:=u})
 := by
  induction r generalizing i with
  |nil=>show e.elim λ_ e=>by cases TX.symm.trans e
  |@cons k' g _ es _ a b c r d=>
   induction i with
   |zero=>
    let e:k'=k:=e.elim λ_ e=>Rs Prod.fst (Is e);clear d;subst e;rw[Sb,R9]at hn;rw[Sb,RO (V.U9.mpr rfl),List.modify_zero_cons];show .cons a b hu ?_;let:(es.map λe=>if V.VI e.1 k' then(e.1,v) else e)=es:=by
      show(Ty λe he=>?_).trans (List.map_id es);erw[RX];rfl;erw[V.U9];ext q;show hn.1 (Re.mpr #[e,he,q])
    rw[this];show r
   |succ i=>
    rw[Sb,R9]at hn;let f:k'≠k:=λq=>hn.1 (e.elim λx e=>Re.mpr #[_,Q4 e,q.symm]);rw[Sb,RX (by erw[V.U9];show f),List.modify_succ_cons];show .cons a b c (d hn.2 e)
section
variable{X:Addr->Prop}{Q:QV}{x y:V}{a b:Value}
structure j5(prog:Program)(w:World)(κ:DK)(K:Type)[DecidableEq K] where
 knd:PySem.KeyKind prog w K
 VJ:K->V
 of:∀v,κ.is v->∃k,v=VJ k
 inj:∀k l,VJ k=VJ l->k=l
 vr:∀{h:Heap}{k:K}{u:Value},VR h (VJ k) u->knd.is k u=true
 hash:∀k,bX w (VJ k)=knd.hash k
structure xY(prog:Program)(w:World)(κ:DK)(K:Type)[DecidableEq K] where
 knd:HeapKind prog w K
 VJ:K->V
 of:∀v,κ.is v->∃k,v=VJ k
 inj:∀k l,VJ k=VJ l->k=l
 vr:∀{h:Heap}{k:K}{u:Value},VR h (VJ k) u->∃a,u=.ref a/\knd.is h k a
 hash:∀k,bX w (VJ k)=knd.hash k
 room:∀A:Around,A.units+8<cLine->knd.room A
noncomputable def Io(prog:Program)(w:World):j5 prog w .i Int where
 knd:=intKind prog w
 VJ:=.int
 of:=λv a=>(by show az a λn e=>?_;clear a;show#[n,e])
 inj:=λ_ _ e=>by cases e;rfl
 vr:=λr=>by cases r;show RK _
 hash:=λ_=>rfl
noncomputable def FD(prog:Program)(w:World):j5 prog w .s Str where
 knd:=strKind prog w
 VJ:=.str
 of:=λv a=>(by show az a λn e=>?_;clear a;show#[n,e])
 inj:=λ_ _ e=>by cases e;rfl
 vr:=λr=>by cases r;show strKind_is prog w _ _
 hash:=λ_=>rfl
section
variable{K:Type}[DecidableEq K]
theorem j5.items(e:j5 prog w κ K){ks:List K}(r:aY h (ks.map e.VJ) us):PySem.ItemsAre e.knd ks us:=by
 induction ks generalizing us with
 |nil=>show Dg r λq=>q▸.nil
 |cons k ks c=>show C3 r λu us q a b=>q▸.cons (e.vr a) (c b)
theorem y4(e:j5 prog w κ K)(ks:List K):bX.VY w (ks.map e.VJ)=ks.map e.knd.hash
 := by
  induction ks with
  |nil=>rfl
  |cons k ks a=>erw[Sb,Sb,w7,e.hash,a]
theorem iH{f:α->β}(hf:∀a b,f a=f b->a=b){k l:List α}(e:k.map f=l.map f):k=l:=UK hf |>.mp e
noncomputable def Nk(e:j5 prog w κ K)(of:∀v,κ'.is v->∃ks:List K,v=.tup (ks.map e.VJ)):xY prog w κ' (List K) where
 knd:=PySem.tupleKind e.knd
 VJ:=λks=>.tup (ks.map e.VJ)
 of:=of
 inj:=λk l q=>iH e.inj (V.tup.inj q)
 vr:=λ{h k u} r=>by
  show vh r λ_ _ a hi hr=>?_;clear r;cases a
  .show az hi λn ho=>?_;clear hi;show#[_,rfl,_,_,n,ho,rfl,rfl,by simpa using e.items hr]
 hash:=λks=>by
  change reduceHash (Builtin.Tuple.tupleHashOf (bX.VY w (ks.map e.VJ)))=_;rw[y4];rfl
 room:=λA h=>Q5 (Ri _ _) h
end
noncomputable def A9(prog:Program)(w:World):xY prog w .ti (List Int):=Nk (Io prog w) λ_ a=>(by show az a λns e=>?_;clear a;show#[ns,e])
noncomputable def Jq(prog:Program)(w:World):xY prog w .ts (List Str):=Nk (FD prog w) λ_ a=>(by show az a λns e=>?_;clear a;show#[ns,e])
noncomputable def gf(es:TD)(k:V):Option Nat:=es.findIdx? λe=>V.VI e.1 k
section
variable{K:Type}[DecidableEq K]
theorem j5.keys(e:j5 prog w κ K)(r:U6 w h es ds)(c:∀x∈es,κ.is x.1):∀d∈ds,∃k,e.knd.is k d.key=true/\d.hash=e.knd.hash k:=by
 induction r with
 |nil=>show λ_ h=>n0 h
 |cons a b _ r f=>
  show λx hx=>az (e.of _ (c _ (.head _))) ?_;ext k' rfl;rcases RB.mp hx with rfl|hx
  .show#[k',e.vr b,by rw[a,e.hash]]
  show f (λx hx=>c x (.tail _ hx)) x hx
theorem j5.find(e:j5 prog w κ K){k:K}(r:U6 w h es ds)(c:∀x∈es,κ.is x.1):
    ds.findIdx? (λd=>e.knd.is k d.key)=gf es (e.VJ k)
 := by
  induction r with
  |nil=>rfl
  |@cons k' g d es ds _ b _ r f=>
    show az (e.of _ (c _ (.head _))) ?_;ext k' rfl;let a:=f (λx hx=>c x (.tail _ hx));unfold gf at a ⊢;rw[List.findIdx?_cons,List.findIdx?_cons,a];let:e.knd.is k d.key=V.VI (e.VJ k') (e.VJ k):=by
      erw[e.knd.is_eq_decide (e.vr b),UH,decide_eq_true_iff,V.U9];show#[λq=>by rw[q],λq=>(e.inj _ _ q).symm]
    rw[this]
theorem sw(e:j5 prog w κ K){d:Nat}{ds:TE}{E:QS}{Q:Option Nat->Shared->Prop}(ho:s.heap.get? d=some {cls:=.type "dict",data:=.dict ds ep})
  (hd:U6 w s.heap es ds.toList) (b:κ.is k) (a:∀x∈es,κ.is x.1) (hu:VR s.heap k u) (h:Q (gf es k) s):wpAny (model prog w) A (dictFind d u (bX w k)) Q E s:=by
 show az (e.of _ b) ?_;ext k rfl;let h1:=e.keys hd a;let c:=e.find (k:=k) hd a;rw[e.hash];show wpAny_dictFind_of (e.vr hu) ho rfl (λd hd=>h1 d (UB.mpr hd)) ?_;clear h1 hd ho;obtain⟨ds⟩:=ds;show(List.findIdx?_toArray _ _).trans c▸h
theorem xY.find(e:xY prog w κ K)(r:U6 w h es ds)(g:∀x∈es,κ.is x.1):
    ∃xs:List (K×Addr×Value),ds=xs.map (entryOfKey e.knd)/\(∀x∈xs,e.knd.is h x.1 x.2.1)/\es.map (·.1)=xs.map λx=>e.VJ x.1
 := by
  induction r with
  |nil=>show#[[],rfl,(λ_ h=>n0 h),rfl]
  |@cons _ _ d _ _ a b _ r i=>
    show az (e.of _ (g _ (.head _))) ?_;ext k' rfl;show bS (i (λx hx=>g x (.tail _ hx))) λxs h1 k h3=>aq (e.vr b) λc f j=>#[(k',c,d.val)::xs,?_,?_,?_]
    · rw[Sb,<- h1]
      obtain⟨m,l,dv⟩:=d;dsimp only at a f ⊢;erw[entryOfKey,a,f,e.hash]
    · ext x hx
      rcases RB.mp hx with rfl|hx
      · show j
      show k x hx
    rw[Sb,Sb,h3]
theorem CM{f:α->V}(k:V){xs:List α}(q:es.map (·.1)=xs.map f):gf es k=xs.findIdx? λx=>V.VI (f x) k
 := by
  let(l:TV) (h:l=xs.map f):(l.findIdx? λv=>V.VI v k)=xs.findIdx? λx=>V.VI (f x) k:=by rw[h,List.findIdx?_map];rfl
  rw[<- this _ q,List.findIdx?_map];rfl
theorem jD(e:xY prog w κ K){d:Nat}{ds:TE}{E:QS}{Q:Option Nat->Shared->Prop}(o:A.units+8<cLine)(ho:s.heap.get? d=some {cls:=.type "dict",data:=.dict ds ep})
  (hd:U6 w s.heap es ds.toList) (hn:(es.map (·.1)).Nodup) (m:κ.is k) (t:∀x∈es,κ.is x.1) (hu:VR s.heap k u) (h:Q (gf es k) s):wpAny (model prog w) A (dictFind d u (bX w k)) Q E s:=by
 show az (e.of _ m) ?_;ext k rfl;show bS (e.find hd t) λxs h1 r h3=>?_;show aq (e.vr hu) ?_;ext c rfl n;rw[e.hash];rw[CM _ h3]at h;let g:(xs.map (·.1)).Nodup:=by
  rw[h3]at hn;let:(xs.map λx=>e.VJ x.1)=(xs.map (·.1)).map e.VJ:=by rw[Su];rfl
  rw[this]at hn;show List.Pairwise.of_map e.VJ (λa b v q=>v (by rw[q])) hn
 show wpAny_dictFind_heap (e.room A o) n ho rfl h1 r g (λYW=>?_) λj p f=>?_
 .let:(xs.findIdx? λx=>V.VI (e.VJ x.1) (e.VJ k))=none:=by
   erw[List.findIdx?_eq_none_iff];ext x hx;erw[V.VQ];show λq=>az (RL.mp hx) λj f=>?_;show YW j x.2 (by rw[f,<- e.inj _ _ q])
  rw[this]at h;show h
 let:(xs.findIdx? λx=>V.VI (e.VJ x.1) (e.VJ k))=some j:=by
  show az (RC.mp f) λl he=>?_;erw[List.findIdx?_eq_some_iff_getElem];show#[l,by erw[he,V.U9],λi hi q=>?_];rw[V.U9]at q;let:=e.inj _ _ q;show absurd (idxH_unique g (i:=i) (by rw[Rg (Tf hi l),<- this]) f) (RY hi)
 rw[this]at h;show h
end
end
variable{a:Addr}{ks:TZ}{WX x y:List (List Int)}
noncomputable abbrev T1(ks:TZ):V:=.tup (ks.map .int)
noncomputable abbrev TT(WX:List (List Int)):V:=.tup (WX.map T1)
section
variable{E:QS}
theorem uB(r:VR h (T1 ks) u):∃a,u=.ref a/\IsTupleKey (intKind prog w) h ks a:=(A9 prog w).vr r
theorem JY{k l:TZ}(e:T1 k=T1 l):k=l:=iH (λ_ _ q=>V.int.inj q) (V.tup.inj e)
theorem A0(ks:TZ):bX w (T1 ks)=tupleKeyHash (intKind prog w) ks:=(A9 prog w).hash ks
theorem aY.Zn(pr:Program)(w:World)(r:aY h (x.map T1) us)(r':aY h (y.map T1) us):x=y:=by
  induction x generalizing y us with
  |nil=>show Dg r λe=>(Uo.mp (by rw[<- Lt,r'.length,e];rfl)).symm
  |cons k x g=>
   cases y with
   |nil=>show Dg r' λe=>by let:=r.length;rw[e]at this;cases this
   |cons l y=>
    show C3 r λu us e a b=>?_;subst e;show C3 r' λu' m e c d=>?_;clear r' r;show yC e ?_;clear e;ext f zd;cases f;cases zd;show aq (uB (prog:=pr) (w:=w) a) ?_;ext p rfl j;show aq (uB (prog:=pr) (w:=w) c) λq e i=>?_;cases e;rw[j.inj i,g b d]
theorem J0{xs a:TW}{c:String}{k j:Nat}(h:some (seqObj c xs.toArray k)=some (seqObj c a.toArray j)):xs=a:=by let:=Obj.mk.inj (Is h);show Rs Array.toList (Data.seq.inj this.2.2.1).1
theorem Cm{Q:Int->Shared->Prop}(hu:A.units+4<cLine)(j:VR s.heap (TT WX) (.ref a))
  (h:Q (bX w (TT WX)) {s with toks:=s.toks+((WX.map λks=>ks.length+1).sum+1)}):wpAny (model prog w) A (pyHash (.ref a)) Q E s:=by
 show vh j λ_ items e hi hr=>?_;clear j;cases e;show az hi λn ho=>?_;clear hi;let hT:s.TypeIs (.ref a) "tuple":=#[_,ho,rfl];unfold pyHash;first|show If (wpAny_cRoomFor_or (.inr (Q5 (Ri _ _) hu)) ?_)|skip
 show If (T9 hT PySem.F.slot_tuple_hash.lookup ?_);rw[RX (by rw[beq_builtin_none];show Sr)];show If (T9 hT PySem.F.slot_tuple_hash.lookup ?_);show If (wpAny_callSpecialIfBoundUnlessNone?_slot hT PySem.F.slot_tuple_hash (Sk PySem.F.slot_tuple_hash hT PySem.F.entry_tuple_hash ?_ (PySem.F.args_tuple_hash_1 _)));change wpAny _ _ (Builtin.Tuple.tupleItemsOf (.ref a) >>= _) _ _ s;show If (UI ho rfl ?_);show If ?_;rw[<- Array.forIn_toList];show wpAny_forIn_list _
  (λrest (b:Array Int) s'=>∃done left,WX=done++left/\aY s.heap (left.map T1) rest/\b.toList=done.map (λk=>bX w (T1 k))/\s'={s with toks:=s.toks+(done.map λks=>ks.length+1).sum})
  _ ?_ ?_ _ _ #[[],WX,rfl,by simpa using hr,rfl,rfl]
 .clear hr h;ext x rest b s' f;show HO f ?_;clear f;ext done left rfl g i rfl;induction left with
  |nil=>(cases g)
  |cons k left=>
   cases g with
   |cons h1 q=>
    show aq (uB (prog:=prog) (w:=w) h1) ?_;ext c rfl p;show If (wpAny_pyHash_tuple (knd:=intKind prog w) (Q5 (Rb (dR rfl) _) hu) p ?_);let fin:∀z,z=bX w (T1 k)->∃d l,done++k::left=d++l/\aY s.heap (l.map T1) rest/\(b.push z).toList=d.map (λk=>bX w (T1 k)) /\
      ({s with toks:=s.toks+(done.map λks=>ks.length+1).sum+(k.length+1)}:Shared)={s with toks:=s.toks+(d.map λks=>ks.length+1).sum}:=
     λz hz=>#[done++[k],left,by simp,q,by simp[i,hz],by simp[Nat.add_assoc]]
    first
     |show Q8 (fin _ (A0 (prog:=prog) k).symm)
     |show If (Q8 (Q8 (fin _ (A0 (prog:=prog) k).symm)))
 ext b s' f;show HO f ?_;clear f;ext done left rfl g i rfl;induction left with
 |cons k l=>(cases g)
 |nil=>
  rw[RD]at h;change wpAny _ _ (retInt (Builtin.Tuple.tupleHashOf b.toList)) _ _ _;rw[i];let o:bX w (TT done)=reduceHash (Builtin.Tuple.tupleHashOf (done.map λk=>bX w (T1 k))):=by
   change reduceHash (Builtin.Tuple.tupleHashOf (bX.VY w (done.map T1)))=_;congr 2;clear h i hr;induction done with
   |nil=>rfl
   |cons k d m=>erw[Sb,Sb,w7,m]
  rw[o]at h;show wpAny_ret_mkInt ?_;generalize r:Builtin.Tuple.tupleHashOf (done.map λk=>bX w (T1 k))=z at h ⊢;change wpAny _ _ (if(decide (-2 ^ 63<=z)&& decide (z<2 ^ 63))=true then _ else _) Q E _;unfold reduceHash at h;by_cases hr:(decide (-2 ^ 63<=z)&& decide (z<2 ^ 63))=true
  .rw[RO hr];rw[RO hr]at h;show Q8 (by simpa[Nat.add_assoc]using h)
  rw[RX hr];rw[RX hr]at h;show If (TY (Q8 (by simpa[Nat.add_assoc]using h)))
theorem vH{b:Addr}{P:Fin->Shared->Prop}(hu:A.units<cLine)(hx:VR s.heap (TT x) (.ref a))(hy:VR s.heap (TT y) (.ref b))(h:P (.done (.ret (.bool (decide (x=y))))) s):
  wpAny (model prog w) A (Builtin.«tuple.__eq__» #[[.ref a,.ref b],[]]) P E s:=by
 show vh hx λ_ xs e hi hr=>?_;cases e;show vh hy λ_ n e I z=>?_;cases e
 .show az hi λna G=>?_;clear hi;show az I λnb p=>?_;clear I;let H:s.TypeIs (.ref b) "tuple":=#[_,p,rfl];change wpAny _ _ (isInstance (.ref b) (.type "tuple") >>= _) _ _ s;show If (Ul H isSubtype_tuple_tuple ?_);show T2 rfl<|If (UI G rfl ?_);show If (UI p rfl ?_);show If<|wpAny_forIn_list _
   (λrest r s'=>r.1=none/\s'=s/\∃j d k l,rest=List.zip k l/\aY s.heap (j.map T1) k/\aY s.heap (d.map T1) l/\decide (j=d)=decide (x=y)/\(k.length== l.length)=(xs.toArray.size== n.toArray.size))
   _ ?_ ?_ _ _ #[rfl,rfl,x,y,xs,n,by simp,hr,z,rfl,by simp]
  .clear H p G z hr;ext S rest r s' c;show bP c λhr e c=>gX c λj d k l hz m g i=>?_;clear c;subst e;cases j with
   |nil=>show Dg m λe=>nC (by rw[e]at hz;show hz)
   |cons K t=>show C3 m λu D e1 h1 B=>?_;cases d with
     |nil=>show Dg g λe=>nC (by rw[e,e1]at hz;show hz)
     |cons J q=>
      show C3 g λv F e2 L C=>?_;rw[e1,e2]at hz;show yC hz λe3 e4=>?_;subst e3;show aq (uB (prog:=prog) (w:=w) h1) λc1 N Q=>aq (uB (prog:=prog) (w:=w) L) λc2 M R=>?_;change wpAny _ _ (_ >>= _) _ _ _;rw[N,M];show If (wpAny_eqBool_tuple hu Q R ?_);by_cases o:K=J
      .rw[SW o];show T2 rfl<|Q8 #[rfl,rfl,t,q,D,F,e4,B,C,?_,?_]
       .rw[<- i.1,o];show To.mpr #[λh=>by rw[h],λh=>(Te h).2]
       rw[<- i.2,e1,e2];show To.mpr #[Rs Nat.succ,Tl]
      rw[SC o];let hf:decide (x=y)=false:=by rw[<- i.1];show SC λh=>o (Te h).1
      rw[hf]at h;show wpAny_ite_true rfl<|If (Q8 (Q8 (Q8 h)))
  clear H p G z hr;ext r s' c;show bP c λhr e c=>gX c λj d k l hz m g i=>?_;clear c;subst e;cases r;cases hr;show Q8 ?_;let O:(xs.toArray.size== n.toArray.size)=decide (x=y):=by
   rw[<- i.1,<- i.2];cases j with
   |nil=>show Dg m λe=>?_;cases d with
    |nil=>show Dg g λf=>by rw[e,f];rfl
    |cons _ _=>show C3 g λ_ _ f _ _=>by rw[e,f];rfl
   |cons _ _=>show C3 m λ_ _ e _ _=>?_;cases d with
    |nil=>show Dg g λf=>by rw[e,f];rfl
    |cons _ _=>show C3 g λ_ _ f _ _=>nC (by rw[e,f]at hz;show hz.symm)
  change P (.done (.ret (.bool (xs.toArray.size== n.toArray.size)))) _;rw[O];show h
theorem wY(prog:Program)(w:World)(hx:VR h (TT x) (.ref a))(hy:VR h (TT y) (.ref a)):x=y:=
 vh hx λ_ _ e hi hr=>vh hy λ_ _ f c b=>az hi λ_ h1=>az c λ_ d=>hr.Zn prog w (J0 (h1.symm.trans (Value.ref.inj (e.symm.trans f)▸d))▸b)
theorem HP{b:Addr}{Q:Bool->Shared->Prop}(hu:A.units+4<cLine)(hx:VR s.heap (TT x) (.ref a))(hy:VR s.heap (TT y) (.ref b))(h:Q (decide (x=y)) s):
  wpAny (model prog w) A (eqBool (.ref a) (.ref b)) Q E s:=by
 unfold eqBool;try with_reducible show SB ?_
 by_cases c:(Value.ref a== Value.ref b)=true
 .rw[RO c];let e:a=b:=Value.ref.inj (eq_of_beq c);let:x=y:=wY prog w hx (e▸hy);rw[SW this]at h;show If (TY (Q8 h))
 rw[RX c];let d:s.TypeIs (.ref a) "tuple":=vh hx λ_ _ e hi _=>az hi λ_ h=>(Value.ref.inj e)▸#[_,h,rfl];let f:s.TypeIs (.ref b) "tuple":=vh hy λ_ _ e hi _=>az hi λ_ h=>(Value.ref.inj e)▸#[_,h,rfl];show If (T3 d f PySem.F.slot_tuple_eq
  (Sk PySem.F.slot_tuple_eq d PySem.F.entry_tuple_eq (vH (by simp only;(show Q5 (Rb ?_ _) ‹_›;decide)) hx hy #[_,rfl,(λe=>(by cases e)),Th h]) (PySem.F.args_tuple_eq_2 _ _)) ((Q5 (Ri _ _) hu)))
theorem D6(n:Nat){Q:Bool->Shared->Prop}(g:VR s.heap (T1 ks) (.ref a))(h:Q true s):wpAny (model prog w) A (eqIsQuiet (n+1) (.ref a)) Q E s:=by
 show vh g λ_ us e hi hr=>?_;clear g;cases e
 .show az hi λ_ ho=>?_;clear hi;let hT:s.TypeIs (.ref a) "tuple":=#[_,ho,rfl];unfold eqIsQuiet;show If (T9 hT PySem.F.slot_tuple_eq.lookup ?_);show If (Ul hT isSubtype_tuple_tuple ?_);show T2 rfl<|If (UN ho rfl ?_);show If ?_;rw[<- Array.forIn_toList];show wpAny_forIn_list _ (λrest r s'=>r.1=none/\s'=s/\∃l:List Int,aY s.heap (l.map .int) rest) _ ?_ ?_ _ _ #[rfl,rfl,ks,hr]
  .clear hT ho hr;ext v rest r s' d;show bP d ?_;clear d;ext hr rfl j;show az j λl f=>?_;clear j;cases l with
   |nil=>(cases f)
   |cons i l=>cases f with
    |cons a b=>
     rw[eqIsQuiet_byValue _ (by cases a;rfl)];show If (Q8 ?_);show T2 rfl<|Q8 #[rfl,rfl,l,b]
  ext⟨r1,r2⟩ s' ⟨c,rfl,_⟩;obtain rfl:r1=none:=c;show Q8 h
theorem D5(n:Nat){Q:Bool->Shared->Prop}(j:VR s.heap (TT WX) (.ref a))(h:Q true s):wpAny (model prog w) A (eqIsQuiet (n+2) (.ref a)) Q E s:=by
 show vh j λ_ us e hi hr=>?_;clear j;cases e
 .show az hi λ_ ho=>?_;clear hi;let hT:s.TypeIs (.ref a) "tuple":=#[_,ho,rfl];unfold eqIsQuiet;show If (T9 hT PySem.F.slot_tuple_eq.lookup ?_);show If (Ul hT isSubtype_tuple_tuple ?_);show T2 rfl ?_;show If (UN ho rfl ?_);show If ?_;rw[<- Array.forIn_toList];show wpAny_forIn_list _ (λrest r s'=>r.1=none/\s'=s/\∃l:List (List Int),aY s.heap (l.map T1) rest) _ ?_ ?_ _ _ #[rfl,rfl,WX,hr]
  .clear hT ho hr;ext v rest r s' f;show bP f ?_;clear f;ext hr rfl k;show az k λl g=>?_;clear k;induction l with
   |nil=>(cases g)
   |cons i l=>cases g with
    |cons a b=>
     show aq (uB (prog:=prog) (w:=w) a) ?_;ext c rfl _;show If (D6 n a ?_);show T2 rfl<|Q8 #[rfl,rfl,l,b]
  ext⟨r1,r2⟩ s' ⟨d,rfl,_⟩;obtain rfl:r1=none:=d;show Q8 h
end
noncomputable def EL(prog:Program)(w:World):HeapKind prog w (List (List Int)) where
 is:=λh WX a=>VR h (TT WX) (.ref a)
 hash:=λWX=>bX w (TT WX)
 draws:=λWX=>(WX.map λks=>ks.length+1).sum+1
 room:=λA=>A.units+4<cLine
 inj:=λhx hy=>wY prog w hx hy
 keeps:=λ{h h' k a d o es ep} x ho hd f=>x.keep λb _ _ c=>by
  by_cases q:b=d
  .subst q;rw[ho]at c;replace c:=Is c;cases c;cases hd
  show(f.2 b q).trans c
 pyHash:=λhu e h=>Cm hu e h
 eqBool:=λhu hx hy h=>HP hu hx hy h
 quiet:=λe h=>D5 6 e h
noncomputable def FC(prog:Program)(w:World):xY prog w .tt (List (List Int)) where
 knd:=EL prog w
 VJ:=TT
 of:=λ_ a=>(by show az a λk e=>?_;clear a;show#[k,e])
 inj:=λ_ _ q=>iH (λ_ _ e=>JY e) (V.tup.inj q)
 vr:=λr=>vh r λ_ _ e hi hr=>#[_,e,.tup hi hr]
 hash:=λ_=>rfl
 room:=λA h=>by change A.units+4<cLine;(show Q5 (Rb ?_ _) ‹_›;decide)
variable{d:Nat}{ds:TE}
theorem iP(h:gf es k=some i):∃v,es[i]?=some (k,v)/\fP es k=some v:=by
 unfold gf at h;unfold fP;rw[List.findIdx?_eq_some_iff_getElem]at h;show aq h λa he c=>?_;rw[V.U9]at he;show#[es[i].2,?_,?_]
 .rw[Rg a,<- he]
 let:es.find? (λe=>V.VI e.1 k)=some es[i]:=by
  erw[List.find?_eq_some_iff_getElem];show#[V.U9.mpr he,i,a,rfl,λj b=>by erw[SA,Bool.eq_false_iff];show c j b]
 rw[this];rfl
theorem iQ(h:gf es k=none):fP es k=none/\iN es k=false/\k∉es.map (·.1):=by
 unfold gf at h;rw[List.findIdx?_eq_none_iff]at h;show#[?_,?_,?_]
 .unfold fP;rw[List.find?_eq_none.mpr λx hx=>by rw[h x hx];show Sr];rfl
 .unfold iN;erw[List.any_eq_false];ext x hx;rw[h x hx];show Sr
 show λa=>aq (Re.mp a) λx hx e=>?_;let:=h x hx;rw[V.VQ]at this;show this e
theorem Nn:iN es k=true↔k∈es.map (·.1):=by unfold iN;erw[List.any_eq_true,Re];show#[(by ext a;show aq a λx h e=>#[x,h,V.U9.mp e]),(by ext a;show aq a λx h e=>#[x,h,V.U9.mpr e])]
theorem uS:iN es k=(fP es k).isSome:=by
 cases h:gf es k with
 |none=>show bP (iQ h) λa b _=>?_;rw[a,b];rfl
 |some i=>
  show aq (iP h) λv a b=>?_;rw[b,Nn.mpr (Re.mpr #[_,Q4 a,rfl])];rfl
set_option tactic.hygienic true in
theorem uQ(hn:(es.map (·.1)).Nodup):((eG es k v).map (·.1)).Nodup:=by
 unfold eG;split
 .rw[Su];let:((λe:V×V=>e.1)∘λe=>if V.VI e.1 k then(e.1,v) else e)=λe=>e.1:=by funext e;simp only[Function.comp];split<;>rfl
  rw[this];show hn
 rename_i h
 erw[Rd,R3];show#[hn,by simp,λa d b c=>?_];simp at c;subst c;ext rfl;show h (Nn.mpr d)
theorem xo:(eG es k v).length<=es.length+1:=by unfold eG;split<;>simp
noncomputable def PU(h:Heap):Option V->Option Value->Prop
 |some v,some u=>VR h v u
 |none,none=>True
 |_,_=>False
section
variable{X:Addr->Prop}{Q:QV}{x y:V}{a b:Value}
theorem yL{E:QS}{Q:Int->Shared->Prop}(d:A.units+8<cLine)(a:κ.is k)(hu:VR s.heap k u)(h:∀t,Q (bX w k) {s with toks:=t}):wpAny (model prog w) A (pyHash u) Q E s:=by
 let val:∀{K:Type}[DecidableEq K](e:j5 prog w κ K),wpAny (model prog w) A (pyHash u) Q E s:=λe=>by
  show az (e.of _ a) ?_;ext k' rfl;show e.knd.pyHash (e.vr hu) (e.hash k'▸h _)
 let obj:∀{K:Type}[DecidableEq K](e:xY prog w κ K),wpAny (model prog w) A (pyHash u) Q E s:=λe=>by
  show az (e.of _ a) ?_;clear val;ext k' rfl;show aq (e.vr hu) ?_;ext c rfl b;show e.knd.pyHash (e.room A d) b (e.hash k'▸h _)
 cases κ
 .show val (Io prog w)
 .show val (FD prog w)
 .show obj (A9 prog w)
 .show obj (Jq prog w)
 show obj (FC prog w)
theorem yN{E:QS}{Q:Option Nat->Shared->Prop}(b:A.units+8<cLine)(ho:s.heap.get? d=some {cls:=.type "dict",data:=.dict ds ep})
  (hd:U6 w s.heap es ds.toList) (hn:(es.map (·.1)).Nodup) (c:c6 es k) (hu:VR s.heap k u) (h:Q (gf es k) s):wpAny (model prog w) A (dictFind d u (bX w k)) Q E s:=by
 show aq c λκ h1 a=>?_;cases κ
 .show sw (Io prog w) ho hd h1 a hu h
 .show sw (FD prog w) ho hd h1 a hu h
 .show jD (A9 prog w) b ho hd hn h1 a hu h
 .show jD (Jq prog w) b ho hd hn h1 a hu h
 show jD (FC prog w) b ho hd hn h1 a hu h
theorem ph{E:QS}{Q:Option Value->Shared->Prop}(b:A.units+8<cLine)(ho:s.heap.get? d=some {cls:=.type "dict",data:=.dict ds ep})
  (hd:U6 w s.heap es ds.toList) (hn:(es.map (·.1)).Nodup) (a:c6 es k) (hu:VR s.heap k u) (h:∀r t,PU s.heap (fP es k) r->Q r {s with toks:=t}):wpAny (model prog w) A (dictGet d u) Q E s:=by
 let f:=a;show aq f λκ h1 _=>?_;unfold dictGet;try with_reducible show SB<|If (yL b h1 hu λt=>?_)
 show If (yN b ho hd hn a hu ?_);cases hf:gf es k with
 |none=>show Q8 (h _ t (by rw[(iQ hf).1];show trivial))
 |some i=>
  show aq (iP hf) λv e1 e2=>?_;show Ci (hd.get' e1) λe he _ _ c=>?_;show If (UO ho rfl ?_);show Q8 (h _ t ?_);rw[e2,<- RM,he];show c
theorem pg{x:Value}{E:QS}{Q:Unit->Shared->Prop}(b:A.units+8<cLine)(ho:s.heap.get? d=some {cls:=.type "dict",data:=.dict ds ep})
  (hd:U6 w s.heap es ds.toList) (hn:(es.map (·.1)).Nodup) (a:c6 es k) (hu:VR s.heap k u) (hx:VR s.heap v x) (hz:es.length<bu)
  (h:∀h' t c,Heap.SameBut d s.heap h'->h'.get? d=some {cls:=.type "dict",data:=.dict c (if iN es k then ep else ep+1)}->U6 w s.heap (eG es k v) c.toList->Q () {s with heap:=h',toks:=t}):
  wpAny (model prog w) A (dictSet d u x) Q E s:=by
 let j:=a;show aq j λκ h1 _=>?_;let g:ds.size<=sizeLine:=by rw[<- SJ,<- hd.length];show cf (Rf hz)
 unfold dictSet;try with_reducible show SB<|If (yL b h1 hu λt=>?_)
 unfold dictSetHashed;try with_reducible show SB<|If (yN b ho hd hn a hu ?_)
 cases hf:gf es k with
 |none=>
  show bP (iQ hf) λ_ e2 _=>?_;show If (TY (wpAny_updateDictKeys (hz:=g) (hf:=by simp) ho rfl ?_));show h _ t (ds.push #[bX w k,u,x]) (Sl ..) ?_ ?_
  .rw[e2];show SH _ ho rfl
  unfold eG;rw[e2,Array.toList_push];show hd.append (.cons rfl hu hx .nil)
 |some i=>
  show aq (iP hf) λf e1 e2=>?_;let e3:iN es k=true:=by rw[uS,e2];rfl
  show If (TY (If (wpAny_updateDict ho rfl (wpAny_point ?_))));show h _ t (ds.modify i λe=>{e with val:=x}) (Sl ..) ?_ ?_
  .rw[e3];show SH _ ho rfl
  unfold eG;rw[e3,Array.toList_modify];show hd.set hx hn #[f,e1]
theorem sv(f:A.units+10<cLine)(S:ba w G U s.heap)(hd:U d=some (.dict es ep))(hu:VR s.heap k u)(e:c6 es k)(c:fP es k=some v)(h:Q v U):
  wpAny (model prog w) A (getItem (.ref d) u) (aJ w G X U s Q) aV s:=by
 show bS (S.dict hd) λds ho hr hn=>?_;let hT:s.TypeIs (.ref d) "dict":=#[_,ho,rfl];unfold getItem;try with_reducible show SB<|If (wpAny_sequenceKey hT (dR rfl) ?_)
 show If (wpAny_callSpecial?_slot hT slot_dict_getitem
  (Sk slot_dict_getitem hT entry_dict_getitem ?_ (args_dict_getitem _ _)))
 change wpAny _ _ (dictGet d u >>= _) _ _ s;show If (ph (Q5 (Rb (dR rfl:9<=10) A.units) f) ho hr hn e hu λr t a=>?_);rw[c]at a;induction r with
 |none=>show a.elim
 |some b=>show Q8 #[b,rfl,Q8 (.val S h a)]
theorem sr(e:A.units+10<cLine)(S:ba w G U s.heap){x:Value}{Q:aw->Prop}(hd:U d=some (.dict es ep))(hu:VR s.heap k u)(hx:VR s.heap v x)(b:c6 es k)(hz:es.length<bu)
  (h:Q (bq U d (.dict (eG es k v) (if iN es k then ep else ep+1)))):
  wpAny (model prog w) A (setItem (.ref d) u x) (u5 w G X U s Q) aV s:=by
 show bS (S.dict hd) λds ho hr hn=>?_;let hT:s.TypeIs (.ref d) "dict":=#[_,ho,rfl];unfold setItem;try with_reducible show SB<|If (wpAny_sequenceKey hT (dR rfl) ?_)
 show If (wpAny_callSpecial?_slot hT slot_dict_setitem
  (Sk slot_dict_setitem hT entry_dict_setitem ?_ (args_dict_setitem _ _ _)))
 show If (UU hT ?_);change wpAny _ _ (dictSet d u x >>= _) _ _ s;show If (pg (Q5 (Rb (dR rfl:9<=10) A.units) e) ho hr hn b hu hx hz λh' t f a c g=>Q8 #[.none,rfl,Q8 ?_]);show#[_,h,Mv.update S hd a λtk=>#[f,c,g.keep tk,uQ hn]]
end
end
section
variable{A:Around}{G:Gc}{ds:TL}{ep t:Nat}{es:TD}{h:Heap}{l:TV}{prog:Program}{s:Shared}{u:Value}{us:TC}{v:V}{w:World}{κ:DK}{U:aw}{φ:FK}
theorem V.V7{m:TV}:V.Vw l m=true↔l=m:=by unfold V.Vw;show @decide_eq_true_iff _ (Classical.propDecidable _)
noncomputable def mV:Value->V
 |.int i _=>.int i
 |.str s _=>.str s
 |_=>.none
theorem kL(a:φ.is v)(r:VR h v u):mV u=v:=by cases φ<;>(obtain⟨n,rfl⟩:=a;cases r;rfl)
theorem dL{us:TW}(b:φ.all l)(r:aY h l us):us.map mV=l:=
 r.ind (P:=λl us=>φ.all l->us.map mV=l) (λ_=>rfl) (λa _ c b=>by rw[Sb,kL (b _ (.head _)) a,c (λx hx=>b x (.tail _ hx))]) b
theorem Im{i j:Int}:V.VI (.int i) (.int j)=(i== j):=by erw[UH,V.U9,RP];show#[V.int.inj,λe=>by rw[e]]
theorem Il{i j:Str}:V.VI (.str i) (.str j)=(i== j):=by erw[UH,V.U9,RP];show#[V.str.inj,λe=>by rw[e]]
theorem eI{x y:V}{a b:Value}(hx:φ.is x)(hy:φ.is y)(d:VR h x a)(c:VR h y b):SeqAt.EqAt A s a b (V.VI x y):=by
 cases φ
 .show az hx ?_;clear hx;ext i rfl;show az hy ?_;clear hy;ext j rfl;cases d;cases c;rw[Im];show(MeetsSeq.EqGives.int _ _ _ _).at A s
 show az hx ?_;clear hx;ext i rfl;show az hy ?_;clear hy;ext j rfl;cases d;cases c;rw[Il];show λ_ _ _ _ e=>eqBool_str e
theorem Bw{x:V}(h:us.toList.map mV=l):us.any (λu=>V.VI (mV u) x)=l.any λv=>V.VI v x:=by rw[<- h,List.any_map,<- Array.any_toList];rfl
theorem Bx{ws:TC}{m:TV}(h:us.toList.map mV=l)(k:ws.toList.map mV=m):
  ((List.range (min us.size ws.size)).all (λj=>V.VI (mV (us.getD j .none)) (mV (ws.getD j .none)))&& us.size== ws.size)=V.Vw l m:=by
 subst h k;erw[UH,V.V7,Bool.and_eq_true,S5,RP];constructor
 .ext c;show ao c λh1 b=>?_;clear c;show Ug λj=>?_;rw[RF,RF,RM,RM];rcases Nat.lt_or_ge j us.size with a|a
  .let:=h1 j (SY.mpr (Nat.lt_min.mpr #[a,b▸a]));rw[V.U9]at this;rw[TH a,TH (b▸a)];simpa[Array.getD,a,b▸a]using this
  rw[Tt a,Tt (b▸a)]
 ext e;let d:us.size=ws.size:=by simpa using Rs List.length e
 show#[λj a=>?_,d];rw[SY]at a;erw[V.U9];let h1:j<us.size:=Rc a (SL _ _);let b:j<ws.size:=Rc a (Um _ _);let:=Rs (·[j]?) e;simpa[Array.getD,h1,b]using this
theorem Aw{s t:Str}:(s.cps.toList== t.cps.toList)=(s== t):=by erw[UH,RP,RP];show#[λh=>by cases s;cases t;show Rs Str.mk (Array.toList_inj.mp h),λe=>by rw[e]]
def CB(s:Shared)(Q:Bool->Prop)(v:Value)(s':Shared):Prop:=∃b t,v=.bool b/\Q b/\s'={s with toks:=t}
section
variable{Q:Bool->Prop}{x y:V}{a b:Value}
theorem CB.mk{c:Bool}(h:Q c):CB s Q (.bool c) s:=#[c,s.toks,rfl,h,rfl]
theorem CB.mk'{c:Bool}(h:Q c):CB s Q (.bool c) {s with toks:=t}:=#[c,t,rfl,h,rfl]
theorem Ph(φ:FK)(l:TV)(a:φ.all l)(r:aY h l us.toList):us.toList.map mV=l:=dL a r
theorem th{m:TV}{ws:TC}(e:φ.all l)(d:φ.all m)(r:aY s.heap l us.toList)(q:aY s.heap m ws.toList):
  ∀(j:Nat)(h1:j<us.size)(a:j<ws.size),SeqAt.EqAt A s us[j] ws[j] (V.VI (mV (us.getD j .none)) (mV (ws.getD j .none))):=λj h1 a=>by
 show aq (r.get' (i:=j) (by rw[RM,TH h1])) λv e1 r1=>?_;show aq (q.get' (by rw[RM,TH a])) λv' e2 r2=>?_;let c:=e v (Q4 e1);let b:=d v' (Q4 e2);let g1:us.getD j .none=us[j]:=by simp[Array.getD,h1]
 let g2:ws.getD j .none=ws[j]:=by simp[Array.getD,a]
 rw[g1,g2,kL c r1,kL b r2];show eI c b r1 r2
theorem j5.pairs{K:Type}[DecidableEq K](e:j5 prog w κ K)(r:U6 w h es ds)(c:∀x∈es,κ.is x.1):
    ∃a:List (K×Value),Pairs e.knd ds a/\a.map (λx=>e.VJ x.1)=es.map (·.1)
 := by
  induction r with
  |nil=>show#[[],.nil,rfl]
  |@cons _ _ d _ _ _ b _ r f=>
    show az (e.of _ (c _ (.head _))) ?_;ext k' rfl;show aq (f (λx hx=>c x (.tail _ hx))) λa h1 g=>#[(k',d.val)::a,.cons (e.vr b) rfl h1,by rw[Sb,Sb,g]]
theorem j5.dictOf{K:Type}[DecidableEq K](e:j5 prog w κ K){c:Nat}{ds:TE}(ho:h.get? c=some {cls:=.type "dict",data:=.dict ds ep})(hd:U6 w h es ds.toList)
  (hn:(es.map (·.1)).Nodup) (i:∀x∈es,κ.is x.1):∃f,h.DictOf e.knd c f/\f.length=es.length:=by
 show aq (e.pairs hd i) λf h1 g=>?_;let h3:=e.keys hd i
 .show#[f,#[_,ds,ep,ho,#[rfl,rfl,rfl],rfl,λd hd=>h3 d (UB.mpr hd),h1,?_],by simpa using Rs List.length g];rw[<- g]at hn;let:(f.map λx=>e.VJ x.1)=(f.map (·.1)).map e.VJ:=by rw[Su];rfl
  rw[this]at hn;show List.Pairwise.of_map e.VJ (λa b j q=>j (by rw[q])) hn
theorem OG(D:A.units+10<cLine)(J:∀a o,U a=some o->(a== sysModules)=false)(S:ba w G U s.heap)(hx:VR s.heap x a)(hy:VR s.heap y b)(h:OJ U x y Q):wpAny (model prog w) A (compareOp .Eq a b) (CB s Q) aV s:=by
 show i5 hx h (λb h=>iB hy h λc h=>eq_bool (.mk h)) (λi t h=>iI hy h λj u h=>eq_int (.mk h)) (λx t h=>iS hy h λy u h=>P.eq_str (.mk (Aw▸h))) (λl t us hi hr h=>?_) λp h=>?_
 .show iT hy h λm u ws M d h=>?_
  .show ao h ?_;clear h;ext N;show aq N λφ h1 f=>?_;ext h;show az hi λn ho=>az M λn2 g=>?_;rw[<- Bx (dL h1 (by simpa using hr)) (dL f (by simpa using d))]at h;show T3 (op:=.Eq) #[_,ho,rfl] #[_,g,rfl] PySem.F.slot_tuple_eq
    (call_meets PySem.F.slot_tuple_eq #[_,ho,rfl] PySem.F.entry_tuple_eq (PySem.F.args_tuple_eq_2 _ _)
     (SeqAt.tuple_eqAt _ _ _ _ n n2 none none #[] #[] _) #[ho,g,th h1 f (by simpa using hr) (by simpa using d),#[(λe=>by cases e),.mk h]]) (Q5 (Ri _ _) D)
 show iR hy h λq h=>H8 h (λl z h=>iL h λm k h=>?_) λes e1 z h=>iD h λfs e2 k h=>?_
 .show ck (S.list z) λus n ho hr=>?_;show ck (S.list k) λws n2 g d=>ao h ?_;clear h;show λh0 h=>T3 (op:=.Eq) #[_,ho,rfl] #[_,g,rfl] PySem.F.slot_list_eq ?_ (Q5 (Ri _ _) D);by_cases hz:us.size=ws.size
  .let I:∃φ:FK,φ.all l/\φ.all m:=by
    let e1:=hr.size;let e2:=d.size;clear h d hr k z;clear h;rcases h0 with rfl|rfl|h0
    .show#[.i,(λ_ h=>by show n0 h),λv B=>by cases m with|nil=>show n0 B|cons _ _=>simp at e1 e2;show absurd (e1.trans (hz.trans e2.symm)) (Nat.succ_ne_zero _).symm]
    .show#[.i,(λv B=>by cases l with|nil=>show n0 B|cons _ _=>simp at e1 e2;show absurd (e2.trans (hz.symm.trans e1.symm)) (Nat.succ_ne_zero _).symm),(λ_ h=>by show n0 h)]
    show h0
   show aq I λφ h1 f=>?_;clear I;rw[<- Bx (dL h1 hr) (dL f d),hz,Nat.min_self,RK,Bool.and_true,<- hz]at h;show call_meets PySem.F.slot_list_eq #[_,ho,rfl] PySem.F.entry_list_eq (PySem.F.args_list_eq_2 _ _)
    (SeqAt.list_eqAt _ _ _ _ n n2 none none #[] #[] hz _) #[ho,g,th h1 f hr d,#[(λe=>by cases e),.mk h]]
  let:V.Vw l m=false:=by
   erw[<- Uq,V.V7];clear h h0 k;ext rfl;show hz (hr.size.symm.trans d.size)
  rw[this]at h;show call_meets PySem.F.slot_list_eq #[_,ho,rfl] PySem.F.entry_list_eq (PySem.F.args_list_eq_2 _ _)
   (SeqAt.list_eq_lengthsAt _ _ _ _ n n2 none none #[] #[] (by simpa using hz)) #[ho,g,#[(λe=>by cases e),.mk h]]
 show bP h ?_;clear h;clear h;ext h0 H;show bS H λκ O h1 f=>?_;clear H;ext h;show bS (S.dict z) λds ho hr hn=>?_;show bS (S.dict k) λgs g d C=>?_;let fin:∀{K:Type}[DecidableEq K](e:j5 prog w κ K),wpAny (model prog w) A (compareOp .Eq (.ref p) (.ref q)) (CB s Q) aV s:=λe=>by
  show aq (e.dictOf ho hr hn h1) λL d1 l1=>?_;show aq (e.dictOf g d C f) λk2 d2 l2=>?_;show keq_eq (r:=true) (J p _ z) (J q _ k) d1 d2 (Q5 (Ri _ _) D) (λE=>?_) ?_
  .let:L=[]:=by
    rcases h0 with rfl|rfl
    .show Uo.mp l1
    show Uo.mp (E.trans l2)
   clear E l1 d1;subst this;show .nil
  rw[l1,l2,Bool.and_true];show .mk h
 clear f h1;rcases O with rfl|rfl
 .show fin (Io prog w)
 show fin (FD prog w)
theorem OD(r:A.units+10<cLine)(S:ba w G U s.heap)(hx:VR s.heap x a)(hy:VR s.heap y b)(h:Qb U x y Q):wpAny (model prog w) A (compareOp .NotEq a b) (CB s Q) aV s:=by
 show i5 hx h (λb h=>iB hy h λc h=>ne_bool (.mk h)) (λi t h=>iI hy h λj u h=>ne_int (.mk h)) (λx t h=>iS hy h λy u h=>P.ne_str (.mk (by simpa only[bne,Aw]using h))) (λ_ _ _ _ _ h=>h.elim) λp h=>?_
 .show iR hy h λq h=>iL h λl g h=>iL h λm f h=>?_
  .show ck (S.list g) λus n ho hr=>?_;show ck (S.list f) λws n2 k d=>ao h ?_;clear h;show λh0 h=>T3 (op:=.NotEq) #[_,ho,rfl] #[_,k,rfl] PySem.F.slot_list_ne ?_ (Q5 (Ri _ _) r);by_cases hz:us.size=ws.size
   .let e1:=hr.size;let e2:=d.size;let o:l=[]/\m=[]:=by
     clear h d hr f g;rcases h0 with rfl|rfl
     .show#[rfl,by induction m with|nil=>rfl|cons _ _=>simp at e1 e2;show absurd (e1.trans (hz.trans e2.symm)) (Nat.succ_ne_zero _).symm]
     show#[by induction l with|nil=>rfl|cons _ _=>simp at e1 e2;show absurd (e2.trans (hz.symm.trans e1.symm)) (Nat.succ_ne_zero _).symm,rfl]
    show ao o ?_;clear o;clear h0;clear d hr f g;ext rfl rfl;rw[V.V7.mpr rfl]at h;simp only[List.length_nil]at e1 e2;show call_meets PySem.F.slot_list_ne #[_,ho,rfl] PySem.F.entry_list_ne (PySem.F.args_list_ne_2 _ _)
     (SeqAt.list_neAt _ _ _ _ n n2 none none #[] #[] hz λ_=>true) #[ho,k,λj h1=>absurd h1 (e1▸SV _),#[(λe=>by cases e),?_]]
    rw[<- e1];show .mk h
   let:V.Vw l m=false:=by
    erw[<- Uq,V.V7];clear h h0 f;ext rfl;show hz (hr.size.symm.trans d.size)
   rw[this]at h;show call_meets PySem.F.slot_list_ne #[_,ho,rfl] PySem.F.entry_list_ne (PySem.F.args_list_ne_2 _ _)
    (SeqAt.list_ne_lengthsAt _ _ _ _ n n2 none none #[] #[] (by simpa using hz)) #[ho,k,#[(λe=>by cases e),.mk h]]
theorem sA(k:A.units+14<cLine)(m:∀a o,U a=some o->(a== sysModules)=false)(S:ba w G U s.heap)(hx:VR s.heap x a)(hy:VR s.heap y b)(h:MS U x y Q)(ns:∀t u,b≠.str t u):
  wpAny (model prog w) A (contains b a) (λc s'=>∃t,Q c/\s'={s with toks:=t}) aV s:=by
 show i5 hy h (λ_ h=>h.elim) (λ_ _ h=>h.elim) (λ_ _ _ ns=>absurd rfl (ns _ _)) (λl t us hi hr h _=>?_) (λp h _=>?_) ns
 ·.show ao h ?_;ext q;show aq q λφ h1 d=>?_;ext h;show az hi λn ho=>?_;let e:aY s.heap l us.toArray.toList:=by simpa using hr
   rw[<- Bw (dL d e)]at h;show contains_slot #[_,ho,rfl] PySem.F.slot_tuple_contains (call_meets PySem.F.slot_tuple_contains #[_,ho,rfl] PySem.F.entry_tuple_contains (PySem.F.args_tuple_contains_2 _ _)
    (SeqAt.tuple_containsAt _ _ n none #[] _ _) #[ho,λu hu=>?_,Th #[_,h,rfl]])
   show aq (e.all u (UB.mpr hu)) λv f r=>?_;rw[kL (d v f) r];show eI (d v f) h1 r hx
 show H8 h (λl g h=>?_) λes ep g h=>?_
 .show ck (S.list g) λus n ho hr=>?_;show ao h ?_;ext z;show aq z λφ h1 d=>?_;ext h;rw[<- Bw (dL d hr)]at h;show contains_slot #[_,ho,rfl] PySem.F.slot_list_contains (call_meets PySem.F.slot_list_contains #[_,ho,rfl] PySem.F.entry_list_contains (PySem.F.args_list_contains_2 _ _)
   (SeqAt.list_containsAt _ _ n none #[] _ _) #[ho,λu hu=>?_,Th #[_,h,rfl]])
  show aq (hr.all u (UB.mpr hu)) λv f r=>?_;rw[kL (d v f) r];show eI (d v f) h1 r hx
 show bS (S.dict g) λds ho hr hn=>?_;show ao h ?_;ext j h;let hT:s.TypeIs (.ref p) "dict":=#[_,ho,rfl];show contains_slot hT slot_dict_contains (Sk slot_dict_contains hT entry_dict_contains ?_ (args_dict_contains _ _));change wpAny _ _ (dictGet p a >>= _) _ _ s;show If (ph (by simp only;show Q5 (Rb (by decide:9<=14) A.units) k) ho hr hn j hx λr t e=>?_);rw[uS]at h;cases i:fP es x with
 |some v=>
  rw[i]at h e;induction r with
  |none=>show e.elim
  |some u=>show Q8 #[_,rfl,Th #[t,h,rfl]]
 |none=>
  rw[i]at h e;induction r with
  |some u=>show e.elim
  |none=>show If (wpAny_pendingKey_other (m p _ g) (Q8 #[_,rfl,Th #[t,h,rfl]]))
end
variable{D I:Addr}{fp wr:List Addr}{h₀:Heap}{k:Nat}{us:TW}{xs:TC}
open PySem.Sem (wp)
section
variable{E:QS}
theorem sQ{a:Addr}{Q:Option Value->Shared->Prop}(hx:s.heap.get? a=some (seqObj "list" xs k))(j:A.handled=none)
  (h:∀h' tk,(∀b o,s.heap.get? b=some o->h'.get? b=some o)->Q none {s with heap:=h',toks:=tk}):wpAny (model prog w) A (getAttr? (.ref a) "keys") Q E s:=by
 obtain⟨i,g,d,tk,os⟩:=s;let hT:∀c,(#[i,g,d,c,os]:Shared).TypeIs (.ref a) "list":=λ_=>#[_,hx,rfl];let f1:=sub_AttributeError;let p:=PySem.F.slot_list_getattribute.lookup;let f4:=PySem.F.slot_list_getattribute.bind (.ref a);let n:=PySem.am_list_getattr_none;let l:typeLookup (.type "list") "keys"=pure none:=am_miss_of_fast (by decide +kernel);repeat (any_goals (first|assumption|show hT _|((with_reducible change wpAny _ _ (call (Value.builtin "list.__getattribute__") _ _) _ _ _);show call_meets PySem.F.slot_list_getattribute (hT _) PySem.am_entry_list_getattribute (PySem.F.args_list_getattribute_2 _ _) (meets_getattribute_miss_list a xs k #[] "keys" _ l (by decide +kernel) (by size_fits)) #[hx,j,λh' c e f=>?_])|wp_step))
 show uJ f.there λt' m he=>?_;unfold getattributeRaised;repeat (any_goals (first|assumption|wp_step))
 show h _ _ f.keeps
theorem qJ{a:Addr}{Q:Option Value->Shared->Prop}(hx:s.heap.get? a=some (seqObj "tuple" xs k))(j:A.handled=none)
  (h:∀h' tk,(∀b o,s.heap.get? b=some o->h'.get? b=some o)->Q none {s with heap:=h',toks:=tk}):wpAny (model prog w) A (getAttr? (.ref a) "keys") Q E s:=by
 obtain⟨i,g,d,tk,os⟩:=s;let hT:∀c,(#[i,g,d,c,os]:Shared).TypeIs (.ref a) "tuple":=λ_=>#[_,hx,rfl];let f1:=sub_AttributeError;let p:=PySem.F.slot_tuple_getattribute.lookup;let f4:=PySem.F.slot_tuple_getattribute.bind (.ref a);let n:=PySem.am_tuple_getattr_none;let l:typeLookup (.type "tuple") "keys"=pure none:=am_miss_of_fast (by decide +kernel);repeat (any_goals (first|assumption|show hT _|((with_reducible change wpAny _ _ (call (Value.builtin "tuple.__getattribute__") _ _) _ _ _);show call_meets PySem.F.slot_tuple_getattribute (hT _) PySem.am_entry_tuple_getattribute (PySem.F.args_tuple_getattribute_2 _ _) (meets_getattribute_miss_tuple a xs k #[] "keys" _ l (by decide +kernel) (by size_fits)) #[hx,j,λh' c e f=>?_])|wp_step))
 show uJ f.there λt' m he=>?_;unfold getattributeRaised;repeat (any_goals (first|assumption|wp_step))
 show h _ _ f.keeps
theorem gb:entryFor table "dict.update.loop"=some Builtin.«dict.update.loop»:=entryFor_of_tree (by kernel_rfl)
theorem bO:plainId "dict.update.loop"=true:=by decide +kernel
theorem Ir{κ:DK}{acc:TD}{k v:V}(h:∀e∈acc,κ.is e.1)(b:κ.is k):∀e∈eG acc k v,κ.is e.1:=by
 ext e he;unfold eG at he;split at he
 .show aq (Re.mp he) λx hx a=>?_;rw[<- a];split<;>show h x hx
 rcases Ra.mp he with q|q
 .show h e q
 rw[Q6.mp q];show b
theorem CJ{R:Result->Shared->Prop}{St:Nat->Heap->Prop}{P:Nat->Value->Prop}(hA:A.units+12<cLine)
  (W:Walks prog w A.in1 I fp wr us.length P St) (J:D∉fp) (VS:∀e∈l,∃k v,e=.tup [k,v]/\κ.is k) (Y:l.length=us.length) (hP:∀i u,P i u->∃v,l[i]?=some v/\VR h₀ v u)
  (Xp:∀b∈wr,∀i h,St i h->∃o,h.get? b=some o/\o.cls≠.type "tuple") (hz:l.length<=bu):
  ∀(k i:Nat)(s:Shared)(acc es:TD)(ds:TE)(ep:Nat),us.length - i=k->i<=us.length->acc.length<=i->St i s.heap->s.heap.get? D=some {cls:=.type "dict",data:=.dict ds ep}->U6 w s.heap acc ds.toList->(acc.map (·.1)).Nodup->(∀e∈acc,κ.is e.1)->
   aD h₀ s.heap->cT (l.drop i) acc=some es->
   (∀h' t Yl VE,(∀b o,b∉wr->b≠D->s.heap.get? b=some o->h'.get? b=some o)->h'.get? D=some {cls:=.type "dict",data:=.dict Yl VE}->U6 w h' es Yl.toList->(es.map (·.1)).Nodup->R (.ok (.ret .none)) {s with heap:=h',toks:=t})->
   codeAny (model prog w) A (.builtin "dict.update.loop" #[[.ref D,.ref I,.int i 0,.none],[]]) R s:=by
 let f:D∉wr:=λh=>J (W.sub D h);let p:∀i (h h':Heap),St i h->(∀b o,b∉wr->h.get? b=some o->h'.get? b=some o)->aD h h':=λi h h' m c b UZ n e=>by
  by_cases d:b∈wr
  .show aq (Xp b d i h m) λo ho hc=>?_;rw[e]at ho;replace ho:=Is ho;cases ho;show absurd rfl hc
  show c b _ d e
 ext k;induction k with
 |zero=>
  ext i s acc es ds ep c hi C m ho hr hn S tk he fin;let WJ:i=us.length:=SM hi (UV c);clear C hi c;subst WJ;rw[List.drop_eq_nil_of_le (RW Y)]at he;cases he;show codeAny_builtin gb ?_;erw[Around.under_plainId bO];unfold Builtin.«dict.update.loop»;show If (W.done s _ _ m λh' z c=>?_);let Vy:=c D _ f ho;let WP:=p _ _ _ m c;show If (Q8 (Q8 (fin h' z ds ep (λb o d _ e=>c b o d e) Vy (hr.keep WP) hn)))
 |succ k F=>
  ext i s acc es ds ep c hi C m ho hr hn S tk he fin;let V:i<us.length:=Nat.lt_of_sub_eq_succ c;let nk:us.length - (i+1)=k:=Rs Nat.pred c;show codeAny_builtin gb ?_;erw[Around.under_plainId bO];unfold Builtin.«dict.update.loop»;change wpAny _ _ (pyNext (.ref I) >>= _) _ _ s;show If (W.item i s _ _ V m λu h' z hp Zf c=>?_);show aq (hP i u hp) λv G B=>ck (VS v (Q4 G)) λE X ev g=>?_;rw[ev]at B G;let WP:=p _ _ _ m c;show vh (B.keep (tk.trans WP)) λt items e hi x=>C3 x λa G6 ea rk q=>C3 q λb GM eb B q=>Dg q λen=>?_;rw[ea,eb,en]at hi;rw[e];clear x q ea eb en e;show az hi λn hu=>?_;clear hi;show If (SB ?_);let hT:({s with heap:=h',toks:=z}).TypeIs (.ref _) "tuple":=#[_,hu,rfl];show If (wpAny_tryCatch ?_);unfold Builtin.Dict.pairItems;show If (UM hT ?_);rw[RO (dR rfl)];show If (UN (s:={s with heap:=h',toks:=z}) hu rfl ?_);show Q8 ?_;let σ:=c D _ f ho;let O:c6 acc E:=#[κ,g,S];show SB (pg (s:={s with heap:=h',toks:=z}) (Q5 (Rb (dR rfl:9<=12) A.units) hA) σ (hr.keep WP) hn O rk B (Q5 C (Rc V (Y▸hz))) λZ t2 M y j hd2=>?_);let N:l.drop i=.tup [E,X]::l.drop (i+1):=by
   show az (RC.mp G) λhi1 H=>?_;rw[UE hi1,H]
  rw[N]at he;let T:=λb o d hd e=>(y.2 b hd).trans (c b o d e);let Q:St (i+1) Z:=W.frame _ _ _ Zf λb d o e=>(y.2 b (by clear T j y σ fin ho F f;ext rfl;show J d)).trans e;let r:aD h' Z:=λb UZ n e=>(y.2 b (by clear T j y fin ho F f J;ext rfl;rw[σ]at e;show absurd (Rs Obj.cls (Is e)) (by simp))).trans e;show Q8 #[plainId_quiet bO _,?_];let ec:rawInt (i+1)=.int ((i+1):Int) 0:=by simp[rawInt]
  rw[ec];show F (i+1) _ (eG acc E X) es M _ nk V (Gt xo (Rj C)) Q j (hd2.keep r) (uQ hn) (Ir S g) ((tk.trans WP).trans r) he<|λh3 t3 L K k3 g3 d3 n3=>fin h3 t3 L K (λb o d hd e=>k3 b o d hd (T b o d hd e)) g3 d3 n3
end
variable{ds:TE}{i:Nat}
open PySem.Sem (wp)
abbrev iX(h:Heap)(d:Addr)(ds:TE)(ep:Nat):Prop:=h.get? d=some {cls:=.type "dict",data:=.dict ds ep}
section
variable{E:QS}
theorem uN{d:Nat}{Q:QS}(hd:(d== sysModules)=false)(ho:iX s.heap d ds ep)
  (a:Q (.ref s.heap.objs.size) {s with heap:=s.heap.push {cls:=.type "dict_keyiterator",data:=.fields (List.toArray [.ref d,.int 0 0,.int ds.size 0,.int ep 0])}}):
  wpAny (model prog w) A (pyIter (.ref d)) Q E s:=by
 let hT:s.TypeIs (.ref d) "dict":=#[_,ho,rfl];show wpAny_pyIter_slot hT PySem.F.slot_dict_iter (Sk PySem.F.slot_dict_iter hT PySem.F.entry_dict_iter ?_ (PySem.F.args_dict_iter_1 _));show If<|If (UU hT ?_);show Q8 ?_;change wpAny _ _ (Builtin.Dict.showsAll d >>= _) _ _ s;unfold Builtin.Dict.showsAll;rw[RX (by rw[hd];show Sr)];show If (Q8 ?_);show If (UO ho rfl ?_);show If (wpAny_dictEpoch ho rfl ?_);show If (SN (Q8 #[_,rfl,"dict_keyiterator",_,#[_,RA _ rfl,rfl],PySem.F.slot_dict_keyiterator_next.lookup,a]))
theorem jK{it d:Nat}{e:DictEntry}{Q:Option Value->Shared->Prop}(hit:s.heap.IsKeyIter it d i ds.size ep)
  (a:iX s.heap d ds ep) (hx:ds[i]?=some e)
  (f:∀h',h'.IsKeyIter it d (i+1) ds.size ep->Heap.SameBut it s.heap h'->Q (some e.key) {s with heap:=h'}):
  wpAny (model prog w) A (pyNext (.ref it)) Q E s:=by
 show bS (id hit) λo ho c hd=>?_;show If (wpAny_attempt (wpAny_callSpecial?_slot hit.typeIs PySem.F.slot_dict_keyiterator_next
  (Sk PySem.F.slot_dict_keyiterator_next hit.typeIs PySem.F.entry_dict_keyiterator_next ?_ (PySem.F.args_dict_keyiterator_next_1 _))))
 show If (Q8 ?_);show If<|If ?_;first|show If (Ur hit.typeIs (Q8 ?_))|show If (UG hit.typeIs (Q8 ?_))
 show If (wpAny_fieldsOf ho hd ?_);rw[RX (show ¬(Builtin.Dict_items.ownsTuple "dict_keyiterator"=true) by decide)];change wpAny _ _ (if(Value.ref d== Value.none)=true then _ else _) _ _ s;rw[RX (show ¬((Value.ref d== Value.none)=true) from Sr)];show If (Q8 ?_);show If (UO a rfl ?_);rw[RX (by simp)];show If (Q8 ?_);show If (wpAny_dictEpoch a rfl ?_);rw[RX (by simp)];show Q8 ?_;dsimp only;rw[RX (UA.mpr (Ry i)),Tj,hx];show If ?_;first|show If (Ur hit.typeIs (Q8 ?_))|show If (UG hit.typeIs (Q8 ?_))
 show If (wpAny_isOneOf_keyiter hit.typeIs ?_);change wpAny _ _ (setField (.ref it) 1 (rawInt (i+1)) >>= _) _ _ s;show If (Uy ho hd (by simp) ?_);let b:(s.heap.update it (Obj.mapFields (·.setIfInBounds 1 (rawInt (i+1))))).IsKeyIter it d (i+1) ds.size ep:=
  #[_,SH _ ho (Obj.isFreed_of_fields (Obj.data_mapFields hd _)),(Obj.cls_mapFields ..).trans c,by erw[Obj.data_mapFields hd];simp[rawInt]]
 show If (SB ?_);show If (wpAny_isOneOf_keyiter b.typeIs ?_);show Q8 (Q8 #[_,rfl,Q8 (f _ b (Sl ..))])
theorem lD{it d:Nat}{Q:Option Value->Shared->Prop}(f:A.handled=none)(hit:s.heap.IsKeyIter it d i ds.size ep)
  (e:iX s.heap d ds ep) (c:ds.size<=i)
  (g:∀h',Heap.ExtBut it s.heap h'->Q none {s with heap:=h'}):wpAny (model prog w) A (pyNext (.ref it)) Q E s:=by
 show bS (id hit) λo ho h hd=>If (wpAny_attempt (wpAny_callSpecial?_slot hit.typeIs PySem.F.slot_dict_keyiterator_next
  (Sk PySem.F.slot_dict_keyiterator_next hit.typeIs PySem.F.entry_dict_keyiterator_next ?_ (PySem.F.args_dict_keyiterator_next_1 _))))
 show If (Q8 ?_);show If<|If ?_;first|show If (Ur hit.typeIs (Q8 ?_))|show If (UG hit.typeIs (Q8 ?_))
 show If (wpAny_fieldsOf ho hd ?_);rw[RX (show ¬(Builtin.Dict_items.ownsTuple "dict_keyiterator"=true) by decide)];change wpAny _ _ (if(Value.ref d== Value.none)=true then _ else _) _ _ s;rw[RX (show ¬((Value.ref d== Value.none)=true) from Sr)];show If (Q8 ?_);show If (UO e rfl ?_);rw[RX (by simp)];show If (Q8 ?_);show If (wpAny_dictEpoch e rfl ?_);rw[RX (by simp)];show Q8 ?_;dsimp only;rw[RX (UA.mpr (Ry i)),Tj,Tt c];dsimp only;show If ?_;first|show If (Ur hit.typeIs (Q8 ?_))|show If (UG hit.typeIs (Q8 ?_))
 change wpAny _ _ (setField (.ref it) 0 .none >>= _) _ _ s;show If (Uy ho hd (by simp) ?_);show If<|If (SN ?_ (by size_fits));show If (Ut (a:=Value.none) (by first|rfl|(simp only[firstArgMember];rfl)) ?_);show SN ?_ (by size_fits);show If (wpAny_handled ?_);rw[show A.in1.handled=none from f];show If (Q8 (wpAny_throw ?_));show If (Ul (b:=true) #[_,RA _ rfl,rfl] isSubtype_stop ?_);show Q8 (g _ (((Sl ..).extBut.push _).push _))
end
section
variable{E:QS}
theorem yf(j:A.handled=none)(I d:Addr)(l:d≠I)(ds:TE)(ep:Nat):
  Walks prog w A I [I,d] [I] ds.size (λi v=>∃e,ds[i]?=some e/\v=e.key) (λi h=>h.IsKeyIter I d i ds.size ep/\iX h d ds ep) where
 sub:=λb a=>by simp at a;simp[a]
 frame:=λ_ _ _ st f=>#[st.1.at λo e=>f I (by simp) o e,f d (by simp) _ st.2]
 item:=λi s Q E hi st c=>by
  let hx:ds[i]?=some ds[i]:=by simp[hi]
  show jK st.1 st.2 hx λh' m g=>?_;show c _ h' s.toks #[_,hx,rfl] #[m,(g.2 d l).trans st.2] λb o a e=>g.extBut b o (λh=>a (by simp[h])) e
 done:=λs Q E st c=>lD j st.1 st.2 (Rm _) λh' k=>c h' s.toks λb o a e=>k b o (λh=>a (by simp[h])) e
 self:=λ_ _ _ _ st c=>wpAny_pyIter_keyiter st.1 c
theorem sg(d:Addr)(ds:TE)(ep:Nat)(lo:(d== sysModules)=false):
  KdlSrc prog w "dict" d d ds.size (λi v=>∃e,ds[i]?=some e/\v=e.key) (λh=>iX h d ds ep) where
 type:=λ_ a=>#[_,a,rfl]
 there:=λ_ a=>#[Sf a,Sf a]
 keep:=λ_ _ a c=>c d (.inl rfl) _ a
 notList:=by decide
 notTuple:=by decide
 hint:=λ_ _ _ _ a b=>kdl_hint_dict #[_,a,rfl] b
 iter:=λ_ _ f a=>#[_,_,(λ_ _ b=>uN lo a b),yf f _ d (RY (Sf a)) ds ep,#[#[_,RA _ rfl,rfl,rfl],Rh _ a]]
end
theorem U6.Xh{ds:TL}(r:U6 w h es ds):aY h (es.map (·.1)) (ds.map (·.key)):=r.rec .nil λ_ b _ _ r=>.cons b r
section
variable{X:Addr->Prop}{Q:QV}{x y:V}{a b:Value}
theorem IZ(k:A.handled=none)(l:∀a o,U a=some o->(a== sysModules)=false)(S:ba w G U s.heap){d:Nat}(hd:U d=some (.dict es ep))
  (hz:es.length<=bu) (h:∀c,U c=none->Q (.ref c) (bq U c (.list (es.map (·.1))))):
  wpAny (model prog w) A (call (.type "list") [.ref d]) (aJ w G X U s Q) aV s:=by
 show bS (S.dict hd) λds ho hr _=>?_;let j:ds.size=es.length:=by rw[hr.length];simp
 show kdl_call (sg d ds ep (l _ _ hd)) k ho (by rw[j];show cf hz) λh' tk acc c b hn g=>?_;let e:acc.toList=ds.toList.map (·.key):=by
  apply Ug;ext i;rw[RF,RM,RM];cases hx:acc[i]? with
  |none=>
   let:ds.size<=i:=by rw[<- g.1];simpa using hx
   rw[Tt this];rfl
  |some v=>
   show aq (g.2 i v hx) ?_;clear hx;ext e he rfl;rw[he];rfl
 let f:=S.fresh (Rm s.heap.objs.size);let m:Mv w G X U s U {s with heap:=h',toks:=tk}:=.keeps S b;show#[_,_,h _ f.2.1,.ref _,m.enter f.1 f.2.2 #[_,c,hn,by rw[e];show hr.Xh.keep (.of_keeps b)]]
end
variable{UZ:TC}{n:Nat}
open PySem.Sem (wp)
section
variable{E:QS}
theorem zB{Q:QS}{t:Addr}{T:String}(q:A.handled=none)(hu:A.units+16<cLine)
  (hT:T="list"\/T="tuple") (ho:s.heap.get? t=some (seqObj T UZ n)) (hr:aY s.heap l UZ.toList)
  (Z:∀e∈l,∃k v,e=.tup [k,v]/\κ.is k) (hz:l.length<=bu) (he:cT l []=some es)
  (h:∀h' tk ds ep,(∀b o,s.heap.get? b=some o->h'.get? b=some o)->h'.get? s.heap.objs.size=some {cls:=.type "dict",data:=.dict ds ep}->U6 w h' es ds.toList->(es.map (·.1)).Nodup->Q (.ref s.heap.objs.size) {s with heap:=h',toks:=tk}):
  wpAny (model prog w) A (call (.type "dict") [.ref t]) Q E s:=by
 show callType_codes (Q₁:=λobj H=>obj=.ref s.heap.objs.size/\H={s with heap:=s.heap.push {cls:=.type "dict",data:=.dict #[]}}) PySem.F.kt_called_dict (PySem.F.kt_typeCall_dict_1 _) PySem.F.entry_dict_init (kt_code_dict_new _ #[rfl,rfl]) ?_;ext obj H f;show ao f ?_;clear f;ext rfl rfl;let m:(s.heap.push {cls:=.type "dict",data:=.dict #[]}).get? s.heap.objs.size=some {cls:=.type "dict",data:=.dict #[]}:=RA _ rfl;let d:(s.heap.push {cls:=.type "dict",data:=.dict #[]}).get? t=some (seqObj T UZ n):=Rh _ ho;let z:=RY (Sf ho);show#[#[_,m,rfl],PySem.F.args_dict_init_2 _ _,?_];show If<|If (UU #[_,m,rfl] ?_);show Q8 ?_;let loop:∀(I:Addr)(fp wr:List Addr)(P:Nat->Value->Prop)(St:Nat->Heap->Prop) s1,Walks prog w A.in1.in1 I fp wr UZ.toList.length P St->s.heap.objs.size∉fp->(∀b∈wr,s.heap.objs.size<b)->
   (∀i u,P i u->UZ[i]?=some u)->(∀b∈wr,∀i h,St i h->∃o,h.get? b=some o/\o.cls≠.type "tuple")->St 0 s1.heap->
   (∃h' tk,s1={s with heap:=h',toks:=tk}/\∀b o,(s.heap.push {cls:=.type "dict",data:=.dict #[]}).get? b=some o->h'.get? b=some o)->
   codeAny (model prog w) A.in1 (.builtin "dict.update.loop" #[[.ref s.heap.objs.size,.ref I,rawInt 0,.none],[]]) (wants (λr Y=>r=.none/\Q (.ref s.heap.objs.size) Y) E) s1:=by
  ext I fp wr P St s1 W D y M σ X f;show ck f ?_;clear f;ext h' tk rfl a;let x:aD s.heap h':=λb _ _ e=>a b _ (Rh _ e);show CJ (h₀:=h') (es:=es) (Q5 (Rb (dR rfl:13<=16) A.units) hu) W D Z hr.length (λi u g=>?_) σ hz UZ.toList.length 0 _ [] #[] 0 (by simp) (Rx _) (Rx _) X (a _ _ m) .nil (by simp) (by simp) (λ_ _ _ e=>e) (by simpa using he) (λO t2 ds ep K R d2 n2=>#[rfl,h O t2 ds ep (λb o e=>K b o (λc=>Nat.lt_asymm (Sf e) (y b c)) (RY (Sf e)) (a b o (Rh _ e))) R d2 n2]);let e1:=M i u g;rw[<- RM]at e1;show aq (hr.get' e1) λv L J=>#[v,L,J.keep x]
 let YE:∀I:Addr,I≠s.heap.objs.size->s.heap.objs.size∉[I,t]:=λI N B=>by
  rcases RB.mp B with e|B
  .show N e.symm
  show z (Q6.mp B).symm
 rcases hT with rfl|rfl
 .show If (UM #[_,d,rfl] ?_);rw[RO (dR rfl)];show If (sQ d q λh' tk a=>?_);rw[RO (by rfl)];show If (TY ?_);let j:(#[h',s.gens,s.drawn,tk,s.os]:Shared).heap.IsList t UZ:=#[_,a _ _ d,rfl,n,rfl];show If (wpAny_pyIter_list j ?_);let p:=Sf (a _ _ m);let G:=Sf (a _ _ d);show Q8 #[plainId_quiet bO _,?_];show loop _ _ _ _ _ _ (by rw[SJ];show Walks.list (A:=A.in1.in1) q h'.objs.size t (RY G) UZ) (YE _ (Sy p)) (λb c=>by rw[Q6.mp c];show p) (λi u g=>g) ?_ ?_ ?_
  .show λb c i h st=>ao st ?_;ext S;show bS S λo e C _=>?_;ext _;rw[Q6.mp c];show#[o,e,by rw[C];simp]
  .show#[#[_,RA _ rfl,rfl,rfl],j.push _]
  show#[_,_,rfl,λb o e=>Rh _ (a b o e)]
 show If (UM #[_,d,rfl] ?_);rw[RO (dR rfl)];show If (qJ d q λh' tk a=>?_);rw[RO (by rfl)];show If (TY ?_);let j:(#[h',s.gens,s.drawn,tk,s.os]:Shared).heap.IsTuple t UZ:=#[_,a _ _ d,rfl,n,rfl];show If (wpAny_pyIter_tuple j ?_);let p:=Sf (a _ _ m);let G:t<h'.objs.size:=Sf (a _ _ d);show Q8 #[plainId_quiet bO _,?_];show loop _ _ _ _ _ _ (by rw[SJ];show Walks.tuple (A:=A.in1.in1) q h'.objs.size t (RY G) UZ) (YE _ (Sy p)) (λb c=>by rw[Q6.mp c];show p) (λi u g=>g) ?_ ?_ ?_
 .show λb c i h st=>ao st ?_;ext V;show bS V λo e C _=>?_;ext _;rw[Q6.mp c];show#[o,e,by rw[C];simp]
 .show#[#[_,RA _ rfl,rfl,rfl],j.push _]
 show#[_,_,rfl,λb o e=>Rh _ (a b o e)]
end
section
variable{X:Addr->Prop}{Q:QV}{x y:V}{a b:Value}
theorem Kj(g:A.handled=none)(hu:A.units+16<cLine)(S:ba w G U s.heap)(hx:VR s.heap x a)(h:Jd U Q x):
  wpAny (model prog w) A (call (.type "dict") [a]) (aJ w G X U s Q) aV s:=by
 show iO h λl b h=>?_
 .show bP h ?_;ext i;show az i λκ j=>?_;ext hz k;show aq k λes he h=>?_;show gX (show ∃t T UZ n,a=.ref t/\(T="list"\/T="tuple")/\s.heap.get? t=some (seqObj T UZ n)/\aY s.heap l UZ.toList from by
   cases hx with
   |tup hi hr=>cases Is b;show az hi λn e=>#[_,"tuple",_,n,rfl,.inr rfl,e,hr]
   |ref p=>
    unfold vp at b;dsimp only at b;cases e:U p with
    |none=>rw[e]at b;show nS b
    |some o=>
     rw[e]at b;induction o with
     |list m=>cases Is b;show ck (S.list e) λvs n e hr=>#[_,"list",vs,n,rfl,.inl rfl,e,hr]
     |_=>cases b
   |_=>cases b) ?_;ext t T UZ n rfl hT ho hr
  show zB g hu hT ho hr j hz he λh' tk ds ep c d hd hn=>?_;let f:=S.fresh (Rm s.heap.objs.size);let m:Mv w G X U s U {s with heap:=h',toks:=tk}:=.keeps S c;show#[_,_,h _ ep f.2.1,.ref _,m.enter f.1 f.2.2 #[ds,d,hd,hn]]
end
variable{a:Value}{x z:V}
open PySem.Sem (wp)
theorem qi(r:VR h x a):(a== Value.none)=(match x with|.none=>true|_=>false):=by cases r<;>rfl
theorem nR(r:VR h x a):plainIs a .none=true:=by cases r<;>rfl
section
variable{X:Addr->Prop}{Q:Bool->Prop}{y:V}{b:Value}
theorem Jf{t s:Str}{Q:Bool->Prop}(h:match t.cps.toList with|[c]=>Q (decide (c∈s.cps.toList))|_=>False):∃c,t=#[(List.toArray [c])]/\Q (decide (c∈s.cps.toList)):=by
 obtain⟨⟨l⟩⟩:=t;cases l with
 |nil=>show False.elim h
 |cons c r=>
  cases r with
  |nil=>show#[c,rfl,h]
  |cons _ _=>show False.elim h
theorem OE(f:A.units+14<cLine)(i:∀a o,U a=some o->(a== sysModules)=false)(S:ba w G U s.heap)(hx:VR s.heap x a)(hy:VR s.heap y b)(h:MS U x y Q):
  wpAny (model prog w) A (compareOp .In a b) (CB s Q) aV s:=by
 let gen:(∀t u,b≠.str t u)->wpAny (model prog w) A (compareOp .In a b) (CB s Q) aV s:=λns=>by
  show If (RQ (sA f i S hx hy h ns) (λc s' d=>Q8 ?_) λ_ _ e=>e);show aq d λt h1 g=>#[c,t,rfl,h1,g]
 cases hy with
 |str t u=>
  show iS hx h λt' _ h=>?_
  .show P.in_str ?_;show aq (Jf (Q:=Q) h) λc e h=>?_;rw[e,StrLaws.found_one];show .mk h
 |_=>show gen (by ext t u e;cases e)
theorem Hu(f:A.units+14<cLine)(i:∀a o,U a=some o->(a== sysModules)=false)(S:ba w G U s.heap)(hx:VR s.heap x a)(hy:VR s.heap y b)(h:MS U x y λb=>Q (!b)):
  wpAny (model prog w) A (compareOp .NotIn a b) (CB s Q) aV s:=by
 let gen:(∀t u,b≠.str t u)->wpAny (model prog w) A (compareOp .NotIn a b) (CB s Q) aV s:=λns=>by
  show If (RQ (sA f i S hx hy h ns) (λc s' d=>Q8 ?_) λ_ _ e=>e);show aq d λt h1 g=>#[!c,t,rfl,h1,g]
 cases hy with
 |str t u=>
  show iS hx h λt' _ h=>?_
  .show P.notIn_str ?_;show aq (Jf (Q:=λb=>Q (!b)) h) λc e h=>?_;rw[e,StrLaws.found_one];show .mk h
 |_=>show gen (by ext t u e;cases e)
theorem Mw{c:C}(e:A.units+14<cLine)(d:∀a o,U a=some o->(a== sysModules)=false)(S:ba w G U s.heap)(hx:VR s.heap x a)(hy:VR s.heap y b)(h:jG U Q c x y):
  wpAny (model prog w) A (compareOp (N1 c) a b) (CB s Q) aV s:=by
 cases c
 .show OG (by(show Q5 (Rb ?_ _) ‹_›;decide)) d S hx hy h
 .show OD (by(show Q5 (Rb ?_ _) ‹_›;decide)) S hx hy h
 .show E0 hx hy h λi t j u h=>lt_int (.mk h)
 .show E0 hx hy h λi t j u h=>le_int (.mk h)
 .show E0 hx hy h λi t j u h=>gt_int (.mk h)
 .show E0 hx hy h λi t j u h=>ge_int (.mk h)
 .show OE e d S hx hy h
 .show Hu e d S hx hy h
 .cases y with
  |none=>
   cases hy;show wpAny_is_plain (nR hx) ?_;rw[qi hx];cases x<;>show .mk h
  |_=>show False.elim h
 cases y with
 |none=>
  cases hy;show wpAny_isNot_plain (nR hx) ?_;rw[qi hx];cases x<;>show .mk h
 |_=>show False.elim h
theorem AF(S:ba w G U s.heap)(hx:VR s.heap x a)(h:l8 U Q x):wpAny (model prog w) A (truthy a) (λb s'=>∃t,Q b/\s'={s with toks:=t}) aV s:=by
 show i5 hx h (λb h=>Th #[s.toks,h,rfl]) (λ_ _ h=>h.elim) (λ_ _ h=>h.elim) (λ_ _ _ _ _ h=>h.elim) λp h=>iL h λl e h=>?_
 ·.show ao h<|λhz h=>ck (S.list e) λvs n ho hr=>?_;show wpAny_truthy_list #[_,ho,rfl,n,rfl] (by let:=hr.size;unfold bu at hz;rw[<- this];show Int.lt_of_le_of_lt (Int.ofNat_le.mpr hz) (dR rfl)) #[_,?_,rfl];let e1:=hr.size;let:vs.isEmpty=l.isEmpty:=by
    erw[UH,Array.isEmpty_iff_size_eq_zero,List.isEmpty_iff_length_eq_zero,e1]
   rw[this];show h
end
section
variable{X:Addr->Prop}{Q:QV}{y:V}{b c:Value}
theorem Ms(c:∀a o,U a=some o->(a== sysModules)=false)(S:ba w G U s.heap)(hx:VR s.heap x a)(h:MQ U Q x):
  wpAny (model prog w) A (call (.builtin "len") [a]) (aJ w G X U s Q) aV s:=by
 show i3 hx h (λ_ _ h=>h.elim) (λl t us hi hr h=>?_) λp h=>H8 h (λl e h=>?_) λes ep e h=>?_
 ·.show ao h ?_;clear h;show λhz h=>az hi λn ho=>?_;rw[hr.length]at hz h;show P.len_tuple ho (by unfold bu at hz;simp;show Int.lt_of_le_of_lt (Int.ofNat_le.mpr hz) (dR rfl)) (by simpa using aJ.int S h)
 ·.show ao h ?_;clear h;show λhz h=>ck (S.list e) λvs n ho hr=>?_;rw[hr.size]at hz h;show Calls.call_len_list #[_,ho,rfl,n,rfl] (by unfold bu at hz;show Int.lt_of_le_of_lt (Int.ofNat_le.mpr hz) (dR rfl)) (aJ.int S h)
 show bP h ?_;clear h;show λhk hz h=>bS (S.dict e) λds ho hr hn=>?_;show aq ((FD prog w).dictOf ho hr hn hk) λXA hd b=>?_;rw[<- b]at h hz;show call_len_dict (c _ _ e) hd (by unfold bu at hz;show Int.lt_of_le_of_lt (Int.ofNat_le.mpr hz) (dR rfl)) (aJ.int S h)
theorem Hx(S:ba w G U s.heap)(hx:VR s.heap x a)(hy:VR s.heap y b)(h:Ew U Q x y):
  wpAny (model prog w) A (call (.builtin "list.index") [a,b]) (aJ w G X U s Q) aV s:=by
 show iR hx h λr h=>iL h λl e h=>?_
 ·.show bP h ?_;ext q;show aq q λφ h1 j=>?_;ext hz h;show ck (S.list e) λvs n ho hr=>?_;show iO h λi hi h=>?_
   .rw[List.findIdx?_eq_some_iff_getElem]at hi;show aq hi λf hit p=>?_;clear hi;let e1:=hr.size;let c:=dL j hr;let d:i<vs.size:=e1▸f;let at':∀m (c:m<vs.size),mV vs[m]=l[m]'(e1.symm▸c):=λm f=>by
     let:(vs.toList.map mV)[m]?=l[m]?:=by rw[c]
     rw[RF,RM,TH f,Rg (e1.symm▸f)]at this;show Is this
    show call_meetsIn PySem.F.slot_list_index #[_,ho,rfl] PySem.F.entry_list_index (PySem.F.args_list_index_2 _ _)
     (λA R s=>SeqAt.list_indexAt r vs n none #[] b (λu=>V.VI (mV u) y) i d (by unfold bu at hz;show Int.lt_of_le_of_lt (Int.ofNat_le.mpr (Nat.le_trans (Nat.le_of_lt f) hz)) (dR rfl)) ?_ ?_ prog w A R s) #[ho,?_,aJ.int S h]
    .rw[at' i d];show hit
    .ext m c g;rw[at' m c];show Bool.eq_false_iff.mpr (p m g)
    show λu hu=>aq (hr.all u (UB.mpr hu)) λv o k=>?_;rw[kL (j v o) k];show eI (j v o) h1 k hy
theorem aJ.dict(S:ba w G U s.heap)(t:Nat){r:Addr}{es fs:TD}{ep VE:Nat}{ds:TE}{h':Heap}(e:U r=some (.dict es ep))(d:Heap.SameBut r s.heap h')(i:h'.get? r=some {cls:=.type "dict",data:=.dict ds VE})(hd:U6 w s.heap fs ds.toList)(hn:(fs.map (·.1)).Nodup)
  (j:VR s.heap x a) (h:Q x (bq U r (.dict fs VE))):aJ w G X U s Q a {s with heap:=h',toks:=t}:=by
 let m:Mv w G X U s (bq U r (.dict fs VE)) {s with heap:=h',toks:=t}:=Mv.update S e d λtk=>#[ds,i,hd.keep tk,hn];show ao (S.obj _ _ e) λ_ ro=>?_;show aq ro.ex λro f g=>?_;let tk:aD s.heap h':=λb _ _ c=>by
  by_cases q:b=r
  .clear m h i d e;subst q;rw[f]at c;replace c:=Is c;cases c;show absurd rfl g
  show(d.2 b q).trans c
 show#[_,_,h,j.keep tk,m]
theorem Mu(j:A.units+10<cLine)(k:∀a o,U a=some o->(a== sysModules)=false)(S:ba w G U s.heap)(hx:VR s.heap x a)(hy:VR s.heap y b)(hz:VR s.heap z c)(h:MT U Q x y z):
  wpAny (model prog w) A (call (.builtin "dict.get") [a,b,c]) (aJ w G X U s Q) aV s:=by
 show iR hx h λr h=>iD h λes ep e h=>?_
 ·.show ao h<|λi h=>bS (S.dict e) λds ho hr hn=>?_;let body:MeetsIn prog w (Builtin.«dict.get» #[[.ref r,b,c],[]]) (λA' R s'=>s'=s/\A'.in1.units+8<cLine/\∀v t,VR s.heap ((fP es y).getD z) v->R (.ok (.ret v)) {s with toks:=t}):=
    .of_wp λA' R s' f=>by
     show bP f λe1 hu hR=>?_;subst e1;change wpAny _ _ (dictGet r b >>= _) _ _ s';show If (ph hu ho hr hn i hy λo t d=>?_);cases hd:fP es y with
     |some v=>
      rw[hd]at d hR;induction o with
      |none=>show d.elim
      |some u=>show Q8 #[u,rfl,hR u t d]
     |none=>
      rw[hd]at d hR;induction o with
      |some u=>show d.elim
      |none=>
       show If (wpAny_missed_other (k _ _ e) (Q8 #[c,rfl,hR c t hz]))
   show call_meetsIn PySem.F.slot_dict_get #[_,ho,rfl] PySem.F.entry_dict_get (PySem.F.args_dict_get_3 _ _ _) body #[rfl,?_,λv t g=>aJ.val S h g];show Q5 (Rb (m:=10) (n:=9) (dR rfl) _) j
theorem vy(u:A.units+10<cLine)(C:∀a o,U a=some o->(a== sysModules)=false)(S:ba w G U s.heap)(hx:VR s.heap x a)(hy:VR s.heap y b)(hz:VR s.heap z c)(h:qp U Q x y z):
  wpAny (model prog w) A (call (.builtin "dict.setdefault") [a,b,c]) (aJ w G X U s Q) aV s:=by
 show iR hx h λr h=>iD h λes ep e h=>?_
 ·.show bP h ?_;clear h;show λk d h=>bS (S.dict e) λds ho hr hn=>?_;let B:ds.size<=sizeLine:=by rw[<- SJ,<- hr.length];show cf (Rf d)
   let body:MeetsIn prog w (Builtin.«dict.setdefault» #[[.ref r,b,c],[]]) (λA' R s'=>s'=s/\A'.in1.units+8<cLine/\∀v Xf,aJ w G X U s Q v Xf->R (.ok (.ret v)) Xf):=
    .of_wp λA' R s' g=>by
     show bP g λe1 hu hR=>?_;clear g;subst e1;unfold Builtin.«dict.setdefault»;show If ?_;unfold Builtin.Dict.keyAndDefault;show If (UU #[_,ho,rfl] ?_);show Q8 ?_;change wpAny _ _ (if(r== sysModules)=true then _ else(dictSetDefault r b c >>= _)) _ _ s';rw[RX (by rw[C _ _ e];show Sr)];show aq (id k) λκ h1 _=>?_;show If (SB ?_);show If (yL hu h1 hy λt=>?_);show If (yN hu ho hr hn k hy ?_);cases hf:gf es y with
     |none=>
      show bP (iQ hf) λe1 e2 e3=>?_;rw[e1]at h;show If (TY (If (wpAny_updateDictKeys (hz:=B) (hf:=by simp) ho rfl ?_)));show Q8 (Q8 #[c,rfl,hR c _ ?_]);show aJ.dict S t e (Sl ..) (SH _ ho rfl) ?_ ?_ hz h
      .rw[Array.toList_push];show hr.append (.cons rfl hy hz .nil)
      erw[Rd,R3];show#[hn,by simp,λp f q j=>?_];simp at j;clear e2 e1 hf hy h;clear h;subst j;ext rfl;show e3 f
     |some i=>
      show aq (iP hf) λv' e1 e2=>?_;rw[e2]at h;show Ci (hr.get' e1) λe' he _ _ l=>?_;show If (UO ho rfl ?_);rw[<- RM,he];show If (TY (Q8 (Q8 #[_,rfl,hR _ _ (aJ.val S h l)])))
   show call_meetsIn PySem.F.slot_dict_setdefault #[_,ho,rfl] PySem.F.entry_dict_setdefault (PySem.F.args_dict_setdefault_3 _ _ _) body #[rfl,?_,λv Xf f=>f];show Q5 (Rb (m:=10) (n:=9) (dR rfl) _) u
end
end
section
variable{A:Around}{fin:Bool}{k n:Nat}{l:TV}{p:Array Nat}{prog:Program}{s:Shared}{us:TW}{w:World}{α β:Type}{φ:FK}
open PySem.Sem (wp)
noncomputable def bN(n:Nat)(P:α->Prop):KasT α->Prop
 |.ret a=>P a
 |.ask i j k=>i<n/\j<n/\∀b,bN n P (k b)
theorem bN.mono{P Q:α->Prop}(h:∀a,P a->Q a):∀t:KasT α,bN n P t->bN n Q t
 |.ret a,x=>h a x
 |.ask _ _ k,⟨a,b,c⟩=>#[a,b,λd=>bN.mono h (k d) (c d)]
theorem bN.bind{P:β->Prop}{f:α->KasT β}:∀t:KasT α,bN n (λa=>bN n P (f a)) t->bN n P (t.bind f)
 |.ret _,x=>x
 |.ask _ _ k,⟨a,b,c⟩=>#[a,b,λd=>bN.bind (k d) (c d)]
theorem bN.ite{P:α->Prop}{c:Prop}[Decidable c]{t u:KasT α}(h:bN n P t)(k:bN n P u):bN n P (if c then t else u):=by
 by_cases q:c
 .rw[RO q];show h
 rw[RX q];show k
abbrev Pm(n:Nat)(p:Array Nat):Prop:=p.Perm (List.toArray (List.range n))
set_option tactic.hygienic true in
theorem Pm.lt(h:Pm n p)(h0:0<n)(i:Nat):p.getD i 0<n:=by
 unfold Array.getD;split
 .rename_i hi
  let:=h.mem_iff.mp (Array.getElem_mem hi);simpa using this
 show h0
theorem Pm.rev(h:Pm n p)(i j:Nat):Pm n (kas_rev p i j):=(mirror_perm _ _ _ _).trans h
theorem Pm.bubble(h:Pm n p)(i j:Nat):Pm n (bubble p i j):=(bubble_perm _ _ _).trans h
section
variable(h0:0<n)
include h0
theorem sW(h:Pm n p):∀f m,bN n (λ_=>True) (kas_asc p f m)
 |0,_=>trivial
 |f+1,m=>#[h.lt h0 _,h.lt h0 _,λ_=>bN.ite trivial (sW h f _)]
theorem kF:∀f (p:Array Nat) m q,Pm n p->bN n (λr=>Pm n r.1) (kas_desc f p m q)
 |0,_,_,_,h=>h
 |f+1,p,m,q,h=>#[h.lt h0 _,h.lt h0 _,λ_=>bN.ite (bN.ite (kF f _ _ _ (h.rev _ _)) (kF f _ _ _ h))
   #[h.lt h0 _,h.lt h0 _,λ_=>bN.ite h (kF f _ _ _ h)]]
theorem sV{m:Nat}(h:Pm n p):bN n (λr=>Pm n r.2) (kas_tail3 m k p):=
 bN.bind _ (bN.mono (λ_ _=>h.rev _ _) _ (sW h0 (h.rev _ _) _ _))
theorem lG{m:Nat}(h:Pm n p):bN n (λr=>Pm n r.2) (kas_descPart m k p):=
 bN.bind _ (bN.mono (λ_ hr=>bN.ite (sV h0 (hr.rev _ _)) (sV h0 hr)) _ (kF h0 _ _ _ _ h))
theorem y7(h:Pm n p):bN n (λr=>Pm n r.2) (kas_count k p):=by show bN.bind _ (bN.mono (λa _=>?_) _ (sW h0 h _ _));show bN.ite (h) (bN.ite ?_ (lG h0 h));show#[h.lt h0 _,h.lt h0 _,λ_=>bN.ite (h) (lG h0 (h.rev _ _))]
theorem mr(h:Pm n p)(k:Nat):∀f l r,bN n (λ_=>True) (kas_place p k f l r)
 |0,_,_=>trivial
 |f+1,_,_=>bN.ite trivial #[h.lt h0 _,h.lt h0 _,λ_=>bN.ite (mr h k f _ _) (mr h k f _ _)]
theorem xb:∀f (p:Array Nat) k,Pm n p->bN n (Pm n) (kas_bin f p k)
 |0,_,_,h=>h
 |f+1,p,k,h=>bN.bind _ (bN.mono (λl _=>xb f _ _ (h.bubble _ _)) _ (mr h0 h k k 0 k))
theorem Cx:bN n (Pm n) (kas_sort n):=by show bN.bind _ (bN.mono (λr hr=>?_) _ (y7 h0 (Array.Perm.refl _)));show bN.ite (xb h0 _ _ _ hr) (hr)
end
theorem bN.run{P:α->Prop}{cmp:Nat->Nat->(Bool->Shared->Prop)->Shared->Prop}
  (e:∀i j C,i<n->j<n->(∀b,C b s)->cmp i j C s):∀t:KasT α,bN n P t->t.kasWp cmp (λa s'=>P a/\s'=s) s
 |.ret _,h=>#[h,rfl]
 |.ask _ _ k,⟨a,b,c⟩=>e _ _ _ a b λd=>bN.run e (k d) (c d)
section
variable{E:QS}
theorem EB{b:Bool}{x y:V}{p q:Value}{Q:Bool->Shared->Prop}(hx:φ.is x)(hy:φ.is y)(d:VR s.heap x p)(a:VR s.heap y q)(h:∀c,Q c s):
  wpAny (model prog w) A (oneLt' b p q) Q E s:=by
 cases φ
 .show az hx ?_;clear hx;ext i rfl;show az hy ?_;clear hy;ext j rfl;cases d;cases a;cases b
  .show kat_one _ _ (lt_int (h _))
  show oneLt_int (h _)
 show az hx ?_;clear hx;ext i rfl;show az hy ?_;clear hy;ext j rfl;cases d;cases a;cases b
 .show kat_one _ _ (P.lt_str (h _))
 show oneLt_str (h _)
theorem Cr{b:Bool}{Q:Bool->Shared->Prop}(h:∀c,Q c s){m:TV}{ws:TW}(i:Nat)(e:φ.all l)(d:φ.all m)(r:aY s.heap l us)(q:aY s.heap m ws):KatLex prog w A b fin Q (us.zip ws) i s:=by
 show r.ind (P:=λl us=>∀i m ws,φ.all l->φ.all m->aY s.heap m ws->KatLex prog w A b fin Q (us.zip ws) i s) (λi m ws _ _ _=>by rw[List.zip_nil_left];show kat_nil (h _)) (λa r g i m ws e d q=>?_) i m ws e d q;cases q with
 |nil=>rw[List.zip_nil_right];show kat_nil (h _)
 |cons c q=>
  rw[Td];show kat_cons (eI (e _ (.head _)) (d _ (.head _)) a c _ _ _ _ ?_);show kat_go (λ_=>kat_yes (g (i+1) _ _ (λv f=>e v (.tail _ f)) (λv f=>d v (.tail _ f)) q)) λ_=>kat_no (EB (e _ (.head _)) (d _ (.head _)) a c h)
theorem qj{m:TV}{a b:Addr}{P:Fin->Shared->Prop}(O:φ.all l)(N:φ.all m)(hx:VR s.heap (.tup l) (.ref a))(hy:VR s.heap (.tup m) (.ref b))(h:∀c,P (.done (.ret (.bool c))) s):
  wpAny (model prog w) A (Builtin.«tuple.__lt__» #[[.ref a,.ref b],[]]) P E s:=by
 show vh hx λ_ xs e hi hr=>?_;cases e;show vh hy λ_ K e H x=>?_;cases e
 .show az hi λna C=>?_;clear hi;show az H λnb n=>?_;clear H;let D:s.TypeIs (.ref b) "tuple":=#[_,n,rfl];change wpAny _ _ (isInstance (.ref b) (.type "tuple") >>= _) _ _ s;show If (Ul D isSubtype_tuple_tuple ?_);show T2 rfl<|If (UI C rfl ?_);show If (UI n rfl ?_);show If<|wpAny_forIn_list _
   (λrest r s'=>r.1=none/\s'=s/\∃k g F G,rest=List.zip F G/\aY s.heap k F/\aY s.heap g G/\φ.all k/\φ.all g)
   _ ?_ ?_ _ _ #[rfl,rfl,l,m,xs,K,by simp,hr,x,O,N]
  .clear D n C x hr;ext S rest r s' d;show bP d λhr e d=>gX d λk g F G hz p o f=>?_;clear d;subst e;cases k with
   |nil=>show Dg p λe=>nC (by rw[e]at hz;show hz)
   |cons σ M=>show C3 p λu Q e1 ra p=>?_;cases g with
    |nil=>show Dg o λe=>nC (by rw[e,e1]at hz;show hz)
    |cons T L=>
     show C3 o λv R e2 rb o=>?_;rw[e1,e2]at hz;show yC hz λe3 e4=>?_;subst e3;show If (eI (f.1 _ (.head _)) (f.2 _ (.head _)) ra rb _ _ _ _ ?_);cases V.VI _ _ with
     |true=>show T2 rfl<|Q8 #[rfl,rfl,_,_,_,_,e4,p,o,λv q=>f.1 v (.tail _ q),λv q=>f.2 v (.tail _ q)]
     |false=>
      show wpAny_ite_true rfl<|If (TY (If ?_));let I:=f.1 _ (.head _);let J:=f.2 _ (.head _);cases φ
      .show az I λi z=>az J λj y=>?_;rw[z]at ra;rw[y]at rb;show P9 ra λt e=>P9 rb λt' B=>?_;rw[e,B];show show wpAny _ _ (compareOp .Lt _ _) _ _ _ from lt_int (Q8 (Q8 (h _)))
      show az I λi z=>az J λj y=>?_;rw[z]at ra;rw[y]at rb;show PZ ra λt e=>PZ rb λt' B=>?_;rw[e,B];show show wpAny _ _ (compareOp .Lt _ _) _ _ _ from PySem.P.lt_str (Q8 (Q8 (h _)))
  clear D n C x hr;ext r s' d;show bP d λhr e _=>?_;clear d;subst e;cases r;cases hr;show Q8 (h _)
theorem KZ{κ:SortKind}(t:κ=general'\/κ=oneType'\/∃b,κ=tuples' b){m:TV}{a b:Value}{Q:Bool->Shared->Prop}(hu:A.units+4<cLine)(g:φ.all l)(f:φ.all m)
  (hx:VR s.heap (.tup l) a) (hy:VR s.heap (.tup m) b) (h:∀c,Q c s):
  wpAny (model prog w) A (keyLt' κ a b) Q E s:=by
 let j:=hx;let k:=hy;show vh hx λa xs e hi hr=>?_;cases e;show vh hy λb u e q p=>?_;cases e
 .show az hi λna n=>?_;show az q λnb o=>?_;let d:s.TypeIs (.ref a) "tuple":=#[_,n,rfl];let r:s.TypeIs (.ref b) "tuple":=#[_,o,rfl];rcases t with rfl|rfl|i
  .show kat_one _ _<|T3 (op:=.Lt) d r PySem.F.slot_tuple_lt
    (Sk PySem.F.slot_tuple_lt d PySem.F.entry_tuple_lt (qj g f j k λc=>#[_,rfl,(λe=>(by cases e)),h c]) (PySem.F.args_tuple_lt_2 _ _)) (by lia)
  .rw[keyLt'_oneType,oneLt'_eq];show If (wpAny_cRoomFor (by lia) ?_);show If (wpAny_callSpecialIfBound?_slot d PySem.F.slot_tuple_lt
    (Sk PySem.F.slot_tuple_lt d PySem.F.entry_tuple_lt (qj g f j k λc=>#[_,rfl,?_]) (PySem.F.args_tuple_lt_2 _ _)))
   show Th (h _)
  show az i ?_;clear i;ext b' rfl;show kat_lt n rfl o rfl (Cr h 0 g f (by simpa using hr) (by simpa using p))
end
variable{G:Gc}{ep:Nat}{h h1:Heap}{UZ:TC}{ns:TZ}{vs:TW}{z:V}{U:aw}
open PySem.Sem (wp)
section
variable{E:QS}
theorem wZ{f:α->Sem β}{R:β->Prop}:∀(l:List α){Q:List β->Shared->Prop},(∀v∈l,∀(a:β->Shared->Prop),(∀r,R r->a r s)->wpAny (model prog w) A (f v) a E s)->(∀m:List β,(∀r∈m,R r)->Q m s)->wpAny (model prog w) A (l.mapM f) Q E s:=by
 ext l;induction l with
 |nil=>ext _ _ h;rw[List.mapM_nil];show Q8 (h [] λ_ h=>n0 h)
 |cons x l b=>
  ext Q hf h;rw[List.mapM_cons];show If (hf x (.head _) _ λr hr=>If (b (λv c=>hf v (.tail _ c)) λm d=>Q8 (h _ ?_)));ext x hx;rcases RB.mp hx with rfl|hx
  .show hr
  show d _ hx
def GD(s:Shared)(v:Value):Prop:=∃T,s.TypeIs v T
theorem qq(vs:TW){Q:Option Value->Shared->Prop}(b:∀v∈vs,GD s v)(h:∀o,Q o s):wpAny (model prog w) A (oneTypeOnly' vs.toArray) Q E s:=by
 rw[oneTypeOnly'_eq,List.mapM_toArray,map_eq_pure_bind];show If (If (wZ (R:=λ_=>True) vs (λv a d c=>?_) λm _=>Q8 ?_))
 .show az (b v a) λT hT=>?_;show UM hT (c _ trivial)
 split
 .split
  .show Q8 (h _)
  show Q8 (h _)
 show Q8 (h _)
theorem ES{Q:SortKind->Shared->Prop}(p:∀v∈l,∃m,v=.tup m/\φ.all m)(hr:aY s.heap l vs)(h:∀κ,(κ=general'\/κ=oneType'\/∃b,κ=tuples' b)->Q κ s):
  wpAny (model prog w) A (keyKind' vs.toArray) Q E s:=by
 let g:∀v∈vs,∃a xs,v=.ref a/\tW s.heap a xs/\∀u∈xs.toList,GD s u:=λv c=>by
  show aq (hr.all v c) λx hx k=>?_;show aq (p x hx) ?_;clear hx c p;ext m rfl d;show vh k λ_ _ e hi f=>?_;clear k;cases e
  .show#[_,_,rfl,hi,λu hu=>?_];show aq (f.all u (by simpa using hu)) λy hy j=>?_;cases φ
   .show az (d y hy) ?_;clear hy hu;ext i rfl;cases j;show#["int",rfl]
   show az (d y hy) ?_;clear hy hu;ext i rfl;cases j;show#["str",rfl]
 rw[kat_kind_eq,List.mapM_toArray,map_eq_pure_bind];show If (If (wZ (R:=λo=>∀u,o=some u->GD s u) vs (λv c z f=>?_) λm d=>Q8 ?_))
 .show fH (g v c) ?_;ext a xs rfl r;show az r λn ho=>?_;ext hu;rw[kas_first_eq];show If (UM #[_,ho,rfl] ?_);rw[RX (dR rfl)];show If (listItems_at ho rfl (Q8 (f _ λu q=>hu u ?_)));rw[<- RM]at q;show Q4 q
 split
 .show If (TY ?_);let e:(m.toArray.filterMap id)=(m.filterMap id).toArray:=by simp
  rw[e];show If (qq _ (λu hu=>?_) λo=>Q8 (h _ (.inr (.inr #[_,rfl]))));show aq (List.mem_filterMap.mp hu) λo ho e=>?_;show d o ho u e
 split
 .show Q8 (h _ (.inl rfl))
 show If (qq _ (λu hu=>?_) λo=>?_)
 .show fH (g u hu) ?_;ext a xs rfl t;show az t λn ho=>?_;ext _;show#["tuple",_,ho,rfl]
 split
 .show Q8 (h _ (.inr (.inl rfl)))
 show Q8 (h _ (.inl rfl))
theorem BQ{a:Addr}{P:Fin->Shared->Prop}(ho:s.heap.get? a=some (seqObj "list" vs.toArray n))(g:vs.length<64)
  (z:2<=vs.length->∀h',(∀b o,b≠a->s.heap.get? b=some o->h'.get? b=some o)->wpAny (model prog w) A (keyKind' vs.toArray) (λκ s'=>s'={s with heap:=h'}/\∀i j C,i<vs.length->j<vs.length->(∀b,C b s')->kas_ask prog w A κ vs i j C s') (λ_ _=>False) {s with heap:=h'})
  (h:∀(out:TW) c h',out.Perm vs->h'.get? a=some (seqObj "list" out.toArray c)->(∀b o,b≠a->s.heap.get? b=some o->h'.get? b=some o)->P (.done (.ret .none)) {s with heap:=h'}):
  wpAny (model prog w) A (Builtin.«list.sort» #[[.ref a],[]]) P E s:=by
 let F:=Sf ho;show az (show ∃e1,(s.heap.update a (Obj.mapSeq λ_=>#[])).get? a=some (seqObj "list" #[] e1) from#[_,get?_update_seq ho λ_=>#[]]) λe1 y=>?_;generalize hH:((s.heap.update a (Obj.mapSeq λ_=>#[])).push (seqObj "tuple" vs.toArray 0)).push (seqObj "list" #[] 0)=H;let keep:∀b o,b≠a->s.heap.get? b=some o->H.get? b=some o:=λb o k e=>by
  rw[<- hH];show Rh _ (Rh _ ((Heap.get?_update_other _ _ (Ne.symm k)).trans e))
 let f:H.get? a=some (seqObj "list" #[] e1):=by rw[<- hH];show Rh _ (Rh _ y)
 let fin:∀out:List Value,out.Perm vs->P (.done (.ret .none)) {s with heap:=H.update a (Obj.mapSeq λ_=>out.toArray)}:=λout q=>by
  show az (show ∃t,(H.update a (Obj.mapSeq λ_=>out.toArray)).get? a=some (seqObj "list" out.toArray t) from#[_,get?_update_seq f λ_=>out.toArray]) λt D=>?_;show h out t _ q D λb o k e=>(Heap.get?_update_other _ _ (Ne.symm k)).trans (keep b o k e)
 rw[list_sort_plain];show If (listItems_at ho rfl ?_);show If (listUpdate_at ho rfl ?_ (by rw[Ti,sizeLine_eq];show Gt (Rf g) (dR rfl)) (Rx _));show If (seqEpoch_at y rfl ?_);show If (wpAny_newTuple ?_ (by change vs.length<=_;rw[sizeLine_eq];show Gt (Rf g) (dR rfl)));show If (wpAny_newList ?_ (Rx _));show SB ?_;rw[hH];dsimp only;by_cases d:vs.toArray.size<2
 .rw[RO d,RO d];show If (Q8 ?_);rw[StateT.run_pure];show If (Q8 ?_);dsimp only;let e:(arrOf (SortSt.mk' general' (vs.toArray.zip vs.toArray) #[] 7 none)).map (·.2)=vs.toArray:=by
   apply Array.toList_inj.mp;simp[List.map_snd_zip]
  rw[e];show If (seqEpoch_at f rfl ?_);show If (listUpdate_at f rfl ?_ (Rx _) (by rw[Ti,sizeLine_eq];show Gt (Rf g) (dR rfl)));simp only[bne_self_eq_false,Bool.false_eq_true,if_false];show Q8 (fin vs (.refl _))
 rw[RX d,RX d];let u:2<=vs.length:=by rw[Ti]at d;show Sn.mp d
 show If (RQ (z u H keep) ?_ λ_ _ x=>x.elim);ext κ s' v;show ao v ?_;clear v;ext rfl B;let run:=bN.run (cmp:=kas_ask prog w A κ vs) (s:={s with heap:=H}) B (kas_sort vs.length) (Cx (Rc (dR rfl) u));show If (RQ (kat_run (Q:=λl s'=>∃p:Array Nat,p.size=vs.length/\arrOf l=p.map (kas_item (vs.toArray.zip vs.toArray))/\failedOf l=none/\Pm vs.length p/\s'={s with heap:=H})
  rfl u g (λp' l s' a1 a2 a3 a4=>#[p',a1,a2,a3,a4]) run) ?_ λ_ _ e=>e)
 ext⟨⟨⟩,l⟩ s' ⟨p,q,r,hf,m,rfl⟩;rw[kat_snds rfl r];let hsz:(List.toArray (p.toList.map λi=>vs.getD i Value.none)).size=vs.length:=by rw[Ti,Lt,SJ,q]
 show If (seqEpoch_at f rfl ?_);show If (listUpdate_at f rfl ?_ (Rx _) (Gt (RW hsz) (by rw[sizeLine_eq];show Gt (Rf g) (dR rfl))));rw[hf];simp only[bne_self_eq_false,Bool.false_eq_true,if_false];show Q8 (fin _ ?_);let:p.toList.Perm (List.range vs.length):=by simpa using m.toList
 show(this.map _).trans ?_;let e:(List.range vs.length).map (λi=>vs.getD i Value.none)=vs:=by
  apply Ug;ext i;rw[RF];by_cases hi:i<vs.length
  .rw[List.getElem?_range hi];simp[hi]
  rw[SG (by simpa using R6 hi),SG (R6 hi)];rfl
 rw[e]
theorem sE:plainId "list.__iadd__"=true:=by decide +kernel
theorem xx{it:Addr}{T:String}{Q:List Value->Shared->Prop}(hT:T="list"\/T="tuple")(ho:s.heap.get? it=some (seqObj T UZ n))(hsz:UZ.size<=sizeLine)
  (h:∀h',(∀b o,s.heap.get? b=some o->h'.get? b=some o)->Q UZ.toList {s with heap:=h'}):wpAny (model prog w) A (collect (.ref it)) Q E s:=by
 show If (wpAny_runValue (codeAny_builtin entry_proto_collect' ?_));show If (wpAny_newList (Q8 #[Code.quiet_builtin _ (by decide +kernel),codeAny_builtin entry_list_iadd' ?_]));erw[Around.under_plainId sE];let hS:(s.heap.push (seqObj "list" #[] 0)).get? s.heap.objs.size=some (seqObj "list" #[] 0):=RA _ rfl;let c:(s.heap.push (seqObj "list" #[] 0)).get? it=some (seqObj T UZ n):=Rh _ ho;show wpAny_extend_seq (R:=λr s'=>match r with
   |.ok (.ret v)=>wpAny (model prog w) A (match v with
    |.ref a=>do
     let o <- load a;match o.data with
     |.seq xs _=>pure xs.toList
     |_=>unsupported "internal:collect"
    |_=>unsupported "internal:collect") Q E s'
   |.ok _=>False
   |.error e=>E e s') (hsz:=hsz) s.heap.objs.size it (.ref s.heap.objs.size) 0 hT hS c rfl rfl ?_
 show If (wpAny_load (get?_update_seq hS _) ?_);change wpAny _ _ (pure (#[]++UZ).toList) Q E _;rw[show((#[]:TC)++UZ).toList=UZ.toList by simp];show Q8 (h _ λb o e=>?_);show(Heap.get?_update_other _ _ (Sy (Sf e))).trans (Rh _ e)
theorem v8{d:Nat}{ds:TE}{Q:List Value->Shared->Prop}(k:A.handled=none)(lo:(d== sysModules)=false)(ho:iX s.heap d ds ep)(hsz:ds.size<=sizeLine)
  (h:∀h' tk,(∀b o,s.heap.get? b=some o->h'.get? b=some o)->Q (ds.toList.map (·.key)) {s with heap:=h',toks:=tk}):wpAny (model prog w) A (collect (.ref d)) Q E s:=by
 show If (wpAny_runValue (codeAny_builtin entry_proto_collect' ?_));show If (wpAny_newList (Q8 #[Code.quiet_builtin _ (by decide +kernel),codeAny_builtin entry_list_iadd' ?_]));erw[Around.under_plainId sE];let hS:(s.heap.push (seqObj "list" #[] 0)).get? s.heap.objs.size=some (seqObj "list" #[] 0):=RA _ rfl;let f:=Sf ho;show kdl_extend (R:=λr s'=>match r with
   |.ok (.ret v)=>wpAny (model prog w) A (match v with
    |.ref a=>do
     let o <- load a;match o.data with
     |.seq xs _=>pure xs.toList
     |_=>unsupported "internal:collect"
    |_=>unsupported "internal:collect") Q E s'
   |.ok _=>False
   |.error e=>E e s') (sg d ds ep lo) k (Rh _ ho) s.heap.objs.size (Sy f) (Sy f) (.ref s.heap.objs.size) 0 hS (λh' tk acc c j hn g=>?_) hsz
 show If (wpAny_load hn ?_);change wpAny _ _ (pure acc.toList) Q E _;let e:acc.toList=ds.toList.map (·.key):=by
  apply Ug;ext i;rw[RF,RM,RM];cases hx:acc[i]? with
  |none=>
   let:ds.size<=i:=by rw[<- g.1];simpa using hx
   rw[Tt this];rfl
  |some v=>
   show aq (g.2 i v hx) ?_;clear hx;ext e he rfl;rw[he];rfl
 rw[e];show Q8 (h _ _ λb o e=>j b o (RY (Sf e)) (Rh _ e))
theorem aY.perm:∀{us ws:TW},us.Perm ws->∀{l:TV},aY h l ws->∃m,m.Perm l/\aY h m us:=by
 ext us ws g;induction g with
 |nil=>ext l r;cases r;show#[[],.refl _,.nil]
 |cons x _ f=>
  ext l r;cases r with
  |cons a b=>show aq (f b) λm h1 e=>#[_,h1.cons _,.cons a e]
 |swap x y _=>
  ext l r;cases r with
  |cons a b=>cases b with
   |cons c d=>show#[_,.swap _ _ _,.cons c (.cons a d)]
 |trans _ _ j k=>
  ext l r;show aq (k r) λm h1 e=>aq (j e) λm' h3 i=>#[m',h3.trans h1,i]
end
section
variable{X:Addr->Prop}{Q:QV}{x y:V}{a b c:Value}
theorem y2:∀{ns:TZ}{vs:TW},aY h (ns.map .int) vs->IntsAre vs ns
 := by
 ext ns;induction ns with
 |nil=>ext _ r;cases r;show .nil
 |cons n ns c=>
  ext _ r;cases r with
  |cons a b=>cases a;show .cons _ _ (c b)
theorem y1(r:IntsAre vs ns):aY h (ns.map .int) vs:=by
 induction r with
 |nil=>show .nil
 |cons n t _ a=>show .cons (.int n t) a
theorem wE{t1:Nat}{E:QS}(hu:A.units+8<cLine)(G:∀b o,s.heap.get? b=some o->h1.get? b=some o)(hr:aY s.heap l vs)(B:l.length<64)
  (I:∀(m:TV)(out:TW)(h':Heap)(t c:Nat)(C:Addr),(∀b o,s.heap.get? b=some o->h'.get? b=some o)->C=h1.objs.size->h'.get? C=some (seqObj "list" out.toArray c)->
   aY s.heap m out->m.Perm l->(∀ns:List Int,l=ns.map .int->∃ms:List Int,m=ms.map .int/\ms.Perm ns/\ms.Pairwise (·<=·))->E (.ref C) {s with heap:=h',toks:=t})
  (F:(∃ns:List Int,l=ns.map .int)\/(l.length<2\/(∀e∈l,∃i j:Int,e=.tup [.int i,.int j])\/(∀e∈l,∃xs:List Str,e=.tup (xs.map .str)))) {rest:Value->Sem Fin} {P:Fin->Shared->Prop} {L:QS}
  (J:∀C s',E (.ref C) s'->wpAny (model prog w) A (rest (.ref C)) P L s'):
  wpAny (model prog w) A (newList vs >>= λa=>holding [a] (call (.builtin "list.sort") [a]) >>= λ_=>rest a) P L {s with heap:=h1,toks:=t1}:=by
 let p:=hr.length;show If (wpAny_newList ?_ (by rw[sizeLine_eq];show Gt (Rf (p▸B)) (dR rfl)));let d:(h1.push (seqObj "list" vs.toArray 0)).get? h1.objs.size=some (seqObj "list" vs.toArray 0):=RA _ rfl;let old:∀(h':Heap),(∀b o,b≠h1.objs.size->(h1.push (seqObj "list" vs.toArray 0)).get? b=some o->h'.get? b=some o)->∀b o,s.heap.get? b=some o->h'.get? b=some o:=λh' k b o e=>
  k b o (RY (Sf (G b o e))) (Rh _ (G b o e))
 let fin:=λm out h' t c k ho M n hi=>I m out h' t c _ (old h' k) rfl ho M n hi;show If (SB (Sk slot_list_sort #[_,d,rfl] entry_list_sort ?_ (args_list_sort _)));by_cases f:∃ns:List Int,l=ns.map .int
 .show az f ?_;clear f;clear F I;ext ns rfl;show list_sort_tree (s:={s with heap:=h1.push (seqObj "list" vs.toArray 0),toks:=t1}) d (y2 hr) (p▸B) λout h a1 a2 a3=>#[_,rfl,J _ _ ?_];show az (show ∃y,(sortedHeap (h1.push (seqObj "list" vs.toArray 0)) h1.objs.size vs out).get? h1.objs.size=some (seqObj "list" out y) from by
   show az (show ∃e1,((h1.push (seqObj "list" vs.toArray 0)).update h1.objs.size (Obj.mapSeq λ_=>#[])).get? h1.objs.size=some (seqObj "list" #[] e1) from#[_,get?_update_seq d λ_=>#[]]) λe1 T=>?_;show#[_,get?_update_seq (Rh _ (Rh _ T)) λ_=>out]) λy R=>?_
  show fin (h.map .int) out.toList _ _ y (λb o H e=>?_) (by rw[Array.toArray_toList];show R) (y1 a1) (a2.map _) λns2 e=>#[h,rfl,?_,a3]
  .unfold sortedHeap;show(Heap.get?_update_other _ _ (Ne.symm H)).trans (Rh _ (Rh _ ((Heap.get?_update_other _ _ (Ne.symm H)).trans e)))
  rw[iH (λ_ _ q=>V.int.inj q) e.symm];show a2
 let X:=F.resolve_left f;let z:∀(out:TW) c h',out.Perm vs->h'.get? h1.objs.size=some (seqObj "list" out.toArray c)->(∀b o,b≠h1.objs.size->(h1.push (seqObj "list" vs.toArray 0)).get? b=some o->h'.get? b=some o)->E (.ref h1.objs.size) {s with heap:=h',toks:=t1}:=λout c h' n ho k=>by
  show aq (aY.perm n hr) λm σ Q=>?_;show fin m out h' t1 c k ho Q σ λns e=>absurd #[ns,e] f
 show BQ d (p▸B) (λO h' W=>?_) λout c h' n ho k=>#[_,rfl,J _ _ (z out c h' n ho k)];let K:=hr.keep (.of_keeps λb o e=>old h' W b o e);let flat:∃φ:FK,∀v∈l,∃m,v=.tup m/\φ.all m:=by
  rcases X with q|q|q
  .show absurd (p▸q) (Sn.mpr O)
  .show#[.i,λv g=>?_];show uJ (q v g) ?_;ext i j rfl;show#[_,rfl,λu hu=>by rcases RB.mp hu with rfl|hu;show#[i,rfl];show#[j,Q6.mp hu]]
  show#[.s,λv g=>?_];show az (q v g) ?_;ext xs rfl;show#[_,rfl,λu hu=>by show aq (Re.mp hu) ?_;ext x _ rfl;show#[x,rfl]]
 show az flat λφ D=>?_;show ES (s:={s with heap:=h',toks:=t1}) D K λκ Y=>#[rfl,λi j C hi N hC=>?_];let e:∀i,i<vs.length->∃v∈l,VR h' v (vs.getD i .none):=λi hi=>by
  let e1:vs[i]?=some (vs.getD i .none):=by simp[hi]
  show aq (K.get' e1) λv g r=>#[v,Q4 g,r]
 show aq (e i hi) λv g r=>?_;show aq (e j N) λu S ru=>?_;show aq (D v g) ?_;ext m1 rfl f1;show aq (D u S) ?_;ext m2 rfl f2;show KZ Y (by simp only;show Q5 (Rb (by decide:5<=8) A.units) hu) f1 f2 r ru hC
end
variable{h':Heap}
open PySem.Sem (wp)
section
variable{X:Addr->Prop}{Q:QV}{x y:V}{a b c:Value}
inductive Lv(w:World)(h:Heap):List V->Value->Prop
 |seq{l:TV}{t:Addr}{T:String}{UZ:TC}{n:Nat}:(T="list"\/T="tuple")->h.get? t=some (seqObj T UZ n)->aY h l UZ.toList->Lv w h l (.ref t)
 |dict{es:TD}{t ep:Nat}{ds:TE}:(t== sysModules)=false->iX h t ds ep->U6 w h es ds.toList->Lv w h (es.map (·.1)) (.ref t)
theorem ba.items(b:∀a o,U a=some o->(a== sysModules)=false)(S:ba w G U s.heap)(hx:VR s.heap x a)(h:b9 U x=some l):Lv w s.heap l a:=by
 cases hx with
 |tup hi hr=>cases Is h;show az hi λn e=>.seq (.inr rfl) e hr
 |ref p=>
  unfold b9 at h;dsimp only at h;cases e:U p with
  |none=>rw[e]at h;show nS h
  |some o=>
   rw[e]at h;induction o with
   |list m=>cases Is h;show ck (S.list e) λvs n e hr=>.seq (.inl rfl) e hr
   |dict es ep=>cases Is h;show bS (S.dict e) λds ho hr _=>.dict (b _ _ e) ho hr
   |_=>cases h
 |_=>cases h
theorem Hw(j:A.handled=none)(n:∀a o,U a=some o->(a== sysModules)=false)(S:ba w G U s.heap)(hx:VR s.heap x a)(h:Jb U Q x):
  wpAny (model prog w) A (call (.type "list") [a]) (aJ w G X U s Q) aV s:=by
 show iO h λl g h=>?_
 .show ao h ?_;clear h;ext hz h;let src:=S.items n hx g;induction src with
  |seq hT ho hr=>show Kf S hT ho hr hz h
  |@dict es t ep ds lo ho hr=>
   let k:ds.size=es.length:=by rw[hr.length];simp
   show kdl_call (sg t ds ep lo) j ho (by rw[k];show cf (by simpa using hz)) λh' tk acc c b hn d=>?_;let e:acc.toList=ds.toList.map (·.key):=by
    apply Ug;ext i;rw[RF,RM,RM];cases hx:acc[i]? with
    |none=>
     let:ds.size<=i:=by rw[<- d.1];simpa using hx
     rw[Tt this];rfl
    |some v=>
     show aq (d.2 i v hx) ?_;clear hx;ext e he rfl;rw[he];rfl
   let f:=S.fresh (Rm s.heap.objs.size);let m:Mv w G X U s U {s with heap:=h',toks:=tk}:=.keeps S b;show#[_,_,h _ f.2.1,.ref _,m.enter f.1 f.2.2 #[_,c,hn,by rw[e];show hr.Xh.keep (.of_keeps b)]]
theorem LH(k:∀b o,h.get? b=some o->h'.get? b=some o)(hz:h.objs.size<=h'.objs.size):∀C,h'.objs.size<=C->h.objs.size<=C:=λC hC=>Gt hz hC
theorem DY(E:A.handled=none)(hu:A.units+12<cLine)(J:∀a o,U a=some o->(a== sysModules)=false)(S:ba w G U s.heap)(hx:VR s.heap x a)(h:AN U Q x):
  wpAny (model prog w) A (call (.builtin "sorted") [a]) (aJ w G X U s Q) aV s:=by
 show iO h λl B h=>?_
 .show ao h ?_;clear h;ext u h;let src:=S.items J hx B;let z:(∃ns:List Int,l=ns.map .int)\/(l.length<2\/(∀e∈l,∃i j:Int,e=.tup [.int i,.int j])\/(∀e∈l,∃xs:List Str,e=.tup (xs.map .str))):=by
   rcases h with g|g
   .show aq g λns e _=>?_;show .inl #[ns,e]
   show ao g λq _=>?_;show .inr q
  let fin:∀(m:TV)(out:TW)(h':Heap)(t c:Nat)(C:Addr),(∀b o,s.heap.get? b=some o->h'.get? b=some o)->s.heap.get? C=none->G.H0.get? C=none->U C=none->h'.get? C=some (seqObj "list" out.toArray c)->
    aY s.heap m out->m.Perm l->(∀ns:List Int,l=ns.map .int->∃ms:List Int,m=ms.map .int/\ms.Perm ns/\ms.Pairwise (·<=·))->aJ w G X U s Q (.ref C) {s with heap:=h',toks:=t}:=λm out h' t c C d y v p ho n k hi=>by
   let mv:Mv w G X U s U {s with heap:=h',toks:=t}:=.keeps S d;let r:qf w G h' C (.list m):=#[out.toArray,c,ho,by simpa using n.keep (.of_keeps d)];show#[_,_,?_,.ref _,mv.enter y v r];rcases h with g|g
   .show aq g λns e h=>?_;show bS (hi ns e) ?_;clear r hi k n;ext ms rfl h1 F;show h C ms p h1 F
   show ao g λ_ h=>?_;show h C m p k
  show Calls.call_function_entry kind_sorted plain_sorted entry_sorted (args_sorted1 _)<|If (Q8 ?_);let tail:∀(vs:TW)(h1:Heap)(t1:Nat),(∀b o,s.heap.get? b=some o->h1.get? b=some o)->aY s.heap l vs->G.H0.get? h1.objs.size=none/\s.heap.get? h1.objs.size=none/\U h1.objs.size=none:=λvs h1 t1 d hr=>by
   let K:=S.keeps d;let f:=K.fresh (Rm _);show#[f.2.2,?_,f.2.1];cases q:s.heap.get? h1.objs.size with
   |none=>rfl
   |some o=>rw[d _ _ q]at f;cases f.1
  let go:∀(vs:TW)(h1:Heap)(t1:Nat),(∀b o,s.heap.get? b=some o->h1.get? b=some o)->aY s.heap l vs->
    wpAny (model prog w) A.in1 (newList vs >>= λa=>holding [a] (call (.builtin "list.sort") [a]) >>= λ_=>ret a) (λfin s'=>∃r,fin=.done (.ret r)/\aJ w G X U s Q r s') aV {s with heap:=h1,toks:=t1}:=λvs h1 t1 d hr=>by
   show bP (tail vs h1 t1 d hr) λy v p=>?_;show wE (by change A.units+1+8<cLine;show Q5 (Rb (by decide:9<=12) A.units) hu) d hr u (λm out h' t c C I hC ho n k hi=>?_) z λC s' D=>Q8 #[_,rfl,D];subst hC;show fin m out h' t c _ I v y p ho n k hi
  clear tail fin z h B hx;induction src with
  |seq hT ho hr=>
   show If (xx hT ho (by rw[<- hr.size,sizeLine_eq];show Gt (Rf u) (dR rfl)) λh' d=>go _ h' s.toks d hr)
  |@dict es t ep ds lo ho hr=>
   let H:ds.size=es.length:=by rw[hr.length];simp
   show If (v8 E lo ho (by rw[H,sizeLine_eq];simp at u;show Gt (Rf u) (dR rfl)) λh' tk d=>go _ h' tk d hr.Xh)
end
end
section
variable{a:Bool}{n:Nat}
structure Fx where
 scope:Scope
 loc:List (Str×Nat)
 Wh:List (Str×Nat)
 len:Nat
noncomputable def bV(fx:Fx)(n:Str):Option Nat:=(fx.scope.names.lookup n).bind λk=>bif k==.local then fx.loc.lookup n else bif k==.cell then fx.Wh.lookup n else none
noncomputable def vL(fx:Fx)(n:Str):Bool:=fx.scope.names.lookup n== some .globalImplicit
noncomputable def cV:V->Const
 |.bool b=>.bool b
 |.int i=>.int i
 |.str s=>.str s
 |_=>.none
noncomputable def Nh:V->Bool
 |.tup _=>false
 |.ref _=>false
 |_=>true
noncomputable def Kp:P->String
 |.len=>"len" |.list=>"list" |.tuple=>"tuple" |.dict=>"dict" |.sorted=>"sorted" |.abs=>"abs" |.int=>"int"
 |.append=>"append" |.extend=>"extend" |.pop=>"pop" |.index=>"index" |.get=>"get" |.setdefault=>"setdefault"
noncomputable def EZ:P->Bool
 |.append=>false|.extend=>false|.pop=>false|.index=>false|.get=>false|.setdefault=>false
 |_=>true
noncomputable def Vj(e:Expr):Nat:=[6,6,6,6,6,6,6,1,4,5,5,6,6,6,6,6,3,6,6,6,6,3,0,3,6,6,2].getD e.ctorIdx 6
noncomputable def jJ(e:Expr):Bool:=by
 cases e with
 |Call f l k _=>
  cases f with
  |Name _ _=>
   cases l with
   |nil=>
    cases k with
    |nil=>show false
    |_=>show true
   |_=>show true
  |_=>show true
 |_=>show true
noncomputable def wN(fx:Fx)(sc:Scope):Scope:=
 {sc with names:=sc.names.map λ(n,k)=>if(k==.free&& fx.scope.kind==.function&& fx.scope.names.lookup n== some .cell) then(n,.cell) else(n,k)}
noncomputable def eO(k:Nat):List Str->List (Str×Nat)
 |[]=>[]
 |x::r=>(x,k)::eO (k+1) r
noncomputable def py:List Str->Bool
 |[]=>true
 |x::r=>!r.contains x&& py r
noncomputable def zD(fx:Fx)(sc:Scope)(xs:TS):Bool:=
 sc.kind==.function&& sc.names.all (λx=>x.2 !=.cell)&& xs.all (λx=>sc.names.lookup x== some .local)&& py xs
 && sc.names.all (λx=>x.2 !=.local || sc.names.lookup x.1== some .local)
 && sc.names.all (λx=>x.2 !=.free || fx.scope.names.lookup x.1== some .cell)
noncomputable def fe(fx:Fx)(sc:Scope)(xs:TS):Fx:=#[wN fx sc,eO fx.len xs,fx.Wh,fx.len+xs.length]
noncomputable def Tx.nms:Tx->List Nm
 |.nm x=>[x]
 |.tup l _=>l
noncomputable def Tx.isTup:Tx->Bool
 |.nm _=>false
 |.tup _ _=>true
noncomputable def yc.Xb:yc->Bool
 |.enum _ _ _=>true
 |_=>false
noncomputable def Ts.short:Ts->Bool
 |.nil=>true
 |.cons _ .nil=>true
 |_=>false
noncomputable def Ts.isNil:Ts->Bool
 |.nil=>true
 |_=>false
noncomputable def E.WH:E->Bool
 |.comp _ _ _ _ _ _=>true
 |_=>false
section
variable(tab:wt)
noncomputable def pQ(x:Nm):Expr:=.Name (tab.nm x.n) (dP x.p)
noncomputable def FN:Tx->Expr
 |.nm x=>pQ tab x
 |.tup l p=>.Tuple (l.map (pQ tab)) 0 (dP p)
noncomputable def vG(fx:Fx)(x:Nm):Bool:=bV fx (tab.nm x.n)== some x.i&& !(tab.nm x.n== ("__debug__":Str))
noncomputable def iJ(fx:Fx)(n:Str):Bool:=vL fx n&& !(n== ("__debug__":Str))
noncomputable def Tx.strs(t:Tx):List Str:=t.nms.map λx=>tab.nm x.n
mutual
noncomputable def dE:E->Expr
 |.lit v p=>.Constant (cV v) 0 (dP p)
 |.neg i p q=>.UnaryOp .USub (.Constant (.int i) 0 (dP p)) (dP q)
 |.glob n p=>.Name (tab.nm n) (dP p)
 |.loc x=>pQ tab x
 |.bin o x y p=>.BinOp (dE x) o (dE y) (dP p)
 |.W6 e p=>.UnaryOp .Not (dE e) (dP p)
 |.ite t x y p=>.IfExp (dT t) (dE x) (dE y) (dP p)
 |.test t=>dT t
 |.tup es p=>.Tuple (t5 es) 0 (dP p)
 |.list es p=>.List (t5 es) (dP p)
 |.Vf p=>.Dict [] [] (dP p)
 |.Wy k v p=>.Dict [some (dE k)] [dE v] (dP p)
 |.comp elt t src ifs sc p=>.ListComp (dE elt) [#[FN tab t,CO src,CN ifs,0]] sc (dP p)
 |.attr e m p=>.Attribute (dE e) (tab.nm m) (dP p)
 |.VT e u p q=>.Subscript (dE e) (.Slice none (some (dE u)) none (dP p)) (dP q)
 |.VM e u p q=>.Subscript (dE e) (.Slice (some (dE u)) none none (dP p)) (dP q)
 |.item e i p=>.Subscript (dE e) (dE i) (dP p)
 |.prim b es p q=>.Call (.Name (Str.ofString (Kp b)) (dP p)) (t5 es) [] (dP q)
 |.call _ n es p q=>.Call (.Name (tab.nm n) (dP p)) (t5 es) [] (dP q)
 |.new _ n es p q=>.Call (.Name (tab.nm n) (dP p)) (t5 es) [] (dP q)
 |.U5 m e es p q=>.Call (.Attribute (dE e) (tab.nm m) (dP p)) (t5 es) [] (dP q)
 |.U1 b e es p q=>.Call (.Attribute (dE e) (Str.ofString (Kp b)) (dP p)) (t5 es) [] (dP q)
noncomputable def t5:Es->List Expr
 |.nil=>[]
 |.cons e es=>dE e::t5 es
noncomputable def dT:T->Expr
 |.truth e=>dE e
 |.cmp c x y p=>.Compare (dE x) [N1 c] [dE y] (dP p)
 |.not t p=>.UnaryOp .Not (dT t) (dP p)
 |.all ts p=>.BoolOp .And (CN ts) (dP p)
 |.any ts p=>.BoolOp .Or (CN ts) (dP p)
noncomputable def CN:Ts->List Expr
 |.nil=>[]
 |.cons t ts=>dT t::CN ts
noncomputable def CO:yc->Expr
 |.seq e=>dE e
 |.range e p q=>.Call (.Name "range" (dP p)) [dE e] [] (dP q)
 |.rev e p q=>.Call (.Name "reversed" (dP p)) [dE e] [] (dP q)
 |.enum e p q=>.Call (.Name "enumerate" (dP p)) [dE e] [] (dP q)
end
mutual
noncomputable def Bm:T->Bool
 |.cmp _ _ _ _=>true
 |.all ts _=>!ts.isNil&& tx ts
 |.any ts _=>!ts.isNil&& tx ts
 |_=>false
noncomputable def tx:Ts->Bool
 |.nil=>true
 |.cons t ts=>Bm t&& tx ts
end
mutual
noncomputable def fK:E->Fx->Bool
 |.lit v _,_=>Nh v
 |.neg _ _ _,_=>true
 |.glob n _,fx=>iJ fx (tab.nm n)
 |.loc x,fx=>vG tab fx x
 |.bin _ x y _,fx=>fK x fx&& fK y fx
 |.W6 e _,fx=>fK e fx
 |.ite t x y _,fx=>GP t fx&& (fK x fx&& fK y fx)
 |.test t,fx=>Bm t&& GP t fx
 |.tup es _,fx=>nT es fx
 |.list es _,fx=>nT es fx
 |.Vf _,_=>true
 |.Wy k v _,fx=>fK k fx&& fK v fx
 |.comp elt t src ifs sc _,fx=>zD fx sc (t.strs tab)&& (t.nms.map (·.i)== List.range' fx.len t.nms.length&& ((!src.Xb || t.isTup)&& (AT src fx&&
   (sI ifs (fe fx sc (t.strs tab))&& (ifs.short&& fK elt (fe fx sc (t.strs tab)))))))
 |.attr e _ _,fx=>jJ (dE tab e)&& fK e fx
 |.VT e u _ _,fx=>fK e fx&& fK u fx
 |.VM e u _ _,fx=>fK e fx&& fK u fx
 |.item e i _,fx=>fK e fx&& fK i fx
 |.prim b es _ _,fx=>EZ b&& (iJ fx (Str.ofString (Kp b))&& nT es fx)
 |.call f n es _ _,fx=>tab.fns n== some f&& (iJ fx (tab.nm n)&& nT es fx)
 |.new c n es _ _,fx=>tab.cls n== some c&& (iJ fx (tab.nm n)&& nT es fx)
 |.U5 _ e es p q,fx=>(dP p).endLine== (dP q).line&& ((t5 tab es).length.ble 19&& (jJ (dE tab e)&& (fK e fx&& nT es fx)))
 |.U1 b e es p q,fx=>(dP p).endLine== (dP q).line&& ((t5 tab es).length.ble 19&& (jJ (dE tab e)&& (!EZ b&& (fK e fx&& nT es fx))))
noncomputable def nT:Es->Fx->Bool
 |.nil,_=>true
 |.cons e es,fx=>!(Vj (dE tab e)== 0)&& (fK e fx&& nT es fx)
noncomputable def GP:T->Fx->Bool
 |.truth e,fx=>Vj (dE tab e)== 3&& fK e fx
 |.cmp _ x y _,fx=>!(Vj (dE tab y)== 1)&& (fK x fx&& fK y fx)
 |.not t _,fx=>GP t fx
 |.all ts _,fx=>sI ts fx
 |.any ts _,fx=>sI ts fx
noncomputable def sI:Ts->Fx->Bool
 |.nil,_=>true
 |.cons t ts,fx=>GP t fx&& sI ts fx
noncomputable def AT:yc->Fx->Bool
 |.seq e,fx=>!(Vj (dE tab e)== 1)&& fK e fx
 |.range e _ _,fx=>iJ fx "range" && (!(Vj (dE tab e)== 0)&& fK e fx)
 |.rev e _ _,fx=>iJ fx "reversed" && (!(Vj (dE tab e)== 0)&& fK e fx)
 |.enum e _ _,fx=>iJ fx "enumerate" && (!(Vj (dE tab e)== 0)&& fK e fx)
end
mutual
noncomputable def dS:S->Stmt
 |.expr e p=>.Expr (dE tab e) (dP p)
 |.VF x e p=>.Assign [pQ tab x] (dE tab e) (dP p)
 |.VL l q e p=>.Assign [.Tuple (l.map (pQ tab)) 0 (dP q)] (dE tab e) (dP p)
 |.U8 o m q e p=>.Assign [.Attribute (dE tab o) (tab.nm m) (dP q)] (dE tab e) (dP p)
 |.Ve o i q e p=>.Assign [.Subscript (dE tab o) (dE tab i) (dP q)] (dE tab e) (dP p)
 |.aug x e p=>.AugAssign (pQ tab x) .Add (dE tab e) (dP p)
 |.ite t a b p=>.If (dT tab t) (Db a) (Db b) (dP p)
 |.while t b p=>.While (dT tab t) (Db b) [] (dP p)
 |.for t s b p=>.For (FN tab t) (CO tab s) (Db b) [] (dP p)
 |.ret e p=>.Return (some (dE tab e)) (dP p)
 |.Y9 p=>.Return none (dP p)
 |.cont p=>.Continue (dP p)
 |.pass p=>.Pass (dP p)
 |.fail x p=>.Raise x none (dP p)
noncomputable def Db:Ss->List Stmt
 |.nil=>[]
 |.cons s ss=>dS s::Db ss
end
noncomputable def Tx.ok(t:Tx)(fx:Fx):Bool:=t.nms.all (vG tab fx)&& py (t.strs tab)
noncomputable def Au(e:Expr):Bool:=by
 cases e with
 |Tuple vs _ _=>show vs.all (constantsAlone 8)
 |_=>show false
mutual
noncomputable def OL:S->Fx->Bool
 |.expr e _,fx=>Vj (dE tab e)== 3&& fK tab e fx
 |.VF x e _,fx=>vG tab fx x&& ((e.WH || !(Vj (dE tab e)== 4 || Vj (dE tab e)== 5))&& fK tab e fx)
 |.VL l q e _,fx=>(Tx.tup l q).ok tab fx&& (!Au (dE tab e)&& fK tab e fx)
 |.U8 o _ _ e _,fx=>fK tab o fx&& fK tab e fx
 |.Ve o i _ e _,fx=>fK tab o fx&& (fK tab i fx&& fK tab e fx)
 |.aug x e _,fx=>vG tab fx x&& fK tab e fx
 |.ite t a b _,fx=>GP tab t fx&& (vD a fx&& vD b fx)
 |.while t b _,fx=>GP tab t fx&& vD b fx
 |.for t s b _,fx=>t.ok tab fx&& (AT tab s fx&& ((!s.Xb || t.isTup)&& vD b fx))
 |.ret e _,fx=>fK tab e fx
 |_,_=>true
noncomputable def vD:Ss->Fx->Bool
 |.nil,_=>true
 |.cons s ss,fx=>OL s fx&& vD ss fx
end
noncomputable def vk(k:NameKind)(names:List (Str×NameKind)):List (Str×Nat):=(names.zipIdx.filter λx=>x.1.2== k).map λx=>(x.1.1,x.2)
noncomputable def Fv(sc:Scope):Fx:=#[sc,vk .local sc.names,vk .cell sc.names,sc.names.length]
end
theorem av{b:Bool}(h:(a&& b)=true):a=true/\b=true:=R8.mp h
theorem zL(h:(!a)=true):a=false:=by induction a with|true=>cases h|false=>rfl
theorem pR{m:Nat}(h:(!(m== n))=true):m≠n:=λe=>by rw[e,RK]at h;cases h
theorem PG{b:Bool}(h:(!a || b)=true)(e:a=true):b=true:=by subst e;show h
end
section
variable{A:Around}{G:Gc}{L:aQ}{env:Env}{fx:Fx}{h':Heap}{i j t:Nat}{n:Str}{prog:Program}{s s':Shared}{u:Value}{v:V}{w:World}{U UX:aw}
open PySem.Sem (wp)
structure Fm(H0:Heap)(fx:Fx)(env:Env)(L:aQ)(U:aw)(h:Heap):Prop where
 scope:env.scope=fx.scope
 kind:fx.scope.kind=.function
 glob:env.globals=mainGlobals
 blt:env.builtins=builtinsNs
 len:L.length=fx.len
 ns:∃m,h.Ns env.locals m/\∀n i v,fx.loc.lookup n=some i->bJ L i=some v->∃u,m n=some u/\VR h v u
 own:U env.locals=none/\H0.get? env.locals=none
 cells:∀n i,fx.scope.names.lookup n=some .cell->fx.Wh.lookup n=some i->∃c o,env.cells.lookup n=some c/\h.IsCell c o/\∀v,bJ L i=some v->∃u,o=some u/\VR h v u
 XR:∀n c,env.cells.lookup n=some c->U c=none/\H0.get? c=none/\c≠env.locals/\∃o,h.IsCell c o
 apart:∀n n' c,env.cells.lookup n=some c->env.cells.lookup n'=some c->n=n'
structure xW(fx:Fx):Prop where
 loc:∀n n' i,fx.loc.lookup n=some i->fx.loc.lookup n'=some i->n=n'
 Wh:∀n n' i,fx.Wh.lookup n=some i->fx.Wh.lookup n'=some i->n=n'
 both:∀n n' i,fx.loc.lookup n=some i->fx.Wh.lookup n'=some i->False
 lt:∀n i,fx.Wh.lookup n=some i->i<fx.len
 has:∀n,fx.scope.names.lookup n=some .cell->∃i,fx.Wh.lookup n=some i
def XF(env:Env)(b:Addr):Prop:=b=env.locals\/∃n,env.cells.lookup n=some b
theorem cu(h:bV fx n=some i):(fx.scope.names.lookup n=some .local/\fx.loc.lookup n=some i)\/(fx.scope.names.lookup n=some .cell/\fx.Wh.lookup n=some i):=by
 show aq (So.mp h) λk e h=>?_;cases q:k==.local with
 |true=>rw[q]at h;show .inl #[RP.mp q▸e,h]
 |false=>
  rw[q]at h;cases q:k==.cell with
  |true=>rw[Ui,q]at h;show .inr #[RP.mp q▸e,h]
  |false=>rw[Ui,q]at h;cases h
theorem cv{w:V}(h:bJ (L.set i (some v)) j=some w):(i=j/\w=v)\/(i≠j/\bJ L j=some w):=by
 unfold bJ at h ⊢;rw[Uf]at h;by_cases e:i=j
 .rw[RO e]at h;split at h
  .simp at h;show .inl #[e,h.symm]
  simp at h
 rw[RX e]at h;show .inr #[e,h]
section
variable{X:Addr->Prop}{E:QS}
theorem Fm.of(F:Fm G.H0 fx env L U s.heap)(tk:aD s.heap h')(f:∀b o,XF env b->s.heap.get? b=some o->h'.get? b=some o)(hd:∀b,XF env b->UX b=none):Fm G.H0 fx env L UX h':=by
 obtain⟨a1,a2,a3,a4,w,⟨m,hm,k⟩,⟨A,j⟩,l,z,ap⟩:=F;let g:XF env env.locals:=.inl rfl;let cellK:∀n c o,env.cells.lookup n=some c->s.heap.IsCell c o->h'.IsCell c o:=λn c o e h=>(by show aq h λq h1 a=>#[q,f _ _ (.inr #[n,e]) h1,a]);show#[a1,a2,a3,a4,w,#[m,?_,λn i v e1 e2=>?_],#[hd _ g,j],λn i t e=>?_,λn c e=>?_,ap]
 .show uI hm λo es ep ho r=>#[o,es,ep,f _ _ g ho,r]
 .show aq (k n i v e1 e2) λu h1 a=>#[u,h1,a.keep tk]
 .show fH (l n i t e) λc o h1 a h3=>#[c,o,h1,cellK n c o h1 a,λv ev=>(by show aq (h3 v ev) λu x y=>#[u,x,y.keep tk])]
 show t9 (z n c e) λh1 a h3 d=>az d λo p=>#[hd _ (.inr #[n,e]),a,h3,o,cellK n c o e p]
theorem Fm.mv(F:Fm G.H0 fx env L U s.heap)(S:ba w G U s.heap)(m:Mv w G cE U s UX s'):Fm G.H0 fx env L UX s'.heap:=by
 let tk:=S.W5 m.st;show F.of tk (λb o h e=>m.st.keep b o e ?_ λx=>x) λb h=>?_
 .rcases h with rfl|c
  .show F.own.1
  show az c λn d=>(F.XR n b d).1
 rcases h with rfl|c
 .show aq F.ns ?_;ext mm a;show uI a λo es ep ho _=>?_;ext _;show m.st.W4 _ _ ho F.own.1 λx=>x
 show az c λn d=>?_;show t9 (F.XR n b d) λh1 i h3 g=>?_;show az g ?_;ext _ f;show aq f λo ho _=>?_;show m.st.W4 _ _ ho h1 λx=>x
theorem Mv.frame(S:ba w G U s.heap){a:Addr}(e:U a=none)(e0:G.H0.get? a=none)(f:Heap.SameBut a s.heap h')(ex:∃o,h'.get? a=some o)(nt:∀UZ n,s.heap.get? a≠some (seqObj "tuple" UZ n)):
  aD s.heap h'/\Mv w G (· = a) U s U {s with heap:=h',toks:=t}:=by
 let tk:aD s.heap h':=λb UZ n c=>by
  by_cases q:b=a
  .clear ex f e0 e;subst q;show absurd c (nt UZ n)
  show(f.2 b q).trans c
 let k:∀b d,b≠a->s.heap.get? b=some d->h'.get? b=some d:=λb d q c=>(f.2 b q).trans c;show#[tk,#[λb d c=>k b d (λq=>by rw[q,e0]at c;show nS c) (S.base b d c),λb d c=>?_],#[λb d c _=>?_,λb d c n x=>k b d x c,λb d c n _=>n],rfl,rfl]
 .show#[(S.obj b d c).1,(S.obj b d c).2.keep tk λro=>k b ro λq=>by rw[q,e]at c;show nS c]
 by_cases q:b=a
 .clear k nt f e0 e;subst q;show ex
 show#[d,k b d q c]
theorem Fm.load(F:Fm G.H0 fx env L U s.heap){Q:QS}(h:bV fx n=some i)(d:bJ L i=some v)(f:∀u,VR s.heap v u->Q u s):wpAny (model prog w) A (loadName env n) Q E s:=by
 let e:env.scope.kind=.function:=by rw[F.scope];show F.kind
 rcases cu h with a|a
 .show ao a λe1 e2=>?_;show aq F.ns λm g hr=>?_;show aq (hr n i v e2 d) λu h1 b=>?_;show wpAny_loadName_local e (by unfold Env.kindOf;rw[F.scope];show e1) g h1 (f u b)
 show ao a λe1 e2=>?_;show fH (F.cells n i e1 e2) λc o h1 b h3=>?_;show aq (h3 v d) ?_;clear h3;ext u rfl j;show wpAny_loadName_cell e (by unfold Env.kindOf;rw[F.scope];show e1) h1 b (f u j)
def GC(fx:Fx)(env:Env)(Y:Addr->Prop)(n:Str):Prop:=(fx.scope.names.lookup n=some .local->Y env.locals)/\(fx.scope.names.lookup n=some .cell->∀c,env.cells.lookup n=some c->Y c)
theorem GC.xf(n:Str):GC fx env (XF env) n:=#[λ_=>.inl rfl,λ_ c e=>.inr #[n,e]]
theorem Fm.store(F:Fm G.H0 fx env L U s.heap)(I:xW fx)(S:ba w G U s.heap){Q:Unit->Shared->Prop}{Y:Addr->Prop}(h:bV fx n=some i)(C:VR s.heap v u)(J:GC fx env Y n)
  (l:∀s',Fm G.H0 fx env (L.set i (some v)) U s'.heap->Mv w G Y U s U s'->aD s.heap s'.heap->Q () s'):wpAny (model prog w) A (storeName env n u) Q E s:=by
 let W:env.scope.kind=.function:=by rw[F.scope];show F.kind
 obtain⟨a1,a2,a3,a4,a5,⟨m,hm,B⟩,⟨P,O⟩,R,N,ap⟩:=F;rcases cu h with a|a
 .show ao a λe1 e2=>?_;clear a;let nt:∀UZ n,s.heap.get? env.locals≠some (seqObj "tuple" UZ n):=λUZ n e=>by
   show kD hm λo es ep ho hd _=>?_;rw[e]at ho;replace ho:=Is ho;cases ho;cases hd
  show wpAny_storeName_local (by unfold Env.kindOf;rw[a1];show e1) hm (λh' V k=>?_) (by rw[W];rfl);show ao (Mv.frame (t:=s.toks+1) S P O k (by show uI V λo es ep ho _=>#[o,ho]) nt) λtk mv=>?_;let cellK:∀n c o,env.cells.lookup n=some c->s.heap.IsCell c o->h'.IsCell c o:=λn c o e x=>x.sameBut k (N n c e).2.2.1;show l _ #[a1,a2,a3,a4,by rw[TB];show a5,#[_,V,λn' j x d ex=>?_],#[P,O],λn' j T d=>?_,λn' c e=>?_,ap] (mv.mono λb e=>e▸J.1 e1) tk
  .clear V e1 l J h;rcases cv ex with a|a
   .show ao a ?_;clear a;ext rfl rfl;let:=I.loc _ _ _ d e2;subst this;show#[u,RO rfl,C.keep tk]
   show ao a λz ex=>?_;show aq (B n' j x d ex) λy h1 f=>#[y,?_,f.keep tk];rw[RX (by ext rfl;rw[e2]at d;show z (Is d))];show h1
  .show fH (R n' j T d) λc o h1 f h3=>#[c,o,h1,cellK _ c o h1 f,λx ex=>?_];clear l C;rcases cv ex with a|a
   .show ao a ?_;clear a;clear ex h3;ext rfl rfl;show(I.both _ _ _ e2 d).elim
   show ao a λz ex=>aq (h3 x ex) λy p D=>#[y,p,D.keep tk]
  show t9 (N n' c e) λh1 f h3 Vm=>az Vm λo p=>#[h1,f,h3,o,cellK _ c o e p]
 show ao a λe1 e2=>?_;clear a;show fH (R n i e1 e2) λc o h1 f h3=>?_;show t9 (N n c h1) λc1 Z X _=>?_;let nt:∀UZ n,s.heap.get? c≠some (seqObj "tuple" UZ n):=λUZ n e=>by
  show aq f λq r hd=>?_;rw[e]at r;replace r:=Is r;cases r;cases hd
 show wpAny_storeName_cell W (by unfold Env.kindOf;rw[a1];show e1) h1 f λh' σ k=>?_;show ao (Mv.frame (t:=s.toks) S c1 Z k (by show aq σ λq r _=>#[q,r]) nt) λtk mv=>l _ #[a1,a2,a3,a4,by rw[TB];show a5,#[m,hm.sameBut k (Ne.symm X),λn' j x d ex=>?_],#[P,O],λn' j T d=>?_,λn' M e=>?_,ap] (mv.mono λb e=>e▸J.2 e1 c h1) tk
 .clear l C;rcases cv ex with a|a
  .show ao a ?_;clear a;ext rfl rfl;show(I.both _ _ _ d e2).elim
  show ao a λz ex=>?_;clear a;show aq (B n' j x d ex) λy p D=>#[y,p,D.keep tk]
 .show fH (R n' j T d) λM o' g K H=>?_;by_cases q:n'=n
  .clear H K e1 l J h;subst q;rw[h1]at g;replace g:=Is g;cases g;show#[_,_,h1,σ,λx ex=>?_];rcases cv ex with a|a
   .show ao a ?_;clear a;clear ex d;ext rfl rfl;show#[u,rfl,C.keep tk]
   show ao a λz ex=>?_;rw[e2]at d;show absurd (Is d) z
  show#[M,o',g,K.sameBut k (λe=>q (ap _ _ _ g (e▸h1))),λx ex=>?_];clear l C;rcases cv ex with a|a
  .show ao a ?_;clear a;clear ex H;ext rfl rfl;show absurd (I.Wh _ _ _ d e2) q
  show ao a λz ex=>aq (H x ex) λy p D=>#[y,p,D.keep tk]
 show t9 (N n' M e) λg K H U7=>az U7 λo' g4=>#[g,K,H,?_];by_cases q:M=c
 .clear mv k nt X Z c1 f h1;subst q;show#[_,σ]
 show#[o',g4.sameBut k q]
end
variable{K:Frag}{cl m n:Nat}{ds:TL}{dx:Addr}{expr:Bool}{fs:List (Nat×V)}{h:Heap}{hsh:Int}{name:Str}{ox:Obj}{pl:Sem Bool}{z:V}
open PySem.Sem (wp)
structure o9(K:Frag)(G:Gc)(tab:wt):Prop where
 inK:K.In G.H0
 fns:∀n a,tab.fns n=some a->nsIn K mainGlobals (tab.nm n)=some (some (.ref a))/\keepIn K (.ref a)=true
 cls:∀n c,tab.cls n=some c->nsIn K mainGlobals (tab.nm n)=some (some (.ref c))/\(tab.Wq c).isSome=true
 cst:∀n v,tab.cst n=some v->∃u,nsIn K mainGlobals (tab.nm n)=some (some u)/\VR G.H0 v u
 Yz:∀j k,G.nm j=G.nm k->j=k
 nms:∀k,G.nm k=tab.nm k
 bf:∀n∈["len","sorted","abs"],nsIn K mainGlobals (Str.ofString n)=some none/\nsIn K builtinsNs (Str.ofString n)=some (some (.builtin n))
 bt:∀n∈["list","tuple","dict","int","range","reversed","enumerate"],nsIn K mainGlobals (Str.ofString n)=some none/\nsIn K builtinsNs (Str.ofString n)=some (some (.type n))
 sys:∃o,G.H0.get? sysModules=some o
 mt:∀c f m r,tab.Wq c=some f->tab.mt c m=some r->findIn K (.ref c) (tab.nm m)=some (r.map .ref)
 mtf:∀c m f,tab.mt c m=some (some f)->isFn K (.ref f)=true/\keepIn K (.ref f)=true
 ok:∀c f,tab.Wq c=some f->makesIn K c=true/\findIn K (.ref c) "__init__"=some (some (.ref f))/\isFn K (.ref f)=true/\plainGet K c Str.empty=true/\hasDictIn K c=true /\
  findIn K (.ref c) "__setattr__"=some (some (.builtin "object.__setattr__"))/\plainOver K c=true/\keepIn K (.ref c)=true
 YO:∀c,G.cls c=c
theorem o9.Ww{tab:wt}(g:o9 K G tab)(S:ba w G U h):∀a o,U a=some o->(a== sysModules)=false:=λa o e=>by
 erw[beq_eq_false_iff_ne];ext rfl;show az g.sys λo' ho=>?_;rw[(S.obj _ _ e).1]at ho;show nS ho
theorem o9.at{tab:wt}(g:o9 K G tab)(S:ba w G U h):K.In h:=g.inK.keeps S.base
theorem Vl.noRef(r:Vl w G h fs ds):ds.any (·.refKey)=false:=by
 induction r with
 |nil=>rfl
 |cons a b r c=>
  rw[Ux,c];unfold DictEntry.refKey;rw[a];rfl
theorem uO{t:Tok}{x y:Str}:(Value.str x t).isStr y=(x== y):=rfl
theorem Vl.get(Yz:∀j k,G.nm j=G.nm k->j=k)(r:Vl w G h fs ds):
    match fs.lookup m with
    |some v=>∃u,getL (G.nm m) ds=some (some u)/\VR h v u
    |none=>getL (G.nm m) ds=some none
 := by
  induction r with
  |nil=>rfl
  |@cons k v e _ es ds a b r c=>
    let hn:=r.noRef;rw[RZ];by_cases q:m=k
    · subst q
      rw[RK];show#[e.val,?_,b];unfold getL;let e1:e.key.isStr (G.nm m)=true:=by rw[a];show RK _
      rw[List.find?_cons,e1]
    rw[SE q];let e1:e.key.isStr (G.nm m)=false:=by erw[a,uO,beq_eq_false_iff_ne];show λz=>q (Yz _ _ z).symm
    let e2:getL (G.nm m) (e::ds)=getL (G.nm m) ds:=by
      unfold getL;rw[List.find?_cons,e1,Ux];let:e.refKey=false:=by unfold DictEntry.refKey;rw[a]
      rw[this];rfl
    rw[e2];show c
theorem Vl.put(Yz:∀j k,G.nm j=G.nm k->j=k){t:Tok}(f:VR h v u)(r:Vl w G h fs ds)(hn:(fs.map (·.1)).Nodup):
  Vl w G h (if(fs.any λx=>x.1== m) then fs.map (λx=>if x.1== m then(m,v) else x) else fs++[(m,v)]) (putL (G.nm m) hsh (.str (G.nm m) t) u ds):=by
 induction r with
 |nil=>show .cons rfl f .nil
 |@cons k d e _ es ds a b r c=>
  let c:=c (R9.mp hn).2;by_cases q:k=m
  .clear c;clear c;subst q;let e1:e.key.isStr (G.nm k)=true:=by rw[a];show RK _
   unfold putL;rw[e1,RO rfl,Ux,RK,Bool.true_or,RO rfl,Sb,RK,RO rfl];let e2:es.map (λx=>if x.1== k then(k,v) else x)=es:=by
    rw[Ty λx hx=>?_,List.map_id];rw[RX (by erw[RP];show λq=>(R9.mp hn).1 (Re.mpr #[x,hx,q]))];rfl
   rw[e2];show .cons a f r
  let e1:e.key.isStr (G.nm m)=false:=by erw[a,uO,beq_eq_false_iff_ne];show λz=>q (Yz _ _ z)
  unfold putL;erw[e1,RX Sr,Ux,SE q,Bool.false_or,Sb,SE q,RX Sr];let:(if(es.any λx=>x.1== m)=true then(k,d)::es.map (λx=>if x.1== m then(m,v) else x) else(k,d)::es++[(m,v)])=(k,d)::(if(es.any λx=>x.1== m) then es.map (λx=>if x.1== m then(m,v) else x) else es++[(m,v)]):=by
   split<;>rfl
  rw[this];show .cons a b c
theorem Vl.length:∀{fs:List (Nat×V)}{ds:TL},Vl w G h fs ds->fs.length=ds.length
 |_,_,.nil=>rfl
 |_,_,.cons _ _ r=>by rw[Rq,Rq,r.length]
set_option tactic.hygienic true in
theorem B4(hn:(fs.map (·.1)).Nodup):((if(fs.any λx=>x.1== m) then fs.map (λx=>if x.1== m then(m,v) else x) else fs++[(m,v)]).map (·.1)).Nodup:=by
 split
 .rw[Su];let:((λx:Nat×V=>x.1)∘λx=>if(x.1== m)=true then(m,v) else x)=λx=>x.1:=by
   funext x;simp only[Function.comp];split
   .rename_i q;show(RP.mp q).symm
   rfl
  rw[this];show hn
 rename_i q
 erw[Rd,R3];show#[hn,by simp,λa d b c=>?_];simp at c;subst c;ext rfl;show aq (Re.mp d) λx hx e=>?_;show q (List.any_eq_true.mpr #[x,hx,by rw[e,RK]])
theorem qo(name:Str)(hsh:Int)(key v:Value):∀es:List DictEntry,(putL name hsh key v es).length<=es.length+1
 |[]=>Rm _
 |e::r=>by unfold putL;split;show Nat.le_succ _;show Nat.succ_le_succ (qo name hsh key v r)
section
variable{tab:wt}{X:Addr->Prop}{E:QS}{Q:QV}{x y:V}{a b c:Value}
theorem vM(g:o9 K G tab)(S:ba w G U s.heap){p d:Nat}(e:U p=some (.inst cl d))(e2:U d=some (.attrs fs)):
  ∃ds n,s.heap.get? d=some (dictOf ds n)/\Vl w G s.heap fs ds/\(fs.map (·.1)).Nodup/\InstAt s.heap p (instObj cl d) cl (some (dictOf ds n)):=by
 show fH (S.attrs e2) λds n ho hr a=>?_;let h1:=S.inst e;rw[g.YO]at h1;show#[ds,n,ho,hr,a,h1,rfl,rfl,ho]
theorem w8(r:VR h v u):handedIn u=true:=by cases r<;>rfl
theorem B0(g:o9 K G tab)(S:ba w G U s.heap){p d:Nat}(e:U p=some (.inst cl d))(e2:U d=some (.attrs fs))
  (l:(tab.Wq cl).isSome=true) (j:tab.mt cl m=some none) (i:fs.lookup m=some v) (h:Q v U):
  wpAny (model prog w) A (getAttr (.ref p) (tab.nm m) expr) (aJ w G X U s Q) aV s:=by
 show HO (vM g S e e2) λds k ho hr o I=>?_;show az (Sh.mp l) λf hf=>?_;show Qc (g.ok cl f hf) λ_ _ _ c b _=>?_;let a:=hr.get g.Yz (m:=m);rw[i,g.nms m]at a;show aq a ?_;ext u a ru;let n:=g.mt cl f m _ hf j;show get_value (g.at S) I (plainGet_of c).1 (findObj_own b n rfl a) (w8 ru) (aJ.val S h ru)
theorem D2(g:o9 K G tab)(S:ba w G U s.heap){p d f:Nat}{R:Value×List Value->Shared->Prop}(e:U p=some (.inst cl d))(e2:U d=some (.attrs fs))
  (j:(tab.Wq cl).isSome=true) (b:tab.mt cl m=some (some f)) (i:(fs.all λx=>x.1 != m)=true) (h:R (.ref f,[.ref p]) s):
  wpAny (model prog w) A (getMethod (.ref p) (tab.nm m) pl) R E s:=by
 show HO (vM g S e e2) λds k ho hr q I=>?_;show az (Sh.mp j) λf0 hf=>?_;show Qc (g.ok cl f0 hf) λ_ _ _ a o _=>?_;let c:=hr.get g.Yz (m:=m);let n:fs.lookup m=none:=by
  erw[List.lookup_eq_none_iff];ext x hx;let:=bne_iff_ne.mp (S5.mp i x hx);first|show beq_eq_false_iff_ne.mpr (Ne.symm this)|show bne_iff_ne.mpr (Ne.symm this)
 rw[n,g.nms m]at c;let l:=g.mt cl f0 m _ hf b;show method_fn (g.at S) I (plainGet_of a).1 (plainGet_of a).2 l (RP.mp (g.mtf cl m f b).1) (by change(lookIn (tab.nm m) (dictOf ds k)).map _=_;rw[lookIn_dict,c];rfl) h
set_option tactic.hygienic true in
theorem Hj{cl p:Addr}{tk:Tok}{v:Value}{es:TL}{R:Result->Shared->Prop}(f:K.In s.heap)(I:InstAt s.heap p ox cl (some (dictOf es n)))(hd:ox.dict=some dx)(l:plainOver K cl=true)(ht:takerIn K cl name=some none)(m:hasDictIn K cl=true)
  (d:(getL name es).isSome=true) (hz:es.length<=900)
  (h:∀h',Heap.SameBut dx s.heap h'->h'.get? dx=some (dictOf (putL name (PyData.keyHash w.params name) (.str name s.toks) v es) (putN name es n))->R (.ok (.ret .none)) {s with heap:=h',toks:=s.toks+1}):
  codeAny (model prog w) A (.call (.builtin "object.__setattr__") #[[.ref p,.str name tk,v],[]]) R s:=by
 show osa_open f I l ht λb=>?_;show aq (any_some m) λcd o r=>?_;let D:s.heap.get? dx=some (dictOf es n):=by let:=I.dict;rw[hd]at this;show this
 let g:(s.heap.update dx (Obj.putName name (PyData.keyHash w.params name) (.str name s.toks) v)).get? dx=some (dictOf (putL name (PyData.keyHash w.params name) (.str name s.toks) v es) (putN name es n)):=by
  let:=SH (Obj.putName name (PyData.keyHash w.params name) (.str name s.toks) v) D (by rw[putName_dict];rfl);rwa [putName_dict]at this
 obtain⟨hx,e,hn,-⟩:=I;obtain⟨t,j,k,i⟩:=ox;dsimp only at e hd;subst e hd;show If (Q8 (If (If (wpAny_loadPart hx (If ((looks_clsIn f o).here ?_))))));rw[r];show Q8 (a:=some dx) (If (Q8 (If ?_)));show If (If (wpAny_askSetting (Q8 (If (wpAny_mkText (If (wpAny_loadPart D ?_)))))));let c:(!es.toArray.any (·.key.isStr name)&& es.toArray.any (·.refKey))=false:=by
  unfold getL at d;rw[<- Array.any_toList,<- Array.any_toList];split at d
  .rename_i q he
   rw[List.any_eq_true.mpr #[q,List.mem_of_find?_eq_some he,List.find?_some he]];rfl
  split at d
  .cases d
  rename_i z;rw[Uq]at z;rw[z,Bool.and_false]
 dsimp only[dictOf];rw[aRefKeyMayBeTheName_at,c];show wpAny_updatePart D<|If (wpAny_lookBehind g (pastItsLine_dict (by let:=qo name (PyData.keyHash w.params name) (.str name s.toks) v es;rw[Ti,sizeLine_eq];show Gt this (Gt (Rj hz) (dR rfl)))) ?_);show Q8 (h _ (Sl ..) g)
theorem BZ(g:o9 K G tab)(S:ba w G U s.heap){p d:Nat}{Q:aw->Prop}(e:U p=some (.inst cl d))(e2:U d=some (.attrs fs))
  (z:(tab.Wq cl).isSome=true) (r:tab.mt cl m=some none) (hz:fs.length<100) (o:VR s.heap v u)
  (h:Q (bq U d (.attrs (if(fs.any λx=>x.1== m) then fs.map (λx=>if x.1== m then(m,v) else x) else fs++[(m,v)])))):
  wpAny (model prog w) A (setAttr (.ref p) (tab.nm m) u) (u5 w G X U s Q) aV s:=by
 show HO (vM g S e e2) λds k ho hr i I=>?_;show az (Sh.mp z) λf hf=>?_;show QA (g.ok cl f hf) λ_ _ _ D n l j _=>?_;let B:=g.mt cl f m _ hf r;let a:=hr.get g.Yz (m:=m);rw[g.nms m]at a;let b:(getL (tab.nm m) ds).isSome=true:=by
  cases q:fs.lookup m with
  |none=>rw[q]at a;rw[a];rfl
  |some v=>rw[q]at a;show aq a ?_;ext _ a _;rw[a];rfl
 let c:=hr.put g.Yz (m:=m) (hsh:=PyData.keyHash w.params (tab.nm m)) (t:=s.toks+1) o i;rw[g.nms m]at c;show set_plain (g.at S) I l (Hj (g.at S) I rfl j (by unfold takerIn;rw[B];rfl) n b (by rw[<- hr.length];show Nat.le_trans (Nat.le_of_lt hz) (dR rfl)) λh' C y=>?_);show#[_,h,Mv.update S e2 C λtk=>#[_,_,y,c.keep tk,B4 i]]
end
variable{kw:List (Str×Value)}{us:TW}{v:Value}{vs:TV}
open PySem.Sem (wp)
structure lx(n:Nat)(A:Around):Prop where
 handled:A.handled=none
 depth:A.depth+n<recursionLimit
 units:A.units+10*n+100<cLine
theorem lx.mono{m:Nat}(r:lx n A)(h:m<=n):lx m A:=#[r.handled,by let:=r.depth;show Q5 (Rb h _) this,by let:=r.units;show Q5 (Rv (Rb (RV 10 h) _) 100) this]
theorem lx.deeper(r:lx (n+1) A)(env:Env):lx n (A.deeper env):=#[r.handled,by let:=r.depth;change A.depth+1+n<_;rw[Tc];show this,by let:=r.units;change A.units+3+10*n+100<_;show Q5 (Rv (by erw[SI,Sc 3];show Rb (Rb (dR rfl) _) _) 100) this]
theorem lx.make(r:lx (n+1) A){c:Addr}{rest:TW}:lx n (A.under (.builtin "type.__call__" #[.ref c::rest,kw])):=by
 show#[r.handled,?_,?_]
 .let:=r.depth;change A.depth+Code.weight (.builtin "type.__call__" #[.ref c::rest,kw])+n<_;let e:Code.weight (.builtin "type.__call__" #[.ref c::rest,kw])=1:=by rfl
  rw[e,Tc];show this
 let:=r.units;change A.units+Code.cUnits (.builtin "type.__call__" #[.ref c::rest,kw])+10*n+100<_;let e:Code.cUnits (.builtin "type.__call__" #[.ref c::rest,kw])<=4:=by first|show Q7 rfl|(unfold Code.cUnits;simp[Code.frames])
 show Q5 (Rv (by erw[SI,Sc _ (10*n)];show Rb (Rb (Gt e (dR rfl)) _) _) 100) this
section
variable{tab:wt}{X:Addr->Prop}{E:QS}{x y:V}{a b c:Value}
theorem Fm.global(F:Fm G.H0 fx env L U s.heap)(g:o9 K G tab)(S:ba w G U s.heap){n:Str}{Q:QS}(hn:vL fx n=true)(a:nsIn K mainGlobals n=some (some v))(c:Q v s):
  wpAny (model prog w) A (loadName env n) Q E s:=by
 let b:env.scope.kind=.function:=by rw[F.scope];show F.kind
 rw[loadName_read b (by unfold Env.kindOf;rw[F.scope];show beq_iff_eq.mp hn)];unfold loadGlobal;rw[F.glob];show If ((looks_nsIn (g.at S) a).here (Q8 c))
theorem Fm.builtin(F:Fm G.H0 fx env L U s.heap)(g:o9 K G tab)(S:ba w G U s.heap){n:Str}{Q:QS}(hn:vL fx n=true)(h0:nsIn K mainGlobals n=some none)(a:nsIn K builtinsNs n=some (some v))(c:Q v s):
  wpAny (model prog w) A (loadName env n) Q E s:=by
 let b:env.scope.kind=.function:=by rw[F.scope];show F.kind
 rw[loadName_read b (by unfold Env.kindOf;rw[F.scope];show beq_iff_eq.mp hn)];unfold loadGlobal;rw[F.glob,F.blt];show If ((looks_nsIn (g.at S) h0).here (If ((looks_nsIn (g.at S) a).here (Q8 c))))
def gM(prog:Program)(w:World)(G:Gc)(r:Nat)(CS:QC):Prop:=
 ∀(A:Around)(f:Nat)(vs:TV)(us:TW)(U:aw)(s:Shared)(Q:QV),lx r A->ba w G U s.heap->aY s.heap vs us->CS f vs U Q->
  codeAny (model prog w) A (.call (.ref f) #[us,[]]) (wants (aJ w G cE U s Q) aV) s
theorem gM.call{r:Nat}{CS:QC}(h:gM prog w G r CS){f:Nat}{Q:QV}(R:lx r A)(S:ba w G U s.heap)(a:aY s.heap vs us)(b:CS f vs U Q):
  wpAny (model prog w) A (call (.ref f) us) (aJ w G cE U s Q) aV s:=
 wpAny_call (codeAny_mono (h A f vs us U s Q R S a b) λr s' hr=>by
  induction r with
  |error e=>show hr
  |ok fl=>cases fl<;>show hr)
theorem aJ.mono{UX:aw}{P d:QV}(h:aJ w G X U s P v s')(k:∀v U,P v U->d v U):aJ w G X U s d v s':=
 by show fH h λx τ a b c=>#[x,τ,k _ _ a,b,c]
theorem Mp{r:Nat}{CS:QC}(h:gM prog w G r CS)(g:o9 K G tab){f:Nat}{Q:QV}(R:lx (r+1) A)(S:ba w G U s.heap)(n:aY s.heap vs us)(hf:tab.Wq cl=some f)
  (q:∀a d,a≠d->U a=none->U d=none->CS f (.ref a::vs) (bq (bq U d (.attrs [])) a (.inst cl d)) λv U2=>v=.none/\Q (.ref a) U2):
  wpAny (model prog w) A (call (.ref cl) us) (aJ w G cE U s Q) aV s:=by
 show t9 (g.ok cl f hf) λm l k _=>?_;show wpAny_call ?_;obtain⟨c,y,d,t,os⟩:=s;let Z:=g.at S;show make_core (makes_of Z m) (looks_findIn Z l) (λself=>bind_fn Z self (RP.mp k)) (.inl rfl) ?_;let f1:=S.fresh (Rm c.objs.size);let f2:=S.fresh (SS c.objs.size);let z:c.objs.size+1≠c.objs.size:=Nat.succ_ne_self _;let hsz:(c.push emptyDict).objs.size=c.objs.size+1:=Heap.size_push ..;let D:ba w G U ((c.push emptyDict).push (instObj cl c.objs.size)):=(S.push _).push _;let gd:((c.push emptyDict).push (instObj cl c.objs.size)).get? c.objs.size=some emptyDict:=Rh _ (RA _ rfl);let u:((c.push emptyDict).push (instObj cl c.objs.size)).get? (c.objs.size+1)=some (instObj cl c.objs.size):=by
  let:=RA (c.push emptyDict) (o:=instObj cl c.objs.size) rfl;rwa [hsz]at this
 let C:ba w G (bq U c.objs.size (.attrs [])) ((c.push emptyDict).push (instObj cl c.objs.size)):=D.enter f1.2.2 #[[],0,gd,.nil,Un];let B:ba w G (bq (bq U c.objs.size (.attrs [])) (c.objs.size+1) (.inst cl c.objs.size)) ((c.push emptyDict).push (instObj cl c.objs.size)):=C.enter f2.2.2 (by change _=_;rw[g.YO];show u);let keep:∀b o,c.get? b=some o->((c.push emptyDict).push (instObj cl c.objs.size)).get? b=some o:=λb o e=>Rh _ (Rh _ e);let st:dM cE U c (bq (bq U c.objs.size (.attrs [])) (c.objs.size+1) (.inst cl c.objs.size)) ((c.push emptyDict).push (instObj cl c.objs.size)):=((dM.keeps keep).enter f1.1).enter f2.1;let call:=h (A.under (.builtin "type.__call__" #[.ref cl::us,[]])) f (.ref (c.objs.size+1)::vs) (.ref (c.objs.size+1)::us) _ #[(c.push emptyDict).push (instObj cl c.objs.size),y,d,t,os] _ R.make B (.cons (.ref _) (n.keep (.of_keeps keep))) (q _ _ z f2.2.1 f1.2.1);show codeAny_mono call λr s' hr=>?_;induction r with
 |error e=>show hr.elim
 |ok fl=>induction fl with
  |ret v=>
   show fH hr ?_;clear hr;ext x τ i;show ao i ?_;clear i;ext rfl p;ext j mv;cases j;show#[rfl,_,_,p,.ref _,#[mv.sim,st.trans mv.st,mv.gens,mv.os]]
  |_=>show hr.elim
end
variable{I:Addr}{target:Expr}{v:V}
open PySem.Sem (wp)
structure qg(prog:Program)(w:World)(G:Gc)(I:Addr)(wr:Addr->Prop)(items:TV)(gd:aw->Prop)(Yx:Bool)(St:Nat->Heap->Prop)(WD:Nat->Value->Heap->Prop):Prop where
 frame:∀i h h',St i h->aD h h'->(∀b o,wr b->h.get? b=some o->h'.get? b=some o)->St i h'
 live:∀i h,St i h->∀b,wr b->∃o,h.get? b=some o
 item:∀(A:Around)(U:aw)(s:Shared)(i:Nat)(v:V)(Q:Option Value->Shared->Prop),A.handled=none->A.units+30<cLine->items[i]?=some v->St i s.heap->gd U->ba w G U s.heap->(∀b,wr b->U b=none/\G.H0.get? b=none)->
  (∀u s',VR s'.heap v u->WD i u s'.heap->Mv w G wr U s U s'->aD s.heap s'.heap->Q (some u) s')->wpAny (model prog w) A (pyNext (.ref I)) Q aV s
 go:∀(A:Around)(U:aw)(s:Shared)(i:Nat)(target:Expr)(u:Value)(Q:Unit->Shared->Prop),(Yx=true->∃es k p,target= .Tuple es k p)->WD i u s.heap->ba w G U s.heap->(∀b,wr b->U b=none/\G.H0.get? b=none)->
  (∀s',St (i+1) s'.heap->Mv w G wr U s U s'->aD s.heap s'.heap->Q () s')->wpAny (model prog w) A (letOwnedTupleGo target (.ref I) u) Q aV s
 done:∀(A:Around)(U:aw)(s:Shared)(Q:Option Value->Shared->Prop),A.handled=none->A.units+30<cLine->St items.length s.heap->gd U->ba w G U s.heap->(∀b,wr b->U b=none/\G.H0.get? b=none)->
  (∀s',Mv w G wr U s U s'->aD s.heap s'.heap->Q none s')->wpAny (model prog w) A (pyNext (.ref I)) Q aV s
 self:∀(A:Around)(s:Shared)(i:Nat)(Q:QS),St i s.heap->Q (.ref I) s->wpAny (model prog w) A (pyIter (.ref I)) Q aV s
noncomputable def wU:List String:=["enumerate","zip","dict_itemiterator","dict_reverseitemiterator","odict_iterator","itertools.zip_longest","itertools.pairwise"]
section
variable{E:QS}
theorem jO{o:Obj}{T:String}{Q:Unit->Shared->Prop}(ho:s.heap.get? I=some o)(b:o.cls=.type T)(hn:wU.contains T=false)(h:Q () s):
  wpAny (model prog w) A (letOwnedTupleGo target (.ref I) u) Q E s:=by
 let body:wpAny (model prog w) A (do
   let (.ref r,.ref a):=(Value.ref I,u)|return
   let o <- load r;match o.cls,o.data with
   |.type n,.fields vs=>
    if wU.contains n&& vs[0]?== some (rawInt a) then
     rule "for.unpacks-the-owned-tuple"
     updateField r 0 .none
   |_,_=>pure ()) Q E s:=by
  induction u with
  |ref a=>
   show If (wpAny_load ho ?_);rw[b];cases o.data with
   |fields vs=>
    dsimp only;rw[hn,Bool.false_and,RX Sr];show Q8 h
   |_=>show Q8 h
  |_=>show Q8 h
 cases target<;>first|show Q8 h|show body
theorem Mv.one(S:ba w G U s.heap){a:Addr}{wr:Addr->Prop}(g:wr a)(e:U a=none)(e0:G.H0.get? a=none)(f:Heap.ExtBut a s.heap h')(nt:∀UZ n,s.heap.get? a≠some (seqObj "tuple" UZ n)):
  aD s.heap h'/\Mv w G wr U s U {s with heap:=h',toks:=t}:=by
 let tk:aD s.heap h':=λb UZ n c=>by
  by_cases q:b=a
  .clear f e0 e;subst q;show absurd c (nt UZ n)
  show f b _ q c
 let k:=λb d q c=>f b d q c;show#[tk,#[λb d c=>k b d (λq=>by rw[q,e0]at c;show nS c) (S.base b d c),λb d c=>?_],#[λb d c x=>#[d,k b d (λq=>x (q▸g)) c],λb d c n x=>k b d (λq=>x (q▸g)) c,λb d c n _=>n],rfl,rfl]
 .show#[(S.obj b d c).1,(S.obj b d c).2.keep tk λro=>k b ro λq=>by rw[q,e]at c;show nS c]
theorem Ct(a I:Addr)(l:TV)(z:a≠I):qg prog w G I (· = I) l (λU=>U a=some (.list l)) false (λi h=>h.IsListIter I a i) (λi _ h=>h.IsListIter I a (i+1)) where
 frame:=λi h h' st _ k=>st.at λo e=>k I o rfl e
 live:=λi h st b q=>by subst q;show aq st λo ho _=>#[o,ho]
 item:=λA U s i v Q m hu p st f S hn d=>by
  show ck (S.list f) λvs n ho hr=>?_;show aq (hr.get p) λu hx ru=>?_;show bS (id st) λoi c g j=>?_;show wpAny_pyNext_list_item st #[_,ho,rfl,n,rfl] (by rw[<- RM];show hx) λh' y r=>?_;show ao (Mv.one (t:=s.toks) S (wr:=λb=>b=I) rfl (hn I rfl).1 (hn I rfl).2 r.extBut λUZ n e=>by rw[e]at c;replace c:=Is c;cases c;cases j) λtk mv=>?_;show d u _ (ru.keep tk) y mv tk
 go:=λA U s i target u Q _ st S hn d=>by
  show bS (id st) λoi c g _=>?_;show jO c g (dR rfl) (d s st (.refl S) (λ_ _ _ e=>e))
 done:=λA U s Q m hu st f S hn d=>by
  show ck (S.list f) λvs n ho hr=>?_;show bS (id st) λoi c g j=>?_;show wpAny_pyNext_list_end m st #[_,ho,rfl,n,rfl] (by rw[hr.size];simp) λh' x=>?_;show ao (Mv.one (t:=s.toks) S (wr:=λb=>b=I) rfl (hn I rfl).1 (hn I rfl).2 x λUZ n e=>by rw[e]at c;replace c:=Is c;cases c;cases j) λtk mv=>?_;show d _ mv tk
 self:=λA s i Q st h=>wpAny_pyIter_listiter st h
theorem EU(a I:Addr)(l:TV)(UZ:TC)(D:a≠I):qg prog w G I (· = I) l (λ_=>True) false (λi h=>h.IsTupleIter I a i/\tW h a UZ/\aY h l UZ.toList) (λi _ h=>h.IsTupleIter I a (i+1)/\tW h a UZ/\aY h l UZ.toList) where
 frame:=λi h h' f tk k=>(by show bP f λst h1 y=>#[(by show aq st λo ho r=>#[o,k I o rfl ho,r]),h1.keep tk,y.keep tk])
 live:=λi h f b x=>by show ao f λst _=>?_;clear f;subst x;show aq st λo ho _=>#[o,ho]
 item:=λA U s i v Q m hu p ⟨st,hi,hr⟩ q S hn d=>by
  show aq (hr.get p) λu hx ru=>?_;show bS (id st) λoi c g j=>?_;show az (id hi) λn ho=>?_;show wpAny_pyNext_tuple_item st #[_,ho,rfl,n,rfl] (by rw[<- RM];show hx) λh' C z=>?_;show ao (Mv.one (t:=s.toks) S (wr:=λb=>b=I) rfl (hn I rfl).1 (hn I rfl).2 z.extBut λUZ n e=>by rw[e]at c;replace c:=Is c;cases c;cases j) λtk mv=>?_;show d u _ (ru.keep tk) #[C,hi.keep tk,hr.keep tk] mv tk
 go:=λA U s i target u Q _ st S hn d=>by
  show bS (id st.1) λoi c g _=>?_;show jO c g (dR rfl) (d s st (.refl S) (λ_ _ _ e=>e))
 done:=λA U s Q m hu ⟨st,hi,hr⟩ q S hn d=>by
  show bS (id st) λoi c g j=>?_;show az (id hi) λn ho=>?_;show wpAny_pyNext_tuple_end m st #[_,ho,rfl,n,rfl] (by rw[hr.size];simp) λh' B=>?_;show ao (Mv.one (t:=s.toks) S (wr:=λb=>b=I) rfl (hn I rfl).1 (hn I rfl).2 B λUZ n e=>by rw[e]at c;replace c:=Is c;cases c;cases j) λtk mv=>?_;show d _ mv tk
 self:=λA s i Q st h=>wpAny_pyIter_tupleiter st.1 h
theorem Cu(a I ep:Nat)(es:TD)(z:a≠I):qg prog w G I (· = I) (es.map (·.1)) (λU=>U a=some (.dict es ep)) false (λi h=>h.IsKeyIter I a i es.length ep) (λi _ h=>h.IsKeyIter I a (i+1) es.length ep) where
 frame:=λi h h' st _ k=>st.at λo e=>k I o rfl e
 live:=λi h st b q=>by subst q;show aq st λo ho _=>#[o,ho]
 item:=λA U s i v Q m hu p st g S hn f=>by
  show bS (S.dict g) λds ho hr _=>?_;let d:es.length=ds.size:=by rw[hr.length];simp
  show aq (hr.Xh.get p) λu hx ru=>?_;rw[RF,RM]at hx;show aq (SO.mp hx) ?_;clear hx;ext e he rfl;show bS (id st) λoi c j l=>?_;rw[d]at st;show jK st ho he λh' y r=>?_;show ao (Mv.one (t:=s.toks) S (wr:=λb=>b=I) rfl (hn I rfl).1 (hn I rfl).2 r.extBut λUZ n e=>by rw[e]at c;replace c:=Is c;cases c;cases l) λtk mv=>?_;show f e.key _ (ru.keep tk) (by rw[d];show y) mv tk
 go:=λA U s i target u Q _ st S hn f=>by
  show bS (id st) λoi c j _=>?_;show jO c j (dR rfl) (f s st (.refl S) (λ_ _ _ e=>e))
 done:=λA U s Q m hu st g S hn f=>by
  show bS (S.dict g) λds ho hr _=>?_;let d:es.length=ds.size:=by rw[hr.length];simp
  show bS (id st) λoi c j l=>?_;rw[d]at st;show lD m st ho (by simp[d]) λh' x=>?_;show ao (Mv.one (t:=s.toks) S (wr:=λb=>b=I) rfl (hn I rfl).1 (hn I rfl).2 x λUZ n e=>by rw[e]at c;replace c:=Is c;cases c;cases l) λtk mv=>?_;show f _ mv tk
 self:=λA s i Q st h=>wpAny_pyIter_keyiter st h
theorem BY(h:((List.range n).map λ(i:Nat)=>V.int (i:Int))[i]?=some v):i<n/\v=.int i:=by rw[RF]at h;show aq (SO.mp h) ?_;clear h;ext j a rfl;show az (RC.mp a) λhi e=>?_;simp at hi e;show#[hi,by rw[e]]
theorem y0(I:Addr)(n:Nat):qg prog w G I (· = I) ((List.range n).map λ(i:Nat)=>V.int (i:Int)) (λ_=>True) false (λi h=>IsRangeIter h I (i:Int) ((n:Int) - (i:Nat)) 1) (λi _ h=>IsRangeIter h I ((i+1:Nat):Int) ((n:Int) - ((i+1:Nat):Int)) 1) where
 frame:=λi h h' st _ k=>k I _ rfl st
 live:=λi h st b g=>by subst g;show#[_,st]
 item:=λA U s i v Q d hu c st f S hn a=>by
  show ao (BY c) ?_;clear c;ext hi rfl;show wpAny_pyNext_range_item st ((Int.sub_pos_of_lt (Sd.mpr hi))) λh' m j=>?_;show ao (Mv.one (t:=s.toks+1) S (wr:=λb=>b=I) rfl (hn I rfl).1 (hn I rfl).2 j.extBut λUZ n e=>by let:s.heap.get? I=_:=st;rw[e]at this;show absurd (Rs Obj.cls (Is this)) (by simp)) λtk mv=>?_;show a _ _ (.int _ _) ?_ mv tk;let e1:((i+1:Nat):Int)=i+1:=by push_cast;rfl
  let e2:n - ((i+1:Nat):Int)=n - i - 1:=by push_cast;show(Int.sub_sub _ _ _).symm
  rw[e2,e1];show m
 go:=λA U s i target u Q _ st S hn a=>jO st rfl (dR rfl) (a s st (.refl S) (λ_ _ _ e=>e))
 done:=λA U s Q d hu st f S hn a=>by
  rw[Lt,RN]at st;show wpAny_pyNext_range_end d st ((Int.le_of_eq (Int.sub_self _))) λh' l=>?_;show ao (Mv.one (t:=s.toks) S (wr:=λb=>b=I) rfl (hn I rfl).1 (hn I rfl).2 l λUZ n e=>by let:s.heap.get? I=_:=st;rw[e]at this;show absurd (Rs Obj.cls (Is this)) (by simp)) λtk mv=>?_;show a _ mv tk
 self:=λA s i Q st h=>wpAny_pyIter_rangeiter st h
end
end
section
variable{A:Around}{G:Gc}{UZ:TC}{n:Nat}{prog:Program}{s:Shared}{w:World}{U:aw}
open PySem.Sem (wp)
theorem jH:Manifest.owners.lookup (String.ofList ['d','e','s','r','e','v','e','r'].reverse)=some Manifest.sig_reversed:=by kernel_rfl
theorem bU:Slot "reversed" "__next__" "reversed.__next__" :=
 .of (owner:="reversed") (n:="__next__") (by rw[typeLookup_type,builtinLookup_eq_fast];kernel_rfl) (by decide +kernel) (by decide +kernel) (by decide +kernel)
  (by first|show .inl (by decide +kernel)|show .inr (by decide +kernel)) (by rw[isSubtype_type];kernel_rfl)
theorem d9:entryFor table "reversed.__next__"=some Builtin.«reversed.__next__»:=entryFor_of_tree (by kernel_rfl)
theorem fA(a:Value):argsOk "reversed.__next__" #[[a],[]]:=by unfold argsOk;rw[signature?_of (n:=['_','_','t','x','e','n','_','_']) (by kernel_rfl) jH];kernel_rfl
theorem eK:Slot "reversed" "__iter__" "reversed.__iter__" :=
 .of (owner:="reversed") (n:="__iter__") (by rw[typeLookup_type,builtinLookup_eq_fast];kernel_rfl) (by decide +kernel) (by decide +kernel) (by decide +kernel)
  (by first|show .inl (by decide +kernel)|show .inr (by decide +kernel)) (by rw[isSubtype_type];kernel_rfl)
theorem mT(a:Value):argsOk "reversed.__iter__" #[[a],[]]:=by unfold argsOk;rw[signature?_of (n:=['_','_','r','e','t','i','_','_']) (by kernel_rfl) jH];kernel_rfl
theorem kR:entryFor table "reversed.__iter__"=some Builtin.«dict_keyiterator.__iter__» :=
 entryFor_alias (id':="dict_keyiterator.__iter__") (by kernel_rfl) (by first|rfl|decide +kernel|(unfold String.splitOn;simp +decide [String.splitOnAux])) (by decide +kernel) (by kernel_rfl)
theorem n5:typeLookup (.type "tuple") "__reversed__"=pure none:=by rw[typeLookup_type,builtinLookup_eq_fast];kernel_rfl
theorem r9:isSubtype (.type "tuple") (.type "dict")=pure false:=by rw[isSubtype_type];kernel_rfl
theorem lX:Slot "reversed" "__init__" "object.__init__" :=
 .of (owner:="object") (n:="__init__") (by rw[typeLookup_type,builtinLookup_eq_fast];kernel_rfl) (by decide +kernel) (by decide +kernel) (by decide +kernel)
  (by first|show .inl (by decide +kernel)|show .inr (by decide +kernel)) (by rw[isSubtype_type];kernel_rfl)
theorem qS:TypeCalled "reversed" "reversed.__new__" "object.__init__" :=
 #[by decide +kernel,by decide +kernel,#[_,_,PySem.F.mro_reversed],PySem.F.made_reversed,by decide +kernel,PySem.F.sub_reversed_self,lX]
noncomputable abbrev gH(t:Addr)(i:Int):Obj:={cls:=.type "reversed",data:=.fields (List.toArray [.ref t,rawInt i])}
section
variable{E:QS}
theorem vx{t:Addr}{P:PySem.Fin->Shared->Prop}(ho:s.heap.get? t=some (seqObj "tuple" UZ n))(hz:UZ.size<=bu)
  (h:P (.done (.ret (.ref s.heap.objs.size))) {s with heap:=s.heap.push (gH t ((UZ.size:Int) - 1)),toks:=s.toks+1+1}):
  wpAny (model prog w) A (Builtin.«reversed.__new__» #[[.type "reversed",.ref t],[]]) P E s:=by
 let hT:s.TypeIs (.ref t) "tuple":=#[_,ho,rfl];show If (Ut (newClass_reversed _) ?_);show If (Ut (by first|rfl|kernel_rfl) ?_);show If (Ut (a:=()) (by first|rfl|kernel_rfl) ?_);try dsimp only
 show If (T9 hT n5 ?_);show If ?_;show If (Ul hT r9 ?_);show If (T9 hT slot_tuple_getitem.lookup ?_);dsimp only;rw[RO (dR rfl)];show Q8 ?_;show T2 rfl ?_;show If (PySem.P.len_tuple ho (by unfold bu at hz;lia) ?_);show If (Ut (by rfl) ?_);show If ?_;change wpAny _ _ (newObj (.type "reversed") (.fields (List.toArray [.ref t,rawInt ((UZ.size:Int) - 1)]))) _ _ _;show SN (Q8 h)
theorem kS{t:Addr}{Q:QS}(ho:s.heap.get? t=some (seqObj "tuple" UZ n))(hz:UZ.size<=bu)
  (h:Q (.ref s.heap.objs.size) {s with heap:=s.heap.push (gH t ((UZ.size:Int) - 1)),toks:=s.toks+1+1}):
  wpAny (model prog w) A (call (.type "reversed") [.ref t]) Q E s:=by
 show callType_newIn qS (dR rfl) (PySem.F.typeCall_reversed_1 _) (PySem.F.newCall_reversed_1 _) (λobj=>PySem.F.args_object_init_2 obj _) PySem.F.entry_reversed_new
  (S:=λ_ R s'=>s'=s/\R (.ok (.ret (.ref s.heap.objs.size))) {s with heap:=s.heap.push (gH t (UZ.size - 1)),toks:=s.toks+1+1}) (λA' R s' a=>by clear h;show ao a λe hR=>?_;clear a;subst e;show vx ho hz hR) #[rfl,#[_,RA _ rfl,rfl],h]
theorem Ny{n i:Nat}(h:i<n):(n:Int) - 1 - i=((n - 1 - i:Nat):Int):=by rw[Int.ofNat_sub (Nat.le_sub_one_of_lt h),Int.ofNat_sub (Q5 (Rx _) h)];rfl
theorem Px{n i:Nat}(h:i<n):(n:Int) - 1 - ((i+1:Nat):Int)=((n - 1 - i:Nat):Int) - 1:=by rw[<- Ny h];show(Int.sub_sub ((n:Int) - 1) i 1).symm
theorem Pw(n:Nat):(n:Int) - 1 - n = -1:=by rw[Int.sub_sub,Int.add_comm,<- Int.sub_sub,Int.sub_self];rfl
theorem EV(t I:Addr)(l:TV)(UZ:TC)(B:t≠I)(hz:l.length<=bu):qg prog w G I (· = I) l.reverse (λ_=>True) false (λi h=>h.get? I=some (gH t ((l.length:Int) - 1 - i))/\tW h t UZ/\aY h l UZ.toList)
  (λi _ h=>h.get? I=some (gH t ((l.length:Int) - 1 - (i+1:Nat)))/\tW h t UZ/\aY h l UZ.toList) where
 frame:=λi h h' c tk k=>(by show bP c λst h1 z=>?_;clear c;show#[k I _ rfl st,h1.keep tk,z.keep tk])
 live:=λi h c b y=>by show ao c λst _=>?_;clear c;subst y;show#[_,st]
 item:=λA U s i v Q p hu j ⟨st,hi,hr⟩ r S hn d=>by
  let f:i<l.length:=by
   let:=(RC.mp j).1;rw[RU]at this;show this
  rw[List.getElem?_reverse f]at j;show aq (hr.get j) λu hx ru=>az (id hi) λn ho=>?_;let hT:s.TypeIs (.ref I) "reversed":=#[_,st,rfl];let o:s.TypeIs (.ref t) "tuple":=#[_,ho,rfl];rw[Ny f]at st;unfold pyNext;show If (wpAny_attempt (wpAny_callSpecial?_slot (name:=Str.ofString "__next__") hT bU
   (Sk bU hT d9 ?_ (fA _))))
  show If (Ut (a:=(Value.ref I,[])) rfl ?_);show If (T5 st rfl (x:=.ref t) rfl ?_);show If (T5 st rfl rfl ?_);change wpAny _ _ (if((l.length - 1 - i:Nat):Int)<0 then _ else _) _ _ s;rw[RX (UA.mpr (Ry _))];show If (T9 o slot_tuple_getitem.lookup ?_);rw[RX (by simp)];show If (wpAny_mkInt ?_);let hy:UZ[l.length - 1 - i]?=some u:=by rw[<- RM];show hx
  unfold bu at hz;show If (wpAny_attempt (PySem.P.getItem_tuple (s:={s with toks:=s.toks+1}) ho (Uh (dR rfl) (Ry _)) (Int.lt_of_le_of_lt (SU.mpr (Gt (Gt (Nat.sub_le _ _) (Nat.sub_le _ _)) hz)) (dR rfl)) (by rw[seqIndex_of (Ry _) (Sd.mpr (hr.size▸Q5 (Nat.sub_le _ _) (Nat.sub_one_lt (Sy (Q5 (Rx _) f))))),Tj]) hy ?_));show If (T5 (s:={s with toks:=s.toks+1}) st rfl rfl ?_);show If (Uy (s:={s with toks:=s.toks+1}) st rfl (by simp) ?_);show Q8 #[u,rfl,Q8 ?_];show ao (Mv.one (t:=s.toks+1) S (wr:=λb=>b=I) rfl (hn I rfl).1 (hn I rfl).2 (Sl s.heap I (Obj.mapFields (·.setIfInBounds 1 (rawInt (((l.length - 1 - i:Nat):Int) - 1))))).extBut λUZ n e=>by rw[e]at st;show absurd (Rs Obj.cls (Is st)) (by simp)) λtk mv=>d u _ (ru.keep tk) #[?_,hi.keep tk,hr.keep tk] mv tk;let:=SH (Obj.mapFields (·.setIfInBounds 1 (rawInt (((l.length - 1 - i:Nat):Int) - 1)))) st rfl;rw[this,Px f];rfl
 go:=λA U s i target u Q _ st S hn d=>jO (T:="reversed") st.1 rfl (dR rfl) (d s st (.refl S) (λ_ _ _ e=>e))
 done:=λA U s Q p hu ⟨st,hi,hr⟩ r S hn d=>by
  let hT:s.TypeIs (.ref I) "reversed":=#[_,st,rfl];rw[RU,Pw]at st;unfold pyNext;show If (wpAny_attempt (wpAny_callSpecial?_slot (name:=Str.ofString "__next__") hT bU
   (Sk bU hT d9 ?_ (fA _))))
  show If (Ut (a:=(Value.ref I,[])) rfl ?_);show If (T5 st rfl (x:=.ref t) rfl ?_);show If (T5 st rfl (x:=rawInt (-1)) rfl ?_);change wpAny _ _ (if -1<0 then _ else _) _ _ s;rw[RO (dR rfl)];show If (TY ?_);show If<|If (Uy st rfl (by simp) ?_);let g:=SH (Obj.mapFields (·.setIfInBounds 1 (rawInt (-1)))) st rfl;show Uy g rfl (by simp) ?_;let q:Heap.ExtBut I s.heap ((s.heap.update I (Obj.mapFields (·.setIfInBounds 1 (rawInt (-1))))).update I (Obj.mapFields (·.setIfInBounds 0 .none))):=((Sl ..).trans (Sl ..)).extBut;show If<|If ?_;unfold newExc newTuple;show If (SN ?_ (by size_fits));show If (m:=firstArgMember _ _) (Ut (a:=Value.none) (by first|rfl|(simp only[firstArgMember];rfl)) ?_);show SN ?_ (by size_fits);unfold raiseNew;show If (wpAny_handled ?_);first|rw[show A.in1.handled=none from p]|rw[p]
  show If (Q8 (wpAny_throw ?_));show If (Ul (T:="StopIteration") (b:=true) #[_,RA _ rfl,rfl] isSubtype_stop ?_);obtain⟨tk,mv⟩:=Mv.one (t:=s.toks) S (wr:=λb=>b=I) rfl (hn I rfl).1 (hn I rfl).2 ((q.push _).push _) λUZ n e=>by rw[e]at st;show absurd (Rs Obj.cls (Is st)) (by simp)
  show Q8 (d _ mv tk)
 self:=λA s i Q st h=>by
  let hT:s.TypeIs (.ref I) "reversed":=#[_,st.1,rfl];show wpAny_pyIter_slot hT eK (Sk eK hT kR ?_ (mT _));show Q8 #[_,rfl,"reversed",_,hT,bU.lookup,h]
end
variable{h':Heap}{i t:Nat}{items:TC}{l:TV}{v:V}
open PySem.Sem (wp)
theorem CF(h:(f9 l)[i]?=some v):∃x,l[i]?=some x/\v=.tup [.int i,x]:=by
 unfold f9 at h;rw[RF,List.getElem?_zipIdx]at h;cases hx:l[i]? with
 |none=>rw[hx]at h;simp at h
 |some x=>rw[hx]at h;simp at h;show#[x,rfl,h.symm]
theorem v3:(f9 l).length=l.length:=by unfold f9;simp
section
variable{E:QS}
theorem n7{it t:Addr}{x:Value}{Q:QS}(hit:s.heap.IsTupleIter it t i)
  (ht:s.heap.IsTuple t items) (hx:items[i]?=some x)
  (d:∀h',h'.IsTupleIter it t (i+1)->Heap.SameBut it s.heap h'->Q x {s with heap:=h'}):
  wpAny (model prog w) A (Builtin.SmallTypes.nextOf (.ref it)) Q E s:=by
 show bS (id hit) λo ho c hd=>?_;show bS ht λol a _ e=>?_;show az e λnl b=>?_;show If (wpAny_callSpecial?_slot hit.typeIs PySem.F.slot_tuple_iterator_next
  (Sk PySem.F.slot_tuple_iterator_next hit.typeIs PySem.F.entry_tuple_iterator_next ?_ (PySem.F.args_tuple_iterator_next_1 _)))
 change wpAny _ _ (field (.ref it) 0 >>= _) _ _ s;show If (T5 ho hd (x:=.ref t) rfl ?_);rw[RX (show ¬((Value.ref t== Value.none)=true) from Sr)];show If (T5 ho hd rfl ?_);show If (UN a b ?_);simp only[Int.toNat_natCast,hx];show If (Uy ho hd (by simp) (Q8 #[x,rfl,Q8 (d _ ?_ (Sl ..))]));show#[_,SH _ ho (Obj.isFreed_of_fields (Obj.data_mapFields hd _)),(Obj.cls_mapFields ..).trans c,by
  erw[Obj.data_mapFields hd];simp[rawInt]]
theorem pB{it t:Addr}{Q:QS}(d:A.handled=none)
  (hit:s.heap.IsTupleIter it t i) (ht:s.heap.IsTuple t items) (hx:items[i]?=none)
  (f:∀h' e,Heap.ExtBut it s.heap h'->(∃o,h'.get? e=some o/\o.cls=.type "StopIteration")->E (.ref e) {s with heap:=h'}):
  wpAny (model prog w) A (Builtin.SmallTypes.nextOf (.ref it)) Q E s:=by
 show bS (id hit) λo ho h hd=>?_;show bS ht λol b _ g=>?_;show az g λnl c=>?_;show If (wpAny_callSpecial?_slot hit.typeIs PySem.F.slot_tuple_iterator_next
  (Sk PySem.F.slot_tuple_iterator_next hit.typeIs PySem.F.entry_tuple_iterator_next ?_ (PySem.F.args_tuple_iterator_next_1 _)))
 change wpAny _ _ (field (.ref it) 0 >>= _) _ _ s;show If (T5 ho hd (x:=.ref t) rfl ?_);rw[RX (show ¬((Value.ref t== Value.none)=true) from Sr)];show If (T5 ho hd (x:=.int i 0) rfl ?_);show If (UN b c ?_);simp only[Int.toNat_natCast,hx];show If (TY (If (Uy ho hd (by simp) ?_)));show If<|If (SN ?_ (by size_fits));show If (Ut (a:=Value.none) (by first|rfl|(simp only[firstArgMember];rfl)) ?_);show SN ?_ (by size_fits);show If (wpAny_handled ?_);first|rw[show A.in1.handled=none from d]|rw[d]
 show If (Q8 (wpAny_throw ?_));show f _ _ (((Sl ..).extBut.push _).push _) #[_,RA _ rfl,rfl]
theorem xq(c:A.handled=none)(it t:Addr)(f:t≠it)(items:TC):
  Draws prog w A it [it,t] items.size (λi v=>items[i]?=some v) (λi h=>h.IsTupleIter it t i/\h.IsTuple t items) where
 live:=λ_ _ st=>(by show aq st.1 λo ho _=>#[o,ho])
 frame:=λ_ _ _ st a=>#[(by show aq st.1 λo ho r=>#[o,a it (by simp) o ho,r]),(by show aq st.2 λo ho r=>#[o,a t (by simp) o ho,r])]
 item:=λi s Q E hi st d=>by
  show n7 st.1 st.2 (x:=items[i]) (by simp[hi]) λh' g b=>?_;show d _ h' s.toks (by simp[hi]) #[g,st.2.extBut b.extBut f] b
 done:=λs Q E st e=>pB c st.1 st.2 (by simp) e
theorem Mv.two(S:ba w G U s.heap){a c:Addr}{wr:Addr->Prop}(k:wr a)(j:wr c)(e:U a=none)(e0:G.H0.get? a=none)(f:U c=none)(f0:G.H0.get? c=none)
  (h:∀b o,b≠a->b≠c->s.heap.get? b=some o->h'.get? b=some o) (nt:∀UZ n,s.heap.get? a≠some (seqObj "tuple" UZ n)) (i:∀UZ n,s.heap.get? c≠some (seqObj "tuple" UZ n)):
  aD s.heap h'/\Mv w G wr U s U {s with heap:=h',toks:=t}:=by
 let tk:aD s.heap h':=λb UZ n d=>h b _ (by clear h e0 e;ext rfl;show nt UZ n d) (by clear h f0 f;ext rfl;show i UZ n d) d;show#[tk,#[λb g d=>h b g (λq=>by rw[q,e0]at d;show nS d) (λq=>by rw[q,f0]at d;show nS d) (S.base b g d),λb g d=>?_],
  #[λb g d x=>#[g,h b g (λq=>x (q▸k)) (λq=>x (q▸j)) d],λb g d n x=>h b g (λq=>x (q▸k)) (λq=>x (q▸j)) d,λb g d n _=>n],rfl,rfl]
 show#[(S.obj b g d).1,(S.obj b g d).2.keep tk λro=>h b ro (λq=>by rw[q,e]at d;show nS d) λq=>by rw[q,f]at d;show nS d]
theorem uM(e it:Addr)(src:Addr)(l:TV)(gd:aw->Prop)(f:Nat->Heap->Prop)(p:e≠it)(I:e≠src)(P:it≠src)
  (hf:∀i h h',f i h->aD h h'->(∀o,h.get? it=some o->h'.get? it=some o)->f i h')
  (y:∀i h,f i h->∃o,h.get? it=some o/\∀UZ n,o≠seqObj "tuple" UZ n)
  (B:∀(A:Around)(U:aw)(s:Shared)(i:Nat),A.handled=none->f i s.heap->gd U->ba w G U s.heap->∃(vs:TC)(St:Nat->Heap->Prop),aY s.heap l vs.toList/\Draws prog w A it [it,src] vs.size (λi v=>vs[i]?=some v) St/\St i s.heap /\
   ∀h',aD s.heap h'->(∀b o,b≠e->b≠it->s.heap.get? b=some o->h'.get? b=some o)->St (i+1) h'->f (i+1) h'):
  qg prog w G e (λb=>b=e\/b=it) (f9 l) gd true (λi h=>(∃old,IsEnum h e it i old)/\f i h)
   (λi u h=>∃a x,u=.ref a/\IsEnumOut h e it ((i:Int)+1) x a/\f (i+1) h) where
 frame:=λi h h' g tk k=>(by show ao g ?_;ext O;show az O λold he=>?_;ext st;show#[#[old,k e _ (.inl rfl) he],hf i h h' st tk λo=>k it o (.inr rfl)])
 live:=λi h g b M=>by
  clear B hf P I p;show ao g ?_;clear g;ext J;show az J λold he=>?_;clear J;ext st;rcases M with rfl|rfl
  .show#[_,he]
  show aq (y i h st) λo ho _=>#[o,ho]
 item:=λA U s i v Q C hu L ⟨⟨old,he⟩,st⟩ z S hn j=>by
  show aq (CF L) ?_;ext x hx rfl;show HO (B A.in1 U s i C st z S) λvs St hr D r back=>?_;show aq (hr.get hx) λu H ru=>?_;let σ:i<vs.size:=by
   rw[<- SJ,<- hr.length];show(RC.mp hx).1
  show aq (y i _ st) λoi m d=>?_;show wpAny_pyNext_enum_itemD D he r σ p (by simp[p,I]) λx' h' tk E R N hT hsz F=>?_;rw[RM,E]at H;clear E;cases H;show ao (Mv.two (t:=tk+1) S (wr:=λb=>b=e\/b=it) (.inl rfl) (.inr rfl) (hn e (.inl rfl)).1 (hn e (.inl rfl)).2 (hn it (.inr rfl)).1 (hn it (.inr rfl)).2 F
   (λUZ n q=>by let h0:s.heap.get? e=_:=he;rw[q]at h0;show absurd (Rs Obj.cls (Is h0)) (by simp)) (λUZ n q=>by rw[q]at m;show d UZ n (Is m).symm)) λc mv=>?_
  show j _ _ (.tup #[0,hT] (.cons (.int _ _) (.cons (ru.keep c) .nil))) #[_,u,rfl,R,back h' c F N] mv c
 go:=λA U s i target u Q ht ⟨a,x,hu,ho,st⟩ S hn j=>by
  subst hu;show ON (ht rfl) ?_;clear ht;ext _ _ _ rfl;show wpAny_letOwnedTupleGo_enum ho λh' T K=>?_;show ao (Mv.one (t:=s.toks) S (wr:=λb=>b=e\/b=it) (.inl rfl) (hn e (.inl rfl)).1 (hn e (.inl rfl)).2 K.extBut
   λUZ n q=>by let h0:s.heap.get? e=_:=ho;rw[q]at h0;show absurd (Rs Obj.cls (Is h0)) (by simp)) λc mv=>?_
  let e1:((i+1:Nat):Int)=i+1:=by push_cast;rfl
  show j _ #[#[x,by rw[e1];show T],hf _ _ _ st c λo q=>(K.2 it (Ne.symm p)).trans q] mv c
 done:=λA U s Q C hu ⟨⟨old,he⟩,st⟩ z S hn j=>by
  show HO (B A.in1 U s _ C st z S) λvs St hr D r back=>?_;show aq (y _ _ st) λoi m d=>?_;let:(f9 l).length=vs.size:=by rw[v3,hr.size]
  rw[this]at he r;show wpAny_pyNext_enum_endD D he r λh' hx=>?_;show ao (Mv.one (t:=s.toks) S (wr:=λb=>b=e\/b=it) (.inr rfl) (hn it (.inr rfl)).1 (hn it (.inr rfl)).2 hx λUZ n q=>by rw[q]at m;show d UZ n (Is m).symm) λc mv=>?_;show j _ mv c
 self:=λA s i Q g h=>(by show ao g ?_;ext V;show az V λold he=>?_;ext _;show wpAny_pyIter_enum he h)
theorem sR(e it src:Addr)(l:TV)(j:e≠it)(g:e≠src)(c:it≠src):
  qg prog w G e (λb=>b=e\/b=it) (f9 l) (λU=>U src=some (.list l)) true (λi h=>(∃old,IsEnum h e it i old)/\h.IsListIter it src i)
   (λi u h=>∃a x,u=.ref a/\IsEnumOut h e it ((i:Int)+1) x a/\h.IsListIter it src (i+1)):=
 uM e it src l _ _ j g c (λi h h' st _ k=>st.at k) (λi h st=>by
  show bS st λo ho m hd=>#[o,ho,λUZ n q=>by subst q;cases hd]) λA U s i f st d S=>by
  show ck (S.list d) λvs n ho hr=>#[vs,_,hr,Draws.list f it src (Ne.symm c) vs,#[st,#[_,ho,rfl,n,rfl]],λh' _ _ x=>x.1]
theorem ua(e it src:Addr)(l:TV)(UZ:TC)(t:e≠it)(g:e≠src)(f:it≠src):
  qg prog w G e (λb=>b=e\/b=it) (f9 l) (λ_=>True) true (λi h=>(∃old,IsEnum h e it i old)/\h.IsTupleIter it src i/\tW h src UZ/\aY h l UZ.toList)
   (λi u h=>∃a x,u=.ref a/\IsEnumOut h e it ((i:Int)+1) x a/\h.IsTupleIter it src (i+1)/\tW h src UZ/\aY h l UZ.toList):=
 uM e it src l _ _ t g f (λi h h' d tk k=>(by show bP d ?_;ext v;show aq v λo ho r=>?_;ext h1 c;show#[#[o,k o ho,r],h1.keep tk,c.keep tk])) (λi h d=>by
  show ao d λst _=>bS st λo ho z hd=>#[o,ho,λUZ n q=>by subst q;cases hd]) λA U s i p ⟨st,h1,c⟩ y S=>by
  show az (id h1) λn ho=>#[UZ,_,c,xq p it src (Ne.symm f) UZ,#[st,#[_,ho,rfl,n,rfl]],λh' tk m x=>?_];let j:=m src _ (Ne.symm g) (Ne.symm f) ho;show#[x.1,#[n,j],c.keep tk]
end
variable{it:Value}{s' s2:Shared}{to:Bool}{UX:aw}
open PySem.Sem (wp)
def eH(prog:Program)(w:World)(G:Gc)(P:QP)(to:Bool)(U:aw)(s:Shared)(it:Value)(s2:Shared):Prop:=
 ∃(I:Addr)(wr:Addr->Prop)(items:TV)(gd:aw->Prop)(a:Bool)(St:Nat->Heap->Prop)(WD:Nat->Value->Heap->Prop)(UX:aw),it=.ref I/\qg prog w G I wr items gd a St WD/\(a=true->to=true)/\St 0 s2.heap/\P items gd UX /\
  Mv w G cE U s UX s2/\∀b,wr b->s.heap.get? b=none/\G.H0.get? b=none/\UX b=none
section
variable{P:QP}{x:V}{a:Value}
theorem Mv.back{X:Addr->Prop}(m:Mv w G X U s UX s'){b:Addr}(a:¬X b)(h:s'.heap.get? b=none):s.heap.get? b=none:=by
 cases q:s.heap.get? b with
 |none=>rfl
 |some o=>show az (m.st.live b o q a) λo' e=>?_;rw[h]at e;show nS e
theorem eH.trans(m:Mv w G cE U s UX s')(h:eH prog w G P to UX s' it s2):eH prog w G P to U s it s2:=by show C6 h λI wr items gd i k=>?_;show Jh k λSt WD τ h1 g h3 f j=>bP j λe d c=>#[I,wr,items,gd,i,St,WD,τ,h1,g,h3,f,e,m.trans d,λb a=>#[m.back (λx=>x) (c b a).1,(c b a).2]]
theorem Kg(d:∀a o,U a=some o->(a== sysModules)=false)(S:ba w G U s.heap)(hx:VR s.heap x a)(h:yV U x P):wpAny (model prog w) A (pyIter a) (eH prog w G P false U s) aV s:=by
 let f:=S.fresh (Rm s.heap.objs.size);let fr:∀b,b=s.heap.objs.size->s.heap.get? b=none/\G.H0.get? b=none/\U b=none:=λb e=>by subst e;show#[f.1,f.2.2,f.2.1]
 show i3 hx h (λ_ _ h=>h.elim) (λl t us hi hr h=>?_) λr h=>H8 h (λl e h=>?_) λes ep e h=>?_
 ·.show az (id hi) λn ho=>?_;show wpAny_pyIter_tuple #[_,ho,rfl,n,rfl]<|#[_,_,_,_,_,_,_,U,rfl,EU _ s.heap.objs.size _ _ (RY (Sf ho)),(λx=>x),#[#[_,RA _ rfl,rfl,rfl],hi.keep .push,by simpa using hr.keep .push],h,.push S,fr]
 ·.show ck (S.list e) λvs n ho hr=>?_;show wpAny_pyIter_list #[_,ho,rfl,n,rfl]<|#[_,_,_,_,_,_,_,U,rfl,Ct r s.heap.objs.size l (RY (Sf ho)),(λx=>x),#[_,RA _ rfl,rfl,rfl],h,.push S,fr]
 show bS (S.dict e) λds ho hr _=>?_;let c:es.length=ds.size:=by rw[hr.length];simp
 show uN (d _ _ e) ho<|#[_,_,_,_,_,_,_,U,rfl,Cu r s.heap.objs.size ep es (RY (Sf ho)),(λx=>x),#[_,RA _ rfl,rfl,by rw[c];rfl],h,.push S,fr]
theorem nP(n:Int):Builtin.Range.rangeSize 0 n 1=(n.toNat:Int):=by
 unfold Builtin.Range.rangeSize;simp;by_cases h:0<n
 .rw[RO h,Int.max_eq_left (Int.le_of_lt h)]
 rw[RX h,Int.max_eq_right (UA.mp h)]
theorem wP{n:Int}(h:n.natAbs<=bu):Builtin.Range.small 0 n 1=true:=by unfold Builtin.Range.small;rw[nP];unfold Builtin.Range.rangeFitsLong;let a:=Uh Int.le_natAbs (SU.mpr h);let b:=Int.neg_le_of_neg_le (Uh (Int.natAbs_neg n▸Int.le_natAbs) (SU.mpr h));let p: -9223372036854775808<=n/\n<9223372036854775808:=#[Uh (dR rfl) b,Int.lt_of_le_of_lt a (dR rfl)];simp;show#[#[p,Uh (dR rfl) (Int.le_max_right n 0),Int.max_lt.mpr #[p.2,by decide]],.inr p]
theorem Ht{n:Int}{t:Tok}(S:ba w G U s.heap)(hn:n.natAbs<=bu)(h:P ((List.range n.toNat).map λ(i:Nat)=>V.int (i:Int)) (λ_=>True) U):
  wpAny (model prog w) A (call (.type "range") [.int n t]) (λa s1=>wpAny (model prog w) A (pyIter a) (eH prog w G P false U s) aV s1) aV s:=by
 show call_range_1<|wpAny_pyIter_range (RA _ rfl) (wP hn) ?_;let hsz:(s.heap.push {cls:=.type "range",data:=.fields (List.toArray [.int 0 s.toks,.int n t,.int 1 (s.toks+1)])}).objs.size=s.heap.objs.size+1:=Heap.size_push ..;let f:=S.fresh (SS s.heap.objs.size);show#[_,_,_,_,_,_,_,U,rfl,y0 _ n.toNat,(λx=>x),?_,h,.keeps S λb o e=>Rh _ (Rh _ e),λb e=>?_]
 .rw[nP];let:=RA (s.heap.push {cls:=.type "range",data:=.fields (List.toArray [.int 0 s.toks,.int n t,.int 1 (s.toks+1)])}) (o:={cls:=.type "range_iterator",data:=.fields (List.toArray [rawInt 0,rawInt n.toNat,rawInt 1])}) rfl;simpa using this
 let c:=e.trans hsz;subst c;show#[f.1,f.2.2,f.2.1]
theorem yJ(S:ba w G U s.heap)(hx:VR s.heap (.tup l) a)(hz:l.length<=bu)(h:P l.reverse (λ_=>True) U):
  wpAny (model prog w) A (call (.type "reversed") [a]) (λg s1=>wpAny (model prog w) A (pyIter g) (eH prog w G P false U s) aV s1) aV s:=by
 show vh hx λt UZ e hi hr=>?_;cases e
 .show az (id hi) λn ho=>?_;let d:=hr.length;show kS ho (by rw[Ti,<- d];show hz) ?_;let f:=S.fresh (Rm s.heap.objs.size);let I:=EV (prog:=prog) (w:=w) (G:=G) t s.heap.objs.size l UZ.toArray (RY (Sf ho)) hz;let st:(s.heap.push (gH t (UZ.toArray.size - 1))).get? s.heap.objs.size=some (gH t (l.length - 1 - ((0:Nat):Int))):=by
   let:=RA s.heap (o:=gH t (UZ.toArray.size - 1)) rfl;let e:(UZ.toArray.size - 1)=l.length - 1 - (0:Int):=by rw[Ti,<- d];simp
   rw[e]at this ⊢;show this
  let c:=And.intro st (And.intro (hi.keep (.push (o:=gH t (UZ.toArray.size - 1)))) (by simpa using hr.keep (.push (o:=gH t (UZ.toArray.size - 1)))));show I.self A _ 0 _ c<|#[_,_,_,_,_,_,_,U,rfl,I,(λx=>x),c,h,.push S,λb e=>by subst e;show#[f.1,f.2.2,f.2.1]]
theorem Bz{M:Model}{A:Around}{c:Value}{Q:Bool->Shared->Prop}{E:QS}{s:Shared}(h:∀b,Q b s):wpAny M A (Builtin.SmallTypes.calledThroughType c) Q E s:=by unfold Builtin.SmallTypes.calledThroughType;show If (wpAny_stack_any λst=>Q8 (h _))
theorem sK(t:Addr)(UZ:TC)(n:Nat):
  Meets (Builtin.«enumerate.__new__» #[[.type "enumerate",.ref t],[]]) (λ_ R s=>s.heap.get? t=some (seqObj "tuple" UZ n) /\
   R (.ok (.ret (.ref (s.heap.push {cls:=.type "tuple_iterator",data:=.fields (List.toArray [.ref t,.int 0 0])}).objs.size)))
    {s with heap:=(s.heap.push {cls:=.type "tuple_iterator",data:=.fields (List.toArray [.ref t,.int 0 0])}).push {cls:=.type "enumerate",data:=.fields (List.toArray [.none,.bool false,.ref s.heap.objs.size,rawInt 0,.none,.none])}}):=
 .of_wp λprog w A R s h=>by
  obtain⟨e,g,d,tk,os⟩:=s;show ao h ?_;ext a h;let f:=sub_enumerate;let c:Heap.IsTuple (Shared.heap #[e,g,d,tk,os]) t UZ:=#[_,a,rfl,n,rfl];wp_walk using Bz,AutoSeq1.wpAny_loadPart' a
  ext b;cases b
  .wp_walk using AutoSeq1.wpAny_loadPart' a,wpAny_pyIter_tuple c
   show#[_,rfl,h]
  wp_walk using AutoSeq1.wpAny_loadPart' a,wpAny_pyIter_tuple c
  show#[_,rfl,h]
theorem Ki(S:ba w G U s.heap)(hx:VR s.heap x a)(h:AP U x P):
  wpAny (model prog w) A (call (.type "enumerate") [a]) (λd s1=>wpAny (model prog w) A (pyIter d) (eH prog w G P true U s) aV s1) aV s:=by
 let f:=S.fresh (Rm s.heap.objs.size);let f2:=S.fresh (SS s.heap.objs.size);let fr:∀b,b=s.heap.objs.size+1\/b=s.heap.objs.size->s.heap.get? b=none/\G.H0.get? b=none/\U b=none:=λb e=>by
  rcases e with rfl|rfl
  .show#[f2.1,f2.2.2,f2.2.1]
  show#[f.1,f.2.2,f.2.1]
 show i3 hx h (λ_ _ h=>h.elim) (λl t UZ hi hr h=>?_) λr h=>iL h λl e h=>?_
 ·.show az (id hi) λn ho=>?_;let c:t<s.heap.objs.size:=Sf ho;show callType_new PySem.F.called_enumerate (dR rfl) (PySem.F.typeCall_enumerate_1 _) (PySem.F.newCall_enumerate_1 _) (λobj=>PySem.F.args_object_init_2 obj _) PySem.F.entry_enumerate_new
    (sK t UZ.toArray n) #[ho,?_]
   let hz:(s.heap.push {cls:=.type "tuple_iterator",data:=.fields (List.toArray [.ref t,.int 0 0])}).objs.size=s.heap.objs.size+1:=Heap.size_push ..;change _/\_;rw[hz];let he:IsEnum ((s.heap.push {cls:=.type "tuple_iterator",data:=.fields (List.toArray [.ref t,.int 0 0])}).push
     {cls:=.type "enumerate",data:=.fields (List.toArray [.none,.bool false,.ref s.heap.objs.size,rawInt 0,.none,.none])}) (s.heap.objs.size+1) s.heap.objs.size 0 .none:=by
    let:=RA (s.heap.push {cls:=.type "tuple_iterator",data:=.fields (List.toArray [.ref t,.int 0 0])})
     (o:={cls:=.type "enumerate",data:=.fields (List.toArray [.none,.bool false,.ref s.heap.objs.size,rawInt 0,.none,.none])}) rfl
    rw[hz]at this;show this
   show#[#[_,he,rfl],wpAny_pyIter_enum he ?_];let k:∀b o,s.heap.get? b=some o->((s.heap.push {cls:=.type "tuple_iterator",data:=.fields (List.toArray [.ref t,.int 0 0])}).push
     {cls:=.type "enumerate",data:=.fields (List.toArray [.none,.bool false,.ref s.heap.objs.size,rawInt 0,.none,.none])}).get? b=some o:=λb o e=>Rh _ (Rh _ e)
   show#[_,_,_,_,_,_,_,U,rfl,ua (s.heap.objs.size+1) s.heap.objs.size t _ UZ.toArray (Nat.succ_ne_self _) (Sy (TM c)) (Sy c),(λx=>x),
    #[#[_,he],#[_,Rh _ (RA _ rfl),rfl,rfl],hi.keep (.of_keeps k),by simpa using hr.keep (.of_keeps k)],h,.keeps (t:=s.toks) S k,fr]
 show ck (S.list e) λvs n ho hr=>?_;let c:r<s.heap.objs.size:=Sf ho;show call_enumerate_list #[_,ho,rfl,n,rfl] λh' he hit hsz g=>wpAny_pyIter_enum he ?_;show#[_,_,_,_,_,_,_,U,rfl,sR (s.heap.objs.size+1) s.heap.objs.size r l (Nat.succ_ne_self _) (Sy (TM c)) (Sy c),(λx=>x),#[#[_,he],hit],h,.keeps (t:=s.toks) S g,fr]
end
variable{L L':aQ}{env:Env}{fx:Fx}{is:TN}{u:Value}{us:TW}{vs:TV}
open PySem.Sem (wp)
section
variable{E:QS}{tab:wt}
theorem gZ{x:Nm}(h:vG tab fx x=true):bV fx (tab.nm x.n)=some x.i:=RP.mp (av h).1
theorem EK{x:Nm}(h:vG tab fx x=true):(tab.nm x.n== ("__debug__":Str))=false:=zL (av h).2
theorem tS(l:List Nm):(assignEach (l.map (pQ tab)) env).length=l.length/\(assignEach (l.map (pQ tab)) env).findIdx? (·.1)=none
 := by
  induction l with
  |nil=>show#[rfl,rfl]
  |cons x r c=>
    show ao c λa b=>?_;change((false,assign (pQ tab x) env)::assignEach (r.map (pQ tab)) env).length=_/\((false,assign (pQ tab x) env)::assignEach (r.map (pQ tab)) env).findIdx? (·.1)=none;show#[Rs (· + 1) a,by rw[List.findIdx?_cons,b];rfl]
theorem lY(h:bZ is vs L=some L'):is.length=vs.length
 := by
  induction is generalizing vs L with
  |nil=>induction vs with|nil=>rfl|cons _ _=>cases h
  |cons i is a=>induction vs with|nil=>cases h|cons v vs=>show Rs Nat.succ (a h)
def GH(w:World)(G:Gc)(fx:Fx)(env:Env)(Y:Addr->Prop)(U:aw)(L':aQ)(s s':Shared):Prop:=Fm G.H0 fx env L' U s'.heap/\Mv w G Y U s U s'/\aD s.heap s'.heap
theorem Hv(I:xW fx){Y:Addr->Prop}{l:List Nm}{Q:Unit->Shared->Prop}(c:∀x∈l,bV fx (tab.nm x.n)=some x.i/\GC fx env Y (tab.nm x.n))(h3:bZ (l.map (·.i)) vs L=some L')
  (r:aY s.heap vs us) (F:Fm G.H0 fx env L U s.heap) (S:ba w G U s.heap) (h:∀s',GH w G fx env Y U L' s s'->Q () s'):wpAny (model prog w) A (assignInOrder ((assignEach (l.map (pQ tab)) env).map (·.2)) us) Q E s:=by
 induction l generalizing vs us L s Q with
 |nil=>
  cases vs with
  |cons _ _=>(cases h3)
  |nil=>
   cases h3;cases r;show wpAny_assignInOrder_none (h s #[F,.refl S,λ_ _ _ e=>e])
 |cons x l f=>
  cases vs with
  |nil=>(cases h3)
  |cons v vs=>
   cases r with
   |cons a b=>
    show ao (c x (.head _)) λo y=>?_;show wpAny_assignInOrder_more (wpAny_assign_Name (F.store I S o a y λs1 j m1 Xd=>?_));show f (λx hx=>c x (.tail _ hx)) h3 (b.keep Xd) j m1.sim λs2 d=>(by show bP d λg m2 WP=>?_;show h s2 #[g,m1.trans m2,Xd.trans WP])
set_option tactic.hygienic true in
theorem Ka(I:xW fx){Y:Addr->Prop}{t:Tx}{Q:Unit->Shared->Prop}(k:A.handled=none)(d:lA t v L=some L')(g:∀x∈t.nms,bV fx (tab.nm x.n)=some x.i/\GC fx env Y (tab.nm x.n))(r:VR s.heap v u)
  (F:Fm G.H0 fx env L U s.heap) (S:ba w G U s.heap) (h:∀s',GH w G fx env Y U L' s s'->Q () s'):wpAny (model prog w) A (assign (FN tab t) env u) Q E s:=by
 induction t with
 |nm x=>
  cases d;show ao (g x (.head _)) λo y=>?_;show wpAny_assign_Name (F.store I S o r y λs1 a b c=>h s1 #[a,b,c])
 |tup l p=>
  cases r<;>first|cases d|skip
  rename_i vs a us hi hr
  show ao (tS (env:=env) (tab:=tab) l) λl1 l2=>?_;let hlen:(assignEach (l.map (pQ tab)) env).length=us.toArray.size:=by
   let:=lY d;rw[Lt,hr.length]at this;rw[l1,this,Ti]
  show wpAny_assign_Tuple k hi.isTup hlen l2 λh' m=>?_;let f:=λb o e=>m b o (RY (Sf e)) e;let mv:Mv w G cE U s U {s with heap:=h',toks:=s.toks}:=.keeps S f;show Hv I g d (hr.keep (.of_keeps f)) (F.mv S mv) mv.sim λs2 j=>(by show bP j λq m2 WP=>?_;show h s2 #[q,(mv.mono λ_ x=>x.elim).trans m2,aD.trans (.of_keeps f) WP])
end
variable{acc:List (Str×Addr)}{j k:Nat}{l names:List (Str×NameKind)}{n:Str}{sc:Scope}{xs:TS}{α:Type}
open PySem.Sem (wp)
theorem DV(h:env.scope=fx.scope):relabel sc env=wN fx sc:=by unfold relabel wN Env.kindOf;rw[h]
noncomputable def ia(env:Env):List (Str×NameKind)->List (Str×Addr)->List (Str×Addr)
 |[],acc=>acc
 |(n,k)::r,acc=>if k==.free then ia env r ((n,(env.cells.lookup n).getD 0)::acc) else ia env r acc
theorem v9{k:NameKind}{r:List (Str×NameKind)}:ia env ((n,k)::r) acc=if k==.free then ia env r ((n,(env.cells.lookup n).getD 0)::acc) else ia env r acc:=rfl
theorem zG(h:∀x∈sc.names,x.2=.free->∃c,env.cells.lookup x.1=some c):closureFor sc env=pure (ia env sc.names []):=by
 unfold closureFor;let go:∀(l:List (Str×NameKind))(acc:List (Str×Addr)),(∀x∈l,x.2=.free->∃c,env.cells.lookup x.1=some c)->
   (forIn l acc λx e=>(do
    if(x.2==.free)=true then do
     let a <- cellOf env x.1
     pure (ForInStep.yield ((x.1,a)::e))
    else pure (ForInStep.yield e):Sem (ForInStep (List (Str×Addr)))))=pure (ia env l acc):=by
  ext l;induction l with
  |nil=>ext acc _;rw[UT];rfl
  |cons x r d=>
   ext acc hx;obtain⟨n,k⟩:=x;rw[List.forIn_cons];rw[v9];by_cases q:(k== NameKind.free)=true
   .show az (hx _ (.head _) (RP.mp q)) λc f=>?_;simp only[q,if_true];unfold cellOf;rw[f];show d _ λx b=>hx x (.tail _ b)
   simp only[q];show d _ λx b=>hx x (.tail _ b)
 let:=go sc.names [] h;simpa using this
set_option tactic.hygienic true in
theorem xy{c:Addr}(h:(n,c)∈ia env l acc):(n,c)∈acc\/((n,.free)∈l/\c=(env.cells.lookup n).getD 0)
 := by
  induction l generalizing acc with
  |nil=>show .inl h
  |cons mk r b=>
    obtain⟨m,k⟩:=mk;rw[v9]at h;split at h
    · rename_i q
      rcases b h with h|a
      · clear b;rcases RB.mp h with h|h
        · show ao (SZ h) ?_;clear h;clear h;ext rfl rfl
          show .inr #[by rw[RP.mp q];show .head _,rfl]
        show .inl h
      show ao a λh e=>?_;show .inr #[.tail _ h,e]
    rcases b h with h|a
    · show .inl h
    show ao a λh e=>?_;show .inr #[.tail _ h,e]
theorem FY{x:Str×Addr}(h:x∈acc):x∈ia env l acc
 := by
  induction l generalizing acc with
  |nil=>show h
  |cons mk r a=>
    obtain⟨m,k⟩:=mk;rw[v9];split
    · show a (.tail _ h)
    show a h
theorem FX(h:(n,NameKind.free)∈l):∃c,(n,c)∈ia env l acc
 := by
  induction l generalizing acc with
  |nil=>show n0 h
  |cons mk r a=>
    obtain⟨m,k⟩:=mk;rw[v9];rcases RB.mp h with h|h
    · show ao (SZ h) ?_;ext rfl rfl
      rw[RO (by rfl)];show#[_,FY (.head _)]
    split
    · show a h
    show a h
theorem sM{l:List (Str×α)}{c:α}(h:(n,c)∈l):∃b,l.lookup n=some b:=by
 induction l with
 |nil=>(show n0 h)
 |cons x r a=>
  obtain⟨m,d⟩:=x;rw[RZ];cases q:n== m with
  |true=>show#[_,rfl]
  |false=>
   rcases RB.mp h with h|h
   .show ao (SZ h) ?_;ext rfl rfl;rw[RK]at q;show nF q.symm
   show a h
structure j6(fx:Fx)(sc:Scope)(xs:TS):Prop where
 kind:sc.kind=.function
 cell:∀y∈sc.names,y.2≠.cell
 own:∀x∈xs,sc.names.lookup x=some .local
 nodup:xs.Nodup
 loc:∀y∈sc.names,y.2=.local->sc.names.lookup y.1=some .local
 free:∀y∈sc.names,y.2=.free->fx.scope.names.lookup y.1=some .cell
theorem cZ:∀{l:TS},py l=true->l.Nodup
 |[],_=>Un
 |x::r,h=>by
  replace h:(!r.contains x&& py r)=true:=h;simp only[Bool.and_eq_true,Bool.not_eq_true',List.contains_eq_mem,decide_eq_false_iff_not]at h;show R9.mpr #[h.1,cZ h.2]
theorem uU(h:zD fx sc xs=true):j6 fx sc xs:=by unfold zD at h;simp only[Bool.and_eq_true,List.all_eq_true,beq_iff_eq,bne_iff_ne,Bool.or_eq_true]at h;show ao h ?_;ext g;show ao g ?_;ext a;show ao a ?_;ext a;obtain⟨⟨h1,f⟩,h3⟩:=a;ext d;ext c;ext b;show#[h1,λy hy=>f y hy,λx hx=>h3 x hx,cZ d,λy hy e=>(c y hy).resolve_left λq=>q e,λy hy e=>(b y hy).resolve_left λq=>q e]
theorem f7(h:(eO k xs).lookup n=some i):k<=i/\n∈xs/\xs[i - k]?=some n
 := by
  induction xs generalizing k with
  |nil=>cases h
  |cons x r a=>
    replace h:((x,k)::eO (k+1) r).lookup n=some i:=h;rw[RZ]at h;cases q:n== x with
    |true=>rw[q]at h;replace h:=Is h;cases h;rw[RP.mp q];show#[Rm _,.head _,by rw[SP];rfl]
    |false=>
      rw[q]at h;show bP (a h) λh1 b h3=>#[Rf h1,.tail _ b,Nat.sub_one_add_one (Nat.sub_ne_zero_of_lt h1)▸h3]
theorem vF(hn:xs.Nodup)(h:xs[j]?=some n):(eO k xs).lookup n=some (k+j)
 := by
  induction xs generalizing k j with
  |nil=>cases TX.symm.trans h
  |cons x r a=>
   induction j with
   |zero=>
    cases Is h;change((_,k)::eO (k+1) r).lookup _=_;rw[RZ,RK];rfl
   |succ j=>
    let h:r[j]?=some n:=h;let b:(n== x)=false:=by
      erw[beq_eq_false_iff_ne];ext rfl;show(R9.mp hn).1 (Q4 h)
    change((_,k)::eO (k+1) r).lookup _=_;rw[RZ,b];dsimp only;rw[a (R9.mp hn).2 h,SI,Sc 1 j]
theorem nO(h:(names.map λ(n,k)=>if(k== NameKind.free&& fx.scope.kind==.function&& fx.scope.names.lookup n== some .cell) then(n,NameKind.cell) else(n,k)).lookup n=some .cell)(c:∀y∈names,y.2≠.cell):
    (n,NameKind.free)∈names/\fx.scope.names.lookup n=some .cell
 := by
  induction names with
  |nil=>cases h
  |cons mk r d=>
    obtain⟨m,k⟩:=mk;rw[Sb]at h;by_cases q:(k== NameKind.free&& fx.scope.kind==.function&& fx.scope.names.lookup m== some .cell)=true
    · simp only[q,if_true]at h
      rw[RZ]at h;cases e:n== m with
      |true=>
        rw[RP.mp e];simp only[Bool.and_eq_true,beq_iff_eq]at q;rw[q.1.1];show#[.head _,q.2]
      |false=>
        rw[e]at h;show ao (d h λy hy=>c y (.tail _ hy)) λa b=>#[.tail _ a,b]
    let q':=Bool.eq_false_iff.mpr q;simp only[q',Bool.false_eq_true,if_false]at h;rw[RZ]at h;cases e:n== m with
    |true=>
      rw[e]at h;show absurd (Is h) (c _ (.head _))
    |false=>
      rw[e]at h;show ao (d h λy hy=>c y (.tail _ hy)) λa b=>#[.tail _ a,b]
theorem IB(I:xW fx)(h:j6 fx sc xs):xW (fe fx sc xs) where
 loc:=λn n' i h1 c=>by
  show bP (f7 h1) λ_ _ e1=>?_;show bP (f7 c) λ_ _ e2=>?_;rw[e1]at e2;show Is e2
 Wh:=λn n' i h1 c=>I.Wh n n' i h1 c
 both:=λn n' i h1 c=>by
  let a:=(f7 h1).1;let b:=I.lt n' i c;lia
 lt:=λn i h1=>by let:=I.lt n i h1;change i<fx.len+xs.length;lia
 has:=λn h1=>I.has n (nO h1 h.cell).2
theorem qn{x:Str}(h:sc.names.lookup x=some .local):(wN fx sc).names.lookup x=some .local:=by let e:∃env:Env,env.scope=fx.scope:=#[{scope:=fx.scope,locals:=0,globals:=0,cells:=[]},rfl];show az e λenv he=>?_;let:=lookup_relabel_local (env:=env) h;rw[he]at this;unfold Env.kindOf at this;rw[he]at this;show this
section
variable{E:QS}
theorem Fm.Xy(F:Fm G.H0 fx env L U s.heap)(ok:j6 fx sc xs)(I:xW fx):∀n c,(ia env sc.names []).lookup n=some c->env.cells.lookup n=some c:=λn c e=>by
 rcases xy (PySem.mem_of_lookup e)with h|d
 .show n0 h
 show ao d λh a=>?_;let b:=ok.free _ h rfl;show az (I.has n b) λi hi=>?_;show ck (F.cells n i b hi) λc' o h1 _=>?_;rw[h1]at a;rw[a];show h1
theorem Fm.comp(F:Fm G.H0 fx env L U s.heap)(ok:j6 fx sc xs)(I:xW fx){C:Addr}{m:Str->Option Value}(g:∀b o,s.heap.get? b=some o->h'.get? b=some o)(hC:h'.Ns C m)
  (t:U C=none) (r:G.H0.get? C=none) (z:s.heap.get? C=none) (M:aQ) (l:M=List.replicate xs.length none):
  Fm G.H0 (fe fx sc xs) (compEnvC sc (ia env sc.names []) C env) (L++M) U h':=by
 let cl:∀n c,(ia env sc.names []).lookup n=some c->env.cells.lookup n=some c:=λn c e=>by
  rcases xy (PySem.mem_of_lookup e)with h|w
  .show n0 h
  show ao w λh p=>?_;let f:=ok.free _ h rfl;show az (I.has n f) λi hi=>?_;show ck (F.cells n i f hi) λc' o h1 _=>?_;rw[h1]at p;rw[p];show h1
 let low:∀{i v},i<fx.len->bJ (L++M) i=some v->bJ L i=some v:=λ{i v} hi e=>by
  unfold bJ at e ⊢;rwa [Ru (by rw[F.len];show hi)]at e
 show#[DV F.scope,ok.kind,F.glob,F.blt,?_,#[m,hC,λn i v e1 e2=>?_],#[t,r],λn i y e=>?_,λn c e=>?_,λn n' c e1 e2=>F.apart n n' c (cl n c e1) (cl n' c e2)]
 .rw[Q9,F.len,l,Sp];rfl
 .exfalso;let hi:=(f7 e1).1;unfold bJ at e2;rw[Ro (by rw[F.len];show hi),l,TU]at e2;split at e2<;>cases e2
 .show ao (nO y ok.cell) λhf f=>?_;show fH (F.cells n i f e) λc o h1 j h3=>?_;show az (FX (env:=env) (acc:=[]) hf) λc' A=>?_;show az (sM A) λc'' a=>?_;let e3:=cl n c'' a;rw[h1]at e3;replace e3:=Is e3;cases e3;show#[c,o,a,j.keeps g,λv ev=>?_];show aq (h3 v (low (I.lt n i e) ev)) λu d x=>#[u,d,x.keep (.of_keeps g)]
 show t9 (F.XR n c (cl n c e)) λh1 j h3 B=>az B λo d=>#[h1,j,?_,o,d.keeps g];clear e r t hC;ext rfl;show aq d λq k _=>?_;rw[z]at k;show nS k
end
end
section
variable{A:Around}{G:Gc}{I:Addr}{L L':aQ}{M:Model}{env:Env}{fx:Fx}{i j:Nat}{iter target:Expr}{pos:Pos}{prog:Program}{s s' s0:Shared}{sc scope:Scope}{to:Bool}{v:V}{w:World}{x:Nm}{α:Type}{U UX U0 τ VO:aw}
open PySem.Sem (wp)
theorem gC{m:Sem α}{Q:α->Shared->Prop}{E:QS}(h:wpAny M A m Q aV s):wpAny M A m Q E s:=RQ h (λ_ _ x=>x) λ_ _ x=>x.elim
noncomputable def Dv(ifs:List Expr)(env:Env):Sem Bool:=forIn ifs true λc r=>if r=true then do let ok <- isTrue c env (eval c env);pure (ForInStep.yield ok) else pure (ForInStep.yield r)
section
variable{R:Result->Shared->Prop}
theorem xu{elt:Expr}{ifs:List Expr}{it acc:Value}(I:Nat->Shared->Prop)
  (turn:∀n s,I n s->wpAny (model prog w) A (pyNext it) (λr d=>match r with
   |none=>R (.ok .next) d
   |some v=>wpAny (model prog w) A (letOwnedTupleGo target it v) (λ_ j=>wpAny (model prog w) A (assign target env v) (λ_ l=>
     wpAny (model prog w) A (Dv ifs env) (λok e=>
      if ok=true then wpAny (model prog w) A (eval elt env) (λx i=>
       wpAny (model prog w) A (call (.builtin "list.append") [acc,x]) (λ_ g=>∃m,m<n/\I m g) aV i) aV e
      else ∃m,m<n/\I m e) aV l) aV j) aV d) aV s)
  (n:Nat) (h:I n s):
  codeAny (model prog w) A (.compLoop (.ListComp elt [#[target,iter,ifs,0]] scope pos) 0 it acc env) R s:=by
 show codeAny_loop rfl I (λn s o=>?_) n h;change wpAny _ A ((compTurn (.ListComp elt [#[target,iter,ifs,0]] scope pos) 0 it acc env).onRaise (λx=>do noteFrame x env;theTreesLotGoes x)) _ _ s;show wpAny_noted ?_;rw[compTurn_list];show If (wpAny_standAt (If (RQ (turn n s o) (λr d k=>?_) λ_ _ h'=>h'.elim)));induction r with
 |none=>show Q8 k
 |some v=>
  show If (RQ k (λ_ j a=>?_) λ_ _ h'=>h'.elim);show If (RQ a (λ_ l p=>If (RQ p (λok e f=>?_) λ_ _ h'=>h'.elim)) λ_ _ h'=>h'.elim);induction ok with
  |false=>show Q8 #[rfl,f]
  |true=>
   show If (If (RQ f (λx i c=>If (RQ c (λ_ g b=>Q8 (Q8 #[rfl,b])) λ_ _ h'=>h'.elim)) λ_ _ h'=>h'.elim))
end
section
theorem Mv.Xc{X:Addr->Prop}(m:Mv w G X U s UX s')(h:∀b,X b->s.heap.get? b=none):Mv w G cE U s UX s':=by
 let a:∀b o,s.heap.get? b=some o->¬X b:=λb o e x=>by rw[h b x]at e;show nS e
 show#[m.sim,#[λb o e _=>m.st.live b o e (a b o e),λb o e n _=>m.st.keep b o e n (a b o e),λb o e n _=>m.st.W4 b o e n (a b o e)],m.gens,m.os]
theorem vo(vs:TV)(L M:aQ)(k:Nat)(is:TN)(c:k=L.length)(b:M.length=vs.length)(hi:is=List.range' k vs.length):bZ is vs (L++M)=some (L++vs.map some)
 := by
  subst hi;induction vs generalizing L M k with
  |nil=>rw[Uo.mp b];rfl
  |cons v vs d=>
    induction M with
    |nil=>(cases b)
    |cons a M=>
      change bZ (List.range' (k+1) vs.length) vs ((L++a::M).set k (some v))=_;let e:(L++a::M).set k (some v)=(L++[some v])++M:=by
        subst c;rw[UW _ _ (Rm _),SP];simp
      rw[e,d (L++[some v]) M (k+1) (by rw[Q9,c];rfl) (Tl b)];simp
theorem JT{t:Tx}{M:aQ}{l:TV}(hi:t.nms.map (·.i)=List.range' L.length t.nms.length)(c:M.length=t.nms.length)(b:wb t.ar v=some l):lA t v (L++M)=some (L++l.map some):=by
 induction t with
 |nm x=>
  cases b;show az (List.length_eq_one_iff.mp c) ?_;ext a rfl
  .let:x.i=L.length:=List.head_eq_of_cons_eq hi;change some ((L++[a]).set x.i (some v))=_;rw[this,UW _ _ (Rm _),SP];rfl
 |tup ns p=>
  show bS (show ∃vs,v=.tup vs/\vs.length=ns.length/\some vs=some l from by
   cases v with
   |tup vs=>
    by_cases q:vs.length=ns.length
    .show#[vs,rfl,q,((RO q).symm.trans b)]
    show absurd ((RX q).symm.trans b) (by simp)
   |_=>cases b) ?_;ext vs rfl h e
  cases e;show vo l L M L.length _ rfl (by rw[c,h];rfl) (by rw[h];show hi)
theorem Ds{t:Tx}{tab:wt}(ok:j6 fx sc (t.strs tab))(hi:t.nms.map (·.i)=List.range' fx.len t.nms.length)(hx:x∈t.nms):bV (fe fx sc (t.strs tab)) (tab.nm x.n)=some x.i:=by
 show az (Ue.mp hx) λj b=>?_;show az b λa e=>?_;let e1:(t.strs tab)[j]?=some (tab.nm x.n):=by unfold Tx.strs;rw[List.getElem?_map,List.getElem?_eq_getElem a,e];rfl
 let e2:(t.nms.map (·.i))[j]?=some x.i:=by rw[RF,Rg a,e];rfl
 rw[hi,List.getElem?_range' (by simpa using a)]at e2;let e3:x.i=fx.len+j:=by simpa using (Is e2).symm
 let l:(fe fx sc (t.strs tab)).scope.names.lookup (tab.nm x.n)=some .local:=qn (ok.own _ (Q4 e1));unfold bV;rw[l,e3];show vF ok.nodup e1
structure Lp(w:World)(G:Gc)(fx:Fx)(env:Env)(wr X:Addr->Prop)(St:Nat->Heap->Prop)(U0:aw)(s0:Shared)(i:Nat)(L:aQ)(τ:aw)(s:Shared):Prop where
 mv:Mv w G (λb=>wr b\/X b) U0 s0 τ s
 st:St i s.heap
 fm:Fm G.H0 fx env L τ s.heap
 nW:∀b,wr b->τ b=none
section
variable{wr X Y:Addr->Prop}{items:TV}{gd:aw->Prop}{St:Nat->Heap->Prop}{WD:Nat->Value->Heap->Prop}
theorem Fm.xf(F:Fm G.H0 fx env L U s.heap){b:Addr}(h:XF env b):∃o,s.heap.get? b=some o/\U b=none/\G.H0.get? b=none/\∀UZ n,o≠seqObj "tuple" UZ n:=by
 rcases h with rfl|c
 .show aq F.ns ?_;ext m g;show kD g λo es ep ho hd _=>?_;ext _;show#[o,ho,F.own.1,F.own.2,λUZ n q=>by rw[q]at hd;cases hd]
 show az c λn e=>?_;show t9 (F.XR n b e) λh1 f _ j=>?_;show az j ?_;ext o i;show aq i λq d a=>#[q,d,h1,f,λUZ n e=>by rw[e]at a;cases a]
theorem Fm.no(F:Fm G.H0 fx env L U s.heap){b:Addr}(h:XF env b):U b=none:=by show bS (F.xf h) λ_ _ e _=>?_;show e
theorem Mv.tup(S:ba w G U s.heap)(m:Mv w G X U s UX s')(h:∀a UZ n,X a->s.heap.get? a≠some (seqObj "tuple" UZ n)):aD s.heap s'.heap:=λa UZ k e=>by
 show m.st.keep a _ e ?_ λhx=>h a UZ k hx e;cases q:U a with
 |none=>rfl
 |some o'=>
  show aq ((S.obj a o' q).2.ex) λro hr h=>?_;rw[e]at hr;replace hr:=Is hr;cases hr;show absurd rfl h
theorem Fm.tup(F:Fm G.H0 fx env L U s.heap)(S:ba w G U s.heap)(m:Mv w G (XF env) U s UX s'):aD s.heap s'.heap:=m.tup S λa UZ k hx e=>by
 show Ci (F.xf hx) λo ho _ _ h=>?_;rw[e]at ho;show h _ _ (Is ho).symm
theorem Fm.ZJ(F:Fm G.H0 fx env L U s.heap)(tk:aD s.heap s'.heap)(m:Mv w G X U s U s')(h:∀b,XF env b->¬X b):Fm G.H0 fx env L U s'.heap:=
 F.of tk (λb o hx e=>m.st.keep b o e (F.no hx) (h b hx)) λ_ hx=>F.no hx
theorem Lp.go(l:Lp w G fx env wr X St U0 s0 i L τ s)(IT:qg prog w G I wr items gd to St WD)(m:Mv w G Y τ s VO s')(tk:aD s.heap s'.heap)(c:∀b,Y b->X b/\¬wr b)(F:Fm G.H0 fx env L' VO s'.heap):Lp w G fx env wr X St U0 s0 i L' VO s':=
  have k:=λb h y=>(c b y).2 h
  #[l.mv.trans (m.mono λb y=>.inr (c b y).1),IT.frame _ _ _ l.st tk λb o a e=>m.st.keep b o e (l.nW b a) (k b a),F,
   λb a=>(by show az (IT.live _ _ l.st b a) λo ho=>?_;show m.st.W4 b o ho (l.nW b a) (k b a))]
theorem Lp.quiet(l:Lp w G fx env wr X St U0 s0 i L τ s)(IT:qg prog w G I wr items gd to St WD)(m:Mv w G cE τ s VO s'):Lp w G fx env wr X St U0 s0 i L VO s':=
 l.go IT m (l.mv.sim.W5 m.st) (λ_ h=>h.elim) (l.fm.mv l.mv.sim m)
theorem Lp.it(l:Lp w G fx env wr X St U0 s0 i L τ s)(m:Mv w G wr τ s τ s')(tk:aD s.heap s'.heap)(st:St j s'.heap)(h:∀b,XF env b->¬wr b):Lp w G fx env wr X St U0 s0 j L τ s':=
 #[l.mv.trans (m.mono λb y=>.inl y),st,l.fm.ZJ tk m h,l.nW]
end
end
end
section
variable{A:Around}{L:aQ}{attr:Str}{e:Expr}{env:Env}{fx:Fx}{s s1 s2:Shared}{t whole:Sem Value}{U UY:aw}
open PySem.Sem (wp)
structure Cf where
 prog:Program
 w:World
 K:Frag
 G:Gc
 tab:wt
 CS:Nat->List V->aw->(V->aw->Prop)->Prop
 r:Nat
noncomputable abbrev Cf.M(c:Cf):Model:=model c.prog c.w
def Cf.Ok(c:Cf):Prop:=o9 c.K c.G c.tab/\gM c.prog c.w c.G c.r c.CS
structure At(c:Cf)(A:Around)(fx:Fx)(env:Env)(L:aQ)(U:aw)(s:Shared):Prop where
 R:lx (c.r+1) A
 S:ba c.w c.G U s.heap
 F:Fm c.G.H0 fx env L U s.heap
 I:xW fx
def JA(w:World)(G:Gc)(U:aw)(s:Shared)(P:List V->aw->Prop)(us:TW)(s':Shared):Prop:=
 ∃vs UX,P vs UX/\aY s'.heap vs us/\Mv w G cE U s UX s'
def u4(w:World)(G:Gc)(U:aw)(s:Shared)(P:Bool->aw->Prop)(v:Value)(s':Shared):Prop:=
 ∃b,v=.bool b/\jl w G cE U s P b s'
def bo(c:Cf)(e:E):Prop:=∀{fx:Fx}{A:Around}{env:Env}{L:aQ}{U:aw}{s:Shared}{P:QV},fK c.tab e fx=true->At c A fx env L U s->
 bj c.tab c.CS e L U P->wpAny c.M A (eval (dE c.tab e) env) (aJ c.w c.G cE U s P) aV s
noncomputable def dA(c:Cf)(es:Es)(env:Env):List (Bool×Sem Value):=(t5 c.tab es).map λe=>(false,eval e env)
structure fF(c:Cf)(es:Es):Prop where
 ev:∀{fx:Fx}{A:Around}{env:Env}{L:aQ}{U:aw}{s:Shared}{P:List V->aw->Prop},nT c.tab es fx=true->At c A fx env L U s->
  dN c.tab c.CS es L U P->wpAny c.M A (spliced (dA c es env)) (JA c.w c.G U s P) aV s
 st:∀{fx:Fx}(pos:Pos)(env:Env),nT c.tab es fx=true->backTo pos (starEach (t5 c.tab es) env)=dA c es env
 nil:∀{L:aQ}{U:aw}{s:Shared}{P:List V->aw->Prop},t5 c.tab es=[]->ba c.w c.G U s.heap->dN c.tab c.CS es L U P->JA c.w c.G U s P [] s
structure oZ(c:Cf)(t:T):Prop where
 ev:∀{fx:Fx}{A:Around}{env:Env}{L:aQ}{U:aw}{s:Shared}{P:Bool->aw->Prop},GP c.tab t fx=true->At c A fx env L U s->
  jm c.tab c.CS t L U P->wpAny c.M A (isTrue (dT c.tab t) env (eval (dT c.tab t) env)) (jl c.w c.G cE U s P) aV s
 vl:∀{fx:Fx}{A:Around}{env:Env}{L:aQ}{U:aw}{s:Shared}{P:Bool->aw->Prop},Bm t=true->GP c.tab t fx=true->At c A fx env L U s->
  jm c.tab c.CS t L U P->wpAny c.M A (eval (dT c.tab t) env) (u4 c.w c.G U s P) aV s
structure oY(c:Cf)(ts:Ts):Prop where
 all:∀{fx:Fx}{A:Around}{env:Env}{L:aQ}{U:aw}{s:Shared}{P:Bool->aw->Prop}(pos:Pos)(whole:Sem Value),sI c.tab ts fx=true->At c A fx env L U s->
  gQ c.tab c.CS ts L U P->wpAny c.M A (isTrue (.BoolOp .And (CN c.tab ts) pos) env whole) (jl c.w c.G cE U s P) aV s
 any:∀{fx:Fx}{A:Around}{env:Env}{L:aQ}{U:aw}{s:Shared}{P:Bool->aw->Prop}(pos:Pos)(whole:Sem Value),sI c.tab ts fx=true->At c A fx env L U s->
  jA c.tab c.CS ts L U P->wpAny c.M A (isTrue (.BoolOp .Or (CN c.tab ts) pos) env whole) (jl c.w c.G cE U s P) aV s
 Yq:∀{fx:Fx}{A:Around}{env:Env}{L:aQ}{U:aw}{s:Shared}{P:Bool->aw->Prop}(pos:Pos),ts.isNil=false->tx ts=true->sI c.tab ts fx=true->At c A fx env L U s->
  gQ c.tab c.CS ts L U P->wpAny c.M A (eval (.BoolOp .And (CN c.tab ts) pos) env) (u4 c.w c.G U s P) aV s
 Yp:∀{fx:Fx}{A:Around}{env:Env}{L:aQ}{U:aw}{s:Shared}{P:Bool->aw->Prop}(pos:Pos),ts.isNil=false->tx ts=true->sI c.tab ts fx=true->At c A fx env L U s->
  jA c.tab c.CS ts L U P->wpAny c.M A (eval (.BoolOp .Or (CN c.tab ts) pos) env) (u4 c.w c.G U s P) aV s
 ifs:∀{fx:Fx}{A:Around}{env:Env}{L:aQ}{U:aw}{s:Shared}{P:Bool->aw->Prop},ts.short=true->sI c.tab ts fx=true->At c A fx env L U s->
  gQ c.tab c.CS ts L U P->wpAny c.M A (Dv (CN c.tab ts) env) (jl c.w c.G cE U s P) aV s
def mX(c:Cf)(x:yc):Prop:=∀{fx:Fx}{A:Around}{env:Env}{L:aQ}{U:aw}{s:Shared}{P:QP},AT c.tab x fx=true->At c A fx env L U s->
 gP c.tab c.CS x L U P->wpAny c.M A (eval (CO c.tab x) env) (λa s1=>wpAny c.M A (pyIter a) (eH c.prog c.w c.G P x.Xb U s) aV s1) aV s
section
variable{c:Cf}
theorem At.mv(a:At c A fx env L U s)(m:Mv c.w c.G cE U s UY s1):At c A fx env L UY s1:=#[a.R,m.sim,a.F.mv a.S m,a.I]
theorem At.u(a:At c A fx env L U s):A.units+60<cLine:=by let:=a.R.units;show Q5 (Gt (Rb (by decide:60<=100) _) (Rv (Ri _ _) 100)) this
theorem At.u14(a:At c A fx env L U s):A.units+14<cLine:=by let:=a.R.units;show Q5 (Gt (Rb (by decide:14<=100) _) (Rv (Ri _ _) 100)) this
theorem pre{P:QV}(m:Mv c.w c.G cE U s UY s1)(h:wpAny c.M A t (aJ c.w c.G cE UY s1 P) aV s2):wpAny c.M A t (aJ c.w c.G cE U s P) aV s2:=
 RQ h (λ_ _ p=>aJ.trans m p) λ_ _ e=>e
theorem MB{t:Sem Bool}{P:Bool->aw->Prop}(m:Mv c.w c.G cE U s UY s1)(h:wpAny c.M A t (jl c.w c.G cE UY s1 P) aV s2):wpAny c.M A t (jl c.w c.G cE U s P) aV s2:=
 RQ h (λ_ _ p=>jl.trans m p) λ_ _ e=>e
theorem MA{P:Bool->aw->Prop}(m:Mv c.w c.G cE U s UY s1)(h:wpAny c.M A t (u4 c.w c.G UY s1 P) aV s2):wpAny c.M A t (u4 c.w c.G U s P) aV s2:=
 RQ h (λ_ _ a=>(by show aq a λb e p=>#[b,e,jl.trans m p])) λ_ _ e=>e
theorem bo.go{e:E}(h:bo c e){P:QV}{R:QS}(ok:fK c.tab e fx=true)(a:At c A fx env L U s)(d:bj c.tab c.CS e L U P)
  (k:∀v x UY s1,P x UY->VR s1.heap x v->At c A fx env L UY s1->Mv c.w c.G cE U s UY s1->R v s1):wpAny c.M A (eval (dE c.tab e) env) R aV s:=
 RQ (h ok a d) (λv s1 b=>(by show fH b λx UY f r m=>?_;show k v x UY s1 f r (a.mv m) m)) λ_ _ e=>e
theorem fF.go{es:Es}(h:fF c es){P:List V->aw->Prop}{R:List Value->Shared->Prop}(ok:nT c.tab es fx=true)(a:At c A fx env L U s)(d:dN c.tab c.CS es L U P)
  (k:∀us vs UY s1,P vs UY->aY s1.heap vs us->At c A fx env L UY s1->Mv c.w c.G cE U s UY s1->R us s1):wpAny c.M A (spliced (dA c es env)) R aV s:=
 RQ (h.ev ok a d) (λus s1 b=>(by show fH b λvs UY f r m=>?_;show k us vs UY s1 f r (a.mv m) m)) λ_ _ e=>e
theorem oZ.go{t:T}(h:oZ c t){P:Bool->aw->Prop}{R:Bool->Shared->Prop}(ok:GP c.tab t fx=true)(a:At c A fx env L U s)(f:jm c.tab c.CS t L U P)
  (k:∀b UY s1,P b UY->At c A fx env L UY s1->Mv c.w c.G cE U s UY s1->R b s1):wpAny c.M A (isTrue (dT c.tab t) env (eval (dT c.tab t) env)) R aV s:=
 RQ (h.ev ok a f) (λb s1 d=>(by show aq d λUY g m=>?_;show k b UY s1 g (a.mv m) m)) λ_ _ e=>e
theorem oZ.gv{t:T}(h:oZ c t){P:Bool->aw->Prop}{R:QS}(i:Bm t=true)(ok:GP c.tab t fx=true)(a:At c A fx env L U s)(f:jm c.tab c.CS t L U P)
  (k:∀b UY s1,P b UY->At c A fx env L UY s1->Mv c.w c.G cE U s UY s1->R (.bool b) s1):wpAny c.M A (eval (dT c.tab t) env) R aV s:=
 RQ (h.vl i ok a f) (λv s1 d=>(by show aq d λb e j=>?_;show aq j λUY g m=>?_;show e▸k b UY s1 g (a.mv m) m)) λ_ _ e=>e
end
theorem Ax(h:Vj e≠0)(l:List Expr):starEach (e::l) env=(false,eval e env)::starEach l env:=by cases e<;>first|show @Eq.refl _ ((false,eval _ env)::starEach l env)|show absurd rfl h
theorem pE(h:Vj e≠1)(x:Value):foldedSetIterable e env x=pure x:=by cases e<;>first|show @Eq.refl _ (pure x)|show absurd rfl h
theorem uW{op:CmpOp}(h:Vj e≠1):behindInMarks op e=false:=by cases e<;>first|show @Eq.refl _ false|show absurd rfl h
theorem Ef(h:Vj e=3):isTrue e env whole=(do let v <- whole;standAt e.pos;holding [v] (truthy v)):=by cases e<;>first|show @Eq.refl _ (do let v <- whole;standAt _;holding [v] (truthy v))|cases h
theorem wD{t:Option Expr}{l:Nat}(h:¬(Vj e=4\/Vj e=5)):swapsWith e t l env=pure false:=by cases e<;>first|show @Eq.refl _ (pure false)|show absurd (.inl rfl) h|show absurd (.inr rfl) h
theorem Bp{o:Expr}(h:jJ o=true):attributeBase o attr env whole=whole:=by
 cases o with
 |Call f l ks p=>
  cases f with
  |Name _ _=>cases l<;>first|show @Eq.refl _ whole|(cases ks<;>first|show @Eq.refl _ whole|cases h)
  |_=>show @Eq.refl _ whole
 |_=>show @Eq.refl _ whole
variable{D I:Addr}{acc:TV}{elt:E}{VB:Env}{WT:Fx}{i:Nat}{ifs:Ts}{it u:Value}{iter:Expr}{s' s0:Shared}{sc:Scope}{t:Tx}{to:Bool}{v:V}{U0 τ VO:aw}
open PySem.Sem (wp)
section
variable{c:Cf}
theorem j6.closure(F:Fm c.G.H0 fx env L U s.heap)(I:xW fx){xs:TS}(ok:j6 fx sc xs):closureFor sc env=pure (ia env sc.names []):=
 zG λx hx e=>by
  let a:=ok.free x hx e;show az (I.has _ a) λi hi=>?_;show ck (F.cells _ i a hi) λc o h1 _=>#[c,h1]
def xV(s:Shared)(D:Addr)(acc:TV)(τ:aw):Prop:=τ D=none/\∃arr n,s.heap.get? D=some (seqObj "list" arr n)/\aY s.heap acc arr.toList
theorem xV.mv{Y:Addr->Prop}(h:xV s D acc τ)(m:Mv c.w c.G Y τ s VO s')(tk:aD s.heap s'.heap)(a:¬Y D):xV s' D acc VO:=
 by show ao h λn b=>ck b λarr k g r=>#[m.st.W4 D _ g n a,arr,k,m.st.keep D _ g n a,r.keep tk]
def Ge(c:Cf)(elt:E)(t:Tx)(ifs:Ts)(L:aQ)(x:V)(U:aw)(K:Option V->aw->Prop):Prop:=bA (wb t.ar x) λl=>gQ c.tab c.CS ifs (L++l.map some) U λb UX=>(b=true->bj c.tab c.CS elt (L++l.map some) UX λv U2=>K (some v) U2)/\(b=false->K none UX)
structure LD(c:Cf)(A:Around)(WT:Fx)(VB:Env)(t:Tx)(L:aQ)(I:Addr)(wr:Addr->Prop)(items:TV)(gd:aw->Prop)(to:Bool)(St:Nat->Heap->Prop)(WD:Nat->Value->Heap->Prop)(D:Addr):Prop where
 R:lx (c.r+1) A
 inj:xW WT
 IT:qg c.prog c.w c.G I wr items gd to St WD
 ZO:to=true->t.isTup=true
 hi:t.nms.map (·.i)=List.range' L.length t.nms.length
 sl:∀x∈t.nms,bV WT (c.tab.nm x.n)=some x.i/\GC WT VB (· = VB.locals) (c.tab.nm x.n)
 len:L.length+t.nms.length=WT.len
 D0:c.G.H0.get? D=none
 w0:∀b,wr b->c.G.H0.get? b=none/\b≠D/\¬XF VB b
 xD:∀b,XF VB b->b≠D
structure NP(c:Cf)(WT:Fx)(VB:Env)(L:aQ)(k:Nat)(wr:Addr->Prop)(St:Nat->Heap->Prop)(D:Addr)(U0:aw)(s0:Shared)(i:Nat)(acc:TV)(τ:aw)(s:Shared):Prop where
 lp:∃M,M.length=k/\Lp c.w c.G WT VB wr (λb=>b=D\/b=VB.locals) St U0 s0 i (L++M) τ s
 ls:xV s D acc τ
theorem w3{tab:wt}(h:t.isTup=true):∃es k p,FN tab t= .Tuple es k p:=by
 induction t with
 |nm _=>(cases h)
 |tup l p=>show#[_,_,_,rfl]
variable{wr:Addr->Prop}{items:TV}{gd:aw->Prop}{St:Nat->Heap->Prop}{WD:Nat->Value->Heap->Prop}
theorem CQ(fix:LD c A WT VB t L I wr items gd to St WD D){x:V}{M:aQ}(lp:Lp c.w c.G WT VB wr (λb=>b=D\/b=VB.locals) St U0 s0 i (L++M) τ s)(l:M.length=t.nms.length)(ls:xV s D acc τ)(f:VR s.heap x u)(hz:acc.length<bu)
  {Q:QS} (j:∀v s',NP c WT VB L t.nms.length wr St D U0 s0 i (acc++[x]) τ s'->Q v s'):wpAny c.M A (call (.builtin "list.append") [.ref D,u]) Q aV s:=by
 show ao ls λd o=>?_;show ck o λarr k g r=>?_;show wpAny_list_append_plain #[k,g] (λh' a p=>j _ _ ?_) (by rw[<- r.size];show cf (Rf hz));show az a<|λk' a=>ao (Mv.one (t:=s.toks) lp.mv.sim (wr:=λb=>b=D) rfl d fix.D0 p.extBut λUZ n e=>by rw[g]at e;show absurd (Rs Obj.cls (Is e)) (by simp)) λtk m=>#[#[M,l,lp.go fix.IT m tk (λb e=>#[.inl e,λh=>(fix.w0 b h).2.1 e]) (lp.fm.ZJ tk m fix.xD)],d,_,k',a,?_];rw[Array.toList_push];show(r.keep tk).append (.cons (f.keep tk) .nil)
theorem CP(hE:bo c elt)(hT:oY c ifs)(oe:fK c.tab elt WT=true)(ot:sI c.tab ifs WT=true)(os:ifs.short=true)(fix:LD c A WT VB t L I wr items gd to St WD D){K:List V->aw->Prop}(cl:NP c WT VB L t.nms.length wr St D U0 s0 i acc τ s)(hv:items[i]?=some v)(hg:gd τ)
  (z:Ge c elt t ifs L v τ λr UX=>match r with|some v=>acc.length<bu/\K (acc++[v]) UX|none=>K acc UX) {Q:Shared->Prop}
  (P:∀σ VO s',NP c WT VB L t.nms.length wr St D U0 s0 (i+1) σ VO s'->K σ VO->Q s') {R:Option Value->Shared->Prop} (hR:∀u s1,wpAny c.M A (letOwnedTupleGo (FN c.tab t) (.ref I) u) (λ_ Xi=>wpAny c.M A (assign (FN c.tab t) VB u) (λ_ WE=>
     wpAny c.M A (Dv (CN c.tab ifs) VB) (λok W=>if ok=true then wpAny c.M A (eval (dE c.tab elt) VB) (λx Xv=>wpAny c.M A (call (.builtin "list.append") [.ref D,x]) (λ_ Yr=>Q Yr) aV Xv) aV W else Q W) aV WE) aV Xi) aV s1->R (some u) s1):
  wpAny c.M A (pyNext (.ref I)) R aV s:=by
 obtain⟨⟨M,hM,lp⟩,ls⟩:=cl;let wn:∀b,wr b->τ b=none/\c.G.H0.get? b=none:=λb n=>#[lp.nW b n,(fix.w0 b n).1];let Y:=λb hx n=>(fix.w0 b n).2.2 hx;show fix.IT.item A τ s i v _ fix.R.handled (by let:=fix.R.units;show Q5 (Gt (Rb (dR rfl) _) (Rv (Ri _ _) 100)) this) hv lp.st hg lp.mv.sim wn λu H ru Zh ma d=>hR u H<|fix.IT.go A τ H i _ u _ (λe=>w3 (fix.ZO e)) Zh ma.sim wn λsb Ze N C=>?_;let E:=lp.it (ma.trans N) (d.trans C) Ze Y;let y:=ls.mv (ma.trans N) (d.trans C) λh=>(fix.w0 D h).2.1 rfl;show aq (bQ z) λl hl z=>?_;let B:=JT fix.hi hM hl;show Ka fix.inj fix.R.handled B fix.sl (ru.keep C) E.fm E.mv.sim λsc k=>?_;show bP k λF J a=>?_;let T:=E.go fix.IT J a (λb e=>#[.inr e,λh=>(fix.w0 b h).2.2 (.inl e)]) F;let w:=y.mv J a (λe=>fix.xD _ (.inl rfl) e.symm);let j:(l.map some).length=t.nms.length:=by
  let e1:=F.len;let e2:=fix.len;rw[Q9]at e1;show Uk (e1.trans e2.symm)
 let ac:At c A WT VB (L++l.map some) τ sc:=#[fix.R,T.mv.sim,F,fix.inj];show RQ (hT.ifs os ot ac z) (λp sd k=>?_) λ_ _ x=>x;show aq k λo h1 m=>?_;clear k;let ad:=ac.mv m;let g:=T.quiet fix.IT m;let f:=w.mv m (ac.S.W5 m.st) λh=>h;induction p with
 |false=>show P acc o sd #[#[_,j,g],f] (h1.2 rfl)
 |true=>
  show hE.go oe ad (h1.1 rfl) λxv x' X se O Z ae q=>?_;show CQ fix (g.quiet fix.IT q) j (f.mv q (ad.S.W5 q.st) λh=>h) Z O.1 λ_ s' h=>P _ _ _ h O.2
theorem AH{p:Pos}{RR:Value->Addr->Result->Shared->Prop}{Q:QV}
  (hE:bo c elt) (hT:oY c ifs) (a:At c A fx env L U s) (ok:j6 fx sc (t.strs c.tab)) (hi:t.nms.map (·.i)=List.range' fx.len t.nms.length) (ZO:to=true->t.isTup=true) (oe:fK c.tab elt (fe fx sc (t.strs c.tab))=true) (ot:sI c.tab ifs (fe fx sc (t.strs c.tab))=true) (os:ifs.short=true)
  (src:eH c.prog c.w c.G (λitems gd UY=>hG gd (Ge c elt t ifs L) items [] UY λvs U2=>∀c,U2 c=none->Q (.ref c) (bq U2 c (.list vs))) to U s it s2)
  (hRR:∀(D f:Addr)(s':Shared)(x:V)(UX:aw),(∃m,s'.heap.Ns f m)->Q x UX->VR s'.heap x (.ref D)->Mv c.w c.G cE U s UX s'->s.heap.get? f=none->c.G.H0.get? f=none->UX f=none->RR (.ref D) f (.ok .next) s'):
  wpAny c.M A (newList []) (λacc V9=>wpAny c.M A (newFunctionEnv sc env.globals (ia env sc.names []) [] env.qual none .none (some env)) (λT Xv=>
   codeAny c.M A (.compStart (.ListComp (dE c.tab elt) [#[FN c.tab t,iter,CN c.tab ifs,0]] sc p) 0 it acc {T with scope:=relabel sc env}) (RR acc T.locals) Xv) aV V9) aV s2:=by
 show C6 src λIa wr items gd YS Ws=>?_;clear src;show Jh Ws ?_;clear Ws;ext St WD UY rfl IT Zd X WA;show bP WA λhP m1 W=>?_;clear WA;let a1:=a.mv m1;let F1:=a1.F;let S1:=m1.sim;show SN (wpAny_newFunctionEnv ok.cell (by ext y hy;simp at hy) (λWl K E=>?_) ok.kind);generalize z:s2.heap.push {cls:=.type "list",dict:=none,data:=.seq [].toArray}=Y at K E ⊢;let N:Y.objs.size=s2.heap.objs.size+1:=by rw[<- z,Heap.size_push]
 let below:∀b,b<s2.heap.objs.size->b≠Y.objs.size:=λb d=>by rw[N];show RY (TM d)
 let old:=λb o e=>E.extBut b o (below b (Sf e)) (Rh _ (z▸Rh _ e));let C:s2.heap.objs.size≠Y.objs.size:=by rw[N];show RY (Sq _)
 let VK:=E.extBut _ _ C (Rh _ (z▸RA _ rfl));let fD:=S1.fresh (Rm s2.heap.objs.size);let l:=S1.fresh (a:=s2.heap.objs.size+1) (SS s2.heap.objs.size);rw[<- N]at l;generalize hD:s2.heap.objs.size=D at C VK fD below N;generalize B:Y.objs.size=f at K E C l below N ⊢;clear z N;generalize hh:(#[Wl,s2.gens,s2.drawn,s2.toks+[].length,s2.os]:Shared)=s3;let e3:s3.heap=Wl:=by rw[<- hh]
 let P:=F1.comp ok a.I old K l.2.1 l.2.2 l.1 _ rfl;let m2:Mv c.w c.G cE UY s2 UY s3:=by rw[<- hh];show .keeps S1 old
 let nl:(t.strs c.tab).length=t.nms.length:=by unfold Tx.strs;rw[List.length_map]
 rw[nl]at P;let Wh:=F1.Xy ok a.I;let Z:∀b,XF (compEnvC sc (ia env sc.names []) f env) b->b=f\/(∃o,s.heap.get? b=some o):=λb hx=>by
  clear P below l C E K B;rcases hx with rfl|j
  .show .inl rfl
  show az j λn e=>?_;clear j;show t9 (a.F.XR n b (Wh n b e)) λ_ _ _ U7=>az U7 ?_;clear U7;ext _ VU;show aq VU λq H _=>?_;clear VU;show .inr #[q,H]
 let Zg:=m1.back (λx=>x) fD.1;let σ:=m1.back (λx=>x) l.1;let fix:LD c A (fe fx sc (t.strs c.tab)) (compEnvC sc (ia env sc.names []) f env) t L Ia wr items gd YS St WD D:=by
  show#[a.R,IB a.I ok,IT,λe=>ZO (Zd e),by rw[a.F.len];show hi,λx hx=>#[Ds ok hi hx,λ_=>rfl,λe=>?_],by rw[a.F.len];change fx.len+_=fx.len+(t.strs c.tab).length;rw[nl],fD.2.2,λb d=>#[(W b d).2.1,λe=>?_,λhx=>?_],λb hx e=>?_]
  .let:=qn (fx:=fx) (ok.own _ (Rn hx));let e2:(wN fx sc).names.lookup (c.tab.nm x.n)=some .cell:=e;rw[this]at e2;cases e2
  .show az (IT.live 0 _ X b d) λo ho=>?_;rw[e,fD.1]at ho;show nS ho
  .clear σ P below C E K B;rcases Z b hx with rfl|j
   .show az (IT.live 0 _ X _ d) λo ho=>?_;rw[l.1]at ho;show nS ho
   show az j λq H=>?_;clear j;rw[(W b d).1]at H;show nS H
  clear σ P below l E K B;rcases Z b hx with rfl|j
  .show C e.symm
  show az j λq H=>?_;clear j;rw[e,Zg]at H;show nS H
 let J:NP c (fe fx sc (t.strs c.tab)) (compEnvC sc (ia env sc.names []) f env) L t.nms.length wr St D UY s2 0 [] UY s3:=
  #[#[_,Sp,m2.mono λ_ x=>x.elim,e3▸IT.frame 0 _ _ X (.of_keeps old) λb o _ e=>old b o e,e3▸P,λb d=>(W b d).2.2],fD.2.1,#[],0,e3▸VK,.nil]
 let loop:codeAny c.M A (.compLoop (.ListComp (dE c.tab elt) [#[FN c.tab t,iter,CN c.tab ifs,0]] sc p) 0 (.ref Ia) (.ref D) (compEnvC sc (ia env sc.names []) f env)) (RR (.ref D) f) s3:=by
  show xu (λn s'=>∃(i:Nat)(acc:TV)(τ:aw),n=items.length+1 - i/\i<=items.length/\NP c (fe fx sc (t.strs c.tab)) (compEnvC sc (ia env sc.names []) f env) L t.nms.length wr St D UY s2 i acc τ s' /\
   hG gd (Ge c elt t ifs L) (items.drop i) acc τ λvs U2=>∀c,U2 c=none->Q (.ref c) (bq U2 c (.list vs))) ?_ (items.length+1) #[0,[],UY,rfl,Rx _,J,hP]
  clear J X hP m2 e3 hh P VK K E old;clear Z below B hD;ext n s' j;show AU j ?_;clear j;ext i acc τ rfl WJ cl O;cases S:items[i]? with
  |none=>
   let hii:i=items.length:=by let:=List.getElem?_eq_none_iff.mp S;show SM WJ this
   clear S WJ;subst hii;rw[List.drop_length]at O;obtain⟨⟨M,hM,lp⟩,nD,arr,k,g,r⟩:=cl;show IT.done A τ s' _ a.R.handled (by let:=a.u;(show Q5 (Rb ?_ _) ‹_›;decide)) lp.st O.1 lp.mv.sim (λb d=>#[lp.nW b d,(fix.w0 b d).1]) λXf mw tk=>?_;let F2:=lp.fm.ZJ tk mw λb hx d=>(fix.w0 b d).2.2 hx;let gD:=mw.st.keep D _ g nD λh=>(fix.w0 D h).2.1 rfl;let fin:=((m1.mono λ_ x=>x.elim).trans (lp.mv.trans (mw.mono λb d=>.inl d))).Xc (λb d=>by
    clear gD F2 g nD lp fix l C fD;rcases d with d|rfl|rfl
    .show(W b d).1
    .show Zg
    show σ)
   show aq F2.ns λm' hm' _=>hRR D f Xf (.ref D) _ #[m',hm'] (O.2 D nD) (.ref D) (fin.enter Zg fD.2.2 #[arr,k,gD,r.keep tk]) σ l.2.2 ?_;unfold bq;rw[if_neg (Ne.symm C)];show F2.own.1
  |some v=>
   let Vn:=(RC.mp S).1;rw[UE Vn,(RC.mp S).2]at O;show CP hE hT oe ot os fix cl S O.1 O.2 (λYw VO Xf h1 h2=>#[items.length+1 - (i+1),Tu (TM Vn) (Sq i),i+1,Yw,VO,rfl,Vn,h1,h2]) λu s1 h=>h
 show codeAny_compStart_list loop (gC (IT.self A _ 0 _ ?_ loop));obtain⟨⟨M,_,lp⟩,_⟩:=J;show lp.st
end
variable{fv:Value}{h:Heap}{id:String}{op:Operator}{p:P}{pl:Sem Bool}{slice value:Expr}{us:TW}{vs:TV}{UX:aw}
open PySem.Sem (wp)
theorem aY.one(r:aY h vs us)(e:vs.length=1):∃x a,vs=[x]/\us=[a]/\VR h x a:=by
 cases r with
 |nil=>(cases e)
 |cons a b=>cases b with
  |nil=>show#[_,_,rfl,rfl,a]
  |cons _ _=>cases e
theorem aY.zero(r:aY h vs us)(e:vs.length=0):vs=[]/\us=[]:=by
 cases r with
 |nil=>show#[rfl,rfl]
 |cons a b=>cases e
theorem aY.two(r:aY h vs us)(e:vs.length=2):∃x a y b,vs=[x,y]/\us=[a,b]/\VR h x a/\VR h y b:=by
 cases r with
 |nil=>(cases e)
 |cons a b=>
  show fH (b.one (Tl e)) ?_;ext y b' rfl rfl rb;show#[_,_,_,_,rfl,rfl,a,rb]
noncomputable def Ol:P->Nat
 |.append=>2|.extend=>2|.index=>2|.get=>3|.setdefault=>3
 |_=>1
theorem nQ{Q:QV}{b:P}(h:prim U Q b vs):vs.length=Ol b:=by cases b<;>first|show AS h|show AR h|show HM h
section
variable{c:Cf}{x y:V}{a b:Value}{Q:QV}
def Ah(c:Cf)(p:P)(fv:Value):Prop:=
 ∀{U:aw}{s:Shared}{vs:TV}{us:TW}{Q:QV}{A:Around},A.handled=none->A.units+60<cLine->ba c.w c.G U s.heap->aY s.heap vs us->prim U Q p vs->wpAny c.M A (call fv us) (aJ c.w c.G cE U s Q) aV s
theorem l9(e:Ol p=1)(h:∀{U:aw}{s:Shared}{x:V}{a:Value}{Q:QV}{A:Around},A.handled=none->A.units+60<cLine->ba c.w c.G U s.heap->VR s.heap x a->prim U Q p [x]->wpAny c.M A (call fv [a]) (aJ c.w c.G cE U s Q) aV s):Ah c p fv:=
 λhA hu S d b=>by
  show fH (d.one ((nQ b).trans e)) ?_;ext x a rfl rfl r;show h hA hu S r b
def PW(c:Cf)(p:P):Prop:=nsIn c.K mainGlobals (Str.ofString (Kp p))=some none /\
 ((∃id,nsIn c.K builtinsNs (Str.ofString (Kp p))=some (some (.builtin id))/\Ah c p (.builtin id))\/(∃T,nsIn c.K builtinsNs (Str.ofString (Kp p))=some (some (.type T))/\Ah c p (.type T)))
theorem DX(S:ba c.w c.G U s.heap)(r:VR s.heap x a)(h:Ep U Q x):wpAny c.M A (call (.type "tuple") [a]) (aJ c.w c.G cE U s Q) aV s:=by show iR r h λp h=>iL h λl el h=>ck (S.list el) λvs' n' ho hr=>Hs S ho hr h.1 h.2
theorem OF(g:o9 c.K c.G c.tab)(e:EZ p=true):PW c p:=by
 cases p<;>first|cases e;done|skip
 .show ao (g.bf "len" (.head _)) λb a=>#[b,.inl #[_,a,l9 (p:=.len) rfl λd hu S r h=>Ms (g.Ww S) S r h]]
 .show ao (g.bt "list" (.head _)) λb a=>#[b,.inr #[_,a,l9 (p:=.list) rfl λd hu S r h=>Hw d (g.Ww S) S r h]]
 .show ao (g.bt "tuple" (by simp)) λb a=>#[b,.inr #[_,a,l9 (p:=.tuple) rfl λd hu S r h=>DX S r h]]
 .show ao (g.bt "dict" (by simp)) λb a=>#[b,.inr #[_,a,l9 (p:=.dict) rfl λd hu S r h=>Kj d (by(show Q5 (Rb ?_ _) ‹_›;decide)) S r h]]
 .show ao (g.bf "sorted" (by simp)) λb a=>#[b,.inl #[_,a,l9 (p:=.sorted) rfl λd hu S r h=>DY d (by(show Q5 (Rb ?_ _) ‹_›;decide)) (g.Ww S) S r h]]
 .show ao (g.bf "abs" (by simp)) λb a=>#[b,.inl #[_,a,l9 (p:=.abs) rfl λd hu S r h=>Mz S r h]]
 show ao (g.bt "int" (by simp)) λb a=>#[b,.inr #[_,a,l9 (p:=.int) rfl λd hu S r h=>Mt S r h]]
theorem Hy(S:ba c.w c.G U s.heap)(hx:VR s.heap x a)(hy:VR s.heap y b)(h:qH U Q op x y):wpAny c.M A (binaryOp op a b) (aJ c.w c.G cE U s Q) aV s:=by
 cases op<;>first|show h.elim|skip
 .show My S hx hy h
 .show Mj S hx hy h
 .show Mq S hx hy h
 .show Mr S hx hy h
 .show Mm S hx hy h
 .show Ml S hx hy h
 .show Mx S hx hy h
 .show Kk S hx hy h
 show Kh S hx hy h
inductive xX(U:aw)(s:Shared):V->Value->Prop
 |tup{l:TV}{a:Addr}{us:TW}:tW s.heap a us.toArray->aY s.heap l us->xX U s (.tup l) (.ref a)
 |list{l:TV}{a:Addr}{vs:TC}{n:Nat}:U a=some (.list l)->s.heap.get? a=some (seqObj "list" vs n)->aY s.heap l vs.toList->xX U s (.ref a) (.ref a)
 |dict{es:TD}{ep:Nat}{a:Addr}{ds:TE}:U a=some (.dict es ep)->s.heap.get? a=some {cls:=.type "dict",data:=.dict ds ep}->xX U s (.ref a) (.ref a)
theorem Nc(S:ba c.w c.G U s.heap)(hx:VR s.heap x a)(h:lC U Q x y):xX U s x a:=by
 cases hx with
 |tup hi hr=>show .tup hi hr
 |ref p=>show H8 h (λl e h=>ck (S.list e) λvs n ho hr=>.list e ho hr) λes ep e h=>aq (S.dict e) λds ho _=>.dict e ho
 |_=>show h.elim
theorem B1(hu:A.units+60<cLine)(S:ba c.w c.G U s.heap)(H:xX U s x a)(hy:VR s.heap y b)(h:lC U Q x y):wpAny c.M A (getItem a b) (aJ c.w c.G cE U s Q) aV s:=by
 induction H with
 |tup hi hr=>show iI hy h λi t h=>iO h.2 λv e k=>yK S hi hr h.1 e k
 |list e ho hr=>
  unfold lC HN yX at h;dsimp only at h;rw[e]at h;show iI hy h λi t h=>iO h.2 λv e k=>wR S ho hr h.1 e k
 |dict e ho=>
  unfold lC HN yX at h;dsimp only at h;rw[e]at h;show iO h.2 λv d k=>sv (by(show Q5 (Rb ?_ _) ‹_›;decide)) S e hy h.1 d k
theorem d8:typeLookup (.type "list") "__getitem__"=pure (some (.builtin "list.__getitem__")):=slot_list_getitem.lookup
theorem kM:typeLookup (.type "dict") "__getitem__"=pure (some (.builtin "dict.__getitem__")):=slot_dict_getitem.lookup
theorem cn:typeLookup (.type "tuple") "__getitem__"=pure (some (.builtin "tuple.__getitem__")):=PySem.F.slot_tuple_getitem.lookup
theorem mh:typeLookup (.type "str") "__getitem__"=pure (some (.builtin "str.__getitem__")):=PySem.F.slot_str_getitem.lookup
theorem BG(slice:Expr)(a b:Value):∃l,subscripted slice false a b=operate l (getItem a b):=by
 cases slice with
 |Slice x y z p=>cases z<;>show#[_,rfl]
 |_=>show#[_,rfl]
theorem m8{T:String}{R:QS}(hT:s.TypeIs a T)(f:typeLookup (.type T) "__getitem__"=pure (some (.builtin id)))(h:wpAny c.M A (getItem a b) R aV s):
  wpAny c.M A (subscriptTail value slice a b) R aV s:=by
 show If ?_;rw[getitemInPython_of_ne hT.not_modules];show If (T9 hT f ?_);let fin:wpAny c.M A (subscripted slice false a b) (λr d=>wpAny c.M A (letTemporaryGo value a r >>= λ_=>pure r) R aV d) aV s:=by
  let g:wpAny c.M A (getItem a b) (λr d=>wpAny c.M A (letTemporaryGo value a r >>= λ_=>pure r) R aV d) aV s:=
   RQ h (λr d i=>If (wpAny_letTemporaryGo (Q8 i))) λ_ _ x=>x
  show az (BG slice a b) λl e=>?_;rw[e];show wpAny_operating g
 first
  |show Q8 (If fin)
  |show If (Q8 (If fin))
  |show If fin
theorem yH(hu:A.units+60<cLine)(S:ba c.w c.G U s.heap)(hx:VR s.heap x a)(hy:VR s.heap y b)(h:lC U Q x y):wpAny c.M A (subscriptTail value slice a b) (aJ c.w c.G cE U s Q) aV s:=by
 let H:=Nc S hx h;let h0:=B1 hu S H hy h;induction H with
 |tup hi hr=>show az hi λn ho=>?_;show m8 #[_,ho,rfl] cn h0
 |list e ho hr=>show m8 #[_,ho,rfl] d8 h0
 |dict e ho=>show m8 #[_,ho,rfl] kM h0
noncomputable abbrev wG(lo hi:Value):Obj:={cls:=.type "slice",data:=.fields (List.toArray [lo,hi,.none])}
theorem rU{o:Obj}{T:String}(S:ba c.w c.G U s.heap)(hT:({s with heap:=s.heap.push o}:Shared).TypeIs a T)(b:typeLookup (.type T) "__getitem__"=pure (some (.builtin id)))
  (h:ba c.w c.G U (s.heap.push o)->wpAny c.M A (getItem a (.ref s.heap.objs.size)) (aJ c.w c.G cE U {s with heap:=s.heap.push o} Q) aV {s with heap:=s.heap.push o}):
  wpAny c.M A (subscriptTail value slice a (.ref s.heap.objs.size)) (aJ c.w c.G cE U s Q) aV {s with heap:=s.heap.push o}:=
 m8 hT b (pre (.push S) (h (S.push _)))
theorem yG(S:ba c.w c.G U s.heap)(hx:VR s.heap x a)(hy:VR s.heap y b)(h:AM U Q x y):
  wpAny c.M A (subscriptTail value slice a (.ref s.heap.objs.size)) (aJ c.w c.G cE U s Q) aV {s with heap:=s.heap.push (wG .none b)}:=by
 let d:(s.heap.push (wG .none b)).IsSliceOf s.heap.objs.size .none b .none:=#[_,RA _ rfl,rfl,rfl];show i5 hx h (λ_ h=>h.elim) (λ_ _ h=>h.elim) (λz t h=>?_) (λl t us hi hr h=>?_) λp h=>?_
 .show iI hy h (λi u h d=>?_) d;show bP h ?_;clear h;ext rfl hz h;show rU (T:="str") S rfl mh λe=>yF e d hz h
 .show iI hy h (λi u h d=>?_) d;show bP h<|λh0 hz h=>az (id hi) λn ho=>rU (T:="tuple") S #[_,Rh _ ho,rfl] cn λe=>yE e (hi.keep .push) (hr.keep .push) d h0 hz h
 show iI hy h (λi u h d=>?_) d;let fin:∀{l:TV}{vs:TC}{n:Nat},s.heap.get? p=some (seqObj "list" vs n)->aY s.heap l vs.toList->(0<=i/\l.length<=bu/\∀c,U c=none->Q (.ref c) (bq U c (.list (l.take i.toNat))))->wpAny c.M A (subscriptTail value slice (.ref p) (.ref s.heap.objs.size)) (aJ c.w c.G cE U s Q) aV {s with heap:=s.heap.push (wG .none (.int i u))}:=λho hr h=>
  rU (T:="list") S #[_,Rh _ ho,rfl] d8 λe=>wQ e (Rh _ ho) (hr.keep .push) d h.1 h.2.1 h.2.2
 show QB h (λl el h=>ck (S.list el) λvs n ho hr=>fin ho hr h) λl el h=>fH ((S.obj p _ el).2) λvs n ho hr _=>fin ho hr h
theorem yI(S:ba c.w c.G U s.heap)(hx:VR s.heap x a)(hy:VR s.heap y b)(h:Ex U Q x y):
  wpAny c.M A (subscriptTail value slice a (.ref s.heap.objs.size)) (aJ c.w c.G cE U s Q) aV {s with heap:=s.heap.push (wG b .none)}:=by
 let d:(s.heap.push (wG b .none)).IsSliceOf s.heap.objs.size b .none .none:=#[_,RA _ rfl,rfl,rfl];show iT hx h λl t us hi hr h=>?_;show iI hy h (λi u h d=>?_) d;show t9 h<|λh0 h1 hz h=>az (id hi) λn ho=>rU S #[_,Rh _ ho,rfl] cn λe=>yM e (hi.keep .push) (hr.keep .push) d h0 h1 hz h
def Ai(c:Cf)(p:P)(v:V)(u:Value)(id:String):Prop:=∀{A:Around}{U:aw}{s:Shared}{vs:TV}{us:TW}{Q:QV},A.units+60<cLine->(∀a o,U a=some o->(a== sysModules)=false)->ba c.w c.G U s.heap->VR s.heap v u->aY s.heap vs us->prim U Q p (v::vs)->
 wpAny c.M A (call (.builtin id) (u::us)) (aJ c.w c.G cE U s Q) aV s
theorem sH(e:Ol p=2)(h:∀{A:Around}{U:aw}{s:Shared}{x:V}{a:Value}{Q:QV},ba c.w c.G U s.heap->VR s.heap v u->VR s.heap x a->prim U Q p [v,x]->
  wpAny c.M A (call (.builtin id) [u,a]) (aJ c.w c.G cE U s Q) aV s):Ai c p v u id:=λhu d S r rs b=>by
 show fH (rs.one (Tl ((nQ b).trans e))) ?_;ext x a rfl rfl r1;show h S r r1 b
theorem wx(e:Ol p=3)(h:∀{A:Around}{U:aw}{s:Shared}{x y:V}{a b:Value}{Q:QV},A.units+60<cLine->(∀a o,U a=some o->(a== sysModules)=false)->ba c.w c.G U s.heap->VR s.heap v u->VR s.heap x a->VR s.heap y b->prim U Q p [v,x,y]->
  wpAny c.M A (call (.builtin id) [u,a,b]) (aJ c.w c.G cE U s Q) aV s):Ai c p v u id:=λhu f S r rs d=>by
 show gX (rs.two (Tl ((nQ d).trans e))) ?_;ext x a y b rfl rfl r1 r2;show h hu f S r r1 r2 d
theorem AX{T id:String}{n:Str}{p:P}{q:Addr}{o:Obj}{R:Value×List Value->Shared->Prop}(ho:s.heap.get? q=some o)(a:o.cls=.type T)(hd:o.dict=none)
  (h:∀(t1:s.TypeIs (.ref q) T)(t2:∀b,Value.ref q=.ref b->∃o,s.heap.get? b=some o/\o.dict=none),wpAny c.M A (getMethod (.ref q) n pl) R aV s):wpAny c.M A (getMethod (.ref q) n pl) R aV s:=
 h #[_,ho,a] λb e=>by cases e;show#[o,ho,hd]
theorem Ke{R:Value×List Value->Shared->Prop}(S:ba c.w c.G U s.heap)(d:VR s.heap v u)(h:mo U p v)(hR:∀id,Ai c p v u id->R (.builtin id,[u]) s):
  wpAny c.M A (getMethod u (Str.ofString (Kp p)) pl) R aV s:=by
 show iR d h (λq h hR=>?_) hR;show H8 h (λl e h=>?_) λes ep e h=>?_
 .show ck (S.list e) λvs n ho _=>?_;show AX (p:=p) (id:="") ho rfl rfl λt1 t2=>?_;rcases h with rfl|rfl|rfl|rfl
  .show getMethod_builtin t1 PySem.F.plainAttrs_list PySem.F.slot_list_append PySem.F.type_list_append t2 (hR _ (sH (p:=.append) rfl λS r r1 h=>D4 S r r1 h))
  .show getMethod_builtin t1 PySem.F.plainAttrs_list PySem.F.slot_list_extend PySem.F.type_list_extend t2 (hR _ (sH (p:=.extend) rfl λS r r1 h=>D3 S r r1 h))
  .show getMethod_builtin t1 PySem.F.plainAttrs_list PySem.F.slot_list_pop PySem.F.type_list_pop t2 (hR _ λhu a S r rs b=>?_);show ao (rs.zero (Tl (nQ b))) ?_;ext rfl rfl;show Mn S r b
  show getMethod_builtin t1 PySem.F.plainAttrs_list PySem.F.slot_list_index PySem.F.type_list_index t2 (hR _ (sH (p:=.index) rfl λS r r1 h=>Hx S r r1 h))
 show aq (S.dict e) λds ho _=>?_;show AX (p:=p) (id:="") ho rfl rfl λt1 t2=>?_;rcases h with rfl|rfl
 .show getMethod_builtin t1 PySem.F.plainAttrs_dict PySem.F.slot_dict_get PySem.F.type_dict_get t2 (hR _ (wx (p:=.get) rfl λhu a S r r1 r2 h=>Mu (by(show Q5 (Rb ?_ _) ‹_›;decide)) a S r r1 r2 h))
 show getMethod_builtin t1 PySem.F.plainAttrs_dict PySem.F.slot_dict_setdefault PySem.F.type_dict_setdefault t2 (hR _ (wx (p:=.setdefault) rfl λhu a S r r1 r2 h=>vy (by(show Q5 (Rb ?_ _) ‹_›;decide)) a S r r1 r2 h))
end
variable{apos pos:Pos}{e x y:E}{es:Es}{n:Nat}{name:Str}{p q:Ps}{U3:aw}
open PySem.Sem (wp)
section
variable{c:Cf}
theorem pz(es:Es):(dA c es env).any (·.1)=false:=by
 unfold dA;generalize t5 c.tab es=l;induction l with
 |nil=>rfl
 |cons e r a=>rw[Sb,Ux,a];rfl
theorem pn{f:Value}(h:fF c es){P:List V->aw->Prop}{R:Args->Shared->Prop}(ok:nT c.tab es fx=true)(a:At c A fx env L U s)(b:dN c.tab c.CS es L U P)
  (k:∀us vs UY s1,P vs UY->aY s1.heap vs us->At c A fx env L UY s1->Mv c.w c.G cE U s UY s1->R #[us,[]] s1):wpAny c.M A (evalArgs f true (dA c es env) []) R aV s:=by
 let h1:=h.go ok a b k;let h0:=λe=>h.nil e a.S b;unfold dA at h1 ⊢;generalize t5 c.tab es=l at h1 h0 ⊢;induction l with
 |nil=>show fH (h0 rfl) λvs UY d r m=>?_;show evalArgs_nil3 (k _ _ _ _ d r (a.mv m) m)
 |cons e r=>show Calls.evalArgs_plain h1
theorem n9{n:Str}(h:iJ fx n=true):vL fx n=true/\(n== ("__debug__":Str))=false:=#[(av h).1,zL (av h).2]
theorem kH{f:Str}{p:Pos}{Q:QS}(a:fF c es)(ok:nT c.tab es fx=true)(hd:(f== ("__debug__":Str))=false)
  (h:wpAny c.M A (loadName env f) (λfv s1=>wpAny c.M A (callWith pos fv [] (dA c es env) []) Q aV s1) aV s):wpAny c.M A (eval (.Call (.Name f p) (t5 c.tab es) [] pos) env) Q aV s:=by
 change wpAny _ _ (eval (.Name f p) env >>= λfv=>callWith pos fv [] (backTo pos (starEach (t5 c.tab es) env)) []) _ _ _;rw[a.st pos env ok];show If (wpAny_Name h hd)
theorem uV{o:Expr}{Q:QS}(i:fF c es)(ok:nT c.tab es fx=true)(g:jJ o=true)(b:(apos.endLine== pos.line)=true)(hlen:(t5 c.tab es).length.ble 19=true)
  (h:wpAny c.M A (eval o env) (λf s1=>∀pl,wpAny c.M A (getMethod f name pl) (λfx s2=>wpAny c.M A (callWith pos fx.1 fx.2 (dA c es env) []) Q aV s2) aV s1) aV s):
  wpAny c.M A (eval (.Call (.Attribute o name apos) (t5 c.tab es) [] pos) env) Q aV s:=by
 rw[arm_eval_Call,Bp g,i.st pos env ok];show If (RQ h (λf l k=>?_) λ_ _ e=>e);show If (wpAny_standAt ?_);let a:methodCallForm ((t5 c.tab es).length+([]:List Keyword).length) (dA c es env) (backToKw pos (keywordEach [] env))=true:=by
  change((dA c es env).all (λx=>!x.1)&& true&& decide ((t5 c.tab es).length+0+0<30))=true;rw[Bool.and_true,Bool.and_eq_true];show#[?_,by rw[decide_eq_true_eq];let:=Q7 hlen;show Gt (Rj ‹_›) (dR rfl)];unfold dA;erw[List.all_map,S5];ext _ _;rfl
 let d:methodCallPos true o env apos pos=pure pos:=by unfold methodCallPos;simp[b]
 unfold methodCall;rw[a];show If (SB ?_);unfold calleeOf;rw[RO rfl];show RQ (k _) (λfx s2 j=>?_) λ_ _ e=>e;show If (Ut d j)
theorem rM:bo c (.lit v p):=λok a b=>by
 cases v<;>first|cases ok;done|skip
 .show wpAny_Constant_none (aJ.val a.S b .none)
 .show wpAny_Constant_bool (aJ.val a.S b (.bool _))
 .show wpAny_Constant_int (aJ.val a.S b (.int _ _))
 show wpAny_Constant_str (aJ.val a.S b (.str _ _))
theorem rK{i:Int}:bo c (.neg i p q):=λok a b=>
 wpAny_UnaryOp (wpAny_Constant_int (neg_int #[_,_,b,.int _ _,.toks a.S _]))
theorem nG(g:o9 c.K c.G c.tab):bo c (.glob n p):=λ{fx A env L U s P} ok a b=>by
 show ao (n9 ok) λh1 d=>?_;show aq (bQ b) λv e b=>?_;show aq (g.cst n v e) λu hu ru=>?_;show wpAny_Name (a.F.global g a.S h1 hu (aJ.val a.S b (ru.keep (.of_keeps a.S.base)))) d
theorem rL{x:Nm}:bo c (.loc x):=λ{fx A env L U s P} ok a b=>by
 show aq (bQ b) λv e b=>?_;show wpAny_Name (a.F.load (gZ ok) e λu ru=>aJ.val a.S b ru) (EK ok)
theorem rP{o:Operator}(hx:bo c x)(hy:bo c y):bo c (.bin o x y p):=λok a b=>
 wpAny_BinOp (hx.go (av ok).1 a b λu g UY s1 b e a1 m1=>hy.go (av ok).2 a1 b λv f U3 s2 b d a2 m2=>pre (m1.trans m2) (Hy a2.S (e.mv a1.S m2) d b))
theorem nv(h:bo c e):bo c (.W6 e p):=λok a b=>
 wpAny_UnaryOp (h.go ok a b λu i UY s1 b f a1 m1=>by
  change wpAny _ _ (holding [u] (do return Value.bool (!(<- truthy u)))) _ _ s1;show SB (If (RQ (AF a1.S f b) (λc s2 d=>Q8 ?_) λ_ _ e=>e));show aq d λt g e=>?_;clear d;subst e;show#[_,UY,g,.bool _,m1.trans (.toks a1.S t)])
theorem rN{t:T}(ht:oZ c t)(hx:bo c x)(hy:bo c y):bo c (.ite t x y p):=λok a d=>
 IfExp_ (ht.go (av ok).1 a d λb UY s1 d a1 m1=>by
  induction b with
  |true=>show pre m1 (hx (av (av ok).2).1 a1 (d.1 rfl))
  |false=>show pre m1 (hy (av (av ok).2).2 a1 (d.2 rfl)))
theorem nj{t:T}(ht:oZ c t):bo c (.test t):=λok a d=>
 ht.gv (av ok).1 (av ok).2 a d λb UY s1 e a1 m1=>#[_,UY,e,.bool b,m1]
theorem rE(h:fF c es):bo c (.tup es p):=λ{fx A env L U s P} ok a hw=>by
 show Tuple_ ?_;rw[h.st (dP p) env ok];show h.go ok a hw λus vs UY s1 ⟨hz,b⟩ rs a1 m1=>wpAny_newTuple ?_ (by rw[<- rs.length];show cf hz);show aJ.trans m1 (aJ.WG m1.sim rs b)
theorem nB(h:fF c es):bo c (.list es p):=λ{fx A env L U s P} ok a hw=>by
 show List_ ?_;rw[h.st (dP p) env ok];show h.go ok a hw λus vs UY s1 ⟨hz,b⟩ rs a1 m1=>wpAny_newList ?_ (by rw[<- rs.length];show cf hz);show aJ.trans m1 (aJ.newList m1.sim rs b)
theorem kj:bo c (.Vf p):=λ{fx A env L U s P} ok a hw=>by
 show wpAny_Dict_empty ?_;let f:=a.S.fresh (Rm s.heap.objs.size);show#[_,_,hw s.heap.objs.size 0 f.2.1,.ref _,Mv.alloc a.S #[#[],RA _ rfl,.nil,Un]]
theorem FL{es:TD}{ds:TE}{P:QV}{x y:V}{v:Value}(hu:A.units+60<cLine)(m:Mv c.w c.G cE U s U3 s2)(f:s.heap.get? D=none)(f0:c.G.H0.get? D=none)(d:s2.heap.get? D=some {cls:=.type "dict",data:=.dict #[]})
  (n2:U3 D=none) (a:∃κ:DK,κ.is x) (o:VR s2.heap x u) (l:VR s2.heap y v) (p:∀c ep,U3 c=none->P (.ref c) (bq U3 c (.dict [(x,y)] ep))):wpAny c.M A (dictSet D u v) (λ_ k=>aJ c.w c.G cE U s P (.ref D) k) aV s2:=by
 let a:c6 [] x:=by show az a λκ h=>#[κ,h,λe he=>n0 he]
 show pg (by(show Q5 (Rb ?_ _) ‹_›;decide)) d .nil Un a o l (by unfold bu;simp) λh' t r j i hd=>?_;show ao (Mv.one (t:=t) m.sim rfl n2 f0 j.extBut λUZ n e=>by rw[d]at e;show absurd (Rs Obj.cls (Is e)) (by simp)) λtk g=>#[_,_,p D _ n2,.ref _,(((m.mono λ_ x=>x.elim).trans g).Xc λb q=>by clear g i j n2 d f0;subst q;show f).enter f f0 #[r,i,hd.keep tk,by simp[eG,iN]]]
theorem kh{k v:E}(l:bo c k)(j:bo c v):bo c (.Wy k v p):=λ{fx A env L U s P} ok a d=>by
 change wpAny _ _ (eval (.Dict [some (dE c.tab k)] [dE c.tab v] (dP p)) env) _ _ _;rw[arm_eval_Dict];let m:(evalEachOpt [some (dE c.tab k)] env).zip ((evalEach [dE c.tab v] env).map λv=>do let x <- v;standAt (dP p);pure x)=([(eval (dE c.tab k) env,(do let x <- eval (dE c.tab v) env;standAt (dP p);pure x))]:List (Sem Value×Sem Value)).map λq=>(some q.1,q.2):=by rfl
 rw[m,dictDisplay_pairs _ (by simp) (by simp)];show If (wpAny_standAt (If ?_));show If (wpAny_alloc ?_);show If (SB ?_);rw[RO (by simp)];let m0:Mv c.w c.G cE U s U {s with heap:=s.heap.push {cls:=.type "dict",data:=.dict #[]}}:=.push a.S;let f:=a.S.fresh (Rm s.heap.objs.size);let g0:({s with heap:=s.heap.push {cls:=.type "dict",data:=.dict #[]}}).heap.get? s.heap.objs.size=some {cls:=.type "dict",data:=.dict #[]}:=RA _ rfl;let a0:=a.mv m0;generalize s.heap.objs.size=D at *;generalize ({s with heap:=s.heap.push {cls:=.type "dict",data:=.dict #[]}})=s0 at *;show If (evalPairs_cons (l.go (av ok).1 a0 d λu x UY s1 d i a1 m1=>?_));show If (j.go (av ok).2 a1 d λu' y U3 s2 ⟨n,d⟩ g a2 m2=>?_);show If (wpAny_standAt (Q8 (evalPairs_nil ?_)));show SB<|If ?_;rw[List.forIn_cons];let b:=m1.trans m2;show If (If (RQ (FL (es:=[]) (ds:=#[]) a.u (m0.trans b) f.1 f.2.2 (b.st.keep _ _ g0 f.2.1 λh=>h) (b.st.W4 _ _ g0 f.2.1 λh=>h) n (i.mv a1.S m2) g d) (λ_ o h3=>Q8 ?_) λ_ _ e=>e));dsimp only;rw[UT];show Q8 (Q8 (Q8 (Q8 h3)))
end
variable{ts:Ts}{k:Nat}{src:yc}
open PySem.Sem (wp)
section
variable{c:Cf}
set_option tactic.hygienic true in
theorem N8{P:Nat->Nat->List (Nat×V)->Prop}{Q:Prop}(h:match v with
  |.ref a=>match U a with
   |some (.inst cl d)=>match U d with
    |some (.attrs fs)=>P cl d fs
    |_=>False
   |_=>False
  |_=>False)(k:∀a cl d fs,v=.ref a->U a=some (.inst cl d)->U d=some (.attrs fs)->P cl d fs->Q):Q:=by
 cases v<;>first|show h.elim|skip
 rename_i a
 dsimp only at h;cases e:U a with
 |none=>rw[e]at h;show h.elim
 |some o=>induction o with
  |inst cl d=>
   rw[e]at h;dsimp only at h;cases e2:U d with
   |none=>rw[e2]at h;show h.elim
   |some o=>induction o with
    |attrs fs=>rw[e2]at h;show k a cl d fs rfl e e2 h
    |_=>rw[e2]at h;show h.elim
  |_=>rw[e]at h;show h.elim
theorem nK{t:Tx}(y:bo c elt)(hS:mX c src)(hT:oY c ifs):bo c (.comp elt t src ifs sc p):=λ{fx A env L U s P} ok a j=>by
 show ao (av ok) λk1 ok=>ao (av ok) λu ok=>ao (av ok) λi ok=>ao (av ok) λh ok=>ao (av ok) λk5 ok=>ao (av ok) λk6 ok=>?_;let f:=uU k1;let ns:Vj (CO c.tab src)≠1:=by
  clear i j;cases src<;>first|show pR (av h).1|show λe=>by cases e
 change wpAny _ _ (eval (.ListComp (dE c.tab elt) [#[FN c.tab t,CO c.tab src,CN c.tab ifs,0]] sc (dP p)) env) _ _ _;rw[arm_eval_ListComp];show wpAny_comprehension_free rfl (pE ns) (f.closure a.F a.I) f.kind f.loc (RQ (hS h a j) (λxv E C=>RQ C (λit G B=>?_) λ_ _ e=>e) λ_ _ e=>e);show AH y hT a f (RP.mp u) (PG i) ok k5 k6 B<|λD H s' x UX d v r mv z l k=>az d<|λm d=>#[m,d,λh' q=>?_];show ao (Mv.one (t:=s'.toks) mv.sim rfl k l q.extBut λUZ n e=>by
  show kD d λo es ep ho hd _=>?_;rw[e]at ho;replace ho:=Is ho;cases ho;cases hd) λtk g=>?_
 show#[x,UX,v,r.keep tk,((mv.mono λ_ x=>x.elim).trans g).Xc λb w=>by clear g q d k l;subst w;show z]
set_option tactic.hygienic true in
theorem nM(g:o9 c.K c.G c.tab){m:Nat}(h:bo c e):bo c (.attr e m p):=λ{fx A env L U s P} ok a b=>by
 show Attribute_any_ (h.go (av ok).2 a b λv f UY s1 b i a1 m1=>?_) (by change(do let o <- attributeBase (dE c.tab e) (c.tab.nm m) env (eval (dE c.tab e) env);_)=_;rw[Bp (av ok).1]);show pre m1 ?_;cases f<;>first|show b.elim|skip
 rename_i q
 cases i;dsimp only at b;cases e1:UY q with
 |none=>rw[e1]at b;show b.elim
 |some o=>induction o with
  |inst cl d=>
   rw[e1]at b;show bP b ?_;ext h1 j b;cases e2:UY d with
   |none=>rw[e2]at b;show b.elim
   |some o=>induction o with
    |attrs fs=>
     rw[e2]at b;show aq (bQ b) λv e3 b=>?_;show B0 g a1.S e1 e2 h1 j e3 b
    |_=>rw[e2]at b;show b.elim
  |_=>rw[e1]at b;show b.elim
theorem nE{i:E}(hx:bo c e)(hy:bo c i):bo c (.item e i p):=λok a b=>
 Subscript_ (hx.go (av ok).1 a b λu h UY s1 b f a1 m1=>hy.go (av ok).2 a1 b λv g U3 s2 b d a2 m2=>pre (m1.trans m2) (yH a2.u a2.S (f.mv a1.S m2) d b))
theorem m9{u:E}(hx:bo c e)(hy:bo c u):bo c (.VT e u p q):=λok a b=>
 Subscript_ (hx.go (av ok).1 a b λu h UY s1 b f a1 m1=>wpAny_Slice (wpAny_evalPart_none (wpAny_evalPart_some (hy.go (av ok).2 a1 b λv g U3 s2 b d a2 m2=>wpAny_evalPart_none
  (pre (m1.trans m2) (yG a2.S (f.mv a1.S m2) d b))))))
theorem nH{u:E}(hx:bo c e)(hy:bo c u):bo c (.VM e u p q):=λok a b=>
 Subscript_ (hx.go (av ok).1 a b λu h UY s1 b f a1 m1=>wpAny_Slice (wpAny_evalPart_some (hy.go (av ok).2 a1 b λv g U3 s2 b d a2 m2=>wpAny_evalPart_none (wpAny_evalPart_none
  (pre (m1.trans m2) (yI a2.S (f.mv a1.S m2) d b))))))
theorem nq(g:o9 c.K c.G c.tab){b:P}(h:fF c es):bo c (.prim b es p q):=λ{fx A env L U s P} ok a d=>by
 show ao (n9 (av (av ok).2).1) λh1 j=>?_;let ok:=(av (av ok).2).2;show ao (OF g (av ‹_›).1) λk e=>?_;rcases e with f|f
 .show aq f λid e i=>?_;show kH h ok j (a.F.builtin g a.S h1 k e (Calls.callWith_builtin (pz es) (pn h ok a d λus vs UY s1 d rs a1 m1=>pre m1 (i a.R.handled a.u a1.S rs d))))
 show aq f λT e i=>?_;show kH h ok j (a.F.builtin g a.S h1 k e (PySem.callWith_type (pz es) (pn h ok a d λus vs UY s1 d rs a1 m1=>pre m1 (i a.R.handled a.u a1.S rs d))))
theorem nL(o:c.Ok){f:Nat}(h:fF c es):bo c (.call f n es p q):=λ{fx A env L U s P} ok a b=>by
 show ao (n9 (av (av ok).2).1) λh1 d=>?_;show ao (o.1.fns n f (RP.mp (av ok).1)) λg e=>?_;let ok:=(av (av ok).2).2;show kH h ok d (a.F.global o.1 a.S h1 g (callWith_of (by rw[pz];rfl) (keeps_K e) (pn h ok a b λus vs UY s1 b rs a1 m1=>
  #[o.1.at a1.S,pre m1 (o.2.call (a.R.mono (SS _)) a1.S rs b)])))
theorem rJ(o:c.Ok)(h:fF c es):bo c (.new k n es p q):=λ{fx A env L U s P} ok a b=>by
 show ao (n9 (av (av ok).2).1) λh1 f=>?_;show ao (o.1.cls n k (RP.mp (av ok).1)) λg e=>?_;show az (Sh.mp e) λfi hi=>?_;let ok:=(av (av ok).2).2;let d:=(o.1.ok k fi hi).2.2.2.2.2.2.2;show kH h ok f (a.F.global o.1 a.S h1 g (callWith_of (by rw[pz];rfl) (keeps_K d) (pn h ok a b λus vs UY s1 b rs a1 m1=>?_)));show aq (bQ b) λfi hi b=>#[o.1.at a1.S,pre m1 (Mp o.2 o.1 a.R a1.S rs hi b)]
set_option tactic.hygienic true in
theorem ny(o:c.Ok){m:Nat}(he:bo c e)(h:fF c es):bo c (.U5 m e es p q):=λ{fx A env L U s P} ok a b=>by
 show ao (av ok) λk1 ok=>?_;show ao (av ok) λk2 ok=>?_;show ao (av ok) λk3 ok=>?_;show ao (av ok) λk ok=>?_;show uV h ok k3 k1 k2 (he.go k a b λv i UY s1 b j a1 m1 pl=>?_);cases i<;>first|show b.elim|skip
 rename_i z
 cases j;dsimp only at b;cases e1:UY z with
 |none=>rw[e1]at b;show b.elim
 |some g=>induction g with
  |inst cl d=>
   rw[e1]at b;dsimp only at b;cases e2:UY d with
   |none=>rw[e2]at b;show b.elim
   |some g=>induction g with
    |attrs fs=>
     cases e3:c.tab.mt cl m with
     |none=>rw[e2,e3]at b;show b.elim
     |some f=>induction f with
      |none=>rw[e2,e3]at b;show b.elim
      |some f=>
       rw[e2,e3]at b;show bP b<|λh1 l b=>D2 o.1 a1.S e1 e2 h1 e3 l (callWith_of (by rw[pz];rfl) (keeps_K (o.1.mtf _ _ _ e3).2) (pn h ok a1 b λus vs U3 s2 b rs a2 m2=>?_));show#[o.1.at a2.S,pre (m1.trans m2) (o.2.call (a.R.mono (SS _)) a2.S (.cons (.ref _) rs) b)]
    |_=>rw[e2]at b;show b.elim
  |_=>rw[e1]at b;show b.elim
theorem kf(g:o9 c.K c.G c.tab){b:P}(he:bo c e)(h:fF c es):bo c (.U1 b e es p q):=λ{fx A env L U s P} ok a d=>by
 show ao (av ok) λk1 ok=>?_;show ao (av ok) λk2 ok=>?_;show ao (av ok) λk3 ok=>?_;show ao (av ok) λk4 ok=>?_;show ao (av ok) λi ok=>?_;show uV h ok k3 k1 k2 (he.go i a d λv j UY s1 ⟨hr,d⟩ f a1 m1 pl=>Ke a1.S f hr λid mk=>?_);show Calls.callWith_builtin (pz es) (pn h ok a1 d λus vs U3 s2 d rs a2 m2=>pre (m1.trans m2) (mk a.u (g.Ww a2.S) a2.S (f.mv a1.S m2) rs d))
theorem rI:fF c .nil:=#[λ_ a b=>Calls.spliced_nil #[[],_,b,.nil,.refl a.S],λ_ _ _=>rfl,λ_ S b=>#[[],_,b,.nil,.refl S]]
theorem nJ(h:bo c e)(d:fF c es):fF c (.cons e es):=#[λok a b=>
 Calls.spliced_cons (h.go (av (av ok).2).1 a b λv x UY s1 b f a1 m1=>d.go (av (av ok).2).2 a1 b λus vs U3 s2 i rs a2 m2=>#[_,U3,i,.cons (f.mv a1.S m2) rs,m1.trans m2]),
 λpos env ok=>by
  let g:=d.st pos env (av (av ok).2).2;change backTo pos (starEach (dE c.tab e::t5 c.tab es) env)=(false,_)::dA c es env;erw[Ax (pR (av ok).1),<- g];rfl,
 λe=>by cases e]
theorem kb(h:bo c e):oZ c (.truth e):=#[λok a d=>
 isTrue_plain (h.go (av ok).2 a d λv x UY s1 d g a1 m1=>RQ (AF a1.S g d) (λb s2 f=>(by show aq f λt i e=>#[UY,i,m1.trans (e▸.toks a1.S t)])) λ_ _ e=>e) (Ef (RP.mp (av ok).1)),
 λh=>by cases h]
theorem FV(g:o9 c.K c.G c.tab){k:C}(hx:bo c x)(hy:bo c y){P:Bool->aw->Prop}(ok:(fK c.tab x fx&& fK c.tab y fx)=true)(a:At c A fx env L U s)(d:jm c.tab c.CS (.cmp k x y p) L U P):
  wpAny c.M A (eval (dE c.tab x) env) (λu s1=>wpAny c.M A (eval (dE c.tab y) env) (λv s2=>wpAny c.M A (compareOp (N1 k) u v) (u4 c.w c.G U s P) aV s2) aV s1) aV s:=
 hx.go (av ok).1 a d λu m UY s1 d i a1 m1=>hy.go (av ok).2 a1 d λv l U3 s2 d h a2 m2=>
  RQ (Mw a2.u14 (g.Ww a2.S) a2.S (i.mv a1.S m2) h d) (λv n f=>(by show fH f λb t e j e2=>#[b,e,U3,j,(m1.trans m2).trans (e2▸.toks a2.S t)])) λ_ _ e=>e
theorem rO(g:o9 c.K c.G c.tab){k:C}(hx:bo c x)(hy:bo c y):oZ c (.cmp k x y p):=#[λ{fx A env L U s P} ok a d=>by
 change wpAny _ _ (isTrue (.Compare (dE c.tab x) [N1 k] [dE c.tab y] (dP p)) env _) _ _ _;rw[isTrue_Compare1];show If (RQ (FV g hx hy (av ok).2 a d) (λu s1 h1=>?_) λ_ _ e=>e);unfold markedBehindIn;rw[uW (pR (av ok).1)];show If (SB (RQ h1 (λb s2 i=>?_) λ_ _ e=>e));show If (wpAny_standAt (If (wpAny_operating (RQ i (λv j f=>?_) λ_ _ e=>e))));show aq f λb e h=>?_;clear f;subst e;show SB (Th h),
 λ_ ok a d=>wpAny_Compare1 (FV g hx hy (av ok).2 a d) (uW (pR (av ok).1))]
theorem rH{t:T}(h:oZ c t):oZ c (.not t p):=#[λok a b=>isTrue_not (h.ev ok a b),λh=>by cases h]
theorem rR(h:oY c ts):oZ c (.all ts p):=#[λok a b=>h.all (dP p) _ ok a b,λd ok a b=>h.Yq (dP p) (zL (av d).1) (av d).2 ok a b]
theorem rQ(h:oY c ts):oZ c (.any ts p):=#[λok a b=>h.any (dP p) _ ok a b,λd ok a b=>h.Yp (dP p) (zL (av d).1) (av d).2 ok a b]
theorem nh:oY c .nil where
 all:=λ_ _ _ a b=>isTrue_and_nil #[_,b,.refl a.S]
 any:=λ_ _ _ a b=>isTrue_or_nil #[_,b,.refl a.S]
 Yq:=λ_ h=>by cases h
 Yp:=λ_ h=>by cases h
 ifs:=λ_ _ a b=>Q8 #[_,b,.refl a.S]
theorem kc{t:T}(h:oZ c t)(f:oY c ts):oY c (.cons t ts) where
 all:=λpos whole ok a d=>isTrue_and (h.go (av ok).1 a d λb UY s1 d a1 m1=>by
  cases b with
  |false=>show#[UY,d.2 rfl,m1]
  |true=>show MB m1 (f.all pos whole (av ok).2 a1 (d.1 rfl)))
 any:=λpos whole ok a d=>isTrue_or (h.go (av ok).1 a d λb UY s1 d a1 m1=>by
  cases b with
  |true=>show#[UY,d.1 rfl,m1]
  |false=>show MB m1 (f.any pos whole (av ok).2 a1 (d.2 rfl)))
 Yq:=λpos _ e ok a d=>by
  cases ts with
  |nil=>show BoolOp_one (h.gv (av e).1 (av ok).1 a d λb UY s1 d a1 m1=>by
    cases b with
    |false=>show#[_,rfl,UY,d.2 rfl,m1]
    |true=>show#[_,rfl,UY,d.1 rfl,m1])
  |cons t2 ts=>show BoolOp_and (h.gv (av e).1 (av ok).1 a d λb UY s1 d a1 m1=>Th (by
    cases b with
    |false=>show#[_,rfl,UY,d.2 rfl,m1]
    |true=>show MA m1 (f.Yq pos rfl (av e).2 (av ok).2 a1 (d.1 rfl))))
 Yp:=λpos _ e ok a d=>by
  cases ts with
  |nil=>show BoolOp_one (h.gv (av e).1 (av ok).1 a d λb UY s1 d a1 m1=>by
    cases b with
    |false=>show#[_,rfl,UY,d.2 rfl,m1]
    |true=>show#[_,rfl,UY,d.1 rfl,m1])
  |cons t2 ts=>show BoolOp_or (h.gv (av e).1 (av ok).1 a d λb UY s1 d a1 m1=>Th (by
    cases b with
    |true=>show#[_,rfl,UY,d.1 rfl,m1]
    |false=>show MA m1 (f.Yp pos rfl (av e).2 (av ok).2 a1 (d.2 rfl))))
 ifs:=λhsh ok a d=>by
  cases ts with
  |cons _ _=>(cases hsh)
  |nil=>show wpAny_tests_one (h.go (av ok).1 a d λb UY s1 d a1 m1=>by
    cases b with
    |false=>show#[UY,d.2 rfl,m1]
    |true=>show#[UY,d.1 rfl,m1])
theorem rF(g:o9 c.K c.G c.tab)(h:bo c e):mX c (.seq e):=λok a b=>
 h.go (av ok).2 a b λv x UY s1 b d a1 m1=>RQ (Kg (g.Ww a1.S) a1.S d b) (λit s2 f=>f.trans m1) λ_ _ e=>e
theorem mA(g:o9 c.K c.G c.tab){T:String}(hT:T∈["list","tuple","dict","int","range","reversed","enumerate"]){p q:Pos}(h:bo c e)(ok:(iJ fx (Str.ofString T)&& (!(Vj (dE c.tab e)== 0)&& fK c.tab e fx))=true)
  {P:QV} {Q:QS} (a:At c A fx env L U s) (d:bj c.tab c.CS e L U P) (i:∀v x UY s1,P x UY->VR s1.heap x v->At c A fx env L UY s1->Mv c.w c.G cE U s UY s1->wpAny c.M A (call (.type T) [v]) Q aV s1):
  wpAny c.M A (eval (.Call (.Name (Str.ofString T) p) [dE c.tab e] [] q) env) Q aV s:=by
 show ao (g.bt T hT) λl k=>?_;show ao (n9 (av ok).1) λh1 j=>?_;show ao (av (av ok).2) λh3 ok=>?_;change wpAny _ _ (eval (.Name _ p) env >>= λfv=>callWith q fv [] (backTo q (starEach [dE c.tab e] env)) []) _ _ _;erw[Ax (pR h3)];show If (wpAny_Name (a.F.builtin g a.S h1 l k (PySem.callWith_type rfl (Calls.evalArgs_plain (Calls.spliced_cons (h.go ok a d λv x UY s1 f b a1 m1=>Calls.spliced_nil (i v x UY s1 f b a1 m1)))))) j)
theorem ke(g:o9 c.K c.G c.tab)(h:bo c e):mX c (.range e p q):=λok a f=>
 mA g (by simp) h ok a f λv x UY s1 b d a1 m1=>by
  cases x<;>first|show b.elim|skip
  cases d;show RQ (Ht a1.S b.1 b.2) (λxv s2 j=>RQ j (λit k i=>i.trans m1) λ_ _ e=>e) λ_ _ e=>e
theorem rG(g:o9 c.K c.G c.tab)(h:bo c e):mX c (.rev e p q):=λok a f=>
 mA g (by simp) h ok a f λv x UY s1 b d a1 m1=>by
  cases x<;>first|show b.elim|skip
  show RQ (yJ a1.S d b.1 b.2) (λxv s2 j=>RQ j (λit k i=>i.trans m1) λ_ _ e=>e) λ_ _ e=>e
theorem nI(g:o9 c.K c.G c.tab)(h:bo c e):mX c (.enum e p q):=λok a d=>
 mA g (by simp) h ok a d λv x UY s1 i b a1 m1=>
  RQ (Ki a1.S b i) (λxv s2 j=>RQ j (λit k f=>f.trans m1) λ_ _ e=>e) λ_ _ e=>e
theorem Mf(o:c.Ok)(e:E):bo c e:=
 E.rec (motive_1:=bo c)
  (λ_ _=>rM) (λ_ _ _=>rK) (λ_ _=>nG o.1) (λ_=>rL) (λ_ _ _ _=>rP) (λ_ _=>nv) (λ_ _ _ _=>rN) (λ_=>nj)
  (λ_ _=>rE) (λ_ _=>nB) (λ_=>kj) (λ_ _ _=>kh) (λ_ _ _ _ _ _=>nK) (λ_ _ _=>nM o.1) (λ_ _ _ _=>m9) (λ_ _ _ _=>nH) (λ_ _ _=>nE)
  (λ_ _ _ _=>nq o.1) (λ_ _ _ _ _=>nL o) (λ_ _ _ _ _=>rJ o) (λ_ _ _ _ _=>ny o) (λ_ _ _ _ _=>kf o.1)
  rI (λ_ _=>nJ) (λ_=>kb) (λ_ _ _ _=>rO o.1) (λ_ _=>rH) (λ_ _=>rR) (λ_ _=>rQ) nh (λ_ _=>kc)
  (λ_=>rF o.1) (λ_ _ _=>ke o.1) (λ_ _ _=>rG o.1) (λ_ _ _=>nI o.1) e
theorem Mb(o:c.Ok)(t:T):oZ c t:=
 T.rec (motive_1:=bo c)
  (λ_ _=>rM) (λ_ _ _=>rK) (λ_ _=>nG o.1) (λ_=>rL) (λ_ _ _ _=>rP) (λ_ _=>nv) (λ_ _ _ _=>rN) (λ_=>nj)
  (λ_ _=>rE) (λ_ _=>nB) (λ_=>kj) (λ_ _ _=>kh) (λ_ _ _ _ _ _=>nK) (λ_ _ _=>nM o.1) (λ_ _ _ _=>m9) (λ_ _ _ _=>nH) (λ_ _ _=>nE)
  (λ_ _ _ _=>nq o.1) (λ_ _ _ _ _=>nL o) (λ_ _ _ _ _=>rJ o) (λ_ _ _ _ _=>ny o) (λ_ _ _ _ _=>kf o.1)
  rI (λ_ _=>nJ) (λ_=>kb) (λ_ _ _ _=>rO o.1) (λ_ _=>rH) (λ_ _=>rR) (λ_ _=>rQ) nh (λ_ _=>kc)
  (λ_=>rF o.1) (λ_ _ _=>ke o.1) (λ_ _ _=>rG o.1) (λ_ _ _=>nI o.1) t
theorem Ma(o:c.Ok)(ts:Ts):oY c ts:=
 Ts.rec (motive_1:=bo c)
  (λ_ _=>rM) (λ_ _ _=>rK) (λ_ _=>nG o.1) (λ_=>rL) (λ_ _ _ _=>rP) (λ_ _=>nv) (λ_ _ _ _=>rN) (λ_=>nj)
  (λ_ _=>rE) (λ_ _=>nB) (λ_=>kj) (λ_ _ _=>kh) (λ_ _ _ _ _ _=>nK) (λ_ _ _=>nM o.1) (λ_ _ _ _=>m9) (λ_ _ _ _=>nH) (λ_ _ _=>nE)
  (λ_ _ _ _=>nq o.1) (λ_ _ _ _ _=>nL o) (λ_ _ _ _ _=>rJ o) (λ_ _ _ _ _=>ny o) (λ_ _ _ _ _=>kf o.1)
  rI (λ_ _=>nJ) (λ_=>kb) (λ_ _ _ _=>rO o.1) (λ_ _=>rH) (λ_ _=>rR) (λ_ _=>rQ) nh (λ_ _=>kc)
  (λ_=>rF o.1) (λ_ _ _=>ke o.1) (λ_ _ _=>rG o.1) (λ_ _ _=>nI o.1) ts
theorem DM(o:c.Ok)(x:yc):mX c x:=
 yc.rec (motive_1:=bo c) (motive_5:=mX c)
  (λ_ _=>rM) (λ_ _ _=>rK) (λ_ _=>nG o.1) (λ_=>rL) (λ_ _ _ _=>rP) (λ_ _=>nv) (λ_ _ _ _=>rN) (λ_=>nj)
  (λ_ _=>rE) (λ_ _=>nB) (λ_=>kj) (λ_ _ _=>kh) (λ_ _ _ _ _ _=>nK) (λ_ _ _=>nM o.1) (λ_ _ _ _=>m9) (λ_ _ _ _=>nH) (λ_ _ _=>nE)
  (λ_ _ _ _=>nq o.1) (λ_ _ _ _ _=>nL o) (λ_ _ _ _ _=>rJ o) (λ_ _ _ _ _=>ny o) (λ_ _ _ _ _=>kf o.1)
  rI (λ_ _=>nJ) (λ_=>kb) (λ_ _ _ _=>rO o.1) (λ_ _=>rH) (λ_ _=>rR) (λ_ _=>rQ) nh (λ_ _=>kc)
  (λ_=>rF o.1) (λ_ _ _=>ke o.1) (λ_ _ _=>rG o.1) (λ_ _ _=>nI o.1) x
theorem Fe(o:c.Ok)(e:E){P:QV}{R:QS}(ok:fK c.tab e fx=true)(a:At c A fx env L U s)(d:bj c.tab c.CS e L U P)
  (k:∀v x UY s1,P x UY->VR s1.heap x v->At c A fx env L UY s1->Mv c.w c.G cE U s UY s1->R v s1):wpAny c.M A (eval (dE c.tab e) env) R aV s:=
 RQ (Mf o e ok a d) (λv s1 b=>(by show fH b λx UY f r m=>?_;show k v x UY s1 f r (a.mv m) m)) λ_ _ e=>e
end
end
section
variable{A:Around}{I:Addr}{L L':aQ}{b:Ss}{env:Env}{fl:Fl}{fx:Fx}{i:Nat}{p:Ps}{s s0 s1 s2:Shared}{t:Tx}{to:Bool}{u:Value}{v:V}{U U0 UY U3 τ:aw}
open PySem.Sem (wp)
inductive JG(h:Heap):Fl->Flow->Prop
 |next:JG h .next .next
 |cont:JG h .cont .cont
 |ret{v:V}{u:Value}:VR h v u->JG h (.ret v) (.ret u)
def tU(w:World)(G:Gc)(fx:Fx)(env:Env)(U:aw)(s:Shared)(P:QF)(f:Flow)(s':Shared):Prop:=
 ∃fl L' UX,P fl L' UX/\JG s'.heap fl f/\Fm G.H0 fx env L' UX s'.heap/\Mv w G (XF env) U s UX s'
def jx(c:Cf)(x:S):Prop:=∀{fx:Fx}{A:Around}{env:Env}{L:aQ}{U:aw}{s:Shared}{P:QF},OL c.tab x fx=true->At c A fx env L U s->
 LS c.tab c.CS x L U P->wpAny c.M A (exec (dS c.tab x) env) (tU c.w c.G fx env U s P) aV s
def jk(c:Cf)(x:Ss):Prop:=∀{fx:Fx}{A:Around}{env:Env}{L:aQ}{U:aw}{s:Shared}{P:QF},vD c.tab x fx=true->At c A fx env L U s->
 an c.tab c.CS x L U P->wpAny c.M A (execs (Db c.tab x) env) (tU c.w c.G fx env U s P) aV s
section
variable{c:Cf}{P:QF}{f:Flow}
theorem Av{n i k:Nat}(e:k=n+1 - i)(h:i<n):n+1 - (i+1)<k:=by rw[e];show Tu (TM h) (Sq i)
theorem Mv.up(m:Mv c.w c.G cE U s UY s1):Mv c.w c.G (XF env) U s UY s1:=m.mono λ_ x=>x.elim
structure ye(c:Cf)(A:Around)(fx:Fx)(env:Env)(U0:aw)(s0:Shared)(L:aQ)(U:aw)(s:Shared):Prop where
 at_:At c A fx env L U s
 mv:Mv c.w c.G (XF env) U0 s0 U s
theorem ye.q(a:ye c A fx env U s L UY s1)(m:Mv c.w c.G cE UY s1 U3 s2):ye c A fx env U s L U3 s2:=#[a.at_.mv m,a.mv.trans m.up]
theorem At.fr(a:At c A fx env L U s):ye c A fx env U s L U s:=#[a,.refl a.S]
theorem ye.next(a:ye c A fx env U s L UY s1)(h:P .next L UY):tU c.w c.G fx env U s P .next s1:=#[.next,L,UY,h,.next,a.at_.F,a.mv]
theorem ye.store(a:ye c A fx env U s L UY s1){x:Nm}{Q:Unit->Shared->Prop}(d:vG c.tab fx x=true)(b:VR s1.heap v u)(e:∀s2,ye c A fx env U s (L.set x.i (some v)) UY s2->Q () s2):wpAny c.M A (storeName env (c.tab.nm x.n) u) Q aV s1:=
 a.at_.F.store a.at_.I a.at_.S (gZ d) b (GC.xf _) λs2 f m2 _=>e s2 #[#[a.at_.R,m2.sim,f,a.at_.I],a.mv.trans m2]
theorem jk.go{x:Ss}(h:jk c x){R:Flow->Shared->Prop}(ok:vD c.tab x fx=true)(a:ye c A fx env U s L UY s1)(g:an c.tab c.CS x L UY P)
  (k:∀fl f b U3 s2,P fl b U3->JG s2.heap fl f->ye c A fx env U s b U3 s2->R f s2):wpAny c.M A (execs (Db c.tab x) env) R aV s1:=
 RQ (h ok a.at_ g) (λf s2 d=>(by show AU d λfl b U3 i hf F m=>?_;show k fl f b U3 s2 i hf #[#[a.at_.R,m.sim,F,a.at_.I],a.mv.trans m])) λ_ _ e=>e
theorem jx.go{x:S}(h:jx c x){R:Flow->Shared->Prop}(ok:OL c.tab x fx=true)(a:ye c A fx env U s L UY s1)(g:LS c.tab c.CS x L UY P)
  (k:∀fl f b U3 s2,P fl b U3->JG s2.heap fl f->ye c A fx env U s b U3 s2->R f s2):wpAny c.M A (exec (dS c.tab x) env) R aV s1:=
 RQ (h ok a.at_ g) (λf s2 d=>(by show AU d λfl b U3 i hf F m=>?_;show k fl f b U3 s2 i hf #[#[a.at_.R,m.sim,F,a.at_.I],a.mv.trans m])) λ_ _ e=>e
theorem ye.post(a:ye c A fx env U s L UY s1)(h:P fl L UY)(hf:JG s1.heap fl f):tU c.w c.G fx env U s P f s1:=#[fl,L,UY,h,hf,a.at_.F,a.mv]
theorem DC:jk c .nil:=λok a b=>wpAny_execs_nil (a.fr.next b)
theorem BU{x:S}{xs:Ss}(h:jx c x)(g:jk c xs):jk c (.cons x xs):=λok a e=>
 wpAny_execs_cons (h.go (av ok).1 a.fr e λfl f j UY s1 b hf a1=>by
  induction hf with
  |next=>show g.go (av ok).2 a1 b λ_ _ _ _ _ h1 i a2=>a2.post h1 i
  |cont=>show a1.post b .cont
  |ret d=>show a1.post b (.ret d))
theorem BR(o:c.Ok){t:T}(u:jk c b):jx c (.while t b p):=λ{fx A env L U s P} ok a hw=>by
 show aq hw ?_;ext J w;show az w λk r=>?_;ext step;show wpAny_While (codeAny_whileLoop (λk s'=>∃L' UX,J k L' UX/\ye c A fx env U s L' UX s') ?_ k #[L,U,r,a.fr]);ext k s1 l;show ck l λx UY d a1=>?_;show gC ((Mb o t).go (av ok).1 a1.at_ (step k x UY d) λb U3 s2 h _ m2=>?_);let h1:=h.1;let v:=h.2;cases b with
 |false=>
  rw[RX Sr];show gC (wpAny_execs_nil ((a1.q m2).next (v rfl)))
 |true=>
  rw[RO rfl];show gC (u.go (av ok).2 (a1.q m2) (h1 rfl) λfl f j i y e hf a3=>?_);induction hf with
  |next=>show aq e λm g d=>#[m,g,j,i,d,a3]
  |cont=>show aq e λm g d=>?_;show#[m,g,j,i,d,a3]
  |ret n=>show a3.post e (.ret n)
def Jp(c:Cf)(t:Tx)(b:Ss)(x:V)(L:aQ)(U:aw)(K:QF):Prop:=bA (lA t x L) λL'=>an c.tab c.CS b L' U K
theorem Dt(h:t.ok c.tab fx=true):∀x∈t.nms,bV fx (c.tab.nm x.n)=some x.i/\GC fx env (XF env) (c.tab.nm x.n):=
 λx hx=>#[gZ (S5.mp (av h).1 x hx),GC.xf _]
theorem qs{X:Addr->Prop}(m:Mv c.w c.G (λb=>X b\/XF env b) U s UY s1)(h:∀b,X b->s.heap.get? b=none):Mv c.w c.G (XF env) U s UY s1:=by let a:∀b o,s.heap.get? b=some o->¬XF env b->¬(X b\/XF env b):=λb o e n x=>x.elim (λx=>by rw[h b x]at e;show nS e) n;show#[m.sim,#[λb o e x=>m.st.live b o e (a b o e x),λb o e n x=>m.st.keep b o e n (a b o e x),λb o e n x=>m.st.W4 b o e n (a b o e x)],m.gens,m.os]
theorem Fi(a:jk c b)(ok:vD c.tab b fx=true)(C:t.ok c.tab fx=true){wr:Addr->Prop}{items:TV}{gd:aw->Prop}{St:Nat->Heap->Prop}{WD:Nat->Value->Heap->Prop}(IT:qg c.prog c.w c.G I wr items gd to St WD)(ZO:to=true->t.isTup=true)
  (R:lx (c.r+1) A) (inj:xW fx) (w0:∀b,wr b->c.G.H0.get? b=none/\¬XF env b) {K:QF} (lp:Lp c.w c.G fx env wr (XF env) St U0 s0 i L τ s) (J:items[i]?=some v) (P:gd τ) (h:Jp c t b v L τ K)
  {Q:Flow->Shared->Prop} (T:∀fl f L' VO s',K fl L' VO->JG s'.heap fl f->Lp c.w c.G fx env wr (XF env) St U0 s0 (i+1) L' VO s'->Q f s') {y:Option Value->Shared->Prop} {E:QS}
  (hR:∀u s1,wpAny c.M A (letOwnedTupleGo (FN c.tab t) (.ref I) u) (λ_ s2=>wpAny c.M A (assign (FN c.tab t) env u) (λ_ B=>wpAny c.M A (execs (Db c.tab b) env) Q E B) E s2) E s1->y (some u) s1):wpAny c.M A (pyNext (.ref I)) y E s:=by
 let wn:∀b,wr b->τ b=none/\c.G.H0.get? b=none:=λb a=>#[lp.nW b a,(w0 b a).1];let o:=λb hx a=>(w0 b a).2 hx;show gC (IT.item A τ s i v _ R.handled (by let:=R.units;lia) J lp.st P lp.mv.sim wn λu p ru σ ma g=>hR u p (gC ?_));show IT.go A τ p i _ u _ (λe=>w3 (ZO e)) σ ma.sim wn λsb V H q=>?_;let l:=lp.it (ma.trans H) (g.trans q) V o;show aq (bQ h) λY O h=>?_;show gC (Ka inj R.handled O (Dt C) (ru.keep q) l.fm l.mv.sim λsc z=>gC ?_);show bP z λm D d=>?_;let n:∀b,XF env b->XF env b/\¬wr b:=λb hx=>#[hx,o b hx];let x:=l.go IT D d n m;let ac:At c A fx env Y τ sc:=#[R,x.mv.sim,m,inj];show a.go ok ac.fr h λfl f X W sd N j k=>T fl f X W sd N j (x.go IT k.mv (m.tup ac.S k.mv) n k.at_.F)
theorem uE{x:yc}(ok:AT c.tab x fx=true):Vj (CO c.tab x)≠1:=by cases x<;>first|show pR (av ok).1|show λe=>by cases e
theorem Hh(o:c.Ok){x:yc}(d:jk c b):jx c (.for t x b p):=λ{fx A env L U s P} ok a M=>by
 show ao (av ok) λot ok=>ao (av ok) λos ok=>ao (av ok) λK ok=>wpAny_For (RQ (DM o x os a M) (λxv s1 h1=>RQ h1 (λit s2 D=>?_) λ_ _ e=>e) λ_ _ e=>e) (pE (uE os));show C6 D λIa wr items gd σ H=>?_;clear D;show Jh H ?_;clear H;ext St WD UY rfl IT O Q T;show bP T λN m1 n=>?_;let w0:∀b,wr b->c.G.H0.get? b=none/\¬XF env b:=λb d=>#[(n b d).2.1,λhx=>by
  show aq (a.F.xf hx) λo ho _=>?_;rw[(n b d).1]at ho;show nS ho]
 let fin:∀{τ s'},Mv c.w c.G (λb=>wr b\/XF env b) UY s2 τ s'->Mv c.w c.G (XF env) U s τ s':=λmv=>qs ((m1.mono λ_ x=>x.elim).trans mv) λb d=>(n b d).1;show codeAny_forLoop_any (λk s'=>∃(i:Nat)(τ:aw)(L':aQ),k=items.length+1 - i/\i<=items.length/\Lp c.w c.G fx env wr (XF env) St UY s2 i L' τ s'/\fM gd (Jp c t b) (items.drop i) L' τ P) ?_ (items.length+1)
  #[0,UY,L,rfl,Rx _,#[.refl m1.sim,Q,a.F.mv a.S m1,λb d=>(n b d).2.2],N]
 ext k s' B;show AU B λi τ L' E hi lp hf=>?_;clear B;cases m:items[i]? with
 |none=>
  let j:i=items.length:=SM hi (List.getElem?_eq_none_iff.mp m);let ls:=lp.st;rw[j]at ls;rw[j,List.drop_length]at hf;show gC (IT.done A τ s' _ a.R.handled (by let:=a.u;(show Q5 (Rb ?_ _) ‹_›;decide)) ls hf.1 lp.mv.sim (λb d=>#[lp.nW b d,(w0 b d).1]) λXf C tk=>gC (wpAny_execs_nil ?_));show#[.next,L',τ,hf.2,.next,lp.fm.ZJ tk C λb hx d=>(w0 b d).2 hx,fin (lp.mv.trans (C.mono λb d=>.inl d))]
 |some v=>
  let l:=(RC.mp m).1;rw[UE l,(RC.mp m).2]at hf;show Fi d ok ot IT (λe=>PG K (O e)) a.R a.I w0 lp m hf.1 hf.2 (λfl f z y sd q r g=>?_) λu s1 h=>h;induction r with
  |next=>show#[_,Av E l,i+1,y,z,rfl,l,g,q]
  |cont=>show#[_,Av E l,i+1,y,z,rfl,l,g,q]
  |ret J=>show#[_,z,y,q,.ret J,g.fm,fin g.mv]
end
variable{e elt:E}{j:Nat}{ifs:Ts}{is:TN}{l:List Nm}{q:Ps}{sc:Scope}{src:yc}{us:TW}{vs xs:TV}{x:Nm}
open PySem.Sem (wp)
section
variable{c:Cf}{P:QF}
theorem BS(o:c.Ok):jx c (.expr e p):=λ{fx A env L U s P} ok a hw=>by
 let hi:interactive env=false:=by unfold interactive;rw[a.F.scope,a.F.kind];rfl
 show wpAny_Expr (Fe o e (av ok).2 a hw λv x UY s1 b d a1 m1=>?_) hi (wD (by rw[RP.mp (av ok).1];decide));let fin:=(a.fr.q m1).next (P:=P);cases d with
 |tup _ _=>show b.elim
 |ref a=>show b.elim
 |_=>show fin b
theorem J5(o:c.Ok){t:T}{x y:Ss}(hx:jk c x)(hy:jk c y):jx c (.ite t x y p):=λok a d=>
 wpAny_If ((Mb o t).go (av ok).1 a d λb UY s1 d a1 m1=>by
  let ok:=av (av ok).2;induction b with
  |true=>show hx.go ok.1 (a.fr.q m1) (d.1 rfl) λ_ _ _ _ _ h1 e a2=>a2.post h1 e
  |false=>show hy.go ok.2 (a.fr.q m1) (d.2 rfl) λ_ _ _ _ _ h1 e a2=>a2.post h1 e)
theorem Hg(o:c.Ok):jx c (.ret e p):=λok a d=>
 wpAny_Return_some (Fe o e ok a d λv x UY s1 f b a1 m1=>(a.fr.q m1).post f (.ret b))
theorem Hi(o:c.Ok):jx c (.aug x e p):=λ{fx A env L U s P} ok a f=>by
 show ao (av ok) λg ok=>?_;show aq (bQ f) λv i f=>?_;show wpAny_AugAssign_Name (a.F.load (gZ g) i λu ru=>Fe o e ok a f λb y UY s1 d h a1 m1=>?_);show iI ru d λ_ _ d=>iI h d λ_ _ d=>iadd_int (((a.fr.q m1).q (.toks a1.S _)).store g (.int _ _) λs2 a2=>a2.next d)
theorem Gx(o:c.Ok){t:Tx}(j:swapsWith (dE c.tab (.comp elt t src ifs sc p)) (some (pQ c.tab x)) (dP q).line env=pure true)(O:vG c.tab fx x=true)(ok:fK c.tab (.comp elt t src ifs sc p) fx=true)
  (a:At c A fx env L U s) (N:LS c.tab c.CS (.VF x (.comp elt t src ifs sc p) q) L U P):wpAny c.M A (exec (dS c.tab (.VF x (.comp elt t src ifs sc p) q)) env) (tU c.w c.G fx env U s P) aV s:=by
 show ao (av ok) λk1 ok=>ao (av ok) λK ok=>ao (av ok) λJ ok=>ao (av ok) λB ok=>ao (av ok) λk5 ok=>ao (av ok) λk6 ok=>?_;let g:=uU k1;change wpAny _ _ (exec (.Assign [.Name (c.tab.nm x.n) (dP x.p)] (dE c.tab (.comp elt t src ifs sc p)) (dP q)) env) _ _ _;rw[exec_Assign_Name_used _ _ _ _ j];show If (wpAny_standAt (If ?_));show If (RQ (wpAny_comprehension_free rfl (pE (uE B)) (g.closure a.F a.I) g.kind g.loc
  (RQ (DM o src B a N) (λxv X σ=>RQ σ (λit Y T=>?_) λ_ _ e=>e) λ_ _ e=>e)) (λ_ s' k=>Q8 (Q8 k)) λ_ _ e=>e)
 show AH (Q:=λv UX=>P .next (L.set x.i (some v)) UX)
  (Mf o elt) (Ma o ifs) a g (RP.mp K) (PG J) ok k5 k6 T ?_
 show λD u s' z UX d k H mv E R C=>az d ?_;clear d;ext m d;let nC:¬XF env u:=λh=>by show aq (a.F.xf h) λo ho _=>?_;rw[E]at ho;show nS ho
 show wpAny_assign_Name ((a.F.mv a.S mv).store a.I mv.sim (gZ O) H (GC.xf _) λs2 W m2 WP=>?_);let l:s2.heap.Ns u m:=by
  show uI d λo es ep ho r=>?_;clear d;show#[o,es,ep,m2.st.keep u o ho C nC,r]
 show#[m,l,λh' V=>?_];show ao (Mv.one (t:=s2.toks) m2.sim rfl C R V.extBut λUZ n e=>by
  show kD l λo es ep ho hd _=>?_;clear l;rw[e]at ho;replace ho:=Is ho;cases ho;cases hd) λtk y=>?_
 show#[.next,_,UX,k,.next,W.ZJ tk y λb hx e=>nC (e▸hx),
  qs (((mv.mono λ_ x=>x.elim).trans (m2.mono λb f=>.inr f)).trans (y.mono λb f=>.inl f)) λb f=>by cases f;show E]
theorem u3(o:c.Ok)(d:vG c.tab fx x=true)(ok:fK c.tab e fx=true)(a:At c A fx env L U s)(f:LS c.tab c.CS (.VF x e p) L U P)(h:swapsWith (dE c.tab e) (some (pQ c.tab x)) (dP p).line env=pure false):
  wpAny c.M A (exec (dS c.tab (.VF x e p)) env) (tU c.w c.G fx env U s P) aV s:=
 wpAny_Assign_Name (Fe o e ok a f λv z UY s1 g b a1 m1=>(a.fr.q m1).store d b λs2 a2=>a2.next g) h
theorem M1(h:∀a b c d s q,e≠.comp a b c d s q):e.WH=false:=by cases e<;>first|show @Eq.refl _ false|show absurd rfl (h _ _ _ _ _ _)
theorem IA(h:e.WH=true):∃elt t src ifs sc q,e=.comp elt t src ifs sc q:=Classical.byContradiction λn=>nF ((M1 λa b c d s q e=>n #[a,b,c,d,s,q,e]).symm.trans h)
theorem DJ(o:c.Ok):jx c (.VF x e p):=λ{fx A env L U s P} ok a hw=>by
 show ao (av ok) λf ok=>?_;show ao (av ok) λd ok=>?_;cases g:e.WH with
 |false=>rw[g]at d;show u3 o f ok a hw (wD λh=>by
   rcases h with h|h<;>(rw[h]at d;cases d))
 |true=>
  show C6 (IA g) λelt t src ifs sc j=>?_;show az j ?_;clear j;clear g d;ext q rfl;show az (show ∃b,swapsWith (dE c.tab (.comp elt t src ifs sc q)) (some (pQ c.tab x)) (dP p).line env=pure b from#[_,rfl]) λb i=>?_;induction b with
  |false=>show u3 o f ok a hw i
  |true=>show Gx o i f ok a hw
theorem sq(S:ba c.w c.G U s.heap){l:Nat}{t:Tok}{x:Value}{Q:aw->Prop}(d:U l=some (.list xs))(hx:VR s.heap v x)(b:j<xs.length)(hz:xs.length<=bu){k:Int}(a:k=(j:Int))
  (h:Q (bq U l (.list (xs.set j v)))):wpAny c.M A (setItem (.ref l) (.int k t) x) (u5 c.w c.G cE U s Q) aV s:=by
 show ck (S.list d) λvs n ho hr=>?_;let hn:j<vs.size:=by rw[hr.length]at b;simpa using b
 let hT:s.TypeIs (.ref l) "list":=#[_,ho,rfl];let e:=TH hn;unfold setItem;try with_reducible show SB ?_
 first|show If (Q8 ?_)|skip
 show If (wpAny_sequenceKey hT (dR rfl) ?_);show If (wpAny_callSpecial?_slot hT slot_list_setitem
  (Sk slot_list_setitem hT entry_list_setitem ?_ (args_list_setitem _ _ _)))
 change wpAny _ _ (Builtin.List.listSubscript? (.int k t) >>= _) _ _ s;show If (wpAny_listSubscript_int (fitsIndex_of ((a▸Ry _)) (by unfold bu at hz;show a▸Int.lt_of_lt_of_le (Int.ofNat_lt.mpr (Nat.lt_of_lt_of_le b hz)) (dR rfl))) ?_);subst a;show If (If (wpAny_seqItemAt ho rfl (Q8 ?_)));rw[e];show az (show ∃n',(s.heap.update l (Obj.mapSeq (·.setIfInBounds j x))).get? l=some (seqObj "list" (vs.setIfInBounds j x) n') from#[_,SH (Obj.mapSeq (·.setIfInBounds j x)) ho rfl]) λn' f=>?_;show If (wpAny_setSeqItemAt ho rfl (If (Q8 (Q8 #[.none,rfl,Q8 ?_]))));show#[_,h,Mv.update S d (Sl ..) λtk=>#[_,n',f,by rw[Array.toList_setIfInBounds];show(hr.set j hx).keep tk]]
theorem Qn{t:Sem Unit}{Q:aw->Prop}{R:Unit->Shared->Prop}(h:wpAny c.M A t (u5 c.w c.G cE U s Q) aV s)(k:∀UY s1,Q UY->Mv c.w c.G cE U s UY s1->R () s1):wpAny c.M A t R aV s:=
 RQ h (λ_ s1 a=>(by show aq a λUY b m=>?_;show k UY s1 b m)) λ_ _ e=>e
theorem Kc(g:o9 c.K c.G c.tab){o:V}{x:Value}{m:Nat}{Q:aw->Prop}(S:ba c.w c.G U s.heap)(ro:VR s.heap o u)(a:VR s.heap v x)(h:vb c.tab o m v U Q):wpAny c.M A (setAttr u (c.tab.nm m) x) (u5 c.w c.G cE U s Q) aV s:=by show iR ro h λq h=>QD h λcl d e1 h=>bP h λe b h=>QE h λfs e2 h=>BZ g S e1 e2 e b h.1 a h.2
theorem Kb{o k:V}{y x:Value}{Q:aw->Prop}(hu:A.units+60<cLine)(S:ba c.w c.G U s.heap)(ro:VR s.heap o u)(b:VR s.heap k y)(a:VR s.heap v x)(h:r4 o k v U Q):wpAny c.M A (setItem u y x) (u5 c.w c.G cE U s Q) aV s:=by show iR ro h λq h=>H8 h (λl e1 h=>iI b h λj t h=>t9 h λh0 h1 e d=>?_) λes ep e1 h=>sr (by(show Q5 (Rb ?_ _) ‹_›;decide)) S e1 b a h.1 h.2.1 h.2.2;show az (Up h0) ?_;ext k rfl;show sq S e1 a h1 e rfl d
theorem Hc{e o:Expr}{n:Str}{p:Pos}{l:Nat}:swapsWith e (some (.Attribute o n p)) l env=pure false:=by unfold swapsWith;cases e<;>show @Eq.refl _ (pure false)
theorem Hb{e o i:Expr}{p:Pos}{l:Nat}:swapsWith e (some (.Subscript o i p)) l env=pure false:=by unfold swapsWith;cases e<;>show @Eq.refl _ (pure false)
theorem DL(o:c.Ok){x:E}{m:Nat}:jx c (.U8 x m q e p):=λok a h=>
 plainObj_wpAny_Assign_Attribute (Fe o e (av ok).2 a h λv z UY s1 b f a1 m1=>Fe o x (av ok).1 a1 b λu y U3 s2 b d a2 m2=>
  Qn (Kc o.1 a2.S d (f.mv a1.S m2) b) λVa i b g=>(((a.fr.q m1).q m2).q g).next b) Hc
theorem DI(o:c.Ok){x i:E}:jx c (.Ve x i q e p):=λok a l=>
 wpAny_Assign_Subscript (Fe o e (av (av ok).2).2 a l λv z UY s1 b g a1 m1=>Fe o x (av ok).1 a1 b λu y U3 s2 b f a2 m2=>Fe o i (av (av ok).2).1 a2 b λw k r n b h a3 d=>
  Qn (Kb a3.u a3.S (f.mv a2.S d) h ((g.mv a1.S m2).mv a2.S d) b) λVr m b j=>((((a.fr.q m1).q m2).q d).q j).next b) Hb
theorem y8{f:Expr->Option Str}(hf:∀x p y,f (.Name x p)=some y->y=x)(l:List Nm):((l.map (pQ c.tab)).filterMap f).length<=(l.map (pQ c.tab)).length/\(((l.map (pQ c.tab)).filterMap f).length=(l.map (pQ c.tab)).length->(l.map (pQ c.tab)).filterMap f=l.map λx=>c.tab.nm x.n)
 := by
  induction l with
  |nil=>show#[Rm _,λ_=>rfl]
  |cons x l d=>
    show ao d λa b=>?_;rw[Sb];cases q:f (pQ c.tab x)with
    |none=>
      rw[List.filterMap_cons_none q];show#[Tr a,λe=>absurd e (RY (Tq a))]
    |some y=>
      rw[List.filterMap_cons_some q,hf _ _ y q];show#[Rj a,λe=>by rw[b (Tl e)];rfl]
theorem L8{p:Pos}{e:Expr}(h:∀vs k p,e≠Expr.Tuple vs k p):swappedStores [.Tuple (l.map (pQ c.tab)) 0 p] e env=pure none:=by cases e<;>first|show @Eq.refl _ (pure none)|show absurd rfl (h _ _ _)
theorem OT{α:Type}{n u v:α}(b1 b2 b3 b4 a:Bool)(h:a=false):(if b1 then n else if b2 then n else if b3 then n else if b4 then n else if a then u else v)=n\/(b1=false/\b3=false/\(if b1 then n else if b2 then n else if b3 then n else if b4 then n else if a then u else v)=v):=by
 cases b1
 .cases b2
  .cases b3
   .cases b4
    .show .inr #[rfl,rfl,by rw[h];rfl]
    show .inl rfl
   show .inl rfl
  show .inl rfl
 show .inl rfl
theorem QT{b:Bool}(h:(!b)=false):b=true:=by
 cases b
 .show nF h.symm
 rfl
theorem EW{c:Bool}{x y:Str}(h:(if c then some x else none)=some y):y=x:=by
 cases c
 .show nS h
 show(Is h).symm
theorem yp{p:Pos}{e:Expr}(a:Au e=false):
  swappedStores [.Tuple (l.map (pQ c.tab)) 0 p] e env=pure none\/((l.length=2\/l.length=3)/\swappedStores [.Tuple (l.map (pQ c.tab)) 0 p] e env=pure (some (l.map λx=>c.tab.nm x.n))):=by
 rcases Classical.em (∃vs k p,e=Expr.Tuple vs k p)with q|q
 .show ON q λvs f p2 q=>?_;subst q;show(OT _ _ _ _ _ a).imp id λh=>?_;let d:=Bool.or_eq_false_iff.mp (Bool.or_eq_false_iff.mp h.1).1;let b:=(Bool.or_eq_false_iff.mp h.2.1).1;let el:=(y8 (λx p y q=>EW q) l).2 (bne_eq_false_iff_eq.mp b);show#[?_,h.2.2.trans (Rs (λx=>pure (some x)) el)];let:=(Bool.or_eq_true_iff.mp (QT d.1)).imp eq_of_beq eq_of_beq;rw[Lt]at this;show this
 show .inl (L8 λvs k p h=>q #[vs,k,p,h])
theorem Hz(I:xW fx){Q:Unit->Shared->Prop}(d:∀x∈l,bV fx (c.tab.nm x.n)=some x.i)(h3:bZ (l.map (·.i)) vs L=some L')
  (r:aY s.heap vs us) (F:Fm c.G.H0 fx env L U s.heap) (S:ba c.w c.G U s.heap) (h:∀s',Fm c.G.H0 fx env L' U s'.heap->Mv c.w c.G (XF env) U s U s'->Q () s'):wpAny c.M A (assignInOrder ((l.map λx=>c.tab.nm x.n).map λn=>bindName env n) us) Q aV s:=by
 induction l generalizing vs us L s Q with
 |nil=>
  cases vs with
  |cons _ _=>(cases h3)
  |nil=>
   cases h3;cases r;show wpAny_assignInOrder_none (h s F (.refl S))
 |cons x l e=>
  cases vs with
  |nil=>(cases h3)
  |cons v vs=>
   cases r with
   |cons a b=>
    show wpAny_assignInOrder_more (bindName_ (F.store I S (d x (.head _)) a (GC.xf _) λs1 g m1 Xd=>?_));show e (λx hx=>d x (.tail _ hx)) h3 (b.keep Xd) g m1.sim λs2 f m2=>h s2 f (m1.trans m2)
theorem yt(I:xW fx){x y:Str}(h:bV fx x=some i)(c:bV fx y=some i):x=y:=by
 rcases cu h with⟨_,a⟩|⟨_,a⟩<;>rcases cu c with⟨_,b⟩|⟨_,b⟩
 .show I.loc _ _ _ a b
 .show(I.both _ _ _ a b).elim
 .show(I.both _ _ _ b a).elim
 show I.Wh _ _ _ a b
theorem wH(h:i∉is):bZ is vs (L.set i (some v))=(bZ is vs L).map λL'=>L'.set i (some v)
 := by
  induction is generalizing vs L with
  |nil=>cases vs<;>rfl
  |cons j is a=>
   induction vs with
   |nil=>rfl
   |cons w vs=>
    change bZ is vs ((L.set i (some v)).set j (some w))=_;let b:i≠j:=λe=>h (by rw[e];show .head _);rw[List.set_comm _ _ b];show a λe=>h (.tail _ e)
theorem yv(a:is.length=vs.length)(h:bZ is vs L=some L'):bZ (is++[i]) (vs++[v]) L=some (L'.set i (some v))
 := by
  induction is generalizing vs L with
  |nil=>induction vs with|nil=>cases Is h;rfl|cons _ _=>cases a
  |cons j is b=>induction vs with|nil=>cases a|cons w vs=>show b (Tl a) h
theorem yu(hn:is.Nodup)(h:bZ is vs L=some L'):bZ is.reverse vs.reverse L=some L'
 := by
  induction is generalizing vs L L' with
  |nil=>induction vs with|nil=>show h|cons _ _=>cases h
  |cons i is b=>
   cases vs with
   |nil=>cases h
   |cons v vs=>
    show ao (R9.mp hn) λh1 c=>?_;let h:bZ is vs (L.set i (some v))=some L':=h;rw[wH h1]at h;show aq (SO.mp h) ?_;clear h;ext M a rfl;rw[Ta,Ta];show yv (by rw[RU,RU,lY a]) (b c a)
theorem EH(I:xW fx)(h:∀x∈l,bV fx (c.tab.nm x.n)=some x.i)(hn:(l.map λx=>c.tab.nm x.n).Nodup):(l.map (·.i)).Nodup:=by
 induction l with
 |nil=>show Un
 |cons x l a=>
  show ao (R9.mp hn) λh1 b=>?_;show R9.mpr #[λhx=>?_,a (λy hy=>h y (.tail _ hy)) b];show aq (Re.mp hx) λy hy e=>?_;let:=yt I (h x (.head _)) (e▸h y (.tail _ hy));show h1 (Re.mpr #[y,hy,this.symm])
theorem DH(o:c.Ok):jx c (.VL l q e p):=λ{fx A env L U s P} ok a m=>by
 show ao (av ok) λj ok=>ao (av ok) λy ok=>?_;let f:swapsWithSole [.Tuple (l.map (pQ c.tab)) 0 (dP q)] (dE c.tab e) (dP p).line env=pure false:=by unfold swapsWithSole swapsWith;cases dE c.tab e<;>show @Eq.refl _ (pure false)
 rcases yp (c:=c) (l:=l) (p:=dP q) (env:=env) (zL y)with h0|d
 .show Assign_Tuple (Fe o e ok a m λv z UY s1 g i a1 m1=>?_) f h0;show aq (bQ g) λL' h g=>Ka a1.I a1.R.handled h (Dt j) i a1.F a1.S λs2 d=>(by show bP d λD m2 _=>?_;clear d;show#[.next,L',UY,g,.next,D,m1.up.trans m2])
 show ao d λhl h0=>?_;clear d;show Assign_Tuple_swapped (Fe o e ok a m λv z UY s1 g i a1 m1=>?_) f h0
 .show aq (bQ g) λL' h k=>?_;show az (show ∃vs,z=.tup vs from by cases z with|tup vs=>show#[_,rfl]|_=>show nS h) λvs e=>?_;subst e;show vh i λt us e hi hr=>?_;subst e;let r:=λx hx=>((Dt (env:=env) j) x hx).1;let e1:(l.map λx=>c.tab.nm x.n).length=us.toArray.size:=by
   let:=lY h;rw[Lt,hr.length]at this;rw[Lt,this,Ti]
  rw[e1];show unpackItems_tuple a.R.handled hi.isTup λh' B=>?_;let m2:Mv c.w c.G cE UY s1 UY {s1 with heap:=h'}:=.keeps (t:=s1.toks) m1.sim λb o e=>B b o (RY (Sf e)) e;let hn:=EH a.I r (cZ (av j).2);let h3:=yu hn h;rw[<- List.map_reverse]at h3;let:=Hz (A:=A) (l:=l.reverse) (Q:=λ_ s'=>tU c.w c.G fx env U s P .next s') a.I (λx hx=>r x (List.mem_reverse.mp hx)) h3 (hr.mv m1.sim m2).reverse (a1.F.mv a1.S m2) m2.sim λs3 C u=>#[.next,L',UY,k,.next,C,(m1.trans m2).up.trans u];rw[List.map_reverse,List.map_reverse]at this;simpa using this
theorem DD:jx c (.Y9 p):=λok a b=>wpAny_Return_none (a.fr.post b (.ret .none))
theorem DG:jx c (.cont p):=λok a b=>wpAny_Continue (a.fr.post b .cont)
theorem DE:jx c (.pass p):=λok a b=>wpAny_Pass (a.fr.next b)
theorem DF{x:Option Expr}:jx c (.fail x p):=λok a b=>b.elim
theorem Mc(o:c.Ok)(x:Ss):jk c x:=
 Ss.rec (motive_1:=jx c) (motive_2:=jk c)
  (λ_ _=>BS o) (λ_ _ _=>DJ o) (λ_ _ _ _=>DH o) (λ_ _ _ _ _=>DL o) (λ_ _ _ _ _=>DI o) (λ_ _ _=>Hi o) (λ_ _ _ _=>J5 o) (λ_ _ _=>BR o) (λ_ _ _ _=>Hh o)
  (λ_ _=>Hg o) (λ_=>DD) (λ_=>DG) (λ_=>DE) (λ_ _=>DF)
  DC (λ_ _=>BU) x
end
end
section
variable{A:Around}{M:Model}{s:Shared}{us:TW}
open PySem.Sem (wp)
section
variable{E:QS}
theorem K9:∀(ns:TS)(us:TW),ns.Nodup->us.length=ns.length->(ns.filterMap λn=>((ns.zip us).lookup n).map (n,·))=ns.zip us
 := by
 ext ns;induction ns with
 |nil=>show λ_ _ _=>rfl
 |cons n ns a=>
  ext us hn b;induction us with
  |nil=>(cases b)
  |cons u us=>
  show ao (R9.mp hn) λh1 c=>?_;let a:=a us c (Tl b);let e:∀l:List Str,n∉l->(l.filterMap λm=>(((n::ns).zip (u::us)).lookup m).map (m,·))=l.filterMap λm=>((ns.zip us).lookup m).map (m,·):=by
   ext l;induction l with
   |nil=>ext _;rfl
   |cons m l a=>
    ext h;let q:((n::ns).zip (u::us)).lookup m=(ns.zip us).lookup m:=by
     rw[Td,RZ,SE (λe=>h (RB.mpr (.inl e.symm)))]
    rw[List.filterMap_cons,List.filterMap_cons,q,a λx=>h (.tail _ x)]
  rw[List.filterMap_cons,e ns h1,a,Td,RZ,RK];rfl
theorem i7(ns:TS)(us:TW)(n:Str)(h:n∉ns):(ns.zip us).lookup n=none:=by erw[List.lookup_eq_none_iff];ext x hx;let:=(List.of_mem_zip hx).1;show bne_iff_ne.mpr λe=>h (e.symm▸this)
theorem GY(ns:TS)(us ws:TW)(h:us.length<=ns.length):ns.zip (us++ws)=ns.zip us++(ns.drop us.length).zip ws
 := by
  induction us generalizing ns with
  |nil=>rw[List.zip_nil_right];rfl
  |cons u us a=>
   induction ns with
   |nil=>cases h
   |cons n ns=>
    rw[List.cons_append,Td,Td,Rq,List.drop_succ_cons,a ns (Nat.le_of_succ_le_succ h)];rfl
theorem i6(ns:TS)(us:TW)(i:Nat)(n:Str)(h:ns[i]?=some n)(hi:i<us.length):((ns.zip us).lookup n).isSome=true
 := by
  induction ns generalizing us i with
  |nil=>cases TX.symm.trans h
  |cons n' ns a=>
   cases us with
   |nil=>cases hi
   |cons u us=>
    rw[Td,RZ];cases q:n== n' with
    |true=>rfl
    |false=>
      induction i with
      |zero=>rw[List.getElem?_cons_zero]at h;replace h:=Is h;cases h;rw[RK]at q;show nF q.symm
      |succ i=>show a us i h (Nat.lt_of_succ_lt_succ hi)
theorem ww:∀(ns:TS)(us:TW),ns.zip us=(ns.take us.length).zip us
 |[],_=>by simp
 |_::_,[]=>by simp
 |n::ns,u::us=>by rw[Rq,List.take_succ_cons,Td,Td,<- ww ns us]
theorem CK(f:Str×Value->List (Str×Value)->Sem (ForInStep (List (Str×Value))))(hf:∀n d sl,f (n,d) sl=if(sl.lookup n).isNone then pure (.yield (sl++[(n,d)])) else pure (.yield sl)){Q:List (Str×Value)->Shared->Prop}(ns:TS)(ds:TW)(sl:List (Str×Value))(k:Nat)(hn:ns.Nodup)(h1:∀n∈ns.take k,(sl.lookup n).isSome=true)(c:∀n∈ns.drop k,sl.lookup n=none)(h:Q (sl++(ns.drop k).zip (ds.drop k)) s):
      wpAny M A (forIn (ns.zip ds) sl f) Q E s
 := by
  induction ns generalizing ds sl k with
  |nil=>
    rw[List.zip_nil_left,UT];rw[List.drop_nil,List.zip_nil_left,RD]at h;show Q8 h
  |cons n ns g=>
   cases ds with
   |nil=>
    rw[List.zip_nil_right,UT];rw[List.drop_nil,List.zip_nil_right,RD]at h;show Q8 h
   |cons d ds=>
    show ao (R9.mp hn) λn1 n2=>?_;rw[Td,List.forIn_cons,hf];induction k with
    |succ k=>
      let:=h1 n (by simp);rw[RX (by erw[SK];ext e;rw[e]at this;cases this)];show If (Q8 (g ds sl k n2 (λm a=>h1 m (by rw[List.take_succ_cons];show .tail _ a)) (λm a=>c m (by rw[List.drop_succ_cons];show a)) (by simpa using h)))
    |zero=>
      let e:=c n (by simp);rw[RO (by rw[e];rfl)];show If (Q8 (g ds _ 0 n2 (λm a=>by simp at a) (λm a=>?_) (by simpa using h)));let b:m∈ns:=by simpa using a
      rw[List.lookup_append,c m (by simp[b]),Option.none_or];show i7 [n] [d] m (by simp;clear e h c h1 hn;ext rfl;show n1 b)
structure CY(p:Arguments)(ns:TS):Prop where
 po:p.posonlyargs=[]
 ko:p.kwonlyargs=[]
 va:p.vararg=none
 kw:p.kwarg=none
 ns:p.args.map (·.arg)=ns
theorem zQ{fd:FuncData}{ns:TS}{ds:TW}(l:CY fd.params ns)(hn:ns.Nodup)(b:us.length<=ns.length)(hd:ds.length<=ns.length)(d:ns.length<=us.length+ds.length)
  {Q:List (Str×Value)->Shared->Prop} (k:∀R:Option (Array Value)->Shared->Prop,(∀r,(r.getD #[]).toList=ds->R r s)->wpAny M A (seqItems? fd.defaults) R E s)
  (h:Q (ns.zip (us++ds.drop (us.length+ds.length - ns.length))) s):wpAny M A (bindArgs fd #[us,[]]) Q E s:=by
 obtain⟨a1,a2,⟨po,as,va,ko,kd,kw,q⟩,a4,x,w,v,u,t⟩:=fd;obtain⟨h1,j,h3,g,f⟩:=l;dsimp only at h1 j h3 g f k;subst h1 j h3 g;show If ?_;rw[UT];show Q8 (If (k _ λr hr=>?_));dsimp only;rw[hr,List.map_nil,List.nil_append,f,SC (Sn.mpr b),Nat.sub_eq_zero_of_le hd,List.drop_zero,Bool.false_and,RX Sr];let c:=Nat.sub_le_of_le_add d;let fl:(ns.take (ns.length - ds.length)).filter (λn=>((ns.zip us).lookup n).isNone)=[]:=by
  erw[Uw];show λn m=>az (Ue.mp m) λi o=>?_;show az o λhi e=>?_;rw[R7]at hi;rw[List.getElem_take]at e;let:=i6 ns us i n (by rw[<- e];show Rg _) (Rc hi (Gt (SL ..) c));erw[SK];ext e;rw[e]at this;cases this
 rw[fl,RX (dR rfl)];rw[<- Nat.sub_sub_right _ hd]at h;let a:(ns.drop (ns.length - ds.length)).drop (us.length - (ns.length - ds.length))=ns.drop us.length:=by rw[List.drop_drop,Uj c]
 show If (CK _ (λ_ _ _=>rfl) _ _ _ (us.length - (ns.length - ds.length)) (hn.sublist (List.drop_sublist ..)) (λn hx=>?_) (λn hx=>?_) ?_)
 .show az (Ue.mp hx) λi p=>?_;show az p λhi e=>?_;rw[R7,T6]at hi;rw[List.getElem_take,List.getElem_drop]at e;show i6 ns us (ns.length - ds.length+i) n (by rw[<- e];show Rg _) (Sc ..▸Nat.add_lt_of_lt_sub (Rc hi (SL ..)))
 .rw[a]at hx;let e:=S7 us.length ns;rw[ww ns us];rw[<- e]at hn;show i7 _ _ _ λV0=>(R3.mp hn).2.2 _ V0 _ hx rfl
 rw[a];show If ?_;rw[UT];show Q8 ?_;rw[RX (λe=>(by cases e)),RD,<- GY ns us _ b,K9 ns _ hn (by rw[Q9,T6,Nat.sub_sub_right _ hd,Nat.sub_sub_right _ d,Sc us.length ds.length,Nat.add_sub_add_left,Uj b])];show Q8 h
end
variable{K:Frag}{L L':aQ}{cm:Str->Option Value}{d:Data}{fx:Fx}{h:Heap}{i:Nat}{kd:Str->Option NameKind}{l:TV}{n:Str}{names:List (Str×NameKind)}{u:Value}{v:V}{vs:TC}{α:Type}
open PySem.Sem (wp)
noncomputable def Gy(F:Fn)(vs:TV):Option aQ:=
 if vs.length<=F.params.length/\F.params.length<=vs.length+F.dflt.length then bZ F.params (vs++F.dflt.drop (vs.length+F.dflt.length - F.params.length)) (List.replicate F.n none) else none
def aW(Q:QV):Fl->aQ->aw->Prop:=λfl _ U=>match fl with
 |.ret v=>Q v U
 |_=>Q .none U
noncomputable def NO(tab:wt)(ft:Nat->Option Fn):Nat->Nat->List V->aw->(V->aw->Prop)->Prop
 |0=>λ_ _ _ _=>False
 |n+1=>λf vs U Q=>bA (ft f) λF=>bA (Gy F vs) λL=>an tab (NO tab ft n) F.body L U (aW Q)
noncomputable def OU(u:Value)(i:Int):Bool:=Value.casesOn u false false false (λ_=>false) (λj _=>i== j) (λ_ _=>false) (λ_ _=>false) (λ_ _=>false) (λ_=>false) (λ_=>false) λ_=>false
theorem EY{i:Int}(e:OU u i=true):∃t,u=.int i t:=by induction u with|int j t=>show#[t,Rs (Value.int · t) (RP.mp e).symm]|_=>cases e
noncomputable def H5(u:Value):Bool:=Value.casesOn u true false false (λ_=>false) (λ_ _=>false) (λ_ _=>false) (λ_ _=>false) (λ_ _=>false) (λ_=>false) (λ_=>false) λ_=>false
theorem AZ(e:H5 u=true):u=.none:=by induction u with|none=>rfl|_=>cases e
noncomputable def Om(u:Value):Option Addr:=Value.casesOn u none none none (λ_=>none) (λ_ _=>none) (λ_ _=>none) (λ_ _=>none) (λ_ _=>none) (λ_=>none) (λ_=>none) some
theorem Ae{a:Addr}(e:Om u=some a):u=.ref a:=by induction u with|ref b=>show Rs Value.ref (Is e)|_=>cases e
noncomputable def Nq(d:Data):Option (Array Value):=Data.casesOn d none (λ_=>none) (λvs _=>some vs) (λ_ _=>none) (λ_ _ _=>none) (λ_ _=>none) (λ_=>none) (λ_=>none) (λ_=>none) (λ_=>none) none
theorem Iv(e:Nq d=some vs):∃n,d=.seq vs n:=by induction d with|seq us n=>show#[n,Rs (Data.seq · n) (Is e)]|_=>cases e
noncomputable def Nv(d:Data):Option (Array Value):=Data.casesOn d none (λ_=>none) (λ_ _=>none) (λ_ _=>none) (λ_ _ _=>none) (λ_ _=>none) (λ_=>none) (λ_=>none) (λ_=>none) some none
theorem Iy(e:Nv d=some vs):d=.fields vs:=by induction d with|fields us=>show Rs Data.fields (Is e)|_=>cases e
noncomputable def Nt(d:Data):Option FuncData:=Data.casesOn d none (λ_=>none) (λ_ _=>none) (λ_ _=>none) (λ_ _ _=>none) (λ_ _=>none) (λ_=>none) some (λ_=>none) (λ_=>none) none
theorem Iw{f:FuncData}(e:Nt d=some f):d=.func f:=by induction d with|func us=>show Rs Data.func (Is e)|_=>cases e
noncomputable def Qv(b:FuncBody):Option (List Stmt):=FuncBody.casesOn b some λ_=>none
theorem Lm{b:FuncBody}{l:List Stmt}(e:Qv b=some l):b=.stmts l:=by induction b with|stmts m=>show Rs FuncBody.stmts (Is e)|expr _=>cases e
noncomputable def P8(v:V)(u:Value):Bool:=V.casesOn v (H5 u) (λ_=>false) (OU u) (λ_=>false) (λ_=>false) λ_=>false
noncomputable def LV(l:TV)(m:TW):Bool:=l.length== m.length&& (l.zip m).all λx=>P8 x.1 x.2
theorem Aj{p:V->Value->Bool}(b:∀{v u},p v u=true->VR h v u){m:TW}(e:(l.length== m.length&& (l.zip m).all λx=>p x.1 x.2)=true):aY h l m:=by
 induction l generalizing m with
 |nil=>induction m with|nil=>show .nil|cons _ _=>cases e
 |cons v l a=>
  induction m with
  |nil=>cases e
  |cons u m=>
   show ao (R8.mp e) λe1 e2=>ao (R8.mp e2) λe2 e3=>?_;show .cons (b e2) (a (R8.mpr #[RP.mpr (Tl (RP.mp e1)),e3]))
noncomputable def xr(K:Frag)(d:Value):Option (List Value):=bif H5 d then some [] else((Om d).bind λt=>(K.lookup t).bind λo=>Nq o.data).map Array.toList
noncomputable def FR(K:Frag)(q:Str)(v:Value):Bool:=((Om v).bind λc=>(K.lookup c).bind λo=>(Nv o.data).bind λvs=>vs[1]?).any (·.isStr q)
noncomputable def tT(p:Arguments):List Str:=p.args.map λx:Arg=>x.arg
noncomputable def B7(p:Arguments):Bool:=p.posonlyargs.isEmpty&& (p.kwonlyargs.isEmpty&& (p.vararg.isNone&& p.kwarg.isNone))
noncomputable def J6(tab:wt)(F:Fn)(ns:TS)(sc:Scope):Bool:=
 sc.kind==.function&& (!sc.isCoroutine&& (!sc.isGenerator&& (F.n== sc.names.length&& ((ns.map (bV (Fv sc))== F.params.map some)&& vD tab F.body (Fv sc)))))
noncomputable def y6(K:Frag)(tab:wt)(F:Fn)(fd:FuncData)(ds:TW):Bool:=
 B7 fd.params&& (py (tT fd.params)&& (LV F.dflt ds&& (Nat.ble ds.length (tT fd.params).length&& (fd.globals== mainGlobals&& (fd.builtins== builtinsNs&& (fd.closure.isEmpty&& (FR K fd.qualname fd.code&& J6 tab F (tT fd.params) fd.scope)))))))
noncomputable def xa(K:Frag)(tab:wt)(F:Fn)(f:Nat):Option (List Stmt):=(K.lookup f).bind λo=>(Nt o.data).bind λfd=>(Qv fd.body).bind λb=>(xr K fd.defaults).bind λds=>bif y6 K tab F fd ds then some b else none
theorem Fw{tab:wt}{F:Fn}{f:Nat}{b:List Stmt}(h:xa K tab F f=some b):∃o fd ds,K.lookup f=some o/\o.data=.func fd/\fd.body=.stmts b/\xr K fd.defaults=some ds/\y6 K tab F fd ds=true:=by
 show aq (So.mp h) λo e1 h=>aq (So.mp h) λfd e2 h=>aq (So.mp h) λb' e3 h=>aq (So.mp h) λds e4 h=>?_;cases a:y6 K tab F fd ds with
 |true=>rw[a]at h;show#[o,fd,ds,e1,Iw e2,Is h▸Lm e3,e4,a]
 |false=>rw[a]at h;cases h
theorem JS(e:P8 v u=true):VR h v u:=by
 cases v with
 |none=>show AZ e▸.none
 |int i=>show(EY e).elim λt e=>e▸.int _ _
 |_=>cases e
theorem Dh{vs:TV}(e:LV vs us=true):aY h vs us:=Aj JS e
theorem du{k:NameKind}(h:(vk k names).lookup n=some i):names[i]?=some (n,k):=by let:=mem_of_lookup h;show aq (Re.mp this) ?_;clear this h;ext c;obtain⟨⟨x,k'⟩,j⟩:=c;ext hx e;show yP e ?_;clear e;ext a zd;cases a;cases zd;show ao (Sa.mp hx) λh1 b=>?_;let:=List.mem_zipIdx_iff_getElem?.mp h1;rw[this,<- RP.mp b]
theorem lE{l:List (Str×α)}{i:α}(h:(n,i)∈l):∃j,l.lookup n=some j
 := by
  induction l with
  |nil=>show n0 h
  |cons m l a=>
    rw[RZ];cases q:n== m.1 with
    |true=>show#[_,rfl]
    |false=>
      rcases RB.mp h with e|h
      · cases e;rw[RK]at q;show nF q.symm
      show a h
theorem Fu(sc:Scope):xW (Fv sc) where
 loc:=λn n' i h h'=>by let:=du h;rw[du h']at this;replace this:=Is this;cases this;rfl
 Wh:=λn n' i h h'=>by let:=du h;rw[du h']at this;replace this:=Is this;cases this;rfl
 both:=λn n' i h h'=>by let:=du h;rw[du h']at this;cases this
 lt:=λn i h=>(RC.mp (du h)).1
 has:=λn h=>by
  let h1:=mem_of_lookup h;show az (Ue.mp h1) λi a=>?_;show az a λhi e=>?_;show lE<|Re.mpr #[((n,.cell),i),Sa.mpr #[List.mem_zipIdx_iff_getElem?.mpr (by rw[<- e];show Rg hi),rfl],rfl]
theorem tu(names:List (Str×NameKind))(k:Nat)(acc:List (Str×Addr))(n:Str)(c:Addr)(h:acc.lookup n=some c):∃c,(cellsFrom k names acc).lookup n=some c
 := by
  induction names generalizing k acc c with
  |nil=>show#[c,h]
  |cons mk r b=>
    obtain⟨m,kd⟩:=mk;unfold cellsFrom;split
    · show az (show ∃a,((m,k)::acc).lookup n=some a from lE (.tail _ (mem_of_lookup h))) λa h'=>?_
      show b _ _ a h'
    show b _ _ c h
theorem lH(names:List (Str×NameKind))(k:Nat)(acc:List (Str×Addr))(n:Str)(h:(n,NameKind.cell)∈names):∃c,(cellsFrom k names acc).lookup n=some c:=by
 induction names generalizing k acc with
 |nil=>show n0 h
 |cons mk r a=>
  obtain⟨m,kd⟩:=mk;unfold cellsFrom;rcases RB.mp h with e|h
  .clear h;show yP e ?_;clear e;ext b zd;cases b;cases zd;rw[RO (show(NameKind.cell== NameKind.cell)=true from rfl)];show tu r _ _ _ k (by rw[RZ,RK])
  split
  .show a _ _ h
  show a _ _ h
structure Bd(h:Heap)(fx:Fx)(m cm:Str->Option Value)(L:aQ):Prop where
 loc:∀n i v,fx.loc.lookup n=some i->bJ L i=some v->∃u,m n=some u/\VR h v u
 Wh:∀n i v,fx.Wh.lookup n=some i->bJ L i=some v->∃u,cm n=some u/\VR h v u
section
variable{m:Str->Option Value}
theorem Bd.store(B:Bd h fx m cm L)(I:xW fx)(d:bV fx n=some i)(r:VR h v u):
  Bd h fx (if fx.scope.names.lookup n=some .local then λy=>if y=n then some u else m y else m) (if fx.scope.names.lookup n=some .local then cm else λy=>if y=n then some u else cm y) (L.set i (some v)):=by
 rcases cu d with a|a
 .show ao a λe1 e2=>?_;clear a;rw[RO e1,RO e1];show#[λn' j x b ex=>?_,λn' j x b ex=>?_]
  .clear e1 d;rcases cv ex with a|a
   .show ao a ?_;clear a;ext rfl rfl;show#[u,RO (I.loc _ _ _ b e2),r]
   show ao a λc ex=>?_;show aq (B.loc n' j x b ex) λy h1 e=>#[y,by rw[RX (by ext rfl;rw[e2]at b;show c (Is b))];show h1,e]
  rcases cv ex with a|a
  .show ao a ?_;clear a;ext rfl rfl;show(I.both _ _ _ e2 b).elim
  show ao a λc ex=>?_;show B.Wh n' j x b ex
 show ao a λe1 e2=>?_;clear a;let hn:¬fx.scope.names.lookup n=some .local:=by rw[e1];decide
 rw[RX hn,RX hn];show#[λn' j x b ex=>?_,λn' j x b ex=>?_]
 .rcases cv ex with a|a
  .show ao a ?_;clear a;ext rfl rfl;show(I.both _ _ _ b e2).elim
  show ao a λc ex=>?_;show B.loc n' j x b ex
 clear hn e1 d;rcases cv ex with a|a
 .show ao a ?_;clear a;ext rfl rfl;show#[u,RO (I.Wh _ _ _ b e2),r]
 show ao a λc ex=>?_;show aq (B.Wh n' j x b ex) λy h1 e=>#[y,by rw[RX (by ext rfl;rw[e2]at b;show c (Is b))];show h1,e]
theorem Bd.all(I:xW fx)(c:∀n,kd n=fx.scope.names.lookup n):∀{ns:TS}{is:TN}{vs:TV}{us:TW}{m cm:Str->Option Value}{L:aQ},ns.map (bV fx)=is.map some->aY h vs us->bZ is vs L=some L'->Bd h fx m cm L->
  Bd h fx (bindL kd (ns.zip us) m) (bindC kd (ns.zip us) cm) L'
 := by
 ext ns;induction ns with
 |nil=>
  ext is vs us m cm L a r e B;induction is with
  |cons _ _=>(cases a)
  |nil=>
  induction vs with
  |cons _ _=>(cases e)
  |nil=>cases r;cases e;show B
 |cons n ns b=>
  ext is vs us m cm L a r e B;cases is with
  |nil=>(cases a)
  |cons i is=>
  cases vs with
  |nil=>(cases e)
  |cons v vs=>
  cases r with
  |cons r rs=>
  show ao (Te a) λh1 d=>?_;let:=B.store I h1 r;rw[Td];unfold bindL bindC;rw[c];show b d rs e this
end
variable{G:Gc}{n:Nat}{is:TN}{prog:Program}{vs:TV}{w:World}
open PySem.Sem (wp)
section
variable{tab:wt}{ft:Nat->Option Fn}
theorem wI(h:bZ is vs L=some L'):L'.length=L.length:=by
 induction is generalizing vs L with
 |nil=>induction vs with
  |nil=>cases h;rfl
  |cons _ _=>(cases h)
 |cons i is a=>induction vs with
  |nil=>(cases h)
  |cons v vs=>rw[a h,TB]
theorem sN(h:bJ (List.replicate n none) i=some v):False:=by unfold bJ at h;rw[TU]at h;split at h<;>cases h
theorem w4{s:Str}(e:u.isStr s=true):∃t,u=.str s t:=by induction u with|str j t=>show#[t,Rs (Value.str · t) (RP.mp e)]|_=>cases e
theorem zE{q:Str}{v:Value}(X:K.In h)(e:FR K q v=true):h.CodeRec v q:=by show aq (Option.any_eq_true _ _ |>.mp e) λx e1 e4=>aq (So.mp e1) λc e1 h=>aq (So.mp h) λo e2 h=>aq (So.mp h) λvs e3 h=>?_;show az (w4 e4) λt a=>#[c,o,vs,t,Ae e1,X _ _ e2,Iy e3,a▸h]
theorem CL{E:QS}{d:Value}{ds:TW}(X:K.In s.heap)(e:xr K d=some ds){R:Option (Array Value)->Shared->Prop}(h:∀r,(r.getD #[]).toList=ds->R r s):wpAny M A (seqItems? d) R E s:=by
 cases q:H5 d with
 |true=>unfold xr at e;rw[q]at e;cases e;show AZ q▸wpAny_pure (h none rfl)
 |false=>
  unfold xr at e;rw[q]at e;show aq (SO.mp e) λvs e k=>aq (So.mp e) λt e1 e=>aq (So.mp e) λo e2 e3=>az (Iv e3) λn e3=>?_;rw[Ae e1];show UN (X _ _ e2) e3 (h _ k)
def PX(tab:wt)(ft:Nat->Option Fn)(CS:QC):Nat->List V->aw->(V->aw->Prop)->Prop:=λf vs U Q=>bA (ft f) λF=>bA (Gy F vs) λL=>an tab CS F.body L U (aW Q)
def Fr(CS:QC):Nat->List V->aw->(V->aw->Prop)->Prop:=λf vs U Q=>∃τ:aw,(∀a o,τ a=some o->U a=some o)/\CS f vs τ λv VO=>∀UX,(∀a o,VO a=some o->UX a=some o)->(∀a o,U a=some o->τ a=none->VO a=none/\UX a=some o)->Q v UX
theorem CR{r:Nat}{CS:QC}(h:gM prog w G r CS):gM prog w G r (Fr CS):=by
 show λA f vs us U s Q R S t i=>aq i ?_;intro τ E i;let g:ba w G τ s.heap:=#[S.base,λa o e=>S.obj a o (E a o e)];let c:∀{a},U a=none->τ a=none:=λ{a} e=>by
  cases q:τ a with
  |none=>rfl
  |some o=>rw[E a o q]at e;show nS e.symm
 let post:∀v s',aJ w G cE τ s (λv VO=>∀UX,(∀a o,VO a=some o->UX a=some o)->(∀a o,U a=some o->τ a=none->VO a=none/\UX a=some o)->Q v UX) v s'->aJ w G cE U s Q v s':=λv s' l=>by
  show fH l λx VO u hx m=>?_;show let UX:aw:=λa=>(VO a).or (if(τ a).isNone then U a else none);?_;let d1:∀a o,VO a=some o->UX a=some o:=λa o e=>by
   change(VO a).or _=_;rw[e];rfl
  let d2:∀a,VO a=none->τ a=none->UX a=U a:=λa e d=>by
   change(VO a).or (if(τ a).isNone then U a else none)=_;rw[e,d];rfl
  let j:=λa o e d=>by
   show aq ((S.obj a o e).2.ex) λro hr _=>?_;show m.st.W4 a ro hr d λk=>k
  show#[x,UX,u UX d1 λa o e d=>#[j a o e d,(d2 a (j a o e d) d).trans e],hx,#[#[m.sim.base,λa o e=>?_],#[m.st.live,λb o e n k=>m.st.keep b o e (c n) k,λb o e n k=>(d2 b (m.st.W4 b o e (c n) k) (c n)).trans n],m.gens,m.os]];cases q:VO a with
  |some o'=>
   let e1:=(d1 a o' q).symm.trans e;cases e1;show m.sim.obj a o q
  |none=>
   let tn:τ a=none:=by
    cases p:τ a with
    |none=>rfl
    |some z=>
     let:UX a=none:=by
      change(VO a).or (if(τ a).isNone then U a else none)=none;rw[q,p];rfl
     rw[this]at e;show nS e
   rw[d2 a q tn]at e;show ao (S.obj a o e) λh1 y=>#[h1,y.keep (g.W5 m.st) λro hr=>m.st.keep a ro hr tn λk=>k]
 show codeAny_mono (h A f vs us τ s _ R g t i) λr s' hr=>?_;induction r with
 |error e=>show hr
 |ok fl=>induction fl with
  |ret v=>show post v s' hr
  |_=>show hr
theorem xA:gM prog w G 0 (NO tab ft 0):=λ_ _ _ _ _ _ _ _ _ _ h=>h.elim
set_option tactic.hygienic true in
theorem qw(g:o9 K G tab)(Yv:∀f F,ft f=some F->xa K tab F f=some (Db tab F.body))(lim:G.H0.NoLimit){CS:QC}(ih:gM prog w G (2*n) CS):gM prog w G (2*n+2) (PX tab ft CS):=by
 show λA f vs us U s Q R S k a=>aq (bQ a) λF hF a=>?_;show aq (bQ a) λL l hw=>?_;show Jh (Fw (Yv f F hF)) λo fd ds ho hd hb Yg good=>?_;show ao (av good) λp good=>?_;show ao (av good) λg2 good=>?_;show ao (av good) λg3 good=>?_;show ao (av good) λg4 good=>?_;show ao (av good) λg5 good=>?_;show ao (av good) λg6 good=>?_;show ao (av good) λg7 good=>?_;show ao (av good) λg8 good=>?_;show ao (av good) λN good=>?_;show ao (av good) λY good=>?_;show ao (av good) λX good=>?_;show ao (av good) λW good=>?_;show ao (av good) λk5 C=>?_;show ao (av p) λV p=>?_;show ao (av p) λσ p=>?_;show ao (av p) λT P=>?_;let rd:=Dh (h:=s.heap) g3;unfold Gy at l;split at l
 .rename_i hlen
  let M:=RP.mp k5;let nl:(tT fd.params).length=F.params.length:=by let:=Rs List.length M;simpa using this
  let Z:=g.at S;show codeAny_call_function (Q5 (Ri _ _) R.depth) (Z _ _ ho) hd (zL Y) (zL X) hb (zE Z g8)<|zQ (ns:=tT fd.params) #[TI.mp V,TI.mp σ,SK.mp T,SK.mp P,rfl] (cZ g2) (by rw[nl,<- k.length];show hlen.1) (Q7 g4) (by rw[nl,<- k.length,<- rd.length];show hlen.2) (λR hR=>CL Z Yg hR) ?_;rw[TI.mp g7];let y:aY s.heap (vs++F.dflt.drop (vs.length+F.dflt.length - F.params.length)) (us++ds.drop (us.length+ds.length - (tT fd.params).length)):=by
   rw[nl,<- k.length,<- rd.length];show k.append (rd.drop _)
  let slot:∀n∈tT fd.params,∃i,bV (Fv fd.scope) n=some i:=λn hn=>by
   let:=M▸Re.mpr #[n,hn,rfl];show aq (Re.mp this) λi _ e=>#[i,e.symm]
  show wpAny_newFunctionEnv_cells (RP.mp N) (λx hx=>?_) λenv he s' x=>#[(lim.keeps S.base).keeps x.toInCall.keep,codeAny_func ?_]
  .let hx:=(List.of_mem_zip hx).1;show az (slot _ hx) λi hi=>?_;rcases cu hi with d|d
   .show ao d λe1 _=>?_;show .inl e1
   show ao d λe1 _=>?_;show az (lH fd.scope.names (s.heap.objs.size+1) [] _ (mem_of_lookup e1)) λc a=>?_;show .inr #[e1,by rw[a];rfl]
  let I:=Fu fd.scope;let j:=x.toInCall.keep;let tk:aD s.heap s'.heap:=.of_keeps j;let S1:=S.keeps j;let q:env.scope=fd.scope:=by rw[he];rfl
  let t:env.locals=s.heap.objs.size:=by rw[he];rfl
  let J:env.cells=cellsFrom (s.heap.objs.size+1) fd.scope.names []:=by rw[he];rfl
  let B:=Bd.all I (kd:=env.kindOf) (λn=>by unfold Env.kindOf;rw[q];rfl) M (y.keep tk) l (m:=λ_=>none) (cm:=λ_=>none) #[λn i v _ h=>(sN h).elim,λn i v _ h=>(sN h).elim];let fr:=S.fresh (Rm s.heap.objs.size);let up:∀n c,env.cells.lookup n=some c->s.heap.objs.size<c:=λn c h=>by rw[<- t];show x.above _ _ (mem_of_lookup h)
  let F1:Fm G.H0 (Fv fd.scope) env L U s'.heap:=by
   show#[q,RP.mp N,by rw[he];show RP.mp g5,by rw[he];show RP.mp g6,?_,#[_,x.toInCall.ns,B.loc],#[by rw[t];show fr.2.1,by rw[t];show fr.2.2],λn i h1 h2=>?_,λn c h=>?_,λn n' c h h'=>name_of_addr x.apart (mem_of_lookup h) (mem_of_lookup h')]
   .rw[wI l,Sp];show RP.mp W
   .show az (lH fd.scope.names (s.heap.objs.size+1) [] n (mem_of_lookup h1)) λc a=>?_;rw[<- J]at a;show#[c,_,a,x.cell n c a,λv k=>B.Wh n i v h2 k]
   let f2:=S.fresh (Rf (up n c h));show#[f2.2.1,f2.2.2,by rw[t];show Sy (up n c h),_,x.cell n c h]
  let R':=R.deeper env;let O:dM cE U s.heap U s'.heap:=.keeps j;let:=Mc (c:=#[prog,w,K,G,tab,CS,2*n]) #[g,ih] F.body C #[R',S1,F1,I] hw;show RQ this (λfl s2 d=>?_) λ_ _ e=>e.elim;show AU d λfl' L2 U3 E hr _ m=>?_;clear d;let H:∀b,XF env b->s.heap.get? b=none:=λb h=>by
   rcases h with rfl|d
   .rw[t];show fr.1
   show az d λn h=>(S.fresh (Rf (up n b h))).1
  let D:∀b o,s.heap.get? b=some o->¬XF env b:=λb o e h=>by rw[H b h]at e;show nS e
  show uJ x.toInCall.same λh1 t1 e1=>?_;let u:dM cE U s.heap U3 s2.heap:=#[λb o e _=>m.st.live b o (j b o e) (D b o e),λb o e z _=>m.st.keep b o (j b o e) z (D b o e),λb o e z _=>m.st.W4 b o (j b o e) z (D b o e)];let mv:Mv w G cE U s U3 s2:=#[m.sim,u,by rw[m.gens,e1],by rw[m.os,e1]];induction hr with
  |ret r=>show#[_,_,E,r,mv]
  |next=>show#[_,_,E,.none,mv]
  |cont=>show#[_,_,E,.none,mv]
 show nS l
theorem F5(g:o9 K G tab)(a:∀f F,ft f=some F->xa K tab F f=some (Db tab F.body))(lim:G.H0.NoLimit):∀n,gM prog w G (2*n) (NO tab ft n)
 |0=>xA
 |n+1=>qw g a lim (F5 g a lim n)
end
noncomputable abbrev lc(i n:Nat)(p:Ps):E:=.loc #[i,n,p]
noncomputable abbrev li(k:Int)(p:Ps):E:=.lit (.int k) p
noncomputable abbrev s1(s:S):Ss:=.cons s .nil
noncomputable abbrev e1(e:E):Es:=.cons e .nil
noncomputable abbrev iA(i n:Nat)(p:Ps)(e:E)(q:Ps)(s:Ss):Ss:=.cons (.VF #[i,n,p] e q) s
noncomputable def Gu:Ss:=
 s1 (.expr (.U1 .append (lc 1 0 91405) (e1 (lc 2 1 93157)) 91412 91416) 91416)
noncomputable def xR:Ss:=
 iA 3 2 108820 (.bin .RShift (lc 3 2 109765) (li 1 110842) 109770) 108832<|
 iA 2 1 126774 (.bin .Add (lc 2 1 127449) (li 1 128123) 127453) 126783 .nil
noncomputable def Gs:Ss:=
 .cons (.ite (.cmp .eq (.bin .BitAnd (lc 3 2 73313) (li 1 74255) 73317) (li 1 74930) 73322) Gu .nil 10846524)<|
 xR
noncomputable def Gq:Ss:=
 s1 (.ret (lc 1 0 145138) 144200)
noncomputable def xQ:Ss:=
 iA 1 0 545 (.list .nil 1622) 550<|
 iA 2 1 18498 (li 0 19172) 18502<|
 iA 3 2 36456 (lc 0 3 37401) 36463<|
 .cons (.while (.cmp .gt (lc 3 2 55222) (li 0 56164) 55226) Gs 43148823)<|
 Gq
noncomputable def Lc:Fn:=#[4,[0],[],xQ]
noncomputable def lS:Ss:=
 .cons (.U8 (lc 0 4 270424) 5 270431 (lc 1 5 272316) 270440)<|
 .cons (.U8 (lc 0 4 288380) 2 288385 (lc 2 2 290000) 288392)<|
 .cons (.U8 (lc 0 4 306336) 6 306342 (lc 3 6 308092) 306350)<|
 .cons (.U8 (lc 0 4 324292) 7 324301 (lc 4 7 326456) 324312)<|
 .cons (.U8 (lc 0 4 342248) 8 342255 (lc 5 8 344140) 342264)<|
 .cons (.U8 (lc 0 4 360204) 9 360209 (lc 6 9 361824) 360216)<|
 s1 (.U8 (lc 0 4 378160) 10 378167 (lc 7 10 380052) 378176)
noncomputable def xk:Fn:=#[8,[0,1,2,3,4,5,6,7],[.int (-1),.none,.int 0,.int 0],lS]
noncomputable def qa:Ss:=
 .cons (.expr (.U1 .append (.item (.attr (lc 0 4 630084) 17 630092) (.attr (lc 7 21 631839) 2 631844) 630103) (e1 (.attr (lc 7 21 634269) 5 634276)) 630110 630123) 630123)<|
 .cons (.expr (.U1 .append (.attr (lc 0 4 648040) 19 648048) (e1 (.prim .len (e1 (.attr (lc 0 4 651280) 20 651287)) 650739 650752)) 648055 648073) 648073)<|
 s1 (.expr (.U1 .extend (.attr (lc 0 4 665996) 20 666003) (e1 (.bin .Mult (.list (e1 (.attr (lc 7 21 668696) 5 668703)) 668570) (.bin .Add (.prim .len (e1 (.attr (lc 7 21 671396) 6 671402)) 670855 670867) (li 1 673283) 670871) 668594)) 666010 666049) 666049)
noncomputable def pZ:Ss:=
 s1 (.U8 (lc 0 4 683412) 22 683423 (.prim .len (e1 (.attr (lc 0 4 686382) 20 686389)) 685841 685854) 683442)
noncomputable def iq:Ss:=
 .cons (.U8 (lc 0 4 449984) 11 449990 (lc 1 11 451740) 449998)<|
 .cons (.U8 (lc 0 4 467940) 12 467955 (lc 2 12 470920) 467972)<|
 .cons (.U8 (lc 0 4 485896) 13 485902 (lc 3 13 487652) 485910)<|
 .cons (.U8 (lc 0 4 503852) 14 503859 (lc 4 14 505744) 503868)<|
 .cons (.U8 (lc 0 4 521808) 15 521815 (lc 5 15 523700) 521824)<|
 .cons (.U8 (lc 0 4 539764) 16 539770 (lc 6 16 541520) 539778)<|
 .cons (.U8 (lc 0 4 557720) 17 557728 (.comp (.list .nil 559878) (.nm #[9,18,560825]) (.seq (.attr (lc 0 4 561905) 11 561911)) .nil #[.function,[(".0",.local),("name",.local)],false,false,[]] 559768) 557758)<|
 .cons (.U8 (lc 0 4 575676) 19 575684 (.list .nil 577699) 575689)<|
 .cons (.U8 (lc 0 4 593632) 20 593639 (.list .nil 595520) 593644)<|
 .cons (.for (.nm #[7,21,612128]) (.seq (.attr (lc 0 4 613208) 13 613214)) qa 32932445)<|
 pZ
noncomputable def s9:Fn:=#[9,[0,1,2,3,4,5,6],[],iq]
noncomputable def cH:Ss:=
 s1 (.ret (.prim .len (e1 (.attr (lc 0 4 738765) 11 738771)) 738224 738236) 737298)
noncomputable def iK:Fn:=#[2,[0],[],cH]
noncomputable def cU:Ss:=
 s1 (.ret (.test (.cmp .lt (lc 1 23 792095) (.attr (lc 0 4 793308) 12 793323) 792117)) 791179)
noncomputable def jp:Fn:=#[2,[0,1],[],cU]
noncomputable def fn:Ss:=
 s1 (.ret (.ite (.cmp .isin (lc 1 18 903339) (.attr (lc 0 4 904419) 11 904425) 903353) (.U1 .index (.attr (lc 0 4 899829) 11 899835) (e1 (lc 1 18 902124)) 899841 899847) (.neg 1 906711 906577) 899877) 898939)
noncomputable def pJ:Fn:=#[2,[0,1],[],fn]
noncomputable def dG:Ss:=
 s1 (.ret (.prim .list (e1 (.item (.attr (lc 0 4 954372) 17 954380) (lc 1 23 956129) 954388)) 953697 953719) 952781)
noncomputable def mz:Fn:=#[3,[0,1],[],dG]
noncomputable def ip:Ss:=
 s1 (.ret (.bin .Add (.item (.attr (lc 0 4 1007565) 19 1007573) (lc 1 21 1009320) 1007579) (lc 2 24 1010399) 1007585) 1006647)
noncomputable def s8:Fn:=#[3,[0,1,2],[],ip]
noncomputable def eE:Ss:=
 s1 (.ret (.item (.attr (lc 0 4 1061433) 20 1061440) (lc 1 25 1063053) 1061446) 1060508)
noncomputable def oh:Fn:=#[2,[0,1],[],eE]
noncomputable def fq:Ss:=
 s1 (.ret (.bin .Sub (lc 1 25 1115301) (.item (.attr (lc 0 4 1116246) 19 1116254) (.item (.attr (lc 0 4 1118001) 20 1118008) (lc 1 25 1119621) 1118014) 1116273) 1115335) 1114397)
noncomputable def pK:Fn:=#[2,[0,1],[],fq]
noncomputable def gy:Ss:=
 iA 2 6 1168225 (.attr (.item (.attr (lc 0 4 1169304) 13 1169310) (.item (.attr (lc 0 4 1170789) 20 1170796) (lc 1 25 1172409) 1170802) 1169329) 6 1169335) 1168263<|
 iA 3 24 1186179 (.bin .Sub (lc 1 25 1186990) (.item (.attr (lc 0 4 1187935) 19 1187943) (.item (.attr (lc 0 4 1189690) 20 1189697) (lc 1 25 1191310) 1189703) 1187962) 1187024) 1186220<|
 s1 (.ret (.ite (.cmp .lt (lc 3 24 1206970) (.prim .len (e1 (lc 2 6 1208322)) 1207780 1207787) 1206983) (.item (lc 2 6 1205082) (lc 3 24 1205890) 1205087) (.neg 1 1210073 1209939) 1205115) 1204177)
noncomputable def qP:Fn:=#[5,[0,1],[],gy]
noncomputable def oO:Ss:=
 iA 2 0 1294457 (lc 3 23 1295538) 1294466 .nil
noncomputable def gx:Ss:=
 s1 (.ite (.cmp .lt (lc 3 23 1276367) (lc 1 12 1277590) 1276384) oO .nil 12049574)
noncomputable def gu:Ss:=
 s1 (.ret (lc 2 0 1312278) 1311340)
noncomputable def gq:Ss:=
 iA 2 0 1239509 (.neg 1 1240720 1240586) 1239514<|
 .cons (.for (.nm #[3,23,1258006]) (.seq (lc 0 6 1259355)) gx 22804682)<|
 gu
noncomputable def qO:Fn:=#[4,[0,1],[],gq]
noncomputable def oE:Ss:=
 s1 (.fail (some (.Call (.Name "GrammarError" #[97,18,97,30]) [(.BinOp (.BinOp (.Constant (.str "the name ") 0 #[97,31,97,42]) .Add (.Name "left" #[97,45,97,49]) #[97,31,97,49]) .Add (.Constant (.str " cannot have rules") 0 #[97,52,97,72]) #[97,31,97,72])] [] #[97,18,97,73])) 1402249)
noncomputable def oD:Ss:=
 s1 (.expr (.U1 .append (lc 2 26 1438105) (e1 (lc 3 2 1439859)) 1438112 1438118) 1438118)
noncomputable def oC:Ss:=
 s1 (.ite (.cmp .Vi (lc 3 2 1420013) (lc 2 26 1421634) 1420026) oD .nil 12193226)
noncomputable def oB:Ss:=
 .cons (.ite (.any (.cons (.cmp .eq (lc 3 2 1384101) (.lit (.str "error") 1385184) 1384112) (.cons (.cmp .isin (.VT (lc 3 2 1386666) (li 1 1387473) 1387339 1386670) (.tup (.cons (.lit (.str "") 1388419) (.cons (.lit (.str "$") 1388960) (e1 (.lit (.str "'") 1389635)))) 1388296) 1386688) .nil)) 1384142) oE .nil 12157357)<|
 oC
noncomputable def oA:Ss:=
 s1 (.fail (some (.Call (.Name "GrammarError" #[102,14,102,26]) [(.Constant (.str "the start symbol has no rules") 0 #[102,27,102,58])] [] #[102,14,102,59])) 1491479)
noncomputable def oz:Ss:=
 s1 (.expr (.U1 .append (lc 6 11 1582293) (e1 (lc 7 18 1584047)) 1582300 1582306) 1582306)
noncomputable def oy:Ss:=
 s1 (.ite (.all (.cons (.cmp .Vi (lc 7 18 1564201) (lc 2 26 1565822) 1564214) (.cons (.cmp .Vi (lc 7 18 1567171) (lc 6 11 1568792) 1567184) .nil)) 1564236) oz .nil 12337414)
noncomputable def ou:Ss:=
 s1 (.for (.nm #[7,18,1545840]) (.seq (lc 4 27 1546921)) oy 23092522)
noncomputable def oq:Ss:=
 iA 10 6 1670993 (.prim .tuple (e1 (.comp (.U1 .index (lc 6 11 1673018) (e1 (lc 20 18 1674637)) 1673024 1673030) (.nm #[20,18,1675987]) (.seq (lc 4 27 1677068)) .nil #[.function,[(".0",.local),("name",.local),("names",.free)],false,false,[]] 1672915)) 1672073 1672112) 1671040<|
 s1 (.expr (.U1 .append (lc 9 13 1688949) (e1 (.new 87 32 (.cons (.prim .len (e1 (lc 9 13 1691919)) 1691377 1691384) (.cons (.U1 .index (lc 6 11 1692999) (e1 (lc 3 2 1694618)) 1693005 1693011) (.cons (lc 10 6 1695564) (e1 (.call 180 34 (.cons (lc 10 6 1698399) (e1 (lc 8 31 1699344))) 1696517 1696531))))) 1690703 1690770)) 1688956 1689029) 1689029)
noncomputable def oo:Ss:=
 s1 (.ret (.new 169 35 (.cons (lc 6 11 1708390) (.cons (lc 8 31 1709335) (.cons (lc 9 13 1710280) (.cons (.Vf 1711222) (.cons (.lit .none 1711764) (e1 (.U1 .index (lc 6 11 1712575) (e1 (lc 5 29 1714195)) 1712581 1712588))))))) 1707312 1707363) 1706425)
noncomputable def cO:Ss:=
 iA 8 31 1598629 (.prim .len (e1 (lc 6 11 1600249)) 1599707 1599714) 1598642<|
 iA 6 11 1616585 (.bin .Add (.bin .Add (lc 6 11 1617665) (.list (e1 (.lit (.str "$accept") 1618884)) 1618751) 1617679) (lc 2 26 1620635) 1617687) 1616615<|
 iA 9 13 1634541 (.list (e1 (.new 87 32 (.cons (li 0 1636427) (.cons (lc 8 31 1636836) (.cons (.tup (.cons (.U1 .index (lc 6 11 1637916) (e1 (lc 5 29 1639536)) 1637922 1637929) (e1 (.glob 33 1640614))) 1637801) (e1 (.glob 33 1641424))))) 1635755 1635797)) 1635664) 1634592<|
 .cons (.for (.tup [#[3,2,1653036],#[4,27,1653847]] 1653043) (.seq (lc 0 28 1655062)) oq 23199781)<|
 oo
noncomputable def mD:Ss:=
 iA 6 11 1508849 (.prim .list (e1 (.glob 30 1510612)) 1509928 1509943) 1508871<|
 .cons (.for (.tup [#[3,2,1527344],#[4,27,1528155]] 1527351) (.seq (lc 0 28 1529370)) ou 33847630)<|
 cO
noncomputable def cN:Ss:=
 iA 5 29 1454981 (.ite (.any (.cons (.cmp .VC (lc 1 16 1457276) (.lit .none 1459030) 1457288) (.cons (.cmp .eq (lc 2 26 1460111) (.list .nil 1461323) 1460117) .nil)) 1457303) (lc 1 16 1456061) (.item (lc 2 26 1462406) (li 0 1463212) 1462409) 1456111) 1455039<|
 .cons (.ite (.cmp .Vi (lc 5 29 1473342) (lc 2 26 1475097) 1473355) oA .nil 12246587)<|
 mD
noncomputable def fg:Ss:=
 iA 2 26 1347245 (.list .nil 1348322) 1347250<|
 .cons (.for (.tup [#[3,2,1365740],#[4,27,1366551]] 1365747) (.seq (lc 0 28 1367766)) oB 44459622)<|
 cN
noncomputable def qM:Fn:=#[20,[0,1],[.none],fg]
noncomputable def z6:Ss:=
 iA 8 41 1905503 (.bin .Add (lc 8 41 1906853) (li 1 1908197) 1906857) 1905517<|
 s1 (.expr (.U1 .append (.item (lc 5 38 1923457) (lc 4 23 1924268) 1923465) (e1 (.attr (lc 7 21 1926291) 5 1926298)) 1923472 1923485) 1923485)
noncomputable def z5:Ss:=
 s1 (.ite (.not (.truth (.item (lc 2 0 1887950) (lc 4 23 1888761) 1887958)) 1887422) z6 .nil 23434237)
noncomputable def z4:Ss:=
 s1 (.expr (.U1 .append (lc 3 37 1940335) (e1 (lc 8 41 1942360)) 1940342 1940351) 1940351)
noncomputable def tD:Ss:=
 iA 8 41 1850555 (li 0 1851899) 1850559<|
 .cons (.for (.nm #[4,23,1869050]) (.seq (.attr (lc 7 21 1870398) 6 1870404)) z5 34189345)<|
 z4
noncomputable def zZ:Ss:=
 .cons (.Ve (lc 2 0 1994741) (.attr (lc 7 21 1995550) 2 1995555) 1994752 (.lit (.bool true) 1997305) 1994759)<|
 s1 (.expr (.U1 .append (lc 6 39 2012697) (e1 (.attr (lc 7 21 2014451) 2 2014456)) 2012704 2012715) 2012715)
noncomputable def zY:Ss:=
 s1 (.ite (.all (.cons (.cmp .eq (.item (lc 3 37 1976652) (.attr (lc 7 21 1977729) 5 1977736) 1976665) (li 0 1979886) 1976670) (.cons (.not (.truth (.item (lc 2 0 1981375) (.attr (lc 7 21 1982184) 2 1982189) 1981386)) 1980850) .nil)) 1976697) zZ .nil 23523467)
noncomputable def zV:Ss:=
 .cons (.Ve (lc 2 0 2138929) (lc 11 2 2139738) 2138935 (.lit (.bool true) 2140818) 2138942)<|
 s1 (.expr (.U1 .append (lc 6 39 2156885) (e1 (lc 11 2 2158639)) 2156892 2156898) 2156898)
noncomputable def tC:Ss:=
 .cons (.Ve (lc 3 37 2084523) (lc 10 5 2085602) 2084531 (.bin .Sub (.item (lc 3 37 2086953) (lc 10 5 2088032) 2086961) (li 1 2089377) 2086965) 2084553)<|
 iA 11 2 2102476 (.attr (.item (.attr (lc 0 40 2103424) 13 2103430) (lc 10 5 2105313) 2103438) 2 2103443) 2102505<|
 s1 (.ite (.all (.cons (.cmp .eq (.item (lc 3 37 2120840) (lc 10 5 2121919) 2120848) (li 0 2123399) 2120853) (.cons (.not (.truth (.item (lc 2 0 2124888) (lc 11 2 2125697) 2124894)) 2124358) .nil)) 2120875) zV .nil 23667650)
noncomputable def zU:Ss:=
 iA 9 1 2173758 (.bin .Add (lc 9 1 2174433) (li 1 2175107) 2174437) 2173767 .nil
noncomputable def zT:Ss:=
 .cons (.for (.nm #[10,5,2066566]) (.seq (.item (lc 5 38 2067915) (.item (lc 6 39 2068725) (lc 9 1 2069532) 2068729) 2067926)) tC 55934046)<|
 zU
noncomputable def xE:Ss:=
 s1 (.ret (lc 2 0 2192122) 2191184)
noncomputable def jU:Ss:=
 iA 9 1 2029570 (li 0 2030244) 2029574<|
 .cons (.while (.cmp .lt (lc 9 1 2048336) (.prim .len (e1 (lc 6 39 2049554)) 2049012 2049019) 2048349) zT 77462739)<|
 xE
noncomputable def qy:Ss:=
 .cons (.for (.nm #[7,21,1958288]) (.seq (.attr (lc 0 40 1959371) 13 1959377)) zY 34278575)<|
 jU
noncomputable def qx:Ss:=
 iA 2 0 1760233 (.prim .list (e1 (lc 1 36 1761988)) 1761312 1761319) 1760247<|
 iA 3 37 1778191 (.list .nil 1779536) 1778196<|
 iA 5 38 1796145 (.comp (.list .nil 1797357) (.nm #[14,23,1798306]) (.seq (lc 2 0 1799655)) .nil #[.function,[(".0",.local),("symbol",.local)],false,false,[]] 1797244) 1796172<|
 iA 6 39 1814101 (.list .nil 1815178) 1814106<|
 .cons (.for (.nm #[7,21,1832596]) (.seq (.attr (lc 0 40 1833679) 13 1833685)) tD 66473679)<|
 qy
noncomputable def FA:Fn:=#[14,[0,1],[],qx]
noncomputable def oF:Ss:=
 s1 (.ret (.call 191 42 (.cons (lc 0 40 2228981) (e1 (.bin .Mult (.list (e1 (.lit (.bool false) 2230329)) 2230196) (.U5 43 (lc 0 40 2231546) .nil 2231559 2231561) 2230221))) 2228035 2228078) 2227140)
noncomputable def zg:Fn:=#[2,[0],[],oF]
noncomputable def wh:Ss:=
 s1 (.ret (.tup (.cons (lc 3 3 2336984) (e1 (.lit (.bool false) 2337795))) 2336858) 2335920)
noncomputable def oR:Ss:=
 iA 3 3 2299452 (.bin .BitOr (lc 3 3 2300397) (.item (lc 2 45 2301344) (lc 4 23 2302289) 2301352) 2300414) 2299476<|
 s1 (.ite (.not (.truth (.item (lc 1 46 2318358) (lc 4 23 2319705) 2318366)) 2317830) wh .nil 13091028)
noncomputable def oQ:Ss:=
 s1 (.ret (.tup (.cons (lc 3 3 2353860) (e1 (.lit (.bool true) 2354670))) 2353733) 2352795)
noncomputable def oP:Ss:=
 iA 3 3 2263000 (li 0 2263942) 2263004<|
 .cons (.for (.nm #[4,23,2281498]) (.seq (lc 0 44 2282849)) oR 34601780)<|
 oQ
noncomputable def zx:Fn:=#[5,[0,1,2],[],oP]
noncomputable def q9:Ss:=
 s1 (.expr (.U1 .append (lc 2 45 2443102) (e1 (.ite (.truth (.U5 48 (lc 0 40 2447018) (e1 (lc 3 23 2449717)) 2447030 2447038)) (.bin .LShift (li 1 2444987) (lc 3 23 2445667) 2444997) (li 0 2451467) 2445035)) 2443109 2443160) 2443160)
noncomputable def q0:Ss:=
 .cons (.Ve (lc 2 45 2569874) (.attr (lc 5 21 2570817) 2 2570822) 2569885 (lc 6 3 2572572) 2569892)<|
 iA 4 49 2587832 (.lit (.bool true) 2589313) 2587839 .nil
noncomputable def qZ:Ss:=
 iA 6 3 2533420 (.bin .BitOr (.item (lc 2 45 2534367) (.attr (lc 5 21 2535310) 2 2535315) 2534378) (.item (.call 205 50 (.cons (.attr (lc 5 21 2538280) 6 2538286) (.cons (lc 1 46 2539905) (e1 (lc 2 45 2541387)))) 2537069 2537100) (li 0 2542462) 2537103) 2534423) 2533485<|
 s1 (.ite (.cmp .ne (lc 6 3 2551781) (.item (lc 2 45 2552863) (.attr (lc 5 21 2553806) 2 2553811) 2552874) 2551802) q0 .nil 24098591)
noncomputable def je:Ss:=
 iA 4 49 2496972 (.lit (.bool false) 2498454) 2496980<|
 s1 (.for (.nm #[5,21,2515464]) (.seq (.attr (lc 0 40 2516547) 13 2516553)) qZ 45609343)
noncomputable def qY:Ss:=
 s1 (.ret (lc 2 45 2605111) 2604173)
noncomputable def jd:Ss:=
 iA 4 49 2460520 (.lit (.bool true) 2462001) 2460527<|
 .cons (.while (.truth (lc 4 49 2479286)) je 67120095)<|
 qY
noncomputable def jc:Ss:=
 iA 1 46 2388697 (.call 198 47 (e1 (lc 0 40 2391530)) 2390316 2390325) 2388717<|
 iA 2 45 2406650 (.list .nil 2407861) 2406655<|
 .cons (.for (.nm #[3,23,2425146]) (.range (.U5 43 (lc 0 40 2427307) .nil 2427320 2427322) 2426495 2426519) q9 13198268)<|
 jd
noncomputable def ug:Fn:=#[10,[0],[],jc]
noncomputable def pX:Ss:=
 iA 6 53 2821798 (.item (lc 2 45 2823013) (lc 7 23 2823958) 2823021) 2821815<|
 s1 (.cont 2839756)
noncomputable def pW:Ss:=
 .cons (.Ve (lc 3 52 2875667) (lc 7 23 2876746) 2875675 (.bin .BitOr (.item (lc 3 52 2878097) (lc 7 23 2879176) 2878105) (lc 6 53 2880526) 2878114) 2875702)<|
 iA 4 49 2893624 (.lit (.bool true) 2895105) 2893631 .nil
noncomputable def ii:Ss:=
 iA 6 53 2911038 (.ite (.truth (.item (lc 1 46 2915901) (lc 7 23 2917248) 2915909)) (.bin .BitOr (lc 6 53 2912253) (.item (lc 2 45 2913468) (lc 7 23 2914413) 2913476) 2912270) (.item (lc 2 45 2919003) (lc 7 23 2919948) 2919011) 2912311) 2911105 .nil
noncomputable def pU:Ss:=
 .cons (.ite (.cmp .ne (.bin .BitOr (.item (lc 3 52 2857576) (lc 7 23 2858655) 2857584) (lc 6 53 2860005) 2857593) (.item (lc 3 52 2861356) (lc 7 23 2862435) 2861364) 2857612) pW .nil 24404383)<|
 ii
noncomputable def pT:Ss:=
 .cons (.ite (.truth (.U5 48 (lc 0 40 2803708) (e1 (lc 7 23 2806407)) 2803720 2803728)) pX .nil 24350508)<|
 pU
noncomputable def ig:Ss:=
 iA 6 53 2766850 (.item (lc 3 52 2768066) (.attr (lc 5 21 2769143) 2 2769148) 2768077) 2766871<|
 s1 (.for (.nm #[7,23,2785346]) (.rev (.attr (lc 5 21 2787909) 6 2787915) 2786698 2786710) pT 78200077)
noncomputable def ie:Ss:=
 iA 4 49 2730400 (.lit (.bool false) 2731882) 2730408<|
 s1 (.for (.nm #[5,21,2748892]) (.seq (.attr (lc 0 40 2749975) 13 2749981)) ig 99710829)
noncomputable def pS:Ss:=
 s1 (.ret (lc 3 52 2928320) 2927382)
noncomputable def ic:Ss:=
 iA 1 46 2640081 (.call 198 47 (e1 (lc 0 40 2642914)) 2641700 2641709) 2640101<|
 iA 2 45 2658034 (.call 212 51 (e1 (lc 0 40 2660870)) 2659254 2659263) 2658057<|
 iA 3 52 2675991 (.bin .Mult (.list (e1 (li 0 2677470)) 2677337) (.U5 43 (lc 0 40 2678151) .nil 2678164 2678166) 2677362) 2676022<|
 iA 4 49 2693948 (.lit (.bool true) 2695429) 2693955<|
 .cons (.while (.truth (lc 4 49 2712714)) ie 121221581)<|
 pS
noncomputable def sY:Fn:=#[11,[0],[],ic]
noncomputable def tB:Ss:=
 s1 (.Ve (lc 1 0 3036729) (lc 3 56 3037537) 3036734 (.bin .BitOr (.item (lc 1 0 3038484) (lc 3 56 3039292) 3038489) (.item (lc 1 0 3040239) (lc 2 55 3041050) 3040247) 3038505) 3036763)
noncomputable def tA:Ss:=
 s1 (.ite (.cmp .eq (.bin .BitAnd (.bin .RShift (.item (lc 1 0 3018638) (lc 3 56 3019446) 3018643) (lc 2 55 3020529) 3018653) (li 1 3021739) 3018657) (li 1 3022414) 3018662) tB .nil 13791871)
noncomputable def tz:Ss:=
 s1 (.for (.nm #[3,56,3000275]) (.range (.prim .len (e1 (lc 1 0 3002572)) 3002030 3002037) 3001222 3001234) tA 24546979)
noncomputable def ty:Ss:=
 s1 (.ret (lc 1 0 3054010) 3053072)
noncomputable def jT:Ss:=
 iA 1 0 2963285 (.prim .list (e1 (lc 0 54 2965039)) 2964364 2964370) 2963298<|
 .cons (.for (.nm #[2,55,2981782]) (.range (.prim .len (e1 (lc 1 0 2984481)) 2983939 2983946) 2983131 2983143) tz 35302087)<|
 ty
noncomputable def vT:Fn:=#[7,[0],[],jT]
noncomputable def xH:Ss:=
 iA 6 3 3215748 (.bin .BitOr (lc 6 3 3216693) (.item (lc 3 52 3217641) (.attr (lc 5 21 3218718) 2 3218723) 3217652) 3216714) 3215776 .nil
noncomputable def xG:Ss:=
 s1 (.Ve (lc 4 58 3270157) (.tup (.cons (.attr (lc 5 21 3270966) 2 3270971) (e1 (lc 8 60 3272455))) 3270981) 3270178 (.list .nil 3274069) 3270183)
noncomputable def qD:Ss:=
 s1 (.expr (.U1 .append (.item (lc 4 58 3287573) (.tup (.cons (.attr (lc 5 21 3288382) 2 3288387) (e1 (lc 8 60 3289871))) 3288397) 3287594) (e1 (.attr (lc 5 21 3292162) 5 3292169)) 3287601 3287614) 3287614)
noncomputable def qC:Ss:=
 .cons (.ite (.cmp .Vi (.tup (.cons (.attr (lc 5 21 3252200) 2 3252205) (e1 (lc 8 60 3253689))) 3252082) (lc 4 58 3255981) 3252095) xG .nil 14025291)<|
 qD
noncomputable def qB:Ss:=
 s1 (.for (.nm #[8,60,3233708]) (.seq (.call 68 61 (e1 (lc 6 3 3235999)) 3235324 3235330)) qC 35554010)
noncomputable def qA:Ss:=
 .cons (.VL [#[6,3,3179296],#[7,59,3180110]] 3179306 (.call 205 50 (.cons (.attr (lc 5 21 3182806) 6 3182812) (.cons (lc 1 46 3184431) (e1 (lc 2 45 3185913)))) 3181595 3181626) 3179348)<|
 .cons (.ite (.truth (lc 7 59 3197661)) xH .nil 13970884)<|
 qB
noncomputable def xF:Ss:=
 s1 (.ret (lc 4 58 3305394) 3304456)
noncomputable def qz:Ss:=
 iA 1 46 3088981 (.call 198 47 (e1 (lc 0 40 3091814)) 3090600 3090609) 3089001<|
 iA 2 45 3106934 (.call 212 51 (e1 (lc 0 40 3109770)) 3108154 3108163) 3106957<|
 iA 3 52 3124891 (.call 219 57 (e1 (lc 0 40 3127996)) 3126246 3126255) 3124915<|
 iA 4 58 3142845 (.Vf 3143922) 3142850<|
 .cons (.for (.nm #[5,21,3161340]) (.seq (.attr (lc 0 40 3162423) 13 3162429)) qA 78576050)<|
 xF
noncomputable def Cz:Fn:=#[14,[0],[],qz]
noncomputable def j2:Ss:=
 s1 (.ret (.comp (.tup (.cons (.item (lc 2 62 3341574) (li 0 3342112) 3341577) (.cons (.item (lc 2 62 3342654) (li 1 3343192) 3342657) (e1 (.item (lc 0 58 3343736) (lc 2 62 3344544) 3343741)))) 3341464) (.nm #[2,62,3345894]) (.seq (.prim .sorted (e1 (lc 0 58 3347786)) 3346842 3346849)) (.cons (.cmp .gt (.prim .len (e1 (.item (lc 0 58 3349676) (lc 2 62 3350484) 3349681)) 3349134 3349146) (li 1 3351562) 3349150) .nil) #[.function,[(".0",.local),("key",.local),("len",.globalImplicit),("table",.free)],false,false,[]] 3341379) 3340441)
noncomputable def vZ:Fn:=#[2,[0],[],j2]
noncomputable def jV:Ss:=
 s1 (.ret (.call 238 63 (e1 (.call 233 64 (e1 (lc 0 40 3379785)) 3378705 3378714)) 3377223 3377241) 3376303)
noncomputable def vU:Fn:=#[3,[0],[],jV]
noncomputable def lR:Ss:=
 s1 (.ret (.test (.cmp .eq (.call 245 65 (e1 (lc 0 40 3414617)) 3413135 3413144) (.list .nil 3416232) 3413150)) 3412212)
noncomputable def xj:Fn:=#[2,[0],[],lR]
noncomputable def Ad:Ss:=
 s1 (.ret (.tup (.cons (.lit (.bool false) 3594445) (e1 (lc 6 1 3595387))) 3594316) 3593378)
noncomputable def Ac:Ss:=
 iA 6 1 3610778 (.bin .Add (lc 6 1 3611453) (li 1 3612127) 3611457) 3610787<|
 s1 (.cont 3628740)
noncomputable def tG:Ss:=
 .cons (.ite (.cmp .ne (lc 7 23 3575275) (.item (lc 3 66 3576622) (lc 6 1 3577161) 3576626) 3575286) Ad .nil 14348486)<|
 Ac
noncomputable def Ab:Ss:=
 s1 (.ret (.tup (.cons (.lit (.bool false) 3683685) (e1 (lc 6 1 3684627))) 3683556) 3682618)
noncomputable def Aa:Ss:=
 s1 (.expr (.U1 .append (lc 4 68 3736472) (e1 (lc 9 70 3738092)) 3736479 3736485) 3736485)
noncomputable def z9:Ss:=
 .cons (.expr (.U1 .append (lc 5 69 3700020) (e1 (.item (lc 8 13 3701641) (li 0 3702447) 3701644)) 3700027 3700037) 3700037)<|
 s1 (.for (.nm #[9,70,3718516]) (.rev (.attr (.item (.attr (lc 0 40 3720814) 13 3720820) (.item (lc 8 13 3722702) (li 0 3723508) 3722705) 3720830) 6 3720836) 3719600 3719631) Aa 14491593)
noncomputable def tF:Ss:=
 iA 8 13 3646153 (.U1 .get (lc 1 58 3647233) (.cons (.tup (.cons (lc 7 23 3648719) (e1 (.item (lc 3 66 3649796) (lc 6 1 3650335) 3649800))) 3648595) (e1 (.list .nil 3651145))) 3647237 3647260) 3646188<|
 .cons (.ite (.cmp .eq (lc 8 13 3664514) (.list .nil 3665726) 3664520) Ab .nil 14437726)<|
 z9
noncomputable def z8:Ss:=
 iA 7 23 3538418 (.U1 .pop (lc 4 68 3539631) .nil 3539635 3539637) 3538431<|
 .cons (.ite (.truth (.U5 48 (lc 0 40 3556780) (e1 (lc 7 23 3559479)) 3556792 3556800)) tG .nil 46650780)<|
 tF
noncomputable def z7:Ss:=
 s1 (.ret (.tup (.cons (.lit (.bool true) 3754428) (e1 (lc 5 69 3755238))) 3754301) 3753363)
noncomputable def tE:Ss:=
 iA 3 66 3448095 (.bin .Add (.prim .list (e1 (lc 2 67 3449581)) 3448906 3448912) (.list (e1 (.glob 33 3450795)) 3450662) 3448920) 3448116<|
 iA 4 68 3466052 (.list (e1 (.attr (lc 0 40 3467135) 12 3467150)) 3467017) 3466079<|
 iA 5 69 3484008 (.list .nil 3484951) 3484013<|
 iA 6 1 3501962 (li 0 3502636) 3501966<|
 .cons (.while (.cmp .ne (lc 4 68 3520730) (.list .nil 3521808) 3520736) z8 132803141)<|
 z7
noncomputable def FB:Fn:=#[13,[0,1,2],[],tE]
noncomputable def cW:Ss:=
 .cons (.U8 (lc 0 4 3843668) 5 3843675 (lc 1 5 3845560) 3843684)<|
 .cons (.U8 (lc 0 4 3861624) 71 3861631 (lc 2 71 3863516) 3861640)<|
 .cons (.U8 (lc 0 4 3879580) 72 3879585 (.prim .tuple (e1 (.comp (.item (lc 5 73 3882145) (li 0 3882817) 3882148) (.nm #[5,73,3883765]) (.seq (lc 2 71 3884847)) .nil #[.function,[(".0",.local),("pair",.local)],false,false,[]] 3882034)) 3881201 3881231) 3879623)<|
 .cons (.U8 (lc 0 4 3897536) 23 3897543 (lc 3 23 3899428) 3897552)<|
 .cons (.U8 (lc 0 4 3915492) 74 3915498 (.Vf 3917245) 3915503)<|
 .cons (.U8 (lc 0 4 3933448) 75 3933454 (.Vf 3935201) 3933459)<|
 .cons (.U8 (lc 0 4 3951404) 76 3951415 (.list .nil 3953832) 3951420)<|
 s1 (.U8 (lc 0 4 3969360) 77 3969366 (.Vf 3971113) 3969371)
noncomputable def jq:Fn:=#[5,[0,1,2,3],[],cW]
noncomputable def dZ:Ss:=
 s1 (.Ve (.attr (lc 0 4 4114088) 77 4114094) (lc 4 21 4115573) 4114100 (.item (lc 2 74 4116654) (lc 3 25 4117463) 4116660) 4114114)
noncomputable def dY:Ss:=
 iA 4 21 4077636 (.U5 78 (lc 1 40 4078584) (e1 (lc 3 25 4080741)) 4078592 4078598) 4077660<|
 s1 (.ite (.all (.cons (.cmp .gt (lc 4 21 4095997) (li 0 4096939) 4096001) (.cons (.cmp .lt (.U5 79 (lc 1 40 4097755) (e1 (lc 3 25 4099642)) 4097761 4097767) (li 0 4100719) 4097771) .nil)) 4096029) dZ .nil 14869222)
noncomputable def dX:Ss:=
 s1 (.U8 (lc 0 4 4130964) 76 4130975 (.prim .sorted (e1 (.attr (lc 0 4 4134339) 77 4134345)) 4133396 4133408) 4130996)
noncomputable def bY:Ss:=
 .cons (.U8 (lc 0 4 4023228) 74 4023234 (lc 2 74 4024984) 4023242)<|
 .cons (.U8 (lc 0 4 4041184) 77 4041190 (.Vf 4042937) 4041195)<|
 .cons (.for (.nm #[3,25,4059680]) (.seq (lc 2 74 4060761)) dY 36379974)<|
 dX
noncomputable def fb:Fn:=#[6,[0,1,2],[],bY]
noncomputable def cc:Ss:=
 .cons (.U8 (lc 0 4 4202788) 40 4202796 (lc 1 40 4204816) 4202806)<|
 s1 (.U8 (lc 0 4 4220744) 80 4220751 (lc 2 80 4222636) 4220760)
noncomputable def fN:Fn:=#[3,[0,1,2],[],cc]
noncomputable def ce:Ss:=
 s1 (.ret (.U1 .get (.attr (.item (.attr (lc 0 4 4329425) 80 4329432) (lc 1 81 4331046) 4329439) 75 4329445) (.cons (lc 2 23 4333342) (e1 (.neg 1 4334552 4334418))) 4329449 4329461) 4328523)
noncomputable def fO:Fn:=#[3,[0,1,2],[],ce]
noncomputable def rj:Ss:=
 s1 (.cont 4598364)
noncomputable def ri:Ss:=
 iA 9 3 4670184 (.bin .BitOr (lc 9 3 4671129) (.item (lc 4 77 4672075) (lc 6 25 4672884) 4672081) 4671143) 4670205 .nil
noncomputable def rh:Ss:=
 .cons (.Ve (lc 4 77 4760505) (lc 12 86 4761315) 4760512 (lc 9 3 4762529) 4760519)<|
 s1 (.expr (.U1 .append (lc 5 82 4778463) (e1 (lc 12 86 4780486)) 4778470 4778477) 4778477)
noncomputable def rg:Ss:=
 .cons (.Ve (lc 4 77 4814373) (lc 12 86 4815183) 4814380 (.bin .BitOr (lc 13 36 4816398) (lc 9 3 4817477) 4816405) 4814395)<|
 s1 (.expr (.U1 .append (lc 5 82 4832331) (e1 (lc 12 86 4834354)) 4832338 4832345) 4832345)
noncomputable def rf:Ss:=
 s1 (.ite (.cmp .ne (.bin .BitOr (lc 13 36 4796552) (lc 9 3 4797631) 4796559) (lc 13 36 4798712) 4796568) rg .nil 26343097)
noncomputable def jh:Ss:=
 iA 12 86 4706097 (.U5 25 (lc 0 40 4707179) (.cons (lc 11 21 4708931) (e1 (li 0 4709738))) 4707184 4707193) 4706121<|
 iA 13 36 4724053 (.U1 .get (lc 4 77 4725133) (.cons (lc 12 86 4726483) (e1 (.neg 1 4727559 4727425))) 4725137 4725148) 4724076<|
 s1 (.ite (.cmp .lt (lc 13 36 4742414) (li 0 4743490) 4742418) rh rf 58610029)
noncomputable def jg:Ss:=
 s1 (.for (.nm #[11,21,4688140]) (.seq (.U5 85 (lc 0 40 4689223) (e1 (lc 7 23 4691517)) 4689232 4689240)) jh 90876425)
noncomputable def jf:Ss:=
 iA 8 6 4615777 (.attr (.item (.attr (lc 0 40 4616859) 13 4616865) (.U5 78 (lc 0 40 4618749) (e1 (lc 6 25 4620906)) 4618757 4618763) 4616888) 6 4616894) 4615822<|
 .cons (.VL [#[9,3,4633732],#[10,83,4634545]] 4633741 (.call 205 50 (.cons (.VM (lc 8 6 4637108) (.bin .Add (.U5 84 (lc 0 40 4637920) (e1 (lc 6 25 4639942)) 4637927 4637933) (li 1 4641019) 4637937) 4637938 4637135) (.cons (lc 2 46 4641702) (e1 (lc 3 45 4643184)))) 4635896 4635949) 4633805)<|
 .cons (.ite (.truth (lc 10 83 4652096)) ri .nil 15425313)<|
 jg
noncomputable def re:Ss:=
 iA 6 25 4543952 (.U1 .pop (lc 5 82 4544900) .nil 4544904 4544906) 4543968<|
 iA 7 23 4561910 (.U5 79 (lc 0 40 4563126) (e1 (lc 6 25 4565013)) 4563132 4563138) 4561932<|
 .cons (.ite (.any (.cons (.cmp .lt (lc 7 23 4580271) (li 0 4581481) 4580275) (.cons (.truth (.U5 48 (lc 0 40 4582162) (e1 (lc 7 23 4584861)) 4582174 4582182)) .nil)) 4580306) rj .nil 15353472)<|
 jf
noncomputable def rc:Ss:=
 s1 (.ret (lc 4 77 4849610) 4848672)
noncomputable def ik:Ss:=
 iA 4 77 4489545 (.prim .dict (e1 (lc 1 71 4491301)) 4490624 4490632) 4489560<|
 iA 5 82 4507503 (.prim .list (e1 (lc 4 77 4509526)) 4508850 4508857) 4507517<|
 .cons (.while (.truth (lc 5 82 4526269)) re 187676685)<|
 rc
noncomputable def uh:Fn:=#[17,[0,1,2,3],[],ik]
noncomputable def tR:Ss:=
 iA 5 53 4957482 (.U5 25 (lc 0 40 4958698) (.cons (.U5 78 (lc 0 40 4960453) (e1 (lc 3 25 4962610)) 4960461 4960467) (e1 (.bin .Add (.U5 84 (lc 0 40 4963558) (e1 (lc 3 25 4965580)) 4963565 4963571) (li 1 4966657) 4963575))) 4958703 4958752) 4957546<|
 s1 (.expr (.U1 .append (.U1 .setdefault (lc 2 0 4975437) (.cons (lc 4 23 4977733) (e1 (.list .nil 4978809))) 4975448 4975460) (e1 (.tup (.cons (lc 5 53 4980433) (e1 (.item (lc 1 74 4981512) (lc 3 25 4982321) 4981518))) 4980313)) 4975467 4975490) 4975490)
noncomputable def tQ:Ss:=
 iA 4 23 4921030 (.U5 79 (lc 0 40 4922246) (e1 (lc 3 25 4924133)) 4922252 4922258) 4921052<|
 s1 (.ite (.cmp .ge (lc 4 23 4939391) (li 0 4940736) 4939396) tR .nil 26486242)
noncomputable def tP:Ss:=
 s1 (.ret (.comp (.tup (.cons (lc 7 23 4993529) (e1 (.prim .tuple (e1 (.prim .sorted (e1 (.item (lc 2 0 4996363) (lc 7 23 4997174) 4996371)) 4995419 4995434)) 4994608 4994631))) 4993426) (.nm #[7,23,4999199]) (.seq (.prim .sorted (e1 (lc 2 0 5001493)) 5000549 5000556)) .nil #[.function,[(".0",.local),("symbol",.local),("tuple",.globalImplicit),("sorted",.globalImplicit),("found",.free)],false,false,[]] 4993321) 4992383)
noncomputable def j4:Ss:=
 iA 2 0 4884577 (.Vf 4885654) 4884582<|
 .cons (.for (.nm #[3,25,4903072]) (.seq (lc 1 74 4904153)) tQ 47996994)<|
 tP
noncomputable def v2:Fn:=#[7,[0,1],[],j4]
noncomputable def ij:Ss:=
 s1 (.ret (.tup (e1 (.tup (.cons (.U5 25 (lc 0 40 5047398) (.cons (li 0 5049147) (e1 (li 0 5049552))) 5047403 5047409) (e1 (li 0 5050092))) 5047279)) 5047147) 5046209)
noncomputable def sZ:Fn:=#[1,[0],[],ij]
noncomputable def lu:Ss:=
 s1 (.fail (some (.Call (.Name "GrammarError" #[315,26,315,38]) [(.BinOp (.BinOp (.Constant (.str "more than ") 0 #[315,39,315,51]) .Add (.Call (.Name "str" #[315,54,315,57]) [(.Name "most" #[315,58,315,62])] [] #[315,54,315,63]) #[315,39,315,63]) .Add (.Constant (.str " canonical states") 0 #[315,66,315,85]) #[315,39,315,85])] [] #[315,26,315,86])) 5317742)
noncomputable def lq:Ss:=
 .cons (.Ve (lc 5 89 5335099) (lc 9 71 5336178) 5335107 (lc 10 5 5337528) 5335116)<|
 s1 (.expr (.U1 .append (lc 4 80 5353054) (e1 (.new 281 87 (.cons (lc 10 5 5356969) (.cons (lc 9 71 5358049) (e1 (lc 8 23 5359129)))) 5354952 5354976)) 5353061 5353101) 5353101)
noncomputable def ll:Ss:=
 iA 10 5 5281230 (.prim .len (e1 (lc 4 80 5282985)) 5282442 5282450) 5281244<|
 .cons (.ite (.cmp .ge (lc 10 5 5299591) (lc 1 93 5300939) 5299599) lu .nil 16072850)<|
 lq
noncomputable def eD:Ss:=
 s1 (.Ve (.attr (lc 7 81 5370469) 75 5370475) (lc 8 23 5372090) 5370483 (lc 10 5 5373440) 5370492)
noncomputable def eC:Ss:=
 iA 10 5 5244778 (.U1 .get (lc 5 89 5245994) (.cons (lc 9 71 5247613) (e1 (.neg 1 5248823 5248689))) 5245998 5246010) 5244804<|
 .cons (.ite (.cmp .lt (lc 10 5 5263139) (li 0 5264349) 5263143) ll .nil 59130785)<|
 eD
noncomputable def lh:Ss:=
 s1 (.aug #[6,1,5387882] (li 1 5388691) 5387887)
noncomputable def eA:Ss:=
 iA 7 81 5190369 (.item (lc 4 80 5191450) (lc 6 1 5192391) 5191454) 5190382<|
 .cons (.expr (.U5 90 (lc 7 81 5208325) (.cons (lc 0 40 5210487) (e1 (.call 334 91 (.cons (lc 0 40 5213322) (.cons (.attr (lc 7 81 5214535) 71 5214542) (.cons (lc 2 46 5216429) (e1 (lc 3 45 5217911))))) 5211706 5211748))) 5208335 5208399) 5208399)<|
 .cons (.for (.tup [#[8,23,5226822],#[9,71,5227902]] 5226830) (.seq (.call 339 92 (.cons (lc 0 40 5231818) (e1 (.attr (lc 7 81 5233031) 74 5233037))) 5229264 5229286)) eC 91415108)<|
 lh
noncomputable def lg:Ss:=
 s1 (.ret (.new 323 94 (.cons (lc 0 40 5408813) (e1 (lc 4 80 5410027))) 5406259 5406276) 5405338)
noncomputable def ey:Ss:=
 iA 2 46 5082097 (.call 198 47 (e1 (lc 0 40 5084930)) 5083716 5083725) 5082117<|
 iA 3 45 5100050 (.call 212 51 (e1 (lc 0 40 5102886)) 5101270 5101279) 5100073<|
 iA 4 80 5118006 (.list (e1 (.new 281 87 (.cons (li 0 5121376) (.cons (.call 346 88 (e1 (lc 0 40 5123542)) 5121792 5121801) (e1 (.neg 1 5125021 5124887)))) 5119364 5119394)) 5119261) 5118055<|
 iA 5 89 5135963 (.Wy (.attr (.item (lc 4 80 5137447) (li 0 5138387) 5137450) 71 5137457) (li 0 5139872) 5137327) 5135987<|
 iA 6 1 5153914 (li 0 5154588) 5153918<|
 .cons (.while (.cmp .lt (lc 6 1 5172680) (.prim .len (e1 (lc 4 80 5173899)) 5173356 5173364) 5172694) eA 134455079)<|
 lg
noncomputable def og:Fn:=#[21,[0,1],[.int 2000],ey]
noncomputable def xP:Ss:=
 s1 (.expr (.U1 .append (.U1 .setdefault (lc 2 95 5496162) (.cons (lc 4 60 5498594) (e1 (.list .nil 5499938))) 5496173 5496187) (e1 (lc 3 21 5501425)) 5496194 5496200) 5496200)
noncomputable def xO:Ss:=
 s1 (.for (.nm #[4,60,5478208]) (.seq (.call 68 61 (e1 (.item (lc 1 77 5480500) (lc 3 21 5481309) 5480506)) 5479824 5479837)) xP 16251308)
noncomputable def xN:Ss:=
 s1 (.Ve (lc 5 0 5585941) (lc 4 60 5586754) 5585951 (.prim .tuple (e1 (lc 6 13 5589181)) 5588371 5588378) 5585966)
noncomputable def xM:Ss:=
 iA 6 13 5549489 (.item (lc 2 95 5550570) (lc 4 60 5551517) 5550580) 5549508<|
 s1 (.ite (.any (.cons (.cmp .gt (.prim .len (e1 (lc 6 13 5568390)) 5567848 5567855) (li 1 5569601) 5567859) (.cons (.cmp .isin (lc 4 60 5570283) (lc 0 75 5571900) 5570292) .nil)) 5567880) xN .nil 16341074)
noncomputable def xL:Ss:=
 s1 (.ret (lc 5 0 5603762) 5602824)
noncomputable def xK:Ss:=
 iA 5 0 5513037 (.Vf 5514114) 5513042<|
 .cons (.for (.nm #[4,60,5531536]) (.seq (.prim .sorted (e1 (lc 2 95 5534099)) 5533154 5533162)) xM 37851826)<|
 xL
noncomputable def qF:Ss:=
 iA 2 95 5441214 (.Vf 5442425) 5441219<|
 .cons (.for (.nm #[3,21,5459708]) (.seq (.prim .sorted (e1 (lc 1 77 5461734)) 5460790 5460797)) xO 27006416)<|
 xK
noncomputable def CD:Fn:=#[11,[0,1],[],qF]
noncomputable def ju:Ss:=
 s1 (.expr (.U1 .append (lc 1 0 5711633) (e1 (.tup (.cons (.attr (lc 2 81 5713523) 5 5713530) (.cons (lc 4 60 5715416) (e1 (.item (lc 3 97 5716762) (lc 4 60 5717441) 5716772)))) 5713423)) 5711640 5711682) 5711682)
noncomputable def jt:Ss:=
 iA 3 97 5675180 (.call 361 98 (.cons (.attr (lc 2 81 5677206) 75 5677212) (e1 (.attr (lc 2 81 5678961) 77 5678967))) 5676128 5676154) 5675216<|
 s1 (.for (.nm #[4,60,5693680]) (.seq (lc 3 97 5695296)) ju 16466790)
noncomputable def jr:Ss:=
 s1 (.ret (lc 1 0 5729454) 5728516)
noncomputable def dp:Ss:=
 iA 1 0 5638729 (.list .nil 5639806) 5638734<|
 .cons (.for (.nm #[2,81,5657225]) (.seq (.attr (lc 0 96 5658444) 80 5658451)) jt 37977542)<|
 jr
noncomputable def kO:Fn:=#[6,[0],[],dp]
noncomputable def lQ:Ss:=
 s1 (.ret (.W6 (.call 368 99 (e1 (lc 0 96 5768340)) 5765918 5765929) 5765393) 5764455)
noncomputable def xh:Fn:=#[2,[0],[],lQ]
noncomputable def im:Ss:=
 .cons (.U8 (lc 0 4 5872696) 5 5872703 (lc 1 5 5874588) 5872712)<|
 .cons (.U8 (lc 0 4 5890652) 71 5890659 (lc 2 71 5892544) 5890668)<|
 .cons (.U8 (lc 0 4 5908608) 23 5908615 (lc 3 23 5910500) 5908624)<|
 .cons (.U8 (lc 0 4 5926564) 74 5926570 (.list .nil 5928317) 5926575)<|
 .cons (.U8 (lc 0 4 5944520) 75 5944526 (.Vf 5946273) 5944531)<|
 s1 (.U8 (lc 0 4 5962476) 76 5962487 (.list .nil 5964904) 5962492)
noncomputable def s6:Fn:=#[4,[0,1,2,3],[],im]
noncomputable def pY:Ss:=
 s1 (.ret (.U1 .get (.attr (lc 0 4 6017289) 75 6017295) (.cons (lc 1 23 6019316) (e1 (.glob 100 6020394))) 6017299 6017313) 6016375)
noncomputable def s7:Fn:=#[3,[0,1],[],pY]
noncomputable def fU:Ss:=
 s1 (.ret (.lit (.bool true) 6089653) 6088715)
noncomputable def fQ:Ss:=
 s1 (.ret (.test (.all (.cons (.cmp .eq (.prim .len (e1 (.attr (lc 0 4 6107609) 76 6107620)) 6107068 6107085) (li 1 6110306) 6107090) (.cons (.cmp .eq (.attr (lc 0 4 6111119) 75 6111125) (.Vf 6113007) 6111131) .nil)) 6107111)) 6106173)
noncomputable def cz:Ss:=
 .cons (.ite (.cmp .eq (.attr (lc 0 4 6070617) 76 6070628) (.list .nil 6073180) 6070634) fU .nil 16843823)<|
 fQ
noncomputable def g9:Fn:=#[2,[0],[],cz]
noncomputable def rA:Ss:=
 s1 (.Ve (lc 2 54 6250852) (.attr (lc 3 21 6251527) 2 6251532) 6250863 (.bin .BitOr (.item (lc 2 54 6253282) (.attr (lc 3 21 6253957) 2 6253962) 6253293) (.bin .LShift (li 1 6255709) (.item (.attr (lc 3 21 6256387) 6 6256393) (li 0 6257869) 6256396) 6255726) 6253314) 6250902)
noncomputable def rq:Ss:=
 s1 (.ite (.cmp .gt (.prim .len (e1 (.attr (lc 3 21 6233301) 6 6233307)) 6232760 6232772) (li 0 6235188) 6232776) rA .nil 17006010)
noncomputable def rm:Ss:=
 s1 (.U8 (lc 0 4 6267728) 45 6267735 (.call 226 101 (e1 (lc 2 54 6271103)) 6269624 6269630) 6267754)
noncomputable def ji:Ss:=
 .cons (.U8 (lc 0 4 6177948) 40 6177956 (lc 1 40 6179976) 6177966)<|
 iA 2 54 6195904 (.bin .Mult (.list (e1 (li 0 6196981)) 6196848) (.U5 43 (lc 1 40 6197662) .nil 6197675 6197677) 6196873) 6195935<|
 .cons (.for (.nm #[3,21,6214400]) (.seq (.attr (lc 1 40 6215483) 13 6215489)) rq 27761118)<|
 rm
noncomputable def ui:Fn:=#[6,[0,1],[],ji]
noncomputable def oV:Ss:=
 iA 2 3 6394500 (.bin .BitOr (.bin .BitOr (lc 2 3 6395445) (.bin .LShift (li 1 6396387) (lc 4 23 6397067) 6396397) 6395459) (.item (.attr (lc 0 4 6398280) 45 6398287) (lc 4 23 6399902) 6398295) 6395481) 6394543 .nil
noncomputable def oU:Ss:=
 iA 4 23 6358050 (.U5 79 (.attr (lc 0 4 6359263) 40 6359271) (e1 (lc 3 25 6361828)) 6359277 6359283) 6358077<|
 s1 (.ite (.cmp .ge (lc 4 23 6376411) (li 0 6377756) 6376416) oV .nil 17149651)
noncomputable def oT:Ss:=
 s1 (.ret (lc 2 3 6412321) 6411383)
noncomputable def gz:Ss:=
 iA 2 3 6321596 (li 0 6322538) 6321600<|
 .cons (.for (.nm #[3,25,6340092]) (.seq (lc 1 71 6341174)) oU 38660403)<|
 oT
noncomputable def qQ:Fn:=#[5,[0,1],[],gz]
noncomputable def qe:Ss:=
 s1 (.expr (.U1 .append (lc 2 0 6556645) (e1 (lc 5 25 6558399)) 6556652 6556658) 6556658)
noncomputable def qd:Ss:=
 iA 5 25 6520192 (.U5 25 (.attr (lc 0 4 6521137) 40 6521145) (.cons (lc 4 5 6523569) (e1 (li 0 6524644))) 6521150 6521161) 6520223<|
 s1 (.ite (.cmp .Vi (lc 5 25 6538553) (lc 1 71 6540175) 6538567) qe .nil 17311766)
noncomputable def qc:Ss:=
 s1 (.for (.nm #[4,5,6502238]) (.seq (.U5 85 (.attr (lc 0 4 6503586) 40 6503594) (e1 (lc 3 23 6506558)) 6503603 6503611)) qd 38822518)
noncomputable def qb:Ss:=
 s1 (.ret (.prim .sorted (e1 (lc 2 0 6574871)) 6573927 6573934) 6572996)
noncomputable def iu:Ss:=
 iA 2 0 6465245 (.list .nil 6466322) 6465250<|
 .cons (.for (.nm #[3,23,6483742]) (.seq (.call 68 61 (e1 (.U5 102 (lc 0 4 6485765) (e1 (lc 1 71 6487387)) 6485772 6485780)) 6485090 6485111)) qc 49577626)<|
 qb
noncomputable def te:Fn:=#[8,[0,1],[],iu]
noncomputable def ir:Ss:=
 s1 (.ret (.bin .Add (.prim .sorted (e1 (lc 1 71 6628740)) 6627795 6627803) (.U5 103 (lc 0 4 6630088) (e1 (lc 1 71 6631575)) 6630094 6630102) 6627824) 6626886)
noncomputable def td:Fn:=#[3,[0,1],[],ir]
noncomputable def j3:Ss:=
 s1 (.ret (.U5 25 (lc 0 40 6663168) (.cons (.U5 78 (lc 0 40 6664923) (e1 (lc 1 25 6667080)) 6664931 6664937) (e1 (.bin .Add (.U5 84 (lc 0 40 6668028) (e1 (lc 1 25 6670050)) 6668035 6668041) (li 1 6671127) 6668045))) 6663173 6663222) 6662284)
noncomputable def v1:Fn:=#[2,[0,1],[],j3]
noncomputable def mM:Ss:=
 s1 (.Ve (lc 2 0 6807489) (lc 4 23 6808300) 6807497 (.list .nil 6809646) 6807502)
noncomputable def mL:Ss:=
 s1 (.expr (.U1 .append (.item (lc 2 0 6824905) (lc 4 23 6825716) 6824913) (e1 (.call 459 104 (.cons (lc 0 40 6829902) (e1 (lc 3 25 6831114))) 6827750 6827765)) 6824920 6824952) 6824952)
noncomputable def mK:Ss:=
 .cons (.ite (.cmp .Vi (lc 4 23 6789399) (lc 2 0 6791288) 6789412) mM .nil 17562610)<|
 mL
noncomputable def mJ:Ss:=
 iA 4 23 6752542 (.U5 79 (lc 0 40 6753758) (e1 (lc 3 25 6755645)) 6753764 6753770) 6752564<|
 s1 (.ite (.cmp .ge (lc 4 23 6770903) (li 0 6772248) 6770908) mK .nil 39091348)
noncomputable def mI:Ss:=
 s1 (.Ve (lc 5 105 6878235) (lc 4 23 6879314) 6878243 (.prim .tuple (e1 (.prim .sorted (e1 (.item (lc 2 0 6882418) (lc 4 23 6883229) 6882426)) 6881474 6881489)) 6880663 6880686) 6878274)
noncomputable def mH:Ss:=
 s1 (.ret (lc 5 105 6896596) 6895658)
noncomputable def mG:Ss:=
 iA 5 105 6841783 (.Vf 6843128) 6841788<|
 .cons (.for (.nm #[4,23,6860278]) (.seq (.prim .sorted (e1 (lc 2 0 6862572)) 6861628 6861635)) mI 17633382)<|
 mH
noncomputable def fj:Ss:=
 iA 2 0 6716089 (.Vf 6717166) 6716094<|
 .cons (.for (.nm #[3,25,6734584]) (.seq (lc 1 74 6735665)) mJ 60602100)<|
 mG
noncomputable def pG:Fn:=#[9,[0,1],[],fj]
noncomputable def mP:Ss:=
 s1 (.expr (.U1 .append (lc 2 0 6986509) (e1 (.U5 78 (lc 0 40 6988266) (e1 (lc 3 25 6990423)) 6988274 6988280)) 6986516 6986539) 6986539)
noncomputable def mO:Ss:=
 s1 (.ite (.all (.cons (.cmp .lt (.U5 79 (lc 0 40 6968420) (e1 (lc 3 25 6970307)) 6968426 6968432) (li 0 6971384) 6968436) (.cons (.cmp .ne (.U5 78 (lc 0 40 6972200) (e1 (lc 3 25 6974357)) 6972208 6972214) (li 0 6975569) 6972219) .nil)) 6968467) mP .nil 17741647)
noncomputable def mN:Ss:=
 s1 (.ret (.prim .sorted (e1 (lc 2 0 7005275)) 7004331 7004338) 7003400)
noncomputable def fk:Ss:=
 iA 2 0 6931561 (.list .nil 6932638) 6931566<|
 .cons (.for (.nm #[3,25,6950056]) (.seq (lc 1 74 6951137)) mO 28496755)<|
 mN
noncomputable def pI:Fn:=#[5,[0,1],[],fk]
noncomputable def fz:Ss:=
 .cons (.U8 (lc 0 4 7075748) 40 7075756 (lc 1 40 7077776) 7075766)<|
 s1 (.U8 (lc 0 4 7093704) 80 7093711 (lc 2 80 7095596) 7093720)
noncomputable def pM:Fn:=#[3,[0,1,2],[],fz]
noncomputable def mR:Ss:=
 s1 (.ret (.U5 106 (.item (.attr (lc 0 4 7148517) 80 7148524) (lc 1 81 7150138) 7148531) (e1 (lc 2 23 7151759)) 7148536 7148544) 7147606)
noncomputable def pO:Fn:=#[3,[0,1,2],[],mR]
noncomputable def iw:Ss:=
 .cons (.U8 (lc 0 4 7524648) 40 7524656 (lc 1 40 7526676) 7524666)<|
 .cons (.U8 (lc 0 4 7542604) 107 7542611 (.new 448 108 (e1 (lc 1 40 7545442)) 7544496 7544505) 7542629)<|
 .cons (.U8 (lc 0 4 7560560) 80 7560567 (.list .nil 7562448) 7560572)<|
 s1 (.U8 (lc 0 4 7578516) 89 7578524 (.Vf 7580539) 7578529)
noncomputable def tf:Fn:=#[3,[0,1],[],iw]
noncomputable def jw:Ss:=
 .cons (.Ve (.attr (lc 0 4 7650880) 89 7650888) (lc 1 71 7652637) 7650896 (.prim .len (e1 (.attr (lc 0 4 7654525) 80 7654532)) 7653984 7653997) 7650915)<|
 s1 (.expr (.U1 .append (.attr (lc 0 4 7668836) 80 7668843) (e1 (.new 406 109 (.cons (.prim .len (e1 (.attr (lc 0 4 7673021) 80 7673028)) 7672480 7672493) (.cons (lc 1 71 7674913) (e1 (lc 2 23 7675993)))) 7671404 7671438)) 7668850 7668893) 7668893)
noncomputable def jv:Ss:=
 s1 (.ret (.item (.attr (lc 0 4 7687197) 89 7687205) (lc 1 71 7688954) 7687213) 7686275)
noncomputable def dq:Ss:=
 .cons (.ite (.cmp .Vi (lc 1 71 7632791) (.attr (lc 0 4 7634679) 89 7634687) 7632811) jw .nil 29179645)<|
 jv
noncomputable def kQ:Fn:=#[5,[0,1,2],[],dq]
noncomputable def mQ:Ss:=
 s1 (.Ve (.attr (lc 1 81 7812485) 75 7812491) (lc 3 23 7814106) 7812499 (.U5 113 (lc 0 4 7815454) (.cons (.item (lc 2 53 7817481) (lc 3 23 7818426) 7817489) (e1 (lc 3 23 7819641))) 7815464 7815488) 7812540)
noncomputable def fu:Ss:=
 .cons (.U8 (lc 1 81 7740121) 74 7740127 (.U5 110 (.attr (lc 0 4 7742010) 107 7742017) (e1 (.attr (lc 1 81 7744441) 71 7744448)) 7742023 7742037) 7740161)<|
 .cons (.U8 (lc 1 81 7758077) 76 7758088 (.call 473 111 (.cons (.attr (lc 0 4 7762666) 40 7762674) (e1 (.attr (lc 1 81 7764557) 74 7764563))) 7760651 7760678) 7758132)<|
 iA 2 53 7776034 (.call 466 112 (.cons (.attr (lc 0 4 7779272) 40 7779280) (e1 (.attr (lc 1 81 7781163) 74 7781169))) 7777257 7777284) 7776078<|
 s1 (.for (.nm #[3,23,7794530]) (.seq (lc 2 53 7795880)) mQ 18567648)
noncomputable def pL:Fn:=#[6,[0,1],[],fu]
noncomputable def oX:Ss:=
 .cons (.expr (.U5 114 (lc 0 4 7920220) (e1 (.item (.attr (lc 0 4 7921840) 80 7921847) (lc 1 1 7923458) 7921851)) 7920227 7920244) 7920244)<|
 iA 1 1 7938174 (.bin .Add (lc 1 1 7938849) (li 1 7939523) 7938853) 7938183 .nil
noncomputable def oW:Ss:=
 s1 (.ret (.new 525 115 (.cons (.attr (lc 0 4 7957887) 40 7957895) (e1 (.attr (lc 0 4 7959777) 80 7959784))) 7956542 7956569) 7955631)
noncomputable def gA:Ss:=
 .cons (.expr (.U5 113 (lc 0 4 7865812) (.cons (.tup (e1 (.U5 25 (.attr (lc 0 4 7867972) 40 7867980) (.cons (li 0 7870399) (e1 (li 0 7870804))) 7867985 7867991)) 7867859) (e1 (.glob 100 7871617))) 7865822 7865856) 7865856)<|
 iA 1 1 7883766 (li 0 7884440) 7883770<|
 .cons (.while (.cmp .lt (lc 1 1 7902532) (.prim .len (e1 (.attr (lc 0 4 7903749) 80 7903756)) 7903208 7903221) 7902551) oX 29448935)<|
 oW
noncomputable def qR:Fn:=#[5,[0],[],gA]
noncomputable def uZ:Ss:=
 s1 (.ret (.U5 116 (.new 567 117 (e1 (lc 0 40 7992992)) 7991912 7991921) .nil 7991927 7991929) 7990991)
noncomputable def Ik:Fn:=#[2,[0],[],uZ]
noncomputable def dj:Ss:=
 s1 (.ret (.comp (.attr (lc 1 81 8027957) 5 8027964) (.nm #[1,81,8030252]) (.seq (.attr (lc 0 118 8031471) 80 8031478)) (.cons (.not (.truth (.U5 119 (lc 1 81 8034707) .nil 8034721 8034723)) 8034187) .nil) #[.function,[(".0",.local),("state",.local)],false,false,[]] 8027890) 8026952)
noncomputable def kN:Fn:=#[1,[0],[],dj]
noncomputable def j1:Ss:=
 s1 (.ret (.test (.cmp .eq (.call 583 120 (e1 (lc 0 118 8066168)) 8063746 8063757) (.list .nil 8068051) 8063763)) 8062825)
noncomputable def vX:Fn:=#[2,[0],[],j1]
noncomputable def xJ:Ss:=
 iA 1 5 8153110 (.bin .Add (.bin .Add (.bin .Mult (lc 1 5 8154325) (li 1021 8155538) 8154332) (.bin .Mult (li 2 8156480) (.prim .abs (e1 (.prim .int (e1 (lc 2 121 8158103)) 8157562 8157568)) 8157022 8157033) 8156497) 8154353) (.prim .int (e1 (.test (.cmp .lt (lc 2 121 8159858) (li 0 8160800) 8159862))) 8159317 8159327) 8154369) 8153163 .nil
noncomputable def xI:Ss:=
 s1 (.ret (.list (.cons (lc 1 5 8171606) (e1 (li 0 8172681))) 8171476) 8170538)
noncomputable def qE:Ss:=
 iA 1 5 8116658 (li 17 8117869) 8116663<|
 .cons (.for (.nm #[2,121,8135152]) (.seq (.VT (lc 0 122 8136234) (li 63 8137310) 8137176 8136239)) xJ 18908271)<|
 xI
noncomputable def CA:Fn:=#[5,[0],[],qE]
noncomputable def we:Ss:=
 .cons (.Ve (lc 0 123 8224931) (li 1 8225469) 8224934 (.bin .Add (.item (lc 0 123 8226146) (li 1 8226684) 8226149) (li 1 8227359) 8226153) 8224947)<|
 s1 (.Ve (lc 0 123 8242887) (li 0 8243425) 8242890 (.bin .Add (.bin .Mult (li 1021 8244103) (.item (lc 0 123 8245047) (li 1 8245585) 8245050) 8244112) (li 8009 8246263) 8244119) 8242913)
noncomputable def oN:Ss:=
 iA 2 124 8260305 (.bin .Mod (.item (lc 0 123 8261383) (li 0 8261921) 8261386) (lc 1 125 8262599) 8261393) 8260321<|
 .cons (.Ve (lc 0 123 8278259) (li 0 8278797) 8278262 (.bin .FloorDiv (.item (lc 0 123 8279474) (li 0 8280012) 8279477) (lc 1 125 8280825) 8279485) 8278279)<|
 s1 (.ret (lc 2 124 8297162) 8296224)
noncomputable def oM:Ss:=
 .cons (.ite (.cmp .eq (.item (lc 0 123 8206840) (li 0 8207378) 8206843) (li 0 8208188) 8206848) we .nil 29753665)<|
 oN
noncomputable def zv:Fn:=#[3,[0,1],[],oM]
noncomputable def oG:Ss:=
 s1 (.ret (.item (lc 1 126 8333073) (.call 604 127 (.cons (lc 0 123 8335097) (e1 (.prim .len (e1 (lc 1 126 8336313)) 8335772 8335778))) 8333753 8333769) 8333100) 8332162)
noncomputable def zu:Fn:=#[4,[0,1],[],oG]
noncomputable def lP:Ss:=
 iA 9 126 8458900 (.bin .Add (.list (.cons (.lit (.str "a") 8459979) (.cons (.lit (.str "b") 8460654) (e1 (.lit (.str "c") 8461329)))) 8459856) (.ite (.cmp .gt (lc 8 1 8463623) (li 0 8464297) 8463627) (lc 1 11 8462411) (.list .nil 8465243) 8462429) 8459884) 8458946<|
 iA 10 131 8476856 (.prim .tuple (e1 (.comp (.call 611 132 (.cons (lc 0 123 8480095) (e1 (lc 9 126 8480771))) 8478751 8478762) (.nm #[17,133,8482121]) (.range (.call 604 127 (.cons (lc 0 123 8485360) (e1 (li 3 8486033))) 8484016 8484024) 8483202 8483221) .nil #[.function,[(".0",.local),("turn",.local),("_law_pick",.globalImplicit),("pen",.free),("some",.free)],false,false,[]] 8478666)) 8477802 8477863) 8476925<|
 s1 (.expr (.U1 .append (lc 2 28 8494813) (e1 (.tup (.cons (lc 4 18 8496702) (e1 (.bin .Add (.tup (e1 (.item (.list (.cons (.lit (.str "a") 8497781) (.cons (.lit (.str "b") 8498456) (e1 (.lit (.str "c") 8499131)))) 8497658) (.bin .Mod (.bin .Add (lc 5 129 8499943) (lc 8 1 8501020) 8499948) (li 3 8501829) 8499819) 8497676)) 8497544) (lc 10 131 8502777) 8497551))) 8496614)) 8494820 8494873) 8494873)
noncomputable def uA:Ss:=
 s1 (.expr (.U1 .append (lc 2 28 8530725) (e1 (.tup (.cons (lc 4 18 8532614) (e1 (.tup .nil 8533422))) 8532485)) 8530732 8530744) 8530744)
noncomputable def uz:Ss:=
 iA 11 134 8566637 (.ite (.cmp .eq (lc 7 130 8568661) (li 1 8569738) 8568666) (.lit (.str "c") 8567715) (.item (lc 1 11 8570687) (.bin .Add (lc 3 128 8571496) (li 1 8572438) 8571500) 8570697) 8567749) 8566677<|
 iA 10 131 8584592 (.prim .tuple (e1 (.comp (.call 611 132 (.cons (lc 0 123 8587831) (e1 (.bin .Add (lc 1 11 8588508) (.list (.cons (.lit (.str "a") 8589721) (.cons (.lit (.str "b") 8590396) (e1 (.lit (.str "c") 8591071)))) 8589598) 8588526))) 8586487 8586517) (.nm #[17,133,8592422]) (.range (.call 604 127 (.cons (lc 0 123 8595661) (e1 (li 2 8596334))) 8594317 8594325) 8593503 8593522) .nil #[.function,[(".0",.local),("turn",.local),("_law_pick",.globalImplicit),("names",.free),("pen",.free)],false,false,[]] 8586421)) 8585538 8585618) 8584680<|
 s1 (.expr (.U1 .append (lc 2 28 8602549) (e1 (.tup (.cons (lc 4 18 8604438) (e1 (.bin .Add (.tup (e1 (lc 11 134 8605384)) 8605252) (lc 10 131 8606733) 8605259))) 8604322)) 8602556 8602581) 8602581)
noncomputable def lO:Ss:=
 s1 (.ite (.all (.cons (.cmp .gt (lc 7 130 8548545) (li 0 8549487) 8548549) (.cons (.cmp .lt (.bin .Add (lc 3 128 8550300) (li 1 8551242) 8550304) (.prim .len (e1 (lc 1 11 8552326)) 8551784 8551791) 8550317) .nil)) 8548575) uz .nil 40868977)
noncomputable def lN:Ss:=
 .cons (.ite (.cmp .eq (lc 7 130 8512633) (li 0 8513710) 8512638) uA .nil 19285852)<|
 lO
noncomputable def lM:Ss:=
 .cons (.VL [#[5,129,8422449],#[6,125,8423393],#[7,130,8424203]] 8422461 (.tup (.cons (.call 604 127 (.cons (lc 0 123 8426632) (e1 (li 3 8427305))) 8425288 8425296) (.cons (.bin .Add (li 1 8427845) (.call 604 127 (.cons (lc 0 123 8429737) (e1 (li 2 8430410))) 8428393 8428401) 8427865) (e1 (.call 604 127 (.cons (lc 0 123 8432302) (e1 (li 4 8432975))) 8430958 8430966)))) 8425205) 8422525)<|
 .cons (.for (.nm #[8,1,8440942]) (.range (lc 6 125 8442564) 8441755 8441761) lP 40761269)<|
 lN
noncomputable def uy:Ss:=
 s1 (.ret (lc 2 28 8620370) 8619432)
noncomputable def lL:Ss:=
 iA 1 11 8368041 (.VT (.list (.cons (.lit (.str "S") 8369254) (.cons (.lit (.str "T") 8369929) (e1 (.lit (.str "U") 8370604)))) 8369131) (.bin .Add (li 1 8371412) (.call 604 127 (.cons (lc 0 123 8373304) (e1 (li 3 8373977))) 8371960 8371968) 8371432) 8371298 8369155) 8368083<|
 iA 2 28 8385997 (.list .nil 8387074) 8386002<|
 .cons (.for (.tup [#[3,128,8404492],#[4,18,8405302]] 8404498) (.enum (lc 1 11 8407733) 8406387 8406394) lM 126913593)<|
 uy
noncomputable def xg:Fn:=#[17,[0],[],lL]
noncomputable def tL:Ss:=
 iA 1 9 8728780 (.bin .Add (lc 1 9 8729725) (.comp (lc 7 56 8730804) (.nm #[7,56,8731884]) (.seq (.prim .dict (e1 (.comp (.tup (.cons (lc 7 70 8733775) (e1 (.lit (.bool true) 8734585))) 8733648) (.nm #[7,70,8735935]) (.seq (lc 4 27 8737016)) .nil #[.function,[(".0",.local),("part",.local)],false,false,[]] 8733533)) 8732830 8732864)) (.cons (.all (.cons (.cmp .isin (lc 7 56 8738499) (.lit (.str "STU") 8739446) 8738508) (.cons (.cmp .Vi (lc 7 56 8740794) (lc 1 9 8742280) 8740806) .nil)) 8738528) .nil) #[.function,[(".0",.local),("one",.local),("line",.free)],false,false,[]] 8730757) 8729819) 8728881 .nil
noncomputable def tK:Ss:=
 s1 (.ite (.cmp .eq (lc 3 18 8710689) (.item (lc 1 9 8711769) (lc 2 1 8712442) 8711773) 8710701) tL .nil 19483989)
noncomputable def tJ:Ss:=
 iA 2 1 8745654 (.bin .Add (lc 2 1 8746329) (li 1 8747003) 8746333) 8745663 .nil
noncomputable def tI:Ss:=
 .cons (.for (.tup [#[3,18,8692328],#[4,27,8693139]] 8692335) (.seq (lc 0 28 8694354)) tK 30239097)<|
 tJ
noncomputable def tH:Ss:=
 s1 (.ret (.comp (lc 7 73 8764152) (.nm #[7,73,8765367]) (.seq (lc 0 28 8766448)) (.cons (.cmp .isin (.item (lc 7 73 8767662) (li 0 8768334) 8767665) (lc 1 9 8769147) 8767673) .nil) #[.function,[(".0",.local),("pair",.local),("line",.free)],false,false,[]] 8764056) 8763118)
noncomputable def jW:Ss:=
 .cons (.VL [#[1,9,8655336],#[2,1,8656144]] 8655340 (.tup (.cons (.list (e1 (.lit (.str "S") 8657090)) 8656957) (e1 (li 0 8657898))) 8656827) 8655353)<|
 .cons (.while (.cmp .lt (lc 2 1 8674100) (.prim .len (e1 (lc 1 9 8675317)) 8674776 8674782) 8674112) tI 51767703)<|
 tH
noncomputable def vV:Fn:=#[7,[0],[],jW]
noncomputable def tO:Ss:=
 s1 (.ret (lc 2 0 8890790) 8889852)
noncomputable def tN:Ss:=
 iA 4 126 8835436 (.U1 .get (lc 0 135 8836382) (.cons (lc 3 70 8837731) (e1 (.list (e1 (lc 3 70 8838676)) 8838543))) 8836386 8836400) 8835462<|
 iA 2 0 8853393 (.bin .Add (lc 2 0 8854473) (.comp (lc 5 56 8855686) (.nm #[5,56,8856766]) (.seq (lc 4 126 8857712)) (.cons (.all (.cons (.cmp .ne (lc 5 56 8858791) (.lit (.str "") 8859735) 8858797) (.cons (.cmp .Vi (lc 5 56 8860681) (lc 2 0 8862168) 8860694) .nil)) 8858818) .nil) #[.function,[(".0",.local),("one",.local),("found",.free)],false,false,[]] 8855603) 8854531) 8853459<|
 s1 (.ite (.cmp .Vi (.lit (.str "") 8871751) (lc 4 126 8873103) 8871763) tO .nil 19644960)
noncomputable def tM:Ss:=
 s1 (.ret (.bin .Add (lc 2 0 8907666) (.list (e1 (.lit (.str "") 8908878)) 8908745) 8907673) 8906735)
noncomputable def jZ:Ss:=
 iA 2 0 8798985 (.list .nil 8800062) 8798990<|
 .cons (.for (.nm #[3,70,8817480]) (.seq (lc 1 27 8818561)) tN 51911356)<|
 tM
noncomputable def vW:Fn:=#[5,[0,1],[],jZ]
noncomputable def lK:Ss:=
 s1 (.Ve (lc 3 135 8997581) (lc 1 18 8998390) 8997587 (.bin .Add (.item (lc 3 135 8999471) (lc 1 18 9000280) 8999477) (.comp (lc 9 56 9001494) (.nm #[9,56,9002574]) (.seq (.call 626 136 (.cons (lc 3 135 9005141) (e1 (lc 2 27 9006086))) 9003527 9003541)) (.cons (.cmp .Vi (lc 9 56 9007434) (.item (lc 3 135 9008921) (lc 1 18 9009730) 9008927) 9007453) .nil) #[.function,[(".0",.local),("one",.local),("heads",.free),("name",.free)],false,false,[]] 9001424) 8999548) 8997672)
noncomputable def ux:Ss:=
 s1 (.for (.tup [#[1,18,8979624],#[2,27,8980435]] 8979631) (.seq (lc 0 28 8981650)) lK 19752780)
noncomputable def uw:Ss:=
 s1 (.ret (lc 3 135 9015402) 9014464)
noncomputable def lJ:Ss:=
 iA 3 135 8942633 (.prim .dict (e1 (.comp (.tup (.cons (lc 9 18 8944657) (e1 (.list .nil 8945465))) 8944528) (.tup [#[9,18,8946547],#[10,27,8947358]] 8946554) (.seq (lc 0 28 8948573)) .nil #[.function,[(".0",.local),("name",.local),("parts",.local)],false,false,[]] 8944420)) 8943712 8943751) 8942679<|
 .cons (.for (.nm #[4,133,8961128]) (.range (.bin .Add (.bin .Mult (li 3 8963015) (.prim .len (e1 (lc 3 135 8964099)) 8963557 8963564) 8963028) (li 3 8965310) 8963032) 8962209 8962229) ux 30507888)<|
 uw
noncomputable def xe:Fn:=#[9,[0],[],lJ]
noncomputable def oL:Ss:=
 s1 (.Ve (lc 3 0 9233169) (lc 7 70 9233978) 9233175 (.bin .Add (.item (lc 3 0 9235059) (lc 7 70 9235868) 9235065) (.list (e1 (lc 9 56 9237082)) 9236949) 9235073) 9233197)
noncomputable def oK:Ss:=
 s1 (.ite (.cmp .Vi (lc 9 56 9215076) (.item (lc 3 0 9216563) (lc 7 70 9217372) 9216569) 9215095) oL .nil 19988305)
noncomputable def gp:Ss:=
 iA 8 126 9160264 (.call 626 136 (.cons (lc 1 135 9162830) (e1 (.VM (lc 5 27 9163775) (.bin .Add (lc 6 1 9164582) (li 1 9165256) 9164586) 9164587 9163784))) 9161216 9161239) 9160301<|
 iA 10 137 9178220 (.bin .Add (.comp (lc 16 56 9179299) (.nm #[16,56,9180379]) (.seq (lc 8 126 9181325)) (.cons (.cmp .ne (lc 16 56 9182404) (.lit (.str "") 9183348) 9182410) .nil) #[.function,[(".0",.local),("one",.local)],false,false,[]] 9179195) (.ite (.cmp .isin (.lit (.str "") 9186318) (lc 8 126 9187130) 9186326) (.item (lc 3 0 9184296) (lc 2 18 9185105) 9184302) (.list .nil 9188478) 9184324) 9179233) 9178295<|
 s1 (.for (.nm #[9,56,9196715]) (.seq (lc 10 137 9197661)) oK 30743413)
noncomputable def oJ:Ss:=
 s1 (.ite (.cmp .isin (lc 7 70 9142173) (lc 1 135 9143254) 9142182) gp .nil 63009809)
noncomputable def gm:Ss:=
 s1 (.for (.tup [#[6,1,9123810],#[7,70,9124352]] 9123816) (.enum (lc 5 27 9126783) 9125437 9125444) oJ 73764917)
noncomputable def oI:Ss:=
 s1 (.for (.tup [#[2,18,9105316],#[5,27,9106127]] 9105323) (.seq (lc 0 28 9107342)) gm 84520025)
noncomputable def oH:Ss:=
 s1 (.ret (lc 3 0 9248830) 9247892)
noncomputable def gk:Ss:=
 iA 3 0 9050369 (.prim .dict (e1 (.comp (.tup (.cons (lc 16 18 9052393) (e1 (.list .nil 9053201))) 9052264) (.nm #[16,18,9054283]) (.seq (lc 1 135 9055364)) .nil #[.function,[(".0",.local),("name",.local)],false,false,[]] 9052149)) 9051448 9051480) 9050408<|
 .cons (.Ve (lc 3 0 9068325) (.lit (.str "S") 9069133) 9068330 (.list (e1 (.lit (.str "$end") 9070216)) 9070083) 9068341)<|
 .cons (.for (.nm #[4,133,9086820]) (.range (.bin .Add (.bin .Mult (li 3 9088707) (.prim .len (e1 (lc 1 135 9089791)) 9089249 9089256) 9088720) (li 3 9091002) 9088724) 9087901 9087921) oI 95275133)<|
 oH
noncomputable def qN:Fn:=#[16,[0,1],[],gk]
noncomputable def ld:Ss:=
 s1 (.ret (.lit (.bool true) 9430009) 9429071)
noncomputable def k9:Ss:=
 s1 (.Ve (lc 3 141 9446479) (.tup (.cons (lc 4 18 9447020) (e1 (lc 8 143 9447830))) 9447026) 9446491 (.lit (.bool true) 9448910) 9446498)
noncomputable def kZ:Ss:=
 .cons (.ite (.cmp .isin (.tup (.cons (lc 4 18 9411108) (e1 (lc 8 143 9411918))) 9410981) (lc 3 141 9413132) 9410988) ld .nil 20184179)<|
 k9
noncomputable def kY:Ss:=
 iA 6 126 9356160 (.call 626 136 (.cons (lc 1 135 9358726) (e1 (lc 5 27 9359671))) 9357112 9357126) 9356188<|
 iA 7 142 9374117 (.bin .Add (.comp (lc 13 56 9375330) (.nm #[13,56,9376410]) (.seq (lc 6 126 9377356)) (.cons (.cmp .ne (lc 13 56 9378435) (.lit (.str "") 9379379) 9378441) .nil) #[.function,[(".0",.local),("one",.local)],false,false,[]] 9375226) (.ite (.cmp .isin (.lit (.str "") 9382889) (lc 6 126 9383701) 9382897) (.item (lc 2 139 9380331) (lc 4 18 9381676) 9380337) (.list .nil 9385049) 9380359) 9375268) 9374196<|
 s1 (.for (.nm #[8,143,9392612]) (.seq (.prim .dict (e1 (.comp (.tup (.cons (lc 13 56 9394636) (e1 (.lit (.bool true) 9395312))) 9394509) (.nm #[13,56,9396661]) (.seq (lc 7 142 9397608)) .nil #[.function,[(".0",.local),("one",.local)],false,false,[]] 9394393)) 9393692 9393724)) kZ 41712894)
noncomputable def kU:Ss:=
 s1 (.ret (.lit (.bool false) 9464302) 9463364)
noncomputable def eh:Ss:=
 iA 1 135 9283797 (.call 631 138 (e1 (lc 0 28 9286362)) 9284882 9284889) 9283817<|
 iA 2 139 9301757 (.call 636 140 (.cons (lc 0 28 9305398) (e1 (lc 1 135 9306343))) 9303382 9303396) 9301788<|
 iA 3 141 9319707 (.Vf 9320516) 9319712<|
 .cons (.for (.tup [#[4,18,9338204],#[5,27,9339015]] 9338211) (.seq (lc 0 28 9340230)) kY 73979290)<|
 kU
noncomputable def od:Fn:=#[13,[0],[],eh]
noncomputable def uu:Ss:=
 s1 (.Ve (lc 3 0 9572173) (lc 4 67 9572982) 9572179 (.lit (.bool true) 9574062) 9572186)
noncomputable def ut:Ss:=
 s1 (.expr (.U1 .append (lc 2 9 9626580) (e1 (.tup (.cons (.bin .Add (lc 4 67 9628335) (.VT (lc 5 144 9629280) (li 1 9630087) 9629953 9629284) 9628346) (e1 (.VM (lc 5 144 9630630) (li 1 9631302) 9631303 9630634))) 9628223)) 9626587 9626616) 9626616)
noncomputable def ur:Ss:=
 s1 (.ite (.cmp .lt (.prim .len (e1 (lc 4 67 9609029)) 9608488 9608494) (lc 1 93 9610109) 9608501) ut .nil 20381724)
noncomputable def uo:Ss:=
 iA 2 9 9661952 (.bin .Add (lc 2 9 9662897) (.comp (.tup (.cons (lc 4 67 9664112) (e1 (.bin .Add (lc 8 27 9664923) (.VM (lc 5 144 9666002) (li 1 9666674) 9666675 9666006) 9664934))) 9663997) (.tup [#[7,18,9667892],#[8,27,9668703]] 9667899) (.seq (lc 0 28 9669918)) (.cons (.cmp .eq (lc 7 18 9671132) (.item (lc 5 144 9672212) (li 0 9672884) 9672215) 9671143) .nil) #[.function,[(".0",.local),("name",.local),("parts",.local),("rest",.free),("word",.free)],false,false,[]] 9663908) 9662970) 9662032 .nil
noncomputable def um:Ss:=
 s1 (.ite (.cmp .Vi (.item (lc 5 144 9590263) (li 0 9590935) 9590266) (.tup (.cons (.lit (.str "S") 9592422) (.cons (.lit (.str "T") 9593097) (e1 (.lit (.str "U") 9593772)))) 9592299) 9590289) ur uo 52684072)
noncomputable def uk:Ss:=
 .cons (.VL [#[4,67,9535720],#[5,144,9536530]] 9535726 (.U1 .pop (lc 2 9 9537475) .nil 9537479 9537481) 9535739)<|
 s1 (.ite (.cmp .eq (lc 5 144 9554081) (.tup .nil 9555159) 9554087) uu um 74195360)
noncomputable def uj:Ss:=
 s1 (.ret (lc 3 0 9679774) 9678836)
noncomputable def lI:Ss:=
 .cons (.VL [#[2,9,9499268],#[3,0,9500079]] 9499275 (.tup (.cons (.list (e1 (.tup (.cons (.tup .nil 9501561) (e1 (.tup (e1 (.lit (.str "S") 9502237)) 9502105))) 9501436)) 9501303) (e1 (.Vf 9503451))) 9501174) 9499298)<|
 .cons (.while (.cmp .ne (lc 2 9 9518034) (.list .nil 9519112) 9518040) uk 95706112)<|
 uj
noncomputable def xd:Fn:=#[7,[0,1],[],lI]
noncomputable def qX:Ss:=
 s1 (.ret (lc 5 145 9842998) 9842060)
noncomputable def qW:Ss:=
 s1 (.VL [#[3,68,9859468],#[4,1,9860276]] 9859472 (.tup (.cons (.bin .Add (lc 3 68 9861088) (.list (e1 (lc 8 146 9862169)) 9862036) 9861098) (e1 (.bin .Add (lc 4 1 9863246) (li 1 9863920) 9863250))) 9860973) 9859499)
noncomputable def jb:Ss:=
 .cons (.ite (.cmp .eq (.bin .Add (lc 4 1 9823959) (li 1 9824633) 9823963) (.prim .len (e1 (lc 2 66 9825850)) 9825310 9825315) 9823975) qX .nil 20597168)<|
 qW
noncomputable def qV:Ss:=
 iA 10 21 9895380 (.item (.attr (lc 0 40 9896328) 13 9896334) (.item (lc 9 13 9898216) (li 0 9899022) 9898219) 9896344) 9895406<|
 iA 3 68 9913336 (.VT (lc 3 68 9914281) (.bin .Sub (.prim .len (e1 (lc 3 68 9915631)) 9915090 9915096) (.prim .len (e1 (.attr (lc 10 21 9917251) 6 9917257)) 9916710 9916722) 9915114) 9914980 9914311) 9913373<|
 s1 (.VL [#[3,68,9931292],#[5,145,9932103]] 9931299 (.tup (.cons (.bin .Add (lc 3 68 9933317) (.list (e1 (.U5 106 (lc 1 96 9934402) (.cons (.item (lc 3 68 9936422) (.neg 1 9937229 9937095) 9936426) (e1 (.attr (lc 10 21 9937772) 2 9937777))) 9934407 9934428)) 9934295) 9933357) (e1 (.bin .Add (lc 5 145 9939528) (.list (e1 (.item (lc 9 13 9940743) (li 0 9941549) 9940746)) 9940613) 9939541))) 9933244) 9931368)
noncomputable def qU:Ss:=
 s1 (.ret (.lit .none 9968149) 9967211)
noncomputable def cI:Ss:=
 s1 (.ite (.all (.cons (.cmp .lt (lc 8 146 9877560) (li 0 9878636) 9877564) (.cons (.cmp .eq (.prim .len (e1 (lc 9 13 9879990)) 9879448 9879455) (li 1 9881336) 9879460) .nil)) 9877584) qV qU 63744895)
noncomputable def ja:Ss:=
 iA 7 81 9751193 (.item (.attr (lc 1 96 9752277) 80 9752284) (.item (lc 3 68 9754567) (.neg 1 9755374 9755240) 9754571) 9752294) 9751222<|
 iA 8 146 9769149 (.ite (.cmp .ge (.item (lc 2 66 9775222) (lc 4 1 9775761) 9775226) (li 0 9776705) 9775231) (.U5 106 (lc 1 96 9770233) (.cons (.item (lc 3 68 9772253) (.neg 1 9773060 9772926) 9772257) (e1 (.item (lc 2 66 9773602) (lc 4 1 9774141) 9773606))) 9770238 9770257) (.neg 1 9777785 9777651) 9770281) 9769209<|
 iA 9 13 9787105 (.comp (lc 13 5 9788321) (.nm #[13,5,9789806]) (.seq (.attr (lc 7 81 9791155) 76 9791166)) (.cons (.all (.cons (.cmp .ge (.item (lc 2 66 9793853) (lc 4 1 9794392) 9793857) (li 0 9795336) 9793862) (.cons (.cmp .eq (.bin .Mod (.bin .RShift (.item (.attr (lc 7 81 9796285) 77 9796291) (lc 13 5 9797906) 9796299) (.item (lc 2 66 9799388) (lc 4 1 9799927) 9799392) 9796310) (li 2 9800871) 9796181) (li 1 9801546) 9796186) .nil)) 9793908) .nil) #[.function,[(".0",.local),("number",.local),("at",.free),("row",.free),("state",.free)],false,false,[]] 9788281) 9787209<|
 s1 (.ite (.all (.cons (.cmp .ge (lc 8 146 9805466) (li 0 9806677) 9805471) (.cons (.cmp .eq (lc 9 13 9807491) (.list .nil 9808703) 9807497) .nil)) 9805487) jb cI 106767471)
noncomputable def qT:Ss:=
 s1 (.ret (.lit .none 9985025) 9984087)
noncomputable def i9:Ss:=
 .cons (.VL [#[3,68,9714740],#[4,1,9715548],#[5,145,9716091]] 9714751 (.tup (.cons (.list (e1 (li 0 9717437)) 9717304) (.cons (li 0 9717977) (e1 (.list .nil 9718383)))) 9717178) 9714766)<|
 .cons (.for (.nm #[6,133,9733236]) (.range (li 200 9735125) 9734317 9734322) ja 149789511)<|
 qT
noncomputable def uf:Fn:=#[13,[0,1,2],[],i9]
noncomputable def cQ:Ss:=
 s1 (.ret (.lit (.bool false) 10093302) 10092364)
noncomputable def mF:Ss:=
 s1 (.ret (.test (.cmp .eq (.prim .sorted (e1 (lc 7 13 10130159)) 10129215 10129222) (.prim .sorted (e1 (.bin .Add (lc 8 145 10132454) (.list (e1 (li 0 10133665)) 10133532) 10132460)) 10131510 10131523) 10129245)) 10128307)
noncomputable def mE:Ss:=
 s1 (.ret (.test (.all (.cons (.cmp .le (lc 7 13 10146630) (.prim .len (e1 (lc 4 67 10148384)) 10147843 10147849) 10146643) (.cons (.cmp .eq (.comp (lc 13 56 10149868) (.nm #[13,56,10150948]) (.seq (lc 3 150 10151895)) (.cons (.all (.cons (.cmp .lt (lc 7 13 10153110) (.prim .len (e1 (lc 4 67 10154729)) 10154188 10154194) 10153122) (.cons (.cmp .eq (.VT (lc 13 56 10156078) (.bin .Add (lc 7 13 10156755) (li 1 10157831) 10156759) 10156625 10156090) (.VT (lc 4 67 10158644) (.bin .Add (lc 7 13 10159455) (li 1 10160531) 10159459) 10159325 10158656) 10156110) .nil)) 10153162) .nil) #[.function,[(".0",.local),("one",.local),("len",.globalImplicit),("rules",.free),("word",.free)],false,false,[]] 10149813) (.list .nil 10161477) 10149819) .nil)) 10146737)) 10145799)
noncomputable def cP:Ss:=
 .cons (.ite (.truth (lc 6 147 10110179)) mF .nil 20883415)<|
 mE
noncomputable def fh:Ss:=
 iA 5 89 10019995 (.comp (.U5 5 (lc 0 40 10021480) (e1 (lc 13 143 10023502)) 10021487 10021493) (.nm #[13,143,10024852]) (.seq (lc 4 67 10025932)) .nil #[.function,[(".0",.local),("sign",.local),("grammar",.free)],false,false,[]] 10021377) 10020037<|
 .cons (.VL [#[6,147,10037950],#[7,13,10039029]] 10037957 (.call 259 148 (.cons (lc 0 40 10041056) (.cons (lc 2 58 10042269) (e1 (lc 5 89 10043216)))) 10040110 10040135) 10037991)<|
 iA 8 145 10055905 (.call 651 149 (.cons (lc 0 40 10058742) (.cons (lc 1 96 10059959) (e1 (.bin .Add (lc 5 89 10061442) (.list (e1 (li 0 10062921)) 10062788) 10061448)))) 10056992 10057027) 10055955<|
 .cons (.ite (.any (.cons (.cmp .ne (lc 6 147 10074267) (.test (.cmp .isin (lc 4 67 10075750) (lc 3 150 10076831) 10075759)) 10074286) (.cons (.cmp .ne (.test (.cmp .VC (lc 8 145 10078316) (.lit .none 10080070) 10078328)) (lc 6 147 10081287) 10078205) .nil)) 10074319) cQ .nil 20847472)<|
 cP
noncomputable def pF:Fn:=#[13,[0,1,2,3,4],[],fh]
noncomputable def Bu:Ss:=
 s1 (.ret (.lit (.bool false) 10272862) 10271924)
noncomputable def IG:Ss:=
 s1 (.ret (.lit (.bool true) 10308773) 10307835)
noncomputable def IF:Ss:=
 s1 (.ret (.lit (.bool false) 10362642) 10361704)
noncomputable def IE:Ss:=
 s1 (.ret (.lit (.bool false) 10417050) 10416112)
noncomputable def ID:Ss:=
 s1 (.ite (.any (.cons (.not (.truth (.call 590 161 (e1 (lc 6 157 10400041)) 10398559 10398568)) 10398032) (.cons (.cmp .ne (.comp (lc 24 81 10401794) (.nm #[24,81,10403144]) (.seq (.attr (lc 6 157 10404361) 80 10404368)) (.cons (.cmp .ne (.prim .len (e1 (.attr (lc 24 81 10407329) 71 10407336)) 10406787 10406801) (li 1 10409620) 10406806) .nil) #[.function,[(".0",.local),("state",.local),("len",.globalImplicit)],false,false,[]] 10401715) (.list .nil 10410431) 10401721) .nil)) 10398103) IE .nil 21171220)
noncomputable def wg:Ss:=
 iA 8 150 10432981 (.call 646 162 (.cons (lc 2 28 10435546) (e1 (li 3 10436487))) 10434066 10434076) 10433004<|
 iA 9 163 10450937 (.bin .Add (.VT (.prim .sorted (e1 (lc 8 150 10452962)) 10452018 10452025) (li 12 10454039) 10453905 10452030) (.comp (.prim .tuple (e1 (.comp (.call 611 132 (.cons (lc 1 123 10457280) (e1 (.list (.cons (.lit (.str "a") 10458090) (.cons (.lit (.str "b") 10458765) (e1 (.lit (.str "c") 10459440)))) 10457967))) 10455936 10455958) (.nm #[25,128,10460791]) (.range (.call 604 127 (.cons (lc 1 123 10464030) (e1 (li 4 10464703))) 10462686 10462694) 10461872 10461891) .nil #[.function,[(".0",.local),("spot",.local),("_law_pick",.globalImplicit),("pen",.free)],false,false,[]] 10455862)) 10454987 10455059) (.nm #[24,133,10466056]) (.range (li 3 10467943) 10467137 10467140) .nil #[.function,[(".0",.local),("turn",.local),("tuple",.globalImplicit),("range",.globalImplicit),("_law_draw",.globalImplicit),("pen",.free)],false,false,[]] 10454947) 10452133) 10451061<|
 s1 (.ret (.test (.cmp .eq (.comp (lc 24 67 10469972) (.nm #[24,67,10471187]) (.seq (lc 9 163 10472268)) (.cons (.not (.truth (.call 656 164 (.cons (lc 3 40 10476185) (.cons (lc 5 96 10477402) (.cons (lc 7 58 10478883) (.cons (lc 8 150 10479828) (e1 (lc 24 67 10480772)))))) 10474033 10474073)) 10473537) .nil) #[.function,[(".0",.local),("word",.local),("_law_word_right",.globalImplicit),("canonical",.free),("grammar",.free),("table",.free),("words",.free)],false,false,[]] 10469920) (.list .nil 10482120) 10469926)) 10468988)
noncomputable def Bt:Ss:=
 .cons (.ite (.cmp .eq (.comp (lc 24 73 10379652) (.nm #[24,73,10380867]) (.seq (lc 2 28 10381948)) (.cons (.cmp .eq (.item (lc 24 73 10383162) (li 1 10383834) 10383165) (.tup .nil 10384645) 10383171) .nil) #[.function,[(".0",.local),("pair",.local)],false,false,[]] 10379554) (.list .nil 10385590) 10379560) ID .nil 31926328)<|
 wg
noncomputable def Bs:Ss:=
 .cons (.VL [#[5,96,10325249],#[6,157,10326732],#[7,58,10327945]] 10325265 (.tup (.cons (.call 354 158 (e1 (lc 3 40 10331322)) 10329170 10329179) (.cons (.call 578 159 (e1 (lc 3 40 10333482)) 10332670 10332679) (e1 (.call 233 64 (e1 (lc 3 40 10335912)) 10334832 10334841)))) 10329080) 10325328)<|
 .cons (.ite (.not (.truth (.call 375 160 (e1 (lc 5 96 10345500)) 10344150 10344161)) 10343625) IF .nil 21116812)<|
 Bt
noncomputable def Br:Ss:=
 .cons (.ite (.not (.truth (lc 4 147 10290279)) 10289743) IG .nil 21062943)<|
 Bs
noncomputable def Bq:Ss:=
 iA 1 123 10181595 (.call 597 151 (e1 (lc 0 122 10183623)) 10182410 10182418) 10181614<|
 iA 2 28 10199553 (.call 621 152 (e1 (.call 616 153 (e1 (lc 1 123 10203736)) 10202258 10202263)) 10200639 10200656) 10199584<|
 iA 3 40 10217511 (.call 186 154 (e1 (.comp (.tup (.cons (lc 24 18 10221018) (e1 (.prim .list (e1 (lc 25 27 10222504)) 10221828 10221835))) 10220898) (.tup [#[24,18,10224123],#[25,27,10224934]] 10224130) (.seq (lc 2 28 10226149)) .nil #[.function,[(".0",.local),("name",.local),("parts",.local),("list",.globalImplicit)],false,false,[]] 10220790)) 10218867 10218915) 10217575<|
 iA 4 147 10235466 (.W6 (.call 641 155 (e1 (lc 2 28 10239515)) 10237231 10237238) 10236702) 10235496<|
 .cons (.ite (.cmp .ne (.call 252 156 (e1 (lc 3 40 10255178)) 10253830 10253839) (lc 4 147 10256797) 10253849) Bu .nil 21027032)<|
 Br
noncomputable def Ni:Fn:=#[24,[0],[],Bq]
noncomputable section
noncomputable def KK:List Str:=
 [("found":Str),"at","left","mask","self","number","right","level_of","action","line","before","names","terminal_count","rules","levels","expect","start","by_left","name","offsets"] ++
 [("owners":Str),"rule","item_count","symbol","dot","item","lefts","parts","pairs","begin","OWN_TERMINALS","count","Rule","END","last_terminal","Grammar","known","lacking","users","queue"] ++
 [("grammar":Str),"missing","spread","symbol_count","symbols","firsts","nullables","nullable","is_terminal","is_grown","first_of","first_masks","follows","behind","rows","middle","one","follow_masks","table","is_empty"] ++
 [("terminal":Str),"bits","key","choices_of","predict","ll_clashes","row","word","pile","used","part","kernel","core","pair","items","moves","reductions","masks","rule_of","after"] ++
 [("states":Str),"state","waiting","is_open","dot_of","rules_of","begun","CanonicalState","first_kernel","numbers","set_items","closure_one","advanced_canonical","most","CanonicalAutomaton","claims","canonical","here","clashes","canonical_clashes"] ++
 [("NONE":Str),"transitive","wanted","added","advanced_lrzero","ordered","goto","closer","Closer","LrState","close","complete_rules","kernels_behind","number_of","expand","Automaton","built","Builder","automaton","is_consistent"] ++
 [("inadequate_states":Str),"cell","script","pen","digit","many","some","_law_draw","spot","first","kind","tail","_law_pick","turn","front","heads","_law_begins","more","_law_heads","followers"] ++
 [("_law_followers":Str),"met","signs","sign","rest","taken","later","is_led","led_by","_law_reduced","words","_law_pen","_law_needed","_law_drawn","plain_grammar","_law_has_choices","is_ll_one","machine","build_canonical","build"] ++
 [("is_lr_one":Str),"is_lr_zero","_law_words","asked","_law_word_right"]
noncomputable def m6(k:Nat):Str:=#[(List.replicate (100+k) 126).toArray]
noncomputable def C7(k:Nat):Str:=(KK[k]?).getD (m6 k)
noncomputable def Ng:List (Nat×Nat):=[(34,180),(42,191),(47,198),(50,205),(51,212),(57,219),(61,68),(63,238),(64,233),(65,245),(88,346),(91,334),(92,339),(98,361),(99,368),(101,226),(104,459),(111,473),(112,466),(120,583),(127,604),(132,611),(136,626),(138,631),(140,636),(148,259),(149,651),(151,597),(152,621),(153,616),(154,186),(155,641),(156,252),(158,354),(159,578),(160,375),(161,590),(162,646),(164,656)]
noncomputable def NA:List (Nat×Nat):=[(32,87),(35,169),(87,281),(94,323),(108,448),(109,406),(115,525),(117,567)]
noncomputable def K4:List (Nat×Nat):=[(87,84),(169,103),(281,271),(323,299),(406,389),(448,424),(525,487),(567,543)]
noncomputable def Qf:List (Nat×List (Nat×Nat)):=[(87,[]),(169,[(43,110),(48,117),(5,131),(85,138),(25,145),(78,152),(84,159),(79,166)]),(281,[(90,278)]),(323,[(106,313)]),(406,[(106,396),(119,403)]),(448,[(102,431),(103,438),(110,445)]),(525,[(106,494)]),(567,[(113,550),(114,557),(116,564)])]
noncomputable def Nw:List (Nat×V):=[(33,.int 0),(100,.int (-1)),(30,.tup [.str "$end",.str "error",.str "$undefined"])]
noncomputable def Qg(c m:Nat):Option Nat:=(Qf.lookup c).bind λl=>l.lookup m
noncomputable def tab:wt:=#[C7,λc m=>if Nat.blt m 165 then some (Qg c m) else none,λk=>K4.lookup k,λk=>Nw.lookup k,λk=>Ng.lookup k,λk=>NA.lookup k]
noncomputable def OZ:List (Nat×Fn):=[(68,Lc),(84,xk),(103,s9),(110,iK),(117,jp),(131,pJ),(138,mz),(145,s8),(152,oh),(159,pK),(166,qP),(180,qO),(186,qM),(191,FA),(198,zg),(205,zx),(212,ug),(219,sY),(226,vT),(233,Cz),(238,vZ),(245,vU),(252,xj),(259,FB),(271,jq),(278,fb),(299,fN),(313,fO),(334,uh),(339,v2),(346,sZ),(354,og),(361,CD),(368,kO),(375,xh),(389,s6),(396,s7),(403,g9),(424,ui),(431,qQ),(438,te),(445,td),(459,v1),(466,pG),(473,pI),(487,pM),(494,pO),(543,tf),(550,kQ),(557,pL),(564,qR),(578,Ik),(583,kN),(590,vX),(597,CA),(604,zv),(611,zu),(616,xg),(621,vV),(626,vW),(631,xe),(636,qN),(641,od),(646,xd),(651,uf),(656,pF),(661,Ni)]
noncomputable def ft:Nat->Option Fn:=λk=>OZ.lookup k
end
end
section
variable{Wn:Params->Heap}{N Zb m₀ n Za:Nat}{Xt:Shared->Bool}{ann:Option Value}{Zm:Drawn}{g0:Bool}{Xk:Array GenState}{loose:List Str}{w:World}{α:Type}
noncomputable def wK(st:SharedT->Thread->Option (SharedT×Thread))(ok:Thread->Bool):Nat->SharedT->Thread->Option SharedT
 |0,_,_=>none
 |n+1,s,t=>bif through t then some s else bif ok t then(st s t).bind λr=>wK st ok n r.1 r.2 else none
theorem J9{st:SharedT->Thread->Option (SharedT×Thread)}{ok:Thread->Bool}{n:Nat}{s:SharedT}{t:Thread}:wK st ok (n+1) s t=bif through t then some s else bif ok t then(st s t).bind λr=>wK st ok n r.1 r.2 else none:=rfl
theorem Hr{tb:String->Option Builtin}{p:Program}{s s':SharedT}{t:Thread}
    (h:wK (stepT (denote tb) p w) (stepOk Za ann) n s t=some s'):topRun tb p w Za ann n s.abs t=some s'.abs
 := by
  induction n generalizing s t with
  |zero=>cases h
  |succ n d=>
    rw[J9]at h;unfold topRun;cases he:through t with
    |true=>rw[he]at h;replace h:=Is h;cases h;rfl
    |false=>
      rw[he]at h;cases c:stepOk Za ann t with
      |false=>rw[c]at h;show nS h
      |true=>
        rw[c]at h;cases a:stepT (denote tb) p w s t with
        |none=>rw[a]at h;show nS h
        |some r=>obtain⟨e,b⟩:=r;rw[a]at h;rw[stepT_spec a];show d h
theorem qr{p q:Program}{Yf:Shared->α}{c:World->α}{M:Nat}
  {S0:World->OsState->SharedT}
  (f:∀w:World,(fencedOpening treeTable p w N).map (λs=>(s.heap,s.gens,s.drawn,s.toks))=some (Wn w.params,Xk,Zm,Zb))
  (size:∀w:World,((Wn w.params).isNs mainGlobals&& Xk.size== 0,(Wn w.params).objs.size,(Wn w.params).nsMap mainGlobals "__annotations__")=(true,m₀,ann))
  (a:∀(w:World)(os:OsState),(S0 w os).abs=#[Wn w.params,Xk,Zm,Zb,os])
  (le:Nat.ble M N=true)
  (run:∀(w:World)(os:OsState),(wK (stepT (denote treeTable) p w) (stepOk m₀ ann) M (S0 w os) (topStub p)).map (λt=>
    ((staticsOk (importedModules p.main.body) (Wn w.params) t.abs.heap&& namesBound p t.abs.heap&& gensDone t.abs&& laidKept (Wn w.params) t.abs.heap),
    openSeen q loose (importedModules p.main.body) Xt g0 t.abs,Yf t.abs))=some (true,openGood q loose,c w)):LeftO p q loose Xt Yf c N g0:=λw=>by
 show aq (SO.mp (f w)) ?_;clear f;ext m;obtain⟨h,gs,d,k,os⟩:=m;ext e b;show t9 (show h=Wn w.params/\gs=Xk/\d=Zm/\k=Zb from by simpa using b) ?_;clear b;ext rfl rfl rfl rfl;show bP (show _/\_/\_ from by simpa only[Prod.mk.injEq]using size w) λz1 z2 g=>?_;show aq (SO.mp (run w os)) λt ht l=>?_;show bP (show _/\_/\_ from by simpa only[Prod.mk.injEq]using l) λl1 l2 j=>?_;let r:=Hr ht;rw[a]at r;let r:=topRun_mono (N - M) _ _ _ _ r;rw[Nat.add_sub_of_le (Q7 le)]at r;let i:topFrom treeTable p w N #[Wn w.params,gs,d,k,os]=some t.abs:=by
  unfold topFrom;rw[z1,z2,g,r];change(match staticsOk (importedModules p.main.body) (Wn w.params) t.abs.heap&& namesBound p t.abs.heap&& gensDone t.abs&& laidKept (Wn w.params) t.abs.heap with|true=>_|false=>_)=_;rw[l1]
 unfold openEnds;rw[e];change(topFrom treeTable p w N _).map _=_;rw[i];show Rs some (Prod.ext l2 j)
noncomputable abbrev pw:Program:=PySem.Challenge.pw_nn0387_01
noncomputable def T0(P:Params):BT:=(List.range 11).foldl (λt i=>t.ins i ((boot_heap P).objs.toList.getD i default)) .nil
noncomputable def S0(w:World)(os:OsState):SharedT:=#[T0 w.params,11,(boot_heap w.params).life,Array.mk [],boot_drawn,boot_toks,os]
theorem GF(w:World)(os:OsState):(S0 w os).abs=#[boot_heap w.params,Array.mk [],boot_drawn,boot_toks,os]:=rfl
theorem IS(w:World):((boot_heap w.params).isNs mainGlobals&& (Array.mk []:Array GenState).size== 0,(boot_heap w.params).objs.size,(boot_heap w.params).nsMap mainGlobals "__annotations__")=(true,11,some (.ref 6)):=by kernel_rfl
theorem Jv:∀w:World,(fencedOpening treeTable pw w 10000).map (λs=>(s.heap,s.gens,s.drawn,s.toks))=some (boot_heap w.params,Array.mk [],boot_drawn,boot_toks):=
 boot_open (by kernel_rfl) (dR rfl) (λs=>by kernel_rfl)
noncomputable def OR:Stmt:=pw.main.body.getLastD default
noncomputable def qv:Program:={pw with main:={pw.main with body:=[OR]}}
noncomputable def sL:List Str:=pw.boundNames.filter λn=>!(n== ("law":Str))
noncomputable abbrev OA:OpenRow:=PySem.Challenge.rw_nn0387_01.row
noncomputable abbrev PQ:Shared->Bool:=λs=>xlAt qv [] s&& recOk (RowW.records OA.toRowW) s
theorem wJ(w:World)(os:OsState):(wK (PySem.W.Fast.tw10156331382660048174 (PySem.W.Fast.tw11892475500146522536 PySem.W.Fast.tw14364793385576792824) pw w) (PySem.W.Fast.tw6613529449190102663 11 (some (.ref 6))) 5000 (S0 w os) (topStub pw)).map (λt=>
    ((staticsOk (PySem.W.Fast.tw5923862056798008813 pw.main.body) (boot_heap w.params) t.abs.heap&& namesBound pw t.abs.heap&& gensDone t.abs&& laidKept (boot_heap w.params) t.abs.heap),
    PySem.W.Fast.tw4187177175401517315 qv sL (PySem.W.Fast.tw5923862056798008813 pw.main.body) PQ true t.abs,()))=some (true,openGood qv sL,()):=by kernel_rfl
theorem Qh:LeftO pw qv sL PQ (λ_=>()) (λ_=>()) 10000:=by show qr (M:=5000) Jv IS GF (dR rfl) λw os=>?_;let h:=wJ w os;rw[<- PySem.W.Fast.te10156331382660048174,<- PySem.W.Fast.te11892475500146522536,<- PySem.W.Fast.te14364793385576792824,<- PySem.W.Fast.te6613529449190102663,<- PySem.W.Fast.te5923862056798008813,<- PySem.W.Fast.te4187177175401517315]at h;show h
theorem BA:PySem.Challenge.rw_nn0387_01.wellSaid=true:=by
 rw[PySem.W.Fast.te9446332074065402090]
 kernel_rfl
noncomputable section
noncomputable def M8:List Nat:=[3,0,87,86,169,168,281,280,323,322,406,405,448,447,525,524,567,566,1,2,67,68,69,77,83,84,102,103,109,110,116,117,130,131,137,138,144,145,151,152,158,159,165,166,179,180,181,185,186,190,191,197,198,204,205,211,212,218,219,225,226,232,233,237,238,244,245,251,252,258,259,270,271,277,278,298,299,312,313,333,334,338,339,345,346,347,353,354,360,361,367,368,374,375,388,389,395,396,402,403,423,424,430,431,437,438,444,445,458,459,465,466,472,473,486,487,493,494,542,543,549,550,556,557,563,564,577,578,582,583,589,590,596,597,603,604,610,611,615,616,620,621,625,626,630,631,635,636,640,641,645,646,650,651,655,656,660,661]
noncomputable def LJ(h:Heap):Frag:=M8.filterMap λa=>match h.get? a with
 |some o=>if o.cls==.type "list" then none else some (a,o)
 |none=>none
noncomputable def Qk(v:V)(u:Value):Bool:=V.casesOn v false (λ_=>false) (λ_=>false) u.isStr (λ_=>false) λ_=>false
noncomputable def M9(o:Obj)(f:List Value->Bool):Bool:=Data.casesOn o.data false (λ_=>false) (λvs _=>o.cls==.type "tuple" && (o.dict== none&& (o.slots.isEmpty&& f vs.toList))) (λ_ _=>false) (λ_ _ _=>false) (λ_ _=>false) (λ_=>false) (λ_=>false) (λ_=>false) (λ_=>false) false
noncomputable def Hf(l:TV)(m:TW):Bool:=l.length== m.length&& (l.zip m).all λx=>Qk x.1 x.2
noncomputable def PE(K:Frag)(v:V)(u:Value):Bool:=V.casesOn v false (λ_=>false) (OU u) (λ_=>false) (λl=>((Om u).bind λa=>K.lookup a).any λo=>M9 o (Hf l)) λ_=>false
noncomputable def Ji(K:Frag)(ns:Addr)(n:Str)(v:Option Value):Bool:=nsIn K ns n== some v
noncomputable def Py(K:Frag)(c f:Nat):Bool:=
 makesIn K c&& ((findIn K (.ref c) "__init__" == some (some (.ref f)))&& (isFn K (.ref f)&& (plainGet K c Str.empty&& (hasDictIn K c&& ((findIn K (.ref c) "__setattr__" == some (some (.builtin "object.__setattr__")))&& (plainOver K c&& keepIn K (.ref c)))))))
noncomputable def Ff(K:Frag):Bool:=
 Ng.all (λx=>Ji K mainGlobals (C7 x.1) (some (.ref x.2))&& keepIn K (.ref x.2))&&
 (NA.all (λx=>Ji K mainGlobals (C7 x.1) (some (.ref x.2))&& (K4.lookup x.2).isSome)&&
 (Nw.all (λx=>(nsIn K mainGlobals (C7 x.1)).any λo=>o.any (PE K x.2))&&
 ((["len","sorted","abs"].all λn=>Ji K mainGlobals (Str.ofString n) none&& Ji K builtinsNs (Str.ofString n) (some (.builtin n)))&&
 ((["list","tuple","dict","int","range","reversed","enumerate"].all λn=>Ji K mainGlobals (Str.ofString n) none&& Ji K builtinsNs (Str.ofString n) (some (.type n)))&&
 (Ji K mainGlobals "law" (some (.ref 661))&& ((K.lookup sysModules).isSome&& ((K.lookup cStatics).isSome&&
 (K4.all (λx=>(List.range 165).all (λm=>findIn K (.ref x.1) (C7 m)== some ((Qg x.1 m).map .ref))&& Py K x.1 x.2)&&
 Qf.all (λx=>x.2.all λy=>isFn K (.ref y.2)&& keepIn K (.ref y.2))))))))))
noncomputable def Iu(K:Frag):List (Option (List Stmt)):=OZ.map λx=>xa K tab x.2 x.1
noncomputable def r5:List (Option (List Stmt)):=OZ.map λx=>some (Db tab x.2.body)
end
theorem Hp(w:World)(os:OsState):(wK (PySem.W.Fast.tw10156331382660048174 (PySem.W.Fast.tw11892475500146522536 PySem.W.Fast.tw14364793385576792824) pw w) (PySem.W.Fast.tw6613529449190102663 11 (some (.ref 6))) 5000 (S0 w os) (topStub pw)).map (λt=>Ff (LJ t.abs.heap))=some true:=by kernel_rfl
theorem Hq(w:World)(os:OsState):(wK (PySem.W.Fast.tw10156331382660048174 (PySem.W.Fast.tw11892475500146522536 PySem.W.Fast.tw14364793385576792824) pw w) (PySem.W.Fast.tw6613529449190102663 11 (some (.ref 6))) 5000 (S0 w os) (topStub pw)).map (λt=>Iu (LJ t.abs.heap))=some r5:=by kernel_rfl
variable{K:Frag}{h h':Heap}{o:Obj}{s:Shared}{u:Value}{v:V}{β:Type}
open PySem.Sem (wp)
theorem eR[BEq α][LawfulBEq α]{a:α}{b:β}{l:List (α×β)}(h:l.lookup a=some b):(a,b)∈l:=by
 induction l with
 |nil=>(cases h)
 |cons x l c=>
  rw[RZ]at h;cases q:a== x.1 with
  |true=>rw[q]at h;rw[RP.mp q,<- Is h];show .head _
  |false=>rw[q]at h;show .tail _ (c h)
theorem HY:M8.all (λa=>decide (a<680))=true:=by decide +kernel
theorem yZ{a:Addr}(e:(LJ h).lookup a=some o):a<680/\h.get? a=some o/\o.cls≠.type "list":=by
 let:=eR e;show aq (List.mem_filterMap.mp this) λb c e=>?_;cases ho:h.get? b with
 |none=>rw[ho]at e;show nS e
 |some o'=>
  rw[ho]at e;cases n:o'.cls== Value.type "list" with
  |true=>replace e:(if(o'.cls== Value.type "list")=true then none else some (b,o'))=_:=e;rw[n]at e;show nS e
  |false=>
   replace e:(if(o'.cls== Value.type "list")=true then none else some (b,o'))=_:=e;rw[n]at e;replace e:=Is e;cases e;show#[RH (S5.mp HY _ c),ho,λq=>by rw[q]at n;cases n]
noncomputable def Qo:Obj:={cls:=.none,data:=.freed}
noncomputable def hK(K:Frag):Heap:={objs:=((List.range 680).map λa=>(K.lookup a).getD Qo).toArray}
set_option tactic.hygienic true in
theorem Fa{b:Addr}:(hK K).objs[b]?=if b<680 then some ((K.lookup b).getD Qo) else none:=by
 unfold hK;rw[List.getElem?_toArray,RF];split
 .rename_i h;rw[List.getElem?_range h];rfl
 rename_i h;rw[SG (by rw[RN];show R6 h)];rfl
theorem Fb{b:Addr}(e:(hK K).get? b=some o):K.lookup b=some o:=by
 show ao (Heap.get?_some_iff.mp e) λe1 e2=>?_;clear e;rw[Fa]at e1;by_cases h:b<680
 .rw[RO h]at e1;cases q:K.lookup b with
  |none=>rw[q]at e1;rw[<- Is e1]at e2;show absurd e2 (Bool.noConfusion:¬true=false)
  |some o'=>rw[q]at e1;show e1
 rw[RX h]at e1;show nS e1
theorem Nd(X:K.In h)(b:∀a o,K.lookup a=some o->a<680):K.In (hK K):=λa o e=>
 Heap.get?_some_iff.mpr #[by rw[Fa,RO (b a o e),e];rfl,(Heap.get?_some_iff.mp (X a o e)).2]
theorem H4{f:List Value->Bool}(e:M9 o f=true):∃vs n,o=seqObj "tuple" vs n/\f vs.toList=true:=by
 obtain⟨c,d,a,sl⟩:=o;induction a with
 |seq vs n=>
  show ao (av e) λe1 e=>ao (av e) λe2 e=>ao (av e) λe3 e=>#[vs,n,?_,e];cases RP.mp e1;clear e e1;clear e;cases RP.mp e2;clear e2;cases Array.isEmpty_iff.mp e3;rfl
 |_=>cases e
theorem K1(e:Qk v u=true):VR h v u:=by
 cases v with
 |str s=>show(w4 e).elim λt e=>e▸.str _ _
 |_=>cases e
theorem Li(X:K.In h)(e:PE K v u=true):VR h v u:=by
 cases v with
 |int i=>show(EY e).elim λt e=>e▸.int _ _
 |tup l=>show aq (Option.any_eq_true _ _ |>.mp e) λo q e=>aq (So.mp q) λa e1 q=>ck (H4 e) λvs n e2 e3=>Ae e1▸.tup #[n,X _ _ (q.trans (Rs some e2))] (Aj K1 e3)
 |_=>cases e
theorem KJ:∀j k,C7 j=C7 k->j=k:=by
 let len:∀(k:Nat)(s:Str),KK[k]?=some s->s.cps.size<100:=by
  let:KK.all (λs:Str=>decide (s.cps.size<100))=true:=by decide +kernel
  show λk s h=>RH (S5.mp this s (Q4 h))
 let nd:KK.Nodup:=cZ (by decide +kernel);let c:∀k,(m6 k).cps.size=100+k:=λk=>by unfold m6;simp
 ext j k h;unfold C7 at h;cases b:KK[j]? with
 |none=>cases a:KK[k]? with
  |none=>
   rw[b,a]at h;let:=Rs (λs:Str=>s.cps.size) h;simp only[Option.getD_none,c]at this;show Uk this
  |some s=>
   rw[b,a]at h;let:=Rs (λs:Str=>s.cps.size) h;simp only[Option.getD_none,Option.getD_some,c]at this;let:=len k s a;show absurd (Nat.le.intro ‹100+j=s.cps.size›) (UJ.mpr this)
 |some r=>cases a:KK[k]? with
  |none=>
   rw[b,a]at h;let:=Rs (λs:Str=>s.cps.size) h;simp only[Option.getD_none,Option.getD_some,c]at this;let:=len j r b;show absurd (Nat.le.intro ‹r.cps.size=100+k›.symm) (UJ.mpr this)
  |some s=>
   rw[b,a]at h;show az (RC.mp b) λlj e=>?_;show az (RC.mp a) λlk d=>?_;show(List.getElem_inj nd).mp (by rw[e,d];show h)
theorem sJ{a:Addr}{n:Str}{v:Option Value}(h:Ji K a n v=true):nsIn K a n=some v:=RP.mp h
theorem w9{l:TP}{p:Nat×Nat->Bool}(h:l.all p=true){a:Nat}(e:l.lookup n=some a):p (n,a)=true:=S5.mp h _ (eR e)
set_option tactic.hygienic true in
theorem K6(h:Ff K=true){H0:Heap}(X:K.In H0)(WK:Nat->Option Obj):o9 K #[H0,id,C7,WK] tab:=by
 show ao (av h) λh1 h=>?_;show ao (av h) λt h=>?_;show ao (av h) λh3 h=>?_;show ao (av h) λs h=>?_;show ao (av h) λp h=>?_;show ao (av h) λh6 h=>?_;show ao (av h) λk h=>?_;show ao (av h) λh8 h=>ao (av h) λi g=>#[X,λn a e=>?_,λn c e=>?_,λn v e=>?_,KJ,λ_=>rfl,λn hn=>?_,λn hn=>?_,?_,λc f m r e1 e2=>?_,λc m f e=>?_,λc f e=>?_,λ_=>rfl]
 .show ao (av (w9 h1 e)) λa1 a2=>#[sJ a1,a2]
 .show ao (av (w9 t e)) λa1 a2=>#[sJ a1,a2]
 .let:=S5.mp h3 _ (eR e);replace this:(nsIn K mainGlobals (C7 n)).any (λo=>o.any (PE K v))=true:=this;cases q:nsIn K mainGlobals (C7 n)with
  |none=>rw[q]at this;show nF this
  |some o=>
   rw[q]at this;cases o with
   |none=>show nF this
   |some u=>show#[u,q,Li X this]
 .show ao (av (S5.mp s n hn)) λa1 a2=>#[sJ a1,sJ a2]
 .show ao (av (S5.mp p n hn)) λa1 a2=>#[sJ a1,sJ a2]
 .show az (Sh.mp k) λo ho=>?_;show#[o,X _ _ ho]
 .show ao (av (w9 i e1)) λa1 _=>?_;unfold tab at e2;dsimp only at e2;split at e2
  .rename_i j
   replace e2:=Is e2;cases e2;show RP.mp (S5.mp a1 m (SY.mpr (Q7 j)))
  show nS e2
 .unfold tab at e;dsimp only at e;split at e
  .let e:=Is e;show aq (So.mp e) λl d b=>?_;let:=S5.mp g _ (eR d);show av (w9 this b)
  show nS e
 show ao (av (w9 i e)) λ_ a1=>ao (av a1) λb1 a1=>ao (av a1) λb2 a1=>ao (av a1) λb3 a1=>ao (av a1) λb4 a1=>ao (av a1) λz a1=>ao (av a1) λy a1=>ao (av a1) λx w=>#[b1,RP.mp b2,b3,b4,z,RP.mp y,x,w]
theorem KY(h:Ff K=true):nsIn K mainGlobals "law"=some (some (.ref 661))/\(K.lookup cStatics).isSome=true:=by show ao (av h) λh1 h=>ao (av h) λh2 h=>ao (av h) λh3 h=>ao (av h) λh4 h=>ao (av h) λh5 h=>ao (av h) λa h=>ao (av h) λh7 h=>#[sJ a,(av h).1]
theorem Bc(h:Iu K=r5):∀f F,ft f=some F->xa K tab F f=some (Db tab F.body):=λf F e=>by
 let:=eR e;show List.map_inj_left.mp h (f,F) this
def YP(h:Heap):Prop:=∃K,K.In h/\Ff K=true/\Iu K=r5/\∀a o,K.lookup a=some o->a<680/\o.cls≠.type "list"
noncomputable def Yf(s:Shared):Bool×List (Option (List Stmt)):=(Ff (LJ s.heap),Iu (LJ s.heap))
theorem YP.of(h:Yf s=(true,r5)):YP s.heap:=
 #[LJ s.heap,λ_ _ e=>(yZ e).2.1,(SZ h).1,(SZ h).2,λ_ _ e=>#[(yZ e).1,(yZ e).2.2]]
theorem YP.keeps(y:YP h)(k:∀b o,h.get? b=some o->h'.get? b=some o):YP h':=by show aq y λK a b=>#[K,a.keeps k,b]
theorem M2:LeftO pw qv sL PQ Yf (λ_=>(true,r5)) 10000 true:=by show qr (M:=5000) Jv IS GF (dR rfl) λw os=>?_;let h:=wJ w os;let a:=Hp w os;let h3:=Hq w os;rw[<- PySem.W.Fast.te10156331382660048174,<- PySem.W.Fast.te11892475500146522536,<- PySem.W.Fast.te14364793385576792824,<- PySem.W.Fast.te6613529449190102663]at h a h3;rw[<- PySem.W.Fast.te5923862056798008813,<- PySem.W.Fast.te4187177175401517315]at h;show aq (SO.mp h) λt ht e=>?_;rw[ht]at a h3 ⊢;let e2:=Is a;let e3:=Is h3;show ao (SZ e) λa1 a2=>?_;show ao (SZ a2) λa2 _=>?_;show Rs some (Prod.ext a1 (Prod.ext a2 (Prod.ext e2 e3)))
noncomputable def M7:DefRec:=((recsOf qv).head?).get (by rfl)
theorem Nb(call:WalkO qv sL (XL qv []) (λ_ h=>YP h) OA.toRowW M7 [] λf vs=>PySem.call f vs):PySem.Challenge.rw_nn0387_01.Holds:=
 holds_law BA λa0r=>holds_open M2 (λ_ _ h=>YP.of h) (λ_ _ _ y k=>y.keeps k)
  (λs e=>xl_of s (R8.mp e).1) XL.keeps (by rfl) (by rfl) (by rfl) (λs e=>recFacts_of (R8.mp e).2) (by rfl) a0r (by decide +kernel) #[rfl,rfl,rfl,rfl,rfl,by decide +kernel] (by w_witness2) call
variable{mg:Str->Option Value}
open PySem.Sem (wp)
theorem H6{P:Params}{xs:List WData}{vs:TW}(hi:WShape.hasItems [] xs .int=true)(W:WellAll P h vs xs):∃l:List Int,aY h (l.map .int) vs/\l.length=xs.length:=by
 induction xs generalizing vs with
 |nil=>cases W;show#[[],.nil,rfl]
 |cons d xs b=>
  show ao (av hi) λh1 c=>?_;show az (hasW_int h1) ?_;clear h1 hi;ext i rfl;show fH (wellAll_cons_inv W) ?_;ext v a rfl W1 f;show aq (b c f) λl r e=>?_;cases W1;show#[i::l,.cons (.int _ _) r,by rw[Rq,Rq,e]]
theorem KG(T:h.Ns mainGlobals mg)(X:K.In h){n:Str}{v:Value}(e:nsIn K mainGlobals n=some (some v)):mg n=some v:=by
 show AU T λo es ep ho hd _ f=>?_;cases a:K.lookup mainGlobals with
 |none=>unfold nsIn at e;rw[a]at e;show nS e
 |some o'=>
  let:=X _ _ a;rw[ho]at this;replace this:=Is this;subst this;unfold nsIn at e;rw[a]at e;clear a ho;obtain⟨c,d,i,sl⟩:=o;dsimp only at hd;subst hd;rw[<- f n];unfold nsFind findBy;rw[<- Array.find?_toList];conv at e=>lhs;whnf
  cases he:es.toList.find? λx=>x.key.isStr n with
  |some g=>rw[he]at e;replace e:=Is e;cases e;rfl
  |none=>
   rw[he]at e;cases b:es.toList.any λx=>x.refKey with
   |true=>rw[b]at e;show nS e
   |false=>rw[b]at e;show nS (Is e)
theorem HD(xs:List WData):OA.claim.post [.list xs] (.bool true) [.list xs]=true:=by
 change(WShape.has [] (.bool true) .bool&& WTm.holds [] (.eq .res (.lit (.bool true))) {args:=[.list xs],res:=some (.bool true),after:=[.list xs]})=true;let h:same (.bool true) (.bool true)=true:=by simp only[same];rfl
 change(true&& WTm.holds [] (.lit (.bool (same (.bool true) (.bool true)))) {args:=[.list xs],res:=some (.bool true),after:=[.list xs]})=true;rw[h];rfl
def JD:Prop:=∀(la:Nat)(l:TZ),l.length<=63->
 PX tab ft (Fr (NO tab ft 19)) 661 [.ref la] (λb=>if b=la then some (.Wb (l.map .int)) else none) (λv UX=>v=.bool true/\UX la=some (.Wb (l.map .int)))
set_option tactic.hygienic true in
theorem Ql(H:JD):PySem.Challenge.rw_nn0387_01.Holds:=by
 show Nb λw z Z mg mb F Y a o pm cd doc dV kV ho hd Q P s t args vals as j y XE p V=>Ci Y λK X g B lo=>?_;clear Y;show ao (pre_splitW j) λp1 p2=>fH (hasAllW_cons p1) ?_;clear p1 y j ho;ext d r rfl N M;cases hasAllW_nil M;show aq (hasW_list N) ?_;ext xs rfl L;let hlen:xs.length<=63:=by
  by_cases h:xs.length<=63
  .show h
  let e:decide (63<(xs.length:Int))=true:=SW (by lia);let:(WTm.holds [] (.and (.not (.lit (.bool (decide (63<(xs.length:Int)))))) (.lit (.bool true))) {args:=[.list xs]})=true:=p2;rw[e]at this;show absurd this (Bool.noConfusion:¬false=true)
 show fH (wellAll_cons_inv p) ?_;ext v I rfl W1 W2;cases W2;cases W1 with
 |list f W=>
 rename_i la vs
 show aq (H6 L W) λl rl el=>ao (KY g) λa0K k=>?_;let σ:a=661:=by
  let:=KG F.T.g X a0K;let c:=s;let h3:M7.name="law":=by rfl
  rw[h3,this]at c;replace c:=Is c;cases c;rfl
 subst σ;let C:=Nd X λa o e=>(lo a o e).1;let u:(hK K).get? la=none:=by
  cases q:(hK K).get? la with
  |none=>rfl
  |some o'=>
   let h1:=Fb q;let c:=X _ _ h1;rw[f]at c;replace c:=Is c;cases c;show((lo _ _ h1).2 rfl).elim
 let lim:(hK K).NoLimit:=by
  show aq F.T.nolimit ?_;ext O D;show uI D λo' es ep h1 r=>?_;clear D;ext c;show az (Sh.mp k) λo'' i=>?_;let h3:=X _ _ i;rw[h1]at h3;replace h3:=Is h3;cases h3;show#[O,#[o',es,ep,C _ _ i,r],c]
 show let WK:Nat->Option Obj:=λb=>if b=la then some {cls:=.type "list",data:=.seq vs.toArray} else none;?_;show let G:Gc:=#[hK K,id,C7,WK];?_;let A:=K6 g C WK;let ok:=qw (n:=19) A (Bc B) lim (CR (F5 (prog:=pw) (w:=w) A (Bc B) lim 19));let S:ba w G (λb=>if b=la then some (.Wb (l.map .int)) else none) Z.heap:=#[λb o' e=>X _ _ (Fb e),λb o' e=>by
  split at e
  .rename_i q;subst q;replace e:=Is e;cases e
   show#[u,vs.toArray,0,f,rl,RO rfl]
  show nS e]
 let R:lx (2*20) callerA:=#[rfl,by decide +kernel,by decide +kernel];show RQ (ok.call R S (.cons (.ref la) .nil) (H la l (by rw[el];show hlen))) (λv s' h=>?_) λ_ _ e=>e.elim;show fH h ?_;clear h;ext x τ E;show ao E ?_;clear E;ext rfl ht;ext J m;cases J;show#[.inl #[.bool true,.bool true,[],rfl,λ_=>rfl,.bool true,HD xs,λ_=>#[Un,λ_ h=>n0 h]],.of_keep λb o' e=>?_,m.os,.of_eq (m.gens.trans t)];by_cases q:b=la
 .subst q;show fH ((m.sim.obj _ _ ht).2) λws n h1 _ c=>?_;let h3:WK b=some {cls:=.type "list",data:=.seq vs.toArray}:=RO rfl;rw[f]at e;replace e:=Is e;cases e;rw[h1,<- c];show h3
 show m.st.keep b o' e (RX q) λx=>x
variable{σ r rs st u w:TN}{X Y Z a i l s t:Nat}{x:Nat×List Nat}
structure Gm where
 tc:Nat
 nn:Nat
 rules:List (Nat×List Nat)
section
variable(g:Gm)
class inductive Wf:Nat->Prop
 |mk(l:Nat)(r:TN):(l,r)∈g.rules->(∀s∈r,Wf s)->Wf l
def bM(w:TN):Prop:=∀s∈w,Wf g s
class inductive VG:Nat->Nat->Prop
 |self(t:Nat):t<g.tc->VG t t
 |rule(l:Nat)(a:TN)(s:Nat)(b:TN)(t:Nat):(l,a++s::b)∈g.rules->bM g a->VG s t->VG l t
def bx(w:TN)(t:Nat):Prop:=∃a s b,w=a++s::b/\bM g a/\VG g s t
class inductive VW:Nat->Nat->Prop
 |inner(l:Nat)(a:TN)(X:Nat)(b:TN)(t:Nat):(l,a++X::b)∈g.rules->bx g b t->VW X t
 |last(l:Nat)(a:TN)(X:Nat)(b:TN)(t:Nat):(l,a++X::b)∈g.rules->bM g b->VW l t->VW X t
def jy(i t:Nat):Prop:=∃(l:Nat)(r:TN),g.rules[i]?=some (l,r)/\(bx g r t\/bM g r/\VW g l t)
def mZ:Prop:=∀(i j l:Nat)(r r':TN)(t:Nat),g.rules[i]?=some (l,r)->g.rules[j]?=some (l,r')->jy g i t->jy g j t->i=j
structure WF:Prop where
 zero:∃S,g.rules[0]?=some (g.tc,[S,0])/\g.tc<S/\S<=g.tc+g.nn
 pos:3<=g.tc
 left:∀(i l:Nat)(r:TN),g.rules[i+1]?=some (l,r)->g.tc<l/\l<=g.tc+g.nn
 right:∀(i l:Nat)(r:TN)(s:Nat),g.rules[i+1]?=some (l,r)->s∈r->(3<=s/\s<g.tc)\/(g.tc<s/\s<=g.tc+g.nn)
 has:∀X,g.tc<X->X<=g.tc+g.nn->∃(i:Nat)(a:Nat)(w:TN),g.rules[i]?=some (X,a::w)/\∀s∈a::w,s<g.tc
end
section
variable{g:Gm}
theorem WF.Vp(W:WF g)(h:(l,r)∈g.rules):g.tc<=l/\l<=g.tc+g.nn:=by
 show az (Ue.mp h) λi a=>?_;show az a λhi e=>?_;clear a;let e:=(Rg hi).trans (Rs some e);clear h;induction i with
 |zero=>show aq W.zero λS c _=>?_;rw[c]at e;show yS e ?_;clear e;ext b;clear e hi;cases b;show#[Rm _,Ri ..]
 |succ i=>show#[Rf (W.left i l r e).1,(W.left i l r e).2]
theorem WF.Vh(W:WF g)(h:(l,r)∈g.rules)(a:s∈r):s<g.tc\/(g.tc<s/\s<=g.tc+g.nn):=by
 show az (Ue.mp h) λi c=>?_;show az c λhi e=>?_;clear c;let e:=(Rg hi).trans (Rs some e);clear h;induction i with
 |zero=>
  show bS W.zero λS b h1 f=>?_;rw[b]at e;clear b;show yS e ?_;clear e;ext d;clear e hi;cases d;rcases RB.mp a with rfl|a
  .show .inr #[h1,f]
  rcases RB.mp a with rfl|a
  .show .inl (Rc (dR rfl) W.pos)
  show n0 a
 |succ i=>show(W.right i l r s e a).imp (·.2) id
theorem aF(h:g.rules[i]?=some x):x∈g.rules:=Q4 h
theorem eS(h:x∈g.rules):∃i:Nat,g.rules[i]?=some x:=RL.mp h
theorem Wf.ge(W:WF g)(h:Wf g s):g.tc<=s:=by induction h with|mk _ _ h _=>show(W.Vp h).1
theorem bM.nil:bM g []:=λ_ h=>n0 h
theorem bM.cons{s:Nat}{w:TN}(h:Wf g s)(k:bM g w):bM g (s::w):=λx hx=>by
 rcases RB.mp hx with rfl|hx
 .show h
 show k x hx
theorem bM.app(h:bM g u)(k:bM g w):bM g (u++w):=λx hx=>(Ra.mp hx).elim (h x) (k x)
theorem bM.tl(h:bM g (s::w)):Wf g s/\bM g w:=#[h s (.head _),λx hx=>h x (.tail _ hx)]
theorem bM.parts(h:bM g (u++w)):bM g u/\bM g w:=#[λx hx=>h x (RE _ hx),λx hx=>h x (Rk _ hx)]
theorem VG.term(W:WF g)(h:VG g s t)(a:s<g.tc):t=s:=by
 induction h with
 |self _ _=>rfl
 |rule _ _ _ _ _ h _ _=>show absurd a (Sn.mpr (W.Vp h).1)
theorem VG.lt(h:VG g s t):t<g.tc:=by induction h with|self _ h=>show h|rule _ _ _ _ _ _ _ _ a=>show a
theorem bx.lt(h:bx g w t):t<g.tc:=by show kD h λ_ _ _ _ _ f=>?_;show f.lt
theorem bx.head(h:VG g s t):bx g (s::w) t:=#[[],s,w,rfl,.nil,h]
theorem bx.after(h:bM g u)(k:bx g w t):bx g (u++w) t:=
 by show kD k λa s b e n f=>#[u++a,s,b,by rw[e,Rz],h.app n,f]
theorem bx.left(k:bx g u t):bx g (u++w) t:=
 by show kD k λa s b e n f=>#[a,s,b++w,by rw[e,Rz];rfl,n,f]
theorem bx.cons{s t:Nat}{w:TN}(h:bx g (s::w) t):VG g s t\/(Wf g s/\bx g w t):=by
 show kD h λa x b e n f=>?_;clear h;cases a with
 |nil=>cases e;show .inl f
 |cons y a=>cases e;show .inr #[n.tl.1,a,x,b,rfl,n.tl.2,f]
theorem bx.split(h:bx g (u++w) t):bx g u t\/(bM g u/\bx g w t):=by
 induction u with
 |nil=>show .inr #[.nil,h]
 |cons s u b=>
  rcases bx.cons h with h|a
  .show .inl (.head h)
  show ao a λn h=>?_;rcases b h with h|⟨m,h⟩
  .show .inl (.after (.cons n .nil) h)
  show .inr #[.cons n m,h]
theorem bx.none(h:bx g [] t):False:=by show uI h λa s b e _=>?_;cases a<;>cases e
theorem bx.rule(m:(l,r)∈g.rules)(h:bx g r t):VG g l t:=
 by show kD h λa s b e n f=>?_;show .rule l a s b t (e▸m) n f
theorem Wf.rule(m:(l,r)∈g.rules)(h:bM g r):Wf g l:=.mk l r m h
def qh(g:Gm)(X Y:Nat):Prop:=∃a b,(X,a++Y::b)∈g.rules/\bM g a/\g.tc<=Y
class inductive Reach (g:Gm):Nat->Nat->Prop
 |one{X Y:Nat}:qh g X Y->Reach g X Y
 |step{X Y Z:Nat}:qh g X Y->Reach g Y Z->Reach g X Z
theorem Reach.snoc(h:Reach g X Y)(k:qh g Y Z):Reach g X Z:=by
 induction h with
 |one e=>show .step e (.one k)
 |step e _ a=>show .step e (a k)
theorem qh.fst(h:qh g X Y)(f:VG g Y t):VG g X t:=by show fH h λa b m n _=>?_;show .rule X a Y b t m n f
theorem Reach.fst(h:Reach g X Y)(f:VG g Y t):VG g X t:=by
 induction h with
 |one e=>show e.fst f
 |step e _ a=>show e.fst (a f)
theorem qh.name(W:WF g)(h:qh g X Y):g.tc<Y/\Y<=g.tc+g.nn:=by
 show fH h λa b m _ k=>?_;rcases W.Vh m (Rk _ (.head _))with h|h
 .show absurd h (Sn.mpr k)
 show h
theorem Reach.name(W:WF g)(h:Reach g X Y):g.tc<Y/\Y<=g.tc+g.nn:=by
 induction h with
 |one e=>show e.name W
 |step _ _ a=>show a
theorem WF.sign(W:WF g)(h:g.tc<X/\X<=g.tc+g.nn):∃a,VG g X a:=by show uI (W.has X h.1 h.2) λi a w e k=>#[a,.rule X [] a w a (aF e) .nil (.self a (k a (.head _)))]
variable(W:WF g)(H:mZ g)
include W H
theorem pA(h:Reach g X X):False:=by
 show uI (W.has X (h.name W).1 (h.name W).2) λi a w e k=>?_;let c:VG g a a:=.self a (k a (.head _));let d:VG g X a:=.rule X [] a w a (aF e) .nil c;show aq (show ∃Y,qh g X Y/\VG g Y a from by
  cases h with
  |one e=>show#[X,e,d]
  |step e r=>show#[_,e,r.fst d]) λY o f=>?_
 show fH o λu v m n l=>?_;show az (eS m) λj b=>?_;let:=H i j X _ _ a e b #[_,_,e,.inl (.head c)] #[_,_,b,.inl #[u,Y,v,rfl,n,f]];subst this;rw[e]at b;let h1:=(SZ (Is b)).2;show absurd (k Y (h1▸Rk _ (.head _))) (Sn.mpr l)
theorem KH(f:g.tc<X/\X<=g.tc+g.nn)(h:Wf g X)(k:∀t,VG g X t->VW g X t):False:=by
 show uI (W.has X f.1 f.2) λi a w e c=>?_;let d:VG g a a:=.self a (c a (.head _));let o:VG g X a:=.rule X [] a w a (aF e) .nil d;cases h with
 |mk _ r m n=>
  show az (eS m) λj b=>?_;let:=H i j X _ _ a e b #[_,_,e,.inl (.head d)] #[_,_,b,.inr #[n,k a o]];subst this;rw[e]at b;let h1:=(SZ (Is b)).2;let l:=n a (h1▸.head _);show absurd (c a (.head _)) (Sn.mpr (l.ge W))
omit W H
def Ok(g:Gm)(st:TN):Prop:=∀a X b t,st=a++X::b->g.tc<=X->bx g b t->VW g X t
def Vs(g:Gm)(st:TN):Prop:=∀s∈st,s<=g.tc+g.nn
theorem Ok.tl(h:Ok g (s::st)):Ok g st:=λa X b t e k f=>h (s::a) X b t (by rw[e];rfl) k f
theorem Ok.top(h:Ok g (X::st))(k:g.tc<=X)(f:bx g st t):VW g X t:=h [] X st t rfl k f
theorem Ok.exp(W:WF g)(h:Ok g (X::st))(m:(X,r)∈g.rules):Ok g (r++st):=λa Y b t e k f=>by
 rcases List.append_eq_append_iff.mp e with d|d
 .show aq d λc e1 e2=>?_;show h (X::c) Y b t (by rw[e2];rfl) k f
 show aq d λc e1 e2=>?_;clear d;clear e;cases c with
 |nil=>show h [X] Y b t (by rw[show st=Y::b from e2.symm];rfl) k f
 |cons y c=>
  cases e2;rw[e1]at m;rcases f.split with f|d
  .show .inner X a Y c t m f
  show ao d λn f=>?_;clear d;show .last X a Y c t m n (h.top (W.Vp m).1 f)
theorem Vs.exp(W:WF g)(h:Vs g (X::st))(m:(X,r)∈g.rules):Vs g (r++st):=λs a=>by
 rcases Ra.mp a with a|a
 .rcases W.Vh m a with h|h
  .show Gt (Rf h) (Ri ..)
  show h.2
 show h s (.tail _ a)
def PV(g:Gm)(st:TN)(X:Nat):Prop:=∃a b,st=a++X::b/\bM g a/\g.tc<=X
def GV(g:Gm)(st σ:TN):Prop:=∀u∈σ,∀p,PV g st p->p≠u/\¬Reach g p u
theorem GV.nil:GV g st []:=λ_ h=>n0 h
theorem PV.top(h:g.tc<=X):PV g (X::st) X:=#[[],st,rfl,.nil,h]
theorem GV.exp(W:WF g)(H:mZ g)(o:Ok g (X::st))(v:GV g (X::st) σ)(m:(X,r)∈g.rules):X∉σ/\GV g (r++st) (X::σ):=by
 let h:=(W.Vp m).1;show#[λhx=>(v X hx X (.top h)).1 rfl,λu hu p d=>?_];show fH d λa b e n k=>?_;let old:∀c,st=c++p::b->bM g r->bM g c->p≠u/\¬Reach g p u:=λc e2 w x=>by
  let s:Wf g X:=.rule m w;rcases RB.mp hu with rfl|hu
  .let sub:(∀t,VG g u t->VG g p t)->False:=λhf=>by
    let fl:∀t,VG g u t->VW g u t:=λt f=>o.top h (e2▸.after x (.head (hf t f)));clear hf hu v o;rcases Nat.lt_or_eq_of_le h with z|heq
    .show KH W H #[z,(W.Vp m).2] s fl
    let:=w;show bS W.zero λS e0 h1 A=>?_;clear fl h m;induction s with
    |mk _ r' m' n'=>
     show az (eS m') λj i=>?_;induction j with
     |zero=>rw[e0]at i;clear m' heq;replace i:=Is i;cases i;show absurd (Wf.ge W (n' 0 (.tail _ (.head _)))) (UJ.mpr (Rc (dR rfl) W.pos))
     |succ j=>show absurd (W.left j _ _ i).1 (by rw[heq];show Si _)
   show#[λq=>sub λt f=>q▸f,λq=>sub λt f=>q.fst f]
  show v u hu p #[X::c,b,by rw[e2];rfl,.cons s x,k]
 rcases List.append_eq_append_iff.mp e with d|d
 .show aq d λc e1 e2=>?_;rw[e1]at n;show old c e2 n.parts.1 n.parts.2
 show aq d λc e1 e2=>?_;clear d;clear e o;cases c with
 |nil=>
  rw[RD]at e1;show old [] e2.symm (e1▸n) .nil
 |cons y c=>
  clear old;cases e2;let l:qh g X p:=#[a,c,e1▸m,n,k];rcases RB.mp hu with rfl|hu
  .show#[λq=>pA W H (.one (q▸l)),λq=>pA W H (.step l q)]
  let:=v u hu X (.top h);show#[λq=>this.2 (.one (q▸l)),λq=>this.2 (.step l q)]
class inductive Vq (g:Gm):List Nat->List Nat->List Nat->Prop
 |nil:Vq g [] [] []
 |tm{t:Nat}{st w rs:TN}:t<g.tc->Vq g st w rs->Vq g (t::st) (t::w) rs
 |nt{i X:Nat}{r st w rs:TN}:g.rules[i]?=some (X,r)->Vq g (r++st) w rs->Vq g (X::st) w (i::rs)
theorem Vq.fst(h:Vq g st (t::w) rs):bx g st t:=by
 generalize e:t::w=w' at h;induction h with
 |nil=>(show nC e)
 |tm h _ _=>show yC e ?_;clear e;ext b zd;cases b;cases zd;show .head (.self t h)
 |nt hr _ c=>
  rcases (c e).split with f|a
  .show .head (f.rule (aF hr))
  show ao a λn f=>?_;show .after (.cons (.rule (aF hr) n) .nil) f
theorem Vq.pred(W:WF g)(o:Ok g (X::st))(hr:g.rules[i]?=some (X,r))(h:Vq g (r++st) (t::w) rs):jy g i t:=by
 rcases h.fst.split with f|a
 .show#[X,r,hr,.inl f]
 show ao a λn f=>#[X,r,hr,.inr #[n,o.top (W.Vp (aF hr)).1 f]]
theorem gY{l:TN}(hn:l.Nodup)(h:∀x∈l,a<=x/\x<=a+n):l.length<=n+1:=by let:=hn.length_le_of_subset (l₂:=List.range' a (n+1)) λx hx=>List.mem_range'_1.mpr #[(h x hx).1,by let:=(h x hx).2;show Tq this];rwa [List.length_range']at this
theorem Vq.count(W:WF g)(H:mZ g)(d:Vq g st w rs):∀{σ:TN},Ok g st->GV g st σ->σ.Nodup->(∀u∈σ,g.tc<=u/\u<=g.tc+g.nn)->rs.length+σ.length<=(g.nn+1)*(w.length+1):=by
 induction d with
 |nil=>
  intro σ o v n a;let:=gY n a;change 0+σ.length<=(g.nn+1)*(0+1);show Gt (RW (S9 _)) (Gt this (RW (Nat.mul_one _).symm))
 |tm _ _ b=>
  intro σ o v n a;let h1:=b o.tl .nil Un λ_ h=>n0 h;let:=gY n a;rw[Rq,Nat.mul_succ];rw[Tm]at h1;show RS h1 this
 |nt hr _ b=>
  intro σ o v n a;show ao (v.exp W H o (aF hr)) λh1 c=>?_;let:=b (o.exp W (aF hr)) c (R9.mpr #[h1,n]) λu hu=>by
   clear c h1 v o;rcases RB.mp hu with rfl|hu
   .show W.Vp (aF hr)
   show a u hu
  rw[Rq]at this ⊢;rw[Tc];show this
end
variable{Y1 Y2 i1 i2 j:Nat}{d1 d2 r1 r2 w1 w2:TN}{g:Gm}
class inductive Ch (g:Gm) (X:Nat):Nat->Prop
 |refl:Ch g X X
 |step{Y Z i:Nat}{d:TN}:Ch g X Y->g.rules[i]?=some (Y,Z::d)->g.tc<=Z->Ch g X Z
class inductive La (g:Gm) (X:Nat) (M:Nat->Prop):Nat->Nat->Prop
 |base{t:Nat}:M t->La g X M X t
 |fst{Y Z i t:Nat}{d:TN}:Ch g X Y->g.rules[i]?=some (Y,Z::d)->g.tc<=Z->bx g d t->La g X M Z t
 |nul{Y Z i t:Nat}{d:TN}:La g X M Y t->g.rules[i]?=some (Y,Z::d)->g.tc<=Z->bM g d->La g X M Z t
class inductive On (g:Gm) (t:Nat):Nat->Nat->Prop
 |refl{X:Nat}:On g t X X
 |step{X Y Z i:Nat}{d:TN}:On g t X Y->g.rules[i]?=some (Y,Z::d)->jy g i t->g.tc<=Z->On g t X Z
section
variable{M:Nat->Prop}{d:TN}
theorem On.head(h:On g t X Y):X=Y\/∃(i Z:Nat)(d:TN),g.rules[i]?=some (X,Z::d)/\jy g i t/\g.tc<=Z/\On g t Z Y:=by
 induction h with
 |refl=>show .inl rfl
 |step _ hr p k j=>
  rcases j with rfl|f
  .show .inr #[_,_,_,hr,p,k,.refl]
  show AU f λi' l d' a b c e=>?_;show .inr #[i',l,d',a,b,c,.step e hr p k]
theorem On.det(H:mZ g)(h:On g t X Y):On g t X Z->On g t Y Z\/On g t Z Y:=by
 induction h with
 |refl=>show .inl
 |step _ hr p k f=>
  ext i;rcases f i with h|h
  .rcases h.head with rfl|d
   .show .inr (.step .refl hr p k)
   show AU d λi' j d' a b c e=>?_;let:=H _ _ _ _ _ t hr a p b;subst this;rw[hr]at a;replace a:=Is a;cases a;show .inl e
  show .inr (.step h hr p k)
theorem On.reach(h:On g t X Y):X=Y\/Reach g X Y:=by
 induction h with
 |refl=>show .inl rfl
 |step _ hr _ k a=>
  let e:qh g _ _:=#[[],_,aF hr,.nil,k];clear hr;rcases a with rfl|h
  .show .inr (.one e)
  show .inr (h.snoc e)
theorem Ch.reach(h:Ch g X Y):X=Y\/Reach g X Y:=by
 induction h with
 |refl=>show .inl rfl
 |step _ hr k a=>
  let e:qh g _ _:=#[[],_,aF hr,.nil,k];clear hr;rcases a with rfl|h
  .show .inr (.one e)
  show .inr (h.snoc e)
theorem Ch.trans(h:Ch g X Y)(k:Ch g Y Z):Ch g X Z:=by
 induction k with
 |refl=>show h
 |step _ hr k a=>show .step a hr k
theorem La.ch(h:La g X M Y t):Ch g X Y:=by
 induction h with
 |base _=>show .refl
 |fst c hr k _=>show .step c hr k
 |nul _ hr k _ a=>show .step a hr k
theorem La.XO(b:∀t,M t->VW g X t)(h:La g X M Y t):VW g Y t:=by
 induction h with
 |base h=>show b _ h
 |fst _ hr _ f=>show .inner _ [] _ _ _ (aF hr) f
 |nul _ hr _ n a=>show .last _ [] _ _ _ (aF hr) n a
theorem Ch.on(h:Ch g X Y)(f:VG g Y t):On g t X Y:=by
 induction h with
 |refl=>show .refl
 |step _ hr k a=>
  show .step (a ((bx.head f).rule (aF hr))) hr #[_,_,hr,.inl (.head f)] k
theorem La.on(b:∀t,M t->VW g X t)(h:La g X M Y t):Wf g Y->On g t X Y:=by
 induction h with
 |base _=>show λ_=>.refl
 |fst c hr k f=>
  ext n;let f2:=bx.after (.cons n .nil) f;show .step (c.on (f2.rule (aF hr))) hr #[_,_,hr,.inl f2] k
 |nul l hr k m a=>
  ext n;let n2:=bM.cons n m;show .step (a (.rule (aF hr) n2)) hr #[_,_,hr,.inr #[n2,l.XO b]] k
variable(W:WF g)(H:mZ g)
include W H
theorem uH(i:∃t,VG g Z t)(k:Ch g X Y1)(j:Ch g X Y2)(r1:g.rules[i1]?=some (Y1,Z::d1))(r2:g.rules[i2]?=some (Y2,Z::d2)):i1=i2:=by
 show az i λt f=>?_;let aux:∀{Y1 Y2 i1 i2:Nat}{d1 d2:TN},g.rules[i1]?=some (Y1,Z::d1)->g.rules[i2]?=some (Y2,Z::d2)->On g t Y1 Y2->i1=i2:=by
  ext Y1 Y2 i1 i2 d1 d2 r1 r2 o;let p1:jy g i1 t:=#[_,_,r1,.inl (.head f)];let p2:jy g i2 t:=#[_,_,r2,.inl (.head f)];rcases o.head with rfl|d
  .show H _ _ _ _ _ t r1 r2 p1 p2
  show AU d λi' l d' a b c e=>?_;clear d;let:=H _ _ _ _ _ t r1 a p1 b;subst this;rw[r1]at a;replace a:=Is a;cases a;let h:qh g Y2 Z:=#[[],_,aF r2,.nil,c];clear o r2;rcases e.reach with rfl|e
  .show(pA W H (.one h)).elim
  show(pA W H (.step h e)).elim
 rcases (k.on ((bx.head f).rule (aF r1))).det H (j.on ((bx.head f).rule (aF r2)))with o|o
 .show aux r1 r2 o
 show(aux r2 r1 o).symm
theorem kE(c:Ch g X Y)(hr:g.rules[i]?=some (Y,X::d))(k:g.tc<=X):False:=by
 let a:qh g Y X:=#[[],_,aF hr,.nil,k];clear hr;rcases c.reach with rfl|c
 .show pA W H (.one a)
 show pA W H (.step a c)
theorem Ce(d:∀t,M t->VW g X t)(r1:g.rules[i]?=some (Y1,[]))(r2:g.rules[j]?=some (Y2,[]))(l1:La g X M Y1 t)(l2:La g X M Y2 t):i=j:=by
 let aux:∀{Y1 Y2 i j:Nat},g.rules[i]?=some (Y1,[])->g.rules[j]?=some (Y2,[])->La g X M Y1 t->La g X M Y2 t->On g t Y1 Y2->i=j:=by
  ext Y1 Y2 i j r1 r2 l1 l2 o;let p1:jy g i t:=#[_,_,r1,.inr #[.nil,l1.XO d]];rcases o.head with rfl|f
  .show H _ _ _ _ _ t r1 r2 p1 #[_,_,r2,.inr #[.nil,l2.XO d]]
  show AU f λi' h d' a b c e=>?_;let:=H _ _ _ _ _ t r1 a p1 b;subst this;rw[r1]at a;cases a
 rcases (l1.on d (.rule (aF r1) .nil)).det H (l2.on d (.rule (aF r2) .nil))with o|o
 .show aux r1 r2 l1 l2 o
 show(aux r2 r1 l2 l1 o).symm
theorem EI(h:∀t,M t->VW g X t)(ht:t<g.tc)(r1:g.rules[i]?=some (Y1,[]))(l1:La g X M Y1 t)(k:Ch g X Y2)(r2:g.rules[j]?=some (Y2,t::d)):False:=by
 let p1:jy g i t:=#[_,_,r1,.inr #[.nil,l1.XO h]];let f2:bx g (t::d) t:=.head (.self t ht);let p2:jy g j t:=#[_,_,r2,.inl f2];rcases (l1.on h (.rule (aF r1) .nil)).det H (k.on (f2.rule (aF r2)))with o|o
 .rcases o.head with rfl|f
  .let:=H _ _ _ _ _ t r1 r2 p1 p2;subst this;rw[r1]at r2;cases r2
  show AU f λi' l d' a b c e=>?_;let:=H _ _ _ _ _ t r1 a p1 b;subst this;rw[r1]at a;cases a
 rcases o.head with rfl|f
 .let:=H _ _ _ _ _ t r1 r2 p1 p2;subst this;rw[r1]at r2;cases r2
 show AU f λi' l d' a b c e=>?_;let:=H _ _ _ _ _ t r2 a p2 b;subst this;rw[r2]at a;replace a:=Is a;cases a;show absurd ht (Sn.mpr c)
end
class inductive Fo (g:Gm):List Nat->List Nat->List Nat->Prop
 |nil:Fo g [] [] []
 |tm{t:Nat}{ss w rs:TN}:t<g.tc->Fo g ss w rs->Fo g (t::ss) (t::w) rs
 |nt{i X:Nat}{r w1 XX ss w2 XI:TN}:g.rules[i]?=some (X,r)->Fo g r w1 XX->Fo g ss w2 XI->Fo g (X::ss) (w1++w2) (XX++i::XI)
theorem Fo.app{a:TN}(h:Fo g a w1 r1){b:TN}(k:Fo g b w2 r2):Fo g (a++b) (w1++w2) (r1++r2):=by
 induction h with
 |nil=>show k
 |tm h _ c=>show .tm h c
 |nt hr f _ _ c=>rw[Rz,Rz];show .nt hr f c
theorem Fo.cut{a b w:TN}(h:Fo g (a++b) w rs):∃w1 w2 r1 r2,w=w1++w2/\rs=r1++r2/\Fo g a w1 r1/\Fo g b w2 r2:=by
 induction a generalizing w rs with
 |nil=>show#[[],w,[],rs,rfl,rfl,.nil,h]
 |cons s a d=>
  cases h with
  |tm h k=>
   show gX (d k) ?_;ext w1 w2 r1 r2 rfl rfl h1 c;show#[s::w1,w2,r1,r2,rfl,rfl,.tm h h1,c]
  |nt hr f k=>
   show gX (d k) ?_;ext w1 w2 r1 r2 rfl rfl h1 c;show#[_,w2,_,r2,(Rz ..).symm,by rw[Rz];rfl,.nt hr f h1,c]
theorem Vq.fo{w:TN}(h:Vq g st w rs):∃VV,Fo g st w VV/\VV.Perm rs:=by
 induction h with
 |nil=>show#[[],.nil,.refl _]
 |tm h _ c=>show aq c λVV a b=>#[VV,.tm h a,b]
 |nt hr _ c=>
  show aq c λVV a b=>?_;clear c;show gX a.cut ?_;ext w1 w2 r1 r2 rfl rfl h1 d;show#[_,.nt hr h1 d,List.perm_middle.trans (b.cons _)]
theorem Vq.app{a:TN}(h:Vq g a w1 r1){b:TN}(k:Vq g b w2 r2):Vq g (a++b) (w1++w2) (r1++r2):=by
 induction h with
 |nil=>show k
 |tm h _ c=>show .tm h c
 |nt hr _ c=>show .nt hr (by rw[Rz]at c;show c)
theorem Fo.der{w:TN}(h:Fo g st w rs):∃VV,Vq g st w VV/\VV.Perm rs:=by
 induction h with
 |nil=>show#[[],.nil,.refl _]
 |tm h _ c=>show aq c λVV a b=>#[VV,.tm h a,b]
 |nt hr _ _ d e=>
  show aq d λr1 a1 b1=>aq e λr2 a2 b2=>#[_,.nt hr (a1.app a2),(b1.append b2).cons _ |>.trans List.perm_middle.symm]
end
section
variable{X X' Y Z d d' i i' n s t:Nat}{b b' r r' tk Xd WP u1 u2:TN}{g:Gm}
structure xZ where
 ki:Nat->Nat
 kd:Nat->Nat
 km:Nat->Nat->Prop
 go:Nat->Nat->Option Nat
 rd:Nat->Nat->Nat->Prop
section
variable(g:Gm)(A:xZ)
def GX(s X:Nat)(b:TN):Prop:=∃(l:Nat)(a:TN),g.rules[A.ki s]?=some (l,a++X::b)/\a.length=A.kd s
def Bk(s:Nat)(b:TN)(t:Nat):Prop:=bx g b t\/(bM g b/\A.km s t)
def It(s i d:Nat):Prop:=(i=A.ki s/\d=A.kd s)\/(d=0/\∃(X:Nat)(b:TN)(Y:Nat)(r:TN),GX g A s X b/\g.tc<=X/\Ch g X Y/\g.rules[i]?=some (Y,r))
def By(s i d t:Nat):Prop:=(i=A.ki s/\d=A.kd s/\A.km s t)\/(d=0/\∃(X:Nat)(b:TN)(Y:Nat)(r:TN),GX g A s X b/\g.tc<=X/\La g X (Bk g A s b) Y t/\g.rules[i]?=some (Y,r))
def Af(i d Z:Nat):Prop:=∃(X:Nat)(a b:TN),g.rules[i]?=some (X,a++Z::b)/\a.length=d
def Cp(i d X:Nat)(r:TN):Prop:=g.rules[i]?=some (X,r)/\r.length=d
structure u8:Prop where
 zi:A.ki 0=0
 zd:A.kd 0=0
 V4:∀s,∃(l:Nat)(r:TN),g.rules[A.ki s]?=some (l,r)/\A.kd s<=r.length/\∀t,A.km s t->VW g l t
 to:∀s Z s',A.go s Z=some s'->∃i d,It g A s i d/\Af g i d Z/\A.ki s'=i/\A.kd s'=d+1/\∀t,A.km s' t↔By g A s i d t
 has:∀s i d Z,It g A s i d->Af g i d Z->∃s',A.go s Z=some s'
 rd:∀s t i,A.rd s t i↔0<i/\∃d X r,It g A s i d/\Cp g i d X r/\By g A s i d t
end
section
variable{A:xZ}(W:WF g)(H:mZ g)(K:u8 g A)
include W H K
theorem Gv(h:GX g A s X b):∀t,Bk g A s b t->VW g X t:=by
 show ck h λl a e _=>?_;show fH (K.V4 s) λl' r c _ d=>?_;rw[e]at c;cases c;ext t (f|⟨n,f⟩)
 .show .inner l a X b t (aF e) f
 show .last l a X b t (aF e) n (d t f)
theorem dJ(h:GX g A s X b)(h':GX g A s X' b'):X=X'/\b=b':=by show ck h λl a e k=>?_;show ck h' λl' d c k'=>?_;rw[e]at c;let:=(SZ (Is c)).2;let:=(List.append_inj this (k.trans k'.symm)).2;show Te this
theorem II(h:Af g i d Z):∃t,VG g Z t:=by
 show uI h λX a b e _=>?_;rcases W.Vh (aF e) (Rk _ (.head _))with h|h
 .show#[Z,.self Z h]
 show W.sign h
theorem Jy(h:Af g (A.ki s) (A.kd s) Z):∃b,GX g A s Z b:=by show uI h λX a b e k=>#[b,X,a,e,k]
theorem rZ(h:Af g i 0 Z)(e:g.rules[i]?=some (Y,r)):∃d,r=Z::d:=by show uI h λX a b c k=>?_;rw[e]at c;clear e;cases c;rw[Sg k];show#[b,rfl]
theorem H3(h:It g A s i d)(h':It g A s i' d')(f:Af g i d Z)(f':Af g i' d' Z):i=i'/\d=d':=by
 let mix:∀{i' d':Nat},Af g (A.ki s) (A.kd s) Z->Af g i' 0 Z->(∃(X:Nat)(b:TN)(Y:Nat)(r:TN),GX g A s X b/\g.tc<=X/\Ch g X Y/\g.rules[i']?=some (Y,r))->False:=by
  ext i' d' f f' l;show gX l λX b Y r h1 e h3 a=>?_;show az (Jy W H K f) λb' m=>?_;show ao (dJ W H K h1 m) ?_;ext rfl rfl;show az (rZ W H K f' a) ?_;ext d rfl;show kE W H h3 a e
 rcases h with⟨rfl,rfl⟩|⟨rfl,c⟩<;>rcases h' with⟨rfl,rfl⟩|⟨rfl,j⟩
 .show#[rfl,rfl]
 .show(mix (d':=0) f f' j).elim
 .show(mix (d':=0) f' f c).elim
 show gX c λX b Y r h1 e h3 a=>?_;show gX j λX' b' p r' n q o k=>?_;show ao (dJ W H K h1 n) ?_;ext rfl rfl;show az (rZ W H K f a) ?_;ext d rfl;show az (rZ W H K f' k) ?_;ext d' rfl;show#[uH W H (II W H K f) h3 o a k,rfl]
theorem A6{s':Nat}(h:It g A s i d)(f:Af g i d Z)(e:A.go s Z=some s'):A.ki s'=i/\A.kd s'=d+1/\∀t,A.km s' t↔By g A s i d t:=by show OO (K.to s Z s' e) λi' d' h' f' a b c=>?_;show ao (H3 W H K h h' f f') ?_;ext rfl rfl;show#[a,b,c]
theorem Jr(h:Cp g i d X r)(f:Af g i d Z):False:=by show uI f λX' a b e k=>?_;rw[h.1]at e;replace e:=Is e;cases e;let:=h.2;rw[Q9,Rq]at this;lia
theorem FP(h:Cp g (A.ki s) (A.kd s) X r)(f:GX g A s Z b):False:=
 by show ck f λl a e k=>?_;show Jr W H K h #[l,a,b,e,k]
theorem v7(h:Cp g i 0 X r):r=[]:=Sg h.2
theorem AB(h:It g A s i d)(c:Cp g i d X r)(l:By g A s i d t)(h':It g A s i' d')(f:Cp g i' d' X' r')(l':By g A s i' d' t):i=i':=by
 rcases l with⟨rfl,rfl,_⟩|⟨rfl,v,b,Y,r1,h1,q,h3,j⟩<;>rcases l' with⟨rfl,rfl,_⟩|⟨rfl,o,b',u,n,k,w,p,m⟩
 .rfl
 .show(FP W H K c k).elim
 .show(FP W H K f h1).elim
 show ao (dJ W H K h1 k) ?_;ext rfl rfl;let e:=c.1;rw[v7 W H K c]at e;let a:=f.1;rw[v7 W H K f]at a;rw[j]at e;replace e:=Is e;cases e;rw[m]at a;cases a;show Ce W H (Gv W H K h1) j m h3 p
theorem AC(ht:t<g.tc)(c:Cp g i d X r)(l:By g A s i d t)(h':It g A s i' d')(f':Af g i' d' t):False:=by
 rcases l with⟨rfl,rfl,_⟩|⟨rfl,q,b,Y,r1,h1,m,h3,f⟩<;>rcases h' with⟨rfl,rfl⟩|⟨rfl,n,b',p,k,h,u,o,j⟩
 .show Jr W H K c f'
 .show FP W H K c h
 .show az (Jy W H K f') λb' a=>?_;show ao (dJ W H K h1 a) ?_;clear a f' h3;ext rfl _;show absurd ht (Sn.mpr m)
 show ao (dJ W H K h1 h) ?_;ext rfl rfl;let e:=c.1;rw[v7 W H K c]at e;rw[f]at e;replace e:=Is e;cases e;show az (rZ W H K f' j) ?_;ext dd rfl;show EI W H (Gv W H K h1) ht f h3 o j
end
inductive St(g:Gm)(A:xZ):List Nat->List Nat->List Nat->List Nat->List Nat->List Nat->Prop
 |shift{s s' t:Nat}{p u tk:TN}:A.go s t=some s'->(∀i,¬A.rd s t i)->u≠[]->St g A (s::p) (t::u) tk (s'::s::p) u tk
 |take{s s' s0 i X t:Nat}{r q p0 p u tk:TN}:A.go s t=none->A.rd s t i->(∀j,A.rd s t j->j=i)->g.rules[i]?=some (X,r)->s::p=q++s0::p0->q.length=r.length->A.go s0 X=some s'->St g A (s::p) (t::u) tk (s'::s0::p0) (t::u) (tk++[i])
class inductive Vc (g:Gm) (A:xZ):Nat->List Nat->List Nat->List Nat->List Nat->List Nat->List Nat->Prop
 |refl{p u tk:TN}:Vc g A 0 p u tk p u tk
 |step{n:Nat}{p u tk p1 u1 Xd p2 u2 WP:TN}:St g A p u tk p1 u1 Xd->Vc g A n p1 u1 Xd p2 u2 WP->Vc g A (n+1) p u tk p2 u2 WP
theorem Vc.trans{A:xZ}{m:Nat}{p u p1 p2:TN}(h:Vc g A n p u tk p1 u1 Xd)(k:Vc g A m p1 u1 Xd p2 u2 WP):Vc g A (n+m) p u tk p2 u2 WP:=by
 induction h with
 |refl=>rw[S9];show k
 |step s _ a=>rw[SQ];show .step s (a k)
section
variable{A:xZ}(W:WF g)(H:mZ g)(K:u8 g A)
include W H K
theorem HX{l:Nat}{a ss:TN}(h:It g A s i d)(e:g.rules[i]?=some (l,a++X::ss))(k:a.length=d)(j:g.tc<=X)(o:g.rules[i']?=some (X,r'))(f:bx g ss t\/(bM g ss/\By g A s i d t)):It g A s i' 0/\By g A s i' 0 t:=by
 rcases h with c|c
 .show ao c ?_;clear c;ext rfl rfl;let v:GX g A s X ss:=#[l,a,e,k];show#[.inr #[rfl,X,ss,X,r',v,j,.refl,o],.inr #[rfl,X,ss,X,r',v,j,.base ?_,o]];rcases f with f|c
  .show .inl f
  show ao c λn f=>?_;clear c;show .inr #[n,?_];rcases f with c|c
  .show bP c λ_ _ f=>?_;clear c;show f
  show ao c λhz C=>?_;clear c;show gX C λB b2 Y2 r2 u w m p=>?_;show ao (dJ W H K v u) ?_;ext rfl rfl;rw[e]at p;replace p:=Is p;cases p;rw[hz]at k;rw[Sg k]at e;show(kE W H m.ch e j).elim
 show ao c ?_;clear c;ext rfl z;show gX z λy b Y r h1 x h3 q=>?_;clear z;rw[Sg k]at e;let e2:=e;rw[e2]at q;clear e;replace q:=Is q;cases q;show#[.inr #[rfl,y,b,X,r',h1,x,.step h3 e2 j,o],.inr #[rfl,y,b,X,r',h1,x,?_,o]];clear o;rcases f with f|c
 .show .fst h3 e2 j f
 show ao c λn f=>?_;clear c;rcases f with⟨rfl,hz,f⟩|⟨_,B,b2,_,_,u,_,w,m⟩
 .show ao (dJ W H K h1 #[l,[],e2,hz]) ?_;ext rfl rfl;show(kE W H h3 e2 j).elim
 show ao (dJ W H K h1 u) ?_;ext rfl rfl;rw[e2]at m;replace m:=Is m;cases m;show .nul w e2 j n
end
variable{rs ss:TN}
theorem Fo.fst{w:TN}(h:Fo g ss w rs):(w=[]/\bM g ss)\/∃t w',w=t::w'/\bx g ss t:=by
 induction h with
 |nil=>show .inl #[rfl,.nil]
 |tm h _ _=>show .inr #[_,_,rfl,.head (.self _ h)]
 |nt hr _ _ b c=>
  rcases b with a|a
  .show ao a ?_;ext rfl n;rcases c with⟨rfl,m⟩|⟨t,w',rfl,f⟩
   .show .inl #[rfl,.cons (.rule (aF hr) n) m]
   show .inr #[t,w',rfl,.after (.cons (.rule (aF hr) n) .nil) f]
  show ck a ?_;clear a;ext t w' rfl f;show .inr #[t,_,rfl,.head (f.rule (aF hr))]
class inductive Pa (A:xZ):List Nat->List Nat->Prop
 |base:Pa A [0] []
 |snoc{s s' Z:Nat}{p ss:TN}:Pa A (s::p) ss->A.go s Z=some s'->Pa A (s'::s::p) (ss++[Z])
section
variable{A:xZ}(W:WF g)(H:mZ g)(K:u8 g A)
include W H K
theorem KR{w:TN}(F:Fo g ss w rs):∀{s i d l t:Nat}{p a v u tk:TN},It g A s i d->g.rules[i]?=some (l,a++(ss++v))->a.length=d->(bx g v t\/(bM g v/\By g A s i d t))->t<g.tc->
  ∃q s' p',Vc g A (w.length+rs.length) (s::p) (w++t::u) tk (s'::p') (t::u) (tk++rs)/\s'::p'=q++s::p/\q.length=ss.length/\It g A s' i (d+ss.length)/\(bx g v t\/(bM g v/\By g A s' i (d+ss.length) t)):=by
 induction F with
 |nil=>
  ext s i d l t p a v u tk h e k f ht;show#[[],s,p,by rw[RD];show .refl,rfl,rfl,h,f]
 |@tm G ss w rs O F Q=>
  ext s i d l t p a v u tk h e k f ht;let c:Af g i d G:=#[l,a,ss++v,e,k];show az (K.has s i d G h c) λs1 E=>?_;show bP (A6 W H K h c E) λb1 b2 b3=>?_;let V:=λj P=>by
   show ao ((K.rd s G j).mp P) λ_ M=>kD M λd' X r D C o=>?_;show AC W H K O C o h c
  show Jh (Q (p:=s::p) (u:=u) (tk:=tk) (a:=a++[G]) (t:=t) (.inl #[b1.symm,b2.symm]) (by rw[Rz];show e) (by rw[Q9,k];rfl) (f.imp id (by ext b;show ao b λn f=>#[n,.inl #[b1.symm,b2.symm,(b3 t).mpr f]])) ht) λq s' p' D C o B L=>#[q++[s1],s',p',?_,by rw[C,Rz];rfl,by rw[Q9,o];rfl,by rw[Rq,<- SI,Tc];show B,by rw[Rq,<- SI,Tc];show L];rw[Rq,Tc];show .step (.shift E V (by ext q;clear D Q F;cases w<;>cases q)) D
 |@nt i' X r w1 XX ss w2 XI hr F1 F2 T σ=>
  ext s i d l t p a v u tk h e k f ht;let c:Af g i d X:=#[l,a,ss++v,e,k];let R:=(W.Vp (aF hr)).1;show fH (show ∃t1 u1,w2++t::u=t1::u1/\t1<g.tc/\(bx g (ss++v) t1\/(bM g (ss++v)/\By g A s i d t1)) from by
   clear σ;rcases F2.fst with b|b
   .show ao b ?_;ext rfl n;show#[t,u,rfl,ht,?_];rcases f with f|b
    .show .inl (.after n f)
    show ao b λm f=>.inr #[n.app m,f]
   show ck b ?_;clear b;ext t1 w' rfl I;show#[t1,w'++t::u,rfl,I.lt,.inl I.left]) λt1 u1 hu y I=>?_
  show ao (HX W H K h e k R hr I) λi0 l0=>?_;show Jh (T (s:=s) (p:=p) (u:=u1) (tk:=tk) (a:=[]) i0 (by rw[RD];show hr) rfl (.inr #[.nil,l0]) y) λq1 s2 p2 D C o B L=>?_;let l2:=L.elim (λx=>x.none.elim) (·.2);let J:Cp g i' (0+r.length) X r:=#[hr,(S9 _).symm];let pos:0<i':=Nat.pos_of_ne_zero λz=>by
   clear J l2 L B o l0 i0 R c T F1;subst z;show aq W.zero λS e0 _=>?_;rw[e0]at hr;replace hr:=Is hr;cases hr;rcases W.Vh (aF e) (Rk _ (.head _))with h|h
   .show Si _ h
   show Si _ h.1
  let rd:=(K.rd s2 t1 i').mpr #[pos,_,X,r,B,J,l2];let un:=λj P=>by
   show ao ((K.rd s2 t1 j).mp P) λ_ N=>kD N λd' X' r' e1 e2 e3=>?_;show AB W H K e1 e2 e3 B J l2
  let ng:A.go s2 t1=none:=by
   cases q:A.go s2 t1 with
   |none=>rfl
   |some s3=>
    show fH (K.to _ _ _ q) λj d' e1 e2 _=>(AC W H K y J l2 e1 e2).elim
  show az (K.has s i d X h c) λs1 E=>?_;show bP (A6 W H K h c E) λb1 b2 b3=>?_;show Jh (σ (p:=s::p) (u:=u) (tk:=tk++XX++[i']) (a:=a++[X]) (v:=v) (t:=t) (.inl #[b1.symm,b2.symm]) (by rw[Rz];show e) (by rw[Q9,k];rfl) (f.imp id (by ext b;show ao b λn f=>?_;clear b;show#[n,.inl #[b1.symm,b2.symm,(b3 t).mpr f]])) ht) λq s' p' d1 d2 d3 Z Y=>?_;show#[q++[s1],s',p',?_,by rw[d2,Rz];rfl,by rw[Q9,d3];rfl,by rw[Rq,<- SI,Tc];show Z,by rw[Rq,<- SI,Tc];show Y];rw[hu]at d1;let st:St g A (s2::p2) (t1::u1) (tk++XX) (s1::s::p) (t1::u1) (tk++XX++[i']):=.take ng rd un hr C o E;let all:=D.trans (.step st d1);let e1:w1++w2++t::u=w1++t1::u1:=by rw[Rz,hu]
  let e2:tk++(XX++i'::XI)=tk++XX++[i']++XI:=by simp
  let e3:(w1++w2).length+(XX++i'::XI).length=w1.length+XX.length+(w2.length+XI.length+1):=by simp;lia
  rw[e1,e2,e3];show all
theorem Cq{S:Nat}{w:TN}(h0:g.rules[0]?=some (g.tc,[S,0]))(F:Fo g [S] w rs):∃s p s',Vc g A (w.length+rs.length) [0] (w++[0]) [] (s::p) [0] rs/\A.go s 0=some s'/\∀i,¬A.rd s 0 i:=by let b:0<g.tc:=Rc (dR rfl) W.pos;show Jh (KR W H K F (p:=[]) (a:=[]) (u:=[]) (tk:=[]) (.inl #[K.zi.symm,K.zd.symm]) h0 rfl (.inl (.head (.self 0 b))) b) λq s p f l k d j=>?_;let e:Af g 0 (0+1) 0:=#[g.tc,[S],[],h0,rfl];show az (K.has s 0 _ 0 d e) λs' h=>#[s,p,s',f,h,λi hi=>?_];show ao ((K.rd s 0 i).mp hi) λ_ c=>?_;show kD c λd' X r e1 e2 e3=>?_;show AC W H K b e2 e3 d e
theorem Eh{p:TN}(P:Pa A (s::p) ss)(h:A.kd s=0):s=0/\p=[]/\ss=[]:=by
 cases P with
 |base=>show#[rfl,rfl,rfl]
 |snoc P e=>
  show OO (K.to _ _ _ e) λi d _ _ _ e2 _=>?_;rw[h]at e2;cases e2
theorem AJ(d:Nat){l:Nat}{p:TN}(P:Pa A (s::p) ss)(h:It g A s i d)(e:g.rules[i]?=some (l,r)):∃q s0 p0 f,s::p=q++s0::p0/\q.length=d/\ss=f++r.take d/\Pa A (s0::p0) f/\It g A s0 i 0:=by
 induction d generalizing s i l p ss r with
 |zero=>show#[[],s,p,ss,rfl,rfl,(RD _).symm,P,h]
 |succ d k=>
  rcases h with c|c
  .show ao c ?_;clear c;ext rfl hd;cases P with
   |base=>rw[K.zd]at hd;cases hd
   |snoc P e1=>
    show OO (K.to _ _ _ e1) ?_;ext i1 d1 h1 j;show uI j λX a b e2 e3=>?_;ext e4 v _;rw[v]at hd;cases hd;rw[e4]at e;rw[e2]at e;replace e:=Is e;cases e;show gX (k P h1 e2) λq s0 p0 f u t o w=>ao w λn m=>#[_::q,s0,p0,f,by rw[u];rfl,by rw[Rq,t],?_,n,by rw[e4];show m];rw[o,Rz,<- e3,List.take_left];show Rs _ (by erw[show ∀x,a++x::b=(a++[x])++b from λ_=>by simp,show ∀x,a.length+1=(a++[x]).length from λ_=>by simp,List.take_left])
  show ao c λh _=>?_;cases h
theorem Ha{p c:TN}(P:Pa A (s::p) ss)(F:Fo g ss c tk)(hd:A.rd s t i)(hr:g.rules[i]?=some (X,r)):
  ∃q s0 p0 s' f,s::p=q++s0::p0/\q.length=r.length/\A.go s0 X=some s'/\Pa A (s'::s0::p0) f/\Fo g f c (tk++[i]):=by
 show ao ((K.rd s t i).mp hd) λpos x=>?_;show kD x λd X' r' h1 j h3=>?_;clear x;let e:=j.1;rw[hr]at e;replace e:=Is e;cases e;show gX (AJ W H K d P h1 hr) λq s0 p0 E v D u w=>?_;show ao w λn C=>?_;clear w;rw[<- j.2,RI]at u;clear h3 h1 hd P;subst u;show az (show ∃s',A.go s0 X=some s' from by
  clear v j;rcases C with h|h
  .show ao h ?_;clear h;ext rfl hz;show bP (Eh W H K n hz.symm) ?_;clear hz n;ext rfl _ _;rw[K.zi]at pos;cases pos
  show ao h λ_ I=>?_;show gX I λG b Y r0 o B z m=>?_;rw[hr]at m;replace m:=Is m;cases m;induction z with
  |refl=>
   show ck o λl a e k=>?_;show K.has s0 _ _ _ (.inl #[rfl,rfl]) #[l,a,b,e,k]
  |step c e k=>show K.has s0 _ 0 _ (.inr #[rfl,G,b,_,_,o,B,c,e]) #[_,[],_,e,rfl]) λs' y=>?_
 show gX F.cut ?_;ext w1 w2 r1 r2 rfl rfl L J;show#[q,s0,p0,s',E++[X],v,by rw[D,j.2],y,.snoc n y,?_];let:=L.app (Fo.nt hr J .nil);rw[RD]at this;rw[Rz];show this
theorem Lr{s':Nat}{p c:TN}(P:Pa A (s::p) ss)(F:Fo g ss c tk)(h:A.go s 0=some s'):∃S,g.rules[0]?=some (g.tc,[S,0])/\Fo g [S] c tk:=by
 show fH (K.to _ _ _ h) ?_;ext i d h1 v;show uI v λX a b e k=>?_;clear v;ext _;let i0:i=0:=by
  induction i with
  |zero=>rfl
  |succ i=>
   rcases W.right i _ _ 0 e (Rk _ (.head _))with h|h
   .show absurd h.1 (dR rfl)
   show absurd h.1 (SV _)
 subst i0;show bS W.zero λS e0 hS _=>?_;let f:=e0;rw[e0]at e;let e:=(SZ (Is e)).2;show gX (AJ W H K d P h1 e0) λq s0 p0 B D y t m=>?_;show ao m λu x=>?_;clear m;let o:B=[]:=by
  rcases x with n|n
  .show ao n λ_ hd=>(Eh W H K u hd.symm).2.2
  show ao n λ_ m=>?_;show gX m λX0 b' Y r0 w C r j=>?_;rw[f]at j;replace j:=Is j;cases j;rcases r.reach with rfl|r
  .show ck w λl E z _=>?_;rcases W.Vh (aF z) (Rk _ (.head _))with h|h
   .show absurd h (Si _)
   show absurd h.1 (Si _)
  show absurd (r.name W).1 (Si _)
 clear u y e0 h1 P;subst o;let hd:d=1:=by
  match a,e,k with
  |[],e,k=>clear t f;cases e;show absurd hS (SV _)
  |[_],e,k=>show k.symm
  |_::_::a,e,k=>cases a<;>cases e
 subst hd;let:=t;clear t;subst this;show#[S,f,F]
end
variable{L:aQ}{e:E}{p q:Ps}{ss:Ss}{U:aw}
section
variable{C:QC}{Q:QF}
theorem bG(h:Q .next L U):an tab C .nil L U Q:=h
theorem dO(h:bj tab C e L U λv UX=>vc v (an tab C ss L UX Q)):an tab C (.cons (.expr e p) ss) L U Q:=h
theorem aC{x:Nm}(h:bj tab C e L U λv UX=>an tab C ss (L.set x.i (some v)) UX Q):an tab C (.cons (.VF x e p) ss) L U Q:=h
theorem gG{l:List Nm}(h:bj tab C e L U λv UX=>bA (lA (.tup l q) v L) λL'=>an tab C ss L' UX Q):an tab C (.cons (.VL l q e p) ss) L U Q:=h
theorem aN{o:E}{m:Nat}(h:bj tab C e L U λv UX=>bj tab C o L UX λu U2=>vb tab u m v U2 λa=>an tab C ss L a Q):an tab C (.cons (.U8 o m q e p) ss) L U Q:=h
theorem pe{o i:E}(h:bj tab C e L U λv UX=>bj tab C o L UX λu U2=>bj tab C i L U2 λk b=>r4 u k v b λa=>an tab C ss L a Q):an tab C (.cons (.Ve o i q e p) ss) L U Q:=h
theorem Mi{x:Nm}(h:bA (bJ L x.i) λu=>bj tab C e L U λv UX=>IM u v λy=>an tab C ss (L.set x.i (some y)) UX Q):an tab C (.cons (.aug x e p) ss) L U Q:=h
def iF(C:QC)(ss:Ss)(Q:QF):Fl->aQ->aw->Prop:=λfl L U=>match fl with
 |.next=>an tab C ss L U Q
 |fl=>Q fl L U
theorem fZ{t:T}{a b:Ss}(h:jm tab C t L U λc UX=>(c=true->an tab C a L UX (iF C ss Q))/\(c=false->an tab C b L UX (iF C ss Q))):an tab C (.cons (.ite t a b p) ss) L U Q:=h
def LT(I:Nat->aQ->aw->Prop)(n:Nat)(Q:QF):Fl->aQ->aw->Prop:=λfl L U=>match fl with
 |.ret v=>Q (.ret v) L U
 |_=>∃m,m<n/\I m L U
theorem vu{t:T}{b:Ss}(I:Nat->aQ->aw->Prop)(n:Nat)(h0:I n L U)(h:∀n L U,I n L U->jm tab C t L U λc UX=>(c=true->an tab C b L UX (LT I n Q))/\(c=false->an tab C ss L UX Q)):an tab C (.cons (.while t b p) ss) L U Q:=
 #[I,#[n,h0],λn L U a=>h n L U a]
end
variable{L':aQ}{a b c ep k m:Nat}{elt x y:E}{es:TD}{fs:List (Nat×V)}{ifs ts:Ts}{l xs:TV}{o o':O}{sc:Scope}{src:yc}{v:V}{UX U0:aw}
noncomputable abbrev CC:=NO tab ft
def bF(U UX:aw):Prop:=∀a o,U a=some o->UX a=some o
theorem bF.refl(U:aw):bF U U:=λ_ _ h=>h
theorem bF.trans{a b c:aw}(h:bF a b)(k:bF b c):bF a c:=λx o e=>k x o (h x o e)
theorem bF.upd(h:bF U0 U)(b:U0 c=none)(o:O):bF U0 (bq U c o):=λa o' e=>by
 unfold Mine.Internal.bq;rw[RX (λq=>by rw[q,b]at e;show nS e)];show h a o' e
theorem bF.none(h:bF U0 U)(a:U c=none):U0 c=none:=by
 cases q:U0 c with
 |none=>rfl
 |some o=>rw[h c o q]at a;show nS a.symm
theorem aB(U:aw)(a:Nat)(o:O):bq U a o a=some o:=RO rfl
theorem vi(h:b≠a):bq U a o b=U b:=RX h
theorem Jj(h:U a=some o)(k:U b=none):a≠b:=λe=>by rw[e,k]at h;show nS h
theorem cX(h:U a=some o)(k:U b=none):bq U b o' a=some o:=by rw[vi (Jj h k)];show h
theorem NR(U:aw)(a:Nat)(o o':O):bq (bq U a o) a o'=bq U a o':=by funext b;unfold bq;split<;>rfl
theorem aO(h:n<=100000):n<=bu:=Gt h (dR rfl)
section
variable{C:QC}{Q:QV}{R:List V->aw->Prop}{B:Bool->aw->Prop}{S:QP}{u i:E}{es:Es}{t:T}
theorem bi(h:Q v U):bj tab C (.lit v p) L U Q:=h
theorem FG{i:Int}(h:Q (.int (-i)) U):bj tab C (.neg i p q) L U Q:=h
theorem zz(k:tab.cst n=some v)(h:Q v U):bj tab C (.glob n p) L U Q:=by change bA _ _;rw[k];show h
theorem ah{x:Nm}(k:bJ L x.i=some v)(h:Q v U):bj tab C (.loc x) L U Q:=by change bA _ _;rw[k];show h
theorem bv{o:Operator}(h:bj tab C x L U λu UX=>bj tab C y L UX λv U2=>qH U2 Q o u v):bj tab C (.bin o x y p) L U Q:=h
theorem FF(h:bj tab C e L U λv UX=>l8 UX (λb=>Q (.bool (!b)) UX) v):bj tab C (.W6 e p) L U Q:=h
theorem xn(h:jm tab C t L U λb UX=>(b=true->bj tab C x L UX Q)/\(b=false->bj tab C y L UX Q)):bj tab C (.ite t x y p) L U Q:=h
theorem jS(h:jm tab C t L U λb UX=>Q (.bool b) UX):bj tab C (.test t) L U Q:=h
theorem cS(h:dN tab C es L U λvs UX=>vs.length<=bu/\Q (.tup vs) UX):bj tab C (.tup es p) L U Q:=h
theorem bL(h:dN tab C es L U λvs UX=>vs.length<=bu/\∀c,UX c=none->Q (.ref c) (bq UX c (.list vs))):bj tab C (.list es p) L U Q:=h
theorem bT(h:∀c,U c=none->Q (.ref c) (bq U c (.list []))):bj tab C (.list .nil p) L U Q:=#[Rx _,h]
theorem dC(h:∀c ep,U c=none->Q (.ref c) (bq U c (.dict [] ep))):bj tab C (.Vf p) L U Q:=h
theorem Iq{k v:E}(h:bj tab C k L U λx UX=>bj tab C v L UX λy U2=>(∃κ:DK,κ.is x)/\∀c ep,U2 c=none->Q (.ref c) (bq U2 c (.dict [(x,y)] ep))):bj tab C (.Wy k v p) L U Q:=h
def tw(C:QC)(elt:E)(t:Tx)(ifs:Ts)(L:aQ)(x:V)(U:aw)(K:Option V->aw->Prop):Prop:=
 bA (wb t.ar x) λl=>gQ tab C ifs (L++l.map some) U λb UX=>(b=true->bj tab C elt (L++l.map some) UX λv U2=>K (some v) U2)/\(b=false->K none UX)
theorem bp{t:Tx}(h:gP tab C src L U λitems g UX=>hG g (tw C elt t ifs L) items [] UX λvs U2=>∀c,U2 c=none->Q (.ref c) (bq U2 c (.list vs))):bj tab C (.comp elt t src ifs sc p) L U Q:=h
def cx(U:aw)(a c:Nat)(fs:List (Nat×V)):Prop:=∃d,U a=some (.inst c d)/\U d=some (.attrs fs)
theorem cx.ext(h:cx U a c fs)(k:bF U UX):cx UX a c fs:=by show aq h λd x y=>#[d,k _ _ x,k _ _ y]
def Ey(m:Nat)(v:V)(UX:aw)(Q:QV):Prop:=match v with
  |.ref a=>match UX a with
   |some (.inst c d)=>(tab.Wq c).isSome=true/\tab.mt c m=some none/\match UX d with
    |some (.attrs fs)=>bA (fs.lookup m) λv=>Q v UX
    |_=>False
   |_=>False
  |_=>False
theorem zA(h:bj tab C e L U λv UX=>Ey m v UX Q):bj tab C (.attr e m p) L U Q:=h
def tZ(c m:Nat):Prop:=(tab.Wq c).isSome=true/\tab.mt c m=some none
theorem yT(h:cx U a c fs)(k:tZ c m)(e:fs.lookup m=some v)(q:Q v U):Ey m (.ref a) U Q:=by show aq h λd h1 b=>?_;unfold Ey;dsimp only;rw[h1];dsimp only;rw[b];dsimp only;rw[e];show#[k.1,k.2,q]
theorem v4(h:bj tab C e L U λx UX=>bj tab C u L UX λy U2=>AM U2 Q x y):bj tab C (.VT e u p q) L U Q:=h
theorem Pj(h:bj tab C e L U λx UX=>bj tab C u L UX λy U2=>Ex U2 Q x y):bj tab C (.VM e u p q) L U Q:=h
theorem dW(h:bj tab C e L U λx UX=>bj tab C i L UX λy U2=>lC U2 Q x y):bj tab C (.item e i p) L U Q:=h
theorem Pi{b:P}(h:dN tab C es L U λvs UX=>prim UX Q b vs):bj tab C (.prim b es p q) L U Q:=h
theorem aP{b:P}(h:bj tab C e L U λv UX=>prim UX Q b [v]):bj tab C (.prim b (.cons e .nil) p q) L U Q:=h
theorem aG{f:Nat}(h:dN tab C es L U λvs UX=>C f vs UX Q):bj tab C (.call f n es p q) L U Q:=h
theorem qu(h:dN tab C es L U λvs UX=>bA (tab.Wq c) λf=>∀a d,a≠d->UX a=none->UX d=none->C f (.ref a::vs) (bq (bq UX d (.attrs [])) a (.inst c d)) λv U2=>v=.none/\Q (.ref a) U2):bj tab C (.new c n es p q) L U Q:=h
def Eu(C:QC)(m:Nat)(es:Es)(L:aQ)(v:V)(UX:aw)(Q:QV):Prop:=match v with
  |.ref a=>match UX a with
   |some (.inst c d)=>match UX d,tab.mt c m with
    |some (.attrs fs),some (some f)=>(tab.Wq c).isSome=true/\(fs.all λx=>x.1 != m)=true/\dN tab C es L UX λvs U2=>C f (.ref a::vs) U2 Q
    |_,_=>False
   |_=>False
  |_=>False
theorem dU(h:bj tab C e L U λv UX=>Eu C m es L v UX Q):bj tab C (.U5 m e es p q) L U Q:=h
def NK(c m f:Nat):Prop:=(tab.Wq c).isSome=true/\tab.mt c m=some (some f)
theorem dy{f:Nat}(h:cx U a c fs)(k:NK c m f)(e:(fs.all λx=>x.1 != m)=true)(q:dN tab C es L U λvs U2=>C f (.ref a::vs) U2 Q):Eu C m es L (.ref a) U Q:=by show aq h λd h1 b=>?_;unfold Eu;dsimp only;rw[h1];dsimp only;rw[b,k.2];show#[k.1,e,q]
theorem cb{b:P}(h:bj tab C e L U λv UX=>mo UX b v/\dN tab C es L UX λvs U2=>prim U2 Q b (v::vs)):bj tab C (.U1 b e es p q) L U Q:=h
theorem pP(h:R [] U):dN tab C .nil L U R:=h
theorem au(h:bj tab C e L U λv UX=>dN tab C es L UX λvs U2=>R (v::vs) U2):dN tab C (.cons e es) L U R:=h
theorem aj(h:bj tab C e L U λv UX=>R [v] UX):dN tab C (.cons e .nil) L U R:=h
theorem m7(h:bj tab C e L U λv UX=>l8 UX (λb=>B b UX) v):jm tab C (.truth e) L U B:=h
theorem d7{c:Mine.Internal.C}(h:bj tab C x L U λu UX=>bj tab C y L UX λv U2=>jG U2 (λb=>B b U2) c u v):jm tab C (.cmp c x y p) L U B:=h
theorem wB(h:jm tab C t L U λb UX=>B (!b) UX):jm tab C (.not t p) L U B:=h
theorem As(h:gQ tab C ts L U B):jm tab C (.all ts p) L U B:=h
theorem IP(h:jA tab C ts L U B):jm tab C (.any ts p) L U B:=h
theorem GB(h:B true U):gQ tab C .nil L U B:=h
theorem iW(h:jm tab C t L U λb UX=>(b=true->gQ tab C ts L UX B)/\(b=false->B false UX)):gQ tab C (.cons t ts) L U B:=h
theorem Jg(h:B false U):jA tab C .nil L U B:=h
theorem vE(h:jm tab C t L U λb UX=>(b=true->B true UX)/\(b=false->jA tab C ts L UX B)):jA tab C (.cons t ts) L U B:=h
theorem aK(h:bj tab C e L U λv UX=>yV UX v S):gP tab C (.seq e) L U S:=h
theorem AG(h:bj tab C e L U λv UX=>Et UX v S):gP tab C (.range e p q) L U S:=h
theorem IY(h:bj tab C e L U λv UX=>MM UX v S):gP tab C (.rev e p q) L U S:=h
theorem I0(h:bj tab C e L U λv UX=>AP UX v S):gP tab C (.enum e p q) L U S:=h
end
section
variable{C:QC}{Q:QF}{x:Nm}
theorem bB(h:bj tab C e L U λv UX=>Q (.ret v) L UX):an tab C (.cons (.ret e p) ss) L U Q:=h
theorem vw(h:Q .cont L U):an tab C (.cons (.cont p) ss) L U Q:=h
def tg(C:QC)(t:Tx)(b:Ss)(x:V)(L:aQ)(U:aw)(K:QF):Prop:=bA (lA t x L) λL'=>an tab C b L' U K
theorem aR{t:Tx}{s:yc}{b:Ss}(h:gP tab C s L U λitems g UX=>fM g (tg C t b) items L UX (iF C ss Q)):an tab C (.cons (.for t s b p) ss) L U Q:=h
theorem xc{g:aw->Prop}{st:V->aQ->aw->(Fl->aQ->aw->Prop)->Prop}(a:g U)(h:Q .next L U):fM g st [] L U Q:=#[a,h]
def M0(g:aw->Prop)(st:V->aQ->aw->(Fl->aQ->aw->Prop)->Prop)(xs:TV)(Q:QF):Fl->aQ->aw->Prop:=λfl L U=>match fl with
 |.ret v=>Q (.ret v) L U
 |_=>fM g st xs L U Q
theorem zy{g:aw->Prop}{t:Tx}{b:Ss}(c:g U)(a:lA t v L=some L')(h:an tab C b L' U (M0 g (tg C t b) xs Q)):fM g (tg C t b) (v::xs) L U Q:=by show#[c,?_];change bA _ _;rw[a];show h
end
section
variable{C:QC}{Q:QF}{g:aw->Prop}{st:V->aQ->aw->(Fl->aQ->aw->Prop)->Prop}
theorem yO(h:an tab C ss L U Q):iF C ss Q .next L U:=h
theorem cy(h:Q .next L U):iF C .nil Q .next L U:=h
theorem D7(h:Q (.ret v) L U):iF C ss Q (.ret v) L U:=h
theorem OH(h:Q .cont L U):iF C ss Q .cont L U:=h
theorem EN(h:fM g st xs L U Q):M0 g st xs Q .next L U:=h
theorem OQ(h:fM g st xs L U Q):M0 g st xs Q .cont L U:=h
theorem Qe(h:Q (.ret v) L U):M0 g st xs Q (.ret v) L U:=h
theorem aU(h:an tab C ss L U Q):an tab C .nil L U (iF C ss Q):=h
theorem DP(h:an tab C .nil L U Q):an tab C .nil L U (iF C .nil Q):=h
theorem yx(h:fM g st xs L U Q):an tab C .nil L U (M0 g st xs Q):=h
end
theorem bk{a:V}:[a].length<=bu:=Q7 rfl
theorem aT{a b:V}:[a,b].length<=bu:=Q7 rfl
theorem dD{a b c:V}:[a,b,c].length<=bu:=Q7 rfl
section
variable{Q:QV}{m:TV}{B:Bool->Prop}{i j:Int}
theorem uG(h:Q (.int (i+j)) U):qH U Q .Add (.int i) (.int j):=h
theorem yU(k:l.length+m.length<=bu)(h:Q (.tup (l++m)) U):qH U Q .Add (.tup l) (.tup m):=#[k,h]
theorem bI(h1:U a=some (.list l))(d:U b=some (.list m))(k:l.length+m.length<=bu)(h:∀c,U c=none->Q (.ref c) (bq U c (.list (l++m)))):qH U Q .Add (.ref a) (.ref b):=gL h1 (gL d #[k,h])
theorem MH(h:Q (.int (i - j)) U):qH U Q .Sub (.int i) (.int j):=h
theorem Ja{i j:Nat}(h:Q (.int ((i ||| j:Nat):Int)) U):qH U Q .BitOr (.int i) (.int j):=#[Ry _,Ry _,h]
theorem Eo{i j:Nat}(h:Q (.int ((i&&& j:Nat):Int)) U):qH U Q .BitAnd (.int i) (.int j):=#[Ry _,Ry _,h]
theorem MI{j:Nat}(k:j<=1000)(h:Q (.int ((2 ^ j:Nat):Int)) U):qH U Q .LShift (.int 1) (.int j):=#[rfl,Ry _,by lia,h]
theorem I7{i j:Nat}(k:j<=1000)(h:Q (.int ((i >>> j:Nat):Int)) U):qH U Q .RShift (.int i) (.int j):=#[Ry _,Ry _,by lia,h]
theorem dF(h:U a=some (.list l))(b:l.length<bu)(q:Q .none (bq U a (.list (l++[v])))):prim U Q .append [.ref a,v]:=gL h #[b,q]
theorem cg(h:U a=some (.list l)):mo U .append (.ref a):=C8 h (.inl rfl)
theorem El(h:U a=some (.list l))(d:U b=some (.list m))(hn:a≠b)(c:l.length+m.length<=bu)(q:Q .none (bq U a (.list (l++m)))):prim U Q .extend [.ref a,.ref b]:=gL h (gL d #[hn,c,q])
theorem yD(h:U a=some (.list l)):mo U .extend (.ref a):=C8 h (.inr (.inl rfl))
theorem I8(h:U a=some (.list (l++[v])))(b:l.length<bu)(q:Q v (bq U a (.list l))):prim U Q .pop [.ref a]:=gL h #[by rw[Q9];show b,gO List.getLast?_concat (by rw[List.dropLast_concat];show q)]
theorem AE(h:U a=some (.list l)):mo U .pop (.ref a):=C8 h (.inr (.inr (.inl rfl)))
theorem I9(h:U a=some (.list l))(b:l.length<=bu)(q:Q (.int l.length) U):prim U Q .len [.ref a]:=C8 h #[b,q]
theorem Ek(a:l.length<=bu)(q:Q (.int l.length) U):prim U Q .len [.tup l]:=#[a,q]
theorem dz(h:U a=some (.list l))(b:l.length<=bu)(c:cJ l i=some v)(q:Q v U):lC U Q (.ref a) (.int i):=C8 h #[b,gO c q]
theorem AL(a:l.length<=bu)(b:cJ l i=some v)(q:Q v U):lC U Q (.tup l) (.int i):=#[a,gO b q]
theorem HH{k:V}(h:U a=some (.dict es ep))(b:c6 es k)(c:fP es k=some v)(q:Q v U):lC U Q (.ref a) k:=GR h #[b,gO c q]
theorem vz(h:b9 U v=some l)(a:l.length<=bu)(q:∀c,U c=none->Q (.ref c) (bq U c (.list l))):prim U Q .list [v]:=by show gO h #[a,q]
theorem gK(h:U a=some (.list l)):b9 U (.ref a)=some l:=by unfold b9;dsimp only;rw[h]
theorem jN(h:U a=some (.dict es ep)):b9 U (.ref a)=some (es.map (·.1)):=by unfold b9;dsimp only;rw[h]
theorem aI{S:QP}(h:U a=some (.list l))(q:S l (λU=>U a=some (.list l)) U):yV U (.ref a) S:=C8 h q
theorem jF{S:QP}(q:S l (λ_=>True) U):yV U (.tup l) S:=q
theorem l7{S:QP}(h:U a=some (.dict es ep))(q:S (es.map (·.1)) (λU=>U a=some (.dict es ep)) U):yV U (.ref a) S:=GR h q
theorem QR{x y:V}{B:Bool->Prop}(h:OJ U x y B):jG U B .eq x y:=h
theorem Jt(h:B (i== j)):jG U B .eq (.int i) (.int j):=h
theorem Qt(h:B (i != j)):jG U B .ne (.int i) (.int j):=h
theorem Lg(h:B (decide (i<j))):jG U B .lt (.int i) (.int j):=h
theorem QO(h:B (decide (i<=j))):jG U B .le (.int i) (.int j):=h
theorem PD(h:B (decide (j<i))):jG U B .gt (.int i) (.int j):=h
theorem QQ(h:B (decide (j<=i))):jG U B .ge (.int i) (.int j):=h
theorem j9{b:Bool}(h:B b):l8 U B (.bool b):=h
theorem An(h:U a=some (.list l))(b:l.length<=bu)(q:B (!l.isEmpty)):l8 U B (.ref a):=gL h #[b,q]
theorem JK{R:aw->Prop}(h:U a=some (.list l))(c:k<l.length)(b:l.length<=bu)(q:R (bq U a (.list (l.set k v)))):r4 (.ref a) (.int k) v U R:=C8 h #[Ry _,c,b,q]
theorem jB{k:V}{R:aw->Prop}(h:U a=some (.dict es ep))(c:c6 es k)(b:es.length<bu)(q:R (bq U a (.dict (eG es k v) (if iN es k then ep else ep+1)))):r4 (.ref a) k v U R:=GR h #[c,b,q]
theorem fc{P:Prop}(h:P):vc .none P:=h
theorem Np{P:Prop}(h:P):vc (.int i) P:=h
end
noncomputable def ay(l:TN):List V:=l.map λ(i:Nat)=>.int i
theorem aS(l:TN):(ay l).length=l.length:=Lt _
theorem jL(l:TN)(i:Nat):ay l++[.int i]=ay (l++[i]):=by unfold ay;rw[List.map_append];rfl
noncomputable def ct(m k:Nat):List Nat:=(List.range k).filter m.testBit
theorem xB(m k:Nat):ct m (k+1)=if m.testBit k then ct m k++[k] else ct m k:=by unfold ct;rw[List.range_succ,T8];cases h:m.testBit k<;>simp[h]
theorem zM(m k:Nat):(ct m k).length<=k:=Gt (ST ..) (RW RN)
theorem mC{m:Nat}(h:m >>> k=0):i∈ct m k↔m.testBit i=true:=by unfold ct;erw[Sa,SY];show#[λx=>x.2,λx=>#[?_,x]];show Nat.lt_of_not_le λa=>?_;show az (Nat.exists_eq_add_of_le a) ?_;ext j rfl;rw[<- Nat.testBit_shiftRight,h,Tp]at x;show nF x
theorem iV(m k:Nat):(ct m k).Nodup:=List.nodup_range.sublist Tz
theorem jC(m k:Nat):m.testBit k=decide ((m >>> k)&&& 1=1):=by
 erw[Nat.testBit,Nat.and_comm];let:(m >>> k&&& 1)=0\/(m >>> k&&& 1)=1:=by rw[Nat.and_one_is_mod];show Nat.mod_two_eq_zero_or_one _
 rcases this with h|h<;>rw[h]<;>decide
def Jw(m c:Nat)(U:aw)(j:Nat)(L:aQ)(UX:aw):Prop:=∃k,j=64 - k/\k<=64/\L=[some (.int m),some (.ref c),some (.int k),some (.int (m >>> k:Nat))]/\bF U UX/\UX c=some (.list (ay (ct m k)))
theorem wa(n m:Nat)(l:m<2 ^ 64){Q:QV}(h:∀k c UX,k<=64->m >>> k=0->bF U UX->U c=none->UX c=some (.list (ay (ct m k)))->Q (.ref c) UX):
  CC (n+1) 68 [.int m] U Q:=by
 change an tab (CC n) xQ [some (.int m),none,none,none] U (aW Q);show aC<|bT λc f=>aC<|bi<|aC<|ah rfl<|vu (Jw m c U) 64 #[0,rfl,Rx _,rfl,(bF.refl U).upd f _,aB ..] ?_;ext _ _ UY j;show N4 j ?_;ext k rfl d rfl he b;show d7<|ah rfl<|bi<|PD #[λg=>?_,λg=>bB<|ah rfl<|h k c UY d (Nat.eq_zero_of_not_pos λh=>R1 g (Sd.mpr h)) he f b];let h0:=Sd.mp (RH g);let i:=Nat.lt_of_not_le λd=>by
  rw[Nat.shiftRight_eq_div_pow,Nat.div_eq_of_lt (Rc l (TJ (dR rfl) d))]at h0;cases h0
 let tl:∀U3,bF U U3->U3 c=some (.list (ay (ct m (k+1))))->an tab (CC n) xR [some (.int m),some (.ref c),some (.int k),some (.int (m >>> k))] U3 (LT (Jw m c U) (64 - k) (aW Q)):=λU3 e2 l2=>
  aC<|bv<|ah rfl<|bi<|I7 (dR rfl)<|aC<|bv<|ah rfl<|bi<|uG<|bG #[64 - (k+1),Tu i (Sq k),k+1,rfl,i,rfl,e2,l2]
 let bt:=xB m k;let tb:=jC m k;show fZ<|d7<|bv<|ah rfl<|bi<|Eo<|bi<|Jt #[λa=>?_,λa=>bG<|tl UY he ?_]
 .let a:m.testBit k=true:=by rw[tb];show SW (R5.mp (RP.mp a))
  rw[RO a]at bt;show dO<|cb<|ah rfl #[cg b,aj<|ah rfl<|dF b (by rw[aS];show Q5 (zM m k) (Rc i (dR rfl)))<|fc<|bG<|tl _ (he.upd f _) ?_];rw[aB,jL,bt]
 let a:¬m.testBit k=true:=by rw[tb];show λe=>beq_eq_false_iff_ne.mp a (R5.mpr (RH e))
 rw[bt,RX a];show b
end
section
variable{L:aQ}{d i k m n s:Nat}{g:Gm}{l r:TN}{p p1 p2 p3 p4 p5:Ps}{v:V}{α β:Type}{U UX:aw}
noncomputable def ED(rs:List (Nat×List Nat)):Nat:=(rs.map λx=>x.2.length+1).sum
noncomputable def KE(g:Gm)(i:Nat):Nat:=ED (g.rules.take i)
noncomputable def gJ:Nat->List (Nat×List Nat)->List Nat
 |_,[]=>[]
 |i,x::rs=>List.replicate (x.2.length+1) i++gJ (i+1) rs
noncomputable def own(g:Gm):List Nat:=gJ 0 g.rules
noncomputable def Cg(g:Gm):List Nat:=(List.range g.rules.length).map (KE g)
noncomputable def cr(g:Gm)(s:Nat):List Nat:=(List.range g.rules.length).filter λi=>(g.rules[i]?).any λx=>x.1== s
noncomputable def aX(g:Gm)(i d:Nat):Nat:=KE g i+d
structure Gh where
 a:Nat
 nms:List Str
 rn:Nat
 rr:Nat
 rb:Nat
 ro:Nat
 rw:Nat
 lv:V
 st:V
 rs:List Nat
 bl:List Nat
 lvl:Nat->V
noncomputable def BX(i l:Nat)(r:TN)(lv:V):List (Nat×V):=[(5,.int i),(2,.int l),(6,.tup (ay r)),(7,lv),(8,.none),(9,.int 0),(10,.int 0)]
noncomputable def OW(g:Gm)(h:Gh):List (Nat×V):=[(11,.ref h.rn),(12,.int g.tc),(13,.ref h.rr),(14,h.lv),(15,.none),(16,h.st),(17,.ref h.rb),(19,.ref h.ro),(20,.ref h.rw),(22,.int (own g).length)]
structure bh(U:aw)(g:Gm)(h:Gh):Prop where
 inst:cx U h.a 169 (OW g h)
 nm:U h.rn=some (.list (h.nms.map .str))
 rl:U h.rr=some (.list (h.rs.map .ref))
 Xz:h.rs.length=g.rules.length
 ru:∀(i l:Nat)(r:TN),g.rules[i]?=some (l,r)->∃ra,h.rs[i]?=some ra/\cx U ra 87 (BX i l r (h.lvl i))
 bl:U h.rb=some (.list (h.bl.map .ref))
 bll:h.bl.length=g.tc+1+g.nn
 bg:∀(s b:Nat),h.bl[s]?=some b->U b=some (.list (ay (cr g s)))
 of:U h.ro=some (.list (ay (Cg g)))
 ow:U h.rw=some (.list (ay (own g)))
structure Sz(g:Gm)(h:Gh):Prop where
 rules:g.rules.length<=100
 right:∀(i l:Nat)(r:TN),g.rules[i]?=some (l,r)->r.length<=10
 syms:g.tc+1+g.nn<=60
 own:(own g).length<=1000
 nms:h.nms.length=g.tc+1+g.nn
theorem bh.ext{h:Gh}(G:bh U g h)(k:bF U UX):bh UX g h:=
 #[G.inst.ext k,k _ _ G.nm,k _ _ G.rl,G.Xz,λi l r e=>(by show aq (G.ru i l r e) λra x y=>#[ra,x,y.ext k]),k _ _ G.bl,G.bll,λs b e=>k _ _ (G.bg s b e),k _ _ G.of,k _ _ G.ow]
theorem kq{l:TV}(h:l[k]?=some v):cJ l (k:Int)=some v:=by unfold cJ;rw[RO (Ry _),Tj];show h
theorem eQ{v:Nat}(h:l[k]?=some v):cJ (ay l) (k:Int)=some (.int v):=kq (by unfold ay;rw[List.getElem?_map,h];rfl)
theorem wO{v:Nat}(h:l[k]?=some v):cJ (l.map V.ref) (k:Int)=some (.ref v):=kq (by rw[RF,h];rfl)
theorem wW(h:i<g.rules.length):(Cg g)[i]?=some (KE g i):=by unfold Cg;rw[RF,List.getElem?_range h];rfl
theorem EC(g:Gm):(Cg g).length=g.rules.length:=by unfold Cg;rw[List.length_map,List.length_range]
theorem EA(rs:List (Nat×List Nat))(k i d l:Nat)(r:TN)(h:rs[i]?=some (l,r))(hd:d<=r.length):(gJ k rs)[ED (rs.take i)+d]?=some (k+i)
 := by
  induction rs generalizing k i with
  |nil=>cases TX.symm.trans h
  |cons x rs a=>
   induction i with
   |zero=>
    cases Is h;change(List.replicate (r.length+1) k++_)[0+d]?=_;rw[S9,Ru (by rw[Sp];show Tq hd),TU,RO (Tq hd)];rfl
   |succ i=>
    let a:=a (k+1) i h;change(List.replicate (x.2.length+1) k++_)[x.2.length+1+ED (rs.take i)+d]?=_;rw[SI,Ro (by rw[Sp];show Ri ..),Sp,SX,a,SQ]
theorem kC{l:Nat}(h:g.rules[i]?=some (l,r))(hd:d<=r.length):(own g)[aX g i d]?=some i:=by let:=EA g.rules 0 i d l r h hd;rw[S9]at this;show this
theorem ai{l:List α}{x:α}(h:l[i]?=some x):i<l.length:=(RC.mp h).1
theorem aH{l:List α}{f:α->β}(h:l.length<=n):(l.map f).length<=n:=by rw[Lt];show h
theorem n8(h:n<=m)(k:Nat.ble m 100000=true):n<=bu:=aO (Gt h (Q7 k))
section
variable{h:Gh}(Z:Sz g h)
include Z
theorem Sz.a0t:(h.nms.map V.str).length<=bu:=aH (by rw[Z.nms];show n8 Z.syms rfl)
theorem Sz.XS:(ay (Mine.Internal.own g)).length<=bu:=aH (n8 Z.own rfl)
theorem Sz.XV:(ay (Cg g)).length<=bu:=aH (by rw[EC];show n8 Z.rules rfl)
theorem Sz.a0u(s:Nat):(ay (cr g s)).length<=bu:=aH (n8 (Gt (ST ..) (by rw[RN];show Z.rules)) rfl)
theorem Sz.V6{l:Nat}(e:g.rules[i]?=some (l,r)):(ay r).length<=bu:=aH (n8 (Z.right i l r e) rfl)
end
section
variable{h:Gh}(G:bh U g h)(Z:Sz g h)
include G Z
theorem bh.a0s:(h.rs.map V.ref).length<=bu:=aH (by rw[G.Xz];show n8 Z.rules rfl)
theorem bh.a0v:(h.bl.map V.ref).length<=bu:=aH (by rw[G.bll];show n8 Z.syms rfl)
end
theorem HZ(g:Gm)(i d:Nat):((aX g i d:Nat):Int) - (KE g i:Nat)=(d:Nat):=by unfold aX;lia
noncomputable def Lo(r:TN)(d:Nat):Int:=match r[d]? with
 |some s=>(s:Int)
 |none=>-1
theorem fE(e:r[d]?=some s):Lo r d=(s:Int):=by unfold Lo;rw[e]
theorem iy(e:r[d]?=none):Lo r d = -1:=by unfold Lo;rw[e]
theorem wi(h:tab.mt 169 m=some none):tZ 169 m:=#[rfl,h]
theorem yb(h:tab.mt 87 m=some none):tZ 87 m:=#[rfl,h]
section
variable{h:Gh}{Q:QV}(G:bh U g h)(Z:Sz g h)
section
variable{C:QC}{x:Nm}
include G
theorem vN(k:bJ L x.i=some (.ref h.a))(e:(OW g h).lookup m=some v)(ok:tab.mt 169 m=some none)(q:Q v U):bj tab C (.attr (.loc x) m p) L U Q:=zA (ah k (yT G.inst (wi ok) e q))
end
include G Z
theorem iZ(q:Q (.int (g.tc+1+g.nn:Nat)) U):CC (n+1) 110 [.ref h.a] U Q:=by change an tab (CC n) cH [some (.ref h.a),none] U (aW Q);show bB<|aP<|vN G rfl rfl rfl<|I9 G.nm Z.a0t ?_;rw[Lt,Z.nms];show q
omit Z in
theorem sT(q:Q (.bool (decide (s<g.tc))) U):CC (n+1) 117 [.ref h.a,.int s] U Q:=by change an tab (CC n) cU [some (.ref h.a),some (.int s)] U (aW Q);show bB<|jS<|d7<|ah rfl<|vN G rfl rfl rfl<|Lg ?_;rw[show decide (s<(g.tc:Int))=decide (s<g.tc) from To.mpr Sd];show q
theorem ql(d:s<g.tc+1+g.nn)(q:∀c,U c=none->Q (.ref c) (bq U c (.list (ay (cr g s))))):CC (n+1) 138 [.ref h.a,.int s] U Q:=by change an tab (CC n) dG [some (.ref h.a),some (.int s),none] U (aW Q);let b:h.bl[s]?=some (h.bl[s]'(G.bll▸d)):=Rg _;show bB<|aP<|dW<|vN G rfl rfl rfl<|ah rfl<|dz G.bl (G.a0v Z) (wO b)<|vz (gK (G.bg _ _ b)) (Z.a0u s) q
theorem H1(hi:i<g.rules.length)(q:Q (.int (aX g i d:Nat)) U):CC (n+1) 145 [.ref h.a,.int i,.int d] U Q:=by change an tab (CC n) ip [some (.ref h.a),some (.int i),some (.int d)] U (aW Q);show bB<|bv<|dW<|vN G rfl rfl rfl<|ah rfl<|dz G.of Z.XV (eQ (wW hi))<|ah rfl<|uG q
variable{l:Nat}(hr:g.rules[i]?=some (l,r))(hd:d<=r.length)
include hr hd
theorem yy(q:Q (.int i) U):CC (n+1) 152 [.ref h.a,.int (aX g i d:Nat)] U Q:=by change an tab (CC n) eE [some (.ref h.a),some (.int (aX g i d))] U (aW Q);show bB<|dW<|vN G rfl rfl rfl<|ah rfl<|dz G.ow Z.XS (eQ (kC hr hd)) q
theorem FJ{C:QC}{x y z w:Nm}(e:bJ L x.i=some (.int (aX g i d:Nat)))(c:bJ L y.i=some (.ref h.a))(b:bJ L z.i=some (.ref h.a))(kw:bJ L w.i=some (.int (aX g i d:Nat)))(q:Q (.int d) U):
  bj tab C (.bin .Sub (.loc x) (.item (.attr (.loc y) 19 p1) (.item (.attr (.loc z) 20 p2) (.loc w) p3) p4) p5) L U Q:=by
 show bv<|ah e<|dW<|vN G c rfl rfl<|dW<|vN G b rfl rfl<|ah kw<|dz G.ow Z.XS (eQ (kC hr hd))<|dz G.of Z.XV (eQ (wW (ai hr)))<|MH ?_;rw[HZ];show q
theorem CH(q:Q (.int d) U):CC (n+1) 159 [.ref h.a,.int (aX g i d:Nat)] U Q:=by change an tab (CC n) fq [some (.ref h.a),some (.int (aX g i d))] U (aW Q);show bB<|FJ G Z hr hd rfl rfl rfl rfl q
theorem Gz(q:Q (.int (Lo r d)) U):CC (n+1) 166 [.ref h.a,.int (aX g i d:Nat)] U Q:=by
 show aq (G.ru i l r hr) λra e1 e2=>?_;let b:=Z.V6 hr;change an tab (CC n) gy [some (.ref h.a),some (.int (aX g i d)),none,none,none] U (aW Q);show aC<|zA<|dW<|vN G rfl rfl rfl<|dW<|vN G rfl rfl rfl<|ah rfl<|dz G.ow Z.XS (eQ (kC hr hd))<|dz G.rl (G.a0s Z) (wO e1)<|yT e2 (yb rfl) rfl<|aC<|FJ G Z hr hd rfl rfl rfl rfl<|bB<|xn<|d7<|ah rfl<|aP<|ah rfl<|Ek b<|Lg #[λc=>?_,λc=>FG ?_]
 .let c:=RH c;rw[aS]at c;let e:r[d]?=some (r[d]'(Sd.mp c)):=Rg _;rw[fE e]at q;show dW<|ah rfl<|ah rfl<|AL b (eQ e) q
 let c:=R1 c;rw[aS]at c;rw[iy (SG (R6 λf=>c (Sd.mpr f)))]at q;show q
end
end
section
variable{N k n tc:Nat}{W:V}{fs w:TN}{l nl:List Bool}{p:Ps}{α:Type}{U:aw}
noncomputable def ef(l:List Bool):List V:=l.map V.bool
theorem CU{v:Bool}(h:l[k]?=some v):cJ (ef l) (k:Int)=some (.bool v):=kq (by unfold ef;rw[List.getElem?_map,h];rfl)
theorem Gj(h:l.length<=100000):(ef l).length<=bu:=aH (aO h)
theorem HQ{l:TN}(h:l.length<=100000):(ay l).length<=bu:=aH (aO h)
noncomputable def fo(fs:TN)(nl:List Bool):List Nat->Nat->Nat×Bool
 |[],m=>(m,true)
 |s::w,m=>if nl.getD s false then fo fs nl w (m ||| fs.getD s 0) else(m ||| fs.getD s 0,false)
theorem y5{s m:Nat}{w:TN}:fo fs nl (s::w) m=if nl.getD s false then fo fs nl w (m ||| fs.getD s 0) else(m ||| fs.getD s 0,false):=rfl
theorem bD{l:List α}{d:α}(h:k<l.length):l[k]?=some (l.getD k d):=by rw[Sw,Rg h];rfl
section
variable{F:Nat}{Q:QV}
theorem ue(hn:U N=some (.list (ef nl)))(hf:U F=some (.list (ay fs)))(zn:nl.length<=100000)(b:fs.length<=100000)(w:TN)(m:Nat)(x:TO)(a:∀s∈w,s<nl.length/\s<fs.length)(q:Q (.tup [.int (fo fs nl w m).1,.bool (fo fs nl w m).2]) U):
    fM (λ_=>True) (tg (CC n) (.nm #[4,k,p]) oR) (ay w) [some W,some (.ref N),some (.ref F),some (.int m),x] U (iF (CC n) oQ (aW Q))
 := by
  induction w generalizing m x with
  |nil=>show xc trivial<|bB<|cS<|au<|ah rfl<|aj<|bi #[aT,q]
  |cons s w d=>show zy trivial rfl<|aC<|bv<|ah rfl<|dW<|ah rfl<|ah rfl<|dz hf (HQ b) (eQ (bD (a s (.head _)).2))<|Ja<|fZ<|wB<|m7<|dW<|ah rfl<|ah rfl<|dz hn (Gj zn) (CU (bD (a s (.head _)).1))<|j9 #[λc=>by
      rw[y5,RX (by rw[SA]at c;rw[c];show Sr)]at q;show bB<|cS<|au<|ah rfl<|aj<|bi #[aT,q],λc=>by
      rw[y5,RO (by rw[Bool.not_eq_false']at c;show c)]at q;show DP<|yx<|d _ _ (λs e=>a s (.tail _ e)) q]
theorem jQ(hn:U N=some (.list (ef nl)))(hf:U F=some (.list (ay fs)))(zn:nl.length<=100000)(a:fs.length<=100000)(b:∀s∈w,s<nl.length/\s<fs.length)(q:Q (.tup [.int (fo fs nl w 0).1,.bool (fo fs nl w 0).2]) U):
  CC (n+1) 205 [.tup (ay w),.ref N,.ref F] U Q:=by
 change an tab (CC n) oP [some (.tup (ay w)),some (.ref N),some (.ref F),none,none] U (aW Q);show aC<|bi<|aR<|aK<|ah rfl<|jF<|ue hn hf zn a w 0 _ b q
theorem mn(q:∀i:Int,Q (.int i) U)(w:TN)(m:Int)(x:TO):
    fM (λ_=>True) (tg (CC n) (.nm #[3,k,p]) gx) (ay w) [some W,some (.int tc),some (.int m),x] U (iF (CC n) gu (aW Q))
 := by
  induction w generalizing m x with
  |nil=>show xc trivial<|bB<|ah rfl<|q m
  |cons s w a=>show zy trivial rfl<|fZ<|d7<|ah rfl<|ah rfl<|Lg #[λc=>aC<|ah rfl<|DP<|yx<|a _ _,λc=>DP<|yx<|a _ _]
theorem pC(q:∀i:Int,Q (.int i) U):CC (n+1) 180 [.tup (ay w),.int tc] U Q:=by change an tab (CC n) gq [some (.tup (ay w)),some (.int tc),none,none] U (aW Q);show aC<|FG<|aR<|aK<|ah rfl<|jF<|mn q w _ _
end
variable{L:aQ}{a c ep j:Nat}{b:Bool}{e x y:E}{fs:List (Nat×V)}{l vs:TV}{q:Ps}{ss:Ss}{t t1 t2:T}{ts:Ts}{v:V}
noncomputable abbrev CT:=Nat->List V->aw->(V->aw->Prop)->Prop
def Ev(C:CT)(L:aQ)(U:aw)(e:E)(v:V):Prop:=∀Q:V->aw->Prop,Q v U->bj tab C e L U Q
def Lz(C:CT)(L:aQ)(U:aw)(es:Es)(vs:TV):Prop:=∀Q:List V->aw->Prop,Q vs U->dN tab C es L U Q
def Tv(C:CT)(L:aQ)(U:aw)(t:T)(b:Bool):Prop:=∀Q:Bool->aw->Prop,Q b U->jm tab C t L U Q
def Pf(C:CT)(U:aw)(f:Nat)(vs:TV)(v:V):Prop:=∀Q:V->aw->Prop,Q v U->C f vs U Q
theorem cY(h:n<100000):n<bu:=Rc h (dR rfl)
theorem nf{P:Prop}(h:false=true):P:=nF h
theorem nt{P:Prop}(h:true=false):P:=nF h.symm
section
variable{C:CT}{i:E}{es:Es}{w:V}
theorem am:Ev C L U (.lit v p) v:=λ_ h=>h
theorem uC{i:Int}:Ev C L U (.neg i p q) (.int (-i)):=λ_ h=>h
theorem yk(k:tab.cst n=some v):Ev C L U (.glob n p) v:=λ_ h=>zz k h
theorem ag{x:Nm}(k:bJ L x.i=some v):Ev C L U (.loc x) v:=λ_ h=>ah k h
theorem Ak:Lz C L U .nil []:=λ_ h=>h
theorem be(h:Ev C L U e v)(k:Lz C L U es vs):Lz C L U (.cons e es) (v::vs):=λQ q=>h _ (k _ q)
theorem bz(h:Ev C L U e v):Lz C L U (.cons e .nil) [v]:=λQ q=>h _ q
theorem bW(h:Lz C L U es vs)(z:vs.length<=bu):Ev C L U (.tup es p) (.tup vs):=λQ k=>h _ #[z,k]
theorem ly{i j:Int}(hx:Ev C L U x (.int i))(hy:Ev C L U y (.int j)):Ev C L U (.bin .Add x y p) (.int (i+j)):=λQ k=>hx _ (hy _ k)
theorem IN{i j:Int}(hx:Ev C L U x (.int i))(hy:Ev C L U y (.int j)):Ev C L U (.bin .Sub x y p) (.int (i - j)):=λQ k=>hx _ (hy _ k)
theorem iY{i:Nat}(hx:Ev C L U x (.int i))(hy:Ev C L U y (.int j)):Ev C L U (.bin .BitOr x y p) (.int ((i ||| j:Nat):Int)):=λQ k=>hx _ (hy _ (Ja k))
theorem JR{i:Nat}(hx:Ev C L U x (.int i))(hy:Ev C L U y (.int j)):Ev C L U (.bin .BitAnd x y p) (.int ((i&&& j:Nat):Int)):=λQ k=>hx _ (hy _ (Eo k))
theorem Dj(hx:Ev C L U x (.int 1))(hy:Ev C L U y (.int j))(z:j<=1000):Ev C L U (.bin .LShift x y p) (.int ((2 ^ j:Nat):Int)):=λQ k=>hx _ (hy _ (MI z k))
theorem IO{i:Nat}(hx:Ev C L U x (.int i))(hy:Ev C L U y (.int j))(z:j<=1000):Ev C L U (.bin .RShift x y p) (.int ((i >>> j:Nat):Int)):=λQ k=>hx _ (hy _ (I7 z k))
theorem Dp{m:TV}(hx:Ev C L U x (.tup l))(hy:Ev C L U y (.tup m))(z:l.length+m.length<=bu):Ev C L U (.bin .Add x y p) (.tup (l++m)):=λQ k=>hx _ (hy _ (yU z k))
theorem aM{f:α->V}{l:List α}{z:α}(hx:Ev C L U x (.ref a))(hi:Ev C L U i (.int k))(h:U a=some (.list (l.map f)))(s:l.length<=100000)(g:l[k]?=some z):Ev C L U (.item x i p) (f z):=λQ q=>hx _ (hi _ (dz h (aH (aO s)) (kq (by rw[RF,g];rfl)) q))
theorem fY{k:Int}(hx:Ev C L U x (.tup l))(hi:Ev C L U i (.int k))(s:l.length<=bu)(g:cJ l k=some v):Ev C L U (.item x i p) v:=λQ q=>hx _ (hi _ (AL s g q))
theorem G2{es:TD}(hx:Ev C L U x (.ref a))(hi:Ev C L U i w)(h:U a=some (.dict es ep))(s:c6 es w)(g:fP es w=some v):Ev C L U (.item x i p) v:=λQ q=>hx _ (hi _ (HH h s g q))
theorem aE{m:Nat}(hx:Ev C L U x (.ref a))(I:cx U a c fs)(k:tZ c m)(g:fs.lookup m=some v):Ev C L U (.attr x m p) v:=λQ q=>zA (hx _ (yT I k g q))
theorem cR{f:α->V}{l:List α}(hx:Ev C L U x (.ref a))(h:U a=some (.list (l.map f)))(s:l.length<=100000):Ev C L U (.prim .len (.cons x .nil) p q) (.int l.length):=λQ k=>hx _ (I9 h (aH (aO s)) (by rw[Lt];show k))
theorem r7(hx:Ev C L U x (.tup l))(s:l.length<=bu):Ev C L U (.prim .len (.cons x .nil) p q) (.int l.length):=λQ k=>hx _ (Ek s k)
theorem LX{es:TD}{d u:V}(hx:Ev C L U x (.ref a))(hi:Ev C L U i w)(hd:Ev C L U y d)(h:U a=some (.dict es ep))(s:c6 es w)(g:(fP es w).getD d=u):Ev C L U (.U1 .get x (.cons i (.cons y .nil)) p q) u:=λQ k=>hx _ #[GR h (.inl rfl),hi _ (hd _ (gD h #[s,g▸k]))]
theorem r8{f:Nat}(h:Lz C L U es vs)(k:Pf C U f vs v):Ev C L U (.call f n es p q) v:=λQ r=>h _ (k _ r)
theorem iz{m f:Nat}(hx:Ev C L U x (.ref a))(I:cx U a c fs)(M:NK c m f)(nm:(fs.all λx=>x.1 != m)=true)(h:Lz C L U es vs)(k:Pf C U f (.ref a::vs) v):Ev C L U (.U5 m x es p q) v:=λQ r=>hx _ (dy I M nm (h _ (k _ r)))
theorem vd(h:Tv C L U t b):Ev C L U (.test t) (.bool b):=λQ q=>h _ q
theorem Do(h:Tv C L U t b)(h1:b=true->Ev C L U x v)(a:b=false->Ev C L U y v):Ev C L U (.ite t x y p) v:=λQ q=>h _ #[λc=>h1 c _ q,λc=>a c _ q]
variable{c:Bool}{j k:Int}
theorem lV(h:Ev C L U x (.bool b)):Tv C L U (.truth x) b:=λQ q=>h _ q
theorem LZ{f:α->V}{l:List α}(hx:Ev C L U x (.ref a))(h:U a=some (.list (l.map f)))(s:l.length<=100000):Tv C L U (.truth x) (!l.isEmpty):=λQ q=>hx _ (An h (aH (aO s)) (by rw[UC];show q))
theorem NT(h:Tv C L U t b):Tv C L U (.not t p) (!b):=λQ q=>h _ q
theorem vj(hx:Ev C L U x (.int j))(hy:Ev C L U y (.int k)):Tv C L U (.cmp .eq x y p) (decide (j=k)):=λQ q=>hx _ (hy _ q)
theorem BE(hx:Ev C L U x (.int j))(hy:Ev C L U y (.int k)):Tv C L U (.cmp .ne x y p) (!decide (j=k)):=λQ q=>hx _ (hy _ q)
theorem iE(hx:Ev C L U x (.int j))(hy:Ev C L U y (.int k)):Tv C L U (.cmp .lt x y p) (decide (j<k)):=λQ q=>hx _ (hy _ q)
theorem Ot(hx:Ev C L U x (.int j))(hy:Ev C L U y (.int k)):Tv C L U (.cmp .le x y p) (decide (j<=k)):=λQ q=>hx _ (hy _ q)
theorem yo(hx:Ev C L U x (.int j))(hy:Ev C L U y (.int k)):Tv C L U (.cmp .gt x y p) (decide (k<j)):=λQ q=>hx _ (hy _ q)
theorem pc(hx:Ev C L U x (.int j))(hy:Ev C L U y (.int k)):Tv C L U (.cmp .ge x y p) (decide (k<=j)):=λQ q=>hx _ (hy _ q)
theorem dr(h1:Tv C L U t1 b)(a:b=true->Tv C L U t2 c):Tv C L U (.all (.cons t1 (.cons t2 .nil)) p) (b&& c):=λQ q=>h1 _ #[λe=>by subst e;show a rfl _ #[λe=>by subst e;show q,λe=>by subst e;show q],λe=>by clear a h1;subst e;show q]
theorem uD(h1:Tv C L U t1 b)(a:b=false->Tv C L U t2 c):Tv C L U (.any (.cons t1 (.cons t2 .nil)) p) (b || c):=λQ q=>h1 _ #[λe=>by clear a h1;subst e;show q,λe=>by subst e;show a rfl _ #[λe=>by subst e;show q,λe=>by subst e;show q]]
end
section
variable{C:CT}{s1 s2:Ss}{i:E}{w:V}{Q:QF}
theorem aZ{n:Nm}(h:Ev C L U e v)(k:an tab C ss (L.set n.i (some v)) U Q):an tab C (.cons (.VF n e p) ss) L U Q:=h _ k
theorem cC(h:Tv C L U t b)(c:b=true->an tab C s1 L U (iF C ss Q))(a:b=false->an tab C s2 L U (iF C ss Q)):an tab C (.cons (.ite t s1 s2 p) ss) L U Q:=fZ (h _ #[c,a])
theorem eM{P:Prop}[Decidable P](h:Tv C L U t (decide P))(b:P->an tab C s1 L U (iF C ss Q))(a:¬P->an tab C s2 L U (iF C ss Q)):an tab C (.cons (.ite t s1 s2 p) ss) L U Q:=fZ (h _ #[λe=>b (RH e),λe=>a (R1 e)])
theorem qk{P:Prop}[Decidable P](h:Tv C L U t (!decide P))(b:¬P->an tab C s1 L U (iF C ss Q))(a:P->an tab C s2 L U (iF C ss Q)):an tab C (.cons (.ite t s1 s2 p) ss) L U Q:=fZ (h _ #[λe=>b (R1 ((SA _).mp e)),λe=>a (RH ((Bool.not_eq_false' _).mp e))])
theorem cB(h:Ev C L U e v)(k:Q (.ret v) L U):an tab C (.cons (.ret e p) ss) L U Q:=h _ k
theorem bE(k:Q .next L U):an tab C .nil L U (iF C .nil Q):=k
end
variable{L':aQ}{i:Nat}{bd:Ss}{fx m m1:TA}{o o':O}{x:Nat×O}{xs:TV}{Vt Vz V2 Wz X6 β:Type}{UX U0:aw}
structure aA(U0 U:aw)(m:TA):Prop where
 ext:bF U0 U
 nd:(m.map (·.1)).Nodup
 fr:∀x∈m,U0 x.1=none
 at_:∀x∈m,U x.1=some x.2
theorem cF{l:List α}(h:l.Nodup){a:α}(hi:l[i]?=some a)(d:l[j]?=some a):i=j:=by
 show az (RC.mp hi) λh1 e1=>?_;show az (RC.mp d) λb e2=>?_;let p:=List.pairwise_iff_getElem.mp h;rcases Nat.lt_trichotomy i j with c|c|c
 .show absurd (e1.trans e2.symm) (p i j h1 b c)
 .show c
 show absurd (e2.trans e1.symm) (p j i b h1 c)
section
variable{m':TA}
theorem aA.nil(U:aw):aA U U []:=#[bF.refl _,Un,(λ_ h=>n0 h),λ_ h=>n0 h]
theorem aA.get(h:aA U0 U m)(i:Nat)(k:m[i]?=some (a,o)):U a=some o:=h.at_ _ (Q4 k)
theorem aA.new(h:aA U0 U m)(a:U c=none)(o:O):aA U0 (bq U c o) ((c,o)::m):=by
 show#[h.ext.upd (h.ext.none a) o,R9.mpr #[λk=>?_,h.nd],λx hx=>?_,λx hx=>?_]
 .show aq (Re.mp k) λx hx e=>?_;let:=h.at_ x hx;rw[e,a]at this;show nS this
 .rcases RB.mp hx with rfl|hx
  .show h.ext.none a
  show h.fr x hx
 rcases RB.mp hx with rfl|hx
 .show aB ..
 show cX (h.at_ x hx) a
theorem Hk(k:m[i]?=some (a,o)):(m.set i (a,o')).map (·.1)=m.map (·.1):=by
 rw[US];apply Ug;ext j;rw[Uf];split
 .subst_vars;rw[RF,k,Lt,RO (ai k)];rfl
 rfl
set_option tactic.hygienic true in
theorem aA.set(h:aA U0 U m)(i:Nat)(k:m[i]?=some (a,o))(o':O):aA U0 (bq U a o') (m.set i (a,o')):=by
 let c:=h.fr _ (Q4 k);show#[h.ext.upd c o',by rw[Hk k];show h.nd,λx hx=>?_,λx hx=>?_]
 .rcases List.mem_or_eq_of_mem_set hx with hx|rfl
  .show h.fr x hx
  show c
 show az (RL.mp hx) λj b=>?_;rw[Uf]at b;split at b
 .split at b
  .clear hx;replace b:=Is b;cases b;show aB ..
  show nS b
 rename_i ne
 erw[vi]
 .show h.at_ x (Q4 b)
 show λe=>ne (cF h.nd (a:=a) (by rw[RF,k];rfl) (by rw[RF,b,<- e];rfl))
theorem aA.perm(h:aA U0 U m)(p:m.Perm m'):aA U0 U m':=#[h.ext,(p.map _).nodup_iff.mp h.nd,λx hx=>h.fr x (p.mem_iff.mpr hx),λx hx=>h.at_ x (p.mem_iff.mpr hx)]
theorem aA.sub(h:aA U0 U m)(p:m'.Sublist m):aA U0 U m':=#[h.ext,(p.map _).nodup h.nd,λx hx=>h.fr x (p.subset hx),λx hx=>h.at_ x (p.subset hx)]
theorem aA.tl(h:aA U0 U (x::m)):aA U0 U m:=h.sub (T4 ..)
theorem aA.hd(h:aA U0 U (x::m)):U x.1=some x.2:=h.at_ x (.head _)
theorem aA.app(h:aA U0 U m)(k:aA U UX m'):aA U0 UX (m'++m):=by
 show#[h.ext.trans k.ext,?_,λx hx=>?_,λx hx=>?_]
 .erw[Rd,R3];show#[k.nd,h.nd,λa d b c e=>?_];show aq (Re.mp d) ?_;ext x hx rfl;show aq (Re.mp c) ?_;ext y hy rfl;let:=h.at_ y hy;rw[<- e,k.fr x hx]at this;show nS this
 .rcases Ra.mp hx with hx|hx
  .show h.ext.none (k.fr x hx)
  show h.fr x hx
 rcases Ra.mp hx with hx|hx
 .show k.at_ x hx
 show k.ext _ _ (h.at_ x hx)
theorem aA.exts(h:aA U0 U m)(k:bF U UX):aA U0 UX m:=#[h.ext.trans k,h.nd,h.fr,λx hx=>k _ _ (h.at_ x hx)]
set_option tactic.hygienic true in
theorem aA.WK(h:aA U0 U (x::m)):bF U0 (bq U0 x.1 x.2)/\aA (bq U0 x.1 x.2) U m:=by
 show#[(bF.refl _).upd (h.fr x (.head _)) _,λa o e=>?_,h.tl.nd,λy hy=>?_,h.tl.at_]
 .unfold bq at e;split at e
  .rename_i q;replace e:=Is e;cases e;rw[q];show h.hd
  show h.ext a o e
 erw[vi]
 .show h.tl.fr y hy
 ext e;let:=(R9.mp h.nd).1;show this (Re.mpr #[y,hy,e])
variable{Vb:List α}{f:α->Nat×O}
theorem sX(fx:TA){x:α}(k:Vb[j]?=some x):(fx++Vb.map f)[fx.length+j]?=some (f x):=by rw[Ro (Ri ..),SX,RF,k];rfl
theorem aA.Zk(h:aA U0 U (fx++Vb.map f)){x:α}(k:Vb[j]?=some x):U (f x).1=some (f x).2:=h.get _ (sX fx k)
theorem aA.a0M(h:aA U0 U (fx++Vb.map f)){x:α}(k:Vb[j]?=some x)(y:α)(e:(f y).1=(f x).1):aA U0 (bq U (f x).1 (f y).2) (fx++(Vb.set j y).map f):=by let:=h.set _ (sX fx k) (f y).2;rw[UW _ _ (Ri ..),SX,<- e,show((f y).1,(f y).2)=f y from rfl,<- US]at this;rw[<- e];show this
theorem aA.a0w(h:aA U0 U (fx++Vb.map f))(a:U c=none)(y:α)(e:(f y).1=c):aA U0 (bq U c (f y).2) (fx++(Vb++[y]).map f):=by let:=h.new a (f y).2;show this.perm ?_;rw[Rd,<- e,<- Rz];show(List.perm_append_singleton ..).symm
end
theorem aA.W9(h:aA U0 U (m1++m)):∃UY,bF U0 UY/\(∀x∈m1,UY x.1=some x.2)/\aA UY U m
 := by
  induction m1 generalizing U0 with
  |nil=>show#[U0,bF.refl _,(λ_ h=>n0 h),h]
  |cons x m1 b=>
    show ao (aA.WK h) λe k=>bS (b k) λUY e1 a o=>#[UY,e.trans e1,λy hy=>?_,o];clear k e h;rcases RB.mp hy with rfl|hy
    · show e1 _ _ (aB ..)
    show a y hy
theorem aA.bs{m':TA}(h:aA U0 U m)(k:aA U UX m'):aA U0 UX m':=(h.app k).sub (List.sublist_append_left ..)
section
variable{C:QC}{Q:QF}
theorem cK{t:Tx}{b:Ss}(a:lA t v L=some L')(h:an tab C b L' U Q):tg C t b v L U Q:=by change bA _ _;rw[a];show h
theorem bC{f:α->β}{l:List α}{x:β}(h:(l.map f)[k]?=some x):∃y,l[k]?=some y/\x=f y:=by rw[RF]at h;show aq (SO.mp h) λy e h=>#[y,e,h.symm]
theorem rT{x:V}(h:((List.range n).map λ(i:Nat)=>V.int (i:Int))[k]?=some x):k<n/\x=.int k:=by show aq (bC h) ?_;clear h;ext y e rfl;show az (RC.mp e) λh1 a=>?_;rw[RN]at h1;rw[List.getElem_range]at a;show#[h1,by rw[a]]
end
section
variable{g:aw->Prop}{st:V->aQ->aw->(Fl->aQ->aw->Prop)->Prop}{Q:QF}{C:CT}{a0:Vt}{a1:Vz}{a2:V2}{a3:Wz}{a4:X6}
theorem pH(Lf:Nat->Vt->aQ)(J:Nat->Vt->aw->Prop)(h0:J 0 a0 U)(a:∀{k b0 U},J k b0 U->g U)(last:∀{b0 U},J xs.length b0 U->Q .next (Lf xs.length b0) U)
  (step:∀{k x a0 U K},xs[k]?=some x->J k a0 U->(∀{b0 UX},J (k+1) b0 UX->K .next (Lf (k+1) b0) UX)->(∀{v L UX},Q (.ret v) L UX->K (.ret v) L UX)->st x (Lf k a0) U K):fM g st xs (Lf 0 a0) U Q:=by
 induction xs generalizing Lf J a0 U with
 |nil=>show#[a h0,last h0]
 |cons x xs c=>show#[a h0,step rfl h0 (λh=>c (λk=>Lf (k+1)) (λk=>J (k+1)) h a last λ{k}{x}{b}{U}{K} hx=>step hx) λh=>h]
theorem jR(Lf:Nat->Vt->Vz->aQ)(J:Nat->Vt->Vz->aw->Prop)(h0:J 0 a0 a1 U)(b:∀{k b0 b1 U},J k b0 b1 U->g U)(last:∀{b0 b1 U},J xs.length b0 b1 U->Q .next (Lf xs.length b0 b1) U)
  (step:∀{k x a0 a1 U K},xs[k]?=some x->J k a0 a1 U->(∀{b0 b1 UX},J (k+1) b0 b1 UX->K .next (Lf (k+1) b0 b1) UX)->(∀{v L UX},Q (.ret v) L UX->K (.ret v) L UX)->st x (Lf k a0 a1) U K):fM g st xs (Lf 0 a0 a1) U Q:=
 pH (a0:=(a0,a1)) (λk p=>Lf k p.1 p.2) (λk p=>J k p.1 p.2) h0 b last λhx j go a=>step hx j (λ{b0 b1}{UX} h=>go (b0:=(b0,b1)) h) a
theorem eZ(Lf:Nat->Vt->Vz->V2->aQ)(J:Nat->Vt->Vz->V2->aw->Prop)(h0:J 0 a0 a1 a2 U)(b:∀{k b0 b1 b2 U},J k b0 b1 b2 U->g U)(last:∀{b0 b1 b2 U},J xs.length b0 b1 b2 U->Q .next (Lf xs.length b0 b1 b2) U)
  (step:∀{k x a0 a1 a2 U K},xs[k]?=some x->J k a0 a1 a2 U->(∀{b0 b1 b2 UX},J (k+1) b0 b1 b2 UX->K .next (Lf (k+1) b0 b1 b2) UX)->(∀{v L UX},Q (.ret v) L UX->K (.ret v) L UX)->st x (Lf k a0 a1 a2) U K):fM g st xs (Lf 0 a0 a1 a2) U Q:=
 pH (a0:=(a0,a1,a2)) (λk p=>Lf k p.1 p.2.1 p.2.2) (λk p=>J k p.1 p.2.1 p.2.2) h0 b last λhx j go a=>step hx j (λ{b0 b1 b2}{UX} h=>go (b0:=(b0,b1,b2)) h) a
theorem eY(Lf:Nat->Vt->Vz->V2->Wz->aQ)(J:Nat->Vt->Vz->V2->Wz->aw->Prop)(h0:J 0 a0 a1 a2 a3 U)(b:∀{k b0 b1 b2 b3 U},J k b0 b1 b2 b3 U->g U)(last:∀{b0 b1 b2 b3 U},J xs.length b0 b1 b2 b3 U->Q .next (Lf xs.length b0 b1 b2 b3) U)
  (step:∀{k x a0 a1 a2 a3 U K},xs[k]?=some x->J k a0 a1 a2 a3 U->(∀{b0 b1 b2 b3 UX},J (k+1) b0 b1 b2 b3 UX->K .next (Lf (k+1) b0 b1 b2 b3) UX)->(∀{v L UX},Q (.ret v) L UX->K (.ret v) L UX)->st x (Lf k a0 a1 a2 a3) U K):fM g st xs (Lf 0 a0 a1 a2 a3) U Q:=
 pH (a0:=(a0,a1,a2,a3)) (λk p=>Lf k p.1 p.2.1 p.2.2.1 p.2.2.2) (λk p=>J k p.1 p.2.1 p.2.2.1 p.2.2.2) h0 b last λhx j go a=>step hx j (λ{b0 b1 b2 b3}{UX} h=>go (b0:=(b0,b1,b2,b3)) h) a
theorem c7(Lf:Nat->Vt->Vz->V2->Wz->X6->aQ)(J:Nat->Vt->Vz->V2->Wz->X6->aw->Prop)(h0:J 0 a0 a1 a2 a3 a4 U)(b:∀{k b0 b1 b2 b3 b4 U},J k b0 b1 b2 b3 b4 U->g U)(last:∀{b0 b1 b2 b3 b4 U},J xs.length b0 b1 b2 b3 b4 U->Q .next (Lf xs.length b0 b1 b2 b3 b4) U)
  (step:∀{k x a0 a1 a2 a3 a4 U K},xs[k]?=some x->J k a0 a1 a2 a3 a4 U->(∀{b0 b1 b2 b3 b4 UX},J (k+1) b0 b1 b2 b3 b4 UX->K .next (Lf (k+1) b0 b1 b2 b3 b4) UX)->(∀{v L UX},Q (.ret v) L UX->K (.ret v) L UX)->st x (Lf k a0 a1 a2 a3 a4) U K):fM g st xs (Lf 0 a0 a1 a2 a3 a4) U Q:=
 pH (a0:=(a0,a1,a2,a3,a4)) (λk p=>Lf k p.1 p.2.1 p.2.2.1 p.2.2.2.1 p.2.2.2.2) (λk p=>J k p.1 p.2.1 p.2.2.1 p.2.2.2.1 p.2.2.2.2) h0 b last λhx j go a=>step hx j (λ{b0 b1 b2 b3 b4}{UX} h=>go (b0:=(b0,b1,b2,b3,b4)) h) a
theorem vY(Lf:Nat->Vt->aQ)(J:Nat->Vt->aw->Prop)(h0:J 0 a0 U)(a:∀{k b0 U},J k b0 U->g U)(last:∀{b0 U},J xs.length b0 U->Q .next (Lf xs.length b0) U)
  (step:∀{k x a0 U K},xs[k]?=some x->J k a0 U->(∀{b0 UX},J (k+1) b0 UX->K .next (Lf (k+1) b0) UX)->(∀{b0 UX},J (k+1) b0 UX->K .cont (Lf (k+1) b0) UX)->(∀{v L UX},Q (.ret v) L UX->K (.ret v) L UX)->st x (Lf k a0) U K):fM g st xs (Lf 0 a0) U Q:=by
 induction xs generalizing Lf J a0 U with
 |nil=>show#[a h0,last h0]
 |cons x xs c=>show#[a h0,step rfl h0 (λh=>c (λk=>Lf (k+1)) (λk=>J (k+1)) h a last λ{k}{x}{b}{U}{K} hx=>step hx) (λh=>c (λk=>Lf (k+1)) (λk=>J (k+1)) h a last λ{k}{x}{b}{U}{K} hx=>step hx) λh=>h]
theorem Oc(Lf:Nat->Vt->Vz->aQ)(J:Nat->Vt->Vz->aw->Prop)(h0:J 0 a0 a1 U)(b:∀{k b0 b1 U},J k b0 b1 U->g U)(last:∀{b0 b1 U},J xs.length b0 b1 U->Q .next (Lf xs.length b0 b1) U)
  (step:∀{k x a0 a1 U K},xs[k]?=some x->J k a0 a1 U->(∀{b0 b1 UX},J (k+1) b0 b1 UX->K .next (Lf (k+1) b0 b1) UX)->(∀{b0 b1 UX},J (k+1) b0 b1 UX->K .cont (Lf (k+1) b0 b1) UX)->(∀{v L UX},Q (.ret v) L UX->K (.ret v) L UX)->st x (Lf k a0 a1) U K):fM g st xs (Lf 0 a0 a1) U Q:=
 vY (a0:=(a0,a1)) (λk p=>Lf k p.1 p.2) (λk p=>J k p.1 p.2) h0 b last λhx j go go2 a=>step hx j (λ{b0 b1}{UX} h=>go (b0:=(b0,b1)) h) (λ{b0 b1}{UX} h=>go2 (b0:=(b0,b1)) h) a
theorem Ij(Lf:Nat->Vt->Vz->V2->aQ)(J:Nat->Vt->Vz->V2->aw->Prop)(h0:J 0 a0 a1 a2 U)(b:∀{k b0 b1 b2 U},J k b0 b1 b2 U->g U)(last:∀{b0 b1 b2 U},J xs.length b0 b1 b2 U->Q .next (Lf xs.length b0 b1 b2) U)
  (step:∀{k x a0 a1 a2 U K},xs[k]?=some x->J k a0 a1 a2 U->(∀{b0 b1 b2 UX},J (k+1) b0 b1 b2 UX->K .next (Lf (k+1) b0 b1 b2) UX)->(∀{b0 b1 b2 UX},J (k+1) b0 b1 b2 UX->K .cont (Lf (k+1) b0 b1 b2) UX)->(∀{v L UX},Q (.ret v) L UX->K (.ret v) L UX)->st x (Lf k a0 a1 a2) U K):fM g st xs (Lf 0 a0 a1 a2) U Q:=
 vY (a0:=(a0,a1,a2)) (λk p=>Lf k p.1 p.2.1 p.2.2) (λk p=>J k p.1 p.2.1 p.2.2) h0 b last λhx j go go2 a=>step hx j (λ{b0 b1 b2}{UX} h=>go (b0:=(b0,b1,b2)) h) (λ{b0 b1 b2}{UX} h=>go2 (b0:=(b0,b1,b2)) h) a
theorem Oa(Lf:Nat->Vt->Vz->V2->Wz->aQ)(J:Nat->Vt->Vz->V2->Wz->aw->Prop)(h0:J 0 a0 a1 a2 a3 U)(b:∀{k b0 b1 b2 b3 U},J k b0 b1 b2 b3 U->g U)(last:∀{b0 b1 b2 b3 U},J xs.length b0 b1 b2 b3 U->Q .next (Lf xs.length b0 b1 b2 b3) U)
  (step:∀{k x a0 a1 a2 a3 U K},xs[k]?=some x->J k a0 a1 a2 a3 U->(∀{b0 b1 b2 b3 UX},J (k+1) b0 b1 b2 b3 UX->K .next (Lf (k+1) b0 b1 b2 b3) UX)->(∀{b0 b1 b2 b3 UX},J (k+1) b0 b1 b2 b3 UX->K .cont (Lf (k+1) b0 b1 b2 b3) UX)->(∀{v L UX},Q (.ret v) L UX->K (.ret v) L UX)->st x (Lf k a0 a1 a2 a3) U K):fM g st xs (Lf 0 a0 a1 a2 a3) U Q:=
 vY (a0:=(a0,a1,a2,a3)) (λk p=>Lf k p.1 p.2.1 p.2.2.1 p.2.2.2) (λk p=>J k p.1 p.2.1 p.2.2.1 p.2.2.2) h0 b last λhx j go go2 a=>step hx j (λ{b0 b1 b2 b3}{UX} h=>go (b0:=(b0,b1,b2,b3)) h) (λ{b0 b1 b2 b3}{UX} h=>go2 (b0:=(b0,b1,b2,b3)) h) a
theorem vt(Lf:Vt->aQ)(a:Vt->Nat)(J:Vt->aw->Prop)(h0:J a0 U)
  (step:∀{a0 U K},J a0 U->(∀{b0 UX},J b0 UX->a b0<a a0->K .next (Lf b0) UX)->(∀{v L UX},Q (.ret v) L UX->K (.ret v) L UX)->jm tab C t (Lf a0) U λr UX=>(r=true->an tab C bd (Lf a0) UX K)/\(r=false->an tab C ss (Lf a0) UX Q)):an tab C (.cons (.while t bd p) ss) (Lf a0) U Q:=
 vu (λn L U=>∃x,n=a x/\L=Lf x/\J x U) (a a0) #[a0,rfl,rfl,h0] λn L U h=>h.elim λx h=>h.1▸h.2.1▸step h.2.2 (λ{b0}{UX} h l=>#[a b0,l,b0,rfl,rfl,h]) λh=>h
theorem Oy(Lf:Vt->Vz->aQ)(a:Vt->Vz->Nat)(J:Vt->Vz->aw->Prop)(h0:J a0 a1 U)
  (step:∀{a0 a1 U K},J a0 a1 U->(∀{b0 b1 UX},J b0 b1 UX->a b0 b1<a a0 a1->K .next (Lf b0 b1) UX)->(∀{v L UX},Q (.ret v) L UX->K (.ret v) L UX)->jm tab C t (Lf a0 a1) U λr UX=>(r=true->an tab C bd (Lf a0 a1) UX K)/\(r=false->an tab C ss (Lf a0 a1) UX Q)):an tab C (.cons (.while t bd p) ss) (Lf a0 a1) U Q:=
 vt (a0:=(a0,a1)) (λp=>Lf p.1 p.2) (λp=>a p.1 p.2) (λp=>J p.1 p.2) h0 λj go b=>step j (λ{b0 b1}{UX} h=>go (b0:=(b0,b1)) h) b
theorem Ox(Lf:Vt->Vz->V2->aQ)(a:Vt->Vz->V2->Nat)(J:Vt->Vz->V2->aw->Prop)(h0:J a0 a1 a2 U)
  (step:∀{a0 a1 a2 U K},J a0 a1 a2 U->(∀{b0 b1 b2 UX},J b0 b1 b2 UX->a b0 b1 b2<a a0 a1 a2->K .next (Lf b0 b1 b2) UX)->(∀{v L UX},Q (.ret v) L UX->K (.ret v) L UX)->jm tab C t (Lf a0 a1 a2) U λr UX=>(r=true->an tab C bd (Lf a0 a1 a2) UX K)/\(r=false->an tab C ss (Lf a0 a1 a2) UX Q)):an tab C (.cons (.while t bd p) ss) (Lf a0 a1 a2) U Q:=
 vt (a0:=(a0,a1,a2)) (λp=>Lf p.1 p.2.1 p.2.2) (λp=>a p.1 p.2.1 p.2.2) (λp=>J p.1 p.2.1 p.2.2) h0 λj go b=>step j (λ{b0 b1 b2}{UX} h=>go (b0:=(b0,b1,b2)) h) b
theorem DN(Lf:Vt->Vz->V2->Wz->aQ)(a:Vt->Vz->V2->Wz->Nat)(J:Vt->Vz->V2->Wz->aw->Prop)(h0:J a0 a1 a2 a3 U)
  (step:∀{a0 a1 a2 a3 U K},J a0 a1 a2 a3 U->(∀{b0 b1 b2 b3 UX},J b0 b1 b2 b3 UX->a b0 b1 b2 b3<a a0 a1 a2 a3->K .next (Lf b0 b1 b2 b3) UX)->(∀{v L UX},Q (.ret v) L UX->K (.ret v) L UX)->jm tab C t (Lf a0 a1 a2 a3) U λr UX=>(r=true->an tab C bd (Lf a0 a1 a2 a3) UX K)/\(r=false->an tab C ss (Lf a0 a1 a2 a3) UX Q)):an tab C (.cons (.while t bd p) ss) (Lf a0 a1 a2 a3) U Q:=
 vt (a0:=(a0,a1,a2,a3)) (λp=>Lf p.1 p.2.1 p.2.2.1 p.2.2.2) (λp=>a p.1 p.2.1 p.2.2.1 p.2.2.2) (λp=>J p.1 p.2.1 p.2.2.1 p.2.2.2) h0 λj go b=>step j (λ{b0 b1 b2 b3}{UX} h=>go (b0:=(b0,b1,b2,b3)) h) b
theorem sk(Lf:Vt->Vz->V2->Wz->X6->aQ)(a:Vt->Vz->V2->Wz->X6->Nat)(J:Vt->Vz->V2->Wz->X6->aw->Prop)(h0:J a0 a1 a2 a3 a4 U)
  (step:∀{a0 a1 a2 a3 a4 U K},J a0 a1 a2 a3 a4 U->(∀{b0 b1 b2 b3 b4 UX},J b0 b1 b2 b3 b4 UX->a b0 b1 b2 b3 b4<a a0 a1 a2 a3 a4->K .next (Lf b0 b1 b2 b3 b4) UX)->(∀{v L UX},Q (.ret v) L UX->K (.ret v) L UX)->jm tab C t (Lf a0 a1 a2 a3 a4) U λr UX=>(r=true->an tab C bd (Lf a0 a1 a2 a3 a4) UX K)/\(r=false->an tab C ss (Lf a0 a1 a2 a3 a4) UX Q)):an tab C (.cons (.while t bd p) ss) (Lf a0 a1 a2 a3 a4) U Q:=
 vt (a0:=(a0,a1,a2,a3,a4)) (λp=>Lf p.1 p.2.1 p.2.2.1 p.2.2.2.1 p.2.2.2.2) (λp=>a p.1 p.2.1 p.2.2.1 p.2.2.2.1 p.2.2.2.2) (λp=>J p.1 p.2.1 p.2.2.1 p.2.2.2.1 p.2.2.2.2) h0 λj go b=>step j (λ{b0 b1 b2 b3 b4}{UX} h=>go (b0:=(b0,b1,b2,b3,b4)) h) b
theorem rS(Lf:Vt->aQ)(a:Vt->Nat)(J:Vt->aw->Prop)(h0:J a0 U)
  (step:∀{a0 U K},J a0 U->(∀{b0 UX},J b0 UX->a b0<a a0->K .next (Lf b0) UX)->(∀{b0 UX},J b0 UX->a b0<a a0->K .cont (Lf b0) UX)->(∀{v L UX},Q (.ret v) L UX->K (.ret v) L UX)->jm tab C t (Lf a0) U λr UX=>(r=true->an tab C bd (Lf a0) UX K)/\(r=false->an tab C ss (Lf a0) UX Q)):an tab C (.cons (.while t bd p) ss) (Lf a0) U Q:=
 vu (λn L U=>∃x,n=a x/\L=Lf x/\J x U) (a a0) #[a0,rfl,rfl,h0] λn L U h=>h.elim λx h=>h.1▸h.2.1▸step h.2.2 (λ{b0}{UX} h l=>#[a b0,l,b0,rfl,rfl,h]) (λ{b0}{UX} h l=>#[a b0,l,b0,rfl,rfl,h]) λh=>h
theorem NY(Lf:Vt->Vz->aQ)(a:Vt->Vz->Nat)(J:Vt->Vz->aw->Prop)(h0:J a0 a1 U)
  (step:∀{a0 a1 U K},J a0 a1 U->(∀{b0 b1 UX},J b0 b1 UX->a b0 b1<a a0 a1->K .next (Lf b0 b1) UX)->(∀{b0 b1 UX},J b0 b1 UX->a b0 b1<a a0 a1->K .cont (Lf b0 b1) UX)->(∀{v L UX},Q (.ret v) L UX->K (.ret v) L UX)->jm tab C t (Lf a0 a1) U λr UX=>(r=true->an tab C bd (Lf a0 a1) UX K)/\(r=false->an tab C ss (Lf a0 a1) UX Q)):an tab C (.cons (.while t bd p) ss) (Lf a0 a1) U Q:=
 rS (a0:=(a0,a1)) (λp=>Lf p.1 p.2) (λp=>a p.1 p.2) (λp=>J p.1 p.2) h0 λj go go2 b=>step j (λ{b0 b1}{UX} h=>go (b0:=(b0,b1)) h) (λ{b0 b1}{UX} h=>go2 (b0:=(b0,b1)) h) b
theorem NX(Lf:Vt->Vz->V2->aQ)(a:Vt->Vz->V2->Nat)(J:Vt->Vz->V2->aw->Prop)(h0:J a0 a1 a2 U)
  (step:∀{a0 a1 a2 U K},J a0 a1 a2 U->(∀{b0 b1 b2 UX},J b0 b1 b2 UX->a b0 b1 b2<a a0 a1 a2->K .next (Lf b0 b1 b2) UX)->(∀{b0 b1 b2 UX},J b0 b1 b2 UX->a b0 b1 b2<a a0 a1 a2->K .cont (Lf b0 b1 b2) UX)->(∀{v L UX},Q (.ret v) L UX->K (.ret v) L UX)->jm tab C t (Lf a0 a1 a2) U λr UX=>(r=true->an tab C bd (Lf a0 a1 a2) UX K)/\(r=false->an tab C ss (Lf a0 a1 a2) UX Q)):an tab C (.cons (.while t bd p) ss) (Lf a0 a1 a2) U Q:=
 rS (a0:=(a0,a1,a2)) (λp=>Lf p.1 p.2.1 p.2.2) (λp=>a p.1 p.2.1 p.2.2) (λp=>J p.1 p.2.1 p.2.2) h0 λj go go2 b=>step j (λ{b0 b1 b2}{UX} h=>go (b0:=(b0,b1,b2)) h) (λ{b0 b1 b2}{UX} h=>go2 (b0:=(b0,b1,b2)) h) b
theorem Hn(Lf:Vt->Vz->V2->Wz->aQ)(a:Vt->Vz->V2->Wz->Nat)(J:Vt->Vz->V2->Wz->aw->Prop)(h0:J a0 a1 a2 a3 U)
  (step:∀{a0 a1 a2 a3 U K},J a0 a1 a2 a3 U->(∀{b0 b1 b2 b3 UX},J b0 b1 b2 b3 UX->a b0 b1 b2 b3<a a0 a1 a2 a3->K .next (Lf b0 b1 b2 b3) UX)->(∀{b0 b1 b2 b3 UX},J b0 b1 b2 b3 UX->a b0 b1 b2 b3<a a0 a1 a2 a3->K .cont (Lf b0 b1 b2 b3) UX)->(∀{v L UX},Q (.ret v) L UX->K (.ret v) L UX)->jm tab C t (Lf a0 a1 a2 a3) U λr UX=>(r=true->an tab C bd (Lf a0 a1 a2 a3) UX K)/\(r=false->an tab C ss (Lf a0 a1 a2 a3) UX Q)):an tab C (.cons (.while t bd p) ss) (Lf a0 a1 a2 a3) U Q:=
 rS (a0:=(a0,a1,a2,a3)) (λp=>Lf p.1 p.2.1 p.2.2.1 p.2.2.2) (λp=>a p.1 p.2.1 p.2.2.1 p.2.2.2) (λp=>J p.1 p.2.1 p.2.2.1 p.2.2.2) h0 λj go go2 b=>step j (λ{b0 b1 b2 b3}{UX} h=>go (b0:=(b0,b1,b2,b3)) h) (λ{b0 b1 b2 b3}{UX} h=>go2 (b0:=(b0,b1,b2,b3)) h) b
theorem Hm(Lf:Vt->Vz->V2->Wz->X6->aQ)(a:Vt->Vz->V2->Wz->X6->Nat)(J:Vt->Vz->V2->Wz->X6->aw->Prop)(h0:J a0 a1 a2 a3 a4 U)
  (step:∀{a0 a1 a2 a3 a4 U K},J a0 a1 a2 a3 a4 U->(∀{b0 b1 b2 b3 b4 UX},J b0 b1 b2 b3 b4 UX->a b0 b1 b2 b3 b4<a a0 a1 a2 a3 a4->K .next (Lf b0 b1 b2 b3 b4) UX)->(∀{b0 b1 b2 b3 b4 UX},J b0 b1 b2 b3 b4 UX->a b0 b1 b2 b3 b4<a a0 a1 a2 a3 a4->K .cont (Lf b0 b1 b2 b3 b4) UX)->(∀{v L UX},Q (.ret v) L UX->K (.ret v) L UX)->jm tab C t (Lf a0 a1 a2 a3 a4) U λr UX=>(r=true->an tab C bd (Lf a0 a1 a2 a3 a4) UX K)/\(r=false->an tab C ss (Lf a0 a1 a2 a3 a4) UX Q)):an tab C (.cons (.while t bd p) ss) (Lf a0 a1 a2 a3 a4) U Q:=
 rS (a0:=(a0,a1,a2,a3,a4)) (λp=>Lf p.1 p.2.1 p.2.2.1 p.2.2.2.1 p.2.2.2.2) (λp=>a p.1 p.2.1 p.2.2.1 p.2.2.2.1 p.2.2.2.2) (λp=>J p.1 p.2.1 p.2.2.1 p.2.2.2.1 p.2.2.2.2) h0 λj go go2 b=>step j (λ{b0 b1 b2 b3 b4}{UX} h=>go (b0:=(b0,b1,b2,b3,b4)) h) (λ{b0 b1 b2 b3 b4}{UX} h=>go2 (b0:=(b0,b1,b2,b3,b4)) h) b
end
variable{ra:Nat}{x:E}{es:TD}{g:Gm}{lv:V}{n:Nm}{r:TN}{γ:Type}
section
variable{C:CT}{r:Ps}{Q:QF}{f:α->V}{l:List α}{z:α}
theorem de(hx:Ev C L U x (.ref a))(hy:Ev C L U y (f z))(O:aA U0 U m)(i:Nat)(k:m[i]?=some (a,.list (l.map f)))(s:l.length<100000)(q':∀UX,aA U0 UX (m.set i (a,.list ((l++[z]).map f)))->an tab C ss L UX Q):an tab C (.cons (.expr (.U1 .append x (.cons y .nil) p q) r) ss) L U Q:=by
 let h:=O.get i k;show dO<|cb<|hx _ #[cg h,aj<|hy _<|dF h ?_<|fc<|q' _ ?_]
 .rw[Lt];show cY s
 let:=O.set i k (.list (l.map f++[f z]));rw[Rd];show this
theorem lB{i':E}(hy:Ev C L U y (f z))(hx:Ev C L U x (.ref a))(hi:Ev C L U i' (.int j))(O:aA U0 U m)(i:Nat)(k:m[i]?=some (a,.list (l.map f)))(lt:j<l.length)(s:l.length<=100000)(q':∀UX,aA U0 UX (m.set i (a,.list ((l.set j z).map f)))->an tab C ss L UX Q):an tab C (.cons (.Ve x i' p y q) ss) L U Q:=by
 show hy _ (hx _ (hi _ (JK (O.get i k) ?_ (aH (aO s)) (q' _ ?_))))
 .rw[Lt];show lt
 let:=O.set i k (.list ((l.map f).set j (f z)));rw[US];show this
theorem J7{i':E}{κ:V}(hy:Ev C L U y v)(hx:Ev C L U x (.ref a))(hi:Ev C L U i' κ)(O:aA U0 U m)(i:Nat)(k:m[i]?=some (a,.dict es ep))(b:c6 es κ)(s:es.length<bu)(q':∀VE UX,aA U0 UX (m.set i (a,.dict (eG es κ v) VE))->an tab C ss L UX Q):an tab C (.cons (.Ve x i' p y q) ss) L U Q:=hy _ (hx _ (hi _ (jB (O.get i k) b s (q' _ _ (O.set i k _)))))
theorem gE(O:aA U0 U m)(k:∀c UX,aA U0 UX ((c,.list [])::m)->an tab C ss (L.set n.i (some (.ref c))) UX Q):an tab C (.cons (.VF n (.list .nil p) q) ss) L U Q:=aC<|bT λc a=>k c _ (O.new a _)
theorem l4(O:aA U0 U m)(k:∀c ep UX,aA U0 UX ((c,.dict [] ep)::m)->an tab C ss (L.set n.i (some (.ref c))) UX Q):an tab C (.cons (.VF n (.Vf p) q) ss) L U Q:=aC<|dC λc ep a=>k c ep _ (O.new a _)
theorem AA(hx:Ev C L U x v)(O:aA U0 U m)(h:b9 U v=some (l.map f))(s:l.length<=100000)(k:∀c UX,aA U0 UX ((c,.list (l.map f))::m)->an tab C ss (L.set n.i (some (.ref c))) UX Q):an tab C (.cons (.VF n (.prim .list (.cons x .nil) p q) r) ss) L U Q:=aC<|aP<|hx _<|vz h (aH (aO s)) λc a=>k c _ (O.new a _)
end
noncomputable def fL(f:α->V)(x:Nat×List α):Nat×O:=(x.1,.list (x.2.map f))
theorem vS{g:α->Nat×O}{fx:TA}{Vb:List α}{y:α}{x:Nat×O}(e:g y=x):(fx++Vb.map g).set (fx.length+j) x=fx++(Vb.set j y).map g:=by rw[UW _ _ (Ri ..),SX,US,e]
theorem vP{Vb:List (Nat×β)}{us:TN}(h:Vb.map (·.1)=us)(a:k<us.length):∃u c,Vb[k]?=some (u,c)/\us[k]?=some u:=by rw[<- h,Lt]at a;show#[_,_,Rg a,by rw[<- h,RF,Rg a];rfl]
theorem vO{Vb:List (γ×β)}{us:List γ}{u:γ}{c b:β}(h:Vb.map (·.1)=us)(e:Vb[k]?=some (u,c)):(Vb.set k (u,b)).map (·.1)=us:=by rw[<- h,US];show az (RC.mp e) λh1 a=>?_;conv=>rhs;rw[<- List.set_getElem_self h1,US,a]
theorem vn{Vb:List β}{v x:β}(h:(Vb.set k v)[j]?=some x):(j=k/\x=v)\/(j≠k/\Vb[j]?=some x):=by
 rw[Uf]at h;by_cases e:k=j
 .rw[RO e]at h;show .inl #[e.symm,?_];split at h
  .show(Is h).symm
  show nS h
 rw[RX e]at h;show .inr #[λq=>e q.symm,h]
theorem ax{r:List α}{s:α}(h:r[j]?=some s):r.take (j+1)=r.take j++[s]:=by rw[List.take_add_one,h];rfl
theorem bR{r:List α}{s:α}(h:r[j]?=some s):r.drop j=s::r.drop (j+1):=by show az (RC.mp h) λh1 a=>?_;rw[UE h1,a]
theorem ku{h:Gh}(G:bh U0 g h){x:V}(hx:(h.rs.map V.ref)[k]?=some x){C:CT}{nm:Nm}{b:Ss}{K:QF}(q:∀{l r ra},g.rules[k]?=some (l,r)->cx U0 ra 87 (BX k l r (h.lvl k))->an tab C b (L.set nm.i (some (.ref ra))) U K):tg C (.nm nm) b x L U K:=by
 show aq (bC hx) ?_;clear hx;ext ra e rfl;let a:k<g.rules.length:=by rw[<- G.Xz];show ai e
 show aq (G.ru _ _ _ (Rg a)) λra' c hi=>?_;rw[e]at c;cases c;show q (Rg a) hi
theorem el{f:α->V}{l:List α}{x:V}(hx:(l.map f)[k]?=some x){C:CT}{nm:Nm}{b:Ss}{K:QF}(q:∀{y},l[k]?=some y->an tab C b (L.set nm.i (some (f y))) U K):tg C (.nm nm) b x L U K:=by show aq (bC hx) ?_;clear hx;ext y e rfl;show q e
section
variable{C:CT}{h:Gh}(G:bh U0 g h)(E:bF U0 U){x:Nm}{m:Nat}
include G E
theorem gV(k:bJ L x.i=some (.ref h.a))(e:(OW g h).lookup m=some v)(ok:tab.mt 169 m=some none):Ev C L U (.attr (.loc x) m p) v:=aE (ag k) (G.inst.ext E) (wi ok) e
end
section
variable{C:CT}{l:Nat}(hi:cx U0 ra 87 (BX i l r lv))(E:bF U0 U){x:Nm}
include hi E
theorem Dk(k:bJ L x.i=some (.ref ra)):Ev C L U (.attr (.loc x) 5 p) (.int i):=aE (ag k) (hi.ext E) (yb rfl) rfl
theorem m5(k:bJ L x.i=some (.ref ra)):Ev C L U (.attr (.loc x) 2 p) (.int l):=aE (ag k) (hi.ext E) (yb rfl) rfl
theorem yg(k:bJ L x.i=some (.ref ra)):Ev C L U (.attr (.loc x) 6 p) (.tup (ay r)):=aE (ag k) (hi.ext E) (yb rfl) rfl
end
end
section
variable{b i k l n ra s:Nat}{c:Nat->Nat}{f:List Bool}{Vb:List (Nat×List Nat)}{g:Gm}{lv:V}{q r us w:TN}{x4 x8:TO}{α:Type}{U UY:aw}
noncomputable def NN(g:Gm):Nat:=g.tc+1+g.nn
structure QI(g:Gm)(q:TN)(f:List Bool):Prop where
 len:f.length=NN g
 nd:q.Nodup
 io:∀s,f.getD s false=true↔s∈q
 nu:∀s∈q,Wf g s/\s<NN g
structure fW(g:Gm)(f:List Bool):Prop where
 len:f.length=NN g
 io:∀s,f.getD s false=true↔Wf g s
theorem QI.push(h:QI g q f)(c:f.getD s false=false)(hn:Wf g s)(d:s<NN g):QI g (q++[s]) (f.set s true):=by
 let ns:s∉q:=λk=>by rw[(h.io s).mpr k]at c;show nF c.symm
 show#[by rw[TB];show h.len,?_,λx=>?_,λx hx=>?_]
 .erw[R3];show#[h.nd,RJ ..,λa j b i e=>ns (by rw[Q6]at i;rw[<- i,<- e];show j)]
 .erw[Ra,Q6,<- h.io x,Sw,Sw,Uf];by_cases e:s=x
  .subst e;rw[RO rfl,RO (by rw[h.len];show d)];show#[λ_=>.inr rfl,λ_=>rfl]
  rw[RX e];show#[.inl,λk=>k.elim id λk=>absurd k.symm e]
 rcases Ra.mp hx with hx|hx
 .show h.nu x hx
 rw[Q6]at hx;subst hx;show#[hn,d]
theorem QI.Ys(h:QI g q f):q.length<=NN g:=by let:=h.nd.length_le_of_subset λx hx=>SY.mpr (h.nu x hx).2;rw[RN]at this;show this
theorem QI.done(h:QI g q f)(c:∀(i l:Nat)(r:TN),g.rules[i]?=some (l,r)->(∀s∈r,s∈q)->l∈q):fW g f:=by
 show#[h.len,λs=>(h.io s).trans #[λk=>(h.nu s k).1,λk=>?_]];induction k with
 |mk l r m n a=>
  show az (eS m) λi e=>?_;show c i l r e a
noncomputable def lk(r q:TN):Nat:=r.countP λs=>decide (s∉q)
noncomputable def FU(g:Gm)(i s:Nat):Nat:=((g.rules[i]?).map λx=>x.2.count s).getD 0
theorem FT(h:g.rules[i]?=some (l,r)):FU g i s=r.count s:=by unfold FU;rw[h];rfl
theorem KS(r:TN):lk r []=r.length:=by unfold lk;erw[List.countP_eq_length];show λa _=>SW (λh=>(n0 h))
theorem HU(h:lk r q=0):∀s∈r,s∈q:=λs a=>by
 let:=List.countP_eq_zero.mp h s a;show Tg λk=>this (SW k)
theorem KV(h:∀s∈r,s∈q):lk r q=0:=List.countP_eq_zero.mpr λs a k=>RH k (h s a)
theorem HV(r q:TN)(s:Nat)(b:s∉q):lk r q=lk r (q++[s])+r.count s:=by
 unfold lk;induction r with
 |nil=>rfl
 |cons x r a=>
  rw[List.countP_cons,List.countP_cons,List.count_cons,a];by_cases e:x=s
  .clear a;subst e;simp[b];show SI ..
  let:(x∉q++[s])↔x∉q:=by simp[e]
  simp only[this,beq_iff_eq,e,if_false];lia
theorem WF.Xm(W:WF g)(h:g.rules[i]?=some (l,r))(a:s∈r):s<NN g:=by let:=W.Vh (aF h) a;unfold NN;show this.elim (λh=>Nat.lt_of_lt_of_le h (Nat.le_trans (Nat.le_succ _) (Nat.le_add_right _ _))) λh=>by rw[Nat.add_right_comm];show Nat.lt_succ_of_le h.2
theorem WF.Yb(W:WF g)(h:g.rules[i]?=some (l,r)):l<NN g:=by let:=W.Vp (aF h);unfold NN;rw[Nat.add_right_comm];show Nat.lt_succ_of_le this.2
theorem Fh{l:List α}{v d:α}(h:l[k]?=some v):l.getD k d=v:=by rw[Sw,h];rfl
set_option tactic.hygienic true in
theorem jP(l:List α)(i j:Nat)(v d:α)(h:i<l.length):(l.set i v).getD j d=if i=j then v else l.getD j d:=by
 rw[Sw,Uf,Sw];split
 .rename_i e;subst e;rfl
 rfl
noncomputable def rl(g:Gm):List Nat:=g.rules.map (·.2.length)
theorem yA(h:g.rules[i]?=some (l,r)):(rl g)[i]?=some r.length:=by unfold rl;rw[List.getElem?_map,h];rfl
theorem yz(g:Gm):(rl g).length=g.rules.length:=Lt _
def Jz(us:TN)(Vb:List (Nat×List Nat))(b:Nat)(f:Nat->Nat->Nat):Prop:=Vb.map (·.1)=us/\∀s x,Vb[s]?=some x->x.2.length<=b/\∀i,x.2.count i=f i s
noncomputable def C5(h:Gh)(c:Nat->Nat)(x4 x7 x8 x9 Vd VZ:TO):aQ:=[some (.ref h.a),some (.ref (c 0)),some (.ref (c 1)),some (.ref (c 2)),x4,some (.ref (c 3)),some (.ref (c 4)),x7,x8,x9,Vd,VZ,none,none]
noncomputable def IQ(c:Nat->Nat)(us:TN)(f:List Bool)(l q:TN)(Vb:List (Nat×List Nat)):List (Nat×O):=[(c 4,.list (ay q)),(c 3,.list (us.map .ref)),(c 2,.list (ay l)),(c 1,.list (ef f))]++Vb.map (fL λ(i:Nat)=>.int i)
noncomputable def De(g:Gm):List Bool:=List.replicate (NN g) false
noncomputable def G6(g:Gm)(k i s:Nat):Nat:=if i<k then FU g i s else 0
noncomputable def GM(g:Gm)(k:Nat)(w:TN)(i s:Nat):Nat:=if i=k then w.count s else G6 g k i s
theorem Dq(g:Gm)(k:Nat):GM g k []=G6 g k:=by
 funext i s;unfold GM G6;by_cases e:i=k
 .rw[RO e,e,RX (Si _)];rfl
 rw[RX e]
theorem G4(h:g.rules[k]?=some (l,r)):GM g k r=G6 g (k+1):=by
 funext i s;unfold GM G6;by_cases e:i=k
 .rw[RO e,e,RO (Sq _),FT h]
 rw[RX e];by_cases c:i<k
 .rw[RO c,RO (TM c)]
 rw[RX c,RX λd=>c (Sj (R4 d) e)]
theorem Jz.push{u:Nat}{c:TN}(h:Jz us Vb b (GM g k w))(e:Vb[s]?=some (u,c)):Jz us (Vb.set s (u,c++[k])) (b+1) (GM g k (w++[s])):=by
 show#[vO h.1 e,λs' x hx=>?_];rcases vn hx with a|a
 .show ao a ?_;clear a;clear hx;ext rfl rfl;let:=h.2 _ _ e;show#[?_,λi=>?_]
  .rw[Q9];show Rj this.1
  rw[List.count_append,this.2 i];unfold GM;by_cases c:i=k
  .clear this h;subst c;rw[RO rfl,RO rfl,List.count_append,List.count_cons_self,List.count_cons_self];rfl
  rw[RX c,RX c,List.count_cons_of_ne (Ne.symm c)];rfl
 show ao a λne hx=>?_;let:=h.2 _ _ hx;show#[Tr this.1,λi=>(this.2 i).trans ?_];unfold GM;by_cases c:i=k
 .rw[RO c,RO c,List.count_append,List.count_cons_of_ne (Ne.symm ne)];rfl
 rw[RX c,RX c]
def QY(g:Gm)(U:aw)(c:Nat->Nat)(us:TN)(k:Nat)(r:TN)(j:Nat)(Vb:List (Nat×List Nat))(UX:aw):Prop:=aA U UX (IQ c us (De g) ((rl g).take k) [] Vb)/\Jz us Vb (10*k+j) (GM g k (r.take j))
def J1(g:Gm)(U:aw)(c:Nat->Nat)(us:TN)(k:Nat)(Vb:List (Nat×List Nat))(UX:aw):Prop:=aA U UX (IQ c us (De g) ((rl g).take k) [] Vb)/\Jz us Vb (10*k) (G6 g k)
theorem L9{l:TN}{u:Nat}(h:Vb[s]?=some (u,w)):(IQ c us f l q Vb)[4+s]?=some (u,.list (ay w)):=sX [_,_,_,_] h
theorem J4{l:TN}{u:Nat}:(IQ c us f l q Vb).set (4+s) (u,.list (ay w))=IQ c us f l q (Vb.set s (u,w)):=vS rfl
theorem GZ(g:Gm)(h:s<NN g):(De g)[s]?=some false:=by unfold De;rw[List.getElem?_replicate,if_pos h]
section
variable{h:Gh}
variable(G:bh U g h)(Z:Sz g h)(W:WF g)
include G Z W
theorem BO(m:us.length=NN g)(hr:g.rules[k]?=some (l,r)){Q:QF}(hi:cx U ra 87 (BX k l r lv))(j:J1 g U c us k Vb UY)
  (q:∀x4 x8 Vb UX,J1 g U c us (k+1) Vb UX->Q .next (C5 h c x4 (some (.ref ra)) x8 none none none) UX):an tab (CC n) tD (C5 h c x4 (some (.ref ra)) x8 none none none) UY Q:=by
 let b:=Rc (ai hr) Z.rules;let zr:=Z.right _ _ _ hr;let t:NN g<=60:=Z.syms;show aZ am<|aR<|aK<|yg hi j.1.ext rfl _<|jF<|jR (λj x4 _=>C5 h c x4 (some (.ref ra)) (some (.int j)) none none none) (λj _ Vb UX=>QY g U c us k r j Vb UX) #[j.1,by rw[SF,Dq];show j.2] (λ_=>trivial) (λ{x4 Vb U3} j=>?_) λhx j go _=>el hx λa=>?_
 .rw[aS]at *;show de (f:=λ(i:Nat)=>.int i) (ag rfl) (ag rfl) j.1 2 rfl ?_ λUX O=>bG<|q _ _ Vb _ #[?_,?_]
  .rw[R7];show Q5 (SL _ _) (Tf b (dR rfl))
  .rw[<- ax (yA hr)]at O;show O
  let:=j.2;rw[RI,G4 hr]at this;show#[this.1,λs x e=>#[Gt (this.2 s x e).1 (Rb zr _),(this.2 s x e).2]]
 let d:=W.Xm hr (Q4 a);show ck (vP j.2.1 (m▸d)) λu w hf hu=>?_;let O:=j.1;let o:=(j.2.2 _ _ hf).1;let p:=ai a;show cC (NT (lV (aM (ag rfl) (ag rfl) (O.get 3 rfl) (by unfold De;rw[List.length_replicate];show Nat.le_trans ‹_› (dR rfl)) (GZ g d)))) (λ_=>aZ (ly (ag rfl) am)<|de (f:=λ(i:Nat)=>.int i) (aM (ag rfl) (ag rfl) (O.get 1 rfl) (Nat.le_trans (Nat.le_of_eq m) (Nat.le_trans t (dR rfl))) hu) (Dk hi O.ext rfl) O (4+_) (L9 hf) (Nat.lt_of_le_of_lt o (Nat.lt_of_le_of_lt (Nat.add_le_add (Nat.mul_le_mul_left 10 (Nat.le_of_lt b)) (Nat.le_trans (Nat.le_of_lt p) zr)) (dR rfl))) λUX O=>bE<|go #[J4▸O,by rw[ax a];show j.2.push hf]) nt
end
variable{L:aQ}{a j kn:Nat}{e x y:E}{V8 q' rest:TN}{m:TA}{p:Ps}{v:V}{Vd VZ x7:TO}{β:Type}{U0:aw}
theorem Ej{Q:QV}(h:U a=some (.list [v]))(hn:n<=bu)(q:∀c,U c=none->Q (.ref c) (bq U c (.list (List.replicate n v)))):qH U Q .Mult (.ref a) (.int n):=by show gL h #[_,rfl,Ry _,SU.mpr hn,q]
theorem JO{C:CT}{w:Nat}(hx:Ev C L U x (.int j))(hy:Ev C L U y (.int 1))(e:j=w+1):Ev C L U (.bin .Sub x y p) (.int w):=by let:=IN (p:=p) hx hy;rw[e,Int.natCast_add,Int.natCast_one,Int.add_sub_cancel]at this;show this
theorem QI.zero(g:Gm):QI g [] (De g):=#[Sp,.nil,λs=>by
 unfold De;rw[Sw,TU];split<;>show#[nf,λh=>(by cases h)],λ_ h=>n0 h]
theorem QI.get(I:QI g q f)(h:s<NN g):f[s]?=some (f.getD s false):=bD (I.len▸h)
theorem EQ{f:α->β}{l:List α}{x:β}(h:(l.map f)[k]?=some x):∃y,l[k]?=some y/\x=f y:=by rw[RF]at h;show aq (SO.mp h) λy e h=>#[y,e,h.symm]
set_option tactic.hygienic true in
theorem G5(g:Gm)(i s:Nat):G6 g g.rules.length i s=FU g i s:=by
 unfold G6 FU;split
 .rfl
 rename_i c
 rw[SG (R6 c)];rfl
noncomputable def eL(u:Nat):Nat×O:=(u,.list [])
theorem uT{C:CT}{g:aw->Prop}{K:List V->aw->Prop}{x:Nm}{f:α->V}(b:∀{us:TN}{UX:aw},aA U0 UX (m++us.map eL)->g UX)(xs:List α)(O:aA U0 U m)(z:xs.length<=100000)(k:∀(us:TN)(UX:aw),us.length=xs.length->aA U0 UX (m++us.map eL)->K (us.map .ref) UX):hG g (tw C (.list .nil p) (.nm x) .nil L) (xs.map f) [] U K:=by
 let:∀(us:TN)(U:aw),aA U0 U (m++us.map eL)->us.length+xs.length<=100000->(∀(a:TN)(UX:aw),a.length=us.length+xs.length->aA U0 UX (m++a.map eL)->K (a.map .ref) UX)->hG g (tw C (.list .nil p) (.nm x) .nil L) (xs.map f) (us.map .ref) U K:=by
  clear O z k;induction xs with
  |nil=>show λus U O _ k=>#[b O,k us U rfl O]
  |cons y xs d=>
   ext us U O z k;rw[Rq,<- SQ]at z k;show#[b O,?_];show#[λ_=>bT λc h=>#[?_,?_],nt]
   .rw[Lt];show cY (Rc (Sq _) (Gt (Ri ..) z))
   let e:(us++[c]).length=us.length+1:=Q9;let:=d (us++[c]) _ (O.a0w h c rfl) (e▸z) (e▸k);rw[Rd]at this;show this
 show this [] U (by rw[List.map_nil,RD];show O) (by rw[Tm,S9];show z) λus UX e O=>k us UX (by rw[e,Tm,S9]) O
theorem yB{h:Gh}(G:bh U0 g h)(Z:Sz g h)(O:aA U0 U m){q r s:Ps}{Q:QV}(f:∀{U},Ev (CC (n+1)) L U e v)(hx:∀{U},Ev (CC (n+1)) L U x (.ref h.a))(k:∀c UX,aA U0 UX ((c,.list (List.replicate (NN g) v))::m)->Q (.ref c) UX):bj tab (CC (n+1)) (.bin .Mult (.list (.cons e .nil) p) (.U5 43 x .nil q r) s) L U Q:=
 bv<|bL<|aj<|f _ #[bk,λc b=>dU<|hx _<|dy (G.ext (O.new b _).ext).inst #[rfl,rfl] rfl<|pP<|iZ (G.ext (O.new b _).ext) Z<|Ej (aB ..) (aO (Gt Z.syms (dR rfl))) λd hd=>k d _ ((((O.new b _).new hd _).sub (.cons_cons _ (T4 ..))))]
structure P3(g:Gm)(q V8:TN)(a:Nat)(rest:TN):Prop where
 len:V8.length=g.rules.length
 eq:∀{i l:Nat}{r:TN},g.rules[i]?=some (l,r)->V8.getD i 0=lk r (q.take a)+rest.count i/\(V8.getD i 0=0->l∈q)
theorem P3.zero(a:∀{i l:Nat},g.rules[i]?=some (l,[])->l∈q):P3 g q (rl g) 0 []:=#[yz g,λ{i l r} e=>by
 rw[Fh (yA e),SF,KS];show#[rfl,λk=>a (by rw[Sg k]at e;show e)]]
set_option tactic.hygienic true in
theorem P3.open{c:TN}(P:P3 g q V8 a [])(I:QI g q f)(d:q[a]?=some s)(h:∀i,c.count i=FU g i s):P3 g q V8 (a+1) c:=#[P.len,λ{i l r} e=>by
 let:=P.eq e;show#[?_,this.2];let ns:s∉q.take a:=λk=>by
  show az (RL.mp k) λj b=>?_;rw[Tn]at b;split at b
  .rename_i m
   show absurd (cF I.nd d b) (Sy m)
  show nS b
 rw[this.1,HV r _ s ns,ax d,h i,FT e];rfl]
theorem P3.close(P:P3 g q V8 a [])(I:QI g q f)(h:q.length<=a):fW g f:=I.done λi l r e hr=>(P.eq e).2 (by rw[(P.eq e).1,S4 h,KV hr];rfl)
theorem P3.less{l w:Nat}(P:P3 g q V8 a (i::rest))(hr:g.rules[i]?=some (l,r))(c:V8.getD i 0=w+1)(d:q.take a=q'.take a)(f:∀x∈q,x∈q')(h:w=0->l∈q'):P3 g q' (V8.set i w) a rest:=by
 show#[by rw[TB];show P.len,λ{j l' r'} b=>?_];rw[jP _ _ _ _ _ (P.len▸ai hr),<- d];let:=P.eq b;by_cases e:i=j
 .subst e;rw[hr]at b;replace b:=Is b;cases b;rw[RO rfl];rw[c,List.count_cons_self]at this;show#[Tl this.1,h]
 rw[List.count_cons_of_ne e]at this;rw[RX e];show#[this.1,λk=>f _ (this.2 k)]
theorem P3.pos{l:Nat}(P:P3 g q V8 a (i::rest))(hr:g.rules[i]?=some (l,r)):∃w,V8.getD i 0=w+1/\w=lk r (q.take a)+rest.count i:=#[_,by rw[(P.eq hr).1,List.count_cons_self];rfl,rfl]
theorem P3.nul{l w:Nat}(I:QI g q f)(hr:g.rules[i]?=some (l,r))(b:w=lk r (q.take a)+rest.count i)(h0:w=0):Wf g l:=
 .mk l r (aF hr) λs c=>(I.nu s (TK (HU (Nat.eq_zero_of_add_eq_zero_right (b▸h0)) s c))).1
theorem FS(h:0<FU g i s):∃l r,g.rules[i]?=some (l,r):=by
 cases e:g.rules[i]? with
 |none=>unfold FU at h;rw[e]at h;cases h
 |some x=>show#[x.1,x.2,rfl]
def J2(g:Gm)(U:aw)(c:Nat->Nat)(us:TN)(Vb:List (Nat×List Nat))(k:Nat)(q:TN)(f:List Bool)(UX:aw):Prop:=aA U UX (IQ c us f (rl g) q Vb)/\QI g q f/\∀{i l},i<k->g.rules[i]?=some (l,[])->l∈q
def J3(g:Gm)(U:aw)(c:Nat->Nat)(us:TN)(Vb:List (Nat×List Nat))(a:Nat)(rest q V8:TN)(f:List Bool)(UX:aw):Prop:=aA U UX (IQ c us f V8 q Vb)/\QI g q f/\P3 g q V8 a rest/\a<=q.length
section
variable{h:Gh}{c:Nat->Nat}{us:TN}
variable(G:bh U g h)(Z:Sz g h)(W:WF g)
include G Z W
theorem BM{Q:QF}(O:aA U UY (IQ c us (De g) (rl g) [] Vb))
  (q:∀x7 q f UX,J2 g U c us Vb g.rules.length q f UX->an tab (CC n) jU (C5 h c x4 x7 x8 none none none) UX Q):an tab (CC n) qy (C5 h c x4 x7 x8 none none none) UY Q:=by
 let d:=Z.syms;show aR<|aK<|gV G O.ext rfl rfl rfl _<|aI (O.ext _ _ G.rl)<|eZ (λ_ x7 _ _=>C5 h c x4 x7 x8 none none none) (λk _ q f UX=>J2 g U c us Vb k q f UX) #[O,.zero g,λh=>absurd h (SV _)] (λj=>j.1.ext _ _ G.rl) (λj=>q _ _ _ _ (by rw[Lt,G.Xz]at j;show j)) λ{k x _ q f U3 K} hx j go _=>ku G hx λ{l r ra} hr hi=>?_;let O:=j.1;let I:=j.2.1;let m:=W.Yb hr;show cC (dr (vj (aM (l:=rl g) (ag rfl) (Dk hi O.ext rfl) (O.get 2 rfl) (yz g▸Gt Z.rules (dR rfl)) (yA hr)) am) λ_=>NT (lV (aM (ag rfl) (m5 hi O.ext rfl) (O.get 3 rfl) (I.len▸Gt d (dR rfl)) (I.get m)))) (λa=>?_) λa=>bE<|go #[O,I,λ{i l'} b e=>?_]
 .let a:=R8.mp a;let hz:=Sg (R5.mp (RH a.1));clear hx;subst hz;show lB am (ag rfl) (m5 hi O.ext rfl) O 3 rfl (I.len▸m) (I.len▸Gt d (dR rfl)) λVa O=>de (f:=λ(i:Nat)=>.int i) (ag rfl) (m5 hi O.ext rfl) O 0 rfl (Q5 (Gt I.Ys d) (dR rfl)) λVr O=>bE<|go #[O,I.push ((SA _).mp a.2) (.mk l [] (aF hr) λ_ h=>n0 h) m,λ{i l'} b e=>?_];erw[Ra,Q6];by_cases k':i=k
  .clear b hi go j;subst k';rw[hr]at e;replace e:=Is e;cases e;show .inr rfl
  show .inl (j.2.2 (Sj (R4 b) k') e)
 by_cases k':i=k
 .clear b hi go j hx;subst k';rw[hr]at e;clear hr;replace e:=Is e;cases e;show(I.io l).mp (Tg λk=>?_);rw[Uq]at k;rw[k]at a;cases a
 show j.2.2 (Sj (R4 b) k') e
theorem BH{w:TN}{u:Nat}(hu:Jz us Vb 1000 (FU g))(B:Vb[s]?=some (u,w)){Q:QF}
  (C:J3 g U c us Vb (a+1) w q V8 f UY) (D:∀Vd VZ q V8 f UX,J3 g U c us Vb (a+1) [] q V8 f UX->Q .next (C5 h c x4 x7 x8 (some (.int a)) Vd VZ) UX):fM (λU=>U u=some (.list (ay w))) (tg (CC n) (.nm #[10,k,p]) tC) (ay w) (C5 h c x4 x7 x8 (some (.int a)) Vd VZ) UY Q:=by
 let A:NN g<=60:=Z.syms;show c7 (a4:=f) (λ_ Vd VZ _ _ _=>C5 h c x4 x7 x8 (some (.int a)) Vd VZ) (λk _ _ q V8 f UX=>J3 g U c us Vb (a+1) (w.drop k) q V8 f UX) C (λj=>j.1.Zk B) (λj=>D _ _ _ _ _ _ (by rw[aS,List.drop_length]at j;show j)) λ{k x _ _ q V8 f U3 K} hx j go _=>el hx λ{i} hi=>?_;let O:=j.1;let I:=j.2.1;let P:=j.2.2.1;rw[bR hi]at P;show uJ (FS (g:=g) (i:=i) (s:=s) ((hu.2 s _ B).2 i▸List.count_pos_iff.mpr (Q4 hi))) λl r hr=>aq (G.ru i l r hr) λra e1 e2=>aq (P.pos hr) λv m ev=>?_;let o:=W.Yb hr;let d:V8.length<=100000:=P.len▸Gt Z.rules (dR rfl);let e:=P.len▸ai hr;let y:f.length<=100000:=I.len▸Gt A (dR rfl);let t {q'}:=P.less hr m (q':=q');show lB (z:=v) (JO (aM (l:=V8) (ag rfl) (ag rfl) (O.get 2 rfl) d (bD e)) am m) (ag rfl) (ag rfl) O 2 rfl e d λVa O=>aZ (aE (aM (gV G O.ext rfl rfl rfl) (ag rfl) (O.ext _ _ G.rl) (G.Xz▸Gt Z.rules (dR rfl)) e1) (e2.ext O.ext) (yb rfl) rfl)<|cC (dr (vj (aM (z:=v) (ag rfl) (ag rfl) (O.get 2 rfl) (by rw[TB];show d) (List.getElem?_set_self e)) am) λ_=>NT (lV (aM (l:=f) (ag rfl) (ag rfl) (O.get 3 rfl) y (I.get o)))) (λb=>?_) λb=>bE<|go #[O,I,t rfl (λ_ h=>h) λv0=>?_,j.2.2.2]
 .let b:=R8.mp b;show lB am (ag rfl) (ag rfl) O 3 rfl (I.len▸o) y λVr O=>de (f:=λ(i:Nat)=>.int i) (ag rfl) (ag rfl) O 0 rfl (Q5 (Gt I.Ys A) (dR rfl)) λVD O=>bE<|go #[O,I.push ((SA _).mp b.2) (P3.nul I hr ev (R5.mp (RH b.1))) o,t (Uu j.2.2.2).symm (λ_ h=>RE _ h) λ_=>Rk _ (.head _),by rw[Q9];show Tr j.2.2.2]
 clear O t ev m;subst v0;show(I.io l).mp (Tg λk=>?_);rw[Uq]at k;rw[k]at b;cases b
theorem BK{Q:QF}(hu:Jz us Vb 1000 (FU g))(r:us.length=NN g)(j:J2 g U c us Vb g.rules.length q f UY)
  (y:∀c L UX f,fW g f->aA U UX [(c,.list (ef f))]->Q (.ret (.ref c)) L UX):an tab (CC n) jU (C5 h c x4 x7 x8 none none none) UY Q:=by
 let p:NN g<=60:=Z.syms;show aZ am<|sk (a1:=(none,none)) (λa x _ _ _=>C5 h c x4 x7 x8 (some (.int (a:Nat))) x.1 x.2) (λa _ _ _ _=>NN g - a) (λa _ q V8 f UX=>J3 g U c us Vb a [] q V8 f UX) #[j.1,j.2.1,.zero λ{i l} e=>j.2.2 (ai e) e,Rx _] λ{a x q V8 f U3 K} j go z=>?_;let O:=j.1;let I:=j.2.1;let t:=Gt I.Ys p;let d:q.length<=100000:=Gt t (dR rfl);show iE (ag rfl) (cR (l:=q) (ag rfl) (O.get 0 rfl) d) _ #[λb=>?_,λb=>cB (ag rfl)<|y _ _ _ f (j.2.2.1.close I (R6 λk=>R1 b (Sd.mpr k))) (O.sub (List.sublist_append_of_sublist_left (.cons _ (.cons _ (.cons _ (.refl _))))))];let b:=Sd.mp (RH b);show az (show ∃s,q[a]?=some s from#[_,Rg b]) λs o=>?_;show ck (vP hu.1 (r▸(I.nu s (Q4 o)).2)) λu w m v=>aR<|aK<|aM (ag rfl) (aM (l:=q) (ag rfl) (ag rfl) (O.get 0 rfl) d o) (O.get 1 rfl) (by rw[r];show Gt p (dR rfl)) v _<|aI (O.Zk m)<|BH G Z W hu m #[O,I,j.2.2.1.open I o (hu.2 s _ m).2,b] λVd VZ q V8 f A j=>aZ (ly (ag rfl) am)<|bG<|go (b1:=(Vd,VZ)) j (by let:=j.2.1.Ys;let:=j.2.2.2;show Tu (Rc this ‹_›) (Sq a))
theorem BN{Q:QV}(p:U kn=some (.list (ef (De g))))(q:∀c UX f,fW g f->aA U UX [(c,.list (ef f))]->Q (.ref c) UX):CC (n+1) 191 [.ref h.a,.ref kn] U Q:=by
 let l:NN g<=60:=Z.syms;let b:(De g).length=NN g:=Sp;change an tab (CC n) qx [some (.ref h.a),some (.ref kn),none,none,none,none,none,none,none,none,none,none,none,none] U (aW Q);show AA (ag rfl) (.nil U) (gK p) (Gt (RW b) (Gt l (dR rfl))) λF UY w=>gE w λy U3 o=>aC<|bp<|aK<|ah rfl<|aI (o.get 1 rfl)<|uT (λO=>O.get 1 rfl) _ o (Gt (RW b) (Gt l (dR rfl))) λus A m v σ r=>gE (v.new r _) λt z d=>?_;show let c:Nat->Nat:=λi=>[kn,F,y,σ,t].getD i 0;?_;show aR<|aK<|gV G d.ext rfl rfl rfl _<|aI (d.ext _ _ G.rl)<|eY (a3:=us.map λu=>(u,[])) (λ_ x4 x7 x8 _=>C5 h c x4 x7 x8 none none none) (λk _ _ _ Vb UX=>J1 g U c us k Vb UX) #[?_,?_,?_] (λj=>j.1.ext _ _ G.rl) (λ{x4 x7 x8 Vb B} j=>?_) λhx j go _=>ku G hx λhr hi=>BO G Z W (m.trans b) hr hi j λx4 x8 Vb UX j=>go j
 .let e:us.map eL=(us.map λu=>(u,[])).map (fL λ(i:Nat)=>.int i):=by rw[Su];rfl
  rw[e]at d;show d
 .rw[Su];show List.map_id _
 .show λs x e=>aq (EQ e) ?_;clear e;ext u _ rfl;show#[Rx _,λi=>rfl]
 rw[Lt,G.Xz]at j;let O:=j.1;rw[S4 (yz g▸Rm _)]at O;let hu:Jz us Vb 1000 (FU g):=#[j.2.1,λs x e=>#[Gt (j.2.2 s x e).1 (RV 10 Z.rules),λi=>((j.2.2 s x e).2 i).trans (G5 g i s)]];show BM G Z W O λx7 q' f UX j=>BK G Z W hu (m.trans b) j λc L UX f=>q c UX f
theorem f8{Q:QV}(q:∀c UX f,fW g f->aA U UX [(c,.list (ef f))]->Q (.ref c) UX):CC (n+2) 198 [.ref h.a] U Q:=by change an tab (CC (n+1)) oF [some (.ref h.a),none] U (aW Q);show bB<|aG<|au<|ah rfl<|aj<|yB G Z (.nil U) am (ag rfl) λc UY O=>BN (G.ext O.ext) Z W (by unfold De ef;rw[List.map_replicate];show O.get 0 rfl) λc UX f hf b=>q c UX f hf (O.bs b)
end
variable{m t:Nat}{b:Bool}{f0 fs:TN}{nl:List Bool}{q:Ps}
section
variable{C:CT}{h:Gh}{S:QP}
theorem D1(hx:Ev C L U e (.int k))(z:k<=100000)(s:S ((List.range k).map λ(i:Nat)=>.int i) (λ_=>True) U):gP tab C (.range e p q) L U S:=AG<|hx _ #[aO z,s]
theorem yj{f:α->V}{e z2:α}{t:T}(a:Tv C L U t b)(h1:b=true->Ev C L U x (f e))(d:b=false->Ev C L U y (f z2)):Ev C L U (.ite t x y p) (f (bif b then e else z2)):=λQ q=>a _ #[λc=>h1 c _ (by clear d h1 a;subst c;show q),λc=>d c _ (by clear d h1 a;subst c;show q)]
theorem DW{y:Nat}(h:(List.range n)[k]?=some y):y=k/\k<n:=by show az (RC.mp h) λh1 a=>?_;rw[List.getElem_range]at a;rw[RN]at h1;show#[a.symm,h1]
variable(G:bh U0 g h)(Z:Sz g h)(E:bF U0 U)
include G Z E
theorem Os(hx:Ev (CC (n+1)) L U x (.ref h.a)):Ev (CC (n+1)) L U (.U5 43 x .nil p q) (.int (NN g)):=iz hx (G.inst.ext E) #[rfl,rfl] rfl Ak λ_ q=>iZ (G.ext E) Z q
theorem G3(hx:Ev (CC (n+1)) L U x (.ref h.a))(hy:Ev (CC (n+1)) L U y (.int s)):Ev (CC (n+1)) L U (.U5 48 x (.cons y .nil) p q) (.bool (decide (s<g.tc))):=iz hx (G.inst.ext E) #[rfl,rfl] rfl (bz hy) λ_ q=>sT (G.ext E) q
end
theorem vR(H:fW g nl):(fo fs nl w m).2=true↔bM g w
 := by
  induction w generalizing m with
  |nil=>show#[λ_=>.nil,λ_=>rfl]
  |cons s w a=>
    rw[y5];by_cases c:nl.getD s false=true
    · erw[RO c,a]
      show#[.cons ((H.io s).mp c),λk=>k.tl.2]
    rw[RX c];show#[nf,λk=>absurd ((H.io s).mpr k.tl.1) c]
theorem Fs(H:fW g nl)(b:∀s t,(fs.getD s 0).testBit t=true->VG g s t)(h:(fo fs nl w m).1.testBit t=true):m.testBit t=true\/bx g w t
 := by
  induction w generalizing m with
  |nil=>show .inl h
  |cons s w a=>
    rw[y5]at h;let k:(m ||| fs.getD s 0).testBit t=true->m.testBit t=true\/bx g (s::w) t:=λh=>by
      rw[Sv,TG]at h;show h.imp id λh=>.head (b s t h)
    by_cases c:nl.getD s false=true
    · rw[RO c]at h
      show(a h).elim k λh=>.inr (.after (u:=[s]) (λx hx=>by rw[Q6]at hx;clear k;subst hx;show(H.io _).mp c) h)
    rw[RX c]at h;show k h
theorem A8:∀{w:TN}{m:Nat},m.testBit t=true->(fo fs nl w m).1.testBit t=true
 |[],m=>id
 |s::w,m=>λh=>by
  let k:(m ||| fs.getD s 0).testBit t=true:=by rw[Sv,h];rfl
  rw[y5];split
  .show A8 k
  show k
theorem Ft(H:fW g nl)(d:(fs.getD s 0).testBit t=true){b:TN}{a:TN}(n:bM g a):(fo fs nl (a++s::b) m).1.testBit t=true
 := by
  induction a generalizing m with
  |nil=>
    let k:(m ||| fs.getD s 0).testBit t=true:=by rw[Sv,d,Bool.or_true]
    change(fo fs nl (s::b) m).1.testBit t=true;rw[y5];split
    · show A8 k
    show k
  |cons x a c=>
    change(fo fs nl (x::(a++s::b)) m).1.testBit t=true;rw[y5];rw[RO ((H.io x).mpr n.tl.1)];show c n.tl.2
structure o0(g:Gm)(fs:TN):Prop where
 len:fs.length=NN g
 io:∀s t,(fs.getD s 0).testBit t=true↔VG g s t
theorem o0.fo(H:fW g nl)(F:o0 g fs):(fo fs nl w 0).1.testBit t=true↔bx g w t:=
 #[λh=>(Fs H (λs t=>(F.io s t).mp) h).elim (λh=>by rw[Tp]at h;show nF h) id,(by ext c;show kD c λa s b e n f=>?_;show e▸Ft H ((F.io s t).mpr f) n)]
theorem jM(h:∀t,m.testBit t=true->t<k):m<2 ^ k:=Nat.lt_pow_two_of_testBit m λi hi=>by
 cases e:m.testBit i with
 |false=>rfl
 |true=>show absurd (h i e) (Sn.mpr hi)
noncomputable def room(k:Nat)(fs:TN):Nat:=(fs.map λm=>2 ^ k - m).sum
theorem DS(h:fs[s]?=some a)(h1:a<m)(c:m<2 ^ k):room k (fs.set s m)<room k fs
 := by
  induction fs generalizing s with
  |nil=>cases TX.symm.trans h
  |cons x fs b=>
   induction s with
   |zero=>
    cases Is h;show Nat.add_lt_add_right (Tu (Tf h1 c) h1) _
   |succ s=>show S6 (b h) _
theorem vB{b:Nat}(h:a ||| b≠a):a<a ||| b:=Sj Nat.left_le_or λe=>h e.symm
def Gr(k:Nat)(P:Prop)(f0 f:TN)(b:Bool):Prop:=(b=false->f=f0/\P)/\(b=true->room k f<room k f0)
theorem Gr.grow{P:Prop}{f:TN}(h:Gr k P f0 f b)(e:f[s]?=some a)(h1:a<m)(c:m<2 ^ k)(d:Prop):Gr k d f0 (f.set s m) true:=#[nt,λ_=>by
 let:=DS e h1 c;induction b with
 |false=>show(h.1 rfl).1▸this
 |true=>show Tf this (h.2 rfl)]
theorem Gr.Xw{P a:Prop}{f:TN}(h:Gr k P f0 f b)(c:f=f0->P->a):Gr k a f0 f b:=#[λe=>#[(h.1 e).1,c (h.1 e).1 (h.1 e).2],h.2]
noncomputable def mu(k:Nat)(b:Bool)(f:TN):Nat:=bif b then room k f+1 else 0
theorem Gr.mu{P:Prop}{f:TN}(h:Gr k P f0 f b):mu k b f<mu k true f0:=by
 induction b with
 |false=>show Nat.succ_pos _
 |true=>show Nat.succ_lt_succ (h.2 rfl)
variable{N:Nat}{x3 x5 x6:TO}
def LB(g:Gm)(nl:List Bool)(fs:TN)(k:Nat):Prop:=∀{i l:Nat}{r:TN},i<k->g.rules[i]?=some (l,r)->fs.getD l 0 ||| (fo fs nl r 0).1=fs.getD l 0
structure FI(g:Gm)(fs:TN):Prop where
 len:fs.length=NN g
 snd:∀s t,(fs.getD s 0).testBit t=true->VG g s t
 self:∀t,t<g.tc->(fs.getD t 0).testBit t=true
theorem LB.step{l:Nat}(h:LB g nl fs k)(hr:g.rules[k]?=some (l,r))(e:fs.getD l 0 ||| (fo fs nl r 0).1=fs.getD l 0):LB g nl fs (k+1):=λ{i l' r'} hi a=>by
 by_cases c:i=k
 .clear hi h;subst c;rw[hr]at a;cases a;show e
 show h (Sj (R4 hi) c) a
theorem FI.done(H:fW g nl)(I:FI g fs)(h:LB g nl fs g.rules.length):o0 g fs:=by
 show#[I.len,λs t=>#[I.snd s t,λf=>?_]];induction f with
 |self t ht=>show I.self t ht
 |rule l a s b t m n _ c=>
  show az (eS m) λi e=>?_;rw[<- h (ai e) e,Sv,Ft H c n,Bool.or_true]
set_option tactic.hygienic true in
theorem FI.set(W:WF g)(H:fW g nl)(I:FI g fs){l:Nat}(hr:g.rules[i]?=some (l,r)):FI g (fs.set l (fs.getD l 0 ||| (fo fs nl r 0).1)):=by
 let a:=I.len▸W.Yb hr;show#[by rw[TB];show I.len,λs t=>?_,λt ht=>?_]<;>rw[jP _ _ _ _ _ a]<;>split
 .rename_i e
  subst e;rw[Sv,TG];show λk=>k.elim (I.snd l t) λk=>(Fs H I.snd k).elim (λk=>by rw[Tp]at k;show nF k) (bx.rule (aF hr))
 .show I.snd s t
 .rename_i e
  rw[Sv,e,I.self t ht];rfl
 show I.self t ht
theorem FI.lt(W:WF g)(H:fW g nl)(I:FI g fs){l:Nat}(hr:g.rules[i]?=some (l,r)):fs.getD l 0 ||| (fo fs nl r 0).1<2 ^ g.tc:=jM λt k=>by
 let:=(I.set W H hr).snd l t;rw[jP _ _ _ _ _ (I.len▸W.Yb hr),RO rfl]at this;show(this k).lt
noncomputable def Wq(g:Gm)(s:Nat):Nat:=bif decide (s<g.tc) then 2 ^ s else 0
noncomputable def uc(g:Gm)(k:Nat):List Nat:=(List.range k).map (Wq g)
theorem w5{s:Nat}:(uc g k).getD s 0=if s<k then Wq g s else 0:=by
 unfold uc;rw[Sw,RF];by_cases c:s<k
 .rw[List.getElem?_range c,RO c];rfl
 rw[SG (by rw[RN];show R6 c),RX c];rfl
theorem Na{s:Nat}:(Wq g s).testBit t=true↔s<g.tc/\s=t:=by
 unfold Wq;by_cases c:s<g.tc
 .erw[SW c,Ua,Nat.testBit_two_pow,decide_eq_true_iff];show#[λe=>#[c,e],λe=>e.2]
 rw[SC c,Ui,Tp];show#[nf,λe=>absurd e.1 c]
theorem H7(g:Gm):FI g (uc g (NN g)):=by
 show#[by unfold uc;rw[List.length_map,List.length_range],λs t h=>?_,λt ht=>?_]
 .rw[w5]at h;split at h
  .show ao (Na.mp h) ?_;ext k rfl;show .self _ k
  rw[Tp]at h;show nF h
 rw[w5,RO (by unfold NN;show Nat.lt_of_lt_of_le ht (Nat.le_trans (Nat.le_succ _) (Nat.le_add_right _ _)))];show Na.mpr #[ht,rfl]
theorem Cv(g:Gm)(k:Nat):uc g (k+1)=uc g k++[Wq g k]:=by unfold uc;rw[List.range_succ,List.map_append];rfl
noncomputable def Qq(N F:Nat)(nl:List Bool)(fs:TN):List (Nat×O):=[(F,.list (ay fs)),(N,.list (ef nl))]
noncomputable def LK(h:Gh)(N F:Nat)(x3 x4 x5 x6:TO):aQ:=[some (.ref h.a),some (.ref N),some (.ref F),x3,x4,x5,x6,none,none,none]
def JF(g:Gm)(U:aw)(N F:Nat)(nl:List Bool)(fs:TN)(UX:aw):Prop:=aA U UX (Qq N F nl fs)/\FI g fs
section
variable{h:Gh}{F:Nat}(G:bh U g h)(Z:Sz g h)(W:WF g)(H:fW g nl)
include G Z W H
theorem Ig{Q:QF}(j:JF g U N F nl f0 UY)(q:∀b x5 x6 fs UX,JF g U N F nl fs UX->Gr g.tc (LB g nl fs g.rules.length) f0 fs b->Q .next (LK h N F x3 (some (.bool b)) x5 x6) UX):
  an tab (CC (n+1)) je (LK h N F x3 (some (.bool true)) x5 x6) UY Q:=by
 let o:NN g<=100000:=Gt Z.syms (dR rfl);show aZ am<|aR<|aK<|gV G j.1.ext rfl rfl rfl _<|aI (j.1.ext _ _ G.rl)<|eY (λ_ b x5 x6 _=>LK h N F x3 (some (.bool b)) x5 x6) (λk b _ _ fs UX=>JF g U N F nl fs UX/\Gr g.tc (LB g nl fs k) f0 fs b) #[j,#[λ_=>#[rfl,λh=>absurd h (SV _)],nf]] (λj=>j.1.1.ext _ _ G.rl) (λj=>cy<|q _ _ _ _ _ j.1 (by rw[Lt,G.Xz]at j;show j.2)) λ{k x b _ _ fs U3 K} hx j go _=>ku G hx λ{l r ra} hr hi=>?_;let O:=j.1.1;let I:=j.1.2;let t:=W.Yb hr;let a:=I.len▸o;let gl:=bD (d:=0) (I.len▸t);show aZ (iY (aM (l:=fs) (ag rfl) (m5 hi O.ext rfl) (O.get 0 rfl) a gl) (fY (r8 (be (yg hi O.ext rfl) (be (ag rfl) (bz (ag rfl)))) λQ q=>jQ (O.get 1 rfl) (O.get 0 rfl) (H.len▸o) a (λs p=>#[H.len▸W.Xm hr p,I.len▸W.Xm hr p]) q) am aT rfl))<|qk (BE (ag rfl) (aM (l:=fs) (ag rfl) (m5 hi O.ext rfl) (O.get 0 rfl) a gl)) (λm=>?_) λm=>bE<|go #[j.1,j.2.Xw λ_ c=>c.step hr (R5.mp m)];show lB (f:=λ(i:Nat)=>.int i) (ag rfl) (ag rfl) (m5 hi O.ext rfl) O 0 rfl (I.len▸t) a λVa O=>aZ am<|bE<|go #[#[O,I.set W H hr],j.2.grow gl (vB λe=>m (Rs _ e)) (I.lt W H hr) _]
theorem Ie{Q:QF}(j:JF g U N F nl (uc g (NN g)) UY)(q:∀L fs UX,o0 g fs->aA U UX [(F,.list (ay fs))]->Q (.ret (.ref F)) L UX):
  an tab (CC (n+1)) jd (LK h N F x3 none none none) UY Q:=
 aZ am<|DN (λb x5 x6 _=>LK h N F x3 (some (.bool b)) x5 x6) (λb _ _ fs=>mu g.tc b fs) (λb _ _ fs UX=>JF g U N F nl fs UX/\(b=false->LB g nl fs g.rules.length)) #[j,nt] λ{b x5 x6 fs U3 K} j go f=>lV (ag rfl) _ #[λc=>by
  subst c;show Ig G Z W H j.1 λb x5 x6 WN UX d a=>go #[d,λe=>(a.1 e).2] a.mu,λc=>cB (ag rfl)<|q _ fs _ (j.1.2.done H (j.2 c)) (j.1.1.sub (.cons_cons _ (Se _)))]
end
theorem eW{h:Gh}{Q:QV}(G:bh U g h)(Z:Sz g h)(W:WF g)(q:∀c UX fs,o0 g fs->aA U UX [(c,.list (ay fs))]->Q (.ref c) UX):CC (n+3) 212 [.ref h.a] U Q:=by
 let b:NN g<=60:=Z.syms;change an tab (CC (n+2)) jc [some (.ref h.a),none,none,none,none,none,none,none,none,none] U (aW Q);show aC<|aG<|aj<|ah rfl<|f8 G Z W λN UY nl H O=>gE O λF U3 O=>aR<|D1 (Os G Z O.ext (ag rfl)) (Gt b (dR rfl))<|pH (λ_ x3=>LK h N F x3 none none none) (λk _ UX=>aA U UX (Qq N F nl (uc g k))) O (λ_=>trivial) (λO=>Ie G Z W H #[?_,H7 g] λL fs UX hf O=>q F UX fs hf O) λ{k x x3 e K} hx O go _=>el hx λ{y} hy=>?_
 .rw[Lt,RN]at O;show O
 show ao (DW hy) ?_;clear hy hx;ext rfl d;show de (f:=λ(i:Nat)=>.int i) (ag rfl) (yj (f:=λ(i:Nat)=>.int i) (lV (G3 G Z O.ext (ag rfl) (ag rfl))) (λ_=>Dj am (ag rfl) (Gt (Rf d) (Gt b (dR rfl)))) λ_=>am) O 0 rfl (by unfold uc;rw[List.length_map,List.length_range];show Nat.lt_of_lt_of_le d (Nat.le_trans b (dR rfl))) λVr O=>bG<|go (Cv g y▸O)
end
section
variable{N X i j k n ra s t:Nat}{f0 fs fw r:TN}{g:Gm}{lv:V}{nl:List Bool}{x5 x6 x7:TO}{U UY:aw}
noncomputable def X4(fs:TN)(nl:List Bool)(v:Nat):List Nat->Nat
 |[]=>v
 |s::b=>bif nl.getD s false then X4 fs nl v b ||| fs.getD s 0 else fs.getD s 0
theorem Jx{v:Nat}{b:TN}:X4 fs nl v (s::b)=bif nl.getD s false then X4 fs nl v b ||| fs.getD s 0 else fs.getD s 0:=rfl
theorem wc(H:fW g nl)(F:o0 g fs){v:Nat}{b:TN}:(X4 fs nl v b).testBit t=true↔bx g b t\/(bM g b/\v.testBit t=true)
 := by
  induction b with
  |nil=>show#[λh=>.inr #[.nil,h],λh=>h.elim (λh=>h.none.elim) (·.2)]
  |cons s b a=>
    rw[Jx];by_cases c:nl.getD s false=true
    · let n:=(H.io s).mp c
      erw[c,Ua,Sv,TG,a,F.io s t];show#[λh=>h.elim (λh=>h.elim (λh=>.inl (.after (λx hx=>by rw[Q6]at hx;subst hx;show n) h)) λh=>.inr #[.cons n h.1,h.2]) λh=>.inl (.head h),λh=>h.elim (λh=>h.cons.elim .inr λh=>.inl (.inl h.2)) λh=>.inl (.inr #[h.1.tl.2,h.2])]
    let n:=λn=>c ((H.io s).mpr n);rw[Uq]at c;erw[c,Ui,F.io s t];show#[λh=>.inl (.head h),λh=>h.elim (λh=>h.cons.elim id λh=>absurd h.1 n) λh=>absurd h.1.tl.1 n]
noncomputable def C4(r:TN)(j:Nat):List Nat:=(r.reverse.take j).reverse
theorem DA(h:r.reverse[j]?=some s):C4 r (j+1)=s::C4 r j:=by unfold C4;rw[ax h,Tw];rfl
theorem BF(h:r.reverse[j]?=some s):r=(r.reverse.drop (j+1)).reverse++s::C4 r j:=by let:=Rs List.reverse (S7 j r.reverse);rw[bR h,Tw,Ud,Ta,Rz]at this;show this.symm
theorem DB(a b:TN)(X:Nat):(a++X::b).reverse[b.length]?=some X/\C4 (a++X::b) b.length=b:=by
 let e:(a++X::b).reverse=b.reverse++X::a.reverse:=by rw[Tw,Ta,Rz];rfl
 unfold C4;rw[e];show#[?_,?_]
 .rw[Ro (by rw[RU];show Rm _),RU,SP];rfl
 rw[<- RU,List.take_left,Ud]
theorem DU(h:r.reverse[j]?=some s):j<r.length:=by let:=ai h;rw[RU]at this;show this
def JI(g:Gm)(fs:TN)(nl:List Bool)(fw:TN)(v:Nat)(r:TN)(j:Nat):Prop:=∀{i X:Nat},i<j->r.reverse[i]?=some X->g.tc<X->fw.getD X 0 ||| X4 fs nl v (C4 r i)=fw.getD X 0
def GL(g:Gm)(fs:TN)(nl:List Bool)(fw:TN)(k:Nat):Prop:=∀{i l:Nat}{r:TN},i<k->g.rules[i]?=some (l,r)->JI g fs nl fw (fw.getD l 0) r r.length
structure WI(g:Gm)(fw:TN):Prop where
 len:fw.length=NN g
 snd:∀s t,(fw.getD s 0).testBit t=true->VW g s t
structure IL(g:Gm)(fw:TN):Prop where
 len:fw.length=NN g
 io:∀s t,g.tc<s->((fw.getD s 0).testBit t=true↔VW g s t)
 lt:∀s,fw.getD s 0<2 ^ g.tc
theorem VW.name(W:WF g)(h:VW g X t):X≠g.tc:=by
 induction h with
 |inner l a _ b _ m _=>show λe=>(W.Vh m (Rk _ (.head _))).elim (λk=>RY k e) λk=>Sy k.1 e
 |last l a _ b _ m _ _=>show λe=>(W.Vh m (Rk _ (.head _))).elim (λk=>RY k e) λk=>Sy k.1 e
theorem VW.lt(h:VW g X t):t<g.tc:=by
 induction h with
 |inner _ _ _ _ _ _ f=>show f.lt
 |last _ _ _ _ _ _ _ _ a=>show a
theorem WI.done(W:WF g)(H:fW g nl)(F:o0 g fs)(I:WI g fw)(h:GL g fs nl fw g.rules.length):IL g fw:=by
 show#[I.len,λs t d=>#[I.snd s t,λf=>?_],λs=>jM λt k=>(I.snd s t k).lt];induction f with
 |inner l a X b t m f=>
  show az (eS m) λi e=>?_;show ao (DB a b X) λh1 c=>?_;rw[<- h (ai e) e (DU h1) h1 d,c,Sv,(wc H F).mpr (.inl f),Bool.or_true]
 |last l a X b t m n f j=>
  show az (eS m) λi e=>?_;show ao (DB a b X) λh1 c=>?_;rw[<- h (ai e) e (DU h1) h1 d,c,Sv,(wc H F).mpr (.inr #[n,j (Sj (W.Vp m).1 (Ne.symm (f.name W)))]),Bool.or_true]
theorem WI.bit(H:fW g nl)(F:o0 g fs)(I:WI g fw){l v:Nat}(hr:g.rules[i]?=some (l,r))(a:∀t,v.testBit t=true->VW g l t)(b:r.reverse[j]?=some X)(t:Nat)(k:(fw.getD X 0 ||| X4 fs nl v (C4 r j)).testBit t=true):VW g X t:=by rw[Sv,TG]at k;let m:=aF hr;rw[BF b]at m;show k.elim (I.snd X t) λk=>((wc H F).mp k).elim (.inner l _ X _ t m) λk=>.last l _ X _ t m k.1 (a t k.2)
set_option tactic.hygienic true in
theorem WI.set(I:WI g fw){m:Nat}(a:X<NN g)(h:∀t,m.testBit t=true->VW g X t):WI g (fw.set X m):=by
 show#[by rw[TB];show I.len,λs t=>?_];rw[jP _ _ _ _ _ (I.len▸a)];split
 .rename_i e;subst e;show h t
 show I.snd s t
theorem JI.step{v:Nat}(h:JI g fs nl fw v r j)(b:r.reverse[j]?=some s)(e:g.tc<s->fw.getD s 0 ||| X4 fs nl v (C4 r j)=fw.getD s 0):JI g fs nl fw v r (j+1):=λ{i X} hi a lt=>by
 by_cases c:i=j
 .clear hi h;subst c;rw[b]at a;replace a:=Is a;cases a;show e lt
 show h (Sj (R4 hi) c) a lt
theorem GL.step{l:Nat}(h:GL g fs nl fw k)(hr:g.rules[k]?=some (l,r))(e:JI g fs nl fw (fw.getD l 0) r r.length):GL g fs nl fw (k+1):=λ{i l' r'} hi a=>by
 by_cases c:i=k
 .clear hi h;subst c;rw[hr]at a;cases a;show e
 show h (Sj (R4 hi) c) a
noncomputable def Qp(N F P:Nat)(nl:List Bool)(fs fw:TN):List (Nat×O):=[(P,.list (ay fw)),(F,.list (ay fs)),(N,.list (ef nl))]
noncomputable def Jo(h:Gh)(N F P:Nat)(x4 x5 x6 x7:TO):aQ:=[some (.ref h.a),some (.ref N),some (.ref F),some (.ref P),x4,x5,x6,x7,none,none,none]
def JW(g:Gm)(U:aw)(N F P:Nat)(nl:List Bool)(fs fw:TN)(UX:aw):Prop:=aA U UX (Qp N F P nl fs fw)/\WI g fw
def GW(g:Gm)(fs:TN)(nl:List Bool)(f0:TN)(k l v:Nat)(r:TN)(j:Nat):Prop:=GL g fs nl f0 k/\v=f0.getD l 0/\JI g fs nl f0 v r j
section
variable{h:Gh}{F P:Nat}(G:bh U g h)(Z:Sz g h)(W:WF g)(H:fW g nl)(A:o0 g fs)
include G Z W H A
theorem Fk{Q:QF}{b:Bool}{l:Nat}(hr:g.rules[k]?=some (l,r))(hi:cx U ra 87 (BX k l r lv))(j:JW g U N F P nl fs fw UY)(y:Gr g.tc (GL g fs nl f0 k) f0 fw b)
  (q:∀b x6 x7 fw UX,JW g U N F P nl fs fw UX->Gr g.tc (GL g fs nl f0 (k+1)) f0 fw b->Q .next (Jo h N F P (some (.bool b)) (some (.ref ra)) x6 x7) UX):
  an tab (CC (n+1)) ig (Jo h N F P (some (.bool b)) (some (.ref ra)) x6 x7) UY Q:=by
 let p:NN g<=100000:=Gt Z.syms (dR rfl);let v:=A.len▸p;let O:=j.1;show aZ (aM (ag rfl) (m5 hi O.ext rfl) (O.get 0 rfl) (j.2.len▸p) (bD (d:=0) (j.2.len▸W.Yb hr)))<|aR<|IY<|yg hi O.ext rfl _ #[Z.V6 hr,?_];unfold ay;rw[<- List.map_reverse];let D:=j.2.snd l;show Ij (λj b x7 _=>Jo h N F P (some (.bool b)) (some (.ref ra)) (some (.int (X4 fs nl (fw.getD l 0) (C4 r j)))) x7) (λj b _ f UX=>JW g U N F P nl fs f UX/\Gr g.tc (GW g fs nl f0 k l (fw.getD l 0) r j) f0 f b) #[j,y.Xw λe c=>#[c,e▸rfl,λh=>absurd h (SV _)]] (λ_=>trivial) (λj=>cy<|q _ _ _ _ _ j.1<|j.2.Xw λ_ c=>by rw[Lt,RU]at c;show GL.step c.1 hr (c.2.1▸c.2.2)) λ{i x b _ f U3 K} hx j go J _=>el hx λ{s} a=>?_;let O:=j.1.1;let I:=j.1.2;let m:=W.Xm hr (List.mem_reverse.mp (Q4 a));let gs:=bD (d:=0) (A.len▸m);let u:=bD (d:=0) (I.len▸m);let E:=bD (d:=false) (H.len▸m);let o:=I.len▸p;let sx:=DA a;let w:=λc=>Bool.eq_false_iff.mpr λk=>Sn.mpr (((H.io s).mp k).ge W) c;let tl {C:aw} {b:Bool} {f:TN} (O:aA U C (Qp N F P nl fs f)) I (y:Gr g.tc (GW g fs nl f0 k l (fw.getD l 0) r (i+1)) f0 f b):an tab (CC (n+1)) ii (Jo h N F P (some (.bool b)) (some (.ref ra)) (some (.int (X4 fs nl (fw.getD l 0) (C4 r i)))) (some (.int s))) C K:=
  aZ (yj (f:=λ(i:Nat)=>.int i) (lV (aM (ag rfl) (ag rfl) (O.get 2 rfl) (H.len▸p) E)) (λ_=>iY (ag rfl) (aM (l:=fs) (ag rfl) (ag rfl) (O.get 1 rfl) v gs)) λ_=>aM (l:=fs) (ag rfl) (ag rfl) (O.get 1 rfl) v gs)<|bG<|by
   let:=go (b1:=some (.int s)) #[#[O,I],y];rw[sx]at this;show this
 show eM (lV (G3 G Z O.ext (ag rfl) (ag rfl))) (λc=>aZ (aM (ag rfl) (ag rfl) (O.get 1 rfl) v gs)<|vw<|?_) λc=>aU<|qk (BE (iY (aM (l:=f) (ag rfl) (ag rfl) (O.get 0 rfl) o u) (ag rfl)) (aM (l:=f) (ag rfl) (ag rfl) (O.get 0 rfl) o u)) (λz=>lB (f:=λ(i:Nat)=>.int i) (iY (aM (l:=f) (ag rfl) (ag rfl) (O.get 0 rfl) o u) (ag rfl)) (ag rfl) (ag rfl) O 0 rfl (I.len▸m) o λC O=>aZ am<|aU<|tl O (I.set m (I.bit H A hr D a))<|j.2.grow u (vB λe=>z (Rs _ e)) (jM λt k=>(I.bit H A hr D a t k).lt) _) λz=>aU<|tl O I<|j.2.Xw λe c=>#[c.1,c.2.1,JI.step c.2.2 a λ_=>e▸R5.mp z]
 .let e:X4 fs nl (fw.getD l 0) (C4 r (i+1))=fs.getD s 0:=by
   rw[sx];rw[Jx];rw[w c,Ui]
  let:=J (b1:=some (.int s)) #[j.1,j.2.Xw λ_ B=>#[B.1,B.2.1,JI.step B.2.2 a λk=>absurd c (Sn.mpr (Rf k))]];rw[e]at this;show this
theorem Fj{Q:QF}(j:JW g U N F P nl fs f0 UY)(q:∀b x5 x6 x7 fw UX,JW g U N F P nl fs fw UX->Gr g.tc (GL g fs nl fw g.rules.length) f0 fw b->Q .next (Jo h N F P (some (.bool b)) x5 x6 x7) UX):
  an tab (CC (n+1)) ie (Jo h N F P (some (.bool true)) x5 x6 x7) UY Q:=
 aZ am<|aR<|aK<|gV G j.1.ext rfl rfl rfl _<|aI (j.1.ext _ _ G.rl)<|c7 (λ_ b x5 x6 x7 _=>Jo h N F P (some (.bool b)) x5 x6 x7) (λk b _ _ _ fw UX=>JW g U N F P nl fs fw UX/\Gr g.tc (GL g fs nl f0 k) f0 fw b) #[j,#[λ_=>#[rfl,λh=>absurd h (SV _)],nf]] (λj=>j.1.1.ext _ _ G.rl) (λj=>cy<|q _ _ _ _ _ _ j.1 (by rw[Lt,G.Xz]at j;show j.2.Xw λe c=>e▸c)) λhx j go _=>ku G hx λhr hi=>Fk G Z W H A hr hi j.1 j.2 λb x6 x7 fw UX j a=>go #[j,a]
end
theorem qK{h:Gh}{Q:QV}(G:bh U g h)(Z:Sz g h)(W:WF g)(q:∀c UX fw,IL g fw->aA U UX [(c,.list (ay fw))]->Q (.ref c) UX):CC (n+4) 219 [.ref h.a] U Q:=by
 change an tab (CC (n+3)) ic [some (.ref h.a),none,none,none,none,none,none,none,none,none,none] U (aW Q);show aC<|aG<|aj<|ah rfl<|f8 G Z W λN UY nl H f=>aC<|aG<|aj<|ah rfl<|eW (G.ext f.ext) Z W λF U3 fs A m=>aC<|yB G Z (f.app m) am (ag rfl) λP r O=>aZ am<|sk (a4:=List.replicate (NN g) 0) (λb x5 x6 x7 _=>Jo h N F P (some (.bool b)) x5 x6 x7) (λb _ _ _ fw=>mu g.tc b fw) (λb _ _ _ fw UX=>JW g U N F P nl fs fw UX/\(b=false->GL g fs nl fw g.rules.length)) #[#[?_,Sp,λs t k=>?_],nt] λ{b x5 x6 x7 fw p K} j go o=>lV (ag rfl) _ #[λc=>?_,λc=>cB (ag rfl)<|q _ _ fw (j.1.2.done W H A (j.2 c)) (j.1.1.sub (.cons_cons _ (Se _)))]
 .let e:ay (List.replicate (NN g) 0)=List.replicate (NN g) (V.int 0):=List.map_replicate;rw[<- e]at O;show O
 .rw[Sw,TU]at k;let k:(0:Nat).testBit t=true:=by split at k<;>show k
  rw[Tp]at k;show nF k
 subst c;show Fj G Z W H A j.1 λb x5 x6 x7 l UX i d=>go #[i,λe=>(d.1 e).2] d.mu
variable{L L':aQ}{a c ep:Nat}{dv v:V}{e x y:E}{m:TA}{o:O}{p q:Ps}{ss:Ss}{α β:Type}{κ:DK}{UX U0:aw}
structure lT{α:Type}(κ:DK)(f:α->V):Prop where
 is:∀a,κ.is (f a)
 inj:∀{a b},f a=f b->a=b
noncomputable def dK(f:α->V)(g:β->V)(d:List (α×β)):List (V×V):=d.map λe=>(f e.1,g e.2)
section
variable[DecidableEq α]{f:α->V}{g:β->V}{d:List (α×β)}{k:α}{v:β}
noncomputable abbrev br(d:List (α×β))(k:α):Option β:=d.lookup k
noncomputable def dQ(d:List (α×β))(k:α)(v:β):List (α×β):=bif (d.lookup k).isSome then d.map (λe=>bif e.1== k then(k,v) else e) else d++[(k,v)]
theorem lT.beq(E:lT κ f)(a b:α):V.VI (f a) (f b)=(b== a):=by
 by_cases e:b=a
 .subst e;rw[RK];show V.U9.mpr rfl
 rw[SE e];show V.VQ.mpr λh=>e (E.inj h).symm
theorem tj(E:lT κ f)(d:List (α×β)):fP (dK f g d) (f k)=(d.lookup k).map g:=by
 unfold fP dK;induction d with
 |nil=>rfl
 |cons x d a=>
  rw[Sb,List.find?_cons,RZ,E.beq];cases k== x.1 with
  |true=>rfl
  |false=>show a
theorem zC(E:lT κ f)(d:List (α×β)):iN (dK f g d) (f k)=(d.lookup k).isSome:=by
 unfold iN dK;induction d with
 |nil=>rfl
 |cons x d a=>
  rw[Sb,Ux,RZ,E.beq];cases k== x.1 with
  |true=>rfl
  |false=>show a
theorem iU(E:lT κ f)(d:List (α×β)):eG (dK f g d) (f k) (g v)=dK f g (dQ d k v):=by
 unfold eG dQ;erw[zC E];cases (d.lookup k).isSome with
 |false=>show(Rd (l₂:=[(k,v)])).symm
 |true=>
  change(d.map _).map _=(d.map _).map _;rw[Su,Su];show Ty λe _=>?_;change(if V.VI (f e.1) (f k)=true then(f e.1,g v) else(f e.1,g e.2))=_;rw[E.beq,Bool.beq_comm];by_cases c:e.1=k
  .subst c;rw[RK,RO rfl];change _=(λe=>(f e.1,g e.2)) (bif e.1== e.1 then(e.1,v) else e);rw[RK];rfl
  rw[SE c,RX nf];change _=(λe=>(f e.1,g e.2)) (bif e.1== k then(k,v) else e);rw[SE c];rfl
theorem gj(E:lT κ f)(d:List (α×β))(k:α):c6 (dK f g d) (f k):=#[κ,E.is k,λe h=>by
 show aq (Re.mp h) ?_;ext x _ rfl;show E.is _]
theorem oj(d:List (α×β)):(dK f g d).map (·.1)=d.map λe=>f e.1:=Su
theorem KT(d:List (α×β))(k':α):(d.map λe=>bif e.1== k then(k,v) else e).lookup k'=if k'=k then(d.lookup k).map λ_=>v else d.lookup k':=by
 induction d with
 |nil=>split<;>rfl
 |cons x d b=>
  erw[Sb,RZ,RZ,RZ,b];by_cases c:x.1=k
  .clear b;subst c;erw[RK,Ua];by_cases a:k'=x.1
   .subst a;simp
   simp[a,beq_false_of_ne a]
  erw[SE c,Ui,SE (Ne.symm c)];by_cases a:k'=x.1
  .clear b;subst a;simp[c]
  simp[beq_false_of_ne a]
theorem KU(d d':List (α×β))(k':α):(d++d').lookup k'=(d.lookup k').or (d'.lookup k'):=by
 induction d with
 |nil=>rfl
 |cons x d a=>
  rw[List.cons_append,RZ,RZ,a];cases k'== x.1<;>rfl
theorem cD(d:List (α×β))(k k':α)(v:β):br (dQ d k v) k'=if k'=k then some v else br d k':=by
 unfold br;unfold dQ;cases e:(d.lookup k).isSome with
 |true=>
  erw[Ua,KT];split
  .show az (Sh.mp e) λx hx=>?_;erw[hx];rfl
  rfl
 |false=>
  erw[Ui,KU,RZ,List.lookup_nil];by_cases c:k'=k
  .subst c;erw[T7.mp e |> SK.mp,RO rfl,RK];rfl
  erw[RX c,SE c];show Option.or_none
theorem kB(d:List (α×β))(k:α)(v:β):(dQ d k v).length<=d.length+1:=by
 unfold dQ;cases (d.lookup k).isSome with
 |true=>rw[Ua,Lt];show SS _
 |false=>show RW Q9
theorem kA(h:br d k=none)(v:β):dQ d k v=d++[(k,v)]:=by unfold br at h;unfold dQ;rw[h];rfl
theorem N7:br d k=none↔∀e∈d,e.1≠k:=by
 unfold br;induction d with
 |nil=>show#[λ_ _ h=>n0 h,λ_=>rfl]
 |cons x d a=>
  rw[RZ];by_cases c:k=x.1
  .clear a;subst c;rw[RK];show#[λh=>(nS h.symm),λh=>absurd rfl (h x (.head _))]
  rw[SE c];show a.trans #[λh e he=>by
   rcases RB.mp he with rfl|he
   .show Ne.symm c
   show h e he,λh e he=>h e (.tail _ he)]
theorem cq(h:br d k=some v):(k,v)∈d:=by
 unfold br at h;induction d with
 |nil=>(cases h)
 |cons x d a=>
  rw[RZ]at h;by_cases c:k=x.1
  .clear a;subst c;rw[RK]at h;replace h:=Is h;cases h;show .head _
  rw[SE c]at h;show .tail _ (a h)
theorem c0(n:(d.map (·.1)).Nodup)(h:(k,v)∈d):br d k=some v:=by
 unfold br;induction d with
 |nil=>(show n0 h)
 |cons x d a=>
  rw[Sb,R9]at n;rw[RZ];rcases RB.mp h with rfl|h
  .rw[RK]
  rw[SE λc=>n.1 (by rw[<- c];show Rn h)];show a n.2 h
theorem sB(d:List (α×β))(k:α)(v:β):(dQ d k v).map (·.1)=bif (d.lookup k).isSome then d.map (·.1) else d.map (·.1)++[k]:=by
 unfold dQ;cases (d.lookup k).isSome with
 |false=>show Rd
 |true=>
  rw[Ua,Ua,Su];show Ty λe _=>?_;change(bif e.1== k then(k,v) else e).1=e.1;by_cases c:e.1=k
  .rw[c,RK];rfl
  rw[SE c];rfl
theorem pu(n:(d.map (·.1)).Nodup)(v:β):((dQ d k v).map (·.1)).Nodup:=by
 rw[sB];cases e:(d.lookup k).isSome with
 |true=>show n
 |false=>
  let:=N7.mp (SK.mp (T7.mp e));show R3.mpr #[n,RJ ..,λa f b c=>?_];show aq (Re.mp f) ?_;clear f e;ext x hx rfl;rw[Q6]at c;subst c;show this x hx
variable{C:CT}{i:E}{r:Ps}{Q:QF}
theorem bH(E:lT κ f)(hx:Ev C L U x (.ref a))(hi:Ev C L U i (f k))(h:U a=some (.dict (dK f g d) ep))(e:br d k=some v):Ev C L U (.item x i p) (g v):=G2 hx hi h (gj E d k) (by erw[tj E];unfold br at e;rw[e];rfl)
theorem yl(E:lT κ f)(hx:Ev C L U x (.ref a))(hi:Ev C L U i (f k))(hy:Ev C L U y dv)(h:U a=some (.dict (dK f g d) ep)):Ev C L U (.U1 .get x (.cons i (.cons y .nil)) p q) (((br d k).map g).getD dv):=LX hx hi hy h (gj E d k) (by erw[tj E])
theorem wC(E:lT κ f)(hi:Ev C L U i (f k))(hx:Ev C L U x (.ref a))(h:U a=some (.dict (dK f g d) ep)):Tv C L U (.cmp .isin i x p) (br d k).isSome:=λQ q=>hi _ (hx _ (by
 show GR h #[gj E d k,by erw[zC E];show q]))
theorem yn(E:lT κ f)(hi:Ev C L U i (f k))(hx:Ev C L U x (.ref a))(h:U a=some (.dict (dK f g d) ep)):Tv C L U (.cmp .Vi i x p) (!(br d k).isSome):=λQ q=>hi _ (hx _ (by
 show GR h #[gj E d k,by erw[zC E];show q]))
theorem lZ(E:lT κ f)(hy:Ev C L U y (g v))(hx:Ev C L U x (.ref a))(hi:Ev C L U i (f k))(O:aA U0 U m)(j:Nat)(e:m[j]?=some (a,.dict (dK f g d) ep))(s:d.length<100000)(q':∀VE UX,aA U0 UX (m.set j (a,.dict (dK f g (dQ d k v)) VE))->an tab C ss L UX Q):an tab C (.cons (.Ve x i p y q) ss) L U Q:=J7 hy hx hi O j e (gj E d k) (by unfold dK;rw[List.length_map];show cY s) λVE UX O=>q' VE UX (iU E d▸O)
end
noncomputable def kI(i:Nat):V:=.int i
theorem qt:lT .i kI:=#[λa=>#[a,rfl],λ{a b} h=>by unfold kI at h;cases h;rfl]
noncomputable def ET(p:Nat×Nat):V:=.tup [.int p.1,.int p.2]
theorem CG:lT .ti ET:=#[λa=>#[[a.1,a.2],rfl],λ{a b} h=>by
 injection h with h;injection h with h1 h;injection h with c _;injection h1 with h1;injection c with c;show Prod.ext (R5.mp h1) (R5.mp c)]
theorem aA.add(h:aA U0 U m)(E:bF U UX)(a:U c=none)(k:UX c=some o):aA U0 UX ((c,o)::m):=h.app (m':=[(c,o)]) #[E,RJ ..,λx hx=>Q6.mp hx▸a,λx hx=>Q6.mp hx▸k]
theorem aA.toEnd{x:Nat×O}{fx:TA}{Vb:List α}{g:α->Nat×O}(h:aA U0 U (x::(fx++Vb.map g))){y:α}(e:g y=x):aA U0 U (fx++(Vb++[y]).map g):=h.perm (by
 rw[Rd,<- Rz];change(x::(fx++Vb.map g)).Perm ((fx++Vb.map g)++[g y]);rw[e];show(List.perm_append_singleton ..).symm)
section
variable[DecidableEq α]{f:α->V}{k:α}{C:CT}{i:E}{r:Ps}{Q:QF}
theorem DO(E:lT κ f){d:List (α×Nat)}(hx:∀{UX:aw},Ev C L UX x (.ref a))(hi:∀{UX:aw},bF U0 UX->Ev C L UX i (f k))(O:aA U0 U m)(j:Nat)(e:m[j]?=some (a,.dict (dK f .ref d) ep))(s:d.length<100000)(q':∀c VE UX,aA U0 UX ((c,.list [])::m.set j (a,.dict (dK f .ref (dQ d k c)) VE))->an tab C ss L UX Q):an tab C (.cons (.Ve x i p (.list .nil q) r) ss) L U Q:=
 pe<|bT λc b=>hx _<|hi (O.new b _).ext _<|jB ((O.new b _).get (j+1) e) (gj E d k) (by unfold dK;rw[List.length_map];show cY s)<|q' c _ _ (by rw[iU E d];show(O.new b _).set (j+1) e _)
theorem IV{l:List Nm}(h:Ev C L U e v)(a:lA (.tup l q) v L=some L')(k:an tab C ss L' U Q):an tab C (.cons (.VL l q e p) ss) L U Q:=gG<|h _ (by rw[a];show k)
end
variable{b:Nat}{rs:TN}{k:Nat×Nat}{ps:TQ}
noncomputable abbrev Tb:=List ((Nat×Nat)×(Nat×List Nat))
noncomputable def t8(ps:TQ)(k:Nat×Nat):List Nat:=(ps.filter λp=>p.1== k).map (·.2)
noncomputable def rC(tb:Tb):List ((Nat×Nat)×Nat):=tb.map λe=>(e.1,e.2.1)
noncomputable def NS(e:(Nat×Nat)×(Nat×List Nat)):Nat×O:=(e.2.1,.list (ay e.2.2))
structure PI(tb:Tb)(ps:TQ)(b:Nat):Prop where
 nd:(tb.map (·.1)).Nodup
 eq:∀e∈tb,e.2.2=t8 ps e.1
 has:∀p∈ps,∃e∈tb,e.1=p.1
 len:tb.length<=b
theorem Ay(h:∀p∈ps,p.1≠k):t8 ps k=[]:=by unfold t8;rw[Uw.mpr λp a e=>h p a (RP.mp e)];rfl
theorem Hl(ps:TQ)(k k':Nat×Nat)(i:Nat):t8 (ps++[(k,i)]) k'=bif k== k' then t8 ps k'++[i] else t8 ps k':=by
 unfold t8;rw[T8,Rd,UD];cases h:k== k' with
 |true=>rw[RO rfl];rfl
 |false=>rw[RX nf];show RD _
theorem N6:i∈t8 ps k↔(k,i)∈ps:=by
 unfold t8;erw[Re];show#[λzq=>by
  show aq zq λp a e=>?_;show ao (Sa.mp a) λa b=>?_;rw[<- e,<- RP.mp b];show a,λh=>#[_,Sa.mpr #[h,RK _],rfl]]
theorem wA(tb:Tb):(rC tb).map (·.1)=tb.map (·.1):=Su
theorem PI.zero:PI [] [] 0:=#[.nil,(λ_ h=>n0 h),(λ_ h=>n0 h),Rm _]
theorem PI.new{tb:Tb}(h:PI tb ps b)(g:br (rC tb) k=none)(c:Nat):PI (tb++[(k,c,[])]) ps (b+1)/\rC (tb++[(k,c,[])])=dQ (rC tb) k c:=by
 let f:∀e∈tb,e.1≠k:=λe he=>N7.mp g (e.1,e.2.1) (Rn he);show#[#[?_,λe he=>?_,λp d=>?_,?_],?_]
 .rw[Rd];show R3.mpr #[h.nd,RJ ..,λa i b j=>by
   show aq (Re.mp i) ?_;clear i;ext x hx rfl;rw[Q6.mp j];show f x hx]
 .rcases Ra.mp he with he|he
  .show h.eq e he
  rw[Q6.mp he];show(Ay λp d e=>by
   show aq (h.has p d) λx hx l=>?_;show f x hx (l.trans e)).symm
 .show aq (h.has p d) λe he x=>#[e,RE _ he,x]
 .rw[Q9];show Rj h.len
 erw[kA g];show Rd
set_option tactic.hygienic true in
theorem PI.add{tb:Tb}{u:Nat}(h:PI tb ps b)(c:tb[j]?=some (k,u,rs)):PI (tb.set j (k,u,rs++[i])) (ps++[(k,i)]) b/\rC (tb.set j (k,u,rs++[i]))=rC tb:=by
 let l:(tb.set j (k,u,rs++[i])).map (·.1)=tb.map (·.1):=vO rfl c;let n:=ai c;show#[#[l▸h.nd,λe he=>?_,λp d=>?_,by rw[TB];show h.len],?_]
 .rw[Hl];show az (RL.mp he) λm f=>?_;clear he;rcases vn f with g|g
  .show ao g ?_;clear g;clear f;ext _ rfl;rw[RK];show Rs (·++[i]) (h.eq _ (Q4 c))
  show ao g λne f=>?_;let:k≠e.1:=λq=>ne (cF h.nd (a:=k) (by rw[RF,f,q];rfl) (by rw[RF,c];rfl));rw[SE this];show h.eq _ (Q4 f)
 .let:p.1∈tb.map (·.1):=by
   rcases Ra.mp d with d|d
   .show aq (h.has p d) λe he x=>?_;show Re.mpr #[e,he,x]
   rw[Q6.mp d];show Re.mpr #[_,Q4 c,rfl]
  rw[<- l]at this;show Re.mp this
 unfold rC;rw[US];apply Ug;ext m;rw[Uf];split
 .rename_i e;subst e
  rw[RF,c,Lt,RO n];rfl
 rfl
theorem PI.at_{tb:Tb}(h:PI tb ps b){u:Nat}(a:tb[j]?=some (k,u,rs)):br (rC tb) k=some u:=c0 (by rw[wA];show h.nd) (Re.mpr #[_,Q4 a,rfl])
theorem G9{tb:Tb}(h:br (rC tb) k≠none):∃(j u:Nat)(rs:TN),tb[j]?=some (k,u,rs):=by show az (Option.ne_none_iff_exists'.mp h) λu hu=>?_;show aq (Re.mp (cq hu)) λe he b=>?_;show az (RL.mp he) λj a=>?_;clear hu h;cases b;show#[j,_,_,a]
theorem D8(W:WF g)(H:fW g nl)(A:o0 g fs)(B:IL g fw){l:Nat}(hr:g.rules[i]?=some (l,r))(t:Nat):(bif (fo fs nl r 0).2 then(fo fs nl r 0).1 ||| fw.getD l 0 else(fo fs nl r 0).1).testBit t=true↔jy g i t:=by
 let a:jy g i t↔bx g r t\/bM g r/\VW g l t:=#[(by ext d;show ck d λl' r' e x=>?_;show by rw[hr]at e;replace e:=Is e;cases e;show x),λx=>#[l,r,hr,x]];erw[a];cases c:(fo fs nl r 0).2 with
 |false=>
  let:¬bM g r:=λn=>by rw[(vR H).mpr n]at c;show nF c.symm
  show(A.fo H).trans #[.inl,λh=>h.elim id λh=>absurd h.1 this]
 |true=>
  let n:=(vR H).mp c;erw[Ua,Sv,TG,A.fo H];show or_congr Iff.rfl ?_;erw[B.io l t]
  .show#[λh=>#[n,h],(·.2)]
  show Sj (W.Vp (aF hr)).1 λe=>?_;clear c a;induction i with
  |zero=>
   show aq W.zero λS b _=>?_;rw[hr]at b;clear hr e;cases b;let:=(n 0 (.tail _ (.head _))).ge W;let:=W.pos;lia
  |succ i=>show RY (W.left i l r hr).1 e
variable{k:Nat}{bs:TN}{d:TQ}{h:Gh}{tb:Tb}{x8:TO}
noncomputable def GN(T P F N:Nat)(nl:List Bool)(fs fw:TN)(d:TQ)(tb:Tb)(ep:Nat):List (Nat×O):=[(T,.dict (dK ET .ref d) ep),(P,.list (ay fw)),(F,.list (ay fs)),(N,.list (ef nl))]++tb.map NS
noncomputable def I4(h:Gh)(N F P T:Nat)(x5 x6 x7 x8:TO):aQ:=[some (.ref h.a),some (.ref N),some (.ref F),some (.ref P),some (.ref T),x5,x6,x7,x8,none,none,none,none,none]
theorem MC{T P F:Nat}{u:Nat}{k:Nat×Nat}(h:tb[j]?=some (k,u,rs)):((c,o)::GN T P F N nl fs fw d tb ep)[5+j]?=some (u,.list (ay rs)):=sX [_,_,_,_,_] h
theorem Kl{T P F:Nat}{u:Nat}(k:Nat×Nat):((c,o)::GN T P F N nl fs fw d tb ep).set (5+j) (u,.list (ay rs))=(c,o)::GN T P F N nl fs fw d (tb.set j (k,u,rs)) ep:=vS (g:=NS) (fx:=[_,_,_,_,_]) rfl
structure PO(g:Gm)(k:Nat)(ps:TQ):Prop where
 nd:ps.Nodup
 io:∀X t i,((X,t),i)∈ps↔i<k/\∃r,g.rules[i]?=some (X,r)/\jy g i t
 len:ps.length<=g.tc*k
noncomputable def ud(l k:Nat)(bs:TN):List ((Nat×Nat)×Nat):=bs.map λt=>((l,t),k)
theorem PO.zero(g:Gm):PO g 0 []:=#[.nil,λ_ _ _=>#[λh=>(n0 h),λh=>absurd h.1 (SV _)],Rx _]
theorem PO.step{l:Nat}(h:PO g k ps)(hr:g.rules[k]?=some (l,r))(nd:bs.Nodup)(f:∀t,t∈bs↔jy g k t)(o:bs.length<=g.tc):PO g (k+1) (ps++ud l k bs):=by
 show#[R3.mpr #[h.nd,UR.mpr (nd.imp λn e=>n (SZ (SZ e).1).2),λa q b s e=>?_],λX t i=>?_,?_]
 .show aq (Re.mp s) ?_;ext t _ rfl;subst e;show absurd ((h.io _ _ _).mp q).1 (Si _)
 .erw[Ra,h.io,show((X,t),i)∈ud l k bs↔(X=l/\t∈bs/\i=k) by
   unfold ud;erw[Re];show#[(by ext d;show aq d λt' ht e=>?_;clear d;show yP e ?_;clear e;ext m zd;cases m;cases zd;show#[rfl,ht,rfl]),(by ext d;show bP d λe1 ht e2=>#[t,ht,by rw[e1,e2]])],f]
  constructor
  .clear f h;ext(⟨a,b⟩|⟨rfl,p,rfl⟩)
   .show#[TM a,b]
   show#[Sq _,r,hr,p]
  clear f h;ext d;show ao d λa j=>?_;clear d;show aq j λr' e p=>?_;clear j;by_cases c:i=k
  .subst c;rw[hr]at e;replace e:=Is e;cases e;show .inr #[rfl,p,rfl]
  show .inl #[Sj (R4 a) c,r',e,p]
 unfold ud;rw[Q9,Lt,Nat.mul_succ];show RS h.len o
theorem vq(ps:TQ)(k:Nat×Nat):(t8 ps k).length<=ps.length:=by unfold t8;rw[List.length_map];show List.length_filter_le ..
theorem Ao(tb:Tb):(rC tb).length=tb.length:=Lt _
section
variable{F P T:Nat}
theorem B6{C:CT}{l:Nat}(hi:cx U ra 87 (BX k l r lv)){Q:QF}(O:aA U UY ((c,.list (ay bs))::GN T P F N nl fs fw (rC tb) tb ep))(I:PI tb ps b)(n:b<100000)(m:ps.length<100000)
  (q:∀tb ep UX,aA U UX ((c,.list (ay bs))::GN T P F N nl fs fw (rC tb) tb ep)->PI tb (ps++[((l,t),k)]) (b+1)->Q .next (I4 h N F P T (some (.ref ra)) x6 x7 (some (.int t))) UX):
  an tab C qC (I4 h N F P T (some (.ref ra)) x6 x7 (some (.int t))) UY Q:=by
 let tl {tb:Tb} {ep j u:Nat} {rs:TN} {UY:aw} (O:aA U UY ((c,.list (ay bs))::GN T P F N nl fs fw (rC tb) tb ep)) (I:PI tb ps (b+1)) (a:tb[j]?=some ((l,t),u,rs)):an tab C qD (I4 h N F P T (some (.ref ra)) x6 x7 (some (.int t))) UY Q:=
  de (f:=λ(i:Nat)=>.int i) (bH CG (ag rfl) (bW (be (m5 hi O.ext rfl) (bz (ag rfl))) aT) (O.get 1 rfl) (I.at_ a)) (Dk hi O.ext rfl) O (5+j) (MC a) (Q5 (Gt (RW (Rs List.length (I.eq _ (Q4 a)))) (vq ..)) m) λU3 O=>bG<|q _ ep _ (by rw[(I.add (i:=k) a).2];show(Rs (aA U U3) (Kl (l,t))).mp O) (I.add a).1
 show cC (yn (k:=(l,t)) CG (bW (be (m5 hi O.ext rfl) (bz (ag rfl))) aT) (ag rfl) (O.get 1 rfl)) (λd=>?_) λd=>?_
 .let g:=SK.mp (T7.mp ((SA _).mp d));show DO CG (ag rfl) (λE=>bW (be (m5 hi E rfl) (bz (ag rfl))) aT) O 1 rfl (by rw[Ao];show Q5 I.len n) λu VE U3 O=>aU<|tl (by rw[(I.new g u).2];show O.toEnd (fx:=[_,_,_,_,_]) rfl) (I.new g u).1 (by rw[Ro (Rm _),SP];rfl)
 show ON (G9 λe=>by rw[e]at d;cases d) λj u rs a=>?_;show aU<|tl O #[I.nd,I.eq,I.has,Tr I.len] a
end
theorem Cw{l y:Nat}(h:bs[j]?=some y)(ps:TQ):ps++ud l k (bs.take (j+1))=ps++ud l k (bs.take j)++[((l,y),k)]:=by unfold ud;rw[ax h,Rd,Rz];rfl
section
variable{F P T:Nat}(G:bh U g h)(Z:Sz g h)(W:WF g)(H:fW g nl)(A:o0 g fs)(B:IL g fw)
include G Z W H A B
theorem B5{l:Nat}(hr:g.rules[k]?=some (l,r))(hi:cx U ra 87 (BX k l r lv)){Q:QF}(O:aA U UY (GN T P F N nl fs fw (rC tb) tb ep))(I:PI tb ps (g.tc*k))(po:PO g k ps)
  (q:∀tb ep ps x6 x7 x8 UX,aA U UX (GN T P F N nl fs fw (rC tb) tb ep)->PI tb ps (g.tc*(k+1))->PO g (k+1) ps->Q .next (I4 h N F P T (some (.ref ra)) x6 x7 x8) UX):
  an tab (CC (n+1)) qA (I4 h N F P T (some (.ref ra)) x6 x7 x8) UY Q:=by
 let b:=Z.syms;let a:NN g<=100000:=Gt b (dR rfl);let f:=Gt (Gt (SS _) (Ri ..)) b;let D:=Gt (Rf (ai hr)) Z.rules;let i:=UP f D;let tl {m:Nat} {x7:TO} (u:∀t,m.testBit t=true↔jy g k t):an tab (CC (n+1)) qB (I4 h N F P T (some (.ref ra)) (some (.int m)) x7 x8) UY Q:=by
  let v:∀t,jy g k t->t<g.tc:=λt C=>(by show ck C λ_ _ _ p=>?_;show p.elim (·.lt) (·.2.lt));show aR<|aK<|aG<|aj<|ag rfl _<|wa n m (Rc (jM λt k=>v t ((u t).mp k)) (TJ (dR rfl) (Gt f (dR rfl)))) λk0 c U3 _ hz E L z=>aI z ?_;let w:=λt=>(mC hz).trans (u t);let bn:=iV m k0;let bl:(ct m k0).length<=g.tc:=by
   let:=bn.length_le_of_subset λt ht=>SY.mpr (v t ((w t).mp ht));rw[RN]at this;show this
  show eZ (λ_ x8 _ _=>I4 h N F P T (some (.ref ra)) (some (.int m)) x7 x8) (λj _ tb ep UX=>aA U UX ((c,.list (ay (ct m k0)))::GN T P F N nl fs fw (rC tb) tb ep)/\PI tb (ps++ud l k ((ct m k0).take j)) (g.tc*k+j)) #[O.add E L z,by rw[SF];unfold ud;rw[List.map_nil,List.append_nil];show I] (λj=>j.1.hd) (λ{_ tb ep M} j=>?_) λ{j x _ tb ep M K} hx J go _=>el hx λ{y} hy=>?_
  .rw[aS,RI]at j;show q _ _ _ _ _ _ _ j.1.tl #[j.2.nd,j.2.eq,j.2.has,Gt j.2.len (Rb bl _)] (po.step hr bn w bl)
  let G:=Rf (Rc (ai hy) bl);show B6 hi J.1 J.2 ((Q5 (RS i (Gt G (Gt (Gt (Ri _ _) (Ri _ _)) b))) (dR rfl))) (by
   let:=po.len;unfold ud;rw[Q9,Lt,R7];show Q5 (RS (Gt this i) (Gt (Um _ _) (Gt bl (Gt (Gt (Ri _ _) (Ri _ _)) b)))) (dR rfl)) λtb ep UX O I=>go #[O,Cw hy ps▸I]
 let e:=D8 W H A B hr;show IV (r8 (be (yg hi O.ext rfl) (be (ag rfl) (bz (ag rfl)))) λQ q=>jQ (O.get 3 rfl) (O.get 2 rfl) (H.len▸a) (A.len▸a) (λs o=>#[H.len▸W.Xm hr o,A.len▸W.Xm hr o]) q) rfl<|cC (lV (ag rfl)) (λc=>aZ (iY (ag rfl) (aM (l:=fw) (ag rfl) (m5 hi O.ext rfl) (O.get 1 rfl) (B.len▸a) (bD (d:=0) (B.len▸W.Yb hr))))<|aU<|tl ?_) λc=>aU<|tl ?_
 .rw[c]at e;show e
 rw[c]at e;show e
end
theorem sC{Q:QV}(G:bh U g h)(Z:Sz g h)(W:WF g)(q:∀T UX tb ep ps,PI tb ps (g.tc*g.rules.length)->PO g g.rules.length ps->aA U UX ((T,.dict (dK ET .ref (rC tb)) ep)::tb.map NS)->Q (.ref T) UX):CC (n+5) 233 [.ref h.a] U Q:=by change an tab (CC (n+4)) qz [some (.ref h.a),none,none,none,none,none,none,none,none,none,none,none,none,none] U (aW Q);show aC<|aG<|aj<|ah rfl<|f8 G Z W λN UY nl H b=>aC<|aG<|aj<|ah rfl<|eW (G.ext b.ext) Z W λF U3 fs A c=>aC<|aG<|aj<|ah rfl<|qK (G.ext (b.app c).ext) Z W λP i fw B e=>l4 ((b.app c).app e) λT ep f O=>aR<|aK<|gV G O.ext rfl rfl rfl _<|aI (O.ext _ _ G.rl)<|c7 (a0:=(none,none)) (a1:=(none,none)) (a2:=[]) (λ_ x y _ _ _=>I4 h N F P T x.1 x.2 y.1 y.2) (λk _ _ tb ep ps UX=>aA U UX (GN T P F N nl fs fw (rC tb) tb ep)/\PI tb ps (g.tc*k)/\PO g k ps) #[O,.zero,.zero g] (λj=>j.1.ext _ _ G.rl) (λ{_ _ tb ep ps d} j=>cB (ag rfl) ?_) λhx j go _=>ku G hx λhr hi=>B5 G Z W H A B hr hi j.1 j.2.1 j.2.2 λtb ep ps x6 x7 x8 UX O I po=>go (b0:=(_,x6)) (b1:=(x7,x8)) #[O,I,po];rw[Lt,G.Xz]at j;show q T d tb ep ps j.2.1 j.2.2 (j.1.sub (.cons_cons _ (.cons _ (.cons _ (.cons _ (.refl _))))))
variable{elt:E}{l xs:TV}
theorem i8{f:β->V}{g:aw->Prop}{st:V->aw->(Option V->aw->Prop)->Prop}{K:List V->aw->Prop}(I:Nat->List β->aw->Prop)(z:xs.length<=100000)(h0:I 0 [] U)(a:∀{k l U},I k l U->g U)(last:∀{l U},I xs.length l U->K (l.map f) U)
  (step:∀{k x l U}{R:Option V->aw->Prop},xs[k]?=some x->I k l U->(∀{y UX},I (k+1) (l++[y]) UX->R (some (f y)) UX)->(∀{UX},I (k+1) l UX->R none UX)->st x U R):hG g st xs [] U K:=by
 let:∀(l:List β)(U:aw),l.length+xs.length<=100000->I 0 l U->hG g st xs (l.map f) U K:=by
  clear h0 z;induction xs generalizing I with
  |nil=>show λl U _ h=>#[a h,last h]
  |cons x xs b=>
   ext l U z h;rw[Rq,<- SQ]at z;show#[a h,step rfl h (λ{y UX} h=>#[?_,?_]) λ{UX} h=>b (λk=>I (k+1)) a last (λhx=>step hx) l UX (Gt (Rv (SS _) _) z) h]
   .rw[Lt];show cY (Rc (Sq _) (Gt (Ri ..) z))
   let:=b (λk=>I (k+1)) a last (λhx=>step hx) (l++[y]) UX (by rw[Q9];show z) h;rw[Rd]at this;show this
 show this [] U (by rw[Tm,S9];show z) h0
theorem NF{C:CT}{x:Nm}{t:T}{w:V}{R:Option V->aw->Prop}{b:Bool}(h:Tv C (L++[some v]) U t b)(h1:b=true->Ev C (L++[some v]) U elt w)(c:b=true->R (some w) U)(a:b=false->R none U):tw C elt (.nm x) (.cons t .nil) L v U R:=
 h _ #[λe=>#[λ_=>h1 e _ (c e),nt],λe=>#[nf,λ_=>a e]]
theorem Ju{C:CT}{x:Nm}{w:V}{R:Option V->aw->Prop}(h:Ev C (L++[some v]) U elt w)(k:R (some w) U):tw C elt (.nm x) .nil L v U R:=#[λ_=>h _ k,nt]
theorem EP{f:α->V}{m:TV}{l:List α}(h:m.Perm (l.map f)):∀v∈m,∃x∈l,v=f x:=λv a=>by
 show aq (Re.mp (h.mem_iff.mp a)) λx hx e=>#[x,hx,e.symm]
theorem Kv{Q:QV}(h:b9 U v=some l)(z:l.length<64)(k:∀e∈l,∃i j:Int,e=.tup [.int i,.int j])(q:∀c m,U c=none->m.Perm l->Q (.ref c) (bq U c (.list m))):prim U Q .sorted [v]:=by show gO h #[z,.inr #[.inr (.inl k),q]]
theorem kJ{B:Bool->Prop}(h1:U a=some (.list l))(b:U c=some (.list []))(q:B (V.Vw l [])):jG U B .eq (.ref a) (.ref c):=C8 h1 (gL b #[.inr (.inl rfl),q])
theorem cG(l:TV):V.Vw l []=l.isEmpty:=by
 induction l with
 |nil=>show @SW _ (UL _) rfl
 |cons x l=>show @SC _ (UL _) (λh=>(nC h))
def jj(U:aw)(T:Nat)(tb:Tb):Prop:=(∃ep,U T=some (.dict (dK ET .ref (rC tb)) ep))/\∀e∈tb,U e.2.1=some (.list (ay e.2.2))
theorem jj.ext{T:Nat}(h:jj U T tb)(E:bF U UX):jj UX T tb:=#[h.1.imp λ_ k=>E _ _ k,λe he=>E _ _ (h.2 e he)]
theorem jj.of{T:Nat}(O:aA U0 U ((T,.dict (dK ET .ref (rC tb)) ep)::tb.map NS)):jj U T tb:=#[#[ep,O.hd],λe he=>O.at_ _ (.tail _ (Rn he))]
def IR(tb:Tb)(x:V):Prop:=∀e∈tb,ET e.1=x->e.2.2.length<=1
theorem si(I:PI tb ps b){e:(Nat×Nat)×(Nat×List Nat)}(he:e∈tb):IR tb (ET e.1)↔e.2.2.length<=1:=#[λh=>h e he rfl,λh a c k=>by
 let:=CG.inj k;rw[I.eq a c,this,<- I.eq e he];show h]
section
variable{T:Nat}{Q:QV}
theorem zK(R:jj U T tb)(I:PI tb ps b)(s:b<64)(r:ps.length<=1000)
  (q:∀c UX l,(l=[]↔∀e∈tb,e.2.2.length<=1)->bF U UX->UX c=some (.list l)->Q (.ref c) UX):CC (n+1) 238 [.ref T] U Q:=by
 show ao R ?_;ext v;show az v λep hT=>?_;ext u;let g:=Q5 I.len s;let j:((rC tb).map λe=>ET e.1).length=tb.length:=by rw[Lt,Ao]
 change an tab (CC n) j2 [some (.ref T),none] U (aW Q);show bB<|bp<|aK<|aP<|ah rfl<|Kv ((jN hT).trans (Rs some (oj _))) (j▸g) (λe he=>?_) λS m hS d=>aI (aB ..)<|i8 (f:=id) (λk l UX=>UX=bq U S (.list m)/\(l=[]↔∀x∈m.take k,IR tb x)) (by rw[d.length_eq,j];show Gt (Rf g) (dR rfl)) #[rfl,λ_ _ h=>n0 h,λ_=>rfl] (λi=>i.1▸aB ..) (λ{l UX} i=>?_) λ{k x l UX} R hx i p goN=>?_
 .show aq (Re.mp he) ?_;ext a _ rfl;show#[_,_,rfl]
 .show ao i ?_;clear i;ext rfl i;ext c t;let O:=((aA.nil U).new hS (.list m)).new t (.list (l.map id));show q c _ _ ?_ O.ext O.hd;erw[List.map_id,i,RI];show#[λh e he=>(si I he).mp (h _ (d.mem_iff.mpr (Re.mpr #[(e.1,e.2.1),Rn he,rfl]))),λh x hx e he k=>h e he]
 show ao i ?_;clear i;ext rfl i;show aq (EP d x (Q4 hx)) ?_;ext a o rfl;show aq (Re.mp o) ?_;ext e he rfl;let E:=((aA.nil U).new hS (.list m)).ext;let lk:=c0 (by rw[wA];show I.nd) o;let zs:e.2.2.length<=100000:=by rw[I.eq e he];show Gt (vq ..) (Gt r (dR rfl))
 let tk:∀x,x∈m.take (k+1)↔x∈m.take k\/x=ET e.1:=λx=>by erw[ax hx,Ra,Q6]
 show NF (yo (cR (bH CG (ag rfl) (ag rfl) (E _ _ hT) lk) (E _ _ (u e he)) zs) am) (λ_=>bW (be (fY (ag rfl) am aT rfl) (be (fY (ag rfl) am aT rfl) (bz (bH CG (ag rfl) (ag rfl) (E _ _ hT) lk)))) dD) (λc=>p #[rfl,λh=>?_,λh=>?_]) λc=>goN #[rfl,i.trans #[λh x hx=>?_,λh x hx=>h x ((tk x).mpr (.inl hx))]]
 .clear i goN p;cases l<;>cases h
 .let:=(si I he).mp (h _ ((tk _).mpr (.inr rfl)));show absurd (Sd.mp (RH c)) (Sn.mpr this)
 rcases (tk x).mp hx with hx|rfl
 .show h x hx
 show(si I he).mpr (R6 λk=>R1 c (Sd.mpr k))
end
theorem Ih(I:PI tb ps b)(P:PO g g.rules.length ps):(∀e∈tb,e.2.2.length<=1)↔mZ g:=by
 constructor
 .ext h i j l r r' t hi f pi o;let mi:=(P.io l t i).mpr #[ai hi,r,hi,pi];let u:=(P.io l t j).mpr #[ai f,r',f,o];show aq (I.has _ mi) λe he x=>?_;let h1:=N6.mpr mi;let m:=N6.mpr u;let:=h e he;rw[I.eq e he,x]at this;match d:t8 ps (l,t),this with
  |[],_=>rw[d]at h1;show n0 h1
  |[a],_=>
   rw[d,Q6]at h1 m;rw[h1,m]
  |a::b::c,k=>show absurd k (by rw[Rq,Rq];show λq=>absurd (Nat.le_of_succ_le_succ q) (Nat.not_succ_le_zero _))
 ext H e he;rw[I.eq e he];let nd:(t8 ps e.1).Nodup:=by
  show UR.mpr (((P.nd.sublist Tz).imp_of_mem ?_));ext p p' w y n q;let e1:=RP.mp (Sa.mp w).2;let e2:=RP.mp (Sa.mp y).2;show n (Prod.ext (e1.trans e2.symm) q)
 match d:t8 ps e.1 with
 |[]=>show Rx _
 |[a]=>show Rm _
 |a::b::c=>
  rw[d]at nd;let ma:=N6.mp (d▸.head _:a∈t8 ps e.1);let v:=N6.mp (d▸.tail _ (.head _):b∈t8 ps e.1);show ao ((P.io _ _ _).mp ma) λ_ z=>?_;show aq z λr ra pa=>?_;show ao ((P.io _ _ _).mp v) λ_ A=>?_;show aq A λr' rb s=>?_;show absurd (H a b _ _ _ _ ra rb pa s) λk=>(R9.mp nd).1 (k▸.head _)
structure Sm(g:Gm):Prop where
 tc:g.tc<=6
 rl:g.rules.length<=10
 nn:g.nn<=3
theorem Sm.tr(S:Sm g):g.tc*g.rules.length<64:=Q5 (UP S.tc S.rl) (dR rfl)
section
variable{h:Gh}{Q:QV}(G:bh U g h)(Z:Sz g h)(W:WF g)(S:Sm g)
include G Z W S
theorem vK(q:∀UX b,(b=true↔mZ g)->bF U UX->Q (.bool b) UX):CC (n+7) 252 [.ref h.a] U Q:=by change an tab (CC (n+6)) lR [some (.ref h.a),none] U (aW Q);show bB<|jS<|d7<|aG<|aj<|ah rfl ?_;change an tab (CC (n+5)) jV [some (.ref h.a),none,none] U _;show bB<|aG<|aj<|aG<|aj<|ah rfl<|sC G Z W λT UY tb ep ps I P O=>zK (.of O) I S.tr (Gt P.len (Gt (Rf S.tr) (dR rfl))) λc U3 l e E f=>?_;change bj tab (CC (n+6)) (.list .nil 224447906852) [some (.ref h.a),none] U3 λv U2=>jG U2 (λb=>Q (.bool b) U2) .eq (.ref c) v;show bT λd hd=>kJ (cX f hd) (aB ..)<|q _ _ ?_ ((O.ext.trans E).trans ((aA.nil U3).new hd _).ext);erw[cG,TI,e,Ih I P]
end
variable{σ cw st:TN}{row:TZ}
noncomputable def zs(l:TN):List Int:=l.map λ(i:Nat)=>(i:Int)
def QW(g:Gm)(row:TZ)(a:Nat)(st:TN):Prop:=(st=[g.tc]/\a=0)\/(∃s',st=s'++[0]/\(∀s∈s',s≠0/\s≠g.tc)/\a<row.length)\/(st=[]/\a=row.length)
structure LI(g:Gm)(row:TZ)(a:Nat)(st us cw σ:TN):Prop where
 ec:row.take a=zs cw
 pre:∀u rs,Vq g st u rs->Vq g [g.tc] (cw++u) (us++rs)
 det:∀t u rs,row[a]?=some ((t:Nat):Int)->Vq g [g.tc] (cw++t::u) rs->∃VV,Vq g st (t::u) VV/\rs=us++VV
 ok:Ok g st
 iv:GV g st σ
 nd:σ.Nodup
 nm:∀u∈σ,g.tc<=u/\u<=g.tc+g.nn
 sh:QW g row a st
def GJ(g:Gm)(row:TZ)(a:Nat):Prop:=∀z rs,Vq g [g.tc] z rs->(zs z).take (a+1)≠row.take (a+1)
section
variable{us:TN}
theorem Vq.inv_nt(W:WF g){w:TN}(h:Vq g (X::st) w rs)(a:g.tc<=X):∃i r VV,g.rules[i]?=some (X,r)/\Vq g (r++st) w VV/\rs=i::VV:=by
 cases h with
 |tm h _=>show absurd h (Sn.mpr a)
 |nt h d=>show#[_,_,_,h,d,rfl]
theorem Vq.inv_tm(W:WF g){w:TN}(h:Vq g (X::st) w rs)(a:X<g.tc):∃w',w=X::w'/\Vq g st w' rs:=by
 cases h with
 |tm h d=>show#[_,rfl,d]
 |nt h d=>show absurd a (Sn.mpr (W.Vp (aF h)).1)
theorem LI.zero(a:0<row.length):LI g row 0 [g.tc] [] [] []:=#[by rw[SF];rfl,λu rs d=>d,λt u rs _ d=>#[rs,d,rfl],λb X c t e _ f=>by
 let e2:c=[]:=by
  cases b with
  |nil=>show(Te e).2.symm
  |cons y b=>cases b<;>cases e
 clear e;subst e2;show f.none.elim,.nil,.nil,(λ_ h=>n0 h),.inl #[rfl,rfl]]
theorem LI.lt(I:LI g row a st us cw σ)(c:0<row.length)(h:st≠[]):a<row.length:=by
 rcases I.sh with h'|b|h'
 .rw[h'.2];show c
 .show bS b λ_ _ _ h'=>?_;show h'
 show absurd h'.1 h
theorem LI.dead(I:LI g row a st us cw σ){x:Int}(hx:row[a]?=some x)(h:∀t u rs,x=((t:Nat):Int)->¬Vq g st (t::u) rs):GJ g row a:=λz rs d e=>by
 rw[ax hx,I.ec]at e;let b:=Rs List.length e;unfold zs at e b;let hz:∃t,z[a]?=some t/\z.take a=cw/\x=t:=by
  let f:cw.length=a:=by
   let:=Rs List.length I.ec;unfold zs at this;rw[R7,Lt]at this;show this.symm.trans (Uc (Rf (ai hx)))
  let c:a<z.length:=by
   rw[R7,Lt,Q9,Lt,RG]at b;rw[f]at b;show Gt (RW b.symm) (Um _ _)
  show az (show ∃t,z[a]?=some t from#[_,Rg c]) λt ht=>?_;rw[<- List.map_take,ax ht,Rd]at e;show ao (List.append_inj e (by rw[Lt,Lt,R7];rw[f];show Uc (Rf c))) λe1 e2=>#[t,ht,(UK λ_ _ h=>R5.mp h).mp e1,?_];show(Te e2).1.symm
 show bS hz ?_;clear hz;clear b e;ext t ht i rfl;let hd:Vq g [g.tc] (cw++t::z.drop (a+1)) rs:=by
  rw[<- i,<- bR ht,S7];show d
 show aq (I.det t _ _ hx hd) λVV d' _=>?_;show h t _ _ rfl d'
theorem LI.shift(W:WF g){s:Nat}(I:LI g row a (s::st) us cw σ)(c:s<g.tc)(hx:row[a]?=some (s:Int))(hz:∀i x,row[i]?=some x->(x=0↔i+1=row.length)):LI g row (a+1) st us (cw++[s]) []:=by
 show#[?_,λu rs d=>?_,λt u rs ht d=>?_,I.ok.tl,.nil,.nil,(λ_ h=>n0 h),?_]
 .rw[ax hx,I.ec];unfold zs;rw[Rd];rfl
 .rw[Rz];show I.pre _ _ (.tm c d)
 .rw[Rz]at d;show aq (I.det s _ _ hx d) λVV d' e=>?_;show aq (d'.inv_tm W c) λw' k f=>?_;cases k;show#[VV,f,e]
 let l:=W.pos;rcases I.sh with b|b|b
 .show ao b λe _=>?_;show absurd (Te e).1 (RY c)
 .show bS b λs' e h j=>?_;clear b;clear c I;cases s' with
  |nil=>
   cases e;show .inr (.inr #[rfl,(hz a _ hx).mp rfl])
  |cons y s'=>
   cases e;show .inr (.inl #[s',rfl,λx hx=>h x (.tail _ hx),?_]);show Sj j λe=>(h s (.head _)).1 (R5.mp ((hz a _ hx).mpr e))
 show ao b λe _=>?_;show nC e
theorem LI.expand(W:WF g)(H:mZ g)(I:LI g row a (X::st) us cw σ)(f:g.tc<=X)(hr:g.rules[i]?=some (X,r))(hx:row[a]?=some (t:Int))(p:jy g i t):LI g row a (r++st) (us++[i]) cw (X::σ)/\X∉σ:=by
 show ao (GV.exp W H I.ok I.iv (aF hr)) λj iv=>#[#[I.ec,λu rs d=>?_,λn u rs ht d=>?_,I.ok.exp W (aF hr),iv,R9.mpr #[j,I.nd],λu hu=>?_,?_],j]
 .rw[Rz];show I.pre _ _ (.nt hr d)
 .rw[hx]at ht;show aq (I.det n _ _ (hx.trans ht) d) λVV d' e=>?_;show kD (d'.inv_nt W f) λi' r' XI m d2 e2=>?_;let ep:=R5.mp (Is ht);let:=H i' i X r' r n m hr (Vq.pred W I.ok m d2) (ep▸p);subst this;rw[hr]at m;cases m;show#[XI,d2,by rw[e,e2,Rz];rfl]
 .clear iv j f;rcases RB.mp hu with rfl|hu
  .show W.Vp (aF hr)
  show I.nm u hu
 let nz:∀{i l:Nat}{r:TN},g.rules[i+1]?=some (l,r)->∀s∈r,s≠0/\s≠g.tc:=λe s b=>by
  show(W.right _ _ _ s e b).elim (λk=>#[Sy (Rc (dR rfl) k.1),RY k.2]) λk=>#[Sy (Q5 (Rx _) k.1),Sy k.1]
 let o:=I.lt (Q5 (Rx _) (ai hx)) (λh=>(nC h));show .inr (.inl ?_);clear iv j p;rcases I.sh with c|c|c
 .show ao c λe _=>?_;clear c;clear f I;show yC e ?_;clear e;ext q zd;cases q;cases zd;show bS W.zero λS h0 hS _=>?_;induction i with
  |zero=>
   rw[h0]at hr;clear h0;replace hr:=Is hr;cases hr;show#[[S],rfl,λs b=>by rw[Q6]at b;subst b;let:=W.pos;show#[Sy (Q5 (Rx _) hS),Sy hS],o]
  |succ i=>show absurd (W.left _ _ _ hr).1 (Si _)
 .show bS c λs' e h _=>?_;clear c;cases s' with
  |nil=>clear hr I;cases e;let:=W.pos;show absurd (Gt this f) (dR rfl)
  |cons y s'=>
   clear f I;cases e;induction i with
   |zero=>
    show aq W.zero λS h0 _=>?_;rw[h0]at hr;replace hr:=Is hr;cases hr;show absurd rfl (h _ (.head _)).2
   |succ i=>show#[r++s',(Rz ..).symm,λs b=>(Ra.mp b).elim (nz hr s) λb=>h s (.tail _ b),o]
 show ao c λe _=>?_;show nC e
end
variable{R Us m':Nat}{es:TD}{ws:TZ}{x9:TO}
theorem JZ(h:n<100000):n+1<=bu:=cY h
section
variable{C:CT}{r s:Ps}{Q:QF}{R:QV}{B:Bool->aw->Prop}{f:α->V}{l:List α}{z:α}
theorem Mh{n:Nm}(hy:Ev C L U y (f z))(O:aA U0 U m)(k:∀c UX,aA U0 UX ((c,.list ([z].map f))::m)->an tab C ss (L.set n.i (some (.ref c))) UX Q):an tab C (.cons (.VF n (.list (.cons y .nil) p) q) ss) L U Q:=aC<|bL<|aj<|hy _ #[bk,λc a=>k c _ (O.new a _)]
theorem IU{n:Nm}(hx:Ev C L U x (.ref a))(O:aA U0 U m)(i:Nat)(k:m[i]?=some (a,.list ((l++[z]).map f)))(sz:l.length<100000)(k':∀UX,aA U0 UX (m.set i (a,.list (l.map f)))->an tab C ss (L.set n.i (some (f z))) UX Q):an tab C (.cons (.VF n (.U1 .pop x .nil p q) r) ss) L U Q:=by let h:=O.get i k;rw[Rd]at h;show aC<|cb<|hx _ #[AE h,pP<|I8 h (by rw[Lt];show cY sz) (k' _ (O.set i k _))]
theorem Bj{l:TV}{B:Bool->Prop}(h1:U a=some (.list l))(b:U c=some (.list []))(q:B (!V.Vw l [])):jG U B .ne (.ref a) (.ref c):=gL h1 (gL b #[.inr rfl,q])
theorem rD(hx:Ev C L U x (.ref a))(O:aA U0 U m)(h:U a=some (.list (l.map f)))(q':∀UX,aA U0 UX m->bF U UX->B l.isEmpty UX):jm tab C (.cmp .eq x (.list .nil p) q) L U B:=
 hx _<|bT λc b=>kJ (cX h b) (aB ..)<|by rw[cG,UC];show q' _ (O.new b _).tl ((aA.nil U).new b _).ext
theorem Ap(hx:Ev C L U x (.ref a))(O:aA U0 U m)(h:U a=some (.list (l.map f)))(q':∀UX,aA U0 UX m->bF U UX->B (!l.isEmpty) UX):jm tab C (.cmp .ne x (.list .nil p) q) L U B:=
 hx _<|bT λc b=>Bj (cX h b) (aB ..)<|by rw[cG,UC];show q' _ (O.new b _).tl ((aA.nil U).new b _).ext
theorem Ld(hx:Ev C L U x (.ref a))(h:U a=some (.list (l.map f)))(sz:l.length<100000)(hy:∀{UX:aw},Ev C L UX y (f z))(O:aA U0 U m)(k:∀c UX,aA U0 UX ((c,.list ((l++[z]).map f))::m)->R (.ref c) UX):bj tab C (.bin .Add (.prim .list (.cons x .nil) p q) (.list (.cons y .nil) r) s) L U R:=
 bv<|aP<|hx _<|vz (gK h) (aH (aO (Rf sz))) λc1 h1=>bL<|aj<|hy _ #[bk,λc2 b=>bI (cX (aB ..) b) (aB ..) (by rw[Lt];show JZ sz) λc h3=>by
  let:=(((O.new h1 _).new b _).new h3 (.list (l.map f++[f z]))).sub (.cons_cons _ (.cons _ (.cons _ (.refl _))));show k c _ (by rw[Rd];show this)]
end
theorem Kd{C:CT}{S:QP}{f:α->V}{l:List α}(hx:Ev C L U e (.tup (l.map f)))(z:l.length<=100000)(s:S (l.reverse.map f) (λ_=>True) U):gP tab C (.rev e p q) L U S:=IY<|hx _ #[aH (aO z),by rw[<- List.map_reverse];show s]
noncomputable def BV(ps:TQ)(X:Nat)(x:Int):List Nat:=match x with
 |.ofNat t=>t8 ps (X,t)
 |.negSucc _=>[]
theorem Jm(h:U a=some (.dict es ep)):mo U .get (.ref a):=GR h (.inl rfl)
theorem FM(d:TQ)(X n:Nat):fP (dK ET V.ref d) (.tup [.int X,.int (.negSucc n)])=none:=by
 unfold fP dK;erw[List.find?_eq_none.mpr]
 .rfl
 ext e he;show aq (Re.mp he) ?_;clear he;ext x _ rfl;erw[V.U9];ext k;cases k
theorem H9{C:CT}{T:Nat}{w:Int}{r:Ps}{Q:QV}(R:jj U0 T tb)(I:PI tb ps b)(O:aA U0 U m)(hx:Ev C L U x (.ref T))(hy:Ev C L U y (.tup [.int X,.int w]))
  (k:∀u UX,aA U0 UX m->UX u=some (.list (ay (BV ps X w)))->(BV ps X w≠[]->U0 u=some (.list (ay (BV ps X w))))->Q (.ref u) UX):bj tab C (.U1 .get x (.cons y (.cons (.list .nil p) .nil)) q r) L U Q:=by
 show ao R ?_;ext l;show az l λep hT=>?_;ext j;show cb<|hx _ #[Jm (O.ext _ _ hT),au<|hy _<|aj<|bT λc i=>?_];let d:=O.new i (.list []);let f:=d.ext _ _ hT;show gD f<|#[#[.ti,#[[X,w],rfl],λe he=>?_],?_]
 .show aq (Re.mp he) ?_;ext x _ rfl;show CG.is _
 let miss:=λe=>k c _ d.tl (by rw[e];show aB ..) λh=>absurd e h;clear hy;induction w with
 |negSucc n=>rw[FM];show miss rfl
 |ofNat t=>
  rw[show fP (dK ET V.ref (rC tb)) (.tup [.int X,.int (.ofNat t)])=(br (rC tb) (X,t)).map V.ref from tj (k:=(X,t)) CG _];cases e:br (rC tb) (X,t)with
  |none=>show miss (Ay λp g q=>by
    show aq (I.has p g) λx hx a=>?_;show N7.mp e (x.1,x.2.1) (Rn hx) (a.trans q))
  |some u=>
   show aq (Re.mp (cq e)) λx hx a=>?_;let hu:U0 u=some (.list (ay (t8 ps (X,t)))):=by
    let h1:=j x hx;rw[I.eq x hx,(SZ a).1,(SZ a).2]at h1;show h1
   show k u _ d.tl (d.ext _ _ hu) λ_=>hu
noncomputable def LG(h:Gh)(T wd R Pl Us a:Nat)(x7 x8 x9:TO):aQ:=[some (.ref h.a),some (.ref T),some (.ref wd),some (.ref R),some (.ref Pl),some (.ref Us),some (.int a),x7,x8,x9,none,none,none]
noncomputable def M3(R Pl Us:Nat)(row:TZ)(st us:TN):List (Nat×O):=[(Us,.list (ay us)),(Pl,.list (ay st.reverse)),(R,.list (row.map .int))]
noncomputable def jn(g:Gm)(row:TZ)(a:Nat)(σ:TN):Nat:=(row.length - a)*(g.nn+3)+(g.nn+2 - σ.length)
structure JL(g:Gm)(U:aw)(R Pl Us:Nat)(row:TZ)(a:Nat)(st us cw σ:TN)(UX:aw):Prop where
 own:aA U UX (M3 R Pl Us row st us)
 li:LI g row a st us cw σ
 s1:st.length+10*jn g row a σ<=50001
 s2:us.length+jn g row a σ<=5000
theorem EO(h:a<row.length):jn g row (a+1) []<jn g row a σ:=by unfold jn;rw[show row.length - a=(row.length - (a+1))+1 from(Nat.succ_pred_eq_of_pos (Nat.sub_pos_of_lt h)).symm];show Rc ?_ (Ri ..);rw[Nat.succ_mul];show S6 (Sq _) _
theorem Co(h:(X::σ).length<=g.nn+1):jn g row a (X::σ)<jn g row a σ:=S6 (Tu (TM h) (Sq _)) _
theorem DQ{x y m M:Nat}(h:x+10*m<=M)(a:m'<m)(hy:y<=x+10):y+10*m'<=M:=Gt (Gt (Rv hy _) (by erw[SI,Sc 10];show Rb (RV 10 a) x)) h
theorem Ho{x m M:Nat}(h:x+m<=M)(a:m'<m):x+1+m'<=M:=Gt (by erw[SI,Sc 1];show Rb a x) h
section
variable{h:Gh}{T wd Pl:Nat}(G:bh U g h)(Z:Sz g h)(W:WF g)(H:mZ g)(RT:jj U T tb)(I:PI tb ps b)(P:PO g g.rules.length ps)
include G Z W H RT I P
theorem KX{us:TN}{K:QF}(z:g.tc<=X)(zr:row.length<=100)(O:aA U UY (M3 R Pl Us row st us))(li:LI g row a (X::st) us cw σ)(s1:(X::st).length+10*jn g row a σ<=50001)(s2:us.length+jn g row a σ<=5000)(F:a<row.length)
  (go:∀J M B x7 x8 x9 UX,JL g U R Pl Us row a J M cw B UX->jn g row a B<jn g row a σ->K .next (LG h T wd R Pl Us a x7 x8 x9) UX)
  (D:∀L UX,bF U UX->GJ g row a->K (.ret (.tup [.bool false,.int a])) L UX):
  an tab (CC (n+1)) tF (LG h T wd R Pl Us a (some (.int X)) x8 x9) UY K:=by
 show az (show ∃x,row[a]?=some x from#[_,Rg F]) λx hx=>?_;show aC<|H9 RT I O (ag rfl) (bW (be (ag rfl) (bz (aM (l:=row) (f:=V.int) (ag rfl) (ag rfl) (O.get 2 rfl) (Gt zr (dR rfl)) hx))) aT) λu U3 Q hu hn=>fZ<|rD (ag rfl) Q hu λVa v Y=>#[λc=>cB (bW (be am (bz (ag rfl))) aT) (D _ _ v.ext ?_),λc=>aU ?_]
 .show li.dead hx λt u rs e d=>kD (d.inv_nt W z) λi r VV hr d' _=>?_;let:=N6.mpr ((P.io X t i).mpr #[ai hr,r,hr,Vq.pred W li.ok hr d']);clear hn hu hx;subst e;let c:t8 ps (X,t)=[]:=TI.mp c;rw[c]at this;show n0 this
 cases m:BV ps X x with
 |nil=>rw[m]at c;cases c
 |cons i rest=>
  let o:=hn (by rw[m];show λh=>(by show nC h));clear c hn hu;induction x with
  |negSucc _=>(cases m)
  |ofNat t=>
   let hm:i∈t8 ps (X,t):=by rw[show t8 ps (X,t)=i::rest from m];show .head _
   show ao ((P.io X t i).mp (N6.mp hm)) λ_ A=>aq A λr hr E=>?_;clear A;show ao (li.expand W H z hr hx E) λb S=>?_;let lm:=Co (row:=row) (a:=a) (gY b.nd b.nm);show aq (G.ru i X r hr) λra e1 e2=>?_;let w:(BV ps X (.ofNat t)).length<=100000:=Gt (vq ..) (Gt P.len (Gt (UP (Gt (Gt (SS _) (Ri ..)) Z.syms) Z.rules) (dR rfl)));let s:=Z.right _ _ _ hr;show de (ag rfl) (aM (k:=0) (ag rfl) am (v.ext _ _ o) w (by rw[m];rfl)) v 0 rfl (Q5 (Gt (Ri _ _) s2) (dR rfl)) λVr p=>aR<|Kd (l:=r) (aE (aM (l:=h.rs) (f:=V.ref) (gV G p.ext rfl rfl rfl) (aM (l:=BV ps X (.ofNat t)) (k:=0) (ag rfl) am (p.ext _ _ o) w (by rw[m];rfl)) (p.ext _ _ G.rl) (G.Xz▸Gt Z.rules (dR rfl)) e1) (e2.ext p.ext) (yb rfl) rfl) (Gt s (dR rfl))<|pH (a0:=x9) (λ_ x9=>LG h T wd R Pl Us a (some (.int X)) (some (.ref u)) x9) (λj _ UX=>aA U UX (M3 R Pl Us row ((r.reverse.take j).reverse++st) (us++[i]))) p (λ_=>trivial) (λ{x9 N} q=>cy<|go _ _ _ _ _ _ _ #[?_,b,DQ s1 lm ?_,?_] lm) λ{j x x9 N K} hx q go' _=>el hx λ{y} hy=>de (f:=λ(i:Nat)=>.int i) (ag rfl) (ag rfl) q 1 rfl ?_ λWg C=>bG<|go' ?_
   .rw[Lt,RI,Ud]at q;show q
   .rw[Q9,Rq];show Gt (RW (Sc _ _)) (RS (SS _) s)
   .rw[Q9];show Ho s2 lm
   .rw[RU,Q9,RU,R7,RU];rw[Rq]at s1;show Q5 (RS (Gt (Um _ _) s) (Gt (Gt (SS _) (Ri _ _)) s1)) (dR rfl)
   let e:((r.reverse.take j).reverse++st).reverse++[y]=((r.reverse.take (j+1)).reverse++st).reverse:=by
    rw[ax hy,Tw,Tw,Tw,Ud,Rz,Tw,Ud,Ud]
   rw[e]at C;show C
omit H I P RT in
theorem KW{s:Nat}{us:TN}{K:QF}(j:s<g.tc)(zr:row.length<=100)(hz:∀i x,row[i]?=some x->(x=0↔i+1=row.length))(O:aA U UY (M3 R Pl Us row st us))(li:LI g row a (s::st) us cw σ)(s1:(s::st).length+10*jn g row a σ<=50001)(s2:us.length+jn g row a σ<=5000)(k:a<row.length)
  (go:∀f b x7 x8 x9 UX,JL g U R Pl Us row f st us b [] UX->jn g row f []<jn g row a σ->K .cont (LG h T wd R Pl Us f x7 x8 x9) UX)
  (l:∀L UX,bF U UX->GJ g row a->K (.ret (.tup [.bool false,.int a])) L UX):
  an tab (CC (n+1)) tG (LG h T wd R Pl Us a (some (.int s)) x8 x9) UY K:=by
 show az (show ∃x,row[a]?=some x from#[_,Rg k]) λx hx=>?_;let lm:=EO (g:=g) (σ:=σ) k;show qk (BE (ag rfl) (aM (ag rfl) (ag rfl) (O.get 2 rfl) (Gt zr (dR rfl)) hx)) (λc=>cB (bW (be am (bz (ag rfl))) aT) (l _ _ O.ext ?_)) λc=>aU<|aZ (ly (ag rfl) am)<|vw<|go (a+1) (cw++[s]) _ _ _ _ #[O,li.shift W j (c▸hx) hz,DQ s1 lm ?_,by show Gt (Rb (Rf lm) _) s2] lm
 .show li.dead hx λt u rs e d=>c<|aq (d.inv_tm W j) λw' m _=>?_;rw[e,(Te m).1]
 rw[Rq];show Gt (SS _) (Ri _ _)
theorem Cs{Q:QV}(A:U wd=some (.list (ws.map .int)))(o:ws.length<=20)(nn:g.nn<=60)(nz:∀x∈ws,x≠0)
  (y:∀c UX us cw,zs cw=ws++[0]->Vq g [g.tc] cw us->us.length<=5000->aA U UX [(c,.list (ay us))]->Q (.tup [.bool true,.ref c]) UX)
  (w:∀UX a,a<=ws.length->bF U UX->GJ g (ws++[0]) a->Q (.tup [.bool false,.int (a:Nat)]) UX):CC (n+2) 259 [.ref h.a,.ref T,.ref wd] U Q:=by
 let zr:(ws++[0]).length<=100:=by rw[Q9];show Rj (Gt o (dR rfl))
 let hz:∀i x,(ws++[0])[i]?=some x->(x=0↔i+1=(ws++[(0:Int)]).length):=λi x hx=>by
  rw[Q9,RG];by_cases c:i<ws.length
  .rw[Ru c]at hx;show#[λe=>absurd e (nz x (Q4 hx)),λe=>absurd c (Sn.mpr (RW (Tl e).symm))]
  let c:=R6 c;rw[Ro c]at hx;cases e:i - ws.length with
  |zero=>rw[e]at hx;cases hx;show#[λ_=>Rs Nat.succ (SM (UV e) c),λ_=>rfl]
  |succ k=>rw[e]at hx;cases hx
 let r:0<(ws++[0]).length:=by rw[Q9];show Nat.succ_pos _
 change an tab (CC (n+1)) tE [some (.ref h.a),some (.ref T),some (.ref wd),none,none,none,none,none,none,none,none,none,none] U (aW Q);show aC<|Ld (f:=V.int) (z:=0) (ag rfl) A (Q5 o (dR rfl)) (yk rfl) (.nil U) λR UY t=>Mh (gV G t.ext rfl rfl rfl) t λPl U3 M=>gE M λUs S J=>aZ am<|Hm (a0:=((none,none,none):Option V×Option V×Option V)) (a1:=0) (a2:=[g.tc]) (a3:=[]) (a4:=(([],[]):List Nat×List Nat)) (λx a _ _ _=>LG h T wd R Pl Us a x.1 x.2.1 x.2.2) (λ_ a _ _ u=>jn g (ws++[0]) a u.2) (λ_ a st us u UX=>JL g U R Pl Us (ws++[0]) a st us u.1 u.2 UX) #[J,.zero r,?_,?_] λ{x a st us u O K} j go B v=>Ap (l:=st.reverse) (ag rfl) j.own (j.own.get 1 rfl) λD s σ=>#[λc=>?_,λc=>?_]
 .unfold jn;rw[RG,Tm];let:((ws++[0]).length - 0)*(g.nn+3)<=21*63:=UP (by rw[Q9];show Rj o) (Rv nn 3);show Gt (Rb (RV 10 (RS this (Rv nn 2))) 1) (dR rfl)
 .unfold jn;rw[Tm];let:((ws++[(0:Int)]).length - 0)*(g.nn+3)<=21*63:=UP (by rw[Q9];show Rj o) (Rv nn 3);show Gt (RW (S9 _)) (Gt (RS this (Rv nn 2)) (dR rfl))
 .cases st with
  |nil=>(cases c)
  |cons X st=>
   let m:=j.li.lt r (λh=>(by show nC h));let dead {a:Nat} {L:aQ} {UX:aw} (m:a<(ws++[0]).length) E d:K (.ret (.tup [.bool false,.int a])) L UX:=v (w UX a (by rw[Q9]at m;show R4 m) E d);let s1:=j.s1;show IU (l:=st.reverse) (z:=X) (ag rfl) s 1 (by unfold M3;rw[List.reverse_cons];rfl) (by rw[List.length_reverse];rw[List.length_cons]at s1;show Nat.lt_of_le_of_lt (Nat.le_trans (Nat.le_trans (Nat.le_succ _) (Nat.le_add_right _ _)) s1) (dR rfl)) λWg q=>eM (lV (G3 G Z q.ext (ag rfl) (ag rfl))) (λc=>KW G Z W c zr hz q j.li s1 j.s2 m (λa' p x7 x8 x9 UX j lm=>B (b0:=(x7,x8,x9)) (b4:=(p,[])) j lm) λL UX E d=>dead m E d) λc=>aU<|KX G Z W H RT I P (Nat.le_of_not_lt c) zr q j.li s1 j.s2 m (λXe N F x7 x8 x9 UX j lm=>go (b0:=(x7,x8,x9)) (b4:=(u.1,F)) j lm) λL UX E d=>dead m E d
 cases st with
 |cons X st=>rw[Ta]at c;cases h:st.reverse<;>rw[h]at c<;>cases c
 |nil=>
  let C:a=(ws++[0]).length:=by
   rcases j.li.sh with b|b|b
   .show ao b λe _=>?_;clear b;show nC e.symm
   .show aq b λs' e _=>?_;clear b;cases s'<;>cases e
   show ao b λ_ e=>?_;clear b;show e
  let e1:=j.li.ec;rw[C,RI]at e1;let d:=j.li.pre _ _ .nil;rw[RD,RD]at d;show cB (bW (be am (bz (ag rfl))) aT) (y Us D us u.1 e1.symm d (Gt (Ri ..) j.s2) (s.sub (.cons_cons _ (Se _))))
end
variable{Y d' d0 dd i' i0 l' l0 m0:Nat}{d:TP}{r' r0 w w':TN}
theorem bc{d l:Nat}(h:g.rules[i]?=some (l,r))(hd:d<=r.length)(h':g.rules[i']?=some (l',r'))(a:d'<=r'.length)(e:aX g i d=aX g i' d'):i=i'/\d=d':=by let e1:=kC h hd;rw[e,kC h' a]at e1;clear h';replace e1:=Is e1;cases e1;show#[rfl,Uk e]
structure Kr(g:Gm)(i d m l:Nat)(r:TN):Prop where
 V4:g.rules[i]?=some (l,r)
 dot:d<=r.length
 fst:d=0->i=0
 XO:∀t,m.testBit t=true->VW g l t
def Nx(g:Gm)(b:TN)(m t:Nat):Prop:=bx g b t\/(bM g b/\m.testBit t=true)
def KI(g:Gm)(d:Nat)(r:TN)(X Y:Nat):Prop:=r[d]?=some X/\g.tc<=X/\Ch g X Y
section
structure CI(g:Gm)(i0 d0 m0:Nat)(r0:TN)(d:TP)(w:TN):Prop where
 nd:(d.map (·.1)).Nodup
 snd:∀{x m},br d x=some m->(x=aX g i0 d0/\m=m0)\/∃j Y r X,x=aX g j 0/\g.rules[j]?=some (Y,r)/\KI g d0 r0 X Y/\∀t,m.testBit t=true->La g X (Nx g (r0.drop (d0+1)) m0) Y t
 YV:br d (aX g i0 d0)=some m0
 wk:∀{x},x∈w->∃m,br d x=some m
def GK(g:Gm)(d:TP)(x m:Nat):Prop:=∀{i dd l:Nat}{r:TN}{Y j:Nat}{r':TN},x=aX g i dd->g.rules[i]?=some (l,r)->r[dd]?=some Y->g.tc<=Y->g.rules[j]?=some (Y,r')->∃m',br d (aX g j 0)=some m'/\∀t,Nx g (r.drop (dd+1)) m t->m'.testBit t=true
structure o8(g:Gm)(i0 d0 m0:Nat)(r0:TN)(d:TP):Prop where
 nd:(d.map (·.1)).Nodup
 YV:br d (aX g i0 d0)=some m0
 snd:∀{x m},br d x=some m->(x=aX g i0 d0/\m=m0)\/∃j Y r X,x=aX g j 0/\g.rules[j]?=some (Y,r)/\KI g d0 r0 X Y/\∀t,m.testBit t=true↔La g X (Nx g (r0.drop (d0+1)) m0) Y t
 all:∀{X Y j r},KI g d0 r0 X Y->g.rules[j]?=some (Y,r)->∃m,br d (aX g j 0)=some m
theorem Nx.lt{b:TN}{m:Nat}(h:Nx g b m t)(k:∀t,m.testBit t=true->t<g.tc):t<g.tc:=h.elim (·.lt) λh=>k t h.2
theorem La.lt{M:Nat->Prop}(h:La g X M Y t)(k:∀t,M t->t<g.tc):t<g.tc:=by
 induction h with
 |base h=>show k _ h
 |fst _ _ _ f=>show f.lt
 |nul _ _ _ _ a=>show a
theorem CI.zero:CI g i0 d0 m0 r0 [(aX g i0 d0,m0)] [aX g i0 d0]:=#[RJ ..,λ{x m} h=>by
 let:=cq h;rw[Q6]at this;clear h;show yP this ?_;clear this;ext a zd;cases a;cases zd;show .inl #[rfl,rfl],c0 (RJ ..) (.head _),λ{x} h=>#[m0,by rw[Q6.mp h];show c0 (RJ ..) (.head _)]]
theorem CI.pop(h:CI g i0 d0 m0 r0 d w)(k:∀x∈w',x∈w):CI g i0 d0 m0 r0 d w':=#[h.nd,h.snd,h.YV,λhx=>h.wk (k _ hx)]
variable(W:WF g)(kr:Kr g i0 d0 m0 l0 r0)
include W kr
theorem Gp{l:Nat}(a:g.rules[j]?=some (Y,r))(hi:g.rules[i]?=some (l,r'))(b:r'[dd]?=some Y):aX g j 0≠aX g i0 d0:=λe=>by
 show ao (bc a (Rx _) kr.V4 kr.dot e) λe1 e2=>?_;let:=kr.fst e2.symm;clear e kr;subst e1;subst this;show aq W.zero λS h0 _=>?_;rw[h0]at a;replace a:=Is a;cases a;show(W.Vh (aF hi) (Q4 b)).elim (λk=>Si _ k) λk=>Si _ k.1
theorem CI.gives(h:CI g i0 d0 m0 r0 d w){l m:Nat}(hx:br d (aX g i dd)=some m)(hi:g.rules[i]?=some (l,r))(f:r[dd]?=some Y)(k:g.tc<=Y)(p:g.rules[j]?=some (Y,r')):∃X,KI g d0 r0 X Y/\∀t,Nx g (r.drop (dd+1)) m t->La g X (Nx g (r0.drop (d0+1)) m0) Y t:=by
 let c:=Rf (ai f);rcases h.snd hx with a|a
 .show ao a ?_;clear a;ext e rfl;show ao (bc hi c kr.V4 kr.dot e) ?_;clear h e c;ext rfl rfl;let:=kr.V4;rw[hi]at this;clear hi;replace this:=Is this;cases this;show#[Y,#[f,k,.refl],λt h=>.base h]
 show gX a λj' q r2 X e b h3 n=>?_;clear a;show ao (bc hi c b (Rx _) e) ?_;clear e c hx;ext rfl rfl;rw[hi]at b;replace b:=Is b;cases b;let o:r=Y::r.drop (0+1):=by rw[<- bR f];rfl
 rw[o]at hi;show#[X,#[h3.1,h3.2.1,.step h3.2.2 hi k],λt h=>h.elim (.fst h3.2.2 hi k) λh=>.nul (n t h.2) hi k h.1]
set_option tactic.hygienic true in
theorem CI.put(h:CI g i0 d0 m0 r0 d w)(b:g.rules[j]?=some (Y,r))(ne:aX g j 0≠aX g i0 d0)(c:KI g d0 r0 X Y)(a:∀t,m'.testBit t=true->La g X (Nx g (r0.drop (d0+1)) m0) Y t):CI g i0 d0 m0 r0 (dQ d (aX g j 0) m') (w++[aX g j 0]):=by
 show#[pu h.nd _,λ{x m} hx=>?_,?_,λ{x} hx=>?_]
 .rw[cD]at hx;split at hx
  .rename_i e;replace hx:=Is hx;cases hx;show .inr #[j,Y,r,X,e,b,c,a]
  show h.snd hx
 .rw[cD,RX (Ne.symm ne)];show h.YV
 rw[cD];split
 .show#[_,rfl]
 rename_i e
 show(Ra.mp hx).elim h.wk λk=>absurd (Q6.mp k) e
omit W in
theorem CI.done(h:CI g i0 d0 m0 r0 d [])(c:∀{x m},br d x=some m->GK g d x m):o8 g i0 d0 m0 r0 d:=by
 let down:∀{X Y},r0[d0]?=some X->g.tc<=X->Ch g X Y->∀{j r},g.rules[j]?=some (Y,r)->∃m,br d (aX g j 0)=some m:=λ{X Y} h1 o h3=>by
  induction h3 with
  |refl=>show λ{j r} a=>(c h.YV rfl kr.V4 h1 o a).imp λ_ k=>k.1
  |step _ hr l q=>
   ext j r a;show az (q hr) λm b=>(c b rfl hr rfl l a).imp λ_ k=>k.1
 let bits:∀{X Y t},r0[d0]?=some X->g.tc<=X->La g X (Nx g (r0.drop (d0+1)) m0) Y t->∀{j r m},g.rules[j]?=some (Y,r)->br d (aX g j 0)=some m->m.testBit t=true:=λ{X Y t} h1 o h3=>by
  induction h3 with
  |base w=>
   ext j r m a b;show aq (c h.YV rfl kr.V4 h1 o a) λm' e k=>?_;rw[b]at e;replace e:=Is e;cases e;show k _ w
  |fst v hr l f=>
   ext j r m a b;show az (down h1 o v hr) λm1 p=>?_;show aq (c p rfl hr rfl l a) λm' e k=>?_;rw[b]at e;replace e:=Is e;cases e;show k _ (.inl f)
  |nul s hr l n q=>
   ext j r m a b;show az (down h1 o s.ch hr) λm1 p=>?_;show aq (c p rfl hr rfl l a) λm' e k=>?_;rw[b]at e;replace e:=Is e;cases e;show k _ (.inr #[n,q hr p])
 show#[h.nd,h.YV,λ{x m} hx=>(h.snd hx).imp id (by ext u;show gX u λj Y r X e a i k=>#[j,Y,r,X,e,a,i,λt=>#[k t,λs=>bits i.1 i.2.1 s a (e▸hx)]]),λ{X Y j r} i a=>down i.1 i.2.1 i.2.2 a]
end
end
section
variable{L:aQ}{Y i j m' mk mx n x0:Nat}{d:TP}{f':Nat->Nat}{g:Gm}{js r:TN}{l:TV}{p q:Ps}{x y:E}{U U0:aw}
section
variable{h:Gh}{z:E}(G:bh U0 g h)(Z:Sz g h)(E:bF U0 U)
include G Z E
theorem j7{d:Nat}(hi:i<g.rules.length)(hx:Ev (CC (n+1)) L U x (.ref h.a))(hy:Ev (CC (n+1)) L U y (.int i))(hz:Ev (CC (n+1)) L U z (.int d)):Ev (CC (n+1)) L U (.U5 25 x (.cons y (.cons z .nil)) p q) (.int (aX g i d:Nat)):=iz hx (G.inst.ext E) #[rfl,rfl] rfl (be hy (bz hz)) λ_ q=>H1 (G.ext E) Z hi q
variable{d l:Nat}(hr:g.rules[i]?=some (l,r))(hd:d<=r.length)(hx:Ev (CC (n+1)) L U x (.ref h.a))(hy:Ev (CC (n+1)) L U y (.int (aX g i d:Nat)))
include hr hd hx hy
theorem j8:Ev (CC (n+1)) L U (.U5 79 x (.cons y .nil) p q) (.int (Lo r d)):=iz hx (G.inst.ext E) #[rfl,rfl] rfl (bz hy) λ_ q=>Gz (G.ext E) Z hr hd q
theorem gU:Ev (CC (n+1)) L U (.U5 78 x (.cons y .nil) p q) (.int i):=iz hx (G.inst.ext E) #[rfl,rfl] rfl (bz hy) λ_ q=>yy (G.ext E) Z hr hd q
theorem vg:Ev (CC (n+1)) L U (.U5 84 x (.cons y .nil) p q) (.int d):=iz hx (G.inst.ext E) #[rfl,rfl] rfl (bz hy) λ_ q=>CH (G.ext E) Z hr hd q
end
theorem vf{C:CT}(hx:Ev C L U x (.tup l))(hy:Ev C L U y (.int i))(h1:1<=i)(a:i<=l.length)(z:l.length<=bu):Ev C L U (.VM x y p q) (.tup (l.drop i)):=λQ k=>hx _ (hy _ #[SU.mpr h1,SU.mpr a,z,k])
noncomputable def Ko(k:Nat)(o:Option Nat):Nat:=match o with
 |none=>2 ^ k+1
 |some m=>2 ^ k - m
noncomputable def HC(g:Gm)(d:TP):Nat:=((List.range g.rules.length).map λj=>Ko g.tc (br d (aX g j 0))).sum
theorem yr{f:Nat->Nat}:∀{l:TN},(∀x∈l,f' x<=f x)->(l.map f').sum<=(l.map f).sum
 |[],_=>Rm _
 |x::l,h=>RS (h x (.head _)) (yr λy hy=>h y (.tail _ hy))
theorem yq{f:Nat->Nat}{l:TN}(h:∀x∈l,f' x<=f x)(a:j∈l)(k:f' j<f j):(l.map f').sum<(l.map f).sum
 := by
  induction l with
  |nil=>show n0 a
  |cons x l b=>
    rcases RB.mp a with rfl|a
    · show Nat.add_lt_add_of_lt_of_le k (yr λy hy=>h y (.tail _ hy))
    show Nat.add_lt_add_of_le_of_lt (h x (.head _)) (b (λy hy=>h y (.tail _ hy)) a)
set_option tactic.hygienic true in
theorem HA(c:g.rules[j]?=some (Y,r))(b:m'<2 ^ g.tc)(a:∀m,br d (aX g j 0)=some m->m<m'):HC g (dQ d (aX g j 0) m')<HC g d:=by
 let dn:Ko g.tc (some m')<Ko g.tc (br d (aX g j 0)):=by
  cases e:br d (aX g j 0)with
  |none=>show Tq (Nat.sub_le ..)
  |some m=>show Tu (Tf (a m e) b) (a m e)
 show yq (λx hx=>?_) (SY.mpr (ai c)) ?_
 .rw[cD];split
  .rename_i e;rw[e];show Rf dn
  show Rm _
 rw[cD,RO rfl];show dn
theorem Lj{s:Nat}:j∈cr g s↔∃r,g.rules[j]?=some (s,r):=by
 unfold cr;erw[Sa,SY];constructor
 .ext a;show ao a λhj h=>?_;rw[Rg hj]at h ⊢;show#[_,Rs some (Prod.ext (RP.mp h) rfl)]
 ext a;show az a λr e=>#[ai e,by rw[e];show RK s]
theorem GK.mono{d':TP}{x m:Nat}(h:GK g d x m)(k:∀{y m},br d y=some m->∃m',br d' y=some m'/\∀t,m.testBit t=true->m'.testBit t=true):GK g d' x m:=λh1 c h3 b a=>by
 show aq (h h1 c h3 b a) λm' e f=>aq (k e) λm2 e2 i=>#[m2,e2,λt ht=>i t (f t ht)]
def CW(g:Gm)(d:TP)(w:TN)(x0 mx mk:Nat)(js:TN):Prop:=∀{x m},br d x=some m->x∈w\/GK g d x m\/(x=x0/\m=mx/\∀j∈js,∃m',br d (aX g j 0)=some m'/\∀t,mk.testBit t=true->m'.testBit t=true)
set_option tactic.hygienic true in
theorem CW.put{w:TN}(h:CW g d w x0 mx mk js)(l:∀t,mk.testBit t=true->m'.testBit t=true)(n:∀{m},br d (aX g j 0)=some m->∀t,m.testBit t=true->m'.testBit t=true):CW g (dQ d (aX g j 0) m') (w++[aX g j 0]) x0 mx mk (js++[j]):=λ{x m} hx=>by
 let mono:∀{y m},br d y=some m->∃m2,br (Mine.Internal.dQ d (aX g j 0) m') y=some m2/\∀t,m.testBit t=true->m2.testBit t=true:=λ{y m} e=>by
  rw[cD];split
  .rename_i c;show#[_,rfl,n (c▸e)]
  show#[_,e,λ_ h=>h]
 rw[cD]at hx;split at hx
 .rename_i c;show .inl (Rk _ (Q6.mpr c))
 rcases h hx with h|h|b
 .show .inl (RE _ h)
 .show .inr (.inl (h.mono mono))
 show bP b λh1 o h3=>?_;show .inr (.inr #[h1,o,λi a=>?_]);rcases Ra.mp a with a|a
 .show aq (h3 i a) λm1 e k=>aq (mono e) λm2 e2 f=>#[m2,e2,λt ht=>f t (k t ht)]
 rw[Q6.mp a,cD,RO rfl];show#[_,rfl,l]
theorem CW.keep{w:TN}{m:Nat}(h:CW g d w x0 mx mk js)(e:br d (aX g j 0)=some m)(c:∀t,mk.testBit t=true->m.testBit t=true):CW g d w x0 mx mk (js++[j]):=λ{x m'} hx=>(h hx).imp id λk=>k.imp id λk=>#[k.1,k.2.1,λb a=>(Ra.mp a).elim (k.2.2 b) λa=>#[m,by rw[Q6.mp a];show e,c]]
variable{B N P0 Wt X d0 dd dl dl' ep i0 l0 m0 p':Nat}{bs r' r0 w:TN}{kt:V}{Vd VZ WO WB x6 x7 x8:TO}{α:Type}{UY:aw}
noncomputable def IC(h:Gh)(kt:V)(N F Mk Wt:Nat)(x6 x7 x8 x9 Vd VZ WO WB:TO):aQ:=[some (.ref h.a),some kt,some (.ref N),some (.ref F),some (.ref Mk),some (.ref Wt),x6,x7,x8,x9,Vd,VZ,WO,WB,none,none,none]
noncomputable def QM(Mk Wt ep:Nat)(d:TP)(w:TN):List (Nat×O):=[(Wt,.list (ay w)),(Mk,.dict (dK kI kI d) ep)]
structure JC(g:Gm)(U:aw)(Mk Wt i0 d0 m0:Nat)(r0:TN)(P0 ep:Nat)(d:TP)(w:TN)(m:TA)(UX:aw):Prop where
 own:aA U UX (m++QM Mk Wt ep d w)
 ci:CI g i0 d0 m0 r0 d w
 pt:2*HC g d+w.length<=P0
 dl:d.length+HC g d<=1000
theorem Kn{p w P D:Nat}(h:2*p+w<=P)(k:p'<p)(hd:dl+p<=D)(a:dl'<=dl+1):2*p'+(w+1)<=P/\dl'+p'<=D:=#[Gt (Gt (by erw[Sc w 1,<- SI];show Rv (SS (2*p'+1)) w) (Rv (RV 2 k) w)) h,Gt (Rv a p') (Gt (RW (SQ dl p')) (Gt (Rb k dl) hd))]
theorem wF(l:List α)(x:α):(l++[x]).length=l.length+1:=Q9
section
variable{h:Gh}{F Mk:Nat}(G:bh U g h)(Z:Sz g h)(W:WF g)(kr:Kr g i0 d0 m0 l0 r0)(zP:P0<=50000)
include G Z W kr zP
theorem NC{Q:QF}(a:g.rules[j]?=some (Y,r'))(ne:aX g j 0≠aX g i0 d0)(u:KI g d0 r0 X Y)(Xr:∀t,mk.testBit t=true->La g X (Nx g (r0.drop (d0+1)) m0) Y t)
  (J:JC g U Mk Wt i0 d0 m0 r0 P0 ep d w [(B,.list (ay bs))] UY) (cw:CW g d w x0 mx mk js)
  (q:∀ep d w WO WB UX,JC g U Mk Wt i0 d0 m0 r0 P0 ep d w [(B,.list (ay bs))] UX->CW g d w x0 mx mk (js++[j])->Q .next (IC h kt N F Mk Wt x6 x7 x8 (some (.int mk)) Vd (some (.int j)) WO WB) UX):
  an tab (CC (n+1)) jh (IC h kt N F Mk Wt x6 x7 x8 (some (.int mk)) Vd (some (.int j)) WO WB) UY Q:=by
 let O:=J.own;let lt:=λt k=>(kr.XO t k).lt;let o {t:Nat} (k:La g X (Nx g (r0.drop (d0+1)) m0) Y t):t<g.tc:=k.lt λt k=>k.lt lt;let push {m':Nat} {WB:TO} {K:QF} (hK:∀{L UX},Q .next L UX->K .next L UX) (r:∀t,m'.testBit t=true->La g X (Nx g (r0.drop (d0+1)) m0) Y t) (s:∀{m},br d (aX g j 0)=some m->(∀t,m.testBit t=true->m'.testBit t=true)/\m<m') (p:∀t,mk.testBit t=true->m'.testBit t=true) {e:E} {p1 p2 p3 p4 p5 p6 p7 p8 p9:Ps} {n1 n2 x v:Nat} (he:Ev (CC (n+1)) (IC h kt N F Mk Wt x6 x7 x8 (some (.int mk)) Vd (some (.int j)) (some (.int (aX g j 0))) WB) UY e (kI m')):an tab (CC (n+1)) (.cons (.Ve (.loc #[4,n1,p1]) (.loc #[12,n2,p2]) p3 e p4) (.cons (.expr (.U1 .append (.loc #[5,x,p5]) (.cons (.loc #[12,v,p6]) .nil) p7 p8) p9) .nil)) (IC h kt N F Mk Wt x6 x7 x8 (some (.int mk)) Vd (some (.int j)) (some (.int (aX g j 0))) WB) UY K:=by
  let dn:=HA a (jM λt k=>o (r t k)) λm e=>(s e).2;let pd:=Kn J.pt dn J.dl (kB d (aX g j 0) m');show lZ qt he (ag rfl) (ag rfl) O 2 rfl (Q5 (Gt (Ri ..) J.dl) (dR rfl)) λVE U3 C=>de (f:=λ(i:Nat)=>.int i) (ag rfl) (ag rfl) C 1 rfl (Q5 (Gt (Gt (Nat.le_add_left ..) J.pt) zP) (dR rfl)) λVa A=>bG<|hK<|q VE _ _ _ _ _ #[A,J.ci.put W kr a ne u r,by rw[wF];show pd.1,pd.2] (cw.put p λe=>(s e).1)
 show aZ (j7 G Z O.ext (ai a) (ag rfl) (ag rfl) am)<|aZ (yl qt (ag rfl) (ag rfl) uC (O.get 2 rfl)) ?_;cases e:br d (aX g j 0)with
 |none=>show eM (iE (ag rfl) am) (λ_=>push cy Xr (λk=>by rw[e]at k;show nS k) (λ_ h=>h) (ag rfl)) λc=>absurd (dR rfl) c
 |some m=>
  let y:∀t,m.testBit t=true->La g X (Nx g (r0.drop (d0+1)) m0) Y t:=by
   rcases J.ci.snd e with l|l
   .show ao l λk _=>?_;show absurd k ne
   show gX l λj' D r2 X' k b h3 z=>?_;show ao (bc a (Rx _) b (Rx _) k) ?_;ext rfl _;rw[a]at b;replace b:=Is b;cases b;let:=u.1.symm.trans h3.1;replace this:=Is this;cases this;show z
  let b1:∀t,m.testBit t=true->(m ||| mk).testBit t=true:=λt k=>by rw[Sv,k];rfl
  let b2:∀t,mk.testBit t=true->(m ||| mk).testBit t=true:=λt k=>by rw[Sv,k,Bool.or_true]
  show eM (iE (ag rfl) am) (λc=>absurd (Ry m) (Int.not_le.mpr c)) λ_=>qk (BE (iY (ag rfl) (ag rfl)) (ag rfl)) (λc=>push (λh=>cy (cy h)) (λt k=>?_) (λk=>?_) b2 (iY (ag rfl) (ag rfl))) λc=>bE<|bE<|q ep d w _ _ _ J (cw.keep e λt k=>?_)
  .rw[Sv,TG]at k;show k.elim (y t) (Xr t)
  .rw[e]at k;replace k:=Is k;cases k;show#[b1,vB λk=>c (Rs _ k)]
  rw[<- R5.mp c];show b2 t k
omit G Z zP in
theorem CI.shape{x m:Nat}(h:CI g i0 d0 m0 r0 d w)(e:br d x=some m):∃i dd l r,x=aX g i dd/\g.rules[i]?=some (l,r)/\dd<=r.length:=by
 rcases h.snd e with a|a
 .show ao a λk _=>#[i0,d0,l0,r0,k,kr.V4,kr.dot]
 show EE a λj Y r X k b _=>#[j,0,Y,r,k,b,Rx _]
theorem Js{l:Nat}{Q:QF}(hi:g.rules[i]?=some (l,r))(a:r[dd]?=some Y)(k:g.tc<=Y)(hx:br d (aX g i dd)=some mx)(Xr:∀t,mk.testBit t=true↔Nx g (r.drop (dd+1)) mx t)
  (J:JC g U Mk Wt i0 d0 m0 r0 P0 ep d w [] UY) (cw:∀{x m},br d x=some m->x=aX g i dd\/x∈w\/GK g d x m)
  (q:∀ep d w VZ WO WB UX,JC g U Mk Wt i0 d0 m0 r0 P0 ep d w [] UX->(∀{x m},br d x=some m->x∈w\/GK g d x m)->Q .next (IC h kt N F Mk Wt (some (.int (aX g i dd:Nat))) (some (.int Y)) x8 (some (.int mk)) Vd VZ WO WB) UX):
  an tab (CC (n+1)) jg (IC h kt N F Mk Wt (some (.int (aX g i dd:Nat))) (some (.int Y)) x8 (some (.int mk)) Vd VZ WO WB) UY Q:=by
 let o:=W.Xm hi (Q4 a);show aR<|aK<|dU<|ah rfl<|dy (G.inst.ext J.own.ext) #[rfl,rfl] rfl<|aj<|ah rfl<|ql (G.ext J.own.ext) Z o λB A=>aI (aB ..)<|c7 (a4:=(WO,WB)) (λ_ _ _ _ VZ x=>IC h kt N F Mk Wt (some (.int (aX g i dd))) (some (.int Y)) x8 (some (.int mk)) Vd VZ x.1 x.2) (λk d w ep _ _ UX=>JC g U Mk Wt i0 d0 m0 r0 P0 ep d w [(B,.list (ay (cr g Y)))] UX/\CW g d w (aX g i dd) mx mk ((cr g Y).take k)) #[#[J.own.new A _,J.ci,J.pt,J.dl],λ{x m} e=>?_] (λj=>j.1.own.hd) (λ{d w ep VZ x U3} j=>?_) λ{k' x d' w ep _ _ U3 K} f j go _=>el f λ{u} v=>?_
 .rcases cw e with rfl|c
  .rw[hx]at e;replace e:=Is e;cases e;show .inr (.inr #[rfl,rfl,λ_ h=>n0 h])
  show c.imp id .inl
 .rw[aS,RI]at j;show cy<|q _ _ _ _ _ _ _ #[j.1.own.tl,j.1.ci,j.1.pt,j.1.dl] λ{x m} e=>?_;rcases j.2 e with c|c|s
  .show .inl c
  .show .inr c
  show bP s ?_;clear s;clear e j hx;ext rfl rfl c;show .inr ?_;ext i' E l' r' D u r2 e1 h1 b h3 C;show ao (bc hi (Rf (ai a)) h1 (Rf (ai b)) e1) ?_;ext rfl rfl;rw[hi]at h1;replace h1:=Is h1;cases h1;rw[a]at b;replace b:=Is b;cases b;show(c u (Lj.mpr #[r2,C])).imp λm' k=>#[k.1,λt ht=>k.2 t ((Xr t).mpr ht)]
 show az (Lj.mp (Q4 v)) λr' p=>?_;let ne:=Gp W kr p hi a;show aq (J.ci.gives W kr hx hi a k p) λX z y=>?_;show NC G Z W kr zP p ne z (λt ht=>y t ((Xr t).mp ht)) j.1 j.2 λep d w WO WB UX J cw=>go (b4:=(WO,WB)) #[J,by rw[ax v];show cw]
end
variable{t:Nat}{fs:TN}{nl:List Bool}{x9:TO}
theorem KF(H:fW g nl)(A:o0 g fs){b:TN}{m:Nat}:(bif (fo fs nl b 0).2 then(fo fs nl b 0).1 ||| m else(fo fs nl b 0).1).testBit t=true↔Nx g b m t:=by
 cases c:(fo fs nl b 0).2 with
 |false=>
  let:¬bM g b:=λn=>by rw[(vR H).mpr n]at c;show nF c.symm
  show(A.fo H).trans #[.inl,λh=>h.elim id λh=>absurd h.1 this]
 |true=>
  erw[Ua,Sv,TG,A.fo H];show or_congr Iff.rfl #[λh=>#[(vR H).mp c,h],(·.2)]
noncomputable abbrev O8:=Option V×Option V×Option V×Option V×Option V×Option V×Option V×Option V
noncomputable def Pz(h:Gh)(kt:V)(N F Mk Wt:Nat)(x:O8):aQ:=IC h kt N F Mk Wt x.1 x.2.1 x.2.2.1 x.2.2.2.1 x.2.2.2.2.1 x.2.2.2.2.2.1 x.2.2.2.2.2.2.1 x.2.2.2.2.2.2.2
theorem D9(g:Gm)(S:Sm g)(d:TP):HC g d<=650:=by
 let:HC g d<=((List.range g.rules.length).map λ_=>65).sum:=yr λj _=>by
  let a:2 ^ g.tc<=64:=TJ (dR rfl) S.tc;cases br d (aX g j 0)with
  |none=>show Rj a
  |some m=>show Gt (Nat.sub_le ..) (Gt a (dR rfl))
 show Gt this ?_;rw[List.map_const',List.sum_replicate_nat,RN];show Uz 65 S.rl
section
variable{h:Gh}{F Mk:Nat}(G:bh U g h)(Z:Sz g h)(W:WF g)(S:Sm g)(kr:Kr g i0 d0 m0 l0 r0)(H:fW g nl)(A:o0 g fs)(hn:U N=some (.list (ef nl)))(hf:U F=some (.list (ay fs)))
include G Z W S kr H A hn hf
theorem NB{l:Nat}(zP:P0<=50000){w:TN}{K:QF}(hi:g.rules[i]?=some (l,r))(e:r[dd]?=some Y)(k:g.tc<=Y)(hx:br d (aX g i dd)=some mx)(J:JC g U Mk Wt i0 d0 m0 r0 P0 ep d w [] UY)(cw:∀{x m},br d x=some m->x=aX g i dd\/x∈w\/GK g d x m)
  (go:∀ep d w x UX,JC g U Mk Wt i0 d0 m0 r0 P0 ep d w [] UX->(∀{x m},br d x=some m->x∈w\/GK g d x m)->K .next (Pz h kt N F Mk Wt x) UX):
  an tab (CC (n+1)) jf (IC h kt N F Mk Wt (some (.int (aX g i dd:Nat))) (some (.int Y)) x8 x9 Vd VZ WO WB) UY K:=by
 let O:=J.own;let j:=Rf (ai e);let f:NN g<=100000:=Gt Z.syms (dR rfl);show aq (G.ru i l r hi) λra e1 e2=>?_;let o:(ay r).drop (dd+1)=ay (r.drop (dd+1)):=List.map_drop.symm;let b t:=KF (t:=t) H A (b:=r.drop (dd+1)) (m:=mx);let dl {s:Nat} (a:s∈r.drop (dd+1)):s<NN g:=W.Xm hi (List.mem_of_mem_drop a);show aZ (aE (aM (gV G O.ext rfl rfl rfl) (gU G Z O.ext hi j (ag rfl) (ag rfl)) (O.ext _ _ G.rl) (G.Xz▸Gt Z.rules (dR rfl)) e1) (e2.ext O.ext) (yb rfl) rfl)<|IV (r8 (be (vf (ag rfl) (ly (vg G Z O.ext hi j (ag rfl) (ag rfl)) am) (Rj (Rx dd)) (by rw[aS];show ai e) (Z.V6 hi)) (be (ag rfl) (bz (ag rfl)))) λQ q=>o▸jQ (O.ext _ _ hn) (O.ext _ _ hf) (H.len▸f) (A.len▸f) (λs a=>#[H.len▸dl a,A.len▸dl a]) q) rfl<|cC (lV (ag rfl)) (λc=>aZ (iY (ag rfl) (bH (d:=d) qt (ag rfl) (ag rfl) (O.get 1 rfl) hx))<|aU<|Js G Z W kr zP hi e k hx (λt=>?_) J cw λep d w VZ WO WB UX J c=>go ep d w (_,_,_,_,_,VZ,WO,WB) UX J c) λc=>aU<|Js G Z W kr zP hi e k hx (λt=>?_) J cw λep d w VZ WO WB UX J c=>go ep d w (_,_,_,_,_,VZ,WO,WB) UX J c
 .let b:=b t;rw[c]at b;show b
 let b:=b t;rw[c]at b;show b
theorem tq{Q:QV}(q:∀c ep UX d,o8 g i0 d0 m0 r0 d->d.length<=1000->aA U UX [(c,.dict (dK kI kI d) ep)]->Q (.ref c) UX):CC (n+2) 334 [.ref h.a,.tup [.tup [.int (aX g i0 d0:Nat),.int m0]],.ref N,.ref F] U Q:=by
 show let kt:V:=.tup [.tup [.int (aX g i0 d0),.int m0]];?_;change an tab (CC (n+1)) ik [some (.ref h.a),some kt,some (.ref N),some (.ref F),none,none,none,none,none,none,none,none,none,none,none,none,none] U (aW Q);show aC<|aP<|ah rfl #[#[.i,λe he=>?_],Q7 rfl,[(.int (aX g i0 d0),.int m0)],rfl,λMk ep t=>?_]
 .rw[Q6.mp he];show#[_,_,rfl,_,rfl]
 let v:=(aA.nil U).new t (.dict (dK kI kI [(aX g i0 d0,m0)]) ep);show AA (f:=λ(i:Nat)=>.int i) (l:=[aX g i0 d0]) (ag rfl) v (jN v.hd) (Q7 rfl) λWt U3 I=>Hn (a0:=(none,none,none,none,none,none,none,none)) (λx _ _ _=>Pz h kt N F Mk Wt x) (λ_ d w _=>2*HC g d+w.length) (λ_ d w ep UX=>JC g U Mk Wt i0 d0 m0 r0 2000 ep d w [] UX/\∀{x m},br d x=some m->x∈w\/GK g d x m) #[#[I,.zero,?_,?_],λ{x m} e=>.inl ?_] λ{x d w ep D K} j go u L=>LZ (ag rfl) (j.1.own.get 0 rfl) (Gt (Gt (Nat.le_add_left ..) j.1.pt) (dR rfl)) _ #[λc=>?_,λc=>cB (ag rfl)<|q Mk ep D d ?_ (Gt (Ri ..) j.1.dl) j.1.own.tl]
 .let:=D9 g S [(aX g i0 d0,m0)];rw[RG];show Gt (Rj (RV 2 this)) (dR rfl)
 .let:=D9 g S [(aX g i0 d0,m0)];rw[RG];show Gt (Rb this 1) (dR rfl)
 .let:=cq e;rw[Q6]at this ⊢;show Rs Prod.fst this
 .let hw:w≠[]:=λe=>by rw[e]at c;cases c
  show uJ (show ∃w' x0,w=w'++[x0] from#[_,_,(List.dropLast_concat_getLast hw).symm]) ?_;ext w' x0 rfl;show az (j.1.ci.wk (Rk _ (.head _))) λmx hx=>?_;show EE (j.1.ci.shape W kr hx) ?_;clear hw c;ext i dd l r rfl hi hd;let up:∀{x m},br d x=some m->x=aX g i dd\/x∈w'\/GK g d x m:=λ{x m} e=>(j.2 e).elim (λh=>(Ra.mp h).elim (λh=>.inr (.inl h)) λh=>.inl (Q6.mp h)) λh=>.inr (.inr h);let lm:2*HC g d+w'.length<2*HC g d+(w'++[aX g i dd]).length:=by rw[wF];show Sq _
  let p0:=j.1.pt;let zm:=Gt (Rf lm) p0;let z:=Gt (Nat.le_add_left ..) zm;show IU (ag rfl) j.1.own 0 rfl (Q5 z (dR rfl)) λVr s=>aZ (j8 G Z s.ext hi hd (ag rfl) (ag rfl)) ?_;let ci:=j.1.ci.pop λx h=>RE _ h;let skip h0:K .cont (Pz h kt N F Mk Wt (some (.int (aX g i dd)),some (.int (Lo r dd)),x.2.2)) Vr:=u #[#[s,ci,zm,j.1.dl],λ{y m} e=>(up e).elim (λk=>by subst k;rw[hx]at e;replace e:=Is e;cases e;show .inr h0) id] lm;let E:=s.ext;cases p:r[dd]? with
  |none=>
   rw[iy p]at skip ⊢;show cC (uD (c:=true) (iE (ag rfl) am) nt) (λ_=>vw<|skip ?_) nt;ext i' C l' r' Y B r2 e1 h1 b _ _;show ao (bc hi hd h1 (Rf (ai b)) e1) ?_;ext rfl rfl;rw[hi]at h1;replace h1:=Is h1;cases h1;rw[p]at b;show nS b
  |some Y=>
   rw[fE p]at skip ⊢;let ng:=SC λk=>absurd (Ry Y) (Int.not_le.mpr k);show cC (uD (iE (ag rfl) am) λ_=>lV (G3 G Z E (ag rfl) (ag rfl))) (λo=>vw<|skip ?_) λo=>aU ?_
   .rw[ng,Bool.false_or]at o;let o:=RH o;show λi' C l' r' M B r2 e1 h1 b h3 _=>ao (bc hi hd h1 (Rf (ai b)) e1) ?_;ext rfl rfl;rw[hi]at h1;replace h1:=Is h1;cases h1;rw[p]at b;replace b:=Is b;cases b;show absurd o (Sn.mpr h3)
   rw[ng,Bool.false_or]at o;show NB G Z W S kr H A hn hf (Gt zm (dR rfl)) hi p (R6 (R1 o)) hx #[s,ci,Rm _,j.1.dl] up λep d' w x UX J c=>go #[#[J.own,J.ci,Gt J.pt zm,J.dl],c] (Q5 J.pt lm)
 let hw:w=[]:=by clear u go j;induction w with|nil=>rfl|cons _ _=>cases c
 clear c u go;subst hw;show j.1.ci.done kr λ{x m} e=>?_;rcases j.2 e with h|h
 .show n0 h
 show h
end
variable{a c k mk0 mm nn:Nat}{e1 e2 e3 elt:E}{WN:List (Nat×V)}{m:TA}{sym v:V}
noncomputable def OI(fs:List (Nat×V))(m:Nat)(v:V):List (Nat×V):=if(fs.any λx=>x.1== m) then fs.map (λx=>if x.1== m then(m,v) else x) else fs++[(m,v)]
theorem aL{fs:List (Nat×V)}{R:aw->Prop}(O:aA U0 U m)(b:U a=some (.inst c dd))(ok:tZ c mm)(i:Nat)(k:m[i]?=some (dd,.attrs fs))(z:fs.length<100)(hf:OI fs mm v=WN)(q:∀UX,aA U0 UX (m.set i (dd,.attrs WN))->R UX):vb tab (.ref a) mm v U R:=by show QH b #[ok.1,ok.2,QK (O.get i k) #[z,q _ (hf▸O.set i k _)]]
theorem f6{d:Nat}(h:aA U0 U m)(ne:a≠d)(b:U a=none)(hd:U d=none):aA U0 (bq (bq U d (.attrs [])) a (.inst c d)) ((a,.inst c d)::(d,.attrs [])::m):=(h.new hd _).new ((vi ne).trans b) _
theorem FQ{C:CT}{x:Nm}{w:V}{K:List V->aw->Prop}(h:Ev C (L++[some v]) U elt w)(k:K [w] U):hG (λ_=>True) (tw C elt (.nm x) .nil L) [v] [] U K:=#[trivial,Ju h #[Rc Nat.zero_lt_one (dR rfl),trivial,k]]
theorem l6{Q:QV}(h:U a=some (.list l))(z:l.length<=bu)(q:Q (.tup l) U):prim U Q .tuple [.ref a]:=gL h #[z,q]
noncomputable def Nz(k:Nat)(kt co sym:V)(it mv rd mk:Nat):List (Nat×V):=[(5,.int k),(71,kt),(72,co),(23,sym),(74,.ref it),(75,.ref mv),(76,.ref rd),(77,.ref mk)]
noncomputable def kV(x m:Nat):V:=.tup [.tup [.int x,.int m]]
theorem cA{m:Nat}(h:tab.mt 281 m=some none):tZ 281 m:=#[rfl,h]
theorem FO{x:Nat}{Q:QV}(O:aA U0 U m)(h1:Ev (CC (n+1)) L U e1 (.int k))(s:Ev (CC (n+1)) L U e2 (kV x mk0))(h3:Ev (CC (n+1)) L U e3 sym)
  (q':∀a dd mv it rd mk ep UX,aA U0 UX ((mv,.dict [] ep)::(a,.inst 281 dd)::(dd,.attrs (Nz k (kV x mk0) (.tup [.int x]) sym it mv rd mk))::m)->Q (.ref a) UX):
  bj tab (CC (n+1)) (.new 281 nn (.cons e1 (.cons e2 (.cons e3 .nil))) p q) L U Q:=by
 show qu<|au<|h1 _<|au<|s _<|aj<|h3 _ λa dd ne r hd=>?_;let l:=f6 (c:=281) O ne r hd;change an tab (CC n) cW [some (.ref a),some (.int k),some (kV x mk0),some sym,none] _ (aW _);show aN<|ah rfl<|ah rfl<|aL l (l.get 0 rfl) (cA rfl) 1 rfl (Q7 rfl) rfl λU3 j=>aN<|ah rfl<|ah rfl<|aL j (j.get 0 rfl) (cA rfl) 1 rfl (Q7 rfl) rfl λVa y=>aN<|aP<|bp<|aK<|ah rfl<|jF<|FQ (fY (ag rfl) am aT rfl) λc o=>?_;let d:=(y.new o (.list [.int x]));show l6 d.hd bk<|ah rfl<|aL d.tl (d.get 1 rfl) (cA rfl) 1 rfl (Q7 rfl) rfl λVD i=>aN<|ah rfl<|ah rfl<|aL i (i.get 0 rfl) (cA rfl) 1 rfl (Q7 rfl) rfl λWg w=>aN<|dC λit e1 hit=>?_;let h:=w.new hit (.dict [] e1);show ah rfl<|aL h (h.get 1 rfl) (cA rfl) 2 rfl (Q7 rfl) rfl λX5 O8=>aN<|dC λmv e2 Zw=>?_;let O9:=O8.new Zw (.dict [] e2);show ah rfl<|aL O9 (O9.get 2 rfl) (cA rfl) 3 rfl (Q7 rfl) rfl λYo u=>aN<|bT λrd v=>?_;let g:=u.new v (.list []);show ah rfl<|aL g (g.get 3 rfl) (cA rfl) 4 rfl (Q7 rfl) rfl λσ12 e=>aN<|dC λmk e3 Xr=>?_;let f:=e.new Xr (.dict [] e3);show ah rfl<|aL f (f.get 4 rfl) (cA rfl) 5 rfl (Q7 rfl) rfl λb t=>bG #[rfl,q' a dd mv it rd mk e2 b (t.sub (.cons _ (.cons _ (.cons_cons _ (.cons _ (.refl _))))))]
theorem qL{h:Gh}(G:bh U g h)(Z:Sz g h)(W:WF g):Pf (CC (n+2)) U 346 [.ref h.a] (kV (aX g 0 0) 0):=λQ q=>by
 show aq W.zero λS h0 _=>?_;change an tab (CC (n+1)) ij [some (.ref h.a)] U (aW Q);show cB (bW (bz (bW (be (j7 G Z (.refl U) (ai h0) (ag rfl) am am) (bz am)) aT)) bk) q
variable{ZB it0 mv rd0:Nat}{co:V}{Vg:TP}{l xs:TN}{m2:TA}{ms:TZ}
theorem HE(h:ms.Perm (zs l)):∃l',ms=zs l'/\l'.Perm l:=by
 show#[ms.map Int.toNat,?_,?_]
 .unfold zs;rw[Su];conv=>lhs;rw[<- List.map_id ms]
  show Ty λx hx=>?_;show aq (Re.mp (h.mem_iff.mp hx)) ?_;ext y _ rfl;rfl
 let:=h.map Int.toNat;unfold zs at this;rw[Su]at this;rw[show(Int.toNat∘λ(i:Nat)=>i)=id from funext λ_=>rfl,List.map_id]at this;show this
theorem iG{Q:QV}(h:b9 U v=some (ay l))(z:l.length<64)(q:∀c l',U c=none->l'.Perm l->l'.Pairwise (·<=·)->Q (.ref c) (bq U c (.list (ay l')))):prim U Q .sorted [v]:=by
 show gO h #[by rw[aS];show z,.inl #[zs l,by unfold ay zs;rw[List.map_map];rfl,λc ms b a ho=>?_]];show aq (HE a) ?_;ext l' rfl d;let:=q c l' b d (by
  show(UR.mp ho).imp λk=>SU.mp k)
 unfold zs;rw[Su];show this
noncomputable def bK(d:TP):List Nat:=d.map (·.1)
theorem v6(d:TP):(dK kI kI d).map (·.1)=ay (bK d):=by unfold dK ay bK;rw[Su,Su];rfl
theorem AK{S:QP}(h:U a=some (.dict (dK kI kI d) ep))(q:S (ay (bK d)) (λU=>U a=some (.dict (dK kI kI d) ep)) U):yV U (.ref a) S:=l7 h (by rw[v6];show q)
def Ly(g:Gm)(d:TP):Prop:=∀{x},x∈bK d->∃i dd l r,x=aX g i dd/\g.rules[i]?=some (l,r)/\dd<=r.length
structure C0(g:Gm)(d:TP)(xs:TN)(Vg:TP):Prop where
 nd:(Vg.map (·.1)).Nodup
 io:∀j m,br Vg j=some m↔0<j/\∃l r,g.rules[j]?=some (l,r)/\aX g j r.length∈xs/\br d (aX g j r.length)=some m
theorem C0.len(h:C0 g d xs Vg):Vg.length<=g.rules.length:=by
 let:=h.nd.length_le_of_subset λx hx=>by
  show aq (Re.mp hx) ?_;ext e he rfl;show ao ((h.io e.1 e.2).mp (c0 h.nd he)) λ_ a=>?_;show ck a λl r hr _=>?_;show SY.mpr (ai hr)
 rw[Lt,RN]at this;show this
theorem C0.zero:C0 g d [] []:=#[.nil,λj m=>#[λh=>(by cases h),(by ext a;show ao a λ_ b=>fH b λ_ _ _ h _=>(n0 h))]]
theorem C0.take{l m:Nat}(h:C0 g d xs Vg)(h0:0<i)(hr:g.rules[i]?=some (l,r))(a:br d (aX g i r.length)=some m):C0 g d (xs++[aX g i r.length]) (dQ Vg i m):=by
 show#[pu h.nd _,λj m'=>?_];rw[cD];by_cases c:j=i
 .subst c;rw[RO rfl];show#[λe=>by replace e:=Is e;cases e;show#[h0,l,r,hr,Rk _ (.head _),a],(by ext b;show ao b λ_ f=>?_;show fH f λl' r' e _ k=>?_;show by rw[hr]at e;replace e:=Is e;cases e;rw[a]at k;show k)]
 erw[RX c,h.io];show and_congr Iff.rfl (exists_congr λl'=>exists_congr λr'=>Ub λe=>and_congr_left λ_=>?_);erw[Ra,Q6];show#[.inl,λk=>k.elim id λk=>absurd (bc e (Rm _) hr (Rm _) k).1 c]
theorem C0.skip{l:Nat}(h:C0 g d xs Vg)(hr:g.rules[i]?=some (l,r))(hd:dd<=r.length)(k:¬(0<i/\dd=r.length)):C0 g d (xs++[aX g i dd]) Vg:=by show#[h.nd,λj m'=>?_];erw[h.io];show Ub λb=>exists_congr λl'=>exists_congr λr'=>Ub λe=>and_congr_left λ_=>?_;erw[Ra,Q6];show#[.inl,λc=>c.elim id λc=>?_];let a:=bc e (Rm _) hr hd c;let f:=a.1;subst f;rw[hr]at e;replace e:=Is e;cases e;show absurd #[b,a.2.symm] k
noncomputable def QN(a:Nat)(h:Gh)(it:Nat)(x3 x4:TO):aQ:=[some (.ref a),some (.ref h.a),some (.ref it),x3,x4,none]
section
variable{h:Gh}(G:bh U0 g h)(Z:Sz g h)
include G Z
theorem vm{Q:QV}{it:Nat}(zr:g.rules.length<64)(zd:d.length<=1000)(f:U0 a=some (.inst 281 dd))(nd:(d.map (·.1)).Nodup)(C:Ly g d)
  (O:aA U0 U ((it,.dict (dK kI kI d) ZB)::(mv,.dict [] ep)::(dd,.attrs (Nz k kt co sym it0 mv rd0 mk0))::m2))
  (q:∀rd mk Xs Vg Xn UX,C0 g d (bK d) Vg->Xn.Perm (bK Vg)->aA U0 UX ((rd,.list (ay Xn))::(mk,.dict (dK kI kI Vg) Xs)::(it,.dict (dK kI kI d) ZB)::(mv,.dict [] ep)::(dd,.attrs (Nz k kt co sym it mv rd mk))::m2)->Q .none UX):
  CC (n+2) 278 [.ref a,.ref h.a,.ref it] U Q:=by
 change an tab (CC (n+1)) bY [some (.ref a),some (.ref h.a),some (.ref it),none,none,none] U (aW Q);show aN<|ah rfl<|ah rfl<|aL O (O.ext _ _ f) (cA rfl) 2 rfl (Q7 rfl) rfl λUY H=>aN<|dC λmk e1 Xr=>?_;let A:=H.new Xr (.dict [] e1);show ah rfl<|aL A (A.ext _ _ f) (cA rfl) 3 rfl (Q7 rfl) rfl λVa z=>aR<|aK<|ah rfl<|AK (z.get 1 rfl)<|eY (a3:=[]) (λ_ x3 x4 _ _=>QN a h it x3 x4) (λk' _ _ e Vg UX=>aA U0 UX ((mk,.dict (dK kI kI Vg) e)::(it,.dict (dK kI kI d) ZB)::(mv,.dict [] ep)::(dd,.attrs (Nz k kt co sym it mv rd0 mk))::m2)/\C0 g d ((bK d).take k') Vg) #[z,.zero] (λj=>j.1.get 1 rfl) (λ{x3 x4 e Vg F} j=>?_) λ{k' x x3 x4 e Vg F K} hx j go _=>el hx λ{y} hy=>?_
 .let b:=j.1;let M:=j.2;rw[aS,RI]at M;show aN<|aP<|aE (ag rfl) #[dd,b.ext _ _ f,b.get 3 rfl] (cA rfl) rfl _<|iG ((jN (b.get 0 rfl)).trans (Rs some (v6 Vg))) (by unfold bK;rw[List.length_map];show Nat.lt_of_le_of_lt M.len zr) λrd Xn u B _=>ah rfl<|aL (b.new u _) ((b.new u _).ext _ _ f) (cA rfl) 4 rfl (Nat.le_of_ble_eq_true rfl) rfl λw s=>bG<|q rd mk e Vg Xn w M B s
 let b:=j.1;show EE (C (Q4 hy)) ?_;ext i D l r rfl hr hd;show aq (Re.mp (Q4 hy)) λe' he o=>?_;let m:br d (aX g i D)=some e'.2:=c0 nd (o▸he);show aZ (gU G Z b.ext hr hd (ag rfl) (ag rfl))<|cC (dr (yo (ag rfl) (am (v:=.int ((0:Nat):Int)))) λ_=>iE (j8 G Z b.ext hr hd (ag rfl) (ag rfl)) am) (λc=>?_) λc=>bE<|go #[b,?_]
 .show ao (R8.mp c) λE p=>?_;let e0:=SM hd (R6 λk=>by
   rw[fE (Rg k)]at p;show absurd (RH p) (UA.mpr (Ry _)))
  clear p c o hd;subst e0;show lZ qt (bH qt (ag rfl) (ag rfl) (b.get 1 rfl) m) (aE (ag rfl) #[dd,b.ext _ _ f,b.get 3 rfl] (cA rfl) rfl) (ag rfl) b 0 rfl (Q5 j.2.len (Tf zr (dR rfl))) λVE w s=>bE<|go #[s,by rw[ax hy];show j.2.take (Sd.mp (RH E)) hr m]
 rw[ax hy];show j.2.skip hr hd ?_;clear m o hd hy;ext t;show ao t ?_;clear t;ext h0 rfl;rw[iy (SG (Rm _)),SW (Sd.mpr h0)]at c;cases c
end
variable{al al':List (Nat×(Nat×Nat))}{es:TD}{p1 p2 p3 p4 p5:Ps}{ss:Ss}{κ:DK}
theorem HG{Q:QV}{k d:V}(h:U a=some (.dict es ep))(b:c6 es k)(z:es.length<bu)(hn:fP es k=none)(q:Q d (bq U a (.dict (es++[(k,d)]) (ep+1)))):prim U Q .setdefault [.ref a,k,d]:=gD h #[b,z,hn▸q]
section
variable[DecidableEq α]{f:α->V}{k:α}{C:CT}{i:E}{Q:QF}
theorem Az(E:lT κ f){d:List (α×Nat)}(hx:Ev C L U x (.ref a))(h:Ev C L U i (f k))(O:aA U0 U m)(j:Nat)(e:m[j]?=some (a,.dict (dK f .ref d) ep))(s:d.length<100000)(hn:br d k=none)(hy:∀{UX:aw},bF U0 UX->Ev C L UX y v)(q':∀c VE UX,aA U0 UX ((c,.list [v])::m.set j (a,.dict (dK f .ref (d++[(k,c)])) VE))->an tab C ss L UX Q):an tab C (.cons (.expr (.U1 .append (.U1 .setdefault x (.cons i (.cons (.list .nil p) .nil)) p1 p2) (.cons y .nil) p3 p4) p5) ss) L U Q:=by let h0:=O.get j e;show dO<|cb<|cb<|hx _ #[GR h0 (.inr rfl),au<|h _<|aj<|bT λc l=>?_];let g:=O.new l (.list []);let h1:=g.get (j+1) e;let b:=g.set (j+1) e (.dict (dK f V.ref d++[(f k,V.ref c)]) (ep+1));show HG h1 (gj E d k) (by unfold dK;rw[List.length_map];show cY s) (by erw[tj E];unfold br at hn;rw[hn];rfl) #[cg (b.get 0 rfl),aj<|hy b.ext _<|dF (b.get 0 rfl) (Nat.lt_of_lt_of_le Nat.zero_lt_one (dR rfl))<|fc<|q' c (ep+1) _ ?_];let:=b.set 0 rfl (.list ([]++[v]));unfold dK at *;rw[Rd];show this
end
noncomputable def NH(e:Nat×(Nat×Nat)):V:=.tup [.int e.1,kV e.2.1 e.2.2]
structure gN(g:Gm)(d:TP)(xs:TN)(al:List (Nat×(Nat×Nat))):Prop where
 nd:(al.map (·.1)).Nodup
 snd:∀{s y m},(s,(y,m))∈al->∃i dd l r,aX g i dd∈xs/\g.rules[i]?=some (l,r)/\r[dd]?=some s/\y=aX g i (dd+1)/\br d (aX g i dd)=some m
 has:∀{i dd l r s},aX g i dd∈xs->g.rules[i]?=some (l,r)->r[dd]?=some s->∃p,(s,p)∈al
def NJ(g:Gm)(d:TP):Prop:=∀{i dd l r i' a l' r' s},aX g i dd∈bK d->aX g i' a∈bK d->g.rules[i]?=some (l,r)->g.rules[i']?=some (l',r')->r[dd]?=some s->r'[a]?=some s->aX g i dd=aX g i' a
theorem gN.zero:gN g d [] []:=#[.nil,λh=>(n0 h),λh=>(n0 h)]
theorem gN.skip{l:Nat}(h:gN g d xs al)(hr:g.rules[i]?=some (l,r))(hd:dd<=r.length)(k:r[dd]?=none):gN g d (xs++[aX g i dd]) al:=#[h.nd,λe=>by
 show N3 (h.snd e) λi' b l' r' h1 a=>#[i',b,l',r',RE _ h1,a],λ{i' b l' r' s} e h1 a=>by
 rcases Ra.mp e with e|e
 .show h.has e h1 a
 show ao (bc h1 (Rf (ai a)) hr hd (Q6.mp e)) ?_;clear e hd;clear e;ext rfl rfl;rw[hr]at h1;replace h1:=Is h1;cases h1;rw[k]at a;show nS a]
theorem gN.add{l s m:Nat}(h:gN g d xs al)(hr:g.rules[i]?=some (l,r))(f:r[dd]?=some s)(j:br d (aX g i dd)=some m)(ns:∀e∈al,e.1≠s):gN g d (xs++[aX g i dd]) (al++[(s,(aX g i (dd+1),m))]):=by
 show#[?_,λ{s' y m'} e=>?_,λ{i' n l' r' s'} e h1 c=>?_]
 .rw[Rd];show R3.mpr #[h.nd,RJ ..,λa p b o=>by
   show aq (Re.mp p) ?_;ext x hx rfl;rw[Q6.mp o];show ns x hx]
 .rcases Ra.mp e with e|e
  .show N3 (h.snd e) λi' n l' r' h1 c=>#[i',n,l',r',RE _ h1,c]
  cases Q6.mp e;show#[i,dd,l,r,Rk _ (.head _),hr,f,rfl,j]
 rcases Ra.mp e with e|e
 .show(h.has e h1 c).imp λ_ k=>RE _ k
 show ao (bc h1 (Rf (ai c)) hr (Rf (ai f)) (Q6.mp e)) ?_;clear e j;clear e;ext rfl rfl;rw[hr]at h1;replace h1:=Is h1;cases h1;rw[f]at c;replace c:=Is c;cases c;show#[_,Rk _ (.head _)]
theorem gN.new{l s:Nat}(h:gN g d xs al)(σ:NJ g d)(hx:∀x∈xs,x∈bK d)(c:aX g i dd∈bK d)(hr:g.rules[i]?=some (l,r))(b:r[dd]?=some s)(a:aX g i dd∉xs):∀e∈al,e.1≠s:=λe he q=>by
 obtain⟨s',y,m⟩:=e;show gX (h.snd he) λi' j l' r' h1 f h3 _=>?_;subst q;show a (σ c (hx _ h1) hr f b h3▸h1)
theorem gN.len(W:WF g)(h:gN g d xs al):al.length<=NN g:=by
 let:=h.nd.length_le_of_subset λx hx=>by
  show aq (Re.mp hx) ?_;ext e he rfl;show gX (h.snd he) λi dd l r _ a h3 _=>?_;show SY.mpr (W.Xm a (Q4 h3))
 rw[Lt,RN]at this;show this
theorem gN.perm(h:gN g d xs al)(b:(al'.map (·.1)).Perm (al.map (·.1)))(c:∀e∈al',e∈al):gN g d xs al':=#[b.nodup_iff.mpr h.nd,λe=>h.snd (c _ e),λe h1 f=>by
 show az (h.has e h1 f) λp i=>?_;show aq (Re.mp (b.mem_iff.mpr (Rn i))) λa j k=>#[a.2,by rw[show(_,a.2)=a from Prod.ext k.symm rfl];show j]]
noncomputable abbrev Fd:=List (Nat×Nat×(Nat×Nat))
noncomputable def C9(fd:Fd):List (Nat×Nat):=fd.map λe=>(e.1,e.2.1)
noncomputable def Ii(fd:Fd):List (Nat×(Nat×Nat)):=fd.map λe=>(e.1,e.2.2)
noncomputable def Qr(e:Nat×Nat×(Nat×Nat)):Nat×O:=(e.2.1,.list [.tup [.int e.2.2.1,.int e.2.2.2]])
noncomputable def Pb(F ep:Nat)(fd:Fd):List (Nat×O):=[(F,.dict (dK kI .ref (C9 fd)) ep)]++fd.map Qr
noncomputable def QU(h:Gh)(it F:Nat)(x3 x4 x5:TO):aQ:=[some (.ref h.a),some (.ref it),some (.ref F),x3,x4,x5,none]
theorem yR{Q:QV}{w:V}(h:b9 U v=some [w])(q:∀c,U c=none->Q (.ref c) (bq U c (.list [w]))):prim U Q .sorted [v]:=by show gO h #[Rc (Sq 1) (dR rfl),.inr #[.inl (Sq 1),λc m b a=>by rw[List.perm_singleton.mp a];show q c b]]
theorem oa(fd:Fd):(C9 fd).map (·.1)=(Ii fd).map (·.1):=by unfold C9 Ii;rw[List.map_map,List.map_map];rfl
theorem rV(fd:Fd):(Ii fd).length=fd.length:=Lt _
theorem kG(fd:Fd):(C9 fd).length=fd.length:=Lt _
section
variable{h:Gh}(G:bh U g h)(Z:Sz g h)(W:WF g)
include G Z W
theorem xT{Q:QV}{it:Nat}(zd:d.length<=1000)(hd:U it=some (.dict (dK kI kI d) ZB))(nd:(d.map (·.1)).Nodup)(L:Ly g d)(σ:NJ g d)
  (q:∀c al UX,gN g d (bK d) al->aA U UX [(c,.list (al.map NH))]->Q (.ref c) UX):CC (n+2) 339 [.ref h.a,.ref it] U Q:=by
 let D:NN g<=60:=Z.syms;change an tab (CC (n+1)) j4 [some (.ref h.a),some (.ref it),none,none,none,none,none] U (aW Q);show l4 (.nil U) λF ep UY I=>aR<|aK<|ah rfl<|AK (I.ext _ _ hd)<|c7 (a4:=[]) (λ_ x3 x4 x5 _ _=>QU h it F x3 x4 x5) (λk _ _ _ ep fd UX=>aA U UX (Pb F ep fd)/\gN g d ((bK d).take k) (Ii fd)) #[I,.zero] (λj=>j.1.ext _ _ hd) (λ{x3 x4 x5 ep fd U3} j=>?_) λ{k x x3 x4 x5 ep fd U3 K} hx j go _=>el hx λ{y} hy=>?_
 .rw[aS,RI]at j;let O:=j.1;let A:=j.2;let lf:fd.length<64:=by rw[<- rV];show Q5 (A.len W) (Q5 D (dR rfl))
  show bB<|bp<|aK<|aP<|ag rfl _<|iG ((jN (O.get 0 rfl)).trans (Rs some (by erw[oj];unfold ay;erw[List.map_map];rfl))) (by rw[List.length_map,kG];show lf) λS ss hS u _=>?_;let t:=O.new hS (.list (ay ss));show aI t.hd<|i8 (λk l UX=>aA U UX ((S,.list (ay ss))::Pb F ep fd)/\l.map (·.1)=ss.take k/\∀e∈l,e∈Ii fd) ?_ #[t,rfl,λ_ h=>n0 h] (λi=>i.1.hd) (λ{l P} i c v=>q c l _ ?_ (((i.1.new v _).sub (.cons_cons _ (Se _))))) λ{k' x l P R} hx i N _=>?_
  .rw[aS,u.length_eq,Lt,kG];show Gt (Rf lf) (dR rfl)
  .rw[aS,RI]at i;show A.perm (by rw[i.2.1,<- oa];show u) i.2.2
  show aq (bC hx) ?_;clear hx;ext s b rfl;let C:=i.1;show aq (Re.mp (u.mem_iff.mp (Q4 b))) λe he es=>?_;show aq (Re.mp he) λf B m=>?_;let h1:br (C9 fd) s=some f.2.1:=c0 (by rw[oa];show A.nd) (by rw[<- es,<- m];show Rn B);let M:=C.at_ (Qr f) (.tail _ (.tail _ (Rn B)));let w:f.1=s:=by rw[<- es,<- m]
  show#[λ_=>cS<|au<|ah rfl<|aj<|aP<|aP<|bH qt (ag rfl) (ag rfl) (C.get 1 rfl) h1 _<|yR (gK M) λc v=>l6 (aB ..) bk #[aT,N (y:=(s,f.2.2)) #[(C.new v _).tl,?_,λx hx=>?_]],nt]
  .rw[Rd,i.2.1,ax b];rfl
  rcases Ra.mp hx with hx|hx
  .show i.2.2 x hx
  rw[Q6.mp hx,<- w];show Rn B
 let O:=j.1;let A:=j.2;show EE (L (Q4 hy)) ?_;ext i o l r rfl hr p;show aq (Re.mp (Q4 hy)) λf he m=>?_;let H:br d (aX g i o)=some f.2:=c0 nd (m▸he);show aZ (j8 G Z O.ext hr p (ag rfl) (ag rfl)) ?_;cases b:r[o]? with
 |none=>
  rw[iy b];show cC (pc (ag rfl) am) nf λ_=>bE<|go #[O,by rw[ax hy];show A.skip hr p b]
 |some s=>
  rw[fE b];let ns:=A.new σ (λx hx=>TK hx) (Q4 hy) hr b λJ=>by
   show az (RL.mp J) λk' z=>?_;let lt:=ai z;rw[R7]at lt;rw[Tn,RO (Rc lt (SL ..))]at z;show absurd (cF nd z hy) (RY (Rc lt (SL ..)))
  show eM (pc (ag rfl) am) (λ_=>?_) λc=>absurd (Ry s) c;show aZ (j7 G Z O.ext (ai hr) (ag rfl) (gU G Z O.ext hr p (ag rfl) (ag rfl)) (ly (vg G Z O.ext hr p (ag rfl) (ag rfl)) am))<|Az qt (ag rfl) (ag rfl) O 0 rfl (by rw[kG,<- rV];show Q5 (A.len W) (Q5 D (dR rfl))) (N7.mpr λe he=>?_) (λE=>bW (be (ag rfl) (bz (bH qt (ag rfl) (ag rfl) (E _ _ hd) H))) aT) λc VE T t=>bE<|go (b3:=VE) (b4:=fd++[(s,c,(aX g i (o+1),f.2))]) #[?_,?_]
  .show aq (Re.mp he) ?_;ext x hx rfl;show ns _ (Rn hx)
  .let:=t.toEnd (fx:=[_]) (y:=(s,c,(aX g i (o+1),f.2))) rfl;unfold Pb C9 at *;rw[Rd];show this
  rw[ax hy];unfold Ii at *;rw[Rd];show A.add hr b H ns
end
variable{b d' i' l':Nat}{k':Nat×Nat×Nat}{nd:TQ}
def ZI(g:Gm)(i0 d0:Nat)(r0:TN)(x:Nat):Prop:=x=aX g i0 d0\/∃j Y r X,x=aX g j 0/\g.rules[j]?=some (Y,r)/\KI g d0 r0 X Y
def PS(g:Gm)(xs:TN):Prop:=∀{i dd l r i' a l' r' s},aX g i dd∈xs->aX g i' a∈xs->g.rules[i]?=some (l,r)->g.rules[i']?=some (l',r')->r[dd]?=some s->r'[a]?=some s->aX g i dd=aX g i' a
theorem LY(W:WF g)(H:mZ g){xs:TN}(V4:g.rules[i0]?=some (l0,r0))(dot:d0<=r0.length)(hz:∀x∈xs,ZI g i0 d0 r0 x):PS g xs:=λ{i dd l r i' z l' r' s} hx p hr b d f=>by
 let mix:∀{j Y:Nat}{r':TN}{X:Nat},r0[d0]?=some s->g.rules[j]?=some (Y,r')->KI g d0 r0 X Y->r'[0]?=some s->False:=λ{j Y r' X} h1 a h3 u=>by
  let e:X=s:=Is (h3.1.symm.trans h1);let n:r'=X::r'.drop 1:=by rw[e];show(bR u)
  rw[n]at a;show kE W H h3.2.2 a h3.2.1
 let e1:=Rf (ai d);let e2:=Rf (ai f);rcases hz _ hx with k|⟨j,Y,r1,X,k,a,h3⟩<;>rcases hz _ p with k'|⟨w,y,q,X',k',c,o⟩
 .show k.trans k'.symm
 .show ao (bc hr e1 V4 dot k) ?_;clear k e1 p hz dot;ext rfl rfl;show ao (bc b e2 c (Rx _) k') ?_;clear k' e2;ext rfl rfl;rw[V4]at hr;replace hr:=Is hr;cases hr;rw[c]at b;cases b;show(mix d c o f).elim
 .show ao (bc b e2 V4 dot k') ?_;clear k' e2 hx hz dot;ext rfl rfl;show ao (bc hr e1 a (Rx _) k) ?_;clear k e1;ext rfl rfl;rw[V4]at b;cases b;rw[a]at hr;replace hr:=Is hr;cases hr;show(mix f a h3 d).elim
 show ao (bc hr e1 a (Rx _) k) ?_;clear k e1 p hx;ext rfl rfl;show ao (bc b e2 c (Rx _) k') ?_;clear k' e2;ext rfl rfl;let t:=(W.Vh (aF hr) (Q4 d)).elim (λh=>#[s,.self s h]) W.sign;rw[a]at hr;cases (hr);rw[c]at b;cases (b);let v:X=X':=Is (h3.1.symm.trans o.1);let n:r=s::r.drop 1:=bR d;let m:r'=s::r'.drop 1:=bR f;rw[n]at a;rw[m]at c;rw[uH W H t (v▸h3.2.2) o.2.2 a c]
section
variable(W:WF g)(H:mZ g)(kr:Kr g i0 d0 m0 l0 r0)(C:o8 g i0 d0 m0 r0 d)
include C
theorem o8.at_{x:Nat}(h:x∈bK d):∃m,br d x=some m:=by show aq (Re.mp h) ?_;ext e he rfl;show#[e.2,c0 C.nd he]
include kr
theorem o8.W7:Ly g d:=λ{x} h=>by
 show az (C.at_ h) λm b=>?_;rcases C.snd b with a|a
 .show ao a λk _=>#[i0,d0,l0,r0,k,kr.V4,kr.dot]
 show EE a λj Y r X k c _=>#[j,0,Y,r,k,c,Rx _]
include W H
theorem o8.uni:NJ g d:=LY W H kr.V4 kr.dot λx hx=>by
 show az (C.at_ hx) λm b=>(C.snd b).imp (·.1) (by ext a;show gX a λj Y r X k c h3 _=>#[j,Y,r,X,k,c,h3])
omit W H in
theorem o8.next{l m s:Nat}(hr:g.rules[i]?=some (l,r))(c:r[dd]?=some s)(e:br d (aX g i dd)=some m):Kr g i (dd+1) m l r:=by
 show#[hr,ai c,λh=>(by cases h),λt ht=>?_];let e1:=Rf (ai c);clear c;rcases C.snd e with a|a
 .show ao a ?_;clear a;ext k rfl;show ao (bc hr e1 kr.V4 kr.dot k) ?_;clear C k e1;ext rfl rfl;let:=kr.V4;rw[hr]at this;clear hr;replace this:=Is this;cases this;show kr.XO t ht
 show gX a λj Y r1 X k b h3 f=>?_;clear a;show ao (bc hr e1 b (Rx _) k) ?_;clear k e1 e;ext rfl rfl;rw[hr]at b;replace b:=Is b;cases b;let n:r0=r0.take d0++X::r0.drop (d0+1):=by rw[<- bR h3.1,S7]
 let m0:=aF kr.V4;rw[n]at m0;show((f t).mp ht).XO λt h=>h.elim (.inner _ _ _ _ t m0) λh=>.last _ _ _ _ t m0 h.1 (kr.XO t h.2)
end
theorem QL:lT .tt (λp:Nat×Nat=>kV p.1 p.2):=#[λa=>#[[[a.1,a.2]],rfl],λ{a b} h=>by
 injection h with h;injection h with h _;show CG.inj h]
noncomputable def kK(p:Nat×Nat):V:=kV p.1 p.2
theorem Nl:lT .tt kK:=QL
noncomputable abbrev Ks:=List (Nat×Nat×Nat)
def C1(g:Gm)(ks:Ks):Prop:=ks.Nodup/\∀k∈ks,∃l r,Kr g k.1 k.2.1 k.2.2 l r
noncomputable def jo(g:Gm)(k:Nat×Nat×Nat):Nat×Nat:=(aX g k.1 k.2.1,k.2.2)
theorem sP{k:Nat×Nat×Nat}{l:Nat}(h:Kr g k.1 k.2.1 k.2.2 l r)(h':Kr g k'.1 k'.2.1 k'.2.2 l' r')(e:jo g k=jo g k'):k=k':=by show ao (SZ e) λe1 e2=>?_;show ao (bc h.V4 h.dot h'.V4 h'.dot e1) λa b=>?_;show Prod.ext a (Prod.ext b e2)
structure CZ(g:Gm)(ks:Ks)(nd:TQ):Prop where
 io:∀p s,br nd p=some s↔∃k,ks[s]?=some k/\p=jo g k
 len:nd.length=ks.length
theorem CZ.new{ks:Ks}(h:CZ g ks nd)(ok:C1 g ks){k:Nat×Nat×Nat}{l:Nat}(m:Kr g k.1 k.2.1 k.2.2 l r)(e:br nd (jo g k)=none):CZ g (ks++[k]) (dQ nd (jo g k) ks.length)/\C1 g (ks++[k]):=by
 let j:k∉ks:=λv=>by
  show az (RL.mp v) λs d=>?_;rw[(h.io _ s).mpr #[k,d,rfl]]at e;show nS e.symm
 show#[#[λp s=>?_,by erw[kA e,Q9,Q9,h.len];rfl],R3.mpr #[ok.1,RJ ..,λa w b n c=>j (by rw[Q6]at n;rw[<- n,<- c];show w)],λk' i=>(Ra.mp i).elim (ok.2 k') λh=>by rw[Q6.mp h];show#[l,r,m]];rw[cD];by_cases c:p=jo g k
 .subst c;rw[RO rfl];constructor
  .ext q;show yS q ?_;ext u;cases u;show#[k,by rw[Ro (Rm _),SP];rfl,rfl]
  ext t;show aq t λk' d q=>?_;by_cases f:s<ks.length
  .rw[Ru f]at d;show uJ (ok.2 k' (Q4 d)) λl' r' i=>?_;show absurd (sP m i q▸Q4 d) j
  let lt:=ai d;rw[Q9,RG]at lt;show Rs some (SM (R6 f) (R4 lt))
 erw[RX c,h.io];show exists_congr λk'=>and_congr_left λq=>?_;by_cases f:s<ks.length
 .rw[Ru f]
 rw[SG (R6 f),Ro (R6 f)];show#[λx=>(nS x),λx=>absurd ?_ c];cases o:s - ks.length with
 |zero=>rw[o]at x;cases x;show q
 |succ _=>rw[o]at x;cases x
theorem HS{d:Nat}(f:b<n)(hd:d<n)(e:a*n+b=c*n+d):a=c/\b=d:=by
 let q a {b:Nat} (h:b<n):(a*n+b) / n=a:=by erw[Nat.mul_comm,Nat.mul_add_div (Nat.zero_lt_of_lt h),Nat.div_eq_of_lt h,Nat.add_zero]
 let h:a=c:=by rw[<- q a f,e,q c hd]
 subst h;show#[rfl,Uk e]
theorem wz{d:Nat}(e:i*3+d=i'*3+d')(h:d<=3)(k':d'=0->i'=0)(l:i<i'):False:=by let a:=Nat.succ_mul i 3▸Uz 3 l;let b:=Nat.le_zero.mp (Nat.le_of_add_le_add_left (by rw[<- e];show Gt (Rb h _) a));rw[k' b]at l;show SV _ l
theorem BD{d:Nat}(e:i*3+d=i'*3+d')(h:d<=3)(h':d'<=3)(k:d=0->i=0)(k':d'=0->i'=0):i=i'/\d=d':=by
 rcases Nat.lt_trichotomy i i' with l|l|l
 .show(wz e h k' l).elim
 .subst l;show#[rfl,Uk e]
 show(wz e.symm h' k l).elim
theorem sO{ks:Ks}(S:Sm g)(h3:∀{i l:Nat}{r:TN},g.rules[i]?=some (l,r)->r.length<=3)(ok:C1 g ks):ks.length<=1984:=by
 let f:∀{k:Nat×Nat×Nat}{l r},Kr g k.1 k.2.1 k.2.2 l r->k.1*3+k.2.1<=30/\k.2.2<64/\k.2.1<=3:=λ{k l r} h=>by
  let a:=h3 h.V4;let b:=ai h.V4;let c:=h.dot;let e:=S.rl;show#[Gt (Rb (Gt c a) _) (Gt (RW (Nat.succ_mul _ 3).symm) (Uz 3 (Gt b e))),Rc (jM λt ht=>(h.XO t ht).lt) (TJ (dR rfl) S.tc),Gt c a]
 let nd:(ks.map λk=>(k.1*3+k.2.1)*64+k.2.2).Nodup:=UR.mpr (ok.1.imp_of_mem λ{k k'} d m n e=>n (by
  show uJ (ok.2 k d) λl r h=>?_;show uJ (ok.2 k' m) λl' r' h'=>?_;let a:=f h;let b:=f h';let c:=h.fst;let j:=h'.fst;let q:=HS a.2.1 b.2.1 e;let:=BD q.1 a.2.2 b.2.2 c j;show Prod.ext this.1 (Prod.ext this.2 q.2)))
 let:=nd.length_le_of_subset (l₂:=List.range 1984) λx hx=>by
  show aq (Re.mp hx) ?_;clear hx;ext k d rfl;show uJ (ok.2 k d) λl r h=>?_;let a:=f h;show SY.mpr (Q5 (Rv (Uz 64 a.1) _) (S6 a.2.1 (30*64)))
 rw[Lt,RN]at this;show this
variable{at_:Nat}{as:TN}{ks:Ks}{VA:TP}{UX:aw}
set_option genInjectivity false in
set_option genSizeOf false in
structure PR where
 a:Nat
 dd:Nat
 mv:Nat
 k:Nat
 x:Nat
 m:Nat
 it:Nat
 rd:Nat
 ms:Nat
 ep:Nat
 sym:V
set_option genInjectivity false in
set_option genSizeOf false in
structure SD where
 k:Nat×Nat×Nat
 l:Nat
 r:List Nat
 dm:List (Nat×Nat)
 al:List (Nat×(Nat×Nat))
 VA:List (Nat×Nat)
 Vg:List (Nat×Nat)
 Xn:List Nat
noncomputable def Km(p:PR)(it rd ms:Nat):List (Nat×V):=Nz p.k (kV p.x p.m) (.tup [.int p.x]) p.sym it p.mv rd ms
noncomputable def I5(p:PR):List (Nat×O):=[(p.mv,.dict [] p.ep),(p.a,.inst 281 p.dd),(p.dd,.attrs (Km p p.it p.rd p.ms))]
structure IK(g:Gm)(al:List (Nat×(Nat×Nat)))(ks:Ks)(VA:TP):Prop where
 to:∀{Z s},br VA Z=some s->∃y m k,(Z,(y,m))∈al/\ks[s]?=some k/\jo g k=(y,m)
 has:∀{Z p},(Z,p)∈al->∃s,br VA Z=some s
structure fG(U:aw)(g:Gm)(ks:Ks)(s a:Nat)(sd:SD):Prop where
 kg:ks[s]?=some sd.k
 kr:Kr g sd.k.1 sd.k.2.1 sd.k.2.2 sd.l sd.r
 YK:o8 g sd.k.1 sd.k.2.1 sd.k.2.2 sd.r sd.dm
 adv:gN g sd.dm (bK sd.dm) sd.al
 mv:IK g sd.al ks sd.VA
 X9:C0 g sd.dm (bK sd.dm) sd.Vg
 rp:sd.Xn.Perm (bK sd.Vg)
 cell:∃(p:PR)(it ms rd We Xs:Nat),p.k=s/\cx U a 281 (Km p it rd ms)/\U p.mv=some (.dict (dK kI kI sd.VA) We)/\U ms=some (.dict (dK kI kI sd.Vg) Xs)/\U rd=some (.list (ay sd.Xn))
theorem IK.grow(h:IK g al ks VA)(k:Nat×Nat×Nat):IK g al (ks++[k]) VA:=#[λe=>by
 show kD (h.to e) λy m k' h1 a h3=>#[y,m,k',h1,by rw[Ru (ai a)];show a,h3],h.has]
theorem fG.grow{s:Nat}{sd:SD}(h:fG U g ks s a sd)(k:Nat×Nat×Nat):fG U g (ks++[k]) s a sd:=#[by rw[Ru (ai h.kg)];show h.kg,h.kr,h.YK,h.adv,h.mv.grow k,h.X9,h.rp,h.cell]
theorem fG.ext{s:Nat}{sd:SD}(h:fG U g ks s a sd)(E:bF U UX):fG UX g ks s a sd:=#[h.kg,h.kr,h.YK,h.adv,h.mv,h.X9,h.rp,by
 show C6 h.cell λp it ms rd We d=>?_;show N4 d λXs e h1 c h3 b=>#[p,it,ms,rd,We,Xs,e,h1.ext E,E _ _ c,E _ _ h3,E _ _ b]]
structure BI(g:Gm)(U:aw)(at_:Nat)(as:TN)(ks:Ks)(nd:TQ)(pend:List PR):Prop where
 len:as.length=ks.length
 num:CZ g ks nd
 ok:C1 g ks
 pl:at_+pend.length=ks.length
 pd:∀{j p},pend[j]?=some p->as[at_+j]?=some p.a/\p.k=at_+j/\∃k,ks[at_+j]?=some k/\jo g k=(p.x,p.m)
 dn:∀{s},s<at_->∃a sd,as[s]?=some a/\fG U g ks s a sd
 z0:ks[0]?=some (0,0,0)
theorem BI.ext{pend:List PR}(h:BI g U at_ as ks nd pend)(E:bF U UX):BI g UX at_ as ks nd pend:=#[h.len,h.num,h.ok,h.pl,h.pd,(λb=>by
 show ck (h.dn b) λa sd h1 c=>#[a,sd,h1,c.ext E]),h.z0]
structure BW(g:Gm)(U:aw)(at_:Nat)(as:TN)(ks:Ks)(nd:TQ)(pend:List PR):Prop where
 len:as.length=ks.length
 num:CZ g ks nd
 ok:C1 g ks
 pl:at_+1+pend.length=ks.length
 pd:∀{j p},pend[j]?=some p->as[at_+1+j]?=some p.a/\p.k=at_+1+j/\∃k,ks[at_+1+j]?=some k/\jo g k=(p.x,p.m)
 dn:∀{s},s<at_->∃a sd,as[s]?=some a/\fG U g ks s a sd
 z0:ks[0]?=some (0,0,0)
theorem BI.work{p:PR}{pend:List PR}(h:BI g U at_ as ks nd (p::pend)):BW g U at_ as ks nd pend:=#[h.len,h.num,h.ok,(by let:=h.pl;rw[Rq]at this;lia),(λ{j q} e=>by
 let:=h.pd (j:=j+1) e;rw[SI,Sc 1 j];show this),h.dn,h.z0]
theorem BW.new{pend:List PR}{k:Nat×Nat×Nat}{l:Nat}(h:BW g U at_ as ks nd pend)(i:Kr g k.1 k.2.1 k.2.2 l r)(e:br nd (jo g k)=none){p:PR}(e1:p.k=ks.length)(e2:jo g k=(p.x,p.m)):BW g U at_ (as++[p.a]) (ks++[k]) (dQ nd (jo g k) ks.length) (pend++[p]):=by
 show ao (h.num.new h.ok i e) λn1 n2=>#[by rw[Q9,Q9,h.len];rfl,n1,n2,by rw[Q9,Q9,<- h.pl];rfl,λ{j q} d=>?_,λf=>?_,by rw[Ru (ai h.z0)];show h.z0]
 .by_cases c:j<pend.length
  .rw[Ru c]at d;show bP (h.pd d) λa b s=>aq s λk' d1 d2=>#[by rw[Ru (ai a)];show a,b,k',by rw[Ru (ai d1)];show d1,d2]
  let lt:=ai d;rw[Q9,RG]at lt;let o:=SM (R4 lt) (R6 c);clear lt c;subst o;rw[Ro (Rm _),SP]at d;cases d;rw[h.pl];show#[by rw[<- h.len,Ro (Rm _),SP];rfl,e1,k,by rw[Ro (Rm _),SP];rfl,e2]
 show ck (h.dn f) λa sd h1 n=>#[a,sd,by rw[Ru (ai h1)];show h1,n.grow k]
theorem BW.done{pend:List PR}{sd:SD}(h:BW g U at_ as ks nd pend)(E:bF U UX)(f:as[at_]?=some a)(c:fG UX g ks at_ a sd):BI g UX (at_+1) as ks nd pend:=#[h.len,h.num,h.ok,h.pl,h.pd,(λ{s} d=>by
 by_cases e:s=at_
 .clear d h;subst e;show#[a,sd,f,c]
 show ck (h.dn (Sj (R4 d) e)) λj b h1 i=>#[j,b,h1,i.ext E]),h.z0]
end
section
variable{Al N Z at_ epn We j k n rd:Nat}{L:aQ}{al:List (Nat×(Nat×Nat))}{as:TN}{dm VA:TP}{g:Gm}{k0:Nat×Nat×Nat}{ks:Ks}{nd:TQ}{Vd x8 x9:TO}{α:Type}{U UY:aw}
theorem Ip{f:α->V}{l:List α}{x:V}(hx:(l.map f)[k]?=some x){C:CT}{t:Tx}{b:Ss}{K:QF}(q:∀{y},l[k]?=some y->tg C t b (f y) L U K):tg C t b x L U K:=by show aq (bC hx) ?_;clear hx;ext y e rfl;show q e
set_option tactic.hygienic true in
theorem IK.put{xs:List (Nat×(Nat×Nat))}{s:Nat}{k:Nat×Nat×Nat}(h:IK g xs ks VA)(a:ks[s]?=some k):IK g (xs++[(Z,jo g k)]) ks (dQ VA Z s):=by
 show#[λ{d s'} e=>?_,λ{d p} e=>?_]
 .rw[cD]at e;split at e
  .rename_i c;replace e:=Is e;cases e
   show#[_,_,k,Rk _ (by rw[c];show .head _),a,rfl]
  show uI (h.to e) λy m k' h1 b=>#[y,m,k',RE _ h1,b]
 rw[cD];split
 .show#[_,rfl]
 rename_i c
 show(Ra.mp e).elim h.has λe=>absurd (Rs Prod.fst (Q6.mp e)) c
noncomputable def Ll(h:Gh)(N F Vc Nm at_:Nat)(x7 x8 x9 Vd:TO):aQ:=[some (.ref h.a),some (.int 2000),some (.ref N),some (.ref F),some (.ref Vc),some (.ref Nm),some (.int at_),x7,x8,x9,Vd,none,none,none,none,none,none,none,none,none,none]
noncomputable def PF(Al mv Nm Vc We epn:Nat)(al:List (Nat×(Nat×Nat)))(VA:TP)(nd:TQ)(as:TN)(pend:List PR):List (Nat×O):=(Al,.list (al.map NH))::(mv,.dict (dK kI kI VA) We)::(Nm,.dict (dK kK kI nd) epn)::(Vc,.list (as.map .ref))::pend.flatMap I5
theorem Id(pend:List PR)(p:PR):(pend++[p]).flatMap I5=pend.flatMap I5++I5 p:=by rw[UF];show Rs _ (RD _)
structure JB(g:Gm)(U:aw)(k0:Nat×Nat×Nat)(Al mv Nm Vc at_ a:Nat)(al:List (Nat×(Nat×Nat)))(k We epn:Nat)(VA:TP)(nd:TQ)(as:TN)(ks:Ks)(pend:List PR)(UX:aw):Prop where
 own:aA U UX (PF Al mv Nm Vc We epn al VA nd as pend)
 bw:BW g U at_ as ks nd pend
 mi:IK g (al.take k) ks VA
 ml:VA.length<=k
 aa:as[at_]?=some a
 ak:ks[at_]?=some k0
section
variable{h:Gh}{F Vc Nm:Nat}{p:PR}{it ms:Nat}(S:Sm g)(h3:∀{i l:Nat}{r:TN},g.rules[i]?=some (l,r)->r.length<=3)(hi:cx U p.a 281 (Km p it rd ms))(ka:∀{e},e∈al->∃(k:Nat×Nat×Nat)(l:Nat)(r:TN),Kr g k.1 k.2.1 k.2.2 l r/\e.2=jo g k)(za:al.length<=1000)
include S h3 hi ka za
theorem PK{x8 x9 Vd:TO}{y:Nat×(Nat×Nat)}{pend:List PR}{Q:QF}(hy:al[j]?=some y)(J:JB g U k0 Al p.mv Nm Vc at_ p.a al j We epn VA nd as ks pend UY)
  (q:∀x8 x9 Vd We epn VA nd as ks pend UX,JB g U k0 Al p.mv Nm Vc at_ p.a al (j+1) We epn VA nd as ks pend UX->Q .next (Ll h N F Vc Nm at_ (some (.ref p.a)) x8 x9 Vd) UX):
  an tab (CC (n+1)) eC (Ll h N F Vc Nm at_ (some (.ref p.a)) (some (.int y.1)) (some (kV y.2.1 y.2.2)) Vd) UY Q:=by
 show uI (ka (Q4 hy)) λk l r m b=>?_;let O:=J.own;let t:=Rf (Rc (ai hy) za);let tl {s epn:Nat} {nd:TQ} {as:TN} {ks:Ks} {pend:List PR} {UY:aw} (O:aA U UY (PF Al p.mv Nm Vc We epn al VA nd as pend)) bw (mi:IK g (al.take j) ks VA) aa ak hs:an tab (CC (n+1)) eD (Ll h N F Vc Nm at_ (some (.ref p.a)) (some (.int y.1)) (some (kV y.2.1 y.2.2)) (some (.int s))) UY Q:=
  lZ (v:=s) qt (ag rfl) (aE (ag rfl) (hi.ext O.ext) (cA rfl) rfl) (ag rfl) O 1 rfl (Q5 (Gt J.ml t) (dR rfl)) λVE U3 d=>bG<|q _ _ _ VE epn _ nd as ks pend _ #[d,bw,by rw[ax hy,show y=(y.1,jo g k) from Prod.ext rfl b];show mi.put hs,Gt (kB ..) (Rj J.ml),aa,ak]
 let i:=sO S h3 J.bw.ok;let za:=J.bw.len▸i;show aZ (yl (k:=jo g k) Nl (ag rfl) (ag (by rw[<- b];rfl)) uC (O.get 2 rfl)) ?_;cases e:br nd (jo g k)with
 |some s=>
  show eM (iE (ag rfl) am) (λc=>absurd (Ry s) (Int.not_le.mpr c)) λ_=>aU<|tl O J.bw J.mi J.aa J.ak<|aq ((J.bw.num.io _ s).mp e) λk' e1 e2=>?_;show uJ (J.bw.ok.2 k' (Q4 e1)) λl' r' w=>?_;rw[sP m w e2];show e1
 |none=>
  show eM (iE (ag rfl) am) (λ_=>?_) λc=>absurd (dR rfl) c;show aZ (cR (ag rfl) (O.get 3 rfl) (Gt za (dR rfl)))<|eM (pc (ag rfl) (ag rfl)) (λc=>absurd (SU.mp c) (UJ.mpr (Q5 za (dR rfl)))) λ_=>aU<|lZ (g:=kI) (k:=jo g k) Nl (ag rfl) (ag rfl) (ag (by rw[<- b];rfl)) O 2 rfl (by rw[J.bw.num.len];show Q5 i (dR rfl)) λXa U3 d=>dO<|cb<|ah rfl #[cg (d.get 3 rfl),aj<|FO d (ag rfl) (ag rfl) (ag rfl) λa dd mv f u mk' VE z o=>dF (o.get 6 rfl) (by rw[Lt];show Q5 za (dR rfl))<|fc<|aU ?_];let x:=o.set 6 rfl (.list (as.map V.ref++[.ref a]));show let pr:PR:=#[a,dd,mv,as.length,y.2.1,y.2.2,f,u,mk',VE,.int y.1];?_;let bw:=J.bw.new m e (p:=pr) J.bw.len (by rw[<- b]);show tl (epn:=Xa) (x.perm ?_) (J.bw.len▸bw) #[λc=>(J.mi.grow k).to c,J.mi.has] ?_ ?_ ?_
  .unfold PF;rw[Id,Rd];show S8 (l₁:=I5 pr)
  .rw[Ru (ai J.aa)];show J.aa
  .rw[Ru (ai J.ak)];show J.ak
  rw[J.bw.len,Ro (Rm _),SP];rfl
end
end
section
variable{L:aQ}{N at_ ca epn n:Nat}{as fs:TN}{e:E}{g:Gm}{ks:Ks}{nd:TQ}{nl:List Bool}{p:Ps}{pend:List PR}{ss:Ss}{Vd x7 x8 x9:TO}{U UX UY U4:aw}
theorem J8{C:CT}{x:Nm}{i j:Int}{Q:QF}(k:bJ L x.i=some (.int i))(h:Ev C L U e (.int j))(q:an tab C ss (L.set x.i (some (.int (i+j)))) U Q):an tab C (.cons (.aug x e p) ss) L U Q:=Mi (by rw[k];show h _ q)
noncomputable def LN(Nm Vc epn:Nat)(nd:TQ)(as:TN)(pend:List PR):List (Nat×O):=(Nm,.dict (dK kK kI nd) epn)::(Vc,.list (as.map .ref))::pend.flatMap I5
theorem Cb{p:PR}{Nm Vc:Nat}:(LN Nm Vc epn nd as (p::pend)).Perm ((p.a,.inst 281 p.dd)::(p.mv,.dict [] p.ep)::(p.dd,.attrs (Km p p.it p.rd p.ms))::LN Nm Vc epn nd as pend):=by show(SR [(Nm,.dict (dK kK kI nd) epn),(Vc,.list (as.map .ref))] (I5 p) (pend.flatMap I5)).trans<|.swap ..
section
variable{h:Gh}{F Vc Nm:Nat}(G:bh U g h)(Z:Sz g h)(W:WF g)(S:Sm g)(h3:∀{i l:Nat}{r:TN},g.rules[i]?=some (l,r)->r.length<=3)(HL:mZ g)(H:fW g nl)(A:o0 g fs)(hn:U N=some (.list (ef nl)))(hf:U F=some (.list (ay fs)))
include G Z W S h3 HL H A hn hf
theorem PJ{p:PR}{Q:QF}(E:bF U U4)(O:aA U4 UY (LN Nm Vc epn nd as (p::pend)))(B:BI g U4 at_ as ks nd (p::pend))
  (q:∀x7 x8 x9 Vd epn nd as ks pend U4 UX,bF U U4->aA U4 UX (LN Nm Vc epn nd as pend)->BI g U4 (at_+1) as ks nd pend->Q .next (Ll h N F Vc Nm (at_+1) x7 x8 x9 Vd) UX):
  an tab (CC (n+3)) eA (Ll h N F Vc Nm at_ x7 x8 x9 Vd) UY Q:=by
 show bP (B.pd (j:=0) rfl) λL X Vm=>?_;show aq Vm λk f ek=>?_;show uJ (B.ok.2 k (Q4 f)) λl r kr=>?_;let bw:=B.work;show ao ((O.perm Cb).WK) λD b=>?_;let c:=E.trans D;let t:bq U4 p.a (.inst 281 p.dd) p.a=some (.inst 281 p.dd):=aB ..;generalize bq U4 p.a (.inst 281 p.dd)=WV at D b c t;let eV:kV p.x p.m=.tup [.tup [.int (aX g k.1 k.2.1),.int k.2.2]]:=by
  let:=Rs kK ek;show this.symm
 let YR:=sO S h3 B.ok;let v:as.length<=100000:=by rw[B.len];show Gt YR (dR rfl)
 let Ix {UX:aw} (E:bF WV UX) h:cx UX p.a 281 (Km p p.it p.rd p.ms):=#[p.dd,E _ _ t,h];show aZ (aM (ag rfl) (ag rfl) (b.get 3 rfl) v L)<|dO<|dU<|ah rfl<|dy (Ix b.ext (b.get 1 rfl)) #[rfl,rfl] rfl<|au<|ah rfl<|aj<|aG<|au<|ah rfl<|au<|aE (ag rfl) (Ix b.ext (b.get 1 rfl)) (cA rfl) rfl _<|au<|ah rfl<|aj<|ah rfl ?_;rw[eV];show tq (G.ext (c.trans b.ext)) Z W S kr H A ((c.trans b.ext) _ _ hn) ((c.trans b.ext) _ _ hf) λit ZB U3 dm C zd O2=>?_;let O3:=b.app O2;show vm (G.ext c) Z (Q5 S.rl (dR rfl)) zd t C.nd (C.W7 kr) O3 λrd ms Xs Vg Xn Va M V O4=>fc ?_;let w:=X;show bS ((O4.perm (m':=[(rd,.list (ay Xn)),(ms,.dict (dK kI kI Vg) Xs),(it,.dict (dK kI kI dm) ZB),(p.dd,.attrs (Km p it rd ms))]++(p.mv,.dict [] p.ep)::LN Nm Vc epn nd as pend) (.cons _ (.cons _ (.cons _ (.swap ..))))).W9) λP z hd u=>?_;let σ:=c.trans z;let hi:cx P p.a 281 (Km p it rd ms):=#[p.dd,z _ _ t,hd _ (.tail _ (.tail _ (.tail _ (.head _))))];let bw:=(B.ext (D.trans z)).work;show aR<|aK<|aG<|au<|ah rfl<|aj<|aE (ag rfl) (hi.ext u.ext) (cA rfl) rfl _<|xT (G.ext (σ.trans u.ext)) Z W zd (u.ext _ _ (hd _ (.tail _ (.tail _ (.head _))))) C.nd (C.W7 kr) (C.uni W HL kr) λAl al Vr I T=>aI T.hd ?_;let za:al.length<=1000:=Gt (I.len W) (Gt Z.syms (dR rfl));show c7 (a0:=(x8,x9,Vd)) (a1:=(p.ep,epn)) (a2:=([],nd)) (a3:=(as,ks)) (λ_ x _ _ _ _=>Ll h N F Vc Nm at_ (some (.ref p.a)) x.1 x.2.1 x.2.2) (λj _ e d ak pend UX=>JB g P k Al p.mv Nm Vc at_ p.a al j e.1 e.2 d.1 d.2 ak.1 ak.2 pend UX) #[u.app T,bw,#[λh=>(by cases h),λh=>(n0 h)],Rm _,L,f] (λj=>j.own.hd) (λ{x e d ak pend VD} j=>?_) λ{j x _ e d ak pend VD K} hx J go _=>Ip hx λ{y} hy=>cK rfl<|PK (x8:=none) (x9:=none) S h3 hi (λ{e} he=>?_) za hy J λx8 x9 Vd We epn VA nd as ks pend UX J=>go (b0:=(x8,x9,Vd)) (b1:=(We,epn)) (b2:=(VA,nd)) (b3:=(as,ks)) J
 .let mi:=j.mi;rw[Lt,RI]at mi;show ao j.own.tl.WK λo O7=>?_;show J8 rfl am<|bG<|q _ _ _ _ _ _ _ _ _ _ _ (σ.trans o) O7 (j.bw.done o j.aa (sd:=#[k,l,r,dm,al,d.1,Vg,Xn]) #[j.ak,kr,C,I,mi,M,V,p,it,ms,rd,e.1,Xs,w,hi.ext o,aB ..,o _ _ (hd _ (.tail _ (.head _))),o _ _ (hd _ (.head _))])
 obtain⟨s,y,m⟩:=e;show gX (I.snd he) λi dd l' r' h1 h2 h4 R=>?_;show ao R ?_;clear R;ext rfl Y;show#[(i,dd+1,m),l',r',C.next kr h2 h4 Y,rfl]
end
theorem xS{m:Nat}(h:tab.mt 323 m=some none):tZ 323 m:=#[rfl,h]
structure lU(U:aw)(g:Gm)(ca:Nat)(as:TN)(ks:Ks):Prop where
 inst:∃(ga Vc:Nat),cx U ca 323 [(40,.ref ga),(80,.ref Vc)]/\U Vc=some (.list (as.map .ref))
 len:as.length=ks.length
 zero:ks[0]?=some (0,0,0)
 ok:C1 g ks
 num:∃nd,CZ g ks nd
 st:∀{s},s<ks.length->∃a sd,as[s]?=some a/\fG U g ks s a sd
theorem lU.ext(h:lU U g ca as ks)(E:bF U UX):lU UX g ca as ks:=#[h.inst.imp λ_ h=>h.imp λ_ h=>#[h.1.ext E,E _ _ h.2],h.len,h.zero,h.ok,h.num,λa=>(h.st a).imp λ_ h=>h.imp λ_ h=>#[h.1,h.2.ext E]]
section
variable{h:Gh}(G:bh U g h)(Z:Sz g h)(W:WF g)(S:Sm g)(h3:∀{i l:Nat}{r:TN},g.rules[i]?=some (l,r)->r.length<=3)(HL:mZ g)
include G Z W S h3 HL
theorem mB{Q:QV}(q:∀ca as ks UX,bF U UX->lU UX g ca as ks->Q (.ref ca) UX):CC (n+4) 354 [.ref h.a] U Q:=by
 show aq W.zero λS0 h0 _=>?_;change an tab (CC (n+3)) ey [some (.ref h.a),some (.int 2000),none,none,none,none,none,none,none,none,none,none,none,none,none,none,none,none,none,none,none] U (aW Q);show aC<|aG<|aj<|ah rfl<|f8 G Z W λN UY nl H o=>aC<|aG<|aj<|ah rfl<|eW (G.ext o.ext) Z W λF U3 fs A m=>?_;let r:=(o.app m).ext;let hn:=m.ext _ _ o.hd;let hf:=m.hd;show aC<|bL<|aj<|FO (.nil U3) am (r8 (bz (ag rfl)) (qL (G.ext r) Z W)) uC λa dd mv it rd ms ep Y M=>#[bk,λVc hS=>?_];let f:=M.new hS (.list [.ref a]);show let pr:PR:=#[a,dd,mv,0,aX g 0 0,0,it,rd,ms,ep,.int (-1)];?_;show aC<|Iq<|aE (aM (l:=[a]) (ag rfl) am f.hd (Q7 rfl) rfl) #[dd,f.get 2 rfl,f.get 3 rfl] (cA rfl) rfl _<|bi #[#[.tt,Nl.is (aX g 0 0,0)],λNm epn hN=>?_];let L:=f.new hN (.dict (dK kK kI [((aX g 0 0,0),0)]) epn);show aZ am<|sk (a0:=((none,none,none,none):Option V×Option V×Option V×Option V)) (a1:=(0,epn)) (a2:=([((aX g 0 0,0),0)],[a])) (a3:=([(0,0,0)],[pr])) (λx a _ _ _=>Ll h N F Vc Nm a.1 x.1 x.2.1 x.2.2.1 x.2.2.2) (λ_ a _ _ _=>1984 - a.1) (λ_ a d k U4 UX=>bF U3 U4/\aA U4 UX (LN Nm Vc a.2 d.1 d.2 k.2)/\BI g U4 a.1 d.2 k.1 d.1 k.2) #[.refl _,L,#[rfl,#[λp s=>?_,rfl],#[RJ ..,λk b=>?_],rfl,λ{j p} w=>?_,λi=>absurd i (SV _),rfl]] λ{x a d k U4 X K} j go T=>?_
 .constructor
  .ext e;let:=cq e;rw[Q6]at this;clear e;show yP this ?_;clear this;ext C zd;cases C;cases zd;show#[(0,0,0),rfl,rfl]
  ext u;show aq u ?_;clear u;ext k b rfl;induction s with
  |zero=>cases b;show c0 (RJ ..) (.head _)
  |succ s=>cases b
 .rw[Q6.mp b];show#[g.tc,[S0,0],h0,Rx _,λ_=>rfl,λt ht=>by rw[Tp]at ht;show nF ht]
 .induction j with
  |zero=>cases w;show#[rfl,rfl,(0,0,0),rfl,rfl]
  |succ j=>cases w
 let v:=sO S h3 j.2.2.ok;let P:=r.trans j.1;show iE (ag rfl) (cR (ag rfl) (j.2.1.get 1 rfl) (by rw[j.2.2.len];show Gt v (dR rfl))) _ #[λc=>?_,λc=>?_]
 .let lt:=j.2.2.len▸Sd.mp (RH c);obtain⟨σ,D⟩:=k;induction D with
  |nil=>show absurd lt (by rw[<- j.2.2.pl];show Si _)
  |cons p pend=>show PJ (G.ext r) Z W S h3 HL H A hn hf j.1 j.2.1 j.2.2 λx7 x8 x9 Vd epn nd as ks pend U4 UX R O B=>go (b0:=(x7,x8,x9,Vd)) (b1:=(a.1+1,epn)) (b2:=(nd,as)) (b3:=(ks,pend)) #[R,O,B] (Nat.sub_succ_lt_self _ _ (Rc lt v))
 let ge:=j.2.2.len▸R6 λk=>R1 c (Sd.mpr k);show bB<|qu<|au<|ah rfl<|aj<|ah rfl λca I ne h1 E=>?_;let z:=f6 (c:=323) j.2.1 ne h1 E;change an tab (CC (n+2)) cc [some (.ref ca),some (.ref h.a),some (.ref Vc)] _ (aW _);show aN<|ah rfl<|ah rfl<|aL z (z.get 0 rfl) (xS rfl) 1 rfl (Q7 rfl) rfl λVD y=>aN<|ah rfl<|ah rfl<|aL y (y.get 0 rfl) (xS rfl) 1 rfl (Q7 rfl) rfl λJ O8=>bG #[rfl,q ca d.2 k.1 J (P.trans O8.ext) #[#[h.a,Vc,#[I,O8.get 0 rfl,O8.get 1 rfl],O8.get 3 rfl],j.2.2.len,j.2.2.z0,j.2.2.ok,#[_,j.2.2.num],λi=>(j.2.2.dn (Rc i ge)).imp λ_ h=>h.imp λ_ h=>#[h.1,h.2.ext O8.ext]]]
end
variable{F:Nat->SD}{X Y Z d0 i i0 l0 m0:Nat}{r r0:TN}{dm:TP}
theorem Ch.ne(W:WF g)(h:Ch g X Y)(k:X≠g.tc):Y≠g.tc:=by
 induction h with
 |refl=>show k
 |step _ hr _ _=>show λe=>(W.Vh (aF hr) (.head _)).elim (λk=>RY k e) λk=>Sy k.1 e
theorem wM(W:WF g){l d:Nat}(hr:g.rules[i]?=some (l,r))(h:r[d]?=some X):X≠g.tc:=λe=>(W.Vh (aF hr) (Q4 h)).elim (λk=>RY k e) λk=>Sy k.1 e
theorem vI(W:WF g){l:Nat}(hr:g.rules[0]?=some (l,r)):l=g.tc:=by show aq W.zero λS h0 _=>?_;rw[h0]at hr;replace hr:=Is hr;cases hr;rfl
section
variable{A:xZ}{s:Nat}(W:WF g)(kr:Kr g i0 d0 m0 l0 r0)(C:o8 g i0 d0 m0 r0 dm)(e1:A.ki s=i0)(e2:A.kd s=d0)(e3:∀t,A.km s t↔m0.testBit t=true)
include kr e1 e2
theorem rX{b:TN}:GX g A s X b↔r0[d0]?=some X/\b=r0.drop (d0+1):=by
 constructor
 .ext c;show ck c λl a e k=>?_;rw[e1,kr.V4]at e;replace e:=Is e;cases e;rw[<- e2,<- k];show#[by rw[Ro (Rm _),SP];rfl,?_];rw[List.drop_append,List.drop_of_length_le (SS _),SX];rfl
 ext c;show ao c ?_;clear c;ext h rfl;show#[l0,r0.take d0,by rw[e1,kr.V4,<- bR h,S7],by rw[R7,e2,Uc (Rf (ai h))]]
include e3
theorem Gk(b:TN):Bk g A s b=Nx g b m0:=funext λt=>propext (or_congr Iff.rfl (and_congr Iff.rfl (e3 t)))
include W C
theorem EX{x m:Nat}(h:br dm x=some m):∃i d l r,x=aX g i d/\g.rules[i]?=some (l,r)/\d<=r.length/\It g A s i d/\∀t,m.testBit t=true↔By g A s i d t:=by
 rcases C.snd h with a|a
 .show ao a ?_;clear a;ext rfl rfl;show#[i0,d0,l0,r0,rfl,kr.V4,kr.dot,.inl #[e1.symm,e2.symm],λt=>#[λh=>.inl #[e1.symm,e2.symm,(e3 t).mpr h],λh=>?_]];rcases h with a|a
  .show bP a λ_ _ h=>(e3 t).mp h
  show ao a λhz q=>?_;show gX q λX b Y r h1 n h3 e=>?_;let hi:=kr.fst hz;let h1:=(rX kr e1 e2).mp h1;rw[hi]at e;show absurd (vI W e) (h3.ch.ne W (wM W kr.V4 h1.1))
 show gX a ?_;clear a;ext j Y r X rfl f c k;let p:=c.2.2.ne W (wM W kr.V4 c.1);let o:=(rX kr e1 e2).mpr #[c.1,rfl];show#[j,0,Y,r,rfl,f,Rx _,.inr #[rfl,X,_,Y,r,o,c.2.1,c.2.2,f],λt=>(k t).trans #[λh=>.inr #[rfl,X,_,Y,r,o,c.2.1,?_,f],λh=>?_]]
 .erw[Gk kr e1 e2 e3];show h
 rcases h with a|a
 .show bP a λh1 n _=>?_;let:=kr.fst (e2.symm.trans n.symm);rw[h1,e1,this]at f;show absurd (vI W f) p
 show ao a λ_ u=>?_;show gX u λX' b v r' h1 _ h3 e=>?_;show ao ((rX kr e1 e2).mp h1) ?_;ext a1 rfl;rw[f]at e;clear h1;replace e:=Is e;cases e;let:=c.1.symm.trans a1;clear a1;replace this:=Is this;cases this;rw[Gk kr e1 e2 e3]at h3;show h3
omit W e3 in
theorem Jl{d:Nat}(h:It g A s i d):∃m,br dm (aX g i d)=some m:=by
 rcases h with a|a
 .show ao a ?_;clear a;ext rfl rfl;rw[e1,e2];show#[m0,C.YV]
 show ao a ?_;clear a;ext rfl f;show gX f λX b Y r h1 e h3 c=>?_;show C.all #[((rX kr e1 e2).mp h1).1,e,h3] c
end
theorem lU.pick(h:lU U g ca as ks):∃F:Nat->SD,∀s,s<ks.length->∃a,as[s]?=some a/\fG U g ks s a (F s):=by
 show uJ (h.st (ai h.zero)) λa0 b _=>?_;let:∀s,∃sd:SD,s<ks.length->∃a,as[s]?=some a/\fG U g ks s a sd:=λs=>by
  by_cases c:s<ks.length
  .show uJ (h.st c) λa sd h=>#[sd,λ_=>#[a,h]]
  show#[b,λk=>absurd k c]
 show Classical.axiomOfChoice this
noncomputable def hO(n s:Nat):Nat:=if s<n then s else 0
noncomputable def c8(n:Nat)(F:Nat->SD):xZ:=#[λs=>(F (hO n s)).k.1,λs=>(F (hO n s)).k.2.1,λs t=>(F (hO n s)).k.2.2.testBit t=true,λs Z=>br (F (hO n s)).VA Z,λs t i=>∃m,br (F (hO n s)).Vg i=some m/\m.testBit t=true]
theorem PM{d:Nat}:Af g i d Z↔∃l r,g.rules[i]?=some (l,r)/\r[d]?=some Z:=by
 constructor
 .ext c;show uI c ?_;clear c;ext X a b e rfl;show#[X,_,e,by rw[Ro (Rm _),SP];rfl]
 ext c;show ck c λl r e h=>#[l,r.take d,r.drop (d+1),by rw[<- bR h,S7];show e,by rw[R7,Uc (Rf (ai h))]]
theorem IH(W:WF g)(h:lU U g ca as ks)(u:∀s,s<ks.length->∃a,as[s]?=some a/\fG U g ks s a (F s)):u8 g (c8 ks.length F):=by
 let n0:=ai h.zero;let cl:∀s,hO ks.length s<ks.length:=λs=>by
  unfold hO;split
  .assumption
  show n0
 let rep:=λs=>(u _ (cl s)).imp λ_ h=>h.2;let ci:∀{s},s<ks.length->hO ks.length s=s:=λh=>RO h;let k0:(F 0).k=(0,0,0):=by
  show aq (u 0 n0) λa _ r=>?_;show Is (r.kg.symm.trans h.zero)
 show#[?_,?_,λs=>?_,λs Z s' e=>?_,λs i d Z hit q=>?_,λs t i=>?_]
 .change(F (hO ks.length 0)).k.1=0;rw[ci n0,k0]
 .change(F (hO ks.length 0)).k.2.1=0;rw[ci n0,k0]
 .show az (rep s) λa r=>#[_,_,r.kr.V4,r.kr.dot,λt ht=>r.kr.XO t ht]
 .show az (rep s) λa r=>?_;show kD (r.mv.to e) λy m k h1 c h3=>?_;show gX (r.adv.snd h1) λi dd l r' a1 a2 a3 x=>?_;show ao x ?_;clear x;clear h1;ext rfl w;show gX (EX (A:=c8 ks.length F) W r.kr r.YK rfl rfl (λ_=>Iff.rfl) w) λi2 d2 l2 r2 b1 b2 b3 z=>?_;show ao z λb4 f=>?_;clear z;show ao (bc a2 (Rf (ai a3)) b2 b3 b1) ?_;clear b3 b2 b1;ext rfl rfl;let lt:=ai c;show uJ (h.ok.2 k (Q4 c)) λl3 r3 E=>?_;let C:k=(i,dd+1,m):=sP E (r.YK.next r.kr a2 a3 w) h3;show aq (u s' lt) λa' _ o=>?_;let v:(F (hO ks.length s')).k=(i,dd+1,m):=by
   rw[ci lt];show(Is (o.kg.symm.trans c)).trans C
  show#[i,dd,b4,PM.mpr #[l,r',a2,a3],?_,?_,λt=>?_]
  .change(F (hO ks.length s')).k.1=i;rw[v]
  .change(F (hO ks.length s')).k.2.1=dd+1;rw[v]
  erw[<- f t];change(F (hO ks.length s')).k.2.2.testBit t=true↔_;rw[v]
 .show az (rep s) λa r=>?_;show az (Jl r.kr r.YK rfl rfl hit) λm b=>?_;show ck (PM.mp q) λl r' a2 a3=>?_;show az (r.adv.has (Re.mpr #[_,cq b,rfl]) a2 a3) λp D=>?_;show r.mv.has D
 show az (rep s) λa r=>?_;constructor
 .ext n;show aq n λm h1 c=>?_;show ao ((r.X9.io i m).mp h1) λh0 G=>?_;show fH G λl r' a2 a3 a4=>?_;show gX (EX (A:=c8 ks.length F) (s:=s) W r.kr r.YK rfl rfl (λ_=>Iff.rfl) a4) λi2 d2 l2 r2 b1 b2 b3 B=>ao B λb4 f=>?_;clear B;show ao (bc a2 (Rm _) b2 b3 b1) ?_;clear b3 b2 b1;ext rfl rfl;show#[h0,_,l,r',b4,#[a2,rfl],(f t).mp c]
 ext n;show ao n λh0 j=>kD j ?_;ext d X r' a1 H;obtain⟨a2,rfl⟩:=H;ext a3;show az (Jl r.kr r.YK rfl rfl a1) λm b=>?_;show gX (EX (A:=c8 ks.length F) (s:=s) W r.kr r.YK rfl rfl (λ_=>Iff.rfl) b) λi2 d2 l2 r2 b1 b2 b3 j=>ao j λb4 f=>?_;clear j;show ao (bc a2 (Rm _) b2 b3 b1) ?_;clear b4 b3 b2 b1;ext rfl rfl;show#[m,(r.X9.io i m).mpr #[h0,X,r',a2,Re.mpr #[_,cq b,rfl],b],(f t).mpr a3]
end
section
variable{Xs We mk mv n tc:Nat}{Vg VA:TP}{U:aw}
noncomputable abbrev Cl:=List (Nat×Nat×Nat)
noncomputable def LL(cl:Cl):List (Nat×Nat):=cl.map λe=>(e.1,e.2.1)
noncomputable def Qs(e:Nat×Nat×Nat):Nat×O:=(e.2.1,.list [.int e.2.2])
noncomputable def Oi(F ep:Nat)(cl:Cl):List (Nat×O):=[(F,.dict (dK kI .ref (LL cl)) ep)]++cl.map Qs
def t4(Vg:TP)(i t:Nat):Prop:=∃m,br Vg i=some m/\m.testBit t=true
structure LA(Vg:TP)(P:Nat->Nat->Prop)(cl:Cl):Prop where
 nd:(cl.map (·.1)).Nodup
 ok:∀e∈cl,t4 Vg e.2.2 e.1/\P e.2.2 e.1
theorem LA.imp{P a:Nat->Nat->Prop}{cl:Cl}(h:LA Vg P cl)(k:∀i t,P i t->a i t):LA Vg a cl:=#[h.nd,λe he=>#[(h.ok e he).1,k _ _ (h.ok e he).2]]
theorem LA.len{P:Nat->Nat->Prop}{cl:Cl}(h:LA Vg P cl)(lt:∀{i t},t4 Vg i t->t<tc):cl.length<=tc:=by
 let:=h.nd.length_le_of_subset λx hx=>by
  show aq (Re.mp hx) ?_;ext e he rfl;show SY.mpr (lt (h.ok e he).1)
 rw[Lt,RN]at this;show this
theorem xz(cl:Cl):(LL cl).map (·.1)=cl.map (·.1):=by unfold LL;rw[List.map_map];rfl
theorem Bf(cl:Cl):(LL cl).length=cl.length:=Lt _
noncomputable def PB(mv mk F:Nat)(x3 x4 x5 x6:TO):aQ:=[some (.ref mv),some (.ref mk),some (.ref F),x3,x4,x5,x6,none,none,none,none]
section
variable(Zw:U mv=some (.dict (dK kI kI VA) We))(Xr:U mk=some (.dict (dK kI kI Vg) Xs))(nd:(Vg.map (·.1)).Nodup)(zm:Vg.length<64)(Zp:tc<=60)
 (lt:∀{i t},t4 Vg i t->t<tc) (uq:∀{i i' t},t4 Vg i t->t4 Vg i' t->i=i') (ng:∀{i t},t4 Vg i t->br VA t=none)
include Zw Xr nd zm Zp lt uq ng
theorem zJ{Q:QV}(q:∀c ep UX,aA U UX [(c,.dict [] ep)]->Q (.ref c) UX):CC (n+2) 361 [.ref mv,.ref mk] U Q:=by
 change an tab (CC (n+1)) qF [some (.ref mv),some (.ref mk),none,none,none,none,none,none,none,none,none] U (aW Q);show l4 (.nil U) λF ep UY H=>aR<|aK<|aP<|ah rfl<|iG ((jN (H.ext _ _ Xr)).trans (Rs some (v6 Vg))) (by unfold bK;rw[List.length_map];show zm) λv rs σ z _=>?_;let G:=H.new σ (.list (ay rs));let rn:=z.nodup_iff.mpr nd;show aI G.hd<|eY (a3:=[]) (λ_ x3 x4 _ _=>PB mv mk F x3 x4 none none) (λk _ _ ep cl UX=>aA U UX ((v,.list (ay rs))::Oi F ep cl)/\LA Vg (λi _=>i∈rs.take k) cl) #[G,.nil,λ_ h=>n0 h] (λj=>j.1.hd) (λ{x3 x4 ep cl U3} j=>?_) λ{k x x3 x4 ep cl U3 K} hx j go _=>el hx λ{i} hi=>?_
 .let O:=j.1;let I:=j.2;let lc:cl.length<64:=Q5 (I.len lt) (Q5 Zp (dR rfl));show l4 O λFo m W p=>aR<|aK<|aP<|ah rfl<|iG ((jN (p.get 2 rfl)).trans (Rs some (by erw[oj];unfold ay;erw[List.map_map];rfl))) (by rw[List.length_map,Bf];show lc) λX ts V r _=>?_;let D:=p.new V (.list (ay ts));show aI D.hd<|jR (λ_ x4 x6=>PB mv mk F x3 x4 (some (.ref Fo)) x6) (λ_ _ _ UX=>aA U UX ((X,.list (ay ts))::(Fo,.dict [] m)::(v,.list (ay rs))::Oi F ep cl)) D (λj=>j.hd) (λj=>cB (ag rfl)<|q Fo m _ (j.tl.sub (.cons_cons _ (Se _)))) λ{k x x4 x6 C K} hx O go _=>el hx λ{t} ht=>?_;let hm:=r.mem_iff.mp (Q4 ht);rw[xz]at hm;show aq (Re.mp hm) ?_;clear hm ht;ext e he rfl;let h1:br (LL cl) e.1=some e.2.1:=c0 (by rw[xz];show I.nd) (Rn he);let S:=O.at_ (Qs e) (.tail _ (.tail _ (.tail _ (.tail _ (Rn he)))));show aZ (bH qt (ag rfl) (ag rfl) (O.get 3 rfl) h1)<|cC (uD (yo (cR (l:=[e.2.2]) (f:=λ(i:Nat)=>.int i) (ag rfl) S (Q7 rfl)) am) λ_=>wC qt (ag rfl) (ag rfl) (O.ext _ _ Zw)) (λc=>by rw[ng (I.ok e he).1]at c;cases c) λ_=>bE<|go O
 let O:=j.1;let M:=z.mem_iff.mp (Q4 hi);show aq (Re.mp M) ?_;ext e he rfl;let hm:=c0 nd he;let s:e.2<2 ^ 64:=Rc (jM λt k=>lt #[_,hm,k]) (TJ (dR rfl) (Gt Zp (dR rfl)));show aR<|aK<|aG<|aj<|bH qt (ag rfl) (ag rfl) (O.ext _ _ Xr) hm _<|wa n e.2 s λk0 B W _ hz E R A=>aI A ?_;let p:=O.add E R A;show eZ (a2:=cl) (λ_ x4 _ _=>PB mv mk F (some (.int e.1)) x4 none none) (λw _ ep cl UX=>aA U UX ((B,.list (ay (ct e.2 k0)))::(v,.list (ay rs))::Oi F ep cl)/\LA Vg (λi t=>i∈rs.take k\/(i=e.1/\t∈(ct e.2 k0).take w)) cl) #[p,j.2.imp λ_ _ h=>.inl h] (λj=>j.1.hd) (λ{_ ep cl C} j=>cy<|go #[j.1.tl,j.2.imp λi t h=>?_]) λ{w x x4 ep cl C K} hx J go' _=>el hx λ{t} ht=>?_
 .erw[ax hi,Ra,Q6];show h.imp id (·.1)
 let I:=J.2;let bt:=(mC hz).mp (Q4 ht);let g:∀o∈cl,o.1≠t:=λo u q=>by
  show ao (I.ok o u) λa1 a2=>?_;rw[q]at a1 a2;let T:=uq a1 #[_,hm,bt];rcases a2 with a2|L
  .rw[T]at a2;show az (RL.mp a2) λk' d=>?_;let l1:=ai d;rw[R7]at l1;let l2:=Rc l1 (SL ..);rw[Tn,RO l2]at d;show absurd (cF rn d hi) (RY l2)
  show ao L λ_ a2=>az (RL.mp a2) λk' d=>?_;let l1:=ai d;rw[R7]at l1;let l2:=Rc l1 (SL ..);rw[Tn,RO l2]at d;show absurd (cF (iV ..) d ht) (RY l2)
 show Az (k:=t) qt (ag rfl) (ag rfl) J.1 2 rfl (by rw[Bf];show Q5 (I.len lt) (Q5 Zp (dR rfl))) (N7.mpr λo u=>?_) (λ_=>ag rfl) λc VE Z Y=>bG<|go' (b1:=VE) (b2:=cl++[(t,c,e.1)]) #[?_,?_,λx hx=>?_]
 .show aq (Re.mp u) ?_;ext x hx rfl;show g x hx
 .let:=Y.toEnd (fx:=[_,_,_]) (y:=(t,c,e.1)) rfl;unfold Oi LL at *;rw[Rd];show this
 .rw[Rd];show R3.mpr #[I.nd,RJ ..,λa P b N=>by
   show aq (Re.mp P) ?_;ext x hx rfl;rw[Q6.mp N];show g x hx]
 rcases Ra.mp hx with hx|hx
 .show#[(I.ok x hx).1,(I.ok x hx).2.imp id λh=>#[h.1,?_]];rw[ax ht];show RE _ h.2
 rw[Q6.mp hx];show#[#[_,hm,bt],.inr #[rfl,by rw[ax ht];show Rk _ (.head _)]]
end
variable{F:Nat->SD}{as:TN}{ca i t:Nat}{g:Gm}{ks:Ks}{UX:aw}
theorem By.lt{A:xZ}(K:u8 g A){s d:Nat}(h:By g A s i d t):t<g.tc:=by
 let km:=λt ht=>by
  show fH (K.V4 s) λ_ _ _ _ f=>(f t ht).lt
 rcases h with a|a
 .show bP a λ_ _ h=>?_;show km t h
 show ao a λ_ c=>?_;show gX c λX b Y r _ _ h _=>?_;show h.lt λt h=>h.elim (·.lt) λh=>km t h.2
structure tX(U:aw)(g:Gm)(ca:Nat)(as:TN)(ks:Ks)(F:Nat->SD):Prop where
 rep:lU U g ca as ks
 st:∀s,s<ks.length->∃a,as[s]?=some a/\fG U g ks s a (F s)
 Y5:u8 g (c8 ks.length F)
theorem tX.ext(h:tX U g ca as ks F)(E:bF U UX):tX UX g ca as ks F:=#[h.rep.ext E,λs a=>(h.st s a).imp λ_ h=>#[h.1,h.2.ext E],h.Y5]
theorem lU.full(W:WF g)(h:lU U g ca as ks):∃F,tX U g ca as ks F:=h.pick.imp λF a=>#[h,a,IH W h a]
section
variable(W:WF g)(H:mZ g)(S:Sm g)(R:tX U g ca as ks F)
include W H R
theorem tX.asks{s:Nat}(b:s<ks.length):(∀{i t},t4 (F s).Vg i t->t<g.tc)/\(∀{i i' t},t4 (F s).Vg i t->t4 (F s).Vg i' t->i=i')/\(∀{i t},t4 (F s).Vg i t->br (F s).VA t=none):=by
 let K:=R.Y5;let ec:hO ks.length s=s:=RO b;let rd:∀{i t},t4 (F s).Vg i t->(c8 ks.length F).rd s t i:=λ{i t} h=>by
  change ∃m,br (F (hO ks.length s)).Vg i=some m/\_;rw[ec];show h
 show#[λ{i t} h=>?_,λ{i i' t} h h'=>?_,λ{i t} h=>?_]
 .show ao ((K.rd s t i).mp (rd h)) λ_ l=>?_;show kD l λd X r h1 a h3=>?_;show h3.lt K
 .show ao ((K.rd s t i).mp (rd h)) λ_ n=>?_;show kD n λd X r h1 a h3=>?_;show ao ((K.rd s t i').mp (rd h')) λ_ j=>?_;show kD j λd' X' r' f k o=>?_;show AB W H K h1 a h3 f k o
 show ao ((K.rd s t i).mp (rd h)) λ_ p=>?_;show kD p λd X r h1 a h3=>?_;cases e:br (F s).VA t with
 |none=>rfl
 |some s'=>
  let c:(c8 ks.length F).go s t=some s':=by
   change br (F (hO ks.length s)).VA t=_;rw[ec];show e
  show fH (K.to s t s' c) λi' d' a1 a2 _=>(AC W H K (h3.lt K) a h3 a1 a2).elim
include S
theorem vJ{Q:QV}(q:∀UX,bF U UX->Q (.bool true) UX):CC (n+4) 375 [.ref ca] U Q:=by
 show ck R.rep.inst λga Vc m hS=>?_;let Zp:g.tc<=60:=Gt S.tc (dR rfl);change an tab (CC (n+3)) lQ [some (.ref ca),none] U (aW Q);show bB<|FF<|aG<|aj<|ah rfl ?_;change an tab (CC (n+2)) dp [some (.ref ca),none,none,none,none,none] U _;show gE (.nil U) λFo UY f=>aR<|aK<|aE (ag rfl) (m.ext f.ext) (xS rfl) rfl _<|aI (f.ext _ _ hS)<|eZ (λ_ d x3 x4=>[some (.ref ca),some (.ref Fo),d,x3,x4,none]) (λ_ _ _ _ UX=>aA U UX [(Fo,.list [])]) f (λj=>j.ext _ _ hS) (λ{d x3 x4 U3} O=>?_) λ{s x d x3 x4 U3 K} hx O go _=>el hx λ{a} i=>?_
 .show cB (ag rfl)<|An O.hd (Rx _) (q U3 O.ext)
 let h:=R.rep.len▸ai i;show aq (R.st s h) λa' b r=>?_;rw[i]at b;cases b;show C6 r.cell λp it ms rd We t=>?_;show N4 t λXs _ h1 o h3 _=>?_;show bP (R.asks W H h) λk1 l k=>?_;show aC<|aG<|au<|aE (ag rfl) (h1.ext O.ext) (cA rfl) rfl _<|aj<|aE (ag rfl) (h1.ext O.ext) (cA rfl) rfl _<|zJ (O.ext _ _ o) (O.ext _ _ h3) r.X9.nd (Q5 r.X9.len (Q5 S.rl (dR rfl))) Zp k1 l k λc ep u e=>aR<|aK<|ah rfl<|l7 e.hd<|xc e.hd<|cy<|go ((O.app e).sub (List.sublist_append_right ..))
end
end
section
variable{L:aQ}{X Y i:Nat}{g:Gm}{gh:Gh}{x y:E}{α:Type}{U UY:aw}
class inductive Lf (g:Gm):Nat->Nat->Prop
 |one{i X Y:Nat}{d:TN}:g.rules[i]?=some (X,Y::d)->Lf g X Y
 |tr{X Y Z:Nat}:Lf g X Y->Lf g Y Z->Lf g X Z
theorem Lf.left(W:WF g)(h:Lf g X Y):g.tc<=X:=by
 induction h with
 |one h=>show(W.Vp (aF h)).1
 |tr _ _ a _=>show a
theorem Lf.lt(W:WF g)(h:Lf g X Y):Y<NN g:=by
 induction h with
 |one h=>show W.Xm h (.head _)
 |tr _ _ _ a=>show a
theorem Lf.ch(W:WF g)(h:Lf g X Y):g.tc<=Y->Ch g X Y:=by
 induction h with
 |one h=>show λk=>.step .refl h k
 |tr _ a b c=>show λk=>(b (a.left W)).trans (c k)
def rB(g:Gm)(fs:TN):Prop:=fs.length=NN g/\∀X Y,(fs.getD X 0).testBit Y=true->Lf g X Y
set_option tactic.hygienic true in
theorem rB.set(h:rB g fs)(a:X<NN g)(k:∀Y,m.testBit Y=true->Lf g X Y):rB g (fs.set X m):=#[by rw[TB];show h.1,λX' Y e=>by
 rw[jP _ _ _ _ _ (h.1▸a)]at e;split at e
 .rename_i c;show c▸k Y e
 show h.2 X' Y e]
theorem L7{C:CT}(hx:Ev C L U x (.int (m:Nat)))(hy:Ev C L U y (.int (k:Nat)))(z:k<=1000):Tv C L U (.cmp .eq (.bin .BitAnd (.bin .RShift x y p) (.lit (.int 1) p1) p2) (.lit (.int 1) p3) p4) (m.testBit k):=by let:=vj (p:=p4) (JR (j:=1) (p:=p2) (IO (p:=p) hx hy z) (am (p:=p1))) (am (v:=.int 1) (p:=p3));rw[jC];show λQ q=>this Q ?_;rw[show decide ((((m >>> k&&& 1:Nat)):Int)=1)=decide (m >>> k&&& 1=1) from To.mpr (R5)];show q
theorem DZ{C:CT}{S:QP}{f:α->V}{l:List α}(hx:Ev C L U x (.ref a))(h:U a=some (.list (l.map f)))(z:l.length<=100000)(k:S ((List.range l.length).map λ(i:Nat)=>V.int (i:Int)) (λ_=>True) U):gP tab C (.range (.prim .len (.cons x .nil) p q) p1 q1) L U S:=
 AG<|cR hx h z _ #[by rw[Int.natAbs_natCast];show aO z,by rw[Tj];show k]
noncomputable def Qa(R F:Nat)(a x3:TO):aQ:=[some (.ref R),some (.ref F),a,x3,none,none,none]
theorem t7{Q:QV}(e:NN g<=60)(hr:U R=some (.list (ay rows)))(A:rB g rows)(q:∀c UX fs,rB g fs->aA U UX [(c,.list (ay fs))]->Q (.ref c) UX):CC (n+1) 226 [.ref R] U Q:=by
 let b {l:TN} (h:rB g l):l.length<=100000:=h.1▸Gt e (dR rfl);change an tab (CC n) jT [some (.ref R),none,none,none,none,none,none] U (aW Q);show AA (ag rfl) (.nil U) (gK hr) (b A) λF UY i=>aR<|DZ (ag rfl) i.hd (b A)<|eZ (λ_ f x3 _=>Qa R F f x3) (λ_ _ _ fs UX=>aA U UX [(F,.list (ay fs))]/\rB g fs) #[i,A] (λ_=>trivial) (λj=>cB (ag rfl)<|q F _ _ j.2 j.1) λ{k x f x3 fs U3 K} hx j go _=>el hx λ{mi} hm=>?_;let lm {l:TN} (h:rB g l):mi<l.length:=by
  let:=ai hm;rw[(RC.mp hm).2.symm,List.getElem_range,h.1,<- A.1];rw[RN]at this;show this
 show aR<|DZ (ag rfl) j.1.hd (b j.2)<|jR (λ_ x3 _=>Qa R F (some (.int mi)) x3) (λ_ _ fs UX=>aA U UX [(F,.list (ay fs))]/\rB g fs) j (λ_=>trivial) (λj=>cy<|go j) λ{k x x3 WN m K} hx d go' _=>el hx λ{on} ho=>?_;let a:=d.2;let O:=d.1;let lo:on<WN.length:=by
  let:=ai ho;rw[(RC.mp ho).2.symm,List.getElem_range,a.1,<- j.2.1];rw[RN]at this;show this
 let i1 {L:aQ} {x y:Nm} {p:Ps} k k':Ev (CC n) L m (.item (.loc y) (.loc x) p) (.int (WN.getD on 0)):=aM (l:=WN) (ag k') (ag k) O.hd (b a) (bD lo);show cC (L7 (i1 rfl rfl) (ag rfl) (Gt (Rf (lm a)) (a.1▸Gt e (dR rfl)))) (λc=>lB (z:=WN.getD on 0 ||| WN.getD mi 0) (iY (i1 rfl rfl) (aM (l:=WN) (ag rfl) (ag rfl) O.hd (b a) (bD (lm a)))) (ag rfl) (ag rfl) O 0 rfl lo (b a) λVr o=>bE<|go' #[o,a.set (a.1▸lo) λY h=>?_]) λ_=>bE<|go' d;rw[Sv,TG]at h;show h.elim (a.2 _ _) λh=>.tr (a.2 _ _ c) (a.2 _ _ h)
theorem u0(h:tab.mt 448 m=some none):tZ 448 m:=#[rfl,h]
def u7(U:aw)(g:Gm)(h:Gh)(c:Nat)(fs:TN):Prop:=rB g fs/\∃fi,cx U c 448 [(40,.ref h.a),(45,.ref fi)]/\U fi=some (.list (ay fs))
theorem u7.ext(h:u7 U g gh c fs)(E:bF U UX):u7 UX g gh c fs:=#[h.1,h.2.imp λ_ h=>#[h.1.ext E,E _ _ h.2]]
noncomputable def PA(h:Gh)(c R:Nat)(x3:TO):aQ:=[some (.ref c),some (.ref h.a),some (.ref R),x3,none,none]
section
variable{h:Gh}(G:bh U g h)(Z:Sz g h)(W:WF g)
include G Z W
theorem zI(O:aA U UY m)(hx:Ev (CC (n+2)) L UY x (.ref h.a))(q':∀c dd fi fs UX,rB g fs->aA U UX ((fi,.list (ay fs))::(c,.inst 448 dd)::(dd,.attrs [(40,.ref h.a),(45,.ref fi)])::m)->Q (.ref c) UX):bj tab (CC (n+2)) (.new 448 nn (.cons x .nil) p q) L UY Q:=by
 show qu<|aj<|hx _ λa dd ne w hd=>?_;let b:=O.ext;let v:=f6 (c:=448) (.nil UY) ne w hd;change an tab (CC (n+1)) ji [some (.ref a),some (.ref h.a),none,none,none,none] _ (aW _);show aN<|ah rfl<|ah rfl<|aL v (v.get 0 rfl) (u0 rfl) 1 rfl (Q7 rfl) rfl λU3 H=>aC<|yB (G.ext b) Z H am (ag rfl) λR I t=>aR<|aK<|gV G (b.trans t.ext) rfl rfl rfl _<|aI ((b.trans t.ext) _ _ G.rl)<|jR (a1:=List.replicate (NN g) 0) (λ_ x3 _=>PA h a R x3) (λ_ _ fs UX=>aA UY UX ((R,.list (ay fs))::[(a,.inst 448 dd),(dd,.attrs [(40,.ref h.a)])])/\rB g fs) #[by unfold ay;rw[List.map_replicate];show t,List.length_replicate,λX Y e=>?_] (λj=>(b.trans j.1.ext) _ _ G.rl) (λ{x3 fs C} j=>?_) λ{k x x3 fs C K} hx j go _=>ku G hx λ{l r ra} hr hi=>?_
 .rw[Sw,TU]at e;split at e<;>cases (Tp Y).symm.trans e
 .show aN<|aG<|aj<|ah rfl<|t7 Z.syms j.1.hd j.2 λF D WN A f=>ah rfl<|aL (j.1.app f) ((j.1.app f).get 2 rfl) (u0 rfl) 3 rfl (Q7 rfl) rfl λB E=>bG #[rfl,q' a dd F WN B A ((O.app E).sub (.cons_cons _ (.cons _ (.refl _))))]
 let s:=j.1;let A:=j.2;let i:=b.trans s.ext;let o:=W.Yb hr;let u:fs.length<=100000:=A.1▸Gt Z.syms (dR rfl);show eM (yo (r7 (yg hi i rfl) (Z.V6 hr)) am) (λc=>?_) λ_=>bE<|go j;induction r with
 |nil=>show absurd c (dR rfl)
 |cons Y d=>
  let y:=W.Xm hr (.head _);show lB (z:=fs.getD l 0 ||| 2 ^ Y) (iY (aM (l:=fs) (ag rfl) (m5 hi i rfl) s.hd u (bD (A.1▸o))) (Dj am (fY (yg hi i rfl) am (Z.V6 hr) rfl) (Gt (Rf y) (Gt Z.syms (dR rfl))))) (ag rfl) (m5 hi i rfl) s 0 rfl (A.1▸o) u λD f=>bE<|go #[f,A.set o λY' h=>?_];rw[Sv,TG,Nat.testBit_two_pow]at h;show h.elim (A.2 _ _) λh=>RH h▸.one hr
end
variable{c n:Nat}{e:E}{fs r:TN}{p:Ps}
def Wm(g:Gm)(d:Nat)(r:TN)(m:Nat):Prop:=∀Y,m.testBit Y=true->∃s,r[d]?=some s/\(Y=s\/Lf g s Y)
theorem Ck{C:CT}{y z:Nat}(hx:Ev C L U e (.int y))(hy:Ev C L U x (.tup [.int z])):Tv C L U (.cmp .Vi e x p) (!decide (z=y)):=λQ q=>hx _ (hy _ #[#[.i,#[_,rfl],λv a=>#[_,Q6.mp a]],by
 rw[Ux,List.any_nil,Bool.or_false];let:V.VI (.int z) (.int y)=decide (z=y):=by
  by_cases c:z=y
  .clear q hx;subst c;rw[SW rfl];show V.U9.mpr rfl
  rw[SC c];show V.VQ.mpr λh=>c (R5.mp (by clear c q hy;cases h;rfl))
 rw[this];show q])
structure Qy(g:Gm)(x:Nat)(D js:TN):Prop where
 sub:js.Sublist D
 ne:∀j∈js,aX g j 0≠x
section
variable{h:Gh}{Q:QV}(G:bh U g h)(Z:Sz g h)(W:WF g)(R:u7 U g h c fs){d l:Nat}(hr:g.rules[i]?=some (l,r))(hd:d<=r.length)
include G Z W R hr hd
theorem BC(q:∀m,Wm g d r m->Q (.int (m:Nat)) U):CC (n+3) 431 [.ref c,.tup [.int (aX g i d:Nat)]] U Q:=by
 show ao R λA b=>?_;show aq b λfi I hf=>?_;change an tab (CC (n+2)) gz [some (.ref c),some (.tup [.int (aX g i d)]),none,none,none] U (aW Q);show aZ am<|aR<|aK<|ah rfl<|jF<|zy trivial rfl<|aZ (j8 G Z (.refl U) hr hd (aE (ag rfl) I (u0 rfl) rfl) (ag rfl)) ?_;cases a:r[d]? with
 |none=>
  rw[iy a];show cC (pc (ag rfl) am) nf λ_=>bE<|EN<|xc trivial<|cB (ag rfl)<|q 0 λY h=>by rw[Tp]at h;show nF h
 |some s=>
  rw[fE a];let ls:=W.Xm hr (Q4 a);show eM (pc (ag rfl) am) (λ_=>aZ (iY (iY (ag rfl) (Dj am (ag rfl) (Gt (Rf ls) (Gt Z.syms (dR rfl))))) (aM (l:=fs) (aE (ag rfl) I (u0 rfl) rfl) (ag rfl) hf (A.1▸Gt Z.syms (dR rfl)) (bD (d:=0) (A.1▸ls))))<|bE<|EN<|xc trivial<|cB (ag rfl)<|q _ λY h=>#[s,a,?_]) λc=>absurd (Ry s) c;rw[Sv,Sv,Tp,Bool.false_or,TG,Nat.testBit_two_pow]at h;show h.imp (λh=>(RH h).symm) (A.2 _ _)
theorem GA(S:Sm g)(q:∀u l' UX,l'.Nodup->(∀y∈l',y≠aX g i d/\ZI g i d r y)->l'.length<=10->aA U UX [(u,.list (ay l'))]->Q (.ref u) UX):CC (n+4) 438 [.ref c,.tup [.int (aX g i d:Nat)]] U Q:=by
 let R0:=R;show ao R λA Vm=>?_;show aq Vm λfi I hf=>?_;change an tab (CC (n+3)) iu [some (.ref c),some (.tup [.int (aX g i d)]),none,none,none,none,none,none] U (aW Q);show gE (.nil U) λF UY C=>aR<|aK<|aG<|aj<|dU<|ah rfl<|dy (I.ext C.ext) #[rfl,rfl] rfl<|aj<|ah rfl<|BC (G.ext C.ext) Z W (R0.ext C.ext) hr hd λm wm=>?_;let V {Y} (h:m.testBit Y=true):Y<NN g:=by
  obtain⟨s,v,e|e⟩:=wm Y h
  .show e▸W.Xm hr (Q4 v)
  show e.lt W
 show wa (n+2) m (Rc (jM λt ht=>V ht) (TJ (dR rfl) (Gt Z.syms (dR rfl)))) λk0 B U3 _ hz E hB YH=>aI YH ?_;let O2:=C.add E hB YH;let nb:=iV m k0;let J {Y}:=mC (i:=Y) hz;generalize ct m k0=bs at O2 nb J;let all(D:TN)(X:D.Sublist (bs.flatMap (cr g))):D.Nodup/\D.length<=10/\∀j∈D,ZI g i d r (aX g j 0):=by
  let nd:(bs.flatMap (cr g)).Nodup:=List.pairwise_flatMap.mpr #[λY _=>List.nodup_range.sublist Tz,nb.imp λ{a b} ne x hx y hy e=>by
   subst e;show az (Lj.mp hx) λ_ e1=>?_;show az (Lj.mp hy) λ_ e2=>?_;rw[e1]at e2;replace e2:=Is e2;cases e2;show ne rfl]
  let P:=nd.sublist X;let T:∀j∈D,∃Y r',m.testBit Y=true/\g.rules[j]?=some (Y,r'):=λj f=>by
   show aq (List.mem_flatMap.mp (X.subset f)) λY l h=>?_;show az (Lj.mp h) λr' e=>#[Y,r',J.mp l,e]
  show#[P,?_,λj f=>?_]
  .let:=P.length_le_of_subset λj f=>by
    show ck (T j f) λ_ _ _ e=>?_;show SY.mpr (ai e)
   rw[RN]at this;show Gt this S.rl
  show ck (T j f) λY r' l e=>?_;let N:=(W.Vp (aF e)).1;obtain⟨s,v,k|k⟩:=wm Y l
  .show .inr #[j,Y,r',s,rfl,e,v,k▸N,k▸.refl]
  show .inr #[j,Y,r',s,rfl,e,v,k.left W,k.ch W N]
 show let cL (x3 x4 x5):aQ:=[some (.ref c),some (.tup [.int (aX g i d)]),some (.ref F),x3,x4,x5,none,none];?_;show let cM (js:TN):List (Nat×O):=[(B,.list (ay bs)),(F,.list (ay (js.map (aX g · 0))))];?_;show eY (a3:=[]) (λ_ x3 x4 x5 _=>cL x3 x4 x5) (λk _ _ _ js UX=>aA U UX (cM js)/\Qy g (aX g i d) ((bs.take k).flatMap (cr g)) js) #[O2,.slnil,λ_ h=>n0 h] (λj=>j.1.get 0 rfl) (λ{x3 x4 x5 js Va} j=>?_) λ{k x x3 x4 x5 js Va K} hx j go _=>el hx λ{Y} l=>?_
 .show ao j λO3 H=>?_;rw[aS,RI]at H;show bP (all js H.sub) λa1 a2 a3=>?_;let g1 j (f:j∈js):∃x,g.rules[j]?=some x:=by
   show aq (List.mem_flatMap.mp (H.sub.subset f)) λY _ h=>?_;show az (Lj.mp h) λr' e=>#[_,e]
  let nd:(js.map (aX g · 0)).Nodup:=UR.mpr (a1.imp_of_mem λ{a b} ha o ne e=>by
   show az (g1 a ha) λ_ e1=>?_;show az (g1 b o) λ_ e2=>?_;show ne (bc e1 (Rx _) e2 (Rx _) e).1)
  show bB<|aP<|ah rfl<|iG (gK (O3.get 1 rfl)) (by rw[Lt];show Gt (Rj ‹_›) (dR rfl)) λu l' hu L _=>q u l' _ (L.nodup_iff.mpr nd) (λy hy=>by
   show aq (Re.mp (L.mem_iff.mp hy)) ?_;ext j f rfl;show#[H.ne j f,a3 j f]) (by rw[L.length_eq,Lt];show a2) ((O3.new hu _).sub (.cons_cons _ (Se _)))
 let M:=V (J.mp (Q4 l));show aR<|aK<|dU<|aE (ag rfl) (I.ext j.1.ext) (u0 rfl) rfl _<|dy (G.ext j.1.ext).inst #[rfl,rfl] rfl<|aj<|ah rfl<|ql (G.ext j.1.ext) Z M λσ hU=>aI (aB ..)<|eZ (λ_ x4 x5 _=>cL (some (.int Y)) x4 x5) (λk' _ _ js UX=>aA U UX ((σ,.list (ay (cr g Y)))::cM js)/\Qy g (aX g i d) ((bs.take k).flatMap (cr g)++(cr g Y).take k') js) #[j.1.new hU _,by rw[SF,RD];show j.2] (λj=>j.1.hd) (λ{_ _ js Vr} j=>cy<|go #[j.1.tl,?_]) λ{k' x x4 x5 js Vr K} hx j go' _=>el hx λ{b} o=>?_
 .let:=j.2;rw[aS,RI]at this;rw[ax l,UF,List.flatMap_cons,List.flatMap_nil,RD];show this
 show ao j λw p=>?_;show az (Lj.mp (Q4 o)) λr' e=>?_;let lj:js.length<=10:=by
  show(all js (p.sub.trans ((List.Sublist.append_left (List.take_sublist ..) _).trans ?_))).2.1;let:(bs.take k).flatMap (cr g)++cr g Y=(bs.take (k+1)).flatMap (cr g):=by rw[ax l,UF,List.flatMap_cons,List.flatMap_nil,RD]
  rw[this];conv=>rhs;rw[<- S7 (k+1) bs,UF]
  show List.sublist_append_left ..
 show aZ (j7 G Z w.ext (ai e) (aE (ag rfl) (I.ext w.ext) (u0 rfl) rfl) (ag rfl) am)<|qk (Ck (ag rfl) (ag rfl)) (λne=>de (z:=aX g b 0) (ag rfl) (ag rfl) w 2 rfl (by rw[Lt];show Q5 lj (dR rfl)) λVD O5=>bE<|go' (b2:=js++[b]) #[?_,?_,λj f=>?_]) λ_=>bE<|go' #[w,p.sub.trans ?_,p.ne]
 .change aA U VD [_,_,(F,.list (ay ((js++[b]).map _)))];rw[Rd];show O5
 .rw[ax o,<- Rz];show p.sub.append (.refl _)
 .rcases Ra.mp f with f|f
  .show p.ne j f
  rw[Q6.mp f];show Ne.symm ne
 rw[ax o,<- Rz];show List.sublist_append_left ..
structure NL(g:Gm)(i d:Nat)(r UZ:TN):Prop where
 nd:UZ.Nodup
 hd:∃l,UZ=aX g i d::l/\∀y∈l,ZI g i d r y/\y≠aX g i d
 len:UZ.length<=11
theorem FW(S:Sm g)(q:∀u UZ UX,NL g i d r UZ->aA U UX [(u,.list (ay UZ))]->Q (.ref u) UX):CC (n+5) 445 [.ref c,.tup [.int (aX g i d:Nat)]] U Q:=by let j:=R;show ao R λA f=>?_;show aq f λfi I hf=>?_;change an tab (CC (n+4)) ir [some (.ref c),some (.tup [.int (aX g i d)]),none] U (aW Q);show bB<|bv<|aP<|ah rfl<|yR rfl λu hu=>dU<|ah rfl<|dy (I.ext ((aA.nil U).new hu _).ext) #[rfl,rfl] rfl<|aj<|ah rfl<|GA (G.ext ((aA.nil U).new hu _).ext) Z W (j.ext ((aA.nil U).new hu _).ext) hr hd S λw l' U3 n1 n2 b k=>?_;let a:=((aA.nil U).new hu (.list [.int (aX g i d)])).app k;show bI (a.get 1 rfl) (a.get 0 rfl) (by rw[aS];show aO (Gt (Rb b 1) (dR rfl))) λv e=>q v (aX g i d::l') _ #[R9.mpr #[λh=>(n2 _ h).1 rfl,n1],#[l',rfl,λy hy=>(n2 y hy).symm],Rj b] ((a.new e _).sub (.cons_cons _ (Se _)))
end
variable{UZ:TN}
theorem NL.W7{d l:Nat}(I:NL g i d r UZ)(hr:g.rules[i]?=some (l,r))(hd:d<=r.length){x:Nat}(hx:x∈UZ):(∃i dd l r,x=aX g i dd/\g.rules[i]?=some (l,r)/\dd<=r.length)/\ZI g i d r x:=by
 show aq I.hd ?_;ext l' rfl h;rcases RB.mp hx with rfl|hx
 .show#[#[i,d,l,r,rfl,hr,hd],.inl rfl]
 show#[?_,(h x hx).1];rcases (h x hx).1 with e|a
 .show#[i,d,l,r,e,hr,hd]
 show EE a λj Y r' X e b _=>#[j,0,Y,r',e,b,Rx _]
noncomputable def dI(UZ:TN):List (Nat×Nat):=UZ.map λy=>(y,0)
theorem rW(UZ:TN):bK (dI UZ)=UZ:=by unfold bK dI;rw[List.map_map];show List.map_id _
theorem Nr{y:Nat}(nd:UZ.Nodup)(h:y∈UZ):br (dI UZ) y=some 0:=c0 (show(bK (dI UZ)).Nodup from(rW UZ).symm▸nd) (Rn h)
noncomputable def kT(p:Nat×Nat):V:=.tup [.int p.1]
noncomputable def Pe(e:Nat×Nat×(Nat×Nat)):Nat×O:=(e.2.1,.list (ay [e.2.2.1]))
noncomputable def Qj(h:Gh)(it F:Nat)(x3 x4 x5:TO):aQ:=[some (.ref h.a),some (.ref it),some (.ref F),x3,x4,x5,none,none,none]
noncomputable def OS(F ep:Nat)(fd:Fd):List (Nat×O):=[(F,.dict (dK kI .ref (C9 fd)) ep)]++fd.map Pe
section
variable{h:Gh}{Q:QV}(G:bh U g h)(Z:Sz g h)(W:WF g){u d l:Nat}(hr:g.rules[i]?=some (l,r))(hd:d<=r.length)(I:NL g i d r UZ)(hu:U u=some (.list (ay UZ)))
include G Z hr hd I hu
theorem xt(q:∀c rs UX,rs.length<=UZ.length->(∀a∈rs,∃l r,g.rules[a]?=some (l,r)/\aX g a r.length∈UZ)->aA U UX [(c,.list (ay rs))]->Q (.ref c) UX):CC (n+2) 473 [.ref h.a,.ref u] U Q:=by
 change an tab (CC (n+1)) fk [some (.ref h.a),some (.ref u),none,none,none] U (aW Q);show gE (.nil U) λF UY m=>aR<|aK<|ah rfl<|aI (m.ext _ _ hu)<|jR (a1:=[]) (λ_ x3 _=>[some (.ref h.a),some (.ref u),some (.ref F),x3,none]) (λk _ rs UX=>aA U UX [(F,.list (ay rs))]/\rs.length<=k/\∀a∈rs,∃l r,g.rules[a]?=some (l,r)/\aX g a r.length∈UZ) #[m,Rm _,λ_ h=>n0 h] (λj=>j.1.ext _ _ hu) (λ{x3 rs U3} j=>?_) λ{k x x3 rs U3 K} hx j go _=>el hx λ{y} hy=>?_
 .rw[aS]at j;let lt:rs.length<64:=Q5 (Gt j.2.1 I.len) (dR rfl);show bB<|aP<|ah rfl<|iG (gK j.1.hd) lt λc l' o f _=>q c l' _ (f.length_eq▸j.2.1) (λa b=>j.2.2 a (f.mem_iff.mp b)) ((j.1.new o _).sub (.cons_cons _ (Se _)))
 let e:=Q4 hy;show ao (I.W7 hr hd e) ?_;ext i;show EE i ?_;clear i;ext i' dd l' r' rfl h1 d;ext _;let O:=j.1;show cC (dr (iE (j8 G Z O.ext h1 d (ag rfl) (ag rfl)) am) λ_=>BE (gU G Z O.ext h1 d (ag rfl) (ag rfl)) am) (λc=>?_) λ_=>bE<|go #[O,Tr j.2.1,j.2.2];let c:=(R8.mp c).1;let e0:=SM d (R6 λk=>by
  rw[fE (Rg k)]at c;show absurd (RH c) (UA.mpr (Ry _)))
 clear c;clear c;subst e0;show de (z:=i') (ag rfl) (gU G Z O.ext h1 d (ag rfl) (ag rfl)) O 0 rfl ?_ λVa p=>bE<|go #[p,by rw[Q9];show Rj j.2.1,λa b=>?_]
 .let:=ai hy;let:=I.len;let:=j.2.1;show Q5 this (Rc ‹k<UZ.length› (Gt ‹UZ.length<=11› (dR rfl)))
 rcases Ra.mp b with b|b
 .show j.2.2 a b
 rw[Q6.mp b];show#[l',r',h1,e]
include W
theorem yY(H:mZ g)(q:∀c ep al UX,gN g (dI UZ) UZ al->aA U UX [(c,.dict (dK kI kT al) ep)]->Q (.ref c) UX):CC (n+4) 466 [.ref h.a,.ref u] U Q:=by
 let T:NN g<=60:=Z.syms;let σ:NJ g (dI UZ):=by
  unfold NJ;rw[rW];show LY W H hr hd λx hx=>(I.W7 hr hd hx).2
 change an tab (CC (n+3)) fj [some (.ref h.a),some (.ref u),none,none,none,none,none,none,none] U (aW Q);show l4 (.nil U) λF ep UY O1=>aR<|aK<|ah rfl<|aI (O1.ext _ _ hu)<|eY (a0:=none) (a1:=none) (a2:=ep) (a3:=[]) (λ_ x3 x4 _ _=>Qj h u F x3 x4 none) (λk _ _ ep fd UX=>aA U UX (OS F ep fd)/\gN g (dI UZ) (UZ.take k) (Ii fd)) #[O1,.zero] (λj=>j.1.ext _ _ hu) (λ{x3 x4 ep fd U3} j=>?_) λ{k x x3 x4 ep fd U3 K} hx j go _=>el hx λ{y} hy=>?_
 .rw[aS,RI]at j;let O:=j.1;let A:=j.2;let lf:fd.length<64:=by rw[<- rV];show Q5 (A.len W) (Q5 T (dR rfl))
  show l4 O λOr B Y o=>aR<|aK<|aP<|ah rfl<|iG ((jN (o.get 1 rfl)).trans (Rs some (by erw[oj];unfold ay;erw[List.map_map];rfl))) (by rw[List.length_map,kG];show lf) λS ss hS D _=>?_;let E:=o.new hS (.list (ay ss));let sn:ss.Nodup:=D.nodup_iff.mpr (by rw[oa];show A.nd);show aI E.hd<|eZ (a0:=x4) (a1:=B) (a2:=[]) (λ_ x4 _ _=>Qj h u F x3 x4 (some (.ref Or))) (λk _ B al UX=>aA U UX ((S,.list (ay ss))::(Or,.dict (dK kI kT al) B)::OS F ep fd)/\al.map (·.1)=ss.take k/\∀e∈al,e∈Ii fd) #[E,rfl,λ_ h=>n0 h] (λj=>j.1.hd) (λ{x4 B al VD} j=>cB (ag rfl)<|q Or B al _ ?_ (j.1.tl.sub (.cons_cons _ (Se _)))) λ{k' x x4 B al VD K} hx j go _=>el hx λ{s} b=>?_
  .let e:=j.2.1;rw[aS,RI]at e;show A.perm (by rw[e,<- oa];show D) j.2.2
  show bP j λR ka ki=>?_;clear j;show aq (Re.mp (D.mem_iff.mp (Q4 b))) λe he es=>aq (Re.mp he) λr P X=>?_;let h1:br (C9 fd) s=some r.2.1:=c0 (by rw[oa];show A.nd) (by rw[<- es,<- X];show Rn P);let t:=R.at_ (Pe r) (.tail _ (.tail _ (.tail _ (Rn P))));let M:r.1=s:=by rw[<- es,<- X]
  let C:br al s=none:=N7.mpr λe he q=>by
   let m:=Rn (f:=(·.1)) he;rw[ka]at m;show az (RL.mp m) λk2 p=>?_;let lt:=ai p;rw[R7]at lt;rw[Tn,RO (Rc lt (SL ..)),q]at p;show absurd (cF sn p b) (RY (Rc lt (SL ..)))
  let la:al.length<100000:=by
   let:=Rs List.length ka;rw[Lt,R7]at this;let l2:=D.length_eq;rw[Lt,kG]at l2;rw[this];show Q5 (Gt (Um _ _) (RW l2)) (Tf lf (dR rfl))
  show pe<|aP<|aP<|bH (g:=V.ref) (k:=s) qt (ag rfl) (ag rfl) (R.get 2 rfl) h1 _<|yR (gK t) λc hc=>l6 (aB ..) bk<|ah rfl<|ah rfl ?_;let O6:=(R.new hc (.list [.int r.2.2.1])).tl;let L:eG (dK kI kT al) (V.int ↑s) (V.tup [V.int ↑r.2.2.1])=dK kI kT (al++[(s,r.2.2)]):=kA C r.2.2▸iU qt al;show jB (O6.get 1 rfl) (gj qt al s) (by unfold dK;rw[List.length_map];show cY la) ?_;rw[L];show bG<|go #[O6.set 1 rfl _,?_,λx hx=>?_]
  .rw[Rd,ka,ax b];rfl
  rcases Ra.mp hx with hx|hx
  .show ki x hx
  rw[Q6.mp hx,<- M];show Rn P
 let O:=j.1;let A:=j.2;let J:=Q4 hy;show ao (I.W7 hr hd J) ?_;ext V3;show EE V3 ?_;clear V3;ext i' w l' r' rfl h1 t;ext _;show aZ (j8 G Z O.ext h1 t (ag rfl) (ag rfl)) ?_;cases b:r'[w]? with
 |none=>
  rw[iy b];show cC (pc (ag rfl) am) nf λ_=>bE<|go #[O,by rw[ax hy];show A.skip h1 t b]
 |some s=>
  rw[fE b];let ns:=A.new σ (λx hx=>(rW UZ).symm▸TK hx) ((rW UZ).symm▸J) h1 b λhm=>by
   show az (RL.mp hm) λk' N=>?_;let lt:=ai N;rw[R7]at lt;rw[Tn,RO (Rc lt (SL ..))]at N;show absurd (cF I.nd N hy) (RY (Rc lt (SL ..)))
  let C:br (C9 fd) s=none:=N7.mpr λe he=>by
   show aq (Re.mp he) ?_;ext x hx rfl;show ns _ (Rn hx)
  show eM (pc (ag rfl) am) (λ_=>?_) λc=>absurd (Ry s) c;show cC (yn (d:=C9 fd) (g:=V.ref) (k:=s) qt (ag rfl) (ag rfl) (O.get 0 rfl)) (λ_=>?_) λc=>by rw[C]at c;cases c
  show DO (d:=C9 fd) (k:=s) qt (ag rfl) (λ_=>ag rfl) O 0 rfl (by rw[kG,<- rV];show Q5 (A.len W) (Q5 T (dR rfl))) λc VE Y o=>aU<|de (f:=λ(i:Nat)=>.int i) (l:=[]) (z:=aX g i' (w+1)) (bH (g:=V.ref) (k:=s) (v:=c) qt (ag rfl) (ag rfl) (o.get 1 rfl) (by rw[cD,RO rfl])) (r8 (be (ag rfl) (bz (ag rfl))) λQ q=>?_) o 0 rfl (dR rfl) λVr E=>bE<|go (b2:=VE) (b3:=fd++[(s,c,(aX g i' (w+1),0))]) #[?_,?_]
  .change an tab (CC (n+2)) j3 [some (.ref h.a),some (.int (aX g i' w))] Y (aW Q);show cB (j7 (d:=w+1) G Z o.ext (ai h1) (ag rfl) (gU G Z o.ext h1 t (ag rfl) (ag rfl)) (ly (vg G Z o.ext h1 t (ag rfl) (ag rfl)) am)) q
  .let:=E.toEnd (fx:=[_]) (g:=Pe) (y:=(s,c,(aX g i' (w+1),0))) rfl;rw[kA C]at this;unfold OS C9 at *;rw[Rd];show this
  rw[ax hy];unfold Ii at *;rw[Rd];show A.add h1 b (Nr I.nd J) ns
end
end
section
variable{L:aQ}{al:List (Nat×(Nat×Nat))}{as r rs:TN}{b c epn i n:Nat}{e1 e2 e3:E}{g:Gm}{m:TA}{nd:TP}{sym:V}{U UX U0 UY U4:aw}
noncomputable def KQ(k:Nat)(kt sym:V)(it mv rd:Nat):List (Nat×V):=[(5,.int k),(71,kt),(23,sym),(74,.ref it),(75,.ref mv),(76,.ref rd)]
noncomputable def kX(x:Nat):V:=.tup [.int x]
theorem Oh:lT .ti kX:=#[λa=>#[[a],rfl],λ{a b} h=>by unfold kX at h;cases h;rfl]
theorem dH{m}(h:tab.mt 406 m=some none):tZ 406 m:=#[rfl,h]
theorem c9{m}(h:tab.mt 567 m=some none):tZ 567 m:=#[rfl,h]
theorem Bv{m}(h:tab.mt 525 m=some none):tZ 525 m:=#[rfl,h]
theorem KP{Q:QV}(O:aA U0 U m)(h1:Ev (CC (n+1)) L U e1 (.int (k:Nat)))(i:Ev (CC (n+1)) L U e2 (kX x))(h3:Ev (CC (n+1)) L U e3 sym)
  (q':∀a dd mv it rd ep UX,aA U0 UX ((mv,.dict [] ep)::(a,.inst 406 dd)::(dd,.attrs (KQ k (kX x) sym it mv rd))::m)->Q (.ref a) UX):
  bj tab (CC (n+1)) (.new 406 nn (.cons e1 (.cons e2 (.cons e3 .nil))) p q) L U Q:=by
 show qu<|au<|h1 _<|au<|i _<|aj<|h3 _ λa dd ne h hd=>?_;let g:=f6 (c:=406) O ne h hd;change an tab (CC n) im [some (.ref a),some (.int k),some (kX x),some sym] _ (aW _);show aN<|ah rfl<|ah rfl<|aL g (g.get 0 rfl) (dH rfl) 1 rfl (Q7 rfl) rfl λU3 f=>aN<|ah rfl<|ah rfl<|aL f (f.get 0 rfl) (dH rfl) 1 rfl (Q7 rfl) rfl λVa e=>aN<|ah rfl<|ah rfl<|aL e (e.get 0 rfl) (dH rfl) 1 rfl (Q7 rfl) rfl λVr s=>aN<|bT λit hit=>?_;let d:=s.new hit (.list []);show ah rfl<|aL d (d.get 1 rfl) (dH rfl) 2 rfl (Q7 rfl) rfl λWg r=>aN<|dC λmv ep Zw=>?_;let b:=r.new Zw (.dict [] ep);show ah rfl<|aL b (b.get 2 rfl) (dH rfl) 3 rfl (Q7 rfl) rfl λX5 O8=>aN<|bT λrd o=>?_;let O9:=O8.new o (.list []);show ah rfl<|aL O9 (O9.get 3 rfl) (dH rfl) 4 rfl (Q7 rfl) rfl λj l=>bG #[rfl,q' a dd mv it rd ep j (l.sub (.cons _ (.cons_cons _ (.cons _ (.refl _)))))]
set_option genInjectivity false in
set_option genSizeOf false in
structure PL where
 a:Nat
 dd:Nat
 mv:Nat
 k:Nat
 x:Nat
 it:Nat
 rd:Nat
 ep:Nat
 sym:V
noncomputable def B8(p:PL):List (Nat×O):=[(p.mv,.dict [] p.ep),(p.a,.inst 406 p.dd),(p.dd,.attrs (KQ p.k (kX p.x) p.sym p.it p.mv p.rd))]
def NE(g:Gm):Prop:=∀{i l:Nat}{r:TN},g.rules[i]?=some (l,r)->r≠[]
def Lu(g:Gm)(x:Nat):Prop:=∃i d l r,x=aX g i d/\g.rules[i]?=some (l,r)/\d<=r.length
def tV(U:aw)(g:Gm)(a:Nat):Prop:=∃(k x it mv rd We:Nat)(sym:V)(VA:TP)(rs:TN),cx U a 406 (KQ k (kX x) sym it mv rd)/\U mv=some (.dict (dK kI kI VA) We)/\U rd=some (.list (ay rs))/\rs.length<=11/\(NE g->rs=[]\/rs.length=1/\VA=[])
theorem tV.ext(h:tV U g a)(E:bF U UX):tV UX g a:=by show C6 h λk x it mv rd d=>?_;show gX d λWe sym VA rs h1 c h3 b=>#[k,x,it,mv,rd,We,sym,VA,rs,h1.ext E,E _ _ c,E _ _ h3,b]
structure BL(g:Gm)(U:aw)(at_:Nat)(as:TN)(nd:TP)(pend:List PL):Prop where
 nn:(bK nd).Nodup
 val:∀x∈bK nd,Lu g x
 len:nd.length=as.length
 pl:at_+pend.length=as.length
 pd:∀{j p},pend[j]?=some p->as[at_+j]?=some p.a/\Lu g p.x
 dn:∀{s},s<at_->∃a,as[s]?=some a/\tV U g a
theorem JM(h:Lu g x):x<(own g).length:=by show EE h ?_;clear h;ext i d l r rfl h1 a;show ai (kC h1 a)
theorem Jk(h:(bK nd).Nodup)(k:∀x∈bK nd,Lu g x):nd.length<=(own g).length:=by let:=h.length_le_of_subset λx hx=>SY.mpr (JM (k x hx));rw[RN]at this;unfold bK at this;rw[Lt]at this;show this
theorem Iz{d l:Nat}{UZ:TN}(hr:g.rules[i]?=some (l,r))(hd:d<=r.length)(I:NL g i d r UZ)(h1:rs.length<=UZ.length)(n:∀a∈rs,∃l r,g.rules[a]?=some (l,r)/\aX g a r.length∈UZ)(A:gN g (dI UZ) UZ al)(ne:NE g):rs=[]\/rs.length=1/\al=[]:=by
 cases rs with
 |nil=>show .inl rfl
 |cons a rs=>
  show ck (n a (.head _)) λl' r' e1 e2=>?_;let m:d=r.length:=by
   rcases (I.W7 hr hd e2).2 with k|o
   .show ao (bc e1 (Rm _) hr hd k) ?_;clear k e2 I;ext rfl e;rw[e1]at hr;clear e1;replace hr:=Is hr;cases hr;show e.symm
   show EE o λj Y r1 X k b _=>?_;show ao (bc e1 (Rm _) b (Rx _) k) ?_;clear b k;ext rfl e;show absurd (Sg e) (ne e1)
  clear e2 n hd;subst m;let p {X Y:Nat} (k:KI g r.length r X Y):False:=by
   let:=k.1;rw[SG (Rm _)]at this;show nS this
  show aq I.hd ?_;ext l1 rfl h;let e0:l1=[]:=by
   clear I h1 A;induction l1 with
   |nil=>rfl
   |cons y l1=>
    rcases h y (.head _)with⟨k|⟨_,_,_,_,_,_,k⟩,k'⟩
    .show absurd k k'
    show(p k).elim
  clear h;subst e0;show .inr #[SM h1 (Rj (Rx _)),?_];clear I h1;cases al with
  |nil=>rfl
  |cons e al=>
   show gX (A.snd (.head _)) λi' dd l2 r2 b f c _=>?_;show ao (bc f (Rf (ai c)) hr (Rm _) (Q6.mp b)) ?_;clear b;ext rfl rfl;rw[f]at hr;clear f;replace hr:=Is hr;cases hr;rw[SG (Rm _)]at c;show nS c
noncomputable def PH(h:Gh)(c Vc Nm:Nat):List (Nat×V):=[(40,.ref h.a),(107,.ref c),(80,.ref Vc),(89,.ref Nm)]
section
variable{h:Gh}{Vc Nm:Nat}(Ib:cx U4 b 567 (PH h c Vc Nm))
include Ib
theorem nZ{Q:QV}{x:Nat}(O:aA U4 UY ((Nm,.dict (dK kX kI nd) epn)::(Vc,.list (as.map .ref))::m))(len:nd.length=as.length)(z:as.length<=1000)(l:∀s,br nd x=some s->Q (.int (s:Nat)) UY)
  (j:br nd x=none->∀p o UX,p.x=x->aA U4 UX ((Nm,.dict (dK kX kI (nd++[(x,as.length)])) o)::(Vc,.list ((as++[p.a]).map .ref))::(B8 p++m))->Q (.int as.length) UX):CC (n+2) 550 [.ref b,kX x,sym] UY Q:=by
 change an tab (CC (n+1)) dq [some (.ref b),some (kX x),some sym,none,none] UY (aW Q);let f:=Ib.ext O.ext;show cC (yn Oh (ag rfl) (aE (ag rfl) f (c9 rfl) rfl) (O.get 0 rfl)) (λe=>?_) λe=>aU ?_
 .let e:br nd x=none:=by
   cases k:br nd x with
   |none=>rfl
   |some s=>rw[k]at e;cases e
  show lZ (g:=kI) Oh (cR (aE (ag rfl) f (c9 rfl) rfl) (O.get 1 rfl) (Gt z (dR rfl))) (aE (ag rfl) f (c9 rfl) rfl) (ag rfl) O 0 rfl (by rw[len];show Q5 z (dR rfl)) λVE U3 d=>?_;let i:=Ib.ext d.ext;show dO<|cb<|aE (ag rfl) i (c9 rfl) rfl _ #[cg (d.get 1 rfl),aj<|KP d (cR (aE (ag rfl) i (c9 rfl) rfl) (d.get 1 rfl) (Gt z (dR rfl))) (ag rfl) (ag rfl) λa dd mv it rd ep q h=>dF (h.get 4 rfl) (by rw[Lt];show Q5 z (dR rfl))<|fc<|aU ?_];let c:=h.set 4 rfl (.list (as.map V.ref++[.ref a]));let e2:dQ nd x as.length=nd++[(x,as.length)]:=kA e _;show cB (bH Oh (aE (ag rfl) (Ib.ext c.ext) (c9 rfl) rfl) (ag rfl) (c.get 3 rfl) (by rw[cD,RO rfl]))<|j e #[a,dd,mv,as.length,x,it,rd,ep,sym] VE _ rfl ?_;rw[e2]at c;rw[Rd];show c.perm (S8 (l₁:=[_,_,_]) (l₂:=[_,_]) |>.append_right m)
 cases k:br nd x with
 |none=>rw[k]at e;cases e
 |some s=>show cB (bH Oh (aE (ag rfl) f (c9 rfl) rfl) (ag rfl) (O.get 0 rfl) k) (l s k)
end
variable{fs:TN}{at_:Nat}{p:PL}{pend:List PL}
noncomputable def KL(Nm Vc epn:Nat)(nd:TP)(as:TN)(m:TA):List (Nat×O):=(Nm,.dict (dK kX kI nd) epn)::(Vc,.list (as.map .ref))::m
theorem uL(d d':TP):bK (d++d')=bK d++bK d':=Rd
theorem BL.new{x:Nat}(h:BL g U at_ as nd pend)(v:Lu g x)(e:br nd x=none)(p:PL)(i:p.x=x):BL g U at_ (as++[p.a]) (nd++[(x,as.length)]) (pend++[p]):=by
 show#[?_,λy hy=>?_,by rw[Q9,Q9,h.len];rfl,by rw[Q9,Q9,<- h.pl];rfl,λ{j q} d=>?_,λf=>?_]
 .rw[uL];show R3.mpr #[h.nn,RJ ..,λa l b k=>by
   show aq (Re.mp l) ?_;ext y hy rfl;rw[Q6.mp k];show N7.mp e y hy]
 .rw[uL]at hy;show(Ra.mp hy).elim (h.val y) λhy=>by rw[Q6.mp hy];show v
 .by_cases c:j<pend.length
  .rw[Ru c]at d;show ao (h.pd d) λa b=>#[by rw[Ru (ai a)];show a,b]
  let lt:=ai d;rw[Q9,RG]at lt;let n:=SM (R4 lt) (R6 c);clear lt c;subst n;rw[Ro (Rm _),SP]at d;cases d;rw[h.pl];show#[by rw[Ro (Rm _),SP];rfl,i▸v]
 show aq (h.dn f) λa h1 m=>#[a,by rw[Ru (ai h1)];show h1,m]
theorem BL.ext(h:BL g U at_ as nd pend)(E:bF U UX):BL g UX at_ as nd pend:=#[h.nn,h.val,h.len,h.pl,h.pd,λa=>(h.dn a).imp λ_ k=>#[k.1,k.2.ext E]]
theorem BL.done(h:BL g U at_ as nd (p::pend))(r:tV U g p.a):BL g U (at_+1) as nd pend:=#[h.nn,h.val,h.len,(by let:=h.pl;rw[Rq]at this;show(SQ at_ pend.length).trans this),(λ{j q} e=>by
 let:=h.pd (j:=j+1) e;rw[SI,Sc 1 j];show this),λ{s} b=>by
 by_cases e:s=at_
 .subst e;show#[p.a,(h.pd (j:=0) rfl).1,r]
 show h.dn (Sj (R4 b) e)]
theorem HF{Nm Vc:Nat}:(KL Nm Vc epn nd as ((p::pend).flatMap B8)).Perm ((p.a,.inst 406 p.dd)::(p.dd,.attrs (KQ p.k (kX p.x) p.sym p.it p.mv p.rd))::KL Nm Vc epn nd as ((p.mv,.dict [] p.ep)::pend.flatMap B8)):=by show(SR [_,_] (B8 p) (pend.flatMap B8)).trans<|(SR [_] [_,_] _).trans (.cons _ (.cons _ (SR [_] [_,_] _)))
section
variable{h:Gh}{Vc Nm:Nat}(G:bh U g h)(Z:Sz g h)(W:WF g)(S:Sm g)(H:mZ g)(R:u7 U g h c fs)(Ib:cx U b 567 (PH h c Vc Nm))
include G Z W S H R Ib
theorem CE{Q:QV}(E:bF U U4)(O:aA U4 UY (KL Nm Vc epn nd as ((p::pend).flatMap B8)))(B:BL g U4 at_ as nd (p::pend))
  (q:∀epn nd as pend U4 UX,bF U U4->aA U4 UX (KL Nm Vc epn nd as (pend.flatMap B8))->BL g U4 (at_+1) as nd pend->Q .none UX):CC (n+6) 557 [.ref b,.ref p.a] UY Q:=by
 show ao (B.pd (j:=0) rfl) λha P=>?_;show EE P λi d l r ex hr hd=>?_;clear P;show ao ((O.perm HF).WK) λM u=>?_;let v:bq U4 p.a (.inst 406 p.dd) p.a=some (.inst 406 p.dd):=aB ..;let D:=E.trans M;generalize bq U4 p.a (.inst 406 p.dd)=WV at M u D v;clear O;change an tab (CC (n+5)) fu [some (.ref b),some (.ref p.a),none,none,none,none] UY (aW Q);let Ix {UX:aw} {it rd} (E:bF WV UX) (h:UX p.dd=some (.attrs (KQ p.k (kX p.x) p.sym it p.mv rd))):cx UX p.a 406 (KQ p.k (kX p.x) p.sym it p.mv rd):=#[p.dd,E _ _ v,h];let C:=D.trans u.ext;show aN<|dU<|aE (ag rfl) (Ib.ext C) (c9 rfl) rfl _<|dy (R.ext C).2.choose_spec.1 #[rfl,rfl] rfl<|aj<|aE (ag rfl) (Ix u.ext (u.get 0 rfl)) (dH rfl) rfl _ ?_;rw[ex];show FW (n:=n) (G.ext C) Z W (R.ext C) hr hd S λit UZ U3 I O2=>?_;let X:=u.app O2;show ah rfl<|aL X (X.ext _ _ v) (dH rfl) 1 rfl (Q7 rfl) rfl λVa t=>?_;let E4:=D.trans t.ext;show aN<|aG<|au<|aE (ag rfl) (Ib.ext E4) (c9 rfl) rfl _<|aj<|aE (ag rfl) (Ix t.ext (t.get 1 rfl)) (dH rfl) rfl _<|xt (G.ext E4) Z hr hd I (t.get 0 rfl) λrd rs T h1 h2 O5=>?_;let f:=t.app O5;show ah rfl<|aL f (f.ext _ _ v) (dH rfl) 2 rfl (Q7 rfl) rfl λXW O7=>?_;show bS (aA.W9 (m1:=[(rd,.list (ay rs)),(it,.list (ay UZ)),(p.dd,.attrs (KQ p.k (kX p.x) p.sym it p.mv rd))]) O7) λN L c O8=>?_;let z:=D.trans L;let hi:=Ix L (c _ (.tail _ (.tail _ (.head _))));let Y:=z.trans O8.ext;show aC<|aG<|au<|aE (ag rfl) (Ib.ext Y) (c9 rfl) rfl _<|aj<|aE (ag rfl) (hi.ext O8.ext) (dH rfl) rfl _<|yY (G.ext Y) Z W hr hd I (O8.ext _ _ (c _ (.tail _ (.head _)))) H λBh F al σ9 A O9=>?_;let BB:=B.ext (M.trans L);let eB:=O9.hd;let Oz:=O8.exts O9.ext;let zo:=Z.own;let za:al.length<=1000:=Gt (A.len W) (Gt Z.syms (dR rfl));show aR<|aK<|ah rfl<|l7 (O9.hd)<|oj al▸?_;let Ow:=O8.app O9;show c7 (a0:=none) (a1:=(p.ep,epn)) (a2:=([],nd)) (a3:=as) (a4:=pend) (λ_ x _ _ _ _=>[some (.ref b),some (.ref p.a),some (.ref Bh),x,none,none]) (λj _ e d as pend UX=>aA N UX ((Bh,.dict (dK kI kT al) F)::KL Nm Vc e.2 d.2 as ((p.mv,.dict (dK kI kI d.1) e.1)::pend.flatMap B8))/\BL g N at_ as d.2 (p::pend)/\d.1.length<=j) #[Ow,BB,Rm _] (λj=>j.1.hd) (λ{x e d as pend T} j=>?_) λ{j x x3 e d as pend T K} hx J go _=>Ip hx λ{y} hy=>cK rfl ?_
 .let zd:=j.2.2;rw[Lt]at zd;show ao ((j.1.tl.perm (SR [_,_] [_] _)).WK) λw Oe=>?_;show cy<|q _ _ _ _ _ _ (z.trans w) Oe ((j.2.1.ext w).done #[p.k,p.x,it,p.mv,rd,e.1,p.sym,d.1,rs,hi.ext w,aB ..,w _ _ (c _ (.head _)),Gt h1 I.len,λne=>?_]);show(Iz hr hd I h1 h2 A ne).imp id λk=>#[k.1,Sg (UQ ?_)];let:=zd;rw[k.2]at this;show this
 let O:=J.1;let o:=J.2.1;let zs:=o.len▸Gt (Jk o.nn o.val) zo;let zd:d.1.length<100000:=by let:=ai hy;let:=J.2.2;show Q5 this (Rc ‹j<al.length› (Gt za (dR rfl)))
 show gX (A.snd (s:=y.1) (y:=y.2.1) (m:=y.2.2) (Q4 hy)) λi' dd l' r' k1 k2 k3 σ=>?_;show ao σ λk4 _=>?_;clear σ;let hv:Lu g y.2.1:=#[i',dd+1,l',r',k4,k2,ai k3];let Wr:=c0 A.nd (Q4 hy);let En:=z.trans O.ext;show pe<|dU<|ah rfl<|dy (Ib.ext En) #[rfl,rfl] rfl<|au<|bH (d:=al) (g:=kT) (k:=y.1) qt (ag rfl) (ag rfl) O.hd Wr _<|aj<|ah rfl<|nZ (n:=n+3) (x:=y.2.1) (Ib.ext z) (O.perm (SR [_] [_,_] _)) o.len zs (λs hs=>?_) λhn p' Xa Wg hp f=>?_
 .show aE (ag rfl) (hi.ext O.ext) (dH rfl) rfl _<|ah rfl<|jB (O.get 3 rfl) (gj qt d.1 y.1) (by unfold dK;rw[List.length_map];show cY zd) ?_;rw[show eG (dK kI kI d.1) (kI y.1) (V.int ↑s)=dK kI kI (dQ d.1 y.1 s) from iU qt d.1];show bG<|go (b1:=(if iN (dK kI kI d.1) (kI y.1)=true then e.1 else e.1+1,e.2)) (b2:=(dQ d.1 y.1 s,d.2)) #[O.set 3 rfl _,o,Gt (kB ..) (Rj J.2.2)]
 show aE (ag rfl) (hi.ext f.ext) (dH rfl) rfl _<|ah rfl<|jB (f.get 6 rfl) (gj qt d.1 y.1) (by unfold dK;rw[List.length_map];show cY zd) ?_;rw[show eG (dK kI kI d.1) (kI y.1) (V.int ↑as.length)=dK kI kI (dQ d.1 y.1 as.length) from iU qt d.1];show bG<|go (b1:=(if iN (dK kI kI d.1) (kI y.1)=true then e.1 else e.1+1,Xa)) (b2:=(dQ d.1 y.1 as.length,d.2++[(y.2.1,as.length)])) (b4:=pend++[p']) #[(f.set 6 rfl (.dict (dK kI kI (dQ d.1 y.1 as.length)) _)).perm ?_,o.new hv hn p' hp,Gt (kB ..) (Rj J.2.2)];rw[UF];show(SR [_,_] (B8 p') _).trans ?_;show(S8).trans ?_;rw[show[p'].flatMap B8=B8 p' from RD _];show(SR [_,_] [_] _).append_right (B8 p')
end
variable{a ep VE ma:Nat}{d:TP}
def u6(U:aw)(g:Gm)(ma:Nat)(as:TN):Prop:=as.length<=1000/\(∀a∈as,tV U g a)/\∃ga Vc,cx U ma 525 [(40,.ref ga),(80,.ref Vc)]/\U Vc=some (.list (as.map .ref))
theorem u6.ext(h:u6 U g ma as)(E:bF U UX):u6 UX g ma as:=#[h.1,λa b=>(h.2.1 a b).ext E,h.2.2.imp λ_ h=>h.imp λ_ h=>#[h.1.ext E,E _ _ h.2]]
section
variable{h:Gh}{Q:QV}(G:bh U g h)(Z:Sz g h)(W:WF g)(S:Sm g)(H:mZ g)
include G Z W S H
theorem Gg(q:∀ma as UX,bF U UX->u6 UX g ma as->Q (.ref ma) UX):CC (n+9) 578 [.ref h.a] U Q:=by
 show aq W.zero λS0 h0 _=>?_;change an tab (CC (n+8)) uZ [some (.ref h.a),none] U (aW Q);show bB<|dU<|qu<|aj<|ah rfl λb σ ne e hd=>?_;let F:=f6 (c:=567) (.nil U) ne e hd;change an tab (CC (n+7)) iw [some (.ref b),some (.ref h.a),none] _ (aW _);show aN<|ah rfl<|ah rfl<|aL F (F.get 0 rfl) (c9 rfl) 1 rfl (Q7 rfl) rfl λU3 O2=>aN<|zI (n:=n+5) G Z W O2 (ag rfl) λc T fi fs Va A E=>ah rfl<|aL E (E.get 3 rfl) (c9 rfl) 4 rfl (Q7 rfl) rfl λVr O4=>aN<|bT λVc hS=>?_;let D:=O4.new hS (.list []);show ah rfl<|aL D (D.get 4 rfl) (c9 rfl) 5 rfl (Q7 rfl) rfl λC v=>aN<|dC λNm epn hN=>?_;let r:=v.new hN (.dict [] epn);show ah rfl<|aL r (r.get 5 rfl) (c9 rfl) 6 rfl (Q7 rfl) rfl λY O8=>bG #[rfl,?_];show bS (aA.W9 (m:=KL Nm Vc epn [] [] []) (O8.perm (S8 (l₁:=[_,_]) (l₂:=[_,_,_,_,_])))) λU4 J e o=>?_;let Ib:cx U4 b 567 (PH h c Vc Nm):=#[σ,e _ (.tail _ (.tail _ (.tail _ (.head _)))),e _ (.tail _ (.tail _ (.tail _ (.tail _ (.head _)))))];let R:u7 U4 g h c fs:=#[A,fi,#[T,e _ (.tail _ (.head _)),e _ (.tail _ (.tail _ (.head _)))],e _ (.head _)];let I:=G.ext J;let v0:Lu g (aX g 0 0):=#[0,0,_,_,rfl,h0,Rx _];show dy (Ib.ext o.ext) #[rfl,rfl] rfl<|pP ?_;change an tab (CC (n+7)) gA [some (.ref b),none,none,none,none] Y (aW Q);show dO<|dU<|ah rfl<|dy (Ib.ext o.ext) #[rfl,rfl] rfl<|au<|bW (bz (j7 (d:=0) I Z o.ext (ai h0) (aE (ag rfl) (Ib.ext o.ext) (c9 rfl) rfl) (am) (am))) bk _<|aj<|zz rfl<|nZ (n:=n+5) Ib o rfl (Rx _) (λs i=>by cases i) λ_ p X L N O9=>Np ?_;let M:=Z.own;show aZ (am)<|sk (a0:=0) (a1:=X) (a2:=([(aX g 0 0,0)],[p.a])) (a3:=[p]) (a4:=U4) (λa _ _ _ _=>[some (.ref b),some (.int (a:Nat)),none,none,none]) (λa _ _ _ _=>1000 - a) (λa ep d pend u UX=>bF U4 u/\aA u UX (KL Nm Vc ep d.1 d.2 (pend.flatMap B8))/\BL g u a d.2 d.1 pend) #[.refl _,O9.perm (.cons _ (.cons _ (by rw[RD];show .of_eq (RD _).symm))),#[RJ ..,λx hx=>by rw[Q6.mp hx];show v0,rfl,rfl,λ{j q} z=>?_,λi=>absurd i (SV _)]] λ{a ep d pend u UX} K j go rt=>?_
 .induction j with
  |zero=>cases z;show#[rfl,N▸v0]
  |succ j=>cases z
 show bP j λy O B=>?_;clear j;let zd:=Jk B.nn B.val;let zs:=B.len▸Gt zd M;let t:=Ib.ext (y.trans O.ext);show iE (ag rfl) (cR (l:=d.2) (f:=V.ref) (aE (ag rfl) t (c9 rfl) rfl) (O.get 1 rfl) (Gt zs (dR rfl))) _ #[λk=>?_,λk=>?_]
 .let k:=Sd.mp (RH k);induction pend with
  |nil=>show absurd k (by rw[<- B.pl];show Si _)
  |cons p pend=>
   show dO<|dU<|ah rfl<|dy t #[rfl,rfl] rfl<|aj<|aM (l:=d.2) (f:=V.ref) (aE (ag rfl) t (c9 rfl) rfl) (ag rfl) (O.get 1 rfl) (Gt zs (dR rfl)) (B.pd (j:=0) rfl).1 _<|CE (n:=n+1) I Z W S H R Ib y O B λepn nd as pend WU UX Ed O' B'=>fc<|aZ (ly (ag rfl) am)<|bG<|go (b2:=(nd,as)) #[Ed,O',B'] (Tu (Rc k zs) (Sq a))
 let ge:=R6 λk'=>R1 k (Sd.mpr k');show bB<|qu<|au<|aE (ag rfl) t (c9 rfl) rfl _<|aj<|aE (ag rfl) t (c9 rfl) rfl _ λma dm ne h1 P=>?_;let v:=f6 (c:=525) O ne h1 P;change an tab (CC (n+6)) fz [some (.ref ma),some (.ref h.a),some (.ref Vc)] _ (aW _);show aN<|ah rfl<|ah rfl<|aL v (v.get 0 rfl) (Bv rfl) 1 rfl (Q7 rfl) rfl λVD r=>aN<|ah rfl<|ah rfl<|aL r (r.get 0 rfl) (Bv rfl) 1 rfl (Q7 rfl) rfl λC O8=>bG #[rfl,q ma d.2 C ((J.trans y).trans O8.ext) #[zs,λa' w=>?_,h.a,Vc,#[dm,O8.get 0 rfl,O8.get 1 rfl],O8.get 3 rfl]];show az (RL.mp w) λs i=>aq (B.dn (Rc (ai i) ge)) λa2 e1 e2=>?_;rw[i]at e1;replace e1:=Is e1;cases e1;show e2.ext O8.ext
end
theorem F9{B:Bool->Prop}(h1:U a=some (.dict (dK kI kI d) ep))(b:U c=some (.dict [] VE))(q:B (d.length== 0)):jG U B .eq (.ref a) (.ref c):=by
 show GR h1 (gD b #[.inr rfl,#[.i,.inl rfl,λe he=>?_,λe he=>(n0 he)],?_])
 .show aq (Re.mp he) ?_;ext x _ rfl;show#[_,rfl]
 unfold dK;rw[List.length_map];show q
section
variable(ne:NE g)
include ne
theorem pD{Q:QV}(r:tV U g a)(q:∀UX,bF U UX->Q (.bool true) UX):CC (n+1) 403 [.ref a] U Q:=by
 show C6 r λk x it mv rd m=>?_;show gX m λWe sym VA rs h1 l h3 i=>?_;show ao i λj f=>?_;clear i;change an tab (CC n) cz [some (.ref a),none] U (aW Q);show fZ<|rD (aE (ag rfl) h1 (dH rfl) rfl) (.nil U) h3 λUY _ b=>#[λ_=>cB am (q _ b),λc=>aU ?_];rcases f ne with rfl|d
 .cases c
 show ao d ?_;clear d;clear f;ext e1 rfl;show bB<|jS<|As<|iW<|d7<|cR (aE (ag rfl) (h1.ext b) (dH rfl) rfl) (b _ _ h3) (Gt j (dR rfl)) _<|bi<|Jt #[λ_=>iW<|d7<|aE (ag rfl) (h1.ext b) (dH rfl) rfl _<|dC λc ep e=>F9 (cX (b _ _ l) e) (aB ..) #[λ_=>GB<|q _ (b.trans ((aA.nil UY).new e _).ext),nt],λh=>by rw[e1]at h;cases h]
theorem ub{Q:QV}(R:u6 U g ma as)(q:∀UX,bF U UX->Q (.bool true) UX):CC (n+3) 590 [.ref ma] U Q:=by
 show bP R λz e s=>?_;show ck s λga Vc hi hS=>?_;change an tab (CC (n+2)) j1 [some (.ref ma),none] U (aW Q);show bB<|jS<|d7<|aG<|aj<|ah rfl ?_;change an tab (CC (n+1)) dj [some (.ref ma)] U _;show bB<|bp<|aK<|aE (ag rfl) hi (Bv rfl) rfl _<|aI hS<|i8 (f:=id) (λ_ l UX=>bF U UX/\l=[]) (aH (Gt z (dR rfl))) #[.refl _,rfl] (λi=>i.1 _ _ hS) (λ{l UY} i c p=>?_) λ{k x l UY R} hx i _ goN=>?_
 .show ao i ?_;clear i;ext E rfl;change bj tab (CC (n+2)) (.list .nil 502556741677) [some (.ref ma),none] _ λv U2=>jG U2 (λb=>Q (.bool b) U2) .eq (.ref c) v;show bT λd hd=>kJ (cX (aB ..) hd) (aB ..) ?_;rw[cG];show q _ (E.trans (((aA.nil UY).new p _).new hd _).ext)
 show aq (bC hx) ?_;clear hx;ext a h rfl;let r:=(e a (Q4 h)).ext i.1;show C6 r λk1 u o m j t=>?_;show N3 t λ_ s1 _ _ h1 _=>?_;show iW<|wB<|m7<|dU<|ah rfl<|dy h1 #[rfl,rfl] rfl<|pP<|pD ne ((e a (Q4 h)).ext i.1) λU3 E=>j9 #[nf,λ_=>#[nf,λ_=>goN #[i.1.trans E,i.2]]]
end
end
section
variable{L:aQ}{e x y:E}{i j la many n:Nat}{m:TA}{p:Nat×Nat}{α:Type}{U U0:aw}
section
variable{C:CT}
theorem ve{p}(hx:Ev C L U x (.int i))(hy:Ev C L U y (.int j))(z:i<=2000\/j<=2000):Ev C L U (.bin .Mult x y p) (.int (i*j:Nat)):=λQ k=>hx _ (hy _ #[z,by rw[Int.natCast_mul]at k;show k])
theorem yh{p}(hx:Ev C L U x (.int i))(hy:Ev C L U y (.int j))(h0:0<j)(h1:j<=1000):Ev C L U (.bin .Mod x y p) (.int (i % j:Nat)):=λQ k=>hx _ (hy _ #[Sd.mpr h0,SU.mpr h1,k])
theorem JP{p}(hx:Ev C L U x (.int i))(hy:Ev C L U y (.int j))(h0:0<j)(h1:j<=1000):Ev C L U (.bin .FloorDiv x y p) (.int (i / j:Nat)):=λQ k=>hx _ (hy _ #[Sd.mpr h0,SU.mpr h1,k])
end
theorem Kw{Q:QV}{b:Bool}(q:Q (.int (if b=true then 1 else 0)) U):prim U Q .int [.bool b]:=q
noncomputable def jE(P:Nat)(p:Nat×Nat):Nat×O:=(P,.list (ay [p.1,p.2]))
section
variable{P:Nat}{Q:QV}
theorem Kq{l:TZ}(d:U la=some (.Wb (l.map .int)))(b:l.length<=63)(q:∀P p UX,aA U UX [jE P p]->Q (.ref P) UX):CC (n+1) 597 [.ref la] U Q:=by
 change an tab (CC n) qE [some (.ref la),none,none,none,none] U (aW Q);show aZ am<|aR<|aK<|v4<|ah rfl<|bi<|QJ d #[by decide,by rw[Lt];show n8 b rfl,λc f=>aI (aB ..) ?_];let h:=(aA.nil U).new f (.list ((l.map V.int).take 63));show jR (λ_ a k=>[some (.ref la),some (.int (k:Nat)),a,none,none]) (λ_ _ _ UX=>aA U UX [(c,.list ((l.map V.int).take 63))]) h (λj=>j.hd) (λ{a k U3} j=>?_) λ{k x a w U3 K} hx j go _=>?_
 .show bB<|bL<|au<|ah rfl<|aj<|bi #[aT,λP g=>q P (k,0) _ ((j.new g _).sub (.cons_cons _ (Se _)))]
 rw[<- List.map_take]at hx;show el hx λ{z} hz=>aC<|bv<|bv<|ve (ag rfl) (am (v:=.int ((1021:Nat):Int))) (.inr (dR rfl)) _<|bv<|bi<|aP<|aP<|ah rfl ?_;show#[.inl (dR rfl),uG<|aP<|jS<|iE (ag rfl) am _<|Kw<|uG<|bG ?_];let e:((w*1021:Nat):Int)+2*(z.natAbs:Int)+(if decide (z<0)=true then 1 else 0)=((w*1021+2*z.natAbs+(if decide (z<0)=true then 1 else 0):Nat):Int):=by
  split<;>simp
 rw[e];show go j
theorem iM(h0:0<many)(h1:many<=1000)(O:aA U0 U (jE P p::m))(q:∀d p' UX,d<many->aA U0 UX (jE P p'::m)->Q (.int (d:Nat)) UX):CC (n+1) 604 [.ref P,.int many] U Q:=by
 let i0 {C:CT} {L:aQ} {U:aw} {x:Nm} {a b:Nat} {pp q:Ps} (O:aA U0 U (jE P (a,b)::m)) k:Ev C L U (.item (.loc x) (.lit (.int 0) pp) q) (.int a):=aM (l:=[a,b]) (ag k) am O.hd (Q7 rfl) rfl;let i1 {C:CT} {L:aQ} {U:aw} {x:Nm} {a b:Nat} {pp q:Ps} (O:aA U0 U (jE P (a,b)::m)) (k:bJ L x.i=some (.ref P)):Ev C L U (.item (.loc x) (.lit (.int 1) pp) q) (.int b):=aM (l:=[a,b]) (ag k) am O.hd (Q7 rfl) rfl;change an tab (CC n) oM [some (.ref P),some (.int many),none] U (aW Q);let tl {a b:Nat} {U:aw} O:an tab (CC n) oN [some (.ref P),some (.int many),none] U (aW Q):=
  aZ (yh (i0 O rfl) (ag rfl) h0 h1)<|lB (l:=[a,b]) (JP (i0 O rfl) (ag rfl) h0 h1) (ag rfl) am O 0 rfl (Nat.zero_lt_succ _) (Q7 rfl) λUY c=>cB (ag rfl) (q (a % many) (a / many,b) UY (Nat.mod_lt _ h0) c)
 obtain⟨a,b⟩:=p;show eM (vj (i0 O rfl) am) (λ_=>?_) λ_=>aU<|tl O;show lB (l:=[a,b]) (ly (i1 O rfl) am) (ag rfl) am O 0 rfl (Sq 1) (Q7 rfl) λUY c=>lB (l:=[a,b+1]) (ly (ve am (i1 c rfl) (.inl (dR rfl))) am) (ag rfl) am c 0 rfl (Nat.zero_lt_succ _) (Q7 rfl) λU3 e=>aU<|tl e
theorem AI{f:α->V}{l:List α}{S:Nat}(h0:l≠[])(h1:l.length<=1000)(hS:∀{UX},aA U0 UX m->UX S=some (.list (l.map f)))(O:aA U0 U (jE P p::m))(q:∀z p' UX,z∈l->aA U0 UX (jE P p'::m)->Q (f z) UX):CC (n+2) 611 [.ref P,.ref S] U Q:=by let z:l.length<=100000:=Gt h1 (dR rfl);change an tab (CC (n+1)) oG [some (.ref P),some (.ref S),none,none] U (aW Q);show bB<|dW<|ah rfl<|aG<|au<|ah rfl<|aj<|cR (ag rfl) (hS O.tl) z _<|iM (List.length_pos_iff.mpr h0) h1 O λd p' UY hd a=>?_;let e:=Rg hd;show dz (hS a.tl) (aH (aO z)) (kq (by rw[RF,e];rfl)) (q _ p' UY (Q4 e) a)
end
def Mk(C:CT)(L:aQ)(U0:aw)(P:Nat)(m:TA)(e:E)(f:α->V)(l:List α):Prop:=∀{U:aw}{p:Nat×Nat}{Q:QV},aA U0 U (jE P p::m)->(∀S UY m1,aA U0 UY (jE P p::m1)->m.Sublist m1->(∀{U3},aA U0 U3 m1->U3 S=some (.list (l.map f)))->Q (.ref S) UY)->bj tab C e L U Q
structure PT(C:CT)(U0:aw)(P:Nat):Prop where
 draw:∀{m:TA}{many:Nat}{U:aw}{p:Nat×Nat}{Q:QV},0<many->many<=1000->aA U0 U (jE P p::m)->(∀d p' UX,d<many->aA U0 UX (jE P p'::m)->Q (.int (d:Nat)) UX)->C 604 [.ref P,.int many] U Q
 pick:∀{α:Type}{f:α->V}{l:List α}{m:TA}{S:Nat}{U:aw}{p:Nat×Nat}{Q:QV},l≠[]->l.length<=1000->(∀{UX},aA U0 UX m->UX S=some (.list (l.map f)))->aA U0 U (jE P p::m)->(∀z p' UX,z∈l->aA U0 UX (jE P p'::m)->Q (f z) UX)->C 611 [.ref P,.ref S] U Q
theorem Eg{P:Nat}:PT (CC (n+2)) U0 P:=#[λh0 h1 O q=>iM h0 h1 O q,λh0 h1 hS O q=>AI h0 h1 hS O q]
theorem Kt{P:Nat}:PT (Fr (CC (n+2))) U0 P:=#[λh0 h1 O q=>#[_,λ_ _ h=>h,iM h0 h1 O λd p' UX hd a U3 E _=>q d p' U3 hd (a.exts E)],λh0 h1 hS O q=>#[_,λ_ _ h=>h,AI h0 h1 hS O λz p' UX hz a U3 E _=>q z p' U3 hz (a.exts E)]]
theorem sF{f:α->V}{C:CT}{P:Nat}{Q:QV}{l:List α}(hC:PT C U0 P)(h0:l≠[])(h1:l.length<=1000)(r:0<many)(g:many<=1000)(hx:∀{U},Ev C L U x (.ref P))(hy:∀{U v},Ev C (L++[some v]) U y (.ref P))(he:∀{v},Mk C (L++[some v]) U0 P m e f l)(O:aA U0 U (jE P p::m))
  (q:∀c (l':List α) p' UX,l'.length<many->(∀z∈l',z∈l)->aA U0 UX ((c,.list (l'.map f))::jE P p'::m)->Q (.ref c) UX):bj tab C (.comp (.call 611 k (.cons y (.cons e .nil)) p1 p2) (.nm z) (.range (.call 604 D (.cons x (.cons (.lit (.int many) p3) .nil)) p4 p5) p6 p7) .nil sc p8) L U Q:=by
 show bp<|AG<|aG<|au<|hx _<|aj<|bi<|hC.draw r g O λd p1 UY hd B=>#[by rw[Int.natAbs_natCast];show aO (Gt (Rf hd) (Gt g (dR rfl))),?_];rw[Tj];show i8 (f:=f) (λk l' UX=>∃p,aA U0 UX (jE P p::m)/\l'.length<=k/\∀z∈l',z∈l) (by rw[Lt,RN];show Gt (Rf hd) (Gt g (dR rfl))) #[p1,B,Rm _,λ_ h=>n0 h] (λ_=>trivial) (λ{l' U3} i c s=>?_) λ{k x l' U3 R} hx i t _=>#[λ_=>aG<|au<|hy _<|aj ?_,nt]
 .show bS i λp j a b=>?_;rw[Lt,RN]at a;show q c l' p _ (Q5 a hd) b (j.new s _)
 show bS i λp j a b=>?_;show he j λS F m1 A n hS=>hC.pick h0 h1 hS A λw p' E o u=>t #[p',u.sub (.cons_cons _ n),by rw[Q9];show Rj a,λz hz=>(Ra.mp hz).elim (b z) λhz=>Q6.mp hz▸o]
end
section
variable{L:aQ}{N R a b fi i j k ma n:Nat}{e x y:E}{l:TV}{nm:TS}{Wp:Str}{Vd VZ x7 x9:TO}{α:Type}{U UY:aw}
noncomputable abbrev yd:=List (Str×List Str)
noncomputable abbrev sS:Str:="S"
noncomputable def fV:List Str:=["a","b","c"]
noncomputable def fJ:List Str:=["S","T","U"]
noncomputable def pV(e:Str×List Str):V:=.tup [.str e.1,.tup (e.2.map .str)]
structure Dw(nm:TS)(k b:Nat)(ps:yd):Prop where
 ok:∀e∈ps,e.1∈nm/\e.2.length<=3/\∀x∈e.2,x∈fV\/x∈nm
 wit:∀n∈nm.take k,∃p,(n,p)∈ps/\p≠[]/\∀x∈p,x∈fV
 len:ps.length<=b
 hd:∀e,ps.head?=some e->e.1=sS
theorem Dw.add{ps:yd}(h:Dw nm k b ps){e:Str×List Str}(h1:e.1∈nm)(c:e.2.length<=3)(h3:∀x∈e.2,x∈fV\/x∈nm)(a:ps=[]->e.1=sS):Dw nm k (b+1) (ps++[e]):=#[λx hx=>(Ra.mp hx).elim (h.ok x) λhx=>Q6.mp hx▸#[h1,c,h3],λn hn=>(h.wit n hn).imp λp k=>#[RE _ k.1,k.2],by rw[Q9];show Rj h.len,λx hx=>by
 induction ps with
 |nil=>cases hx;show a rfl
 |cons y ps=>show h.hd x hx]
theorem Dw.ne{ps:yd}(h:Dw nm k b ps)(d:nm[k]?=some Wp)(h0:nm[0]?=some sS):ps=[]->Wp=sS:=λe=>by
 cases k with
 |zero=>rw[d]at h0;show Is h0
 |succ k=>
  clear h0;induction nm with
  |nil=>(cases d)
  |cons a nm=>
   show aq (h.wit a (.head _)) λp c _=>?_;rw[e]at c;show n0 c
section
variable{C:CT}{Q:QV}
theorem eJ(hx:Ev C L U x (.int i))(hy:Ev C L U y (.int j)):Ev C L U (.bin .Add x y p) (.int (i+j:Nat)):=λQ k=>hx _ (hy _ k)
theorem FE(R:QV)(h1:∀v UX,R v UX->Q v UX)(a:(∀v UX,R v UX->Q v UX)->bj tab C e L U Q):bj tab C e L U Q:=a h1
theorem Ba(h:∀c,U c=none->Q (.ref c) (bq U c (.list (fV.map .str)))):bj tab C (.list (.cons (.lit (.str "a") p1) (.cons (.lit (.str "b") p2) (.cons (.lit (.str "c") p3) .nil))) p4) L U Q:=bL<|au<|bi<|au<|bi<|aj<|bi #[dD,h]
theorem Ei(h:U a=some (.list l))(z:l.length<=bu)(q:∀c,U c=none->Q (.ref c) (bq U c (.list (l.take i)))):AM U Q (.ref a) (.int i):=QG h #[Ry _,z,q]
theorem su{S:QP}(hx:Ev C L U x (.int k))(z:k<=100000)(s:S ((List.range k).map λ(i:Nat)=>V.int (i:Int)) (λ_=>True) U):gP tab C (.range x p q) L U S:=AG<|hx _ #[by rw[Int.natAbs_natCast];show aO z,by rw[Tj];show s]
theorem Kx{S:QP}(h:U a=some (.list l))(s:S (f9 l) (λU=>U a=some (.list l)) U):AP U (.ref a) S:=gL h s
theorem xm{f:α->V}{l:List α}{x:V}(h:(f9 (l.map f))[k]?=some x):∃y,l[k]?=some y/\x=.tup [.int k,f y]:=by show aq (bC h) ?_;clear h;ext b;obtain⟨v,j⟩:=b;ext e rfl;rw[List.getElem?_zipIdx]at e;show aq (SO.mp e) λu e1 e2=>?_;show aq (bC e1) ?_;clear e1 e;ext y e3 rfl;show yP e2 ?_;clear e2;ext a zd;cases a;cases zd;show#[y,e3,by rw[S9]]
theorem xl(l:TV):(f9 l).length=l.length:=by unfold f9;rw[List.length_map,List.length_zipIdx]
end
noncomputable abbrev O9:=Option V×Option V×Option V×Option V×Option V×Option V×Option V×Option V×Option V
noncomputable def GT(P N R:Nat)(x:O9):aQ:=[some (.ref P),some (.ref N),some (.ref R),x.1,x.2.1,x.2.2.1,x.2.2.2.1,x.2.2.2.2.1,x.2.2.2.2.2.1,x.2.2.2.2.2.2.1,x.2.2.2.2.2.2.2.1,x.2.2.2.2.2.2.2.2,none,none,none,none,none]
noncomputable def Bb(R:Nat)(ps:yd):List (Nat×O):=[(R,.list (ps.map pV))]
section
variable{P:Nat}(hN:U N=some (.list (nm.map .str)))(zn:nm.length<=3)(h0:nm[0]?=some sS)
include hN zn h0
theorem Pu{ps:yd}{p:Nat×Nat}{Q:QF}(o:nm[k]?=some Wp)(D:Dw nm k b ps)(t:b<1000)(O:aA U UY (jE P p::Bb R ps))
  (q:∀x9 Vd e p' UX,e.1=Wp->e.2≠[]->(j=0->∀x∈e.2,x∈fV)->Dw nm k (b+1) (ps++[e])->aA U UX (jE P p'::Bb R (ps++[e]))->Q .next (GT P N R (some (.int k),some (.str Wp),some (.int fi),some (.int ma),x7,some (.int j),x9,Vd,VZ)) UX):
  an tab (CC (n+2)) lP (GT P N R (some (.int k),some (.str Wp),some (.int fi),some (.int ma),x7,some (.int j),x9,Vd,VZ)) UY Q:=by
 show aC<|FE (λv U3=>∃S d,v=.ref S/\(d≠[]/\d.length<=6)/\(∀x∈d,x∈fV\/x∈nm)/\(j=0->∀x∈d,x∈fV)/\aA U U3 (jE P p::(S,.list (d.map .str))::Bb R ps)) (λv U3 ⟨S,d,u,z,h1,C,O⟩=>?_) λtl=>?_
 .subst u;show aC<|aP<|sF Eg (many:=3) z.1 (Gt z.2 (dR rfl)) (dR rfl) (dR rfl) (ag rfl) (ag rfl) (λO q=>ah rfl<|q S _ _ O (.refl _) λa=>a.get 0 rfl) O λc l' p' E w hz m=>?_;let r:(l'.map V.str).length<=bu:=aH (aO (Gt (Rf w) (dR rfl)));show l6 m.hd r<|dO<|cb<|ah rfl #[cg (m.get 3 rfl),aj<|cS<|au<|ah rfl<|aj<|bv<|cS<|aj<|dW<|Ba λA i=>?_];let l:=m.new i (.list (fV.map .str));let lt:(fi+j) % 3<fV.length:=Nat.mod_lt _ (dR rfl);let f:=Rg lt;let ma:=Q4 f;generalize fV[(fi+j) % 3]=s at f ma;show yh (j:=3) (eJ (ag rfl) (ag rfl)) am (dR rfl) (dR rfl) _<|dz l.hd (aH (n8 (Q7 rfl:fV.length<=3) rfl)) (kq (by rw[RF,f];rfl)) #[bk,ah rfl<|yU (by rw[Lt];show aO (by rw[RG];lia)) #[aT,dF (l.get 4 rfl) (by rw[Lt];show cY (Q5 D.len (Tf t (dR rfl))))<|fc<|bG<|q (some (.ref S)) (some (.tup (l'.map .str))) (Wp,s::l') p' _ rfl (λh=>(nC h)) (λe x hx=>?_) (D.add (Q4 o) ?_ (λx hx=>?_) (D.ne o h0)) ?_]]
  .clear f;rcases RB.mp hx with rfl|hx
   .show ma
   show C e x (hz x hx)
  .rw[Rq];assumption
  .clear f;rcases RB.mp hx with rfl|hx
   .show .inl ma
   show h1 x (hz x hx)
  unfold Bb;rw[Rd];show(l.set 4 rfl _).sub (.cons _ (.cons _ (.cons_cons _ (.cons _ (.refl _)))))
 show bv<|Ba λA i=>xn<|yo (ag rfl) am _ #[λc=>?_,λc=>?_]
 .let g:=O.new i (.list (fV.map .str));show ah rfl<|bI g.hd (g.ext _ _ hN) (by rw[Lt,Lt];show aO (by let:fV.length=3:=rfl;lia)) λS hS=>?_;rw[<- Rd];let a:=g.new hS (.list ((fV++nm).map .str));show tl _ _ #[S,fV++nm,rfl,#[(λh=>(by cases h)),?_],(λx hx=>Ra.mp hx),(λe=>?_),(a.sub (.cons_cons _ (.cons _ (.refl _)))).perm (.swap ..)]
  .rw[Q9];let:fV.length=3:=rfl;lia
  clear tl q;subst e;show absurd c (dR rfl)
 let g:=O.new i (.list (fV.map .str));show bT λB y=>?_;let a:=g.new y (.list []);show bI (a.get 1 rfl) a.hd (by rw[Lt];show aO (dR rfl)) λS hS=>?_;rw[RD];show tl _ _ #[S,fV,rfl,#[(λh=>(by cases h)),Q7 rfl],(λx hx=>.inl hx),(λ_ _ h=>h),((a.new hS _).sub (.cons_cons _ (.cons _ (.cons _ (.refl _))))).perm (.swap ..)]
end
variable{p:Nat×Nat}{ps:yd}{x5 x6 x8:TO}{U0:aw}
theorem Dw.a0q(h:Dw nm k b ps)(a:nm[k]?=some Wp)(w:∃p,(Wp,p)∈ps/\p≠[]/\∀x∈p,x∈fV)(c:b<=b'):Dw nm (k+1) b' ps:=#[h.ok,λn hn=>by
 rw[ax a]at hn;rcases Ra.mp hn with hn|hn
 .show h.wit n hn
 rw[Q6.mp hn];show w,Gt h.len c,h.hd]
structure Dr(ps:yd):Prop where
 ok:∀e∈ps,e.1∈fJ/\e.2.length<=3/\∀x∈e.2,x∈fV\/∃p,(x,p)∈ps
 wit:∀e∈ps,∃p,(e.1,p)∈ps/\p≠[]/\∀x∈p,x∈fV
 len:ps.length<=9
 hd:∃p r,ps=(sS,p)::r
theorem NU:fJ.length=3:=rfl
theorem Dw.done(h:Dw nm nm.length 9 ps)(d:∀x∈nm,x∈fJ)(h0:nm[0]?=some sS):Dr ps:=by
 let w:=h.wit;rw[RI]at w;show#[λe he=>?_,λe he=>w _ (h.ok e he).1,h.len,?_]
 .show bP (h.ok e he) λa b c=>#[d _ a,b,λx hx=>(c x hx).imp id λk=>(w x k).imp λ_ k=>k.1]
 induction ps with
 |nil=>show aq (w sS (Q4 h0)) λp f _=>?_;show n0 f
 |cons e r=>show#[e.2,r,by rw[<- h.hd e rfl]]
section
variable{P:Nat}(hN:U N=some (.list (nm.map .str)))(zn:nm.length<=3)(h0:nm[0]?=some sS)
include hN zn h0
theorem Po{kd:Nat}{Q:QF}(r:nm[k]?=some Wp)(D:Dw nm (k+1) b ps)(s:b<1000)(O:aA U UY (jE P p::Bb R ps))(t:kd≠0)
  (q:∀x ps p' UX,Dw nm (k+1) (b+1) ps->aA U UX (jE P p'::Bb R ps)->Q .next (GT P N R x) UX):
  an tab (CC (n+2)) lO (GT P N R (some (.int k),some (.str Wp),some (.int fi),some (.int ma),some (.int kd),x8,x9,Vd,VZ)) UY Q:=by
 show cC (dr (yo (ag rfl) am) λ_=>iE (eJ (i:=k) (j:=1) (ag rfl) am) (cR (l:=nm) (ag rfl) (O.ext _ _ hN) (Gt zn (dR rfl)))) (λc=>?_) λ_=>bE<|q _ ps p _ #[D.ok,D.wit,Tr D.len,D.hd] O;let lt:=Sd.mp (RH (R8.mp c).2);let e1:=Rg lt;let m1:=Q4 e1;generalize nm[k+1]=nx at e1 m1;let d:nm.length<=100000:=Gt zn (dR rfl);show aZ (yj (z2:=nx) (vj (ag rfl) am) (λ_=>am) λ_=>aM (l:=nm) (f:=V.str) (ag rfl) (eJ (i:=k) (j:=1) (ag rfl) am) (O.ext _ _ hN) d e1) ?_;let h:(bif decide ((kd:Int)=1) then("c":Str) else nx)∈fV\/(bif decide ((kd:Int)=1) then("c":Str) else nx)∈nm:=by
  cases decide ((kd:Int)=1)with
  |true=>show .inl (.tail _ (.tail _ (.head _)))
  |false=>show .inr m1
 generalize (bif decide ((kd:Int)=1) then("c":Str) else nx)=fr at h;show aC<|aP<|sF (Eg (n:=n)) (P:=P) (p:=p) (f:=V.str) (l:=nm++fV) (λe=>nC (List.append_eq_nil_iff.mp e).2) (by rw[Q9];let:fV.length=3:=rfl;show Gt (RS zn (RW this)) (dR rfl)) (dR rfl) (dR rfl) (ag rfl) (ag rfl) (λ{v U3 p2 z} O q=>bv<|ah rfl<|Ba λA u=>?_) O λc l' p' y o hz a=>?_
 .let g:=O.new u (.list (fV.map .str));show bI (g.ext _ _ hN) g.hd (by rw[Lt,Lt];show aO (by let:fV.length=3:=rfl;show Gt (RS zn (RW this)) (dR rfl))) λS hS=>?_;rw[<- Rd];let w:=g.new hS (.list ((nm++fV).map .str));show q S _ _ ((w.sub (.cons_cons _ (.cons _ (.refl _)))).perm (.swap ..)) (T4 ..) λO=>O.hd
 let d:(l'.map V.str).length<=bu:=aH (aO (Gt (Rf o) (dR rfl)));show l6 a.hd d<|dO<|cb<|ah rfl #[cg (a.get 2 rfl),aj<|cS<|au<|ah rfl<|aj<|bv<|cS<|aj<|ah rfl #[bk,ah rfl<|yU (by rw[Lt];show aO (by rw[RG];show Gt (Rb (Rf o) 1) (dR rfl))) #[aT,dF (a.get 2 rfl) (by rw[Lt];show cY (Q5 D.len (Tf s (dR rfl))))<|fc<|bE<|q (some (.int k),some (.str Wp),some (.int fi),some (.int ma),some (.int kd),x8,x9,some (.tup (l'.map .str)),some (.str fr)) (ps++[(Wp,fr::l')]) p' _ (D.add (Q4 r) ?_ (λx hx=>?_) λe=>?_) ?_]]]
 .rw[Rq];show Gt ‹_› (dR rfl)
 .rcases RB.mp hx with rfl|hx
  .show h
  show(Ra.mp (hz x hx)).symm
 .show aq (D.wit Wp (by rw[ax r];show Rk _ (.head _))) λp m _=>?_;rw[e]at m;show n0 m
 unfold Bb;rw[Rd];show(a.set 2 rfl _).sub (.cons _ (.cons_cons _ (.cons_cons _ (.refl _))))
theorem Pn{kd:Nat}{Q:QF}(a:nm[k]?=some Wp)(D:Dw nm (k+1) b ps)(d:b<1000)(O:aA U UY (jE P p::Bb R ps))
  (q:∀x ps p' UX,Dw nm (k+1) (b+1) ps->aA U UX (jE P p'::Bb R ps)->Q .next (GT P N R x) UX):
  an tab (CC (n+2)) lN (GT P N R (some (.int k),some (.str Wp),some (.int fi),some (.int ma),some (.int kd),x8,x9,Vd,VZ)) UY Q:=by
 show eM (vj (ag rfl) (am (v:=.int ((0:Nat):Int)))) (λc=>?_) λc=>aU<|Po hN zn h0 a D d O (λe=>c (by rw[e])) q;let c:=R5.mp c;subst c;show de (z:=(Wp,[])) (ag rfl) (bW (be (ag rfl) (bz (bW Ak (Rx _)))) aT) O 1 rfl (Q5 D.len (Tf d (dR rfl))) λU3 g=>aU<|cC (dr (c:=true) (yo (ag rfl) am) λh=>absurd h (dR rfl)) (λh=>absurd h (dR rfl)) λ_=>bE<|q _ _ p _ (D.add (Q4 a) (Rx _) (λx h=>absurd h List.not_mem_nil) λe=>?_) g;show aq (D.wit Wp (by rw[ax a];show Rk _ (.head _))) λp f _=>?_;rw[e]at f;show n0 f
theorem Pk{Q:QF}(d:nm[k]?=some Wp)(D:Dw nm k b ps)(f:b<900)(O:aA U UY (jE P p::Bb R ps))
  (q:∀x ps p' UX,Dw nm (k+1) (b+3) ps->aA U UX (jE P p'::Bb R ps)->Q .next (GT P N R x) UX):
  an tab (CC (n+2)) lM (GT P N R (some (.int k),some (.str Wp),x5,x6,x7,x8,x9,Vd,VZ)) UY Q:=by
 show gG<|cS<|au<|aG<|au<|ah rfl<|aj<|bi<|iM (dR rfl) (dR rfl) O λfi p1 U3 _ o=>au<|bv<|bi<|aG<|au<|ah rfl<|aj<|bi<|iM (dR rfl) (dR rfl) o λma p2 s a m=>uG<|aj<|aG<|au<|ah rfl<|aj<|bi<|iM (dR rfl) (dR rfl) m λkd p3 r _ l=>#[dD,?_];show aR<|su (ag rfl) (Gt (Rb (Rf a) 1) (dR rfl))<|eY (a1:=ps) (a2:=(x9,Vd)) (a3:=x8) (λ_ _ _ x x8=>GT P N R (some (.int k),some (.str Wp),some (.int fi),some (.int ((1+ma):Int)),some (.int kd),x8,x.1,x.2,VZ)) (λj p ps _ _ UX=>aA U UX (jE P p::Bb R ps)/\Dw nm k (b+j) ps/\(0<j->∃p,(Wp,p)∈ps/\p≠[]/\∀x∈p,x∈fV)) #[l,D,λh=>absurd h (Si 0)] (λ_=>trivial) (λ{p ps x x8 g} j=>?_) λ{j x p ps x9 x8 g K} hx i go _=>?_
 .rw[Lt,RN]at j;show yO<|Pn hN zn h0 d (j.2.1.a0q d (j.2.2 (Rc (dR rfl) (Ri 1 ma))) (b':=b+2) (Rb (Rb (R4 a) 1) b)) (Rc (Nat.add_lt_add_right f 2) (dR rfl)) j.1 λx ps p' UX D O=>q x ps p' UX D O
 show ao (rT hx) ?_;clear hx;ext _ rfl;show cK rfl<|Pu (j:=j) hN zn h0 d i.2.1 (Rc (Nat.add_lt_add f (Rc ‹_› (Rb (Rf a) 1))) (dR rfl)) i.1 λx9 Vd e p' UX e1 e2 e3 D O=>go (b2:=(x9,Vd)) #[O,D,λ_=>?_];by_cases c:j=0
 .show#[e.2,Rk _ (by rw[<- e1];show .head _),e2,e3 c]
 show(i.2.2 (Nat.pos_of_ne_zero c)).imp λ_ k=>#[RE _ k.1,k.2]
end
theorem FH{P:Nat}{Q:QV}(O:aA U0 U [jE P p])(q:∀R ps p' UX,Dr ps->aA U0 UX (jE P p'::Bb R ps)->Q (.ref R) UX):CC (n+3) 616 [.ref P] U Q:=by
 change an tab (CC (n+2)) lL [some (.ref P),none,none,none,none,none,none,none,none,none,none,none,none,none,none,none,none] U (aW Q);show aC<|v4<|bL<|au<|bi<|au<|bi<|aj<|bi #[dD,λA r=>bv<|bi<|aG<|au<|ah rfl<|aj<|bi<|iM (dR rfl) (dR rfl) ((O.new r (.list (fJ.map .str))).perm (.swap ..)) λi p1 UY hi l=>uG<|?_];show Ei (l.get 1 rfl) (aH (Q7 rfl)) λN hN=>?_;rw[<- List.map_take];let t:=l.new hN (.list ((fJ.take (1+i)).map .str));show ao t.WK λo s=>?_;let a:bq U0 N (.list ((fJ.take (1+i)).map .str)) N=some (.list ((fJ.take (1+i)).map .str)):=aB ..;let g:=s.sub (.cons_cons _ (Se _));let c:∀{UX m},aA (bq U0 N (.list ((fJ.take (1+i)).map .str))) UX m->aA U0 UX m:=λO=>#[o.trans O.ext,O.nd,λx hx=>o.none (O.fr x hx),O.at_];generalize bq U0 N (.list ((fJ.take (1+i)).map .str))=U4 at g a c;let zn:(fJ.take (1+i)).length<=3:=Gt (List.length_take_le' ..) (Q7 rfl);let h0:(fJ.take (1+i))[0]?=some sS:=by rw[Sc];rfl
 show gE g λR v f=>aR<|I0<|ah rfl<|Kx (f.ext _ _ a)<|eZ (a0:=(none,none,none,none,none,none,none,none,none)) (λ_ x _ _=>GT P N R x) (λk _ p ps UX=>aA U4 UX (jE P p::Bb R ps)/\Dw (fJ.take (1+i)) k (3*k) ps) #[f.perm (.swap ..),(λ_ h=>n0 h),(λn hn=>by rw[SF]at hn;show n0 hn),Rm _,λe he=>(by cases he)] (λj=>j.1.ext _ _ a) (λ{x p ps d} j=>cB (ag rfl)<|q R ps p d ?_ (c j.1)) λ{k x y p ps d K} hx j go _=>?_
 .rw[xl,Lt]at j;show Dw.done #[j.2.ok,j.2.wit,Gt j.2.len (RV 3 zn),j.2.hd] (λx=>TK) h0
 show aq (xm hx) ?_;clear hx;ext u b rfl;let:=ai b;show cK rfl<|Pk a zn h0 b j.2 (Q5 (RV 3 (Gt (Rf this) zn)) (dR rfl)) j.1 λx ps p' UX D O=>go #[O,D]
end
section
variable{L:aQ}{e elt x:E}{p:Ps}{α β γ:Type}{κ:DK}{U:aw}{φ:FK}
theorem Da:lT .s V.str:=#[λa=>#[a,rfl],λ{a b} h=>V.str.inj h]
theorem rY[DecidableEq α]{f:α->V}(E:lT κ f)(l:List α)(x:α):((l.map f).any λv=>V.VI v (f x))=decide (x∈l):=by
 rw[List.any_map];induction l with
 |nil=>rfl
 |cons y l a=>
  rw[Ux,a];change(V.VI (f y) (f x) || _)=_;rw[E.beq];by_cases c:x=y
  .subst c;simp
  simp[c]
section
variable[DecidableEq α]{f:α->V}{C:CT}
theorem Ar{l:List α}{z:α}(E:lT κ f)(b:∀a,φ.is (f a))(he:Ev C L U e (f z))(hx:Ev C L U x (.ref a))(h:U a=some (.list (l.map f))):Tv C L U (.cmp .isin e x p) (decide (z∈l)):=λQ q=>he _ (hx _ (by
 show C8 h #[#[φ,b z,λv c=>by show aq (Re.mp c) ?_;ext y _ rfl;show b y],by erw[rY E];show q]))
theorem iC{l:List α}{z:α}(E:lT κ f)(b:∀a,φ.is (f a))(he:Ev C L U e (f z))(hx:Ev C L U x (.ref a))(h:U a=some (.list (l.map f))):Tv C L U (.cmp .Vi e x p) (!decide (z∈l)):=λQ q=>he _ (hx _ (by
 show C8 h #[#[φ,b z,λv c=>by show aq (Re.mp c) ?_;ext y _ rfl;show b y],by erw[rY E];show q]))
theorem L6{l:List α}{z:α}(E:lT κ f)(b:∀a,φ.is (f a))(he:Ev C L U e (f z))(hx:Ev C L U x (.tup (l.map f))):Tv C L U (.cmp .isin e x p) (decide (z∈l)):=λQ q=>he _ (hx _ #[#[φ,b z,λv c=>by show aq (Re.mp c) ?_;ext y _ rfl;show b y],by erw[rY E];show q])
theorem JU{l:List α}{z:α}(E:lT κ f)(b:∀a,φ.is (f a))(he:Ev C L U e (f z))(hx:Ev C L U x (.tup (l.map f))):Tv C L U (.cmp .Vi e x p) (!decide (z∈l)):=λQ q=>he _ (hx _ #[#[φ,b z,λv c=>by show aq (Re.mp c) ?_;ext y _ rfl;show b y],by erw[rY E];show q])
theorem Fy(s:Str):FK.s.is (.str s):=#[s,rfl]
theorem Dz{s t:Str}(he:Ev C L U e (.str s))(hx:Ev C L U x (.str t)):Tv C L U (.cmp .eq e x p) (decide (s=t)):=λQ q=>he _ (hx _ q)
theorem Dx{s t:Str}(he:Ev C L U e (.str s))(hx:Ev C L U x (.str t)):Tv C L U (.cmp .ne e x p) (!decide (s=t)):=λQ q=>he _ (hx _ q)
theorem ff{f:β->V}{xs:List β}{g:aw->Prop}{pr:β->Bool}{n:Nm}{t:T}{K:List V->aw->Prop}(z:xs.length<=100000)(a:g U)(h:∀{y},y∈xs->Tv C (L++[some (f y)]) U t (pr y))(he:∀{y},Ev C (L++[some (f y)]) U elt (f y))(k:K ((xs.filter pr).map f) U):hG g (tw C elt (.nm n) (.cons t .nil) L) (xs.map f) [] U K:=by
 show i8 (f:=f) (λk l UX=>UX=U/\l=(xs.take k).filter pr) (aH z) #[rfl,rfl] (λi=>i.1▸a) (λ{l UX} i=>?_) λ{k x l UX R} hx i b goN=>?_
 .show ao i ?_;clear i;clear he h;ext rfl rfl;rw[Lt,RI];show k
 show ao i ?_;clear i;ext rfl rfl;show aq (bC hx) ?_;clear hx;ext y hy rfl;show NF (h (Q4 hy)) (λ_=>he) (λc=>b #[rfl,?_]) λc=>goN #[rfl,?_]
 .rw[ax hy,T8,UD,RO c];rfl
 rw[ax hy,T8,UD,RX (by rw[c];show nf)];show(RD _).symm
theorem Bl{f:γ->V}{fo:β->V}{xs:List γ}{g:aw->Prop}{ho:γ->β}{n:Nm}{K:List V->aw->Prop}(z:xs.length<=100000)(a:g U)(he:∀{y},y∈xs->Ev C (L++[some (f y)]) U elt (fo (ho y)))(k:K ((xs.map ho).map fo) U):hG g (tw C elt (.nm n) .nil L) (xs.map f) [] U K:=by
 show i8 (f:=fo) (λk l UX=>UX=U/\l=(xs.take k).map ho) (aH z) #[rfl,rfl] (λi=>i.1▸a) (λ{l UX} i=>?_) λ{k x l UX R} hx i b goN=>?_
 .show ao i ?_;clear i;clear he;ext rfl rfl;rw[Lt,RI];show k
 show ao i ?_;clear i;clear goN;ext rfl rfl;show aq (bC hx) ?_;clear hx;ext y hy rfl;show Ju (he (Q4 hy)) (b #[rfl,by rw[ax hy,Rd];rfl])
theorem om{f:γ->V}{g:β->V}(d:List (γ×β)):(dK f g d).map (·.1)=(d.map (·.1)).map f:=by unfold dK;rw[List.map_map,List.map_map];rfl
noncomputable def mY(l:List (α×β)):List (α×β):=l.foldl (λa e=>dQ a e.1 e.2) []
theorem Le{g:β->V}(E:lT κ f)(l:List (α×β)):∀acc:List (α×β),cT (l.map λe=>.tup [f e.1,g e.2]) (dK f g acc)=some (dK f g (l.foldl (λa e=>dQ a e.1 e.2) acc)):=by
 induction l with
 |nil=>show λ_=>rfl
 |cons x l b=>show λacc=>(Rs (cT _) (iU E acc)).trans (b _)
theorem v5(l:List (α×β)):((mY l).map (·.1)).Nodup/\(mY l).length<=l.length/\∀k,k∈(mY l).map (·.1)↔k∈l.map (·.1):=by
 let:∀(l acc:List (α×β)),(acc.map (·.1)).Nodup->((l.foldl (λa e=>dQ a e.1 e.2) acc).map (·.1)).Nodup/\(l.foldl (λa e=>dQ a e.1 e.2) acc).length<=acc.length+l.length/\∀k,k∈(l.foldl (λa e=>dQ a e.1 e.2) acc).map (·.1)↔k∈acc.map (·.1)\/k∈l.map (·.1):=by
  ext l;induction l with
  |nil=>show λacc h=>#[h,Rm _,λk=>#[.inl,λh=>h.elim id λh=>(n0 h)]]
  |cons x l d=>
   show λacc h=>bP (d (dQ acc x.1 x.2) (pu h _)) λa b c=>#[a,Gt b ?_,λk=>(c k).trans ?_]
   .rw[Rq,<- SQ];show Rv (kB ..) _
   erw[sB,Sb,RB];cases e:(acc.lookup x.1).isSome with
   |true=>
    rw[Ua];show#[λh=>h.imp id .inr,λh=>h.elim .inl λh=>h.elim (λh=>.inl ?_) .inr];show az (Sh.mp e) λv g=>?_;rw[h];show Rn (f:=(·.1)) (cq g)
   |false=>erw[Ui,Ra,Q6,or_assoc]
 show bP (this l [] .nil) λa b c=>#[a,by rw[Tm,S9]at b;show b,λk=>(c k).trans #[λh=>h.elim (λh=>(n0 h)) id,.inr]]
theorem vA{g:β->V}{l:List (α×β)}{Q:QV}(E:lT κ f)(h:U a=some (.list (l.map λe=>.tup [f e.1,g e.2])))(z:l.length<=100000)(q:∀c ep,U c=none->Q (.ref c) (bq U c (.dict (dK f g (mY l)) ep))):prim U Q .dict [.ref a]:=by show gO (show vp U (.ref a)=_ by unfold vp;dsimp only;rw[h]) #[#[κ,λe he=>?_],aH (aO z),_,Le E l [],q];show aq (Re.mp he) ?_;clear he;ext y _ rfl;show#[_,_,rfl,E.is _]
end
end
section
variable{L:aQ}{R n:Nat}{e:E}{ln:TS}{ps:yd}{U:aw}
theorem K5{x:Str}(h:x∈fV\/x∈fJ):∃c,x.cps.toList=[c]/\decide (c∈("STU":Str).cps.toList)=decide (x∈fJ):=by
 let:∀x∈fV++fJ,∃c∈x.cps.toList,x.cps.toList=[c]/\decide (c∈("STU":Str).cps.toList)=decide (x∈fJ):=by decide +kernel
 show aq (this x (Ra.mpr h)) λc _ h=>#[c,h]
theorem L4{C:CT}{x:Str}(h:x∈fV\/x∈fJ)(he:Ev C L U e (.str x)):Tv C L U (.cmp .isin e (.lit (.str "STU") p1) p) (decide (x∈fJ)):=λQ q=>he _ (by
 show aq (K5 h) λc e1 e2=>?_;change(match x.cps.toList with|[c]=>Q (decide (c∈("STU":Str).cps.toList)) U|_=>False);rw[e1];dsimp only;rw[e2];show q)
structure Lq(ps:yd)(ln:TS):Prop where
 nd:ln.Nodup
 sub:∀x∈ln,x∈fJ
 s:sS∈ln
theorem Lq.len(h:Lq ps ln):ln.length<=3:=h.nd.length_le_of_subset λx hx=>h.sub x hx
def Qx(ps:yd)(ln:TS)(n:Str):Prop:=∀e∈ps,e.1=n->∀x∈e.2,x∈fJ->x∈ln
theorem Dr.filter(D:Dr ps)(h:sS∈ln)(k:∀n∈ln,Qx ps ln n):Dr (ps.filter λe=>decide (e.1∈ln)):=by
 let mem {e}:e∈ps.filter (λe=>decide (e.1∈ln))↔e∈ps/\e.1∈ln:=Sa.trans (Ub λ_=>decide_eq_true_iff);show#[λe he=>?_,λe he=>?_,Gt (ST ..) D.len,?_]
 .show ao (mem.mp he) λa b=>bP (D.ok e a) λc d f=>#[c,d,λx hx=>(f x hx).imp id (by ext i;show az i λp g=>#[p,mem.mpr #[g,k _ b e a rfl x hx (D.ok _ g).1]])]
 .show ao (mem.mp he) λa b=>(D.wit e a).imp λp h=>#[mem.mpr #[h.1,b],h.2]
 show uJ D.hd ?_;clear mem k;ext p r rfl;show#[p,_,List.filter_cons_of_pos (SW h)]
noncomputable def Qd(R a at_:Nat)(x3 x4:TO):aQ:=[some (.ref R),some (.ref a),some (.int at_),x3,x4,none,none]
theorem Cn{Q:QV}(hR:U R=some (.list (ps.map pV)))(D:Dr ps)(q:∀c v UX,Dr v->aA U UX [(c,.list (v.map pV))]->Q (.ref c) UX):CC (n+1) 621 [.ref R] U Q:=by
 let Y:ps.length<=100000:=Gt D.len (dR rfl);change an tab (CC n) jW [some (.ref R),none,none,none,none,none,none] U (aW Q);show gG<|cS<|au<|bL<|aj<|bi #[bk,λg hL=>aj<|bi #[aT,?_]];let O1:=(aA.nil U).new hL (.list ([sS].map .str));show DN (a2:=(none,none)) (a3:=[sS]) (λg a x _=>Qd R g a x.1 x.2) (λ_ a _ _=>3 - a) (λg a _ ln UX=>aA U UX [(g,.list (ln.map .str))]/\Lq ps ln/\∀n∈ln.take a,Qx ps ln n) #[O1,#[RJ ..,λx hx=>by rw[Q6.mp hx];show .head _,.head _],λn hn=>by rw[SF]at hn;show n0 hn] λ{g a x ln UY K} j go rt=>?_;show bP j λO I cl=>?_;clear j;let L:=I.len;show iE (ag rfl) (cR (ag rfl) O.hd (Gt L (dR rfl))) _ #[λc=>?_,λc=>?_]
 .let c:=Sd.mp (RH c);let G:=Rg c;generalize ln[a]=nx at G;show aR<|aK<|ah rfl<|aI (O.ext _ _ hR)<|eY (λ_ g x3 x4 _=>Qd R g a x3 x4) (λk g _ _ u UX=>aA U UX [(g,.list (u.map .str))]/\Lq ps u/\(∃t,u=ln++t)/\∀e∈ps.take k,e.1=nx->∀x∈e.2,x∈fJ->x∈u) #[O,I,#[[],(RD _).symm],λe he=>by rw[SF]at he;show n0 he] (λj=>j.1.ext _ _ hR) (λ{g x3 x4 u U3} j=>?_) λ{k x g x3 x4 u U3 K} hx j go' _=>Ip hx λ{e} he=>cK rfl ?_
  .show t9 j ?_;clear j;ext C i σ;show az σ ?_;clear σ;ext t rfl;ext B;rw[Lt,RI]at B;show aZ (ly (ag rfl) am)<|bG<|go (b2:=(x3,x4)) #[C,i,λm r=>?_] (Nat.sub_succ_lt_self _ _ (Rc c L));rw[Uu c,ax G]at r;rcases Ra.mp r with r|r
   .show λe he e1 x hx o=>RE _ (cl m r e he e1 x hx o)
   rw[Q6.mp r];show B
  show t9 j ?_;clear j;ext C i W;show az W ?_;clear W;ext t rfl;ext B;let em:=Q4 he;let P:=(D.ok e em).2.1;show eM (Dz (ag rfl) (aM (ag rfl) (ag rfl) C.hd (Gt i.len (dR rfl)) (by rw[Ru c];show G))) (λe1=>?_) λe1=>bE<|go' #[C,i,#[t,rfl],λH d e2=>?_]
  .show aC<|bv<|ah rfl<|bp<|aK<|aP<|bp<|aK<|ah rfl<|jF<|Bl (ho:=λs=>(s,true)) (fo:=λe:Str×Bool=>.tup [.str e.1,.bool e.2]) (Gt P (dR rfl)) trivial (λ_=>bW (be (ag rfl) (bz am)) aT) λA hA=>?_;show bP (v5 (e.2.map λs=>(s,true))) λnd zd S=>?_;let zm:(e.2.map λs=>(s,true)).length<=3:=by rw[Lt];show P
   show vA Da (aB ..) (Gt zm (dR rfl)) λDd ep hD=>l7 (aB ..) ?_;let J:=((C.new hA (.list ((e.2.map λs=>(s,true)).map λe=>.tup [.str e.1,.bool e.2]))).new hD (.dict (dK V.str V.bool (mY (e.2.map λs=>(s,true)))) ep));let ab {y} (hy:y∈(mY (e.2.map λs=>(s,true))).map (·.1)):y∈e.2:=by
    let:=(S y).mp hy;rw[Su]at this;show aq (Re.mp this) ?_;clear this hy;ext z hz rfl;show hz
   rw[om];show ff (by rw[Lt];show Gt zd (Gt zm (dR rfl))) J.hd (λ{y} hy=>dr (L4 ?_ (ag rfl)) λ_=>iC Da Fy (ag rfl) (ag rfl) (J.get 2 rfl)) (ag rfl) λCc hC=>?_
   .show((D.ok e em).2.2 y (ab hy)).imp id (by ext X;show az X λp Z=>?_;show(D.ok _ Z).1)
   let E:=J.new hC (.list ((((mY (e.2.map λs=>(s,true))).map (·.1)).filter λy=>decide (y∈fJ)&& !decide (y∈ln++t)).map .str));let F {y} (hy:y∈((mY (e.2.map λs=>(s,true))).map (·.1)).filter λy=>decide (y∈fJ)&& !decide (y∈ln++t)):y∈fJ/\y∉ln++t:=by
    let:=R8.mp (Sa.mp hy).2;show#[RH this.1,R1 ((SA _).mp this.2)]
   let w {y} (hy:y∈e.2) (o:y∈fJ):y∈(ln++t)++((mY (e.2.map λs=>(s,true))).map (·.1)).filter λy=>decide (y∈fJ)&& !decide (y∈ln++t):=by
    by_cases c:y∈ln++t
    .show RE _ c
    show Rk _ (Sa.mpr #[(S y).mpr ?_,by rw[SW o,SC c];rfl]);rw[Su];show Rn hy
   let fl:=Tz (p:=λy=>decide (y∈fJ)&& !decide (y∈ln++t)) (l:=(mY (e.2.map λs=>(s,true))).map (·.1));let T:=nd.sublist fl;let M:=Gt fl.length_le (by rw[Lt];show Gt zd zm);generalize ((mY (e.2.map λs=>(s,true))).map (·.1)).filter (λy=>decide (y∈fJ)&& !decide (y∈ln++t))=fr at E F w T M;let I3:Lq ps ((ln++t)++fr):=#[R3.mpr #[i.nd,T,λa ha b hb e=>(F hb).2 (e▸ha)],λx hx=>(Ra.mp hx).elim (i.sub x) λh=>(F h).1,RE _ i.s];show bI (E.get 3 rfl) E.hd (by rw[Lt,Lt];show aO (Gt (RS i.len M) (dR rfl))) λN hN=>bE<|go' #[?_,I3,#[t++fr,Rz ..],λH d e2 x hx o=>?_]
   .rw[<- Rd];show(E.new hN _).sub (.cons_cons _ (Se _))
   rw[ax he]at d;rcases Ra.mp d with d|d
   .show RE _ (B H d e2 x hx o)
   rw[Q6.mp d]at hx;show w hx o
  rw[ax he]at d;rcases Ra.mp d with d|d
  .show B H d e2
  rw[Q6.mp d]at e2;show absurd e2 e1
 let ge:=R6 λk=>R1 c (Sd.mpr k);rw[S4 ge]at cl;show bB<|bp<|aK<|ah rfl<|aI (O.ext _ _ hR)<|ff (f:=pV) Y (O.ext _ _ hR) (λ{e} he=>Ar (φ:=.s) Da Fy (fY (ag rfl) am aT rfl) (ag rfl) O.hd) (ag rfl) λc hc=>q c _ _ (D.filter I.s cl) ((O.new hc _).sub (.cons_cons _ (Se _)))
variable{a b i j k:Nat}{lf:TS}{r:TN}{x:Str}
noncomputable def gW:List Str:=["$end","error","$undefined"]
noncomputable def da(lf ts:TS):List Str:=gW++ts++(("$accept":Str)::lf)
noncomputable def eF(lf ts:TS)(x:Str):Nat:=(da lf ts).idxOf x
noncomputable def gF(ps:yd)(lf ts:TS):Gm:=#[3+ts.length,lf.length,(3+ts.length,[eF lf ts sS,0])::ps.map λe=>(eF lf ts e.1,e.2.map (eF lf ts))]
structure Pg(ps:yd)(lf ts:TS):Prop where
 ln:lf.Nodup
 lm:∀x,x∈lf↔∃p,(x,p)∈ps
 l0:lf[0]?=some sS
 tn:ts.Nodup
 ta:∀x∈ts,x∈fV
 all:∀e∈ps,∀x∈e.2,x∈lf\/x∈ts
theorem GS:∀x∈fJ,x∉fV/\x∉gW/\x≠"$accept"/\x≠"":=by decide +kernel
theorem y9:∀x∈fV,x∉gW/\x≠"$accept"/\x≠"":=by decide +kernel
section
variable{ps:yd}{ts:TS}(D:Dr ps)(K:Pg ps lf ts)
include D K
theorem Pg.ls(h:x∈lf):x∈fJ:=by show az ((K.lm x).mp h) λp a=>(D.ok _ a).1
theorem Pg.nd:(da lf ts).Nodup:=by
 show R3.mpr #[R3.mpr #[by decide +kernel,K.tn,λa c b d e=>(y9 b (K.ta b d)).1 (e▸c)],R9.mpr #[λh=>(GS _ (K.ls D h)).2.2.1 rfl,K.ln],λa c b d e=>?_];subst e;rcases Ra.mp c with c|c<;>rcases RB.mp d with rfl|d
 .show absurd c (by decide +kernel)
 .show(GS a (K.ls D d)).2.1 c
 .show(y9 _ (K.ta _ c)).2.1 rfl
 show(GS a (K.ls D d)).1 (K.ta a c)
omit D K in
theorem n6:(da lf ts).length=3+ts.length+1+lf.length:=by unfold da;rw[Q9,Q9,Rq,show gW.length=3 from rfl];show(SQ (3+ts.length) lf.length).symm
theorem Pg.at_(h:(da lf ts)[k]?=some x):eF lf ts x=k:=by show az (RC.mp h) λh1 a=>?_;rw[<- a];show(K.nd D).idxOf_getElem k h1
omit D K in
theorem AV(h:lf[j]?=some x):(da lf ts)[3+ts.length+1+j]?=some x:=by unfold da;let e:(gW++ts).length=3+ts.length:=Q9;rw[Ro (by rw[e];show Gt (SS _) (Ri ..)),e,show 3+ts.length+1+j - (3+ts.length)=j+1 by erw[SI (3+ts.length),SX,Sc]];show h
omit D K in
theorem EJ(h:ts[j]?=some x):(da lf ts)[3+j]?=some x:=by unfold da;let e:gW.length=3:=rfl;let:=ai h;rw[Rz,Ro (Ri 3 j),e,SX,Ru this];show h
theorem Pg.nl(h:x∈lf):∃j,lf[j]?=some x/\eF lf ts x=3+ts.length+1+j:=(RL.mp h).imp λj e=>#[e,K.at_ D (AV e)]
theorem Pg.nt{x:Str}(h:x∈ts):∃j,ts[j]?=some x/\eF lf ts x=3+j:=(RL.mp h).imp λj e=>#[e,K.at_ D (EJ e)]
theorem Pg.abc(h:x∈fV)(k:x∈lf\/x∈ts):x∈ts:=k.elim (λk=>absurd h (GS x (K.ls D k)).1) id
theorem Pg.Zu(h:x∈lf\/x∈ts):x∈da lf ts:=by show h.elim (λh=>Rk _ (.tail _ h)) λh=>RE _ (Rk _ h)
omit D K in
theorem KN(e:n=a+1+j)(l:j<b):a<n/\n<=a+b:=e▸#[Ri ..,Tc ..▸S6 l a]
theorem Pg.wf:WF (gF ps lf ts):=by
 show#[#[eF lf ts sS,rfl,?_],Ri ..,λi l r h=>?_,λi l r s h g=>?_,λX h1 d=>?_]
 .rw[K.at_ D (AV K.l0)];let:=ai K.l0;show KN rfl this
 .show aq (bC h) λe he q=>?_;clear h;show yP q ?_;clear q;ext f zd;cases f;cases zd;show aq (K.nl D ((K.lm e.1).mpr #[e.2,Q4 he])) λj h1 d=>?_;let:=ai h1;show KN d this
 .show aq (bC h) λe he q=>?_;clear h;show yP q ?_;clear q;ext f zd;cases f;cases zd;show aq (Re.mp g) ?_;ext x hx rfl;rcases K.all e (Q4 he) x hx with k|k
  .show aq (K.nl D k) λj h1 d=>?_;show .inr (KN d (ai h1))
  show aq (K.nt D k) λj h1 d=>?_;show .inl #[d▸Ri ..,d▸S6 (ai h1) 3]
 let h1:3+ts.length<X:=h1;let d:=d;show az (show ∃n,lf[X - (3+ts.length+1)]?=some n from#[_,Rg (Nat.sub_lt_left_of_lt_add h1 (by rw[Nat.succ_add];show Tq d))]) λn hn=>?_;show az ((K.lm n).mp (Q4 hn)) λp m=>?_;show bS (D.wit _ m) λp' a b c=>?_;show az (RL.mp a) λi hi=>?_;induction p' with
 |nil=>show absurd rfl b
 |cons s w=>
  show#[i+1,eF lf ts s,w.map (eF lf ts),?_,λy hy=>?_]
  .change(ps.map _)[i]?=_;rw[RF,hi];let:=K.at_ D (AV hn);rw[Uj h1]at this;rw[<- this];rfl
  show aq (Re.mp (show y∈(s::w).map (eF lf ts) from hy)) ?_;clear hy;ext x hx rfl;show aq (K.nt D (K.abc D (c x hx) (K.all _ a x hx))) λj h3 o=>?_;show o▸S6 (ai h3) 3
theorem Pg.sm:Sm (gF ps lf ts):=#[(by
 let:=K.tn.length_le_of_subset λx hx=>K.ta x hx;let:=this;show Rb this 3),(by
 let:=D.len;change(ps.map _).length+1<=10;rw[Lt];show Rj this),K.ln.length_le_of_subset λx hx=>K.ls D hx]
theorem Pg.r3{l:Nat}(h:(gF ps lf ts).rules[i]?=some (l,r)):r.length<=3:=by
 cases i with
 |zero=>cases h;show Q7 rfl
 |succ i=>
  show aq (bC h) λe he q=>?_;clear h;show yP q ?_;clear q;ext a zd;cases a;cases zd;rw[Lt];show(D.ok e (Q4 he)).2.1
theorem Ez(rs:List (Nat×List Nat))(k:Nat)(h:∀x∈rs,x.2.length<=3):(gJ k rs).length<=4*rs.length:=by
 induction rs generalizing k with
 |nil=>show Rm _
 |cons x rs a=>
  change(List.replicate (x.2.length+1) k++_).length<=4*(rs.length+1);rw[Q9,Sp,Nat.mul_succ,Sc];show RS (a (k+1) λy hy=>h y (.tail _ hy)) (Rj (h x (.head _)))
theorem Pg.sz{h:Gh}(hn:h.nms=da lf ts):Sz (gF ps lf ts) h:=by
 let S:=K.sm D;let s1:=S.tc;let s2:=S.nn;let a:=S.rl;show#[Gt a (dR rfl),λi l r e=>Gt (K.r3 D e) (dR rfl),Gt (RS (Rj s1) s2) (dR rfl),?_,?_]
 .let:=Ez D K (gF ps lf ts).rules 0 λx hx=>by
   show az (RL.mp hx) λi hi=>?_;show K.r3 D hi
  show Gt this (Gt (RV 4 a) (dR rfl))
 rw[hn,n6];rfl
end
variable{dd rn rr:Nat}{g:Gm}{lv:V}{lvl:Nat->V}{nms:TS}{rs:TN}{x:E}{UY U4:aw}
noncomputable def LM(g:Gm)(k s:Nat):List Nat:=(List.range k).filter λi=>(g.rules[i]?).any λx=>x.1== s
theorem Gf{l:Nat}(h:g.rules[k]?=some (l,r))(s:Nat):LM g (k+1) s=if l=s then LM g k s++[k] else LM g k s:=by
 unfold LM;rw[List.range_succ,T8,UD,h];change _++(if(l== s)=true then _ else _)=_;by_cases c:l=s
 .rw[RO c,RO (RP.mpr c)];rfl
 rw[RX c,RX λe=>c (RP.mp e)];show RD _
theorem wV(rs:List (Nat×List Nat))(x:Nat×List Nat):∀i,gJ i (rs++[x])=gJ i rs++List.replicate (x.2.length+1) (i+rs.length):=by
 induction rs with
 |nil=>show λi=>RD _
 |cons y rs a=>
  ext i;change List.replicate _ _++gJ (i+1) (rs++[x])=(List.replicate _ _++gJ (i+1) rs)++_;erw[a,Rz,Rq,SI,Sc 1]
theorem sG(rs:List (Nat×List Nat)):∀i,(gJ i rs).length=ED rs:=by
 induction rs with
 |nil=>show λ_=>rfl
 |cons y rs a=>
  ext i;change(List.replicate _ _++gJ (i+1) rs).length=_+_;rw[Q9,Sp,a];rfl
theorem Dl{C:CT}(hx:Ev C L U x (.tup (ay r)))(z:r.length<=100000):Ev C L U (.prim .len (.cons x .nil) p q) (.int r.length):=by let:=r7 (p:=p) (q:=q) hx (aH (aO z));rw[aS]at this;show this
structure Gi(g:Gm)(us:TN)(k:Nat)(Vb:List (Nat×List Nat)):Prop where
 fst:Vb.map (·.1)=us
 by_:∀s u w,Vb[s]?=some (u,w)->w=LM g k s
noncomputable def GQ(nms:TS)(tc:Nat)(rn rr B b a:Nat)(lv st:V):List (Nat×V):=[(11,.ref rn),(12,.int tc),(13,.ref rr),(14,lv),(15,.none),(16,st),(17,.ref B),(19,.ref b),(20,.ref a)]
noncomputable def Nf(g:Gm)(k b c a dd:Nat)(at_:List (Nat×V)):List (Nat×O):=[(b,.list (ay (gJ 0 (g.rules.take k)))),(c,.list (ay ((List.range k).map (KE g)))),(a,.inst 169 dd),(dd,.attrs at_)]
theorem Fg{st:V}{Q:QV}(Z:∀h:Gh,h.nms=nms->Sz g h)(W:WF g)(R:nms.length=NN g)(O:aA U4 UY [(a,.inst 169 dd),(dd,.attrs [])])(hn:U4 rn=some (.list (nms.map .str)))(hr:U4 rr=some (.list (rs.map .ref)))(A:rs.length=g.rules.length)(ru:∀(i l:Nat)(r:TN),g.rules[i]?=some (l,r)->∃ra,rs[i]?=some ra/\cx U4 ra 87 (BX i l r (lvl i)))
  (q:∀h UX,h.a=a->h.nms=nms->bF U4 UX->bh UX g h->Q .none UX):CC (n+1) 103 [.ref a,.ref rn,.int g.tc,.ref rr,lv,.none,st] UY Q:=by
 let zN:NN g<=60:=(Z #[0,nms,0,0,0,0,0,lv,st,[],[],lvl] rfl).syms;let zr:g.rules.length<=100:=(Z #[0,nms,0,0,0,0,0,lv,st,[],[],lvl] rfl).rules;let zo:(own g).length<=1000:=(Z #[0,nms,0,0,0,0,0,lv,st,[],[],lvl] rfl).own;let zt:∀{i l:Nat}{r:TN},g.rules[i]?=some (l,r)->r.length<=10:=λe=>(Z #[0,nms,0,0,0,0,0,lv,st,[],[],lvl] rfl).right _ _ _ e;change an tab (CC n) iq [some (.ref a),some (.ref rn),some (.int g.tc),some (.ref rr),some lv,some .none,some st,none,none] UY (aW Q);show aN<|ah rfl<|ah rfl<|aL O (O.get 0 rfl) (wi rfl) 1 rfl (Q7 rfl) rfl λU3 O=>aN<|ah rfl<|ah rfl<|aL O (O.get 0 rfl) (wi rfl) 1 rfl (Q7 rfl) (WN:=(GQ nms g.tc rn rr 0 0 0 lv st).take 2) rfl λVa O=>aN<|ah rfl<|ah rfl<|aL O (O.get 0 rfl) (wi rfl) 1 rfl (Q7 rfl) (WN:=(GQ nms g.tc rn rr 0 0 0 lv st).take 3) rfl λVr O=>aN<|ah rfl<|ah rfl<|aL O (O.get 0 rfl) (wi rfl) 1 rfl (Q7 rfl) (WN:=(GQ nms g.tc rn rr 0 0 0 lv st).take 4) rfl λVD O=>aN<|ah rfl<|ah rfl<|aL O (O.get 0 rfl) (wi rfl) 1 rfl (Q7 rfl) (WN:=(GQ nms g.tc rn rr 0 0 0 lv st).take 5) rfl λWg O=>aN<|ah rfl<|ah rfl<|aL O (O.get 0 rfl) (wi rfl) 1 rfl (Q7 rfl) (WN:=(GQ nms g.tc rn rr 0 0 0 lv st).take 6) rfl λXW O=>aN<|bp<|aK<|aE (ag rfl) #[dd,O.get 0 rfl,O.get 1 rfl] (wi rfl) rfl _<|aI (O.ext _ _ hn)<|uT (f:=V.str) (λO=>O.ext _ _ hn) nms O (Gt (R▸zN) (dR rfl)) λus X5 XD O8 B hB=>?_;let O9:=O8.new hB (.list (us.map .ref));show ah rfl<|aL O9 (O9.get 1 rfl) (wi rfl) 2 rfl (Q7 rfl) rfl λYo XP=>ao XP.WK λS Yn=>?_;let YH:bq U4 B (.list (us.map .ref)) B=some (.list (us.map .ref)):=aB ..;replace hn:=S _ _ hn;replace hr:=S _ _ hr;replace ru:∀(i l:Nat)(r:TN),g.rules[i]?=some (l,r)->∃ra,rs[i]?=some ra/\cx (bq U4 B (.list (us.map .ref))) ra 87 (BX i l r (lvl i)):=λi l r e=>(ru i l r e).imp λ_ k=>#[k.1,k.2.ext S];change aA (bq U4 B (.list (us.map .ref))) Yo _ at Yn;generalize bq U4 B (.list (us.map .ref))=WV at *;clear O O8 O9 XP;show aN<|bT λp hOf=>?_;let D:=Yn.new hOf (.list []);show ah rfl<|aL D (D.get 1 rfl) (wi rfl) 2 rfl (Q7 rfl) rfl λσ13 Z9=>aN<|bT λo Y=>?_;let Z8:=Z9.new Y (.list []);show ah rfl<|aL Z8 (Z8.get 2 rfl) (wi rfl) 3 rfl (Q7 rfl) rfl λσ15 M=>?_;clear Yn D Z9 Z8;let Ix {UX k Vb} (O:aA WV UX (Nf g k o p a dd (GQ nms g.tc rn rr B p o lv st)++Vb)):cx UX a 169 (GQ nms g.tc rn rr B p o lv st):=#[dd,O.get 2 rfl,O.get 3 rfl];show aR<|aK<|aE (ag rfl) #[dd,M.get 2 rfl,M.get 3 rfl] (wi rfl) rfl _<|aI (M.ext _ _ hr)<|jR (a0:=none) (a1:=us.map λu=>(u,[])) (λ_ x7 _=>[some (.ref a),some (.ref rn),some (.int g.tc),some (.ref rr),some lv,some .none,some st,x7,none]) (λk _ Vb UX=>aA WV UX (Nf g k o p a dd (GQ nms g.tc rn rr B p o lv st)++Vb.map (fL λ(i:Nat)=>.int i))/\Gi g us k Vb) #[?_,#[?_,?_]] (λj=>j.1.ext _ _ hr) (λ{x7 Vb G} j=>?_) λ{k x x7 Vb G K} hx j go _=>el hx λ{ra} he=>?_
 .let e:us.map eL=(us.map λu=>(u,[])).map (fL λ(i:Nat)=>.int i):=by rw[Su];rfl
  rw[e]at M;show M
 .rw[Su];show List.map_id _
 .show λs u w e=>aq (bC e) λu' _ q=>?_;clear e;show yP q ?_;clear q;ext T zd;cases T;cases zd;rfl
 .show ao j λO I=>?_;clear j;rw[Lt,A]at O I;unfold Nf at O;rw[RI]at O;let eo:(gJ 0 g.rules).length=(own g).length:=rfl;show aN<|cR (l:=own g) (aE (ag rfl) #[dd,O.get 2 rfl,O.get 3 rfl] (wi rfl) rfl) (O.get 0 rfl) (Gt zo (dR rfl)) _<|ah rfl<|aL O (O.get 2 rfl) (wi rfl) 3 rfl (Q7 rfl) rfl λv m=>bG<|q #[a,nms,rn,rr,B,p,o,lv,st,rs,us,lvl] _ rfl rfl (S.trans m.ext) #[#[dd,m.get 2 rfl,m.get 3 rfl],m.ext _ _ hn,m.ext _ _ hr,A,λi l r e=>(ru i l r e).imp λ_ k=>#[k.1,k.2.ext m.ext],m.ext _ _ YH,XD.trans R,λs b X=>?_,m.get 1 rfl,m.get 0 rfl];change us[s]?=some b at X;rw[<- I.fst]at X;show aq (bC X) ?_;ext V3;obtain⟨u,w⟩:=V3;ext hf rfl;let:=m.Zk (fx:=[_,_,_,_]) hf;rw[show cr g s=LM g g.rules.length s from rfl,<- I.by_ s _ _ hf];show this
 show ao j λO I=>?_;clear j;let σ:k<g.rules.length:=A▸ai he;show aq (ru k _ _ (Rg σ)) λra' e1 hi=>?_;rw[he]at e1;replace e1:=Is e1;cases e1;let C:g.rules[k]?=some (g.rules[k].1,g.rules[k].2):=Rg σ;generalize g.rules[k].1=l,g.rules[k].2=r at hi C;let L:=W.Yb C;show ck (vP (I.fst) (k:=l) (by rw[XD,R];show L)) λu w hf hu=>?_;let ew:=I.by_ _ _ _ hf;let zw:w.length<=100:=by rw[ew];show Gt (ST ..) (by rw[RN];lia)
 let ZF:us.length<=100000:=by rw[XD,R];show Gt zN (dR rfl)
 show de (l:=w) (z:=k) (aM (l:=us) (f:=V.ref) (aE (ag rfl) (Ix O) (wi rfl) rfl) (m5 hi O.ext rfl) (O.ext _ _ YH) ZF hu) (Dk hi O.ext rfl) O (4+l) (sX [_,_,_,_] hf) (Q5 zw (dR rfl)) λv m=>?_;let N:aA WV v (Nf g k o p a dd (GQ nms g.tc rn rr B p o lv st)++(Vb.set l (u,w++[k])).map (fL λ(i:Nat)=>.int i)):=vS (fx:=[_,_,_,_]) (y:=(u,w++[k])) rfl▸m;clear m;let J:(gJ 0 (g.rules.take k)).length+(r.length+1)<=1000:=by
  let:=Rs (gJ 0) (ax C) |>.trans (wV _ _ 0);let h2:=Rs List.length this;rw[Q9,Sp]at h2;rw[<- h2,sG];show Gt ?_ zo;change _<=(gJ 0 g.rules).length;rw[sG];conv=>rhs;rw[<- S7 (k+1) g.rules]
  unfold ED;rw[Rd,List.sum_append_nat];show Ri ..
 let zi:(gJ 0 (g.rules.take k)).length<=100000:=Gt (Gt (Ri _ _) J) (dR rfl);show de (f:=λ(i:Nat)=>.int i) (z:=KE g k) (aE (ag rfl) (Ix N) (wi rfl) rfl) (by rw[show KE g k=(gJ 0 (g.rules.take k)).length from(sG _ 0).symm];show cR (l:=gJ 0 (g.rules.take k)) (f:=λ(i:Nat)=>.int i) (aE (ag rfl) (Ix N) (wi rfl) rfl) (N.get 0 rfl) zi) N 1 rfl (by rw[Lt,RN];lia) λF E=>?_;let In:cx F a 169 (GQ nms g.tc rn rr B p o lv st):=#[dd,E.get 2 rfl,E.get 3 rfl];show dO<|cb<|aE (ag rfl) In (wi rfl) rfl _ #[yD (E.get 0 rfl),aj<|bv<|bL<|aj<|Dk hi E.ext rfl _ #[bk,λc hc=>?_]];let P:=E.new hc (.list [.int k]);show eJ (i:=r.length) (j:=1) (Dl (yg hi P.ext rfl) (Gt (zt C) (dR rfl))) am _<|Ej (n:=r.length+1) P.hd (aO (Gt (Gt (Nat.le_add_left _ _) J) (dR rfl))) λd hd=>?_;let t:=P.new hd (.list (List.replicate (r.length+1) (.int k)));show El (t.get 2 rfl) t.hd (Jj (P.get 1 rfl) hd) (by rw[aS,Sp];show aO (by show Gt ‹_› (dR rfl)))<|fc<|bG<|go (b1:=Vb.set l (u,w++[k])) #[?_,vO I.fst hf,λs u' w' e=>?_]
 .let O22:=(t.set 2 rfl (.list (ay (gJ 0 (g.rules.take k))++List.replicate (r.length+1) (.int k)))).tl.tl;let e1:ay (gJ 0 (g.rules.take (k+1)))=ay (gJ 0 (g.rules.take k))++List.replicate (r.length+1) (.int k):=by
   rw[ax C,wV];unfold ay;rw[Rd,List.map_replicate,R7,Uc (Rf σ),S9]
  unfold Nf;rw[e1,List.range_succ,Rd];show O22
 erw[Gf C];clear t P E N hu hf L C hi;rcases vn e with H|H
 .show ao H ?_;clear H;clear e;ext rfl q;show yP q ?_;clear q;ext T zd;cases T;cases zd;rw[RO rfl,ew]
 show ao H λne e=>?_;clear H;rw[RX (Ne.symm ne)];show I.by_ s u' w' e
end
section
variable{L:aQ}{R a i k n:Nat}{e1 e2 e3 e4 x y:E}{lf:TS}{m:TA}{r:TN}{x3 x4:TO}{α:Type}{κ:DK}{U U0 UY:aw}{φ:FK}
theorem wL{Q:QV}{l:Nat}(O:aA U0 U m)(h1:Ev (CC (n+1)) L U e1 (.int i))(g:Ev (CC (n+1)) L U e2 (.int l))(h3:Ev (CC (n+1)) L U e3 (.tup (ay r)))(f:∀d:V->aw->Prop,(∀i:Int,d (.int i) U)->bj tab (CC (n+1)) e4 L U d)
  (q':∀a U4 UX lv,bF U0 U4->cx U4 a 87 (BX i l r lv)->aA U4 UX m->Q (.ref a) UX):bj tab (CC (n+1)) (.new 87 nn (.cons e1 (.cons e2 (.cons e3 (.cons e4 .nil)))) p q) L U Q:=by
 show qu<|au<|h1 _<|au<|g _<|au<|h3 _<|aj<|f _ λlv a dd ne e hd=>?_;let O:=f6 (c:=87) O ne e hd;change an tab (CC n) lS [some (.ref a),some (.int i),some (.int l),some (.tup (ay r)),some (.int lv),some .none,some (.int 0),some (.int 0)] _ (aW _);show aN<|ah rfl<|ah rfl<|aL O (O.get 0 rfl) (yb rfl) 1 rfl (Q7 rfl) rfl λU3 O=>aN<|ah rfl<|ah rfl<|aL O (O.get 0 rfl) (yb rfl) 1 rfl (Q7 rfl) rfl λVa O=>aN<|ah rfl<|ah rfl<|aL O (O.get 0 rfl) (yb rfl) 1 rfl (Q7 rfl) rfl λVr O=>aN<|ah rfl<|ah rfl<|aL O (O.get 0 rfl) (yb rfl) 1 rfl (Q7 rfl) rfl λVD O=>aN<|ah rfl<|ah rfl<|aL O (O.get 0 rfl) (yb rfl) 1 rfl (Q7 rfl) rfl λWg O=>aN<|ah rfl<|ah rfl<|aL O (O.get 0 rfl) (yb rfl) 1 rfl (Q7 rfl) rfl λXW O=>aN<|ah rfl<|ah rfl<|aL O (O.get 0 rfl) (yb rfl) 1 rfl (Q7 rfl) rfl λX5 O=>bG #[rfl,?_];show bS (aA.W9 (m1:=[(a,.inst 87 dd),(dd,.attrs (BX i l r (.int lv)))]) O) λU4 j b h=>?_;show q' a U4 X5 _ j #[dd,b _ (.head _),b _ (.tail _ (.head _))] h
section
variable{C:CT}{e:E}
theorem LW{s:Str}(hx:Ev C L U x (.str s))(hy:Ev C L U y (.int 1))(h:s.cps.size=1):Ev C L U (.VT x y p q) (.str s):=λQ k=>hx _ (hy _ #[rfl,h,k])
theorem Fz[DecidableEq α]{f:α->V}(E:lT κ f){z:α}{l:List α}(h:z∈l):(l.map f).findIdx? (λv=>V.VI v (f z))=some (l.idxOf z)
 := by
  induction l with
  |nil=>show n0 h
  |cons y l a=>
    rw[Sb,List.findIdx?_cons,E.beq,List.idxOf_cons,Bool.beq_comm];by_cases c:y=z
    · clear h a;subst c;rw[RK];rfl
    rw[SE c,RX nf,a ((RB.mp h).resolve_left (Ne.symm c))];rfl
theorem Am[DecidableEq α]{f:α->V}{l:List α}{z:α}(E:lT κ f)(b:∀a,φ.is (f a))(hx:Ev C L U x (.ref a))(hy:Ev C L U y (f z))(h:U a=some (.list (l.map f)))(c:l.length<=100000)(hz:z∈l):Ev C L U (.U1 .index x (.cons y .nil) p q) (.int (l.idxOf z:Nat)):=λQ k=>hx _ #[C8 h (.inr (.inr (.inr rfl))),hy _ (by
 show gL h #[#[φ,b z,λv d=>by show aq (Re.mp d) ?_;ext y _ rfl;show b y],aH (aO c),gO (Fz E hz) k])]
theorem Lh{B:Bool->Prop}(h:B false):jG U B .VC .none .none:=h
end
theorem Ov:∀x∈fJ,x.cps.size=1/\decide (x=("error":Str))=false/\decide (x∈([("":Str),"$","'"]:TS))=false:=by decide +kernel
noncomputable abbrev Pq:=List (Str×List Str×Nat)
noncomputable def MD(e:Str×List Str×Nat):V:=.tup [.str e.1,.ref e.2.2]
noncomputable def jz(pq:Pq):yd:=pq.map λe=>(e.1,e.2.1)
noncomputable def I6(R Lf:Nat)(x3 x4 x5 x6 x7 x8 x9 Vd:TO):aQ:=[some (.ref R),some .none,some (.ref Lf),x3,x4,x5,x6,x7,x8,x9,Vd,none,none,none,none,none,none,none,none,none]
theorem sD{pq:Pq}{e:Str×List Str×Nat}(h:pq[k]?=some e):(e.1,e.2.1)∈jz pq:=Rn (Q4 h)
structure Pl(pq:Pq)(k:Nat)(lf:TS):Prop where
 nd:lf.Nodup
 io:∀x,x∈lf↔∃e∈pq.take k,e.1=x
 l0:0<k->lf[0]?=some sS
 len:lf.length<=k
section
variable{pq:Pq}(hR:U R=some (.list (pq.map MD)))(hu:∀e∈pq,U e.2.2=some (.list (e.2.1.map .str)))(D:Dr (jz pq))
include hR hu D
theorem yQ:pq.length<=9:=by let:=D.len;unfold jz at this;rw[List.length_map]at this;show this
theorem ME{Q:QF}(q:∀Lf x3 x4 lf UX,Pl pq pq.length lf->aA U UX [(Lf,.list (lf.map .str))]->an tab (CC n) cN (I6 R Lf x3 x4 none none none none none none) UX Q):
  an tab (CC n) fg [some (.ref R),some .none,none,none,none,none,none,none,none,none,none,none,none,none,none,none,none,none,none,none] U Q:=by
 let s:=yQ hR hu D;show gE (.nil U) λLf UY O=>aR<|aK<|ah rfl<|aI (O.ext _ _ hR)<|eZ (λ_ x3 x4 _=>I6 R Lf x3 x4 none none none none none none) (λk _ _ lf UX=>aA U UX [(Lf,.list (lf.map .str))]/\Pl pq k lf) #[O,.nil,λx=>#[λh=>(n0 h),(by ext f;show aq f λe he _=>?_;rw[SF]at he;show n0 he)],λh=>absurd h (Si 0),Rm _] (λj=>j.1.ext _ _ hR) (λ{x3 x4 lf U3} j=>yO<|q Lf x3 x4 lf U3 (by let:=j.2;rw[Lt]at this;show this) j.1) λ{k x x3 x4 lf U3 K} hx j go _=>Ip hx λ{e} he=>cK rfl ?_;show ao j λO I=>?_;clear j;let u:=(D.ok _ (sD he)).1;show bP (Ov _ u) λs1 s2 t=>?_;let g:=ai he;let tk:∀x,(∃d∈pq.take (k+1),d.1=x)↔(∃d∈pq.take k,d.1=x)\/e.1=x:=λx=>by
  rw[ax he];show#[(by ext f;show aq f λd h h'=>(Ra.mp h).elim (λh=>.inl #[d,h,h']) λh=>.inr (Q6.mp h▸h')),λh=>h.elim ((by ext f;show aq f λd h h'=>#[d,RE _ h,h'])) λh=>#[e,Rk _ (.head _),h]]
 show cC (uD (Dz (ag rfl) am) λ_=>L6 (l:=[("":Str),"$","'"]) Da Fy (LW (ag rfl) am s1) (bW (be am (be am (bz am))) dD)) (λc=>by rw[s2,t]at c;cases c) λ_=>aU<|qk (iC Da Fy (ag rfl) (ag rfl) O.hd) (λi=>de (ag rfl) (ag rfl) O 0 rfl (Q5 I.len (Rc g (Gt s (dR rfl)))) λVa o=>bE<|go #[o,?_,λx=>?_,λ_=>?_,?_]) λhi=>bE<|go #[O,I.nd,λx=>?_,λ_=>?_,Tr I.len]
 .show R3.mpr #[I.nd,RJ ..,λa v b m e=>i (by rw[Q6]at m;rw[<- m,<- e];show v)]
 .erw[tk,Ra,I.io,Q6];show or_congr Iff.rfl #[Eq.symm,Eq.symm]
 .by_cases k0:k=0
  .clear o i tk g O go hx;subst k0;let:=Sg (UQ I.len);subst this;show uJ D.hd λp r hd=>?_;let:=Rs (λl:yd=>l[0]?) hd;unfold jz at this;rw[show(pq.map λe=>(e.1,e.2.1))[0]?=some (e.1,e.2.1) from by rw[RF,he];rfl]at this;show Rs some (Rs Prod.fst (Is this))
  let:=I.l0 (Nat.pos_of_ne_zero k0);rw[Ru (ai this)];show this
 .rw[Q9];show Rj I.len
 .erw[tk,I.io];show#[.inl,λh=>h.elim id λh=>h▸(I.io _).mp hi]
 by_cases k0:k=0
 .clear tk g O he go hx;subst k0;let:=Sg (UQ I.len);subst this;show n0 hi
 show I.l0 (Nat.pos_of_ne_zero k0)
structure Pt(lf ts:TS)(P:Str->Prop):Prop where
 tn:ts.Nodup
 ta:∀x∈ts,x∈fV
 all:∀x,P x->x∈lf\/x∈ts
theorem MF{Q:QF}{Lf:Nat}(g:Pl pq pq.length lf)(O:aA U UY [(Lf,.list (lf.map .str))])(q:∀Nm x3 x4 x7 ts UX,Pg (jz pq) lf ts->aA U UX [(Nm,.list ((gW++ts).map .str)),(Lf,.list (lf.map .str))]->an tab (CC n) cO (I6 R Lf x3 x4 (some (.str sS)) (some (.ref Nm)) x7 none none none) UX Q):
  an tab (CC n) cN (I6 R Lf x3 x4 none none none none none none) UY Q:=by
 let F:=yQ hR hu D;let p0:0<pq.length:=by
  show uJ D.hd λp r hd=>?_;let:=Rs List.length hd;unfold jz at this;rw[Lt,Rq]at this;rw[this];show Nat.succ_pos _
 let G:lf.length<=100000:=Gt g.len (Gt F (dR rfl));let l0:=g.l0 p0;let lm:∀x,x∈lf↔∃p,(x,p)∈jz pq:=λx=>by
  erw[g.io,RI];show#[(by ext d;show aq d λe he h=>?_;clear d;show#[e.2.1,by rw[<- h];show Rn he]),λd=>by
   show az d λp h=>?_;show aq (Re.mp h) λe he h=>#[e,he,Rs Prod.fst h]]
 show aC<|xn<|IP<|vE<|d7<|ah rfl<|bi<|Lh #[nf,λ_=>vE<|rD (l:=lf) (ag rfl) O O.hd λU3 v P=>#[λc=>?_,λ_=>Jg #[nf,λ_=>aM (l:=lf) (k:=0) (ag rfl) am v.hd G l0 _ ?_]]]
 .rw[TI.mp c]at l0;cases l0
 show qk (iC (l:=lf) (φ:=.s) Da Fy (ag rfl) (ag rfl) v.hd) (λc=>absurd (Q4 l0) c) λ_=>aU<|AA (yk rfl) v rfl (Q7 rfl) λNm N C=>aR<|aK<|ah rfl<|aI (C.ext _ _ hR)<|eY (a1:=x4) (a3:=[]) (λ_ x3 x4 x7 _=>I6 R Lf x3 x4 (some (.str sS)) (some (.ref Nm)) x7 none none none) (λk _ _ _ ts UX=>aA U UX [(Nm,.list ((gW++ts).map .str)),(Lf,.list (lf.map .str))]/\Pt lf ts λx=>∃e∈pq.take k,x∈e.2.1) #[C,.nil,(λ_ h=>n0 h),λx d=>by show aq d λe he _=>?_;clear d;rw[SF]at he;show n0 he] (λj=>j.1.ext _ _ hR) (λ{x3 x4 x7 ts A} j=>yO<|q Nm x3 x4 x7 ts A #[g.nd,lm,l0,j.2.tn,j.2.ta,λe he x hx=>?_] j.1) λ{k x x3 x4 x7 ts A K} hx j go _=>Ip hx λ{e} he=>cK rfl ?_
 .let a:=j.2.all x;rw[Lt,RI]at a;show aq (Re.mp he) ?_;ext u h1 rfl;show a #[u,h1,hx]
 let em:=Q4 he;let M:=(D.ok _ (sD he)).2.1;show aR<|aK<|ah rfl<|aI (j.1.ext _ _ (hu e em))<|jR (a0:=x7) (a1:=ts) (λ_ x7 _=>I6 R Lf (some (.str e.1)) (some (.ref e.2.2)) (some (.str sS)) (some (.ref Nm)) x7 none none none) (λi _ ts UX=>aA U UX [(Nm,.list ((gW++ts).map .str)),(Lf,.list (lf.map .str))]/\Pt lf ts λx=>(∃e∈pq.take k,x∈e.2.1)\/x∈e.2.1.take i) #[j.1,j.2.tn,j.2.ta,λx h=>h.elim (j.2.all x) λh=>by rw[SF]at h;show n0 h] (λj=>j.1.ext _ _ (hu e em)) (λ{x7 ts L} j=>cy<|go #[j.1,j.2.tn,j.2.ta,λx d=>?_]) λ{i x x7 ts L K} hx j go' _=>el hx λ{s} t=>?_
 .show aq d λu h1 y=>?_;rw[ax he]at h1;show j.2.all x ((Ra.mp h1).imp (λh=>#[u,h,y]) λh=>?_);rw[Lt,RI,<- Q6.mp h];show y
 show ao j λo I=>?_;clear j;let as:=(D.ok _ (sD he)).2.2 s (Q4 t);let E:ts.length<=3:=I.tn.length_le_of_subset (l₂:=fV) λx hx=>I.ta x hx;show cC (dr (iC (l:=lf) (φ:=.s) Da Fy (ag rfl) (ag rfl) (o.get 1 rfl)) λ_=>iC (φ:=.s) Da Fy (ag rfl) (ag rfl) (o.get 0 rfl)) (λc=>?_) λc=>bE<|go' #[o,I.tn,I.ta,λx hx=>?_]
 .let c:=R8.mp c;let f:=R1 ((SA _).mp c.1);let m:=R1 ((SA _).mp c.2);let H:s∈fV:=as.resolve_right λh=>f ((lm s).mpr h);show de (z:=s) (ag rfl) (ag rfl) o 0 rfl (by rw[Q9];let:gW.length=3:=rfl;show Q5 (RS (RW this) E) (dR rfl)) λWg B=>bE<|go' #[by rw[Rz]at B;show B,?_,λx hx=>(Ra.mp hx).elim (I.ta x) λh=>Q6.mp h▸H,λx hx=>?_]
  .show R3.mpr #[I.tn,RJ ..,λa J b w e=>m (by rw[Q6]at w;rw[<- w,<- e];show Rk _ J)]
  rcases hx with hx|hx
  .show(I.all x (.inl hx)).imp id λh=>RE _ h
  rw[ax t]at hx;rcases Ra.mp hx with hx|hx
  .show(I.all x (.inr hx)).imp id λh=>RE _ h
  show .inr (Rk _ hx)
 rcases hx with hx|hx
 .show I.all x (.inl hx)
 rw[ax t]at hx;rcases Ra.mp hx with hx|hx
 .show I.all x (.inr hx)
 rw[Q6.mp hx];by_cases f:s∈lf
 .show .inl f
 by_cases m:s∈gW++ts
 .show .inr ((Ra.mp m).resolve_left (y9 s (as.resolve_right λh=>f ((lm s).mpr h))).1)
 rw[SC f,SC m]at c;cases c
end
variable{Nm0:Nat}{g:Gm}{lv:V}{lvl:Nat->V}{pq:Pq}{rs:TN}{x7:TO}{UX:aw}
theorem aA.Xx{x:Nat×O}(h:aA U0 U (x::m)):∃U4,bF U0 U4/\U4 x.1=some x.2/\aA U4 U m:=#[_,h.WK.1,aB ..,h.WK.2]
structure Pr(g:Gm)(k:Nat)(rs:TN)(lvl:Nat->V)(U4:aw):Prop where
 len:rs.length=k
 ru:∀(i l:Nat)(r:TN),i<k->g.rules[i]?=some (l,r)->∃ra,rs[i]?=some ra/\cx U4 ra 87 (BX i l r (lvl i))
theorem Pr.new{l:Nat}(h:Pr g k rs lvl U)(E:bF U UX)(hr:g.rules[k]?=some (l,r))(I:cx UX a 87 (BX k l r lv)):Pr g (k+1) (rs++[a]) (λi=>if i=k then lv else lvl i) UX:=by
 show#[by rw[Q9,h.len];rfl,λi l' r' hi e=>?_];by_cases c:i=k
 .subst c;rw[hr]at e;replace e:=Is e;cases e;show#[a,by rw[<- h.len,Ro (Rm _),SP];rfl,by rw[RO rfl];show I]
 show aq (h.ru i l' r' (Sj (R4 hi) c) e) λra e1 e2=>?_;show#[ra,by rw[Ru (ai e1)];show e1,by rw[RX c];show e2.ext E]
section
variable(hR:U R=some (.list (pq.map MD)))(hu:∀e∈pq,U e.2.2=some (.list (e.2.1.map .str)))(D:Dr (jz pq))
include hR hu D
theorem MG{Q:QV}{Lf:Nat}{ts:TS}(K:Pg (jz pq) lf ts)(O:aA U UY [(Nm0,.list ((gW++ts).map .str)),(Lf,.list (lf.map .str))])(q:∀h UX,h.nms=da lf ts->bF U UX->bh UX (gF (jz pq) lf ts) h->Q (.ref h.a) UX):
  an tab (CC (n+2)) cO (I6 R Lf x3 x4 (some (.str sS)) (some (.ref Nm0)) x7 none none none) UY (aW Q):=by
 let Z:=yQ hR hu D;let W:=K.wf D;let S:=K.sm D;let zl:lf.length<=3:=S.nn;let z:ts.length<=3:=by let:3+ts.length<=6:=S.tc;show Nat.le_of_add_le_add_left this
 let F:(gW++ts).length=3+ts.length:=Q9;let zn:=n6 (lf:=lf) (ts:=ts);let H:(da lf ts).length<=100000:=Gt (RW zn) (Gt (RS (Rv (Rb z 3) 1) zl) (dR rfl));show aZ (v:=.int ((3+ts.length:Nat):Int)) (by rw[<- F];show cR (l:=gW++ts) (f:=V.str) (ag rfl) (O.get 0 rfl) (Gt (RW F) (Gt (Rb z 3) (dR rfl))))<|aC<|bv<|bv<|ah rfl<|bL<|aj<|bi #[bk,λA hA=>?_];let d:=O.new hA (.list ([("$accept":Str)].map .str));show bI (d.get 1 rfl) d.hd (by rw[Lt,F,Lt,RG];show aO (Gt (Rv (Rb z 3) 1) (dR rfl))) λB hB=>?_;let σ:=d.new hB (.list (((gW++ts)++[("$accept":Str)]).map .str));rw[<- Rd (f:=V.str)];show ah rfl<|bI σ.hd (σ.get 3 rfl) (by rw[Lt,Lt,Q9,F,RG];show aO (Gt (RS (Rv (Rb z 3) 1) zl) (dR rfl))) λNm hN=>?_;let en:((gW++ts)++[("$accept":Str)])++lf=da lf ts:=Rz ..;rw[<- Rd,en];let O4:=σ.new hN (.list ((da lf ts).map .str));show bS O4.Xx λU0 Y o O5=>?_;let O6:aA _ _ []:=O5.sub (Se _);replace hR:=Y _ _ hR;replace hu:=λe he=>Y _ _ (hu e he);replace q:∀h UX,h.nms=da lf ts->bF U0 UX->bh UX (gF (jz pq) lf ts) h->Q (.ref h.a) UX:=λh UX a E b=>q h UX a (Y.trans E) b;let ix {C:CT} {L:aQ} {UX:aw} {x y:Mine.Internal.Nm} {p q:Ps} {s:Str} (E:bF U0 UX) hx hy J:Ev C L UX (.U1 .index (.loc x) (.cons (.loc y) .nil) p q) (.int (eF lf ts s)):=Am (φ:=.s) Da Fy (ag hx) (ag hy) (E _ _ o) H J;let mS:=K.Zu D (.inl (Q4 K.l0));show aC<|bL<|aj<|wL (n:=n+1) (i:=0) (l:=3+ts.length) (r:=[eF lf ts sS,0]) O6 am (ag rfl) (bW (be (ix O6.ext rfl rfl mS) (bz (yk rfl))) aT) (λQ' k=>zz rfl (k 0)) λa U4 Wg lv u I O7=>#[bk,λT M=>?_];let O8:=O7.new M (.list ([a].map .ref));let h0:(gF (jz pq) lf ts).rules[0]?=some (3+ts.length,[eF lf ts sS,0]):=rfl;let P0:Pr (gF (jz pq) lf ts) 1 [a] (λ_=>lv) U4:=#[rfl,λi l r hi e=>by
  let:i=0:=UQ (R4 hi);subst this;rw[h0]at e;replace e:=Is e;cases e;show#[a,rfl,I]]
 show aR<|aK<|ah rfl<|aI ((u.trans O8.ext) _ _ hR)<|eY (a0:=(x3,x4,none)) (a1:=[a]) (a2:=λ_=>lv) (a3:=U4) (λ_ x _ _ _=>I6 R Lf x.1 x.2.1 (some (.str sS)) (some (.ref Nm)) x7 (some (.int ((3+ts.length:Nat):Int))) (some (.ref T)) x.2.2) (λk _ rs lvl U4 UX=>bF U0 U4/\Pr (gF (jz pq) lf ts) (k+1) rs lvl U4/\aA U4 UX [(T,.list (rs.map .ref))]) #[u,P0,O8] (λj=>(j.1.trans j.2.2.ext) _ _ hR) (λ{x rs lvl U4 XW} j=>?_) λ{k x x3 rs lvl U4 XW K'} hx j go _=>Ip hx λ{e} he=>cK rfl ?_
 .show bP j λE P O=>?_;clear j;rw[Lt]at P;let el:(gF (jz pq) lf ts).rules.length=pq.length+1:=by
   change((jz pq).map _).length+1=_;unfold jz;rw[Lt,Lt]
  show bB<|qu<|au<|ah rfl<|au<|ah rfl<|au<|ah rfl<|au<|dC λlv N m=>au<|bi<|aj<|ix ((E.trans O.ext).trans ((aA.nil XW).new m _).ext) rfl rfl mS _ λga gd ne h1 h2=>ao ((O.new m (.dict [] N)).tl.WK) λX Or=>?_;let hr:=aB U4 T (.list (rs.map .ref));let Og:=f6 (c:=169) Or ne h1 h2;show Fg (n:=n+1) (g:=gF (jz pq) lf ts) (nms:=da lf ts) (rs:=rs) (lvl:=lvl) (lv:=.ref lv) (λh hn=>K.sz D hn) W zn Og (X _ _ (E _ _ o)) hr (P.len.trans el.symm) (λi l r e=>?_) λh UX ha hn w G=>#[rfl,ha▸q h UX hn ((E.trans X).trans w) G];show(P.ru i l r (el▸ai e) e).imp λ_ k=>#[k.1,k.2.ext X]
 show bP j λE P O=>?_;clear j;let em:=Q4 he;let ze:=(D.ok _ (sD he)).2.1;let w:=E.trans O.ext;let mm {s} h:s∈da lf ts:=K.Zu D (K.all _ (Q4 (l:=jz pq) (i:=k) (by unfold jz;rw[List.getElem?_map,he];rfl)) s h);let hr:(gF (jz pq) lf ts).rules[k+1]?=some (eF lf ts e.1,e.2.1.map (eF lf ts)):=by
  change((jz pq).map _)[k]?=_;unfold jz;rw[RF,RF,he];rfl
 show aC<|aP<|bp<|aK<|ah rfl<|aI (w _ _ (hu e em))<|Bl (f:=V.str) (ho:=eF lf ts) (fo:=kI) (Gt ze (dR rfl)) (w _ _ (hu e em)) (λ{s} J=>ix w rfl rfl (mm J)) λc hc=>?_;let t:=O.new hc (.list ((e.2.1.map (eF lf ts)).map kI));show l6 t.hd (aH (aH (aO (Gt ze (dR rfl)))))<|dO<|cb<|ah rfl #[cg (t.get 1 rfl),aj ?_];show wL (n:=n+1) (i:=k+1) t.tl (by rw[<- P.len];show cR (l:=rs) (f:=V.ref) (ag rfl) (t.get 1 rfl) (by rw[P.len];let:=ai he;show Gt this (Gt Z (dR rfl)))) (ix (E.trans t.ext) rfl rfl (K.Zu D (.inl ((K.lm e.1).mpr #[e.2.1,sD he])))) (ag rfl) (λQ' k=>aG<|au<|ah rfl<|aj<|ah rfl<|pC (n:=n+1) (tc:=3+ts.length) k) λa Wj X5 lv u I d=>dF d.hd (by rw[Lt,P.len];show cY (by let:=ai he;show Q5 (Gt this Z) (dR rfl)))<|fc<|bG<|go (b0:=(_,_,_)) (b1:=rs++[a]) #[E.trans u,P.new u hr I,?_];rw[Rd];show d.set 0 rfl _
theorem pv{Q:QV}(q:∀h lf ts UX,Pg (jz pq) lf ts->h.nms=da lf ts->bF U UX->bh UX (gF (jz pq) lf ts) h->Q (.ref h.a) UX):CC (n+3) 186 [.ref R] U Q:=by show ME hR hu D λLf x3 x4 lf UY b O=>MF hR hu D b O λNm x3 x4 x7 ts U3 K O=>MG hR hu D K O λh UX=>q h lf ts UX K
end
variable{B Hd e0 ep:Nat}{H:TF}{fd:TN}{hd:TP}{nm:TR}{v:V}
structure Cd(nm:TR)(e0:Nat):Prop where
 inj:∀{a b},nm a=nm b->a=b
 e:nm e0=""
noncomputable def nV(nm:TR)(k:Nat):V:=.str (nm k)
theorem Cd.em(c:Cd nm e0):lT .s (nV nm):=#[λa=>#[nm a,rfl],λh=>c.inj (V.str.inj h)]
theorem Lb(nm:TR)(k:Nat):FK.s.is (nV nm k):=#[nm k,rfl]
theorem Cd.dec(c:Cd nm e0)(x:Nat):decide (nm x=("":Str))=decide (x=e0):=To.mpr #[λh=>c.inj (h.trans c.e.symm),λh=>h▸c.e]
section
variable(e0:Nat)(S:TF)
noncomputable def GU:List Nat->List Nat->List Nat
 |[],fd=>fd++[e0]
 |p::ps,fd=>bif decide (e0∈S p) then GU ps (fd++(S p).filter λx=>!decide (x=e0)&& !decide (x∈fd)) else fd++(S p).filter λx=>!decide (x=e0)&& !decide (x∈fd)
theorem Go{ps:List Nat}:GU e0 S (p::ps) fd=bif decide (e0∈S p) then GU e0 S ps (fd++(S p).filter λx=>!decide (x=e0)&& !decide (x∈fd)) else fd++(S p).filter λx=>!decide (x=e0)&& !decide (x∈fd):=rfl
def Bg(w:TN)(x:Nat):Prop:=(x≠e0/\∃a s b,w=a++s::b/\(∀y∈a,e0∈S y)/\x∈S s)\/(x=e0/\∀y∈w,e0∈S y)
end
section
variable{S:TF}
theorem AY{l:TN}{x:Nat}:x∈fd++(l.filter λx=>!decide (x=e0)&& !decide (x∈fd))↔x∈fd\/(x≠e0/\x∈l):=by
 erw[Ra,Sa];by_cases c:x∈fd
 .simp[c]
 simp[c,and_comm]
theorem KM{l:TN}(h:fd.Nodup)(k:l.Nodup):(fd++(l.filter λx=>!decide (x=e0)&& !decide (x∈fd))).Nodup:=R3.mpr #[h,k.sublist Tz,λa d b c e=>by
 let:=(R8.mp (Sa.mp c).2).2;rw[<- e,SW d]at this;cases this]
theorem Bn(w fd:TN)(x:Nat):x∈GU e0 S w fd↔x∈fd\/Bg e0 S w x:=by
 induction w generalizing fd with
 |nil=>
  change x∈fd++[e0]↔_;unfold Bg;erw[Ra,Q6];show or_congr Iff.rfl #[λh=>.inr #[h,λ_ h=>n0 h],λh=>h.elim (λzq=>?_) (·.1)];show uI zq.2 λa s b e _=>?_;cases a<;>cases e
 |cons p w d=>
  let st:Bg e0 S (p::w) x↔(x≠e0/\x∈S p)\/(e0∈S p/\Bg e0 S w x):=by
   constructor
   .ext(⟨h,a,s,b,e,k,hx⟩|⟨h,k⟩)
    .induction a with
     |nil=>cases e;show .inl #[h,hx]
     |cons y a=>cases e;show .inr #[k _ (.head _),.inl #[h,a,s,b,rfl,λz hz=>k z (.tail _ hz),hx]]
    show .inr #[k _ (.head _),.inr #[h,λz hz=>k z (.tail _ hz)]]
   ext(⟨h,hx⟩|⟨h0,⟨h,a,s,b,e,k,hx⟩|⟨h,k⟩⟩)
   .show .inl #[h,[],p,w,rfl,(λ_ h=>n0 h),hx]
   .show .inl #[h,p::a,s,b,by rw[e];rfl,λz hz=>(RB.mp hz).elim (λq=>q▸h0) (k z),hx]
   show .inr #[h,λz hz=>(RB.mp hz).elim (λq=>q▸h0) (k z)]
  rw[Go];by_cases c:e0∈S p
  .erw[SW c,Ua,d,AY,st,or_assoc];show or_congr Iff.rfl (or_congr Iff.rfl #[λh=>#[c,h],(·.2)])
  erw[SC c,Ui,AY,st];show or_congr Iff.rfl #[.inl,λh=>h.elim id λh=>absurd h.1 c]
theorem Gn(hS:∀p,(S p).Nodup)(w fd:TN)(h:fd.Nodup)(k:e0∉fd):(GU e0 S w fd).Nodup
 := by
  induction w generalizing fd with
  |nil=>show R3.mpr #[h,RJ ..,λa f b c e=>k (by rw[Q6]at c;rw[<- c,<- e];show f)]
  |cons p w d=>
    rw[Go];let n:=KM (e0:=e0) h (hS p);cases decide (e0∈S p)with
    |true=>show d _ n λq=>(AY.mp q).elim k λq=>q.1 rfl
    |false=>show n
end
theorem r6{C:CT}{w:V}(h:v=w):Ev C L U (.lit v p) w:=h▸am
structure HT(U:aw)(nm:TR)(hd:TP)(H:TF)(N:Nat->Prop):Prop where
 key:∀k,(∃u,br hd k=some u)↔N k
 cell:∀{k u},br hd k=some u->U u=some (.list ((H k).map (nV nm)))
theorem HT.ext{N:Nat->Prop}(h:HT U nm hd H N)(E:bF U UX):HT UX nm hd H N:=#[h.key,λe=>E _ _ (h.cell e)]
open Classical in
noncomputable def Sx(N:Nat->Prop)(H:TF)(p:Nat):List Nat:=if N p then H p else[p]
section
variable{N:Nat->Prop}(c:Cd nm e0)(T:HT U0 nm hd H N)
include c T
theorem K7{C:CT}{z:E}{Q:QV}(O:aA U0 U m)(hH:∀{UX},bF U UX->UX Hd=some (.dict (dK (nV nm) .ref hd) ep))(hx:Ev C L U x (.ref Hd))(hy:Ev C L U y (nV nm k))(hz:Ev C L U z (nV nm k))(q:∀u UX,aA U0 UX m->bF U UX->UX u=some (.list ((Sx N H k).map (nV nm)))->Q (.ref u) UX):bj tab C (.U1 .get x (.cons y (.cons (.list (.cons z .nil) p) .nil)) p1 p2) L U Q:=by
 show cb<|hx _ #[Jm (hH (.refl _)),au<|hy _<|aj<|bL<|aj<|hz _ #[bk,λu hu=>?_]];let b:bF U (bq U u (.list [nV nm k])):=((aA.nil U).new hu _).ext;let a:=(O.new hu (.list [nV nm k])).tl;show gD (hH b) #[gj c.em hd k,?_];erw[tj c.em];cases e:br hd k with
 |none=>
  let d:¬N k:=λh=>by
   show az ((T.key k).mpr h) λu hu=>?_;rw[e]at hu;show nS hu
  unfold br at e;rw[e];show q u _ a b (by unfold Sx;rw[if_neg d];show aB ..)
 |some w=>
  let f:=(T.key k).mp #[w,e];let hw:=T.cell e;unfold br at e;rw[e];show q w _ a b (by unfold Sx;rw[if_pos f];show a.ext _ _ hw)
theorem uY{Q:QV}{w:TN}(hH:U0 Hd=some (.dict (dK (nV nm) .ref hd) ep))(i:w.length<=900)(zS:∀p,(Sx N H p).length<=100)(q:∀c UX,aA U0 UX [(c,.list ((GU e0 (Sx N H) w []).map (nV nm)))]->Q (.ref c) UX):CC (n+1) 626 [.ref Hd,.tup (w.map (nV nm))] U0 Q:=by
 change an tab (CC n) jZ [some (.ref Hd),some (.tup (w.map (nV nm))),none,none,none] U0 (aW Q);show gE (.nil U0) λFd UY D=>aR<|aK<|ah rfl<|jF<|eY (λ_ Fd x3 x4 _=>[some (.ref Hd),some (.tup (w.map (nV nm))),some (.ref Fd),x3,x4]) (λk Fd _ _ fd UX=>aA U0 UX [(Fd,.list (fd.map (nV nm)))]/\GU e0 (Sx N H) w []=GU e0 (Sx N H) (w.drop k) fd/\fd.length<=100*k) #[D,rfl,Rx _] (λ_=>trivial) (λ{Fd x3 x4 fd U3} j=>?_) λ{k x Fd x3 x4 fd U3 K} hx j go v=>el hx λ{p} m=>?_
 .show bP j λO e z=>?_;rw[Lt]at e z;rw[List.drop_length]at e;show bB<|bv<|ah rfl<|bL<|aj<|bi #[bk,λA b=>?_];let g:=O.new b (.list [nV nm e0]);let ev:(V.str "")=nV nm e0:=Rs V.str c.e.symm;rw[ev];show bI (g.get 1 rfl) g.hd (by rw[Lt,RG];show aO (Gt (Rj (Gt z (RV 100 i))) (dR rfl))) λB a=>q B _ ?_;rw[e];change aA U0 _ [(B,.list ((fd++[e0]).map (nV nm)))];rw[Rd];show(g.new a _).sub (.cons_cons _ (Se _))
 show bP j λO e z=>?_;clear j;let t:=Rc (ai m) i;rw[bR m]at e;rw[Go]at e;show aC<|K7 c T O (λE=>E _ _ (O.ext _ _ hH)) (ag rfl) (ag rfl) (ag rfl) λu o s F hu=>?_;show aC<|bv<|ah rfl<|bp<|aK<|ah rfl<|aI hu<|ff (pr:=λx=>!decide (x=e0)&& !decide (x∈fd)) (Gt (zS p) (dR rfl)) hu (λ{y} _=>dr (by rw[<- c.dec];show Dx (ag rfl) am) λ_=>iC c.em (Lb nm) (ag rfl) (ag rfl) s.hd) (ag rfl) λA b=>?_;let f:=s.new b (.list (((Sx N H p).filter λx=>!decide (x=e0)&& !decide (x∈fd)).map (nV nm)));let l:((Sx N H p).filter λx=>!decide (x=e0)&& !decide (x∈fd)).length<=100:=Gt (ST ..) (zS p);show bI (f.get 1 rfl) f.hd (by rw[Lt,Lt];show aO (Gt (RS (Gt z (RV 100 (Rf t))) l) (dR rfl))) λB a=>?_;let C:=f.new a (.list ((fd++(Sx N H p).filter λx=>!decide (x=e0)&& !decide (x∈fd)).map (nV nm)));rw[<- Rd];let r:=C.sub (.cons_cons _ (Se _));let d:bq (bq o A (.list (((Sx N H p).filter λx=>!decide (x=e0)&& !decide (x∈fd)).map (nV nm)))) B (.list ((fd++(Sx N H p).filter λx=>!decide (x=e0)&& !decide (x∈fd)).map (nV nm))) u=some (.list ((Sx N H p).map (nV nm))):=(((aA.nil o).new b _).new a _).ext _ _ hu;show cC (iC c.em (Lb nm) (r6 (Rs V.str c.e.symm)) (ag rfl) d) (λh=>?_) λh=>bE<|go #[r,?_,by rw[Q9];show RS z l]
 .rw[(SA _).mp h,Ui]at e;show cB (ag rfl) (v (q B _ (e▸r)))
 rw[(Bool.not_eq_false' _).mp h,Ua]at e;show e
end
end
section
variable{H H0:TF}{σ f w:TN}{e0 k x:Nat}{g:Gm}
def d6(g:Gm)(k:Nat):Prop:=g.tc<k/\k<=g.tc+g.nn
noncomputable def wu(H:TF)(l:Nat)(v:TN):Nat->List Nat:=λk=>if k=l then v else H k
noncomputable def G8(g:Gm)(H:TF):Nat:=((List.range' (g.tc+1) g.nn).map λk=>(H k).length).sum
def wq(σ:TN)(H:TF):Prop:=∀k,(H k).Nodup/\∀x∈H k,x∈σ
noncomputable def wv(g:Gm)(z:Nat):List Nat:=z::List.range' 3 (g.tc - 3)
theorem dB(S:Sm g)(z:Nat):(wv g z).length<=4:=by unfold wv;let:=S.tc;rw[Rq,List.length_range'];show Rj (Nat.sub_le_sub_right this 3)
theorem NW{z:Nat}:x∈wv g z↔x=z\/(3<=x/\x<g.tc):=by
 unfold wv;erw[RB,List.mem_range'_1];show or_congr Iff.rfl (Ub λh=>?_);rcases Nat.le_total 3 g.tc with q|q
 .rw[Uj q]
 rw[Nat.sub_eq_zero_of_le q];show#[λk=>absurd h (UJ.mpr k),λk=>absurd (Gt q h) (UJ.mpr k)]
theorem N5:k∈List.range' (g.tc+1) g.nn↔d6 g k:=by erw[List.mem_range'_1,Tc];show and_congr Iff.rfl Nat.lt_succ_iff
theorem wy(h:wq σ H)(z:σ.length<=4)(a:d6 g l)(hx:x∈σ)(k:x∉H l):G8 g H<4*g.nn:=by
 let b:=λk=>Gt ((h k).1.length_le_of_subset (h k).2) z;let c:(H l).length<4:=by
  let:=(R9.mpr #[k,(h l).1]).length_le_of_subset λy hy=>(RB.mp hy).elim (λe=>e▸hx) ((h l).2 y);rw[Rq]at this;show Gt this z
 let:=yq (λk _=>b k) (N5.mpr a) c;rw[List.map_const',List.sum_replicate_nat,List.length_range']at this;unfold G8;rw[Nat.mul_comm];show this
set_option tactic.hygienic true in
theorem Du(a:d6 g l)(hf:f≠[]):G8 g H<G8 g (wu H l (H l++f)):=by
 show yq (λk _=>?_) (N5.mpr a) ?_
 .unfold wu;split
  .rename_i e;rw[e,Q9];show Ri ..
  show Rm _
 unfold wu;rw[RO rfl,Q9];show Nat.lt_add_of_pos_right (List.length_pos_iff.mpr hf)
set_option tactic.hygienic true in
theorem G7:wu H l (H l++[])=H:=funext λk=>by
 unfold wu;split
 .rename_i e;rw[e,RD]
 rfl
set_option tactic.hygienic true in
theorem wq.up(h:wq σ H)(n:f.Nodup)(k:∀x∈f,x∈σ/\x∉H l):wq σ (wu H l (H l++f)):=λj=>by
 unfold wu;split
 .rename_i e;subst e
  show#[R3.mpr #[(h j).1,n,λa d b c e=>(k b c).2 (e▸d)],λx hx=>(Ra.mp hx).elim ((h j).2 x) λhx=>(k x hx).1]
 show h j
def IJ(g:Gm)(cl:Prop)(H0 H:TF)(P:Prop):Prop:=(H=H0/\P)\/(G8 g H0<G8 g H/\¬cl)
theorem IJ.imp{cl P a:Prop}(h:IJ g cl H0 H P)(k:P->a):IJ g cl H0 H a:=Or.imp (And.imp id k) id h
section
variable(W:WF g)(he:g.tc+g.nn<e0)
def C2(g:Gm)(e0:Nat)(H:TF):Prop:=∀{k x},x∈H k->d6 g k/\((x≠e0/\VG g k x/\3<=x)\/(x=e0/\Wf g k))
def JE(g:Gm)(e0:Nat)(H:TF)(e:Nat×List Nat):Prop:=∀x,Bg e0 (Sx (d6 g) H) e.2 x->x∈H e.1
def Oo(g:Gm)(e0:Nat)(H:TF):Prop:=∀k,d6 g k->(∀t,t≠e0->(t∈H k↔VG g k t))/\(e0∈H k↔Wf g k)
theorem Ag(h:d6 g p):Sx (d6 g) H p=H p:=RO h
theorem GE(h:p<g.tc):Sx (d6 g) H p=[p]:=RX λk=>absurd h (Sn.mpr (Rf k.1))
def Rt(g:Gm)(w:TN):Prop:=∀s∈w,(3<=s/\s<g.tc)\/d6 g s
theorem Rt.of(W:WF g)(h:g.rules[i+1]?=some (l,r)):Rt g r:=λs a=>W.right i l r s h a
include he in
theorem zR(h:C2 g e0 H)(i:Rt g w)(b:Bg e0 (Sx (d6 g) H) w x):(x≠e0/\bx g w x/\3<=x)\/(x=e0/\bM g w):=by
 let nl:∀{y},y∈w->e0∈Sx (d6 g) H y->Wf g y:=λ{y} hy k=>by
  rcases i y hy with c|c
  .rw[GE c.2,Q6]at k;show absurd (k▸c.2:e0<g.tc) (Sn.mpr (Rf (Q5 (Ri _ _) he)))
  rw[Ag c]at k;show(h k).2.elim (λq=>absurd rfl q.1) (·.2)
 rcases b with d|d
 .show ao d λn j=>?_;clear d;show kD j ?_;clear j;ext a s b rfl l e;show .inl #[n,?_];let f:=λy hy=>nl (RE _ hy) (l y hy);clear nl;rcases i s (Rk _ (.head _))with c|c
  .rw[GE c.2,Q6]at e;subst e;show#[#[a,x,b,rfl,f,.self x c.2],c.1]
  rw[Ag c]at e;rcases (h e).2 with q|q
  .show#[#[a,s,b,rfl,f,q.2.1],q.2.2]
  show absurd q.1 n
 show ao d ?_;clear d;ext rfl k;show .inr #[rfl,λy hy=>nl hy (k y hy)]
include W he in
theorem y3(h:C2 g e0 H)(cl:∀e∈g.rules.drop 1,JE g e0 H e):Oo g e0 H:=by
 let rl:∀{l r},(l,r)∈g.rules->d6 g l->(l,r)∈g.rules.drop 1:=λ{l r} m k=>by
  show az (eS m) λi hi=>?_;induction i with
  |zero=>show aq W.zero λS e _=>?_;rw[e]at hi;replace hi:=Is hi;cases hi;show absurd k.1 (Si _)
  |succ i=>show Q4 (by rw[Uv,Sc];show hi)
 let nul:∀{k},Wf g k->d6 g k->e0∈H k:=λ{k} n=>by
  induction n with
  |mk l r m hr j=>
   show λo=>cl _ (rl m o) _ (.inr #[rfl,λy hy=>?_]);let d:=(W.Vh m hy).resolve_left (Sn.mpr ((hr y hy).ge W));rw[Ag d];show j y hy d
 let fst:∀{k t},VG g k t->d6 g k->t∈H k:=λ{k t} n=>by
  induction n with
  |self t ht=>show λk=>absurd ht (Sn.mpr (Rf k.1))
  |rule l a s b t m p f j=>
   ext o;let ht:=f.lt;show cl _ (rl m o) _ (.inl #[RY (Tf ht (Q5 (Ri _ _) he)),a,s,b,rfl,λy hy=>?_,?_])
   .let d:=(W.Vh m (RE _ hy)).resolve_left (Sn.mpr ((p y hy).ge W));rw[Ag d];show nul (p y hy) d
   rcases W.Vh m (Rk _ (.head _))with c|c
   .erw[GE c,Q6];show f.term W c
   rw[Ag c];show j c
 show λk u=>#[λt ht=>#[λm=>(h m).2.elim (·.2.1) λq=>absurd q.1 ht,λf=>fst f u],λm=>(h m).2.elim (λq=>absurd rfl q.1) (·.2),λn=>nul n u]
include W he in
theorem Gl(h:Oo g e0 H)(i:Rt g w):Bg e0 (Sx (d6 g) H) w x↔(x≠e0/\bx g w x)\/(x=e0/\bM g w):=by
 let nl:∀{y},y∈w->(e0∈Sx (d6 g) H y↔Wf g y):=λ{y} hy=>by
  rcases i y hy with c|c
  .erw[GE c.2,Q6];show#[λk=>absurd (k▸c.2:e0<g.tc) (Sn.mpr (Rf (Q5 (Ri _ _) he))),λk=>absurd (k.ge W) (UJ.mpr c.2)]
  rw[Ag c];show(h y c).2
 let fs:∀{y},y∈w->x≠e0->(x∈Sx (d6 g) H y↔VG g y x):=λ{y} hy n=>by
  rcases i y hy with c|c
  .erw[GE c.2,Q6];show#[λk=>k▸.self x (k▸c.2),λk=>k.term W c.2]
  rw[Ag c];show(h y c).1 x n
 show or_congr (Ub λn=>#[λzq=>?_,λzq=>?_]) (Ub λ_=>forall_congr' λy=>forall_congr' λhy=>nl hy)
 .show kD zq λa s b e f d=>?_;subst e;show#[a,s,b,rfl,λy hy=>(nl (RE _ hy)).mp (f y hy),(fs (Rk _ (.head _)) n).mp d]
 show kD zq λa s b e f d=>?_;subst e;show#[a,s,b,rfl,λy hy=>(nl (RE _ hy)).mpr (f y hy),(fs (Rk _ (.head _)) n).mpr d]
end
variable{Hd R a ep VE n:Nat}{L:aQ}{e:Nat×List Nat}{elt x:E}{hd:TP}{n1 n2:Nm}{nm:TR}{x4:TO}{α β:Type}{U UX UY U3 U4:aw}
theorem Ga{C:CT}{a b:V}{R:Option V->aw->Prop}(h:bj tab C elt (L++[some a,some b]) U λv UX=>R (some v) UX):tw C elt (.tup [n1,n2] q) .nil L (.tup [a,b]) U R:=#[λ_=>h,nt]
theorem Be[DecidableEq α](l:List (α×β)):∀e∈mY l,e∈l:=by
 let:∀(l acc:List (α×β)),∀e∈l.foldl (λa e=>dQ a e.1 e.2) acc,e∈acc\/e∈l:=by
  ext l;induction l with
  |nil=>show λacc e h=>.inl h
  |cons x l b=>
   ext acc e h;rcases b _ e h with h|h
   .let:e∈acc\/e=x:=by
     change e∈dQ acc x.1 x.2 at h;unfold dQ at h;cases q:(acc.lookup x.1).isSome with
     |true=>
      rw[q,Ua]at h;show aq (Re.mp h) ?_;clear h;clear h;ext y hy rfl;cases y.1== x.1 with
      |true=>show .inr rfl
      |false=>show .inl hy
     |false=>
      rw[q,Ui]at h;show(Ra.mp h).imp id Q6.mp
    show this.imp id λh=>by rw[h];show .head _
   show .inr (.tail _ h)
 show λe h=>(this l [] e h).elim (λh=>(n0 h)) id
theorem Dm{f:α->V}{g:β->V}{C:CT}{d:List (α×β)}(E:lT .s f)(hx:Ev C L U x (.ref a))(h:U a=some (.dict (dK f g d) ep))(z:d.length<=100000):Ev C L U (.prim .len (.cons x .nil) p q) (.int d.length):=λQ k=>hx _ (by
 show GR h #[λe he=>?_,aH (aO z),?_]
 .show aq (Re.mp he) ?_;ext y _ rfl;show E.is _
 unfold dK;rw[List.length_map];show k)
theorem wS[DecidableEq α]{d:List (α×β)}{k:α}{u:β}(h:br d k=some u)(v:β):(dQ d k v).length=d.length:=by unfold br at h;unfold dQ;rw[h];show List.length_map _
noncomputable def pN(nm:TR)(x:Nat×List Nat):V:=.tup [nV nm x.1,.tup (x.2.map (nV nm))]
set_option tactic.hygienic true in
theorem HT.put{N:Nat->Prop}(h:HT U nm hd H N)(E:bF U UX)(a:N l){v:TN}(b:UX c=some (.list (v.map (nV nm)))):HT UX nm (dQ hd l c) (wu H l v) N:=by
 show#[λk=>?_,λ{k u} e=>?_]
 .rw[cD];split
  .rename_i e;show#[λ_=>e▸a,λ_=>#[_,rfl]]
  show h.key k
 rw[cD]at e;unfold wu;split
 .rename_i q;rw[RO q]at e;replace e:=Is e;cases e;show b
 rename_i q;rw[RX q]at e;show E _ _ (h.cell e)
structure HB(g:Gm)(nm:TR)(σ:TN)(U:aw)(Hd:Nat)(hd:TP)(H:TF)(ep:Nat)(U4 UX:aw):Prop where
 ext:bF U U4
 own:aA U4 UX [(Hd,.dict (dK (nV nm) .ref hd) ep)]
 ht:HT U4 nm hd H (d6 g)
 tb:wq σ H
 len:hd.length=g.nn
 nd:(hd.map (·.1)).Nodup
theorem HB.up(h:HB g nm σ U Hd hd H ep U4 UX)(b:d6 g l){f:TN}(n:f.Nodup)(k:∀x∈f,x∈σ/\x∉H l)(O:aA U4 U3 [(B,.list ((H l++f).map (nV nm))),(Hd,.dict (dK (nV nm) .ref (dQ hd l B)) VE)]):∃a,HB g nm σ U Hd (dQ hd l B) (wu H l (H l++f)) VE a U3:=by show bS O.Xx λa E c d=>?_;show az ((h.ht.key l).mpr b) λu hu=>#[a,h.ext.trans E,d,h.ht.put E b c,h.tb.up n k,(wS hu B).trans h.len,pu h.nd _]
theorem HB.sx{nm:TR}{U:aw}{Hd:Nat}{hd:TP}{ep:Nat}{U4 UX:aw}(h:wq σ H)(z:σ.length<=4)(p:Nat):(Sx (d6 g) H p).Nodup/\(Sx (d6 g) H p).length<=100:=by
 unfold Sx;split
 .show#[(h p).1,Gt ((h p).1.length_le_of_subset (h p).2) (Gt z (dR rfl))]
 show#[RJ ..,Q7 rfl]
theorem qm(h:e∈g.rules.drop 1):∃i,g.rules[i+1]?=some (e.1,e.2):=by show az (RL.mp h) λi hi=>?_;rw[Uv,Sc]at hi;show#[i,hi]
theorem DT(W:WF g):k∈(g.rules.drop 1).map (·.1)↔d6 g k:=by
 constructor
 .ext h;show aq (Re.mp h) ?_;clear h;ext e he rfl;show az (qm he) λi hi=>?_;show W.left _ _ _ hi
 ext h;show uI (W.has k h.1 h.2) λi a w e _=>?_;induction i with
 |zero=>show aq W.zero λS e0 _=>?_;rw[e0]at e;clear e0;replace e:=Is e;cases e;show absurd h.1 (Si _)
 |succ i=>show Rn (Q4 (by rw[Uv,Sc];show e))
theorem uK(n:(hd.map (·.1)).Nodup)(k:∀x,x∈hd.map (·.1)↔d6 g x):hd.length=g.nn:=by let:=((List.perm_ext_iff_of_nodup n (List.nodup_range')).mpr λx=>(k x).trans N5.symm).length_eq;rw[Lt,List.length_range']at this;show this
noncomputable def N9(R:Nat)(b a:TO)(Hd:Nat)(x4:TO):aQ:=[some (.ref R),b,a,some (.ref Hd),x4,none,none,none,none]
section
variable(c:Cd nm e0)(W:WF g)(S:Sm g)(h3:∀{i l:Nat}{r:TN},g.rules[i]?=some (l,r)->r.length<=3)(he:g.tc+g.nn<e0)(hR:U R=some (.list ((g.rules.drop 1).map (pN nm))))
include c W S h3 he hR
set_option tactic.hygienic true in
theorem OV{Q:QF}(J:(g.rules.drop 1)[k]?=some e)(h:HB g nm (wv g e0) U Hd hd H ep U4 UY)(r:C2 g e0 H)(rd:IJ g (∀e∈g.rules.drop 1,JE g e0 H0 e) H0 H (∀e∈(g.rules.drop 1).take k,JE g e0 H0 e))
  (q:∀hd H ep U4 UX,HB g nm (wv g e0) U Hd hd H ep U4 UX->C2 g e0 H->IJ g (∀e∈g.rules.drop 1,JE g e0 H0 e) H0 H (∀e∈(g.rules.drop 1).take (k+1),JE g e0 H0 e)->Q .next (N9 R (some (nV nm e.1)) (some (.tup (e.2.map (nV nm)))) Hd x4) UX):
  an tab (CC (n+1)) lK (N9 R (some (nV nm e.1)) (some (.tup (e.2.map (nV nm)))) Hd x4) UY Q:=by
 let em:=Q4 J;show az (qm em) λi hi=>?_;let t:=W.left _ _ _ hi;show az ((h.ht.key e.1).mpr t) λu hu=>?_;let O:=h.own;let m:=h.ht.cell hu;let sx:=HB.sx (g:=g) (nm:=nm) (U:=U) (Hd:=0) (hd:=[]) (ep:=0) (U4:=U) (UX:=U) h.tb (dB S e0);let zH:=Gt ((h.tb e.1).1.length_le_of_subset (h.tb e.1).2) (dB S e0);let nb:=Gn (e0:=e0) (λp=>(sx p).1) e.2 [] .nil (λh=>(by show n0 h));let E:∀x,x∈GU e0 (Sx (d6 g) H) e.2 []↔Bg e0 (Sx (d6 g) H) e.2 x:=λx=>(Bn e.2 [] x).trans #[λh=>h.elim (λh=>(by show n0 h)) id,.inr];let I:∀x,Bg e0 (Sx (d6 g) H) e.2 x->x∈wv g e0:=λx hx=>NW.mpr ((zR he r (.of W hi) hx).elim (λq=>.inr #[q.2.2,q.2.1.lt]) λq=>.inl q.1);let D:=Gt (nb.length_le_of_subset λx hx=>I x ((E x).mp hx)) (dB S e0);let hit {C:CT} {L:aQ} {UX:aw} {x y:Nm} {p:Ps} (Y:UX Hd=some (.dict (dK (nV nm) .ref hd) ep)) hx hy:Ev C L UX (.item (.loc x) (.loc y) p) (.ref u):=bH (d:=hd) (k:=e.1) c.em (ag hx) (ag hy) Y hu;show pe<|bv<|hit O.hd rfl rfl _<|bp<|aK<|aG<|au<|ah rfl<|aj<|ah rfl<|uY (n:=n) (w:=e.2) c (h.ht.ext O.ext) O.hd (Gt (h3 hi) (dR rfl)) (λp=>(sx p).2) λb U3 z=>?_;let v:=O.app z;generalize GU e0 (Sx (d6 g) H) e.2 []=bl at z v nb E D;show aI z.hd<|ff (Gt D (dR rfl)) z.hd (λ{y} _=>iC (φ:=.s) c.em (Lb nm) (ag rfl) (hit (v.get 1 rfl) rfl rfl) (v.ext _ _ m)) (ag rfl) λA T=>?_;let o:=v.new T (.list ((bl.filter λx=>!decide (x∈H e.1)).map (nV nm)));let a:∀x,x∈bl.filter (λx=>!decide (x∈H e.1))↔Bg e0 (Sx (d6 g) H) e.2 x/\x∉H e.1:=λx=>by
  erw[Sa,E];show Ub λ_=>?_;erw[SA,decide_eq_false_iff_not]
 let N:=nb.sublist (Tz (p:=λx=>!decide (x∈H e.1)));let G:(bl.filter λx=>!decide (x∈H e.1)).length<=4:=Gt (ST ..) D;generalize bl.filter (λx=>!decide (x∈H e.1))=f at o a N G;show bI (o.ext _ _ m) o.hd (by rw[Lt,Lt];show aO (by show Gt (RS ‹_› ‹_›) (dR rfl))) λB M=>?_;rw[<- Rd];let F:=(o.new M (.list ((H e.1++f).map (nV nm)))).sub (.cons_cons _ (.cons _ (.cons _ (.refl _))));show ah rfl<|ah rfl<|jB (F.get 1 rfl) (gj c.em hd e.1) (by unfold dK;rw[List.length_map,h.len];show cY (Nat.lt_of_le_of_lt S.nn (dR rfl))) ?_;rw[show eG (dK (nV nm) V.ref hd) (nV nm e.1) (V.ref B)=dK (nV nm) .ref (dQ hd e.1 B) from iU c.em hd];clear M G o;obtain⟨Z,K⟩:=h.up t N (λx hx=>#[I x ((a x).mp hx).1,((a x).mp hx).2]) (F.set 1 rfl (.dict (dK (nV nm) .ref (dQ hd e.1 B)) _));show bG<|q _ _ _ Z _ K ?_ ?_
 .ext k' x hx;unfold wu at hx;split at hx
  .rename_i X;subst X
   rcases Ra.mp hx with hx|hx
   .show r hx
   show#[t,(zR he r (.of W hi) ((a x).mp hx).1).imp (λq=>#[q.1,q.2.1.rule (aF hi),q.2.2]) λq=>#[q.1,Wf.rule (aF hi) q.2]]
  show r hx
 clear K F q;induction f with
 |nil=>
  rw[G7];rcases rd with l|rd
  .show ao l ?_;clear l;ext rfl P;show .inl #[rfl,λe' j=>?_];rw[ax J]at j;rcases Ra.mp j with j|j
   .show P e' j
   rw[Q6.mp j];show λx hx=>Tg λk=>n0 ((a x).mpr #[hx,k])
  show .inr rd
 |cons x f=>
  let up:=Du (g:=g) (H:=H) t (f:=x::f) (λh=>(by show nC h));rcases rd with l|rd
  .show ao l ?_;clear l;ext rfl _;show ao ((a x).mp (.head _)) λh1 σ=>?_;show .inr #[up,λcl=>σ (cl e em x h1)]
  show .inr #[Tf rd.1 up,rd.2]
theorem E9{Q:QV}(q:∀Hd hd H ep UX,Oo g e0 H->wq (wv g e0) H->hd.length=g.nn->(hd.map (·.1)).Nodup->HT UX nm hd H (d6 g)->bF U UX->UX Hd=some (.dict (dK (nV nm) .ref hd) ep)->Q (.ref Hd) UX):CC (n+2) 631 [.ref R] U Q:=by
 change an tab (CC (n+1)) lJ [some (.ref R),none,none,none,none,none,none,none,none] U (aW Q);let zr:(g.rules.drop 1).length<=100000:=by rw[T6];let:=S.rl;show Gt (Nat.sub_le _ _) (Gt this (dR rfl))
 show aC<|aP<|bp<|aK<|ah rfl<|aI hR<|i8 (f:=λe:Nat×Nat=>.tup [nV nm e.1,.ref e.2]) (λk l UX=>aA U UX (l.map λe=>(e.2,.list []))/\l.map (·.1)=((g.rules.drop 1).take k).map (·.1)) (aH zr) #[.nil U,rfl] (λi=>i.1.ext _ _ hR) (λ{l UY} i A J=>?_) λ{k x l UY X} hx i M _=>?_
 .show ao i λO m=>?_;clear i;rw[Lt,RI]at m;show bP (v5 l) λnd zd G=>?_;let D:l.length<=100000:=by let:=Rs List.length m;rw[Lt,Lt]at this;show Gt (RW this) zr
  show vA (l:=l) c.em (aB ..) D λHd ep hH=>?_;let P:=((O.new J (.list (l.map λe=>.tup [nV nm e.1,.ref e.2]))).new hH (.dict (dK (nV nm) .ref (mY l)) ep)).sub (.cons_cons _ (T4 ..));show bS ((P.perm (S8 (l₁:=[_]))).W9) λU4 E I C=>?_;let key:∀k,k∈(mY l).map (·.1)↔d6 g k:=λk=>by erw[G,m,DT W]
  let r:=uK nd key;let B:HB g nm (wv g e0) U Hd (mY l) (λ_=>[]) ep U4 _:=#[E,C,#[λk=>(key k).symm.trans #[λh=>by
   show aq (Re.mp h) ?_;clear h;ext e he rfl;show#[e.2,c0 nd he],(by ext b;show az b λu hu=>?_;clear b;show Rn (cq hu))] |>.symm,λ{k u} hu=>I _ (Rn (Be l _ (cq hu)))],λk=>#[.nil,λ_ h=>n0 h],r,nd]
  show aR<|su (eJ (ve (i:=3) am (Dm c.em (ag rfl) C.hd (by rw[r];show Gt S.nn (dR rfl))) (.inl (dR rfl))) am) (by rw[r];let:=S.nn;show Gt (Rv (RV 3 this) 3) (dR rfl))<|c7 (a0:=(none,none,none)) (a2:=ep) (a4:=U4) (λ_ x _ _ _ _=>N9 R x.1 x.2.1 Hd x.2.2) (λt _ hd ep H U4 UX=>HB g nm (wv g e0) U Hd hd H ep U4 UX/\C2 g e0 H/\((∀e∈g.rules.drop 1,JE g e0 H e)\/t<=G8 g H)) #[B,(λh=>(by show n0 h)),.inr (Rx _)] (λ_=>trivial) (λ{x hd ep H U4 U3} j=>?_) λ{t x y hd ep H U4 U3 K} hx j go _=>?_
  .show bP j λa d cl=>?_;clear j;rw[Lt,RN,r]at cl;show cB (ag rfl)<|q Hd hd H ep U3 (y3 W he d (cl.elim id λz=>?_)) a.tb a.len a.nd (a.ht.ext a.own.ext) (a.ext.trans a.own.ext) a.own.hd;show λe em x hx=>Tg λk=>?_;show az (qm em) λi hi=>?_;let:=wy a.tb (dB S e0) (W.left _ _ _ hi) (NW.mpr ((zR he d (.of W hi) hx).elim (λq=>.inr #[q.2.2,q.2.1.lt]) λq=>.inl q.1)) k;let:=S.nn;show Si _ (Rc ‹_› (Gt (RW (Nat.succ_mul 3 g.nn)) (Gt (Rb this _) z)))
  show ao (rT hx) ?_;clear hx;ext _ rfl;show bP j λa d cl=>?_;clear j;show cK rfl<|aR<|aK<|ah rfl<|aI ((a.ext.trans a.own.ext) _ _ hR)<|c7 (a0:=(y.1,y.2.1)) (a1:=hd) (a2:=ep) (a3:=H) (a4:=U4) (λ_ x _ _ _ _=>N9 R x.1 x.2 Hd (some (.int t))) (λk _ hd ep o U4 UX=>HB g nm (wv g e0) U Hd hd o ep U4 UX/\C2 g e0 o/\IJ g (∀e∈g.rules.drop 1,JE g e0 H e) H o (∀e∈(g.rules.drop 1).take k,JE g e0 H e)) #[a,d,.inl #[rfl,λe h=>by rw[SF]at h;show n0 h]] (λj=>(j.1.ext.trans j.1.own.ext) _ _ hR) (λ{x hd ep o U4 N} j=>cy<|go (b0:=(x.1,x.2,some (.int t))) #[j.1,j.2.1,?_]) λ{k x y hd ep o U4 N K} hx j go' _=>Ip hx λ{e} w=>cK rfl<|OV c W S h3 he hR w j.1 j.2.1 j.2.2 λhd2 Y T σ V L s v=>go' (b0:=(_,_)) #[L,s,v]
  .let rd:=j.2.2;rw[Lt,RI]at rd;clear j d a;rcases rd with b|b
   .show ao b ?_;clear b;clear cl;ext rfl p;show .inl p
   show ao b λlt F=>?_;clear b;show .inr (cl.elim (λh=>absurd h F) λh=>Q5 h lt)
 show ao i λO m=>?_;clear i;show aq (bC hx) ?_;clear hx;ext e w rfl;show Ga<|cS<|au<|ah rfl<|aj<|bT λu hu=>#[aT,M (y:=(e.1,u)) #[by rw[Rd];show(O.new hu _).perm (S8 (l₁:=[_])),by rw[Rd,m,ax w,Rd];rfl]]
end
variable{F:TF}{X i j t:Nat}{r:TN}
section
variable(W:WF g)
include W
theorem K8{s:Nat}(f:VG g s t):(3<=s/\s<g.tc)\/d6 g s->3<=t:=by
 induction f with
 |self t h=>show λk=>k.elim (·.1) λk=>absurd h (Sn.mpr (Rf k.1))
 |rule l a s b t m _ _ c=>
  ext k;let d:=k.resolve_left λk=>absurd k.2 (Sn.mpr (W.Vp m).1);show az (eS m) λi hi=>?_;induction i with
  |zero=>
   show aq W.zero λS e0 _=>?_;show absurd d.1 (by rw[show l=g.tc from(Rs Prod.fst (Is (e0.symm.trans hi))).symm];show Si _)
  |succ i=>show c (Rt.of W hi s (Rk _ (.head _)))
theorem A7{w:TN}(c:Rt g w)(f:bx g w t):3<=t:=by show kD f ?_;clear f;ext a s b rfl _ f;show K8 W f (c s (Rk _ (.head _)))
omit W
def Mo(g:Gm)(F:TF)(l:Nat)(b:TN)(x:Nat):Prop:=bx g b x\/(bM g b/\x∈F l)
def JH(g:Gm)(F:TF)(e:Nat×List Nat)(j:Nat):Prop:=∀X,e.2[j]?=some X->d6 g X->∀x,Mo g F e.1 (e.2.drop (j+1)) x->x∈F X
def NM(g:Gm)(F:TF):Prop:=∀e∈g.rules.drop 1,∀j,JH g F e j
def GI(g:Gm)(zS:Nat)(F:TF):Prop:=0∈F zS/\∀k x,x∈F k->d6 g k/\VW g k x/\(x=0\/(3<=x/\x<g.tc))
theorem Mo.ok{l x:Nat}(W:WF g)(s:GI g zS F)(hi:g.rules[i+1]?=some (l,r))(c:r[j]?=some X)(m:Mo g F l (r.drop (j+1)) x):VW g X x/\(x=0\/(3<=x/\x<g.tc)):=by
 let d:r=r.take j++X::r.drop (j+1):=by rw[<- bR c,S7]
 let hm:=aF hi;rw[d]at hm;rcases m with f|a
 .show#[.inner _ _ _ _ _ hm f,.inr #[A7 W (λs b=>Rt.of W hi s (List.mem_of_mem_drop b)) f,f.lt]]
 show ao a λn f=>#[.last _ _ _ _ _ hm n (s.2 _ _ f).2.1,(s.2 _ _ f).2.2]
theorem Fq(W:WF g)(h0:g.rules[0]?=some (g.tc,[zS,0]))(s:GI g zS F)(cl:NM g F):∀{X t},d6 g X->(t∈F X↔VW g X t):=by
 let nz:∀{l X:Nat}{a b:TN},g.rules[0]?=some (l,a++X::b)->d6 g X->X=zS/\b=[0]:=λ{l X a b} e k=>by
  let e:=(SZ (Is (h0.symm.trans e))).2;cases a with
  |nil=>cases e;show#[rfl,rfl]
  |cons y a=>
   cases a with
   |nil=>cases e;show absurd k.1 (SV _)
   |cons z a=>cases a<;>cases e
 let go:=λ{i l X t a b} hi c m=>by
  show cl (l,a++X::b) (Q4 (i:=i) (by rw[Uv,Sc];show hi)) a.length X (by rw[Ro (Rm _),SP];rfl) c t ?_;rw[List.drop_append,List.drop_of_length_le (SS _),SX];show m
 let d:0<g.tc:=Rc (dR rfl) W.pos;let all:∀{X t},VW g X t->d6 g X->t∈F X:=λ{X t} f=>by
  clear h0;induction f with
  |inner l a X b t m f=>
   show λc=>az (eS m) λi hi=>?_;clear m;induction i with
   |zero=>
    show ao (nz hi c) ?_;clear hi nz;ext rfl rfl;rcases f.cons with f|j
    .rw[f.term W d];show s.1
    show ao j λ_ f=>?_;show f.none.elim
   |succ i=>show go hi c (.inl f)
  |last l a X b t m n f o=>
   show λc=>az (eS m) λi hi=>?_;clear m;cases i with
   |zero=>
    show ao (nz hi c) ?_;clear hi;ext _ rfl;show absurd ((n 0 (.head _)).ge W) (UJ.mpr d)
   |succ i=>show go hi c (.inr #[n,o (W.left _ _ _ hi)])
 show λ{X t} h=>#[λm=>(s.2 _ _ m).2.1,λf=>all f h]
end
variable{F0:TF}{zS:Nat}{YE:TP}{Vd x8 x9:TO}
noncomputable def Jn(R Hd Fo:Nat)(a x4 x5 x6 x7 x8 x9 Vd:TO):aQ:=[some (.ref R),some (.ref Hd),a,some (.ref Fo),x4,x5,x6,x7,x8,x9,Vd,none,none,none,none,none]
def Lx(g:Gm)(nm:TR)(zS:Nat)(U:aw)(Fo:Nat)(F0:TF)(P:Prop)(hd:TP)(F:TF)(ep:Nat)(U4 UX:aw):Prop:=HB g nm (wv g 0) U Fo hd F ep U4 UX/\GI g zS F/\IJ g (NM g F0) F0 F P
structure LP(U:aw)(g:Gm)(nm:TR)(e0 Hd:Nat)(hd:TP)(H:TF):Prop where
 ok:Oo g e0 H
 tb:wq (wv g e0) H
 len:hd.length=g.nn
 nd:(hd.map (·.1)).Nodup
 ht:HT U nm hd H (d6 g)
 at_:∃ep,U Hd=some (.dict (dK (nV nm) .ref hd) ep)
theorem LP.ext(h:LP U g nm e0 Hd hd H)(E:bF U UX):LP UX g nm e0 Hd hd H:=#[h.ok,h.tb,h.len,h.nd,h.ht.ext E,h.at_.imp λ_ k=>E _ _ k]
theorem Oj{c:Bool}{a:List α}(h:c=false):(bif c then a else[])=[]:=by rw[h];rfl
section
variable(c:Cd nm e0)(W:WF g)(S:Sm g)(h3:∀{i l:Nat}{r:TN},g.rules[i]?=some (l,r)->r.length<=3)(he:g.tc+g.nn<e0)(hR:U R=some (.list ((g.rules.drop 1).map (pN nm))))(hH:LP U g nm e0 Hd YE H)
include c W S h3 he hR hH
theorem Bo{w:TN}{Q:QV}(E:bF U UY)(a:Rt g w)(e:w.length<=3)(q:∀b UX (bl:TN),bl.length<=4->(∀x,x∈bl↔(x≠e0/\bx g w x)\/(x=e0/\bM g w))->aA UY UX [(b,.list (bl.map (nV nm)))]->Q (.ref b) UX):CC (n+1) 626 [.ref Hd,.tup (w.map (nV nm))] UY Q:=by let sx:=HB.sx (g:=g) (nm:=nm) (U:=U) (Hd:=0) (hd:=[]) (ep:=0) (U4:=U) (UX:=U) hH.tb (dB S e0);show az hH.at_ λep hd=>?_;let d:=λx=>(Bn w [] x).trans #[λh=>(Gl W he hH.ok a).mp (h.elim (λh=>(n0 h)) id),λh=>.inr ((Gl W he hH.ok a).mpr h)];let nb:=Gn (e0:=e0) (λp=>(sx p).1) w [] .nil (λh=>(n0 h));show uY c (hH.ht.ext E) (E _ _ hd) (Gt e (dR rfl)) (λp=>(sx p).2) λb UX O=>q b UX _ (Gt (nb.length_le_of_subset λx hx=>NW.mpr ?_) (dB S e0)) d O;show((d x).mp hx).elim (λh=>.inr #[A7 W a h.2,h.2.lt]) λh=>.inl h.1
set_option tactic.hygienic true in
theorem OY{Fo k l:Nat}{F:TF}{P:Prop}{Q:QF}(hi:g.rules[i+1]?=some (l,r))(G:r[j]?=some X)(I:d6 g X)(J:Lx g nm zS U Fo F0 P hd F ep U4 UY)
  (q:∀hd F ep U4 UX x8 x9 Vd,Lx g nm zS U Fo F0 (P/\JH g F0 (l,r) j) hd F ep U4 UX->Q .next (Jn R Hd Fo (some (nV nm l)) x4 (some (.tup (r.map (nV nm)))) (some (.int j)) (some (nV nm X)) x8 x9 Vd) UX):
  an tab (CC (n+1)) gp (Jn R Hd Fo (some (nV nm l)) x4 (some (.tup (r.map (nV nm)))) (some (.int j)) (some (nV nm X)) x8 x9 Vd) UY Q:=by
 show bP J λh sn rd=>?_;clear J;let O:=h.own;let lj:=ai G;let hl:d6 g l:=W.left _ _ _ hi;let hb:Rt g (r.drop (j+1)):=λs hs=>Rt.of W hi s (List.mem_of_mem_drop hs);show az ((h.ht.key l).mpr hl) λul ZN=>?_;let zF:=Gt ((h.tb l).1.length_le_of_subset (h.tb l).2) (dB S 0);show aC<|aG<|au<|ah rfl<|aj<|vf (ag rfl) (eJ (j:=1) (ag rfl) am) (Rj (Rx _)) (by rw[Lt];show lj) (aH (aO (Gt (h3 hi) (dR rfl)))) _ ?_;rw[<- List.map_drop];show Bo c W S h3 he hR hH (h.ext.trans O.ext) hb (by rw[T6];show Gt (Nat.sub_le ..) (h3 hi)) λb U3 bl zb mb O2=>?_;let O3:=O.app O2;show aC<|FE (λv Va=>∃(M:Nat)(ml:TN),v=.ref M/\ml.length<=10/\(∀x,x∈ml↔Mo g F l (r.drop (j+1)) x)/\aA U4 Va [(M,.list (ml.map (nV nm))),(Fo,.dict (dK (nV nm) .ref hd) ep)]) (λv Va z=>?_) λK=>?_
 .show HO z λM ml hv zm mm w=>?_;clear z;subst hv;show bS w.Xx λE Em hM d=>?_;let h':HB g nm (wv g 0) U Fo hd F ep E Va:=#[h.ext.trans Em,d,h.ht.ext Em,h.tb,h.len,h.nd];show aR<|aK<|ah rfl<|aI (d.ext _ _ hM)<|c7 (λ_ x9 _ _ _ _=>Jn R Hd Fo (some (nV nm l)) x4 (some (.tup (r.map (nV nm)))) (some (.int j)) (some (nV nm X)) (some (.ref b)) x9 (some (.ref M))) (λi' _ hd ep m σ UX=>bF E σ/\Lx g nm zS U Fo F0 (P/\F=F0/\∀x∈ml.take i',x∈F0 X) hd m ep σ UX) #[.refl _,h',sn,rd.elim (λq=>.inl #[q.1,q.2,q.1,λx hx=>by rw[SF]at hx;show n0 hx]) .inr] (λj=>(j.1.trans j.2.1.own.ext) _ _ hM) (λ{x9 hd ep m σ Vr} j=>cy<|q _ _ _ _ _ _ _ _ #[j.2.1,j.2.2.1,j.2.2.2.imp λ⟨p,e,k⟩=>#[p,λX' hX' _ x hx=>?_]]) λ{i' x x9 hd ep m σ Vr K} hx j' go _=>el hx λ{y} hy=>?_
  .rw[Lt,RI]at k;clear j q;obtain rfl:X'=X:=Is (hX'.symm.trans G);show k x ((mm x).mpr (e▸hx))
  show t9 j' λEb a o ZG=>?_;clear j';let d:=a.own;let ym:=(mm y).mp (Q4 hy);show az ((a.ht.key X).mpr I) λuX t=>?_;let u:=a.ht.cell t;let zX:=Gt ((a.tb X).1.length_le_of_subset (a.tb X).2) (dB S 0);let hit {C:CT} {L:aQ} {UX:aw} {x y:Nm} {p:Ps} (Yh:UX Fo=some (.dict (dK (nV nm) .ref hd) ep)) hx hy:Ev C L UX (.item (.loc x) (.loc y) p) (.ref uX):=bH c.em (ag hx) (ag hy) Yh t;show qk (iC c.em (Lb nm) (ag rfl) (hit d.hd rfl rfl) (d.ext _ _ u)) (λni=>?_) λWr=>bE<|go #[Eb,a,o,ZG.elim (λ⟨e,p,e1,k⟩=>.inl #[e,p,e1,λx hx=>?_]) .inr]
  .show pe<|bv<|hit d.hd rfl rfl _<|bL<|aj<|ah rfl #[bk,λA hA=>?_];let Z:=d.new hA (.list ([y].map (nV nm)));show bI (Z.ext _ _ u) Z.hd (by rw[Lt,Lt,RG];show aO (by show Gt (Rj ‹_›) (dR rfl))) λB D=>?_;rw[<- Rd];let Y:=(Z.new D (.list ((m X++[y]).map (nV nm)))).sub (.cons_cons _ (.cons _ (.refl _)));show ah rfl<|ah rfl<|jB (Y.get 1 rfl) (gj c.em hd X) (by unfold dK;rw[List.length_map,a.len];show cY (Nat.lt_of_le_of_lt S.nn (dR rfl))) ?_;rw[show eG (dK (nV nm) V.ref hd) (nV nm X) (V.ref B)=dK (nV nm) .ref (dQ hd X B) from iU c.em hd];let fy:=Mo.ok W sn hi G ym;let O8:=Y.set 1 rfl (.dict (dK (nV nm) .ref (dQ hd X B)) (if iN (dK (nV nm) V.ref hd) (nV nm X)=true then ep else ep+1));show bS O8.Xx λY7 E2 Yj O9=>?_;let ZX:HB g nm (wv g 0) U Fo (dQ hd X B) (wu m X (m X++[y])) _ Y7 _:=#[a.ext.trans E2,O9,a.ht.put E2 I Yj,a.tb.up (RJ ..) λx hx=>by rw[Q6.mp hx];show#[NW.mpr fy.2,ni],(wS t B).trans a.len,pu a.nd _];let T:∀k x,x∈wu m X (m X++[y]) k↔x∈m k\/(k=X/\x=y):=λk x=>by
    unfold wu;split
    .rename_i e;erw[e,Ra,Q6];show or_congr Iff.rfl #[λh=>#[rfl,h],(·.2)]
    rename_i e;show#[.inl,λh=>h.elim id λh=>absurd h.1 e]
   show bE<|go #[Eb.trans E2,ZX,#[(T _ _).mpr (.inl o.1),λk x hx=>((T k x).mp hx).elim (o.2 k x) (by ext z;clear hx T ZX O9 Yj O8 Y D Z ni hit zX u t ym ZG hy go q G;show ao z λe1 e2=>?_;clear z;show by subst e1 e2;show#[I,fy])],.inr ?_];let up:=Du (H:=m) I (f:=[y]) (λh=>(by show nC h));clear T ZX O9 Yj O8 Y zX u o a go rd q;rcases ZG with z|q
   .show t9 z ?_;clear z;ext rfl p e1 k;subst e1;show#[up,λcl=>ni (cl (l,r) (Q4 (by rw[Uv,Sc];show hi)) j X G I y ym)]
   show#[Tf q.1 up,q.2]
  rw[ax hy]at hx;show(Ra.mp hx).elim (k x) λhx=>by rw[Q6.mp hx,<- e];show Wr
 show bv<|bp<|aK<|ah rfl<|aI O2.hd<|ff (pr:=λx=>!decide (x=e0)) (Gt zb (dR rfl)) O2.hd (λ{y} _=>by rw[<- c.dec];show Dx (ag rfl) am) (ag rfl) λA hA=>?_;let w:=O3.new hA (.list ((bl.filter λx=>!decide (x=e0)).map (nV nm)));let zf:(bl.filter λx=>!decide (x=e0)).length<=4:=Gt (ST ..) zb;let mf:∀x,x∈bl.filter (λx=>!decide (x=e0))↔bx g (r.drop (j+1)) x:=λx=>by
  erw[Sa,mb,SA,decide_eq_false_iff_not];show#[λh=>h.1.elim (·.2) λq=>absurd q.1 h.2,λk=>have q:x≠e0:=by let:=k.lt;show RY (Tf this (Q5 (Ri _ _) he))
   #[.inl #[q,k],q]]
 let me:=(mb e0).trans #[λh=>h.elim (λq=>absurd rfl q.1) (·.2),λh=>.inr #[rfl,h]];generalize bl.filter (λx=>!decide (x=e0))=f at w zf mf;show xn<|Ar c.em (Lb nm) (r6 (Rs V.str c.e.symm)) (ag rfl) (w.get 1 rfl) _ #[λh1=>?_,λh1=>?_]
 .show bH c.em (ag rfl) (ag rfl) (w.get 2 rfl) ZN _<|bI w.hd (w.ext _ _ (h.ht.cell ZN)) (by rw[Lt,Lt];show aO (by show Gt (RS ‹_› ‹_›) (dR rfl))) λB D=>?_;rw[<- Rd];show K _ _ #[B,f++F l,rfl,by rw[Q9];show Gt (RS ‹_› ‹_›) (dR rfl),λx=>?_,(w.new D _).sub (.cons_cons _ (.cons _ (.cons _ (.refl _))))];erw[Ra,mf];show or_congr Iff.rfl #[λh=>#[me.mp (RH h1),h],(·.2)]
 show bT λN hN=>?_;let d:=w.new hN (.list []);show bI (d.get 1 rfl) d.hd (by rw[Lt];show aO (by rw[Tm];show Gt ‹_› (dR rfl))) λB D=>?_;rw[RD];show K _ _ #[B,f,rfl,by show Gt ‹_› (dR rfl),λx=>?_,(d.new D _).sub (.cons_cons _ (.cons _ (.cons _ (.cons _ (.refl _)))))];erw[mf];show#[.inl,λh=>h.elim id λh=>absurd (me.mpr h.1) (R1 h1)]
end
end
section
variable{F0 H:TF}{Hd R e0 ep k n zS:Nat}{g:Gm}{hd YE:TP}{nm:TR}{Vd x4 x6 x7 x8 x9:TO}{U UY U4:aw}
section
variable(c:Cd nm e0)(W:WF g)(S:Sm g)(h3:∀{i l:Nat}{r:TN},g.rules[i]?=some (l,r)->r.length<=3)(he:g.tc+g.nn<e0)(hR:U R=some (.list ((g.rules.drop 1).map (pN nm))))(hH:LP U g nm e0 Hd YE H)
include c W S h3 he hR hH
theorem OX{Fo:Nat}{e:Nat×List Nat}{F:TF}{P:Prop}{Q:QF}(s:(g.rules.drop 1)[k]?=some e)(J:Lx g nm zS U Fo F0 P hd F ep U4 UY)
  (q:∀hd F ep U4 UX x6 x7 x8 x9 Vd,Lx g nm zS U Fo F0 (P/\∀j,JH g F0 e j) hd F ep U4 UX->Q .next (Jn R Hd Fo (some (nV nm e.1)) x4 (some (.tup (e.2.map (nV nm)))) x6 x7 x8 x9 Vd) UX):
  an tab (CC (n+1)) gm (Jn R Hd Fo (some (nV nm e.1)) x4 (some (.tup (e.2.map (nV nm)))) x6 x7 x8 x9 Vd) UY Q:=by
 show az (qm (Q4 s)) λi hi=>?_;show az hH.at_ λepH t=>?_;show aR<|I0<|ah rfl<|c7 (a0:=(x6,x7,x8,x9,Vd)) (λ_ x _ _ _ _=>Jn R Hd Fo (some (nV nm e.1)) x4 (some (.tup (e.2.map (nV nm)))) x.1 x.2.1 x.2.2.1 x.2.2.2.1 x.2.2.2.2) (λj _ hd ep F U4 UX=>Lx g nm zS U Fo F0 (P/\∀a<j,JH g F0 e a) hd F ep U4 UX) #[J.1,J.2.1,J.2.2.imp λp=>#[p,λj h=>absurd h (SV _)]] (λ_=>trivial) (λ{x hd ep F U4 U3} j=>cy<|q _ _ _ _ _ _ _ _ _ _ #[j.1,j.2.1,j.2.2.imp λp=>#[p.1,λa X m=>?_]]) λ{j x y hd ep F U4 U3 K} hx J go _=>?_
 .rw[xl,Lt]at p;show p.2 a (ai m) X m
 show aq (xm hx) ?_;clear hx;ext X l rfl;let v:=J.1.ext.trans J.1.own.ext;let st:∀{o},IJ g (NM g F0) F0 F (o/\JH g F0 (e.1,e.2) j)->(o->P/\∀a<j,JH g F0 e a)->IJ g (NM g F0) F0 F (P/\∀a<j+1,JH g F0 e a):=λr k=>r.imp λp=>#[(k p.1).1,λa d=>(Nat.lt_or_eq_of_le (R4 d)).elim ((k p.1).2 a) λq=>q▸p.2];show cK rfl<|cC (wC c.em (ag rfl) (ag rfl) (v _ _ t)) (λh1=>?_) λh1=>bE<|go (b0:=(_,_,_,_,_)) #[J.1,J.2.1,st (J.2.2.imp λp=>#[p,λX' b hn=>?_]) id]
 .show az (Sh.mp h1) λu hu=>?_;show OY (k:=0) c W S h3 he hR hH hi l ((hH.ht.key X).mp #[u,hu]) J λhd F ep U4 UX x8 x9 Vd f=>cy<|go (b0:=(_,_,_,_,_)) #[f.1,f.2.1,f.2.2.imp λp=>#[p.1.1,λa d=>(Nat.lt_or_eq_of_le (R4 d)).elim (p.1.2 a) λq=>q▸p.2]]
 show az ((hH.ht.key X').mpr hn) λu hu=>?_;obtain rfl:X'=X:=Is (b.symm.trans l);rw[hu]at h1;cases h1
set_option tactic.hygienic true in
theorem vQ{Q:QV}(h0:g.rules[0]?=some (g.tc,[zS,0]))(hS:nm zS=sS)(hz:nm 0=("$end":Str))(q:∀Fo hd F ep UX,(∀{X t},d6 g X->(t∈F X↔VW g X t))->wq (wv g 0) F->HT UX nm hd F (d6 g)->bF U UX->UX Fo=some (.dict (dK (nV nm) .ref hd) ep)->Q (.ref Fo) UX):CC (n+2) 636 [.ref R,.ref Hd] U Q:=by
 show az hH.at_ λepH C=>?_;let nS:d6 g zS:=by
  show bS W.zero λS' e h1 h2=>?_;rw[h0]at e;replace e:=Is e;cases e;show#[h1,h2]
 let H:=hH.len▸S.nn;change an tab (CC (n+1)) gk [some (.ref R),some (.ref Hd),none,none,none,none,none,none,none,none,none,none,none,none,none,none] U (aW Q);show aC<|aP<|bp<|aK<|ah rfl<|l7 C<|om YE▸?_;show i8 (f:=λe:Nat×Nat=>.tup [nV nm e.1,.ref e.2]) (λk l UX=>aA U UX (l.map λe=>(e.2,.list []))/\l.map (·.1)=(YE.map (·.1)).take k) (by rw[Lt,Lt];show Gt ‹_› (dR rfl)) #[.nil U,rfl] (λi=>i.1.ext _ _ C) (λ{l UY} i A hA=>?_) λ{k x l UY R'} hx i Wv _=>?_
 .show ao i λO o=>?_;clear i;rw[Lt,RI]at o;show bP (v5 l) λnd zd T=>?_;let N:l.length<=100000:=by let:=Rs List.length o;rw[Lt,Lt]at this;show Gt (RW this) (Gt H (dR rfl))
  show vA (l:=l) c.em (aB ..) N λFo ep hF=>?_;let O2:=((O.new hA (.list (l.map λe=>.tup [nV nm e.1,.ref e.2]))).new hF (.dict (dK (nV nm) .ref (mY l)) ep)).sub (.cons_cons _ (T4 ..));show bS ((O2.perm (S8 (l₁:=[_]))).W9) λU4 E Y M=>?_;let key:∀k,k∈(mY l).map (·.1)↔d6 g k:=λk=>by
   erw[T,o];show#[λh=>by
    show aq (Re.mp h) ?_;ext e he rfl;show(hH.ht.key _).mp #[e.2,c0 hH.nd he],λh=>by
    show az ((hH.ht.key k).mpr h) λu hu=>?_;show Rn (cq hu)]
  let I:=uK nd key;let v:HB g nm (wv g 0) U Fo (mY l) (λ_=>[]) ep U4 _:=#[E,M,#[λk=>(key k).symm.trans #[λh=>by
   show aq (Re.mp h) ?_;clear h;ext e he rfl;show#[e.2,c0 nd he],(by ext b;show az b λu hu=>Rn (cq hu))] |>.symm,λ{k u} hu=>Y _ (Rn (Be l _ (cq hu)))],λk=>#[.nil,λ_ h=>n0 h],I,nd]
  show pe<|bL<|aj<|bi #[bk,λB hB=>ah rfl<|r6 (w:=nV nm zS) (Rs V.str hS.symm) _ ?_];let D:=M.new hB (.list [.str "$end"]);show jB (D.get 1 rfl) (gj c.em (mY l) zS) (by unfold dK;rw[List.length_map,I];show cY (Nat.lt_of_le_of_lt S.nn (dR rfl))) ?_;rw[show eG (dK (nV nm) V.ref (mY l)) (nV nm zS) (V.ref B)=dK (nV nm) .ref (dQ (mY l) zS B) from iU c.em (mY l)];let ez:=Rs V.str hz.symm;rw[ez]at D ⊢;show az (v.up nS (RJ ..) (λx hx=>#[NW.mpr (.inl (Q6.mp hx)),λh=>(by show n0 h)]) (D.set 1 rfl (.dict (dK (nV nm) .ref (dQ (mY l) zS B)) (if iN (dK (nV nm) V.ref (mY l)) (nV nm zS)=true then ep else ep+1)))) λσb1 d=>?_;let s:∀k x,x∈wu (λ_=>[]) zS ([]++[0]) k↔k=zS/\x=0:=λk x=>by
   unfold wu;split
   .rename_i e;show#[λh=>#[e,Q6.mp h],λh=>h.2▸.head _]
   rename_i e;show#[λh=>(by show n0 h),λh=>absurd h.1 e]
  let s0:GI g zS (wu (λ_=>[]) zS ([]++[0])):=#[(s _ _).mpr #[rfl,rfl],λk x hx=>by
   show ao ((s k x).mp hx) ?_;clear hx s d hS;ext rfl rfl;show#[nS,.inner _ [] _ [0] 0 (aF h0) (.head (.self 0 (Rc (dR rfl) W.pos))),.inl rfl]]
  generalize wu (λ_=>[]) zS ([]++[0])=F0 at d s0;generalize dQ (mY l) zS B=hd1 at d ⊢;show aR<|su (eJ (ve (i:=3) am (Dm c.em (ag rfl) ((d.ext.trans d.own.ext) _ _ C) (by show Gt ‹_› (dR rfl))) (.inl (dR rfl))) am) (Gt (Rv (RV 3 H) 3) (dR rfl))<|c7 (a0:=((none,none,none,none),none,none,none,none)) (λ_ x _ _ _ _=>Jn R Hd Fo x.1.1 x.1.2.1 x.1.2.2.1 x.1.2.2.2 x.2.1 x.2.2.1 x.2.2.2.1 x.2.2.2.2) (λt _ hd ep F U4 UX=>HB g nm (wv g 0) U Fo hd F ep U4 UX/\GI g zS F/\(NM g F\/t<=G8 g F)) #[d,s0,.inr (Rx _)] (λ_=>trivial) (λ{x hd ep F U4 U3} j=>?_) λ{t x y hd ep F U4 U3 K} hx j go _=>?_
  .show bP j λa m cl=>?_;clear j;rw[Lt,RN]at cl;show cB (ag rfl)<|q Fo hd F ep U3 (Fq W h0 m (cl.elim id λz=>?_)) a.tb (a.ht.ext a.own.ext) (a.ext.trans a.own.ext) a.own.hd;show λe em j X σ Z x hx=>Tg λk=>?_;show az (qm em) λi hi=>?_;let:=wy a.tb (dB S 0) Z (NW.mpr (Mo.ok W m hi σ hx).2) k;let:=S.nn;let:=hH.len;rw[this]at z;show Si _ (Rc ‹G8 g F<4*g.nn› (Gt (RW (Nat.succ_mul 3 g.nn)) (Gt (Rb ‹g.nn<=3› _) z)))
  show ao (rT hx) ?_;clear hx;ext _ rfl;show bP j λa m cl=>?_;clear j;show cK rfl<|aR<|aK<|ah rfl<|aI ((a.ext.trans a.own.ext) _ _ hR)<|c7 (a0:=(y.1.1,y.1.2.2.1,y.1.2.2.2,y.2)) (a3:=F) (λ_ x _ _ _ _=>Jn R Hd Fo x.1 (some (.int t)) x.2.1 x.2.2.1 x.2.2.2.1 x.2.2.2.2.1 x.2.2.2.2.2.1 x.2.2.2.2.2.2) (λk _ hd ep G U4 UX=>Lx g nm zS U Fo F (∀e∈(g.rules.drop 1).take k,∀j,JH g F e j) hd G ep U4 UX) #[a,m,.inl #[rfl,λe h=>by rw[SF]at h;show n0 h]] (λj=>(j.1.ext.trans j.1.own.ext) _ _ hR) (λ{x hd ep G U4 Va} j=>cy<|go (b0:=((x.1,some (.int t),x.2.1,x.2.2.1),x.2.2.2)) #[j.1,j.2.1,?_]) λ{k x y hd ep G U4 Va K} hx j go' _=>Ip hx λ{e} r=>cK rfl<|OX c W S h3 he hR hH r j λhd2 F2 YJ Y7 Vr x6 x7 x8 x9 Vd J=>go' (b0:=(_,_,_,_,_,_,_)) #[J.1,J.2.1,J.2.2.imp λp e' L=>?_]
  .let rd:=j.2.2;rw[Lt,RI]at rd;clear j m a;rcases rd with b|b
   .show ao b ?_;clear b;ext rfl p;show .inl p
   show ao b λlt P=>.inr (cl.elim (λh=>absurd h P) λh=>Q5 h lt)
  rw[ax r]at L;show(Ra.mp L).elim (p.1 e') λh=>Q6.mp h▸p.2
 show ao i λO o=>?_;clear i;show aq (bC hx) ?_;clear hx;ext k' r rfl;show#[λ_=>cS<|au<|ah rfl<|aj<|bT λu hu=>#[aT,Wv (y:=(k',u)) #[by rw[Rd];show(O.new hu _).perm (S8 (l₁:=[_])),by rw[Rd,o,ax r];rfl]],nt]
end
variable{i:Nat}
noncomputable def kP(nm:TR)(p:Nat×Nat):V:=.tup [nV nm p.1,nV nm p.2]
theorem Cd.emP(c:Cd nm e0):lT .ts (kP nm):=#[λa=>#[[nm a.1,nm a.2],rfl],λ{a b} h=>by
 injection h with h;injection h with h1 h;injection h with d _;show Prod.ext (c.em.inj h1) (c.em.inj d)]
def Pd(g:Gm)(e:Nat×List Nat)(t:Nat):Prop:=bx g e.2 t\/(bM g e.2/\VW g e.1 t)
def Qw(g:Gm)(k:Nat):Prop:=∀i j e a t,j<k->i<j->(g.rules.drop 1)[i]?=some e->(g.rules.drop 1)[j]?=some a->e.1=a.1->Pd g e t->Pd g a t->False
theorem uR{e:Nat×List Nat}:(g.rules.drop 1)[i]?=some e↔g.rules[i+1]?=some (e.1,e.2):=by rw[Uv,Sc]
theorem ER(W:WF g):mZ g↔Qw g (g.rules.drop 1).length:=by
 let pd:∀{i l r t},g.rules[i]?=some (l,r)->(jy g i t↔Pd g (l,r) t):=λ{i l r t} h=>#[(by ext f;show ck f λl' r' h' k=>?_;show by rw[h]at h';cases h';show k),λk=>#[l,r,h,k]];constructor
 .ext H i j e n t a lt hi m el p p';let h1:=uR.mp hi;let b:=uR.mp m;rw[<- el]at b;let:=H _ _ _ _ _ t h1 b ((pd h1).mpr p) ((pd b).mpr (by rw[el];show p'));show RY lt (Tl this)
 ext O i j l r r' t hi a pi d;let z:∀{i j l r r'},g.rules[i]?=some (l,r)->g.rules[j]?=some (l,r')->i=0->j=0:=λ{i j l r r'} hi a e=>by
  subst e;induction j with
  |zero=>rfl
  |succ j=>
   let h1:=vI W hi;show absurd (W.left _ _ _ a).1 (h1▸Si _)
 cases i with
 |zero=>show(z hi a rfl).symm
 |succ i=>
  induction j with
  |zero=>show absurd (z a hi rfl) (Nat.succ_ne_zero _)
  |succ j=>
   let h1:=(uR (e:=(l,r))).mpr hi;let b:=(uR (e:=(l,r'))).mpr a;rcases Nat.lt_trichotomy i j with c|c|c
   .show(O _ _ _ _ _ (ai b) c h1 b rfl ((pd hi).mp pi) ((pd a).mp d)).elim
   .rw[c]
   show(O _ _ _ _ _ (ai h1) c b h1 rfl ((pd a).mp d) ((pd hi).mp pi)).elim
noncomputable def Qm(R Hd Fo a:Nat)(x4 x5 x6 x7 x8:TO):aQ:=[some (.ref R),some (.ref Hd),some (.ref Fo),some (.ref a),x4,x5,x6,x7,x8,none,none,none,none]
noncomputable abbrev Md:=List ((Nat×Nat)×Bool)
section
variable(c:Cd nm e0)(W:WF g)(S:Sm g)(h3:∀{i l:Nat}{r:TN},g.rules[i]?=some (l,r)->r.length<=3)(he:g.tc+g.nn<e0)(hR:U R=some (.list ((g.rules.drop 1).map (pN nm))))
include c W S h3 he hR
theorem sU{Q:QV}(h0:g.rules[0]?=some (g.tc,[zS,0]))(hS:nm zS=sS)(hz:nm 0=("$end":Str))(q:∀b UX,(b=true↔¬mZ g)->bF U UX->Q (.bool b) UX):CC (n+3) 641 [.ref R] U Q:=by
 let zr:(g.rules.drop 1).length<=9:=by rw[T6];let:=S.rl;show Nat.sub_le_of_le_add this
 change an tab (CC (n+2)) eh [some (.ref R),none,none,none,none,none,none,none,none,none,none,none,none] U (aW Q);show aC<|aG<|aj<|ah rfl<|E9 (n:=n) c W S h3 he hR λHd hd H epH UY a1 a2 a3 a4 a5 E1 a6=>?_;let hH:LP UY g nm e0 Hd hd H:=#[a1,a2,a3,a4,a5,epH,a6];show aC<|aG<|au<|ah rfl<|aj<|ah rfl<|vQ (n:=n) c W S h3 he (E1 _ _ hR) hH h0 hS hz λFo fd F epF U3 fok T σ E2 hFo=>?_;let u:=E1.trans E2;show l4 (.nil U3) λY ep Va O3=>aR<|aK<|ah rfl<|aI ((u.trans O3.ext) _ _ hR)<|eZ (a0:=(none,none,none,none,none)) (a1:=ep) (a2:=[]) (λ_ x _ _=>Qm R Hd Fo Y x.1 x.2.1 x.2.2.1 x.2.2.2.1 x.2.2.2.2) (λk _ ep (r:Md) UX=>aA U3 UX [(Y,.dict (dK (kP nm) .bool r) ep)]/\r.length<=8*k/\Qw g k/\∀p,p∈r.map (·.1)↔∃e∈(g.rules.drop 1).take k,e.1=p.1/\Pd g e p.2) #[O3,Rx _,(λ_ _ _ _ _ h=>absurd h (SV _)),λp=>#[λh=>(by show n0 h),(by ext l;show aq l λe h _=>?_;clear l;show by rw[SF]at h;show n0 h)]] (λj=>(u.trans j.1.ext) _ _ hR) (λ{x ep r Vr} j=>?_) λ{k x y ep r Vr K} hx j go rt=>Ip hx λ{e} P=>cK rfl ?_
 .let o:=j.2.2.1;rw[Lt]at o;show cB am<|q false Vr #[nf,λh=>absurd ((ER W).mpr o) h] (u.trans j.1.ext)
 show t9 j λO zm one mk=>?_;clear j;let Z:=ai P;let hi:=uR.mp P;let hl:d6 g e.1:=W.left _ _ _ hi;show az ((σ.key e.1).mpr hl) λul ZN=>?_;let zF:(F e.1).length<=4:=Gt ((T e.1).1.length_le_of_subset (T e.1).2) (dB S 0);let E3:=E2.trans O.ext;show aC<|aG<|au<|ah rfl<|aj<|ah rfl<|Bo (n:=n+1) (w:=e.2) c W S h3 he (E1 _ _ hR) hH E3 (.of W hi) (h3 hi) λb VD bl zb mb O5=>?_;let O6:=O.app O5;show aC<|FE (λv Va=>∃(M:Nat)(ml:TN),v=.ref M/\ml.length<=8/\(∀x,x∈ml↔Pd g e x)/\aA U3 Va [(M,.list (ml.map (nV nm))),(Y,.dict (dK (kP nm) .bool r) ep)]) (λv Wg l=>?_) λK'=>?_
 .show HO l λM ml hv zl mm E=>?_;clear l hi hx;subst hv;show aR<|aK<|aP<|bp<|aK<|ah rfl<|aI E.hd<|Bl (f:=nV nm) (ho:=λs=>(s,true)) (fo:=λe:Nat×Bool=>.tup [nV nm e.1,.bool e.2]) (Gt zl (dR rfl)) E.hd (λ_=>bW (be (ag rfl) (bz am)) aT) λA hA=>bP (v5 (ml.map λs=>(s,true))) λnd zd md'=>?_;let J:(ml.map λs=>(s,true)).length<=8:=by rw[Lt];show zl
  show vA (f:=nV nm) (g:=V.bool) c.em (aB ..) (Gt J (dR rfl)) λDd X hD=>l7 (aB ..) ?_;let O8:=((E.new hA (.list ((ml.map λs=>(s,true)).map λe=>.tup [nV nm e.1,.bool e.2]))).new hD (.dict (dK (nV nm) V.bool (mY (ml.map λs=>(s,true)))) X)).sub (.cons_cons _ (.cons _ (.cons _ (.refl _))));rw[om];let m:∀x,x∈(mY (ml.map λs=>(s,true))).map (·.1)↔Pd g e x:=λx=>by
   erw[md',Su,<- mm];show#[λh=>by show aq (Re.mp h) ?_;clear h;ext z hz rfl;show hz,λh=>Rn (f:=λs=>s) h]
  let YR:((mY (ml.map λs=>(s,true))).map (·.1)).length<=8:=by rw[Lt];show Gt zd J
  generalize (mY (ml.map λs=>(s,true))).map (·.1)=ks at nd m YR;generalize mY (ml.map λs=>(s,true))=dd at O8;show eZ (a0:=y.2.2.2.2) (a1:=ep) (a2:=r) (λ_ x8 _ _=>Qm R Hd Fo Y (some (nV nm e.1)) (some (.tup (e.2.map (nV nm)))) (some (.ref b)) (some (.ref M)) x8) (λi _ ep (C:Md) UX=>aA U3 UX [(Dd,.dict (dK (nV nm) V.bool dd) X),(Y,.dict (dK (kP nm) .bool C) ep)]/\C.length<=8*k+i/\(∀p,p∈C.map (·.1)↔p∈r.map (·.1)\/(p.1=e.1/\p.2∈ks.take i))/\∀t∈ks.take i,(e.1,t)∉r.map (·.1)) #[O8,zm,λp=>#[.inl,λh=>h.elim id λh=>by rw[SF]at h;cases h.2],λt h=>by rw[SF]at h;show n0 h] (λj=>j.1.hd) (λ{x8 ep C XW} j=>cy<|go (b0:=(_,_,_,_,_)) #[j.1.tl,?_,?_,λp=>?_]) λ{i x x8 ep C XW K2} hx j go' rt'=>el hx λ{t} ht=>?_
  .let:=j.2.1;rw[Lt]at this;show Gt this (Rb YR _)
  .ext i' j' e1 e2 t hj lt h1 a el p1 p2;by_cases cj:j'=k
   .clear hj Z zm go;subst cj;rw[P]at a;replace a:=Is a;cases a;let nt':=j.2.2.2 t (by rw[Lt,RI];show(m t).mpr p2);show nt' ((mk _).mpr #[e1,Q4 (i:=i') (by rw[Tn,RO lt];show h1),el,p1])
   show one _ _ _ _ _ (Sj (R4 hj) cj) lt h1 a el p1 p2
  .erw[j.2.2.1,Lt,RI,mk,ax P,m];constructor
   .ext(⟨I,h1,a⟩|⟨h1,a⟩)
    .show#[I,RE _ h1,a]
    show#[e,Rk _ (.head _),h1.symm,a]
   ext l;show bS l λI h1 a h3=>?_;clear l;rcases Ra.mp h1 with h1|h1
   .show .inl #[I,h1,a,h3]
   rw[Q6.mp h1]at a h3;show .inr #[a.symm,h3]
  show t9 j λO9 z2 m2 nw=>?_;clear j;let pt:=(m t).mp (Q4 ht);let zi:=ai ht;show cC (wC (d:=C) (g:=V.bool) (k:=(e.1,t)) c.emP (bW (be (ag rfl) (bz (ag rfl))) aT) (ag rfl) (O9.get 1 rfl)) (λh=>?_) λh=>aU<|lZ (d:=C) (g:=V.bool) (k:=(e.1,t)) (v:=true) c.emP am (ag rfl) (bW (be (ag rfl) (bz (ag rfl))) aT) O9 1 rfl ((Q5 (Gt z2 (RS (RV 8 (Rf (Rc Z zr))) (Rf (Rc zi YR)))) (dR rfl))) λVE X5 XP=>bG<|go' #[XP,Gt (kB ..) (Rj z2),λp=>?_,λt' h'=>?_]
  .show az (Sh.mp h) λv hv=>?_;let km:=(m2 (e.1,t)).mp (Rn (f:=(·.1)) (cq hv));let km:=km.resolve_right λl=>by
    show ao l λ_ h=>?_;clear l;show az (RL.mp h) λi' D=>?_;let l1:=ai D;rw[R7]at l1;let l2:=Rc l1 (SL ..);rw[Tn,RO l2]at D;show absurd (cF nd D ht) (RY l2)
   show bS ((mk _).mp km) λI h1 a W3=>az (RL.mp h1) λi' D=>?_;let l1:=ai D;rw[R7]at l1;let l2:=Rc l1 (SL ..);rw[Tn,RO l2]at D;show cB am (rt' (rt (q true _ #[λ_ L=>(ER W).mp L _ _ _ _ _ Z l2 D P a W3 pt,λ_=>rfl] (u.trans O9.ext))))
  .let hn:=SK.mp (T7.mp h);erw[kA hn,Rd,Ra,m2,ax ht,Ra,Q6,show[((e.1,t),true)].map (·.1)=[(e.1,t)] from rfl,Q6,or_assoc];show or_congr Iff.rfl #[λh=>h.elim (λh=>#[h.1,.inl h.2]) λh=>by rw[h];show#[rfl,.inr rfl],λh=>h.2.elim (λk=>.inl #[h.1,k]) λk=>.inr (Prod.ext h.1 k)]
  rw[ax ht]at h';rcases Ra.mp h' with h'|h'
  .show nw t' h'
  rw[Q6.mp h'];ext hm;let:=(m2 _).mpr (.inl hm);show aq (Re.mp this) λx' V0 I=>?_;let hn:=SK.mp (T7.mp h);show N7.mp hn x' V0 I
 show bv<|bp<|aK<|ah rfl<|aI O5.hd<|ff (f:=nV nm) (pr:=λx=>!decide (x=e0)) (Gt zb (dR rfl)) O5.hd (λ{y} _=>by rw[<- c.dec];show Dx (ag rfl) am) (ag rfl) λA hA=>?_;let G:=O6.new hA (.list ((bl.filter λx=>!decide (x=e0)).map (nV nm)));let zf:(bl.filter λx=>!decide (x=e0)).length<=4:=Gt (ST ..) zb;let mf:∀x,x∈bl.filter (λx=>!decide (x=e0))↔bx g e.2 x:=λx=>by
  erw[Sa,mb,SA,decide_eq_false_iff_not];show#[λh=>h.1.elim (·.2) λq=>absurd q.1 h.2,λk=>have q:x≠e0:=by let:=k.lt;show RY (Tf this (Q5 (Ri _ _) he))
   #[.inl #[q,k],q]]
 let me:=(mb e0).trans #[λh=>h.elim (λq=>absurd rfl q.1) (·.2),λh=>.inr #[rfl,h]];generalize bl.filter (λx=>!decide (x=e0))=f at G zf mf;show xn<|Ar (z:=e0) (φ:=.s) c.em (Lb nm) (r6 (Rs V.str c.e.symm)) (ag rfl) (G.get 1 rfl) _ #[λh1=>?_,λh1=>?_]
 .show bH (d:=fd) (g:=V.ref) (k:=e.1) c.em (ag rfl) (ag rfl) (G.ext _ _ hFo) ZN _<|bI G.hd (G.ext _ _ (σ.cell ZN)) (by rw[Lt,Lt];show aO (by show Gt (RS ‹_› ‹_›) (dR rfl))) λB hB=>?_;rw[<- Rd];show K' _ _ #[B,f++F e.1,rfl,by rw[Q9];show Gt (RS ‹_› ‹_›) (dR rfl),λx=>?_,(G.new hB _).sub (.cons_cons _ (.cons _ (.cons _ (.refl _))))];erw[Ra,mf,fok hl];show or_congr Iff.rfl #[λh=>#[me.mp (RH h1),h],(·.2)]
 show bT λN hN=>?_;let E:=G.new hN (.list []);show bI (E.get 1 rfl) E.hd (by rw[Lt];show aO (by rw[Tm];show Gt ‹_› (dR rfl))) λB hB=>?_;rw[RD];show K' _ _ #[B,f,rfl,by show Gt ‹_› (dR rfl),λx=>?_,(E.new hB _).sub (.cons_cons _ (.cons _ (.cons _ (.cons _ (.refl _)))))];erw[mf];show#[.inl,λh=>h.elim id λh=>absurd (me.mpr h.1) (R1 h1)]
end
variable{σ r st:TN}{X a b:Nat}{ks Yc:List (List Nat)}{α:Type}
theorem He{f f':α->Nat}{l:List α}(h:∀x∈l,f' x<=f x):(l.map f').sum<=(l.map f).sum:=by
 induction l with
 |nil=>show Rm _
 |cons x l a=>show RS (h x (.head _)) (a λy hy=>h y (.tail _ hy))
noncomputable def kW(nm:TR)(w:TN):V:=.tup (w.map (nV nm))
theorem Cd.emW(c:Cd nm e0):lT .ts (kW nm):=#[λa=>#[a.map nm,by unfold kW;rw[List.map_map];rfl],λ{a b} h=>by
 injection h with h;show(UK λx y h=>c.em.inj h).mp h]
noncomputable abbrev Wi:=List Nat×List Nat×List Nat
noncomputable def G0(nm:TR)(x:Wi):V:=.tup [kW nm x.1,kW nm x.2.1]
noncomputable def qG(g:Gm)(x:Wi):Nat:=(4 - x.1.length)*(g.nn+2) - x.2.2.length
noncomputable def HR(g:Gm)(ln:List Wi):Nat:=(ln.map λx=>10 ^ qG g x).sum
theorem AW(g:Gm)(a b:List Wi):HR g (a++b)=HR g a+HR g b:=by unfold HR;rw[List.map_append,List.sum_append_nat]
structure Dc(g:Gm)(zS:Nat)(x:Wi):Prop where
 pre:∀u rs,Vq g x.2.1 u rs->∃VV,Vq g [zS] (x.1++u) VV
 ok:Ok g x.2.1
 iv:GV g x.2.1 x.2.2
 nd:x.2.2.Nodup
 nm:∀u∈x.2.2,g.tc<=u/\u<=g.tc+g.nn
 wl:x.1.length<=3
 ws:∀t∈x.1,3<=t/\t<g.tc
 sy:Rt g x.2.1
 sz:x.2.1.length+3*qG g x<=3*(4*(g.nn+2))+1
theorem vC(h:n<=3):1<=4 - n:=Nat.le_sub_of_add_le (Sc ..▸Rj h)
theorem Oq{s:Nat}(p:a+1<=b):3+s+3*a<=s+1+3*b:=Gt (by erw[Sc 3 s,SI,Sc 3];show Rb (RV 3 p) s) (Rv (SS s) _)
theorem LU{l m:Nat}(lt:i<l+n)(z:n<=9)(p:a+1<=b)(x:l+9*b<=m):i+9*a<=m:=Gt (Gt (Rv (Gt (Rf lt) (Rb z l)) (9*a)) (by erw[SI,Sc 9];show Rb (RV 9 p) l)) x
theorem Dc.pos{x:Wi}(h:Dc g zS x):0<qG g x:=by let a:=gY h.nd h.nm;let b:=h.wl;let:g.nn+2<=(4 - x.1.length)*(g.nn+2):=Nat.le_mul_of_pos_left _ (vC b);show Nat.sub_pos_of_lt (Rc (Tq a) this)
theorem Dc.shift{s:Nat}{w:TN}(h:Dc g zS (w,s::st,σ))(c:s<g.tc)(lt:w.length<3):Dc g zS (w++[s],st,[])/\qG g (w++[s],st,[])<qG g (w,s::st,σ):=by
 let a:=gY h.nd h.nm;let p:qG g (w++[s],st,[])<qG g (w,s::st,σ):=by
  unfold qG;rw[Q9,RG,Tm];let e:(4 - w.length)*(g.nn+2)=(4 - (w.length+1))*(g.nn+2)+(g.nn+2):=by
   rw[show 4 - w.length=(4 - (w.length+1))+1 from(Nat.sub_add_cancel (vC (Rf lt))).symm,Nat.succ_mul]
  rw[e];show Nat.lt_sub_of_add_lt (S6 (Tq a) _)
 show#[#[λu rs d=>?_,h.ok.tl,.nil,.nil,(λ_ h=>n0 h),?_,λt ht=>?_,λt ht=>h.sy t (.tail _ ht),?_],p]
 .rw[Rz];show h.pre _ _ (.tm c d)
 .rw[Q9];show lt
 .rcases Ra.mp ht with ht|ht
  .show h.ws t ht
  rw[Q6.mp ht];show(h.sy s (.head _)).resolve_right λk=>absurd c (Sn.mpr (Rf k.1))
 let b:=h.sz;rw[Rq]at b;show Gt (Rb (RV 3 (Rf p)) _) (Gt (Rv (SS _) _) b)
theorem Dc.expand(W:WF g)(H:mZ g){w:TN}(h:Dc g zS (w,X::st,σ))(hr:g.rules[i+1]?=some (X,r))(h3:r.length<=3):Dc g zS (w,r++st,X::σ)/\qG g (w,r++st,X::σ)+1<=qG g (w,X::st,σ):=by
 show ao (GV.exp W H h.ok h.iv (aF hr)) λk iv=>?_;let j:=W.left _ _ _ hr;let nd:=R9.mpr #[k,h.nd];let hn:=λu hu=>(RB.mp hu).elim (λe=>e▸#[Rf j.1,j.2]) (h.nm u);let a:=gY nd hn;let b:=h.wl;let p:qG g (w,r++st,X::σ)+1<=qG g (w,X::st,σ):=by
  let:g.nn+2<=(4 - w.length)*(g.nn+2):=Nat.le_mul_of_pos_left _ (vC b);unfold qG;rw[Rq]at a ⊢;show RW (Nat.sub_add_cancel (Nat.le_sub_of_add_le (Sc ..▸Gt (Gt a (SS _)) this)))
 show#[#[λu rs d=>h.pre u _ (.nt hr d),h.ok.exp W (aF hr),iv,nd,hn,b,h.ws,λs f=>(Ra.mp f).elim (Rt.of W hr s) λf=>h.sy s (.tail _ f),?_],p];let c:=h.sz;rw[Rq]at c;rw[Q9];show Gt (Rv (Rv h3 _) _) (Gt (Oq p) c)
noncomputable def lw:Nat->List (List Nat)
 |0=>[[]]
 |n+1=>(lw n).flatMap λw=>[3::w,4::w,5::w]
theorem KO(w:TN)(h:∀t∈w,3<=t/\t<6):w∈lw w.length:=by
 induction w with
 |nil=>show .head _
 |cons t w a=>
  show List.mem_flatMap.mpr #[w,a λs b=>h s (.tail _ b),?_];let:=h t (.head _);show(Nat.eq_or_lt_of_le this.1).elim (λe=>e▸.head _) λk=>(Nat.eq_or_lt_of_le k).elim (λe=>e▸.tail _ (.head _)) λk=>SM k (R4 this.2)▸.tail _ (.tail _ (.head _))
theorem Cy(S:Sm g)(n:ks.Nodup)(h:∀w∈ks,w.length<=3/\∀t∈w,3<=t/\t<g.tc):ks.length<=40:=by
 show n.length_le_of_subset (l₂:=lw 0++lw 1++lw 2++lw 3) λw c=>?_;show ao (h w c) λa b=>?_;let m:=KO w λt ht=>#[(b t ht).1,Rc (b t ht).2 S.tc];let:w.length=0\/w.length=1\/w.length=2\/w.length=3:=by lia
 rcases this with e|e|e|e<;>rw[e]at m<;>simp[m]
structure LO(g:Gm)(zS:Nat)(ln:List Wi)(ks:List (List Nat)):Prop where
 it:∀x∈ln,Dc g zS x
 ix:∀i x,ln[i]?=some x->i+9*qG g x<=9*(4*(g.nn+2))
 nd:ks.Nodup
 snd:∀w∈ks,(w.length<=3/\∀t∈w,3<=t/\t<g.tc)/\∃rs,Vq g [zS] w rs
 all:∀w rs,w.length<=3->Vq g [zS] w rs->w∈ks\/∃x∈ln,∃u rs,w=x.1++u/\Vq g x.2.1 u rs
theorem LO.len{ln:List Wi}(h:LO g zS ln ks):ln.length<=9*(4*(g.nn+2)):=by
 rcases Nat.eq_zero_or_pos ln.length with e|e
 .rw[e];show Rx _
 let hx:=Rg (Nat.sub_lt e Nat.one_pos);let:=h.ix _ _ hx;show Gt (Gt (RW (Nat.sub_add_cancel e).symm) (Rb (Nat.mul_pos (dR rfl) (h.it _ (Q4 hx)).pos) _)) this
theorem LO.step{ln new:List Wi}{x:Wi}(h:LO g zS (ln++[x]) ks)(zn:new.length<=9)(hn:∀y∈new,Dc g zS y/\qG g y+1<=qG g x)(nd:Yc.Nodup)(sub:∀w∈ks,w∈Yc)(snd:∀w∈Yc,w∈ks\/((w.length<=3/\∀t∈w,3<=t/\t<g.tc)/\∃rs,Vq g [zS] w rs))(all:∀u rs,(x.1++u).length<=3->Vq g x.2.1 u rs->x.1++u∈Yc\/∃y∈new,∃a rs,x.1++u=y.1++a/\Vq g y.2.1 a rs):LO g zS (ln++new) Yc/\HR g (ln++new)<HR g (ln++[x]):=by
 let m:=h.it x (Rk _ (.head _));let l:=h.ix ln.length x (by rw[Ro (Rm _),SP];rfl);show#[#[λy hy=>(Ra.mp hy).elim (λhy=>h.it y (RE _ hy)) λhy=>(hn y hy).1,λi y hy=>?_,nd,λw b=>(snd w b).elim (h.snd w) id,λw rs b d=>?_],?_]
 .by_cases c:i<ln.length
  .rw[Ru c]at hy;show h.ix i y (by rw[Ru c];show hy)
  let lt:=ai hy;rw[Q9]at lt;rw[Ro (R6 c)]at hy;show LU lt zn (hn y (Q4 hy)).2 l
 .rcases h.all w rs b d with k|f
  .show .inl (sub w k)
  show aq f λy hy j=>?_;show ck j λu VV e d'=>?_;rcases Ra.mp hy with hy|hy
  .show .inr #[y,RE _ hy,u,VV,e,d']
  rw[Q6.mp hy]at e d';show(all u VV (e▸b) d').imp (λk=>e▸k) (by ext f;show aq f λz hz j=>ck j λa XI e2 d2=>#[z,Rk _ hz,a,XI,e.trans e2,d2])
 rw[AW,AW];show S6 ?_ _;let n:=m.pos;let:HR g new<=9*10 ^ (qG g x - 1):=by
  let:HR g new<=(new.map λ_=>10 ^ (qG g x - 1)).sum:=He λy hy=>TJ (dR rfl) (Nat.le_sub_one_of_lt (hn y hy).2);rw[List.map_const',List.sum_replicate_nat]at this;show Gt this (Uz _ zn)
 let e:10 ^ qG g x=10*10 ^ (qG g x - 1):=by
  rw[<- Nat.pow_succ',Nat.succ_eq_add_one,Nat.sub_add_cancel n]
 change _<10 ^ qG g x+0;rw[Nat.add_zero,e];show Q5 this (Nat.mul_lt_mul_of_pos_right (dR rfl) (Nat.pow_pos (dR rfl)))
end
section
variable{L:aQ}{R X e0 i n zS:Nat}{bb:Bool}{e elt x y:E}{g:Gm}{l:TV}{n1 n2:Nm}{nm:TR}{st:TN}{α β:Type}{U:aw}{φ:FK}
section
variable{C:CT}
theorem Di(hx:Ev C L U x (.tup l))(hy:Ev C L U y (.int i))(z:l.length<=bu):Ev C L U (.VT x y p q) (.tup (l.take i)):=λQ k=>hx _ (hy _ #[Ry _,z,k])
theorem G1{w:TN}(hx:Ev C L U x (kW nm w))(hy:Ev C L U y (kW nm (X::st)))(a:w.length<=1000)(zs:st.length<=1000):Ev C L U (.bin .Add x (.VT y (.lit (.int 1) p1) p2 p3) p4) (kW nm (w++[X])):=by let:=Dp (p:=p4) hx (Di (i:=1) (p:=p2) (q:=p3) hy (am (p:=p1)) (aH (aO (Gt (Rj zs) (dR rfl))))) (by rw[Lt];show aO (Gt (RS a (List.length_take_le ..)) (dR rfl)));rw[show(w.map (nV nm))++((X::st).map (nV nm)).take 1=(w++[X]).map (nV nm) from by rw[Rd];rfl]at this;show this
theorem JQ{w u:TN}(hx:Ev C L U x (kW nm w))(hy:Ev C L U y (kW nm u))(a:w.length<=1000)(zs:u.length<=1000):Ev C L U (.bin .Add x y p4) (kW nm (w++u)):=by let:=Dp (p:=p4) hx hy (by rw[Lt,Lt];show aO (Gt (RS a zs) (dR rfl)));rw[<- Rd]at this;show this
theorem Dy{m:TV}(hx:Ev C L U x (.tup l))(hy:Ev C L U y (.tup m))(b:φ.all l)(a:φ.all m):Tv C L U (.cmp .eq x y p) (V.Vw l m):=λQ q=>hx _ (hy _ #[#[φ,b,a],q])
theorem wo(nm:TR)(w:TN):FK.s.all (w.map (nV nm)):=λv a=>by
 show aq (Re.mp a) ?_;ext y _ rfl;show Lb nm y
theorem ND{a b w:V}{t:T}{R:Option V->aw->Prop}(h:Tv C (L++[some a,some b]) U t bb)(h1:bb=true->Ev C (L++[some a,some b]) U elt w)(d:bb=true->R (some w) U)(c:bb=false->R none U):tw C elt (.tup [n1,n2] q) (.cons t .nil) L (.tup [a,b]) U R:=
 h _ #[λe=>#[λ_=>h1 e _ (d e),nt],λe=>#[nf,λ_=>c e]]
end
theorem NZ[DecidableEq α]{d:List (α×β)}{k x:α}{v:β}:x∈(dQ d k v).map (·.1)↔x∈d.map (·.1)\/x=k:=by
 rw[sB];cases e:(d.lookup k).isSome with
 |true=>
  rw[Ua];show az (Sh.mp e) λu hu=>#[.inl,λh=>h.elim id λh=>by rw[h];show Rn (cq hu)]
 |false=>erw[Ui,Ra,Q6]
theorem wj{a b c:Prop}(h:a/\b)(k:a->b->c):c:=k h.1 h.2
noncomputable def PY(R a Fo:Nat)(x4 x5:TO):aQ:=[some (.ref R),some (.int 3),some (.ref a),some (.ref Fo),x4,x5,none]
noncomputable abbrev Wd:=List (List Nat×Bool)
section
variable(c:Cd nm e0)(W:WF g)(S:Sm g)(HL:mZ g)(h3:∀{i l:Nat}{r:TN},g.rules[i]?=some (l,r)->r.length<=3)(hR:U R=some (.list ((g.rules.drop 1).map (pN nm))))(hN:∀{s},d6 g s->nm s∈fJ)(hT:∀{t},3<=t->t<g.tc->nm t∉fJ)
include c W S HL h3 hR hN hT
theorem Df{Q:QV}(h0:g.rules[0]?=some (g.tc,[zS,0]))(hS:nm zS=sS)(q:∀Fo ep (wd:Wd) UX,(wd.map (·.1)).Nodup->wd.length<=40->(∀w,w∈wd.map (·.1)↔w.length<=3/\∃rs,Vq g [zS] w rs)->(∀w∈wd.map (·.1),∀t∈w,3<=t/\t<g.tc)->bF U UX->UX Fo=some (.dict (dK (kW nm) .bool wd) ep)->Q (.ref Fo) UX):CC (n+1) 646 [.ref R,.int 3] U Q:=by
 let zn:=S.nn;let nS:d6 g zS:=by
  show bS W.zero λS' e h1 h2=>?_;rw[h0]at e;replace e:=Is e;cases e;show#[h1,h2]
 let zr:(g.rules.drop 1).length<=9:=by rw[T6];let:=S.rl;show Nat.sub_le_of_le_add this
 let wl {nm:TR} {w:TN} (h:w.length<=1000):(w.map (nV nm)).length<=bu:=aH (aO (Gt h (dR rfl)));change an tab (CC n) lI [some (.ref R),some (.int 3),none,none,none,none,none] U (aW Q);show gG<|cS<|au<|bL<|aj<|cS<|au<|cS<|pP #[Rx _,aj<|cS<|aj<|r6 (w:=nV nm zS) (Rs V.str hS.symm) _ #[bk,aT,bk,λM hL=>aj<|dC λFo ep hF=>#[aT,?_]]];let O1:=((aA.nil U).new hL (.list ([(([],[zS],[]):Wi)].map (G0 nm)))).new hF (.dict [] ep);let a0c:qG g ([],[zS],[])=4*(g.nn+2):=rfl;show sk (a0:=M) (a1:=(none,none)) (a2:=[([],[zS],[])]) (a3:=[]) (a4:=ep) (λM x _ _ _=>PY R M Fo x.1 x.2) (λ_ _ ln _ _=>HR g ln) (λM _ ln wd ep UX=>aA U UX [(Fo,.dict (dK (kW nm) .bool wd) ep),(M,.list (ln.map (G0 nm)))]/\LO g zS ln (wd.map (·.1))) #[O1,λx hx=>?_,λi x hx=>?_,.nil,(λ_ h=>n0 h),λw rs _ d=>.inr #[_,.head _,w,rs,rfl,d]] λ{M x ln wd ep UY K} j go rt=>?_
 .rw[Q6.mp hx];show#[λu rs d=>#[rs,d],λa X b t e _ f=>?_,.nil,.nil,(λ_ h=>n0 h),Rx _,(λ_ h=>n0 h),λs hs=>.inr (by rw[Q6.mp hs];show nS),?_]
  .let e2:b=[]:=by
    induction a with
    |nil=>show(Te e).2.symm
    |cons y a=>cases a<;>cases e
   clear e;subst e2;show f.none.elim
  rw[a0c];show RW (Sc ..)
 .induction i with
  |zero=>cases hx;rw[a0c];show RW (S9 _)
  |succ i=>cases hx
 show ao j λO I=>?_;clear j;let G:=I.len;let zk:wd.length<=40:=by
  let:=Cy S I.nd λw hw=>(I.snd w hw).1;rw[Lt]at this;show this
 show Ap (f:=G0 nm) (l:=ln) (ag rfl) O (O.get 1 rfl) λU3 F E2=>#[λk=>?_,λk=>?_]
 .let hw:ln≠[]:=λe=>by rw[e]at k;cases k
  show uJ (show ∃w' x0,ln=w'++[x0] from#[_,_,(List.dropLast_concat_getLast hw).symm]) ?_;clear hw k O;ext Y y rfl;obtain⟨w,st,σ⟩:=y;let m:Dc g zS (w,st,σ):=I.it _ (Rk _ (.head _));let zl':Y.length<1000:=by rw[Q9]at G;show Gt G (Gt (RV 9 (RV 4 (Rv zn 2))) (dR rfl))
  let zw:w.length<=3:=m.wl;let T:st.length<=100:=by let:=m.sz;let:st.length+3*qG g (w,st,σ)<=3*(4*(g.nn+2))+1:=this;show Gt (Gt (Ri _ _) this) (Gt (Rj (RV 3 (RV 4 (Rv zn 2)))) (dR rfl))
  let h1:=F.get 1 rfl;rw[Rd]at h1;show gG<|cb<|ah rfl #[AE h1,pP<|I8 (v:=G0 nm (w,st,σ)) h1 (by rw[Lt];show cY (by show Gt ‹_› (dR rfl))) ?_];let E:=F.set 1 rfl (.list (Y.map (G0 nm)));change an tab (CC n) (.cons _ .nil) (PY R M Fo (some (kW nm w)) (some (kW nm st))) _ _;show cC (Dy (φ:=.s) (ag rfl) (bW Ak (Rx _)) (wo nm st) λ_ h=>n0 h) (λP=>?_) λP=>?_
  .rw[cG,UC,TI]at P;clear h1 T F G;subst P;show az (m.pre [] [] .nil) λrs0 d0=>?_;rw[RD]at d0;show lZ (d:=wd) (g:=V.bool) (k:=w) (v:=true) c.emW am (ag rfl) (ag rfl) E 0 rfl (by show Gt (Rj ‹_›) (dR rfl)) λVE Vr J=>bE<|?_;show wj (I.step (new:=[]) (Yc:=(dQ wd w true).map (·.1)) (Rx _) (λ_ h=>n0 h) (pu I.nd _) (λv hv=>NZ.mpr (.inl hv)) (λv hv=>?_) λu rs _ d=>.inl ?_) λo lt=>?_
   .show(NZ.mp hv).imp id λh=>by rw[h];show#[#[zw,m.ws],rs0,d0]
   .cases d;change w++[]∈_;rw[RD];show NZ.mpr (.inr rfl)
   rw[RD]at o lt;show go (b1:=(_,_)) (b2:=Y) #[J,o] lt
  rw[cG,UC]at P;show uJ (show ∃X Xe,st=X::Xe from by clear E h1 T m F G I go;induction st with|nil=>cases P|cons X st=>show#[X,st,rfl]) ?_;clear P h1 F G;ext X st rfl;let Y8:(X::st).length<=1000:=Gt T (dR rfl);rw[Rq]at T;let i0 {C:CT} {L:aQ} {UX:aw} {x:Nm} {p q:Ps} h:Ev C L UX (.item (.loc x) (.lit (.int 0) p) q) (nV nm X):=fY (ag h) am (wl Y8) rfl;let fr {C:CT} {L:aQ} {UX:aw} {x:Nm} {p q r:Ps} h:Ev C L UX (.VM (.loc x) (.lit (.int 1) p) q r) (kW nm st):=vf (l:=(X::st).map (nV nm)) (i:=1) (ag h) am (Rm _) (by rw[Lt];show Rj (Rx _)) (wl Y8);show cC (JU (z:=nm X) (l:=fJ) (φ:=.s) Da Fy (i0 rfl) (bW (be am (be am (bz am))) dD)) (λc2=>?_) λc2=>?_
  .let nX:nm X∉fJ:=R1 ((SA _).mp c2);let N:=(m.sy X (.head _)).resolve_right λk=>nX (hN k);show eM (iE (r7 (l:=w.map (nV nm)) (ag rfl) (wl (by show Gt ‹_› (dR rfl)))) (ag rfl)) (λH=>?_) λH=>?_
   .rw[Lt]at H;let H:=Sd.mp H;show ao (m.shift N.2 H) λa b=>de (f:=G0 nm) (l:=Y) (z:=(w++[X],st,[])) (ag rfl) (bW (be (G1 (ag rfl) (ag rfl) (by show Gt ‹_› (dR rfl)) (Gt (Rf T) (dR rfl))) (bz (fr rfl))) aT) E 1 rfl (by show Gt ‹_› (dR rfl)) λVr J=>bE<|bE<|?_;show wj (I.step (new:=[(w++[X],st,[])]) (Yc:=wd.map (·.1)) (Q7 rfl) (λy hy=>by rw[Q6.mp hy];show#[a,b]) I.nd (λ_ h=>h) (λ_ h=>.inl h) λu rs _ d=>.inr ?_) λo lt=>bE<|go (b1:=(_,_)) (b2:=Y++[(w++[X],st,[])]) #[J,o] lt;show aq (d.inv_tm W N.2) ?_;clear d;ext Z rfl d';show#[_,.head _,Z,rs,by change w++X::Z=(w++[X])++Z;rw[Rz];rfl,d']
   rw[Lt]at H;show wj (I.step (new:=[]) (Yc:=wd.map (·.1)) (Rx _) (λ_ h=>n0 h) I.nd (λ_ h=>h) (λ_ h=>.inl h) λu rs hu d=>?_) λo lt=>?_
   .show aq (d.inv_tm W N.2) ?_;clear d;ext Z rfl d';let hu:(w++X::Z).length<=3:=hu;rw[Q9,Rq]at hu;show absurd (Sd.mpr (show w.length<3 by show Gt (Rb (Rj (Rx _)) _) hu)) H
   rw[RD]at o lt;show bE<|bE<|bE<|go (b1:=(_,_)) (b2:=Y) #[E,o] lt
  let nX:nm X∈fJ:=Tg λk=>by rw[SC k]at c2;cases c2
  let N:=(m.sy X (.head _)).resolve_left λk=>hT k.1 k.2 nX;show aC<|bv<|ah rfl<|bp<|aK<|ah rfl<|aI (E.ext _ _ hR)<|i8 (f:=G0 nm) (λk l UX=>UX=_/\l=(((g.rules.drop 1).take k).filter λe=>decide (e.1=X)).map λe=>((w,e.2++st,X::σ):Wi)) (aH (Gt zr (dR rfl))) #[rfl,rfl] (λi=>i.1▸E.ext _ _ hR) (λ{l UX} i A hA=>?_) λ{k x l UX R'} hx i Wv goN=>?_
  .show ao i ?_;clear i;clear nX c2 fr i0 Y8;ext rfl rfl;rw[Lt,RI]at *;let mf:∀e,e∈((g.rules.drop 1).filter λe=>decide (e.1=X))↔∃i,g.rules[i+1]?=some (X,e.2)/\e.1=X:=λe=>by
    erw[Sa,decide_eq_true_iff];show#[λ⟨a,b⟩=>by show az (qm a) λi hi=>#[i,b▸hi,b],(by ext D;show aq D λi hi b=>?_;clear D;show#[Q4 (i:=i) (uR.mpr (b▸hi)),b])]
   let zf:(((g.rules.drop 1).filter λe=>decide (e.1=X)).map λe=>((w,e.2++st,X::σ):Wi)).length<=9:=by rw[Lt];show Gt (ST ..) zr
   let nw:∀y∈(((g.rules.drop 1).filter λe=>decide (e.1=X)).map λe=>((w,e.2++st,X::σ):Wi)),Dc g zS y/\qG g y+1<=qG g (w,X::st,σ):=λy hy=>by
    show aq (Re.mp hy) ?_;clear hy;ext e he rfl;show aq ((mf e).mp he) λi hi _=>m.expand W HL hi (h3 hi)
   show ao (I.step (Yc:=wd.map (·.1)) zf nw I.nd (λ_ h=>h) (λ_ h=>.inl h) λu rs _ d=>.inr (by
    show kD (d.inv_nt W (Rf N.1)) λi r VV hr d' _=>?_;clear d nw zf E m I go;induction i with
    |zero=>show aq W.zero λS' e _=>?_;rw[e]at hr;clear d' mf;replace hr:=Is hr;cases hr;show absurd N.1 (Si _)
    |succ i=>show#[_,Rn ((mf (X,r)).mpr #[i,hr,rfl]),u,VV,rfl,d'])) λo lt=>?_
   let J:=E.new hA (.list (((((g.rules.drop 1).filter λe=>decide (e.1=X)).map λe=>((w,e.2++st,X::σ):Wi))).map (G0 nm)));show bI (J.get 2 rfl) J.hd (by rw[Lt,Lt];show aO (by show Gt (RS (Rf zl') (by rw[Lt];show Gt (ST ..) zr)) (dR rfl))) λB hB=>?_;rw[<- Rd];show bE<|bE<|go (b0:=B) (b1:=(_,_)) #[((J.new hB _).sub (m':=[(B,_),(Fo,_)]) (.cons_cons _ (.cons _ (.cons_cons _ (.cons _ (.refl _)))))).perm (.swap ..),o] lt
  show ao i ?_;clear i;ext rfl rfl;show aq (bC hx) ?_;clear hx;ext e he rfl;show az (qm (Q4 he)) λi hi=>?_;let z3:=h3 hi;show ND (bb:=decide (e.1=X)) (w:=G0 nm (w,e.2++st,X::σ)) (by
   rw[show decide (e.1=X)=decide (nm e.1=nm X) from To.mpr #[λh=>h▸rfl,λh=>c.inj h]];show Dz (ag rfl) (i0 rfl)) (λ_=>bW (be (ag rfl) (bz (JQ (ag rfl) (fr rfl) (by show Gt ‹_› (dR rfl)) (Gt (Rf T) (dR rfl))))) aT) (λh=>Wv #[rfl,?_]) λh=>goN #[rfl,?_]
  .rw[ax he,T8,Rd,UD,RO h];rfl
  rw[ax he,T8,Rd,UD,RX (by rw[h];show nf)];show(RD _).symm
 let e0:ln=[]:=by clear F G I O go;induction ln with|nil=>rfl|cons a b=>cases k
 clear k G O go;subst e0;show cB (ag rfl)<|q Fo ep wd U3 I.nd zk (λw=>#[λh=>#[(I.snd w h).1.1,(I.snd w h).2],(by ext D;show ao D λa U7=>?_;clear D;show az U7 λrs d=>?_;clear U7;show(I.all w rs a d).resolve_right (by ext D;show aq D λ_ h _=>?_;clear D;show n0 h))]) (λw h=>(I.snd w h).1.2) F.ext (F.get 0 rfl)
end
end
section
variable{F:Nat->SD}{L:aQ}{Rl Rw Tk a at_ ca i j k n s t zS:Nat}{as rs tk:TN}{g:Gm}{ks:Ks}{lo:Option Nat}{Vg:TP}{row:TZ}{x y:E}{Vd x6:TO}{α:Type}{U UY:aw}
noncomputable def gv(o:Option Nat):V:=(o.map kI).getD (.int (-1))
theorem Dn{C:CT}{f:α->V}{l:List α}{z:α}(hx:Ev C L U x (.ref a))(h:U a=some (.list ((l++[z]).map f)))(s:l.length<100000):Ev C L U (.item x (.neg 1 p q) r) (f z):=λQ k=>hx _ (by
 show FG<|dz h (by rw[Lt,Q9];show cY s) ?_ k;unfold cJ;rw[RX (dR rfl),RO rfl,Rd];show List.getLast?_concat)
theorem Ou{C:CT}(hx:Ev C L U x (gv lo)):Tv C L U (.cmp .lt x (.lit (.int 0) p) q) (decide (lo=none)):=by
 cases lo with
 |none=>show iE hx am
 |some s'=>
  let:=iE (p:=q) hx (am (v:=.int 0) (p:=p));rw[show decide ((s':Int)<0)=decide (some s'=none) from To.mpr #[λk=>absurd (Ry _) (Int.not_le.mpr k),λk=>(nS k.symm)]]at this;show this
theorem JN{C:CT}(hx:Ev C L U x (.int i))(hy:Ev C L U y (.int j))(h:j<=i):Ev C L U (.bin .Sub x y p) (.int (i - j:Nat)):=by let:=IN (p:=p) hx hy;rw[<- Int.natCast_sub h]at this;show this
noncomputable def CX(Vg:TP)(t i:Nat):Bool:=(br Vg i).any λm=>m.testBit t
theorem Gw:CX Vg t i=true↔∃m,br Vg i=some m/\m.testBit t=true:=by
 unfold CX;cases br Vg i with
 |none=>show#[λh=>(by cases h),(by ext a;show aq a λ_ h _=>?_;show nS h)]
 |some m=>show#[λh=>#[m,rfl,h],(by ext a;show aq a λ_ h k=>?_;show by replace h:=Is h;cases h;show k)]
theorem L5{C:CT}(hx:Ev C L U x (.int (m:Nat)))(hy:Ev C L U y (.int (k:Nat)))(z:k<=1000):Tv C L U (.cmp .eq (.bin .Mod (.bin .RShift x y p) (.lit (.int 2) p1) p2) (.lit (.int 1) p3) p4) (m.testBit k):=by let:=vj (p:=p4) (yh (j:=2) (p:=p2) (IO (p:=p) hx hy z) (am (p:=p1)) (dR rfl) (dR rfl)) (am (v:=.int 1) (p:=p3));rw[jC,Nat.and_one_is_mod];show λQ q=>this Q ?_;rw[show decide ((((m >>> k % 2:Nat)):Int)=1)=decide (m >>> k % 2=1) from To.mpr (R5)];show q
noncomputable def IX(h:Gh)(ca Rw Pl at_ Tk:Nat)(x6 x7 x8 x9 Vd:TO):aQ:=[some (.ref h.a),some (.ref ca),some (.ref Rw),some (.ref Pl),some (.int at_),some (.ref Tk),x6,x7,x8,x9,Vd,none,none]
structure Lw(g:Gm)(A:xZ)(N:Nat)(row:TZ)(k at_:Nat)(p tk:TN):Prop where
 pa:∃ss cw,Pa A p ss/\Fo g ss cw tk/\row.take at_=zs cw
 lt:at_<row.length
 pl:p.length<=k+1
 ps:∀s∈p,s<N
 tl:tk.length<=k
def GG(g:Gm)(A:xZ)(row:TZ)(rs:TN)(k at_:Nat)(p tk:TN):Prop:=∃u m s p' s',zs u=row.drop at_/\Vc g A m p u tk (s::p') [0] rs/\A.go s 0=some s'/\(∀i,¬A.rd s 0 i)/\k+m<=150
theorem Op{a b:TN}(h:zs a=zs b):a=b:=(UK λ_ _ h=>R5.mp h).mp h
theorem HJ{l:TN}{i:Nat}(hn:l.Nodup)(hi:i∈l)(h:∀j∈l,j=i):l.length=1:=SM (hn.length_le_of_subset λj a=>Q6.mpr (h j a)) (List.length_pos_of_mem hi)
theorem Vc.go{A:xZ}{m:Nat}{P σ T e c d:TN}{G:Prop}(h:Vc g A m P σ T e c d)(k0:e=P->c=σ->d=T->G)(f:∀n p1 u1 Xd,m=n+1->St g A P σ T p1 u1 Xd->Vc g A n p1 u1 Xd e c d->G):G:=by
 induction h with
 |refl=>show k0 rfl rfl rfl
 |step a b=>show f _ _ _ _ rfl a b
theorem St.go{A:xZ}{P σ T m k l:TN}{G:Prop}(h:St g A P σ T m k l)(o:∀s s' t p u,P=s::p->σ=t::u->m=s'::s::p->k=u->l=T->A.go s t=some s'->(∀i,¬A.rd s t i)->u≠[]->G)
 (n:∀s s' s0 i X t r q p0 p u,P=s::p->σ=t::u->m=s'::s0::p0->k=σ->l=T++[i]->A.go s t=none->A.rd s t i->(∀j,A.rd s t j->j=i)->g.rules[i]?=some (X,r)->P=q++s0::p0->q.length=r.length->A.go s0 X=some s'->G):G:=by
 induction h with
 |shift a b c=>show o _ _ _ _ _ rfl rfl rfl rfl rfl a b c
 |take a b c d e f h=>show n _ _ _ _ _ _ _ _ _ _ _ rfl rfl rfl rfl rfl a b c d e f h
def QX(g:Gm)(A:xZ)(row:TZ)(rs:TN)(k at_ s:Nat)(p tk:TN)(t:Nat):Prop:=(∃s',A.go s t=some s'/\(∀i,¬A.rd s t i)/\((at_+1=row.length->tk=rs)/\(at_+1≠row.length->GG g A row rs (k+1) (at_+1) (s'::s::p) tk)))\/(A.go s t=none/\∃i,A.rd s t i/\(∀j,A.rd s t j->j=i)/\∀X r q s0 p0 s',g.rules[i]?=some (X,r)->s::p=q++s0::p0->q.length=r.length->A.go s0 X=some s'->GG g A row rs (k+1) at_ (s'::s0::p0) (tk++[i]))
theorem GG.next{A:xZ}{p:TN}{x:Int}(h:GG g A row rs k at_ (s::p) tk)(hx:row[at_]?=some x):∃t:Nat,x=(t:Int)/\QX g A row rs k at_ s p tk t:=by
 show OM h λu m G H s' hu st l=>?_;let hd:=bR hx;rw[hd]at hu;cases u with
 |nil=>(cases hu)
 |cons t u=>
  show ao (Te hu) λe1 e2=>#[t,e1.symm,?_];let last:u=[]↔at_+1=row.length:=by
   let:=Rs List.length e2;let lt:=ai hx;unfold zs at this;rw[Lt,T6]at this;erw[<- Uo];show#[λh=>SM lt (UV (this.symm.trans h)),λh=>by rw[this,h];show SP _]
  show st.go (λep R S=>?_) λn p1 u1 Xd em s1 s2=>?_
  .show yC ep λe3 _=>yC R λe4 W=>bP l λM hr _=>.inl #[s',by rw[<- e3,<- e4];show M,λi=>by rw[<- e3,<- e4];show hr i,λ_=>S.symm,λh=>absurd (last.mp W.symm) h]
  let F:=Gt (RW (SQ k n)) (em▸l.2.2);show s1.go (λs0 o K p' J z w f e y h1 v h3=>?_) λs0 o s3 i X K r q p0 p' J z w f e y h1 v h3 Q P O N=>?_
  .show yC z λa b=>yC w λc d=>?_;rw[<- a,<- c]at h1;rw[f,<- a,<- b,e,y,<- d]at s2;rw[<- d]at h3;show .inl #[o,h1,λi=>by rw[a,c];show v i,λh=>absurd (last.mpr h) h3,λ_=>#[u,n,G,H,s',e2,s2,l.1,l.2.1,F]]
  show yC z λa _=>yC w λc _=>?_;rw[f,e,y]at s2;show .inr #[by rw[a,c];show h1,i,by rw[a,c];show v,λj L=>h3 j (by rw[<- a,<- c];show L),λX' r' q' Z p4 Y V σ T I=>?_];show yP (Is (Q.symm.trans V)) λE D=>ao (List.append_inj (P.symm.trans σ) (O.trans (by rw[D];show T.symm))) λ_ C=>yC C λe13 B=>?_;rw[<- e13,<- E,N]at I;rw[<- e13,<- B,<- Is I];show#[t::u,n,G,H,s',by rw[hd,<- e1,<- e2];rfl,s2,l.1,l.2.1,F]
section
variable{h:Gh}(G:bh U g h)(Z:Sz g h)(W:WF g)(HL:mZ g)(S:Sm g)(h3:∀{i l:Nat}{r:TN},g.rules[i]?=some (l,r)->r.length<=3)(R:tX U g ca as ks F)(W0:U Rw=some (.list (row.map .int)))(zr:row.length<=100)(hz:∀i x,row[i]?=some x->(x=0↔i+1=row.length))(ht:∀t:Nat,(t:Int)∈row->t<g.tc)
include G Z W HL S h3 R W0 zr hz ht
omit G Z HL S h3 W0 zr hz ht in
theorem Bi(b:s<ks.length):∃a,as[s]?=some a/\fG U g ks s a (F s)/\(∀Z,(c8 ks.length F).go s Z=br (F s).VA Z)/\(∀t i,(c8 ks.length F).rd s t i↔CX (F s).Vg t i=true):=by
 show aq (R.st s b) λa h1 c=>?_;let ec:hO ks.length s=s:=RO b;show#[a,h1,c,λZ=>?_,λt i=>?_]
 .change br (F (hO ks.length s)).VA Z=_;rw[ec]
 erw[Gw];change(∃m,br (F (hO ks.length s)).Vg i=some m/\_)↔_;rw[ec]
omit G Z HL W0 zr hz ht in
theorem A1(E:bF U UY){Z:Nat}(c:s<ks.length):Pf (CC (n+1)) UY 313 [.ref ca,.int s,.int Z] (gv ((c8 ks.length F).go s Z)):=λQ q=>by
 show Ci (Bi W R c) λa e r d _=>?_;show ck R.rep.inst λga Vc f hS=>?_;show C6 r.cell λp it ms rd We h=>?_;show Ci h λXs _ h1 g _=>?_;let b:ks.length<=100000:=Gt (sO S h3 R.rep.ok) (dR rfl);change an tab (CC n) ce [some (.ref ca),some (.int s),some (.int Z)] UY (aW Q);rw[d]at q;show cB (yl qt (aE (aM (aE (ag rfl) (f.ext E) (xS rfl) rfl) (ag rfl) (E _ _ hS) (R.rep.len▸b) e) (h1.ext E) (cA rfl) rfl) (ag rfl) uC (E _ _ g)) q
theorem OC{zS Pl:Nat}{p rl:TN}{x:Int}{D:Prop}{K:QF}(zk:k<=200)(hx:row[at_]?=some x)(J:Lw g (c8 ks.length F) ks.length row k at_ (s::p) tk)(rv:D->GG g (c8 ks.length F) row rs k at_ (s::p) tk)
  (hn:rl.Nodup) (T:∀t:Nat,x=(t:Int)->lo=(c8 ks.length F).go s t/\∀i,i∈rl↔(c8 ks.length F).rd s t i) (σ:(∀t:Nat,x≠(t:Int))->lo=none/\rl=[]) (nc:∀s',lo=some s'->rl≠[]) (O:aA U UY [(Rl,.list (ay rl)),(Tk,.list (ay tk)),(Pl,.list (ay (s::p).reverse))])
  (go:∀Pl Tk x9 Vd p' VH UX,p'≠[]->aA U UX [(Tk,.list (ay VH)),(Pl,.list (ay p'.reverse))]->Lw g (c8 ks.length F) ks.length row (k+1) at_ p' VH->(D->GG g (c8 ks.length F) row rs (k+1) at_ p' VH)->K .next (IX h ca Rw Pl at_ Tk x6 (some (.ref a)) (some (gv lo)) x9 Vd) UX) (r2:∀L UX,¬D->bF U UX->K (.ret .none) L UX):
  an tab (CC (n+2)) cI (IX h ca Rw Pl at_ Tk x6 (some (.ref a)) (some (gv lo)) (some (.ref Rl)) Vd) UY K:=by
 let o:rl.length<=100000:=by
  let:rl.length<=g.rules.length:=by
   let:=hn.length_le_of_subset λi hi=>by
    by_cases c:∃t:Nat,x=t
    .show az c λt e=>?_;show ao ((R.Y5.rd s t i).mp (((T t e).2 i).mp hi)) λ_ Ws=>kD Ws λd X r _ b _=>SY.mpr (ai b.1)
    rw[(σ λt e=>c #[t,e]).2]at hi;show n0 hi
   rw[RN]at this;show this
  show Gt this (Gt Z.rules (dR rfl))
 let nD:¬(lo=none/\rl.length=1)->¬D:=λh d=>by
  show aq ((rv d).next hx) λt e k=>?_;show ao (T t e) λl1 l2=>?_;rcases k with m|m
  .show bS m λs' h1 b _=>nc s' (l1.trans h1) (List.eq_nil_iff_forall_not_mem.mpr λi hi=>b i ((l2 i).mp hi))
  show ao m λh1 Y=>bS Y λi b h3 _=>h #[l1.trans h1,?_];show HJ hn ((l2 i).mpr b) λj hj=>h3 j ((l2 j).mp hj)
 show cC (dr (Ou (ag rfl)) λ_=>vj (cR (ag rfl) O.hd o) am) (λc=>?_) λc=>cB am (r2 _ _ (nD λk=>?_) O.ext)
 .show ao (R8.mp c) λc1 w=>?_;let c1:=RH c1;let w:=R5.mp (RH w);show az (List.length_eq_one_iff.mp w) ?_;clear w c nD o nc;ext i rfl;show az (Classical.byContradiction λk=>nC (σ λt e=>k #[t,e]).2) ?_;clear σ;ext t rfl;show ao (T t rfl) λl1 l2=>?_;let z:=(l2 i).mp (.head _);show fH J.pa λss cw Pp Fp ec=>?_;show ao ((R.Y5.rd s t i).mp z) λ_ Y=>kD Y λ_ X r _ Q _=>?_;let hr:=Q.1;show OM (Ha W HL R.Y5 Pp Fp z hr) λq' s0 p0 s' M e1 e2 C=>bP C λe3 e4 e5=>?_;clear C;show aq (G.ru i X r hr) λra g1 g2=>?_;let er:(s::p).reverse=(s0::p0).reverse++q'.reverse:=by rw[e1,Tw]
  let zp:=Gt J.pl (Rj zk);let lp:(s::p).reverse.length=(s0::p0).length+r.length:=by rw[RU,e1,Q9,e2,Sc]
  let z0:(s0::p0).length<=201:=by rw[RU]at lp;show Gt (Ri _ _) (lp▸zp)
  let q:=J.ps s0 (by rw[e1];show Rk _ (.head _));let N:s'<ks.length:=by
   show Ci (Bi W R q) λa0 ha0 r0 P _=>?_;rw[P]at e3;show kD (r0.mv.to e3) λ_ _ k' _ b _=>?_;show ai b
  let O0:=O;show aZ (aM (gV G O.ext rfl rfl rfl) (aM (l:=[i]) (ag rfl) am O.hd (Q7 rfl) rfl) (O.ext _ _ G.rl) (G.Xz▸Gt Z.rules (dR rfl)) g1)<|aC<|v4<|ah rfl<|JN (cR (ag rfl) (O.get 2 rfl) (by rw[RU];show Gt ‹_› (dR rfl))) (Dl (aE (ag rfl) (g2.ext O.ext) (yb rfl) rfl) (Gt (h3 hr) (dR rfl))) (Nat.le.intro ((Sc _ _).trans lp.symm)) _<|Ei (O.get 2 rfl) (aH (by rw[RU];show aO (by show Gt ‹_› (dR rfl)))) λPc hP=>?_;let et:(ay (s::p).reverse).take ((s::p).reverse.length - r.length)=ay (s0::p0).reverse:=by
   unfold ay;rw[<- List.map_take,lp,Nat.add_sub_cancel,er,Uu (by rw[RU];show Rm _),S4 (by rw[RU];show Rm _)]
  let ZA:=et;rw[et];let v:=O.new hP (.list (ay (s0::p0).reverse));let eP:ay (s0::p0).reverse=(p0.reverse++[s0]).map λ(i:Nat)=>V.int i:=by rw[Ta];rfl
  show gG<|cS<|au<|bv<|ah rfl<|bL<|aj<|iz (ag rfl) (R.rep.inst.choose_spec.choose_spec.1.ext v.ext) #[rfl,rfl] rfl (be (Dn (l:=p0.reverse) (f:=λ(i:Nat)=>.int i) (ag rfl) (eP▸v.hd) (by rw[RU];rw[Rq]at z0;show Gt ‹_› (dR rfl))) (bz (aE (ag rfl) (g2.ext v.ext) (yb rfl) rfl))) (A1 W S h3 R v.ext q) _ #[bk,λA hA=>?_];rw[e3];let H:=v.new hA (.list [.int s']);show bI (H.get 1 rfl) H.hd (by rw[aS,RU];show aO (by rw[RG];show Gt (Rj ‹_›) (dR rfl))) λB hB=>?_;let O3:=H.new hB (.list (ay (s0::p0).reverse++[.int s']));show aj<|bv<|ah rfl<|bL<|aj<|aM (k:=0) (ag rfl) am (O3.get 3 rfl) (Q7 rfl) rfl _ #[bk,λA2 u=>?_];let E:=O3.new u (.list [.int i]);let I:=J.tl;show bI (E.get 5 rfl) E.hd (by rw[aS];show aO (by rw[RG];show Gt (Rj (Gt J.tl zk)) (dR rfl))) λB2 Z2=>#[aT,?_];let O5:=(E.new Z2 (.list (ay tk++[.int i]))).sub (.cons_cons _ (.cons _ (.cons_cons _ (Se _))));let ee:ay (s0::p0).reverse++[V.int s']=ay (s'::s0::p0).reverse:=by rw[jL,<- Ta]
  rw[ee,jL]at O5 ⊢;show bE<|go B B2 (some (.ref Rl)) (some (.ref ra)) (s'::s0::p0) (tk++[i]) _ (λh=>(by show nC h)) O5 #[#[M,cw,e4,e5,ec],J.lt,?_,λy hy=>?_,by rw[Q9];show Rj I] λd=>?_
  .let:=Rs List.length e1;rw[Q9]at this;show Rj (Gt (this▸Nat.le_add_left (s0::p0).length q'.length) J.pl)
  .clear ee O5 Z2 E u O3 hB H e4 e3;rcases RB.mp hy with rfl|hy
   .show N
   show J.ps y (by rw[e1];show Rk _ hy)
  show aq ((rv d).next hx) λt' ZA k=>?_;obtain rfl:=R5.mp ZA;rcases k with m|m
  .show bS m λs2 h1 b _=>absurd z (b i)
  show ao m λh1 C=>bS C λi' b W3 k=>?_;obtain rfl:i=i':=W3 i z;show k X r q' s0 p0 s' hr e1 e2 e3
 rw[k.1,k.2]at c;cases c
end
end
section
variable{F:Nat->SD}{Rl Rw Tk a at_ ca k n zS:Nat}{as rs tk:TN}{g:Gm}{ks:Ks}{lo:Option Nat}{row:TZ}{Vd x6 x7 x8 x9:TO}{U UY:aw}
section
variable{h:Gh}(G:bh U g h)(Z:Sz g h)(W:WF g)(HL:mZ g)(S:Sm g)(h3:∀{i l:Nat}{r:TN},g.rules[i]?=some (l,r)->r.length<=3)(R:tX U g ca as ks F)(W0:U Rw=some (.list (row.map .int)))(zr:row.length<=100)(hz:∀i x,row[i]?=some x->(x=0↔i+1=row.length))(ht:∀t:Nat,(t:Int)∈row->t<g.tc)
include G Z W HL S h3 R W0 zr hz ht
theorem IW{Pl s:Nat}{p rl:TN}{x:Int}{D:Prop}{K:QF}(h0:g.rules[0]?=some (g.tc,[zS,0]))(w:k<200)(hx:row[at_]?=some x)(J:Lw g (c8 ks.length F) ks.length row k at_ (s::p) tk)(z:D->GG g (c8 ks.length F) row rs k at_ (s::p) tk)
  (hn:rl.Nodup) (N:∀t:Nat,x=(t:Int)->lo=(c8 ks.length F).go s t/\∀i,i∈rl↔(c8 ks.length F).rd s t i) (P:(∀t:Nat,x≠(t:Int))->lo=none/\rl=[]) (O:aA U UY [(Rl,.list (ay rl)),(Tk,.list (ay tk)),(Pl,.list (ay (s::p).reverse))])
  (go:∀Pl at_ Tk x7 x8 x9 Vd p' u UX,p'≠[]->aA U UX [(Tk,.list (ay u)),(Pl,.list (ay p'.reverse))]->Lw g (c8 ks.length F) ks.length row (k+1) at_ p' u->(D->GG g (c8 ks.length F) row rs (k+1) at_ p' u)->K .next (IX h ca Rw Pl at_ Tk x6 x7 x8 x9 Vd) UX)
  (r1:∀L UX Tk cw tk,row=zs (cw++[0])->Fo g [zS] cw tk->(D->tk=rs)->bF U UX->UX Tk=some (.list (ay tk))->tk.length<=200->K (.ret (.ref Tk)) L UX) (r2:∀L UX,¬D->bF U UX->K (.ret .none) L UX):
  an tab (CC (n+2)) (.cons (.ite (.all (.cons (.cmp .ge (.loc #[8,146,q1]) (.lit (.int 0) q2) q3) (.cons (.cmp .eq (.loc #[9,13,q4]) (.list .nil q5) q6) .nil)) q7) jb cI q8) .nil) (IX h ca Rw Pl at_ Tk x6 (some (.ref a)) (some (gv lo)) (some (.ref Rl)) Vd) UY K:=by
 let o {U3:aw} nc O:an tab (CC (n+2)) cI (IX h ca Rw Pl at_ Tk x6 (some (.ref a)) (some (gv lo)) (some (.ref Rl)) Vd) U3 (iF (CC (n+2)) .nil K):=
  OC (zS:=zS) G Z W HL S h3 R W0 zr hz ht (Rf w) hx J z hn N P nc O (λPl Tk x9 Vd p' u UX a b c d=>cy<|go _ _ _ _ _ _ _ p' u UX a b c d) λL UX a b=>D7<|r2 L UX a b
 cases lo with
 |none=>show fZ<|As<|iW<|pc (j:=-1) (ag rfl) am _ #[λc=>absurd c (dR rfl),λ_=>#[nf,λ_=>o (λ_ h=>(by show nS h)) O]]
 |some s'=>
  show fZ<|As<|iW<|pc (ag rfl) am _ #[λ_=>iW<|rD (l:=rl) (ag rfl) O O.hd λU3 v E2=>#[λc=>GB #[λ_=>?_,nt],λc=>#[nf,λ_=>o (λs2 _ e=>by rw[e]at c;cases c) v]],λc=>absurd (Ry s') (R1 c)];let e0:rl=[]:=TI.mp c;clear c o O;subst e0;show az (Classical.byContradiction λk=>nS (P λt e=>k #[t,e]).1.symm) ?_;clear P;ext t rfl;show ao (N t rfl) λl1 l2=>?_;let q:=l1.symm;let E:∀i,¬(c8 ks.length F).rd s t i:=λi hi=>n0 ((l2 i).mpr hi);let r:=ht t (Q4 hx);show fH J.pa λss cw σ Y ec=>?_;let zp:=Gt J.pl w;let H:s'<ks.length:=by
   show Ci (Bi W R (J.ps s (.head _))) λa0 ha0 r0 I _=>?_;rw[I]at q;show kD (r0.mv.to q) λ_ _ k' _ h2 _=>?_;show ai h2
  let T:decide (((at_+1:Nat):Int)=row.length)=decide (at_+1=row.length):=To.mpr R5;show cC (vj (eJ (j:=1) (ag rfl) am) (cR (l:=row) (ag rfl) (v.ext _ _ W0) (Gt zr (dR rfl)))) (λf=>?_) λf=>aU ?_
  .rw[T]at f;let f:=RH f;let t0:=(hz _ _ hx).mpr f;clear r E l2 l1 N;obtain rfl:t=0:=R5.mp t0;show aq (Lr W HL R.Y5 σ Y q) λS' e1 e2=>?_;rw[h0]at e1;replace e1:=Is e1;cases e1;show cB (ag rfl) (D7<|D7<|r1 _ _ Tk cw tk ?_ e2 (λd=>?_) v.ext (v.get 1 rfl) (Gt J.tl (Rf w)))
   .let:=ax hx;rw[f,RI,ec]at this;rw[this];unfold zs;rw[Rd];rfl
   show aq ((z d).next hx) λt' M k=>?_;obtain rfl:=R5.mp M;rcases k with m|m
   .show Ci m λ_ _ _ k _=>?_;clear m;show k f
   show ao m λh1 _=>?_;clear m;rw[q]at h1;show nS h1.symm
  rw[T]at f;let f:=R1 f;show gG<|cS<|au<|bv<|ah rfl<|bL<|aj<|ah rfl #[bk,λA hA=>?_];let Q:=v.new hA (.list [.int s']);show bI (Q.get 3 rfl) Q.hd (by rw[aS,RU];show aO (by rw[RG];show Gt (Rj ‹_›) (dR rfl))) λB hB=>aj<|eJ (i:=at_) (j:=1) (ag rfl) am _ #[aT,?_];let X:=(Q.new hB (.list (ay (s::p).reverse++[.int s']))).sub (.cons_cons _ (.cons _ (.cons _ (.cons_cons _ (Se _)))));let ee:ay (s::p).reverse++[V.int s']=ay (s'::s::p).reverse:=by rw[jL,<- Ta]
  rw[ee]at X ⊢;show bE<|cy (C:=CC (n+2))<|go B (at_+1) Tk _ _ _ _ (s'::s::p) tk _ (λh=>(by show nC h)) (X.perm (.swap ..)) #[#[ss++[t],cw++[t],.snoc σ q,?_,?_],?_,?_,λy hy=>(RB.mp hy).elim (λe=>e▸H) (J.ps y),Tr J.tl] λd=>?_
  .let:=Y.app (Fo.tm r .nil);rw[RD]at this;show this
  .rw[ax hx,ec];unfold zs;rw[Rd];rfl
  .let:=J.lt;show Sj this f
  .rw[Rq];show Rj J.pl
  show aq ((z d).next hx) λt' M k=>?_;obtain rfl:=R5.mp M;rcases k with m|m
  .show Ci m λs2 h1 _ _ k=>?_;clear m;rw[q]at h1;replace h1:=Is h1;cases h1;show k f
  show ao m λh1 _=>?_;clear m;rw[q]at h1;show nS h1.symm
theorem OB{Pl s:Nat}{p:TN}{D:Prop}{K:QF}(h0:g.rules[0]?=some (g.tc,[zS,0]))(w:k<200)(J:Lw g (c8 ks.length F) ks.length row k at_ (s::p) tk)(M:D->GG g (c8 ks.length F) row rs k at_ (s::p) tk)
  (O:aA U UY [(Tk,.list (ay tk)),(Pl,.list (ay (s::p).reverse))])
  (go:∀Pl at_ Tk x7 x8 x9 Vd p' I UX,p'≠[]->aA U UX [(Tk,.list (ay I)),(Pl,.list (ay p'.reverse))]->Lw g (c8 ks.length F) ks.length row (k+1) at_ p' I->(D->GG g (c8 ks.length F) row rs (k+1) at_ p' I)->K .next (IX h ca Rw Pl at_ Tk x6 x7 x8 x9 Vd) UX)
  (r1:∀L UX Tk cw tk,row=zs (cw++[0])->Fo g [zS] cw tk->(D->tk=rs)->bF U UX->UX Tk=some (.list (ay tk))->tk.length<=200->K (.ret (.ref Tk)) L UX) (r2:∀L UX,¬D->bF U UX->K (.ret .none) L UX):
  an tab (CC (n+2)) ja (IX h ca Rw Pl at_ Tk x6 x7 x8 x9 Vd) UY K:=by
 show az (show ∃x,row[at_]?=some x from#[_,Rg J.lt]) λx hx=>?_;let N:=J.ps s (.head _);show Ci (Bi W R N) λa X r hg hr=>?_;show ck R.rep.inst λga Vc P hS=>?_;show C6 r.cell λpr it ms rd We Vm=>?_;show N4 Vm λXs _ Q c2 c3 u=>?_;let YR:as.length<=100000:=R.rep.len▸Gt (sO S h3 R.rep.ok) (dR rfl);let H:row.length<=100000:=Gt zr (dR rfl);let σ:=Gt J.pl w;let eP {q:TN}:ay (s::q).reverse=(q.reverse++[s]).map λ(i:Nat)=>V.int i:=by rw[Ta];rfl
 let lp:p.reverse.length<100000:=by rw[RU];rw[Rq]at σ;show Gt ‹_› (dR rfl)
 let top {C:CT} {L:aQ} {x:Nm} {p1 p2 p3:Ps} h:Ev C L UY (.item (.loc x) (.neg 1 p1 p2) p3) (.int s):=Dn (l:=p.reverse) (ag h) (eP▸O.get 1 rfl) lp;let d {C:CT} {L:aQ} {y z:Nm} {p1:Ps} h1 Y:Ev C L UY (.item (.loc y) (.loc z) p1) (.int x):=aM (ag h1) (ag Y) (O.ext _ _ W0) H hx;show aZ (aM (aE (ag rfl) (P.ext O.ext) (xS rfl) rfl) (top rfl) (O.ext _ _ hS) YR X) ?_;let B:∀y∈(F s).Xn,∃m,br (F s).Vg y=some m:=λy hy=>by
  show aq (Re.mp (r.rp.mem_iff.mp hy)) ?_;ext e he rfl;show#[e.2,c0 r.X9.nd he]
 let A:=r.rp.nodup_iff.mpr r.X9.nd;let f:(F s).Xn.length<=100000:=by
  rw[r.rp.length_eq];unfold bK;rw[Lt];show Gt r.X9.len (Gt Z.rules (dR rfl))
 let j {L:aQ} {x:Nm} {p1:Ps} h:Ev (CC (n+2)) L UY (.attr (.loc x) 76 p1) (.ref rd):=aE (ag h) (Q.ext O.ext) (cA rfl) rfl;cases x with
 |negSucc m=>
  show aZ (v:=gv none) (Do (pc (d rfl rfl) am) (λc=>absurd c nf) λ_=>uC)<|aC<|bp<|aK<|j rfl _<|aI (O.ext _ _ u)<|ff (pr:=λ_=>false) f (O.ext _ _ u) (λ_=>dr (c:=false) (pc (d rfl rfl) am) nf) (ag rfl) λRl b=>?_;rw[show((F s).Xn.filter λ_=>false)=[] from Uw.mpr λ_ _ h=>(nF h)];show IW G Z W HL S h3 R W0 zr hz ht h0 w hx J M .nil (λt e=>(by cases e)) (λ_=>#[rfl,rfl]) (O.new b (.list (ay []))) go r1 r2
 |ofNat t=>
  let E:=ht t (Q4 hx);let T:t<=1000:=Gt (Rf E) (Gt S.tc (dR rfl));let ge:decide (0<=Int.ofNat t)=true:=SW (Ry t);show aZ (Do (pc (d rfl rfl) am) (λ_=>iz (ag rfl) (P.ext O.ext) #[rfl,rfl] rfl (be (top rfl) (bz (d rfl rfl))) (A1 W S h3 R O.ext N)) λc=>by rw[ge]at c;show nF c.symm)<|aC<|bp<|aK<|j rfl _<|aI (O.ext _ _ u)<|ff (pr:=λi=>CX (F s).Vg t i) f (O.ext _ _ u) (λ{y} hy=>?_) (ag rfl) λRl b=>?_
  .show az (B y hy) λm o=>?_;let e:CX (F s).Vg t y=(decide (0<=Int.ofNat t)&& m.testBit t):=by unfold CX;rw[o,ge];rfl
   rw[e];show dr (pc (d rfl rfl) am) λ_=>L5 (bH (g:=kI) qt (aE (ag rfl) (Q.ext O.ext) (cA rfl) rfl) (ag rfl) (O.ext _ _ c3) o) (d rfl rfl) T
  show IW G Z W HL S h3 R W0 zr hz ht h0 w hx J M (A.sublist Tz) (λt' e=>by
   obtain rfl:t=t':=R5.mp e;show#[rfl,λi=>?_];erw[hr,Sa];show#[(·.2),λk=>#[?_,k]];show aq (Gw.mp k) λm o _=>?_;show r.rp.mem_iff.mpr (Rn (cq o))) (λk=>absurd rfl (k t)) (O.new b _) go r1 r2
theorem sp{D:Prop}{Q:QV}(h0:g.rules[0]?=some (g.tc,[zS,0]))(r:0<row.length)(v:D->∃w,row=zs (w++[0])/\Fo g [zS] w rs/\w.length+rs.length<=150)
  (r1:∀UX Tk cw tk,row=zs (cw++[0])->Fo g [zS] cw tk->(D->tk=rs)->bF U UX->UX Tk=some (.list (ay tk))->tk.length<=200->Q (.ref Tk) UX) (r2:∀UX,¬D->bF U UX->Q .none UX):CC (n+3) 651 [.ref h.a,.ref ca,.ref Rw] U Q:=by
 change an tab (CC (n+2)) i9 [some (.ref h.a),some (.ref ca),some (.ref Rw),none,none,none,none,none,none,none,none,none,none] U (aW Q);show gG<|cS<|au<|bL<|aj<|bi #[bk,λPl t=>au<|bi<|aj<|bT λTk hT=>#[dD,?_]];let O:=((aA.nil U).new t (.list (ay [0]))).new hT (.list (ay []));show aR<|su am (dR rfl)<|c7 (a0:=((none,none),none,none,none)) (a1:=(Pl,Tk)) (a2:=0) (a3:=[0]) (λ_ x c at_ _ _=>IX h ca Rw c.1 at_ c.2 x.1.1 x.1.2 x.2.1 x.2.2.1 x.2.2.2) (λk _ c at_ p tk UX=>aA U UX [(c.2,.list (ay tk)),(c.1,.list (ay p.reverse))]/\p≠[]/\Lw g (c8 ks.length F) ks.length row k at_ p tk/\(D->GG g (c8 ks.length F) row rs k at_ p tk)) #[O,(λh=>(nC h)),#[#[[],[],.base,.nil,rfl],r,Rm _,λs q=>by rw[Q6.mp q];show ai R.rep.zero,Rm _],λd=>?_] (λ_=>trivial) (λ{x c at_ p tk U3} j=>cB am (r2 U3 (λd=>?_) j.1.ext)) λ{k y x c at_ p tk U3 K} hx j go i=>?_
 .show bS (v d) λw e fo z=>?_;show kD (Cq W HL R.Y5 h0 fo) λs p s' st h1 A=>#[w++[0],_,s,p,s',e.symm,st,h1,A,Gt (RW (S9 _)) z]
 .show OM (j.2.2.2 d) λu m s p' s' _ _ B=>?_;show bP B λ_ _ z=>?_;rw[Lt,RN]at z;show absurd (Gt (Ri 200 _) z) (dR rfl)
 show ao (rT hx) ?_;clear hx;ext lt rfl;show t9 j λO o J l=>?_;clear j;cases p with
 |nil=>show absurd rfl o
 |cons s p=>show cK rfl<|OB G Z W HL S h3 R W0 zr hz ht h0 lt J l O (λPl at_ Tk x7 x8 x9 Vd p' C UX a b c d=>go (b0:=((_,_),_,_,_)) (b1:=(Pl,Tk)) #[b,a,c,d]) (λL UX Tk cw tk a b c d e f=>i (r1 UX Tk cw tk a b c d e f)) λL UX a b=>i (r2 UX a b)
end
variable{X b e0 epW wdA:Nat}{cw l1 l2 w wd:TN}{l:TV}{nm:TR}{ps:TQ}{tb:Tb}{wm:Wd}{ws:TZ}
theorem DR(nz:∀x∈ws,x≠0):∀i x,(ws++[(0:Int)])[i]?=some x->(x=0↔i+1=(ws++[(0:Int)]).length):=λi x hx=>by
 rw[Q9,RG];by_cases c:i<ws.length
 .rw[Ru c]at hx;show#[λe=>absurd e (nz x (Q4 hx)),λe=>absurd c (Sn.mpr (RW (Tl e).symm))]
 let c:=R6 c;rw[Ro c]at hx;cases e:i - ws.length with
 |zero=>rw[e]at hx;cases hx;show#[λ_=>Rs Nat.succ (SM (UV e) c),λ_=>rfl]
 |succ k=>rw[e]at hx;cases hx
noncomputable def nz(g:Gm)(k:Nat):Int:=if k<NN g then(k:Int) else -1
structure NI(g:Gm)(wd:TN):Prop where
 len:wd.length<=3
 ok:∀k∈wd,(3<=k/\k<g.tc)\/NN g<=k
theorem EG(h:k<g.tc):nz g k=(k:Int):=RO (by unfold NN;show Nat.lt_of_lt_of_le h (Nat.le_trans (Nat.le_succ _) (Nat.le_add_right _ _)))
theorem EF(h:∀k∈w,k<g.tc):w.map (nz g)=zs w:=Ty λk a=>EG (h k a)
theorem LQ(h:zs w=wd.map (nz g)):w=wd:=by
  induction w generalizing wd with
  |nil=>induction wd with|nil=>rfl|cons _ _=>cases h
  |cons a w c=>
   induction wd with
   |nil=>cases h
   |cons b wd=>
    show ao (Te h) λh1 d=>?_;let e:a=b:=by
      change a=nz g b at h1;unfold nz at h1;split at h1<;>lia
    rw[e,c d]
theorem u9(a b:TN):zs (a++b)=zs a++zs b:=Rd
theorem Fo.lt{ss:TN}(h:Fo g ss w rs):∀t∈w,t<g.tc:=by
 induction h with
 |nil=>show λ_ h=>n0 h
 |tm h _ a=>show λt ht=>(RB.mp ht).elim (λe=>e▸h) (a t)
 |nt _ _ _ b c=>show λt ht=>(Ra.mp ht).elim (b t) (c t)
theorem No(W:WF g)(h0:g.rules[0]?=some (g.tc,[zS,0])){us:TN}(d:Vq g [g.tc] cw us):∃w c rs,cw=w++[0]/\us=0::c/\Fo g [zS] w rs/\rs.Perm c:=by
 show kD (d.inv_nt W (Rm _)) ?_;ext i r c hr d' rfl;induction i with
 |succ i=>show absurd (W.left _ _ _ hr).1 (Si _)
 |zero=>
  rw[h0]at hr;replace hr:=Is hr;cases hr;show aq d'.fo λVV f p=>?_;show gX (Fo.cut (a:=[zS]) (b:=[0]) f) ?_;clear f d' d;ext w1 w2 r1 r2 rfl rfl f1 f2;let z0:0<g.tc:=Rc (dR rfl) W.pos;cases f2 with
  |tm _ f2=>cases f2;rw[RD]at p;show#[w1,c,r1,rfl,rfl,f1,p]
  |nt hr _ _=>show absurd (W.Vp (aF hr)).1 (UJ.mpr z0)
theorem Pv(W:WF g)(h0:g.rules[0]?=some (g.tc,[zS,0]))(d:Vq g [zS] w rs):Vq g [g.tc] (w++[0]) (0::rs):=by let:=Vq.nt h0 ((d.app (Vq.tm (Rc (dR rfl) W.pos) .nil)));rw[RD]at this;show this
theorem KD:Ok g [X]:=λb Y c t e _ f=>by
 let e2:c=[]:=by
  cases b with
  |nil=>show(Te e).2.symm
  |cons y b=>cases b<;>cases e
 clear e;subst e2;show f.none.elim
theorem BP{a b:TN}(p:a.Perm b)(h1:l1.Perm a)(e:l2.Perm b)(d:l1.Pairwise (·<=·))(c:l2.Pairwise (·<=·)):l1=l2:=
 List.Perm.eq_of_pairwise (λ_ _ _ _ h k=>SM h k) d c ((h1.trans p).trans e.symm)
theorem uP(l:TV):V.Vw l l=true:=by unfold V.Vw;show @decide_eq_true _ (Classical.propDecidable _) rfl
theorem Nj{m:TV}:V.Vw l m=true↔l=m:=by unfold V.Vw;show @decide_eq_true_iff _ (Classical.propDecidable _)
theorem NG{c:Nat}{l m:TN}{B:Bool->Prop}(h1:U a=some (.list (ay l)))(d:U c=some (.list (ay m)))(q:B (V.Vw (ay l) (ay m))):jG U B .eq (.ref a) (.ref c):=by
 let al:∀l,FK.i.all (ay l):=λl v b=>by
  show aq (Re.mp b) ?_;ext y _ rfl;show#[_,rfl]
 show C8 h1 (gL d #[.inr (.inr #[.i,al l,al m]),q])
section
variable{h:Gh}{T Fo:Nat}(c:Cd nm e0)(G:bh U g h)(Z:Sz g h)(W:WF g)(HL:mZ g)(S:Sm g)(h3:∀{i l:Nat}{r:TN},g.rules[i]?=some (l,r)->r.length<=3)(WC:∀k,k<NN g->h.nms[k]?=some (nm k))
include c G Z WC
theorem Cj(E:bF U UY)(k:Nat):Pf (CC (n+1)) UY 131 [.ref h.a,nV nm k] (.int (nz g k)):=λQ q=>by
 let f:h.nms.length=NN g:=Z.nms;let o:h.nms.length<=100000:=f▸Gt Z.syms (dR rfl);let mem:nm k∈h.nms↔k<NN g:=by
  constructor
  .show λd=>az (RL.mp d) λj m=>?_;let l:=f▸ai m;let:=(WC j l).symm.trans m;show c.inj (Is this)▸l
  show λb=>Q4 (WC k b)
 change an tab (CC n) fn [some (.ref h.a),some (nV nm k)] UY (aW Q);show cB (Do (Ar Da Fy (ag rfl) (gV G E rfl rfl rfl) (E _ _ G.nm)) (λi=>?_) λi=>?_) q
 .let b:=mem.mp (RH i);let p:h.nms.idxOf (nm k)=k:=by
   let d:=mem.mpr b;let lt:=List.idxOf_lt_length_of_mem d;let e:=List.getElem_idxOf lt;let:=(WC _ (f▸lt)).symm.trans (Rg lt);rw[e]at this;show c.inj (Is this)
  unfold nz;rw[RO b,show k=((h.nms.idxOf (nm k):Nat):Int) from by rw[p]];show Am Da Fy (gV G E rfl rfl rfl) (ag rfl) (E _ _ G.nm) o (mem.mpr b)
 unfold nz;rw[RX λk=>R1 i (mem.mpr k)];show uC
end
end
section
variable{F:Nat->SD}{L:aQ}{Nu Us Wo a b ca e0 epW n zS:Nat}{as wd:TN}{g:Gm}{ks:Ks}{nm:TR}{ps:TQ}{tb:Tb}{wm:Wd}{x y:E}{α:Type}{U UY:aw}
theorem K0{k:Nat}(h:3<=k):(k:Int)≠0:=λe=>absurd ((R5 (n:=0)).mp e) (Sy (Rc (dR rfl) h))
theorem Kz{o:Option α}{v:α}{Q:α->Prop}(h:o=some v)(k:Q v):bA o Q:=by rw[h];show k
noncomputable def NQ(h:Gh)(ca T Wo:Nat)(w x5 x6 x7 x8:TO):aQ:=[some (.ref h.a),some (.ref ca),some (.ref T),some (.ref Wo),w,x5,x6,x7,x8,none,none,none,none]
theorem Aq{C:CT}{a b:Bool}(hx:Ev C L U x (.bool a))(hy:Ev C L U y (.bool b)):Tv C L U (.cmp .ne x y p) (a != b):=λQ q=>hx _ (hy _ q)
theorem JV{C:CT}(hx:Ev C L U x (.ref a)):Tv C L U (.cmp .VC x (.lit .none p) q) true:=λQ k=>hx _ k
theorem JX{C:CT}(hx:Ev C L U x .none):Tv C L U (.cmp .VC x (.lit .none p) q) false:=λQ k=>hx _ k
section
variable{h:Gh}{T:Nat}(c:Cd nm e0)(G:bh U g h)(Z:Sz g h)(W:WF g)(HL:mZ g)(S:Sm g)(h3:∀{i l:Nat}{r:TN},g.rules[i]?=some (l,r)->r.length<=3)(WC:∀k,k<NN g->h.nms[k]?=some (nm k))(R:tX U g ca as ks F)(RT:jj U T tb)(I:PI tb ps b)(P:PO g g.rules.length ps)(h0:g.rules[0]?=some (g.tc,[zS,0]))(hW:U Wo=some (.dict (dK (kW nm) .bool wm) epW))(zW:wm.length<=40)(mW:∀w,w∈wm.map (·.1)↔w.length<=3/\∃rs,Vq g [zS] w rs)
include c G Z W HL S h3 WC R RT I P h0 hW zW mW
omit G Z HL S h3 WC R RT I P h0 hW zW c W in
theorem w6{w:TN}:(br wm w).isSome=true↔w.length<=3/\∃rs,Vq g [zS] w rs:=(mW w).symm.trans (by
 constructor
 .ext hm;cases e:br wm w with
  |some v=>rfl
  |none=>
   show aq (Re.mp hm) λx hx c=>?_;show absurd c (N7.mp e x hx)
 show λb=>az (Sh.mp b) λv a=>?_;show Rn (cq a)) |>.symm
theorem JJ{us:TN}{Q:QF}(f:NI g wd)(E:bF U UY)(Z0:UY Nu=some (.list ((wd.map (nz g)).map .int)))(l:UY Us=some (.list (ay us)))(d:Vq g [g.tc] (wd++[0]) us)(q:∀L UX,bF U UX->Q (.ret (.bool true)) L UX):
  an tab (CC (n+3)) (.cons (.VF #[8,145,p1] (.call 651 149 (.cons (.loc #[0,40,p2]) (.cons (.loc #[1,96,p3]) (.cons (.bin .Add (.loc #[5,89,p4]) (.list (.cons (.lit (.int 0) p5) .nil) p6) p7) .nil))) p8 p9) p10) (.cons (.ite (.any (.cons (.cmp .ne (.loc #[6,147,p11]) (.test (.cmp .isin (.loc #[4,67,p12]) (.loc #[3,150,J]) p14)) p15) (.cons (.cmp .ne (.test (.cmp .VC (.loc #[8,145,p16]) (.lit .none p17) p18)) (.loc #[6,147,p19]) p20) .nil)) p21) cQ .nil p22) cP)) (NQ h ca T Wo (some (kW nm wd)) (some (.ref Nu)) (some (.bool true)) (some (.ref Us)) none) UY Q:=by
 show AU (No W h0 d) λw WW rs ec Y fo D=>?_;obtain rfl:wd=w:=List.append_cancel_right ec;subst Y;let lw:=fo.lt;let u:(0::WW).length<=60:=by
  let:=d.count W HL (σ:=[]) KD .nil .nil λ_ h=>n0 h;let z2:=f.len;let z3:=S.nn;rw[Q9,RG,Tm]at this;let:(g.nn+1)*(wd.length+1+1)<=4*5:=UP (by show Gt (Rj ‹_›) (dR rfl)) (Rv z2 2);show Gt ‹_› (Gt this (dR rfl))
 let i:rs.length<=60:=by let:=D.length_eq;rw[Rq]at u;rw[this];show Rf u
 show aq fo.der λVV dw _=>?_;let H:wd.map (nz g)++[0]=zs (wd++[0]):=by rw[EF lw,u9];rfl
 let zr:(zs (wd++[0])).length<=100:=by unfold zs;rw[List.length_map,List.length_append];let:=f.len;rw[List.length_singleton];show Nat.le_trans (Nat.succ_le_succ ‹_›) (dR rfl)
 show aC<|aG<|au<|ah rfl<|au<|ah rfl<|aj<|bv<|ah rfl<|bL<|aj<|bi #[bk,λA X=>?_];let z:=(aA.nil UY).new X (.list [.int 0]);show bI (z.ext _ _ Z0) z.hd (by rw[Lt,Lt,RG];let:=f.len;show aO (by show Gt (Rj ‹_›) (dR rfl))) λRw hR=>?_;let y:=z.new hR (.list ((wd.map (nz g)).map .int++[.int 0]));let B:=E.trans y.ext;let W0:((wd.map (nz g)).map V.int++[.int 0])=(zs (wd++[0])).map .int:=by rw[<- H,Rd];rfl
 show sp (n:=n) (zS:=zS) (rs:=rs) (G.ext B) Z W HL S h3 (R.ext B) (W0▸y.hd) zr (H▸DR (λx hx=>?_)) (λt ht=>?_) h0 (by unfold zs;rw[List.length_map,List.length_append];show Nat.succ_pos _) (λ_=>#[wd,rfl,fo,by let:=f.len;show Nat.le_trans (Nat.add_le_add ‹_› ‹_›) (dR rfl)]) (λI Tk cw tk _ _ s N m O=>?_) λ_ nd _=>absurd trivial nd
 .show aq (Re.mp hx) ?_;ext k a rfl;rcases f.ok k a with c|c
  .rw[EG c.2];show K0 c.1
  unfold nz;rw[if_neg (Nat.not_lt.mpr c)];decide
 .show aq (Re.mp ht) λk a e=>?_;rw[<- R5.mp e];rcases Ra.mp a with a|a
  .show lw k a
  rw[Q6.mp a];show Rc (dR rfl) W.pos
 obtain rfl:=s trivial;let M:=B.trans N;show cC (uD (by
  let:=Aq (p:=p15) (ag (C:=CC (n+3)) (L:=NQ h ca T Wo (some (kW nm wd)) (some (.ref Nu)) (some (.bool true)) (some (.ref Us)) (some (.ref Tk))) (U:=I) (x:=#[6,147,p11]) rfl) (vd (wC (d:=wm) (k:=wd) (p:=p14) c.emW (ag (x:=#[4,67,p12]) rfl) (ag (x:=#[3,150,J]) rfl) (M _ _ hW)));rw[(w6 (g:=g) (zS:=zS) mW).mpr #[f.len,VV,dw]]at this;show this) λ_=>Aq (b:=true) (vd (JV (ag rfl))) (ag rfl)) nf λ_=>aU<|cC (lV (ag rfl)) (λ_=>?_) nt
 let j:=(y.ext.trans N) _ _ l;show bB<|jS<|d7<|aP<|ah rfl<|iG (gK j) (Q5 u (dR rfl)) λS1 l1 ZZ p1 P=>?_;let O5:=(aA.nil I).new ZZ (.list (ay l1));show aP<|bv<|ah rfl<|bL<|aj<|bi #[bk,λA3 r=>?_];let v:=O5.new r (.list [.int 0]);show bI (v.ext _ _ m) v.hd (by rw[aS,RG];show aO (by show Gt (Rj ‹_›) (dR rfl))) λB3 o=>?_;let K:=v.new o (.list (ay (tk++[0])));rw[show ay tk++[V.int 0]=ay (tk++[0]) from jL tk 0];show iG (gK K.hd) (by rw[Q9,RG];show Q5 (Rj i) (dR rfl)) λS2 l2 ZY p2 F=>?_;let O8:=K.new ZY (.list (ay l2));let el:l1=l2:=BP ((D.symm.cons 0).trans (S8 (l₁:=[0]))) p1 p2 P F;clear F p2;subst el;show NG (O8.get 3 rfl) O8.hd ?_;rw[uP];show q _ _ (M.trans O8.ext)
theorem LR{Q:QF}(F:NI g wd)(E:bF U UY)(Z0:UY Nu=some (.list ((wd.map (nz g)).map .int)))(ha:a<=wd.length)(dd:GJ g (wd.map (nz g)++[0]) a)(q:∀L UX,bF U UX->Q (.ret (.bool true)) L UX):
  an tab (CC (n+3)) (.cons (.VF #[8,145,p1] (.call 651 149 (.cons (.loc #[0,40,p2]) (.cons (.loc #[1,96,p3]) (.cons (.bin .Add (.loc #[5,89,p4]) (.list (.cons (.lit (.int 0) p5) .nil) p6) p7) .nil))) p8 p9) p10) (.cons (.ite (.any (.cons (.cmp .ne (.loc #[6,147,p11]) (.test (.cmp .isin (.loc #[4,67,p12]) (.loc #[3,150,J]) p14)) p15) (.cons (.cmp .ne (.test (.cmp .VC (.loc #[8,145,p16]) (.lit .none p17) p18)) (.loc #[6,147,p19]) p20) .nil)) p21) cQ .nil p22) cP)) (NQ h ca T Wo (some (kW nm wd)) (some (.ref Nu)) (some (.bool false)) (some (.int a)) none) UY Q:=by
 let u:=F.len;let z0:0<g.tc:=Rc (dR rfl) W.pos;let zr:(wd.map (nz g)++[0]).length<=100:=by rw[Q9,Lt,RG];show Gt (Rj ‹_›) (dR rfl)
 let no:∀w rs,Vq g [zS] w rs->(zs (w++[0])).take (a+1)≠(wd.map (nz g)++[0]).take (a+1):=λw rs d=>dd _ _ (Pv W h0 d);show aC<|aG<|au<|ah rfl<|au<|ah rfl<|aj<|bv<|ah rfl<|bL<|aj<|bi #[bk,λA hA=>?_];let O:=(aA.nil UY).new hA (.list [.int 0]);show bI (O.ext _ _ Z0) O.hd (by rw[Lt,Lt,RG];show aO (by show Gt (Rj ‹_›) (dR rfl))) λRw hR=>?_;let O2:=O.new hR (.list ((wd.map (nz g)).map .int++[.int 0]));let P:=E.trans O2.ext;let W0:((wd.map (nz g)).map V.int++[.int 0])=(wd.map (nz g)++[0]).map .int:=by rw[Rd];rfl
 show sp (n:=n) (zS:=zS) (rs:=[]) (D:=False) (G.ext P) Z W HL S h3 (R.ext P) (W0▸O2.hd) zr (DR (λx hx=>?_)) (λt ht=>?_) h0 (by rw[Q9];show Nat.succ_pos _) (λd=>d.elim) (λN Tk cw tk er fo _ _ _ _=>?_) λN _ E3=>?_
 .show aq (Re.mp hx) ?_;ext k K rfl;rcases F.ok k K with c|c
  .rw[EG c.2];show K0 c.1
  unfold nz;rw[if_neg (Nat.not_lt.mpr c)];decide
 .rcases Ra.mp ht with ht|ht
  .show aq (Re.mp ht) λk K e=>?_;rcases F.ok k K with c|c
   .rw[EG c.2]at e;rw[<- R5.mp e];show c.2
   unfold nz at e;rw[if_neg (Nat.not_lt.mpr c)]at e;show absurd (Int.natCast_nonneg t) (by rw[<- e];decide)
  rw[Q6]at ht;rw[(R5 (n:=0)).mp ht];show z0
 .show aq fo.der λVV d _=>absurd (Rs (List.take (a+1)) er.symm) (no _ _ d)
 let r:=P.trans E3;let z:(br wm wd).isSome=false:=by
  cases e:(br wm wd).isSome with
  |false=>rfl
  |true=>
   show ao ((w6 (g:=g) (zS:=zS) mW).mp e) λ_ X=>az X λrs d=>?_;clear X;show aq d.fo λ_ f _=>absurd ?_ (no wd rs d);rw[u9,<- EF f.lt];rfl
 show cC (uD (b:=false) (c:=false) (by
  let:=Aq (p:=p15) (ag (C:=CC (n+3)) (L:=NQ h ca T Wo (some (kW nm wd)) (some (.ref Nu)) (some (.bool false)) (some (.int a)) (some .none)) (U:=N) (x:=#[6,147,p11]) rfl) (vd (wC (d:=wm) (g:=V.bool) (k:=wd) (p:=p14) c.emW (ag (x:=#[4,67,p12]) rfl) (ag (x:=#[3,150,J]) rfl) (r _ _ hW)));rw[z]at this;show this) λ_=>Aq (a:=false) (b:=false) (vd (JX (ag rfl))) (ag rfl)) nf λ_=>aU<|cC (lV (ag rfl)) nf λ_=>aU ?_
 let wl {w:TN} (h:w.length<=3):(w.map (nV nm)).length<=bu:=aH (aO (by show Gt ‹_› (dR rfl)));let lk {C:CT} {L:aQ} {U:aw} {x:Nm} {p q:Ps} {w:TN} (hx:bJ L x.i=some (kW nm w)) (h:w.length<=3):Ev C L U (.prim .len (.cons (.loc x) .nil) p q) (.int w.length):=by
  let:=r7 (C:=C) (U:=U) (p:=p) (q:=q) (ag hx) (wl h);rw[Lt]at this;show this
 show bB<|jS<|As<|iW<|Ot (ag rfl) (lk rfl u) _ #[λ_=>iW<|d7<|bp<|aK<|ah rfl<|l7 (r _ _ hW)<|om wm▸ff (f:=kW nm) (pr:=λw=>decide (a<wd.length)&& V.Vw ((w.map (nV nm)).take (a+1)) ((wd.map (nV nm)).take (a+1))) (by rw[Lt];show Gt ‹_› (dR rfl)) (r _ _ hW) (λ{w} I=>dr ?_ λ_=>Dy (φ:=.s) (Di (ag rfl) (eJ (i:=a) (j:=1) (ag rfl) am) (wl ((mW w).mp I).1)) (Di (ag rfl) (eJ (i:=a) (j:=1) (ag rfl) am) (wl u)) (λv H=>wo nm w v (TK H)) λv H=>wo nm wd v (TK H)) (ag rfl) λA5 M=>?_,λm=>absurd (SU.mpr ha) (R1 m)]
 .let:=iE (C:=CC (n+3)) (p:=1) (L:=[]) (U:=U) (x:=.lit (.int a) 0) (y:=.lit (.int wd.length) 0) am am;rw[show decide (a<wd.length)=decide (a<(wd.length:Int)) from To.mpr Sd.symm];show iE (ag rfl) (lk rfl u)
 let e:((wm.map (·.1)).filter λw=>decide (a<wd.length)&& V.Vw ((w.map (nV nm)).take (a+1)) ((wd.map (nV nm)).take (a+1)))=[]:=Uw.mpr λw I hc=>by
  show ao (R8.mp hc) λm o=>?_;let m:=RH m;let o:=Nj.mp o;rw[<- List.map_take,<- List.map_take]at o;let e1:=(UK λx y h=>c.em.inj h).mp o;show ao ((mW w).mp I) λ_ Y=>az Y λrs d=>?_;clear Y;show aq d.fo λ_ f _=>?_;let lw:a+1<=w.length:=by
   let:=Rs List.length e1;rw[R7,R7]at this;rw[Uc m]at this;show Gt (RW this.symm) (Um _ _)
  show no w rs d ?_;rw[u9,Uu (by unfold zs;rw[List.length_map];show lw),List.take_append_of_le_length (by rw[List.length_map];show m),<- EF f.lt,<- List.map_take,<- List.map_take,e1]
 rw[e];let O5:=(aA.nil N).new M (.list []);show bT λB σ=>kJ (l:=[]) (cX (aB ..) σ) (aB ..) ?_;rw[cG];show#[λ_=>GB<|q _ _ (r.trans (O5.new σ _).ext),nt]
theorem t6{Q:QV}(b:NI g wd)(q:∀UX,bF U UX->Q (.bool true) UX):CC (n+4) 656 [.ref h.a,.ref ca,.ref T,.ref Wo,kW nm wd] U Q:=by
 let p:=b.len;let j:∀x∈wd.map (nz g),x≠0:=λx hx=>by
  show aq (Re.mp hx) ?_;ext k r rfl;rcases b.ok k r with c|c
  .rw[EG c.2];show K0 c.1
  unfold nz;rw[if_neg (Nat.not_lt.mpr c)];decide
 change an tab (CC (n+3)) fh [some (.ref h.a),some (.ref ca),some (.ref T),some (.ref Wo),some (kW nm wd),none,none,none,none,none,none,none,none] U (aW Q);show aC<|bp<|aK<|ah rfl<|jF<|Bl (Gt p (dR rfl)) trivial (λ{k} _=>iz (ag rfl) G.inst #[rfl,rfl] rfl (bz (ag rfl)) (Cj c G Z WC (.refl U) k)) λNu s=>?_;let f:=(aA.nil U).new s (.list ((wd.map (nz g)).map .int));let i:=f.ext;show gG<|aG<|au<|ah rfl<|au<|ah rfl<|aj<|ah rfl<|Cs (G.ext i) Z W HL (RT.ext i) I P f.hd (by rw[Lt];show Gt ‹_› (dR rfl)) (Gt S.nn (dR rfl)) j (λUs U3 us cw ec d _ l=>?_) λU3 a m o dd=>?_
 .let e:cw=wd++[0]:=by
   show AU (No W h0 d) ?_;ext w t rs rfl _ fo _;rw[u9]at ec;let:=(List.append_inj_left' ec rfl);rw[LQ this]
  clear ec;subst e;show Kz rfl<|JJ c G Z W HL S h3 WC R RT I P h0 hW zW mW b (i.trans l.ext) (l.ext _ _ f.hd) l.hd d λL UX E=>q UX E
 rw[Lt]at m;show Kz rfl<|LR c G Z W HL S h3 WC R RT I P h0 hW zW mW b (i.trans o) (o _ _ f.hd) m dd λL UX E=>q UX E
end
variable{j k t:Nat}{lf:TS}{x:Str}
theorem K3{l:TS}(sh:∀s∈l,s.cps.size<100)(nd:l.Nodup)(h:(l[j]?).getD (m6 j)=(l[k]?).getD (m6 k)):j=k:=by
 let d:∀k,(m6 k).cps.size=100+k:=λk=>by unfold m6;simp
 let GS:∀{j k:Nat}{s:Str},l[k]?=some s->m6 j≠s:=λ{j k s} f e=>by
  let a:=sh s (Q4 f);rw[<- e,d]at a;show absurd a (Sn.mpr (Ri _ _))
 cases c:l[j]? with
 |none=>cases b:l[k]? with
  |none=>
   rw[c,b]at h;let:=Rs (λs:Str=>s.cps.size) h;simp only[Option.getD_none,d]at this;show Uk this
  |some s=>rw[c,b]at h;show absurd h (GS b)
 |some r=>cases b:l[k]? with
  |none=>rw[c,b]at h;show absurd h.symm (GS c)
  |some s=>
   rw[c,b]at h;show cF nd c (b.trans (Rs some h.symm))
noncomputable def LE(lf ts:TS):List Str:=da lf ts++(("":Str)::fV.filter λx=>!decide (x∈ts))
noncomputable def wX(lf ts:TS)(k:Nat):Str:=((LE lf ts)[k]?).getD (m6 k)
theorem Mg:∀x∈gW++fV++fJ++[("$accept":Str),""],x.cps.size<100:=by decide +kernel
theorem Ky:∀x∈gW,x≠("":Str):=by decide +kernel
theorem Ls:("$accept":Str)≠"":=by decide +kernel
theorem PN:fV.Nodup:=by decide +kernel
theorem Qz:gW[0]?=some ("$end":Str):=rfl
section
variable{ps:yd}{ts:TS}(D:Dr ps)(K:Pg ps lf ts)
include D K
theorem Pg.mem_nms(h:x∈da lf ts):x∈gW\/x∈ts\/x="$accept"\/x∈lf:=by
 rcases Ra.mp h with h|h
 .show(Ra.mp h).imp id .inl
 show .inr (.inr (RB.mp h))
theorem Pg.a0j:(LE lf ts).Nodup:=by
 show R3.mpr #[K.nd D,R9.mpr #[λh=>(y9 _ (Sa.mp h).1).2.2 rfl,PN.sublist Tz],λa f b c e=>?_];subst e;rcases RB.mp c with rfl|c
 .rcases K.mem_nms D f with h|h|h|h
  .show Ky _ h rfl
  .show(y9 _ (K.ta _ h)).2.2 rfl
  .show Ls h.symm
  show(GS _ (K.ls D h)).2.2.2 rfl
 show ao (Sa.mp c) λh1 d=>?_;let d:=R1 ((SA _).mp d);rcases K.mem_nms D f with h|h|h|h
 .show(y9 a h1).1 h
 .show d h
 .show(y9 a h1).2.1 h
 show(GS a (K.ls D h)).1 h1
theorem Pg.cd:Cd (wX lf ts) (da lf ts).length:=#[λh=>K3 (λs a=>Mg s (by
 let a:=a;erw[Ra,Ra,Ra];rcases Ra.mp a with a|a
 .rcases K.mem_nms D a with h|h|h|h
  .show .inl (.inl (.inl h))
  .show .inl (.inl (.inr (K.ta _ h)))
  .show .inr (h▸.head _)
  show .inl (.inr (K.ls D h))
 .rcases RB.mp a with h|h
  .show .inr (h▸.tail _ (.head _))
  show .inl (.inl (.inr (Sa.mp h).1)))) (K.a0j D) h,by
 unfold wX LE;rw[Ro (Rm _),SP];rfl]
theorem Pg.YM(h:(LE lf ts)[k]?=some x):wX lf ts k=x:=by unfold wX;rw[h];rfl
theorem Pg.Wx(h:(da lf ts)[k]?=some x):wX lf ts k=x:=K.YM D (by unfold LE;rw[List.getElem?_append_left (ai h)];show h)
theorem Pg.num(h:x∈da lf ts):wX lf ts (eF lf ts x)=x:=by show K.Wx D ?_;let lt:=List.idxOf_lt_length_of_mem h;unfold eF;rw[Rg lt,List.getElem_idxOf lt]
theorem Pg.pairs:ps.map pV=((gF ps lf ts).rules.drop 1).map (pN (wX lf ts)):=by change ps.map pV=(ps.map _).map _;rw[Su];show Ty λe he=>?_;change pV e=V.tup [nV _ (eF lf ts e.1),.tup ((e.2.map (eF lf ts)).map (nV _))];rw[Su];unfold pV nV;rw[K.num D (K.Zu D (.inl ((K.lm e.1).mpr #[e.2,he])))];congr 3;congr 1;show Ty λx hx=>?_;change V.str x=V.str (wX lf ts (eF lf ts x));rw[K.num D (K.Zu D (K.all e he x hx))]
theorem Pg.nmN{s:Nat}(h:d6 (gF ps lf ts) s):wX lf ts s∈fJ:=by let h1:3+ts.length<s:=h.1;let a:=h.2;show az (show ∃x,lf[s - (3+ts.length+1)]?=some x from#[_,Rg (Nat.sub_lt_left_of_lt_add h1 (by rw[Nat.succ_add];show Tq a))]) λx hx=>?_;let:=AV (ts:=ts) hx;rw[Uj h1]at this;rw[K.Wx D this];show K.ls D (Q4 hx)
theorem Pg.nmT(h3:3<=t)(h:t<(gF ps lf ts).tc):wX lf ts t∉fJ:=by let h:=h;show az (show ∃x,ts[t - 3]?=some x from#[_,Rg (Nat.sub_lt_left_of_lt_add h3 h)]) λx hx=>?_;let:=EJ (lf:=lf) hx;rw[Uj h3]at this;rw[K.Wx D this];show λk=>(GS x k).1 (K.ta x (Q4 hx))
theorem Pg.code(h:x∈Mine.Internal.fV):∃k,wX lf ts k=x/\((3<=k/\k<(gF ps lf ts).tc)\/NN (gF ps lf ts)<=k):=by
 by_cases c:x∈ts
 .show az (RL.mp c) λj a=>?_;let:=ai a;show#[3+j,K.Wx D (EJ a),.inl #[Ri ..,by change 3+j<3+ts.length;show S6 this 3]]
 let hm:x∈Mine.Internal.fV.filter λx=>!decide (x∈ts):=Sa.mpr #[h,by rw[SC c];rfl];show az (RL.mp hm) λj a=>#[(da lf ts).length+(j+1),K.YM D ?_,.inr ?_]
 .unfold LE;rw[Ro (Ri ..),SX];show a
 rw[n6];change 3+ts.length+1+lf.length<=_;show Ri _ _
theorem Pg.nm0:wX lf ts 0=("$end":Str):=K.Wx D rfl
theorem Pg.codes(l:TS)(h:∀x∈l,x∈Mine.Internal.fV):∃w:List Nat,l.map V.str=w.map (nV (wX lf ts))/\w.length=l.length/\∀k∈w,(3<=k/\k<(gF ps lf ts).tc)\/NN (gF ps lf ts)<=k
 := by
  induction l with
  |nil=>show#[[],rfl,rfl,λ_ h=>n0 h]
  |cons x l a=>
    show aq (K.code D (h x (.head _))) λk e c=>?_;show bS (a λy hy=>h y (.tail _ hy)) λw e2 e3 b=>#[k::w,by rw[Sb,Sb,e2,<- e];rfl,Rs (· + 1) e3,λy hy=>(RB.mp hy).elim (λq=>q▸c) (b y)]
end
end
section
variable{F:Nat->SD}{L:aQ}{P0 Rp b ca e0 la zS:Nat}{as:TN}{elt:E}{g:Gm}{ks:Ks}{l:TV}{nm:TR}{pp:Nat×Nat}{ps:TQ}{tb:Tb}{v:V}{x4 x6 x8 x9:TO}{α:Type}{U UX U4 VO:aw}
noncomputable abbrev LC:CT:=Fr (CC 19)
theorem eN{x:Nat×O}(O:aA U4 U [x])(E:∀a o,VO a=some o->UX a=some o)(k:∀a o,U a=some o->U4 a=none->VO a=none/\UX a=some o):aA VO UX [x]:=by let:=k _ _ O.hd (O.fr x (.head _));show#[E,RJ ..,λy hy=>Q6.mp hy▸this.1,λy hy=>Q6.mp hy▸this.2]
theorem Ku{α:Type}{Q:QV}{ks:List (List Nat)}(h:b9 U v=some (ks.map (kW nm)))(z:ks.length<64)(q:∀c m,U c=none->m.Perm (ks.map (kW nm))->Q (.ref c) (bq U c (.list m))):prim U Q .sorted [v]:=by show gO h #[by rw[Lt];show z,.inr #[.inr (.inr λe he=>?_),q]];show aq (Re.mp he) ?_;ext w _ rfl;show#[w.map nm,by unfold kW;rw[List.map_map];rfl]
theorem FZ{f:α->V}{P:α->Prop}(h:∀v∈l,∃x,v=f x/\P x):∃xs:List α,l=xs.map f/\∀x∈xs,P x
 := by
  induction l with
  |nil=>show#[[],rfl,λ_ h=>n0 h]
  |cons v l b=>
    show aq (h v (.head _)) ?_;ext x rfl hx;show aq (b λw c=>h w (.tail _ c)) ?_;clear h b;ext xs rfl a;show#[x::xs,rfl,λy hy=>(RB.mp hy).elim (λe=>e▸hx) (a y)]
theorem PC{C:CT}{x:Nm}{t:T}{R:Option V->aw->Prop}(h:gQ tab C (.cons t .nil) (L++[some v]) U λb UX=>(b=true->bj tab C elt (L++[some v]) UX λw U2=>R (some w) U2)/\(b=false->R none UX)):tw C elt (.nm x) (.cons t .nil) L v U R:=h
noncomputable def LF(la P R:Nat)(h:Gh)(x4 x5 x6 x7 x8 x9:TO):aQ:=[some (.ref la),some (.ref P),some (.ref R),some (.ref h.a),x4,x5,x6,x7,x8,x9,none,none,none,none,none,none,none,none,none,none,none,none,none,none]
section
variable{h:Gh}(c:Cd nm e0)(G:bh U4 g h)(Z:Sz g h)(W:WF g)(S:Sm g)(h3:∀{i l:Nat}{r:TN},g.rules[i]?=some (l,r)->r.length<=3)(WC:∀k,k<NN g->h.nms[k]?=some (nm k))(hN:∀{s},d6 g s->nm s∈fJ)(hT:∀{t},3<=t->t<g.tc->nm t∉fJ)(h0:g.rules[0]?=some (g.tc,[zS,0]))(hS:nm zS=sS)(hR:U4 Rp=some (.list ((g.rules.drop 1).map (pN nm))))(hC:∀l:List Str,(∀x∈l,x∈fV)->∃w:List Nat,l.map V.str=w.map (nV nm)/\w.length=l.length/\∀k∈w,(3<=k/\k<g.tc)\/NN g<=k)(HL:mZ g)(O:aA U4 U [jE P0 pp])
include c G Z W S h3 WC hN hT h0 hS hR hC HL O
theorem M6{T:Nat}{Q:QV}(R:tX U4 g ca as ks F)(RT:jj U4 T tb)(I:PI tb ps b)(PP:PO g g.rules.length ps)(q:∀UX,bF U4 UX->Q (.bool true) UX):
  an tab LC wg (LF la P0 Rp h x4 (some (.ref ca)) x6 (some (.ref T)) x8 x9) U (aW Q):=by
 show aC<|aG<|au<|ah rfl<|aj<|bi #[U4,O.ext,Df (n:=18) c W S HL h3 hR hN hT h0 hS λWo epW wm UY nd zW mW lW u hW U3 E2 k2=>?_];let O2:=eN O E2 k2;replace G:=G.ext u;replace R:=R.ext u;replace RT:=RT.ext u;replace q:=λUX E=>q UX (u.trans E);show aC<|bv<|v4<|aP<|ah rfl<|Ku (α:=Nat) ((jN (O2.ext _ _ hW)).trans (Rs some (om wm))) (by rw[Lt];show Gt (Rj ‹_›) (dR rfl)) λS1 m ZZ L=>bi ?_;let O3:=O2.new ZZ (.list m);let zm:m.length<=bu:=aO (by rw[L.length_eq,Lt,Lt];show Gt ‹_› (dR rfl));show Ei (i:=12) O3.hd zm λσ hU=>?_;let Y:=O3.new hU (.list (m.take 12));show aq (FZ (P:=NI g) (l:=m.take 12) λv hv=>by
  show aq (Re.mp (L.mem_iff.mp (TK hv))) ?_;ext w d rfl;show#[w,rfl,((mW w).mp d).1,λk hk=>.inl (lW w d k hk)]) λws N z=>?_
 let zws:ws.length<=12:=by
  let:=Rs List.length N;rw[Lt]at this;let:=List.length_take_le 12 m;show Gt (RW ‹(List.take 12 m).length=ws.length›.symm) this
 rw[N]at Y ⊢;let O5:=(Y.sub (.cons_cons _ (.cons _ (.refl _)))).perm (.swap ..);show bp<|su (k:=3) am (dR rfl)<|i8 (f:=kW nm) (λk l UX=>∃p,aA UY UX [jE P0 p,(σ,.list (ws.map (kW nm)))]/\l.length<=k/\∀w∈l,NI g w) (dR rfl) #[pp,O5,Rm _,λ_ h=>n0 h] (λ_=>trivial) (λ{l Va} i V1 hV=>?_) λ{k x l Va R'} hx i Wv _=>#[λ_=>?_,nt]
 .show bS i λp H t C=>?_;clear i;let t:=t;let o:=H.new hV (.list (l.map (kW nm)));show bI (o.get 2 rfl) o.hd (by rw[Lt,Lt];show aO (by show Gt (RS ‹_› ‹_›) (dR rfl))) λA hA=>?_;rw[<- Rd];let O8:=o.new hA (.list ((ws++l).map (kW nm)));let K:=λw d=>(Ra.mp d).elim (z w) (C w);let J:(ws++l).length<=15:=by rw[Q9];show Gt (RS ‹_› ‹_›) (dR rfl)
  generalize ws++l=wl at O8 K J;show bS ((O8.sub (.cons_cons _ (.cons _ (.cons_cons _ (Se _))))).Xx) λX Ec s O9=>bB<|jS<|d7<|bp<|aK<|ah rfl<|aI (O9.ext _ _ s)<|i8 (f:=kW nm) (λ_ l' UX=>l'=[]/\∃e,bF X e/\aA e UX [jE P0 p]) (aH (Gt J (dR rfl))) #[rfl,X,.refl _,O9] (λi=>by show ao i λ_ Ws=>?_;clear i;show aq Ws λe r j=>(r.trans j.ext) _ _ s) (λ{l' VD} i B hB=>?_) λ{k x l' VD R2} hx i _ goN=>?_
  .show ao i ?_;clear i;ext rfl Vm;show aq Vm λe r j=>?_;show bT λD M=>kJ (l:=[]) (cX (aB ..) M) (aB ..) ?_;rw[cG];show q _ ((Ec.trans r).trans (((j.new hB _).new M _).ext))
  show ao i ?_;clear i;ext rfl U7;show aq U7 λe r j=>?_;show aq (bC hx) ?_;clear hx;ext w d rfl;let E:=Ec.trans r;show PC<|iW<|wB<|m7<|aG<|au<|ah rfl<|au<|ah rfl<|au<|ah rfl<|au<|ah rfl<|aj<|ah rfl #[e,j.ext,t6 (n:=15) c (G.ext E) Z W HL S h3 WC (R.ext E) (RT.ext E) I PP h0 (E _ _ hW) zW mW (K w (Q4 d)) λWg E6 XW E7 k7=>j9 #[nf,λ_=>#[nf,λ_=>goN #[rfl,Wg,r.trans E6,eN j E7 k7]]]]
 show bS i λp H t C=>?_;clear i;let zk:=ai hx;show aP<|sF (Kt (n:=17)) (l:=fV) (λh=>(by cases h)) (by decide +kernel) (dR rfl) (dR rfl) (ag rfl) (ag rfl) (λ{v U p Q} O q=>Ba λS2 ZY=>q S2 _ _ (((O.new ZY (.list (fV.map .str))).perm (.swap ..))) (T4 ..) λO=>O.hd) H λA l' p' Vr V hz o=>bS (hC l' hz) λw e1 e2 e3=>l6 o.hd (aH (aO (Gt (Rf V) (dR rfl)))) ?_;rw[e1];show Wv (y:=w) #[p',o.tl,by rw[Q9];show Rj t,λw' a=>(Ra.mp a).elim (C w') λa=>Q6.mp a▸#[e2▸R4 V,e3]]
end
end
section
variable{F:Nat->SD}{P0 Rp b ca e0 la ma zS:Nat}{as as0:TN}{g:Gm}{ks:Ks}{nm:TR}{pp:Nat×Nat}{ps:TQ}{tb:Tb}{x4 x5 x6 x7 x8 x9:TO}{U U4:aw}
section
variable{h:Gh}(c:Cd nm e0)(G:bh U4 g h)(Z:Sz g h)(W:WF g)(S:Sm g)(h3:∀{i l:Nat}{r:TN},g.rules[i]?=some (l,r)->r.length<=3)(WC:∀k,k<NN g->h.nms[k]?=some (nm k))(hN:∀{s},d6 g s->nm s∈fJ)(hT:∀{t},3<=t->t<g.tc->nm t∉fJ)(h0:g.rules[0]?=some (g.tc,[zS,0]))(hS:nm zS=sS)(hR:U4 Rp=some (.list ((g.rules.drop 1).map (pN nm))))(hC:∀l:List Str,(∀x∈l,x∈fV)->∃w:List Nat,l.map V.str=w.map (nV nm)/\w.length=l.length/\∀k∈w,(3<=k/\k<g.tc)\/NN g<=k)(HL:mZ g)(O:aA U4 U [jE P0 pp])
include c G Z W S h3 WC hN hT h0 hS hR hC HL O
theorem M5{T:Nat}{Q:QV}(R:tX U4 g ca as ks F)(s:u6 U4 g ma as0)(RT:jj U4 T tb)(I:PI tb ps b)(L:PO g g.rules.length ps)(q:∀UX,bF U4 UX->Q (.bool true) UX):
  an tab LC Bt (LF la P0 Rp h x4 (some (.ref ca)) (some (.ref ma)) (some (.ref T)) x8 x9) U (aW Q):=by
 let zr:(g.rules.drop 1).length<=9:=by rw[T6];let:=S.rl;show Nat.sub_le_of_le_add this
 let X:∀{e:Nat×List Nat},e∈g.rules.drop 1->e.2.length<=3:=λhe=>by show az (qm he) λi hi=>?_;show h3 hi
 show fZ<|d7<|bp<|aK<|ah rfl<|aI (O.ext _ _ hR)<|ff (Gt zr (dR rfl)) (O.ext _ _ hR) (λ{e} he=>Dy (fY (ag rfl) am aT rfl) (bW Ak (Rx _)) (wo nm e.2) λ_ h=>n0 h) (ag rfl) λA C=>bT λB o=>?_;let N:=O.new C (.list (((g.rules.drop 1).filter λe=>V.Vw (e.2.map (nV nm)) []).map (pN nm)));let m:=(N.new o (.list [])).tl.tl;show kJ (cX (aB ..) o) (aB ..) ?_;let n {UX H:aw} E (O:aA H UX [jE P0 pp]):an tab LC wg (LF la P0 Rp h x4 (some (.ref ca)) (some (.ref ma)) (some (.ref T)) x8 x9) UX (aW Q):=M6 c (G.ext E) Z W S h3 WC hN hT h0 hS (E _ _ hR) hC HL O (R.ext E) (RT.ext E) I L λUX σ=>q UX (E.trans σ);rw[cG,UC];show#[λk=>?_,λ_=>aU<|n (.refl _) m];let ne:NE g:=λ{i l r} e D=>by
  subst D;induction i with
  |zero=>rw[h0]at e;cases e
  |succ i=>
   let hm:(l,[])∈(g.rules.drop 1).filter λe=>V.Vw (e.2.map (nV nm)) []:=Sa.mpr #[Q4 (uR.mpr e),uP _];rw[TI.mp k]at hm;show n0 hm
 show fZ<|IP<|vE<|wB<|m7<|aG<|aj<|ah rfl #[U4,m.ext,ub ne s λUY t U3 P w=>j9 #[nf,λ_=>?_]];let f:=eN m P w;show bP (s.ext t) λza y J=>?_;show ck J λga Vc hi d=>?_;show vE<|d7<|bp<|aK<|aE (ag rfl) (hi.ext f.ext) (Bv rfl) rfl _<|aI (f.ext _ _ d)<|ff (pr:=λ_=>false) (Gt za (dR rfl)) (f.ext _ _ d) (λ{a} z=>?_) (ag rfl) λA2 j=>bT λB2 p=>?_
 .show C6 (y a z) λk1 Y x v u K=>?_;show N3 K λ_ s1 _ _ h1 _=>?_;let:false = !decide ((1:Int)=1):=rfl;rw[this];show BE (r7 (aE (ag rfl) (h1.ext f.ext) (dH rfl) rfl) bk) am
 rw[show(as0.filter λ_=>false)=[] from Uw.mpr λ_ _ h=>nf h]at *;let M:=((f.new j (.list ([].map V.ref))).new p (.list [])).tl.tl;show Bj (cX (aB ..) p) (aB ..) ?_;rw[cG];show#[nf,λ_=>Jg #[nf,λ_=>bE<|aU<|n t M]]
theorem M4{Q:QV}(q:∀UX,bF U4 UX->Q (.bool true) UX):
  an tab LC Bs (LF la P0 Rp h (some (.bool true)) x5 x6 x7 x8 x9) U (aW Q):=by
 show gG<|cS<|au<|aG<|aj<|ah rfl #[U4,O.ext,mB G Z W S h3 HL λca as ks UY f w k D t=>?_];let o:=eN O D t;show au<|aG<|aj<|ah rfl #[UY,o.ext,Gg (G.ext f) Z W S HL λma as0 U3 d z j C s=>?_];let n:=eN o C s;show aj<|aG<|aj<|ah rfl #[U3,n.ext,sC (G.ext (f.trans d)) Z W λT u tb ep ps I x m i B r=>#[dD,Kz (v:=LF la P0 Rp h (some (.bool true)) (some (.ref ca)) (some (.ref ma)) (some (.ref T)) x8 x9) rfl ?_]];let l:=eN n B r;let b:=m.ext;let e:=(f.trans d).trans b;show az ((w.ext (d.trans b)).full W) λF R=>?_;show fZ<|wB<|m7<|aG<|aj<|ah rfl #[u,l.ext,vJ W HL S R λVr a g A p=>j9 #[nf,λ_=>aU ?_]];let y:=eN l A p;let E:=e.trans a;show M5 c (G.ext E) Z W S h3 WC hN hT h0 hS (E _ _ hR) hC HL y (R.ext a) (z.ext (b.trans a)) ((jj.of m).ext a) I x λUX H=>q UX (E.trans H)
end
theorem HW{l:TZ}{Q:QV}(hl:U la=some (.Wb (l.map .int)))(zl:l.length<=63)(q:∀UX,bF U UX->Q (.bool true) UX):PX tab ft LC 661 [.ref la] U Q:=by
 change an tab LC Bq [some (.ref la),none,none,none,none,none,none,none,none,none,none,none,none,none,none,none,none,none,none,none,none,none,none,none] U (aW Q);show aC<|aG<|aj<|ah rfl #[U,λ_ _ h=>h,Kq hl zl λP p UY H m F1 k1=>?_];replace H:=H.exts F1;show aC<|aG<|aj<|aG<|aj<|ah rfl #[m,λ_ _ h=>h,FH H λR ps0 p2 U3 D0 O2 N F2 _=>?_];show bS (((O2.exts F2).perm (.swap ..)).Xx) λU4 Eb A O3=>?_;show#[U4,O3.ext,Cn A D0 λRp ps Va D O4 M F3 k3=>?_];let Y:=eN O3 F3 k3;let E3:=Eb.trans O4.ext;let j:=O4.hd;let zp:=D.len;show aC<|aG<|aj<|bp<|aK<|ah rfl<|aI (Y.ext _ _ j)<|i8 (f:=MD) (λk pq UX=>aA Va UX (pq.map (λe=>(e.2.2,.list (e.2.1.map .str)))++[jE P p2])/\jz pq=ps.take k) (aH (Gt zp (dR rfl))) #[Y,rfl] (λi=>i.1.ext _ _ j) (λ{pq Vr} i C hC=>?_) λ{k x pq Vr R'} hx i Wv _=>?_
 .show ao i λF n=>?_;clear i;rw[Lt,RI]at n;subst n;let O7:=F.new hC (.list (pq.map MD));show bS (aA.W9 (m1:=(C,.list (pq.map MD))::pq.map (λe=>(e.2.2,.list (e.2.1.map .str)))) O7) λX E5 T O8=>?_;let hu:∀e∈pq,X e.2.2=some (.list (e.2.1.map .str)):=λe he=>T _ (.tail _ (Rn he));show#[X,O8.ext,pv (T _ (.head _)) hu D λh lf ts Wg K hn E6 G L F6 k6=>?_];let O9:=eN O8 F6 k6;let o:=E5.trans E6;let j:=o _ _ j;rw[K.pairs D]at j;let E:=E3.trans o;let W:=K.wf D;let S:=K.sm D;let Z:=K.sz D hn;let h3:∀{i l:Nat}{r:TN},(gF (jz pq) lf ts).rules[i]?=some (l,r)->r.length<=3:=λe=>K.r3 D e;let c:=K.cd D;let he:(gF (jz pq) lf ts).tc+(gF (jz pq) lf ts).nn<(da lf ts).length:=by
   rw[n6];change 3+ts.length+lf.length<_;show Nat.add_lt_add_right (Sq _) _
  let h0:(gF (jz pq) lf ts).rules[0]?=some ((gF (jz pq) lf ts).tc,[eF lf ts sS,0]):=rfl;let hS:=K.num D (K.Zu D (.inl (Q4 K.l0)));let hz:=K.nm0 D;let hN:∀{s},d6 (gF (jz pq) lf ts) s->wX lf ts s∈fJ:=λk=>K.nmN D k;let hT:∀{t},3<=t->t<(gF (jz pq) lf ts).tc->wX lf ts t∉fJ:=λa b=>K.nmT D a b;let B:=K.codes D;let WC:∀k,k<NN (gF (jz pq) lf ts)->h.nms[k]?=some (wX lf ts k):=λk hk=>by
   let lt:k<(da lf ts).length:=by rw[n6];show hk
   let e:=Rg lt;rw[hn,K.Wx D e];show e
  generalize wX lf ts=nm at *;generalize (da lf ts).length=e0 at *;generalize eF lf ts sS=zS at *;generalize gF (jz pq) lf ts=g at *;show aC<|FF<|aG<|aj<|ah rfl #[Wg,O9.ext,sU c W S h3 he j h0 hS hz λv XW O E7 J F7 k7=>j9 ?_];let V:=eN O9 F7 k7;change an tab LC (.cons (.ite _ Bu .nil _) Br) (LF la P Rp h (some (.bool (!v))) none none none none none) _ _;show fZ<|d7<|aG<|aj<|ah rfl #[XW,V.ext,vK (G.ext E7) Z W S λX5 w z E8 I F8 k8=>ah rfl ?_];let σ:=eN V F8 k8;let d:=E7.trans E8;let eb:w = !v:=by
   induction w with
   |true=>
    induction v with
    |true=>show absurd (z.mp rfl) (O.mp rfl)
    |false=>rfl
   |false=>
    induction v with
    |true=>rfl
    |false=>show absurd (z.mpr (Classical.byContradiction λk=>nomatch O.mpr k)) nf
  rw[<- eb];show#[λk=>(by cases w<;>cases k),λ_=>aU ?_];show cC (NT (lV (ag rfl))) (λ_=>cB am (q _ ((E.trans d).trans σ.ext))) λk=>aU ?_;let lt:=(Bool.not_eq_false' _).mp k;subst lt;show M4 c (G.ext d) Z W S h3 WC hN hT h0 hS (d _ _ j) B (z.mp rfl) σ λUX E'=>q UX ((E.trans d).trans E')
 show ao i λF n=>?_;show aq (bC hx) ?_;clear hx;ext e he rfl;let ze:=(D.ok e (Q4 he)).2.1;show Ga<|cS<|au<|ah rfl<|aj<|aP<|ah rfl<|vz rfl (aH (aO (Gt ze (dR rfl)))) λu hu=>#[aT,Wv (y:=(e.1,e.2,u)) #[?_,?_]]
 .rw[Rd,Rz];show(F.new hu (.list (e.2.map .str))).perm (List.perm_middle.symm)
 unfold jz at n ⊢;rw[Rd,n,ax he];rfl
theorem Qi:JD:=λla l a=>by
 show HW (U:=λb=>if b=la then some (.Wb (l.map .int)) else none) (RO rfl) a λUX E=>#[rfl,E _ _ (RO rfl)]
end
end Mine.Internal
theorem PySem.Challenge.cw_nn0387_01_holds : PySem.Challenge.rw_nn0387_01.Holds :=
 Mine.Internal.Ql Mine.Internal.Qi
