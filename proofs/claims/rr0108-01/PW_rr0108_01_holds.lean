import PyProof.Rows.All
import Wide.All
import OpenK.AllK
import Wide.FinOn
import PyProof.NeKinds
import PyProof.PureInt
import PyProof.DictRoadsH
import KE.KDictList
import PyProof.Rows.RuleN_abs
import PyProof.CallStr
import PyProof.ConsumeWalk
import PyProof.RangeFor
import PyProof.RangeIter
import PyProof.WalksMore
import PyProof.TupleOfSeq
import PyProof.ListCopy
import PyProof.Rows.TupAdd
import PyProof.Rows.TupMore
import PyProof.Rows.IntRules
import PyProof.Rows.RuleB_and
import PyProof.Rows.RuleB_rshift
import PyProof.Rows.RuleB_small
import PyProof.Rows.StrRules
import PyProof.Rows.BitMore
import PyProof.ListIndexNeg
import PyProof.SliceMore
import KE.KSortTup
import KE.KEqDict
import PyProof.Rows.Chain
import PyProof.LetGo
import PyProof.Rules2
import PyProof.Rules3
import PyProof.SliceSyntax
import PyProof.Rows.TupDisplay
import PyProof.Cells
import PyProof.CompFree
import PyProof.DictCompW
import PyProof.CompUse
import PyProof.SetKind
import PyProof.SetNew
import PyProof.Rows.SetFrom
import Lean
import PySem.Challenge.RW_rr0108_01
open PySem PySem.W PyProof.Rows
set_option Elab.async false
set_option linter.all false
set_option maxRecDepth 100000
set_option tactic.hygienic false
set_option genSizeOfSpec false
namespace Mine.Internal
theorem ai:type_of%@PySem.wpAny_pure:=@PySem.wpAny_pure
theorem ay:type_of%@Nat.le_trans:=@Nat.le_trans
theorem az:type_of%@Nat.lt_of_le_of_lt:=@Nat.lt_of_le_of_lt
theorem aB:type_of%@if_neg:=@if_neg
theorem aE:type_of%@congrArg:=@congrArg
theorem aF:type_of%@if_pos:=@if_pos
theorem aK:type_of%@PySem.wpAny_bind:=@PySem.wpAny_bind
theorem aL:type_of%@Ne.symm:=@Ne.symm
theorem aM:type_of%@List.mem_cons_self:=@List.mem_cons_self
theorem aP:type_of%@List.length_append:=@List.length_append
theorem aQ:type_of%@List.mem_cons_of_mem:=@List.mem_cons_of_mem
theorem aT:type_of%@Eq.symm:=@Eq.symm
theorem aU:type_of%@Nat.add_le_add_left:=@Nat.add_le_add_left
theorem aY:type_of%@Nat.le_add_right:=@Nat.le_add_right
theorem b0:type_of%@List.length_map:=@List.length_map
theorem b3:type_of%@List.mem_singleton:=@List.mem_singleton
theorem b7:type_of%@beq_iff_eq:=@beq_iff_eq
theorem bx:type_of%@List.not_mem_nil:=@List.not_mem_nil
theorem bz:type_of%@List.mem_cons:=@List.mem_cons
theorem bB:type_of%@List.mem_map:=@List.mem_map
theorem bC:type_of%@Nat.le_refl:=@Nat.le_refl
theorem bG:type_of%@Nat.add_le_add_right:=@Nat.add_le_add_right
theorem bH:type_of%@Nat.add_assoc:=@Nat.add_assoc
theorem bN:type_of%@PySem.wpAny_holding:=@PySem.wpAny_holding
theorem bP:type_of%@List.append_assoc:=@List.append_assoc
theorem bQ:type_of%@decide_eq_true:=@decide_eq_true
theorem bY:type_of%@of_decide_eq_true:=@of_decide_eq_true
theorem c0:type_of%@Nat.add_comm:=@Nat.add_comm
theorem cb:type_of%@PySem.Heap.get?_push_size:=@PySem.Heap.get?_push_size
theorem cn:type_of%@Nat.le_add_left:=@Nat.le_add_left
theorem cA:type_of%@List.mem_of_getElem?:=@List.mem_of_getElem?
theorem cB:type_of%@List.mem_filter:=@List.mem_filter
theorem cG:type_of%@List.nodup_cons:=@List.nodup_cons
theorem cK:type_of%@Bool.false_ne_true:=@Bool.false_ne_true
theorem cL:type_of%@Option.some.inj:=@Option.some.inj
theorem cM:type_of%@List.mem_append:=@List.mem_append
theorem cQ:type_of%@List.all_eq_true:=@List.all_eq_true
theorem cY:type_of%@List.nodup_nil:=@List.nodup_nil
theorem d6:type_of%@List.append_nil:=@List.append_nil
theorem d7:type_of%@Nat.succ.inj:=@Nat.succ.inj
theorem dh:type_of%@Nat.add_le_add:=@Nat.add_le_add
theorem di:type_of%@Nat.zero_add:=@Nat.zero_add
theorem dD:type_of%@decide_eq_false:=@decide_eq_false
theorem dE:type_of%@PySem.wpAny_standAt:=@PySem.wpAny_standAt
theorem dK:type_of%@List.mem_range:=@List.mem_range
theorem dR:type_of%@List.getElem?_eq_getElem:=@List.getElem?_eq_getElem
theorem dS:type_of%@PySem.wpAny_mono:=@PySem.wpAny_mono
theorem eQ:type_of%@Nat.mul_le_mul_left:=@Nat.mul_le_mul_left
theorem eR:type_of%@funext:=@funext
theorem f9:type_of%@List.eq_nil_of_length_eq_zero:=@List.eq_nil_of_length_eq_zero
theorem fb:type_of%@Nat.le_of_succ_le:=@Nat.le_of_succ_le
theorem fc:type_of%@List.getElem?_map:=@List.getElem?_map
theorem fe:type_of%@Nat.succ_le_succ:=@Nat.succ_le_succ
theorem fh:type_of%@Nat.zero_le:=@Nat.zero_le
theorem fA:type_of%@decide_eq_decide:=@decide_eq_decide
theorem fB:type_of%@List.map_map:=@List.map_map
theorem fN:type_of%@List.getElem?_toArray:=@List.getElem?_toArray
theorem gg:type_of%@Nat.lt_of_lt_of_le:=@Nat.lt_of_lt_of_le
theorem gh:type_of%@Nat.le_of_eq:=@Nat.le_of_eq
theorem gj:type_of%@PySem.wpAny_rule:=@PySem.wpAny_rule
theorem gy:type_of%@PySem.wpAny_dictEntries:=@PySem.wpAny_dictEntries
theorem gA:type_of%@List.length_range:=@List.length_range
theorem gB:type_of%@Nat.lt_trans:=@Nat.lt_trans
theorem gC:type_of%@Int.ofNat_lt:=@Int.ofNat_lt
theorem gS:type_of%@List.size_toArray:=@List.size_toArray
theorem gT:type_of%@beq_self_eq_true:=@beq_self_eq_true
theorem gU:type_of%@Nat.le_succ:=@Nat.le_succ
theorem ij:type_of%@List.mem_append_right:=@List.mem_append_right
theorem ik:type_of%@Bool.and_eq_true_iff:=@Bool.and_eq_true_iff
theorem il:type_of%@beq_eq_false_iff_ne:=@beq_eq_false_iff_ne
theorem ip:type_of%@Bool.eq_iff_iff:=@Bool.eq_iff_iff
theorem iq:type_of%@Nat.not_lt:=@Nat.not_lt
theorem iM:type_of%@List.getD_eq_getElem?_getD:=@List.getD_eq_getElem?_getD
theorem iN:type_of%@PySem.Heap.SameBut.update:=@PySem.Heap.SameBut.update
theorem iO:type_of%@PySem.wpAny_newObj_type:=@PySem.wpAny_newObj_type
theorem iP:type_of%@Nat.lt_of_succ_lt:=@Nat.lt_of_succ_lt
theorem iQ:type_of%@List.isEmpty_iff:=@List.isEmpty_iff
theorem iR:type_of%@List.map_append:=@List.map_append
theorem iS:type_of%@List.map_id:=@List.map_id
theorem j8:type_of%@List.pairwise_append:=@List.pairwise_append
theorem ja:type_of%@List.nodup_append:=@List.nodup_append
theorem jb:type_of%@PySem.wpAny_call_entry:=@PySem.wpAny_call_entry
theorem jc:type_of%@List.all_cons:=@List.all_cons
theorem jd:type_of%@Nat.le_of_lt:=@Nat.le_of_lt
theorem jD:type_of%@List.lookup_cons:=@List.lookup_cons
theorem jE:type_of%@trivial:=@trivial
theorem j_:type_of%@List.getElem?_append_left:=@List.getElem?_append_left
theorem k5:type_of%@Nat.succ_add_eq_add_succ:=@Nat.succ_add_eq_add_succ
theorem k6:type_of%@Bool.and_true:=@Bool.and_true
theorem kQ:type_of%@List.getElem?_eq_none:=@List.getElem?_eq_none
theorem kR:type_of%@PySem.Heap.get?_update_self:=@PySem.Heap.get?_update_self
theorem kS:type_of%@decide_eq_true_iff:=@decide_eq_true_iff
theorem kT:type_of%@Nat.le_succ_of_le:=@Nat.le_succ_of_le
theorem kU:type_of%@List.flatMap_cons:=@List.flatMap_cons
theorem kW:type_of%@PySem.wpAny_dictEpoch:=@PySem.wpAny_dictEpoch
theorem kX:type_of%@List.length_nil:=@List.length_nil
theorem kY:type_of%@PySem.Heap.lt_size:=@PySem.Heap.lt_size
theorem l_:type_of%@Option.map_eq_some_iff:=@Option.map_eq_some_iff
theorem m4:type_of%@List.length_singleton:=@List.length_singleton
theorem m5:type_of%@List.length_filter_le:=@List.length_filter_le
theorem m6:type_of%@Nat.mul_le_mul_right:=@Nat.mul_le_mul_right
theorem m7:type_of%@List.forIn_cons:=@List.forIn_cons
theorem m8:type_of%@Nat.succ_pos:=@Nat.succ_pos
theorem nA:type_of%@Nat.lt_add_of_pos_right:=@Nat.lt_add_of_pos_right
theorem nB:type_of%@Array.getElem?_toList:=@Array.getElem?_toList
theorem nE:type_of%@Int.natCast_nonneg:=@Int.natCast_nonneg
theorem nF:type_of%@Int.toNat_natCast:=@Int.toNat_natCast
theorem nG:type_of%@Bool.not_eq_true':=@Bool.not_eq_true'
theorem nH:type_of%@List.length_cons:=@List.length_cons
theorem nJ:type_of%@PySem.codeAny_builtin:=@PySem.codeAny_builtin
theorem nM:type_of%@Nat.ne_of_lt:=@Nat.ne_of_lt
theorem nN:type_of%@PySem.wpAny_of_eq:=@PySem.wpAny_of_eq
theorem oZ:type_of%@List.mem_singleton_self:=@List.mem_singleton_self
theorem o_:type_of%@Nat.le_of_succ_le_succ:=@Nat.le_of_succ_le_succ
theorem p8:type_of%@PySem.Around.under_plainId:=@PySem.Around.under_plainId
theorem p9:type_of%@PySem.wpAny_truthy_bool:=@PySem.wpAny_truthy_bool
theorem pg:type_of%@List.filter_congr:=@List.filter_congr
theorem ph:type_of%@PySem.wpAny_isInstance:=@PySem.wpAny_isInstance
theorem pj:type_of%@PySem.wpAny_setField:=@PySem.wpAny_setField
theorem pw:type_of%@List.map_cons:=@List.map_cons
theorem px:type_of%@Nat.one_mul:=@Nat.one_mul
theorem qS:type_of%@List.getElem?_eq_some_iff:=@List.getElem?_eq_some_iff
theorem qT:type_of%@Nat.lt_succ_iff_lt_or_eq:=@Nat.lt_succ_iff_lt_or_eq
theorem qU:type_of%@Nat.add_sub_cancel_left:=@Nat.add_sub_cancel_left
theorem qV:type_of%@List.mem_iff_getElem?:=@List.mem_iff_getElem?
theorem qW:type_of%@List.mem_append_left:=@List.mem_append_left
theorem qX:type_of%@List.getElem?_of_mem:=@List.getElem?_of_mem
theorem qY:type_of%@Array.length_toList:=@Array.length_toList
theorem qZ:type_of%@PySem.F.called_set:=@PySem.F.called_set
theorem q_:type_of%@List.zip_cons_cons:=@List.zip_cons_cons
theorem r5:type_of%@PySem.plainId_quiet:=@PySem.plainId_quiet
theorem r7:type_of%@List.cons.inj:=@List.cons.inj
theorem tG:type_of%@Array.getElem?_eq_getElem:=@Array.getElem?_eq_getElem
theorem tH:type_of%@PySem.wpAny_callSpecial?_slot:=@PySem.wpAny_callSpecial?_slot
theorem tI:type_of%@List.filter_eq_nil_iff:=@List.filter_eq_nil_iff
theorem tJ:type_of%@List.contains_iff_mem:=@List.contains_iff_mem
theorem tK:type_of%@List.mem_map_of_mem:=@List.mem_map_of_mem
theorem tL:type_of%@of_decide_eq_false:=@of_decide_eq_false
theorem tM:type_of%@PySem.wpAny_Call_NameR:=@PySem.wpAny_Call_NameR
theorem tN:type_of%@Nat.succ_lt_succ:=@Nat.succ_lt_succ
theorem tO:type_of%@Nat.lt_succ_self:=@Nat.lt_succ_self
theorem tP:type_of%@List.mem_flatMap:=@List.mem_flatMap
theorem tQ:type_of%@PySem.wpAny_specialOf:=@PySem.wpAny_specialOf
theorem tR:type_of%@List.not_lt_nil:=@List.not_lt_nil
theorem tS:type_of%@Nat.lt_irrefl:=@Nat.lt_irrefl
theorem vH:type_of%@List.pairwise_singleton:=@List.pairwise_singleton
theorem vI:type_of%@PySem.wpAny_notOrdered_dict:=@PySem.wpAny_notOrdered_dict
theorem vJ:type_of%@List.length_reverse:=@List.length_reverse
theorem vK:type_of%@Nat.add_right_comm:=@Nat.add_right_comm
theorem vL:type_of%@PySem.wpAny_setState_of:=@PySem.wpAny_setState_of
theorem vM:type_of%@List.ext_getElem?:=@List.ext_getElem?
theorem vN:type_of%@PySem.wpAny_forIn_list:=@PySem.wpAny_forIn_list
theorem vO:type_of%@Nat.zero_lt_succ:=@Nat.zero_lt_succ
theorem vQ:type_of%@List.any_eq_true:=@List.any_eq_true
theorem yN:type_of%@PySem.Heap.get?_update_other:=@PySem.Heap.get?_update_other
@[elab_as_elim] theorem a6 {α:Sort _} {a b:α} {p:α->Prop} (h:a=b) (x:p b):p a:=h▸x
@[elab_as_elim] theorem Cz {α:Sort _} {a b:α} {p:α->Prop} (h:a=b) (x:p a):p b:=h▸x
section
variable{M:Model} {A:Around} {α:Type} {Q:α->Shared->Prop} {E:Value->Shared->Prop} {s:Shared} {a b:Sem α} {p:Prop} [Decidable p]
theorem jw (h:p) (q:wpAny M A a Q E s):wpAny M A (if p then a else b) Q E s:=by rw [aF h];exact q
theorem ct (h:¬p) (q:wpAny M A b Q E s):wpAny M A (if p then a else b) Q E s:=by rw [aB h];exact q
theorem yd (q:wpAny M A b Q E s):wpAny M A (if false=true then a else b) Q E s:=q
def yc (M:Model) (A:Around) (f:β->Sem α) (Q:α->Shared->Prop) (E:Value->Shared->Prop) (a:β) (s:Shared):Prop:=wpAny M A (f a) Q E s
theorem wb (h:wpAny M A m (yc M A f Q E) E s):wpAny M A (m>>=f) Q E s:=aK h
theorem cj (h:m=m') (q:wpAny M A m' Q E s):wpAny M A m Q E s:=h▸q
end
noncomputable def bJ:List String:= ["w","x","y","z","","s","r","N","0","1","2","N0","N1","N2","feed","count","k","cells","many","sure","doubt","_law_draw","way","world","left","row","rows","var","known","deep","rel","_law_name","join","_law_some","own","comp","_law_formula","one","union","minus","in","some","same","product","not","and","node","env","_law_all","_law_lets","_law_rows_of","other","b","a","_law_holds","found","turn","places","inner","decls","name","formula","gate","told","circuit","kind","input","part","parts","size","asked","lap","had","_law_truths","truths","lots","Evaluator","plain","gates","set_of","script","_law_lots","Bounds","Universe","bounds","add","sr","_law_decls","Circuit","Translator","translator","comprehended","matrix","inputs","_law_is_told_right","self","names","numbers","universe","arity","want_set","lower","upper","is_within","tuples","set_of_sets","t","MOST_ROWS","late","begun","rest","instance","ways","expr","MOST_WAYS_evaluate","atoms","op","none","univ","iden","either","opened","truth","closure","star","of_two","meet","override","ahead","f","true","false","or","implies","iff","all","exists","le","lt","eq","has_many","no","num","within","bound","of","DECLARING","parts_of","matrices","Matrices","binary","Binary","FreeNames","memory","relations","matrix_of","new_input","MOST_WAYS_translate","both","guard","outer","matrix_of_plain","truth_of_plain","all_of","any_of","of_sets","kinds","parts_now","g","new_gate","n","key","pairs","keys_of","keys","made","MOST_KEYS","behind","gates_of","sum"]
noncomputable def tx (n:Nat):Str:=Str.ofString (bJ.getD n "")
set_option genSizeOfSpec false in
inductive V where
 |none
 |bool (b:Bool)
 |int (i:Int)
 |str (n:Nat)
 |tup (xs:List V)
 |aa (xs:List V)
 |aN (ks vs:List V)
 |dc (a b:Int)
 |ref (a:Addr)
 |bm (f:Addr) (x:Addr)
 deriving Inhabited
set_option genSizeOfSpec false in
set_option genInjectivity false in
inductive MO where
 |list (xs:List V)
 |dict (ks vs:List V)
 |inst (C:Addr) (dx:Addr) (as:List (Nat×V))
 |cx (a:Addr)
noncomputable abbrev St:=Addr->Option MO
noncomputable def upd (σ:St) (a:Addr) (o:MO):St:=λb=>if b=a then some o else σ b
noncomputable def del (σ:St) (a:Addr):St:=λb=>if b=a then none else σ b
noncomputable def Ga:Option MO->Option MO
 |some (.cx a)=>some (.cx a)
 |_=>none
noncomputable def back (bZ σ:St):St:=λb=>match σ b with|none=>Ga (bZ b)|some _=>bZ b
mutual
noncomputable def vh (P:Params):V->Int
 | .int i=>hashInt i
 | .str n=>PyData.keyHash P (tx n)
 | .tup xs=>reduceHash (Builtin.Tuple.tupleHashOf (Cr P xs))
 |_=>0
noncomputable def Cr (P:Params):List V->List Int
 | []=> []
 |x::r=>vh P x::Cr P r
end
mutual
noncomputable def aR:Nat->V->Bool
 |_, .int _=>true
 |_, .str n=>decide (n<bJ.length)
 |n, .tup xs=>match n with|0=>false|n+1=>lq n xs
 |_,_=>false
noncomputable def lq:Nat->List V->Bool
 |_, []=>true
 |n,x::r=>aR n x&&lq n r
end
noncomputable abbrev gq (vs:List Value) (e:Nat):Obj:={cls:= .type "tuple",data:= .seq vs.toArray e}
noncomputable abbrev c5 (vs:List Value) (e:Nat):Obj:={cls:= .type "list",data:= .seq vs.toArray e}
noncomputable abbrev bp (es:List DictEntry) (e:Nat):Obj:={cls:= .type "dict",data:= .dict es.toArray e}
noncomputable abbrev AK (a b:Int) (t u v:Tok):Obj:={cls:= .type "range",data:= .fields #[.int a t, .int b u, .int 1 v]}
noncomputable abbrev Bz (f x:Addr):Obj:={cls:= .type "method",data:= .fields #[.ref f, .ref x]}
noncomputable abbrev uh (C dx:Addr):Obj:={cls:= .ref C,dict:=some dx,data:= .plain}
noncomputable def lim:Nat:=1000000
set_option genInjectivity false
structure Cx where
 prog:Program
 w:World
 H0:Heap
 F:Frag
 mg:Str->Option Value
 mb:Str->Option Value
 hS:∃o,H0.get? sysModules=some o
 g:H0.Ns mainGlobals mg
 b:H0.Ns builtinsNs mb
 nl:H0.NoLimit
 fin:F.In H0
noncomputable abbrev Cx.M (c:Cx):Model:=model c.prog c.w
structure Fz (σ:St) (Z:Addr->Prop) (h:Heap) (b:Addr) (o:Obj):Prop where
 at_:h.get? b=some o
 own:σ b=none
 nz:¬Z b
def Mv (σ:St) (Z:Addr->Prop) (h:Heap) (a8:St) (Z':Addr->Prop) (h':Heap):Prop:=∀{b o},Fz σ Z h b o->Fz a8 Z' h' b o
inductive Rv (c:Cx) (σ:St) (Z:Addr->Prop) (h:Heap):V->Value->Prop
 |none:Rv c σ Z h .none .none
 |bool (b:Bool):Rv c σ Z h (.bool b) (.bool b)
 |int (i:Int) (t:Tok):Rv c σ Z h (.int i) (.int i t)
 |str {n:Nat} (hn:n<bJ.length) (t:Tok):Rv c σ Z h (.str n) (.str (tx n) t)
 |tup {a:Addr} {xs:List V} {vs:List Value} {e:Nat} (f:Fz σ Z h a (gq vs e)) (l:xs.length=vs.length) (r:∀{i:Nat} {x u},xs[i]? =some x->vs[i]? =some u->Rv c σ Z h x u):Rv c σ Z h (.tup xs) (.ref a)
 |aa {a:Addr} {xs:List V} {vs:List Value} {e:Nat} (f:Fz σ Z h a (c5 vs e)) (l:xs.length=vs.length) (r:∀{i:Nat} {x u},xs[i]? =some x->vs[i]? =some u->Rv c σ Z h x u):Rv c σ Z h (.aa xs) (.ref a)
 |aN {a:Addr} {ks vs:List V} {es:List DictEntry} {e:Nat} (f:Fz σ Z h a (bp es e)) (hn:ks.Nodup) (hm:a≠sysModules) (lk:ks.length=es.length) (lv:vs.length=es.length)
   (hk:∀{i:Nat} {k en},ks[i]? =some k->es[i]? =some en->Rv c σ Z h k en.key) (hv:∀{i:Nat} {v en},vs[i]? =some v->es[i]? =some en->Rv c σ Z h v en.val)
   (hh:∀{i:Nat} {k en},ks[i]? =some k->es[i]? =some en->en.hash=vh c.w.params k) (ho:∀{i:Nat} {k},ks[i]? =some k->aR 8 k=true):Rv c σ Z h (.aN ks vs) (.ref a)
 |dc {a:Addr} {x y:Int} {t u v:Tok} (f:Fz σ Z h a (AK x y t u v)):Rv c σ Z h (.dc x y) (.ref a)
 |ref (a:Addr):Rv c σ Z h (.ref a) (.ref a)
 |bm {a f x:Addr} (z:Fz σ Z h a (Bz f x)):Rv c σ Z h (.bm f x) (.ref a)
structure aO (c:Cx) (σ:St) (Z:Addr->Prop) (h:Heap) (xs:List V) (vs:List Value):Prop where
 len:xs.length=vs.length
 at_:∀{i:Nat} {x u},xs[i]? =some x->vs[i]? =some u->Rv c σ Z h x u
structure bM (c:Cx) (σ:St) (Z:Addr->Prop) (h:Heap) (ks vs:List V) (es:List DictEntry):Prop where
 lk:ks.length=es.length
 lv:vs.length=es.length
 key:∀{i:Nat} {k en},ks[i]? =some k->es[i]? =some en->Rv c σ Z h k en.key
 val:∀{i:Nat} {v en},vs[i]? =some v->es[i]? =some en->Rv c σ Z h v en.val
 nq:∀{i:Nat} {k en},ks[i]? =some k->es[i]? =some en->en.hash=vh c.w.params k
 ok:∀{i:Nat} {k},ks[i]? =some k->aR 8 k=true
inductive Ro (c:Cx) (σ:St) (Z:Addr->Prop) (h:Heap) (a:Addr):MO->Prop
 |list {xs:List V} {vs:List Value} {e:Nat} (ho:h.get? a=some (c5 vs e)) (l:aO c σ Z h xs vs):Ro c σ Z h a (.list xs)
 |dict {ks vs:List V} {es:List DictEntry} {e:Nat} (ho:h.get? a=some (bp es e)) (hn:ks.Nodup) (l:bM c σ Z h ks vs es):Ro c σ Z h a (.dict ks vs)
 |inst {C dx:Addr} {as:List (Nat×V)} {es:List DictEntry} {e:Nat} (ho:h.get? a=some (uh C dx)) (hd:σ dx=some (.cx a)) (hn:(as.map (·.1)).Nodup) (he:h.get? dx=some (bp es e))
   (l:bM c σ Z h (as.map λp=> .str p.1) (as.map (·.2)) es):Ro c σ Z h a (.inst C dx as)
 |cx (b:Addr):Ro c σ Z h a (.cx b)
structure Al (c:Cx) (h:Heap) (a:Addr):Prop where
 new:c.H0.get? a=none
 ex:∃o,h.get? a=some o
structure Inv (c:Cx) (σ:St) (Z:Addr->Prop) (h:Heap):Prop where
 top:∀{b o},c.H0.get? b=some o->h.get? b=some o
 jX:∀{a mo},σ a=some mo->Al c h a
 nz:∀{a mo},σ a=some mo->¬Z a
 res:∀{a},Z a->Al c h a
 obj:∀{a mo},σ a=some mo->Ro c σ Z h a mo
section
variable{c:Cx} {σ a8 ot:St} {Z Z' Ks:Addr->Prop} {h h' tq:Heap}
theorem Mv.trans (a:Mv σ Z h a8 Z' h') (b:Mv a8 Z' h' ot Ks tq):Mv σ Z h ot Ks tq:=λf=>b (a f)
theorem Rv.mono (m:Mv σ Z h a8 Z' h') (r:Rv c σ Z h x v):Rv c a8 Z' h' x v:=
 Rv.rec (motive:=λx v zz=>Rv c a8 Z' h' x v) .none .bool .int .str (λf l zz r=> .tup (m f) l r) (λf l zz r=> .aa (m f) l r) (λf a b l1 l2 zz zz h1 h2 r1 r2=> .aN (m f) a b l1 l2 r1 r2 h1 h2) (λf=> .dc (m f)) .ref (λf=> .bm (m f)) r
theorem aO.mono (m:Mv σ Z h a8 Z' h') (r:aO c σ Z h xs vs):aO c a8 Z' h' xs vs:=⟨r.len,λe e'=>(r.at_ e e').mono m⟩
theorem bM.mono (m:Mv σ Z h a8 Z' h') (r:bM c σ Z h ks vs es):bM c a8 Z' h' ks vs es:=⟨r.lk,r.lv,λe e'=>(r.key e e').mono m,λe e'=>(r.val e e').mono m,r.nq,r.ok⟩
theorem Rv.BH (f:Fz σ Z h a (gq vs e)) (r:aO c σ Z h xs vs):Rv c σ Z h (.tup xs) (.ref a):= .tup f r.len r.at_
theorem Rv.pV (f:Fz σ Z h a (c5 vs e)) (r:aO c σ Z h xs vs):Rv c σ Z h (.aa xs) (.ref a):= .aa f r.len r.at_
theorem Rv.Hl (f:Fz σ Z h a (bp es e)) (hn:ks.Nodup) (hm:a≠sysModules) (r:bM c σ Z h ks vs es):Rv c σ Z h (.aN ks vs) (.ref a):= .aN f hn hm r.lk r.lv r.key r.val r.nq r.ok
noncomputable def Rw (c:Cx) (σ:St) (Z:Addr->Prop) (h:Heap) (G:Value->Prop):V->Prop
 | .none=>G .none
 | .bool b=>G (.bool b)
 | .int i=>∀t,G (.int i t)
 | .str n=>n<bJ.length->∀t,G (.str (tx n) t)
 | .tup xs=>∀{a vs e},Fz σ Z h a (gq vs e)->aO c σ Z h xs vs->G (.ref a)
 | .aa xs=>∀{a vs e},Fz σ Z h a (c5 vs e)->aO c σ Z h xs vs->G (.ref a)
 | .aN ks vs=>∀{a es e},Fz σ Z h a (bp es e)->ks.Nodup->a≠sysModules->bM c σ Z h ks vs es->G (.ref a)
 | .dc x y=>∀{a t t' uY},Fz σ Z h a (AK x y t t' uY)->G (.ref a)
 | .ref a=>G (.ref a)
 | .bm f x=>∀{a},Fz σ Z h a (Bz f x)->G (.ref a)
@[elab_as_elim] theorem Rv.inv (r:Rv c σ Z h v u):Rw c σ Z h G v->G u:=
 Rv.casesOn (motive:=λv u zz=>Rw c σ Z h G v->G u) r id (λzz=>id) (λzz t k=>k t) (λh t k=>k h t) (λf l r k=>k f ⟨l,r⟩) (λf l r k=>k f ⟨l,r⟩) (λf n m l1 l2 h1 h2 h3 h4 k=>k f n m ⟨l1,l2,h1,h2,h3,h4⟩) (λf k=>k f) (λzz=>id) λf k=>k f
@[elab_as_elim] theorem Rv.int_inv {i:Int} {u:Value} {G:Value->Prop} (r:Rv c σ Z h (.int i) u) (k:∀t,G (.int i t)):G u:=r.inv k
@[elab_as_elim] theorem Rv.bool_inv {b:Bool} {u:Value} {G:Value->Prop} (r:Rv c σ Z h (.bool b) u) (k:G (.bool b)):G u:=r.inv k
@[elab_as_elim] theorem Rv.none_inv {u:Value} {G:Value->Prop} (r:Rv c σ Z h .none u) (k:G .none):G u:=r.inv k
@[elab_as_elim] theorem Rv.gm {a:Addr} {u:Value} {G:Value->Prop} (r:Rv c σ Z h (.ref a) u) (k:G (.ref a)):G u:=r.inv k
@[elab_as_elim] theorem Rv.str_inv {n:Nat} {u:Value} {G:Value->Prop} (r:Rv c σ Z h (.str n) u) (k:n<bJ.length->∀t,G (.str (tx n) t)):G u:=r.inv k
@[elab_as_elim] theorem Rv.cR {xs:List V} {u:Value} {G:Value->Prop} (r:Rv c σ Z h (.tup xs) u) (k:∀{a vs e},Fz σ Z h a (gq vs e)->aO c σ Z h xs vs->G (.ref a)):G u:=r.inv k
@[elab_as_elim] theorem Rv.je {xs:List V} {u:Value} {G:Value->Prop} (r:Rv c σ Z h (.aa xs) u) (k:∀{a vs e},Fz σ Z h a (c5 vs e)->aO c σ Z h xs vs->G (.ref a)):G u:=r.inv k
@[elab_as_elim] theorem Rv.zm {ks vs:List V} {u:Value} {G:Value->Prop} (r:Rv c σ Z h (.aN ks vs) u) (k:∀{a es e},Fz σ Z h a (bp es e)->ks.Nodup->a≠sysModules->bM c σ Z h ks vs es->G (.ref a)):G u:=r.inv k
@[elab_as_elim] theorem Rv.Rk {x y:Int} {u:Value} {G:Value->Prop} (r:Rv c σ Z h (.dc x y) u) (k:∀{a t t' uY},Fz σ Z h a (AK x y t t' uY)->G (.ref a)):G u:=r.inv k
@[elab_as_elim] theorem Rv.UG {f x:Addr} {u:Value} {G:Value->Prop} (r:Rv c σ Z h (.bm f x) u) (k:∀{a},Fz σ Z h a (Bz f x)->G (.ref a)):G u:=r.inv k
noncomputable def Rq (c:Cx) (σ:St) (Z:Addr->Prop) (h:Heap) (G:Prop) (a:Addr):MO->Prop
 | .list xs=>∀{vs e},h.get? a=some (c5 vs e)->aO c σ Z h xs vs->G
 | .dict ks vs=>∀{es e},h.get? a=some (bp es e)->ks.Nodup->bM c σ Z h ks vs es->G
 | .inst C dx as=>∀{es e},h.get? a=some (uh C dx)->σ dx=some (.cx a)->(as.map (·.1)).Nodup->h.get? dx=some (bp es e)->bM c σ Z h (as.map λp=> .str p.1) (as.map (·.2)) es->G
 | .cx _=>G
theorem Ro.inv (r:Ro c σ Z h a mo):Rq c σ Z h G a mo->G:=
 Ro.casesOn (motive:=λmo zz=>Rq c σ Z h G a mo->G) r (λa b k=>k a b) (λa b d k=>k a b d) (λa b d e f k=>k a b d e f) λzz=>id
theorem Inv.list {G:Prop} (I:Inv c σ Z h) {a:Addr} {xs:List V} (e:σ a=some (.list xs)) (k:∀{vs e},h.get? a=some (c5 vs e)->aO c σ Z h xs vs->G):G:=(I.obj e).inv k
theorem Inv.dict {G:Prop} (I:Inv c σ Z h) {a:Addr} {ks vs:List V} (e:σ a=some (.dict ks vs)) (k:∀{es e},h.get? a=some (bp es e)->ks.Nodup->bM c σ Z h ks vs es->G):G:=(I.obj e).inv k
theorem Inv.inst {G:Prop} (I:Inv c σ Z h) {a C dx:Addr} {as:List (Nat×V)} (e:σ a=some (.inst C dx as)) (k:∀{es e},h.get? a=some (uh C dx)->σ dx=some (.cx a)->(as.map (·.1)).Nodup->h.get? dx=some (bp es e)->bM c σ Z h (as.map λp=> .str p.1) (as.map (·.2)) es->G):G:=(I.obj e).inv k
theorem d_ {α:Type} {l:List α} {i:Nat} (h:i<l.length):l[i]? =some l[i]:=dR h
theorem gu {α:Type} {l:List α} {i:Nat} {x:α} (h:l[i]? =some x):i<l.length:=(qS.mp h).1
theorem aO.nil:aO c σ Z h [] []:=⟨rfl,nofun⟩
theorem aO.cons (r:Rv c σ Z h x v) (l:aO c σ Z h xs vs):aO c σ Z h (x::xs) (v::vs):=
 ⟨aE Nat.succ l.len,λ{i}=>Nat.casesOn i (λe e'=>cL e▸cL e'▸r) λzz e e'=>l.at_ e e'⟩
@[elab_as_elim] theorem aO.nil_inv {us:List Value} {G:List Value->Prop} (r:aO c σ Z h [] us) (k:G []):G us:=f9 r.len.symm▸k
@[elab_as_elim] theorem aO.cons_inv {x:V} {xs:List V} {us:List Value} {G:List Value->Prop} (r:aO c σ Z h (x::xs) us) (k:∀{u us},Rv c σ Z h x u->aO c σ Z h xs us->G (u::us)):G us:=by
 cases us with
 |nil=>exact absurd r.len nofun
 |cons u us=>exact k (r.at_ (i:=0) rfl rfl) ⟨d7 r.len,λ{i _ _} e e'=>r.at_ (i:=i+1) e e'⟩
@[elab_as_elim] theorem aO.Ey {u:Value} {xs:List V} {us:List Value} {G:List V->Prop} (r:aO c σ Z h xs (u::us)) (k:∀{x xs},Rv c σ Z h x u->aO c σ Z h xs us->G (x::xs)):G xs:=by
 cases xs with
 |nil=>exact absurd r.len nofun
 |cons x xs=>exact k (r.at_ (i:=0) rfl rfl) ⟨d7 r.len,λ{i _ _} e e'=>r.at_ (i:=i+1) e e'⟩
@[elab_as_elim] theorem aO.one {x:V} {us:List Value} {G:List Value->Prop} (r:aO c σ Z h [x] us) (k:∀{u},Rv c σ Z h x u->G [u]):G us:=r.cons_inv λa l=>l.nil_inv (k a)
@[elab_as_elim] theorem aO.two {x y:V} {us:List Value} {G:List Value->Prop} (r:aO c σ Z h [x,y] us) (k:∀{u v},Rv c σ Z h x u->Rv c σ Z h y v->G [u,v]):G us:=r.cons_inv λa l=>l.one λb=>k a b
theorem aO.get {xs:List V} {vs:List Value} {i:Nat} {x:V} {G:Prop} (r:aO c σ Z h xs vs) (e:xs[i]? =some x) (k:∀{u},vs[i]? =some u->Rv c σ Z h x u->G):G:=
 have g:=d_ (r.len▸gu e);k g (r.at_ e g)
theorem aO.of_get {xs:List V} {vs:List Value} {i:Nat} {u:Value} {G:Prop} (r:aO c σ Z h xs vs) (e:vs[i]? =some u) (k:∀{x},xs[i]? =some x->Rv c σ Z h x u->G):G:=
 have g:=d_ (r.len.symm▸gu e);k g (r.at_ g e)
theorem aO.append {xs ys:List V} {vs ws:List Value} (a:aO c σ Z h xs vs) (b:aO c σ Z h ys ws):aO c σ Z h (xs++ys) (vs++ws):=by
 induction xs generalizing vs with
 |nil=>exact a.nil_inv b
 |cons x xs ih=>exact a.cons_inv λr l=> .cons r (ih l)
theorem aO.take {xs:List V} {vs:List Value} (a:aO c σ Z h xs vs) (n:Nat):aO c σ Z h (xs.take n) (vs.take n):=by
 induction xs generalizing vs n with
 |nil=>exact a.nil_inv (by rw [List.take_nil,List.take_nil];exact .nil)
 |cons x xs ih=>cases n with
  |zero=>exact .nil
  |succ n=>exact a.cons_inv λr l=> .cons r (ih l n)
theorem aO.tail {xs:List V} {vs:List Value} (a:aO c σ Z h xs vs):aO c σ Z h xs.tail vs.tail:=by
 cases xs with
 |nil=>exact a.nil_inv .nil
 |cons x xs=>exact a.cons_inv λzz l=>l
theorem bM.nil:bM c σ Z h [] [] []:=⟨rfl,rfl,nofun,nofun,nofun,nofun⟩
theorem bM.cons (hk:Rv c σ Z h k en.key) (hv:Rv c σ Z h v en.val) (hh:en.hash=vh c.w.params k) (ho:aR 8 k=true) (l:bM c σ Z h ks vs es):bM c σ Z h (k::ks) (v::vs) (en::es):=
 ⟨aE Nat.succ l.lk,aE Nat.succ l.lv,λ{i}=>Nat.casesOn i (λe e'=>cL e▸cL e'▸hk) λzz e e'=>l.key e e',λ{i}=>Nat.casesOn i (λe e'=>cL e▸cL e'▸hv) λzz e e'=>l.val e e',
  λ{i}=>Nat.casesOn i (λe e'=>cL e▸cL e'▸hh) λzz e e'=>l.nq e e',λ{i}=>Nat.casesOn i (λe=>cL e▸ho) λzz e=>l.ok e⟩
@[elab_as_elim] theorem bM.cons_inv {ks vs:List V} {en:DictEntry} {es:List DictEntry} {G:List V->List V->Prop} (r:bM c σ Z h ks vs (en::es)) (q:∀{k v ks vs},Rv c σ Z h k en.key->Rv c σ Z h v en.val->en.hash=vh c.w.params k->aR 8 k=true->bM c σ Z h ks vs es->G (k::ks) (v::vs)):G ks vs:=by
 cases ks with
 |nil=>exact absurd r.lk nofun
 |cons k ks=>cases vs with
  |nil=>exact absurd r.lv nofun
  |cons v vs=>exact q (r.key (i:=0) rfl rfl) (r.val (i:=0) rfl rfl) (r.nq (i:=0) rfl rfl) (r.ok (i:=0) rfl) ⟨d7 r.lk,d7 r.lv,λ{i}=>r.key (i:=i+1),λ{i}=>r.val (i:=i+1),λ{i}=>r.nq (i:=i+1),λ{i}=>r.ok (i:=i+1)⟩
@[elab_as_elim] theorem bM.nil_inv {ks vs:List V} {G:List V->List V->Prop} (r:bM c σ Z h ks vs []) (k:G [] []):G ks vs:=f9 r.lk▸f9 r.lv▸k
theorem bM.append {ks vs oL ye:List V} {es d5:List DictEntry} (a:bM c σ Z h ks vs es) (b:bM c σ Z h oL ye d5):bM c σ Z h (ks++oL) (vs++ye) (es++d5):=by
 induction es generalizing ks vs with
 |nil=>exact a.nil_inv b
 |cons en es ih=>exact a.cons_inv λh1 h2 h3 h4 l=> .cons h1 h2 h3 h4 (ih l)
theorem bM.at_ {ks vs:List V} {es:List DictEntry} {i:Nat} {en:DictEntry} {G:Prop} (r:bM c σ Z h ks vs es) (e:es[i]? =some en) (k:∀{k v},ks[i]? =some k->vs[i]? =some v->Rv c σ Z h k en.key->Rv c σ Z h v en.val->en.hash=vh c.w.params k->aR 8 k=true->G):G:=
 have a:=d_ (r.lk.symm▸gu e);have b:=d_ (r.lv.symm▸gu e);k a b (r.key a e) (r.val b e) (r.nq a e) (r.ok a)
theorem bM.to {ks vs:List V} {es:List DictEntry} {i:Nat} {k:V} {G:Prop} (r:bM c σ Z h ks vs es) (e:ks[i]? =some k) (q:∀{en v},es[i]? =some en->vs[i]? =some v->Rv c σ Z h k en.key->Rv c σ Z h v en.val->en.hash=vh c.w.params k->G):G:=
 have a:=d_ (r.lk▸gu e);have b:=d_ (r.lv.symm▸gu a);q a b (r.key e a) (r.val b a) (r.nq e a)
theorem bM.set {ks vs:List V} {es:List DictEntry} {v:V} {u:Value} (r:bM c σ Z h ks vs es) (hv:Rv c σ Z h v u) (j:Nat):bM c σ Z h ks (vs.set j v) (es.modify j λe=>{e with val:=u}):=by
 induction es generalizing ks vs j with
 |nil=>exact r.nil_inv (by rw [List.modify_nil];exact .nil)
 |cons en es ih=>exact r.cons_inv λh1 h2 h3 h4 l=>Nat.casesOn j (.cons h1 hv h3 h4 l) λj=> .cons h1 h2 h3 h4 (ih l j)
theorem bM.keys {ks vs:List V} {es:List DictEntry} (r:bM c σ Z h ks vs es):aO c σ Z h ks (es.map (·.key)):=by
 induction es generalizing ks vs with
 |nil=>exact r.nil_inv .nil
 |cons en es ih=>exact r.cons_inv λh1 zz zz zz l=> .cons h1 (ih l)
theorem bM.vals {ks vs:List V} {es:List DictEntry} (r:bM c σ Z h ks vs es):aO c σ Z h vs (es.map (·.val)):=by
 induction es generalizing ks vs with
 |nil=>exact r.nil_inv .nil
 |cons en es ih=>exact r.cons_inv λzz h1 zz zz l=> .cons h1 (ih l)
theorem bk (h:Heap):h.get? h.objs.size=none:=by
 cases e:h.get? h.objs.size with
 |none=>rfl
 |some o=>exact absurd (kY e) (tS _)
theorem cq (e:h.get? a=none) (e':h.get? b=some o):b≠a:=λq=>nomatch (q▸e').symm.trans e
theorem Al.ne (x:Al c h a) (e:h.get? b=none):a≠b:=x.ex.elim λzz q=>cq e q
theorem Inv.zp (I:Inv c σ Z h) (z:Z a):σ a=none:=by
 cases e:σ a with
 |none=>rfl
 |some mo=>exact absurd z (I.nz e)
theorem Inv.fresh (I:Inv c σ Z h) (ha:h.get? a=none):σ a=none:=by
 cases e:σ a with
 |none=>rfl
 |some mo=>exact absurd rfl ((I.jX e).ne ha)
theorem Inv.iC (I:Inv c σ Z h) (ha:h.get? a=none):¬Z a:=λz=>(I.res z).ne ha rfl
theorem Inv.rP (I:Inv c σ Z h) (ha:h.get? a=none):c.H0.get? a=none:=by
 cases e:c.H0.get? a with
 |none=>rfl
 |some o=>exact absurd rfl (cq ha (I.top e))
theorem Inv.tl (I:Inv c σ Z h) (ha:c.H0.get? a=some o):Fz σ Z h a o:=by
 refine⟨I.top ha, ?_,λz=>cq (I.res z).new ha rfl⟩;cases e:σ a with
 |none=>rfl
 |some mo=>exact absurd rfl (cq (I.jX e).new ha)
theorem Inv.lW (I:Inv c σ Z h):c.F.In h:=c.fin.keeps λzz zz e=>I.top e
theorem Inv.sys (I:Inv c σ Z h) (ha:c.H0.get? a=none):a≠sysModules:=λq=>c.hS.elim λzz e=>cq ha e q.symm
theorem EO (σ:St) (a:Addr) (mo:MO):upd σ a mo a=some mo:=aF rfl
theorem rI (n:b≠a):upd σ a mo b=σ b:=aB n
theorem zS (σ:St) (a:Addr):del σ a a=none:=aF rfl
theorem Hp (n:b≠a):del σ a b=σ b:=aB n
theorem bt (h:Heap) (o:Obj):∀b o',h.get? b=some o'->(h.push o).get? b=some o':=λzz zz e=>Heap.get?_push_of_some o e
structure qR (σ:St) (Z:Addr->Prop) (h:Heap) (a8:St) (Z':Addr->Prop) (h':Heap) (T:Addr->Prop):Prop where
 k:∀{b o},¬T b->h.get? b=some o->h'.get? b=some o
 s:∀{b},¬T b->a8 b=σ b
 t:∀{b o},T b->¬Fz σ Z h b o
 z:∀{b},Z' b->Z b\/h.get? b=none
theorem qR.mv (x:qR σ Z h a8 Z' h' T):Mv σ Z h a8 Z' h':=λf=>have n:=λq=>x.t q f;⟨x.k n f.at_,(x.s n).trans f.own,λz=>(x.z z).elim f.nz λe=>cq e f.at_ rfl⟩
open Classical in
theorem qR.inv (x:qR σ Z h a8 Z' h' T) (I:Inv c σ Z h) (hd:∀{a dx},T dx->σ dx=some (.cx a)->T a)
  (n:∀{a mo},T a->a8 a=some mo->Al c h' a/\¬Z' a/\Ro c a8 Z' h' a mo) (r:∀{a},Z' a->(T a\/¬Z a)->Al c h' a):Inv c a8 Z' h':=by
 have al:∀{a},¬T a->Al c h a->Al c h' a:=λn y=>⟨y.new,y.ex.elim λo e=>⟨o,x.k n e⟩⟩;have sg:∀{a mo},¬T a->a8 a=some mo->σ a=some mo:=λn e=>(x.s n).symm.trans e;refine⟨λe=>(x.mv (I.tl e)).at_,λ{a mo} e=> ?_,λ{a mo} e=> ?_,λ{a} z=> ?_,λ{a mo} e=> ?_⟩
 ·by_cases q:T a
  ·exact(n q e).1
  ·exact al q (I.jX (sg q e))
 ·by_cases q:T a
  ·exact(n q e).2.1
  ·exact λz=>(x.z z).elim (I.nz (sg q e)) λg=>(I.jX (sg q e)).ne g rfl
 ·by_cases q:T a
  ·exact r z (.inl q)
  ·exact(Classical.em (Z a)).elim (λy=>al q (I.res y)) λy=>r z (.inr y)
 ·by_cases q:T a
  ·exact(n q e).2.2
  ·exact Ro.casesOn (I.obj (sg q e)) (λho l=> .list (x.k q ho) (l.mono x.mv)) (λho n l=> .dict (x.k q ho) n (l.mono x.mv)) (λho y n he l=>have w:=λt=>q (hd t y); .inst (x.k q ho) ((x.s w).trans y) n (x.k w he) (l.mono x.mv)) λb=> .cx b
end
noncomputable def MO.tg (a:MO):Nat:=a.casesOn (λ_=>0) (λ_ _=>1) (λ_ _ _=>2) λ_=>3
noncomputable def V.tg (a:V):Nat:=a.casesOn (motive_1:=λ_=>Nat) 0 (λ_=>1) (λ_=>2) (λ_=>3) (λ_=>4) (λ_=>5) (λ_ _=>6) (λ_ _=>7) (λ_=>8) λ_ _=>9
theorem bK{α:Type _}{x:α}{G:Prop} (h:none=some x):G:=nomatch h
theorem cy{α:Type _}{x:α}{G:Prop} (h:some x=none):G:=nomatch h
theorem jT{α:Type _}{x:α}{G:Prop} (h:x∈([]:List α)):G:=nomatch h
theorem Zc{α:Type _}{x:α}{l:List α}{G:Prop} (h:[]=x::l):G:=nomatch h
theorem lU{α:Type _}{x:α}{l:List α}{G:Prop} (h:x::l=[]):G:=nomatch h
theorem de{G:Prop} (h:false=true):G:=nomatch h
theorem eh{n:Nat}{G:Prop} (h:n+1=0):G:=nomatch h
theorem kI{n:Nat}{G:Prop} (h:0=n+1):G:=nomatch h
theorem a_{a b:MO}{G:Prop} (h:a=b) (n:Nat.beq a.tg b.tg=false):G:=by subst h;exact de (n.symm.trans (Nat.beq_refl _))
theorem CD{a b:MO}{G:Prop} (h:some a=some b) (n:Nat.beq a.tg b.tg=false):G:=a_ (cL h) n
theorem i5{a b:V}{G:Prop} (h:a=b) (n:Nat.beq a.tg b.tg=false):G:=by subst h;exact de (n.symm.trans (Nat.beq_refl _))
structure aA (c:Cx) (Z X:Addr->Prop) (σ:St) (s:Shared) (a8:St) (s':Shared):Prop where
 inv:Inv c a8 Z s'.heap
 keep:Mv σ X s.heap a8 X s'.heap
 gens:s'.gens=s.gens
 os:s'.os=s.os
def X0:Addr->Prop:=λzz=>False
def Zp (Z:Addr->Prop) (p:Addr):Addr->Prop:=λa=>Z a\/a=p
section
variable{c:Cx} {σ a8 ot:St} {Z Z' X X':Addr->Prop} {s s' oG aC:Shared} {h h':Heap} {a b d p:Addr} {mo:MO} {o:Obj}
theorem Mv.sub (m:Mv σ X h a8 X h') (hx:∀b,X b->Z b):Mv σ Z h a8 Z h':=λf=>have g:=m ⟨f.at_,f.own,λx=>f.nz (hx _ x)⟩;⟨g.at_,g.own,f.nz⟩
theorem Mv.grow (k:∀b o,h.get? b=some o->h'.get? b=some o) (z:∀b,Z' b->Z b\/h.get? b=none):Mv σ Z h σ Z' h':=λf=>⟨k _ _ f.at_,f.own,λy=>(z _ y).elim f.nz λe=>cq e f.at_ rfl⟩
theorem Mv.push (o:Obj):Mv σ Z h σ Z (h.push o):=Mv.grow (bt h o) λzz=> .inl
theorem aA.refl (I:Inv c σ Z s.heap):aA c Z X σ s σ s:=⟨I,λf=>f,rfl,rfl⟩
theorem aA.trans (a:aA c Z X σ s a8 s') (b:aA c Z' X a8 s' ot oG):aA c Z' X σ s ot oG:=⟨b.inv,λf=>b.keep (a.keep f),b.gens.trans a.gens,b.os.trans a.os⟩
theorem aA.wide (a:aA c Z X σ s a8 s') (hx:∀b,X b->X' b):aA c Z X' σ s a8 s':=⟨a.inv,Mv.sub a.keep hx,a.gens,a.os⟩
theorem aA.gF (a:aA c Z X0 σ s a8 s'):aA c Z X σ s a8 s':=a.wide λzz x=>x.elim
theorem aA.mv (a:aA c Z X σ s a8 s') (hx:∀b,X b->Z b):Mv σ Z s.heap a8 Z s'.heap:=Mv.sub a.keep hx
theorem aA.oJ (a:aA c Z X0 σ s a8 s'):Mv σ Z s.heap a8 Z s'.heap:=Mv.sub a.keep λzz x=>x.elim
theorem aA.rv (a:aA c Z X0 σ s a8 s') (r:Rv c σ Z s.heap x v):Rv c a8 Z s'.heap x v:=r.mono a.oJ
theorem aA.uZ (a:aA c Z X0 σ s a8 s') (r:aO c σ Z s.heap x v):aO c a8 Z s'.heap x v:=r.mono a.oJ
theorem aA.at_ (a:aA c Z X0 σ s a8 s') (e:s.heap.get? b=some o) (n:σ b=none):s'.heap.get? b=some o:=(a.keep ⟨e,n,id⟩).at_
theorem aA.tok (I:Inv c σ Z s.heap) (t:Nat):aA c Z X σ s σ {s with toks:=t}:=⟨I,λf=>f,rfl,rfl⟩
theorem Inv.same (I:Inv c σ Z h) {T:Addr->Prop} (tz:∀b,T b->Z b) (k:∀b o,¬T b->h.get? b=some o->h'.get? b=some o) (z:∀b,Z' b->Z b\/h.get? b=none)
  (r:∀b,Z' b->(T b\/¬Z b)->∃o,h'.get? b=some o):Inv c σ Z' h':=
 qR.inv (T:=T) ⟨k _ _,λzz=>rfl,λt f=>f.nz (tz _ t),z _⟩ I (λt e=>bK ((I.zp (tz _ t)).symm.trans e)) (λt e=>bK ((I.zp (tz _ t)).symm.trans e))
  λy q=>⟨(z _ y).elim (λy=>(I.res y).new) I.rP,r _ y q⟩
theorem Inv.grow (I:Inv c σ Z h) (k:∀b o,h.get? b=some o->h'.get? b=some o):Inv c σ Z h':=I.same (T:=X0) (λ_ h=>False.elim h) (λb o zz=>k b o) (λzz=> .inl) λzz z q=>q.elim False.elim (absurd z)
theorem aA.grow (I:Inv c σ Z s.heap) (k:∀b o,s.heap.get? b=some o->h'.get? b=some o):aA c Z X σ s σ {s with heap:=h',toks:=t}:=⟨I.grow k,Mv.grow k λzz=> .inl,rfl,rfl⟩
theorem aA.push (I:Inv c σ Z s.heap) (o:Obj):aA c Z X σ s σ {s with heap:=s.heap.push o}:=⟨I.grow (bt _ o),Mv.push o,rfl,rfl⟩
theorem Fz.new (I:Inv c σ Z h) (ho:o.isFreed=false):Fz σ Z (h.push o) h.objs.size o:=⟨cb _ ho,I.fresh (bk h),I.iC (bk h)⟩
theorem Inv.less (I:Inv c σ Z' h) (hz:∀b,Z b->Z' b):Inv c σ Z h:=I.same (T:=X0) (λ_ h=>False.elim h) (λzz zz zz e=>e) (λb z=> .inl (hz b z)) λb z q=>q.elim False.elim λn=>absurd (hz b z) n
theorem Mv.less (hz:∀b,Z b->Z' b):Mv σ Z' h σ Z h:=λf=>⟨f.at_,f.own,λz=>f.nz (hz _ z)⟩
theorem EJ (z:Zp Z h.objs.size b):Z b\/h.get? b=none:=Or.imp_right (λ(e:b=_)=>e▸bk h) z
theorem rL (o:Obj):Mv σ Z h σ (Zp Z h.objs.size) (h.push o):=Mv.grow (bt h o) λzz=>EJ
theorem Inv.mm (I:Inv c σ Z h) (ho:o.isFreed=false):Inv c σ (Zp Z h.objs.size) (h.push o):=
 I.same (T:=X0) (λ_ h=>False.elim h) (λb o' zz=>bt h o b o') (λzz=>EJ) λb (z:Zp Z _ b) q=>q.elim False.elim λn=>(Or.resolve_left z n:b=_)▸⟨_,cb _ ho⟩
theorem Inv.but (I:Inv c σ Z h) (z:Z d) (hs:Heap.ExtBut d h h') (hx:∃o,h'.get? d=some o):Inv c σ Z h':=
 I.same (T:=λb=>b=d) (λb (e:b=d)=>e▸z) hs (λzz=> .inl) λb z q=>q.elim (λ(e:b=d)=>e▸hx) (absurd z)
theorem Mv.but (z:Z d) (hs:Heap.ExtBut d h h'):Mv σ Z h σ Z h':=λf=>⟨hs _ _ (λe=>f.nz (e▸z)) f.at_,f.own,f.nz⟩
theorem aA.but (I:Inv c σ Z s.heap) (z:Z d) (hs:Heap.ExtBut d s.heap h') (hx:∃o,h'.get? d=some o) (hX:X d):aA c Z X σ s σ {s with heap:=h',toks:=t}:=⟨I.but z hs hx,Mv.but hX hs,rfl,rfl⟩
theorem Inv.sE (I:Inv c σ Z' h) {Y:Addr->Prop} (hz:∀b,Z b->Z' b/\¬Y b) (zy:∀b,Y b->Z' b) (hs:∀b o,¬Y b->h.get? b=some o->h'.get? b=some o):Inv c σ Z h':=
 I.same zy hs (λb z=> .inl (hz b z).1) λb z q=>q.elim (λy=>absurd y (hz b z).2) λn=>absurd (hz b z).1 n
theorem Mv.sE {Y:Addr->Prop} (hz:∀b,Z b->Z' b) (zy:∀b,Y b->Z' b) (hs:∀b o,¬Y b->h.get? b=some o->h'.get? b=some o):Mv σ Z' h σ Z h':=λf=>⟨hs _ _ (λy=>f.nz (zy _ y)) f.at_,f.own,λz=>f.nz (hz _ z)⟩
theorem Mv.iY (hs:Heap.ExtBut p h h'):Mv σ (Zp Z p) h σ Z h':=Mv.sE (λzz=> .inl) (λzz=> .inr) hs
theorem Inv.iY (I:Inv c σ (Zp Z p) h) (nz:¬Z p) (hs:Heap.ExtBut p h h'):Inv c σ Z h':=I.sE (Y:=λb=>b=p) (λb z=>⟨.inl z,λ(e:b=p)=>nz (e▸z)⟩) (λzz=> .inr) hs
theorem aA.xp {Y:Addr->Prop} (st:aA c Z' X' σ aC a8 s') (k:∀b o,s.heap.get? b=some o->aC.heap.get? b=some o) (hz:∀b,Z b->Z' b/\¬Y b) (zy:∀b,Y b->Z' b)
  (hs:∀b o,¬Y b->s'.heap.get? b=some o->h'.get? b=some o) (hy:∀b,Y b->s.heap.get? b=none) (hx:∀b o,s.heap.get? b=some o->X' b->X b) (hg:aC.gens=s.gens) (ho:aC.os=s.os) {t:Nat}:aA c Z X σ s a8 {s' with heap:=h',toks:=t}:=
 ⟨st.inv.sE hz zy hs,λ{b _} f=>have r:=st.keep (b:=b) ⟨k _ _ f.at_,f.own,λy=>f.nz (hx _ _ f.at_ y)⟩;⟨hs _ _ (λy=>cq (hy _ y) f.at_ rfl) r.at_,r.own,f.nz⟩,st.gens.trans hg,st.os.trans ho⟩
theorem aA.Hs (st:aA c Z' X' σ aC a8 s') (k:∀b o,s.heap.get? b=some o->aC.heap.get? b=some o) (hz:∀b,Z b->Z' b) (hx:∀b o,s.heap.get? b=some o->X' b->X b) (hg:aC.gens=s.gens) (ho:aC.os=s.os):aA c Z X σ s a8 s':=
 st.xp (Y:=X0) (t:=s'.toks) k (λb z=>⟨hz b z,id⟩) (λ_ h=>False.elim h) (λzz zz zz e=>e) (λ_ h=>False.elim h) hx hg ho
theorem AD (e:h.get? b=some o) (y:Zp X h.objs.size b):X b:=y.elim id λq=>absurd q (cq (bk h) e)
theorem aA.close (st:aA c (Zp Z s.heap.objs.size) (Zp X s.heap.objs.size) σ {s with heap:=s.heap.push o} a8 s'):aA c Z X σ s a8 s':=
 st.Hs (bt _ o) (λzz=> .inl) (λzz zz e y=>AD e y) rfl rfl
theorem aA.iY (nz:¬Z s.heap.objs.size) (st:aA c (Zp Z s.heap.objs.size) (Zp X s.heap.objs.size) σ {s with heap:=s.heap.push o} a8 s') (hs:Heap.ExtBut s.heap.objs.size s'.heap h') {t:Nat}:aA c Z X σ s a8 {s' with heap:=h',toks:=t}:=
 st.xp (Y:=λb=>b=s.heap.objs.size) (bt _ o) (λb z=>⟨.inl z,λ(e:b=_)=>nz (e▸z)⟩) (λzz=> .inr) hs (λb (e:b=_)=>e▸bk _) (λzz zz e y=>AD e y) rfl rfl
theorem Inv.upd (I:Inv c σ Z h) {T:Addr->Prop} (ta:T a) (to:∀b,T b->b≠a->σ b=some (.cx a)) (na:∀b,σ a≠some (.cx b)) (t:∀o,¬Fz σ Z h a o) (k:∀b o,¬T b->h.get? b=some o->h'.get? b=some o)
  (z:∀b,Z' b->Z b/\b≠a) (n:c.H0.get? a=none) (ex:∀b,T b->∃o,h'.get? b=some o) (r:Ro c (upd σ a mo) Z' h' a mo):Inv c (upd σ a mo) Z' h':=by
 refine qR.inv (T:=T) ⟨k _ _,λ{b} q=>rI λ(e:b=a)=>q (e▸ta),λ{b o} tb f=> ?_,λy=> .inl (z _ y).1⟩ I (λ{b dx} tb e=> ?_) (λ{b m} tb e=> ?_) λ{b} y q=> ?_
 ·by_cases e:b=a
  ·subst e;exact t o f
  ·exact cy ((to b tb e).symm.trans f.own)
 ·by_cases q:dx=a
  ·subst q;exact absurd e (na b)
  ·have:=(to dx tb q).symm.trans e
   injection this with this;injection this with this;exact this▸ta
 ·by_cases q:b=a
  ·subst q
   rw [EO] at e;exact⟨⟨n,ex _ tb⟩,λy=>(z _ y).2 rfl,cL e▸r⟩
  ·have y:=to b tb q
   rw [rI q,y] at e;exact⟨⟨(I.jX y).new,ex _ tb⟩,λw=>I.nz y (z _ w).1,cL e▸ .cx a⟩
 ·have y':=z _ y
  exact⟨(I.res y'.1).new,q.elim (ex b) λw=>absurd y'.1 w⟩
theorem Mv.upd {T:Addr->Prop} (ta:T a) (t:∀b o,T b->¬Fz σ Z h b o) (k:∀b o,¬T b->h.get? b=some o->h'.get? b=some o) (z:∀b,Z' b->Z b):Mv σ Z h (upd σ a mo) Z' h':=
 λ{b _} f=>have n:=λy=>t _ _ y f;⟨k _ _ n f.at_,(rI λ(e:b=a)=>n (e▸ta)).trans f.own,λy=>f.nz (z _ y)⟩
theorem Mv.alloc:Mv σ Z h (Internal.upd σ h.objs.size mo) Z (h.push o):=Mv.upd (T:=λb=>b=h.objs.size) rfl (λb zz (e:b=_) f=>cq (bk h) f.at_ e) (λb o' zz=>bt h o b o') λzz=>id
theorem aA.alloc (I:Inv c σ Z s.heap) (ho:o.isFreed=false) (hr:Ro c (upd σ s.heap.objs.size mo) Z (s.heap.push o) s.heap.objs.size mo):aA c Z X σ s (upd σ s.heap.objs.size mo) {s with heap:=s.heap.push o}:=
 ⟨I.upd (T:=λb=>b=s.heap.objs.size) rfl (λb e n=>absurd e n) (λb e=>bK ((I.fresh (bk _)).symm.trans e)) (λzz f=>cq (bk _) f.at_ rfl) (λb o' zz=>bt _ o b o') (λb z=>⟨z,λ(e:b=_)=>I.iC (bk _) (e▸z)⟩) (I.rP (bk _))
  (λb (e:b=_)=>e▸⟨_,cb _ ho⟩) hr,Mv.alloc,rfl,rfl⟩
theorem Mv.change (ha:σ a=some mo) (hd:d=a\/σ d=some (.cx a)) (hs:Heap.SameBut d h h'):Mv σ Z h (Internal.upd σ a qB) Z h':=
 Mv.upd (T:=λb=>b=a\/b=d) (.inl rfl) (λb zz e f=>by
  have na:b≠a:=λq=>cy ((q▸ha).symm.trans f.own);rcases hd with q|q
  ·exact na (e.elim id λw=>w.trans q)
  ·exact e.elim na λw=>cy ((w▸q).symm.trans f.own)) (λb o n e=>(hs.2 b λq=>n (.inr q)).trans e) λzz=>id
theorem aA.change (I:Inv c σ Z s.heap) (ha:σ a=some mo) (hn:∀b,mo≠ .cx b) (hd:d=a\/σ d=some (.cx a)) (hs:Heap.SameBut d s.heap h') (hx:∃o,h'.get? d=some o) 
  (hr:Ro c (upd σ a qB) Z h' a qB) {t:Nat}:aA c Z X σ s (upd σ a qB) {s with heap:=h',toks:=t}:=
 ⟨I.upd (T:=λb=>b=a\/b=d) (.inl rfl) (λb (e:b=a\/b=d) n=>(e.resolve_left n)▸hd.resolve_left λq=>n ((e.resolve_left n).trans q)) (λb e=>hn b (cL (ha.symm.trans e))) (λzz f=>cy (ha.symm.trans f.own))
  (λb o n e=>(hs.2 b λq=>n (.inr q)).trans e) (λb z=>⟨z,λ(e:b=a)=>I.nz ha (e▸z)⟩) (I.jX ha).new (λb (e:b=a\/b=d)=>by
   by_cases q:b=d
   ·exact q▸hx
   ·obtain⟨o,y⟩:=(I.jX ha).ex
    exact⟨o,(hs.2 b q).trans (e.resolve_right q▸y)⟩) hr,Mv.change ha hd hs,rfl,rfl⟩
theorem Mv.own:Mv σ (Zp Z p) h (Internal.upd σ p mo) Z h:=Mv.upd (T:=λb=>b=p) rfl (λzz zz e f=>f.nz (.inr e)) (λzz zz zz e=>e) λzz=> .inl
theorem aA.EB (z:¬Z s.heap.objs.size) (st:aA c (Zp Z s.heap.objs.size) (Zp X s.heap.objs.size) σ {s with heap:=s.heap.push o} a8 s') (r:Ro c (upd a8 s.heap.objs.size mo) Z s'.heap s.heap.objs.size mo):aA c Z X σ s (upd a8 s.heap.objs.size mo) s':=
 have I:=st.inv;have zp:=I.res (.inr rfl)
 ⟨I.upd (T:=λb=>b=s.heap.objs.size) rfl (λb e n=>absurd e n) (λb e=>bK ((I.zp (.inr rfl)).symm.trans e)) (λzz f=>f.nz (.inr rfl)) (λzz zz zz e=>e) (λb y=>⟨.inl y,λ(e:b=_)=>z (e▸y)⟩) zp.new (λb (e:b=_)=>e▸zp.ex) r,
  λ{b _} f=>have n:=cq (bk _) f.at_;have r:=st.keep (b:=b) ⟨bt _ _ _ _ f.at_,f.own,λy=>f.nz (AD f.at_ y)⟩;⟨r.at_,(rI n).trans r.own,f.nz⟩,st.gens,st.os⟩
theorem Mv.freeze (ha:σ a=some mo):Mv σ Z h (del σ a) Z h:=λf=>⟨f.at_,(Hp λe=>cy ((e▸ha).symm.trans f.own)).trans f.own,f.nz⟩
theorem aA.freeze (I:Inv c σ Z s.heap) (ha:σ a=some mo) (hn:∀b,mo≠ .cx b):aA c Z X σ s (del σ a) s:=
 ⟨qR.inv (σ:=σ) (Z:=Z) (h:=s.heap) (T:=λb=>b=a) ⟨λzz e=>e,λq=>Hp q,λ{b _} (e:b=a) f=>(cy ((e▸ha).symm.trans f.own)), .inl⟩ I (λ{b dx} (e:dx=a) y=>absurd (cL (ha.symm.trans (e▸y))) (hn _)) (λ{b _} (e:b=a) y=>by subst e;exact bK ((zS σ b).symm.trans y)) λz zz=>I.res z,Mv.freeze ha,rfl,rfl⟩
inductive bc (c:Cx) (σ:St) (Z:Addr->Prop) (h:Heap) (d:Addr) (ks vs:List V):Prop
 |mk {es:List DictEntry} {e:Nat} (ho:h.get? d=some (bp es e)) (hn:ks.Nodup) (l:bM c σ Z h ks vs es) (m:d≠sysModules)
theorem bc.el {ks vs:List V} {G:Prop} (D:bc c σ Z h d ks vs) (k:∀{es e},h.get? d=some (bp es e)->ks.Nodup->bM c σ Z h ks vs es->G):G:=D.casesOn λa b d zz=>k a b d
theorem bc.m (D:bc c σ Z h d ks vs):d≠sysModules:=D.casesOn λzz zz zz m=>m
theorem bc.nd {ks vs:List V} (D:bc c σ Z h d ks vs):ks.Nodup:=D.el λzz n zz=>n
theorem bc.typeIs {ks vs:List V} (D:bc c σ Z s.heap d ks vs):s.TypeIs (.ref d) "dict":=D.el λho zz zz=>⟨_,ho,rfl⟩
theorem bc.sys (D:bc c σ Z h d ks vs):(d==sysModules)=false:=il.mpr D.m
theorem bc.ex {ks vs:List V} (D:bc c σ Z h d ks vs):∃o,h.get? d=some o:=D.el λho zz zz=>⟨_,ho⟩
theorem bc.mono {ks vs:List V} (D:bc c σ Z h d ks vs) (k:∀o,h.get? d=some o->h'.get? d=some o) (m:Mv σ Z h a8 Z' h'):bc c a8 Z' h' d ks vs:=D.el λho n l=> .mk (k _ ho) n (l.mono m) D.m
theorem bc.new (n:h.objs.size≠sysModules):bc c σ Z (h.push (bp [] 0)) h.objs.size [] []:= .mk (cb _ rfl) cY .nil n
theorem bc.own {ks vs:List V} (D:bc c σ (Zp Z p) h p ks vs):Ro c (upd σ p (.dict ks vs)) Z h p (.dict ks vs):=D.el λho n l=> .dict ho n (l.mono Mv.own)
theorem bc.frozen {ks vs:List V} (D:bc c σ Z h d ks vs) (e:σ d=none) (n:¬Z d):Rv c σ Z h (.aN ks vs) (.ref d):=D.el λho hn l=> .Hl ⟨ho,e,n⟩ hn D.m l
end
section
open PySem PySem.W PyProof.Rows PySem.SeqAt
theorem NW:(bJ.map λs=>(Str.ofString s).cps.toList).Nodup:=by decide+kernel
theorem GG (hx:x<bJ.length):(bJ.map λs=>(Str.ofString s).cps.toList)[x]? =some (tx x).cps.toList:=by refine a6 (fc) (a6 (d_ hx) ?_);rewrite [tx];refine a6 (iM) (a6 (d_ hx) ?_);rfl
theorem jK (hx:x<bJ.length) (hy:y<bJ.length) (e:tx x=tx y):x=y:=
 (List.getElem?_inj (by rw [b0];exact hx) NW).mp ((GG hx).trans (e▸(GG hy).symm))
theorem P6:(List.range 180).all (λx=> !(tx x==("__classdict__":PySem.Str))&& !(tx x==("__debug__":PySem.Str)))=true:=by decide+kernel
theorem w8:bJ.length=180:=rfl
theorem v8 (h:r<2):r=0\/r=1:=(qT.mp h).imp_left Nat.lt_one_iff.mp
theorem yt (h:r<3):r=0\/r=1\/r=2:=(qT.mp h).elim (λh=>(v8 h).imp_right .inl) λe=> .inr (.inr e)
theorem XK (h:r<4):r=0\/r=1\/r=2\/r=3:=(qT.mp h).elim (λh=>(yt h).imp_right (·.imp_right .inl)) λe=> .inr (.inr (.inr e))
theorem Ys (h:r<6) (g:¬r<4):r=4\/r=5:=(qT.mp h).imp_left λh=>(qT.mp h).resolve_left g
theorem Yt (h:r<6) (g:¬r<3):r=3\/r=4\/r=5:=(qT.mp h).elim (λh=>(qT.mp h).elim (λh=> .inl ((qT.mp h).resolve_left g)) λe=> .inr (.inl e)) λe=> .inr (.inr e)
theorem gO (k i:Nat) (h:a<=m):k*(a+i)<=k*(m+i):=eQ k (bG h i)
theorem j0 {r x y z:Nat} (h:x+y<=z):r+x+y<=r+z:=ay (gh (bH r x y)) (aU h r)
theorem J2 {u n k c:Nat} (h:u+n+k<c):u<c:=az (ay (aY ..) (aY ..)) h
theorem Wj (h:u+(n+1)+k<c):u+1+n+k<c:=by exact a6 (bH u 1 n) (a6 (c0 1 n) h)
theorem yk (hi:i<=k) (h:u+k*(n+1)+d<c):u+i+k*n+d<c:=az (bG (j0 (ay (gh (c0 i _)) (aU hi _))) d) h
theorem Cu {u i j c:Nat} (h:u+j<c) (hi:i<=j):u+i<c:=az (aU hi u) h
theorem sA (hi:i+1<=30) (hj:j<=10):t+(1*(a+i)+3*(b+j))+1<=t+((a+30)+3*(b+10)+30):=aU (dh (dh (ay (gh (px _)) (aU (fb hi) a)) (eQ 3 (aU hj b))) (show 1<=30 by decide)) t
theorem IM (h:x.natAbs<2) (n:x≠0):x=1\/x= -1:=by
 have e:x.natAbs=1:=(v8 h).resolve_left λe=>n (Int.natAbs_eq_zero.mp e);exact(Int.natAbs_eq x).imp (·.trans (aE Int.ofNat e)) (·.trans (aE (λk:Nat=> -(k:Int)) e))
theorem fG {a b:Bool} {G:Prop} (h:(a&&b)=true) (k:a=true->b=true->G):G:=have q:=ik.mp h;k q.1 q.2
theorem aj (h:(a&&b)=true):a=true/\b=true:=ik.mp h
theorem dB (h:(!a)=true):a=false:=by cases a;rfl;cases h
theorem HM (hx:x<bJ.length):(!(tx x==("__classdict__":PySem.Str))&& !(tx x==("__debug__":PySem.Str)))=true:=cQ.mp P6 x (dK.mpr hx)
theorem UW (hx:x<bJ.length):(tx x==("__classdict__":PySem.Str))=false:=dB (aj (HM hx)).1
theorem HN (hx:x<bJ.length):(tx x==("__debug__":PySem.Str))=false:=dB (aj (HM hx)).2
noncomputable instance:DecidableEq V:=Classical.typeDecidableEq V
inductive bI (b:Bool):Nat->V->V->Prop
 |int {n:Nat} {i j:Int}:bI b n (.int i) (.int j)
 |bool {n:Nat} {i j:Bool}:bI b n (.bool i) (.bool j)
 |str {n i j:Nat}:bI b n (.str i) (.str j)
 |none {n:Nat}:bI b n .none .none
 |si {n i:Nat} {j:Int} (hb:b=false):bI b n (.str i) (.int j)
 |is {n j:Nat} {i:Int} (hb:b=false):bI b n (.int i) (.str j)
 |it {n:Nat} {i:Int} {xs:List V} (hb:b=false):bI b (n+1) (.int i) (.tup xs)
 |ti {n:Nat} {i:Int} {xs:List V} (hb:b=false):bI b (n+1) (.tup xs) (.int i)
 |st {n i:Nat} {xs:List V} (hb:b=false):bI b (n+1) (.str i) (.tup xs)
 |ts {n i:Nat} {xs:List V} (hb:b=false):bI b (n+1) (.tup xs) (.str i)
 |tup {n:Nat} {xs ys:List V} (h:∀{j:Nat} {x y},xs[j]? =some x->ys[j]? =some y->bI b n x y):bI b (n+1) (.tup xs) (.tup ys)
 |aa {n:Nat} {xs ys:List V} (h:∀{j:Nat} {x y},xs[j]? =some x->ys[j]? =some y->bI b n x y):bI b (n+1) (.aa xs) (.aa ys)
 |aN {n:Nat} {ks vs:List V} (hb:b=true) (h:∀{j:Nat} {x},vs[j]? =some x->bI b n x x):bI b (n+1) (.aN ks vs) (.aN ks vs)
theorem pG {C:Nat->V->Prop} (hi:∀{n i},C n (.int i)) (hs:∀{n i},i<bJ.length->C n (.str i)) (ht:∀{n xs},lq n xs=true->C (n+1) (.tup xs)) {n:Nat} {x:V}:aR n x=true->C n x:=
 V.casesOn (motive_1:=λx=>aR n x=true->C n x) x de (λ_=>de) (λzz zz=>hi) (λzz h=>hs (bY h)) (λzz=>Nat.casesOn (motive:=λn=>aR n (.tup _)=true->C n (.tup _)) n de λzz=>ht) (λ_=>de) (λ_ _=>de) (λ_ _=>de) (λ_=>de) (λ_ _=>de)
theorem G9 {n:Nat} {xs:List V} (h:lq n xs=true) {j:Nat} {x:V} (e:xs[j]? =some x):aR n x=true:=by
 induction xs generalizing j with
 |nil=>exact bK e
 |cons y xs ih=>
  induction j with
  |zero=>exact cL e▸(aj h).1
  |succ j=>exact ih (aj h).2 e
theorem Ae {C:Nat->V->Prop} (hi:∀{n i},C n (.int i)) (hs:∀{n i},i<bJ.length->C n (.str i)) (ht:∀{n xs},(∀{j:Nat} {x},xs[j]? =some x->C n x)->C (n+1) (.tup xs)) {n:Nat} {x:V}:aR n x=true->C n x:=by
 induction n generalizing x with
 |zero=>exact λh=>pG (C:=λn x=>n=0->C n x) (λzz=>hi) (λh zz=>hs h) (λzz=>eh) h rfl
 |succ m ih=>exact λh=>pG (C:=λn x=>n=m+1->C n x) (λzz=>hi) (λh zz=>hs h) (λk e=>ht λa=>d7 e▸ih (d7 e▸G9 k a)) h rfl
theorem Fv (hx:aR n x=true):aR n y=true->bI false n x y:=
 Ae (C:=λn x=>∀{y},aR n y=true->bI false n x y) (pG (C:=λn y=>bI false n (.int _) y) .int (λzz=> .is rfl) λzz=> .it rfl) (λzz=>pG (C:=λn y=>bI false n (.str _) y) (.si rfl) (λzz=> .str) λzz=> .st rfl)
  (λ{n _} ih {y} h=>pG (C:=λm y=>m=n+1->bI false (n+1) (.tup _) y) (λzz=> .ti rfl) (λzz zz=> .ts rfl) (λk e=> .tup λa b=>ih a (d7 e▸G9 k b)) h rfl) hx
noncomputable def VU:Value->Int| .int i _=>i|_=>0
noncomputable def VV:Value->Bool| .bool b=>b|_=>false
noncomputable def VT:Value->Str| .str x _=>x|_=>⟨#[]⟩
noncomputable def CI:Value->Nat| .int _ _=>0| .str _ _=>1|_=>2
noncomputable def BN:Option Obj->List Value|some ⟨_,_, .seq vs _,_⟩=>vs.toList|_=> []
noncomputable def HQ (h:Heap):Value->List Value| .ref a=>BN (h.get? a)|_=> []
section
variable{c:Cx} {Z X:Addr->Prop} {σ a8:St} {h h':Heap} {s:Shared} {A:Around} {x y:V} {u v:Value} {xs ys ks vs:List V} {i j n:Nat} {b:Bool}
theorem Rv.vi {i:Int} (r:Rv c σ Z h (.int i) u):VU u=i/\CI u=0:=r.int_inv λzz=>⟨rfl,rfl⟩
theorem Rv.ox (r:Rv c σ Z h (.str i) u):i<bJ.length/\VT u=tx i/\CI u=1:=r.str_inv λh zz=>⟨h,rfl,rfl⟩
theorem Rv.vb (r:Rv c σ Z h (.bool b) u):VV u=b:=r.bool_inv rfl
theorem Rv.vt (r:Rv c σ Z h (.tup xs) u):aO c σ Z h xs (HQ h u)/\CI u=2:=r.cR λ{a _ _} f l=>⟨(f.at_▸l:aO c σ Z h xs (BN (h.get? a))),rfl⟩
theorem Rv.vf (r:Rv c σ Z h (.aa xs) u):aO c σ Z h xs (HQ h u):=r.je λ{a _ _} f l=>(f.at_▸l:aO c σ Z h xs (BN (h.get? a)))
theorem aO.Hg (a:aO c σ Z h xs us) (b:aO c σ Z h ys us) (k:∀{j:Nat} {x y u},xs[j]? =some x->ys[j]? =some y->Rv c σ Z h x u->Rv c σ Z h y u->x=y):xs=ys:=
 List.ext_getElem (a.len.trans b.len.symm) λzz h1 h2=>have g:=d_ (a.len▸h1);k (d_ h1) (d_ h2) (a.at_ (d_ h1) g) (b.at_ (d_ h2) g)
theorem bI.inj (m:bI b n x y) (r1:Rv c σ Z h x u) (r2:Rv c σ Z h y u):x=y:=by
 induction m generalizing u with
 |int=>exact aE V.int (r1.vi.1.symm.trans r2.vi.1)
 |bool=>exact aE V.bool (r1.vb.symm.trans r2.vb)
 |str=>exact aE V.str (jK r1.ox.1 r2.ox.1 (r1.ox.2.1.symm.trans r2.ox.2.1))
 |none=>rfl
 |si=>exact eh (r1.ox.2.2.symm.trans r2.vi.2)
 |is=>exact kI (r1.vi.2.symm.trans r2.ox.2.2)
 |it=>exact kI (r1.vi.2.symm.trans r2.vt.2)
 |ti=>exact eh (r1.vt.2.symm.trans r2.vi.2)
 |st=>exact nomatch r1.ox.2.2.symm.trans r2.vt.2
 |ts=>exact nomatch r1.vt.2.symm.trans r2.ox.2.2
 |tup _ ih=>exact aE V.tup (r1.vt.1.Hg r2.vt.1 λa b=>ih a b)
 |aa _ ih=>exact aE V.aa (r1.vf.Hg r2.vf λa b=>ih a b)
 |aN=>rfl
theorem wJ [Decidable p] [Decidable q] (h:p↔q):decide p=decide q:=fA.mpr h
theorem Ay {α:Type} [BEq α] [LawfulBEq α] {a b:α} {p:Prop} [Decidable p] (h:a=b↔p):(a==b)=decide p:=by
 by_cases q:a=b
 ·exact a6 (bQ (h.mp q)) (b7.mpr q)
 ·exact a6 (dD (mt h.mpr q)) (il.mpr q)
theorem Gf {i j:Int}:(i==j)=decide (V.int i=V.int j):=Ay ⟨aE _,V.int.inj⟩
theorem Fw {i j:Bool}:(i==j)=decide (V.bool i=V.bool j):=Ay ⟨aE _,V.bool.inj⟩
theorem FG (hi:i<bJ.length) (hj:j<bJ.length):(tx i==tx j)=decide (V.str i=V.str j):=Ay ⟨λe=>aE _ (jK hi hj e),λe=>aE tx (V.str.inj e)⟩
theorem all_range {α:Type} [DecidableEq α] {xs ys:List α}:((List.range (min xs.length ys.length)).all (λj=>decide (xs[j]? =ys[j]?))&&xs.length==ys.length)=decide (xs=ys):=by
 by_cases q:xs=ys
 ·refine a6 (bQ q) (a6 q ?_);rw [gT,k6]
  exact cQ.mpr λzz zz=>bQ rfl
 ·refine a6 (dD q) ?_
  refine Bool.eq_false_iff.mpr λe=>q (fG e λe1 e2=> ?_);have l:=b7.mp e2;refine vM λj=> ?_;by_cases w:j<xs.length
  ·exact bY (cQ.mp e1 j (dK.mpr (Nat.lt_min.mpr ⟨w,l▸w⟩)))
  ·exact a6 (kQ (Nat.le_of_not_lt w)) (a6 (kQ (l▸Nat.le_of_not_lt w)) rfl)
theorem uk (h:A.units+(n+1)+k<cLine):A.in1.units+n+k<cLine:=Wj h
theorem nQ (h:A.units+n+k<cLine):A.units<cLine:=J2 h
abbrev DC (c:Cx) (σ:St) (Z:Addr->Prop) (s:Shared) (A:Around) (xs ys:List V):Prop:=∀{j:Nat} {x y u v},xs[j]? =some x->ys[j]? =some y->Rv c σ Z s.heap x u->Rv c σ Z s.heap y v->EqAt A.in1 s u v (decide (x=y))
theorem yF (a:aO c σ Z s.heap xs us) (b:aO c σ Z s.heap ys ws) (el:DC c σ Z s A xs ys) (j:Nat) (h1:j<us.toArray.size) (h2:j<ws.toArray.size):EqAt A.in1 s us.toArray[j] ws.toArray[j] (decide (xs[j]? =ys[j]?)):=
 a.of_get (d_ (l:=us) h1) λ{x} e1 r1=>b.of_get (d_ (l:=ws) h2) λ{y} e2 r2=>
  have e:decide (xs[j]? =ys[j]?)=decide (x=y):=wJ ⟨λe=>cL (e1.symm.trans (e.trans e2)),λe=>e1.trans (e▸e2.symm)⟩
  e▸el e1 e2 r1 r2
theorem GI (hu:A.units<cLine) (r1:Rv c σ Z s.heap (.tup xs) u) (r2:Rv c σ Z s.heap (.tup ys) v) (el:DC c σ Z s A xs ys):RcAt A s u v (decide (V.tup xs= .tup ys))/\RcNeAt A s u v (!decide (V.tup xs= .tup ys)):=
 r1.cR λf l=>r2.cR λg m=>by
  have e:decide (V.tup xs= .tup ys)=_:=(wJ ⟨V.tup.inj,aE _⟩).trans all_range.symm;exact a6 e (a6 l.len (a6 m.len ⟨RcAt.tuples ⟨_,f.at_,rfl,_,rfl⟩ ⟨_,g.at_,rfl,_,rfl⟩ hu (yF l m el),RcNeAt.tuples ⟨_,f.at_,rfl,_,rfl⟩ ⟨_,g.at_,rfl,_,rfl⟩ hu (yF l m el)⟩))
theorem H8 (hu:A.units<cLine) (r1:Rv c σ Z s.heap (.aa xs) u) (r2:Rv c σ Z s.heap (.aa ys) v) (el:DC c σ Z s A xs ys):RcAt A s u v (decide (V.aa xs= .aa ys))/\RcNeAt A s u v (!decide (V.aa xs= .aa ys)):=
 r1.je λf l=>r2.je λg m=>by
  by_cases q:xs.length=ys.length
  ·have e:decide (V.aa xs= .aa ys)=_:=(wJ ⟨V.aa.inj,aE _⟩).trans all_range.symm
   refine a6 e (a6 (aT q) ?_);rewrite [Nat.min_self,gT,k6];refine a6 l.len ?_;have z:=l.len.symm.trans (q.trans m.len);exact⟨RcAt.lists ⟨_,f.at_,rfl,_,rfl⟩ ⟨_,g.at_,rfl,_,rfl⟩ z hu (yF l m el),RcNeAt.lists ⟨_,f.at_,rfl,_,rfl⟩ ⟨_,g.at_,rfl,_,rfl⟩ z hu (yF l m el)⟩
  ·rw [dD λe=>q (aE List.length (V.aa.inj e))]
   have z:=bne_iff_ne.mpr λe=>q (l.len.trans (e.trans m.len.symm));exact⟨RcAt.lists_lengths ⟨_,f.at_,rfl,_,rfl⟩ ⟨_,g.at_,rfl,_,rfl⟩ z hu,RcNeAt.lists_lengths ⟨_,f.at_,rfl,_,rfl⟩ ⟨_,g.at_,rfl,_,rfl⟩ z hu⟩
theorem tv [Decidable p] (h:¬p) (e:EqAt A s u v false):EqAt A s u v (decide p):=dD h▸e
theorem eqT [Decidable p] (h:p) (e:EqAt A s u v true):EqAt A s u v (decide p):=bQ h▸e
theorem Ho (i:u=v->x=y) (e:u= .ref a) (e':v= .ref a') (r:RcAt A s u v (decide (x=y))):EqAt A s u v (decide (x=y)):=by
 by_cases q:u=v
 ·exact a6 (bQ (i q)) (a6 q (EqAt.same _))
 ·subst e e';exact EqAt.of_refs (λw=>q (aE _ w)) r
theorem Rv.IV (r:Rv c σ Z h (.tup xs) u):∃a,u= .ref a:=r.cR λzz zz=>⟨_,rfl⟩
theorem Rv.Ja (r:Rv c σ Z h (.aa xs) u):∃a,u= .ref a:=r.je λzz zz=>⟨_,rfl⟩
@[elab_as_elim] theorem Rv.isTup (r:Rv c σ Z s.heap (.tup xs) u) {G:Value->Prop} (k:∀{a items},s.heap.IsTuple a items->G (.ref a)):G u:=r.cR (G:=G) λf zz=>k ⟨_,f.at_,rfl,_,rfl⟩
def Bi (c:Cx) (σ:St) (Z:Addr->Prop) (s:Shared) (b:Bool):Prop:=∀{A ks vs u v},b=true->A.units+14<cLine->Rv c σ Z s.heap (.aN ks vs) u->Rv c σ Z s.heap (.aN ks vs) v->(∀{j:Nat} {x u v},vs[j]? =some x->Rv c σ Z s.heap x u->Rv c σ Z s.heap x v->EqAt A.in1 s u v true)->EqAt A s u v true
theorem bI.xy (D:Bi c σ Z s b) (m:bI b n x y) (hu:A.units+n+(bif b then 14 else 0)<cLine) (r1:Rv c σ Z s.heap x u) (r2:Rv c σ Z s.heap y v):EqAt A s u v (decide (x=y)):=by
 induction m generalizing u v A with
 |int=>exact r1.int_inv λzz=>r2.int_inv λzz=>Gf▸EqAt.int_int _ _ _ _
 |bool=>exact r1.bool_inv (r2.bool_inv (Fw▸EqAt.bool_bool _ _))
 |str=>exact r1.str_inv λh zz=>r2.str_inv λh' zz=>FG h h'▸EqAt.str_str _ _ _ _
 |none=>exact r1.none_inv (r2.none_inv (eqT rfl (EqAt.same _)))
 |si=>exact r1.str_inv λzz zz=>r2.int_inv λzz=>tv (λh=>i5 h rfl) (EqAt.str_int _ _ _ _)
 |is=>exact r1.int_inv λzz=>r2.str_inv λzz zz=>tv (λh=>i5 h rfl) (EqAt.int_str _ _ _ _)
 |it=>exact r1.int_inv λzz=>r2.isTup λt=>tv (λh=>i5 h rfl) (EqAt.int_tuple _ _ t (nQ hu))
 |ti=>exact r1.isTup λt=>r2.int_inv λzz=>tv (λh=>i5 h rfl) (EqAt.tuple_int _ _ t (nQ hu))
 |st=>exact r1.str_inv λzz zz=>r2.isTup λt=>tv (λh=>i5 h rfl) (EqAt.str_tuple _ _ t (nQ hu))
 |ts=>exact r1.isTup λt=>r2.str_inv λzz zz=>tv (λh=>i5 h rfl) (EqAt.tuple_str _ _ t (nQ hu))
 |tup h ih=>exact r1.IV.elim λzz e=>r2.IV.elim λzz e'=>Ho (λq=>(bI.tup h).inj (q▸r1) r2) e e' (GI (nQ hu) r1 r2 λa b=>ih a b (uk hu)).1
 |aa h ih=>exact r1.Ja.elim λzz e=>r2.Ja.elim λzz e'=>Ho (λq=>(bI.aa h).inj (q▸r1) r2) e e' (H8 (nQ hu) r1 r2 λa b=>ih a b (uk hu)).1
 |aN hb _ ih=>exact eqT rfl (D hb (by subst hb;exact az (bG (aY A.units (_+1)) 14) hu) r1 r2 λ{_ x _ _} a r1 r2=>bQ (Eq.refl x)▸ih a (uk hu) r1 r2)
theorem bI.rc (D:Bi c σ Z s true) (m:bI true n x y) (nd:∀ks vs,x≠ .aN ks vs) (hu:A.units+n+14<cLine) (r1:Rv c σ Z s.heap x u) (r2:Rv c σ Z s.heap y v):RcAt A s u v (decide (x=y))/\RcNeAt A s u v (!decide (x=y)):=by
 induction m with
 |int=>exact r1.int_inv λzz=>r2.int_inv λzz=>Gf▸⟨RcAt.int_int _ _ _ _,RcNeAt.int_int _ _ _ _⟩
 |bool=>exact r1.bool_inv (r2.bool_inv (Fw▸⟨RcAt.bool_bool _ _,RcNeAt.bool_bool _ _⟩))
 |str=>exact r1.str_inv λh zz=>r2.str_inv λh' zz=>FG h h'▸⟨RcAt.str_str _ _ _ _,RcNeAt.str_str _ _ _ _⟩
 |none=>exact r1.none_inv (r2.none_inv (bQ (Eq.refl V.none)▸⟨RcAt.none_none,RcNeAt.none_none⟩))
 |tup h=>exact GI (nQ hu) r1 r2 λa b=>(h a b).xy D (uk hu)
 |aa h=>exact H8 (nQ hu) r1 r2 λa b=>(h a b).xy D (uk hu)
 |aN=>exact absurd rfl (nd _ _)
 |si hb|is hb|it hb|ti hb|st hb|ts hb=>cases hb
theorem Ul (hk:aR 8 k=true) (gf:aR 8 k'=true) (hu:A.units+8<cLine) (r1:Rv c σ Z s.heap k u) (r2:Rv c σ Z s.heap k' v):EqAt A s u v (decide (k=k')):=bI.xy (b:=false) (λh=>Bool.noConfusion h) (Fv hk gf) hu r1 r2
theorem Sj (hk:aR 8 k=true) (gf:aR 8 k'=true) (r1:Rv c σ Z h k u) (r2:Rv c σ Z h k' u):k=k':=(Fv hk gf).inj r1 r2
theorem GB (P:Params):∀xs:List V,Cr P xs=xs.map (vh P)
 | []=>rfl
 |x::r=>aE (vh P x::·) (GB P r)
variable{E:Value->Shared->Prop}
abbrev Be (c:Cx) (σ:St) (Z:Addr->Prop) (E:Value->Shared->Prop) (n:Nat) (x:V):Prop:=∀{A:Around} {v:Value} {s:Shared} {Q:Int->Shared->Prop},A.units+n<cLine->Rv c σ Z s.heap x v->(∀t,Q (vh c.w.params x) {s with toks:=t})->wpAny c.M A (pyHash v) Q E s
theorem Oz {us:List Value} {p:Array Int} {Q:Array Int->Shared->Prop} (hx:∀{j:Nat} {x},xs[j]? =some x->Be c σ Z E n x) (hu:A.units+n<cLine) (r:aO c σ Z s.heap xs us) (q:∀t b',b'.toList=p.toList++xs.map (vh c.w.params)->Q b' {s with toks:=t}):
  wpAny c.M A (forIn us p λx r=>do let h<-pyHash x;pure PUnit.unit;pure (ForInStep.yield (r.push h))) Q E s:=by
 induction xs generalizing us p s with
 |nil=>exact r.nil_inv (ai (q s.toks p (d6 _).symm))
 |cons x xs ih=>
  refine r.cons_inv λr1 r2=> ?_;rw [m7];refine wb (wb (hx (j:=0) rfl hu r1 λt=> ?_));refine wb (ai (ai ?_));exact ih (s:={s with toks:=t}) (λ{j _} e=>hx (j:=j+1) e) r2 λt' b' e=>q t' b' (by refine a6 e (a6 Array.toList_push ?_);rw [bP];rfl)
theorem yY (hk:aR n x=true):Be c σ Z E n x:=
 Ae (C:=Be c σ Z E) (λzz r q=>r.int_inv λzz=>wpAny_pyHash_int (q _)) (λ{_ _} zz {_ _ _ _} zz r q=>r.str_inv λzz zz=>wpAny_pyHash_str (q _)) (λ{n xs} ih {A v s Q} hu r q=>r.cR (G:=λv=>wpAny c.M A (pyHash v) Q E s) λ{a vs e} f l=>by
  refine pyHash_slot (T:="tuple") ⟨_,f.at_,rfl⟩ F.slot_tuple_hash F.entry_tuple_hash (F.args_tuple_hash_1 _) (beq_builtin_none _) (.inr (az (aY _ _) hu)) ?_;show wpAny _ _ (Builtin.Tuple.tupleItemsOf (.ref a)>>=_) _ _ s;refine wb (wpAny_tupleItemsOf f.at_ rfl (wb (a6 (aT Array.forIn_toList) (Oz (A:=A.in1) ih (show A.units+1+n<cLine by rwa [vK]) l λt b' e=> ?_))));show wpAny _ _ (retInt (Builtin.Tuple.tupleHashOf b'.toList)) _ _ _;exact a6 e (wb (wpAny_mkInt (ai ⟨_,_,rfl,by have:=q (t+1);rwa [vh,GB] at this⟩)))) hk
theorem Ef (hk:aR n x=true) (r:Rv c σ Z s.heap x v) (q:Q true s):wpAny (model prog w) A (eqIsQuiet n v) Q E s:=
 Ae (C:=λn x=>∀{v Q},Rv c σ Z s.heap x v->Q true s->wpAny (model prog w) A (eqIsQuiet n v) Q E s) (λ{n _ _ Q} r q=>r.int_inv (G:=λv=>wpAny (model prog w) A (eqIsQuiet n v) Q E s) λzz=>a6 (eqIsQuiet_byValue n rfl) (ai q)) (λ{n _} zz {_ Q} r q=>r.str_inv (G:=λv=>wpAny (model prog w) A (eqIsQuiet n v) Q E s) λzz zz=>a6 (eqIsQuiet_byValue n rfl) (ai q))
  (λ{n xs} ih {v Q} r q=>r.cR (G:=λv=>wpAny (model prog w) A (eqIsQuiet (n+1) v) Q E s) λ{a vs e} f l=>by
   have hT:s.TypeIs (.ref a) "tuple":=⟨_,f.at_,rfl⟩;unfold eqIsQuiet;refine wb (tQ hT F.slot_tuple_eq.lookup ?_);show wpAny _ _ (isInstance (.ref a) (.type "tuple")>>=_) _ _ s;refine wb (ph hT isSubtype_tuple_tuple ?_);show wpAny _ _ (seqItems? (.ref a)>>=_) _ _ s;refine wb (wpAny_seqItems f.at_ rfl (wb ?_));show wpAny _ _ (forIn vs.toArray _ _) _ _ s;refine a6 (aT Array.forIn_toList) (vN _ (λrest r s'=>r.1=none/\s'=s/\∀u∈rest,∀Q:Bool->Shared->Prop,Q true s->wpAny (model prog w) A (eqIsQuiet n u) Q E s) _ ?_ ?_ _ _ ⟨rfl,rfl,λu hu Q q=>(qV.mp hu).elim λi hi=>l.of_get hi λe r=>ih e r q⟩)
   ·rintro v rest r _ ⟨_,rfl,hk⟩
    exact wb (hk v aM _ (ai ⟨rfl,rfl,λu hu=>hk u (aQ _ hu)⟩))
   ·rintro ⟨_,_⟩ _ ⟨rfl,rfl,_⟩
    exact ai q) hk r q
end
end
section
open PySem PySem.W PyProof.Rows PySem.SeqAt
noncomputable def b_ (k:V):List V->List V->Option V
 |x::xs,v::vs=>if x=k then some v else b_ k xs vs
 |_,_=>none
noncomputable def cz (k v:V):List V->List V->List V
 |x::xs,u::vs=>if x=k then v::vs else u::cz k v xs vs
 |_,_=> [v]
noncomputable def bW (k:V) (ks:List V):List V:=if k∈ks then ks else ks++ [k]
section
variable{k u v:V} {ks vs:List V} {j:Nat}
theorem r9 (h:k∉ks):b_ k ks vs=none:=by
 induction ks generalizing vs with
 |nil=>rfl
 |cons x xs ih=>induction vs with
  |nil=>rfl
  |cons v vs=>exact(aB λ(e:x=k)=>h (e▸aM)).trans (ih λm=>h (aQ _ m))
theorem Ac (n:ks.Nodup) (h:ks[j]? =some k) (g:vs[j]? =some u):b_ k ks vs=some u:=by
 induction ks generalizing vs j with
 |nil=>exact bK h
 |cons x xs ih=>induction vs with
  |nil=>exact bK g
  |cons v vs=>induction j with
   |zero=>exact(aF (cL h)).trans g
   |succ j=>exact(aB λ(e:x=k)=>(cG.mp n).1 (e▸cA h)).trans (ih (cG.mp n).2 h g)
theorem eG (h:k∉ks):bW k ks=ks++ [k]:=aB h
theorem iA (h:k∈ks):bW k ks=ks:=aF h
theorem jH (l:ks.length=vs.length) (h:k∉ks):cz k v ks vs=vs++ [v]:=by
 induction ks generalizing vs with
 |nil=>induction vs with
  |nil=>rfl
  |cons _ _=>exact kI l
 |cons x xs ih=>induction vs with
  |nil=>exact eh l
  |cons u vs=>exact(aB λ(e:x=k)=>h (e▸aM)).trans (aE (u::·) (ih (d7 l) λm=>h (aQ _ m)))
theorem Rl (n:ks.Nodup) (l:ks.length=vs.length) (h:ks[j]? =some k):cz k v ks vs=vs.set j v:=by
 induction ks generalizing vs j with
 |nil=>exact bK h
 |cons x xs ih=>induction vs with
  |nil=>exact eh l
  |cons u vs=>induction j with
   |zero=>exact aF (cL h)
   |succ j=>exact(aB λ(e:x=k)=>(cG.mp n).1 (e▸cA h)).trans (aE (u::·) (ih (cG.mp n).2 (d7 l) h))
theorem DX (n:l.Nodup) (h:x∉l):(l++ [x]).Nodup:=ja.mpr ⟨n,vH _ _,λzz ha zz hb e=>h (b3.mp hb▸e▸ha)⟩
theorem vU (n:ks.Nodup):(bW k ks).Nodup:=by
 by_cases h:k∈ks
 ·exact a6 (iA h) n
 ·exact a6 (eG h) (DX n h)
theorem pA:(bW k ks).length<=ks.length+1:=by
 by_cases h:k∈ks
 ·exact a6 (iA h) (gU _)
 ·exact a6 (eG h) (a6 aP (bC _))
end
theorem mu [BEq α] [LawfulBEq α] (a:α):¬((a !=a)=true):=by rw [bne_self_eq_false];exact cK
section
variable{prog:Program} {w:World} {c:Cx} {Z X:Addr->Prop} {σ:St} {s:Shared} {A:Around} {E:Value->Shared->Prop} {ks vs:List V} {es:List DictEntry} {ep:Nat} {k:V} {key:Value} {d:Addr} {Q:Option Nat->Shared->Prop} {hs:Int} {i:Nat} {pl rest:List Nat}
inductive WT (c:Cx) (σ:St) (Z:Addr->Prop) (h:Heap) (ks:List V) (es:List DictEntry) (hs:Int) (i:Nat):Prop
 |mk {en:DictEntry} {k':V} (e:es.toArray[i]? =some en) (hh:(en.hash==hs)=true) (kx:ks[i]? =some k') (ok:aR 8 k'=true) (r:Rv c σ Z h k' en.key)
structure Pl (c:Cx) (σ:St) (Z:Addr->Prop) (h:Heap) (ks:List V) (es:List DictEntry) (k:V) (hs:Int) (pl:List Nat):Prop where
 at_:∀i∈pl,WT c σ Z h ks es hs i
 nd:pl.Nodup
 of:∀j,ks[j]? =some k->j∈pl
theorem G5:i∈placesWithHash es.toArray.size (λi=>es.toArray[i]?.map (·.hash)) hs↔es[i]?.map (·.hash)=some hs:=by
 unfold placesWithHash;rewrite [cB,dK];refine a6 gS ?_;rw [b7];show _/\es.toArray[i]?.map _=_↔_;refine a6 (fN) ?_;refine⟨λh=>h.2,λh=>⟨?_,h⟩⟩;cases e:es[i]? with
 |none=>rw [e] at h;cases h
 |some en=>exact gu e
theorem mD (l:bM c σ Z s.heap ks vs es) (k:V):Pl c σ Z s.heap ks es k (vh c.w.params k) (placesWithHash es.toArray.size (λi=>es.toArray[i]?.map (·.hash)) (vh c.w.params k)):=
 ⟨λi h=>by
  have h':=G5.mp h;cases e:es[i]? with
  |none=>rw [e] at h';cases h'
  |some en=>rw [e] at h';exact l.at_ e λa zz r zz zz ok=> .mk ((fN ..).trans e) (b7.mpr (cL h')) a ok r,
  List.Pairwise.filter _ List.nodup_range,λj h=>G5.mpr (l.to h λe zz zz zz hh=>by refine a6 e (a6 (aT hh) ?_);rfl)⟩
theorem Pl.tl (h:∀j,ks[j]? =some k->j∈x::rest) (kx:ks[x]? =some k') (q:¬k'=k):∀j,ks[j]? =some k->j∈rest:=λj hj=>(bz.mp (h j hj)).resolve_left λw=>q (cL (kx.symm.trans (w▸hj)))
theorem zE {α:Type} {f:Bool->Sem α} {R:α->Shared->Prop} {t:Sem α} {en:DictEntry} {k':V} (hu:A.units+8<cLine) (ho:s.heap.get? d=some (bp es ep)) (hk:aR 8 k=true) (r:Rv c σ Z s.heap k key) (ok:aR 8 k'=true) (r':Rv c σ Z s.heap k' en.key)
  (q:wpAny (model prog w) A (f (decide (k'=k))) R E s):wpAny (model prog w) A (dictEpoch d (keyPart key)>>=λbefore=>eqBool en.key key>>=λsame=>dictEpoch d (keyPart key)>>=λe=>if(e !=before)=true then t else f same) R E s:=by
 exact wb (kW ho rfl (wb (Ul ok hk hu r' r _ _ _ _ (wb (kW ho rfl (ct (mu _) q))))))
theorem yW (hu:A.units+8<cLine) (ho:s.heap.get? d=some (bp es ep)) (hk:aR 8 k=true) (r:Rv c σ Z s.heap k key) (p:Pl c σ Z s.heap ks es k hs pl)
  (jm:k∉ks->Q none s) (iW:∀j,ks[j]? =some k->Q (some j) s):wpAny (model prog w) A (dictWalkPlain d key hs es.toArray pl) Q E s:=by
 refine wb (vN _ (λrest b s'=>s'=s/\b=(none,())/\(∀i∈rest,i∈pl)/\∀j,ks[j]? =some k->j∈rest) _ ?_ ?_ _ _ ⟨rfl,rfl,λzz h=>h,p.of⟩)
 ·rintro x rest b _ ⟨rfl,rfl,hm,hr⟩
  refine (p.at_ x (hm x aM)).casesOn λ{en k'} e hh kx ok r'=>a6 e (jw hh (zE hu ho hk r ok r' ?_));by_cases q:k'=k
  ·exact a6 (bQ q) (wb (gj (ai (ai (iW x (q▸kx))))))
  ·exact a6 (dD q) (wb (gj (ai ⟨rfl,rfl,λi hi=>hm i (aQ _ hi),Pl.tl hr kx q⟩)))
 ·rintro b _ ⟨rfl,rfl,_,hr⟩
  exact ai (jm λm=>(qX m).elim λj hj=>jT (hr j hj))
theorem Oe {stored:List Value} {Q:Bool->Shared->Prop} (hk:aR 8 k=true) (r:Rv c σ Z s.heap k key) (kL:∀u∈stored,∀Q:Bool->Shared->Prop,Q true s->wpAny (model prog w) A (eqIsQuiet 8 u) Q E s) (h:Q false s):wpAny (model prog w) A (tableMayTell key stored) Q E s:=by
 unfold tableMayTell
 split
 ·exact ai h
 ·refine wb (Ef hk r (wb (vN _ (λrest r s'=>s'=s/\r=(none,())/\∀u∈rest,u∈stored) _ ?_ ?_ _ _ ⟨rfl,rfl,λzz h=>h⟩)))
  ·rintro x rest r _ ⟨rfl,rfl,hr⟩
   exact wb (kL x (hr x aM) _ (ai ⟨rfl,rfl,λu hu=>hr u (aQ _ hu)⟩))
  ·rintro r _ ⟨rfl,rfl,_⟩
   exact ai h
theorem Ep (hm:m<bJ.length) (ok:aR 8 k=true) (r:Rv c σ Z s.heap k u):u.isStr (tx m)=true↔k= .str m:=
 pG (C:=λzz k=>Rv c σ Z s.heap k u->(u.isStr (tx m)=true↔k= .str m)) (λr=>r.int_inv λzz=>⟨de,(λh=>i5 h rfl)⟩) (λh r=>r.str_inv λzz zz=>⟨λe=>aE V.str (jK h hm (b7.mp e)),λe=>V.str.inj e▸gT _⟩) (λzz r=>r.cR λzz zz=>⟨de,(λh=>i5 h rfl)⟩) ok r
theorem OA {m:Nat} {t:Tok} (hu:A.units+8<cLine) (ho:s.heap.get? d=some (bp es ep)) (l:bM c σ Z s.heap ks vs es) (hm:m<bJ.length) (jm:V.str m∉ks->Q none s) (iW:∀j,ks[j]? =some (.str m)->Q (some j) s):
  wpAny (model prog w) A (foundByValue d (.str (tx m) t) es.toArray (tx m)) Q E s:=by
 unfold foundByValue;cases hf:es.toArray.findIdx? (·.key.isStr (tx m)) with
 |none=>
  refine ai (jm λw=> ?_);obtain⟨j,hj⟩:=qX w;refine l.to hj λe zz r zz zz=> ?_;have:=Array.findIdx?_eq_none_iff.mp hf _ (List.mem_toArray.mpr (cA e));rw [(Ep hm (l.ok hj) r).mpr rfl] at this;cases this
 |some i=>
  obtain⟨oP,hi,_⟩:=Array.findIdx?_eq_some_iff_getElem.mp hf;have e:es.toArray[i]? =some es.toArray[i]:=tG oP;refine l.at_ ((fN ..).symm.trans e) λ{k' _} kx zz r' zz zz ok=> ?_;have q:=(Ep hm ok r').mp hi;subst q;dsimp only;exact a6 e (zE (k:= .str m) hu ho (bQ hm) (.str hm t) ok r' (a6 (bQ rfl) (wb (gj (ai (iW i kx))))))
theorem zk (hu:A.units+8<cLine) (ho:s.heap.get? d=some (bp es ep)) (hk:aR 8 k=true) (r:Rv c σ Z s.heap k key) (hn:ks.Nodup) (p:Pl c σ Z s.heap ks es k hs pl)
  (jm:k∉ks->Q none s) (iW:∀j,ks[j]? =some k->Q (some j) s):wpAny (model prog w) A (do
   let mut hit:Option Nat:=none
   for i in pl do
    if let some e:=es.toArray[i]? then
     if e.hash==hs then
      let before<-dictEpoch d (keyPart key)
      let same<-eqBool e.key key
      if(<-dictEpoch d (keyPart key)) !=before then unsupported "dict.changed-during-lookup"
      if same then
       if hit.isSome then unsupported "dict.find:order-among-keys-of-one-hash"
       rule "dict.find.hit"
       if m<2 then return some i
       hit:=some i
      else
       rule "dict.find.same-hash-other-key"
       if false&& !(0<=hs&&hs<32) then unsupported "dict.find:asked-again-or-not-hangs-on-the-table"
   return hit) Q E s:=by
 refine wb (vN _ (λrest b s'=>s'=s/\b.1=none/\(∀i∈rest,i∈pl)/\rest.Nodup/\((b.2=none/\∀j,ks[j]? =some k->j∈rest)\/∃j,b.2=some j/\ks[j]? =some k/\j∉rest)) _ ?_ ?_ _ _ ⟨rfl,rfl,λzz h=>h,p.nd, .inl ⟨rfl,p.of⟩⟩)
 ·rintro x rest ⟨_,hit⟩ _ ⟨rfl,rfl,hm,nd,hr⟩
  have j1:=cG.mp nd;have JY:=λi hi=>hm i (aQ _ hi);refine (p.at_ x (hm x aM)).casesOn λ{en k'} e hh kx ok r'=>a6 e (jw hh (zE hu ho hk r ok r' ?_));by_cases q:k'=k
  ·refine a6 (bQ q) ?_
   have h0:hit=none:=hr.elim And.left λe8=>e8.elim λj eN=>eN.elim λzz eD=>eD.elim λhj nj=>absurd ((List.getElem?_inj (gu hj) hn).mp (hj.trans (q▸kx).symm)▸aM) nj;subst h0;refine wb (gj ?_);by_cases w:m<2
   ·exact jw w (ai (ai (iW x (q▸kx))))
   ·exact ct w (ai ⟨rfl,rfl,JY,j1.2, .inr ⟨x,rfl,q▸kx,j1.1⟩⟩)
  ·exact a6 (dD q) (wb (gj (ai ⟨rfl,rfl,JY,j1.2,hr.imp (λh=>⟨h.1,Pl.tl h.2 kx q⟩) λeL=>eL.elim λj eZ=>eZ.elim λh0 dW=>dW.elim λhj nj=>⟨j,h0,hj,λw=>nj (aQ _ w)⟩⟩)))
 ·rintro ⟨_,hit⟩ _ ⟨rfl,rfl,_,_,hr⟩
  rcases hr with⟨rfl,hr⟩|⟨j,rfl,hj,_⟩
  ·exact ai (jm λm=>(qX m).elim λj hj=>jT (hr j hj))
  ·exact ai (iW j hj)
theorem PO (l:bM c σ Z s.heap ks vs es) (hk:aR 8 k=true) (r:Rv c σ Z s.heap k key):¬(es.toArray.any λe=>e.key==key&&e.hash !=vh c.w.params k)=true:=λh=>by
 rw [List.any_toArray,vQ] at h;obtain⟨e,f7,hc⟩:=h;obtain⟨j,hj⟩:=qX f7;exact fG hc λh1 h2=>l.at_ hj λzz zz r1 zz hh ok=>bne_iff_ne.mp h2 (hh.trans (aE _ (Sj ok hk r1 (b7.mp h1▸r))))
theorem BK {f:Bool->Sem (Option Nat)} {st:List Value} (hk:aR 8 k=true) (r:Rv c σ Z s.heap k key) (kL:∀u∈st,∀Q:Bool->Shared->Prop,Q true s->wpAny (model prog w) A (eqIsQuiet 8 u) Q E s) (b:Bool) (h:wpAny (model prog w) A (f false) Q E s):wpAny (model prog w) A (if b=true then pure false>>=f else tableMayTell key st>>=f) Q E s:=by
 cases b
 ·exact wb (Oe hk r kL h)
 ·exact wb (ai h)
theorem B7 (h:wpAny (model prog w) A m Q E s) (h':wpAny (model prog w) A m' Q E s):wpAny (model prog w) A (if b=true then m else m') Q E s:=by cases b;exact h';exact h
theorem za (p:Pl c σ Z s.heap ks es k hs pl):∀u∈pl.filterMap (λi=>es.toArray[i]?.map (·.key)),∀Q:Bool->Shared->Prop,Q true s->wpAny (model prog w) A (eqIsQuiet 8 u) Q E s:=λu hm Q q=>by
 obtain⟨i,hi,e⟩:=List.mem_filterMap.mp hm;exact(p.at_ i hi).casesOn λa zz zz ok r'=>by rw [a] at e;exact cL e▸Ef ok r' q
theorem Ot (hk:aR 8 k=true) (r:Rv c σ Z s.heap k key) {G:Value->Prop} (hi:∀x t,G (.int x t)) (hs:∀m t,m<bJ.length->k= .str m->G (.str (tx m) t)) (ht:∀b,key= .ref b->G (.ref b)):G key:=
 pG (C:=λzz k'=>k'=k->Rv c σ Z s.heap k' key->G key) (λzz r=>r.int_inv (hi _)) (λh e r=>r.str_inv (G:=G) λzz t=>hs _ t h e.symm) (λzz zz r=>r.cR (G:=λu=>key=u->G u) (λzz zz=>ht _) rfl) hk rfl r
theorem tU (hu:A.units+8<cLine) (ho:s.heap.get? d=some (bp es ep)) (l:bM c σ Z s.heap ks vs es) (hn:ks.Nodup) (hk:aR 8 k=true) (r:Rv c σ Z s.heap k key)
  (jm:k∉ks->Q none s) (iW:∀j,ks[j]? =some k->Q (some j) s):wpAny (model prog w) A (dictFind d key (vh c.w.params k)) Q E s:=by
 refine bN (wb (gy ho rfl (Ot hk r (G:=λWd=>Wd=key->wpAny (model prog w) A (_:Sem (Option Nat)) Q E s) (λx t e=> ?_) (λm t hm ek e=> ?_) (λb e e'=> ?_) rfl)))
 ·subst e
  exact B7 (yW hu ho hk r (mD l k) jm iW) (BK hk r (za (mD l k)) _ (zk hu ho hk r hn (mD l k) jm iW))
 ·subst e
  by_cases q:(es.toArray.all λe=>isExactStrKey e.key)=true
  ·exact jw q (OA hu ho l hm (ek▸jm) (ek▸iW))
  ·exact ct q (B7 (yW hu ho hk r (mD l k) jm iW) (BK hk r (za (mD l k)) _ (zk hu ho hk r hn (mD l k) jm iW)))
 ·subst e
  exact B7 (yW hu ho hk r (mD l k) jm iW) (ct (PO l hk r) (BK hk r (za (mD l k)) _ (zk hu ho hk r hn (mD l k) jm iW)))
theorem y_ {Q:Option Value->Shared->Prop} (hu:A.units+8<cLine) (D:bc c σ Z s.heap d ks vs) (hk:aR 8 k=true) (r:Rv c σ Z s.heap k key)
  (gR:k∉ks->∀t,Q none {s with toks:=t}) (Wr:∀{x u},b_ k ks vs=some x->k∈ks->Rv c σ Z s.heap x u->∀t,Q (some u) {s with toks:=t}):wpAny c.M A (dictGet d key) Q E s:=
 D.el λho hn l=>bN (wb (yY hk hu r λt=>wb (tU (s:={s with toks:=t}) hu ho l hn hk r (λh=>ai (gR h t)) λj hj=>
  l.to hj λe1 e2 zz r2 zz=>wb (gy (s:={s with toks:=t}) ho rfl (ai (by refine a6 (fN) (a6 e1 ?_);exact Wr (Ac hn hj e2) (cA hj) r2 t))))))
abbrev iL (c:Cx) (σ:St) (Z:Addr->Prop) (s:Shared) (d:Addr) (ks vs:List V) (Q:Unit->Shared->Prop):Prop:=∀{h' es ep},Heap.SameBut d s.heap h'->h'.get? d=some (bp es ep)->bM c σ Z s.heap ks vs es->∀t,Q () {s with heap:=h',toks:=t}
theorem R4 (ho:s.heap.get? d=some (bp es ep)):(s.heap.update d (λo=>o.mapDict f)).get? d=some (bp (f es.toArray).toList ep):=kR (λo:Obj=>o.mapDict f) ho rfl
theorem EP (ho:s.heap.get? d=some (bp es ep)):(s.heap.update d (λo=>o.mapDictKeys (·.push en))).get? d=some (bp (es++ [en]) (ep+1)):=by
 have:=kR (λo:Obj=>o.mapDictKeys (·.push en)) ho rfl
 rwa [show(bp es ep).mapDictKeys (·.push en)=bp (es++ [en]) (ep+1) by simp [Obj.mapDictKeys]] at this
theorem wk {α:Type} {n:Nat} {xs:List α} (h:n<lim) (l:n=xs.length):xs.toArray.size<=sizeLine:=by exact a6 gS (a6 (aT l) (ay (jd h) (by decide+kernel)))
theorem FP {v:V} {u:Value} {Q:Unit->Shared->Prop} (ho:s.heap.get? d=some (bp es ep)) (l:bM c σ Z s.heap ks vs es) (hk:aR 8 k=true) (r:Rv c σ Z s.heap k key) (rv:Rv c σ Z s.heap v u) (h:k∉ks) (q:iL c σ Z s d (bW k ks) (cz k v ks vs) Q):
  Q () {s with heap:=s.heap.update d (λo=>o.mapDictKeys (·.push ⟨vh c.w.params k,key,u⟩))}:=
 q (iN ..) (EP ho) (a6 (eG h) (a6 (jH (l.lk.trans l.lv.symm) h) (l.append (.cons r rv rfl hk .nil)))) s.toks
theorem FO {v:V} {u:Value} {j:Nat} {Q:Unit->Shared->Prop} (ho:s.heap.get? d=some (bp es ep)) (l:bM c σ Z s.heap ks vs es) (hn:ks.Nodup) (rv:Rv c σ Z s.heap v u) (hj:ks[j]? =some k) (q:iL c σ Z s d (bW k ks) (cz k v ks vs) Q):
  Q () {s with heap:=s.heap.update d (λo=>o.mapDict (·.modify j λe=>{e with val:=u}))}:=
 q (iN ..) (R4 ho) (a6 (iA (cA hj)) (a6 (Rl hn (l.lk.trans l.lv.symm) hj) (a6 Array.toList_modify (l.set rv j)))) s.toks
theorem DH {v:V} {u:Value} {Q:Unit->Shared->Prop} (hu:A.units+8<cLine) (D:bc c σ Z s.heap d ks vs) (hk:aR 8 k=true) (r:Rv c σ Z s.heap k key) (rv:Rv c σ Z s.heap v u) (hz:ks.length<lim) (q:iL c σ Z s d (bW k ks) (cz k v ks vs) Q):
  wpAny c.M A (dictSetHashed d key (vh c.w.params k) u) Q E s:=
 D.el λho hn l=>bN (wb (tU hu ho l hn hk r (λh=>wb (gj (wpAny_updateDictKeys (hz:=wk hz l.lk) ho rfl (FP ho l hk r rv h q)))) λj hj=>
  wb (gj (wb (wpAny_updateDict ho rfl (wpAny_point (FO ho l hn rv hj q)))))))
theorem NF {v:V} {u:Value} {Q:Unit->Shared->Prop} (hu:A.units+8<cLine) (D:bc c σ Z s.heap d ks vs) (hk:aR 8 k=true) (r:Rv c σ Z s.heap k key) (rv:Rv c σ Z s.heap v u) (hz:ks.length<lim) (q:iL c σ Z s d (bW k ks) (cz k v ks vs) Q):
  wpAny c.M A (dictPut d (vh c.w.params k) key u) Q E s:=
 D.el λho hn l=>wb (tU hu ho l hn hk r (λh=>wpAny_updateDictKeys (hz:=wk hz l.lk) ho rfl (FP ho l hk r rv h q)) λj hj=>wpAny_updateDict ho rfl (FO ho l hn rv hj q))
theorem vX {v:V} {u:Value} {Q:Unit->Shared->Prop} (hu:A.units+8<cLine) (D:bc c σ Z s.heap d ks vs) (hk:aR 8 k=true) (r:Rv c σ Z s.heap k key) (rv:Rv c σ Z s.heap v u) (hz:ks.length<lim) (q:iL c σ Z s d (bW k ks) (cz k v ks vs) Q):
  wpAny c.M A (dictSet d key u) Q E s:=bN (wb (yY hk hu r λt=>DH (s:={s with toks:=t}) hu D hk r rv hz q))
theorem Fj (h:A.units+(n+1)<cLine):A.in1.units+n<cLine:=by show A.units+1+n<cLine;rw [vK];exact h
theorem DS {f:Bool->Sem Value} {Q:Value->Shared->Prop} (hu:A.units+12<cLine) (D:bc c σ Z s.heap d ks vs) (hk:aR 8 k=true) (r:Rv c σ Z s.heap k key)
  (q:∀t,wpAny c.M A (f (decide (k∈ks))) Q E {s with toks:=t}):wpAny c.M A (contains (.ref d) key>>=f) Q E s:=by
 refine wb (bN (wb (tQ D.typeIs slot_dict_contains.lookup (ct (by rw [beq_builtin_none];exact cK) (wb (wpAny_callSpecialUnlessNone?_slot (name:=Str.ofString "__contains__") D.typeIs slot_dict_contains (jb slot_dict_contains D.typeIs entry_dict_contains ?_ (args_dict_contains _ _))))))));show wpAny _ _ (dictGet d key>>=_) _ _ s;refine wb (y_ (A:=A.in1) (Fj (az (aU (by decide) _) hu)) D hk r (λh t=> ?_) λzz h zz t=> ?_)
 ·show wpAny _ _ (Builtin.Dict.pendingKey? d key>>=_) _ _ _
  exact wb (wpAny_pendingKey_other D.sys (ai ⟨_,rfl,p9 (Cz (dD h) (q t))⟩))
 ·exact ai ⟨_,rfl,p9 (Cz (bQ h) (q t))⟩
theorem in_dict {Q:Value->Shared->Prop} (hu:A.units+12<cLine) (D:bc c σ Z s.heap d ks vs) (hk:aR 8 k=true) (r:Rv c σ Z s.heap k key) (q:∀t,Q (.bool (decide (k∈ks))) {s with toks:=t}):wpAny c.M A (compareOp .In key (.ref d)) Q E s:=
 (DS (f:=λb=>pure (.bool b)) hu D hk r λt=>ai (q t):wpAny c.M A (do return .bool (<-contains (.ref d) key)) Q E s)
theorem Nu {Q:Value->Shared->Prop} (hu:A.units+12<cLine) (D:bc c σ Z s.heap d ks vs) (hk:aR 8 k=true) (r:Rv c σ Z s.heap k key) (q:∀t,Q (.bool (!decide (k∈ks))) {s with toks:=t}):wpAny c.M A (compareOp .NotIn key (.ref d)) Q E s:=
 (DS (f:=λb=>pure (.bool (!b))) hu D hk r λt=>ai (q t):wpAny c.M A (do return .bool (!(<-contains (.ref d) key))) Q E s)
theorem rY (hu:A.units+12<cLine):A.in1.units+8<cLine:=Fj (az (aU (by decide) _) hu)
theorem MB {x:V} {Q:Value->Shared->Prop} (hu:A.units+12<cLine) (D:bc c σ Z s.heap d ks vs) (hk:aR 8 k=true) (r:Rv c σ Z s.heap k key) (hx:b_ k ks vs=some x) (q:∀{u},Rv c σ Z s.heap x u->∀t,Q u {s with toks:=t}):wpAny c.M A (getItem (.ref d) key) Q E s:=by
 refine bN (wb (wpAny_sequenceKey D.typeIs (by decide) (wb (tH (name:=Str.ofString "__getitem__") D.typeIs slot_dict_getitem (jb slot_dict_getitem D.typeIs entry_dict_getitem ?_ (args_dict_getitem _ _))))));show wpAny _ _ (dictGet d key>>=_) _ _ s;exact wb (y_ (rY hu) D hk r (λh t=>bK ((r9 h).symm.trans hx)) λhy zz ru t=>ai ⟨_,rfl,ai (q (cL (hx.symm.trans hy)▸ru) t)⟩)
theorem Mp {v:V} {u:Value} {Q:Unit->Shared->Prop} (hu:A.units+12<cLine) (D:bc c σ Z s.heap d ks vs) (hk:aR 8 k=true) (r:Rv c σ Z s.heap k key) (rv:Rv c σ Z s.heap v u) (hz:ks.length<lim) (q:iL c σ Z s d (bW k ks) (cz k v ks vs) Q):wpAny c.M A (setItem (.ref d) key u) Q E s:=by
 refine bN (wb (wpAny_sequenceKey D.typeIs (by decide) (wb (tH (name:=Str.ofString "__setitem__") D.typeIs slot_dict_setitem (jb slot_dict_setitem D.typeIs entry_dict_setitem ?_ (args_dict_setitem _ _ _))))));show wpAny _ _ (Builtin.Dict.notOrdered "__setitem__" ⟨[.ref d,key,u], []⟩>>=_) _ _ s;refine wb (vI D.typeIs ?_);show wpAny _ _ (dictSet d key u>>=_) _ _ s;exact wb (vX (rY hu) D hk r rv hz λa b e t=>ai ⟨.none,rfl,ai (q a b e t)⟩)
theorem OJ {w:V} {wu:Value} {Q:Value->Shared->Prop} (hu:A.units+12<cLine) (D:bc c σ Z s.heap d ks vs) (hk:aR 8 k=true) (r:Rv c σ Z s.heap k key) (rd:Rv c σ Z s.heap w wu) (q:∀{u},Rv c σ Z s.heap ((b_ k ks vs).getD w) u->∀t,Q u {s with toks:=t}):
  wpAny c.M A (call (.builtin "dict.get") [.ref d,key,wu]) Q E s:=by
 refine call_meetsIn F.slot_dict_get D.typeIs F.entry_dict_get (F.args_dict_get_3 _ _ _) (S:=λA R s'=>s'=s/\A.units+12<cLine/\∀{u},Rv c σ Z s.heap ((b_ k ks vs).getD w) u->∀t,R (.ok (.ret u)) {s with toks:=t}) (.of_wp λA R s' h=> ?_) ⟨rfl,hu,q⟩;obtain⟨rfl,hu,q⟩:=h;show wpAny _ _ (dictGet d key>>=_) _ _ _;refine wb (y_ (rY hu) D hk r (λh t=> ?_) λhy zz ru t=> ?_)
 ·show wpAny _ _ (Builtin.Dict.missed d key>>=_) _ _ _
  rw [r9 h] at q;exact wb (wpAny_missed_other D.sys (ai ⟨wu,rfl,q rd t⟩))
 ·rw [hy] at q
  exact ai ⟨_,rfl,q ru t⟩
theorem LI {w:V} {wu:Value} {Q:Value->Shared->Prop} (hu:A.units+12<cLine) (D:bc c σ Z s.heap d ks vs) (hk:aR 8 k=true) (r:Rv c σ Z s.heap k key) (rd:Rv c σ Z s.heap w wu) (hz:ks.length<lim)
  (qy:∀{x u},b_ k ks vs=some x->Rv c σ Z s.heap x u->∀t,Q u {s with toks:=t}) (qn:b_ k ks vs=none->iL c σ Z s d (ks++ [k]) (vs++ [w]) λzz=>Q wu):wpAny c.M A (call (.builtin "dict.setdefault") [.ref d,key,wu]) Q E s:=by
 refine call_meetsIn F.slot_dict_setdefault D.typeIs F.entry_dict_setdefault (F.args_dict_setdefault_3 _ _ _) (S:=λA R s'=>s'=s/\A.units+12<cLine/\(∀{x u},b_ k ks vs=some x->Rv c σ Z s.heap x u->∀t,R (.ok (.ret u)) {s with toks:=t})/\(b_ k ks vs=none->iL c σ Z s d (ks++ [k]) (vs++ [w]) λzz=>R (.ok (.ret wu)))) (.of_wp λA R s' h=> ?_) ⟨rfl,hu,qy,qn⟩;obtain⟨rfl,hu,qy,qn⟩:=h;refine wb (wb (vI D.typeIs ?_));show wpAny _ _ (pure (d,key,some wu)) _ _ _;refine ai ?_;show wpAny _ _ (if(d==sysModules)=true then _ else _) _ _ _;refine ct (a6 D.sys cK) ?_;show wpAny _ _ (dictSetDefault d key wu>>=_) _ _ _;refine D.el λho hn l=>wb (bN (wb (yY hk (rY hu) r λt=>wb (tU (s:={s' with toks:=t}) (rY hu) ho l hn hk r (λh=> ?_) λj hj=> ?_))))
 ·refine wb (gj (wb (wpAny_updateDictKeys (hz:=wk hz l.lk) (s:={s' with toks:=t}) ho rfl (ai (ai ⟨_,rfl, ?_⟩)))))
  exact qn (r9 h) (iN ..) (EP ho) (l.append (.cons r rd rfl hk .nil)) t
 ·refine l.to hj λe1 e2 zz r2 zz=>aK (gy (s:={s' with toks:=t}) ho rfl ?_)
  refine a6 (fN) (a6 e1 ?_);exact wb (gj (ai (ai ⟨_,rfl,qy (Ac hn hj e2) r2 t⟩)))
end
end
section
open PySem PySem.W PyProof.Rows PySem.SeqAt
noncomputable def isStr:V->Bool
 | .str n=>decide (n<bJ.length)
 |_=>false
noncomputable def wR:V->Bool
 | .int i=>decide (0<=i)&&decide (i<4)
 |_=>false
noncomputable def iB:V->Bool
 | .tup [a]=>wR a
 | .tup [a,b]=>wR a&&wR b
 |_=>false
noncomputable def dM:List (V×V)->List V×List V->List V×List V
 | [],d=>d
 |(k,v)::r,d=>dM r (bW k d.1,cz k v d.1 d.2)
theorem M7:∀{ks vs:List V},ls.length=ws.length->ks.length=vs.length->(ks++ls).Nodup->dM (ls.zip ws) (ks,vs)=(ks++ls,vs++ws):=by
 induction ls generalizing ws with
 |nil=>exact λl zz zz=>by rw [f9 l.symm,d6,d6];rfl
 |cons x ls ih=>induction ws with
  |nil=>exact eh
  |cons u ws=>
    intro ks vs l1 l2 n;have hx:x∉ks:=λm=>(ja.mp n).2.2 x m x aM rfl;have n':=n;rw [List.append_cons] at n';have:=ih (ws:=ws) (ks:=ks++ [x]) (vs:=vs++ [u]) (d7 l1) (by refine a6 aP (a6 aP (a6 l2 ?_));rfl) n';rw [<-List.append_cons,<-List.append_cons] at this;refine a6 q_ ?_;rewrite [dM];exact a6 (eG hx) (a6 (jH l2 hx) this)
theorem yT (l:ls.length=ws.length) (n:ls.Nodup):dM (ls.zip ws) ([], [])=(ls,ws):=M7 l rfl n
noncomputable def A0:List V:=((List.range 4).map λ(i:Nat)=>V.tup [.int (i:Int)])++((List.range 4).flatMap λ(i:Nat)=>(List.range 4).map λ(j:Nat)=>V.tup [.int (i:Int), .int (j:Int)])
noncomputable def hashesOf:List Int:=((List.range 4).map λ(i:Nat)=>reduceHash (Builtin.Tuple.tupleHashOf [hashInt (i:Int)]))++((List.range 4).flatMap λ(i:Nat)=>(List.range 4).map λ(j:Nat)=>reduceHash (Builtin.Tuple.tupleHashOf [hashInt (i:Int),hashInt (j:Int)]))
theorem LS:hashesOf.Nodup:=by decide+kernel
theorem Mo (P:Params):A0.map (vh P)=hashesOf:=rfl
theorem yX {v:V} (h:wR v=true) {G:V->Prop} (k:∀i:Nat,i<4->G (.int i)):G v:=by
 cases v with
 |int i=>
  refine fG h λh0 h4=> ?_;have:=k i.toNat ((Int.toNat_lt (bY h0)).mpr (bY h4))
  rwa [Int.toNat_of_nonneg (bY h0)] at this
 |_=>exact de h
theorem tX {v:V} (h:iB v=true) {G:V->Prop} (k:∀i:Nat,i<4->G (.tup [.int i])) (k2:∀i j:Nat,i<4->j<4->G (.tup [.int i, .int j])):G v:=by
 cases v with
 |tup xs=>match xs,h with
  | [_],h=>exact yX (G:=λa=>G (.tup [a])) h k
  | [_,_],h=>exact yX (G:=λa=>G (.tup [a,_])) (aj h).1 λi hi=>yX (G:=λb=>G (.tup [_,b])) (aj h).2 λj hj=>k2 i j hi hj
 |_=>exact de h
theorem DW (h:iB v=true):v∈A0:=tX h (λi hi=>qW _ (bB.mpr ⟨i,dK.mpr hi,rfl⟩)) λi j hi hj=>ij _ (tP.mpr ⟨i,dK.mpr hi,bB.mpr ⟨j,dK.mpr hj,rfl⟩⟩)
theorem O0 (ha:iB a=true) (hb:iB b=true) (e:vh P a=vh P b):a=b:=by
 obtain⟨i,hi⟩:=qV.mp (DW ha);obtain⟨j,hj⟩:=qV.mp (DW hb);have q:∀{k:Nat} {v:V},A0[k]? =some v->hashesOf[k]? =some (vh P v):=λh=>by refine a6 (aT (Mo P)) (a6 (fc) (a6 h ?_));rfl
 have CP:=(List.getElem?_inj (gu (q hi)) LS).mp ((q hi).trans (e▸(q hj).symm));exact cL (hi.symm.trans (CP▸hj))
section
variable{c:Cx} {Z X:Addr->Prop} {σ:St} {s:Shared} {A:Around} {E:Value->Shared->Prop} {ks vs ls ws:List V} {es:List DictEntry} {ep:Nat} {d o:Addr} {Q:Unit->Shared->Prop}
theorem Rv.IU (r:Rv c σ Z s.heap (.tup xs) u):∃a,u= .ref a/\s.TypeIs (.ref a) "tuple":=r.cR λf zz=>⟨_,rfl,_,f.at_,rfl⟩
theorem iL.res (z:Z d) (D:bc c σ Z s.heap d ks vs) (q:∀{h'},Heap.SameBut d s.heap h'->bc c σ Z h' d (bW k ks) (cz k v ks vs)->∀t,Q () {s with heap:=h',toks:=t}):iL c σ Z s d (bW k ks) (cz k v ks vs) Q:=
 λhs ho l t=>q hs (.mk ho (vU D.nd) (l.mono (Mv.but z hs.extBut)) D.m) t
set_option tactic.hygienic true in
theorem Qj (n:(es.map (·.hash)).Nodup):(es.filter (·.hash==hs)).length<=1:=by
 induction es with
 |nil=>exact fh _
 |cons e es ih=>
  have n':=cG.mp n;refine a6 List.filter_cons ?_
  split
  ·rename_i h
   rw [tI.mpr λa ha h'=>n'.1 (bB.mpr ⟨a,ha,(b7.mp h').trans (b7.mp h).symm⟩)];exact bC _
  ·exact ih n'.2
theorem bM.S9 (r:bM c σ Z s.heap ls ws es) (n:ls.Nodup) (sm:ls.all iB=true):(es.map (·.hash)).Nodup:=by
 refine List.pairwise_map.mpr (List.pairwise_iff_getElem.mpr λi j hi hj CP e=>r.at_ (d_ hi) λa zz zz zz ha zz=>r.at_ (d_ hj) λb zz zz zz hb zz=> ?_);have q:=cQ.mp sm;have:=O0 (q _ (cA a)) (q _ (cA b)) (ha.symm.trans (e.trans hb));exact nM CP ((List.getElem?_inj (gu a) n).mp (a.trans (this▸b.symm)))
theorem DY (z:Z d) (oT:d≠o) (O:bc c σ Z s.heap o ls ws) (ho:s.heap.get? o=some (bp es ep)) (l:bM c σ Z s.heap ls ws es)
  (hb:∀{i:Nat} {en:DictEntry} {k v:V} {ks vs:List V} {h:Heap} {t:Nat} {R:ForInStep PUnit->Shared->Prop},es[i]? =some en->aR 8 k=true->Rv c σ Z h k en.key->Rv c σ Z h v en.val->en.hash=vh c.w.params k->h.get? o=some (bp es ep)->ks.length<lim->bc c σ Z h d ks vs->
   (∀{h'} t',Heap.SameBut d h h'->bc c σ Z h' d (bW k ks) (cz k v ks vs)->R (.yield ⟨⟩) {s with heap:=h',toks:=t'})->wpAny c.M A (body i ⟨⟩) R E {s with heap:=h,toks:=t})
  {R:PUnit->Shared->Prop}:∀(m i:Nat) (ks vs:List V) (h:Heap) (t:Nat),i+m=es.length->Heap.SameBut d s.heap h->bc c σ Z h d ks vs->ks.length+m<lim->
   (∀{h'} t',Heap.SameBut d s.heap h'->bc c σ Z h' d (dM ((ls.zip ws).drop i) (ks,vs)).1 (dM ((ls.zip ws).drop i) (ks,vs)).2->R ⟨⟩ {s with heap:=h',toks:=t'})->wpAny c.M A (forIn (List.range' i m) ⟨⟩ body) R E {s with heap:=h,toks:=t}:=by
 intro m
 induction m with
 |zero=>
  intro i ks vs h t e hs D _ q;have e':(ls.zip ws).drop i= []:=List.drop_eq_nil_iff.mpr (by refine a6 List.length_zip (a6 l.lk (a6 l.lv ?_));rw [Nat.min_self];exact gh e.symm);rw [e'] at q;exact ai (q t hs D)
 |succ m ih=>
  intro i ks vs h t e hs D hz q;have hi:i<es.length:=Nat.lt_of_lt_of_eq (nA (m8 m)) e;refine a6 List.range'_succ ?_;rw [m7];have i9:=(hs.2 o (aL oT)).trans ho;have mv:Mv σ Z s.heap σ Z h:=Mv.but z hs.extBut;refine l.at_ (d_ hi) λ{k v} ek ev r1 r2 hh ok=>wb (hb (d_ hi) ok (r1.mono mv) (r2.mono mv) hh i9 (az (aY _ _) hz) D λt' e_ D'=>ih (i+1) _ _ _ t' (by rw [vK];exact e) (hs.trans e_) D' (az (ay (bG pA m) (by rw [vK];exact bC _)) hz) λuY sH tF=>q uY sH (a6 (List.drop_eq_getElem_cons (by refine a6 List.length_zip (a6 l.lk (a6 l.lv ?_));rw [Nat.min_self];exact hi)) (a6 ((qS.mp (List.getElem?_zip_eq_some (z:=(k,v))|>.mpr ⟨ek,ev⟩)).2) ?_)));rw [dM];exact tF
abbrev ur (c:Cx) (σ:St) (Z:Addr->Prop) (s:Shared) (d:Addr) (ks vs:List V) (Q:Unit->Shared->Prop):Prop:=∀{h'} t,Heap.SameBut d s.heap h'->bc c σ Z h' d ks vs->Q () {s with heap:=h',toks:=t}
theorem My {nm:String} (z:Z d) (zo:¬Z o) (hu:A.units+8<cLine) (D:bc c σ Z s.heap d ks vs) (O:bc c σ Z s.heap o ls ws) (kL:ls.all isStr=true) (vp:ls.length<=8) (hz:ks.length+ls.length<lim)
  (q:ur c σ Z s d (dM (ls.zip ws) (ks,vs)).1 (dM (ls.zip ws) (ks,vs)).2 Q):wpAny c.M A (Builtin.Dict.mergeDict nm d o) Q E s:=by
 have oT:d≠o:=λe=>zo (e▸z);refine O.el λ{es ep} ho zz l=> ?_;have d4:(decide (es.toArray.size<=8)&&es.toArray.all λe=>(keyPart e.key).isSome)=true:=by
  rw [l.lk] at vp;refine ik.mpr ⟨bQ vp, ?_⟩;refine a6 List.all_toArray ?_;refine cQ.mpr λe he=> ?_;obtain⟨i,hi⟩:=qV.mp he;refine l.at_ hi λ{k _} e1 zz r1 zz zz zz=> ?_;have:=cQ.mp kL k (cA e1);cases k with
  |str n=>exact r1.str_inv (G:=λu=>(keyPart u).isSome=true) λzz zz=>rfl
  |_=>exact de this
 refine ct (λe=>oT (b7.mp e)) ?_;refine wb (ct (by refine a6 O.sys ?_;exact cK) (ai (wb (gy ho rfl ?_))));show wpAny _ _ (if(!(decide (es.toArray.size<=8)&&es.toArray.all λe=>(keyPart e.key).isSome))=true then _ else _) _ _ s;refine ct (by refine a6 d4 ?_;exact cK) (wb (kW ho rfl (wb (gy ho rfl ?_))));show wpAny _ _ (forIn _ _ _>>=_) _ _ s;rw [Std.Legacy.Range.forIn_eq_forIn_range'];rw [l.lk] at hz;have sz:Std.Legacy.Range.size [:es.toArray.size]=es.length:=by simp [Std.Legacy.Range.size]
 refine a6 sz ?_;refine wb (DY z oT O ho l ?_ _ 0 ks vs _ s.toks (di _) (Heap.SameBut.refl _ _) D hz λt hs D=>ai (q t hs D));intro i en k v ks vs h t R ei ok r1 r2 hh ho hz D q;refine aK (gy ho rfl ?_);refine a6 (fN) (a6 ei ?_);dsimp only;refine a6 hh ?_;refine wb (bN (DH (s:={s with heap:=h,toks:=t}) hu D ok r1 r2 hz (iL.res z D λe_ D' t'=> ?_)));exact wb (kW ((e_.2 o (aL oT)).trans ho) rfl (ct (mu _) (ai (q t' e_ D'))))
theorem DI (z:Z d) (zo:¬Z o) (hu:A.units+8<cLine) (D:bc c σ Z s.heap d ks vs) (O:bc c σ Z s.heap o ls ws) (JV:ls.all iB=true) (hz:ks.length+ls.length<lim)
  (q:ur c σ Z s d (dM (ls.zip ws) (ks,vs)).1 (dM (ls.zip ws) (ks,vs)).2 Q):wpAny c.M A (mergeMapping d (.ref o) false) Q E s:=by
 have oT:d≠o:=λe=>zo (e▸z);refine O.el λ{es ep} ho gR l=>D.el λ{ds dp} Y7 zz zz=> ?_;refine wb (ph O.typeIs isSubtype_dict_dict (wb (tQ O.typeIs F.slot_dict_iter.lookup ?_)));refine aK (ai ?_);dsimp only;refine ct (by refine a6 O.sys ?_;exact cK) (wb (gy Y7 rfl ?_));have loop:wpAny c.M A (do
   let size:=(<-dictEntries o).size
   let VE<-dictEpoch o
   for i in List.range size do
    let some e:=(<-dictEntries o)[i]? |unsupported "dict.changed-during-merge"
    holding [e.key,e.val] do
     if false then
      if(<-dictFind d e.key e.hash).isSome then rule "dict.merge.duplicate-key";raiseNew (<-newExc (.type "KeyError") [e.key])
     dictPut d e.hash e.key e.val
    if(<-dictEpoch o) !=VE then unsupported "dict.changed-during-merge") Q E s:=by
  refine wb (gy ho rfl (wb (kW ho rfl ?_)));show wpAny _ _ (forIn (List.range es.toArray.size) _ _>>=_) _ _ s;refine a6 List.range_eq_range' (a6 gS ?_);rw [l.lk] at hz;refine wb (DY z oT O ho l ?_ _ 0 ks vs _ s.toks (di _) (Heap.SameBut.refl _ _) D hz λt hs D=>ai (q t hs D));intro i en k v ks vs h t R ei ok r1 r2 hh ho hz D q;refine aK (gy ho rfl ?_);refine a6 (fN) (a6 ei ?_);dsimp only;refine a6 hh ?_;refine wb (bN (NF (s:={s with heap:=h,toks:=t}) hu D ok r1 r2 hz (iL.res z D λe_ D' t'=> ?_)));exact wb (kW ((e_.2 o (aL oT)).trans ho) rfl (ct (mu _) (ai (q t' e_ D'))))
 by_cases he:ds.toArray.isEmpty=true
 ·refine jw he (wb (gy ho rfl ?_))
  show wpAny _ _ (forIn es.toArray _ _>>=_) _ _ s;refine a6 (aT Array.forIn_toList) ?_;refine wb (vN _ (λrest zz s'=>s'=s/\∀e∈rest,e∈es) _ ?_ ?_ _ _ ⟨rfl,λe he=>he⟩)
  ·rintro e rest b _ ⟨rfl,hr⟩
   obtain⟨i,hi⟩:=qV.mp (hr e aM);refine l.at_ hi λ{k _} e1 zz r1 zz zz zz=> ?_;have nd:=Qj (hs:=e.hash) (l.S9 gR JV);obtain⟨a,hk,hT⟩:=tX (G:=λk=>Rv c σ Z _ k e.key->∃a,e.key= .ref a/\Shared.TypeIs _ (.ref a) "tuple") (cQ.mp JV k (cA e1)) (λzz zz=>Rv.IU) (λzz zz zz zz=>Rv.IU) r1;refine a6 hk ?_;refine wb (tQ hT F.slot_tuple_eq.lookup (jw (by decide) (ct (λq=> ?_) (ai ⟨rfl,λe he=>hr e (aQ _ he)⟩))));rw [List.filter_toArray,gS] at q;exact iq.mpr nd q
  ·rintro b _ ⟨rfl,_⟩
   exact loop
 ·exact ct he loop
end
end
section
open PySem PySem.W PyProof.Rows PySem.SeqAt
abbrev bR (c:Cx) (Z X:Addr->Prop) (σ:St) (s:Shared) (Q:V->St->Prop) (R:Value->Shared->Prop):Prop:=∀{v u a8 s'},Q v a8->Rv c a8 Z s'.heap v u->aA c Z X σ s a8 s'->R u s'
section
variable{c:Cx} {Z X:Addr->Prop} {σ:St} {s:Shared} {A:Around} {E:Value->Shared->Prop} {Q:V->St->Prop} {R:Value->Shared->Prop} {v:V} {u:Value}
theorem bR.here (k:bR c Z X σ s Q R) (I:Inv c σ Z s.heap) (q:Q v σ) (r:Rv c σ Z s.heap v u) (t:Nat):R u {s with toks:=t}:=k q r (aA.tok I t)
theorem bR.same (k:bR c Z X σ s Q R) (I:Inv c σ Z s.heap) (q:Q v σ) (r:Rv c σ Z s.heap v u):R u s:=k q r (aA.refl I)
theorem bR.xK (k:bR c Z X σ s Q R) (I:Inv c σ Z s.heap) (q:Q (.tup xs) σ) (r:aO c σ Z s.heap xs us):R (.ref s.heap.objs.size) {s with heap:=s.heap.push (gq us 0)}:=k q (.BH (Fz.new I rfl) (r.mono (Mv.push _))) (aA.push I _)
theorem yS {it l:Addr} {i ep:Nat} {vs:List Value} {x:Value} {Q:Option Value->Shared->Prop} (hit:s.heap.IsListIter it l i) (hl:s.heap.get? l=some (c5 vs ep)) (hx:vs[i]? =some x)
  (hQ:∀h',h'.IsListIter it l (i+1)->Heap.SameBut it s.heap h'->Q (some x) {s with heap:=h'}):wpAny c.M A (pyNext (.ref it)) Q E s:=wpAny_pyNext_list_item hit ⟨_,hl,rfl,_,rfl⟩ ((fN ..).trans hx) hQ
theorem yO {it l:Addr} {i ep:Nat} {vs:List Value} {Q:Option Value->Shared->Prop} (hh:A.handled=none) (hit:s.heap.IsListIter it l i) (hl:s.heap.get? l=some (c5 vs ep)) (hx:vs[i]? =none)
  (hQ:∀h',Heap.ExtBut it s.heap h'->Q none {s with heap:=h'}):wpAny c.M A (pyNext (.ref it)) Q E s:=wpAny_pyNext_list_end hh hit ⟨_,hl,rfl,_,rfl⟩ ((fN ..).trans hx) hQ
theorem LQ:typeLookup (.type "list") "keys"=pure none:=am_miss_of_fast (by kernel_rfl)
theorem M9 {a:Addr} {vs:List Value} {ep:Nat} {name:Str} {Q:Option Value->Shared->Prop}
  (hx:s.heap.get? a=some (c5 vs ep)) (Vs:typeLookup (.type "list") name=pure none) (Vr:(["__module__","__name__","__qualname__","__doc__","__annotations__"]:List Str).contains name=false) (hA:A.handled=none)
  (h:∀h' tk,(∀b o,s.heap.get? b=some o->h'.get? b=some o)->Q none {s with heap:=h',toks:=tk}) (hsz:name.length+100<=sizeLine):
  wpAny c.M A (getAttr? (.ref a) name) Q E s:=by
 obtain⟨hp,g,d,tk,os⟩:=s;have hT:∀Jw,(⟨hp,g,d,Jw,os⟩:Shared).TypeIs (.ref a) "list":=λzz=>⟨_,hx,rfl⟩;have f1:=sub_AttributeError;have f3:=F.slot_list_getattribute.lookup;have f4:=F.slot_list_getattribute.bind (.ref a);have f5:=am_list_getattr_none;unfold getAttr? getAttrBy? getAttrBy
 repeat (any_goals (first|assumption|exact hT _|((with_reducible show wpAny _ _ (call (Value.builtin "list.__getattribute__") _ _) _ _ _);refine call_meets F.slot_list_getattribute (hT _) am_entry_list_getattribute (F.args_list_getattribute_2 _ _) (meets_getattribute_miss_list a vs.toArray ep #[] name _ Vs Vr hsz) ⟨hx,hA,λh' Jw e jW=> ?_⟩)|wp_step))
 obtain⟨t',u',he⟩:=jW.there;show wpAny _ _ (getattributeRaised _ _ _ _ _ _ _) _ _ _;unfold getattributeRaised
 repeat (any_goals (first|assumption|wp_step))
 exact h _ _ jW.keeps
abbrev y9 (c:Cx) (A:Around) (W:Result->Shared->Prop):PySem.Fin->Shared->Prop:=λfin s'=>match fin with| .done f=>W (.ok f) s'| .again c'=>c'.quiet=true/\codeAny c.M A c' W s'
abbrev xm (E:Value->Shared->Prop) (R:Shared->Prop):Result->Shared->Prop:=wants (λr s'=>r= .none/\R s') E
theorem EC (I:Inv c σ Z s.heap)
  (q:bc c σ (Zp Z s.heap.objs.size) (s.heap.push (bp [] 0)) s.heap.objs.size [] []->Inv c σ (Zp Z s.heap.objs.size) (s.heap.push (bp [] 0))->wpAny c.M A.in1.in1 (Builtin.Dict.updateFrom "dict.__init__" s.heap.objs.size u [] .none) (y9 c A.in1 (xm E (R (.ref s.heap.objs.size)))) (λe=>xm E (R (.ref s.heap.objs.size)) (.error e)) {s with heap:=s.heap.push (bp [] 0)}):
  wpAny c.M A (call (.type "dict") [u]) R E s:=by
 refine callType_codes (Q₁:=λobj aC=>obj= .ref s.heap.objs.size/\aC={s with heap:=s.heap.push (bp [] 0)}) F.kt_called_dict (F.kt_typeCall_dict_1 _) F.entry_dict_init (kt_code_dict_new _ ⟨rfl,rfl⟩) λobj aC h=>a6 h.1 (a6 h.2 ?_);have D:bc c σ (Zp Z s.heap.objs.size) (s.heap.push (bp [] 0)) s.heap.objs.size [] []:=bc.new (I.sys (I.rP (bk _)));have hT:(⟨s.heap.push (bp [] 0),s.gens,s.drawn,s.toks,s.os⟩:Shared).TypeIs (.ref s.heap.objs.size) "dict":=bc.typeIs (s:={s with heap:=s.heap.push (bp [] 0)}) D;refine⟨hT,F.args_dict_init_2 _ _,wb (wb (vI hT ?_))⟩;show wpAny _ _ (pure (s.heap.objs.size, [u])) _ _ _;exact ai (q D (I.mm rfl))
variable{ls ws xs:List V} {o:Addr}
theorem LX (I:Inv c σ Z s.heap) (zo:¬Z o) (hu:A.units+12<cLine) (O:bc c σ Z s.heap o ls ws) (kL:ls.all isStr=true) (vp:ls.length<=8) (q:∀p,σ p=none->Q (.ref p) (upd σ p (.dict ls ws))) (k:bR c Z X σ s Q R):
  wpAny c.M A (call (.type "dict") [.ref o]) R E s:=EC I λD I'=>by
 have n:o≠s.heap.objs.size:=O.ex.elim λzz e=>cq (bk _) e;have O':bc c σ (Zp Z s.heap.objs.size) (s.heap.push (bp [] 0)) o ls ws:=O.mono (λzz=>bt _ _ _ _) (rL _);have hT:(⟨s.heap.push (bp [] 0),s.gens,s.drawn,s.toks,s.os⟩:Shared).TypeIs (.ref o) "dict":=bc.typeIs (s:={s with heap:=s.heap.push (bp [] 0)}) O';have hl:ls.length=ws.length:=O'.el λzz zz l=>l.lk.trans l.lv.symm;refine wb (wpAny_typeOf hT (ct (by decide) (wb (wb (wb (ph hT isSubtype_dict_dict (wb (tQ hT F.slot_dict_iter.lookup (ai (wb (ai (My (s:={s with heap:=s.heap.push (bp [] 0)}) (.inr rfl) (λy=>y.elim zo n) (Cu (i:=10) hu (by decide)) D O' kL vp (az (show 0+ls.length<=8 by rw [di];exact vp) (show 8<lim by decide)) λt e_ D'=> ?_))))))))))));rw [yT hl O'.nd] at D';show wpAny _ _ (Builtin.Dict.addKeywords s.heap.objs.size []>>=_) _ _ _;refine wb (ai (ai ⟨rfl,k (q _ (I.fresh (bk _))) (.ref _) (aA.EB (I.iC (bk _)) (aA.but I' (.inr rfl) e_.extBut D'.ex (.inr rfl)) D'.own)⟩))
noncomputable def l5:List V->Option (List (V×V))
 | []=>some []
 | .tup [k,v]::r=>(l5 r).map ((k,v)::·)
 |_=>none
theorem Mt {x:V} {ps:List (V×V)} (h:l5 (x::xs)=some ps) {G:V->List (V×V)->Prop} (q:∀k v qs,l5 xs=some qs->G (.tup [k,v]) ((k,v)::qs)):G x ps:=by
 cases x with
 |tup ys=>match ys,h with
  | [k,v],h=>
   have h':(l5 xs).map ((k,v)::·)=some ps:=h;cases e:l5 xs with
   |none=>rw [e] at h';cases h'
   |some qs=>rw [e] at h';exact cL h'▸q k v qs e
 |_=>exact bK h
theorem DZ:entryFor table "dict.update.loop"=some Builtin.«dict.update.loop»:=entryFor_of_fast (by kernel_rfl)
theorem vW:plainId "dict.update.loop"=true:=by decide+kernel
theorem MK {d l J:Addr} {ep:Nat} {us:List Value} {W:Result->Shared->Prop} (hh:A.handled=none) (hu:A.units+12<cLine) (zd:Z d) (zJ:Z J) (dJ:d≠J) (zl:¬Z l)
  {ps:List (V×V)} {i:Nat} {ks vs:List V} (e:l5 (xs.drop i)=some ps) (hk:ps.all (λp=>aR 8 p.1)=true) (hz:ks.length+ps.length<lim) (I:Inv c σ Z s.heap) (hit:s.heap.IsListIter J l i) (hl:s.heap.get? l=some (c5 us ep)) (hv:aO c σ Z s.heap xs us) (D:bc c σ Z s.heap d ks vs)
  (q:∀{s' h'},aA c Z (λa=>a=d\/a=J) σ s σ s'->Heap.ExtBut J s'.heap h'->bc c σ Z s'.heap d (dM ps (ks,vs)).1 (dM ps (ks,vs)).2->W (.ok (.ret .none)) {s' with heap:=h'}):
  codeAny c.M A (.builtin "dict.update.loop" ⟨[.ref d, .ref J,rawInt i, .none], []⟩) W s:=by
 have lJ:l≠J:=λe=>zl (e▸zJ);have ld:l≠d:=λe=>zl (e▸zd);generalize hm:xs.length -i=m
 induction m generalizing i ps ks vs s with
 |zero=>
  have:xs.drop i= []:=List.drop_eq_nil_iff.mpr (Nat.sub_eq_zero_iff_le.mp hm);rw [this] at e;cases e;refine nJ DZ (a6 (p8 vW _) ?_);show wpAny _ A.in1 (pyNext (.ref J)>>=_) _ _ s;refine wb (yO hh hit hl (kQ (hv.len▸Nat.sub_eq_zero_iff_le.mp hm)) λh' e_=> ?_);show wpAny _ _ (Builtin.Dict.addKeywords d []>>=_) _ _ _;exact wb (ai (ai (q (aA.refl I) e_ D)))
 |succ m ih=>
  have hi:i<xs.length:=Nat.lt_of_sub_eq_succ hm;rw [List.drop_eq_getElem_cons hi] at e;obtain⟨k,v,qs,ex,rfl,e2⟩:=Mt e (G:=λx ps=>∃k v qs,x= .tup [k,v]/\ps=(k,v)::qs/\l5 _=some qs) λk v qs e=>⟨k,v,qs,rfl,rfl,e⟩;refine hv.get (d_ hi) λ{u} XX ru=> ?_;rw [ex] at ru;refine nJ DZ (a6 (p8 vW _) ?_);show wpAny _ A.in1 (pyNext (.ref J)>>=_) _ _ s;refine wb (yS hit hl XX λh' kD e_=> ?_);have au:aA c Z (λa=>a=d\/a=J) σ s σ {s with heap:=h'}:=aA.but (t:=s.toks) I zJ e_.extBut (kD.elim λzz eY=>eY.elim λe zz=>⟨_,e⟩) (.inr rfl);have m1:Mv σ Z s.heap σ Z h':=Mv.but zJ e_.extBut;refine(ru.mono m1).cR λ{a jx _} f r2=>r2.two (G:=λjx=>h'.get? a=some (gq jx _)->_) (λ{u1 u2} r1 r2 ho=> ?_) f.at_;have hT:(⟨h',s.gens,s.drawn,s.toks,s.os⟩:Shared).TypeIs (.ref a) "tuple":=⟨_,ho,rfl⟩;refine fG hk λk1 k2=>wb (bN (wb (wpAny_tryCatch (wb (wpAny_typeOf hT (jw (by decide) (wb (wpAny_seqItems ho rfl (ai ?_)))))))));show wpAny _ _ (holding [u1,u2] (dictSet d u1 u2)) _ _ _;refine bN (vX (s:={s with heap:=h'}) (Cu (i:=9) hu (by decide)) (D.mono (λzz=>e_.extBut _ _ dJ) m1) k1 r1 r2 (az (aY _ _) hz) (iL.res zd (D.mono (λzz=>e_.extBut _ _ dJ) m1) λ{tq} sH tF t=> ?_));have m2:Mv σ Z h' σ Z tq:=Mv.but zd sH.extBut;refine ai ⟨r5 vW _, ?_⟩;have aX:aA c Z (λa=>a=d\/a=J) σ {s with heap:=h'} σ {s with heap:=tq,toks:=t}:=aA.but (s:={s with heap:=h'}) (t:=t) au.inv zd sH.extBut tF.ex (.inl rfl);exact ih (i:=i+1) (s:={s with heap:=tq,toks:=t}) e2 k2 (az (ay (bG pA _) (gh (vK ..))) hz) aX.inv (kD.elim λo fm=>fm.elim λe r=>⟨o,(sH.2 _ (aL dJ)).trans e,r⟩) ((sH.2 _ ld).trans ((e_.2 _ lJ).trans hl)) (hv.mono (Mv.trans m1 m2)) tF (λst=>q ((au.trans aX).trans st)) (by rewrite [Nat.sub_succ];refine a6 hm ?_;rfl)
theorem LJ (hh:A.handled=none) (I:Inv c σ Z s.heap) (hu:A.units+20<cLine) (r:Rv c σ Z s.heap (.aa xs) u) (X_:l5 xs=some ps) (hk:ps.all (λp=>aR 8 p.1)=true) (hz:ps.length<lim)
  (q:Q (.aN (dM ps ([], [])).1 (dM ps ([], [])).2) σ) (k:bR c Z X σ s Q R):wpAny c.M A (call (.type "dict") [u]) R E s:=
 r.je (G:=λu=>wpAny c.M A (call (.type "dict") [u]) R E s) λ{l us ep} f hv=>EC I λD I'=>by
  have gs:=bk s.heap;have oQ:=bt s.heap (bp [] 0) _ _ f.at_;have hT:(⟨s.heap.push (bp [] 0),s.gens,s.drawn,s.toks,s.os⟩:Shared).TypeIs (.ref l) "list":=⟨_,oQ,rfl⟩;refine wb (wpAny_typeOf hT (jw (by decide) (wb (M9 (s:=⟨s.heap.push (bp [] 0),s.gens,s.drawn,s.toks,s.os⟩) oQ LQ (by decide) hh (hsz:=by decide+kernel) λg5 VW k₂=> ?_))));have yy:=k₂ _ _ oQ;refine jw rfl (wb (gj (wb (wpAny_pyIter_list (items:=us.toArray) ⟨_,yy,rfl,_,rfl⟩ (ai ⟨r5 vW _, ?_⟩)))));have I2:Inv c σ (Zp Z s.heap.objs.size) g5:=I'.grow k₂;have gd:=k₂ _ _ (cb s.heap (o:=bp [] 0) rfl);have dJ:s.heap.objs.size≠g5.objs.size:=cq (bk _) gd;have kk:∀b o,s.heap.get? b=some o->(g5.push {cls:= .type "list_iterator",data:= .fields #[.ref l, .int 0 0]}).get? b=some o:=λb o e=>bt _ _ _ _ (k₂ _ _ (bt _ _ _ _ e));have m2:Mv σ Z s.heap σ (Zp (Zp Z s.heap.objs.size) g5.objs.size) (g5.push {cls:= .type "list_iterator",data:= .fields #[.ref l, .int 0 0]}):=λf=>⟨kk _ _ f.at_,f.own,λz=>z.elim (λz=>z.elim f.nz (cq gs f.at_)) (cq (bk _) (k₂ _ _ (bt _ _ _ _ f.at_)))⟩;have D2:bc c σ (Zp (Zp Z s.heap.objs.size) g5.objs.size) (g5.push {cls:= .type "list_iterator",data:= .fields #[.ref l, .int 0 0]}) s.heap.objs.size [] []:= .mk (bt _ _ _ _ gd) cY .nil D.m;refine MK (c:=c) (A:=A.in1) (σ:=σ) (Z:=Zp (Zp Z s.heap.objs.size) g5.objs.size) (s:=⟨_,s.gens,s.drawn,VW,s.os⟩) (xs:=xs) (us:=us) (l:=l) (i:=0) (ks:= []) (vs:= []) (ep:=ep) hh (Cu (i:=13) hu (by decide)) (.inl (.inr rfl)) (.inr rfl) dJ (m2 f).nz X_ hk (by refine a6 kX ?_;rw [di];exact hz) (I2.mm rfl) ⟨_,cb _ rfl,rfl,rfl⟩ (bt _ _ _ _ yy) (hv.mono m2) D2 λ{s' h'} st e_ D'=>⟨rfl, ?_⟩;have t8:∀b,Z b->Zp (Zp Z s.heap.objs.size) g5.objs.size b/\¬b=g5.objs.size:=λb z=>⟨.inl (.inl z),(I.res z).ex.elim λzz e=>cq (bk _) (k₂ _ _ (bt _ _ _ _ e))⟩;have m3:Mv σ (Zp (Zp Z s.heap.objs.size) g5.objs.size) s'.heap σ Z h':=Mv.sE (λb z=>(t8 b z).1) (λb (e:b=_)=> .inr e) e_;have dU:aA c Z X σ s σ {s' with heap:=h'}:=st.xp (t:=s'.toks) (Y:=λb=>b=g5.objs.size) kk t8 (λb (e:b=_)=> .inr e) e_ (λb (e:b=_)=> ?_) (λb o e y=>absurd y (λy=>y.elim (cq gs e) (cq (bk _) (k₂ _ _ (bt _ _ _ _ e))))) rfl rfl
  ·exact k q ((D'.mono (λzz e=>e_ _ _ dJ e) m3).frozen (I.fresh gs) (I.iC gs)) dU
  ·subst e
   cases q:s.heap.get? g5.objs.size with
   |none=>rfl
   |some o=>exact absurd rfl (cq (bk _) (k₂ _ _ (bt _ _ _ _ q)))
end
end
section
open PySem PySem.W PyProof.Rows PySem.SeqAt
section
variable{c:Cx} {A:Around} {E:Value->Shared->Prop} {s:Shared} {it d v:Addr} {es:List DictEntry} {i ep:Nat}
theorem Sn (hd:(d==sysModules)=false) (ho:s.heap.get? d=some (bp es ep))
  (hQ:Q (.ref s.heap.objs.size) {s with heap:=s.heap.push {cls:= .type "dict_keyiterator",data:= .fields #[.ref d, .int 0 0, .int es.length 0, .int ep 0]}}):
  wpAny c.M A (pyIter (.ref d)) Q E s:=by
 have hT:s.TypeIs (.ref d) "dict":=⟨_,ho,rfl⟩;refine wpAny_pyIter_slot hT F.slot_dict_iter (jb F.slot_dict_iter hT F.entry_dict_iter (wb (wb (vI hT ?_))) (F.args_dict_iter_1 _));show wpAny _ _ (pure (Value.ref d)) _ _ s;refine ai ?_;show wpAny _ _ (Builtin.Dict.showsAll d>>=_) _ _ s;refine wb (ct (a6 hd cK) (ai (wb (gy ho rfl (wb (kW ho rfl (wb (iO (ai ⟨_,rfl,"dict_keyiterator",_,⟨_,cb _ rfl,rfl⟩,F.slot_dict_keyiterator_next.lookup,hQ⟩)))))))))
theorem Sl (hv:s.heap.IsValuesView v d) (ho:s.heap.get? d=some (bp es ep))
  (hQ:Q (.ref s.heap.objs.size) {s with heap:=s.heap.push {cls:= .type "dict_valueiterator",data:= .fields #[.ref d, .int 0 0, .int es.length 0, .int ep 0]}}):
  wpAny c.M A (pyIter (.ref v)) Q E s:=by
 obtain⟨ov,Y4,yB,Yh⟩:=id hv;exact wpAny_pyIter_slot hv.typeIs F.slot_dict_values_iter (jb F.slot_dict_values_iter hv.typeIs F.entry_dict_values_iter (wb (ai (wb (wb (wpAny_field Y4 Yh (x:= .ref d) rfl (ai (wb (wb (gy ho rfl (wb (kW ho rfl (a6 (show Builtin.Dict_items.ownsTuple "dict_valueiterator"=false by decide) (iO (ai ⟨_,rfl,"dict_valueiterator",_,⟨_,cb _ rfl,rfl⟩,F.slot_dict_valueiterator_next.lookup,hQ⟩) (hd:=by refine a6 (aB cK) ?_;size_fits)))))))))))))) (F.args_dict_values_iter_1 _))
theorem w_:¬((i:Int)<0):=Int.not_lt.mpr (nE i)
theorem FY (hh:A.handled=none) (hit:s.heap.IsKeyIter it d i es.length ep) (hm:s.heap.get? d=some (bp es ep))
  (q:∀en,es[i]? =some en->∀h',h'.IsKeyIter it d (i+1) es.length ep->Heap.SameBut it s.heap h'->Q (some en.key) {s with heap:=h'}) (qe:es[i]? =none->∀h',Heap.ExtBut it s.heap h'->Q none {s with heap:=h'}):
  wpAny c.M A (pyNext (.ref it)) Q E s:=by
 obtain⟨o,ho,hc,hd⟩:=id hit;refine wb (wpAny_attempt (tH (name:=Str.ofString "__next__") hit.typeIs F.slot_dict_keyiterator_next
  (jb F.slot_dict_keyiterator_next hit.typeIs F.entry_dict_keyiterator_next ?_ (F.args_dict_keyiterator_next_1 _))))
 refine aK (ai (aK (aK (aK (wpAny_typeNameOfWhole_keyiter hit.typeIs (ai ?_))))));refine aK (wpAny_fieldsOf ho hd ?_);have B_:Builtin.Dict_items.ownsTuple "dict_keyiterator"=false:=by decide
 refine a6 B_ ?_;show wpAny _ _ (if(Value.ref d==Value.none)=true then _ else _) _ _ s;refine ct (show¬((Value.ref d==Value.none)=true) from cK) (aK (ai (aK (gy hm rfl ?_))));refine ct (mu _) (aK (ai (aK (kW hm rfl ?_))));refine ct (mu _) (ai ?_);show wpAny _ _ (match if(i:Int)<0 then none else es.toArray[((i:Nat):Int).toNat]? with|some e=>_|none=>_) _ _ s;refine a6 (aB w_) ?_;rewrite [nF];refine a6 (fN) ?_;cases hx:es[i]? with
 |some en=>
  refine wb (wb (wpAny_typeNameOfWhole_keyiter hit.typeIs (ai (wb (wpAny_isOneOf_keyiter hit.typeIs ?_)))));show wpAny _ _ (setField (.ref it) 1 (rawInt ((i:Int)+1))>>=_) _ _ s;refine wb (pj ho hd (by simp) ?_);have kD:(s.heap.update it (Obj.mapFields (·.setIfInBounds 1 (rawInt ((i:Int)+1))))).IsKeyIter it d (i+1) es.length ep:=
   ⟨_,kR _ ho (Obj.isFreed_of_fields (Obj.data_mapFields hd _)),(Obj.cls_mapFields ..).trans hc,(Obj.data_mapFields hd _).trans rfl⟩
  refine wb (bN (wb (wpAny_isOneOf_keyiter (s:={s with heap:=s.heap.update it (Obj.mapFields (·.setIfInBounds 1 (rawInt ((i:Int)+1))))}) kD.typeIs ?_)));show wpAny _ _ (pure en.key) _ _ _;exact ai (ai ⟨_,rfl,ai (q en hx _ kD (iN ..))⟩)
 |none=>
  refine wb (wb (wpAny_typeNameOfWhole_keyiter hit.typeIs (ai ?_)));show wpAny _ _ (setField (.ref it) 0 .none>>=_) _ _ s;refine wb (pj ho hd (by simp) (wb (wb (iO ?_ (by size_fits)))));refine wb (m:=firstArgMember _ _) (nN (a:=Value.none) (by first|rfl|(simp only [firstArgMember];rfl)) (iO (wb (wpAny_handled ?_)) (by size_fits)));refine a6 (show A.in1.handled=none from hh) ?_;refine wb (ai (wpAny_throw ?_));exact wb (ph (T:="StopIteration") (b:=true) ⟨_,cb _ rfl,rfl⟩ isSubtype_stop (ai (qe hx _ (((iN ..).extBut.push _).push _))))
theorem FX (hh:A.handled=none) (hit:s.heap.IsValIter it d i es.length ep) (hm:s.heap.get? d=some (bp es ep))
  (q:∀en,es[i]? =some en->∀h',h'.IsValIter it d (i+1) es.length ep->Heap.SameBut it s.heap h'->Q (some en.val) {s with heap:=h'}) (qe:es[i]? =none->∀h',Heap.ExtBut it s.heap h'->Q none {s with heap:=h'}):
  wpAny c.M A (pyNext (.ref it)) Q E s:=by
 obtain⟨o,ho,hc,hd⟩:=id hit;refine wb (wpAny_attempt (tH (name:=Str.ofString "__next__") hit.typeIs F.slot_dict_valueiterator_next
  (jb F.slot_dict_valueiterator_next hit.typeIs F.entry_dict_valueiterator_next ?_ (F.args_dict_valueiterator_next_1 _))))
 refine aK (ai (aK (aK (aK (wpAny_typeNameOfWhole_valiter hit.typeIs (ai ?_))))));refine aK (wpAny_fieldsOf ho hd ?_);have B_:Builtin.Dict_items.ownsTuple "dict_valueiterator"=false:=by decide
 refine a6 B_ ?_;show wpAny _ _ (if(Value.ref d==Value.none)=true then _ else _) _ _ s;refine ct (show¬((Value.ref d==Value.none)=true) from cK) (aK (ai (aK (gy hm rfl ?_))));refine ct (mu _) (aK (ai (aK (kW hm rfl ?_))));refine ct (mu _) (ai ?_);show wpAny _ _ (match if(i:Int)<0 then none else es.toArray[((i:Nat):Int).toNat]? with|some e=>_|none=>_) _ _ s;refine a6 (aB w_) ?_;rewrite [nF];refine a6 (fN) ?_;cases hx:es[i]? with
 |some en=>
  refine wb (wb (wpAny_typeNameOfWhole_valiter hit.typeIs (ai (wb (wpAny_isOneOf_valiter hit.typeIs ?_)))));show wpAny _ _ (setField (.ref it) 1 (rawInt ((i:Int)+1))>>=_) _ _ s;refine wb (pj ho hd (by simp) ?_);have kD:(s.heap.update it (Obj.mapFields (·.setIfInBounds 1 (rawInt ((i:Int)+1))))).IsValIter it d (i+1) es.length ep:=
   ⟨_,kR _ ho (Obj.isFreed_of_fields (Obj.data_mapFields hd _)),(Obj.cls_mapFields ..).trans hc,(Obj.data_mapFields hd _).trans rfl⟩
  refine wb (bN (wb (wpAny_isOneOf_valiter (s:={s with heap:=s.heap.update it (Obj.mapFields (·.setIfInBounds 1 (rawInt ((i:Int)+1))))}) kD.typeIs (wb (wpAny_isOneOf_valiter (s:={s with heap:=s.heap.update it (Obj.mapFields (·.setIfInBounds 1 (rawInt ((i:Int)+1))))}) kD.typeIs ?_)))));show wpAny _ _ (pure en.val) _ _ _;exact ai (ai ⟨_,rfl,ai (q en hx _ kD (iN ..))⟩)
 |none=>
  refine wb (wb (wpAny_typeNameOfWhole_valiter hit.typeIs (ai ?_)));show wpAny _ _ (setField (.ref it) 0 .none>>=_) _ _ s;refine wb (pj ho hd (by simp) (wb (wb (iO ?_ (by size_fits)))));refine wb (m:=firstArgMember _ _) (nN (a:=Value.none) (by first|rfl|(simp only [firstArgMember];rfl)) (iO (wb (wpAny_handled ?_)) (by size_fits)));refine a6 (show A.in1.handled=none from hh) ?_;refine wb (ai (wpAny_throw ?_));exact wb (ph (T:="StopIteration") (b:=true) ⟨_,cb _ rfl,rfl⟩ isSubtype_stop (ai (qe hx _ (((iN ..).extBut.push _).push _))))
theorem xS:a∈ [a,b]:=aM
theorem I4:b∈ [a,b]:=aQ _ aM
theorem xR (h:b∉ [a]):b≠a:=λe=>h (b3.mpr e)
theorem Oo (hh:A.handled=none) (I:Addr) (tf:d≠I):Walks c.prog c.w A I [I,d] [I] es.length (λi v=>∃en,es[i]? =some en/\v=en.key) (λi h=>h.IsKeyIter I d i es.length ep/\h.get? d=some (bp es ep)) where
 sub:=λzz hb=>b3.mp hb▸xS
 frame:=λzz zz zz st hk=>⟨st.1.at (hk I xS),hk d I4 _ st.2⟩
 item:=λzz s zz zz hi st hQ=>FY hh st.1 st.2 (λen hx h' hit hs=>hQ en.key h' s.toks ⟨en,hx,rfl⟩ ⟨hit,hs.extBut d _ tf st.2⟩ λb o hb e=>hs.extBut b o (xR hb) e) λhx=>cy ((d_ hi).symm.trans hx)
 done:=λs zz zz st hQ=>FY hh st.1 st.2 (λzz hx=>absurd (gu hx) (tS _)) λzz h' he=>hQ h' s.toks λb o hb e=>he b o (xR hb) e
 self:=λzz zz zz zz st hQ=>wpAny_pyIter_keyiter st.1 hQ
theorem NS (hh:A.handled=none) (I:Addr) (tf:d≠I):Walks c.prog c.w A I [I,d] [I] es.length (λi v=>∃en,es[i]? =some en/\v=en.val) (λi h=>h.IsValIter I d i es.length ep/\h.get? d=some (bp es ep)) where
 sub:=λzz hb=>b3.mp hb▸xS
 frame:=λzz zz zz st hk=>⟨st.1.at (hk I xS),hk d I4 _ st.2⟩
 item:=λzz s zz zz hi st hQ=>FX hh st.1 st.2 (λen hx h' hit hs=>hQ en.val h' s.toks ⟨en,hx,rfl⟩ ⟨hit,hs.extBut d _ tf st.2⟩ λb o hb e=>hs.extBut b o (xR hb) e) λhx=>cy ((d_ hi).symm.trans hx)
 done:=λs zz zz st hQ=>FX hh st.1 st.2 (λzz hx=>absurd (gu hx) (tS _)) λzz h' he=>hQ h' s.toks λb o hb e=>he b o (xR hb) e
 self:=λzz zz zz zz st hQ=>wpAny_pyIter_valiter st.1 hQ
theorem Pa (lo:(d==sysModules)=false):KdlSrc c.prog c.w "dict" d d es.length (λi v=>∃en,es[i]? =some en/\v=en.key) (λh=>h.get? d=some (bp es ep)) where
 type:=λzz hm=>⟨_,hm,rfl⟩
 there:=λzz hm=>⟨kY hm,kY hm⟩
 keep:=λzz zz hm hk=>hk d (.inl rfl) _ hm
 notList:=by decide
 notTuple:=by decide
 hint:=λzz zz zz zz hm hq=>kdl_hint_dict ⟨_,hm,rfl⟩ hq
 iter:=λzz zz hh hm=>⟨_,_,(λzz zz hq=>Sn lo hm hq),Oo hh _ (nM (kY hm)),⟨⟨_,cb _ rfl,rfl,rfl⟩,bt _ _ _ _ hm⟩⟩
theorem P9:KdlSrc c.prog c.w "dict_values" v d es.length (λi v=>∃en,es[i]? =some en/\v=en.val) (λh=>h.IsValuesView v d/\h.get? d=some (bp es ep)) where
 type:=λzz hm=>hm.1.typeIs
 there:=λzz hm=>⟨hm.1.elim λzz eC=>eC.elim λho zz=>kY ho,kY hm.2⟩
 keep:=λzz zz hm hk=>⟨hm.1.elim λo dQ=>dQ.elim λho x=>⟨o,hk v (.inl rfl) o ho,x⟩,hk d (.inr rfl) _ hm.2⟩
 notList:=by decide
 notTuple:=by decide
 hint:=λzz zz zz zz hm hq=>kdl_hint_values hm.1.typeIs hq
 iter:=λzz zz hh hm=>⟨_,_,(λzz zz hq=>Sl hm.1 hm.2 hq),NS hh _ (nM (kY hm.2)),⟨⟨_,cb _ rfl,rfl,rfl⟩,bt _ _ _ _ hm.2⟩⟩
theorem Fi (h:ItemsOf (λi v=>∃en,es[i]? =some en/\v=f en) acc es.length):acc=(es.map f).toArray:=by
 refine Array.ext (h.1.trans (by simp)) λi h1 h2=> ?_;obtain⟨en,e1,e2⟩:=h.2 i acc[i] (tG h1);refine e2.trans (cL (Eq.trans ?_ (tG h2)));refine a6 (fN) (a6 (fc) (a6 e1 ?_));rfl
end
end
section
open PySem PySem.W PyProof.Rows PySem.SeqAt
noncomputable def od:Nat->Int->List V
 |0,_=> []
 |n+1,a=> .int a::od n (a+1)
inductive Sq (σ:St) (n:Nat):V->List V->Prop
 |aa {xs:List V}:Sq σ n (.aa xs) xs
 |ref {a:Addr} {xs:List V} (h:σ a=some (.list xs)):Sq σ n (.ref a) xs
 |tup {xs:List V} (h:Nat.ble 1 n=true):Sq σ n (.tup xs) xs
 |dc {a b:Int} (h:Nat.ble 2 n=true) (ha:a.natAbs<2147483648) (hb:b.natAbs<2147483648):Sq σ n (.dc a b) (od (b -a).toNat a)
inductive Dc (σ:St):V->List V->List V->Prop
 |aN {ks vs:List V}:Dc σ (.aN ks vs) ks vs
 |ref {a:Addr} {ks vs:List V} (h:σ a=some (.dict ks vs)):Dc σ (.ref a) ks vs
section
variable{c:Cx} {Z X:Addr->Prop} {σ:St} {s:Shared} {A:Around} {E:Value->Shared->Prop} {Q:V->St->Prop} {R:Value->Shared->Prop} {v w:V} {u x:Value} {xs ys ks vs:List V} {us:List Value} {G:Value->Prop} {n:Nat}
@[elab_as_elim] theorem Sq.o5 (S:Sq σ 1 v xs) (I:Inv c σ Z s.heap) (r:Rv c σ Z s.heap v u) (kt:∀{a us e},v= .tup xs->s.heap.get? a=some (gq us e)->aO c σ Z s.heap xs us->G (.ref a)) (kl:∀{a us e},s.heap.get? a=some (c5 us e)->aO c σ Z s.heap xs us->G (.ref a)):G u:=
 Sq.casesOn (motive:=λw ys zz=>w=v->ys=xs->G u) S (λe e'=>by subst e;exact r.je λf l=>kl f.at_ (e'▸l)) (λh e e'=>by subst e;exact r.gm (I.list h λh l=>kl h (e'▸l)))
  (λzz e e'=>by subst e;exact r.cR λf l=>kt (aE _ e') f.at_ (e'▸l)) de rfl rfl
@[elab_as_elim] theorem Sq.rR (S:Sq σ 0 v xs) (I:Inv c σ Z s.heap) (r:Rv c σ Z s.heap v u) (kl:∀{a us e},s.heap.get? a=some (c5 us e)->aO c σ Z s.heap xs us->G (.ref a)):G u:=
 Sq.casesOn (motive:=λw ys zz=>w=v->ys=xs->G u) S (λe e'=>by subst e;exact r.je λf l=>kl f.at_ (e'▸l)) (λh e e'=>by subst e;exact r.gm (I.list h λh l=>kl h (e'▸l))) de de rfl rfl
@[elab_as_elim] theorem Dc.view (D:Dc σ v ks vs) (I:Inv c σ Z s.heap) (r:Rv c σ Z s.heap v u) (k:∀{a},bc c σ Z s.heap a ks vs->¬Z a->G (.ref a)):G u:=
 Dc.casesOn (motive:=λw ks vs zz=>Rv c σ Z s.heap w u->(∀{a},bc c σ Z s.heap a ks vs->¬Z a->G (.ref a))->G u) D (λr k=>r.zm λf n m l=>k (.mk f.at_ n l m) f.nz) (λh r k=>r.gm (I.dict h λho n l=>k (.mk ho n l (I.sys (I.jX h).new)) (I.nz h))) r k
theorem sz (h:n<lim) (l:n=us.length):us.toArray.size<=sizeLine:=wk h l
theorem fit (h:n<lim):(n:Int)<2^63:=by unfold lim at h;lia
theorem Jb (h:xs.length<lim) (l:xs.length=us.length):((us.toArray.size:Nat):Int)<2^63:=(l▸fit h:((us.length:Nat):Int)<2^63)
theorem J3 (q:Q (.int xs.length) σ) (l:xs.length=us.length):Q (.int us.toArray.size) σ:=(l▸q:Q (.int us.length) σ)
theorem UJ (I:Inv c σ Z s.heap) (r:Rv c σ Z s.heap v u) (S:Sq σ 1 v xs) (hl:xs.length<lim) (q:Q (.int xs.length) σ) (k:bR c Z X σ s Q R):wpAny c.M A (call (.builtin "len") [u]) R E s:=
 S.o5 I r (λ{a us _} zz h l=>len_tuple (items:=us.toArray) ⟨_,h,rfl,_,rfl⟩ (Jb hl l.len) (k.here I (J3 q l.len) (.int ..) _))
  λ{a us _} h l=>Calls.call_len_list (items:=us.toArray) ⟨_,h,rfl,_,rfl⟩ (Jb hl l.len) (k.here I (J3 q l.len) (.int ..) _)
theorem T5 (I:Inv c σ Z s.heap) (r:Rv c σ Z s.heap v u) (D:Dc σ v ks vs) (hl:ks.length<lim) (q:Q (.int ks.length) σ) (k:bR c Z X σ s Q R):wpAny c.M A (call (.builtin "len") [u]) R E s:=
 D.view I r λ{a} D zz=>D.el λ{es ep} ho zz l=>by
  refine Calls.call_function_entry kind_len plain_len entry_len (args_len1 _) (wb (m:=oneArg "len" _) (ai (wb (m:=callSpecial? (.ref a) (Str.ofString "__len__")) (tH (name:=Str.ofString "__len__") D.typeIs F.slot_dict_len (jb F.slot_dict_len D.typeIs F.entry_dict_len ?_ (F.args_dict_len_1 _))))));show wpAny _ _ (dictSize a>>=_) _ _ s;refine wb (wb (gy ho rfl (ai ?_)));show wpAny _ _ (Builtin.Dict.pendingCount a>>=_) _ _ s;refine wb (wpAny_pendingCount_other D.sys (wpAny_ret_mkInt ?_));have q':Q (.int es.toArray.size) σ:=(l.lk▸q:Q (.int es.length) σ);have Yq:((es.toArray.size:Nat):Int)<2^63:=(l.lk▸fit hl:((es.length:Nat):Int)<2^63);show wpAny _ _ _ _ _ {s with toks:=s.toks+1};refine wb (bN (ai (wb (wpAny_letGo ?_))));show wpAny _ _ (if((es.toArray.size:Nat):Int)<0 then _ else _) _ _ _;refine ct w_ ?_;show wpAny _ _ (if((es.toArray.size:Nat):Int)>=2^63 then _ else _) _ _ _;exact ct (Int.not_le.mpr Yq) (wb (wpAny_mkInt (ai ⟨_,rfl,k.here I q' (.int ..) _⟩)))
theorem QH (I:Inv c σ Z s.heap) (r:Rv c σ Z s.heap v u) (S:Sq σ 1 v xs) (hl:xs.length<lim) (q:Q (.tup xs) σ) (k:bR c Z X σ s Q R):wpAny c.M A (call (.type "tuple") [u]) R E s:=
 S.o5 (G:=λu'=>u=u'->wpAny c.M A (call (.type "tuple") [u']) R E s) I r (λ{a us _} e h l e'=>call_tuple_same ⟨_,h,rfl,_,rfl⟩ (k.same I q (e▸e'▸r)))
  (λ{a us _} h l zz=>call_tuple_list (items:=us.toArray) ⟨_,h,rfl,_,rfl⟩ (λh' hk=>have I':=I.grow hk
   k q (.BH (Fz.new I' rfl) (l.mono (Mv.trans (Mv.grow hk λzz=> .inl) (Mv.push _)))) (aA.grow I λb o e=>bt _ _ _ _ (hk b o e))) (sz hl l.len)) rfl
theorem T4 (I:Inv c σ Z s.heap) (r:Rv c σ Z s.heap v u) (S:Sq σ 1 v xs) (hl:xs.length<lim) (q:Q (.aa xs) σ) (k:bR c Z X σ s Q R):wpAny c.M A (call (.type "list") [u]) R E s:=
 have fin:∀{us:List Value},aO c σ Z s.heap xs us->∀h' c',(∀b o',s.heap.get? b=some o'->h'.get? b=some o')->h'.get? s.heap.objs.size=some (c5 us c')->R (.ref s.heap.objs.size) {s with heap:=h'}:=λl h' c' hk hg=>
  k q (.pV ⟨hg,I.fresh (bk _),I.iC (bk _)⟩ (l.mono (Mv.grow hk λzz=> .inl))) (aA.grow I hk)
 S.o5 I r (λ{a us _} zz h l=>call_list_seq a (.inr rfl) h rfl rfl (fin l) (sz hl l.len)) λ{a us _} h l=>call_list_seq a (.inl rfl) h rfl rfl (fin l) (sz hl l.len)
theorem T6 (I:Inv c σ Z s.heap) (hu:A.units+20<cLine) (r:Rv c σ Z s.heap v u) (D:Dc σ v ks vs) (h1:ks.all isStr=true) (h2:ks.length<=8) (q:∀p,σ p=none->Q (.ref p) (upd σ p (.dict ks vs))) (k:bR c Z X σ s Q R):wpAny c.M A (call (.type "dict") [u]) R E s:=
 D.view I r λD nz=>LX I nz (az (aU (by decide) _) hu) D h1 h2 q k
theorem QI (I:Inv c σ Z s.heap) (r:Rv c σ Z s.heap (.tup xs) u) (q:Q (.bool true) σ) (k:bR c Z X σ s Q R):wpAny c.M A (call (.builtin "isinstance") [u, .type "tuple"]) R E s:=
 r.cR λf zz=>call_isinstance (isinstance_true (Tx:="tuple") (T:="tuple") (by rfl) (by rw [isSubtype_type];kernel_rfl)) ⟨⟨_,f.at_,rfl⟩,k.same I q (.bool _)⟩
theorem QJ (I:Inv c σ Z s.heap) (r:Rv c σ Z s.heap (.int i) u) (q:Q (.bool true) σ) (k:bR c Z X σ s Q R):wpAny c.M A (call (.builtin "isinstance") [u, .type "int"]) R E s:=
 r.int_inv λt=>call_isinstance (isinstance_true (Tx:="int") (T:="int") (by rfl) (by rw [isSubtype_type];kernel_rfl)) ⟨typeIs_int _ _ _,k.same I q (.bool _)⟩
theorem OT (I:Inv c σ Z s.heap) (r:Rv c σ Z s.heap (.int i) u) (q:Q (.bool false) σ) (k:bR c Z X σ s Q R):wpAny c.M A (call (.builtin "isinstance") [u, .type "bool"]) R E s:=
 r.int_inv λt=>call_isinstance (isinstance_false_int (T:="bool") (by decide) (by rfl) (by rw [isSubtype_type];kernel_rfl)) (k.here I q (.bool _) _)
theorem UQ (i:Int):(if i<0 then -i else i)=(i.natAbs:Int):=by
 by_cases h:i<0
 ·exact a6 (aF h) (a6 (Int.ofNat_natAbs_of_nonpos (Int.le_of_lt h)) rfl)
 ·exact a6 (aB h) (a6 (Int.natAbs_of_nonneg (Int.not_lt.mp h)) rfl)
theorem UM (I:Inv c σ Z s.heap) (r:Rv c σ Z s.heap (.int i) u) (q:Q (.int i.natAbs) σ) (k:bR c Z X σ s Q R):wpAny c.M A (call (.builtin "abs") [u]) R E s:=
 r.int_inv λt=>call_abs_int λx tk=>a6 (UQ i) (k.here I q (.int ..) _)
theorem SS {i:Int} (h0:0<=i) (h:i<10):i.natAbs.log2<1920:=by
 rcases Nat.eq_zero_or_pos i.natAbs with e|e
 ·refine a6 e ?_;decide
 ·exact gB ((Nat.log2_lt (k:=4) (by lia)).mpr (by lia)) (by decide)
theorem UI {i:Int} {m:Nat} (I:Inv c σ Z s.heap) (r:Rv c σ Z s.heap (.int i) u) (h0:0<=i) (h:i<10) (hm:m<bJ.length) (e:tx m=Str.ofString (toString i)) (q:Q (.str m) σ) (k:bR c Z X σ s Q R):wpAny c.M A (call (.type "str") [u]) R E s:=
 r.int_inv λt=>PySem.P.str_of_int (SS h0 h) (a6 (show Str.ofString (toString i)=tx m from e.symm) (k.here I q (.str hm _) _))
theorem OS (I:Inv c σ Z s.heap) (r:Rv c σ Z s.heap (.int i) u) (q:Q (.dc 0 i) σ) (k:bR c Z X σ s Q R):wpAny c.M A (call (.type "range") [u]) R E s:=
 r.int_inv λt=>call_range_1 (k q (.dc (Fz.new I rfl)) (aA.grow I (bt _ _)))
theorem OR (I:Inv c σ Z s.heap) (r:Rv c σ Z s.heap (.int i) u) (r':Rv c σ Z s.heap (.int j) x) (q:Q (.dc i j) σ) (k:bR c Z X σ s Q R):wpAny c.M A (call (.type "range") [u,x]) R E s:=
 r.int_inv λt=>r'.int_inv λt'=>call_range_2 (k q (.dc (Fz.new I rfl)) (aA.grow I (bt _ _)))
theorem QG {bs:List Bool} (l:aO c σ Z s.heap (bs.map V.bool) us):us=bs.map Value.bool:=by
 induction bs generalizing us with
 |nil=>exact l.nil_inv rfl
 |cons b bs ih=>exact l.cons_inv λr l=>r.bool_inv (aE _ (ih l))
theorem N6 (bs:List Bool):((List.range (bs.map Value.bool).toArray.size).all λi=>bs.getD i false)=bs.all id:=by
 have e:(List.range bs.length).map (λi=>bs.getD i false)=bs:=vM λi=>by
  refine a6 (fc) ?_;by_cases h:i<bs.length
  ·refine a6 (List.getElem?_range h) (a6 (d_ h) ?_);rewrite [Option.map_some];refine a6 (iM) (a6 (d_ h) ?_);rfl
  ·refine a6 (kQ (iq.mp h)) (a6 (kQ (a6 gA (iq.mp h))) ?_);rfl
 conv=>rhs;rw [<-e,List.all_map]
 refine a6 gS ?_;rw [b0];rfl
theorem UL {bs:List Bool} (hh:A.handled=none) (I:Inv c σ Z s.heap) (r:Rv c σ Z s.heap (.aa (bs.map V.bool)) u) (q:Q (.bool (bs.all id)) σ) (k:bR c Z X σ s Q R):wpAny c.M A (call (.builtin "all") [u]) R E s:=
 r.je λ{a us ep} f l=>by
  obtain rfl:=QG l;refine call_all_walk (wpAny_pyIter_list (items:=(bs.map Value.bool).toArray) ⟨_,f.at_,rfl,_,rfl⟩ ⟨s.heap.objs.size,_,_,_,_,_,λi=>bs.getD i false,rfl,Walks.list (A:=A.in1) hh _ a (nM (kY f.at_)) (bs.map Value.bool).toArray,
   ⟨⟨_,cb _ rfl,rfl,rfl⟩,⟨_,bt _ _ _ _ f.at_,rfl,_,rfl⟩⟩,λi v s' Q' E' hv hq=> ?_,λh' tk hk=> ?_⟩)
  ·dsimp only at hq
   rw [iM] at hq;have hv:=(fN ..).symm.trans hv;rw [fc] at hv;cases e:bs[i]? with
   |none=>rw [e] at hv;exact bK hv
   |some b=>rw [e] at hv hq;exact cL hv▸p9 hq
  ·exact a6 (N6 bs) (k q (.bool _) (aA.grow I λb o g=>hk b o (λm=>cq (bk _) g (b3.mp m)) (bt _ _ _ _ g)))
theorem N1 (D:bc c σ Z s.heap d ks vs) (h:R (.ref s.heap.objs.size) {s with heap:=s.heap.push {cls:= .type "dict_values",data:= .fields #[.ref d]}}):wpAny c.M A (call (.builtin "dict.values") [.ref d]) R E s:=by
 refine call_meetsIn F.slot_dict_values D.typeIs F.entry_dict_values (F.args_dict_values_1 _) (S:=λzz R s'=>s'=s/\R (.ok (.ret (.ref s.heap.objs.size))) {s with heap:=s.heap.push {cls:= .type "dict_values",data:= .fields #[.ref d]}}) (.of_wp λA R s' h=> ?_) ⟨rfl,h⟩;obtain⟨rfl,h⟩:=h;refine wb (wb (vI D.typeIs ?_));show wpAny _ _ (pure d) _ _ _;refine ai ?_;show wpAny _ _ (Builtin.Dict.showsAll d>>=_) _ _ _;exact wb (ct (a6 D.sys cK) (ai (wb (iO (ai ⟨_,rfl,h⟩)))))
theorem T3 (hh:A.handled=none) (I:Inv c σ Z s.heap) (r:Rv c σ Z s.heap v u) (D:Dc σ v ks vs) (hl:vs.length<lim) (q:Q (.aa vs) σ) (k:bR c Z X σ s Q R):
  wpAny c.M A (call (.builtin "dict.values") [u]) (λx s'=>wpAny c.M A (call (.type "list") [x]) R E s') E s:=
 D.view I r λ{a} D zz=>N1 D (D.el λ{es ep} ho zz l=>by
  refine kdl_call (P9 (v:=s.heap.objs.size) (d:=a) (es:=es) (ep:=ep)) hh ⟨⟨_,cb _ rfl,rfl,rfl⟩,bt _ _ _ _ ho⟩ (by unfold lim at hl;refine a6 (aT l.lv) ?_;unfold sizeLine;lia) λh' tk hZ c' hk hg hi=> ?_;obtain rfl:=Fi hi;have gf:∀b o,s.heap.get? b=some o->h'.get? b=some o:=λb o g=>hk b o (bt _ _ _ _ g);have I1:=(aA.push (X:=X) I {cls:= .type "dict_values",data:= .fields #[.ref a]}).inv;exact k q (.pV ⟨hg,I1.fresh (bk _),I1.iC (bk _)⟩ (l.vals.mono (Mv.grow gf λzz=> .inl))) (aA.grow I gf))
theorem ON (I:Inv c σ Z s.heap) (ha:σ a=some (.list xs)) (r':Rv c σ Z s.heap w x) (hl:xs.length<lim) (q:Q .none (upd σ a (.list (xs++ [w])))) (k:bR c Z X σ s Q R):wpAny c.M A (call (.builtin "list.append") [.ref a,x]) R E s:=
 I.list ha λ{us ep} ho l=>wpAny_list_append_plain (items:=us.toArray) ⟨ep,ho⟩ (λh' hp hs=>by
  obtain⟨n,hp⟩:=hp;rw [List.push_toArray] at hp;exact k q .none (aA.change (t:=s.toks) I ha (λ_ h=>a_ h rfl) (.inl rfl) hs ⟨_,hp⟩ (.list hp ((l.append (.cons r' .nil)).mono (Mv.change ha (.inl rfl) hs))))) (by refine a6 gS (a6 (aT l.len) ?_);unfold lim at hl;unfold sizeLine;lia)
theorem OM (I:Inv c σ Z s.heap) (ha:σ a=some (.list xs)) (r':Rv c σ Z s.heap w x) (S:Sq σ 1 w ys) (hl:xs.length+ys.length<lim) (q:Q .none (upd σ a (.list (xs++ys)))) (k:bR c Z X σ s Q R):wpAny c.M A (call (.builtin "list.extend") [.ref a,x]) R E s:=
 I.list ha λ{us ep} ho l=>by
  have fin:∀{ws:List Value},aO c σ Z s.heap ys ws->us.length+ws.length<=sizeLine/\R .none {s with heap:=s.heap.update a (Obj.mapSeq λx=>x++ws.toArray)}:=λ{ws} l2=>by
   have hs:=iN (h:=s.heap) (a:=a) (f:=Obj.mapSeq λx=>x++ws.toArray);have hg:=kR (Obj.mapSeq λx=>x++ws.toArray) ho rfl;rw [show Obj.mapSeq (λx=>x++ws.toArray) (c5 us ep)=c5 (us++ws) _ from by rw [c5,Obj.mapSeq,List.append_toArray]] at hg;refine ⟨a6 (aT l.len) (a6 (aT l2.len) ?_),k q .none (aA.change (t:=s.toks) I ha (λ_ h=>a_ h rfl) (.inl rfl) hs ⟨_,hg⟩ (.list hg ((l.append l2).mono (Mv.change ha (.inl rfl) hs))))⟩;unfold lim at hl;unfold sizeLine;lia
  have long:∀{n:Nat},us.length+n<=sizeLine->¬(!us.toArray.isEmpty&&Builtin.List.listTooLong (us.toArray.size+n))=true:=λ{n} h=>by
   have:Builtin.List.listTooLong (us.toArray.size+n)=false:=by simp [Builtin.List.listTooLong];lia
   refine a6 this ?_;simp
  exact S.o5 I r' (λ{b ws Dh} zz hb l2=>call_meets F.slot_list_extend ⟨_,ho,rfl⟩ F.entry_list_extend (F.args_list_extend_2 _ _) (AutoSeq1.list_extend_list_tuple_0 a us.toArray ep b ws.toArray Dh (long (fin l2).1) (ay (aY _ _) (fin l2).1) (kT (fin l2).1)) ⟨ho,hb,(fin l2).2⟩)
   λ{b ws Dh} hb l2=>call_meets F.slot_list_extend ⟨_,ho,rfl⟩ F.entry_list_extend (F.args_list_extend_2 _ _) (AutoSeq1.list_extend_list_list_0 a us.toArray ep b ws.toArray Dh (long (fin l2).1) (ay (aY _ _) (fin l2).1) (kT (fin l2).1)) ⟨ho,hb,(fin l2).2⟩
theorem T2 (hu:A.units+12<cLine) (I:Inv c σ Z s.heap) (r:Rv c σ Z s.heap v u) (rk:Rv c σ Z s.heap k ku) (rd:Rv c σ Z s.heap d du) (D:Dc σ v ks vs) (hk:aR 8 k=true) (q:Q ((b_ k ks vs).getD d) σ) (p:bR c Z X σ s Q R):
  wpAny c.M A (call (.builtin "dict.get") [u,ku,du]) R E s:=D.view I r λD zz=>OJ hu D hk rk rd λru t=>p.here I q ru t
theorem Ma (hu:A.units+12<cLine) (I:Inv c σ Z s.heap) (ha:σ a=some (.dict ks vs)) (rk:Rv c σ Z s.heap k ku) (rd:Rv c σ Z s.heap d du) (hk:aR 8 k=true) (hl:ks.length<lim)
  (qy:∀u,b_ k ks vs=some u->Q u σ) (qn:b_ k ks vs=none->Q d (upd σ a (.dict (ks++ [k]) (vs++ [d])))) (p:bR c Z X σ s Q R):wpAny c.M A (call (.builtin "dict.setdefault") [.ref a,ku,du]) R E s:=
 I.dict ha λho n l=>LI hu (.mk ho n l (I.sys (I.jX ha).new)) hk rk rd hl (λe r t=>p.here I (qy _ e) r t) λe {h' es ep} hs hg l' t=>by
  have m:Mv σ Z s.heap (upd σ a (.dict (ks++ [k]) (vs++ [d]))) Z h':=Mv.change ha (.inl rfl) hs;exact p (qn e) (rd.mono m) (aA.change (t:=t) I ha (λ_ h=>a_ h rfl) (.inl rfl) hs ⟨_,hg⟩ (.dict hg (DX n λm=>by
   obtain⟨j,hj⟩:=qX m;exact l.to hj λzz e2 zz zz zz=>cy ((Ac n hj e2).symm.trans e)) (l'.mono m)))
end
end
section
open PySem PySem.W PyProof.Rows PySem.SeqAt
inductive fH (σ:St) (Q:V->St->Prop):Operator->V->V->Prop
 |add {a b:Int} (q:Q (.int (a+b)) σ):fH σ Q .Add (.int a) (.int b)
 |sub {a b:Int} (q:Q (.int (a -b)) σ):fH σ Q .Sub (.int a) (.int b)
 |mul {a b:Int} (ha:a.natAbs<2^31) (q:Q (.int (a*b)) σ):fH σ Q .Mult (.int a) (.int b)
 |mod {a b:Int} (h:0<b) (q:Q (.int (a.fmod b)) σ):fH σ Q .Mod (.int a) (.int b)
 |pow {n:Nat} (h:n<=60) (q:Q (.int (2^n)) σ):fH σ Q .Pow (.int 2) (.int n)
 |shr {a n:Nat} (q:Q (.int ((a>>>n:Nat):Int)) σ):fH σ Q .RShift (.int a) (.int n)
 |band {a:Nat} (q:Q (.int ((a:Int).fmod 2)) σ):fH σ Q .BitAnd (.int a) (.int 1)
 |tup {xs ys:List V} (hl:xs.length+ys.length<lim) (q:Q (.tup (xs++ys)) σ):fH σ Q .Add (.tup xs) (.tup ys)
 |str {a b m:Nat} (hm:m<bJ.length) (e:tx m=tx a++tx b) (q:Q (.str m) σ):fH σ Q .Add (.str a) (.str b)
 |lst {v w:V} {xs ys:List V} (S:Sq σ 0 v xs) (S':Sq σ 0 w ys) (hl:xs.length+ys.length<lim) (q:Q (.aa (xs++ys)) σ):fH σ Q .Add v w
inductive eV (σ:St) (Q:V->St->Prop):V->V->Prop
 |dict {v k u:V} {ks vs:List V} (D:Dc σ v ks vs) (ok:aR 8 k=true) (l:b_ k ks vs=some u) (q:Q u σ):eV σ Q v k
 |seq {v u:V} {xs:List V} {i:Nat} (S:Sq σ 1 v xs) (hl:xs.length<lim) (e:xs[i]? =some u) (q:Q u σ):eV σ Q v (.int i)
 |last {u:V} {xs:List V} (hl:xs.length<lim) (e:xs[xs.length -1]? =some u) (q:Q u σ):eV σ Q (.tup xs) (.int (-1))
 |str {n i m:Nat} (h:i<(tx n).cps.size) (hm:m<bJ.length) (e:tx m=⟨#[(tx n).cps[i]!]⟩) (q:Q (.str m) σ):eV σ Q (.str n) (.int i)
section
variable{c:Cx} {Z X:Addr->Prop} {σ:St} {s:Shared} {A:Around} {E:Value->Shared->Prop} {Q:V->St->Prop} {R:Value->Shared->Prop} {v w:V} {u x:Value} {xs ys ks vs:List V} {us:List Value} {a sl:Addr} {ep:Nat} {t:Tok}
theorem t_ (h:n<lim) (e:m<=n):m<=sizeLine:=ay e (jd (gB h (by decide+kernel)))
theorem R7 (I:Inv c σ Z s.heap) (r1:Rv c σ Z s.heap (.tup xs) u) (r2:Rv c σ Z s.heap (.tup ys) x) (hl:xs.length+ys.length<lim) (q:Q (.tup (xs++ys)) σ) (k:bR c Z X σ s Q R):wpAny c.M A (binaryOp .Add u x) R E s:=by
 refine r1.cR (G:=λu'=>u=u'->wpAny c.M A (binaryOp .Add u' x) R E s) (λ{a vs e} f l e1=>r2.cR (G:=λu'=>x=u'->wpAny c.M A (binaryOp .Add (.ref a) u') R E s) (λ{b ws e'} f' l' e2=> ?_) rfl) rfl;have ho:=f.at_;have i9:=f'.at_;induction vs with
 |nil=>
  obtain rfl:xs= []:=f9 l.len;exact concat_meets ⟨_,ho,rfl⟩ ⟨_,i9,rfl⟩ noFill_tuple_add seq_tuple_add F.slot_tuple_add F.entry_tuple_add (F.args_tuple_add_2 _ _) (tuple_addW0 a b _ ws.toArray e e' none none #[] #[] rfl) ⟨ho,i9,k.same I q (e2▸r2)⟩
 |cons v1 vs=>induction ws with
  |nil=>
   obtain rfl:ys= []:=f9 l'.len;rw [d6] at q;exact concat_meets ⟨_,ho,rfl⟩ ⟨_,i9,rfl⟩ noFill_tuple_add seq_tuple_add F.slot_tuple_add F.entry_tuple_add (F.args_tuple_add_2 _ _) (tuple_addW1 a b (v1::vs).toArray _ e e' none none #[] #[] (by simp) rfl) ⟨ho,i9,k.same I q (e1▸r1)⟩
  |cons w1 ws=>
   refine concat_meets ⟨_,ho,rfl⟩ ⟨_,i9,rfl⟩ noFill_tuple_add seq_tuple_add F.slot_tuple_add F.entry_tuple_add (F.args_tuple_add_2 _ _)
    (tuple_addW2 a b (v1::vs).toArray (w1::ws).toArray e e' none none #[] #[] (by simp) (by simp) (t_ hl (l.len▸l'.len▸bC _))) ⟨ho,i9, ?_⟩
   rw [List.append_toArray];exact k.xK I q (l.append l')
theorem P_ (I:Inv c σ Z s.heap) (r1:Rv c σ Z s.heap v u) (r2:Rv c σ Z s.heap w x) (S:Sq σ 0 v xs) (S':Sq σ 0 w ys) (hl:xs.length+ys.length<lim) (q:Q (.aa (xs++ys)) σ) (k:bR c Z X σ s Q R):wpAny c.M A (binaryOp .Add u x) R E s:=
 S.rR I r1 λ{a vs e} ho l=>S'.rR I r2 λ{b ws e'} i9 l'=>PySem.P.add_list (items:=vs.toArray) (items2:=ws.toArray) ho i9 (by rw [List.append_toArray];exact k q (.pV (Fz.new I rfl) ((l.append l').mono (Mv.push _))) (aA.push I _)) (t_ hl (l.len▸l'.len▸bC _))
theorem P5:bJ.all (λs=>decide ((Str.ofString s).length<=100))=true:=by decide+kernel
theorem AH {x:Nat} (hx:x<bJ.length):(tx x).length<=100:=by
 have h:=cQ.mp P5 _ (List.getElem_mem hx);unfold tx;refine a6 (iM) (a6 (d_ hx) ?_);exact bY h
theorem TL (a n:Nat):(a:Int).fdiv (2^n)=((a>>>n:Nat):Int):=by
 rewrite [Nat.shiftRight_eq_div_pow];refine a6 (Int.fdiv_eq_ediv_of_nonneg _ (Int.pow_nonneg (by decide))) ?_;rw [Int.natCast_ediv,Int.natCast_pow];rfl
theorem T7 (a:Nat):Builtin.bitAnd a 1=(a:Int).fmod 2:=by
 refine a6 (bitAnd_pp (nE a) (by decide)) (a6 (show(1:Int).toNat=1 from rfl) ?_);rewrite [Nat.and_one_is_mod];refine a6 (Int.fmod_eq_emod_of_nonneg _ (by decide)) ?_;rw [Int.natCast_emod];rfl
set_option tactic.hygienic true in
theorem Vd {a b:Int} (ha:a.natAbs<2^31):IntMulOk a b:=IntMulOk.of_left (by
 unfold Builtin.Int.intBits
 split
 ·decide
 ·rename_i h
  exact ay ((Nat.log2_lt (k:=31) (Int.natAbs_ne_zero.mpr λe=>h (by refine a6 e ?_;rfl))).mpr ha) (by decide))
theorem VL {o:Operator} (I:Inv c σ Z s.heap) (q:fH σ Q o v w) (k:bR c Z X σ s Q R):Rv c σ Z s.heap v u->Rv c σ Z s.heap w x->wpAny c.M A (binaryOp o u x) R E s:=
 fH.casesOn (motive:=λo v w zz=>Rv c σ Z s.heap v u->Rv c σ Z s.heap w x->wpAny c.M A (binaryOp o u x) R E s) q (λq r1 r2=>r1.int_inv λt=>r2.int_inv λt'=>PySem.P.add_int (k.here I q (.int ..) _)) (λq r1 r2=>r1.int_inv λt=>r2.int_inv λt'=>PySem.P.sub_int (k.here I q (.int ..) _))
  (λha q r1 r2=>r1.int_inv λt=>r2.int_inv λt'=>PySem.P.mul_int (k.here I q (.int ..) _) (hm:=Vd ha)) (λh q r1 r2=>r1.int_inv λt=>r2.int_inv λt'=>PyProof.Rows.mod_int (Int.ne_of_gt h) (k.here I q (.int ..) _))
  (λ{n} h q r1 r2=>r1.int_inv λt=>r2.int_inv λt'=>pow_int_small (nE n) (Int.ofNat_le.mpr (ay h (by decide))) (by decide) (k.here I q (.int ..) _)) (λ{a n} q r1 r2=>r1.int_inv λt=>r2.int_inv λt'=>rshift_int (nE n) (by rw [nF,TL];exact k.here I q (.int ..) _))
  (λ{a} q r1 r2=>r1.int_inv λt=>r2.int_inv λt'=>and_int (by rw [T7];exact k.here I q (.int ..) _)) (λhl q r1 r2=>R7 I r1 r2 hl q k)
  (λhm e q r1 r2=>r1.str_inv λh t=>r2.str_inv λh' t'=>PyProof.Rows.add_str (λt' tk=>a6 (aT e) (k.here I q (.str hm _) _)) (ay (dh (AH h) (AH h')) (by decide+kernel))) (λS S' hl q r1 r2=>P_ I r1 r2 S S' hl q k)
theorem UX (hk:k<(tx n).cps.size):(tx n).cps[k]? =some ((tx n).cps[k]!):=by exact a6 (tG hk) (a6 (getElem!_pos (tx n).cps k hk) rfl)
theorem GN {i n:Nat} (h:i<n):seqIndex? (i:Int) n=some i:=by
 unfold seqIndex?;dsimp only;rw [aB w_,aF (by simpa using h),nF]
theorem Rh (h:n -1<n):seqIndex? (-1) n=some (n -1):=by
 have e: -1+(n:Int)=((n -1:Nat):Int):=by rw [Int.add_comm,Int.ofNat_sub (Nat.one_le_of_lt (az (fh _) h))];rfl
 unfold seqIndex?;dsimp only;rw [aF (show(-1:Int)<0 by decide),e,aF (ik.mpr ⟨bQ (nE _),bQ (gC.mpr h)⟩),nF]
theorem Jc (h:n<lim) (e:i<n):(i:Int)<2^63:=fit (gB e h)
theorem W8 {i:Nat}: -(2^63)<=(i:Int):=Int.le_trans (by decide) (nE i)
theorem Sv {i:Nat} (I:Inv c σ Z s.heap) (S:Sq σ 1 v xs) (hl:xs.length<lim) (e:xs[i]? =some w) (q:Q w σ) (k:bR c Z X σ s Q R) (r:Rv c σ Z s.heap v u):wpAny c.M A (getItem u (.int i t)) R E s:=
 S.o5 I r (λ{a us ep} zz ho l=>l.get e λe' ru=>PySem.P.getItem_tuple (items:=us.toArray) ho W8 (Jc hl (gu e)) (GN (gu e')) ((fN ..).trans e') (k.same I q ru))
  λ{a us ep} ho l=>l.get e λe' ru=>wpAny_getItem_list (items:=us.toArray) ⟨_,ho,rfl,_,rfl⟩ (nE i) (Jc hl (gu e)) ((fN ..).trans e') (k.same I q ru)
theorem Uo (I:Inv c σ Z s.heap) (hu:A.units+12<cLine) (q:eV σ Q v w) (k:bR c Z X σ s Q R):Rv c σ Z s.heap v u->Rv c σ Z s.heap w x->wpAny c.M A (getItem u x) R E s:=
 eV.casesOn (motive:=λv w zz=>Rv c σ Z s.heap v u->Rv c σ Z s.heap w x->wpAny c.M A (getItem u x) R E s) q (λD ok l q r1 r2=>D.view I r1 λD zz=>MB hu D ok r2 l λru t=>k.here I q ru t) (λS hl e q r1 r2=>r2.int_inv λt=>Sv I S hl e q k r1)
  (λ{w xs} hl e q r1 r2=>r2.int_inv λt=>r1.cR λ{a us ep} f l=>l.get e λe' ru=>PySem.P.getItem_tuple (items:=us.toArray) f.at_ (by decide) (by decide) (a6 gS (a6 (aT l.len) (Rh (gu e)))) ((fN ..).trans e') (k.same I q ru))
  λ{n i m} h hm e q r1 r2=>r2.int_inv λt=>r1.str_inv λhn t'=>PySem.P.getItem_str (c:=(tx n).cps[i]!) (by have:=AH hn;rw [Bool.or_eq_false_iff,decide_eq_false_iff_not,decide_eq_false_iff_not];have:i<(tx n).length:=h;lia) (by rw [GN (show i<(tx n).length from h)];exact UX h) (a6 (aT e) (k.here I q (.str hm _) _))
theorem rangeSize_one (x y:Int):Builtin.Range.rangeSize x y 1=((y -x).toNat:Int):=by
 unfold Builtin.Range.rangeSize;refine a6 (aF (by decide)) ?_;rw [Int.ediv_one];by_cases h:x<y
 ·refine a6 (aF h) ?_;rewrite [Int.sub_add_cancel];exact a6 (Int.toNat_of_nonneg (Int.le_of_lt (Int.sub_pos.mpr h))) rfl
 ·refine a6 (aB h) (a6 (Int.toNat_of_nonpos (Int.sub_nonpos_of_le (Int.not_lt.mp h))) ?_);rfl
theorem Lu {n:Nat} {Q:Int×Int×Nat->Shared->Prop} (hs:s.heap.IsSliceOf sl .none (.int (-1) t) .none) (hn:1<=n) (h:Q (0,1,n -1) s):wpAny c.M A (Builtin.Slice.sliceApplied (.ref sl) (pure (n:Int))) Q E s:=by
 obtain⟨os,qE,J',oS⟩:=id hs;refine wb (wb (wpAny_field qE oS (x:= .none) rfl (wb (wpAny_field qE oS (x:= .int (-1) t) rfl (wb (wpAny_field qE oS (x:= .none) rfl (ai (wb (slicePart_none ?_)))))))));show wpAny _ _ (if((1:Int)==0)=true then _ else _) _ _ s;refine ct (by decide) (wb (slicePart_none (wb (slicePart_int (wb (ai ?_))))));have e1:Builtin.Slice.sliceAdjust none (some (-1:Int)) 1 (n:Int)=(0,(n:Int) -1):=aE (Prod.mk 0) (show max (-1+(n:Int)) 0=(n:Int) -1 by rw [Int.add_comm];exact Int.max_eq_left (Int.sub_nonneg.mpr (Int.ofNat_le.mpr hn)));have e2:Builtin.Slice.slicePlaces (0:Int) ((n:Int) -1) 1=n -1:=by
  have e:=rangeSize_one 0 ((n:Int) -1);rw [Int.sub_zero] at e;exact(aE Int.toNat e).trans ((nF _).trans (Int.toNat_sub n 1))
 show wpAny _ _ (match Builtin.Slice.sliceAdjust none (some (-1:Int)) 1 (n:Int) with|(lo,hi)=>pure (lo,(1:Int),Builtin.Slice.slicePlaces lo hi 1)) _ _ s;exact a6 e1 (ai (a6 e2 h))
theorem O7 (xs:Array Value) (k:Nat):((List.range k).filterMap λ(j:Nat)=>xs[((0:Int)+(j:Int)*1).toNat]?).toArray=(xs.toList.take k).toArray:=by
 have h:=pick_run xs 0 k;rw [List.filterMap_map,List.drop_zero] at h;refine a6 (aT h) (aE List.toArray (aE (List.filterMap · _) (eR λj=> ?_)));show xs[_]? =xs[0+j]?;rw [Int.mul_one,Int.zero_add,nF,di]
theorem Qv (I:Inv c σ Z s.heap) (ho:s.heap.get? a=some (gq us ep)) (hv:aO c σ Z s.heap xs us) (hs:s.heap.IsSliceOf sl .none (.int (-1) t) .none) (h1:xs≠ []) (hl:xs.length<lim) (q:Q (.tup xs.dropLast) σ) (k:bR c Z X σ s Q R):
  wpAny c.M A (getItem (.ref a) (.ref sl)) R E s:=by
 have J6:1<=us.toArray.size:=(hv.len▸List.length_pos_iff.mpr h1:1<=us.length);have ht:IsTup s.heap a us.toArray:=⟨_,ho,rfl,_,rfl⟩;obtain⟨os,qE,J',oS⟩:=id hs;refine bN (wb (wpAny_sequenceKey ht.typeIs (by decide) (wb (tH (name:=Str.ofString "__getitem__") ht.typeIs slot_tuple_getitem (jb slot_tuple_getitem ht.typeIs entry_tuple_getitem ?_ (args_tuple_getitem _ _))))));show wpAny _ _ (Builtin.Tuple.tupleItemsOf (.ref a)>>=_) _ _ s;refine wb (tupleItemsOf_ ht (wb (wpAny_typeOf (T:="slice") ⟨os,qE,J'⟩ (jw (by decide) (wb (Lu hs J6 ?_))))));have gR:¬(((0:Int)==0&&(1:Int)==1&&(us.toArray.size -1)==us.toArray.size)=true):=by
  rw [show((us.toArray.size -1)==us.toArray.size)=false from il.mpr (nM (Nat.sub_lt J6 Nat.one_pos))];decide
 show wpAny _ _ (if((0:Int)==0&&(1:Int)==1&&(us.toArray.size -1)==us.toArray.size)=true then _ else _) _ _ s;refine ct gR ?_;rw [O7];have Vu:sizeOk (.seq ((us.toArray.toList.take (us.toArray.size -1)).toArray)):=t_ hl (ay (List.length_take_le _ _) (ay (Nat.sub_le _ _) (gh hv.len.symm)));have hq:Q (.tup (xs.take (us.length -1))) σ:=hv.len▸List.dropLast_eq_take▸q;exact aK (m:=Builtin.Tuple.tupleExact _) (iO (ai ⟨_,rfl,ai (k.xK I hq (hv.take _))⟩) Vu)
theorem Qu (I:Inv c σ Z s.heap) (ho:s.heap.get? a=some (gq us ep)) (hv:aO c σ Z s.heap xs us) (hs:s.heap.IsSliceOf sl (.int 1 t) .none .none) (h1:xs≠ []) (hl:xs.length<lim) (q:Q (.tup xs.tail) σ) (k:bR c Z X σ s Q R):
  wpAny c.M A (getItem (.ref a) (.ref sl)) R E s:=
 getItem_tuple_from (a:=1) (items:=us.toArray) ⟨_,ho,rfl,_,rfl⟩ hs (bC 1) (hv.len▸List.length_pos_iff.mpr h1:1<=us.length) (a6 (show us.toArray.toList.drop 1=us.tail from List.drop_one) (k.xK I q hv.tail)) (t_ hl (gh hv.len.symm))
theorem OI (I:Inv c σ Z s.heap) (ho:s.heap.get? a=some (c5 us ep)) (hv:aO c σ Z s.heap xs us) (hs:s.heap.IsSliceOf sl .none (.int 60 t) .none) (hl:xs.length<lim) (q:Q (.aa (xs.take 60)) σ) (k:bR c Z X σ s Q R):
  wpAny c.M A (getItem (.ref a) (.ref sl)) R E s:=
 wpAny_getItem_list_slice (items:=us.toArray) (lo:=none) (hi:=some ((60:Nat):Int)) (st:=none) ⟨_,ho,rfl,_,rfl⟩ hs .none (.int 60 t) .none (by simp) (by rw [slicePick_upto'];exact k q (.pV (e:=0) (vs:=us.toArray.toList.take 60) (Fz.new I rfl) ((hv.take 60).mono (Mv.push _))) (aA.push I _)) (t_ hl (gh hv.len.symm))
end
end
section
open PySem PySem.W PyProof.Rows PySem.SeqAt
inductive qc:V->V->Prop
 |one {i j:Int} (h:i<j):qc (.tup [.int i]) (.tup [.int j])
 |fst {i j a b:Int} (h:i<j):qc (.tup [.int i, .int a]) (.tup [.int j, .int b])
 |snd {i a b:Int} (h:a<b):qc (.tup [.int i, .int a]) (.tup [.int i, .int b])
inductive cU (σ:St) (Q:Bool->St->Prop):CmpOp->V->V->Prop
 |eq {v w:V} (C:bI true 12 v w) (nd:∀ks vs,v≠ .aN ks vs) (q:Q (decide (v=w)) σ):cU σ Q .Eq v w
 |ne {v w:V} (C:bI true 12 v w) (nd:∀ks vs,v≠ .aN ks vs) (q:Q (!decide (v=w)) σ):cU σ Q .NotEq v w
 |lt {a b:Int} (q:Q (decide (a<b)) σ):cU σ Q .Lt (.int a) (.int b)
 |le {a b:Int} (q:Q (decide (a<=b)) σ):cU σ Q .LtE (.int a) (.int b)
 |gt {a b:Int} (q:Q (decide (b<a)) σ):cU σ Q .Gt (.int a) (.int b)
 |row {v w:V} (h:qc v w) (q:Q true σ):cU σ Q .Lt v w
 |inD {v w:V} {ks vs:List V} (D:Dc σ w ks vs) (hk:aR 8 v=true) (q:Q (decide (v∈ks)) σ):cU σ Q .In v w
 |BS {v w:V} {ks vs:List V} (D:Dc σ w ks vs) (hk:aR 8 v=true) (q:Q (!decide (v∈ks)) σ):cU σ Q .NotIn v w
 |vc {v w:V} {xs:List V} (S:Sq σ 1 w xs) (C:∀y∈xs,bI true 12 y v) (q:Q (decide (v∈xs)) σ):cU σ Q .In v w
 |xQ {v w:V} {xs:List V} (S:Sq σ 1 w xs) (C:∀y∈xs,bI true 12 y v) (q:Q (!decide (v∈xs)) σ):cU σ Q .NotIn v w
section
variable{c:Cx} {Z X:Addr->Prop} {σ:St} {s:Shared} {A:Around} {E:Value->Shared->Prop} {R:Value->Shared->Prop} {Q:Bool->Prop} {v w:V} {u x:Value} {xs ks vs:List V} {us ws:List Value} {a b:Addr} {e e':Nat}
theorem AJ (ho:s.heap.get? a=some (gq us e)) (i9:s.heap.get? b=some (gq ws e')) (hu:A.units<cLine) (h:R (.bool true) s)
  (q:(∃i j t t' jx Jt,us= .int i t::jx/\ws= .int j t'::Jt/\i<j)\/∃i t t' x y t2 t3,us= [.int i t, .int x t2]/\ws= [.int i t', .int y t3]/\x<y):wpAny c.M A (compareOp .Lt (.ref a) (.ref b)) R E s:=by
 have ht:IsTup s.heap a us.toArray:=⟨_,ho,rfl,_,rfl⟩;have vg:IsTup s.heap b ws.toArray:=⟨_,i9,rfl,_,rfl⟩;refine wpAny_richCompare_same_room (op:= .Lt) ht.typeIs vg.typeIs F.slot_tuple_lt (jb F.slot_tuple_lt ht.typeIs F.entry_tuple_lt (wb (ai (wb (ph vg.typeIs AutoSeq1.sub_tuple_tuple (wb (tupleItemsOf_ ht (wb (tupleItemsOf_ vg ?_)))))))) (F.args_tuple_lt_2 _ _)) hu;rcases q with⟨i,j,t,t',jx,Jt,rfl,rfl,h'⟩|⟨i,t,t',x,y,t2,t3,rfl,rfl,h'⟩
 ·refine wb (cj (m7 ..) (wb (wb (EqAt.int_int (A:=A.in1) i t j t' _ _ _ _ ?_))))
  exact a6 (il.mpr (Int.ne_of_lt h')) (wb (gj (wb (PySem.P.lt_int (a6 (bQ h') (wb (ai (ai (ai (ai ⟨_,rfl,nofun,h⟩))))))))))
 ·refine wb (cj (m7 ..) (wb (wb (EqAt.int_int (A:=A.in1) i t i t' _ _ _ _ ?_))))
  exact a6 (gT i) (ai (cj (m7 ..) (wb (wb (EqAt.int_int (A:=A.in1) x t2 y t3 _ _ _ _ (a6 (il.mpr (Int.ne_of_lt h')) (wb (gj (wb (PySem.P.lt_int (a6 (bQ h') (wb (ai (ai (ai (ai ⟨_,rfl,nofun,h⟩))))))))))))))))
theorem aO.xV (l:aO c σ Z s.heap (.int i::xs) us):∃t jx,us= .int i t::jx:=l.cons_inv λr zz=>r.int_inv λt=>⟨t,_,rfl⟩
theorem aO.J5 (l:aO c σ Z s.heap [.int i, .int j] us):∃t t',us= [.int i t, .int j t']:=l.two λr r'=>r.int_inv λt=>r'.int_inv λt'=>⟨t,t',rfl⟩
theorem Vg (hu:A.units<cLine) (h:R (.bool true) s) (q:qc v w):Rv c σ Z s.heap v u->Rv c σ Z s.heap w x->wpAny c.M A (compareOp .Lt u x) R E s:=
 qc.casesOn (motive:=λv w zz=>Rv c σ Z s.heap v u->Rv c σ Z s.heap w x->wpAny c.M A (compareOp .Lt u x) R E s) q
  (λh' r1 r2=>r1.cR λf l=>r2.cR λf' l'=>AJ f.at_ f'.at_ hu h (.inl (l.xV.elim λzz eD=>eD.elim λzz e=>l'.xV.elim λzz eL=>eL.elim λzz e'=>⟨_,_,_,_,_,_,e,e',h'⟩)))
  (λh' r1 r2=>r1.cR λf l=>r2.cR λf' l'=>AJ f.at_ f'.at_ hu h (.inl (l.xV.elim λzz eZ=>eZ.elim λzz e=>l'.xV.elim λzz dW=>dW.elim λzz e'=>⟨_,_,_,_,_,_,e,e',h'⟩)))
  (λh' r1 r2=>r1.cR λf l=>r2.cR λf' l'=>AJ f.at_ f'.at_ hu h (.inr (l.J5.elim λzz eY=>eY.elim λzz e=>l'.J5.elim λzz fm=>fm.elim λzz e'=>⟨_,_,_,_,_,_,_,e,e',h'⟩)))
theorem Mq {prog:Program} {w:World} {nm:String} {Q:Bool->Shared->Prop} (hu:A.units+8<cLine) (Da:bc c σ Z s.heap a ks vs) (Db:bc c σ Z s.heap b ks vs)
  (he:∀{j:Nat} {x u v},vs[j]? =some x->Rv c σ Z s.heap x u->Rv c σ Z s.heap x v->EqAt A s u v true) (h:Q true s):wpAny (model prog w) A (Builtin.Dict.samePairs nm a b) Q E s:=
 Da.el λ{es ep} ho hn l=>Db.el λ{d5 Zq} i9 zz l'=>by
  refine wb (ct (a6 Da.sys cK) (ai (wb (ct (a6 Db.sys cK) (ai (wb (gy ho rfl (wb (gy i9 rfl ?_)))))))));have len:es.toArray.size=d5.toArray.size:=(l.lk.symm.trans l'.lk:es.length=d5.length);refine ct (a6 len (mu _)) (wb (kW ho rfl (wb ?_)));rw [Std.Legacy.Range.forIn_eq_forIn_range'];refine vN _ (λrest q s'=>s'=s/\q=(none,())/\∀i∈rest,i<es.length) _ ?_ ?_ _ _ ⟨rfl,rfl,λi hi=> ?_⟩
  ·rintro i rest _ _ ⟨rfl,rfl,hr⟩
   have hi:=hr i aM;have g:=d_ hi;refine aK (gy ho rfl (a6 (fN) (a6 g ?_)));refine l.at_ g λ{k x} e1 e2 r1 r2 hh ok=> ?_;show wpAny _ _ (holding [es[i].key,es[i].val] _>>=_) _ _ _;refine a6 hh (wb (bN (wb (tU hu i9 l' hn ok r1 (λgR=>absurd (cA e1) gR) λj hj=>l'.to hj λ{en x'} YH YE zz Xl zz=> ?_))));have Yb:=(List.getElem?_inj (gu hj) hn).mp (hj.trans e1.symm);subst Yb;refine aK (gy i9 rfl (a6 (fN) (a6 YH ?_)));refine bN (he e2 r2 (cL (YE.symm.trans e2)▸Xl) _ _ _ _ (yd (wb (kW ho rfl (ct (mu _) (ai ⟨rfl,rfl,λi hi=>hr i (aQ _ hi)⟩))))))
  ·rintro _ _ ⟨rfl,rfl,_⟩
   exact ai h
  ·have:=List.mem_range'_1.mp hi
   simpa [Std.Legacy.Range.size] using this.2
theorem Ap:Bi c σ Z s true:=λ{A ks vs u v} zz hu r1 r2 he=>by
 refine r1.zm (G:=λu'=>u=u'->EqAt A s u' v true) (λ{a es e} f n m l e1=>r2.zm (G:=λv'=>v=v'->EqAt A s (.ref a) v' true) (λ{b d5 e'} f' n' m' l' e2=> ?_) rfl) rfl;have Da:bc c σ Z s.heap a ks vs:= .mk f.at_ n l m;have Db:bc c σ Z s.heap b ks vs:= .mk f'.at_ n' l' m';by_cases q:a=b
 ·exact q▸EqAt.same _
 ·refine EqAt.of_refs q λprog w E Q h=> ?_
  refine wpAny_richCompare_same_room (op:= .Eq) Da.typeIs Db.typeIs F.slot_dict_eq (jb F.slot_dict_eq Da.typeIs F.entry_dict_eq (wb (wb (vI Da.typeIs ?_))) (F.args_dict_eq_2 _ _)) (az (aY _ _) hu);show wpAny _ _ (pure (Value.ref a,Value.ref b)) _ _ s;exact ai (wb (ph (T:="dict") Db.typeIs F.sub_dict_dict (wb (ai (wb (ai (wb (Mq (rY (az (aU (by decide) _) hu)) Da Db he (ai ⟨_,rfl,nofun,h⟩)))))))))
open Classical in
theorem x6 (hu:A.units+27<cLine) (l:aO c σ Z s.heap xs us) (r:Rv c σ Z s.heap v u) (C:∀y∈xs,bI true 12 y v):
  (∀y,y∈us.toArray->EqAt A.in1 s y u (decide (Rv c σ Z s.heap v y)))/\us.toArray.any (λy=>decide (Rv c σ Z s.heap v y))=decide (v∈xs):=by
 have one:∀{z:V} {y:Value},z∈xs->Rv c σ Z s.heap z y->decide (Rv c σ Z s.heap v y)=decide (z=v):=λhz rz=>wJ ⟨λrv=>(C _ hz).inj rz rv,λe=>e▸rz⟩;refine⟨λy hy=> ?_, ?_⟩
 ·obtain⟨j,hj⟩:=qX (List.mem_toArray.mp hy)
  exact l.of_get hj λe rz=>by exact a6 (one (cA e) rz) ((C _ (cA e)).xy Ap (show A.units+1+12+14<cLine from hu) rz r)
 ·rewrite [ip];refine a6 List.any_toArray ?_;rw [vQ,kS]
  refine⟨λeC=>eC.elim λy dQ=>dQ.elim λhy e=> ?_,λh=> ?_⟩
  ·obtain⟨j,hj⟩:=qX hy
   exact l.of_get hj λe1 rz=>(bY (one (cA e1) rz▸e))▸cA e1
  ·obtain⟨j,hj⟩:=qX h
   exact l.get hj λe1 rv=>⟨_,cA e1,bQ rv⟩
theorem xb {o:CmpOp} {Q:Bool->St->Prop} (I:Inv c σ Z s.heap) (hu:A.units+32<cLine) (q:cU σ Q o v w) (k:∀{b} t,Q b σ->R (.bool b) {s with toks:=t}):Rv c σ Z s.heap v u->Rv c σ Z s.heap w x->wpAny c.M A (compareOp o u x) R E s:=by
 have gw:A.units+12<cLine:=az (aU (by decide) _) hu;have K6:A.units+12+14<cLine:=az (aU (show 26<=32 by decide) A.units) hu;have yC:A.units+27<cLine:=az (aU (by decide) _) hu;exact cU.casesOn (motive:=λo v w zz=>Rv c σ Z s.heap v u->Rv c σ Z s.heap w x->wpAny c.M A (compareOp o u x) R E s) q (λC nd q r1 r2=>(C.rc Ap nd K6 r1 r2).1 _ _ _ _ (k s.toks q)) (λC nd q r1 r2=>(C.rc Ap nd K6 r1 r2).2 _ _ _ _ (k s.toks q))
  (λq r1 r2=>r1.int_inv λzz=>r2.int_inv λzz=>PySem.P.lt_int (k s.toks q)) (λq r1 r2=>r1.int_inv λzz=>r2.int_inv λzz=>PySem.P.le_int (k s.toks q)) (λq r1 r2=>r1.int_inv λzz=>r2.int_inv λzz=>PySem.P.gt_int (k s.toks q))
  (λh q r1 r2=>Vg (az (aY _ _) hu) (k s.toks q) h r1 r2)
  (λD hk q r1 r2=>D.view I r2 λD zz=>in_dict gw D hk r1 λt=>k t q) (λD hk q r1 r2=>D.view I r2 λD zz=>Nu gw D hk r1 λt=>k t q)
  (λ{v w xs} S C q r1 r2=>S.o5 I r2 (λzz ho l=>have h:=x6 yC l r1 C;in_tupleAt _ ⟨_,ho,rfl,_,rfl⟩ h.1 (h.2▸k s.toks q)) λho l=>have h:=x6 yC l r1 C;in_listAt _ ⟨_,ho,rfl,_,rfl⟩ h.1 (h.2▸k s.toks q))
  (λ{v w xs} S C q r1 r2=>S.o5 I r2 (λzz ho l=>have h:=x6 yC l r1 C;notIn_tupleAt _ ⟨_,ho,rfl,_,rfl⟩ h.1 (h.2▸k s.toks q)) λho l=>have h:=x6 yC l r1 C;notIn_listAt _ ⟨_,ho,rfl,_,rfl⟩ h.1 (h.2▸k s.toks q))
end
end
section
open Env (kindOf)
noncomputable abbrev Env:=List (Nat×V)
noncomputable abbrev Run (α:Type):=Env->St->(α->St->Prop)->Prop
structure CH where
 fn:Nat->List V->St->(V->St->Prop)->Prop
 aZ:Addr->Nat->List V->St->(V->St->Prop)->Prop
 bound:Addr->List V->St->(V->St->Prop)->Prop
 find:Addr->Nat->Option Addr
 gl:Nat->Option V
 i0:Addr->Nat->Bool
structure Pc where
 c:Cx
 K:CH
 n:Nat
structure lZ (n:Nat) (A:Around):Prop where
 hh:A.handled=none
 un:A.units+20*n+100<cLine
 dp:A.depth+3*n+10<recursionLimit
inductive oq (env:PySem.Env) (h:Heap) (n:PySem.Str) (v:Value):Prop
 |loc {m:PySem.Str->Option Value} (k:env.kindOf n=some .local) (ns:h.Ns env.locals m) (e:m n=some v)
 |fU {a:Addr} (k:env.kindOf n=some .cell\/env.kindOf n=some .free) (l:env.cells.lookup n=some a) (c:h.IsCell a (some v))
structure qd (env:PySem.Env) (Z:Addr->Prop) (h:Heap):Prop where
 kind:env.scope.kind= .function
 glob:env.globals=mainGlobals
 bi:env.builtins=builtinsNs
 zl:Z env.locals
 ns:∃m,h.Ns env.locals m
 cell:∀{n},env.kindOf n=some .cell->∃c,env.cells.lookup n=some c
 zc:∀{n c},env.cells.lookup n=some c->Z c
 nl:∀{n c},env.cells.lookup n=some c->c≠env.locals
 ic:∀{n c},env.cells.lookup n=some c->∃v,h.IsCell c v
 inj:∀{n n' c},env.cells.lookup n=some c->env.cells.lookup n'=some c->n=n'
inductive Tx (env:PySem.Env) (S:PySem.Str->Prop) (a:Addr):Prop
 |loc (e:a=env.locals)
 |fU {n:PySem.Str} (s:S n) (e:env.cells.lookup n=some a)
abbrev eE (env:PySem.Env):Addr->Prop:=Tx env λzz=>True
structure Kt (c:Cx) (σ:St) (Z:Addr->Prop) (h:Heap) (env:PySem.Env) (x:Nat) (v:V) (u:Value):Prop where
 lt:x<bJ.length
 rv:Rv c σ Z h v u
 at_:oq env h (tx x) u
structure At (p:Pc) (sc:Scope) (fs:List Nat) (A:Around) (Z:Addr->Prop) (env:PySem.Env) (ρ:Env) (σ:St) (s:Shared):Prop where
 room:lZ p.n A
 n7:env.scope=sc
 inv:Inv p.c σ Z s.heap
 cJ:qd env Z s.heap
 sR:∀{x v},x∈fs->ρ.lookup x=some v->∃u,Kt p.c σ Z s.heap env x v u
noncomputable def fY (sc:Scope) (x:Nat):Bool:=(sc.names.lookup (tx x)==some .local||sc.names.lookup (tx x)==some .cell)&&decide (x<bJ.length)
section
variable{p:Pc} {c:Cx} {sc:Scope} {fs gs:List Nat} {A:Around} {E:Value->Shared->Prop} {Z Z' X:Addr->Prop} {env:PySem.Env} {ρ gN:Env} {σ a8:St} {s s':Shared} {h h':Heap} {x y:Nat} {v:V} {u w:Value} {a d:Addr} {n:PySem.Str}
theorem lZ.room (h:lZ m A) (l:k<=100):A.units+k<cLine:=az (dh (aY _ _) l) h.un
theorem Ns.to (b:h.Ns a m) (k:∀o,h.get? a=some o->h'.get? a=some o):h'.Ns a m:=b.elim λo e8=>e8.elim λes eN=>eN.elim λep eD=>eD.elim λe r=>⟨o,es,ep,k _ e,r⟩
theorem IsCell.to (b:h.IsCell a m) (k:∀o,h.get? a=some o->h'.get? a=some o):h'.IsCell a m:=b.elim λo eL=>eL.elim λe r=>⟨o,k _ e,r⟩
theorem qd.own (E:qd env Z h) (q:Tx env S a):Z a:=q.casesOn (λe=>e▸E.zl) λzz e=>E.zc e
theorem Tx.own (q:Tx env S a):eE env a:=q.casesOn .loc λzz e=> .fU jE e
theorem oq.keeps (x:oq env h n u) (k:∀b o,eE env b->h.get? b=some o->h'.get? b=some o):oq env h' n u:=
 x.casesOn (λa b e=> .loc a (Ns.to b (k _ · (.loc rfl))) e) λa l b=> .fU a l (IsCell.to b (k _ · (.fU jE l)))
theorem qd.to (E:qd env Z h) (k:∀b o,eE env b->h.get? b=some o->h'.get? b=some o) (z:∀{b},eE env b->Z' b):qd env Z' h':=
 ⟨E.kind,E.glob,E.bi,z (.loc rfl),E.ns.elim λm b=>⟨m,Ns.to b (k _ · (.loc rfl))⟩,E.cell,λe=>z (.fU jE e),E.nl,λe=>(E.ic e).elim λv b=>⟨v,IsCell.to b (k _ · (.fU jE e))⟩,E.inj⟩
theorem At.to (S:At p sc fs A Z env ρ σ s) (I:Inv p.c a8 Z' s'.heap) (m:Mv σ Z s.heap a8 Z' s'.heap) (k:∀b o,eE env b->s.heap.get? b=some o->s'.heap.get? b=some o) (z:∀{b},eE env b->Z' b):At p sc fs A Z' env ρ a8 s':=
 ⟨S.room,S.n7,I,S.cJ.to k z,λi e=>(S.sR i e).elim λu r=>⟨u,r.lt,r.rv.mono m,r.at_.keeps k⟩⟩
theorem aA.own (a:aA p.c Z X σ s a8 s') (S:At p sc fs A Z env ρ σ s) (hX:∀b,X b->¬eE env b):∀b o,eE env b->s.heap.get? b=some o->s'.heap.get? b=some o:=λb zz q e=>(a.keep ⟨e,S.inv.zp (S.cJ.own q),λx=>hX b x q⟩).at_
theorem At.i_ (S:At p sc fs A Z env ρ σ s) (a:aA p.c Z X σ s a8 s') (hz:∀b,X b->Z b) (hX:∀b,X b->¬eE env b):At p sc fs A Z env ρ a8 s':=S.to a.inv (a.mv hz) (a.own S hX) λq=>S.cJ.own q
theorem At.step (S:At p sc fs A Z env ρ σ s) (a:aA p.c Z X0 σ s a8 s'):At p sc fs A Z env ρ a8 s':=S.i_ a (λ_ h=>False.elim h) (λ_ h=>False.elim h)
theorem At.lB (S:At p sc fs A Z env ρ σ s) (e:∀{x v},x∈gs->gN.lookup x=some v->x∈fs/\ρ.lookup x=some v):At p sc gs A Z env gN σ s:=⟨S.room,S.n7,S.inv,S.cJ,λi q=>S.sR (e i q).1 (e i q).2⟩
theorem At.mm (S:At p sc fs A Z env ρ σ s) (ho:o.isFreed=false):At p sc fs A (Zp Z s.heap.objs.size) env ρ σ {s with heap:=s.heap.push o}:=
 S.to (S.inv.mm ho) (rL o) (λb o' zz=>bt _ _ b o') λq=> .inl (S.cJ.own q)
theorem PY (hk:env.scope.kind= .function) (hn:(n==("__classdict__":PySem.Str))=false) (x:oq env s.heap n u) (q:Q u s):wpAny c.M A (loadName env n) Q E s:=
 x.casesOn (λa b e=>wpAny_loadName_local hk a b e q) λa l b=>a.elim (λa=>wpAny_loadName_cell hk a l b q) λa=>wpAny_loadName_free hk a l b q hn
theorem F6 (S:At p sc fs A Z env ρ σ s) (r:Kt p.c σ Z s.heap env x v u) (q:Q u s):wpAny p.c.M A (eval (.Name (tx x) ps) env) Q E s:=
 cj (arm_eval_Name ..) (wb (dE (ct (a6 (HN r.lt) cK) (PY S.cJ.kind (UW r.lt) r.at_ q))))
theorem pz:((x,v)::ρ:Env).lookup x=some v:=by refine a6 jD ?_;rw [gT]
theorem kZ (h:y≠x):((x,v)::ρ:Env).lookup y=ρ.lookup y:=by exact a6 jD (a6 (il.mpr h) rfl)
theorem At.put (S:At p sc fs A Z env ρ σ s) (td:Tx env (· =tx x) d) (hs:Heap.SameBut d s.heap h') (hx:∃o,h'.get? d=some o) (E':qd env Z h') (lt:x<bJ.length) (va:oq env h' (tx x) u)
  (vo:∀{y w},y<bJ.length->y≠x->oq env s.heap (tx y) w->oq env h' (tx y) w) (hv:Rv p.c σ Z s.heap v u):
  aA p.c Z (Tx env (· =tx x)) σ s σ {s with heap:=h',toks:=t}/\At p sc (x::fs) A Z env ((x,v)::ρ) σ {s with heap:=h',toks:=t}:=by
 have st:aA p.c Z (Tx env (· =tx x)) σ s σ {s with heap:=h',toks:=t}:=aA.but S.inv (S.cJ.own td) hs.extBut hx td;have m:Mv σ Z s.heap σ Z h':=st.mv λb q=>S.cJ.own q;refine⟨st,S.room,S.n7,st.inv,E',λ{y w} i e=> ?_⟩;by_cases q:y=x
 ·subst q
  rw [pz] at e;exact⟨u,lt,cL e▸hv.mono m,va⟩
 ·rw [kZ q] at e
  exact(S.sR ((bz.mp i).resolve_left q) e).elim λu' r=>⟨u',r.lt,r.rv.mono m,vo r.lt q r.at_⟩
theorem pE (S:At p sc fs A Z env ρ σ s) (hk:fY sc x=true) (hv:Rv p.c σ Z s.heap v u)
  (q:∀{s'},aA p.c Z (Tx env (· =tx x)) σ s σ s'->At p sc (x::fs) A Z env ((x,v)::ρ) σ s'->Q () s'):wpAny p.c.M A (storeName env (tx x) u) Q E s:=by
 refine fG hk λk lt=> ?_;have lt:=bY lt;have E:=S.cJ;rw [<-S.n7] at k;rcases Bool.or_eq_true_iff.mp k with k|k
 ·have k:env.kindOf (tx x)=some .local:=b7.mp k
  obtain⟨m,hm⟩:=E.ns;refine wpAny_storeName_local k hm (λh' hn hs=> ?_) (by refine a6 E.kind ?_;rfl);obtain⟨st,S'⟩:=S.put (t:=s.toks+1) (.loc rfl) hs (hn.elim λo eZ=>eZ.elim λzz dW=>dW.elim λzz eY=>eY.elim λg zz=>⟨o,g⟩) ⟨E.kind,E.glob,E.bi,E.zl,⟨_,hn⟩,E.cell,E.zc,E.nl,λe=>(E.ic e).elim λv b=>⟨v,IsCell.to b λzz=>(hs.2 _ (E.nl e)).trans⟩,E.inj⟩ lt (.loc k hn (aF rfl))
   (λ{y w} ly n r=>r.casesOn (λa b e=> .loc a hn ((aB λq=>n (jK ly lt q)).trans ((congrFun (hm.eq_nsMap.trans b.eq_nsMap.symm) _).trans e))) λa l b=> .fU a l (IsCell.to b λzz=>(hs.2 _ (E.nl l)).trans)) hv
  exact q st S'
 ·have k:env.kindOf (tx x)=some .cell:=b7.mp k
  obtain⟨d,hd⟩:=E.cell k;obtain⟨v0,ic⟩:=E.ic hd;refine wpAny_storeName_cell E.kind k hd ic λh' hn hs=> ?_;obtain⟨st,S'⟩:=S.put (t:=s.toks) (.fU rfl hd) hs (hn.elim λo fm=>fm.elim λg zz=>⟨o,g⟩) ⟨E.kind,E.glob,E.bi,E.zl,E.ns.elim λm hm=>⟨m,hm.sameBut hs (aL (E.nl hd))⟩,E.cell,E.zc,E.nl,λ{_ b} e=>by
    by_cases w:b=d
    ·exact⟨_,w▸hn⟩
    ·exact(E.ic e).elim λv b=>⟨v,IsCell.to b λzz=>(hs.2 _ w).trans⟩,E.inj⟩ lt (.fU (.inl k) hd hn)
   (λ{y w} ly n r=>r.casesOn (λa b e=> .loc a (b.sameBut hs (aL (E.nl hd))) e) λa l b=> .fU a l (IsCell.to b λzz=>(hs.2 _ λe=>n (jK ly lt (E.inj l (hd.trans (aE some (aT e)))))).trans)) hv
  exact q st S'
end
end
theorem no {P:Prop} (h:false=true):P:=Bool.noConfusion h
noncomputable def lu (k:PySem.Str->Bool) (t:Expr):Bool:=by cases t with|Name a b=>exact k a|_=>exact false
noncomputable def AF (k:Const->Bool) (t:Expr):Bool:=by cases t with|Constant a b c=>exact k a|_=>exact false
noncomputable def wN (k:List Expr->Bool) (t:Expr):Bool:=by cases t with|Tuple a b c=>exact k a|_=>exact false
noncomputable def HK (k:List Expr->Bool) (t:Expr):Bool:=by cases t with|List a b=>exact k a|_=>exact false
noncomputable def Bo (k:List (Option Expr)->List Expr->Bool) (t:Expr):Bool:=by cases t with|Dict a b c=>exact k a b|_=>exact false
noncomputable def AE (k:Expr->List Comprehension->Scope->Bool) (t:Expr):Bool:=by cases t with|ListComp a b c d=>exact k a b c|_=>exact false
noncomputable def GF (k:Expr->Expr->List Comprehension->Scope->Bool) (t:Expr):Bool:=by cases t with|DictComp a b c d e=>exact k a b c d|_=>exact false
noncomputable def xJ (k:Expr->Expr->Bool) (t:Expr):Bool:=by cases t with|Subscript a b c=>exact k a b|_=>exact false
noncomputable def uA (k:Expr->PySem.Str->Pos->Bool) (t:Expr):Bool:=by cases t with|Attribute a b c=>exact k a b c|_=>exact false
noncomputable def Bp (k:Expr->List Expr->List Keyword->Pos->Bool) (t:Expr):Bool:=by cases t with|Call a b c d=>exact k a b c d|_=>exact false
noncomputable def IS (k:Expr->Operator->Expr->Bool) (t:Expr):Bool:=by cases t with|BinOp a b c d=>exact k a b c|_=>exact false
noncomputable def yf (k:UnaryOp->Expr->Bool) (t:Expr):Bool:=by cases t with|UnaryOp a b c=>exact k a b|_=>exact false
noncomputable def Jv (k:Expr->Expr->Expr->Bool) (t:Expr):Bool:=by cases t with|IfExp a b c d=>exact k a b c|_=>exact false
noncomputable def BF (k:Expr->List CmpOp->List Expr->Bool) (t:Expr):Bool:=by cases t with|Compare a b c d=>exact k a b c|_=>exact false
noncomputable def vBool (k:BoolOp->List Expr->Bool) (t:Expr):Bool:=by cases t with|BoolOp a b c=>exact k a b|_=>exact false
noncomputable def GC (k:Option Expr->Option Expr->Option Expr->Bool) (t:Expr):Bool:=by cases t with|Slice a b c d=>exact k a b c|_=>exact false
section
variable{C:Expr->Prop}
theorem l4 {k} (q:∀{m p},k m=true->C (.Name m p)) {t}:lu k t=true->C t:=by rcases t<;>first|exact no|exact q
theorem Ea {k} (q:∀{c n p},k c=true->C (.Constant c n p)) {t}:AF k t=true->C t:=by rcases t<;>first|exact no|exact q
theorem vZ {k} (q:∀{as n p},k as=true->C (.Tuple as n p)) {t}:wN k t=true->C t:=by rcases t<;>first|exact no|exact q
theorem P1 {k} (q:∀{as p},k as=true->C (.List as p)) {t}:HK k t=true->C t:=by rcases t<;>first|exact no|exact q
theorem EL {k} (q:∀{as bs p},k as bs=true->C (.Dict as bs p)) {t}:Bo k t=true->C t:=by rcases t<;>first|exact no|exact q
theorem E9 {k} (q:∀{e gs sc p},k e gs sc=true->C (.ListComp e gs sc p)) {t}:AE k t=true->C t:=by rcases t<;>first|exact no|exact q
theorem NU {k} (q:∀{x y gs sc p},k x y gs sc=true->C (.DictComp x y gs sc p)) {t}:GF k t=true->C t:=by rcases t<;>first|exact no|exact q
theorem zY {k} (q:∀{x y p},k x y=true->C (.Subscript x y p)) {t}:xJ k t=true->C t:=by rcases t<;>first|exact no|exact q
theorem w7 {k} (q:∀{x m p},k x m p=true->C (.Attribute x m p)) {t}:uA k t=true->C t:=by rcases t<;>first|exact no|exact q
theorem EM {k} (q:∀{f as kw p},k f as kw p=true->C (.Call f as kw p)) {t}:Bp k t=true->C t:=by rcases t<;>first|exact no|exact q
theorem R3 {k} (q:∀{x o y p},k x o y=true->C (.BinOp x o y p)) {t}:IS k t=true->C t:=by rcases t<;>first|exact no|exact q
theorem wM {k} (q:∀{o x p},k o x=true->C (.UnaryOp o x p)) {t}:yf k t=true->C t:=by rcases t<;>first|exact no|exact q
theorem Ti {k} (q:∀{x y z p},k x y z=true->C (.IfExp x y z p)) {t}:Jv k t=true->C t:=by rcases t<;>first|exact no|exact q
theorem zZ {k} (q:∀{x os ys p},k x os ys=true->C (.Compare x os ys p)) {t}:BF k t=true->C t:=by rcases t<;>first|exact no|exact q
theorem EN {k} (q:∀{o as p},k o as=true->C (.BoolOp o as p)) {t}:vBool k t=true->C t:=by rcases t<;>first|exact no|exact q
theorem NT {k} (q:∀{x y z p},k x y z=true->C (.Slice x y z p)) {t}:GC k t=true->C t:=by rcases t<;>first|exact no|exact q
end
noncomputable def rB (k:List Expr->Expr->Pos->Bool) (t:Stmt):Bool:=by cases t with|Assign a b c=>exact k a b c|_=>exact false
noncomputable def HL (k:Expr->Bool) (t:Stmt):Bool:=by cases t with|Expr a b=>exact k a|_=>exact false
noncomputable def FF (k:Option Expr->Bool) (t:Stmt):Bool:=by cases t with|Return a b=>exact k a|_=>exact false
noncomputable def IP (k:Expr->List Stmt->List Stmt->Bool) (t:Stmt):Bool:=by cases t with|If a b c d=>exact k a b c|_=>exact false
noncomputable def IQ (k:Expr->Expr->List Stmt->List Stmt->Bool) (t:Stmt):Bool:=by cases t with|For a b c d e=>exact k a b c d|_=>exact false
section
variable{C:Stmt->Prop}
theorem tV {k} (q:∀{ts e p},k ts e p=true->C (.Assign ts e p)) {t}:rB k t=true->C t:=by rcases t<;>first|exact no|exact q
theorem P2 {k} (q:∀{e p},k e=true->C (.Expr e p)) {t}:HL k t=true->C t:=by rcases t<;>first|exact no|exact q
theorem N9 {k} (q:∀{e p},k e=true->C (.Return e p)) {t}:FF k t=true->C t:=by rcases t<;>first|exact no|exact q
theorem QZ {k} (q:∀{e b c p},k e b c=true->C (.If e b c p)) {t}:IP k t=true->C t:=by rcases t<;>first|exact no|exact q
theorem Q_ {k} (q:∀{t e b c p},k t e b c=true->C (.For t e b c p)) {t}:IQ k t=true->C t:=by rcases t<;>first|exact no|exact q
end
structure jN (M:Model) (h:Heap) (f:Value):Prop where
 k:∃k,(k=Keeper.frame\/k=Keeper.machine\/k=Keeper.boundFrame)/\Looks M h (keeperOf f) k
abbrev RP (E:Value->Shared->Prop) (Q:Value->Shared->Prop):Result->Shared->Prop:=λr s'=>match r with| .ok (.ret v)=>Q v s'| .ok _=>False| .error e=>E e s'
structure so (F:Frag) (C:Addr):Prop where
 ga:findIn F (.ref C) "__getattribute__"=some (some (.builtin "object.__getattribute__"))
 gn:findIn F (.ref C) "__getattr__"=some none
 sa:findIn F (.ref C) "__setattr__"=some (some (.builtin "object.__setattr__"))
 po:plainOver F C=true
 hd:∃cd,clsIn F C=some cd/\cd.hasDict=true
structure uu (F:Frag) (C:Addr) (m:Nat) (f:Addr):Prop where
 cls:so F C
 at_:findIn F (.ref C) (tx m)=some (some (.ref f))
 typ:typeIn F (.ref f)=some (.type "function")
 kp:keepIn F (.ref f)=true
 fn:fnIn F f=true
 get:specialIn F (.ref f) "__get__"=some (some (.builtin "function.__get__"))
 X8:takesIn F (.ref f)=some false
noncomputable def ko:List (PySem.Str×Value):= [("len", .builtin "len"),("sorted", .builtin "sorted"),("tuple", .type "tuple"),("list", .type "list"),("dict", .type "dict"),("abs", .builtin "abs"),("str", .type "str"),("all", .builtin "all"),("range", .type "range"),
 ("isinstance", .builtin "isinstance"),("set", .type "set"),("int", .type "int"),("bool", .type "bool")]
noncomputable def G0 (f:Nat):Bool:= [21,81,31,33,36,50,54,48,49,73,87,94,79,38,39,103,43,32,147,105,83,82,76,152,89,88,149,151].contains f
noncomputable def L0 (x:Nat):Bool:= [146,107,176,157,114].contains x
abbrev Bj (p:Pc) (fv:Value) (vs:List V) (σ:St) (Q:V->St->Prop):Prop:=∀{us s A E Z R},lZ p.n A->Inv p.c σ Z s.heap->aO p.c σ Z s.heap vs us->bR p.c Z X0 σ s Q R->codeAny p.c.M A (.call fv ⟨us, []⟩) (RP E R) s
structure Glob (p:Pc) (x:Nat) (fv:Value):Prop where
 lt:x<bJ.length
 mg:p.c.mg (tx x)=some fv
structure Fa (p:Pc):Prop where
 vB:∀x∈ko,p.c.mg x.1=none/\p.c.mb x.1=some x.2
 yE:∀{f},G0 f=true->∃fv,Glob p f fv/\∀{h},p.c.F.In h->jN p.c.M h fv
 oW:∀{x},L0 x=true->∃fv,Glob p x fv/\∀{v σ Z h},p.K.gl x=some v->Inv p.c σ Z h->Rv p.c σ Z h v fv
 vC:∀{C x},p.K.i0 C x=true->so p.c.F C/\findIn p.c.F (.ref C) (tx x)=some none
 vy:∀{C m f},p.K.find C m=some f->uu p.c.F C m f
 sf:∀{f fv vs σ Q},p.c.mg (tx f)=some fv->p.K.fn f vs σ Q->Bj p fv vs σ Q
 sm:∀{C m f vs σ Q},p.K.find C m=some f->p.K.aZ C m vs σ Q->Bj p (.ref f) vs σ Q
 sb:∀{f vs σ Q},p.K.bound f vs σ Q->fnIn p.c.F f=true/\Bj p (.ref f) vs σ Q
noncomputable def nX (a:Expr):Bool:=by cases a with|Starred a b=>exact true|_=>exact false
theorem tW (h:nX a=false):starEach (a::as) env=(false,eval a env)::starEach as env:=by cases a<;>first|rfl|cases h
noncomputable def pQ (as:List Expr):Bool:=as.all λa=> !nX a
theorem w9 (h:pQ as=true):(backTo pos (starEach as env)).any (·.1)=false:=by
 induction as with
 |nil=>rfl
 |cons a as ih=>
  exact fG h λh1 h2=>(aE (λl=>(backTo pos l).any (·.1)) (tW (dB h1))).trans (ih h2)
theorem tT (hn:pQ as=true) (h:wpAny M A (spliced (backTo pos (starEach as env))) (λvs s'=>Q ⟨vs, []⟩ s') E s):
  wpAny M A (evalArgs f true (backTo pos (starEach as env)) []) Q E s:=by
 induction as with
 |nil=>exact aK (dS h (λvs s' h'=>wb (ai (bN (wb (ai (wb (ai (ai h')))))))) λa b x=>x)
 |cons a as=>
  rw [tW (dB (aj hn).1)] at h⊢;exact Calls.evalArgs_plain h
abbrev Back (p:Pc) (Z:Addr->Prop) (σ:St) (s:Shared) (Q:α->St->Prop) (R:α->Shared->Prop):Prop:=∀{b a8 s'},Q b a8->aA p.c Z X0 σ s a8 s'->R b s'
abbrev bw (p:Pc) (sc:Scope) (fs:List Nat) (f:CH->Run V) (a:Expr):Prop:=∀{A E env ρ σ s Z Q R},At p sc fs A Z env ρ σ s->f p.K ρ σ Q->bR p.c Z X0 σ s Q R->wpAny p.c.M A (eval a env) R E s
abbrev WW (p:Pc) (sc:Scope) (fs:List Nat) (f:CH->Run (List V)) (as:List Expr):Prop:=∀{A E env ρ σ s Z Q R pos},At p sc fs A Z env ρ σ s->f p.K ρ σ Q->
 (∀{vs us a8 s'},us.length=as.length->Q vs a8->aO p.c a8 Z s'.heap vs us->aA p.c Z X0 σ s a8 s'->R us s')->wpAny p.c.M A (spliced (backTo pos (starEach as env))) R E s
abbrev yI (p:Pc) (sc:Scope) (fs:List Nat) (f:CH->Run Bool) (a:Expr):Prop:=∀{A E env ρ σ s Z Q R},At p sc fs A Z env ρ σ s->f p.K ρ σ Q->Back p Z σ s Q R->wpAny p.c.M A (isTrue a env (eval a env)) R E s
abbrev Kv (p:Pc) (sc:Scope) (fs:List Nat) (f:CH->Run Bool) (a:Expr):Prop:=∀{A E env ρ σ s Z Q R},At p sc fs A Z env ρ σ s->f p.K ρ σ Q->Back p Z σ s Q (λb=>R (.bool b))->wpAny p.c.M A (eval a env) R E s
abbrev Cf (p:Pc) (sc:Scope) (fs:List Nat) (f:BoolOp->CH->Run Bool) (as:List Expr):Prop:=∀{o A E env ρ σ s Z Q R},At p sc fs A Z env ρ σ s->f o p.K ρ σ Q->Back p Z σ s Q R->wpAny p.c.M A (allTrue o as env) R E s
abbrev WV (p:Pc) (sc:Scope) (fs:List Nat) (f:BoolOp->CH->Run Bool) (as:List Expr):Prop:=∀{o A E env ρ σ s Z Q R pos},as≠ []->At p sc fs A Z env ρ σ s->f o p.K ρ σ Q->Back p Z σ s Q (λb=>R (.bool b))->wpAny p.c.M A (boolOp pos o (evalEach as env)) R E s
structure ME where
 run:CH->Run V
 aD:Scope->List Nat->Expr->Bool
 ok:∀{p sc fs a},Fa p->aD sc fs a=true->bw p sc fs run a
structure eO where
 run:CH->Run (List V)
 aD:Scope->List Nat->List Expr->Bool
 star:∀{sc fs as},aD sc fs as=true->pQ as=true
 ok:∀{p sc fs as},Fa p->aD sc fs as=true->WW p sc fs run as
structure MT where
 run:CH->Run Bool
 aD:Bool->Scope->List Nat->Expr->Bool
 ok:∀{p sc fs a},Fa p->aD false sc fs a=true->yI p sc fs run a
 jy:∀{p sc fs a},Fa p->aD true sc fs a=true->Kv p sc fs run a
structure dw where
 run:BoolOp->CH->Run Bool
 aD:Bool->Scope->List Nat->List Expr->Bool
 fin:∀{v sc fs o K ρ σ Q},aD v sc fs []=true->run o K ρ σ Q->Q (o.casesOn true false) σ
 ok:∀{p sc fs as},Fa p->aD false sc fs as=true->Cf p sc fs run as
 jy:∀{p sc fs as},Fa p->aD true sc fs as=true->WV p sc fs run as
section
variable{p:Pc} {sc:Scope} {fs:List Nat} {A:Around} {E:Value->Shared->Prop} {Z:Addr->Prop} {env:PySem.Env} {ρ:Env} {σ a8:St} {s s':Shared} {α:Type} {Q:V->St->Prop} {R:Value->Shared->Prop}
theorem bR.step (k:bR p.c Z X0 σ s Q R) (st:aA p.c Z X0 σ s a8 s'):bR p.c Z X0 a8 s' Q R:=λq r dU=>k q r (st.trans dU)
theorem Back.step {Q:α->St->Prop} {R:α->Shared->Prop} (k:Back p Z σ s Q R) (st:aA p.c Z X0 σ s a8 s'):Back p Z a8 s' Q R:=λq dU=>k q (st.trans dU)
end
inductive WX (Q:V->St->Prop) (σ:St):Option V->Prop
 |mk {v:V} (q:Q v σ):WX Q σ (some v)
def sT (o:Option V) (f:V->Prop):Prop:=o.rec False f
theorem AQ {o:Option V} {f:V->Prop} (h:sT o f) {G:Prop} (k:∀{v},o=some v->f v->G):G:=by
 induction o with
 |none=>exact h.elim
 |some v=>exact k rfl h
theorem H7 {x:Nat} {fs:List Nat} (h:fs.contains x=true):x∈fs:=tJ.mp h
noncomputable def ME.var (x:Nat):ME where
 run:=λK ρ σ Q=>sT (ρ.lookup x) λv=>Q v σ
 aD:=λsc fs=>lu λm=>m==tx x&&fs.contains x
 ok:=λF=>l4 λh=>fG h λe m=>by
  cases b7.mp e;exact λS q k=>AQ q λe q=>(S.sR (H7 m) e).elim λu r=>F6 S r (k.same S.inv q r.rv)
noncomputable def I7 (v:V) (c:Const):Bool:=V.casesOn (motive_1:=λv=>Bool) v false (λb=>c.casesOn false (λb'=>b==b') (λi=>false) (λi=>false) (λi j=>false) (λs=>false) (λl=>false) false)
 (λi=>c.casesOn false (λb=>false) (λj=>i==j) (λi=>false) (λi j=>false) (λs=>false) (λl=>false) false) (λn=>c.casesOn false (λb=>false) (λj=>false) (λi=>false) (λi j=>false) (λs=>decide (n<bJ.length)&&s==tx n) (λl=>false) false)
 (λl=>false) (λl=>false) (λl m=>false) (λi j=>false) (λa=>false) (λa b=>false)
theorem Ug {C:V->Const->Prop} (hb:∀{b},C (.bool b) (.bool b)) (hi:∀{i},C (.int i) (.int i)) (hs:∀{n},n<bJ.length->C (.str n) (.str (tx n))) {v:V} {c:Const}:I7 v c=true->C v c:=by
 cases v with
 |bool b=>induction c with
  |bool b'=>exact λh=>b7.mp h▸hb
  |_=>exact no
 |int i=>induction c with
  |int j=>exact λh=>b7.mp h▸hi
  |_=>exact no
 |str n=>induction c with
  |str s=>exact λh=>fG h λl e=>b7.mp e▸hs (bY l)
  |_=>exact no
 |_=>exact no
noncomputable def ME.lit (v:V):ME where
 run:=λK ρ σ Q=>Q v σ
 aD:=λsc fs=>AF (I7 v)
 ok:=λ{p sc fs a} F=>Ea (C:=bw p sc fs λK ρ σ Q=>Q v σ) λ{c n ps} h=>Ug (C:=λv c=>bw p sc fs (λK ρ σ Q=>Q v σ) (.Constant c n ps)) (λ{b A E env ρ σ s Z Q R} S q k=>wpAny_Constant_bool (k.same S.inv q (.bool _))) (λ{i A E env ρ σ s Z Q R} S q k M l w=>bR.here k S.inv q (.int i _) _) (λh=>λS q k=>wpAny_Constant_str (k.here S.inv q (.str h _) _)) h
noncomputable def ME.dead:ME where
 run:=λK ρ σ Q=>False
 aD:=λsc fs a=>true
 ok:=λF h=>λS q k=>q.elim
noncomputable def eO.nil:eO where
 run:=λK ρ σ Q=>Q [] σ
 aD:=λsc fs as=>as.isEmpty
 star:=λ{sc fs as} h=>by cases as;rfl;exact no h
 ok:=λ{p sc fs as} F h=>by cases as;exact λS q k=>wpAny_items_nil (k rfl q .nil (aA.refl S.inv));exact no h
def VI (v:V) (Q:List V->St->Prop) (vs:List V) (σ:St):Prop:=Q (v::vs) σ
def Iy (es:eO) (K:CH) (ρ:Env) (Q:List V->St->Prop) (v:V) (σ:St):Prop:=es.run K ρ σ (VI v Q)
noncomputable def eO.cons (e:ME) (es:eO):eO where
 run:=λK ρ σ Q=>e.run K ρ σ (Iy es K ρ Q)
 aD:=λsc fs as=>as.casesOn false λa as=> !nX a&&(e.aD sc fs a&&es.aD sc fs as)
 star:=λ{sc fs as} h=>by
  induction as with
  |nil=>exact no h
  |cons a as=>
   obtain⟨h1,h⟩:=aj h;exact ik.mpr ⟨h1,es.star (aj h).2⟩
 ok:=λ{p sc fs as} F h=>by
  induction as with
  |nil=>exact no h
  |cons a as=>
   obtain⟨h1,h⟩:=aj h;exact λS q k=>wpAny_items_cons (e.ok F (aj h).1 S q λq1 r1 au=>es.ok F (aj h).2 (S.step au) q1 λl q2 r2 aX=>k (aE Nat.succ l) q2 (.cons (aX.rv r1) r2) (au.trans aX)) (tW (dB h1))
theorem H9 {us:List Value} {as:List Expr} (h:decide (as.length<100)=true) (l:us.length=as.length):us.length<=sizeLine:=ay (jd (l▸bY h)) (by decide+kernel)
def tupK (Q:V->St->Prop) (vs:List V) (σ:St):Prop:=Q (.tup vs) σ
noncomputable def ME.tup (es:eO):ME where
 run:=λK ρ σ Q=>es.run K ρ σ (tupK Q)
 aD:=λsc fs=>wN λas=>decide (as.length<100)&&es.aD sc fs as
 ok:=λF=>vZ λh=>by exact λS q k=>wpAny_Tuple (es.ok F (aj h).2 S q λl q1 r1 au=>⟨H9 (aj h).1 l,bR.xK (k.step au) au.inv q1 r1⟩)
def lstK (Q:V->St->Prop) (vs:List V) (σ:St):Prop:=∀p,σ p=none->Q (.ref p) (upd σ p (.list vs))
noncomputable def ME.list (es:eO):ME where
 run:=λK ρ σ Q=>es.run K ρ σ (lstK Q)
 aD:=λsc fs=>HK λas=>decide (as.length<100)&&es.aD sc fs as
 ok:=λF=>P1 λh=>λ{A E env ρ σ s Z Q R} S q k=>wpAny_List (es.ok F (aj h).2 S q λl q1 r1 au=>⟨H9 (aj h).1 l,k (q1 _ (au.inv.fresh (bk _))) (.ref _) (au.trans (aA.alloc au.inv rfl (.list (cb _ rfl) (r1.mono Mv.alloc))))⟩)
def WM (o:Operator) (v:V) (Q:V->St->Prop) (w:V) (σ:St):Prop:=fH σ Q o v w
def WN (o:Operator) (y:ME) (K:CH) (ρ:Env) (Q:V->St->Prop) (v:V) (σ:St):Prop:=y.run K ρ σ (WM o v Q)
noncomputable def ME.bin (o:Operator) (x y:ME):ME where
 run:=λK ρ σ Q=>x.run K ρ σ (WN o y K ρ Q)
 aD:=λsc fs=>IS λa o' b=>decide (o'=o)&&(x.aD sc fs a&&y.aD sc fs b)
 ok:=λF=>R3 λh=>by
  obtain⟨e,h'⟩:=aj h;cases bY e;exact λS q k=>cj (arm_eval_BinOp ..) (wb (x.ok F (aj h').1 S q λq1 r1 au=>wb (bN (y.ok F (aj h').2 (S.step au) q1 λq2 r2 aX=>wb (dE (wpAny_operate' (VL aX.inv q2 (k.step (au.trans aX)) (aX.rv r1) r2)))))))
inductive dF (σ:St) (Q:V->St->Prop):V->Prop
 |mk {i:Int} (q:Q (.int (-i)) σ):dF σ Q (.int i)
def W6 (Q:V->St->Prop) (v:V) (σ:St):Prop:=dF σ Q v
noncomputable def ME.neg (x:ME):ME where
 run:=λK ρ σ Q=>x.run K ρ σ (W6 Q)
 aD:=λsc fs=>yf λo a=>decide (o= .USub)&&x.aD sc fs a
 ok:=λF=>wM λh=>by
  obtain⟨e,h⟩:=aj h;cases bY e;exact λS q k=>wpAny_UnaryOp (x.ok F h S q λq1 r1 au=>by
   induction q1 with
   |mk q1=>exact r1.int_inv λt=>PySem.P.neg_int (bR.here (k.step au) au.inv q1 (.int ..) _))
def Wh (x y:ME) (K:CH) (ρ:Env) (Q:V->St->Prop) (r:Bool) (σ:St):Prop:=cond r (x.run K ρ σ Q) (y.run K ρ σ Q)
noncomputable def ME.ite (t:MT) (x y:ME):ME where
 run:=λK ρ σ Q=>t.run K ρ σ (Wh x y K ρ Q)
 aD:=λsc fs=>Jv λa b c=>t.aD false sc fs a&&(x.aD sc fs b&&y.aD sc fs c)
 ok:=λF=>Ti λh=>λ{A E env ρ σ s Z Q R} S q k=>wpAny_IfExp (t.ok F (aj h).1 S q λ{b a8 s'} q1 au=>by
  obtain⟨h1,h2⟩:=aj (aj h).2;cases b
  ·exact y.ok F h2 (S.step au) q1 (k.step au)
  ·exact x.ok F h1 (S.step au) q1 (k.step au))
def X7 (Q:V->St->Prop) (b:Bool) (σ:St):Prop:=Q (.bool b) σ
noncomputable def ME.tr (t:MT):ME where
 run:=λK ρ σ Q=>t.run K ρ σ (X7 Q)
 aD:=t.aD true
 ok:=λF h=>λS q k=>t.jy F h S q λq1 au=>k q1 (.bool _) au
inductive sj (σ:St) (Q:V->St->Prop):V->Prop
 |list {a:Addr} {xs:List V} (h:σ a=some (.list xs)) (q:Q (.aa xs) (del σ a)):sj σ Q (.ref a)
 |dict {a:Addr} {ks vs:List V} (h:σ a=some (.dict ks vs)) (q:Q (.aN ks vs) (del σ a)):sj σ Q (.ref a)
def WB (Q:V->St->Prop) (v:V) (σ:St):Prop:=sj σ Q v
noncomputable def ME.cO (e:ME):ME where
 run:=λK ρ σ Q=>e.run K ρ σ (WB Q)
 aD:=e.aD
 ok:=λF h=>λS q k=>e.ok F h S q λq1 r1 au=>by
  have I:=au.inv;induction q1 with
  |list h q1=>exact r1.gm (I.list h λho l=>k q1 (.pV ⟨ho,zS _ _,I.nz h⟩ (l.mono (Mv.freeze h))) (au.trans (aA.freeze I h (λ_ h=>a_ h rfl))))
  |dict h q1=>exact r1.gm (I.dict h λho n l=>k q1 (.Hl ⟨ho,zS _ _,I.nz h⟩ n (I.sys (I.jX h).new) (l.mono (Mv.freeze h))) (au.trans (aA.freeze I h (λ_ h=>a_ h rfl))))
noncomputable def Eh (t:Expr):Bool:=by cases t with|BoolOp a b c=>exact false|UnaryOp a b c=>exact decide (a≠ .Not)|IfExp a b c d=>exact false|Compare a b c d=>exact false|_=>exact true
theorem Ms:Eh t=true->isTrue t env w=(do let v<-w;standAt t.pos;holding [v] (truthy v)):=by cases t with|BoolOp a b c=>exact λh=>no h|UnaryOp a b c=>exact UnaryOp.casesOn (motive:=λa=>decide (a≠ .Not)=true->isTrue (.UnaryOp a b c) env w=(do let v<-w;standAt (Expr.UnaryOp a b c).pos;holding [v] (truthy v))) a (λh=>rfl) (λh=>no h) (λh=>rfl) (λh=>rfl)|IfExp a b c d=>exact λh=>no h|Compare a b c d=>exact λh=>no h|_=>exact λh=>rfl
noncomputable def Ge (t:Expr):Bool:=by cases t with|Slice a b c d=>exact true|_=>exact false
theorem Lr:Ge t=false->subscripted t false o i=operate [o,i] (getItem o i):=by cases t with|Slice a b c d=>exact λh=>no h.symm|_=>exact λh=>rfl
inductive Ky (Q:Bool->St->Prop) (σ:St):V->Prop
 |mk {b:Bool} (q:Q b σ):Ky Q σ (.bool b)
def Yw (Q:Bool->St->Prop) (v:V) (σ:St):Prop:=Ky Q σ v
noncomputable def MT.ex (e:ME):MT where
 run:=λK ρ σ Q=>e.run K ρ σ (Yw Q)
 aD:=λv sc fs a=>(v||Eh a)&&e.aD sc fs a
 ok:=λF h=>λS q k=>wpAny_isTrue_value (e.ok F (aj h).2 S q λq1 r1 au=>by
  induction q1 with
  |mk q1=>exact r1.bool_inv (p9 (k q1 au))) (Ms (aj h).1)
 jy:=λF h=>λS q k=>e.ok F (aj h).2 S q λq1 r1 au=>by
  induction q1 with
  |mk q1=>exact r1.bool_inv (k q1 au)
theorem D_ (h:lastMarks ops cs=false):isTrue (.Compare a ops cs ps) env w=(do testChain ps (<-eval a env) ops (evalEach cs env)):=by rewrite [arm_isTrue_Compare];exact a6 (markedEach_of_false _ _ _ h) rfl
theorem Qo (h:lastMarks ops cs=false):eval (.Compare a ops cs ps) env=(do compareChain ps (<-eval a env) ops (evalEach cs env)):=by rewrite [arm_eval_Compare];exact a6 (markedEach_of_false _ _ _ h) rfl
noncomputable def BQ (f:CmpOp->Expr->Bool) (os:List CmpOp) (cs:List Expr):Bool:=os.casesOn false λo os=>os.casesOn (cs.casesOn false λc cs=>cs.casesOn (f o c) λa b=>false) λa b=>false
theorem A7 {C:List CmpOp->List Expr->Prop} {f} (q:∀{o c},f o c=true->C [o] [c]) {os cs}:BQ f os cs=true->C os cs:=by
 induction os with
 |nil=>exact no
 |cons o os=>induction os with
  |cons a b=>exact no
  |nil=>induction cs with
   |nil=>exact no
   |cons c cs=>induction cs with
    |nil=>exact q
    |cons a b=>exact no
def Jf (o:CmpOp) (v:V) (Q:Bool->St->Prop) (w:V) (σ:St):Prop:=cU σ Q o v w
def WH (o:CmpOp) (y:ME) (K:CH) (ρ:Env) (Q:Bool->St->Prop) (v:V) (σ:St):Prop:=y.run K ρ σ (Jf o v Q)
noncomputable def MT.cmp (o:CmpOp) (x y:ME):MT where
 run:=λK ρ σ Q=>x.run K ρ σ (WH o y K ρ Q)
 aD:=λv sc fs=>BF λa os cs=>BQ (λo' c=>decide (o'=o)&&(!behindInMarks o c&&(x.aD sc fs a&&y.aD sc fs c))) os cs
 ok:=λ{p sc fs a} F=>zZ λ{a os cs ps}=>A7 (C:=λos cs=>yI p sc fs _ (.Compare a os cs ps)) λ{o' b} h=>by
  obtain⟨e,h'⟩:=aj h;obtain⟨hm,h'⟩:=aj h';cases bY e;exact λS q k=>cj (D_ (dB hm)) (wb (x.ok F (aj h').1 S q λq1 r1 au=>wb (bN (y.ok F (aj h').2 (S.step au) q1 λq2 r2 aX=>wb (dE (wb (wpAny_operate' (xb aX.inv (S.room.room (by decide)) q2 (λt q3=>bN (p9 (k q3 ((au.trans aX).trans (aA.tok aX.inv t))))) (aX.rv r1) r2))))))))
 jy:=λ{p sc fs a} F=>zZ λ{a os cs ps}=>A7 (C:=λos cs=>Kv p sc fs _ (.Compare a os cs ps)) λ{o' b} h=>by
  obtain⟨e,h'⟩:=aj h;obtain⟨hm,h'⟩:=aj h';cases bY e;exact λS q k=>cj (Qo (dB hm)) (wb (x.ok F (aj h').1 S q λq1 r1 au=>wb (bN (y.ok F (aj h').2 (S.step au) q1 λq2 r2 aX=>wb (dE (wpAny_operate' (xb aX.inv (S.room.room (by decide)) q2 (λt q3=>k q3 ((au.trans aX).trans (aA.tok aX.inv t))) (aX.rv r1) r2)))))))
noncomputable def IT (f:CmpOp->CmpOp->Expr->Expr->Bool) (os:List CmpOp) (cs:List Expr):Bool:=os.casesOn false λo os=>cs.casesOn false λc cs=>BQ (λo' c'=>f o o' c c') os cs
theorem R6 {C:List CmpOp->List Expr->Prop} {f} (q:∀{o o' c c'},f o o' c c'=true->C [o,o'] [c,c']) {os cs}:IT f os cs=true->C os cs:=by
 induction os with
 |nil=>exact no
 |cons o os=>induction cs with
  |nil=>exact no
  |cons c cs=>exact A7 (C:=λos cs=>C (o::os) (c::cs)) q
def YM (o2:CmpOp) (z:ME) (K:CH) (ρ:Env) (Q:Bool->St->Prop) (w:V) (r:Bool) (σ:St):Prop:=cond r (z.run K ρ σ (Jf o2 w Q)) (Q false σ)
def YN (o1 o2:CmpOp) (z:ME) (K:CH) (ρ:Env) (Q:Bool->St->Prop) (v w:V) (σ:St):Prop:=cU σ (YM o2 z K ρ Q w) o1 v w
def YO (o1 o2:CmpOp) (y z:ME) (K:CH) (ρ:Env) (Q:Bool->St->Prop) (v:V) (σ:St):Prop:=y.run K ρ σ (YN o1 o2 z K ρ Q v)
noncomputable def zU (o1 o2:CmpOp) (x y z:ME):CH->Run Bool:=λK ρ σ Q=>x.run K ρ σ (YO o1 o2 y z K ρ Q)
noncomputable def MT.chain (o1 o2:CmpOp) (x y z:ME):MT where
 run:=zU o1 o2 x y z
 aD:=λv sc fs a=> !v&&BF (λa os cs=>IT (λp1 p2 c d=>decide (p1=o1)&&(decide (p2=o2)&&(!behindInMarks o2 d&&(x.aD sc fs a&&(y.aD sc fs c&&z.aD sc fs d))))) os cs) a
 ok:=λ{p sc fs a} F h=>zZ (C:=yI p sc fs (zU o1 o2 x y z)) (λ{a os cs ps}=>R6 (C:=λos cs=>yI p sc fs (zU o1 o2 x y z) (.Compare a os cs ps)) λ{p1 p2 c d} h=>by
  obtain⟨e1,h1⟩:=aj h;obtain⟨e2,h2⟩:=aj h1;obtain⟨hm,h3⟩:=aj h2;obtain⟨hx,h4⟩:=aj h3;cases bY e1;cases bY e2;refine λ{A E env ρ σ s Z Q R} S q k=>cj (D_ (dB hm)) (wb (x.ok F hx S q λq1 r1 au=>wb (bN (y.ok F (aj h4).1 (S.step au) q1 λ{w u pY ez} q2 r2 aX=>wb (dE (wb (bN (xb aX.inv (S.room.room (by decide)) q2 (λ{b} t q3=>wb (wpAny_release' (wb (bN (p9 ?_))))) (aX.rv r1) r2))))))));have cN:aA p.c Z X0 σ s pY {ez with toks:=t}:=(au.trans aX).trans (aA.tok aX.inv t);cases b
  ·exact ai (k q3 cN)
  ·exact wb (bN (z.ok F (aj h4).2 (S.step cN) q3 λq4 r4 gc=>wb (dE (wb (wpAny_operate' (xb gc.inv (S.room.room (by decide)) q4 (λt q5=>bN (p9 (k q5 ((cN.trans gc).trans (aA.tok gc.inv t))))) (gc.rv ((aA.tok (X:=X0) aX.inv t).rv r2)) r4))))))) (aj h).2
 jy:=λF h=>no (aj h).1
def W4 (Q:Bool->St->Prop) (r:Bool) (σ:St):Prop:=Q (!r) σ
noncomputable def MT.not (t:MT):MT where
 run:=λK ρ σ Q=>t.run K ρ σ (W4 Q)
 aD:=λv sc fs=>yf λo a=>decide (o= .Not)&&t.aD v sc fs a
 ok:=λF=>wM λh=>by
  obtain⟨e,h'⟩:=aj h;cases bY e;exact λS q k=>wpAny_isTrue_Not (t.ok F h' S q k)
 jy:=λF=>wM λh=>by
  obtain⟨e,h'⟩:=aj h;cases bY e;exact λS q k=>wpAny_UnaryOp (t.jy F h' S q λq1 au=>not_value (p9 (k q1 au)))
noncomputable def Cy (o:BoolOp) (r:Bool):Bool:=o.casesOn r (!r)
noncomputable def dw.nil:dw where
 run:=λo K ρ σ Q=>Q (Cy o true) σ
 aD:=λv sc fs as=>as.isEmpty
 fin:=λh q=>q
 ok:=λ{p sc fs as} F h=>by
  induction as with
  |nil=>intro o;cases o<;>exact λ{A E env ρ σ s Z Q R} S q k=>ai (k q (aA.refl S.inv))
  |cons=>exact no h
 jy:=λ{p sc fs as} F h=>by
  induction as with
  |nil=>exact λn=>absurd rfl n
  |cons=>exact no h
def yG (o:BoolOp) (ts:dw) (K:CH) (ρ:Env) (Q:Bool->St->Prop) (r:Bool) (σ:St):Prop:=cond (Cy o r) (ts.run o K ρ σ Q) (Q r σ)
noncomputable def dw.cons (t:MT) (ts:dw):dw where
 run:=λo K ρ σ Q=>t.run K ρ σ (yG o ts K ρ Q)
 aD:=λv sc fs as=>as.casesOn false λa as=>t.aD v sc fs a&&ts.aD v sc fs as
 fin:=λh=>no h
 ok:=λ{p sc fs as} F h=>by
  induction as with
  |nil=>exact no h
  |cons a as=>exact λ{o A E env ρ σ s Z Q R} S q k=>cj (arm_allTrue_cons ..) (wb (t.ok F (aj h).1 S q λ{b a8 s'} q1 au=>by
   have rest:=λq1=>ts.ok F (aj h).2 (o:=o) (E:=E) (Q:=Q) (R:=R) (S.step au) q1 (k.step au);cases o<;>cases b
   ·exact ai (k q1 au)
   ·exact rest q1
   ·exact rest q1
   ·exact ai (k q1 au)))
 jy:=λ{p sc fs as} F h=>by
  induction as with
  |nil=>exact no h
  |cons a as=>
   refine λ{o A E env ρ σ s Z Q R ps} n S q k=> ?_;have one:=λ{R} k=>t.jy F (aj h).1 (E:=E) (R:=R) S q k;have hr:=(aj h).2;induction as with
   |nil=>
    exact one λ{b a8 s'} q1 au=>by
     have fin:=λq=>ts.fin (v:=true) (sc:=sc) (fs:=fs) (o:=o) (K:=p.K) (ρ:=ρ) (σ:=a8) (Q:=Q) hr q;cases o<;>cases b
     ·exact k q1 au
     ·exact k (fin q1) au
     ·exact k (fin q1) au
     ·exact k q1 au
   |cons b as=>
    refine wb (one λ{r a8 s'} q1 au=>wb (dE (wb (bN (p9 ?_)))));have rest:=λq1=>ts.jy F hr (o:=o) (E:=E) (Q:=Q) (R:=R) (pos:=ps) lU (S.step au) q1 (k.step au);cases o<;>cases r
    ·exact ai (k q1 au)
    ·exact rest q1
    ·exact rest q1
    ·exact ai (k q1 au)
noncomputable def MT.bo (o:BoolOp) (ts:dw):MT where
 run:=λK ρ σ Q=>ts.run o K ρ σ Q
 aD:=λv sc fs=>vBool λo' as=>decide (o'=o)&&(!as.isEmpty&&ts.aD v sc fs as)
 ok:=λF=>EN λh=>by
  obtain⟨e,h'⟩:=aj h;cases bY e;exact λS q k=>wpAny_isTrue_BoolOp (ts.ok F (aj h').2 S q k)
 jy:=λF=>EN λh=>by
  obtain⟨e,h'⟩:=aj h;cases bY e;exact λS q k=>cj (arm_eval_BoolOp ..) (ts.jy F (aj h').2 (λe=>by subst e;exact no (aj h').1) S q k)
theorem wg:typeLookup (.type "tuple") "__getitem__"=pure (some (.builtin "tuple.__getitem__")):=slot_tuple_getitem.lookup
section
variable{p:Pc} {c:Cx} {sc:Scope} {fs:List Nat} {A:Around} {E:Value->Shared->Prop} {Z X:Addr->Prop} {env:PySem.Env} {ρ:Env} {σ a8:St} {s s':Shared} {Q:V->St->Prop} {R:Value->Shared->Prop} {v w:V} {u x:Value}
theorem uF {T id:String} {R:Bool->Shared->Prop} (hT:s.TypeIs u T) (hl:typeLookup (.type T) "__getitem__"=pure (some (.builtin id))) (h:R false s):wpAny c.M A (getitemInPython u) R E s:=by
 unfold getitemInPython;exact aK (tQ hT hl (ai h))
theorem Vx {R:Bool->Shared->Prop} (I:Inv c σ Z s.heap) (h:R false s) (q:eV σ Q v w) (r:Rv c σ Z s.heap v u):wpAny c.M A (getitemInPython u) R E s:=by
 induction q with
 |dict D ok l q=>exact D.view I r λD z=>uF D.typeIs slot_dict_getitem.lookup h
 |seq S hl e q=>exact S.o5 I r (λe ho l=>uF ⟨_,ho,rfl⟩ wg h) λho l=>uF ⟨_,ho,rfl⟩ list_getitem_lookup h
 |last hl e q=>exact r.cR λf l=>uF ⟨_,f.at_,rfl⟩ wg h
 |str a b e q=>exact r.str_inv λa t=>uF (typeIs_str _ _ _) F.slot_str_getitem.lookup h
end
def Wm (v:V) (Q:V->St->Prop) (w:V) (σ:St):Prop:=eV σ Q v w
def Wn (y:ME) (K:CH) (ρ:Env) (Q:V->St->Prop) (v:V) (σ:St):Prop:=y.run K ρ σ (Wm v Q)
noncomputable def ME.idx (x y:ME):ME where
 run:=λK ρ σ Q=>x.run K ρ σ (Wn y K ρ Q)
 aD:=λsc fs=>xJ λa b=> !Ge b&&(x.aD sc fs a&&y.aD sc fs b)
 ok:=λF=>zY λh=>by
  obtain⟨hs,h'⟩:=aj h;exact λS q k=>cj (arm_eval_Subscript ..) (wb (x.ok F (aj h').1 S q λq1 r1 au=>wb (bN (y.ok F (aj h').2 (S.step au) q1 λq2 r2 aX=>wb (dE (wb (Vx aX.inv (wb (cj (Lr (dB hs)) (wpAny_operate' (Uo aX.inv (S.room.room (by decide)) q2 (λq3 r3 cN=>wb (wpAny_letTemporaryGo (ai (k q3 r3 ((au.trans aX).trans cN))))) (aX.rv r1) r2)))) q2 (aX.rv r1))))))))
inductive pX (σ:St) (Q:V->St->Prop):V->Prop
 |mk {xs:List V} (h:xs≠ []) (hl:xs.length<lim) (q:Q (.tup xs.tail) σ):pX σ Q (.tup xs)
inductive xg (σ:St) (Q:V->St->Prop):V->Prop
 |mk {xs:List V} (h:xs≠ []) (hl:xs.length<lim) (q:Q (.tup xs.dropLast) σ):xg σ Q (.tup xs)
inductive Ci (σ:St) (Q:V->St->Prop):V->Prop
 |mk {v:V} {xs:List V} (S:Sq σ 0 v xs) (hl:xs.length<lim) (q:Q (.aa (xs.take 60)) σ):Ci σ Q v
noncomputable def xO (i:Int) (x:Option Expr):Bool:=x.casesOn false (AF λ(c:Const)=>decide (c=Const.int i))
theorem A8 {C:Option Expr->Prop} {i:Int} (q:∀{k ps},C (some (.Constant (.int i) k ps))) {x}:xO i x=true->C x:=by
 induction x with
 |none=>exact no
 |some x=>exact Ea (C:=λx=>C (some x)) λ{c n ps} h=>(bY h:c=Const.int i)▸q
noncomputable def J0 (i:Int) (x:Option Expr):Bool:=x.casesOn false (yf λ(o:UnaryOp) (a:Expr)=>decide (o=UnaryOp.USub)&&xO i (some a))
theorem RX {C:Option Expr->Prop} {i:Int} (q:∀{k ps bF},C (some (.UnaryOp .USub (.Constant (.int i) k ps) bF))) {x}:J0 i x=true->C x:=by
 induction x with
 |none=>exact no
 |some x=>
  refine wM (C:=λx=>C (some x)) λ{o a ps} h=> ?_;obtain⟨e,h'⟩:=aj h;cases bY e;exact A8 (C:=λx=>C (x.map λx=> .UnaryOp .USub x ps)) q h'
theorem wW {C:Option Expr->Prop} (q:C none) {x:Option Expr}:x.isNone=true->C x:=by
 induction x with
 |none=>exact λh=>q
 |some x=>exact no
noncomputable def y1 (x:ME) (f:Option Expr->Option Expr->Bool) (sc:Scope) (fs:List Nat):Expr->Bool:=xJ λa b=>lu (λm=>true) a&&(x.aD sc fs a&&GC (λl m n=>n.isNone&&f l m) b)
theorem As {x:ME} {f:Option Expr->Option Expr->Bool} {sc:Scope} {fs:List Nat} {C:Expr->Prop} (q:∀{m ps l h bF h8},f l h=true->x.aD sc fs (.Name m ps)=true->C (.Subscript (.Name m ps) (.Slice l h none bF) h8)) {a}:y1 x f sc fs a=true->C a:=
 zY λ{a b ps} h=>l4 (C:=λa=>x.aD sc fs a=true->C (.Subscript a b ps)) (λ{m bF} e hx=>NT (C:=λb=>C (.Subscript (.Name m bF) b ps)) (λ{l m' n h8} h=>wW (C:=λn=>C (.Subscript (.Name m bF) (.Slice l m' n h8) ps)) (q (aj h).2 hx) (aj h).1) (aj (aj h).2).2) (aj h).1 (aj (aj h).2).1
def U_ (Q:V->St->Prop) (v:V) (σ:St):Prop:=pX σ Q v
def Vp (Q:V->St->Prop) (v:V) (σ:St):Prop:=xg σ Q v
def XP (Q:V->St->Prop) (v:V) (σ:St):Prop:=Ci σ Q v
noncomputable def lL (x:ME):CH->Run V:=λK ρ σ Q=>x.run K ρ σ (U_ Q)
noncomputable def oB (x:ME):CH->Run V:=λK ρ σ Q=>x.run K ρ σ (Vp Q)
noncomputable def qo (x:ME):CH->Run V:=λK ρ σ Q=>x.run K ρ σ (XP Q)
section
variable{p:Pc} {sc:Scope} {fs:List Nat} {x:ME} {m:PySem.Str} {ps bF h8 qs rs:Pos} {k':Nat}
theorem RS (hx:bw p sc fs x.run (.Name m ps)):bw p sc fs (lL x) (.Subscript (.Name m ps) (.Slice (some (.Constant (.int 1) k' qs)) none none bF) h8):=λ{A E env ρ σ s Z Q R} S q k=>
 wpAny_Subscript_Slice wg (hx S q λ{v u bZ aC} q1 r1 au=>by
  induction q1 with
  |mk h1 hl q1=>
   refine r1.cR λf l=>wpAny_Slice (cj (evalPart_some ..) (wpAny_Constant_int (cj (evalPart_none ..) (ai (cj (evalPart_none ..) (ai ?_))))));have aX:aA p.c Z X0 bZ aC bZ {aC with heap:=aC.heap.push {cls:= .type "slice",data:= .fields #[.int 1 aC.toks, .none, .none]},toks:=aC.toks+1}:=aA.grow au.inv (bt _ _);exact⟨⟨_,bt _ _ _ _ f.at_,rfl⟩,Qu aX.inv (bt _ _ _ _ f.at_) (aX.uZ l) (Heap.IsSliceOf.new ..) h1 hl q1 (k.step (au.trans aX))⟩) λa b=>rfl
theorem RQ (hx:bw p sc fs x.run (.Name m ps)):bw p sc fs (oB x) (.Subscript (.Name m ps) (.Slice none (some (.UnaryOp .USub (.Constant (.int 1) k' qs) rs)) none bF) h8):=λ{A E env ρ σ s Z Q R} S q k=>
 wpAny_Subscript_Slice wg (hx S q λ{v u bZ aC} q1 r1 au=>by
  induction q1 with
  |mk h1 hl q1=>
   refine r1.cR λf l=>wpAny_Slice (cj (evalPart_none ..) (ai (cj (evalPart_some ..) (wpAny_UnaryOp (wpAny_Constant_int (PySem.P.neg_int (cj (evalPart_none ..) (ai ?_))))))));have aX:aA p.c Z X0 bZ aC bZ {aC with heap:=aC.heap.push {cls:= .type "slice",data:= .fields #[.none, .int (-1) (aC.toks+1), .none]},toks:=aC.toks+1+1}:=aA.grow au.inv (bt _ _);exact⟨⟨_,bt _ _ _ _ f.at_,rfl⟩,Qv aX.inv (bt _ _ _ _ f.at_) (aX.uZ l) (Heap.IsSliceOf.new ..) h1 hl q1 (k.step (au.trans aX))⟩) λa b=>rfl
theorem RO (hx:bw p sc fs x.run (.Name m ps)):bw p sc fs (qo x) (.Subscript (.Name m ps) (.Slice none (some (.Constant (.int 60) k' qs)) none bF) h8):=λ{A E env ρ σ s Z Q R} S q k=>
 wpAny_Subscript_Slice list_getitem_lookup (hx S q λ{v u bZ aC} q1 r1 au=>by
  induction q1 with
  |mk C hl q1=>
   refine C.rR au.inv r1 λ{a us e} ho l=>wpAny_Slice (cj (evalPart_none ..) (ai (cj (evalPart_some ..) (wpAny_Constant_int (cj (evalPart_none ..) (ai ?_))))));have aX:aA p.c Z X0 bZ aC bZ {aC with heap:=aC.heap.push {cls:= .type "slice",data:= .fields #[.none, .int 60 aC.toks, .none]},toks:=aC.toks+1}:=aA.grow au.inv (bt _ _);exact⟨⟨_,bt _ _ _ _ ho,rfl⟩,OI aX.inv (bt _ _ _ _ ho) (aX.uZ l) (Heap.IsSliceOf.new ..) hl q1 (k.step (au.trans aX))⟩) λa b=>rfl
end
noncomputable def ME.lL (x:ME):ME where
 run:=Internal.lL x
 aD:=y1 x λl h=>xO 1 l&&h.isNone
 ok:=λ{p sc fs a} F=>As (C:=bw p sc fs (Internal.lL x)) λ{m ps l h bF h8} hh hx=>A8 (C:=λl=>bw p sc fs (Internal.lL x) (.Subscript (.Name m ps) (.Slice l h none bF) h8)) (λ{k' qs}=>wW (C:=λh=>bw p sc fs (Internal.lL x) (.Subscript (.Name m ps) (.Slice _ h none bF) h8)) (RS (x.ok F hx)) (aj hh).2) (aj hh).1
noncomputable def ME.oB (x:ME):ME where
 run:=Internal.oB x
 aD:=y1 x λl h=>l.isNone&&J0 1 h
 ok:=λ{p sc fs a} F=>As (C:=bw p sc fs (Internal.oB x)) λ{m ps l h bF h8} hh hx=>wW (C:=λl=>bw p sc fs (Internal.oB x) (.Subscript (.Name m ps) (.Slice l h none bF) h8)) (RX (C:=λh=>bw p sc fs (Internal.oB x) (.Subscript (.Name m ps) (.Slice none h none bF) h8)) (RQ (x.ok F hx)) (aj hh).2) (aj hh).1
noncomputable def ME.qo (x:ME):ME where
 run:=Internal.qo x
 aD:=y1 x λl h=>l.isNone&&xO 60 h
 ok:=λ{p sc fs a} F=>As (C:=bw p sc fs (Internal.qo x)) λ{m ps l h bF h8} hh hx=>wW (C:=λl=>bw p sc fs (Internal.qo x) (.Subscript (.Name m ps) (.Slice l h none bF) h8)) (A8 (C:=λh=>bw p sc fs (Internal.qo x) (.Subscript (.Name m ps) (.Slice none h none bF) h8)) (RO (x.ok F hx)) (aj hh).2) (aj hh).1
noncomputable def nS (k:PySem.Str->List Expr->Pos->Bool):Expr->Bool:=Bp λf as kw ps=>kw.isEmpty&&lu (λm=>k m as ps) f
theorem pB {C:Expr->Prop} {k} (q:∀{m bF as ps},k m as ps=true->C (.Call (.Name m bF) as [] ps)) {t}:nS k t=true->C t:=EM λ{f as kw ps} h=>by
 obtain⟨hk,h'⟩:=aj h;cases iQ.mp hk;exact l4 (C:=λf=>C (.Call f as [] ps)) q h'
noncomputable def AG (k:Expr->PySem.Str->Pos->List Expr->Pos->Bool):Expr->Bool:=Bp λf as kw ps=>kw.isEmpty&&uA (λx m ap=>k x m ap as ps) f
theorem z4 {C:Expr->Prop} {k} (q:∀{x m ap as ps},k x m ap as ps=true->C (.Call (.Attribute x m ap) as [] ps)) {t}:AG k t=true->C t:=EM λ{f as kw ps} h=>by
 obtain⟨hk,h'⟩:=aj h;cases iQ.mp hk;exact w7 (C:=λf=>C (.Call f as [] ps)) q h'
theorem nO (id:String):jN M h (.builtin id):=⟨.machine, .inr (.inl rfl),Looks.now⟩
theorem pC (T:String):jN M h (.type T):=⟨.machine, .inr (.inl rfl),Looks.now⟩
noncomputable def jr (sc:Scope) (m:PySem.Str):Bool:=sc.names.lookup m==some .globalImplicit
theorem UK:∀x∈ko,(x.1==("__debug__":PySem.Str))=false:=by decide+kernel
section
variable{p:Pc} {c:Cx} {sc:Scope} {fs:List Nat} {A:Around} {E:Value->Shared->Prop} {Z X:Addr->Prop} {env:PySem.Env} {ρ:Env} {σ a8:St} {s s':Shared} {Q:V->St->Prop} {R:Value->Shared->Prop} {v w:V} {u x:Value} {name:PySem.Str} {fv f:Value} {ps pos:Pos}
theorem rG (F:Fa p) (S:At p sc fs A Z env ρ σ s) (h1:jr sc name=true) (hm:(name,fv)∈ko) (q:R fv s):wpAny p.c.M A (eval (.Name name ps) env) R E s:=
 Calls.Name_function_global S.cJ.kind (by show env.scope.names.lookup name=_;exact a6 S.n7 (b7.mp h1)) (Calls.loadGlobal_builtin (a6 S.cJ.glob (p.c.g.keeps λa b=>S.inv.top)) (F.vB _ hm).1 (a6 S.cJ.bi (p.c.b.keeps λa b=>S.inv.top)) (F.vB _ hm).2 q) (UK _ hm)
theorem G4 {x:Nat} (S:At p sc fs A Z env ρ σ s) (h1:jr sc (tx x)=true) (g:Glob p x fv) (q:R fv s):wpAny p.c.M A (eval (.Name (tx x) ps) env) R E s:=
 Calls.Name_function_global S.cJ.kind (by show env.scope.names.lookup (tx x)=_;exact a6 S.n7 (b7.mp h1)) (Calls.loadGlobal_global (a6 S.cJ.glob (p.c.g.keeps λa b=>S.inv.top)) g.mg q) (HN g.lt)
theorem rg {es:eO} {as:List Expr} {first:List Value} {Q':List V->St->Prop} (F:Fa p) (h:es.aD sc fs as=true) (S:At p sc fs A Z env ρ σ s) (q:es.run p.K ρ σ Q')
  (k:∀{vs us a8 s'},us.length=as.length->Q' vs a8->aO p.c a8 Z s'.heap vs us->aA p.c Z X0 σ s a8 s'->jN p.c.M s'.heap f/\wpAny p.c.M A (call f (first++us)) R E s'):
  wpAny p.c.M A (callWith pos f first (backTo pos (starEach as env)) []) R E s:=
 callWith_of (P:=λh=>jN p.c.M h f) (by refine a6 (w9 (es.star h)) ?_;rfl) (λh x=>x.k) (tT (es.star h) (es.ok F h S q λl q r st=>k l q r st))
end
noncomputable def ME.glob (x:Nat):ME where
 run:=λK ρ σ Q=>sT (K.gl x) λv=>Q v σ
 aD:=λsc fs=>lu λm=>m==tx x&&(jr sc m&&L0 x)
 ok:=λF=>l4 λh=>by
  obtain⟨e,h'⟩:=aj h;cases b7.mp e;obtain⟨fv,g,hv⟩:=F.oW (aj h').2;exact λS q k=>AQ q λe q=>G4 S (aj h').1 g (k.same S.inv q (hv e S.inv))
structure BI where
 nm:PySem.Str
 fv:Value
 ev:St->(V->St->Prop)->List V->Prop
 mem:(nm,fv)∈ko
 kp:∀{M h},jN M h fv
 ok:∀{c:Cx} {A E Z X σ s Q R vs us},A.handled=none->A.units+100<cLine->Inv c σ Z s.heap->ev σ Q vs->aO c σ Z s.heap vs us->bR c Z X σ s Q R->wpAny c.M A (call fv us) R E s
def YV (b:BI) (Q:V->St->Prop) (vs:List V) (σ:St):Prop:=b.ev σ Q vs
noncomputable def ME.bi (b:BI) (es:eO):ME where
 run:=λK ρ σ Q=>es.run K ρ σ (YV b Q)
 aD:=λsc fs=>nS λm as ps=>m==b.nm&&(jr sc m&&es.aD sc fs as)
 ok:=λ{p sc fs a} F=>pB λ{m bF as ps} h=>by
  obtain⟨e,hg⟩:=aj h;cases b7.mp e;exact λS q k=>tM (rG F S (aj hg).1 b.mem (rg F (aj hg).2 S q λl q1 r1 au=>⟨b.kp,b.ok S.room.hh (S.room.room (bC _)) au.inv q1 r1 (k.step au)⟩))
inductive uK (σ:St) (Q:V->St->Prop):List V->Prop
 |seq {v:V} {xs:List V} (S:Sq σ 1 v xs) (hl:xs.length<lim) (q:Q (.int xs.length) σ):uK σ Q [v]
 |dict {v:V} {ks vs:List V} (D:Dc σ v ks vs) (hl:ks.length<lim) (q:Q (.int ks.length) σ):uK σ Q [v]
inductive ya (f:List V->V) (σ:St) (Q:V->St->Prop):List V->Prop
 |mk {v:V} {xs:List V} (S:Sq σ 1 v xs) (hl:xs.length<lim) (q:Q (f xs) σ):ya f σ Q [v]
inductive xh (σ:St) (Q:V->St->Prop):List V->Prop
 |copy {v:V} {ks vs:List V} (D:Dc σ v ks vs) (h1:ks.all isStr=true) (h2:ks.length<=8) (q:∀p,σ p=none->Q (.ref p) (upd σ p (.dict ks vs))):xh σ Q [v]
 |pairs {xs:List V} {ps:List (V×V)} (h:l5 xs=some ps) (hk:ps.all (λp=>aR 8 p.1)=true) (hl:ps.length<lim) (q:Q (.aN (dM ps ([], [])).1 (dM ps ([], [])).2) σ):xh σ Q [.aa xs]
inductive IJ (σ:St) (Q:V->St->Prop):List V->Prop
 |mk {i:Int} (q:Q (.int i.natAbs) σ):IJ σ Q [.int i]
inductive IG (σ:St) (Q:V->St->Prop):List V->Prop
 |mk {i:Int} {m:Nat} (h0:0<=i) (h:i<10) (hm:m<bJ.length) (e:tx m=Str.ofString (toString i)) (q:Q (.str m) σ):IG σ Q [.int i]
inductive II (σ:St) (Q:V->St->Prop):List V->Prop
 |mk {bs:List Bool} (q:Q (.bool (bs.all id)) σ):II σ Q [.aa (bs.map V.bool)]
inductive AA (σ:St) (Q:V->St->Prop):List V->Prop
 |one {i:Int} (q:Q (.dc 0 i) σ):AA σ Q [.int i]
 |two {i j:Int} (q:Q (.dc i j) σ):AA σ Q [.int i, .int j]
noncomputable def BI.len:BI where
 nm:="len"
 fv:= .builtin "len"
 ev:=uK
 mem:=cA (i:=0) rfl
 kp:=nO _
 ok:=λhh hu I q r k=>by
  induction q with
  |seq S hl q=>exact r.one λr=>UJ I r S hl q k
  |dict D hl q=>exact r.one λr=>T5 I r D hl q k
noncomputable def BI.tuple:BI where
 nm:="tuple"
 fv:= .type "tuple"
 ev:=ya .tup
 mem:=cA (i:=2) rfl
 kp:=pC _
 ok:=λhh hu I q r k=>by
  induction q with
  |mk S hl q=>exact r.one λr=>QH I r S hl q k
noncomputable def BI.list:BI where
 nm:="list"
 fv:= .type "list"
 ev:=ya .aa
 mem:=cA (i:=3) rfl
 kp:=pC _
 ok:=λhh hu I q r k=>by
  induction q with
  |mk S hl q=>exact r.one λr=>T4 I r S hl q k
noncomputable def BI.dict:BI where
 nm:="dict"
 fv:= .type "dict"
 ev:=xh
 mem:=cA (i:=4) rfl
 kp:=pC _
 ok:=λhh hu I q r k=>by
  have hu:_+20<cLine:=az (aU (by decide) _) hu;induction q with
  |copy D h1 h2 q=>exact r.one λr=>T6 I hu r D h1 h2 q k
  |pairs h hk hl q=>exact r.one λr=>LJ hh I hu r h hk hl q k
noncomputable def BI.abs:BI where
 nm:="abs"
 fv:= .builtin "abs"
 ev:=IJ
 mem:=cA (i:=5) rfl
 kp:=nO _
 ok:=λhh hu I q r k=>by
  induction q with
  |mk q=>exact r.one λr=>UM I r q k
noncomputable def BI.str:BI where
 nm:="str"
 fv:= .type "str"
 ev:=IG
 mem:=cA (i:=6) rfl
 kp:=pC _
 ok:=λhh hu I q r k=>by
  induction q with
  |mk h0 h hm e q=>exact r.one λr=>UI I r h0 h hm e q k
noncomputable def BI.all:BI where
 nm:="all"
 fv:= .builtin "all"
 ev:=II
 mem:=cA (i:=7) rfl
 kp:=nO _
 ok:=λhh hu I q r k=>by
  induction q with
  |mk q=>exact r.one λr=>UL hh I r q k
noncomputable def BI.range:BI where
 nm:="range"
 fv:= .type "range"
 ev:=AA
 mem:=cA (i:=8) rfl
 kp:=pC _
 ok:=λhh hu I q r k=>by
  induction q with
  |one q=>exact r.one λr=>OS I r q k
  |two q=>exact r.two λr r'=>OR I r r' q k
def Yu (K:CH) (f:Nat) (Q:V->St->Prop) (vs:List V) (σ:St):Prop:=K.fn f vs σ Q
noncomputable def ME.bq (f:Nat) (es:eO):ME where
 run:=λK ρ σ Q=>es.run K ρ σ (Yu K f Q)
 aD:=λsc fs=>nS λm as ps=>m==tx f&&(jr sc m&&(G0 f&&es.aD sc fs as))
 ok:=λ{p sc fs a} F=>pB λ{m bF as ps} h=>by
  obtain⟨e,hg⟩:=aj h;cases b7.mp e;obtain⟨fv,g,hv⟩:=F.yE (aj (aj hg).2).1;exact λS q k=>tM (G4 S (aj hg).1 g (rg F (aj (aj hg).2).2 S q λl q1 r1 au=>⟨hv au.inv.lW,wpAny_call (F.sf g.mg q1 S.room au.inv r1 (k.step au))⟩))
noncomputable def oo (t:Expr):Bool:=by cases t with|Call a b c d=>exact b.isEmpty|_=>exact false
theorem zV:oo t=false->attributeBase t m env w=w:=by cases t with|Call a b c d=>exact λh=>(by induction b with|nil=>exact no h.symm|cons x xs=>cases a<;>rfl)|_=>exact λh=>rfl
section
variable{c:Cx} {σ:St} {Z:Addr->Prop} {h:Heap} {as:List (Nat×V)} {es:List DictEntry} {e n:Nat} {k v:V} {ks vs:List V} {en:DictEntry} {a C dx:Addr}
theorem bM.tl (r:bM c σ Z h (k::ks) (v::vs) (en::es)):bM c σ Z h ks vs es:=⟨d7 r.lk,d7 r.lv,λ{i}=>r.key (i:=i+1),λ{i}=>r.val (i:=i+1),λ{i}=>r.nq (i:=i+1),λ{i}=>r.ok (i:=i+1)⟩
abbrev nv (c:Cx) (σ:St) (Z:Addr->Prop) (h:Heap) (as:List (Nat×V)) (es:List DictEntry):Prop:=bM c σ Z h (as.map λp=> .str p.1) (as.map (·.2)) es
theorem nv.hd {m:Nat} (r:nv c σ Z h ((m,v)::as) (en::es)) {G:Prop} (q:m<bJ.length->∀t,en.key= .str (tx m) t->Rv c σ Z h v en.val->G):G:=
 Rv.str_inv (G:=λu=>en.key=u->G) (r.key (i:=0) rfl rfl) (λl t e=>q l t e (r.val (i:=0) rfl rfl)) rfl
theorem SK (hn:n<bJ.length) {G:Option V->Option DictEntry->Prop} (hy:∀{v en},Rv c σ Z h v en.val->G (some v) (some en)) (gR:G none none) (r:nv c σ Z h as es):G (as.lookup n) (es.find? (·.key.isStr (tx n))):=by
 induction as generalizing es with
 |nil=>exact f9 r.lk.symm▸gR
 |cons p as ih=>induction es with
  |nil=>exact eh r.lk
  |cons en es=>
   obtain⟨m,v⟩:=p;refine r.hd λlt t hk rv=>a6 jD (a6 (List.find?_cons) (a6 hk ?_));show G _ (match tx m==tx n with|true=>_|false=>_);by_cases q:n=m
   ·refine a6 q ?_;rw [gT,gT];exact hy rv
   ·refine a6 (il.mpr q) ?_;rw [il.mpr λe=>q (jK hn lt e.symm)];exact ih r.tl
theorem G_ (r:nv c σ Z h as es):es.any (·.refKey)=false:=by
 induction as generalizing es with
 |nil=>exact f9 r.lk.symm▸rfl
 |cons p as ih=>induction es with
  |nil=>rfl
  |cons en es=>
   refine r.hd λlt t hk rv=>a6 List.any_cons (a6 (ih r.tl) ?_);rewrite [Bool.or_false,DictEntry.refKey];exact a6 hk rfl
theorem Ab (hn:n<bJ.length) (r:nv c σ Z h as es) {G:Option V->Option (Option Value)->Prop} (hy:∀{v u},Rv c σ Z h v u->G (some v) (some (some u))) (gR:G none (some none)):G (as.lookup n) (lookIn (tx n) (bp es e)):=by
 unfold lookIn;show G _ (match es.find? (·.key.isStr (tx n)) with|some e=>some (some e.val)|none=>if es.any (·.refKey) then none else some none);exact a6 (G_ r) (SK hn (G:=λo f=>G o (match f with|some e=>some (some e.val)|none=>if false=true then none else some none)) hy gR r)
theorem Qh (c:so F C) (ha:findIn F (.ref C) (tx x)=some none) (hl:lookIn (tx x) o=some (some u)):findObj F C (some o) (tx x)=some (.value u):=by
 obtain⟨cd,h1,h2⟩:=c.hd;show(clsIn F C).bind _=_;refine a6 h1 ?_;show(findIn F (.ref C) (tx x)).bind _=_;refine a6 ha ?_;show(if cd.hasDict=true then lookIn (tx x) o else some none).bind _=_;refine a6 (aF h2) (a6 hl ?_);rfl
theorem handed (r:Rv c σ Z h v u):handedIn u=true:=Rv.casesOn (motive:=λv u r=>handedIn u=true) r rfl (λa=>rfl) (λa b=>rfl) (λa b=>rfl) (λa b d=>rfl) (λa b d=>rfl) (λa b d e f g i j k=>rfl) (λa=>rfl) (λa=>rfl) λa=>rfl
theorem Inv.at_ {G:Prop} (I:Inv c σ Z h) (e:σ a=some (.inst C dx as)) (k:∀{es ep},InstAt h a (uh C dx) C (some (bp es ep))->nv c σ Z h as es->h.get? dx=some (bp es ep)->σ dx=some (.cx a)->(as.map (·.1)).Nodup->G):G:=
 I.inst e λho hd hn he l=>k ⟨ho,rfl,rfl,he⟩ l he hd hn
end
inductive Bh (ok:Addr->Nat->Bool) (σ:St) (Q:V->St->Prop) (x:Nat):V->Prop
 |mk {a C dx:Addr} {as:List (Nat×V)} {u:V} (h:σ a=some (.inst C dx as)) (hk:ok C x=true) (hl:as.lookup x=some u) (q:Q u σ):Bh ok σ Q x (.ref a)
def VM (K:CH) (x:Nat) (Q:V->St->Prop) (v:V) (σ:St):Prop:=Bh K.i0 σ Q x v
noncomputable def ME.attr (e:ME) (x:Nat):ME where
 run:=λK ρ σ Q=>e.run K ρ σ (VM K x Q)
 aD:=λsc fs=>uA λb m ps=>m==tx x&&(decide (x<bJ.length)&&(!oo b&&e.aD sc fs b))
 ok:=λ{p sc fs a} F=>w7 λ{b m ps} h=>by
  obtain⟨e1,h1⟩:=aj h;obtain⟨lt,h2⟩:=aj h1;cases b7.mp e1;refine λ{A E env ρ σ s Z Q R} S q k=>cj ((arm_eval_Attribute ..).trans (a6 (zV (dB (aj h2).1)) rfl)) (wb (e.ok F (aj h2).2 S q λ{v u bZ aC} q1 r1 au=> ?_));induction q1 with
  |mk hm hk hl q1=>
   refine r1.gm (au.inv.at_ hm λ{es ep} IA rf hd hh hn=> ?_);have yy:=Ab (e:=ep) (bY lt) rf (G:=λo l=>∀{v},o=some v->∃u,l=some (some u)/\Rv p.c bZ Z aC.heap v u) (λ{v u} r {v'} e=>⟨u,rfl,cL e▸r⟩) bK hl;obtain⟨u,hu,ru⟩:=yy;obtain⟨co,gR⟩:=F.vC hk;exact wb (dE (wb (bN (get_value au.inv.lW IA co.ga (Qh co gR hu) (handed ru) (wb (wpAny_letTemporaryGo (ai (k q1 ru (au.trans (aA.tok au.inv _))))))))))
theorem zb {c:Cx} {A:Around} {E:Value->Shared->Prop} {env:PySem.Env} {s:Shared} {o:Expr} {name:Str} {apos pos:Pos} {as:List Expr} {R:Value->Shared->Prop} (h0:oo o=false) (hn:pQ as=true) (hl:as.length<30) (Bu:(apos.endLine==pos.line)=true)
  (h:wpAny c.M A (eval o env) (λov aC=>∃f first,(∀{pl} {Q':Value×List Value->Shared->Prop},Q' (f,first) aC->wpAny c.M A (getMethod ov name pl) Q' E aC)/\wpAny c.M A (callWith pos f first (backTo pos (starEach as env)) []) R E aC) E s):
  wpAny c.M A (eval (.Call (.Attribute o name apos) as [] pos) env) R E s:=by
 refine cj ((arm_eval_Call ..).trans (a6 (zV h0) rfl)) (wb (dS h (λov aC h=> ?_) λa b e=>e));obtain⟨f,first,hg,hc⟩:=h;refine wb (dE ?_);have h1:(backTo pos (starEach as env)).all (λx=> !x.1)=true:=by
  refine a6 List.all_eq_not_any_not ?_
  simpa using w9 (pos:=pos) (env:=env) hn
 have Vt:methodCallForm (as.length+([]:List Keyword).length) (backTo pos (starEach as env)) (backToKw pos (keywordEach [] env))=true:=by
  show(_&&_)=true;exact a6 h1 (bQ hl)
 show wpAny _ _ (methodCall ..) _ _ _;unfold methodCall;exact a6 Vt (wb (bN (hg (wb (nN (a:=pos) (show methodCallPos true o env apos pos=pure pos by unfold methodCallPos;refine a6 Bu ?_;rfl) hc)))))
noncomputable def xD (m:PySem.Str) (e:ME) (es:eO) (sc:Scope) (fs:List Nat):Expr->Bool:=AG λb m' ap as ps=>m'==m&&(!oo b&&(decide (as.length<30)&&(ap.endLine==ps.line&&(e.aD sc fs b&&es.aD sc fs as))))
inductive Bg (find:Addr->Nat->Option Addr) (σ:St) (x:Nat) (R:Addr->Prop):V->Prop
 |mk {a C dx f:Addr} {as:List (Nat×V)} (h:σ a=some (.inst C dx as)) (hl:as.lookup x=none) (hf:find C x=some f) (q:R C):Bg find σ x R (.ref a)
def Ve (K:CH) (x:Nat) (v:V) (Q:V->St->Prop) (C:Addr) (vs:List V) (σ:St):Prop:=K.aZ C x (v::vs) σ Q
def Vn (K:CH) (x:Nat) (es:eO) (ρ:Env) (Q:V->St->Prop) (v:V) (σ:St) (C:Addr):Prop:=es.run K ρ σ (Ve K x v Q C)
def Vo (K:CH) (x:Nat) (es:eO) (ρ:Env) (Q:V->St->Prop) (v:V) (σ:St):Prop:=Bg K.find σ x (Vn K x es ρ Q v σ) v
noncomputable def aS (e:ME) (x:Nat) (es:eO):CH->Run V:=λK ρ σ Q=>e.run K ρ σ (Vo K x es ρ Q)
section
variable{p:Pc} {sc:Scope} {fs:List Nat} {a:Expr} {e:ME} {es:eO} {x:Nat}
theorem PL (F:Fa p) (lt:x<bJ.length) (h:xD (tx x) e es sc fs a=true):bw p sc fs (aS e x es) a:=by
 refine z4 (C:=bw p sc fs (aS e x es)) (λ{b m' ap as ps} h=> ?_) h;obtain⟨e1,h1⟩:=aj h;obtain⟨h0,h2⟩:=aj h1;obtain⟨hl,h3⟩:=aj h2;obtain⟨hp,h4⟩:=aj h3;cases b7.mp e1;refine λ{A E env ρ σ s Z Q R} S q k=>zb (dB h0) (es.star (aj h4).2) (bY hl) hp (e.ok F (aj h4).1 S q λ{v u bZ aC} q1 r1 au=> ?_);cases q1 with
 |mk hm gR hf q1=>
  refine r1.gm (au.inv.at_ hm λ{d5 ep} IA rf hd hh hn=> ?_);have fo:=F.vy hf;refine⟨_,_,λ{pl Ku} hq=>method_fn au.inv.lW IA fo.cls.ga fo.cls.gn fo.at_ fo.typ ?_ hq,rg F (aj h4).2 (S.step au) q1 λl q3 r3 cN=>⟨⟨keeps_K fo.kp _ cN.inv.lW⟩,wpAny_call (F.sm hf q3 S.room cN.inv (.cons (.ref _) r3) (k.step (au.trans cN)))⟩⟩;show(lookIn (tx x) (bp d5 ep)).map (·.isSome)=some false;exact Ab (e:=ep) lt rf (G:=λo l=>o=none->l.map (·.isSome)=some false) (λr=>cy) (λe=>rfl) gR
inductive AB (find:Addr->Nat->Option Addr) (σ:St) (Q:V->St->Prop) (x:Nat):V->Prop
 |mk {a C dx f:Addr} {as:List (Nat×V)} (h:σ a=some (.inst C dx as)) (hl:as.lookup x=none) (hf:find C x=some f) (q:Q (.bm f a) σ):AB find σ Q x (.ref a)
def WL (K:CH) (x:Nat) (Q:V->St->Prop) (v:V) (σ:St):Prop:=AB K.find σ Q x v
noncomputable def xE (e:ME) (x:Nat):CH->Run V:=λK ρ σ Q=>e.run K ρ σ (WL K x Q)
theorem OD (fo:uu F C x f) (CT:copiedNames.contains (tx x)=false) (hl:lookIn (tx x) o=some none):findObj F C (some o) (tx x)=some (.bind (.builtin "function.__get__") (.ref f)):=by
 obtain⟨cd,h1,h2⟩:=fo.cls.hd;show(clsIn F C).bind _=_;refine a6 h1 ?_;show(findIn F (.ref C) (tx x)).bind _=_;refine a6 fo.at_ ?_;show(specialIn F (.ref f) "__get__").bind _=_;refine a6 fo.get ?_;show(takesIn F (.ref f)).bind _=_;refine a6 fo.X8 ?_;show(if cd.hasDict=true then lookIn (tx x) o else some none).bind _=_;refine a6 (aF h2) (a6 hl ?_);show(if(copiedNames.contains (tx x)&&_)=true then _ else _)=_;refine a6 CT ?_;rfl
theorem PM (F:Fa p) (lt:x<bJ.length) (CT:copiedNames.contains (tx x)=false) (h0:oo b=false) (h:bw p sc fs e.run b):bw p sc fs (xE e x) (.Attribute b (tx x) ps):=by
 refine λ{A E env ρ σ s Z Q R} S q k=>cj ((arm_eval_Attribute ..).trans (a6 (zV h0) rfl)) (wb (h S q λ{v u bZ aC} q1 r1 au=> ?_));induction q1 with
 | @mk a C dx f as hm gR hf q1=>
  refine r1.gm (au.inv.at_ hm λ{d5 ep} IA rf hd hh hn=> ?_);have fo:=F.vy hf;have I:=au.inv;have X:=I.lW;have ho:=OD fo CT (Ab (e:=ep) lt rf (G:=λo l=>o=none->l=some none) (λr=>cy) (λe=>rfl) gR);refine wb (dE (wb (bN (get_bind X IA fo.cls.ga ho fo.cls.gn (wpAny_call (fn_get (s:={aC with toks:=aC.toks+1}) X fo.typ ?_))))));show wpAny _ _ (handedOut (.ref aC.heap.objs.size)) _ _ _;exact cj (handedOut_of rfl) (ai (wb (wpAny_letTemporaryGo (ai (k q1 (.bm (Fz.new I rfl)) (au.trans (aA.grow I (bt _ _))))))))
end
noncomputable def ME.aS (e:ME) (x:Nat) (es:eO):ME where
 run:=Internal.aS e x es
 aD:=λsc fs a=>decide (x<bJ.length)&&xD (tx x) e es sc fs a
 ok:=λF h=>PL F (bY (aj h).1) (aj h).2
noncomputable def ME.xE (e:ME) (x:Nat):ME where
 run:=Internal.xE e x
 aD:=λsc fs=>uA λb m ps=>m==tx x&&(decide (x<bJ.length)&&(!copiedNames.contains (tx x)&&(!oo b&&e.aD sc fs b)))
 ok:=λ{p sc fs a} F=>w7 λ{b m ps} h=>by
  obtain⟨e1,h1⟩:=aj h;obtain⟨lt,h2⟩:=aj h1;obtain⟨hc,h3⟩:=aj h2;cases b7.mp e1;exact PM F (bY lt) (dB hc) (dB (aj h3).1) (e.ok F (aj h3).2)
inductive BD (R:Addr->Addr->Prop):V->Prop
 |mk {f a:Addr} (q:R f a):BD R (.bm f a)
def WK (K:CH) (f a:Addr) (Q:V->St->Prop) (vs:List V) (σ:St):Prop:=K.bound f (.ref a::vs) σ Q
def WJ (K:CH) (es:eO) (ρ:Env) (Q:V->St->Prop) (σ:St) (f a:Addr):Prop:=es.run K ρ σ (WK K f a Q)
noncomputable def ME.VJ (x:Nat) (es:eO):ME where
 run:=λK ρ σ Q=>sT (ρ.lookup x) (BD (WJ K es ρ Q σ))
 aD:=λsc fs=>nS λm as ps=>m==tx x&&(fs.contains x&&es.aD sc fs as)
 ok:=λ{p sc fs a} F=>pB λ{m bF as ps} h=>by
  obtain⟨e1,h1⟩:=aj h;obtain⟨hx,h2⟩:=aj h1;cases b7.mp e1;refine λ{A E env ρ σ s Z Q R} S q k=>AQ q λ{v} e q=> ?_;obtain⟨u,r⟩:=S.sR (H7 hx) e;refine tM (F6 S r ?_);induction q with
  |mk q=>
   refine r.rv.UG λ{b} fz=>rg F h2 S q λl q1 r1 au=> ?_;have hb:=au.at_ fz.at_ fz.own;obtain⟨vw,hc⟩:=F.sb q1;exact⟨⟨keeps_M vw _ ⟨hb,au.inv.lW⟩⟩,wpAny_call (method_call (f:= .ref _) (self:= .ref _) hb (hc S.room au.inv (.cons (.ref _) r1) (k.step au)))⟩
inductive IsL (σ:St) (v:V):Prop
 |mk {xs:List V} (S:Sq σ 0 v xs)
inductive Dv (σ:St) (v:V):Prop
 |mk {ks vs:List V} (D:Dc σ v ks vs)
structure BM where
 nm:PySem.Str
 id:String
 ty:St->V->Prop
 ev:St->(V->St->Prop)->V->List V->Prop
 get:∀{c:Cx} {A E Z σ s v u pl} {R:Value×List Value->Shared->Prop},Inv c σ Z s.heap->Rv c σ Z s.heap v u->ty σ v->R (.builtin id, [u]) s->wpAny c.M A (getMethod u nm pl) R E s
 ok:∀{c:Cx} {A E Z X σ s Q R v u vs us},A.units+100<cLine->Inv c σ Z s.heap->ev σ Q v vs->Rv c σ Z s.heap v u->aO c σ Z s.heap vs us->bR c Z X σ s Q R->wpAny c.M A (call (.builtin id) (u::us)) R E s
def YR (b:BM) (v:V) (Q:V->St->Prop) (vs:List V) (σ:St):Prop:=b.ev σ Q v vs
def YS (b:BM) (es:eO) (K:CH) (ρ:Env) (Q:V->St->Prop) (v:V) (σ:St):Prop:=b.ty σ v/\es.run K ρ σ (YR b v Q)
noncomputable def d8 (b:BM) (e:ME) (es:eO):CH->Run V:=λK ρ σ Q=>e.run K ρ σ (YS b es K ρ Q)
theorem RT (F:Fa p) (h:xD b.nm e es sc fs a=true):bw p sc fs (d8 b e es) a:=by
 refine z4 (C:=bw p sc fs (d8 b e es)) (λ{b m' ap as ps} h=> ?_) h;obtain⟨e1,h1⟩:=aj h;obtain⟨h0,h2⟩:=aj h1;obtain⟨hl,h3⟩:=aj h2;obtain⟨hp,h4⟩:=aj h3;cases b7.mp e1;exact λ{A E env ρ σ s Z Q R} S q k=>zb (dB h0) (es.star (aj h4).2) (bY hl) hp (e.ok F (aj h4).1 S q λ{v u bZ aC} q1 r1 au=>⟨_,_,λ{pl Ku} hq=>BM.get _ au.inv r1 q1.1 hq,rg F (aj h4).2 (S.step au) q1.2 λl q3 r3 cN=>⟨nO _,BM.ok _ (S.room.room (bC _)) cN.inv q3 (cN.rv r1) r3 (k.step (au.trans cN))⟩⟩)
noncomputable def ME.d8 (b:BM) (e:ME) (es:eO):ME where
 run:=Internal.d8 b e es
 aD:=xD b.nm e es
 ok:=λF h=>RT F h
inductive BE (σ:St) (Q:V->St->Prop):V->List V->Prop
 |mk {a:Addr} {xs:List V} {w:V} (h:σ a=some (.list xs)) (hl:xs.length<lim) (q:Q .none (upd σ a (.list (xs++ [w])))):BE σ Q (.ref a) [w]
inductive IH (σ:St) (Q:V->St->Prop):V->List V->Prop
 |mk {a:Addr} {xs ys:List V} {w:V} (h:σ a=some (.list xs)) (S:Sq σ 1 w ys) (hl:xs.length+ys.length<lim) (q:Q .none (upd σ a (.list (xs++ys)))):IH σ Q (.ref a) [w]
inductive BC (σ:St) (Q:V->St->Prop):V->List V->Prop
 |mk {v k d:V} {ks vs:List V} (D:Dc σ v ks vs) (hk:aR 8 k=true) (q:Q ((b_ k ks vs).getD d) σ):BC σ Q v [k,d]
inductive Bf (σ:St) (Q:V->St->Prop):V->List V->Prop
 |mk {a:Addr} {k d:V} {ks vs:List V} (h:σ a=some (.dict ks vs)) (hk:aR 8 k=true) (hl:ks.length<lim) (qy:∀u,b_ k ks vs=some u->Q u σ) (qn:b_ k ks vs=none->Q d (upd σ a (.dict (ks++ [k]) (vs++ [d])))):Bf σ Q (.ref a) [k,d]
section
variable{c:Cx} {A:Around} {E:Value->Shared->Prop} {Z:Addr->Prop} {σ:St} {s:Shared} {v:V} {u:Value} {pl:Sem Bool} {nm:PySem.Str} {id:String} {R:Value×List Value->Shared->Prop}
theorem Hi (pa:PlainAttrs T) (sl:Slot T nm id) (ht:typeOf (.builtin id)=pure (.type "method_descriptor")) (ho:s.heap.get? a=some o) (hc:o.cls= .type T) (hd:o.dict=none) (q:R (.builtin id, [.ref a]) s):wpAny c.M A (getMethod (.ref a) nm pl) R E s:=
 getMethod_builtin (T:=T) ⟨o,ho,hc⟩ pa sl ht (λb e=>Value.ref.inj e▸⟨o,ho,hd⟩) q
theorem Ih (sl:Slot "list" nm id) (ht:typeOf (.builtin id)=pure (.type "method_descriptor")) (I:Inv c σ Z s.heap) (r:Rv c σ Z s.heap v u) (h:IsL σ v) (q:R (.builtin id, [u]) s):wpAny c.M A (getMethod u nm pl) R E s:=by
 induction h with
 |mk S=>exact S.rR (G:=λu=>R (.builtin id, [u]) s->wpAny c.M A (getMethod u nm pl) R E s) I r (λho l q=>Hi F.plainAttrs_list sl ht ho rfl rfl q) q
theorem Bv (sl:Slot "dict" nm id) (ht:typeOf (.builtin id)=pure (.type "method_descriptor")) (I:Inv c σ Z s.heap) (r:Rv c σ Z s.heap v u) (h:Dv σ v) (q:R (.builtin id, [u]) s):wpAny c.M A (getMethod u nm pl) R E s:=by
 induction h with
 |mk D=>exact D.view (G:=λu=>R (.builtin id, [u]) s->wpAny c.M A (getMethod u nm pl) R E s) I r (λD z q=>D.el λho n l=>Hi F.plainAttrs_dict sl ht ho rfl rfl q) q
end
noncomputable def BM.append:BM where
 nm:="append"
 id:="list.append"
 ty:=IsL
 ev:=BE
 get:=Ih slot_list_append rfl
 ok:=λhu I q r rs k=>by
  induction q with
  |mk h hl q=>exact r.gm (rs.one λr'=>ON I h r' hl q k)
noncomputable def BM.extend:BM where
 nm:="extend"
 id:="list.extend"
 ty:=IsL
 ev:=IH
 get:=Ih F.slot_list_extend rfl
 ok:=λhu I q r rs k=>by
  induction q with
  |mk h S hl q=>exact r.gm (rs.one λr'=>OM I h r' S hl q k)
noncomputable def BM.oy:BM where
 nm:="get"
 id:="dict.get"
 ty:=Dv
 ev:=BC
 get:=Bv F.slot_dict_get rfl
 ok:=λhu I q r rs k=>by
  induction q with
  |mk D hk q=>exact rs.two λr1 r2=>T2 (az (aU (by decide) _) hu) I r r1 r2 D hk q k
noncomputable def BM.setdefault:BM where
 nm:="setdefault"
 id:="dict.setdefault"
 ty:=Dv
 ev:=Bf
 get:=Bv F.slot_dict_setdefault rfl
 ok:=λhu I q r rs k=>by
  induction q with
  |mk h hk hl qy qn=>exact r.gm (rs.two λr1 r2=>Ma (az (aU (by decide) _) hu) I h r1 r2 hk hl qy qn k)
inductive HH (σ:St) (Q:V->St->Prop):V->Prop
 |mk {v:V} {ks vs:List V} (D:Dc σ v ks vs) (hl:vs.length<lim) (q:Q (.aa vs) σ):HH σ Q v
def UU (Q:V->St->Prop) (v:V) (σ:St):Prop:=HH σ Q v
noncomputable def vals (e:ME):CH->Run V:=λK ρ σ Q=>e.run K ρ σ (UU Q)
section
variable{p:Pc} {sc:Scope} {fs:List Nat} {e:ME} {o b:Expr} {apos Ca ps pos:Pos}
theorem RK (F:Fa p) (hg:jr sc "list"=true) (h0:oo o=false) (Bu:(apos.endLine==Ca.line)=true) (h:bw p sc fs e.run o):bw p sc fs (vals e) (.Call (.Name "list" ps) [.Call (.Attribute o "values" apos) [] [] Ca] [] pos):=
 λ{A E env ρ σ s Z Q R} S q k=>tM (rG F S hg (cA (i:=3) rfl) (callWith_of (P:=λh=>jN p.c.M h (.type "list")) rfl (λh x=>x.k) (tT (as:= [.Call (.Attribute o "values" apos) [] [] Ca]) rfl (wpAny_items_cons (zb h0 rfl (by decide) Bu (h S q λ{v u bZ aC} q1 r1 au=>by
  induction q1 with
  |mk D hl q1=>
   refine⟨_,_,λ{pl Ku} hq=>Bv PySem.F.slot_dict_values rfl au.inv r1 ⟨D⟩ hq,callWith_of (P:=λh=>True) rfl (λh x=>(nO (M:=p.c.M) (h:=h) "dict.values").k) (tT (as:= []) rfl (wpAny_items_nil ⟨jE,dS (T3 (E:=E) S.room.hh au.inv r1 D hl q1 (k.step au)) (λx ez h2=>wpAny_items_nil ⟨pC _,h2⟩) λa b x=>x⟩))⟩)) rfl))))
inductive xH (σ:St) (Q:V->St->Prop):String->V->Prop
 |tup {xs:List V} (q:Q (.bool true) σ):xH σ Q "tuple" (.tup xs)
 |int {i:Int} (q:Q (.bool true) σ):xH σ Q "int" (.int i)
 |bool {i:Int} (q:Q (.bool false) σ):xH σ Q "bool" (.int i)
def Wi (ty:String) (Q:V->St->Prop) (v:V) (σ:St):Prop:=xH σ Q ty v
noncomputable def jV (ty:String) (e:ME):CH->Run V:=λK ρ σ Q=>e.run K ρ σ (Wi ty Q)
theorem U6 (F:Fa p) (hg:jr sc "isinstance"=true) (ht:jr sc (PySem.Str.ofString ty)=true) (hm:(PySem.Str.ofString ty,Value.type ty)∈ko) (hs:nX o=false) (h:bw p sc fs e.run o):bw p sc fs (jV ty e) (.Call (.Name "isinstance" ps) [o, .Name (PySem.Str.ofString ty) bF] [] pos):=
 have hn:pQ [o, .Name (PySem.Str.ofString ty) bF]=true:=by show(!nX o&&true)=true;refine a6 hs ?_;rfl
 λS q k=>tM (rG F S hg (cA (i:=9) rfl) (callWith_of (P:=λh=>jN p.c.M h (.builtin "isinstance")) (by refine a6 (w9 hn) ?_;rfl) (λh x=>x.k) (tT hn (wpAny_items_cons (h S q λ{v u bZ aC} q1 r1 au=>wpAny_items_cons (rG F (S.step au) ht hm (wpAny_items_nil ⟨nO _,by
  induction q1 with
  |tup q1=>exact QI au.inv r1 q1 (k.step au)
  |int q1=>exact QJ au.inv r1 q1 (k.step au)
  |bool q1=>exact OT au.inv r1 q1 (k.step au)⟩)) rfl) (tW hs)))))
end
noncomputable def lG (f:α->Bool) (as:List α):Bool:=as.casesOn false λa as=>as.casesOn (f a) λb c=>false
theorem mn {α:Type} {C:List α->Prop} {f} (q:∀{a},f a=true->C [a]) {as}:lG f as=true->C as:=by
 induction as with
 |nil=>exact no
 |cons a as=>induction as with
  |nil=>exact q
  |cons b c=>exact no
noncomputable def ME.vals (e:ME):ME where
 run:=Internal.vals e
 aD:=λsc fs=>nS λm as ps=>m=="list"&&(jr sc "list"&&lG (AG λb m' ap tB cp=>tB.isEmpty&&(m'=="values"&&(!oo b&&(ap.endLine==cp.line&&e.aD sc fs b)))) as)
 ok:=λ{p sc fs a} F=>pB (C:=bw p sc fs (Internal.vals e)) λ{m bF as ps} h=>by
  obtain⟨e1,h1⟩:=aj h;cases b7.mp e1;refine mn (C:=λas=>bw p sc fs (Internal.vals e) (.Call (.Name "list" bF) as [] ps)) (λ{b} h=>z4 (C:=λb=>bw p sc fs (Internal.vals e) (.Call (.Name "list" bF) [b] [] ps)) (λ{b m' ap tB cp} h=> ?_) h) (aj h1).2;obtain⟨ha,h2⟩:=aj h;obtain⟨e2,h3⟩:=aj h2;cases b7.mp e2;cases iQ.mp ha;exact RK F (aj h1).1 (dB (aj h3).1) (aj (aj h3).2).1 (e.ok F (aj (aj h3).2).2)
noncomputable def VX (ty:String):Bool:=ko.contains (PySem.Str.ofString ty,Value.type ty)
noncomputable def ME.jV (ty:String) (e:ME):ME where
 run:=Internal.jV ty e
 aD:=λsc fs=>nS λm as ps=>m=="isinstance"&&(jr sc "isinstance"&&(jr sc (PySem.Str.ofString ty)&&(VX ty&&as.casesOn false λa as=> !nX a&&(e.aD sc fs a&&lG (lu λm=>m==PySem.Str.ofString ty) as))))
 ok:=λ{p sc fs a} F=>pB (C:=bw p sc fs (Internal.jV ty e)) λ{m bF as ps} h=>by
  obtain⟨e1,h1⟩:=aj h;obtain⟨g1,h2⟩:=aj h1;obtain⟨g2,h3⟩:=aj h2;obtain⟨g3,h4⟩:=aj h3;cases b7.mp e1;induction as with
  |nil=>exact no h4
  |cons a as=>
   obtain⟨hs,h5⟩:=aj h4;refine mn (C:=λas=>bw p sc fs (Internal.jV ty e) (.Call (.Name "isinstance" bF) (a::as) [] ps)) (λ{b} h=>l4 (C:=λb=>bw p sc fs (Internal.jV ty e) (.Call (.Name "isinstance" bF) [a,b] [] ps)) (λ{m p'} h=> ?_) h) (aj h5).2;cases b7.mp h;exact U6 F g1 g2 (tJ.mp g3) (dB hs) (e.ok F (aj h5).1)
abbrev YY (p:Pc) (sc:Scope) (fs:List Nat) (f:CH->Env->St->(List V->List V->St->Prop)->Prop) (as:List (Option Expr)) (bs:List Expr):Prop:=∀{A E env ρ σ s Z Q R pos},At p sc fs A Z env ρ σ s->f p.K ρ σ Q->
 (∀{ks vs ps a8 s'},ps.length=as.length->Q ks vs a8->aO p.c a8 Z s'.heap ks (ps.map (·.1))->aO p.c a8 Z s'.heap vs (ps.map (·.2))->aA p.c Z X0 σ s a8 s'->R ps s')->wpAny p.c.M A (evalPairs (pairTrees as bs env pos)) R E s
structure MD where
 run:CH->Env->St->(List V->List V->St->Prop)->Prop
 aD:Scope->List Nat->List (Option Expr)->List Expr->Bool
 fin:∀{sc fs bs K ρ σ Q},aD sc fs [] bs=true->run K ρ σ Q->bs= []/\Q [] [] σ
 len:∀{sc fs as bs},aD sc fs as bs=true->as.all (·.isSome)=true/\as.length=bs.length
 ok:∀{p sc fs as bs},Fa p->aD sc fs as bs=true->YY p sc fs run as bs
noncomputable def MD.nil:MD where
 run:=λK ρ σ Q=>Q [] [] σ
 aD:=λsc fs as bs=>as.isEmpty&&bs.isEmpty
 fin:=λh q=>⟨iQ.mp (aj h).2,q⟩
 len:=λh=>by
  cases iQ.mp (aj h).1;cases iQ.mp (aj h).2;exact⟨rfl,rfl⟩
 ok:=λ{p sc fs as bs} F h=>by
  cases iQ.mp (aj h).1;exact λ{A E env ρ σ s Z Q R pos} S q k=>evalPairs_nil (k rfl q .nil .nil (aA.refl S.inv))
def XF (k v:V) (Q:List V->List V->St->Prop) (ks vs:List V):St->Prop:=Q (k::ks) (v::vs)
def XG (r:MD) (K:CH) (ρ:Env) (Q:List V->List V->St->Prop) (k v:V) (σ:St):Prop:=r.run K ρ σ (XF k v Q)
def XH (y:ME) (r:MD) (K:CH) (ρ:Env) (Q:List V->List V->St->Prop) (k:V) (σ:St):Prop:=y.run K ρ σ (XG r K ρ Q k)
noncomputable def MD.cons (x y:ME) (r:MD):MD where
 run:=λK ρ σ Q=>x.run K ρ σ (XH y r K ρ Q)
 aD:=λsc fs as bs=>as.casesOn false λo as=>bs.casesOn false λb bs=>o.casesOn false λa=>x.aD sc fs a&&(y.aD sc fs b&&r.aD sc fs as bs)
 fin:=λh=>no h
 len:=λ{sc fs as bs} h=>by
  induction as with
  |nil=>exact no h
  |cons o as=>induction bs with
   |nil=>exact no h
   |cons b bs=>induction o with
    |none=>exact no h
    |some a=>exact⟨(r.len (aj (aj h).2).2).1,aE Nat.succ (r.len (aj (aj h).2).2).2⟩
 ok:=λ{p sc fs as bs} F h=>by
  induction as with
  |nil=>exact no h
  |cons o as=>induction bs with
   |nil=>exact no h
   |cons b bs=>induction o with
    |none=>exact no h
    |some a=>
     exact λ{A E env ρ σ s Z Q R pos} S q k=>evalPairs_cons (x.ok F (aj h).1 S q λq1 r1 au=>wb (y.ok F (aj (aj h).2).1 (S.step au) q1 λq2 r2 aX=>wb (dE (ai (r.ok F (aj (aj h).2).2 ((S.step au).step aX) q2 λl q3 r3 r4 cN=>k (aE Nat.succ l) q3 (.cons (cN.rv (aX.rv r1)) r3) (.cons (cN.rv r2) r4) ((au.trans aX).trans cN))))))
section
variable{p:Pc} {c:Cx} {sc:Scope} {fs:List Nat} {A:Around} {E:Value->Shared->Prop} {Z:Addr->Prop} {σ:St} {d:Addr}
theorem MP (hu:A.units+8<cLine) (zd:Z d) (D:bc c σ Z s.heap d ks vs) (r1:aO c σ Z s.heap jU (ps.map (·.1))) (r2:aO c σ Z s.heap mZ (ps.map (·.2))) (hk:jU.all (aR 8)=true) (hz:ks.length+ps.length<lim)
  (q:ur c σ Z s d (dM (jU.zip mZ) (ks,vs)).1 (dM (jU.zip mZ) (ks,vs)).2 λu=>Q PUnit.unit):wpAny c.M A (storeAll d ps) Q E s:=by
 induction ps generalizing ks vs jU mZ s with
 |nil=>
  obtain rfl:jU= []:=f9 r1.len;exact ai (q s.toks (Heap.SameBut.refl _ _) D)
 |cons x ps ih=>
  refine r1.Ey (G:=λjU=>jU.all (aR 8)=true->ur c σ Z s d (dM (jU.zip mZ) (ks,vs)).1 (dM (jU.zip mZ) (ks,vs)).2 (λu=>Q PUnit.unit)->_) (λ{kv jU} a1 l1 hk q=>r2.Ey (G:=λmZ=>ur c σ Z s d (dM ((kv::jU).zip mZ) (ks,vs)).1 (dM ((kv::jU).zip mZ) (ks,vs)).2 (λu=>Q PUnit.unit)->_) (λ{v mZ} a2 l2 q=> ?_) q) hk q;unfold storeAll;refine cj (m7 ..) (wb (wb (vX hu D (aj hk).1 a1 a2 (az (aY _ _) hz) (iL.res zd D λ{h'} hs D' t=>ai ?_))));have m:Mv σ Z s.heap σ Z h':=Mv.but zd hs.extBut;exact ih (s:={s with heap:=h',toks:=t}) D' (l1.mono m) (l2.mono m) (aj hk).2 (az (bG pA _) (by rw [vK];exact hz)) λt' e_ tF=>q t' (hs.trans e_) tF
end
inductive UR (σ:St) (Q:V->St->Prop) (ks vs:List V):Prop
 |mk (n:ks.Nodup) (h:ks.all (aR 8)=true) (q:∀p,σ p=none->Q (.ref p) (upd σ p (.dict ks vs)))
def VF (Q:V->St->Prop) (ks vs:List V) (σ:St):Prop:=UR σ Q ks vs
noncomputable def C9 (d:MD):CH->Run V:=λK ρ σ Q=>d.run K ρ σ (VF Q)
section
variable{p:Pc} {sc:Scope} {fs:List Nat} {as:List (Option Expr)} {bs:List Expr} {pos:Pos} {d:MD}
theorem PH (h:d.aD sc fs [] bs=true):bw p sc fs (C9 d) (.Dict [] bs pos):=λ{A E env ρ σ s Z Q R} S q k=>by
 obtain⟨rfl,q⟩:=d.fin h q;induction q with
 |mk n h q=>
  refine cj (arm_eval_Dict ..) (wb (dE ?_));show wpAny p.c.M A (newDict #[]) R E s;exact iO (k (q _ (S.inv.fresh (bk _))) (.ref _) (aA.alloc S.inv rfl (.dict (cb _ rfl) cY .nil)))
theorem At.rD (S:At p sc fs A Z env ρ σ s) (e:s.heap.get? a=none):¬eE env a:=λy=>S.inv.iC e (S.cJ.own y)
theorem RN (F:Fa p) (h:d.aD sc fs as bs=true) (tf:as≠ []) (K7:as.length<=15):bw p sc fs (C9 d) (.Dict as bs pos):=λ{A E env ρ σ s Z Q R} S q k=>by
 obtain⟨Wz,hl⟩:=d.len h;have S':=S.mm (o:=bp [] 0) rfl;refine wpAny_Dict_any Wz hl tf K7 (d.ok F h S' q λ{ks vs ps bZ aC} l q1 r1 r2 au=> ?_);induction q1 with
 |mk n hk q1=>
  have z1:Zp Z s.heap.objs.size s.heap.objs.size:= .inr rfl;have D0:bc p.c bZ (Zp Z s.heap.objs.size) aC.heap s.heap.objs.size [] []:= .mk (au.at_ (cb _ rfl) (S'.inv.zp z1)) cY .nil (S.inv.sys (S.inv.rP (bk _)));refine MP (S.room.room (by decide)) z1 D0 r1 r2 hk (az (show 0+ps.length<=15 by rewrite [di];exact a6 l K7) (by decide)) λ{h'} t hs D=> ?_;have lk:ks.length=vs.length:=by refine a6 r1.len (a6 r2.len ?_);rw [b0,b0]
  rw [yT lk n] at D;exact k (q1 _ (au.inv.zp z1)) (.ref _) (aA.EB (S.inv.iC (bk _)) ((au.wide λb x=>x.elim).trans (aA.but au.inv z1 hs.extBut D.ex (.inr rfl))) D.own)
end
noncomputable def ME.dict (d:MD):ME where
 run:=C9 d
 aD:=λsc fs=>Bo λas bs=>decide (as.length<=15)&&d.aD sc fs as bs
 ok:=λ{p sc fs a} F=>EL λ{as bs ps} h=>by
  induction as with
  |nil=>exact PH (aj h).2
  |cons a as=>exact RN F (aj h).2 lU (bY (aj h).1)
inductive Cg (σ:St) (R:List V->List V->Prop):V->Prop
 |mk {v:V} {ks vs:List V} (D:Dc σ v ks vs) (sm:ks.all iB=true) (hl:ks.length<1000) (q:R ks vs):Cg σ R v
def XA (ks vs:List V) (Q:V->St->Prop) (σ:St) (ls ws:List V):Prop:=Q (.aN (dM (ls.zip ws) (ks,vs)).1 (dM (ls.zip ws) (ks,vs)).2) σ
def XC (ks vs:List V) (Q:V->St->Prop) (w:V) (σ:St):Prop:=Cg σ (XA ks vs Q σ) w
def XB (y:ME) (K:CH) (ρ:Env) (Q:V->St->Prop) (σ:St) (ks vs:List V):Prop:=y.run K ρ σ (XC ks vs Q)
def XE (y:ME) (K:CH) (ρ:Env) (Q:V->St->Prop) (v:V) (σ:St):Prop:=Cg σ (XB y K ρ Q σ) v
noncomputable def yn (x y:ME):CH->Run V:=λK ρ σ Q=>x.run K ρ σ (XE y K ρ Q)
section
variable{p:Pc} {sc:Scope} {fs:List Nat} {a b:Expr} {x y:ME} {pos:Pos}
theorem U5 (hx:bw p sc fs x.run a) (hy:bw p sc fs y.run b):bw p sc fs (yn x y) (.Dict [none,none] [a,b] pos):=λ{A E env ρ σ s Z Q R} S q k=>by
 have gs:=bk s.heap;have hu:A.units+8<cLine:=S.room.room (by decide);refine cj (arm_eval_Dict ..) (wb (dE ?_));show wpAny p.c.M A (dictDisplay [(none,do let x<-eval a env;standAt pos;pure x),(none,do let x<-eval b env;standAt pos;pure x)]) R E s;unfold dictDisplay;dsimp only;rw [m7];simp only [List.isEmpty_nil,if_true,pure_bind];have S':=S.mm (o:=bp [] 0) rfl;have zd:Zp Z s.heap.objs.size s.heap.objs.size:= .inr rfl;have nd:=S.rD gs;have ns:=S.inv.sys (S.inv.rP gs);refine aK (aK (aK (wpAny_alloc (aK (bN (aK (hx S' q λ{v u bZ aC} q1 r1 au=>aK (dE (ai ?_)))))))));induction q1 with
 | @mk ks vs Da sk lk q1=>
  refine Da.view au.inv r1 λ{oa} Da Xv=> ?_;have D0:bc p.c bZ (Zp Z s.heap.objs.size) aC.heap s.heap.objs.size [] []:= .mk (au.at_ (cb _ rfl) (S'.inv.zp zd)) cY .nil ns;refine aK (wpAny_onRaise (wpAny_tryCatch (wpAny_onRaise (bN (DI zd Xv hu D0 Da sk (by unfold lim;simp only [kX];lia) λ{h2} t2 vj D2=> ?_)))));have la:ks.length=vs.length:=Da.el λho n l=>l.lk.trans l.lv.symm;rw [yT la Da.nd] at D2;have aX:aA p.c (Zp Z s.heap.objs.size) (Zp X0 s.heap.objs.size) bZ aC bZ {aC with heap:=h2,toks:=t2}:=aA.but au.inv zd vj.extBut D2.ex (.inr rfl);have S2:=(S'.step au).i_ aX (λb w=>w.elim False.elim λe=>e▸zd) λb w=>w.elim False.elim λ(e:b=_)=>e▸nd;refine ai ?_;dsimp only;rw [m7];simp only [List.isEmpty_nil,if_true,pure_bind];refine aK (aK (bN (aK (hy S2 q1 λ{w u rQ fZ} q3 r3 cN=>aK (dE (ai ?_))))));induction q3 with
  | @mk ls ws Db sl ll q3=>
   refine Db.view cN.inv r3 λ{ob} Db Xu=> ?_;have D3:bc p.c rQ (Zp Z s.heap.objs.size) fZ.heap s.heap.objs.size ks vs:=D2.mono (λo e=>cN.at_ e (aX.inv.zp zd)) cN.oJ;refine aK (wpAny_onRaise (wpAny_tryCatch (wpAny_onRaise (bN (DI zd Xu hu D3 Db sl (by unfold lim;lia) λ{h4} t4 iI D4=> ?_)))));have gc:aA p.c (Zp Z s.heap.objs.size) (Zp X0 s.heap.objs.size) rQ fZ rQ {fZ with heap:=h4,toks:=t4}:=aA.but cN.inv zd iI.extBut D4.ex (.inr rfl);have st:=(((au.wide (X':=Zp X0 s.heap.objs.size) λb w=>w.elim).trans aX).trans (cN.wide λb w=>w.elim)).trans gc;refine ai ?_;dsimp only;refine a6 List.forIn_nil (ai ?_);simp only [List.isEmpty_nil,if_true,pure_bind];have D5:bc p.c rQ Z h4 s.heap.objs.size _ _:=D4.mono (λo e=>e) (Mv.less λb z=> .inl z);exact ai (k q3 (D5.frozen (gc.inv.zp zd) (S.inv.iC gs)) (aA.close st))
end
noncomputable def ME.merge (x y:ME):ME where
 run:=yn x y
 aD:=λsc fs=>Bo λas bs=>as.casesOn false λo as=>o.casesOn (lG (λo=>o.isNone) as&&bs.casesOn false λa bs=>x.aD sc fs a&&lG (y.aD sc fs) bs) λa=>false
 ok:=λ{p sc fs a} F=>EL λ{as bs ps} h=>by
  induction as with
  |nil=>exact no h
  |cons o as=>induction o with
   |some a=>exact no h
   |none=>
    obtain⟨h1,h2⟩:=aj h;refine mn (C:=λas=>bw p sc fs (yn x y) (.Dict (none::as) bs ps)) (λ{o} ho=> ?_) h1;induction o with
    |some a=>exact no ho
    |none=>induction bs with
     |nil=>exact no h2
     |cons a bs=>exact mn (C:=λbs=>bw p sc fs (yn x y) (.Dict [none,none] (a::bs) ps)) (λ{b} hb=>U5 (x.ok F (aj h2).1) (y.ok F hb)) (aj h2).2
def gx (h:Heap) (I:Addr) (u:Value) (i:Nat):Prop:=∀a,u= .ref a->h.IsListIter I a i
def It (h:Heap) (I:Addr) (u:Value) (i:Nat) (c:V):Prop:=c.casesOn (motive_1:=λc=>Prop) (gx h I u i) (λb=>gx h I u i) (λj=>gx h I u i) (λn=>gx h I u i) (λxs=>∀a,u= .ref a->h.IsTupleIter I a i) (λxs=>gx h I u i) (λks vs=>gx h I u i) (λa b=>IsRangeIter h I (a+i) (((b -a).toNat:Int) -i) 1) (λa=>gx h I u i) λf a=>gx h I u i
theorem Es:∀{n i:Nat} {a:Int},i<n->(od n a)[i]? =some (.int (a+i))
 |0,i,a,h=>absurd h (Nat.not_lt_zero _)
 |n+1,0,a,h=>by refine a6 Int.natCast_zero ?_;rw [Int.add_zero];rfl
 |n+1,i+1,a,h=>(Es (Nat.lt_of_succ_lt_succ h)).trans (by rewrite [Int.add_assoc];refine a6 (Int.add_comm 1 (i:Int)) ?_;rfl)
theorem zh:∀{n:Nat} {a:Int},(od n a).length=n
 |0,a=>rfl
 |n+1,a=>aE Nat.succ zh
theorem xx (h:i.natAbs<=n) (hn:n<2^63):Builtin.Range.rangeFitsLong i=true:=
 have l:=Int.lt_of_le_of_lt (Int.ofNat_le.mpr h) (show((n:Nat):Int)<2^63 from gC.mpr hn)
 ik.mpr ⟨bQ (Int.le_of_lt (Int.neg_lt_of_neg_lt (Int.lt_of_le_of_lt (Int.natAbs_neg i▸Int.le_natAbs) l))),bQ (Int.lt_of_le_of_lt Int.le_natAbs l)⟩
theorem MR (hx:x.natAbs<2147483648) (hy:y.natAbs<2147483648):Builtin.Range.small x y 1=true:=by
 have b:=xx (jd hy) (by decide);unfold Builtin.Range.small;rw [rangeSize_one,xx (jd hx) (by decide),b,xx (i:=1) (n:=1) (by decide) (by decide),xx (i:=((y -x).toNat:Nat)) (n:=2147483648+2147483648) (ay (Int.toNat_le.mpr Int.le_natAbs) (ay (Int.natAbs_sub_le y x) (jd (Nat.add_lt_add hy hx)))) (by decide),aF (by decide),show y+(1 -1)=y from Int.add_zero y,b,Bool.or_true]
 rfl
section
variable{c:Cx} {A:Around} {E:Value->Shared->Prop} {σ:St} {s:Shared} {Z X:Addr->Prop} {w:V} {u:Value} {xs:List V} {I:Addr} {i:Nat} {x:V} {h h':Heap}
theorem It.keeps (q:It h I u i w) (k:∀o,h.get? I=some o->h'.get? I=some o):It h' I u i w:=by
 have l:gx h I u i->gx h' I u i:=λq a e=>(q a e).elim λo e8=>e8.elim λg r=>⟨o,k o g,r⟩;cases w with
 |tup=>exact λa e=>(q a e).elim λo eN=>eN.elim λg r=>⟨o,k o g,r⟩
 |dc=>exact k _ q
 |_=>exact l q
theorem zO (S:Sq σ 2 w xs) (I:Inv c σ Z s.heap) (r:Rv c σ Z s.heap w u) (q:∀{o:Obj},o.isFreed=false->It (s.heap.push o) s.heap.objs.size u 0 w->Q (.ref s.heap.objs.size) {s with heap:=s.heap.push o}):wpAny c.M A (pyIter u) Q E s:=by
 have lst:∀{a us ep},s.heap.get? a=some (c5 us ep)->(∀{o:Obj},o.isFreed=false->gx (s.heap.push o) s.heap.objs.size (.ref a) 0->Q (.ref s.heap.objs.size) {s with heap:=s.heap.push o})->wpAny c.M A (pyIter (.ref a)) Q E s:=λ{a us ep} ho q=>
  wpAny_pyIter_list (items:=us.toArray) ⟨_,ho,rfl,_,rfl⟩ (q rfl λb e=>Value.ref.inj e▸⟨_,cb _ rfl,rfl,rfl⟩)
 induction S with
 |aa=>exact r.je (G:=λu=>(∀{o:Obj},o.isFreed=false->gx (s.heap.push o) s.heap.objs.size u 0->Q (.ref s.heap.objs.size) {s with heap:=s.heap.push o})->wpAny c.M A (pyIter u) Q E s) (λf l q=>lst f.at_ q) q
 |ref e=>exact r.gm (G:=λu=>(∀{o:Obj},o.isFreed=false->gx (s.heap.push o) s.heap.objs.size u 0->Q (.ref s.heap.objs.size) {s with heap:=s.heap.push o})->wpAny c.M A (pyIter u) Q E s) (I.list e λho l q=>lst ho q) q
 |tup b=>exact r.cR (G:=λu=>(∀{o:Obj},o.isFreed=false->It (s.heap.push o) s.heap.objs.size u 0 (.tup xs)->Q (.ref s.heap.objs.size) {s with heap:=s.heap.push o})->wpAny c.M A (pyIter u) Q E s) (λ{a us e} f l q=>wpAny_pyIter_tuple (items:=us.toArray) ⟨_,f.at_,rfl,_,rfl⟩ (q rfl λb e=>Value.ref.inj e▸⟨_,cb _ rfl,rfl,rfl⟩)) q
 | @dc a b _ ha hb=>exact r.Rk λf=>wpAny_pyIter_range (a:=a) (b:=b) (c:=1) f.at_ (MR ha hb) (q rfl (by
   show IsRangeIter _ _ (a+((0:Nat):Int)) (((b -a).toNat:Int) -((0:Nat):Int)) 1;rewrite [rangeSize_one];refine a6 Int.natCast_zero ?_;rw [Int.add_zero,Int.sub_zero];exact cb _ rfl))
theorem Gd (S:Sq σ 2 w xs) (Iv:Inv c σ Z s.heap) (zI:Z I) (xI:X I) (r:Rv c σ Z s.heap w u) (hi:It s.heap I u i w) (hx:xs[i]? =some x)
  (q:∀{h' t v},Rv c σ Z h' x v->It h' I u (i+1) w->aA c Z X σ s σ {s with heap:=h',toks:=t}->Q (some v) {s with heap:=h',toks:=t}):wpAny c.M A (pyNext (.ref I)) Q E s:=by
 have fin:∀{h':Heap} {t:Nat},Heap.SameBut I s.heap h'->(∃o,h'.get? I=some o)->aA c Z X σ s σ {s with heap:=h',toks:=t}:=λhs hx=>aA.but Iv zI hs.extBut hx xI;have mv:∀{h':Heap},Heap.SameBut I s.heap h'->Mv σ Z s.heap σ Z h':=λhs=>Mv.but zI hs.extBut;have lst:∀{a us ep},u= .ref a->s.heap.get? a=some (c5 us ep)->aO c σ Z s.heap xs us->gx s.heap I u i->(∀{h' t v},Rv c σ Z h' x v->gx h' I u (i+1)->aA c Z X σ s σ {s with heap:=h',toks:=t}->Q (some v) {s with heap:=h',toks:=t})->wpAny c.M A (pyNext (.ref I)) Q E s:=λ{a us ep} e ho l hi q=>
  l.get hx λhv rv=>yS (hi _ e) ho hv λh' hit hs=>q (t:=s.toks) (rv.mono (mv hs)) (λb e'=>Value.ref.inj (e.symm.trans e')▸hit) (fin hs (hit.elim λo eD=>eD.elim λg zz=>⟨o,g⟩))
 induction S with
 |aa=>exact r.je (G:=λu'=>u=u'->_) (λf l e=>lst e f.at_ l hi q) rfl
 |ref e=>exact r.gm (G:=λu'=>u=u'->_) (Iv.list e λho l e=>lst e ho l hi q) rfl
 |tup b=>exact r.cR (G:=λu'=>u=u'->wpAny c.M A (pyNext (.ref I)) Q E s) (λ{a us ep} f l e=>l.get hx λhv rv=>wpAny_pyNext_tuple_item (hi _ e) (items:=us.toArray) ⟨_,f.at_,rfl,_,rfl⟩ ((fN ..).trans hv) λh' hit hs=>q (t:=s.toks) (rv.mono (mv hs)) (λb e'=>Value.ref.inj (e.symm.trans e')▸hit) (fin hs (hit.elim λo eL=>eL.elim λg zz=>⟨o,g⟩))) rfl
 | @dc a b _ ha hb=>
  have lt:=gu hx;rw [zh] at lt;rw [Es lt] at hx;refine wpAny_pyNext_range_item (x:=a+i) (left:=((b -a).toNat:Int) -i) (step:=1) hi (Int.sub_pos.mpr (gC.mpr lt)) λh' hit hs=>q (t:=s.toks+1) (cL hx▸ .int _ _) ?_ (fin hs ⟨_,hit⟩);show IsRangeIter _ _ (a+((i+1:Nat):Int)) (((b -a).toNat:Int) -((i+1:Nat):Int)) 1;rewrite [show a+((i+1:Nat):Int)=a+i+1 from(Int.add_assoc a i 1).symm];exact a6 (show((b -a).toNat:Int) -((i+1:Nat):Int)=((b -a).toNat:Int) -i -1 from(Int.sub_sub _ (i:Int) 1).symm) hit
theorem Hc (hh:A.handled=none) (S:Sq σ 2 w xs) (Iv:Inv c σ Z s.heap) (r:Rv c σ Z s.heap w u) (hi:It s.heap I u i w) (hx:xs.length<=i) (q:∀h',Heap.ExtBut I s.heap h'->Q none {s with heap:=h'}):wpAny c.M A (pyNext (.ref I)) Q E s:=by
 have lst:∀{a us ep},u= .ref a->s.heap.get? a=some (c5 us ep)->aO c σ Z s.heap xs us->gx s.heap I u i->wpAny c.M A (pyNext (.ref I)) Q E s:=λe ho l hi=>yO hh (hi _ e) ho (kQ (l.len▸hx)) q;induction S with
 |aa=>exact r.je (G:=λu'=>u=u'->_) (λf l e=>lst e f.at_ l hi) rfl
 |ref e=>exact r.gm (G:=λu'=>u=u'->_) (Iv.list e λho l e=>lst e ho l hi) rfl
 |tup b=>exact r.cR (G:=λu'=>u=u'->wpAny c.M A (pyNext (.ref I)) Q E s) (λ{a us ep} f l e=>wpAny_pyNext_tuple_end hh (hi _ e) (items:=us.toArray) ⟨_,f.at_,rfl,_,rfl⟩ ((fN ..).trans (kQ (l.len▸hx))) q) rfl
 | @dc a b _ ha hb=>
  rw [zh] at hx;exact wpAny_pyNext_range_end hh (x:=a+i) (left:=((b -a).toNat:Int) -i) (step:=1) hi (Int.sub_nonpos_of_le (Int.ofNat_le.mpr hx)) q
structure yJ (h:Heap) (I:Addr) (o:Obj) (n:String):Prop where
 at_:h.get? I=some o
 cls:o.cls= .type n
 no:(["enumerate","zip","dict_itemiterator","dict_reverseitemiterator","odict_iterator","itertools.zip_longest","itertools.pairwise"]:List String).contains n=false
theorem It.o (hi:It h I u i w) (r:Rv c σ Z h' w u) (S:Sq σ 2 w xs):∃o n,yJ h I o n:=by
 have l:∀{a},u= .ref a->gx h I u i->∃o n,yJ h I o n:=λe q=>(q _ e).elim λo eZ=>eZ.elim λg dW=>dW.elim λc d=>⟨o,_,g,c,by decide⟩;induction S with
 |aa=>exact r.je (G:=λu'=>u=u'->_) (λf k e=>l e hi) rfl
 |ref e=>exact r.gm (G:=λu'=>u=u'->_) (λe=>l e hi) rfl
 |tup b=>exact r.cR (G:=λu'=>u=u'->_) (λf k e=>(hi _ e).elim λo eY=>eY.elim λg fm=>fm.elim λc d=>⟨o,_,g,c,by decide⟩) rfl
 |dc a b=>exact⟨_,_,hi,rfl,by decide⟩
set_option tactic.hygienic true in
theorem U2 {v:Value} {t:Expr} {o:Obj} {n:String} {Q:Unit->Shared->Prop} (x:yJ s.heap I o n) (q:Q () s):wpAny c.M A (do
  let(.ref r, .ref a):=((.ref I:Value),v)|return
  let o<-load r
  match o.cls,o.data with
  | .type n, .fields vs=>
   if ["enumerate","zip","dict_itemiterator","dict_reverseitemiterator","odict_iterator","itertools.zip_longest","itertools.pairwise"].contains n&&vs[0]? ==some (rawInt a) then
    rule "for.unpacks-the-owned-tuple"
    updateField r 0 .none
  |_,_=>pure ()) Q E s:=by
 cases v
 case ref a=>
  refine aK (wpAny_load x.at_ (a6 x.cls ?_));cases o.data
  case fields vs=>
   dsimp only;refine a6 x.no ?_;rw [Bool.false_and];exact yd (ai q)
  all_goals exact ai q
 all_goals exact ai q
end
abbrev Nm (xs:List Nat):PySem.Str->Prop:=λn=>∃x∈xs,n=tx x
noncomputable abbrev Bind:=V->Env->(Env->Prop)->Prop
abbrev BB (c:Cx) (a:Expr):Prop:=∀{A E I o n s v} {Q:Unit->Shared->Prop},yJ s.heap I o n->Q () s->wpAny c.M A (letOwnedTupleGo a (.ref I) v) Q E s
abbrev BA (p:Pc) (sc:Scope) (ns:List Nat) (f:Bind) (a:Expr):Prop:=∀{fs A E Z env ρ σ s k v u} {R:Unit->Shared->Prop},At p sc fs A Z env ρ σ s->Rv p.c σ Z s.heap v u->f v ρ k->
  (∀{gN s'},k gN->aA p.c Z (Tx env (Nm ns)) σ s σ s'->At p sc (ns++fs) A Z env gN σ s'->(∀{y},y∉ns->gN.lookup y=ρ.lookup y)->R () s')->wpAny p.c.M A (assign a env u) R E s
structure dI where
 ns:List Nat
 bind:Bind
 aD:Scope->Expr->Bool
 own:∀{c sc a},aD sc a=true->BB c a
 ok:∀{p sc a},aD sc a=true->BA p sc ns bind a
noncomputable def Iz (x:Nat):Bind:=λv ρ k=>k ((x,v)::ρ)
theorem Tx.sub (h:∀n,P n->P' n) (q:Tx env P b):Tx env P' b:=q.casesOn .loc λe l=> .fU (h _ e) l
noncomputable def dI.one (x:Nat):dI where
 ns:= [x]
 bind:=Iz x
 aD:=λsc=>lu λm=>m==tx x&&fY sc x
 own:=λ{c sc a}=>l4 (C:=BB c) λh=>λo q=>ai q
 ok:=λ{p sc a}=>l4 (C:=BA p sc [x] (Iz x)) λh=>by
  cases b7.mp (aj h).1;exact λS r b k=>wpAny_assign_Name (pE S (aj h).2 r λst S'=>k b (st.wide λb=>Tx.sub λn e=>⟨x,b3.mpr rfl,e⟩) S' λn=>kZ λe=>n (b3.mpr e))
noncomputable def bindL:List Nat->List V->Env->Env
 |x::xs,v::vs,ρ=>bindL xs vs ((x,v)::ρ)
 |a,b,ρ=>ρ
inductive IK (xs:List Nat) (ρ:Env) (k:Env->Prop):V->Prop
 |mk {vs:List V} (h:xs.length=vs.length) (q:k (bindL xs vs ρ)):IK xs ρ k (.tup vs)
noncomputable def bindM (xs:List Nat):Bind:=λv ρ k=>IK xs ρ k v
inductive jP (sc:Scope):List Nat->List Expr->Prop
 |nil:jP sc [] []
 |cons {x:Nat} {xs:List Nat} {as:List Expr} {p:Pos} (h:fY sc x=true) (r:jP sc xs as):jP sc (x::xs) (.Name (tx x) p::as)
noncomputable def B6 (sc:Scope) (xs:List Nat):List Expr->Bool:=xs.rec (λas=>as.isEmpty) λx xs ih as=>as.casesOn false λa as=>lu (λm=>m==tx x&&fY sc x) a&&ih as
theorem EE (h:B6 sc xs as=true):jP sc xs as:=by
 induction xs generalizing as with
 |nil=>exact iQ.mp h▸ .nil
 |cons x xs ih=>induction as with
  |nil=>exact no h
  |cons a as=>exact l4 (C:=λa=>jP sc (x::xs) (a::as)) (λ{m ps} h'=>by
   cases b7.mp (aj h').1;exact .cons (aj h').2 (ih (aj h).2)) (aj h).1
theorem jP.each (env:PySem.Env) (h:jP sc xs as):(assignEach as env).length=xs.length/\(assignEach as env).findIdx? (·.1)=none:=by
 induction h with
 |nil=>exact⟨rfl,rfl⟩
 | @cons x xs as p h r ih=>
  refine⟨aE Nat.succ ih.1, ?_⟩;show((false,assign (.Name (tx x) p) env)::assignEach as env).findIdx? (·.1)=none;refine a6 (List.findIdx?_cons) (a6 ih.2 ?_);rfl
theorem Ec (hn:jP sc xs as) (hl:xs.length=vs.length) (l:aO p.c σ Z s.heap vs us) (S:At p sc fs A Z env ρ σ s)
  (q:∀{s'},aA p.c Z (Tx env (Nm xs)) σ s σ s'->At p sc (xs++fs) A Z env (bindL xs vs ρ) σ s'->(∀{y},y∉xs->(bindL xs vs ρ).lookup y=ρ.lookup y)->R () s'):wpAny p.c.M A (assignInOrder ((assignEach as env).map (·.2)) us) R E s:=by
 induction hn generalizing fs vs us s ρ with
 |nil=>
  induction vs with
  |nil=>exact l.nil_inv (ai (q (aA.refl S.inv) S λn=>rfl))
  |cons=>exact kI hl
 | @cons x xs as ps h r ih=>
  induction vs with
  |nil=>exact eh hl
  |cons v vs=>
   refine l.cons_inv λ{u us} r1 r2=> ?_;show wpAny _ _ (holding us (assign (.Name (tx x) ps) env u)>>=λzz=>assignInOrder ((assignEach as env).map (·.2)) us) R E s;refine wb (bN (wpAny_assign_Name (pE S h r1 λ{s1} au S1=>ih (d7 hl) (r2.mono (au.mv λb q=>S.cJ.own q)) S1 λ{s2} aX S2 hy=>q ((au.wide λb=>Tx.sub λn e=>⟨x,aM,e⟩).trans (aX.wide λb=>Tx.sub λn eC=>eC.elim λy dQ=>dQ.elim λm e=>⟨y,aQ _ m,e⟩)) (S2.lB λ{y w} m e=>⟨?_,e⟩) λ{y} n=>(hy λm=>n (aQ _ m)).trans (kZ λe=>n (e▸aM)))));rcases cM.mp m with m|m
   ·rcases bz.mp m with m|m
    ·exact ij _ (m▸aM)
    ·exact qW _ m
   ·exact ij _ (aQ _ m)
noncomputable def dI.many (xs:List Nat):dI where
 ns:=xs
 bind:=bindM xs
 aD:=λsc=>wN (B6 sc xs)
 own:=λ{c sc a}=>vZ (C:=BB c) λh=>λo q=>U2 (t:= .Tuple [] 0 ⟨0,0,0,0⟩) o q
 ok:=λ{p sc a}=>vZ (C:=BA p sc xs (bindM xs)) λ{as n ps} h=>λ{fs A E Z env ρ σ s k v u R} S r b q=>by
  have hn:=EE h;induction b with
  |mk hl b=>
   obtain⟨e1,e2⟩:=hn.each env;refine r.cR λ{a us ep} f l=>wpAny_assign_Tuple (items:=us.toArray) S.room.hh ⟨_,f.at_,rfl,_,rfl⟩ (a6 e1 (a6 gS (a6 (aT l.len) hl))) e2 λh' hx=> ?_;have st:aA p.c Z X0 σ s σ {s with heap:=h'}:=aA.grow (t:=s.toks) S.inv λb o e=>hx b o (cq (bk _) e) e;exact Ec hn hl (st.uZ l) (S.step st) λaX S2 hy=>q b ((st.wide λb x=>x.elim).trans aX) S2 hy
noncomputable abbrev lO:=CH->Env->St->(Option V->Env->St->Prop)->Prop
inductive Fl (c:Cx) (σ:St) (Z:Addr->Prop) (h:Heap):Option V->Flow->Prop
 |next:Fl c σ Z h none .next
 |ret {v:V} {u:Value} (r:Rv c σ Z h v u):Fl c σ Z h (some v) (.ret u)
abbrev lP (p:Pc) (sc:Scope) (fs:List Nat) (A:Around) (Z:Addr->Prop) (env:PySem.Env) (σ:St) (s:Shared) (Q:Option V->Env->St->Prop) (R:Flow->Shared->Prop):Prop:=∀{o gN a8 f s'},Q o gN a8->Fl p.c a8 Z s'.heap o f->aA p.c Z (eE env) σ s a8 s'->At p sc fs A Z env gN a8 s'->R f s'
abbrev ej (p:Pc) (sc:Scope) (fs:List Nat) (f:lO) (a:Stmt):Prop:=∀{A E env ρ σ s Z Q R},At p sc fs A Z env ρ σ s->f p.K ρ σ Q->lP p sc fs A Z env σ s Q R->wpAny p.c.M A (PySem.exec a env) R E s
abbrev Jo (p:Pc) (sc:Scope) (fs:List Nat) (f:lO) (as:List Stmt):Prop:=∀{A E env ρ σ s Z Q R},At p sc fs A Z env ρ σ s->f p.K ρ σ Q->lP p sc fs A Z env σ s Q R->wpAny p.c.M A (PySem.execs as env) R E s
structure MS where
 run:lO
 aD:Scope->List Nat->Stmt->Bool
 ok:∀{p sc fs a},Fa p->aD sc fs a=true->ej p sc fs run a
structure aH where
 run:lO
 aD:Scope->List Nat->List Stmt->Bool
 ok:∀{p sc fs as},Fa p->aD sc fs as=true->Jo p sc fs run as
section
variable{p:Pc} {sc:Scope} {fs:List Nat} {A:Around} {E:Value->Shared->Prop} {Z X:Addr->Prop} {env:PySem.Env} {ρ gN:Env} {σ a8:St} {s s':Shared} {Q:Option V->Env->St->Prop} {R:Flow->Shared->Prop}
theorem lP.step (k:lP p sc fs A Z env σ s Q R) (st:aA p.c Z (eE env) σ s a8 s'):lP p sc fs A Z env a8 s' Q R:=λq f dU S=>k q f (st.trans dU) S
end
def VZ (ρ:Env) (Q:Option V->Env->St->Prop) (v:V) (σ:St):Prop:=Q (some v) ρ σ
noncomputable def MS.ret (e:ME):MS where
 run:=λK ρ σ Q=>e.run K ρ σ (VZ ρ Q)
 aD:=λsc fs=>FF λo=>o.casesOn false (e.aD sc fs)
 ok:=λ{p sc fs a} F=>N9 (C:=ej p sc fs λK ρ σ Q=>e.run K ρ σ λv=>Q (some v) ρ) λ{o ps} h=>by
  induction o with
  |none=>exact no h
  |some a=>exact λ{A E env ρ σ s Z Q R} S q k=>cj (arm_exec_Return ..) (wb (dE (wb (e.ok F h S q λq1 r1 au=>ai (k q1 (.ret r1) au.gF (S.step au))))))
def Wg (x y:aH) (K:CH) (ρ:Env) (Q:Option V->Env->St->Prop) (r:Bool) (σ:St):Prop:=cond r (x.run K ρ σ Q) (y.run K ρ σ Q)
noncomputable def MS.ite (t:MT) (x y:aH):MS where
 run:=λK ρ σ Q=>t.run K ρ σ (Wg x y K ρ Q)
 aD:=λsc fs=>IP λa b c=>t.aD false sc fs a&&(x.aD sc fs b&&y.aD sc fs c)
 ok:=λ{p sc fs a} F=>QZ (C:=ej p sc fs λK ρ σ Q=>t.run K ρ σ λr a8=>cond r (x.run K ρ a8 Q) (y.run K ρ a8 Q)) λh=>λ{A E env ρ σ s Z Q R} S q k=>cj (arm_exec_If ..) (wb (dE (wb (t.ok F (aj h).1 S q λ{b a8 s'} q1 au=>by
  obtain⟨h1,h2⟩:=aj (aj h).2;cases b
  ·exact y.ok F h2 (S.step au) q1 (lP.step k au.gF)
  ·exact x.ok F h1 (S.step au) q1 (lP.step k au.gF)))))
noncomputable def aH.dead:aH where
 run:=λK ρ σ Q=>False
 aD:=λsc fs a=>true
 ok:=λF h=>λS q k=>q.elim
noncomputable def aH.nil:aH where
 run:=λK ρ σ Q=>Q none ρ σ
 aD:=λsc fs as=>as.isEmpty
 ok:=λ{p sc fs as} F h=>by
  cases iQ.mp h;exact λ{A E env ρ σ s Z Q R} S q k=>ai (k q .next (aA.refl S.inv) S)
def sq (r:lO) (K:CH) (Q:Option V->Env->St->Prop) (o:Option V) (ρ:Env) (σ:St):Prop:=o.casesOn (r K ρ σ Q) λv=>Q (some v) ρ σ
noncomputable def aH.cons (x:MS) (r:aH):aH where
 run:=λK ρ σ Q=>x.run K ρ σ (sq r.run K Q)
 aD:=λsc fs as=>as.casesOn false λa as=>x.aD sc fs a&&r.aD sc fs as
 ok:=λ{p sc fs as} F h=>by
  induction as with
  |nil=>exact no h
  |cons a as=>exact λ{A E env ρ σ s Z Q R} S q k=>cj (arm_execs_cons ..) (wb (x.ok F (aj h).1 S q λ{o gN a8 f s'} q1 f1 au S1=>by
   induction f1 with
   |next=>exact r.ok F (aj h).2 S1 q1 (lP.step k au)
   |ret r1=>exact ai (k q1 (.ret r1) au S1)))
noncomputable def ug (t:Expr):Bool:=by cases t with|ListComp a b c d=>exact true|SetComp a b c d=>exact true|DictComp a b c d e=>exact true|_=>exact false
theorem zv:ug t=false->swapsWith t o l env=pure false:=by cases t with|ListComp a b c d=>exact λh=>no h.symm|SetComp a b c d=>exact λh=>no h.symm|DictComp a b c d e=>exact λh=>no h.symm|_=>exact λh=>rfl
def Kc (ρ:Env) (Q:Option V->Env->St->Prop) (v:V) (σ:St):Prop:=Q none ρ σ
noncomputable def MS.ex (e:ME):MS where
 run:=λK ρ σ Q=>e.run K ρ σ (Kc ρ Q)
 aD:=λsc fs=>HL λa=> !ug a&&e.aD sc fs a
 ok:=λ{p sc fs a} F=>P2 (C:=ej p sc fs λK ρ σ Q=>e.run K ρ σ λv a8=>Q none ρ a8) λh=>λ{A E env ρ σ s Z Q R} S q k=>
  wpAny_Expr_any (e.ok F (aj h).2 S q λq1 r1 au=>k q1 .next au.gF (S.step au)) (by unfold interactive;refine a6 S.cJ.kind ?_;rfl) (zv (dB (aj h).1))
section
variable{p:Pc} {sc:Scope} {fs:List Nat} {A:Around} {E:Value->Shared->Prop} {Z:Addr->Prop} {env:PySem.Env} {ρ:Env} {σ:St} {s:Shared} {R:Flow->Shared->Prop} {b t:Expr} {pos ps:Pos} {e o i:ME} {x y:Expr} {m:PySem.Str} {l:Nat}
theorem NZ:swapsWith t (some (.Subscript x y ps)) l env=pure false:=by cases t with|_=>exact rfl
theorem Nc:swapsWith t (some (.Attribute x m ps)) l env=pure false:=by cases t with|_=>exact rfl
theorem DO:swappedStores [.Name m ps] t env=pure none:=by cases t with|_=>exact rfl
theorem Nh:swappedStores [.Subscript x y ps] t env=pure none:=by cases t with|_=>exact rfl
theorem MN:swappedStores [.Attribute x m ps] t env=pure none:=by cases t with|_=>exact rfl
theorem vY (tc:swapsWith b (some t) pos.line env=pure false) (kL:swappedStores [t] b env=pure none) (Yg:(assignEach [t] env).map (·.2)= [assign t env]) (h:bw p sc fs e.run b) (S:At p sc fs A Z env ρ σ s) (q:e.run p.K ρ σ Q)
  (k:∀{v u a8 s'},Q v a8->Rv p.c a8 Z s'.heap v u->aA p.c Z X0 σ s a8 s'->wpAny p.c.M A (assign t env u) (λx oG=>R .next oG) E s'):wpAny p.c.M A (PySem.exec (.Assign [t] b pos) env) R E s:=by
 refine cj (arm_exec_Assign ..) (wb (dE (wb (m:=swapsWithSole _ _ _ _) (nN (a:=false) tc (yd (wb (h S q λ{v u a8 s'} q1 r1 au=>wb (m:=swappedStores _ _ _) (nN (a:=none) kL ?_))))))));show wpAny _ _ (assignAll u ((assignEach [t] env).map (·.2))>>=λx=>pure Flow.next) _ _ _;exact a6 Yg (wb (dS (k q1 r1 au) (λx oG h=>ai h) λa b x=>x))
inductive xf (σ:St) (Q:St->Prop) (v:V):V->V->Prop
 |mk {d:Addr} {ks vs:List V} {k:V} (h:σ d=some (.dict ks vs)) (hk:aR 8 k=true) (hl:ks.length<lim) (q:Q (upd σ d (.dict (bW k ks) (cz k v ks vs)))):xf σ Q v (.ref d) k
def Xc (ρ:Env) (Q:Option V->Env->St->Prop) (v vo k:V) (σ:St):Prop:=xf σ (Q none ρ) v vo k
def Xd (i:ME) (K:CH) (ρ:Env) (Q:Option V->Env->St->Prop) (v vo:V) (σ:St):Prop:=i.run K ρ σ (Xc ρ Q v vo)
def Xe (o i:ME) (K:CH) (ρ:Env) (Q:Option V->Env->St->Prop) (v:V) (σ:St):Prop:=o.run K ρ σ (Xd i K ρ Q v)
noncomputable def fJ (o i e:ME):lO:=λK ρ σ Q=>e.run K ρ σ (Xe o i K ρ Q)
theorem RL (ho:bw p sc fs o.run x) (hi:bw p sc fs i.run y) (he:bw p sc fs e.run b):ej p sc fs (fJ o i e) (.Assign [.Subscript x y ps] b pos):=λ{A E env ρ σ s Z Q R} S q k=>
 vY NZ Nh rfl he S q λ{v u bZ aC} q1 r1 au=>cj (arm_assign_Subscript ..) (wb (bN (ho (S.step au) q1 λq2 r2 aX=>wb (bN (hi ((S.step au).step aX) q2 λ{vi ui rQ fZ} q3 r3 cN=>wb (dE (by
  have rv:=cN.rv (aX.rv r1);have r2:=cN.rv r2;cases q3 with
  | @mk d ks vs _ h hk hl q3=>
   have I:=cN.inv;refine r2.gm (I.dict h λhd n l=>wb (bN (Mp (S.room.room (by decide)) (.mk hd n l (I.sys (I.jX h).new)) hk r3 rv hl λ{h' es ep} hs hg l' t=>wpAny_release' ?_)));have st:aA p.c Z X0 σ s (upd rQ d (.dict (bW vi ks) (cz vi v ks vs))) {fZ with heap:=h',toks:=t}:=((au.trans aX).trans cN).trans (aA.change I h (λ_ h=>a_ h rfl) (.inl rfl) hs ⟨_,hg⟩ (.dict hg (vU n) (l'.mono (Mv.change h (.inl rfl) hs))));exact k q3 .next st.gF (S.step st))))))))
end
noncomputable def MS.fJ (o i e:ME):MS where
 run:=Internal.fJ o i e
 aD:=λsc fs=>rB λts b ps=>lG (xJ λx y=>o.aD sc fs x&&(i.aD sc fs y&&e.aD sc fs b)) ts
 ok:=λ{p sc fs a} F=>tV (C:=ej p sc fs (Internal.fJ o i e)) λ{ts b ps} h=>mn (C:=λts=>ej p sc fs (Internal.fJ o i e) (.Assign ts b ps)) (λ{t} h=>zY (C:=λt=>ej p sc fs (Internal.fJ o i e) (.Assign [t] b ps)) (λ{x y bF} h=>RL (o.ok F (aj h).1) (i.ok F (aj (aj h).2).1) (e.ok F (aj (aj h).2).2)) h) h
def WO (x:Nat) (ρ:Env) (Q:Option V->Env->St->Prop) (v:V) (σ:St):Prop:=Q none ((x,v)::ρ) σ
noncomputable def asg (x:Nat) (e:ME):lO:=λK ρ σ Q=>e.run K ρ σ (WO x ρ Q)
noncomputable def jQ (n:Nat) (v:V):List (Nat×V)->List (Nat×V)
 | []=> [(n,v)]
 |(m,u)::r=>if m=n then(m,v)::r else(m,u)::jQ n v r
section
variable{c:Cx} {σ:St} {Z:Addr->Prop} {h:Heap} {as:List (Nat×V)} {es:List DictEntry} {n:Nat} {v:V} {u:Value}
theorem Rm (hn:n<bJ.length) (rv:Rv c σ Z h v u) (t:Tok) (r:nv c σ Z h as es):nv c σ Z h (jQ n v as) (putL (tx n) (PyData.keyHash c.w.params (tx n)) (.str (tx n) t) u es):=by
 induction as generalizing es with
 |nil=>
  obtain rfl:es= []:=f9 r.lk.symm;exact .cons (k:= .str n) (v:=v) (.str hn t) rv rfl (bQ hn) .nil
 |cons p as ih=>induction es with
  |nil=>exact eh r.lk
  |cons en es=>
   obtain⟨m,x⟩:=p;have k0:=r.key (i:=0) rfl rfl;have h0:=r.nq (i:=0) rfl rfl;have o0:=r.ok (i:=0) rfl;refine r.hd λlt t' hk rx=> ?_;show nv c σ Z h (if m=n then(m,v)::as else(m,x)::jQ n v as) (if en.key.isStr (tx n) then _ else _);rw [show en.key.isStr (tx n)=(tx m==tx n) by refine a6 hk ?_;rfl];by_cases q:m=n
   ·refine a6 (aF q) (a6 (aF (q▸gT _)) ?_)
    exact .cons (k:= .str m) (v:=v) k0 rv h0 o0 r.tl
   ·refine a6 (aB q) ?_;rw [aB λe=>q (jK lt hn (b7.mp e))]
    exact .cons (k:= .str m) (v:=x) k0 rx h0 o0 (ih r.tl)
theorem Px (h:y∈(jQ n v as).map (·.1)):y=n\/y∈as.map (·.1):=by
 induction as with
 |nil=>exact .inl (b3.mp h)
 |cons p as ih=>
  obtain⟨m,x⟩:=p;unfold jQ at h;by_cases q:m=n
  ·rw [aF q] at h;exact .inr h
  ·rw [aB q] at h
   exact(bz.mp h).elim (λe=> .inr (e▸aM)) λh=>(ih h).imp id (aQ _)
theorem Ru (h:(as.map (·.1)).Nodup):((jQ n v as).map (·.1)).Nodup:=by
 induction as with
 |nil=>exact cG.mpr ⟨bx,cY⟩
 |cons p as ih=>
  obtain⟨m,x⟩:=p;unfold jQ;by_cases q:m=n
  ·exact a6 (aF q) h
  ·refine a6 (aB q) ?_
   exact cG.mpr ⟨λe=>(Px e).elim q (cG.mp h).1,ih (cG.mp h).2⟩
theorem Pw:(putL name k key u es).length<=es.length+1:=by
 induction es with
 |nil=>exact bC _
 |cons e r ih=>
  rw [putL]
  split
  ·exact gU _
  ·exact fe ih
end
section
variable{c:Cx} {A:Around} {E:Value->Shared->Prop} {s:Shared} {F:Frag}
theorem A4 (hd:s.heap.get? dx=some (bp es n)):(s.heap.update dx (Obj.putName name k key v)).get? dx=some (bp (putL name k key v es) (putN name es n)):=by
 have:=kR (Obj.putName name k key v) hd (by rw [putName_dict];rfl)
 rwa [putName_dict] at this
theorem RF (X:F.In s.heap) (I:InstAt s.heap x (uh C dx) C (some (bp es n))) (hd:s.heap.get? dx=some (bp es n)) (co:so F C) (ht:takerIn F C name=some none)
  (hr:es.any (·.refKey)=false) (hz:es.length<=1000)
  (h:R (.ok (.ret .none)) {s with heap:=s.heap.update dx (Obj.putName name (PyData.keyHash c.w.params name) (.str name s.toks) v),toks:=s.toks+1}):
  codeAny c.M A (.call (.builtin "object.__setattr__") ⟨[.ref x, .str name tk,v], []⟩) R s:=by
 refine osa_open X I co.po ht λb=> ?_;obtain⟨cd,hc,CS⟩:=co.hd;obtain⟨hx,nr,hn,-⟩:=I;refine aK (ai (aK (aK (wpAny_loadPart hx (aK ((looks_clsIn X hc).here (a6 CS (ai (a:=some dx) (aK (ai (aK ?_)))))))))));unfold nsSet;refine aK (aK (wpAny_askSetting (ai (aK (wpAny_mkText (aK (wpAny_loadPart hd ?_)))))));dsimp only;have c2:(!es.toArray.any (·.key.isStr name)&&es.toArray.any (·.refKey))=false:=by
  refine a6 List.any_toArray (a6 List.any_toArray (a6 hr ?_));rw [Bool.and_false]
 rewrite [aRefKeyMayBeTheName_at];exact a6 c2 (wpAny_updatePart hd (wb (wpAny_lookBehind (A4 hd) (pastItsLine_dict (a6 gS (a6 sizeLine_eq (ay Pw (ay (fe hz) (by decide)))))) (ai h))))
end
inductive uw (ok:Addr->Nat->Bool) (σ:St) (Q:St->Prop) (x:Nat) (v:V):V->Prop
 |mk {a C dx:Addr} {as:List (Nat×V)} (h:σ a=some (.inst C dx as)) (hk:ok C x=true) (hl:as.length<100) (q:Q (upd σ a (.inst C dx (jQ x v as)))):uw ok σ Q x v (.ref a)
def Xf (K:CH) (x:Nat) (ρ:Env) (Q:Option V->Env->St->Prop) (v vo:V) (σ:St):Prop:=uw K.i0 σ (Q none ρ) x v vo
def Xg (o:ME) (K:CH) (x:Nat) (ρ:Env) (Q:Option V->Env->St->Prop) (v:V) (σ:St):Prop:=o.run K ρ σ (Xf K x ρ Q v)
noncomputable def dm (o:ME) (x:Nat) (e:ME):lO:=λK ρ σ Q=>e.run K ρ σ (Xg o K x ρ Q)
section
variable{p:Pc} {sc:Scope} {fs:List Nat} {b y:Expr} {pos ps:Pos} {e o:ME} {x:Nat}
theorem RM (F:Fa p) (lt:x<bJ.length) (ho:bw p sc fs o.run y) (he:bw p sc fs e.run b):ej p sc fs (dm o x e) (.Assign [.Attribute y (tx x) ps] b pos):=λ{A E env ρ σ s Z Q R} S q k=>
 vY Nc MN rfl he S q λ{v u bZ aC} q1 r1 au=>cj (arm_assign_Attribute ..) (wb (bN (ho (S.step au) q1 λ{vo uo pY ez} q2 r2 aX=>wb (dE (by
  have rv:=aX.rv r1;induction q2 with
  | @mk a C dx as hm hk hl q2=>
   have I:=aX.inv;obtain⟨co,Y8⟩:=F.vC hk;refine r2.gm (I.at_ hm λ{es ep} IA rf hd hh hn=>wb (bN (set_plain I.lW IA co.sa (RF (s:={ez with toks:=ez.toks+1}) I.lW IA hd co (by unfold takerIn;refine a6 Y8 ?_;rfl) (G_ rf) (by refine a6 (aT rf.lk) ?_;rw [b0];exact ay (jd hl) (by decide)) ?_))));have hs:=iN (h:=ez.heap) (a:=dx) (f:=Obj.putName (tx x) (PyData.keyHash p.c.w.params (tx x)) (.str (tx x) (ez.toks+1)) u);have Ki:a≠dx:=λe=>CD (hm.symm.trans ((aE pY e).trans hh)) rfl;have st:aA p.c Z X0 σ s (upd pY a (.inst C dx (jQ x v as))) {ez with heap:=ez.heap.update dx (Obj.putName (tx x) (PyData.keyHash p.c.w.params (tx x)) (.str (tx x) (ez.toks+1)) u),toks:=ez.toks+1+1}:=(au.trans aX).trans (aA.change I hm (λ_ h=>a_ h rfl) (.inr hh) hs ⟨_,A4 hd⟩
    (.inst ((hs.2 a Ki).trans IA.at_) ((rI (aL Ki)).trans hh) (Ru hn) (A4 hd) ((Rm lt rv _ rf).mono (Mv.change hm (.inr hh) hs))))
   exact wpAny_release' (k q2 .next st.gF (S.step st)))))))
end
noncomputable def MS.dm (o:ME) (x:Nat) (e:ME):MS where
 run:=Internal.dm o x e
 aD:=λsc fs=>rB λts b ps=>lG (uA λy m bF=>m==tx x&&(decide (x<bJ.length)&&(o.aD sc fs y&&e.aD sc fs b))) ts
 ok:=λ{p sc fs a} F=>tV (C:=ej p sc fs (Internal.dm o x e)) λ{ts b ps} h=>mn (C:=λts=>ej p sc fs (Internal.dm o x e) (.Assign ts b ps)) (λ{t} h=>w7 (C:=λt=>ej p sc fs (Internal.dm o x e) (.Assign [t] b ps)) (λ{y m bF} h=>by
  obtain⟨e1,h1⟩:=aj h;obtain⟨lt,h2⟩:=aj h1;cases b7.mp e1;exact RM F (bY lt) (o.ok F (aj h2).1) (e.ok F (aj h2).2)) h) h
noncomputable def uL (t:Expr) (xs:List Nat):Bool:=by cases t with|Tuple a b c=>exact !a.all (constantsAlone 8)&&(xs.casesOn false λx ys=>ys.casesOn false λy zs=>zs.isEmpty&& !(x==y))|_=>exact true
def VN (Q:Option V->Env->St->Prop) (σ:St) (ρ:Env):Prop:=Q none ρ σ
def VO (xs:List Nat) (ρ:Env) (Q:Option V->Env->St->Prop) (v:V) (σ:St):Prop:=bindM xs v ρ (VN Q σ)
noncomputable def g6 (xs:List Nat) (e:ME):lO:=λK ρ σ Q=>e.run K ρ σ (VO xs ρ Q)
section
variable{p:Pc} {sc:Scope} {fs:List Nat} {b t:Expr} {pos ps p1 p2:Pos} {k:Nat} {e:ME} {xs:List Nat} {as vs:List Expr} {x y:Nat} {env:PySem.Env}
theorem Un {α:Type} {X Y Z Z':α} {a b c d:Prop} [Decidable a] [Decidable b] [Decidable c] [Decidable d] (h:¬c->Z=Z'):(if a then X else if b then X else if c then X else if d then X else if false=true then Y else Z)=X\/(if a then X else if b then X else if c then X else if d then X else if false=true then Y else Z)=Z':=by
 by_cases ha:a
 ·exact .inl (aF ha)
 ·refine a6 (aB ha) ?_
  by_cases hb:b
  ·exact .inl (aF hb)
  ·refine a6 (aB hb) ?_
   by_cases hc:c
   ·exact .inl (aF hc)
   ·refine a6 (aB hc) ?_
    by_cases hd:d
    ·exact .inl (aF hd)
    ·exact a6 (aB hd) (.inr (h hc))
theorem Yv {α β:Type} {f:α->Option β} {a b:α} {x y:β} {c d:Prop} {r:Bool} [Decidable c] [Decidable d] (ha:f a=if c then some x else none) (hb:f b=if d then some y else none) (h:¬((List.filterMap f [a,b]).length !=2||r)=true):List.filterMap f [a,b]= [x,y]:=by
 have h:(List.filterMap f [a,b]).length=2:=Decidable.of_not_not λq=>(Bool.eq_false_iff.mp (Bool.or_eq_false_iff.mp (Bool.eq_false_iff.mpr h)).1) (bne_iff_ne.mpr q);by_cases hc:c
 ·rw [aF hc] at ha
  rw [List.filterMap_cons_some ha] at h⊢;by_cases hd:d
  ·rw [aF hd] at hb
   refine a6 (List.filterMap_cons_some hb) ?_;rfl
  ·rw [aB hd] at hb
   rw [List.filterMap_cons_none hb] at h;exact nomatch h
 ·rw [aB hc] at ha
  rw [List.filterMap_cons_none ha] at h;exact absurd (h▸List.length_filterMap_le f [b]) (show¬2<=1 by decide)
theorem Tw {n:Nat} {q:Pos} (hc:vs.all (constantsAlone 8)=false):swappedStores [.Tuple [.Name (tx x) p1, .Name (tx y) p2] k ps] (.Tuple vs n q) env=pure none\/swappedStores [.Tuple [.Name (tx x) p1, .Name (tx y) p2] k ps] (.Tuple vs n q) env=pure (some [tx x,tx y]):=by
 unfold swappedStores;dsimp only;exact a6 hc (Un λh=>aE (λl=>(pure (some l):Sem (Option (List Str)))) (Yv rfl rfl h))
theorem V0 (n:x≠y):((y,w)::(x,v)::ρ:Env).lookup z=((x,v)::(y,w)::ρ:Env).lookup z:=by
 by_cases e:z=x
 ·exact a6 e (a6 (kZ n) (a6 pz (a6 pz rfl)))
 ·refine a6 (kZ e) ?_
  by_cases e':z=y
  ·exact a6 e' (a6 pz (a6 pz rfl))
  ·exact a6 (kZ e') (a6 (kZ e') (a6 (kZ e) rfl))
inductive Sw (env:PySem.Env) (xs:List Nat) (as:List Expr) (k:Nat) (ps:Pos) (b:Expr):Prop
 |no (e:swappedStores [.Tuple as k ps] b env=pure none)
 |two {x y:Nat} (ne:x≠y) (h:xs= [x,y]) (e:swappedStores [.Tuple as k ps] b env=pure (some [tx x,tx y]))
theorem Tz (hn:jP sc xs as) (h:uL (.Tuple vs n q) xs=true):Sw env xs as k ps (.Tuple vs n q):=by
 refine fG h λh3 h4=> ?_;induction hn with
 |nil=>exact no h4
 |cons k1 r=>induction r with
  |nil=>exact no h4
  |cons k2 r2=>
   refine fG h4 λh5 h6=> ?_;induction r2 with
   |cons=>exact no h5
   |nil=>exact(Tw (dB h3)).elim .no λe=> .two (λq=>Bool.eq_false_iff.mp (dB h6) (b7.mpr q)) rfl e
theorem V1 (hn:jP sc xs as):uL b xs=true->Sw env xs as k ps b:=b.casesOn (motive_1:=λb=>uL b xs=true->Sw env xs as k ps b) (λa b c h=> .no rfl) (λa b c h=> .no rfl) (λa b c d h=> .no rfl) (λa b c h=> .no rfl) (λa b c d h=> .no rfl) (λa b c d h=> .no rfl) (λa b c h=> .no rfl) (λa b c h=> .no rfl) (λa b c d h=> .no rfl) (λa b c d h=> .no rfl) (λa b c d e h=> .no rfl) (λa b c d h=> .no rfl) (λa b h=> .no rfl) (λa b h=> .no rfl) (λa b h=> .no rfl) (λa b c d h=> .no rfl) (λa b c d h=> .no rfl) (λa b c d h=> .no rfl) (λa b h=> .no rfl) (λa b c h=> .no rfl) (λa b c h=> .no rfl) (λa b c h=> .no rfl) (λa b h=> .no rfl) (λa b h=> .no rfl) (λa b h=> .no rfl) (λa b c h=>Tz hn h) (λa b c d h=> .no rfl)
theorem Tp {vs:List V} (h:2=vs.length) {G:List V->Prop} (q:∀v w,G [v,w]):G vs:=by
 match vs,h with
 | [v,w],h=>exact q v w
theorem QP (ne:x≠y) (hn:jP sc [x,y] as) (S:At p sc fs A Z env ρ bZ aC) (ho:aC.heap.get? a=some (gq us ep)) (l:aO p.c bZ Z aC.heap [v1,v2] us)
  (q:∀{s'},aA p.c Z (eE env) bZ aC bZ s'->At p sc fs A Z env ((y,v2)::(x,v1)::ρ) bZ s'->R .next s'):wpAny p.c.M A (unpackItems (.ref a) 2 none>>=λitems=>assignInOrder ([tx x,tx y].reverse.map λn=>bindName env n) items.reverse>>=λx=>pure Flow.next) R E aC:=by
 cases hn with
 |cons h1 r=>cases r with
  |cons h2 r2=>
   refine l.two (G:=λus=>aC.heap.get? a=some (gq us ep)->_) (λ{u1 u2} a1 a2 ho=>wb (wpAny_unpackItems_tuple (items:= #[u1,u2]) S.room.hh ⟨_,ho,rfl,_,rfl⟩ λh' hx=> ?_)) ho;have aX:aA p.c Z X0 bZ aC bZ {aC with heap:=h'}:=aA.grow (t:=aC.toks) S.inv λb o e=>hx b o (cq (bk _) e) e;show wpAny _ _ ((holding [u1] (bindName env (tx y) u2)>>=λx'=>holding [] (bindName env (tx x) u1)>>=λx'=>pure ())>>=λx'=>pure Flow.next) R E {aC with heap:=h'};exact wb (wb (bN (wpAny_bindName (pE (S.step aX) h2 (aX.rv a2) λ{s3} cN S3=>wb (bN (wpAny_bindName (pE S3 h1 ((aX.rv a1).mono (cN.mv λb q=>S.cJ.own q)) λ{s4} gc S4=>ai (ai
    (q ((aX.gF.trans (cN.wide λb=>Tx.own)).trans (gc.wide λb=>Tx.own)) (S4.lB λm e=>⟨aQ _ (aQ _ m),(V0 ne).symm.trans e⟩))))))))))
theorem RV (hc:ug b=false) (hn:jP sc xs as) (h:bw p sc fs e.run b) (hw:uL b xs=true):ej p sc fs (g6 xs e) (.Assign [.Tuple as k ps] b pos):=λ{A E env ρ σ s Z Q R} S q kk=>by
 refine cj (arm_exec_Assign ..) (wb (dE (wb (m:=swapsWithSole _ _ _ _) (nN (a:=false) (show swapsWith b (some (.Tuple as k ps)) pos.line env=pure false from zv hc) (yd (wb (h S q λ{v u bZ aC} q1 r1 au=> ?_)))))));induction q1 with
 | @mk vs hl q1=>
  refine r1.cR λ{a us ep} f l=> ?_;cases V1 (env:=env) (k:=k) (ps:=ps) hn hw with
  |no e1=>
   refine wb (m:=swappedStores _ _ _) (nN (a:=none) e1 ?_);show wpAny _ _ (assignAll (.ref a) [assign (.Tuple as k ps) env]>>=λx=>pure Flow.next) _ _ _;obtain⟨l1,l2⟩:=hn.each env;refine wb (show wpAny p.c.M A (assign (.Tuple as k ps) env (.ref a)) _ E aC from wpAny_assign_Tuple (items:=us.toArray) S.room.hh ⟨_,f.at_,rfl,_,rfl⟩ (a6 l1 (a6 gS (a6 (aT l.len) hl))) l2 λh' hx=> ?_);have aX:aA p.c Z X0 bZ aC bZ {aC with heap:=h'}:=aA.grow (t:=aC.toks) au.inv λb o e=>hx b o (cq (bk _) e) e;exact Ec hn hl (aX.uZ l) ((S.step au).step aX) λcN S3 hy=>ai (kk q1 .next ((au.trans aX).gF.trans (cN.wide λb=>Tx.own)) (S3.lB λm e=>⟨ij _ m,e⟩))
  | @two x y ne hx e1=>
   subst hx;exact Tp hl (G:=λvs=>aO p.c bZ Z aC.heap vs us->Q none (bindL [x,y] vs ρ) bZ->_) (λv w l q1=>wb (m:=swappedStores _ _ _) (nN (a:=some [tx x,tx y]) e1 (wb (gj (QP ne hn (S.step au) f.at_ l λst S'=>kk q1 .next (au.gF.trans st) S'))))) l q1
end
noncomputable def MS.g6 (xs:List Nat) (e:ME):MS where
 run:=Internal.g6 xs e
 aD:=λsc fs=>rB λts b ps=>lG (wN λas=>B6 sc xs as) ts&&(!ug b&&(uL b xs&&e.aD sc fs b))
 ok:=λ{p sc fs a} F=>tV (C:=ej p sc fs (Internal.g6 xs e)) λ{ts b ps} h=>mn (C:=λts=>ej p sc fs (Internal.g6 xs e) (.Assign ts b ps)) (λ{t} h1=>vZ (C:=λt=>ej p sc fs (Internal.g6 xs e) (.Assign [t] b ps)) (λ{as k bF} h1=>
  RV (dB (aj (aj h).2).1) (EE h1) (e.ok F (aj (aj (aj h).2).2).2) (aj (aj (aj h).2).2).1) h1) (aj h).1
noncomputable abbrev Step (β:Type):=V->St->β->(β->St->Prop)->Prop
noncomputable def dP (step:Step β):List V->St->β->(β->St->Prop)->Prop
 | [],σ,b,Q=>Q b σ
 |x::xs,σ,b,Q=>step x σ b λb' a8=>dP step xs a8 b' Q
noncomputable abbrev eT (step:Step β) (w:V) (xs:List V):Step β:=λx σ b k=>Sq σ 2 w xs/\step x σ b k
abbrev eX (w:V) (xs:List V) (Q:β->St->Prop):β->St->Prop:=λb σ=>Sq σ 2 w xs/\Q b σ
inductive g_ {β:Type} (step:Step β) (w:V) (σ:St) (b:β) (Q:β->St->Prop):Prop
 |mk {xs:List V} (S:Sq σ 2 w xs) (q:dP (eT step w xs) xs σ b (eX w xs Q))
noncomputable def wc (keep:List Nat) (ρ:Env):Env:=keep.filterMap λx=>(ρ.lookup x).map λv=>(x,v)
theorem DJ (h:(wc keep ρ).lookup x=some v):ρ.lookup x=some v:=by
 unfold wc at h
 induction keep with
 |nil=>exact bK h
 |cons y keep ih=>
  cases e:ρ.lookup y with
  |none=>
   rw [List.filterMap_cons_none (by refine a6 e ?_;rfl)] at h;exact ih h
  |some u=>
   rw [List.filterMap_cons_some (b:=(y,u)) (by refine a6 e ?_;rfl)] at h;by_cases q:x=y
   ·subst q;rw [pz] at h;exact e.trans h
   ·rw [kZ q] at h;exact ih h
def jz (keep:List Nat) (k:Env->St->Prop) (Q:Option V->Env->St->Prop) (r:Option V) (ρ:Env) (σ:St):Prop:=r.casesOn (k (wc keep ρ) σ) λv=>Q (some v) ρ σ
def WD (body:aH) (keep:List Nat) (K:CH) (Q:Option V->Env->St->Prop) (k:Env->St->Prop) (σ:St) (ρ:Env):Prop:=body.run K ρ σ (jz keep k Q)
noncomputable def hV (t:dI) (body:aH) (keep:List Nat) (K:CH) (Q:Option V->Env->St->Prop):Step Env:=λx σ ρ k=>t.bind x ρ (WD body keep K Q k σ)
def WC (t:dI) (body:aH) (keep:List Nat) (K:CH) (ρ:Env) (Q:Option V->Env->St->Prop) (w:V) (σ:St):Prop:=g_ (hV t body keep K Q) w σ (wc keep ρ) (Q none)
noncomputable def C6 (t:dI) (e:ME) (body:aH) (keep:List Nat):lO:=λK ρ σ Q=>e.run K ρ σ (WC t body keep K ρ Q)
theorem MZ {target it body orelse env} (I:Nat->Shared->Prop)
  (turn:∀{n s},I n s->wpAny (model prog w) A (pyNext it) (λr aC=>match r with
   |none=>wpAny (model prog w) A (PySem.execs orelse env) (λf fZ=>R (.ok f) fZ) (notedBy (model prog w) A env λe s'=>R (.error e) s') aC
   |some v=>wpAny (model prog w) A (letOwnedTupleGo target it v) (λzz xi=>wpAny (model prog w) A (assign target env v) (λzz ez=>wpAny (model prog w) A (PySem.execs body env) (λf fZ=>match f with
     | .next| .cont=>∃m,m<n/\I m fZ
     | .brk=>R (.ok .next) fZ
     | .ret v=>R (.ok (.ret v)) fZ) (notedBy (model prog w) A env λe s'=>R (.error e) s') ez) (notedBy (model prog w) A env λe s'=>R (.error e) s') xi) (notedBy (model prog w) A env λe s'=>R (.error e) s') aC) (notedBy (model prog w) A env λe s'=>R (.error e) s') s)
  {n:Nat} {s:Shared} (h:I n s):codeAny (model prog w) A (.forLoop target it body orelse env) R s:=by
 refine codeAny_loop' rfl I (λn s hI=> ?_) n h;show wpAny _ _ ((forTurn target it body orelse env).onRaise (λx=>do noteFrame x env;theTreesLotGoes x)) _ _ s;refine wpAny_noted ?_;simp only [forTurn];refine aK (dE (aK (wpAny_onRaise (dS (turn hI) (λr aC mV=> ?_) λzz zz h'=>dE h'))));induction r with
 |none=>exact ai (.inr ⟨rfl,codeAny_block mV⟩)
 |some v=>
  refine aK (dS mV (λzz xi uE=>aK (dS uE (λzz ez g5=>aK (dS g5 (λf fZ hJ=> ?_) λzz zz h'=>h')) λzz zz h'=>h')) λzz zz h'=>h');induction f with
  |next=>exact ai (.inl ⟨rfl,hJ⟩)
  |cont=>exact ai (.inl ⟨rfl,hJ⟩)
  |brk=>exact ai hJ
  |ret v=>exact ai hJ
noncomputable def mI (t:Expr):Bool:=by cases t with|Set a b c=>exact true|_=>exact false
theorem w3:mI t=false->foldedSetIterable t env x=pure x:=by cases t with|Set a b c=>exact λh=>no h.symm|_=>exact λh=>rfl
theorem Ao {α:Type} {xs ys:List α} {x:α} {i:Nat} (h:xs.drop i=x::ys):xs[i]? =some x/\xs.drop (i+1)=ys:=
 ⟨by refine a6 (aT (Nat.add_zero i)) (a6 (aT (List.getElem?_drop)) (a6 h ?_));rfl,by refine a6 (aT List.drop_drop) (a6 h ?_);rfl⟩
section
variable{p:Pc} {sc:Scope} {fs:List Nat} {A:Around} {E:Value->Shared->Prop} {Z X:Addr->Prop} {env:PySem.Env} {ρ:Env} {σ a8:St} {s s':Shared} {I:Addr}
inductive WY (p:Pc) (sc:Scope) (fs:List Nat) (A:Around) (Z X:Addr->Prop) (env:PySem.Env) (step:Step Env) (fin:Env->St->Prop) (w:V) (u:Value) (xs:List V) (I:Addr) (Bl:St) (qg:Shared) (m:Nat) (s':Shared):Prop
 |mk {i:Nat} {ys:List V} {a8:St} {gN:Env} (hm:m=ys.length) (hy:xs.drop i=ys) (it:It s'.heap I u i w) (r:Rv p.c a8 Z s'.heap w u) (S:At p sc fs A Z env gN a8 s') (st:aA p.c Z X Bl qg a8 s') (q:dP (eT step w xs) ys a8 gN (eX w xs fin))
theorem U7 {t:dI} {e:ME} {body:aH} {keep:List Nat} {at' ae:Expr} {IE:List Stmt} {pos:Pos} (h:bw p sc fs e.run ae) (ht:t.aD sc at'=true) (hb:Jo p sc fs body.run IE) (hs:mI ae=false):ej p sc fs (C6 t e body keep) (.For at' ae IE [] pos):=λ{A E env ρ σ s Z Q R} S q k=>by
 refine wpAny_For (h S q λ{w u bZ aC} q1 r1 au=> ?_) λx=>w3 hs;induction q1 with
 | @mk xs Sx q1=>
  have S1:=S.step au;refine zO Sx S1.inv r1 λ{o} ho hit=> ?_;have gs:=bk aC.heap;have nz:=S1.inv.iC gs;have zI:Zp Z aC.heap.objs.size aC.heap.objs.size:= .inr rfl;have oI:=S1.rD gs;have oz:∀{b},eE env b->Zp Z aC.heap.objs.size b:=λq=> .inl (S1.cJ.own q);refine MZ (WY p sc fs A (Zp Z aC.heap.objs.size) (Zp (eE env) aC.heap.objs.size) env (hV t body keep p.K Q) (Q none) w u xs aC.heap.objs.size bZ {aC with heap:=aC.heap.push o}) ?_ (n:=xs.length) (.mk (i:=0) rfl rfl hit (r1.mono (rL o)) ((S1.mm ho).lB λm e=>⟨m,DJ e⟩) (aA.refl (s:={aC with heap:=aC.heap.push o}) (S1.inv.mm ho)) q1);intro m s' hI;induction hI with
  | @mk i ys a8 gN hm hy hi r' S' dU q'=>
   induction ys with
   |nil=>
    refine Hc S.room.hh q'.1 S'.inv r' hi (List.drop_eq_nil_iff.mp hy) λh4 iI=>wpAny_execs_nil (k q'.2 .next (au.gF.trans (aA.iY (t:=s'.toks) nz dU iI)) (S'.to (s':={s' with heap:=h4}) (S'.inv.iY nz iI) (Mv.iY iI) (λb o y=>iI b o λ(e:b=_)=>oI (e▸y)) λy=>S1.cJ.own y))
   |cons x ys=>
    obtain⟨hx,hy⟩:=Ao hy;refine Gd (X:=Zp X0 aC.heap.objs.size) q'.1 S'.inv zI (.inr rfl) r' hi hx λ{h4 t4 v} rv vq gc=> ?_;have xz:∀b,Zp X0 aC.heap.objs.size b->Zp Z aC.heap.objs.size b:=λb q=>q.elim False.elim .inr;have S4:At p sc fs A (Zp Z aC.heap.objs.size) env gN a8 {s' with heap:=h4,toks:=t4}:=S'.i_ gc xz λb q=>q.elim False.elim λ(e:b=_)=>e▸oI;have r4:=r'.mono (gc.mv xz);obtain⟨ob,n,io⟩:=vq.o r4 q'.1;refine t.own ht (s:={s' with heap:=h4,toks:=t4}) io (t.ok ht S4 rv q'.2 λ{Js s5} q5 Cw S5 JS=>hb (S5.lB λm e=>⟨ij _ m,e⟩) q5 λ{o6 Z7 W_ f6 s6} q6 f6 yh S6=> ?_);have mP:=(Cw.wide (X':=eE env) λb=>Tx.own).trans yh;have uX:=dU.trans ((gc.wide λb q=>q.elim False.elim .inr).trans (mP.wide (X':=Zp (eE env) aC.heap.objs.size) λb=> .inl));induction f6 with
    |next=>exact⟨ys.length,hm▸tO _, .mk rfl hy (vq.keeps λo g=>(mP.keep ⟨g,S4.inv.zp zI,oI⟩).at_) (r4.mono (mP.mv λb=>oz)) (S6.lB λm e=>⟨m,DJ e⟩) uX q6⟩
    |ret r6=>exact k q6 (.ret (r6.mono (Mv.less λb=> .inl))) (au.gF.trans (aA.close uX)) (S6.to (S6.inv.less λb=> .inl) (Mv.less λb=> .inl) (λb o y e=>e) λy=>S1.cJ.own y)
end
noncomputable def MS.for (t:dI) (e:ME) (body:aH) (keep:List Nat):MS where
 run:=C6 t e body keep
 aD:=λsc fs=>IQ λtg it b oe=>oe.isEmpty&&(t.aD sc tg&&(!mI it&&(e.aD sc fs it&&body.aD sc fs b)))
 ok:=λ{p sc fs a} F=>Q_ (C:=ej p sc fs (C6 t e body keep)) λ{tg it b oe ps} h=>by
  cases iQ.mp (aj h).1;exact U7 (e.ok F (aj (aj (aj (aj h).2).2).2).1) (aj (aj h).2).1 (body.ok F (aj (aj (aj (aj h).2).2).2).2) (dB (aj (aj (aj h).2).2).1)
noncomputable abbrev Tab:=List (PySem.Str×Addr)
noncomputable abbrev vF:=List (PySem.Str×NameKind)
theorem mw {α:Type} {n m:PySem.Str} {c d:α} {l:List (PySem.Str×α)} (h:((n,c)::l).lookup m=some d):(m=n/\c=d)\/l.lookup m=some d:=by
 rw [jD] at h;cases q:m==n with
 |true=>rw [q] at h;exact .inl ⟨b7.mp q,cL h⟩
 |false=>rw [q] at h;exact .inr h
theorem rV {α:Type} {n:PySem.Str} {c:α} {l:List (PySem.Str×α)}:((n,c)::l).lookup n=some c:=by refine a6 jD ?_;rw [gT]
theorem AW {α:Type} {n m:PySem.Str} {c:α} {l:List (PySem.Str×α)} (h:∃d,l.lookup m=some d):∃d,((n,c)::l).lookup m=some d:=by
 refine a6 jD ?_;cases m==n with
 |true=>exact⟨_,rfl⟩
 |false=>exact h
theorem pR {α:Type} {m:PySem.Str} {d:α} {l:List (PySem.Str×α)} (h:l.lookup m=some d):(m,d)∈l:=by
 induction l with
 |nil=>exact bK h
 |cons p l ih=>exact(mw (n:=p.1) (c:=p.2) h).elim (λ⟨a,b⟩=>a▸b▸aM) λh=>aQ _ (ih h)
theorem Bs {α:Type} {m:PySem.Str} {k:α} {l:List (PySem.Str×α)} (nd:(l.map (·.1)).Nodup) (h:(m,k)∈l):l.lookup m=some k:=by
 induction l with
 |nil=>exact jT h
 |cons p l ih=>
  have j1:=cG.mp nd;rcases bz.mp h with e|h
  ·exact e▸rV
  ·refine a6 jD ?_;rw [il.mpr λ(e:m=p.1)=>j1.1 (show p.1∈l.map (·.1) from e▸tK (f:=(·.1)) h)]
   exact ih j1.2 h
structure yL (ns:vF) (env:PySem.Env) (acc cl:Tab):Prop where
 sub:∀{m c},cl.lookup m=some c->((m,NameKind.free)∈ns/\env.cells.lookup m=some c)\/acc.lookup m=some c
 has:∀{m},(m,NameKind.free)∈ns\/(∃c,acc.lookup m=some c)->∃c,cl.lookup m=some c
theorem UC {ns:vF} {env:PySem.Env} {f:PySem.Str×NameKind->Tab->Sem (ForInStep Tab)} (f1:∀{n c acc},env.cells.lookup n=some c->f (n, .free) acc=pure (.yield ((n,c)::acc))) (f2:∀{n k acc},k≠ .free->f (n,k) acc=pure (.yield acc))
  (h:∀{m},(m,NameKind.free)∈ns->∃c,env.cells.lookup m=some c) (acc:Tab):∃cl,forIn ns acc f=pure cl/\yL ns env acc cl:=by
 induction ns generalizing acc with
 |nil=>exact⟨acc,rfl, .inr,λh=>h.elim jT id⟩
 |cons p ns ih=>
  obtain⟨n,k⟩:=p;have ih:=ih λm=>h (aQ _ m);rw [m7];by_cases e:k= .free
  ·subst e
   obtain⟨c,hc⟩:=h aM;obtain⟨cl,e1,C⟩:=ih ((n,c)::acc);refine⟨cl,by exact a6 (f1 hc) e1,λq=>(C.sub q).elim (λq=> .inl ⟨aQ _ q.1,q.2⟩) λq=>(mw q).elim (λ⟨a,b⟩=> .inl ?_) .inr,λq=> ?_⟩
   ·subst a;subst b;exact⟨aM,hc⟩
   ·rcases q with q|q
    ·exact(bz.mp q).elim (λe=>(Prod.mk.inj e).1▸C.has (.inr ⟨c,rV⟩)) λq=>C.has (.inl q)
    ·exact C.has (.inr (AW q))
  ·obtain⟨cl,e1,C⟩:=ih acc
   exact⟨cl,by exact a6 (f2 e) e1,λq=>(C.sub q).imp_left λq=>⟨aQ _ q.1,q.2⟩,λq=>C.has (q.imp_left λq=>(bz.mp q).resolve_left λw=>e (Prod.mk.inj w).2.symm)⟩
theorem Ht {sc:Scope} {env:PySem.Env} (h:∀{m},(m,NameKind.free)∈sc.names->∃c,env.cells.lookup m=some c):∃cl,closureFor sc env=pure cl/\yL sc.names env [] cl:=
 let⟨cl,e,C⟩:=UC (λ{n c acc} e=>(aE (· >>=λc=>pure (ForInStep.yield ((n,c)::acc))) (by unfold cellOf;exact a6 e rfl:cellOf env n=pure c):_)) (λe=>aB λq=>e (b7.mp q)) h [];⟨cl,(aE (λm:Sem Tab=>m>>=pure) e).trans rfl,C⟩
structure Y' (ns:vF) (h:Heap) (acc cs:Tab) (h':Heap):Prop where
 own:∀{m c},cs.lookup m=some c->((m,NameKind.cell)∈ns/\h.get? c=none/\h'.IsCell c none)\/acc.lookup m=some c
 has:∀{m},(m,NameKind.cell)∈ns\/(∃c,acc.lookup m=some c)->∃c,cs.lookup m=some c
 inj:(∀{m m' c},acc.lookup m=some c->acc.lookup m'=some c->m=m')->(∀{m c},acc.lookup m=some c->∃o,h.get? c=some o)->∀{m m' c},cs.lookup m=some c->cs.lookup m'=some c->m=m'
theorem fU (ns:vF) (h:Heap) (acc:Tab):Y' ns h acc (cellsFrom h.objs.size ns acc) (pushCells h ns):=by
 induction ns generalizing h acc with
 |nil=>exact⟨.inr,λh=>h.elim jT id,λi b=>i⟩
 |cons p ns ih=>
  obtain⟨n,k⟩:=p;by_cases e:k= .cell
  ·subst e
   have C:=ih (h.push {cls:= .type "cell",data:= .cell none}) ((n,h.objs.size)::acc);rw [Heap.size_push] at C;refine⟨λq=>(C.own q).elim (λ⟨a,b,c⟩=> .inl ⟨aQ _ a, ?_,c⟩) λq=>(mw q).elim (λ⟨a,b⟩=> .inl ?_) .inr,λq=> ?_,λi b=>C.inj (λq q'=>(mw q).elim (λ⟨a,c⟩=>(mw q').elim (λ⟨a',c'⟩=>a.trans a'.symm) λq'=> ?_) λq=>(mw q').elim (λ⟨a',c'⟩=> ?_) λq'=>i q q') λq=>(mw q).elim (λ⟨a,c⟩=>c▸⟨_,cb _ rfl⟩) λq=>let⟨o,g⟩:=b q;⟨o,bt _ _ _ _ g⟩⟩
   ·exact Option.eq_none_iff_forall_ne_some.mpr λo g=>bK (b.symm.trans (bt _ _ _ _ g))
   ·subst a;subst b;exact⟨aM,bk h,_,pushCells_keeps ns (h.push {cls:= .type "cell",data:= .cell none}) _ _ (cb _ rfl),rfl⟩
   ·rcases q with q|q
    ·exact(bz.mp q).elim (λe=>(Prod.mk.inj e).1▸C.has (.inr ⟨_,rV⟩)) λq=>C.has (.inl q)
    ·exact C.has (.inr (AW q))
   ·exact let⟨o,g⟩:=b q';absurd c.symm (cq (bk h) g)
   ·exact let⟨o,g⟩:=b q;absurd c'.symm (cq (bk h) g)
  ·have C:=ih h acc
   have n1:cellsFrom h.objs.size ((n,k)::ns) acc=cellsFrom h.objs.size ns acc:=aB λq=>e (b7.mp q);have n2:pushCells h ((n,k)::ns)=pushCells h ns:=aB λq=>e (b7.mp q);exact a6 n1 (a6 n2 ⟨λq=>(C.own q).imp_left λq=>⟨aQ _ q.1,q.2⟩,λq=>C.has (q.imp_left λq=>(bz.mp q).resolve_left λw=>e (Prod.mk.inj w).2.symm),C.inj⟩)
noncomputable def gX (scope sc:Scope):Scope:=
 {scope with names:=scope.names.map λ(n,k)=>if(k== .free&&sc.kind== .function&&sc.names.lookup n==some .cell) then(n, .cell) else(n,k)}
structure o4 (sc scope:Scope):Prop where
 kind:scope.kind= .function
 sk:sc.kind= .function
 nd:(scope.names.map (·.1)).Nodup
 free:∀{m},(m,NameKind.free)∈scope.names->sc.names.lookup m=some .cell
noncomputable def B5 (sc scope:Scope):Bool:=scope.kind== .function&&(sc.kind== .function&&(decide (scope.names.map (·.1)).Nodup&&scope.names.all λx=> !(x.2== .free)||sc.names.lookup x.1==some .cell))
theorem ED (h:B5 sc scope=true):o4 sc scope:=by
 obtain⟨a,h⟩:=aj h;obtain⟨b,h⟩:=aj h;exact⟨b7.mp a,b7.mp b,bY (aj h).1,λm=>b7.mp ((Bool.or_eq_true_iff.mp (cQ.mp (aj h).2 _ m)).resolve_left de)⟩
theorem EZ (C:o4 sc scope):(gX scope sc).names.lookup m=(scope.names.lookup m).map λk=>if k= .free then .cell else k:=by
 have key:∀{l:vF},(∀{m},(m,NameKind.free)∈l->sc.names.lookup m=some .cell)->(l.map λ(n,k)=>if(k==NameKind.free&&sc.kind== .function&&sc.names.lookup n==some .cell) then(n,NameKind.cell) else(n,k)).lookup m=(l.lookup m).map λk=>if k= .free then .cell else k:=by
  intro l h
  induction l with
  |nil=>rfl
  |cons p l ih=>
   obtain⟨n,k⟩:=p;have ih:=ih λq=>h (aQ _ q);rw [pw,jD];by_cases e:k= .free
   ·subst e
    rw [aF (by rw [C.sk,h aM];rfl),jD];cases m==n with
    |true=>rfl
    |false=>exact ih
   ·rw [aB (by rw [il.mpr e];exact cK),jD]
    cases m==n with
    |true=>exact aE some (aB e).symm
    |false=>exact ih
 exact key C.free
def Zn (Z:Addr->Prop) (h h':Heap):Addr->Prop:=λb=>Z b\/(h.get? b=none/\∃o,h'.get? b=some o)
noncomputable abbrev qm:Obj:={cls:= .type "dict",data:= .dict #[]}
noncomputable abbrev kj (h:Heap) (scope:Scope):Heap:=pushCells (h.push qm) scope.names
noncomputable abbrev zH (h:Heap) (scope:Scope) (cl:Tab):Tab:=cellsFrom (h.objs.size+1) scope.names cl
abbrev Cn (scope:Scope):PySem.Str->Prop:=λn=>∃x,fY scope x=true/\n=tx x
theorem rF {h h':Heap} {b:Addr} (k:∀b o,h.get? b=some o->h'.get? b=some o) (e:h'.get? b=none):h.get? b=none:=by
 cases q:h.get? b with
 |none=>rfl
 |some o=>exact bK (e.symm.trans (k _ _ q))
structure YZ (p:Pc) (sc scope:Scope) (gs:List Nat) (A:Around) (Z:Addr->Prop) (env sM:PySem.Env) (ρ:Env) (σ:St) (s:Shared) (hp h4:Heap):Prop where
 at_:At p (gX scope sc) gs A (Zn Z s.heap h4) sM ρ σ {s with heap:=h4}
 mv:Mv σ Z s.heap σ (Zn Z s.heap h4) h4
 new:∀{b},Tx sM (Cn scope) b->s.heap.get? b=none
 u_:∀{b o},hp.get? b=some o->¬eE env b->¬eE sM b
 kp:∀b o,hp.get? b=some o->h4.get? b=some o
section
variable{p:Pc} {c:Cx} {sc scope:Scope} {fs gs:List Nat} {A:Around} {E:Value->Shared->Prop} {Z:Addr->Prop} {env:PySem.Env} {ρ:Env} {σ:St} {s:Shared} {cl:Tab} {hp:Heap}
theorem Qy (q:Q {scope:=scope,locals:=s.heap.objs.size,globals:=env.globals,cells:=zH s.heap scope cl,qual:=env.qual,func:=none,code:=env.code,frame:=env.frame,builtins:=env.builtins} {s with heap:=kj s.heap scope}):
  wpAny c.M A (newFunctionEnv scope env.globals cl [] env.qual none .none (some env)) Q E s:=by
 simp only [newFunctionEnv,Option.isSome_some,if_true];refine aK (wpAny_alloc (aK (wpAny_layCells _ (λname kind cells=>by cases kind<;>rfl) _ _ _ _ (aK (ai (ai ?_))))));dsimp only;rw [Heap.size_push];exact q
theorem Qx (C:o4 sc scope) (S:At p sc fs A Z env ρ σ s) (cc:yL scope.names env [] cl) (k:∀b o,s.heap.get? b=some o->hp.get? b=some o) (qF:∀{x},x∈gs->x∈fs/\scope.names.lookup (tx x)=some .free):
  YZ p sc scope gs A Z env (compEnvC scope (zH hp scope cl) hp.objs.size env) ρ σ s hp (kj hp scope):=by
 have ce:=fU scope.names (hp.push qm) cl;rw [Heap.size_push] at ce;cases S.n7;have k2:∀b o,hp.get? b=some o->(kj hp scope).get? b=some o:=λb o e=>pushCells_keeps _ _ b o (bt _ _ b o e);have k4:∀b o,s.heap.get? b=some o->(kj hp scope).get? b=some o:=λb o e=>k2 b o (k b o e);have nr:∀{m c},cl.lookup m=some c->(m,NameKind.free)∈scope.names/\env.cells.lookup m=some c:=λe=>(cc.sub e).elim id bK;have gL:(hp.push qm).get? hp.objs.size=some qm:=cb _ rfl;have fL:=rF k (bk hp);have up:∀{b},(hp.push qm).get? b=none->s.heap.get? b=none:=λe=>rF k (rF (bt _ _) e);have ex:∀{m c},env.cells.lookup m=some c->∃o,s.heap.get? c=some o:=λe=>(S.cJ.ic e).elim λv eC=>eC.elim λo dQ=>dQ.elim λg r=>⟨o,g⟩;have mv:Mv σ Z s.heap σ (Zn Z s.heap (kj hp scope)) (kj hp scope):=Mv.grow k4 λb y=>y.imp_right And.left;have own:∀{m c},(zH hp scope cl).lookup m=some c->((m,NameKind.cell)∈scope.names/\(hp.push qm).get? c=none/\(kj hp scope).IsCell c none)\/((m,NameKind.free)∈scope.names/\env.cells.lookup m=some c):=λe=>(ce.own e).imp_right nr;refine⟨⟨S.room,rfl,S.inv.same (T:=X0) (λ_ h=>False.elim h) (λb o y=>k4 b o) (λb y=>y.imp_right And.left) λb y q=>q.elim False.elim λn=>(y.resolve_left n).2,⟨C.kind,S.cJ.glob,S.cJ.bi, .inr ⟨fL,_,pushCells_keeps _ _ _ _ gL⟩,⟨_,(Heap.Ns.new hp (.type "dict")).keeps (pushCells_keeps _ _)⟩,λ{m} e=> ?_,λe=>(own e).elim (λe8=>e8.elim λa eN=>eN.elim λb eD=>eD.elim λo eL=>eL.elim λg r=> .inr ⟨up b,o,g⟩) λeZ=>eZ.elim λa b=> .inl (S.cJ.zc b),
  λe=>(own e).elim (λdW=>dW.elim λa eY=>eY.elim λb r=>aL (cq b gL)) λfm=>fm.elim λa b=>(ex b).elim λo g=>cq (bk hp) (k _ _ g),λe=>(own e).elim (λeC=>eC.elim λa dQ=>dQ.elim λb r=>⟨_,r⟩) λe8=>e8.elim λa b=>(S.cJ.ic b).elim λv r=>⟨v,IsCell.to r (k4 _)⟩,ce.inj (λe e'=>S.cJ.inj (nr e).2 (nr e').2) λe=>(ex (nr e).2).elim λo g=>⟨o,bt _ _ _ _ (k _ _ g)⟩⟩,λ{x v} i e=> ?_⟩,mv,λ{b} q=> ?_,λg n q=> ?_,k2⟩
 ·have e:(gX scope env.scope).names.lookup m=some .cell:=e
  rw [EZ C] at e;obtain⟨kd,e1,e2⟩:=l_.mp e;by_cases hf:kd= .free
  ·subst hf
   exact ce.has (.inr (cc.has (.inl (pR e1))))
  ·rw [aB hf] at e2
   subst e2;exact ce.has (.inl (pR e1))
 ·obtain⟨ix,hx⟩:=qF i
  obtain⟨u,r⟩:=S.sR ix e;have hm:=pR hx;refine⟨u,r.lt,r.rv.mono mv, ?_⟩;obtain⟨c',hc⟩:=ce.has (.inr (cc.has (.inl hm)));refine(own hc).elim (λq=>nomatch (Bs C.nd q.1).symm.trans hx) λeD=>eD.elim λa b=> ?_;induction r.at_ with
  |loc k=>exact nomatch (C.free hm).symm.trans k
  | @fU a' _ l ic=>
   cases b.symm.trans l;exact .fU (.inl ((EZ C).trans (by refine a6 hx ?_;rfl))) hc (IsCell.to ic (k4 _))
 ·induction q with
  |loc e=>exact e▸fL
  |fU s e=>
   refine(own e).elim (λeL=>eL.elim λa eZ=>eZ.elim λb r=>up b) λdW=>dW.elim λa b=> ?_;obtain⟨x,hx,rfl⟩:=s;unfold fY at hx;rw [Bs C.nd a] at hx;exact no hx
 ·induction q with
  |loc e=>exact(cq (bk hp) g e).elim
  |fU s e=>exact(own e).elim (λeY=>eY.elim λa fm=>fm.elim λb r=>bK (b.symm.trans (bt _ _ _ _ g))) λeC=>eC.elim λa b=>n (.fU jE b)
end
noncomputable abbrev jh (elt:Expr) (gens:List Comprehension) (scope:Scope) (pos:Pos) (d:Nat) (acc:Value) (env:PySem.Env):Sem Unit:=
 match gens[d+1]? with
 |some g'=>do
  let x<-eval g'.iter env
  standAt g'.iter.pos
  let x<-if g'.is_async !=0 then foldedIterable g'.iter x else foldedSetIterable g'.iter env x
  let _<-runOwn (.compStart (.ListComp elt gens scope pos) (d+1) (<-holding [x] (if g'.is_async !=0 then asyncIter x else pyIter x)) acc env) env
 |none=>do let _<-call (.builtin "list.append") [acc,<-eval elt env]
noncomputable abbrev uj (kx vx:Expr) (D:Addr) (env:PySem.Env):Sem Unit:=do
 let kv<-eval kx env
 let vv<-holding [kv] (eval vx env)
 standAt {kx.pos with endLine:=vx.pos.endLine,endCol:=vx.pos.endCol}
 holding [kv,vv] (dictSet D kv vv)
noncomputable abbrev wO (ifs:List Expr) (env:PySem.Env):Sem Bool:=forIn ifs true λc r=>if r=true then do let ok<-isTrue c env (eval c env);pure (ForInStep.yield ok) else pure (ForInStep.yield r)
theorem ES:wO ifs env=allTrue .And ifs env:=by
 induction ifs with
 |nil=>rfl
 |cons a as ih=>
  have key:∀{l:List Expr},(forIn l false λc r=>if r=true then do let ok<-isTrue c env (eval c env);pure (ForInStep.yield ok) else pure (ForInStep.yield r):Sem Bool)=pure false:=by
   intro l
   induction l with
   |nil=>rfl
   |cons y l ih=>rw [m7];exact ih
  rw [arm_allTrue_cons];unfold wO;rewrite [m7];refine a6 (aF rfl) ?_;rw [bind_assoc];refine aE _ (eR λb=> ?_);cases b
  ·exact key
  ·exact ih
section
variable{c:Cx} {A:Around} {R:Result->Shared->Prop} {s:Shared}
abbrev Er (c:Cx) (A:Around) (env:PySem.Env) (R:Result->Shared->Prop):Value->Shared->Prop:=notedBy c.M A env λe s'=>R (.error e) s'
abbrev turn (c:Cx) (A:Around) (target:Expr) (ifs:List Expr) (inner:Sem Unit) (env:PySem.Env) (it:Value) (R:Result->Shared->Prop) (N:Shared->Prop) (s:Shared):Prop:=
 wpAny c.M A (pyNext it) (λr aC=>r.casesOn (R (.ok .next) aC) λv=>wpAny c.M A (letOwnedTupleGo target it v) (λx ez=>wpAny c.M A (assign target env v) (λx fZ=>
  wpAny c.M A (allTrue .And ifs env) (λok xM=>ok.casesOn (N xM) (wpAny c.M A inner (λx=>N) (Er c A env R) xM)) (Er c A env R) fZ) (Er c A env R) ez) (Er c A env R) aC) (Er c A env R) s
abbrev xd (c:Cx) (lc:Value->Addr->PySem.Env->Code) (target:Expr) (ifs:List Expr) (inner:Addr->PySem.Env->Sem Unit):Prop:=∀{A R s env it D} (I:Nat->Shared->Prop),
 (∀{n s},I n s->turn c A target ifs (inner D env) env it R (λs'=>∃m,m<n/\I m s') s)->∀{n},I n s->codeAny c.M A (lc it D env) R s
theorem Em (hg:gens[d]? =some ⟨target,iter,ifs,0⟩):
  xd c (λit D=> .compLoop (.ListComp elt gens scope pos) d it (.ref D)) target ifs λD env=>jh elt gens scope pos d (.ref D) env:=λ{A R s env it D} I tn {n} h=>by
 refine codeAny_loop' rfl I (λn s hI=> ?_) n h;show wpAny _ A ((compTurn (.ListComp elt gens scope pos) d it (.ref D) env).onRaise (λx=>do noteFrame x env;theTreesLotGoes x)) _ _ s;refine wpAny_noted ?_;unfold compTurn;dsimp only;refine a6 hg ?_;dsimp only;refine aK (dE ?_);show wpAny _ _ (pyNext it>>=_) _ _ _;refine aK (dS (tn hI) (λr aC mV=> ?_) λzz zz h'=>h');induction r with
 |none=>exact ai mV
 |some v=>
  refine aK (dS mV (λzz xi uE=>aK (dS uE (λzz ez g5=>aK (m:=wO ifs env) (cj ES (dS g5 (λok fZ hJ=> ?_) λzz zz h'=>h'))) λzz zz h'=>h')) λzz zz h'=>h');induction ok with
  |false=>exact ai (.inl ⟨rfl,hJ⟩)
  |true=>
   refine a6 (aF rfl) ?_;dsimp only at hJ;unfold jh at hJ;cases hn:gens[d+1]? with
   |none=>
    rw [hn] at hJ;exact aK (dS hJ (λzz s5 h5=>ai (.inl ⟨rfl,h5⟩)) λzz zz h'=>h')
   |some g'=>
    rw [hn] at hJ;dsimp only at hJ⊢;have fin:=aK (f:=λzz=>again (.compLoop (.ListComp elt gens scope pos) d it (.ref D) env)) (dS hJ (λzz s5 h5=>ai (Q:=λ(fin:PySem.Fin) s'=>match fin with
     |PySem.Fin.done f=>R (.ok f) s'
     |PySem.Fin.again c'=>(c'= .compLoop (.ListComp elt gens scope pos) d it (.ref D) env/\∃m,m<n/\I m s')\/(c'.quiet=true/\codeAny c.M A c' R s')) (.inl ⟨rfl,h5⟩)) λzz zz h'=>h')
    cases hb:(g'.is_async !=0)<;>simp only [hb,Bool.false_eq_true,if_false,if_true,bind_assoc,pure_bind] at fin⊢ <;>exact fin
theorem DU (hg:gens[d]? =some ⟨target,iter,ifs,0⟩)
  (h0:codeAny c.M A (.compLoop (.ListComp elt gens scope pos) d it acc env) R s)
  (h:wpAny c.M A (pyIter it) (λv9 s'=>codeAny c.M A (.compLoop (.ListComp elt gens scope pos) d v9 acc env) R s') (Er c A env R) s):
  codeAny c.M A (.compStart (.ListComp elt gens scope pos) d it acc env) R s:=by
 refine codeAny_of_tree ?_;show wpAny _ _ ((compStart (.ListComp elt gens scope pos) d it acc env).onRaise (λx=>do noteFrame x env;standAt theWindowsPlace)) _ _ s;refine wpAny_notedAt ?_;unfold compStart;have hc:(clausesOf (.ListComp elt gens scope pos))[d]? =some ⟨target,iter,ifs,0⟩:=hg;refine a6 hc ?_;show wpAny _ _ (ask>>=_) _ _ s;refine aK (wpAny_askSetting (wpAny_ite ?_))
 split
 ·first
   |exact aK (ai (ai (And.intro rfl h0)))
   |exact ai (And.intro rfl h0)
 ·first
   |exact aK (gj (aK (dE (aK (dS h (λv9 s' h'=>ai (And.intro rfl h')) λzz zz x=>x)))))
   |(refine aK (gj ?_);show wpAny _ _ (standAt iter.pos>>=_) _ _ s;exact aK (dE (aK (dS h (λv9 s' h'=>ai (And.intro rfl h')) λzz zz x=>x))))
theorem Oj:xd c (λit D=> .compLoop (.DictComp kx vx [⟨target,iter,ifs,0⟩] scope pos) 0 it (.ref D)) target ifs (uj kx vx):=λ{A R s env it D} I tn {n} h=>by
 refine codeAny_loop rfl I (λn s hI=> ?_) n h;show wpAny _ A ((compTurn (.DictComp kx vx [⟨target,iter,ifs,0⟩] scope pos) 0 it (.ref D) env).onRaise (λx=>do noteFrame x env;theTreesLotGoes x)) _ _ s;refine wpAny_noted ?_;rw [compTurn_dict];refine aK (dE (aK (dS (tn hI) (λr aC mV=> ?_) λzz zz h'=>h')));induction r with
 |none=>exact ai mV
 |some v=>
  refine aK (dS mV (λzz xi uE=>aK (dS uE (λzz ez g5=>aK (m:=wO ifs env) (cj ES (dS g5 (λok fZ hJ=> ?_) λzz zz h'=>h'))) λzz zz h'=>h')) λzz zz h'=>h');induction ok with
  |false=>exact ai ⟨rfl,hJ⟩
  |true=>exact aK (dS (show wpAny c.M A (uj kx vx D env) _ _ fZ from hJ) (λzz Z1 Wo=>ai ⟨rfl,Wo⟩) λzz zz h'=>h')
end
theorem Gb (hi:It s.heap I u i w) (r:Rv c σ Z h' w u) (S:Sq σ 2 w xs) (q:Q (.ref I) s):wpAny c.M A (pyIter (.ref I)) Q E s:=by
 have l:∀{a},u= .ref a->gx s.heap I u i->wpAny c.M A (pyIter (.ref I)) Q E s:=λe hi=>wpAny_pyIter_listiter (hi _ e) q;induction S with
 |aa=>exact r.je (G:=λu'=>u=u'->_) (λf k e=>l e hi) rfl
 |ref e=>exact r.gm (G:=λu'=>u=u'->_) (λe=>l e hi) rfl
 |tup b=>exact r.cR (G:=λu'=>u=u'->_) (λf k e=>wpAny_pyIter_tupleiter (hi _ e) q) rfl
 |dc a b=>exact wpAny_pyIter_rangeiter hi q
noncomputable abbrev sP (α:Type):=Cx->St->(Addr->Prop)->Heap->Addr->α->Prop
abbrev y7 (RA:sP α):Prop:=∀{c σ Z h a8 Z' h' D acc},(∀o,h.get? D=some o->h'.get? D=some o)->Mv σ Z h a8 Z' h'->RA c σ Z h D acc->RA c a8 Z' h' D acc
inductive oY (c:Cx) (σ:St) (Z:Addr->Prop) (h:Heap) (d:Addr) (xs:List V):Prop
 |mk {us:List Value} {ep:Nat} (at_:h.get? d=some (c5 us ep)) (l:aO c σ Z h xs us)
abbrev Dt (c:Cx) (σ:St) (Z:Addr->Prop) (h:Heap) (d:Addr) (a:List V×List V):Prop:=bc c σ Z h d a.1 a.2
theorem rj:y7 oY:=λk m r=>r.casesOn λe l=> .mk (k _ e) (l.mono m)
theorem Gk:y7 Dt:=λk m r=>bc.mono r k m
abbrev XD (env:PySem.Env) (scope:Scope) (D:Addr):Addr->Prop:=Zp (Tx env (Cn scope)) D
noncomputable abbrev jv (α:Type):=Env->St->α->(α->St->Prop)->Prop
abbrev mC (p:Pc) (scope sc:Scope) (RA:sP α) (fs:List Nat) (body:jv α) (m:Addr->PySem.Env->Sem Unit):Prop:=∀{A E Z env ρ σ s D acc k} {R:Unit->Shared->Prop},At p sc fs A Z env ρ σ s->Z D->¬eE env D->RA p.c σ Z s.heap D acc->body ρ σ acc k->
 (∀{hZ a8 s'},k hZ a8->aA p.c Z (XD env scope D) σ s a8 s'->RA p.c a8 Z s'.heap D hZ->At p sc fs A Z env ρ a8 s'->R () s')->wpAny p.c.M A (m D env) R E s
def YJ (body:jv α) (ρ:Env) (acc:α) (k:α->St->Prop) (b:Bool) (σ:St):Prop:=cond b (body ρ σ acc k) (k acc σ)
def YK (cs:BoolOp->CH->Run Bool) (K:CH) (body:jv α) (acc:α) (k:α->St->Prop) (σ:St) (ρ:Env):Prop:=cs .And K ρ σ (YJ body ρ acc k)
noncomputable def lE (t:dI) (cs:BoolOp->CH->Run Bool) (K:CH) (body:jv α) (ρ:Env):Step α:=λx σ acc k=>t.bind x ρ (YK cs K body acc k σ)
section
variable{p:Pc} {scope sc:Scope} {fs:List Nat} {A:Around} {E:Value->Shared->Prop} {Z X:Addr->Prop} {env:PySem.Env} {ρ:Env} {σ a8:St} {s s':Shared} {α:Type} {RA:sP α} {D I:Addr}
inductive WZ (p:Pc) (sc:Scope) (fs:List Nat) (A:Around) (Z X:Addr->Prop) (env:PySem.Env) (ρ:Env) (RA:sP α) (step:Step α) (fin:α->St->Prop) (w:V) (u:Value) (xs:List V) (D I:Addr) (Bl:St) (qg:Shared) (m:Nat) (s':Shared):Prop
 |mk {i:Nat} {ys:List V} {a8:St} {acc:α} (hm:m=ys.length) (hy:xs.drop i=ys) (it:It s'.heap I u i w) (r:Rv p.c a8 Z s'.heap w u) (S:At p sc fs A Z env ρ a8 s') (ra:RA p.c a8 Z s'.heap D acc) (st:aA p.c Z X Bl qg a8 s') (q:dP (eT step w xs) ys a8 acc (eX w xs fin))
theorem Ez (mono:y7 RA) {t:dI} {cs:BoolOp->CH->Run Bool} {body:jv α} {lc:Value->Addr->PySem.Env->Code} {target:Expr} {ifs:List Expr} {inner:Addr->PySem.Env->Sem Unit} (hl:xd p.c lc target ifs inner) (ht:t.aD sc target=true) (hc:t.ns.all (fY scope)=true) (hd:∀{x},x∈fs->x∉t.ns)
  (yx:Cf p sc (t.ns++fs) cs ifs) (f7:mC p scope sc RA (t.ns++fs) body inner) {w:V} {u:Value} {xs:List V} {acc:α} {k:α->St->Prop} {R:Result->Shared->Prop} (hit:It s.heap I u 0 w) (r:Rv p.c σ Z s.heap w u) (S:At p sc fs A Z env ρ σ s) (zI:Z I) (zD:Z D) (oI:¬eE env I) (oD:¬eE env D) (ne:I≠D)
  (ra:RA p.c σ Z s.heap D acc) (q:dP (eT (lE t cs p.K body ρ) w xs) xs σ acc (eX w xs k))
  (fin:∀{hZ a8 s' h4},k hZ a8->aA p.c Z (Zp (XD env scope D) I) σ s a8 s'->RA p.c a8 Z s'.heap D hZ->At p sc fs A Z env ρ a8 s'->Heap.ExtBut I s'.heap h4->R (.ok .next) {s' with heap:=h4}):codeAny p.c.M A (lc (.ref I) D env) R s:=by
 refine hl (WZ p sc fs A Z (Zp (XD env scope D) I) env ρ RA (lE t cs p.K body ρ) k w u xs D I σ s) ?_ (n:=xs.length) (.mk (i:=0) rfl rfl hit r S ra (aA.refl S.inv) q);intro m s' hI;induction hI with
 | @mk i ys a8 hZ hm hy hi r' S' j0 dU q'=>
  induction ys with
  |nil=>exact Hc S.room.hh q'.1 S'.inv r' hi (List.drop_eq_nil_iff.mp hy) λh4 iI=>fin q'.2 dU j0 S' iI
  |cons x ys=>
   obtain⟨hx,hy⟩:=Ao hy;refine Gd (X:=Zp X0 I) q'.1 S'.inv zI (.inr rfl) r' hi hx λ{h4 t4 v} rv vq gc=> ?_;have xz:∀b,Zp X0 I b->Z b:=λb q=>q.elim False.elim λ(e:b=_)=>e▸zI;have S4:At p sc fs A Z env ρ a8 {s' with heap:=h4,toks:=t4}:=S'.i_ gc xz λb q=>q.elim False.elim λ(e:b=_)=>e▸oI;have r4:=r'.mono (gc.mv xz);have Xi:=mono (λo g=>(gc.keep ⟨g,S'.inv.zp zD,λq=>q.elim False.elim (aL ne)⟩).at_) (gc.mv xz) j0;obtain⟨ob,n,io⟩:=vq.o r4 q'.1;refine t.own ht (s:={s' with heap:=h4,toks:=t4}) io (t.ok ht S4 rv q'.2 λ{Js s5} q5 Cw S5 JS=>yx S5 q5 λ{b W_ s6} q6 yh=> ?_);have mP:=(Cw.wide (X':=Tx env (Cn scope)) λb=>Tx.sub λn dQ=>dQ.elim λx e8=>e8.elim λm e=>⟨x,cQ.mp hc x m,e⟩).trans yh.gF;have tz:∀b,Tx env (Cn scope) b->Z b:=λb q=>S4.cJ.own q;have S6:=S5.step yh;have Jy:=mono (λo g=>(mP.keep ⟨g,S4.inv.zp zD,λq=>oD q.own⟩).at_) (mP.mv tz) Xi;have J_:=vq.keeps λo g=>(mP.keep ⟨g,S4.inv.zp zI,λq=>oI q.own⟩).at_;have r6:=r4.mono (mP.mv tz);have uX:=dU.trans ((gc.wide λb q=>q.elim False.elim .inr).trans (mP.wide (X':=Zp (XD env scope D) I) λb q=> .inl (.inl q)));have back:∀{Jr:St} {sb:Shared},At p sc (t.ns++fs) A Z env Js Jr sb->At p sc fs A Z env ρ Jr sb:=λS=>S.lB λm e=>⟨ij _ m,(JS (hd m)).trans e⟩;cases b
   ·exact⟨ys.length,hm▸tO _, .mk rfl hy J_ r6 (back S6) Jy uX q6⟩
   ·refine f7 S6 zD oD Jy q6 λ{Z5 Z6 s7} q7 Cv Xh S7=> ?_
    have X3:∀b,XD env scope D b->Z b:=λb q=>q.elim (tz b) λ(e:b=_)=>e▸zD;exact⟨ys.length,hm▸tO _, .mk rfl hy (J_.keeps λo g=>(Cv.keep ⟨g,S6.inv.zp zI,λq=>q.elim (λq=>oI q.own) ne⟩).at_) (r6.mono (Cv.mv X3)) (back S7) Xh (uX.trans (Cv.wide λb=> .inl)) q7⟩
end
structure Cj (p:Pc) (sc:Scope) (fs:List Nat) (A:Around) (Z:Addr->Prop) (env:PySem.Env) (ρ:Env) (σ:St) (s:Shared) (D C:Addr) (a8:St) (s':Shared):Prop where
 at_:At p sc fs A (Zp Z C) env ρ a8 s'
 i_:aA p.c (Zp Z C) X0 σ s a8 s'
 nC:∀{b o},Fz σ X0 s.heap b o->b≠C
 zC:¬Z C
 zD:¬Z D
 ne:D≠C
 ns:∃m,s'.heap.Ns C m
 sD:a8 D=none
structure G1 (p:Pc) (scope sc:Scope) (fs:List Nat) (t:dI) (cs:BoolOp->CH->Run Bool) (target:Expr) (ifs:List Expr):Prop where
 ht:t.aD sc target=true
 hc:t.ns.all (fY scope)=true
 hd:∀{x},x∈fs->x∉t.ns
 yx:Cf p sc (t.ns++fs) cs ifs
structure Kd (p:Pc) (scope sc:Scope) (fs:List Nat) (target:Expr) (ifs:List Expr) {α:Type} (RA:sP α) (mk:α->V) (a0:α) (body:jv α) (nU:Sem Value) (e:Expr) where
 oD:Obj
 lc:Value->Addr->PySem.Env->Code
 inner:Addr->PySem.Env->Sem Unit
 mono:y7 RA
 fr:oD.isFreed=false
 CA:∀{c σ Z h D},h.get? D=some oD->D≠sysModules->RA c σ Z h D a0
 res:∀{c σ Z h D acc},RA c σ Z h D acc->σ D=none->¬Z D->Rv c σ Z h (mk acc) (.ref D)
 new:∀{A E s} {Q:Value->Shared->Prop},Q (.ref s.heap.objs.size) {s with heap:=s.heap.push oD}->wpAny p.c.M A nU Q E s
 start:∀{A R s env it D},codeAny p.c.M A (lc it D env) R s->wpAny p.c.M A (pyIter it) (λv9 s'=>codeAny p.c.M A (lc v9 D env) R s') (Er p.c A env R) s->codeAny p.c.M A (.compStart e 0 it (.ref D) env) R s
 loop:xd p.c lc target ifs inner
 f7:mC p scope sc RA fs body inner
def Xz (mk:α->V) (Q:V->St->Prop) (a:α):St->Prop:=Q (mk a)
def YP (t:dI) (cs:BoolOp->CH->Run Bool) (mk:α->V) (a0:α) (body:CH->jv α) (K:CH) (ρ:Env) (Q:V->St->Prop) (w:V) (σ:St):Prop:=g_ (lE t cs K (body K) ρ) w σ a0 (Xz mk Q)
noncomputable abbrev r_ (it:ME) (t:dI) (cs:BoolOp->CH->Run Bool) (mk:α->V) (a0:α) (body:CH->jv α):CH->Run V:=λK ρ σ Q=>it.run K ρ σ (YP t cs mk a0 body K ρ Q)
section
variable{p:Pc} {sc scope:Scope} {fs gs:List Nat} {A:Around} {E:Value->Shared->Prop} {Z:Addr->Prop} {env:PySem.Env} {ρ:Env} {σ a8:St} {s s':Shared} {α:Type} {RA:sP α} {mk:α->V} {a0:α} {body:CH->jv α} {nU:Sem Value} {e iter target:Expr} {ifs:List Expr} {it:ME} {t:dI} {cs:BoolOp->CH->Run Bool} {Q:V->St->Prop} {D C:Addr} {cl:Tab} {h':Heap}
theorem EA (C:o4 sc scope) (g:G1 p scope (gX scope sc) gs t cs target ifs) (kd:Kd p scope (gX scope sc) (t.ns++gs) target ifs RA mk a0 (body p.K) nU e) (qF:∀{x},x∈gs->x∈fs/\scope.names.lookup (tx x)=some .free) (hit:bw p sc fs it.run iter)
  (S:At p sc fs A Z env ρ σ s) (cc:yL scope.names env [] cl) (q:r_ it t cs mk a0 body p.K ρ σ Q) {RR:Value->Addr->Result->Shared->Prop}
  (Ym:∀{D C a8 s' acc},Q (mk acc) a8->Cj p sc fs A Z env ρ σ s D C a8 s'->RA p.c a8 (Zp Z C) s'.heap D acc->RR (.ref D) C (.ok .next) s'):
  wpAny p.c.M A (eval iter env) (λx aC=>wpAny p.c.M A (pyIter x) (λit ez=>wpAny p.c.M A nU (λacc fZ=>wpAny p.c.M A (newFunctionEnv scope env.globals cl [] env.qual none .none (some env)) (λsM xM=>
   codeAny p.c.M A (.compStart e 0 it acc {sM with scope:=relabel scope env}) (RR acc sM.locals) xM) E fZ) E ez) E aC) E s:=
 hit S q λ{w u bZ aC} q1 r1 au=>by
  induction q1 with
  | @mk xs Sx q1=>
   have S1:=S.step au;refine zO Sx S1.inv r1 λ{o} ho hit=>kd.new (Qy ?_);have k1:=bt aC.heap o;have k2:=bt (aC.heap.push o) kd.oD;have k:∀b o',aC.heap.get? b=some o'->((aC.heap.push o).push kd.oD).get? b=some o':=λb o' e=>k2 b o' (k1 b o' e);have F:=Qx (hp:=(aC.heap.push o).push kd.oD) C S1 cc k qF;have fI:=bk aC.heap;have fD:=rF k1 (bk (aC.heap.push o));have fC:=rF k (bk ((aC.heap.push o).push kd.oD));have gI:=k2 _ _ (cb aC.heap ho);have gD:=cb (aC.heap.push o) kd.fr;have nI:=S1.inv.iC fI;have nD:=S1.inv.iC fD;have JB:(aC.heap.push o).objs.size≠aC.heap.objs.size:=aL (cq (bk _) (cb aC.heap ho));have JC:((aC.heap.push o).push kd.oD).objs.size≠aC.heap.objs.size:=aL (cq (bk _) gI);have zI:Zn Z aC.heap (kj ((aC.heap.push o).push kd.oD) scope) aC.heap.objs.size:= .inr ⟨fI,_,F.kp _ _ gI⟩;have zD:Zn Z aC.heap (kj ((aC.heap.push o).push kd.oD) scope) (aC.heap.push o).objs.size:= .inr ⟨fD,_,F.kp _ _ gD⟩;have J7:=(hit.keeps (k2 _)).keeps (F.kp _);have loop:=Ez (RA:=RA) (inner:=kd.inner) (body:=body p.K) (R:=RR (.ref (aC.heap.push o).objs.size) ((aC.heap.push o).push kd.oD).objs.size) kd.mono kd.loop g.ht g.hc g.hd g.yx kd.f7 J7 (r1.mono F.mv) F.at_ zI zD (F.u_ gI (S1.rD fI)) (F.u_ gD (S1.rD fD)) (aL JB) (kd.CA (F.kp _ _ gD) (S1.inv.sys (S1.inv.rP fD))) q1 λ{acc a8 s' h5} q' dU j0 S' hs=>by
    have hz:∀b,Zp Z ((aC.heap.push o).push kd.oD).objs.size b->Zn Z aC.heap (kj ((aC.heap.push o).push kd.oD) scope) b/\¬(b=aC.heap.objs.size):=λb y=>y.elim (λy=>⟨.inl y,λ(e:b=_)=>nI (e▸y)⟩) λ(e:b=_)=>e▸⟨F.at_.cJ.zl,JC⟩;have zy:∀b,b=aC.heap.objs.size->Zn Z aC.heap (kj ((aC.heap.push o).push kd.oD) scope) b:=λb e=>e▸zI;have yg:aA p.c (Zp Z ((aC.heap.push o).push kd.oD).objs.size) X0 bZ aC a8 {s' with heap:=h5}:=aA.xp (Y:=λb=>b=aC.heap.objs.size) (t:=s'.toks) dU (λb o' e=>F.kp b o' (k b o' e)) hz zy hs (λb e=>e▸fI)
     (λb o' e x=>x.elim (λx=>x.elim (λx=>bK ((F.new x).symm.trans e)) λ(w:b=_)=>bK ((w▸fD).symm.trans e)) λ(w:b=_)=>bK ((w▸fI).symm.trans e)) rfl rfl
    exact Ym q' ⟨S1.to (s':={s' with heap:=h5}) yg.inv (λf=>have g:=yg.keep ⟨f.at_,f.own,id⟩;⟨g.at_,g.own,λy=>y.elim f.nz λ(e:_=_)=>(cq fC f.at_ e).elim⟩) (λb o' y e=>(yg.keep ⟨e,S1.inv.zp (S1.cJ.own y),id⟩).at_) λy=> .inl (S1.cJ.own y),au.trans yg,λf e=>(cq fC (au.keep f).at_ e).elim,S1.inv.iC fC,nD,cq (bk _) gD,S'.cJ.ns.elim λm b=>⟨m,Ns.to b λo'=>hs _ _ JC⟩,S'.inv.zp zD⟩ (kd.mono (λo'=>hs _ _ JB) (Mv.sE (λb y=>(hz b y).1) zy hs) j0)
   exact kd.start loop (Gb J7 (r1.mono F.mv) Sx loop)
theorem E4 (C:o4 sc scope):∀x∈scope.names,x.2= .local->scope.names.lookup x.1=some .local:=λx hx e=>Bs C.nd (show(x.1,NameKind.local)∈scope.names from e▸hx)
theorem Cj.stop (ce:Cj p sc fs A Z env ρ σ s D C a8 s') (hs:Heap.SameBut C s'.heap h'):aA p.c Z X0 σ s a8 {s' with heap:=h'}:=
 ⟨ce.i_.inv.iY ce.zC hs.extBut,λf=>have r:=ce.i_.keep f;⟨hs.extBut _ _ (ce.nC f) r.at_,r.own,f.nz⟩,ce.i_.gens,ce.i_.os⟩
theorem FW (nr:clausesOf e=⟨target,iter,ifs,0⟩::gens) (hs:mI iter=false) (Cs:o4 sc scope) (g:G1 p scope (gX scope sc) gs t cs target ifs) (kd:Kd p scope (gX scope sc) (t.ns++gs) target ifs RA mk a0 (body p.K) nU e) (qF:∀{x},x∈gs->x∈fs/\scope.names.lookup (tx x)=some .free) (hit:bw p sc fs it.run iter)
  {R:Value->Shared->Prop} (S:At p sc fs A Z env ρ σ s) (q:r_ it t cs mk a0 body p.K ρ σ Q) (k:bR p.c Z X0 σ s Q R):wpAny p.c.M A (comprehension e scope env ps nU false (eval iter env) none) R E s:=by
 obtain⟨cl,e1,cc⟩:=Ht (sc:=scope) (env:=env) λm=>S.cJ.cell (show env.scope.names.lookup _=_ from S.n7▸Cs.free m);refine wpAny_comprehension_free (use:=none) nr (λx=>w3 hs) e1 Cs.kind (E4 Cs) (EA (RR:=λacc C=>compPost p.c.M A E none R acc C) Cs g kd qF hit S cc q λ{D C a8 s' acc} q' ce ra=> ?_);obtain⟨m,hm⟩:=ce.ns;exact⟨m,hm,λh' hs=>k q' (kd.res (kd.mono (λo=>hs.extBut _ _ ce.ne) (Mv.iY hs.extBut) ra) ce.sD ce.zD) (ce.stop hs)⟩
theorem PK (nr:clausesOf e=⟨target,iter,ifs,0⟩::gens) (hs:mI iter=false) (Cs:o4 sc scope) (g:G1 p scope (gX scope sc) gs t cs target ifs) (kd:Kd p scope (gX scope sc) (t.ns++gs) target ifs RA mk a0 (body p.K) nU e) (qF:∀{x},x∈gs->x∈fs/\scope.names.lookup (tx x)=some .free) (hit:bw p sc fs it.run iter)
  (hk:fY sc x=true) {Q:Option V->Env->St->Prop} {R:Flow->Shared->Prop} (S:At p sc fs A Z env ρ σ s) (q:r_ it t cs mk a0 body p.K ρ σ λv a8=>Q none ((x,v)::ρ) a8) (k:lP p sc fs A Z env σ s Q R):
  wpAny p.c.M A (comprehension e scope env ps nU false (eval iter env) (some (assign (.Name (tx x) bF) env))) (λv s'=>R .next s') E s:=by
 obtain⟨cl,e1,cc⟩:=Ht (sc:=scope) (env:=env) λm=>S.cJ.cell (show env.scope.names.lookup _=_ from S.n7▸Cs.free m);refine wpAny_comprehension_free (use:=some (assign (.Name (tx x) bF) env)) (Q:=λv s'=>R .next s') nr (λx=>w3 hs) e1 Cs.kind (E4 Cs) (EA (RR:=λacc C=>compPost p.c.M A E (some (assign (.Name (tx x) bF) env)) (λv s'=>R .next s') acc C) (Q:=λv a8=>Q none ((x,v)::ρ) a8) Cs g kd qF hit S cc q λ{D C a8 s' acc} q' ce ra=> ?_);show wpAny _ A (assign (.Name (tx x) bF) env (.ref D)) _ _ _;refine wpAny_assign_Name (pE ce.at_ hk (kd.res ra ce.sD λy=>y.elim ce.zD ce.ne) λ{s2} aX S2=> ?_);have oC:¬eE env C:=λy=>ce.zC (S.cJ.own y);have oz:∀{b},eE env b->Z b:=λy=>S.cJ.own y;obtain⟨m,hm⟩:=ce.ns;refine⟨m,Ns.to hm λo e=>(aX.keep ⟨e,ce.at_.inv.zp (.inr rfl),λy=>oC y.own⟩).at_,λh' hs=>k q' .next ⟨aX.inv.iY ce.zC hs.extBut,λ{b o} f=> ?_,aX.gens.trans ce.i_.gens,aX.os.trans ce.i_.os⟩
  ((S2.to (s':={s2 with heap:=h'}) (aX.inv.iY ce.zC hs.extBut) (Mv.iY hs.extBut) (λb o y=>hs.extBut b o λ(e:b=C)=>oC (e▸y)) λy=>oz y).lB λm e=>⟨aQ _ m,e⟩)⟩
 have r:=aX.keep (have r:=ce.i_.keep ⟨f.at_,f.own,id⟩;⟨r.at_,r.own,λy=>f.nz y.own⟩);exact⟨hs.extBut _ _ (ce.nC ⟨f.at_,f.own,id⟩) r.at_,r.own,f.nz⟩
end
structure MI where
 run:CH->jv (List V)
 aD:Scope->Scope->List Nat->Expr->List Comprehension->Bool
 ok:∀{p scope sc fs a rest},Fa p->aD scope sc fs a rest=true->∀{d gens pos},gens.drop (d+1)=rest->mC p scope sc oY fs (run p.K) λD env=>jh a gens scope pos d (.ref D) env
def Kf (acc:List V) (k:List V->St->Prop) (v:V) (σ:St):Prop:=acc.length<lim/\k (acc++ [v]) σ
noncomputable def emit (e:ME):CH->jv (List V):=λK ρ σ acc k=>e.run K ρ σ (Kf acc k)
theorem Ox (h:gens.drop (d+1)= []):jh a gens scope pos d v env=(do let _<-call (.builtin "list.append") [v,<-eval a env]):=by
 unfold jh;exact a6 (kQ (List.drop_eq_nil_iff.mp h)) rfl
noncomputable def MI.emit (e:ME):MI where
 run:=Internal.emit e
 aD:=λscope sc fs a rest=>rest.isEmpty&&e.aD sc fs a
 ok:=λ{p scope sc fs a rest} F h {d gens pos} hd=>by
  cases iQ.mp (aj h).1;exact λ{A E Z env ρ σ s D acc k R} S zD oD ra q fin=>cj (Ox hd) (wb (e.ok F (aj h).2 S q λ{v u bZ aC} q1 r1 au=>by
   have S1:=S.step au;cases rj (λo g=>au.at_ g (S.inv.zp zD)) au.oJ ra with
   | @mk us ep ho l=>
    refine wb (wpAny_list_append_plain (items:=us.toArray) ⟨ep,ho⟩ (λh' hp hs=> ?_) (a6 gS (a6 (aT l.len) (Nat.le_of_lt_succ (Nat.lt_succ_of_lt (gg q1.1 (by decide+kernel)))))));obtain⟨n,hp⟩:=hp;rw [List.push_toArray] at hp;have aX:∀{X:Addr->Prop},X D->aA p.c Z X bZ aC bZ {aC with heap:=h'}:=λx=>aA.but (t:=aC.toks) S1.inv zD hs.extBut ⟨_,hp⟩ x;exact ai (fin q1.2 (au.gF.trans (aX (.inr rfl))) (.mk hp ((l.append (.cons r1 .nil)).mono (Mv.but zD hs.extBut))) (S1.i_ (aX (X:=λb=>b=D) rfl) (λb (e:b=D)=>e▸zD) λb (e:b=D)=>e▸oD))))
noncomputable def xW (scope sc:Scope) (fs:List Nat) (t:dI) (cs:dw) (g:Comprehension):Bool:=g.is_async==0&&(!mI g.iter&&(t.aD sc g.target&&(t.ns.all (fY scope)&&(fs.all (λx=> !t.ns.contains x)&&cs.aD false sc (t.ns++fs) g.ifs))))
inductive Kw (p:Pc) (scope sc:Scope) (fs:List Nat) (t:dI) (cs:dw):Comprehension->Prop
 |mk {target iter:Expr} {ifs:List Expr} (hs:mI iter=false) (g:G1 p scope sc fs t cs.run target ifs):Kw p scope sc fs t cs ⟨target,iter,ifs,0⟩
theorem Aj (F:Fa p) (h:xW scope sc fs t cs g=true):Kw p scope sc fs t cs g:=by
 obtain⟨a,b,c,d⟩:=g;obtain⟨h1,h⟩:=aj h;obtain⟨h2,h⟩:=aj h;obtain⟨h3,h⟩:=aj h;obtain⟨h4,h⟩:=aj h;cases(b7.mp h1:d=0);exact .mk (dB h2) ⟨h3,h4,λ{x} m n=>(de ((dB (cQ.mp (aj h).1 x m)).symm.trans (tJ.mpr n))),cs.ok F (aj h).2⟩
theorem Nx (h:gens[d+1]? =some ⟨target,iter,ifs,0⟩):jh a gens scope pos d v env=(do
  let x<-eval iter env
  standAt iter.pos
  let x<-foldedSetIterable iter env x
  let _<-runOwn (.compStart (.ListComp a gens scope pos) (d+1) (<-holding [x] (pyIter x)) v env) env):=by
 unfold jh;refine a6 h ?_
 rfl
def Yr (t:dI) (cs:dw) (r:MI) (K:CH) (ρ:Env) (acc:List V) (k:List V->St->Prop) (w:V) (σ:St):Prop:=g_ (lE t cs.run K (r.run K) ρ) w σ acc k
noncomputable def gen (t:dI) (it:ME) (cs:dw) (r:MI):CH->jv (List V):=λK ρ σ acc k=>it.run K ρ σ (Yr t cs r K ρ acc k)
theorem Oy (hg:gens[d+1]? =some ⟨target,iter,ifs,0⟩) (hs:mI iter=false) (g:G1 p scope sc fs t cs.run target ifs) (hi:bw p sc fs it.run iter)
  (hr:mC p scope sc oY (t.ns++fs) (r.run p.K) λD env=>jh a gens scope pos (d+1) (.ref D) env):mC p scope sc oY fs (gen t it cs r p.K) λD env=>jh a gens scope pos d (.ref D) env:=λ{A E Z env ρ σ s D acc k R} S zD oD ra q fin=>
 cj (Nx hg) (wb (hi S q λ{w u bZ aC} q1 r1 au=>wb (dE (wb (cj (w3 hs) (ai (by
  induction q1 with
  | @mk xs Sx q1=>
   have S1:=S.step au;refine wb (bN (zO Sx S1.inv r1 λ{o} ho hit=>wb (wpAny_runOwn (h:=none) ?_ bK)));have nz:=S1.inv.iC (bk aC.heap);have S2:=S1.mm ho;have JD:aC.heap.objs.size≠D:=λe=>nz (e▸zD);have Xj:=rj (bt _ _ _) (rL o) (rj (λo g=>au.at_ g (S.inv.zp zD)) au.oJ ra);have loop:=Ez (RA:=oY) (body:=r.run p.K) (inner:=λD env=>jh a gens scope pos (d+1) (.ref D) env) (R:=λr s'=>match r with
     | .ok f=>wpAny p.c.M A (pure ()) R E s'
     | .error e=>cameBackBy p.c.M A env E e s') rj (Em hg) g.ht g.hc g.hd g.yx hr hit (r1.mono (rL o)) S2 (.inr rfl) (.inl zD) (S1.rD (bk _)) oD JD Xj q1 λ{hZ a8 s' h4} q' dU j0 S' iI=>ai (fin q' (au.gF.trans (aA.iY (t:=s'.toks) nz dU iI)) (rj (λo'=>iI D o' (aL JD)) (Mv.iY iI) j0) (S'.to (s':={s' with heap:=h4}) (S'.inv.iY nz iI) (Mv.iY iI) (λb o y=>iI b o λ(e:b=_)=>S1.rD (bk _) (e▸y)) λy=>S1.cJ.own y))
   exact DU hg loop (Gb hit (r1.mono (rL o)) Sx loop))))))))
theorem SR {α:Type} {l r:List α} {x:α} {d:Nat} (h:l.drop d=x::r):l[d]? =some x/\l.drop (d+1)=r:=Ao h
noncomputable def MI.gen (t:dI) (it:ME) (cs:dw) (r:MI):MI where
 run:=Internal.gen t it cs r
 aD:=λscope sc fs a rest=>rest.casesOn false λg rest=>xW scope sc fs t cs g&&(it.aD sc fs g.iter&&r.aD scope sc (t.ns++fs) a rest)
 ok:=λ{p scope sc fs a rest} F h {d gens pos} hd=>by
  induction rest with
  |nil=>exact no h
  |cons g rest=>
   obtain⟨h1,h2⟩:=aj h;obtain⟨e1,e2⟩:=SR hd;cases Aj F h1 with
   |mk hs g1=>exact λ{A E Z env ρ σ s D acc k R} S=>Oy (pos:=pos) e1 hs g1 (it.ok F (aj h2).1) (r.ok F (aj h2).2 e2) S
noncomputable def freeOf (scope:Scope) (fs:List Nat):List Nat:=fs.filter λx=>scope.names.lookup (tx x)==some .free
theorem zj (h:x∈freeOf scope fs):x∈fs/\scope.names.lookup (tx x)=some .free:=have h:=cB.mp h;⟨h.1,b7.mp h.2⟩
noncomputable def uD (t:dI) (it:ME) (cs:dw) (r:MI) (sc:Scope) (fs:List Nat) (a:Expr) (gs:List Comprehension) (scope:Scope):Bool:=gs.casesOn false λg rest=>B5 sc scope&&(xW scope (gX scope sc) (freeOf scope fs) t cs g&&(it.aD sc fs g.iter&&r.aD scope (gX scope sc) (t.ns++freeOf scope fs) a rest))
inductive Jp (p:Pc) (sc:Scope) (fs:List Nat) (t:dI) (it:ME) (cs:dw) (r:MI) (a:Expr) (scope:Scope):List Comprehension->Prop
 |mk {target iter:Expr} {ifs:List Expr} {rest:List Comprehension} (hs:mI iter=false) (C:o4 sc scope) (g:G1 p scope (gX scope sc) (freeOf scope fs) t cs.run target ifs) (hit:bw p sc fs it.run iter)
  (f7:∀{pos},mC p scope (gX scope sc) oY (t.ns++freeOf scope fs) (r.run p.K) λD env=>jh a (⟨target,iter,ifs,0⟩::rest) scope pos 0 (.ref D) env):Jp p sc fs t it cs r a scope (⟨target,iter,ifs,0⟩::rest)
section
variable{p:Pc} {sc scope:Scope} {fs:List Nat} {t:dI} {it ke ve:ME} {cs:dw} {r:MI} {a b:Expr} {gs:List Comprehension} {x:Nat}
theorem Ic (F:Fa p) (h:uD t it cs r sc fs a gs scope=true):Jp p sc fs t it cs r a scope gs:=by
 induction gs with
 |nil=>exact no h
 |cons g rest=>
  obtain⟨h1,h⟩:=aj h;obtain⟨h2,h⟩:=aj h;cases Aj F h2 with
  |mk hs g1=>exact .mk hs (ED h1) g1 (it.ok F (aj h).1) (r.ok F (aj h).2 rfl)
noncomputable def JM (f7:mC p scope sc oY fs (r.run p.K) λD env=>jh a (⟨target,iter,ifs,0⟩::rest) scope pos 0 (.ref D) env):Kd p scope sc fs target ifs oY V.aa [] (r.run p.K) (newList []) (.ListComp a (⟨target,iter,ifs,0⟩::rest) scope pos) where
 oD:=c5 [] 0
 lc:=λit D=> .compLoop (.ListComp a (⟨target,iter,ifs,0⟩::rest) scope pos) 0 it (.ref D)
 inner:=λD env=>jh a (⟨target,iter,ifs,0⟩::rest) scope pos 0 (.ref D) env
 mono:=rj
 fr:=rfl
 CA:=λe n=> .mk e .nil
 res:=λr e n=>r.casesOn λg l=> .pV ⟨g,e,n⟩ l
 new:=λq=>iO q
 start:=DU rfl
 loop:=Em rfl
 f7:=f7
noncomputable abbrev CE (t:dI) (it:ME) (cs:dw) (r:MI):CH->Run V:=r_ it t cs.run V.aa [] r.run
theorem F4 (F:Fa p) (h:uD t it cs r sc fs a gs scope=true):bw p sc fs (CE t it cs r) (.ListComp a gs scope pos):=by
 cases Ic F h with
 |mk hs C g hit f7=>exact λ{A E env ρ σ s Z Q R} S q k=>cj (eval_ListComp ..) (FW rfl hs C g (JM f7) zj hit S q k)
noncomputable def ME.c3 (t:dI) (it:ME) (cs:dw) (r:MI):ME where
 run:=CE t it cs r
 aD:=λsc fs=>AE (uD t it cs r sc fs)
 ok:=λ{p sc fs a} F=>E9 (C:=bw p sc fs (CE t it cs r)) λh=>F4 F h
theorem U8 (h:bw p sc fs m.run b) (tc:∀{env:PySem.Env},swapsWith b (some (.Name (tx x) ps)) pos.line env=pure false) (hk:fY sc x=true) 
  (S:At p sc fs A Z env ρ σ s) (q:asg x m p.K ρ σ Q) (k:lP p sc fs A Z env σ s Q R):wpAny p.c.M A (PySem.exec (.Assign [.Name (tx x) ps] b pos) env) R E s:=
 vY tc DO rfl h S q λq1 r1 au=>wpAny_assign_Name (pE (S.step au) hk r1 λst S'=>k q1 .next (au.gF.trans (st.wide λb=>Tx.own)) (S'.lB λm e=>⟨aQ _ m,e⟩))
theorem RW (F:Fa p) (h:uD t it cs r sc fs a gs scope=true) (hk:fY sc x=true):ej p sc fs (asg x (.c3 t it cs r)) (.Assign [.Name (tx x) ps] (.ListComp a gs scope bF) pos):=λ{A E env ρ σ s Z Q R} S q k=>by
 cases tc:(env.blockKind== .function&&env.kindOf (tx x)==some .local&&ps.line==bF.line&& !(scope.names.any λ(n,k)=>n==tx x&&(k== .local||k== .cell))) with
 |false=>exact vY (e:= .c3 t it cs r) (aE pure tc) DO rfl (F4 F h) S q λq1 r1 au=>wpAny_assign_Name (pE (S.step au) hk r1 λst S'=>k q1 .next (au.gF.trans (st.wide λb=>Tx.own)) (S'.lB λm e=>⟨aQ _ m,e⟩))
 |true=>
  refine cj (exec_Assign_Name_used _ _ _ _ (aE pure tc)) (wb (dE (aK ?_)));cases Ic F h with
  | @mk target iter ifs rest hs C g hit f7=>
   show wpAny _ A (do let _<-comprehension (.ListComp a (⟨target,iter,ifs,0⟩::rest) scope bF) scope env _ (newList []) false (eval iter env) (some (assign (.Name (tx x) ps) env))) _ _ s;refine aK (dS (PK rfl hs C g (JM f7) zj hit hk S (show r_ it t cs.run V.aa [] r.run p.K ρ σ (λv a8=>Q none ((x,v)::ρ) a8) from q) k) (λv s' hq=>ai (ai hq)) λzz zz e=>e)
end
noncomputable def MS.asg (x:Nat) (e:ME):MS where
 run:=Internal.asg x e
 aD:=λsc fs=>rB λts b ps=>lG (lu λm=>m==tx x&&(fY sc x&&(!ug b&&e.aD sc fs b))) ts
 ok:=λ{p sc fs a} F=>tV (C:=ej p sc fs (Internal.asg x e)) λ{ts b ps} h=>mn (C:=λts=>ej p sc fs (Internal.asg x e) (.Assign ts b ps)) (λ{t} h=>l4 (C:=λt=>ej p sc fs (Internal.asg x e) (.Assign [t] b ps)) (λ{m bF} h=>by
  obtain⟨h1,h2⟩:=aj h;cases b7.mp h1;exact λ{A E env ρ σ s Z Q R} S q k=>U8 (e.ok F (aj (aj h2).2).2) (zv (dB (aj (aj h2).2).1)) (aj h2).1 S q k) h) h
noncomputable def MS.oE (x:Nat) (t:dI) (it:ME) (cs:dw) (r:MI):MS where
 run:=Internal.asg x (.c3 t it cs r)
 aD:=λsc fs=>rB λts b ps=>lG (lu λm=>m==tx x&&(fY sc x&&AE (uD t it cs r sc fs) b)) ts
 ok:=λ{p sc fs a} F=>tV (C:=ej p sc fs (Internal.asg x (.c3 t it cs r))) λ{ts b ps} h=>mn (C:=λts=>ej p sc fs (Internal.asg x (.c3 t it cs r)) (.Assign ts b ps)) (λ{t'} h=>l4 (C:=λt'=>ej p sc fs (Internal.asg x (.c3 t it cs r)) (.Assign [t'] b ps)) (λ{m bF} h=>by
  obtain⟨h1,h2⟩:=aj h;cases b7.mp h1;exact E9 (C:=λb=>ej p sc fs (Internal.asg x (.c3 t it cs r)) (.Assign [.Name (tx x) bF] b ps)) (λh'=>RW F h' (aj h2).1) (aj h2).2) h) h
def Yy (d:List V×List V) (k:List V×List V->St->Prop) (x v:V) (σ:St):Prop:=aR 8 x=true/\d.1.length<lim/\k (bW x d.1,cz x v d.1 d.2) σ
def Yz (ve:ME) (K:CH) (ρ:Env) (d:List V×List V) (k:List V×List V->St->Prop) (x:V) (σ:St):Prop:=ve.run K ρ σ (Yy d k x)
noncomputable def uH (ke ve:ME):CH->jv (List V×List V):=λK ρ σ d k=>ke.run K ρ σ (Yz ve K ρ d k)
noncomputable abbrev JE (d:List V×List V):V:= .aN d.1 d.2
theorem Nw (hk:bw p sc fs ke.run ak) (hv:bw p sc fs ve.run av):mC p scope sc Dt fs (uH ke ve p.K) (uj ak av):=λ{A E Z env ρ σ s D acc k R} S zD oD ra q fin=>
 wb (hk S q λq1 r1 au=>wb (bN (hv (S.step au) q1 λ{vv uv pY ez} q2 r2 aX=>wb (dE (bN (by
  have st:=au.trans aX;have S2:=S.step st;have D2:=Gk (λo g=>st.at_ g (S.inv.zp zD)) st.oJ ra;refine vX (S.room.room (by decide)) D2 q2.1 (aX.rv r1) r2 q2.2.1 (iL.res zD D2 λ{h'} hs D' t=> ?_);have cN:∀{X:Addr->Prop},X D->aA p.c Z X pY ez pY {ez with heap:=h',toks:=t}:=λx=>aA.but S2.inv zD hs.extBut D'.ex x;exact fin q2.2.2 (st.gF.trans (cN (.inr rfl))) D' (S2.i_ (cN (X:=λb=>b=D) rfl) (λb (e:b=D)=>e▸zD) λb (e:b=D)=>e▸oD)))))))
noncomputable def Iu (ke ve:ME) (t:dI) (it:ME) (cs:dw) (sc:Scope) (fs:List Nat) (a b:Expr) (gs:List Comprehension) (scope:Scope):Bool:=gs.casesOn false λg rest=>rest.isEmpty&&(B5 sc scope&&(xW scope (gX scope sc) (freeOf scope fs) t cs g&&(it.aD sc fs g.iter&&(ke.aD (gX scope sc) (t.ns++freeOf scope fs) a&&ve.aD (gX scope sc) (t.ns++freeOf scope fs) b))))
noncomputable def XO (f7:mC p scope sc Dt fs (uH ke ve p.K) (uj a b)):Kd p scope sc fs target ifs Dt JE ([], []) (uH ke ve p.K) newDict (.DictComp a b [⟨target,iter,ifs,0⟩] scope pos) where
 oD:=bp [] 0
 lc:=λit D=> .compLoop (.DictComp a b [⟨target,iter,ifs,0⟩] scope pos) 0 it (.ref D)
 inner:=uj a b
 mono:=Gk
 fr:=rfl
 CA:=λe n=> .mk e cY .nil n
 res:=bc.frozen
 new:=λq=>iO q
 start:=codeAny_compStart_dict
 loop:=Oj
 f7:=f7
noncomputable abbrev Dk (ke ve:ME) (t:dI) (it:ME) (cs:dw):CH->Run V:=r_ it t cs.run JE ([], []) (uH ke ve)
theorem PJ (F:Fa p) (h:Iu ke ve t it cs sc fs a b gs scope=true):bw p sc fs (Dk ke ve t it cs) (.DictComp a b gs scope pos):=by
 induction gs with
 |nil=>exact no h
 |cons g rest=>
  obtain⟨h0,h⟩:=aj h;obtain⟨h1,h⟩:=aj h;obtain⟨h2,h⟩:=aj h;obtain⟨h3,h4⟩:=aj h;cases iQ.mp h0;cases Aj F h2 with
  |mk hs g1=>exact λ{A E env ρ σ s Z Q R} S q k=>FW rfl hs (ED h1) g1 (XO (Nw (ke.ok F (aj h4).1) (ve.ok F (aj h4).2))) zj (it.ok F h3) S q k
noncomputable def ME.Ir (ke ve:ME) (t:dI) (it:ME) (cs:dw):ME where
 run:=Dk ke ve t it cs
 aD:=λsc fs=>GF (Iu ke ve t it cs sc fs)
 ok:=λ{p sc fs a} F=>NU (C:=bw p sc fs (Dk ke ve t it cs)) λh=>PJ F h
structure Fn where
 addr:Addr
 params:List Nat
 body:aH
 keep:Bool
structure qQ where
 addr:Addr
 init:Fn
structure tD where
 fn:Nat->Option Fn
 cls:Nat->Option qQ
 aZ:Addr->Nat->Option Fn
 at_:Addr->Option Fn
 gl:Nat->Option V
 i0:Addr->Nat->Bool
noncomputable abbrev left (keep:Bool) (σ a8:St):St:=cond keep a8 (back a8 σ)
structure se (K:CH) (fd:Fn) (as:List V) (σ:St) (Q:V->St->Prop):Prop where
 len:fd.params.length=as.length
 run:fd.body.run K (fd.params.zip as) σ λr ρ a8=>Q (r.getD .none) (left fd.keep σ a8)
def Aa (K:CH) (c:qQ) (as:List V) (σ:St) (Q:V->St->Prop):Prop:=
 ∀a dx,a≠dx->σ a=none->σ dx=none->se K c.init (.ref a::as) (upd (upd σ dx (.cx a)) a (.inst c.addr dx [])) λv a8=>v= .none/\Q (.ref a) a8
def sU (K:CH) (o:Option Fn) (as:List V) (σ:St) (Q:V->St->Prop) (z:Prop):Prop:=o.rec z λfd=>se K fd as σ Q
def CB (K:CH) (o:Option qQ) (as:List V) (σ:St) (Q:V->St->Prop):Prop:=o.rec False λc=>Aa K c as σ Q
noncomputable abbrev uy (T:tD) (K:CH):CH:=⟨K.fn,K.aZ,K.bound,λC n=>(T.aZ C n).map (·.addr),T.gl,T.i0⟩
noncomputable def xC (T:tD) (n:Nat):CH:=n.rec ⟨λf as σ Q=>False,λC m as σ Q=>False,λf as σ Q=>False,λC n=>none,λn=>none,λC n=>false⟩ λn K=>
 ⟨λf as σ Q=>sU (uy T K) (T.fn f) as σ Q (CB (uy T K) (T.cls f) as σ Q),λC m as σ Q=>sU (uy T K) (T.aZ C m) as σ Q False,λf as σ Q=>sU (uy T K) (T.at_ f) as σ Q False,λC n=>none,λn=>none,λC n=>false⟩
noncomputable def jO (T:tD) (n:Nat):CH:=uy T (xC T n)
structure EI (D:FuncData) (ns:List PySem.Str):Prop where
 po:D.params.posonlyargs= []
 ar:D.params.args.map (·.arg)=ns
 va:D.params.vararg=none
 kw:D.params.kwonlyargs= []
 ka:D.params.kwarg=none
 df:D.defaults= .none
 nd:ns.Nodup
theorem QU {α:Type} {ns:List PySem.Str} {vs:List α} {m:PySem.Str} (hl:ns.length=vs.length) (h:m∈ns):∃v,(ns.zip vs).lookup m=some v:=by
 induction ns generalizing vs with
 |nil=>exact jT h
 |cons n ns ih=>
  induction vs with
  |nil=>exact eh hl
  |cons u vs=>exact(bz.mp h).elim (λe=>⟨u,e▸rV⟩) λh=>AW (ih (d7 hl) h)
theorem QW {α:Type} {ns:List PySem.Str} {vs:List α} (nd:ns.Nodup) (hl:ns.length=vs.length):ns.filterMap (λn=>((ns.zip vs).lookup n).map (n,·))=ns.zip vs:=by
 have key:∀{ns:List PySem.Str} {vs:List α} {f:PySem.Str->Option (PySem.Str×α)},ns.Nodup->ns.length=vs.length->(∀{n},n∈ns->f n=((ns.zip vs).lookup n).map (n,·))->ns.filterMap f=ns.zip vs:=by
  intro ns
  induction ns with
  |nil=>exact λnd hl h=>rfl
  |cons n ns ih=>
   intro vs f nd hl h;have nd:=cG.mp nd;induction vs with
   |nil=>exact eh hl
   |cons u vs=>
    have e:=h aM;rw [q_,rV] at e;rewrite [List.filterMap_cons_some e,ih nd.2 (d7 hl) λ{m} w=>(h (aQ _ w)).trans ?_]
    ·rfl
    ·refine a6 q_ (a6 jD ?_);rw [il.mpr λ(e:m=n)=>nd.1 (e▸w)]
 exact key nd hl λm=>rfl
theorem OO {a b c d e g i j k l m n o:_} {as:List Arg} {gs:List Expr} {hs:List (Option Expr)} {ns:List PySem.Str} {us:List Value} (ar:as.map (·.arg)=ns) (nd:ns.Nodup) (hl:ns.length=us.length):
  bindArgs {name:=a,qualname:=b,params:=⟨[],as,none, [],hs,none,gs⟩,body:=c,scope:=d,globals:=e,closure:=g,defaults:= .none,kwdefaults:=i,doc:=j,pyModule:=k,annotations:=l,code:=m,closureTuple:=n,builtins:=o} ⟨us, []⟩=pure (ns.zip us):=by
 have h0:List.drop (0 -ns.length) ([]:List Value)= []:=List.drop_nil;have h1:¬(us.length>ns.length&&(none:Option Arg).isNone)=true:=λh=>absurd (bY (aj h).1) (hl▸tS _);have h2:¬(!((ns.take (ns.length -(List.drop (0 -ns.length) ([]:List Value)).length)).filter λn=>((ns.zip us).lookup n).isNone).isEmpty)=true:=by
  rewrite [h0,kX,Nat.sub_zero,List.take_length,tI.mpr λn m=> ?_]
  ·exact de
  ·obtain⟨v,e⟩:=QU hl m
   exact a6 e de
 have h3:(ns.drop (ns.length -(List.drop (0 -ns.length) ([]:List Value)).length)).zip (List.drop (0 -ns.length) ([]:List Value))= []:=by exact a6 h0 (a6 List.zip_nil_right rfl)
 subst ar;exact(aB h1).trans ((aB h2).trans ((aE (λX=>forIn X _ _>>=_) h3).trans (by show(pure (List.filterMap (λn=>(((as.map (·.arg)).zip us).lookup n).map (n,·)) (as.map (·.arg)++ [])):Sem (List (PySem.Str×Value)))=_;exact aE pure ((aE (List.filterMap _) (d6 _)).trans (QW nd hl)))))
theorem NH (h:EI D ns) (hl:ns.length=us.length):bindArgs D ⟨us, []⟩=pure (ns.zip us):=by
 obtain⟨a,b,⟨p1,p2,p3,p4,p5,p6,p7⟩,c,d,e,g,f,i,j,k,l,m,n,o⟩:=D;obtain⟨po,ar,va,kw,ka,df,nd⟩:=h;cases(po:p1= []);cases(va:p3=none);cases(kw:p4= []);cases(ka:p6=none);cases(df:f= .none);exact OO ar nd hl
section
variable{c:Cx} {Z X:Addr->Prop} {σ a8:St} {s s':Shared} {h:Heap}
theorem EG (e:a8 b=none):back a8 σ b=none:=by
 unfold back;cases σ b with
 |none=>refine a6 e ?_;rfl
 |some m=>exact e
theorem QL (e:a8 dx=some (.cx a)):back a8 σ dx=some (.cx a):=by
 unfold back;cases σ dx with
 |none=>refine a6 e ?_;rfl
 |some m=>exact e
theorem zt (e:back a8 σ b=some mo):a8 b=some mo:=by
 unfold back at e;cases h:σ b with
 |none=>
  rw [h] at e;cases h':a8 b with
  |none=>rw [h'] at e;exact bK e
  |some m=>rw [h'] at e;cases m<;>first|exact e|exact bK e
 |some m=>rw [h] at e;exact e
theorem Mv.back:Mv a8 Z h (Internal.back a8 σ) Z h:=λf=>⟨f.at_,EG f.own,f.nz⟩
theorem Inv.back (I:Inv c a8 Z h):Inv c (back a8 σ) Z h:=
 ⟨I.top,λe=>I.jX (zt e),λe=>I.nz (zt e),I.res,λe=>Ro.casesOn (I.obj (zt e)) (λho l=> .list ho (l.mono Mv.back)) (λho n l=> .dict ho n (l.mono Mv.back)) (λho y n he l=> .inst ho (QL y) n he (l.mono Mv.back)) λb=> .cx b⟩
theorem aA.left (a:aA c Z X σ s a8 s'):aA c Z X σ s (left k σ a8) s':=by
 cases k
 ·exact⟨a.inv.back,λf=>have r:=a.keep f;⟨r.at_,EG r.own,r.nz⟩,a.gens,a.os⟩
 ·exact a
theorem Mv.left:Mv a8 Z h (Internal.left k σ a8) Z h:=by
 cases k
 ·exact Mv.back
 ·exact id
end
theorem OP {kf:PySem.Str->Option NameKind} {x:PySem.Str} {u:Value} {ns:List PySem.Str} {us:List Value} {m:PySem.Str->Option Value} (nd:ns.Nodup) (hk:kf x=some .local) (h:(ns.zip us).lookup x=some u\/(x∉ns/\m x=some u)):PySem.bindL kf (ns.zip us) m x=some u:=by
 induction ns generalizing us m with
 |nil=>exact h.elim bK (·.2)
 |cons n ns ih=>
  induction us with
  |nil=>exact h.elim bK (·.2)
  |cons v us=>
   have nd:=cG.mp nd;refine a6 q_ ?_;rw [PySem.bindL];refine ih nd.2 ?_;rcases h with h|h
   ·rcases mw h with⟨a,b⟩|h
    ·subst a;subst b;exact .inr ⟨nd.1,a6 (aF hk) (aF rfl)⟩
    ·exact .inl h
   ·refine .inr ⟨λq=>h.1 (aQ _ q), ?_⟩
    split
    ·exact(aB λ(e:x=n)=>h.1 (e▸aM)).trans h.2
    ·exact h.2
theorem OQ {kf:PySem.Str->Option NameKind} {x:PySem.Str} {u:Value} {ns:List PySem.Str} {us:List Value} {m:PySem.Str->Option Value} (nd:ns.Nodup) (hk:kf x≠some .local) (h:(ns.zip us).lookup x=some u\/(x∉ns/\m x=some u)):PySem.bindC kf (ns.zip us) m x=some u:=by
 induction ns generalizing us m with
 |nil=>exact h.elim bK (·.2)
 |cons n ns ih=>
  induction us with
  |nil=>exact h.elim bK (·.2)
  |cons v us=>
   have nd:=cG.mp nd;refine a6 q_ ?_;rw [PySem.bindC];refine ih nd.2 ?_;rcases h with h|h
   ·rcases mw h with⟨a,b⟩|h
    ·subst a;subst b;exact .inr ⟨nd.1,a6 (aB hk) (aF rfl)⟩
    ·exact .inl h
   ·refine .inr ⟨λq=>h.1 (aQ _ q), ?_⟩
    split
    ·exact h.2
    ·exact(aB λ(e:x=n)=>h.1 (e▸aM)).trans h.2
theorem Nr {c:Cx} {σ:St} {Z:Addr->Prop} {h:Heap} {x:Nat} {v:V} {G:Prop} {ps:List Nat} {vs:List V} {us:List Value} (hl:∀{y},y∈ps->y<bJ.length) (r:aO c σ Z h vs us) (e:(ps.zip vs).lookup x=some v) (k:∀{u},x∈ps->((ps.map tx).zip us).lookup (tx x)=some u->Rv c σ Z h v u->G):G:=by
 induction ps generalizing vs us with
 |nil=>exact bK e
 |cons p ps ih=>
  induction vs with
  |nil=>exact bK e
  |cons v' vs=>
   induction us with
   |nil=>exact eh r.len
   |cons u us=>
    have r1:Rv c σ Z h v' u:=r.at_ (i:=0) rfl rfl;have r2:aO c σ Z h vs us:=⟨d7 r.len,λ{i x u} a b=>r.at_ (i:=i+1) a b⟩;by_cases q:x=p
    ·subst q
     rw [q_,pz] at e;cases cL e;exact k aM rV r1
    ·rw [q_,kZ q] at e
     refine ih (λm=>hl (aQ _ m)) r2 e λ{w} m e1 r3=>k (aQ _ m) (a6 pw (a6 q_ (a6 jD ?_))) r3;rw [il.mpr λe=>q (jK (hl (aQ _ m)) (hl aM) e)];exact e1
structure FnAt (c:Cx) (fd:Fn) (D:FuncData) (b:List Stmt):Prop where
 at_:∃o,c.F.lookup fd.addr=some o/\o.data= .func D
 code:codeIn c.F D.code D.qualname=true
 glob:D.globals=mainGlobals
 bi:D.builtins=builtinsNs
 YL:D.closure= []
 body:D.body= .stmts b
 co:D.scope.isCoroutine=false
 gen:D.scope.isGenerator=false
 kind:D.scope.kind= .function
 BP:EI D (fd.params.map tx)
 kinds:∀{x},x∈fd.params->fY D.scope x=true
inductive Good (c:Cx) (fd:Fn):Prop
 |mk {D:FuncData} {b:List Stmt} {fs:List Nat} (f:FnAt c fd D b) (h:fd.body.aD D.scope fs b=true):Good c fd
section
variable{c:Cx} {K:CH} {n:Nat} {A:Around} {E:Value->Shared->Prop} {Z:Addr->Prop} {σ:St} {s:Shared} {fd:Fn} {vs:List V} {us:List Value} {Q:V->St->Prop} {R:Value->Shared->Prop}
theorem G8 (h:fY sc x=true):sc.names.lookup (tx x)=some .local\/sc.names.lookup (tx x)=some .cell:=(Bool.or_eq_true_iff.mp (aj h).1).imp b7.mp b7.mp
theorem wD (h:fY sc x=true):x<bJ.length:=bY (aj h).2
theorem zr {sc:Scope} {h:Heap} {m:PySem.Str} (e:sc.names.lookup m=some .cell):∃a,(cellsFrom (h.objs.size+1) sc.names []).lookup m=some a:=by
 have C:=fU sc.names (h.push qm) [];rw [Heap.size_push] at C;exact C.has (.inl (pR e))
theorem S_ {D:FuncData} {b:List Stmt} {fs:List Nat} {aC:Shared} (f:FnAt c fd D b) (hA:lZ (n+1) A) (I:Inv c σ Z s.heap) (l:aO c σ Z s.heap vs us)
  (x:InCallC s (callEnvC D s.heap.objs.size fd.addr).locals (PySem.bindL (callEnvC D s.heap.objs.size fd.addr).kindOf ((fd.params.map tx).zip us) λzz=>none) (callEnvC D s.heap.objs.size fd.addr).cells (PySem.bindC (callEnvC D s.heap.objs.size fd.addr).kindOf ((fd.params.map tx).zip us) λzz=>none) aC) {k1:∀b o,s.heap.get? b=some o->aC.heap.get? b=some o}:
  At ⟨c,K,n⟩ D.scope fs (A.deeper (callEnvC D s.heap.objs.size fd.addr)) (Zn Z s.heap aC.heap) (callEnvC D s.heap.objs.size fd.addr) (fd.params.zip vs) σ aC/\∀{b},eE (callEnvC D s.heap.objs.size fd.addr) b->s.heap.get? b=none:=by
 have ab:∀{m a},(callEnvC D s.heap.objs.size fd.addr).cells.lookup m=some a->s.heap.objs.size<a:=λe=>x.above _ _ (pR e);have new:∀{m a},(callEnvC D s.heap.objs.size fd.addr).cells.lookup m=some a->s.heap.get? a=none:=λ{m a} e=>by
  cases q:s.heap.get? a with
  |none=>rfl
  |some o=>exact absurd (kY q) (iq.mpr (jd (ab e)))
 have ns:=x.toInCall.ns;refine⟨⟨⟨hA.hh, ?_, ?_⟩,rfl,I.same (T:=X0) (λ_ h=>False.elim h) (λb o y=>k1 b o) (λb y=>y.imp_right And.left) λb y q=>q.elim False.elim λw=>(y.resolve_left w).2,⟨f.kind,f.glob,f.bi, .inr ⟨bk _,ns.elim λo eN=>eN.elim λes eD=>eD.elim λep eL=>eL.elim λg r=>⟨o,g⟩⟩,⟨_,ns⟩,λe=>zr e,λe=> .inr ⟨new e,(x.cell _ _ e).elim λo eZ=>eZ.elim λg r=>⟨o,g⟩⟩,λe=>Nat.ne_of_gt (ab e),λe=>⟨_,x.cell _ _ e⟩,λe e'=>name_of_addr x.apart (pR e) (pR e')⟩,λ{y v} i e=> ?_⟩,λq=>q.casesOn (λe=>e▸bk _) λzz e=>new e⟩
 ·exact yk (i:=3) (by decide) hA.un
 ·exact yk (i:=1) (by decide) hA.dp
 ·refine Nr (λm=>wD (f.kinds m)) l e λ{u} m hu r=>⟨u,wD (f.kinds m),r.mono (Mv.grow k1 λb y=>y.imp_right And.left), ?_⟩
  rcases G8 (f.kinds m) with hk|hk
  ·exact .loc hk ns (OP f.BP.nd hk (.inl hu))
  ·obtain⟨a,ha⟩:=zr (h:=s.heap) hk
   have hn:(callEnvC D s.heap.objs.size fd.addr).kindOf (tx y)≠some .local:=λq=>nomatch hk.symm.trans q;exact .fU (.inl hk) ha (OQ f.BP.nd hn (.inl hu)▸x.cell _ _ ha)
theorem uc (G:Good c fd) (F:Fa ⟨c,K,n⟩) (hA:lZ (n+1) A) (I:Inv c σ Z s.heap) (l:aO c σ Z s.heap vs us) (q:se K fd vs σ Q) (k:bR c Z X0 σ s Q R):codeAny c.M A (.call (.ref fd.addr) ⟨us, []⟩) (RP E R) s:=by
 induction G with
 | @mk D b fs f h=>
  obtain⟨o,ho,hd⟩:=f.at_;have X:=I.lW;refine codeAny_call_cells (binds:=(fd.params.map tx).zip us) (J2 hA.dp) (X _ _ ho) hd (c.nl.keeps λb o=>I.top) (codeRec_of X f.code) f.body (NH f.BP (by rewrite [b0];exact a6 q.len (a6 l.len rfl))) f.YL ?_ (λaC x=> ?_) f.co f.gen f.kind
  ·rintro ⟨y,u⟩ hy
   obtain⟨p,hp,rfl⟩:=bB.mp (List.of_mem_zip hy).1;exact(G8 (f.kinds hp)).imp_right λe=>⟨e,(zr (h:=s.heap) e).elim λa h=>by refine a6 h ?_;rfl⟩
  ·obtain⟨mV,tk,rfl,k1⟩:=x.done
   obtain⟨S,own⟩:=S_ (K:=K) (fs:=fs) f hA I l x (k1:=k1);refine fd.body.ok F h S q.run λ{o' gN a8 f' s'} q' f1 st S'=> ?_;have dU:aA c Z X0 σ s (left fd.keep σ a8) s':=aA.left (aA.Hs (s:=s) st k1 (λb=> .inl) (λb o e y=>bK ((own y).symm.trans e)) rfl rfl);induction f1 with
   |next=>exact k q' .none dU
   |ret r=>exact k q' ((r.mono (Mv.less λb=> .inl)).mono Mv.left) dU
end
structure Bd (c:Cx) (k:qQ):Prop where
 Xy:makesIn c.F k.addr=true
 XR:findIn c.F (.ref k.addr) "__init__"=some (some (.ref k.init.addr))
 typ:typeIn c.F (.ref k.init.addr)=some (.type "function")
 good:Good c k.init
structure IF (c:Cx) (T:tD):Prop where
 vB:∀x∈ko,c.mg x.1=none/\c.mb x.1=some x.2
 yE:∀{f},G0 f=true->∃fv,Glob ⟨c,jO T 0,0⟩ f fv/\∀{h},c.F.In h->jN c.M h fv
 oW:∀{x},L0 x=true->∃fv,Glob ⟨c,jO T 0,0⟩ x fv/\∀{v σ Z h},T.gl x=some v->Inv c σ Z h->Rv c σ Z h v fv
 vC:∀{C x},T.i0 C x=true->so c.F C/\findIn c.F (.ref C) (tx x)=some none
 vy:∀{C m fd},T.aZ C m=some fd->uu c.F C m fd.addr/\Good c fd
 fn:∀{f fd},T.fn f=some fd->c.mg (tx f)=some (.ref fd.addr)/\Good c fd
 cls:∀{f k},T.fn f=none->T.cls f=some k->c.mg (tx f)=some (.ref k.addr)/\Bd c k
 at_:∀{f fd},T.at_ f=some fd->fd.addr=f/\(fnIn c.F f=true/\Good c fd)
section
variable{c:Cx} {K:CH} {n:Nat} {A:Around} {E:Value->Shared->Prop} {Z:Addr->Prop} {σ:St} {s:Shared} {vs:List V} {us:List Value} {Q:V->St->Prop} {R:Value->Shared->Prop} {T:tD}
theorem lZ.less (h:lZ n A) (l:m<=n):lZ m A:=⟨h.hh,az (bG (aU (eQ 20 l) _) 100) h.un,az (bG (aU (eQ 3 l) _) 10) h.dp⟩
theorem call_cls (G:Bd c k) (F:Fa ⟨c,K,n⟩) (hA:lZ (n+2) A) (I:Inv c σ Z s.heap) (l:aO c σ Z s.heap vs us) (q:Aa K k vs σ Q) (kk:bR c Z X0 σ s Q R):codeAny c.M A (.call (.ref k.addr) ⟨us, []⟩) (RP E R) s:=by
 obtain⟨h,gn,d,t,os⟩:=s;have X:=I.lW;refine make_core (makes_of X G.Xy) (looks_findIn X G.XR) (λself=>bind_fn X self G.typ) (.inl rfl) (a6 (aT (Heap.size_push h emptyDict)) ?_);have au:=aA.alloc (X:=X0) (s:=⟨h,gn,d,t,os⟩) (o:=emptyDict) (mo:= .cx (h.push emptyDict).objs.size) I rfl (.cx _);have aX:=aA.alloc (X:=X0) (o:=instObj k.addr h.objs.size) (mo:= .inst k.addr h.objs.size []) au.inv rfl (.inst (es:= []) (e:=0) (cb _ rfl) ((rI (cq (bk _) (cb h (o:=emptyDict) rfl))).trans (EO _ _ _)) cY (bt _ _ _ _ (cb h (o:=emptyDict) rfl)) .nil);have ne:=cq (bk (h.push emptyDict)) (cb h (o:=emptyDict) rfl);have q1:=q _ _ (aL ne) (I.fresh (rF (bt _ _) (bk _))) (I.fresh (bk _));refine codeAny_mono (uc (R:=λu s'=>u= .none/\R (.ref (h.push emptyDict).objs.size) s') (E:=E) G.good F ⟨hA.hh, ?_, ?_⟩ aX.inv (.cons (.ref _) ((l.mono au.oJ).mono aX.oJ)) q1 λ{v u a8 s'} q' r dU=>⟨?_,kk q'.2 (.ref _) ((au.trans aX).trans dU)⟩) λrr s' hr=> ?_
 ·exact yk (i:=1) (by decide) hA.un
 ·exact yk (i:=1) (by decide) hA.dp
 ·cases q'.1;exact r.none_inv rfl
 ·induction rr with
  |error e=>exact hr
  |ok fl=>induction fl with
   |ret u=>exact hr
   |_=>exact hr.elim
theorem AR {o:Option Fn} {z G:Prop} (h:sU K o vs σ Q z) (a:∀{fd},o=some fd->se K fd vs σ Q->G) (b:o=none->z->G):G:=by
 induction o with
 |none=>exact b rfl h
 |some fd=>exact a rfl h
theorem U4 {o:Option qQ} {G:Prop} (h:CB K o vs σ Q) (a:∀{k},o=some k->Aa K k vs σ Q->G):G:=by
 induction o with
 |none=>exact h.elim
 |some k=>exact a rfl h
theorem Uv (t:IF c T) (n:Nat):Fa ⟨c,jO T n,2*n⟩:=by
 have fg:∀{f},G0 f=true->∃fv,Glob ⟨c,jO T n,2*n⟩ f fv/\∀{h},c.F.In h->jN c.M h fv:=λh=>(t.yE h).elim λfv dW=>dW.elim λg k=>⟨fv,⟨g.lt,g.mg⟩,k⟩;have gl:∀{x},L0 x=true->∃fv,Glob ⟨c,jO T n,2*n⟩ x fv/\∀{v σ Z h},T.gl x=some v->Inv c σ Z h->Rv c σ Z h v fv:=λh=>(t.oW h).elim λfv eY=>eY.elim λg k=>⟨fv,⟨g.lt,g.mg⟩,k⟩;have fd:∀{C m f},(T.aZ C m).map (·.addr)=some f->uu c.F C m f:=λe=>(l_.mp e).elim λfd q=>q.2▸(t.vy q.1).1
 induction n with
 |zero=>exact⟨t.vB,fg,gl,t.vC,fd,λe q=>q.elim,λe q=>q.elim,λq=>q.elim⟩
 |succ n ih=>
  have F:=ih (λh=>(t.yE h).elim λfv eC=>eC.elim λg k=>⟨fv,⟨g.lt,g.mg⟩,k⟩) λh=>(t.oW h).elim λfv dQ=>dQ.elim λg k=>⟨fv,⟨g.lt,g.mg⟩,k⟩;have l1:2*n+1<=2*(n+1):=gU _;refine⟨t.vB,fg,gl,t.vC,fd,λ{f fv vs σ Q} e q=>AR (K:=jO T n) q (λ{d} e1 w=> ?_) λe1 w=>U4 w λ{k} e2 w=> ?_,λ{C m f vs σ Q} e q=>AR (K:=jO T n) q (λ{d} e1 w=> ?_) λe w=>w.elim,λ{f vs σ Q} q=>AR (K:=jO T n) q (λ{d} e1 w=> ?_) λe w=>w.elim⟩
  ·cases(t.fn e1).1.symm.trans e
   exact λhA I l k=>uc (t.fn e1).2 F (hA.less l1) I l w k
  ·cases(t.cls e1 e2).1.symm.trans e
   exact λhA I l k=>call_cls (t.cls e1 e2).2 F hA I l w k
  ·have e:(T.aZ C m).map (·.addr)=some f:=e
   rw [e1] at e;cases e;exact λhA I l k=>uc (t.vy e1).2 F (hA.less l1) I l w k
  ·obtain⟨rfl,h2,G⟩:=t.at_ e1
   exact⟨h2,λ{us s A E Z R} hA I l k=>uc G F (hA.less l1) I l w k⟩
end
def W (lt:Nat->Nat->Bool) (n:Nat) (post:α->Prop) (t:KasT α):Prop:=t.rec post λi j k ih=>(i<n/\j<n)/\ih (lt i j)
section
variable{lt:Nat->Nat->Bool} {n:Nat} {α β:Type}
theorem W.bind (h:W lt n (λa=>W lt n post (f a)) t):W lt n post (t.bind f):=by
 induction t with
 |ret a=>exact h
 |ask i j k ih=>exact⟨h.1,ih _ h.2⟩
theorem W.mono (h:W lt n p t) (k:∀{a},p a->q a):W lt n q t:=by
 induction t with
 |ret a=>exact k h
 |ask i j f ih=>exact⟨h.1,ih _ h.2⟩
theorem W.run (hc:∀{i j C},i<n->j<n->C (lt i j) s->cmp i j C s) (h:W lt n (λa=>Q a s) t):t.kasWp cmp Q s:=by
 induction t with
 |ret a=>exact h
 |ask i j k ih=>exact hc h.1.1 h.1.2 (ih _ h.2)
theorem W.yes [Decidable c] (h:c) (w:W lt n post a):W lt n post (if c then a else b):=by exact a6 (aF h) w
theorem W.no [Decidable c] (h:¬c) (w:W lt n post b):W lt n post (if c then a else b):=by exact a6 (aB h) w
theorem W.ask (hi:i<n) (hj:j<n) (y:lt i j=true->W lt n post (k true)) (z:lt i j=false->W lt n post (k false)):W lt n post (.ask i j k):=by
 refine⟨⟨hi,hj⟩, ?_⟩;show W lt n post (k (lt i j));cases h:lt i j
 ·exact z h
 ·exact y h
end
structure Ord (lt:Nat->Nat->Bool):Prop where
 y3:∀{a b},lt a b=true->lt b a=false
 trans:∀{a b c},lt b a=false->lt c b=false->lt c a=false
theorem Ord.refl (O:Ord lt):lt a a=false:=by
 cases h:lt a a with
 |false=>rfl
 |true=>exact h.symm.trans (O.y3 h)
abbrev Up (lt:Nat->Nat->Bool) (l:List Nat):Prop:=l.Pairwise λa b=>lt b a=false
abbrev Dn (lt:Nat->Nat->Bool) (l:List Nat):Prop:=l.Pairwise λa b=>lt a b=false
theorem jo {α:Type} {A l:List α} {m:Nat}:(A++l)[A.length+m]? =l[m]? :=by refine a6 (List.getElem?_append_right (aY _ _)) ?_;rw [qU]
theorem getD_at {p:Array Nat} {A B:List Nat} {x i:Nat} (h:p.toList=A++x::B) (e:i=A.length):p.getD i 0=x:=by
 subst e;refine a6 (Array.getD_eq_getD_getElem?) (a6 (aT (nB)) (a6 h ?_));exact aE (λo:Option Nat=>o.getD 0) (jo (m:=0))
theorem Uc (h:m<e):a+(a+e) -1 -(a+m)=a+(e -1 -m):=by
 obtain⟨r,rfl⟩:=Nat.exists_eq_add_of_lt h;show a+(a+(m+r)) -(a+m)=a+((m+r) -m);rw [<-bH a a,Nat.add_add_add_comm,qU,qU]
theorem wa {a k:Nat} (h:¬k<a):∃m,k=a+m:=⟨k -a,(Nat.add_sub_cancel' (iq.mp h)).symm⟩
theorem FI {p:Array Nat} {A E B:List Nat} (h:p.toList=A++(E++B)):p.size=A.length+(E.length+B.length):=by exact a6 (aT qY) (a6 h (a6 aP (a6 aP rfl)))
theorem AL {p:Array Nat} {A E B:List Nat} {i j:Nat} (h:p.toList=A++(E++B)) (hi:i=A.length) (hj:j=i+E.length):(kas_rev p i j).toList=A++(E.reverse++B):=by
 subst hi;subst hj;refine vM λk=>a6 (nB) ?_;refine(getElem?_mirror_all (a6 (FI h) (aU (aY _ _) _)) k).trans ?_;refine a6 (aT (nB)) (a6 (aT (nB)) (a6 h ?_));by_cases h1:k<A.length
 ·exact a6 (aB λq=>absurd q.1 (Nat.not_le.mpr h1)) (a6 (j_ h1) (a6 (j_ h1) rfl))
 ·obtain⟨m,rfl⟩:=wa h1
  refine a6 jo (a6 jo ?_);by_cases h2:m<E.length
  ·exact a6 (aF ⟨aY _ _,Nat.add_lt_add_left h2 _⟩) (a6 (Uc h2) (a6 jo (a6 (j_ (az (Nat.sub_le _ _) (Nat.sub_lt (Nat.zero_lt_of_lt h2) Nat.one_pos))) (a6 (j_ (l₁:=E.reverse) (a6 vJ h2)) (a6 (List.getElem?_reverse h2) rfl)))))
  ·obtain⟨r,rfl⟩:=wa h2
   exact a6 (aB λq=>absurd (Nat.lt_of_add_lt_add_left q.2) h2) (a6 jo (((aE (λn=>(E.reverse++B)[n+r]?) vJ.symm).trans jo).symm))
theorem UD {p:Array Nat} {A E B:List Nat} {x k d:Nat} (h:p.toList=A++(E++x::B)) (hk:k=A.length+E.length) (hd:d=E.length):(bubble p k d).toList=A++(x::(E++B)):=by
 subst hk;subst hd;refine vM λi=> ?_;rw [nB,getElem?_bubble (by rw [FI h];exact Nat.add_lt_add_left (nA (m8 _)) _) _ (cn _ _),Nat.add_sub_cancel,<-nB,<-nB,<-nB,h];by_cases h1:i<A.length
 ·rw [aB (nM h1),aB λq=>absurd q.1 (iq.mpr (jd h1)),j_ h1,j_ h1]
 ·obtain⟨m,rfl⟩:=wa h1
  rw [jo,jo,jo];induction m with
  |zero=>exact(aF rfl).trans (jo (m:=0))
  |succ m=>
   rw [aB λ(q:A.length+(m+1)=A.length)=>Nat.succ_ne_zero m (Nat.add_left_cancel (k:=0) q),List.getElem?_cons_succ];by_cases h3:m<E.length
   ·rw [aF ⟨nA (m8 _),aU h3 _⟩,j_ h3]
    exact jo.trans (j_ h3)
   ·obtain⟨r,rfl⟩:=wa h3
    rw [aB λq=>absurd (Nat.le_of_add_le_add_left q.2) (Nat.not_le.mpr (Nat.lt_succ_of_le (aY _ _))),jo];exact jo (m:=r+1)
abbrev Pm (n:Nat) (p:Array Nat):Prop:=p.toList.Perm (List.range n)
theorem Pm.lt (h:Pm n p) (e:p.toList=A++x::B) (hi:i=A.length):p.getD i 0<n:=getD_at e hi▸dK.mp (h.mem_iff.mp (e▸ij _ aM))
theorem Pm.to (h:Pm n p) (e:p.toList=l) (e':p'.toList=l') (k:l'.Perm l):Pm n p':=(e'▸(e▸k):p'.toList.Perm p.toList).trans h
theorem SD:(a+(a+b))/2=a+b/2:=by rw [<-bH,<-Nat.two_mul,Nat.mul_add_div (by decide)]
section
variable{lt:Nat->Nat->Bool} {n:Nat} (O:Ord lt)
include O
theorem R5 (h:Up lt (A++ [y])) (c:lt x y=false):Up lt (A++y:: [x]):=by
 obtain⟨h1,h2,h3⟩:=j8.mp h;refine j8.mpr ⟨h1,List.pairwise_cons.mpr ⟨λb m=>b3.mp m▸c,vH _ _⟩,λa m b w=> ?_⟩;rcases bz.mp w with e|w
 ·exact e▸h3 a m y (oZ _)
 ·exact b3.mp w▸O.trans (h3 a m y (oZ _)) c
inductive Ce (lt:Nat->Nat->Bool) (y:Nat):List Nat->Prop
 |nil:Ce lt y []
 |cons {x:Nat} {B:List Nat} (h:lt x y=true):Ce lt y (x::B)
theorem HD {p:Array Nat} (g:Pm n p) {post:Nat->Prop} {B A:List Nat} {y k:Nat} (h:p.toList=A++y::B) (hk:k=A.length+1) (u:Up lt (A++ [y]))
  (q:∀{A y B},p.toList=A++y::B->Up lt (A++ [y])->Ce lt y B->post (A.length+1)):W lt n post (kas_asc p B.length k):=by
 subst hk
 induction B generalizing A y with
 |nil=>exact q h u .nil
 |cons x B ih=>
  have h':p.toList=(A++ [y])++x::B:=by rw [bP];exact h
  have e1:=getD_at h' (aP (as:=A) (bs:= [y])).symm;have e2:=getD_at h (i:=A.length) rfl;refine W.ask (g.lt h' (aP (as:=A) (bs:= [y])).symm) (g.lt h rfl) (λc=>W.yes rfl (q h u (.cons (e1▸e2▸c)))) λc=>W.no cK ?_;have:=ih h' (by rw [bP];exact R5 O u (e1▸e2▸c));rw [aP] at this;exact this
theorem PA {p:Array Nat} (g:Pm n p) {A B:List Nat} {x k:Nat} (h:p.toList=A++x::B) (hk:k=A.length) (u:Up lt A) {post:Nat->Prop} (q:∀{L R},A=L++R->(∀a∈L,lt x a=false)->(∀a∈R,lt x a=true)->post L.length) {f:Nat} {L M R:List Nat} {l r:Nat}
  (e:A=L++(M++R)) (hl:l=L.length) (hr:r=L.length+M.length) (hf:M.length<=f) (h1:∀a∈L,lt x a=false) (h2:∀a∈R,lt x a=true):W lt n post (kas_place p k f l r):=by
 subst hl;subst hr
 induction f generalizing L M R with
 |zero=>
  cases f9 (Nat.le_zero.mp hf);exact q e h1 h2
 |succ f ih=>
  by_cases c:M.length=0
  ·cases f9 c
   exact W.yes (bC _) (q e h1 h2)
  ·have hm:M.length/2<M.length:=Nat.div_lt_self (Nat.pos_of_ne_zero c) (by decide)
   refine W.no (Nat.not_le.mpr (nA (Nat.pos_of_ne_zero c))) ?_;refine a6 SD ?_;obtain⟨M1,y,M2,em,el⟩:∃M1 y M2,M=M1++y::M2/\M1.length=M.length/2:=⟨_,_,_,(List.take_append_drop (M.length/2) M).symm.trans (by exact a6 (List.drop_eq_getElem_cons hm) rfl),by exact a6 List.length_take (a6 (Nat.min_eq_left (jd hm)) rfl)⟩;refine a6 (aT el) ?_;have yA:M1.length+(M2.length+1)<=f+1:=by rw [em,aP] at hf;exact hf
   have ep:p.toList=(L++M1)++y::((M2++R)++x::B):=by refine a6 h (a6 e (a6 em ?_));simp only [bP,List.cons_append]
   have up:Up lt (M1++y::(M2++R)):=by
    rw [e,em] at u;have:=(j8.mp u).2.1
    rwa [bP] at this
   obtain⟨u1,u2,u3⟩:=j8.mp up;have u2:=List.pairwise_cons.mp u2;have ey:=getD_at ep (aP (as:=L) (bs:=M1)).symm;have ex:=getD_at h hk;refine W.ask (g.lt h hk) (g.lt ep (aP (as:=L) (bs:=M1)).symm) (λd=>W.yes rfl ?_) λd=>W.no cK ?_
   ·rw [ex,ey] at d
    refine ih (L:=L) (M:=M1) (R:=y::(M2++R)) (by refine a6 e (a6 em ?_);rw [bP];rfl) (o_ (ay (aU (cn 1 _) _) yA)) h1 λa m=> ?_;rcases bz.mp m with w|m
    ·exact w▸d
    ·cases t:lt x a with
     |true=>rfl
     |false=>exact nomatch d.symm.trans (O.trans (u2.1 a m) t)
   ·rw [ex,ey] at d
    have:=ih (L:=L++(M1++ [y])) (M:=M2) (R:=R) (by refine a6 e (a6 em ?_);simp only [bP,List.cons_append,List.nil_append]) (o_ (ay (cn _ _) yA)) (λa m=> ?_) h2
    ·refine a6 em (a6 (aP (as:=M1)) ?_)
     rw [aP,aP,<-bH] at this;have e3:L.length+(M1.length+(y::M2).length)=L.length+M1.length+ [y].length+M2.length:=by
      rw [bH,bH,c0 [y].length];rfl
     refine a6 e3 ?_;exact this
    ·rcases cM.mp m with m|m
     ·exact h1 a m
     ·rcases cM.mp m with m|m
      ·exact O.trans (u3 a m y aM) d
      ·exact b3.mp m▸d
theorem UH (g:Pm n p) (h:p.toList=A++B) (hk:k=A.length) (u:Up lt A) (q:∀{p},Up lt p.toList->Pm n p->post p):W lt n post (kas_bin B.length p k):=by
 induction B generalizing A p k with
 |nil=>exact q (by refine a6 h ?_;rw [d6];exact u) g
 |cons x B ih=>
  refine W.bind (PA O g h hk u (λ{L R} e h1 h2=> ?_) (L:= []) (M:=A) (R:= []) (d6 A).symm rfl (hk.trans (di _).symm) (gh hk.symm) (λ_=>jT) (λ_=>jT));have hl:k=L.length+R.length:=by exact a6 hk (a6 e (a6 aP rfl))
  rw [e,bP] at h;have hb:=UD h hl (d:=k -L.length) (by refine a6 hl ?_;rw [qU]);refine ih (A:=L++x::R) (g.to h hb (List.perm_middle.symm.append_left L)) (by refine a6 hb ?_;rw [bP];rfl) (by refine a6 hl (a6 aP ?_);rfl) ?_;obtain⟨u1,u2,u3⟩:=j8.mp (e▸u);refine j8.mpr ⟨u1,List.pairwise_cons.mpr ⟨λa m=>O.y3 (h2 a m),u2⟩,λa m b w=> ?_⟩;rcases bz.mp w with w|w
  ·exact w▸h1 a m
  ·exact u3 a m b w
end
section
variable{lt:Nat->Nat->Bool} {n:Nat} (O:Ord lt)
structure Ds (lt:Nat->Nat->Bool) (n:Nat) (p:Array Nat) (A E:List Nat) (y:Nat) (B:List Nat):Prop where
 g:Pm n p
 h:p.toList=A++(E++y::B)
 d:Dn lt (A++(E++ [y]))
 e:∀a∈E,lt y a=false
structure Dw (lt:Nat->Nat->Bool) (n:Nat) (p:Array Nat) (A B:List Nat):Prop where
 g:Pm n p
 h:p.toList=A++B
 d:Dn lt A
include O
theorem Ds.eq (r:Ds lt n p A E y B):∀a∈E++ [y],∀b∈E++ [y],lt a b=false:=λa m b w=>by
 have d:=j8.mp (j8.mp r.d).2.1;have h1:lt a y=false:=(cM.mp m).elim (λm=>d.2.2 a m y (oZ _)) λm=>b3.mp m▸O.refl;have h2:lt y b=false:=(cM.mp w).elim (r.e b) λm=>b3.mp m▸O.refl;exact O.trans h2 h1
theorem Ds.turn (r:Ds lt n p A E y B) (hk:k=A.length+E.length+1) (hq:q=E.length):Dw lt n (kas_rev p (k -(q+1)) k) (A++(E++ [y]).reverse) B:=by
 have h:p.toList=A++((E++ [y])++B):=by rw [bP];exact r.h
 have hl:k -(q+1)=A.length:=by refine a6 hk (a6 hq ?_);rw [bH,Nat.add_sub_cancel]
 have hb:=AL h hl (j:=k) (by refine a6 hl (a6 hk (a6 aP ?_));rfl);refine⟨r.g.to h hb (((List.reverse_perm _).append_right B).append_left A),by refine a6 hb ?_;rw [bP], ?_⟩;obtain⟨d1,d2,d3⟩:=j8.mp r.d;exact j8.mpr ⟨d1,List.pairwise_iff_forall_sublist.mpr λ{a b} s=>have m:=λx w=>List.mem_reverse.mp (s.mem (a:=x) w);r.eq O a (m a aM) b (m b (aQ _ (oZ _))),λa m b w=>d3 a m b (List.mem_reverse.mp w)⟩
theorem Dw.one (r:Dw lt n p A (x::B)) (c:∀a∈A,lt a x=false):Ds lt n p A [] x B:=⟨r.g,r.h,j8.mpr ⟨r.d,vH _ _,λa m b w=>b3.mp w▸c a m⟩,(λ_=>jT)⟩
theorem SU {B:List Nat} {p:Array Nat} {A E:List Nat} {y k q:Nat} (r:Ds lt n p A E y B) (hk:k=A.length+E.length+1) (hq:q=E.length) {post:Array Nat×Nat×Nat->Prop}
  (fin:∀{p A E y B},Ds lt n p A E y B->post (p,A.length+E.length+1,E.length)):W lt n post (kas_desc B.length p k q):=by
 induction B generalizing p A E y k q with
 |nil=>exact hk▸hq▸fin r
 |cons x B ih=>
  have h':p.toList=(A++(E++ [y]))++x::B:=by rw [bP,bP];exact r.h
  have h1:p.toList=(A++E)++y::x::B:=by rw [bP];exact r.h
  have l':k=(A++(E++ [y])).length:=by refine a6 hk (a6 aP (a6 aP ?_));rfl
  have l1:k -1=(A++E).length:=by refine a6 hk (a6 aP ?_);rfl
  have ex:=getD_at h' l';have ey:=getD_at h1 l1;obtain⟨d1,d2,d3⟩:=j8.mp r.d;have all:lt y x=false->∀a∈A++(E++ [y]),lt a x=false:=λc a m=>(cM.mp m).elim (λm=>O.trans c (d3 a m y (ij _ (oZ _)))) λm=>O.trans c (r.eq O a m y (ij _ (oZ _)));refine W.ask (r.g.lt h' l') (r.g.lt h1 l1) (λc=>W.yes rfl ?_) λc=>W.no cK (W.ask (r.g.lt h1 l1) (r.g.lt h' l') (λd=>W.yes rfl (hk▸hq▸fin r)) λd=>W.no cK ?_)
  ·rw [ex,ey] at c
   have c:=O.y3 c;by_cases t:q>0
   ·refine W.yes t (ih ((r.turn O hk hq).one O λa m=>all c a ((cM.mp m).elim (qW _) λm=>ij _ (List.mem_reverse.mp m))) ?_ rfl)
    refine a6 l' (a6 (aP (as:=A)) (a6 (aP (as:=A)) (a6 vJ ?_)));rfl
   ·refine W.no t (ih (A:=A++(E++ [y])) (E:= []) (y:=x) (Dw.one O ⟨r.g,h',r.d⟩ (all c)) ?_ rfl)
    refine a6 l' ?_;rfl
  ·rw [ex,ey] at c d
   refine ih (A:=A) (E:=E++ [y]) (y:=x) ⟨r.g,by refine a6 r.h ?_;rw [bP];rfl, ?_,λa m=> ?_⟩ ?_ ?_
   ·refine j8.mpr ⟨d1,j8.mpr ⟨d2,vH _ _,λa m b w=>b3.mp w▸all d a (ij _ m)⟩,λa m b w=> ?_⟩
    exact(cM.mp w).elim (d3 a m b) λw=>b3.mp w▸all d a (qW _ m)
   ·exact O.trans (r.eq O y (ij _ (oZ _)) a m) c
   ·refine a6 hk (a6 aP ?_);rfl
   ·refine a6 hq (a6 aP ?_);rfl
end
inductive tE (lt:Nat->Nat->Bool) (n:Nat):Nat×Array Nat->Prop
 |mk {p:Array Nat} {A B:List Nat} {k:Nat} (g:Pm n p) (h:p.toList=A++B) (u:Up lt A) (hk:k=A.length) (pos:1<=k):tE lt n (k,p)
theorem Pm.len (g:Pm n p) (h:p.toList=A++B):n=A.length+B.length:=by exact a6 (aT aP) (a6 (aT h) (a6 g.length_eq (a6 gA rfl)))
section
variable{lt:Nat->Nat->Bool} {n:Nat} (O:Ord lt) {p:Array Nat} {A E B:List Nat} {x y k:Nat}
theorem Ds.whole (r:Ds lt n p A E y B):Dw lt n p (A++(E++ [y])) B:=⟨r.g,by rw [bP,bP];exact r.h,r.d⟩
include O
theorem ET (r:Dw lt n p A B) (hk:k=A.length) (pos:1<=k):W lt n (tE lt n) (kas_tail3 k n p):=by
 induction A with
 |nil=>exact absurd (hk▸pos) (by decide)
 |cons y A=>
  have hb:(kas_rev p 0 k).toList=A.reverse++y::B:=(AL (A:= []) (E:=y::A) r.h rfl (hk.trans (di _).symm)).trans (by refine a6 List.reverse_cons ?_;rw [bP];rfl);have g:=r.g.to r.h hb (by refine a6 (aT (List.singleton_append (l:=B))) ?_;rewrite [<-bP];exact a6 (aT List.reverse_cons) ((List.reverse_perm _).append_right B));have hn:n -k=B.length:=by refine a6 (r.g.len r.h) (a6 hk ?_);rw [qU]
  refine W.bind (a6 hn (HD O g hb (by refine a6 hk (a6 vJ ?_);rfl) (a6 (aT List.reverse_cons) (List.pairwise_reverse.mpr r.d)) λ{A y B} h u s=> ?_));exact .mk g (A:=A++ [y]) (by rw [bP];exact h) u (aP (as:=A) (bs:= [y])).symm (cn 1 _)
theorem DR (r:Ds lt n p A [] x B) (hk:k=A.length):W lt n (tE lt n) (kas_descPart k n p):=by
 have hn:n -(k+1)=B.length:=by exact a6 (r.g.len r.whole.h) (a6 hk (a6 aP (qU ..)))
 refine W.bind (a6 hn (SU O r (hk▸rfl) rfl λ{p A E y B} r'=> ?_));by_cases c:E.length>0
 ·exact W.yes c (ET O (r'.turn O rfl rfl) (by refine a6 aP (a6 vJ (a6 aP ?_));rfl) (cn 1 _))
 ·exact W.no c (ET O r'.whole (by refine a6 aP (a6 aP ?_);rfl) (cn 1 _))
theorem Qw (g:Pm n p) (h:p.toList=y::B):W lt n (tE lt n) (kas_count n p):=by
 have hn:n -1=B.length:=by refine a6 (g.len (A:= [y]) h) ?_;exact qU ..
 refine W.bind ?_;refine a6 hn ?_;refine HD O g (A:= []) h rfl (vH _ _) λ{A y B} h u s=> ?_;have h':p.toList=(A++ [y])++B:=by rw [bP];exact h
 have l:(A++ [y]).length=A.length+1:=aP;have done:tE lt n (A.length+1,p):= .mk g h' u l.symm (cn 1 _);have hn:=g.len h';rw [l] at hn;induction s with
 |nil=>exact W.yes (b7.mpr hn.symm) done
 | @cons x B c=>
  have c:=O.y3 c;refine W.no (λq=>nM (hn▸nA (m8 _)) (b7.mp q)) ?_;obtain⟨u1,u2,u3⟩:=j8.mp u;induction A with
  |nil=>exact W.no (tS 1) (DR O (Dw.one O (A:= [y]) ⟨g,h,vH _ _⟩ λa m=>b3.mp m▸c) rfl)
  |cons a A=>
   have e1:=getD_at (A:= []) h (i:=0) rfl;have e2:=getD_at h (i:=(a::A).length+1 -1) rfl;refine W.yes (tN (m8 _)) (W.ask (g.lt (A:= []) h rfl) (g.lt h rfl) (λd=>W.yes rfl done) λd=>W.no cK ?_);rw [e1,e2] at d;have low:∀b∈a::(A++ [y]),lt b y=false:=λb m=>by
    rcases bz.mp m with m|m
    ·exact m▸d
    ·exact O.trans d ((List.pairwise_cons.mp u).1 b m)
   have hb:=AL (A:= []) h' rfl (j:=(a::A).length+1) (by refine a6 l ?_;exact(di _).symm);have top:∀b∈a::(A++ [y]),lt y b=false:=λb m=>(cM.mp (show b∈(a::A)++ [y] from m)).elim (λm=>u3 b m y (oZ _)) λm=>b3.mp m▸O.refl;refine DR O (Dw.one O (A:=((a::A)++ [y]).reverse) ⟨g.to h' hb ((List.reverse_perm _).append_right _),hb, ?_⟩ λb m=>O.trans c (low b (List.mem_reverse.mp m))) (by exact a6 vJ (a6 l rfl));exact List.pairwise_iff_forall_sublist.mpr λ{b b'} s=>have m:=λx w=>List.mem_reverse.mp (s.mem (a:=x) w);O.trans (top b' (m b' (aQ _ (oZ _)))) (low b (m b aM))
theorem Ra (hn:1<=n) (q:∀{p},Up lt p.toList->Pm n p->post p):W lt n post (kas_sort n):=by
 obtain⟨y,B,h⟩:∃y B,List.range n=y::B:=by
  cases e:List.range n with
  |nil=>exact absurd (List.length_eq_zero_iff.mpr e) (a6 gA (Nat.ne_of_gt hn))
  |cons y B=>exact⟨y,B,rfl⟩
 have key:∀{r},tE lt n r->W lt n post (if r.1<n then kas_bin (n -max r.1 1) r.2 (max r.1 1) else .ret r.2):=λs=>by
  induction s with
  | @mk p A B k g h u hk pos=>
   show W lt n post (if k<n then kas_bin (n -max k 1) p (max k 1) else .ret p);refine a6 (Nat.max_eq_left pos) ?_;have hn:=g.len h;have hb:n -k=B.length:=by refine a6 hn (a6 hk ?_);rw [qU]
   refine a6 hb ?_;by_cases c:k<n
   ·exact W.yes c (UH O g h hk u q)
   ·refine W.no c (q ?_ g)
    induction B with
    |nil=>refine a6 h ?_;rw [d6];exact u
    |cons x B=>exact absurd (hk▸hn▸nA (m8 _)) c
 refine W.bind ?_;have c:=Qw O (p:=(List.range n).toArray) (List.Perm.refl _) h;exact c.mono key
end
noncomputable def dj (v:V):Int:=V.casesOn (motive_1:=λv=>Int) v 0 (λb=>0) (λi=>i) (λn=>0) (λl=>0) (λl=>0) (λl m=>0) (λi j=>0) (λa=>0) (λa b=>0)
noncomputable def kC (v:V):List Int:=V.casesOn (motive_1:=λv=>List Int) v [] (λb=> []) (λi=> [i]) (λn=>(tx n).cps.toList.map Int.ofNat) (λl=>l.map dj) (λl=> []) (λl m=> []) (λi j=> []) (λa=> []) (λa b=> [])
noncomputable def eJ (a b:V):Bool:=decide (kC a<kC b)
noncomputable def bg (xs:List V):List V:=xs.mergeSort λa b=> !eJ b a
abbrev yH (xs:List V):Prop:=xs.Pairwise λa b=>eJ b a=false
inductive xG:V->Prop
 |mk {i:Int}:xG (.int i)
inductive mY:V->Prop
 |mk {n:Nat} (h:n<bJ.length):mY (.str n)
inductive sh:V->Prop
 |mk {i:Int} {is:List Int}:sh (.tup ((i::is).map .int))
abbrev o3 (S:V->Prop):Prop:=∀{a b},S a->S b->kC a=kC b->a=b
theorem w5 (h:eJ a b=true):eJ b a=false:=dD (List.lt_asymm (bY h))
theorem E8 (h:eJ b a=false) (h':eJ c b=false):eJ c a=false:=dD (List.not_lt.mpr (List.le_trans (List.not_lt.mp (tL h)) (List.not_lt.mp (tL h'))))
theorem P0 (h:eJ a b=false) (h':eJ b a=false):kC a=kC b:=List.le_antisymm (List.not_lt.mp (tL h')) (List.not_lt.mp (tL h))
theorem nP (xs:List V):(bg xs).Perm xs:=List.mergeSort_perm ..
theorem dY:x∈bg xs↔x∈xs:=(nP xs).mem_iff
theorem pO (h:xs.Nodup):(bg xs).Nodup:=(nP xs).nodup_iff.mpr h
theorem wQ:yH (bg xs):=List.Pairwise.imp (R:=λa b=>(!eJ b a)=true) (λh=>dB h) (List.pairwise_mergeSort (le:=λa b=> !eJ b a) (λa b c h h'=>aE not (E8 (dB h) (dB h'))) (λa b=>by
 cases h:eJ b a
 ·rfl
 ·show(false|| !eJ a b)=true
  refine a6 (w5 h) ?_;rfl) xs)
theorem z6 (O:o3 S) (hs:∀{y},y∈xs->S y) (p:xs.Perm ys) (h1:yH xs) (h2:yH ys):xs=ys:=
 p.eq_of_pairwise (le:=λa b=>eJ b a=false) (λa b m w h h'=>O (hs m) (hs (p.mem_iff.mpr w)) (P0 h' h)) h1 h2
theorem Ud {xs ys:List Nat}:xs.map Int.ofNat<ys.map Int.ofNat↔xs<ys:=by
 induction xs generalizing ys with
 |nil=>induction ys with
  |nil=>exact iff_of_false (tR _) (tR _)
  |cons y ys=>exact⟨λh=> .nil,λh=> .nil⟩
 |cons x xs ih=>induction ys with
  |nil=>exact iff_of_false (tR _) (tR _)
  |cons y ys=>refine a6 pw (a6 pw ?_);rw [List.cons_lt_cons_iff,List.cons_lt_cons_iff,ih];exact or_congr gC (and_congr_left' ⟨Int.ofNat.inj,aE _⟩)
theorem wF:kC (.tup (is.map .int))=is:=(fB ..).trans (iS is)
theorem Sr:o3 xG:=λh h' e=>by
 cases h;cases h';exact aE V.int (r7 e).1
theorem Um:o3 mY:=λh h' e=>by
 induction h with
 | @mk n h=>induction h' with
  | @mk m h'=>
   have e1:(tx n).cps.toList=(tx m).cps.toList:=(List.map_inj_right λa b=>Int.ofNat.inj).mp e;have e2:tx n=tx m:=aE Str.mk (Array.toList_inj.mp e1);exact aE V.str (jK h h' e2)
theorem Gg:o3 sh:=λh h' e=>by
 cases h;cases h';rw [wF,wF] at e;exact a6 e rfl
noncomputable def j3 (xs:List V) (i:Nat):V:=xs.getD i .none
theorem V7 (xs:List V):Ord λi j=>eJ (j3 xs i) (j3 xs j):=⟨w5,E8⟩
theorem Ue (xs:List V):(List.range xs.length).map (j3 xs)=xs:=vM λi=>by
 refine a6 (fc) ?_;by_cases h:i<xs.length
 ·refine a6 (List.getElem?_range h) ?_;show some (xs.getD i .none)=_;refine a6 (iM) (a6 (dR h) ?_);rfl
 ·refine a6 (kQ (a6 gA (iq.mp h))) (a6 (kQ (iq.mp h)) ?_);rfl
theorem TF (O:o3 S) (hs:∀{y},y∈xs->S y) (u:Up (λi j=>eJ (j3 xs i) (j3 xs j)) p.toList) (g:Pm xs.length p):p.toList.map (j3 xs)=bg xs:=by
 have pm:(p.toList.map (j3 xs)).Perm xs:=by
  have:=g.map (j3 xs)
  rwa [Ue] at this
 exact z6 O (λm=>hs (pm.mem_iff.mp m)) (pm.trans (nP xs).symm) (List.pairwise_map.mpr u) wQ
section
open PySem PySem.W PyProof.Rows PySem.Calls
section
variable{c:Cx} {A:Around} {E:Value->Shared->Prop} {s:Shared}
noncomputable abbrev xN (vs:List Value) (p:Array Nat):List Value:=p.toList.map λi=>vs.getD i Value.none
theorem PD:(List.range vs.length).map (λi=>vs.getD i Value.none)=vs:=vM λi=>by
 refine a6 (fc) ?_;by_cases h:i<vs.length
 ·refine a6 (List.getElem?_range h) ?_;show some (vs.getD i .none)=_;refine a6 (iM) (a6 (dR h) ?_);rfl
 ·refine a6 (kQ (a6 gA (iq.mp h))) (a6 (kQ (iq.mp h)) ?_);rfl
theorem pM (h:n<64):n<=sizeLine:=ay (jd h) (by decide+kernel)
structure j6 (a:Addr) (h h':Heap) (vs:List Value) (e:Nat):Prop where
 k:∀{b o},b≠a->h.get? b=some o->h'.get? b=some o
 at_:h'.get? a=some (c5 vs e)
theorem j6.set (x:j6 a h h' vs e) (ws:List Value):∃e,j6 a h (h'.update a (Obj.mapSeq λzz=>ws.toArray)) ws e:=
 ⟨_,λn e=>((iN h' a (Obj.mapSeq λzz=>ws.toArray)).2 _ n).trans (x.k n e),get?_update_seq x.at_ λzz=>ws.toArray⟩
theorem j6.push (x:j6 a h h' vs e) (o:Obj):j6 a h (h'.push o) vs e:=⟨λn e=>bt _ _ _ _ (x.k n e),bt _ _ _ _ x.at_⟩
theorem Su [Decidable d] (h:wpAny c.M A (if d then m1 else m2) (λr s'=>wpAny c.M A (k r) Q E s') E s):wpAny c.M A (if d then m1>>=k else m2>>=k) Q E s:=by
 by_cases q:d
 ·rw [aF q] at h⊢;exact aK h
 ·rw [aB q] at h⊢;exact aK h
inductive vD (lt:Nat->Nat->Bool) (vs:List Value) (qg:Shared) (r:PUnit×SortSt) (s':Shared):Prop
 |mk {p:Array Nat} (g:Pm vs.length p) (u:Up lt p.toList) (ha:(arrOf r.2).map (·.2)=(xN vs p).toArray) (hf:failedOf r.2=none) (e:s'=qg):vD lt vs qg r s'
theorem O9 (h:vs.length<2):vD lt vs s ((),SortSt.mk' general' (vs.toArray.zip vs.toArray) #[] 7 none) s:=by
 refine .mk (p:=(List.range vs.length).toArray) (List.Perm.refl _) ?_ ?_ rfl rfl
 ·refine List.pairwise_iff_getElem.mpr λi j hi hj l=>absurd (az (Nat.succ_le_of_lt (az (fh i) l)) (gg hj ?_)) (tS 1)
  exact a6 gA (Nat.le_of_lt_succ h)
 ·show(vs.toArray.zip vs.toArray).map (·.2)=_
  exact Array.toList_inj.mp (a6 Array.toList_map (a6 Array.toList_zip ((List.map_snd_zip (bC _)).trans PD.symm)))
theorem PE (O:Ord lt) (h2:2<=vs.length) (cX:vs.length<64) (hc:∀{i j} {C:Bool->Shared->Prop},i<vs.length->j<vs.length->C (lt i j) s->kas_ask c.prog c.w A κ vs i j C s):
  wpAny c.M A (sortRuns'.run (SortSt.mk' κ (vs.toArray.zip vs.toArray) #[] 7 none)) (vD lt vs s) E s:=by
 exact dS (kat_run (Q:=λdU s'=>vD lt vs s ((),dU) s') (G:=λp' oG=>oG=s/\Up lt p'.toList/\Pm vs.length p') rfl h2 cX (λp' dU s' a1 a2 a3 a4=> .mk a4.2.2 a4.2.1 (kat_snds rfl a2) a3 a4.1) (W.run (λhi hj=>hc hi hj) (Ra O (fb h2) λu g=>⟨rfl,u,g⟩))) (λr s' h=>h) λzz zz e=>e
theorem Pb (x:j6 a h s.heap [] e) (hl:ws.length<64) (ho:out=ws.toArray) (q:∀{h' e},j6 a h h' ws e->wpAny c.M A m P E {s with heap:=h'}):
  wpAny c.M A (Builtin.List.listUpdate (.ref a) λzz=>out) (λzz s'=>wpAny c.M A m P E s') E s:=by
 subst ho;exact listUpdate_at x.at_ rfl ((x.set ws).elim λe y=>q y) (fh _) (a6 gS (kT (pM hl)))
theorem MA (O:Ord lt) (ho:s.heap.get? a=some (c5 vs n)) (cX:vs.length<64)
  (hk:2<=vs.length->∀{h' e} {Q:SortKind->Shared->Prop},j6 a s.heap h' [] e->Q κ {s with heap:=h'}->wpAny c.M A (keyKind' vs.toArray) Q E {s with heap:=h'})
  (hc:∀{h' e i j} {C:Bool->Shared->Prop},j6 a s.heap h' [] e->i<vs.length->j<vs.length->C (lt i j) {s with heap:=h'}->kas_ask c.prog c.w A κ vs i j C {s with heap:=h'})
  (h:∀{h' e p},j6 a s.heap h' (xN vs p) e->Pm vs.length p->Up lt p.toList->P (.done (.ret .none)) {s with heap:=h'}):
  wpAny c.M A (Builtin.«list.sort» ⟨[.ref a], []⟩) P E s:=by
 have x0:j6 a s.heap s.heap vs n:=⟨λn e=>e,ho⟩;obtain⟨e1,x1⟩:=x0.set [];have x3:=(x1.push (seqObj "tuple" vs.toArray 0)).push (seqObj "list" #[] 0);rw [list_sort_plain];refine aK (listItems_at ho rfl (aK (listUpdate_at ho rfl (aK (seqEpoch_at x1.at_ rfl (aK (wpAny_newTuple (aK (wpAny_newList (bN ?_) (fh _))) (pM cX))))) (a6 gS (pM cX)) (fh _))));show wpAny c.M A _ P E {s with heap:=((s.heap.update a (Obj.mapSeq λzz=>([]:List Value).toArray)).push (seqObj "tuple" vs.toArray 0)).push (seqObj "list" #[] 0)};generalize ((s.heap.update a (Obj.mapSeq λzz=>([]:List Value).toArray)).push (seqObj "tuple" vs.toArray 0)).push (seqObj "list" #[] 0)=h3 at x3⊢;dsimp only;refine Su ?_;have mid:wpAny c.M A (if vs.toArray.size<2 then pure general' else keyKind' vs.toArray) (λkind s'=>wpAny c.M A ((if vs.toArray.size<2 then pure () else sortRuns').run (SortSt.mk' kind (vs.toArray.zip vs.toArray) #[] 7 none)) (vD lt vs {s with heap:=h3}) E s') E {s with heap:=h3}:=by
  refine a6 gS ?_;by_cases h2:vs.length<2
  ·refine a6 (aF h2) (a6 (aF h2) ?_)
   exact ai (ai (O9 h2))
  ·refine a6 (aB h2) (a6 (aB h2) ?_)
   exact hk (iq.mp h2) x3 (PE (s:={s with heap:=h3}) O (iq.mp h2) cX (hc x3))
 refine dS mid (λkind s' h1=>aK (dS h1 (λr oG h2=> ?_) λzz zz e=>e)) λzz zz e=>e;induction h2 with
 | @mk p g u ha hf e=>
  subst e;refine aK (seqEpoch_at (s:={s with heap:=h3}) x3.at_ rfl (aK (Pb (s:={s with heap:=h3}) (ws:=xN vs p) (h:=s.heap) x3 ?_ ha ?_)))
  ·rewrite [b0];exact a6 g.length_eq (a6 gA cX)
  ·intro h' e' x'
   exact a6 hf (wpAny_ite (a6 (aB (by rw [bne_self_eq_false];exact cK)) (ai (h x' g u))))
end
end
section
open PySem PySem.W PyProof.Rows PySem.Calls
theorem Gl {n m:Int} {ns ms:List Int}:decide (n::ns<m::ms)=decide (n<m\/n=m/\ns<ms):=fA.mpr List.cons_lt_cons_iff
section
variable{c:Cx} {A:Around} {σ:St} {Z:Addr->Prop} {s:Shared}
theorem Sh {b fin:Bool} {Q:Bool->Shared->Prop} {ns ms:List Int} {us ws:List Value} {i:Nat} (l:aO c σ Z s.heap (ns.map .int) us) (l':aO c σ Z s.heap (ms.map .int) ws) (e:fin=decide (ns.length<ms.length)) (q:Q (decide (ns<ms)) s):KatLex c.prog c.w A b fin Q (us.zip ws) i s:=by
 induction ns generalizing ms us ws i with
 |nil=>
  refine l.nil_inv (kat_nil ?_);induction ms with
  |nil=>exact e▸(dD (tR ([]:List Int))▸q:Q false s)
  |cons m ms=>exact e▸(bQ (List.nil_lt_cons m ms)▸q:Q true s)
 |cons n ns ih=>
  induction ms with
  |nil=>
   exact l'.nil_inv (a6 List.zip_nil_right (kat_nil (e▸(dD (tR (n::ns))▸q:Q false s))))
  |cons m ms=>
   rw [Gl] at q;refine l.cons_inv λ{u us} r1 k1=>l'.cons_inv λ{w ws} r2 k2=>r1.int_inv λt=>r2.int_inv λt'=>kat_cons (SeqAt.EqAt.int_int (A:=A) n t m t' c.prog c.w _ _ ?_);by_cases d:n=m
   ·subst d
    rw [gT];refine kat_yes (ih k1 k2 (e.trans (fA.mpr Nat.succ_lt_succ_iff)) ?_)
    rwa [show decide (n<n\/n=n/\ns<ms)=decide (ns<ms) from fA.mpr ⟨λh=>h.elim (λh=>absurd h (Int.lt_irrefl n)) And.right,λh=> .inr ⟨rfl,h⟩⟩] at q
   ·refine a6 (il.mpr d) ?_
    rw [show decide (n<m\/n=m/\ns<ms)=decide (n<m) from fA.mpr ⟨λh=>h.elim id λh=>absurd h.1 d, .inl⟩] at q;refine kat_no ?_;cases(b&&i==0)
    ·exact kat_one _ _ (PySem.P.lt_int (show W.BoolBack Q (.bool _) s from q))
    ·exact oneLt_int q
structure Kn (c:Cx) (S:V->Prop) (κ:SortKind):Prop where
 inj:o3 S
 kind:∀{A E s σ Z xs vs} {Q:SortKind->Shared->Prop},2<=vs.length->(∀{x},x∈xs->S x)->aO c σ Z s.heap xs vs->Q κ s->wpAny c.M A (keyKind' vs.toArray) Q E s
 lt:∀{A s σ Z x y u v} {Q:Bool->Shared->Prop},S x->S y->Rv c σ Z s.heap x u->Rv c σ Z s.heap y v->Q (eJ x y) s->wpAny c.M A (keyLt' κ u v) Q (λzz zz=>False) s
theorem aO.mem {xs:List V} {vs:List Value} (l:aO c σ Z s.heap xs vs) {v:Value} (m:v∈vs) {G:Prop} (k:∀{x},x∈xs->Rv c σ Z s.heap x v->G):G:=(qV.mp m).elim λi h=>l.of_get h λe r=>k (cA e) r
theorem Uk:Kn c xG oneType' where
 inj:=Sr
 kind:=λh2 hx l q=>kas_kind (T:= .type "int") h2 (λv hv=>l.mem hv λm r=>by
  cases hx m;exact r.int_inv (G:=λv=>Looks _ _ (typeOf v) (.type "int")) λt=>Looks.now) (by decide) (by decide) q
 lt:=λhx hy r r' q=>by
  cases hx;cases hy;refine r.int_inv λt=>r'.int_inv λt'=>kat_lt_int ?_
  rwa [eJ,show∀{i j:Int},decide (kC (.int i)<kC (.int j))=decide (i<j) from Gl.trans (fA.mpr ⟨λh=>h.elim id λh=>absurd h.2 (tR _), .inl⟩)] at q
theorem Vk:Kn c mY oneType' where
 inj:=Um
 kind:=λh2 hx l q=>kas_kind (T:= .type "str") h2 (λv hv=>l.mem hv λm r=>by
  cases hx m;exact r.str_inv (G:=λv=>Looks _ _ (typeOf v) (.type "str")) λh t=>Looks.now) (by decide) (by decide) q
 lt:=λhx hy r r' q=>by
  cases hx;cases hy;refine r.str_inv λh t=>r'.str_inv λh' t'=>kas_lt_str ?_
  rwa [eJ,show∀{i j:Nat},decide (kC (.str i)<kC (.str j))=decide ((tx i).cps.toList<(tx j).cps.toList) from fA.mpr Ud] at q
theorem Nl (hx:∀{x},x∈xs->sh x) (l:aO c σ Z s.heap xs vs):∃fs,KatTups s.heap vs fs/\fs.length=vs.length/\∀f∈fs,∃n t,f= .int n t:=by
 induction xs generalizing vs with
 |nil=>exact l.nil_inv (G:=λvs=>∃fs,KatTups s.heap vs fs/\fs.length=vs.length/\∀f∈fs,∃n t,f= .int n t) ⟨[], .nil,rfl,λf m=>absurd m bx⟩
 |cons x xs ih=>
  refine l.cons_inv (G:=λvs=>∃fs,KatTups s.heap vs fs/\fs.length=vs.length/\∀f∈fs,∃n t,f= .int n t) λ{u us} r l=> ?_;obtain⟨fs,a,b,d⟩:=ih (λm=>hx (aQ _ m)) l;cases hx aM;exact r.cR (G:=λu=>∃fs,KatTups s.heap (u::us) fs/\fs.length=(u::us).length/\∀f∈fs,∃n t,f= .int n t) λf l=>l.cons_inv (G:=λws=>s.heap.get? _=some (gq ws _)->_) (λr l g=>r.int_inv (G:=λw=>s.heap.get? _=some (gq (w::_) _)->∃fs,KatTups s.heap (_::us) fs/\fs.length=(_::us).length/\∀f∈fs,∃n t,f= .int n t) (λt g=>⟨_::fs,KatTups.cons g rfl rfl rfl a,aE Nat.succ b,λf m=>(bz.mp m).elim (λe=>⟨_,_,e⟩) (d f)⟩) g) f.at_
theorem Uj:Kn c sh (tuples' true) where
 inj:=Gg
 kind:=λh2 hx l q=>by
  obtain⟨fs,a,b,d⟩:=Nl hx l;refine kat_kind (T:= .type "int") a (b▸gg (by decide) h2) (λv hv=> ?_) (by decide) q;obtain⟨n,t,rfl⟩:=d v hv;exact Looks.now
 lt:=λhx hy r r' q=>by
  induction hx with
  | @mk i is=>induction hy with
   | @mk j js=>
    rw [eJ,wF,wF] at q;refine r.cR λ{a us e} f l=>r'.cR λ{a' ws e'} f' l'=>kat_lt f.at_ rfl f'.at_ rfl (Sh l l' (a6 gS (a6 gS (a6 (aT l.len) (a6 (aT l'.len) ?_)))) q);rw [b0,b0]
end
end
section
open PySem PySem.W PyProof.Rows PySem.Calls
inductive DB (P:Nat->Value->Prop) (n:Nat) (s:Shared):Result->Shared->Prop
 |mk {h':Heap} {tk:Nat} {hZ:Array Value} {c':Nat} (k:∀b o,s.heap.get? b=some o->h'.get? b=some o) (at_:h'.get? s.heap.objs.size=some {cls:= .type "list",data:= .seq hZ c'}) (it:ItemsOf P hZ n):DB P n s (.ok (.ret (.ref s.heap.objs.size))) {s with heap:=h',toks:=tk}
section
variable{prog:Program} {w:World} {A:Around} {E:Value->Shared->Prop} {s:Shared} {T:String} {r d:Addr} {n:Nat} {P:Nat->Value->Prop} {OK:Heap->Prop}
theorem M_ (K:KdlSrc prog w T r d n P OK) (hh:A.handled=none) (JW:OK s.heap) (hn:n<=sizeLine)
  (h:∀{h' hZ} tk,(∀b o,s.heap.get? b=some o->h'.get? b=some o)->ItemsOf P hZ n->R hZ.toList {s with heap:=h',toks:=tk}):wpAny (model prog w) A (collect (.ref r)) R E s:=by
 have oP:=K.there _ JW;unfold collect;refine aK (wpAny_runValue (nJ entry_proto_collect' (a6 (p8 PySem.F.plain_proto_collect _) ?_)));show wpAny _ A.in1 (newList []>>=λl=>again (.builtin "list.__iadd__" ⟨[l, .ref r], []⟩)) _ _ s;refine aK (iO (ai ⟨r5 PySem.F.plain_list_iadd _,nJ entry_list_iadd' (a6 (p8 PySem.F.plain_list_iadd _) ?_)⟩));have g0:(s.heap.push (c5 [] 0)).get? s.heap.objs.size=some (c5 [] 0):=cb _ rfl;have fin:∀{q s'},DB P n s q s'->∃v,q= .ok (.ret v)/\wpAny (model prog w) A (match v with| .ref a=>load a>>=λo=>(match o.data with| .seq xs _=>pure xs.toList|_=>unsupported "internal:collect")|_=>unsupported "internal:collect") R E s':=λx=>by
  induction x with
  |mk k g it=>exact⟨_,rfl,aK (wpAny_load g (ai (h _ k it)))⟩
 refine dS (kdl_extend (A:=A) (s:={s with heap:=s.heap.push (c5 [] 0)}) (R:=DB P n s) K hh (K.keep _ _ JW λb zz o e=>bt _ _ _ _ e) s.heap.objs.size (Nat.ne_of_gt oP.1) (Nat.ne_of_gt oP.2) (.ref s.heap.objs.size) 0 g0 (λh' tk hZ c' hk oU C4=> .mk (λb o e=>hk b o (nM (kY e)) (bt _ _ _ _ e)) oU C4) hn) (λf s' x=> ?_) λe s' x=>nomatch x;induction f with
 |done f=>exact(fin x).elim λv e8=>e8.elim λe q=>by cases e;exact q
 |again c₁=>exact⟨x.1,codeAny_mono x.2 λq ez y=>(fin y).elim λv eN=>eN.elim λe q=>by subst e;exact q⟩
end
end
section
open PySem PySem.W PyProof.Rows PySem.Calls
section
variable{c:Cx} {A:Around} {E:Value->Shared->Prop} {σ:St} {Z X:Addr->Prop} {s:Shared} {Q:V->St->Prop} {R:Value->Shared->Prop}
theorem R8 (O:o3 S) (hs:∀{y},y∈xs->S y) (l:aO c σ Z s.heap xs vs) (u:Up (λi j=>eJ (j3 xs i) (j3 xs j)) p.toList) (g:Pm vs.length p):aO c σ Z s.heap (bg xs) (xN vs p):=by
 rw [<-l.len] at g;refine a6 (aT (TF O hs u g)) ⟨by rw [b0,b0],λ{i x w} e e'=> ?_⟩;obtain⟨j,a,b⟩:=l_.mp ((fc ..).symm.trans e);obtain⟨j',a',b'⟩:=l_.mp ((fc ..).symm.trans e');cases a.symm.trans a';subst b;subst b';have hj:j<xs.length:=dK.mp (g.mem_iff.mp (cA a));refine l.get (dR hj) λ{w} e1 r=> ?_;unfold j3;refine a6 (iM) (a6 (iM) (a6 (dR hj) (a6 e1 ?_)));exact r
abbrev KC (c:Cx) (A:Around) (E:Value->Shared->Prop) (σ:St) (Z:Addr->Prop) (s:Shared) (u:Value) (xs:List V):Prop:=
 ∀{R:List Value->Shared->Prop},(∀{h' ys vs} tk d,ys.Perm xs->(∀b o,s.heap.get? b=some o->h'.get? b=some o)->aO c σ Z h' ys vs->R vs {s with heap:=h',toks:=tk,drawn:=d})->wpAny c.M A.in1 (collect u) R E s
theorem TC (O:o3 S) (hx:∀{x},x∈xs->S x) (pm:ys.Perm xs):bg ys=bg xs:=z6 O (λm=>hx (pm.mem_iff.mp (dY.mp m))) ((nP ys).trans (pm.trans (nP xs).symm)) wQ wQ
theorem yR (K:Kn c S κ) (I:Inv c σ Z s.heap) (JT:∀{x},x∈Cm->S x) (cX:Cm.length<64) (uO:KC c A E σ Z s u Cm) (q:Q (.aa (bg Cm)) σ) (k:bR c Z X σ s Q R):
  wpAny c.M A (call (.builtin "sorted") [u]) R E s:=by
 refine Calls.call_function_entry kind_sorted plain_sorted entry_sorted (args_sorted1 _) ?_;unfold Builtin.«sorted»;refine aK (m:=checkCount "sorted" 1 1 _) (ai (aK (uO λ{h1 xs vs} tk d pm k1 l=> ?_)));have hx:∀{x},x∈xs->S x:=λm=>JT (pm.mem_iff.mp m);rw [<-TC K.inj JT pm] at q;have cX:vs.length<64:=l.len▸pm.length_eq▸cX;refine aK (wpAny_newList (aK (bN (jb slot_list_sort ⟨_,cb _ rfl,rfl⟩ entry_list_sort ?_ (args_list_sort _)))) (pM cX));have I1:=I.grow k1;have gs:=bk h1;have k3:∀{h':Heap} {ws:List Value} {e:Nat},j6 h1.objs.size (h1.push (c5 vs 0)) h' ws e->∀b o,h1.get? b=some o->h'.get? b=some o:=λx b o e=>x.k (nM (kY e)) (bt _ _ _ _ e);have mv:∀{h':Heap} {ws:List Value} {e:Nat},j6 h1.objs.size (h1.push (c5 vs 0)) h' ws e->Mv σ Z h1 σ Z h':=λx=>Mv.grow (k3 x) λzz=> .inl;refine MA (s:={s with heap:=h1.push (c5 vs 0),toks:=tk,drawn:=d}) (κ:=κ) (V7 xs) (cb _ rfl) cX (λh2 {h' e Q'} x hq=>K.kind (s:={s with heap:=h',toks:=tk,drawn:=d}) h2 hx (l.mono (mv x)) hq) (λ{h' e i j C} x hi hj hC=> ?_) λ{h' e p} x g up=>⟨_,rfl,ai ⟨_,rfl, ?_⟩⟩
 ·have at_:∀{i},i<vs.length->S (j3 xs i)/\Rv c σ Z h' (j3 xs i) (vs.getD i Value.none):=λ{i} hi=>l.of_get (dR hi) λ{y} e r=>by
   unfold j3;refine a6 (iM) (a6 (iM) (a6 (dR hi) (a6 e ?_)));exact⟨hx (cA e),r.mono (mv x)⟩
  exact K.lt (s:={s with heap:=h',toks:=tk,drawn:=d}) (at_ hi).1 (at_ hj).1 (at_ hi).2 (at_ hj).2 hC
 ·have kk:∀b o,s.heap.get? b=some o->h'.get? b=some o:=λb o e=>k3 x b o (k1 b o e)
  exact k q (.pV ⟨x.at_,I1.fresh gs,I1.iC gs⟩ ((R8 (s:={s with heap:=h1}) K.inj hx l up g).mono (mv x))) ⟨I.grow kk,Mv.grow kk λzz=> .inl,rfl,rfl⟩
inductive uV (xs:List V):Prop
 |int (h:∀{x},x∈xs->xG x)
 |nm (h:∀{x},x∈xs->mY x)
 |row (h:∀{x},x∈xs->sh x)
theorem yQ (L:uV xs) (I:Inv c σ Z s.heap) (cX:xs.length<64) (uO:KC c A E σ Z s u xs)
  (q:Q (.aa (bg xs)) σ) (k:bR c Z X σ s Q R):wpAny c.M A (call (.builtin "sorted") [u]) R E s:=by
 induction L with
 |int h=>exact yR Uk I h cX uO q k
 |nm h=>exact yR Vk I h cX uO q k
 |row h=>exact yR Uj I h cX uO q k
theorem QA {a:Addr} {vs:List Value} {e:Nat} {R:List Value->Shared->Prop} (ho:s.heap.get? a=some (c5 vs e)) (cX:vs.length<64) (q:∀{h'} tk,(∀b o,s.heap.get? b=some o->h'.get? b=some o)->R vs {s with heap:=h',toks:=tk}):wpAny c.M A.in1 (collect (.ref a)) R E s:=
 collect_list (vs:=vs) ⟨_,ho,rfl,_,rfl⟩ (q s.toks λb o g=>(Heap.get?_update_ne _ _ _ _ (nM (kY g))).trans (bt _ _ _ _ g)) (pM cX)
end
inductive rA (σ:St) (Q:V->St->Prop):List V->Prop
 |list {v:V} {xs:List V} (S:Sq σ 0 v xs) (L:uV xs) (h:xs.length<64) (q:Q (.aa (bg xs)) σ):rA σ Q [v]
 |dict {v:V} {ks vs:List V} (D:Dc σ v ks vs) (L:uV ks) (h:ks.length<64) (q:Q (.aa (bg ks)) σ):rA σ Q [v]
noncomputable def BI.sorted:BI where
 nm:="sorted"
 fv:= .builtin "sorted"
 ev:=rA
 mem:=cA (i:=1) rfl
 kp:=nO _
 ok:=λhh hu I q r k=>by
  induction q with
  |list S L h q=>exact r.one λr=>S.rR I r λho l=>yQ L I h (λq=>QA ho (l.len▸h) λtk kk=>q tk _ (.refl _) kk (l.mono (Mv.grow kk λzz=> .inl))) q k
  |dict D L h q=>exact r.one λr=>D.view I r λDd nz=>Dd.el λ{es e} ho n l=>yQ L I h (λw=>M_ (n:=es.length) (Pa Dd.sys) hh ho (pM (l.lk▸h)) λtk kk it=>by
    exact a6 (Fi (f:=λen=>en.key) it) (a6 List.toList_toArray (w tk _ (.refl _) kk (l.keys.mono (Mv.grow kk λzz=> .inl))))) q k
end
structure Kp (t t':SetTable):Prop where
 led:t'.led=t.led
 pl:t.plain=false->t'.plain=false
theorem Vj (t:SetTable) (n:Nat):Kp t (t.orStandIn n):=by
 unfold SetTable.orStandIn
 split
 ·exact⟨rfl,id⟩
 ·exact⟨rfl,λh=>rfl⟩
set_option tactic.hygienic true in
theorem Uh (t:SetTable) (es:Array (Int×Value)) (h:Int) (x:Value):Kp t (layNew t es h x).2.1:=by
 unfold layNew
 split
 ·rename_i slot wd e
  have k:=Vj (t.put slot).1 (SetTable.insertAt es (t.put slot).2 (h,x)).size;exact⟨k.led,k.pl⟩
 ·exact⟨rfl,λh=>rfl⟩
theorem Om (h:t.relaid hs wanted=some (t',o)):Kp t t':=by
 unfold SetTable.relaid SetTable.laid at h;cases e:SetTable.layClean (SetTable.sizeAbove wanted -1) hs with
 |none=>rw [e] at h;exact bK h
 |some ow=>rw [e] at h;cases h;exact⟨rfl,id⟩
set_option tactic.hygienic true in
theorem Ui (t:SetTable) (es:Array (Int×Value)) (wanted:Nat):Kp t (relayAll t es wanted).2.1:=by
 unfold relayAll
 split
 ·rename_i t' o e
  dsimp only
  split
  ·exact Om e
  ·exact⟨rfl,λh=>rfl⟩
 ·exact⟨rfl,λh=>rfl⟩
structure jS (c:Cx) (S:PySem.Str->Bool) (n:Nat) (es:Array (Int×Value)) (t:SetTable):Prop where
 el:ElemsOf (strKind c.prog c.w) es.toList
 mem:∀{k},S k=true↔∃e∈es.toList,(strKind c.prog c.w).is k e.2=true
 b:es.size<scanBound
 fit:t.fits es.size=true
 sz:es.size=n
 ord:c.w.params.followText "set-order"=true\/t.led=true
 pl:es.size≠0->t.plain=false
inductive gE (c:Cx) (h:Heap) (a:Addr) (S:PySem.Str->Bool) (n:Nat):Prop
 |mk {o:Obj} {es:Array (Int×Value)} {ep:Nat} {t:SetTable} (ho:h.get? a=some o) (hex:o.ExactSet) (hd:o.data= .set es ep t) (x:jS c S n es t)
section
variable{c:Cx} {A:Around} {E:Value->Shared->Prop} {s:Shared} {a:Addr} {S:PySem.Str->Bool} {n:Nat}
theorem jS.perm (x:jS c S n es t) (pm:d5.toList.Perm es.toList) (f:t'.fits d5.size=true) (k:Kp t t'):jS c S n d5 t':=by
 have sz:d5.size=es.size:=by exact a6 (aT qY) (a6 pm.length_eq (a6 qY rfl))
 exact⟨x.el.perm pm,λ{k'}=>x.mem.trans ⟨λeD=>eD.elim λe eL=>eL.elim λhe q=>⟨e,pm.mem_iff.mpr he,q⟩,λeZ=>eZ.elim λe dW=>dW.elim λhe q=>⟨e,pm.mem_iff.mp he,q⟩⟩,sz▸x.b,f,sz.trans x.sz,k.led▸x.ord,λh=>k.pl (x.pl (sz▸h))⟩
theorem EU {h:Heap} {o:Obj} {es d5:Array (Int×Value)} {ep:Nat} {t t':SetTable} (ho:h.get? a=some o) (hex:o.ExactSet) (hd:o.data= .set es ep t) (x:jS c S n d5 t'):
  (h.update a (Obj.putSet d5 t')).get? a=some {o with data:= .set d5 (ep+1) t'}:=(SetOf_store (knd:=strKind c.prog c.w) ho hex hd x.el (λk=>x.mem) x.b x.fit).1
end
section
variable{c:Cx} {A:Around} {E:Value->Shared->Prop} {s:Shared} {a:Addr} {S S':PySem.Str->Bool} {n:Nat} {o:Obj} {es d5:Array (Int×Value)} {ep:Nat} {t t':SetTable}
abbrev Jn (c:Cx) (A:Around) (E:Value->Shared->Prop) (g:Bool->Sem Unit):Prop:=∀{b aC} {Q':Unit->Shared->Prop},Q' () aC->wpAny c.M A (g b) Q' E aC
theorem EX {g:Bool->Sem Unit} (hg:Jn c A E g) (ho:s.heap.get? a=some o) (hex:o.ExactSet) (hd:o.data= .set es ep t) (x:jS c S' n d5 t') {wd:Bool} {R:Option Bool->Shared->Prop}
  (h:∀{h'},Heap.SameBut a s.heap h'->gE c h' a S' n->R (some true) {s with heap:=h'}):
  wpAny c.M A (do
    storeSet a d5 t'
    if(!wd&&t'.tooFull)=true then do
      g (relayAll t' d5 (SetTable.grown d5.size)).2.2
      storeSet a (relayAll t' d5 (SetTable.grown d5.size)).1 (relayAll t' d5 (SetTable.grown d5.size)).2.1
      pure (some true)
     else pure (some true)) R E s:=by
 have g1:=EU ho hex hd x;have sb:=iN s.heap a (Obj.putSet d5 t');refine aK (wpAny_storeSet_of ho hd ?_ (fits_of_scanBound x.b));by_cases q:(!wd&&t'.tooFull)=true
 ·refine a6 (aF q) ?_
  have x2:=x.perm (relayAll_perm t' d5 (SetTable.grown d5.size)) (relayAll_fits t' d5 (SetTable.grown d5.size)) (Ui t' d5 (SetTable.grown d5.size));exact aK (hg (aK (wpAny_storeSet_of g1 rfl (ai (h (sb.trans (iN _ a _)) (.mk (EU g1 hex rfl x2) hex rfl x2))) (fits_of_scanBound x2.b))))
 ·refine a6 (aB q) ?_
  exact ai (h sb (.mk g1 hex rfl x))
theorem O4:Jn c A E λb=>match b with|true=>rule "set.scan.the-table-gave-way"|false=>pure ():=λ{b aC Q'} hq=>by cases b;exact ai hq;exact gj hq
theorem jS.lay (x:jS c S n es t) (hr:n+1<scanBound) (hk:S k=false):jS c (λk'=>S k'||decide (k'=k)) (n+1) (layNew t es ((strKind c.prog c.w).hash k) (.str k tk)).1 {(layNew t es ((strKind c.prog c.w).hash k) (.str k tk)).2.1 with plain:=false}:=by
 have sI:(strKind c.prog c.w).is k (.str k tk)=true:=by show Value.isStrOf k (.str k tk)=true;unfold Value.isStrOf;exact gT _
 have pm:=layNew_perm t es ((strKind c.prog c.w).hash k) (.str k tk);rw [Array.toList_push] at pm;have sz:(layNew t es ((strKind c.prog c.w).hash k) (.str k tk)).1.size=n+1:=by refine a6 (aT qY) (a6 pm.length_eq (a6 aP (a6 qY (a6 x.sz ?_))));rfl
 exact⟨(x.el.push sI rfl).perm pm,λ{k'}=>mem_push_iff sI (λk=>x.mem) pm k',sz▸hr,SetTable.fits_plain_off (layNew_fits t es ((strKind c.prog c.w).hash k) (.str k tk)),sz,(Uh t es ((strKind c.prog c.w).hash k) (.str k tk)).led▸x.ord,λh=>rfl⟩
end
section
variable{c:Cx} {A:Around} {E:Value->Shared->Prop} {s:Shared} {a:Addr} {S:PySem.Str->Bool} {n:Nat}
theorem jS.find (x:jS c S n es t) (hr:List.findIdx? (λe=>(strKind c.prog c.w).is k e.2) es.toList=j):S k=j.isSome:=by
 induction j with
 |some j=>
  obtain⟨hj,Y2,r⟩:=List.findIdx?_eq_some_iff_getElem.mp hr;exact x.mem.mpr ⟨es.toList[j],List.getElem_mem hj,Y2⟩
 |none=>
  cases q:S k with
  |false=>rfl
  |true=>exact(x.mem.mp q).elim λe e8=>e8.elim λhe y=>nomatch y.symm.trans (List.findIdx?_eq_none_iff.mp hr e he)
set_option tactic.hygienic true in
theorem Rg (hS:gE c s.heap a S n) (Vq:n+1<scanBound)
  (h1:S k=true->Q false s) (h2:S k=false->∀{h'},Heap.SameBut a s.heap h'->gE c h' a (λk'=>S k'||decide (k'=k)) (n+1)->Q true {s with heap:=h'}):
  wpAny c.M A (setAddHashed a (.str k tk) ((strKind c.prog c.w).hash k)) Q E s:=by
 induction hS with
 | @mk o es ep t ho hex hd x=>
  have sI:(strKind c.prog c.w).is k (.str k tk)=true:=by show Value.isStrOf k (.str k tk)=true;unfold Value.isStrOf;exact gT _
  unfold setAddHashed setAddHashedIn;refine bN (aK (vL ho hd x.fit ?_));dsimp only;refine a6 (byScan_of rfl x.b x.el) (a6 (aF rfl) ?_);unfold setAddByScan;refine aK (aK (gj (aK (wpAny_setScan_of sI ho hd x.fit x.el ?_))));cases hr:List.findIdx? (λe=>(strKind c.prog c.w).is k e.2) es.toList with
  |some j=>exact ai (ai (h1 (x.find hr)))
  |none=>
   have hk:S k=false:=x.find hr;have x1:=x.lay (tk:=tk) Vq hk;dsimp only;generalize layNew t es ((strKind c.prog c.w).hash k) (.str k tk)=L at x1⊢;obtain⟨Zm,t1,wd,gv⟩:=L;refine aK (O4 ?_)
   split
   ·refine aK ?_
    exact a6 (hashByValue_scannable 8 rfl) (ai (EX (λ{b aC Q'} hq=>by cases b;exact ai hq;exact gj hq) ho hex hd x1 λsb oU=>ai (h2 hk sb oU)))
   ·rename_i CL
    have e:t1={t1 with plain:=false}:=by
     obtain⟨a,b,c,d,e,f,g⟩:=t1;cases g
     ·rfl
     ·exact absurd rfl CL
    exact aK (ai (a6 (aF rfl) (EX (λ{b aC Q'} hq=>by cases b;exact ai hq;exact gj hq) ho hex hd (e▸x1) λsb oU=>ai (h2 hk sb oU))))
end
noncomputable def W5 (v:V):PySem.Str:=V.casesOn (motive_1:=λv=>PySem.Str) v (tx 0) (λb=>tx 0) (λi=>tx 0) (λn=>tx n) (λl=>tx 0) (λl=>tx 0) (λl m=>tx 0) (λi j=>tx 0) (λa=>tx 0) (λa b=>tx 0)
noncomputable def iK (d:List V) (k:PySem.Str):Bool:=decide (k∈d.map W5)
noncomputable def e9 (xs d:List V):List V:=xs.foldl (λd x=>bW x d) d
abbrev j4 (d:List V):Prop:=∀{x},x∈d->mY x
theorem Rc (hd:j4 d) (hn:n<bJ.length) (h:iK d (tx n)=true):V.str n∈d:=by
 obtain⟨v,m,e⟩:=bB.mp (bY h);cases hd m with
 |mk h'=>exact jK h' hn e▸m
theorem Rd:(λk'=>iK d k'||decide (k'=tx n))=iK (d++ [.str n]):=eR λk=>by
 rewrite [iK,iK,<-Bool.decide_or,fA];refine a6 iR ?_;rw [cM];exact or_congr_right b3.symm
theorem G3 (hd:j4 d) (hx:mY x):j4 (bW x d):=by
 unfold bW
 split
 ·exact hd
 ·exact λm=>(cM.mp m).elim hd λm=>b3.mp m▸hx
theorem RY (hx:j4 xs) (hd:j4 d):j4 (e9 xs d):=by
 induction xs generalizing d with
 |nil=>exact hd
 |cons x xs ih=>exact ih (λm=>hx (aQ _ m)) (G3 hd (hx aM))
theorem rO (h:d.Nodup):(e9 xs d).Nodup:=by
 induction xs generalizing d with
 |nil=>exact h
 |cons x xs ih=>exact ih (vU h)
theorem RZ:(e9 xs d).length<=d.length+xs.length:=by
 induction xs generalizing d with
 |nil=>exact bC _
 |cons x xs ih=>exact ay ih (ay (bG pA _) (gh (k5 ..)))
inductive j5:List V->List Value->Prop
 |nil:j5 [] []
 |cons {n:Nat} {xs:List V} {vs:List Value} (h:n<bJ.length) (t:Tok) (r:j5 xs vs):j5 (.str n::xs) (.str (tx n) t::vs)
theorem j5.of (hx:j4 xs) (l:aO c σ Z h xs vs):j5 xs vs:=by
 induction xs generalizing vs with
 |nil=>exact l.nil_inv .nil
 |cons x xs ih=>
  refine l.cons_inv λr k=> ?_;cases hx aM;exact r.str_inv λh t=> .cons h t (ih (λm=>hx (aQ _ m)) k)
section
variable{c:Cx} {A:Around} {E:Value->Shared->Prop} {s:Shared} {a b:Addr} {d:List V} {S:PySem.Str->Bool}
theorem gE.to (x:gE c h a S n) (k:∀o,h.get? a=some o->h'.get? a=some o):gE c h' a S n:=x.casesOn λho hex hd x=> .mk (k _ ho) hex hd x
theorem Nk (hS:gE c s.heap a (iK d) d.length) (hd:j4 d) (hn:n<bJ.length) (hr:d.length+1<scanBound)
  (h:∀{h' r} tk,Heap.SameBut a s.heap h'->gE c h' a (iK (bW (.str n) d)) (bW (.str n) d).length->Q r {s with heap:=h',toks:=tk}):wpAny c.M A (setAdd a (.str (tx n) t)) Q E s:=by
 unfold setAdd;have sI:(strKind c.prog c.w).is (tx n) (.str (tx n) t)=true:=by show Value.isStrOf (tx n) (.str (tx n) t)=true;unfold Value.isStrOf;exact gT _
 refine bN (aK ((strKind c.prog c.w).pyHash sI (Rg (s:={s with toks:=s.toks+1}) hS hr (λe=>h (h':=s.heap) _ (.refl ..) ((iA (Rc hd hn e)).symm▸hS)) λe {h'} sb x=>h _ sb ?_)));have m:V.str n∉d:=λm=>de (e.symm.trans (bQ (bB.mpr ⟨_,m,rfl⟩):iK d (tx n)=true));exact a6 (eG m) (a6 aP (a6 (aT Rd) x))
theorem Pj (hh:A.handled=none) (nI:I≠a) (nl:l≠a) (Xx:l≠I) (hv:j5 xs vs):∀{i:Nat} {s:Shared} {d:List V},(∀{j},us[i+j]? =vs[j]?)->s.heap.IsListIter I l i->s.heap.get? l=some (c5 us ep)->
   j4 d->d.length+xs.length<64->gE c s.heap a (iK d) d.length->
   (∀{h'} tk,(∀b o,b≠a->b≠I->s.heap.get? b=some o->h'.get? b=some o)->gE c h' a (iK (e9 xs d)) (e9 xs d).length->R (.ok (.ret .none)) {s with heap:=h',toks:=tk})->
   codeAny c.M A (.builtin "set.update.loop" ⟨[.ref a, .ref I], []⟩) R s:=by
 induction hv with
 |nil=>
  intro i s d hu hit hl hd cX hS hR;refine nJ PyProof.Rows.F.entry_set_update_loop (a6 (p8 PyProof.Rows.F.plain_set_update_loop _) ?_);show wpAny _ A.in1 (pyNext (.ref I)>>=_) _ _ s;refine aK (yO (A:=A.in1) hh hit hl (hu (j:=0)) λh' hs=> ?_);show wpAny _ A.in1 (ret Value.none) _ _ _;exact ai (hR s.toks (λb o zz n e=>hs b o n e) (hS.to λo e=>hs a o (aL nI) e))
 | @cons n xs vs hn t r ih=>
  intro i s d hu hit hl hd cX hS hR;refine nJ PyProof.Rows.F.entry_set_update_loop (a6 (p8 PyProof.Rows.F.plain_set_update_loop _) ?_);show wpAny _ A.in1 (pyNext (.ref I)>>=_) _ _ s;refine aK (yS hit hl (hu (j:=0)) λh' kD hs=> ?_);show wpAny _ A.in1 (holding [Value.str (tx n) t] (setAdd a (.str (tx n) t))>>=_) _ _ _;have JH:d.length+1+xs.length<64:=(k5 d.length xs.length).symm▸cX;refine aK (bN (Nk (hS.to λo e=>hs.extBut a o (aL nI) e) hd hn (az (aY _ _) (gB JH (by decide))) λ{h2 q} tk vj Yl=>ai ⟨r5 PyProof.Rows.F.plain_set_update_loop _,ih (λ{j}=> ?_) (kD.at λo e=>vj.extBut I o nI e) (vj.extBut l _ nl (hs.extBut l _ Xx hl)) (G3 hd ⟨hn⟩) (az (bG pA _) JH) Yl λtk k3 Yk=>hR tk (λb o n1 n2 e=>k3 b o n1 n2 (vj.extBut b o n1 (hs.extBut b o n2 e))) Yk⟩));rw [k5];exact hu (j:=j+1)
end
section
variable{c:Cx} {A:Around} {E:Value->Shared->Prop} {s:Shared}
noncomputable abbrev lF (c:Cx):Obj:={cls:= .type "set",dict:=none,data:= .set #[] 0 (.fresh 0 0 (!c.w.params.followText "set-order"))}
theorem Ng (h:Heap):gE c (h.push (lF c)) h.objs.size (iK []) ([]:List V).length:=
 .mk (cb _ rfl) ⟨rfl,rfl,rfl⟩ rfl ⟨λe he=>absurd he bx,⟨λh=>absurd (bY h) bx,λeN=>eN.elim λe eD=>eD.elim λm zz=>absurd m bx⟩,by decide,rfl,rfl,(Bool.eq_false_or_eq_true (c.w.params.followText "set-order")).imp id λe=>(aE not e:(!c.w.params.followText "set-order")= !false),λq=>absurd rfl q⟩
theorem MQ (a:Value) (h:Q (.ref s.heap.objs.size) {s with heap:=s.heap.push (lF c)}):codeAny c.M A (.call (.builtin "set.__new__") ⟨[.type "set",a], []⟩) (wants Q E) s:=by
 refine codeAny_of_tree ?_;show wpAny _ A.in1 (do checkBuiltinCall "set.__new__" ⟨[.type "set",a], []⟩;again (.builtin "set.__new__" ⟨[.type "set",a], []⟩)) _ _ s;refine aK (nN (PySem.F.newCall_set_1 a) (ai ⟨r5 PySem.F.plain_set_new _,nJ PySem.F.entry_set_new (a6 (p8 PySem.F.plain_set_new _) ?_)⟩));unfold Builtin.«set.__new__» Builtin.Frozenset.newClass;have Ws:=sub_set_self
 wp_walk
 exact wpAny_askSetting (ai (aK (wpAny_alloc (ai (ai h)))))
theorem Fs {M:Model} {A:Around} {Q:Value->Shared->Prop} {Q₁:Value->Shared->Prop} {f:Result->Shared->Prop} (h:∀v s',Q₁ v s'->f (.ok (.ret v)) s') (he:∀e s',E e s'->f (.error e) s') (r:Result) (s':Shared) (x:wants Q₁ E r s'):f r s':=by
 induction r with
 |error e=>exact he e s' x
 |ok fl=>induction fl with
  |ret v=>exact h v s' x
  |_=>exact x.elim
theorem QE {a:Value} {Q:Value->Shared->Prop} (h:wpAny c.M A.in1.in1 (Builtin.«set.__init__» ⟨[.ref s.heap.objs.size,a], []⟩) (y9 c A.in1 (xm E (Q (.ref s.heap.objs.size)))) (λe=>xm E (Q (.ref s.heap.objs.size)) (.error e)) {s with heap:=s.heap.push (lF c)}):
  wpAny c.M A (call (.type "set") [a]) Q E s:=by
 obtain⟨c',tl,Z4⟩:=qZ.mro;have Z0:=qZ.made;have Ws:=qZ.sub;refine wpAny_call (codeAny_of_tree ?_);show wpAny _ _ (callAny (.type "set") _) _ _ _;refine ai ⟨Code.quiet_builtin _ (by decide+kernel),nJ PySem.F.entry_type_call (a6 (Around.under_plain (weight_type_call_type "set" [a] []) rfl) ?_)⟩;have h1:=qZ.notType;have h2:=qZ.canCreate;have Zi:=PySem.F.typeCall_set_1 a
 repeat (any_goals (first|assumption|wp_step))
 refine codeAny_mono (MQ a (E:=E) (Q:=λobj aC=>obj= .ref s.heap.objs.size/\aC={s with heap:=s.heap.push (lF c)}) ⟨rfl,rfl⟩) (Fs (M:=c.M) (A:=A) (Q:=Q) (λv s' hr=> ?_) λe s' x=>x);obtain⟨rfl,rfl⟩:=hr;have hT:Shared.TypeIs {s with heap:=s.heap.push (lF c)} (.ref s.heap.objs.size) "set":=⟨_,cb _ rfl,rfl⟩;have Zg:=qZ.init.lookup;have Zk:=qZ.init.bind (.ref s.heap.objs.size)
 repeat (any_goals (first|assumption|wp_step))
 refine codeAny_mono (codeAny_call_builtin qZ.init.plain PySem.F.entry_set_init (check_set_init_1 hT h)) (Fs (M:=c.M) (A:=A) (Q:=Q) (λv s' hr=> ?_) λe s' x=>x);obtain⟨rfl,hq⟩:=hr
 repeat (any_goals (first|assumption|wp_step))
end
section
variable{c:Cx} {A:Around} {E:Value->Shared->Prop} {s:Shared} {S l:Addr} {us:List Value} {ep:Nat}
theorem Pk {W:Result->Shared->Prop} {e:Value->Shared->Prop} (hg:s.heap.get? S=some (lF c)) (hl:s.heap.get? l=some (c5 us ep))
  (h:codeAny c.M A.in1.in1 (.builtin "set.update.loop" ⟨[.ref S, .ref s.heap.objs.size], []⟩) (λr s'=>r= .ok (.ret .none)/\W (.ok (.ret .none)) s') {s with heap:=s.heap.push {cls:= .type "list_iterator",data:= .fields #[.ref l, .int 0 0]}}):
  wpAny c.M A.in1.in1 (Builtin.«set.__init__» ⟨[.ref S, .ref l], []⟩) (y9 c A.in1 W) e s:=by
 have hT:s.TypeIs (.ref S) "set":=⟨_,hg,rfl⟩;have Y5:=hl;have Z2:=PySem.F.sub_list_set;have Z3:=PySem.F.sub_list_frozenset;have tf:(Value.type "list"==Value.type "dict")=false:=by decide
 have Zl:s.TypeIs (.ref l) "list":=⟨_,Y5,rfl⟩;unfold Builtin.«set.__init__» noKeywords Builtin.Frozenset.updateFrom;generalize Yn:pyIter=PI
 wp_walk
 subst Yn;refine wpAny_pyIter_list (items:=us.toArray) ⟨_,hl,rfl,_,rfl⟩ (aK (wpAny_runValue (codeAny_mono h λr s' x=> ?_)));obtain⟨rfl,x⟩:=x;exact ai (ai x)
theorem N2 (hh:A.handled=none) (hl:s.heap.get? l=some (c5 us ep)) (hv:j5 xs us) (cX:xs.length<64)
  (h:∀{h'} tk,gE c h' s.heap.objs.size (iK (e9 xs [])) (e9 xs []).length->(∀b o,s.heap.get? b=some o->h'.get? b=some o)->Q (.ref s.heap.objs.size) {s with heap:=h',toks:=tk}):wpAny c.M A (call (.type "set") [.ref l]) Q E s:=by
 have k:=bt s.heap (lF c);have nb:∀b o,s.heap.get? b=some o->b≠s.heap.objs.size:=λb o e=>cq (bk _) e;have nI:(s.heap.push (lF c)).objs.size≠s.heap.objs.size:=aL (cq (bk _) (cb _ rfl));have k2:=bt (s.heap.push (lF c)) {cls:= .type "list_iterator",data:= .fields #[.ref l, .int 0 0]};refine QE (Pk (c:=c) (s:={s with heap:=s.heap.push (lF c)}) (cb _ rfl) (k _ _ hl) ?_);refine Pj (A:=A.in1.in1) (s:=⟨_,s.gens,s.drawn,s.toks,s.os⟩) hh nI (nb _ _ hl) (cq (bk _) (k _ _ hl)) hv (i:=0) (λ{j}=>by rw [di]) ⟨_,cb _ rfl,rfl,rfl⟩ (k2 _ _ (k _ _ hl)) (d:= []) jT (by refine a6 kX ?_;rw [di];exact cX) ((Ng s.heap).to λo=>k2 _ o) λtk kk x=>⟨rfl,rfl,h tk x λb o e=>kk b o (nb b o e) (cq (bk _) (k _ _ e)) (k2 _ _ (k _ _ e))⟩
end
theorem yZ (h:xs[i]? =some x):(x::xs.eraseIdx i).Perm xs:=by
 induction xs generalizing i with
 |nil=>exact bK h
 |cons y xs ih=>induction i with
  |zero=>cases h;exact .refl _
  |succ i=>exact(List.Perm.swap y x _).trans ((ih h).cons y)
theorem Eu {α:Type} {xs:List α} {i n:Nat} {x:α} (h:xs[i]? =some x) (e:n+1=xs.length):n=(xs.eraseIdx i).length:=d7 (e.trans (yZ h).length_eq.symm)
theorem MV {α:Type} {f:Nat->Nat} {n k:Nat} {left:List α} {out:Array α} (h:n=left.length):(pickOrder.go f n k left out).toList.Perm (out.toList++left):=by
 induction n generalizing k left out with
 |zero=>cases f9 h.symm;rw [d6];exact .refl _
 |succ n ih=>
  have hg:left[f k %left.length]? =some (left[f k %left.length]'(Nat.mod_lt _ (h▸m8 n))):=dR _;show(match left[f k %left.length]? with|some x=>pickOrder.go f n (k+1) (left.eraseIdx (f k %left.length)) (out.push x)|none=>out).toList.Perm _;refine a6 hg ((ih (Eu hg h)).trans (a6 Array.toList_push ?_));rw [bP];exact List.Perm.append_left _ (yZ hg)
theorem Ei (f:Nat->Nat) (xs:Array α):(pickOrder f xs).toList.Perm xs.toList:=MV (out:= #[]) rfl
section
variable{M:Model} {A:Around} {E:Value->Shared->Prop} {s:Shared}
theorem M6 (hn:n≠0) (h:∀i d,i<n->Q i {s with drawn:=d}):wpAny M A (choose src n) Q E s:=λΓ p Zf=>⟨hn,h _ _ (Nat.mod_lt _ (Nat.pos_of_ne_zero hn))⟩
theorem LH {α:Type} {n:Nat} {xs:List α} {Q:List α->Shared->Prop} (e:n=xs.length) (q:∀ys d,ys.Perm xs->Q ys {s with drawn:=d}):wpAny M A (drawOrder n xs) Q E s:=by
 induction n generalizing xs s Q with
 |zero=>cases f9 e.symm;exact ai (q [] s.drawn (.refl _))
 |succ n ih=>induction xs with
  |nil=>exact eh e
  |cons x xs=>
   refine aK (f:=λi=>match(x::xs)[i]? with|some y=>drawOrder n ((x::xs).eraseIdx i)>>=λr=>pure (y::r)|none=>unsupported "internal:drawOrder") (M6 eh λi d hi=> ?_);have hg:(x::xs)[i]? =some ((x::xs)[i]'hi):=dR _;exact a6 hg (aK (ih (Eu hg e) λys d hp=>ai (q _ d ((hp.cons _).trans (yZ hg)))))
end
theorem vR:Slot "set_iterator" "__next__" "set_iterator.__next__":=
 .of (owner:="set_iterator") (n:="__next__") (by rewrite [typeLookup_type];refine a6 builtinLookup_eq_fast ?_;kernel_rfl) (by decide+kernel) (by decide+kernel) (by decide+kernel) (.inl (by decide+kernel)) (by rw [isSubtype_type];kernel_rfl)
theorem LU:entryFor table "set_iterator.__next__"=some Builtin.«set_iterator.__next__»:=entryFor_of_tree (by kernel_rfl)
theorem LW:entryFor table "set.__iter__"=some Builtin.«frozenset.__iter__»:=entryFor_alias (id':="frozenset.__iter__") (by kernel_rfl) rfl (by decide+kernel) (by kernel_rfl)
theorem Ek:Manifest.owners.lookup (String.ofList ['r','o','t','a','r','e','t','i','_','t','e','s'].reverse)=some Manifest.sig_set_iterator:=by kernel_rfl
theorem Mj (a:Value):argsOk "set_iterator.__next__" ⟨[a], []⟩:=by
 unfold argsOk;refine a6 (signature?_of (id:="set_iterator.__next__") (n:= ['_','_','t','x','e','n','_','_']) (o:= ['r','o','t','a','r','e','t','i','_','t','e','s']) (by kernel_rfl) Ek) ?_;kernel_rfl
theorem DL:Slot "set_iterator" "__iter__" "set_iterator.__iter__":=
 .of (owner:="set_iterator") (n:="__iter__") (by rewrite [typeLookup_type];refine a6 builtinLookup_eq_fast ?_;kernel_rfl) (by decide+kernel) (by decide+kernel) (by decide+kernel) (.inl (by decide+kernel)) (by rw [isSubtype_type];kernel_rfl)
theorem LV:entryFor table "set_iterator.__iter__"=some Builtin.«dict_keyiterator.__iter__»:=entryFor_alias (id':="dict_keyiterator.__iter__") (by kernel_rfl) rfl (by decide+kernel) (by kernel_rfl)
theorem Mk (a:Value):argsOk "set_iterator.__iter__" ⟨[a], []⟩:=by
 unfold argsOk;refine a6 (signature?_of (id:="set_iterator.__iter__") (n:= ['_','_','r','e','t','i','_','_']) (o:= ['r','o','t','a','r','e','t','i','_','t','e','s']) (by kernel_rfl) Ek) ?_;kernel_rfl
noncomputable abbrev GK (first:Value) (i:Nat) (a:Addr) (n ep:Nat):Obj:={cls:= .type "set_iterator",data:= .fields #[first, .int i 0, .ref a, .int n 0, .int ep 0]}
structure kN (c:Cx) (h:Heap) (I a:Addr) (first:Value) (i:Nat) (es:Array (Int×Value)) (ep:Nat) (t:SetTable):Prop where
 it:h.get? I=some (GK first i a es.size ep)
 st:∃o,h.get? a=some o/\o.data= .set es ep t
 fit:t.fits es.size=true
section
variable{c:Cx} {A:Around} {E:Value->Shared->Prop} {s:Shared} {I a:Addr} {es:Array (Int×Value)} {ep:Nat} {t:SetTable} {first:Value} {i:Nat} {Q:Option Value->Shared->Prop}
theorem kN.keeps (x:kN c h I a first i es ep t) (k:∀b o,b=I\/b=a->h.get? b=some o->h'.get? b=some o):kN c h' I a first i es ep t:=⟨k _ _ (.inl rfl) x.it,x.st.imp λo e=>⟨k _ _ (.inr rfl) e.1,e.2⟩,x.fit⟩
abbrev HP (c:Cx) (A:Around) (E:Value->Shared->Prop) (Q:Option Value->Shared->Prop):Value->Shared->Prop:=λe s'=>wpAny c.M A (do if<-isInstance e (.type "StopIteration") then pure none else throw e) Q E s'
abbrev V3 (Q:Option Value->Shared->Prop):PySem.Fin->Shared->Prop:=λfin s'=>∃r,fin= .done (.ret r)/\Q (some r) s'
theorem u4 (x:kN c s.heap I a first i es ep t)
  (h:wpAny c.M A.in1 (if let .int slot _:=first then do
    match<-setNext a slot.toNat i ep with
    |some (x,next)=>
     setField (.ref I) 0 (rawInt next)
     setField (.ref I) 1 (rawInt ((i:Int)+1))
     ret x
    |none=>setField (.ref I) 2 .none;raiseNew (<-newExc (.type "StopIteration") [])
   else do
    let some places<-seqItems? first|unsupported "internal:set_iterator"
    match places[i]? with
    |some (.int place _)=>
     let x<-setNextDrawn a place.toNat ep
     setField (.ref I) 1 (rawInt ((i:Int)+1))
     ret x
    |some _=>unsupported "internal:set_iterator"
    |none=>setField (.ref I) 0 (rawInt 0);setField (.ref I) 2 .none;raiseNew (<-newExc (.type "StopIteration") [])) (V3 Q) (HP c A E Q) s):wpAny c.M A (pyNext (.ref I)) Q E s:=by
 obtain⟨os,qE,oS⟩:=x.st;have hT:s.TypeIs (.ref I) "set_iterator":=⟨_,x.it,rfl⟩;unfold pyNext;refine aK (wpAny_attempt (tH (name:=Str.ofString "__next__") hT vR (jb vR hT LU ?_ (Mj _))));show wpAny _ _ (fieldsOf (.ref I)>>=_) _ _ s;exact wb (wpAny_fieldsOf x.it rfl (wb (wpAny_setEntries_of qE oS x.fit (ct (by rw [bne_self_eq_false];exact cK) (dS h (λfin s' eL=>eL.elim λr eZ=>eZ.elim λe q=>⟨r,e,ai q⟩) λzz zz x=>x)))))
theorem EW (hh:A.handled=none) (ho:s.heap.get? I=some o) (hd:o.data= .fields vs) (h2:2<vs.size) (hQ:∀h',Heap.ExtBut I s.heap h'->Q none {s with heap:=h'}):
  wpAny c.M A.in1 (do setField (.ref I) 2 .none;raiseNew (<-newExc (.type "StopIteration") [])) P (HP c A E Q) s:=by
 refine wb (pj ho hd h2 (wb ?_));unfold newExc;refine wb (iO (wb (m:=firstArgMember _ _) (nN (a:=Value.none) rfl (iO (?_:wpAny _ _ (raiseNew (.ref _)) _ _ _)))) (by size_fits));unfold raiseNew;refine wb (wpAny_handled ?_);unfold yc;refine a6 (show A.in1.handled=none from hh) ?_;refine wb (ai (wpAny_throw ?_));exact wb (ph (T:="StopIteration") (b:=true) ⟨_,cb _ rfl,rfl⟩ isSubtype_stop (ai (hQ _ (((iN ..).extBut.push _).push _))))
theorem Pf {Q:Value->Shared->Prop} (x:kN c s.heap I a first i es ep t) (h:Q (.ref I) s):wpAny c.M A (pyIter (.ref I)) Q E s:=by
 have hT:s.TypeIs (.ref I) "set_iterator":=⟨_,x.it,rfl⟩;refine wpAny_pyIter_slot hT DL (jb DL hT LV ?_ (Mk _));show wpAny _ _ (ret (.ref I)) _ _ s;exact ai ⟨_,rfl,"set_iterator",_,hT,vR.lookup,h⟩
end
inductive Wk (c:Cx) (h:Heap) (a:Addr) (es:Array (Int×Value)) (ep:Nat) (t:SetTable) (T:Addr) (ys:List Value):Value->Nat->Prop
 |text {i:Nat} (hb:c.w.params.followText "set-order"=true) (e:ys=(pickOrder (c.w.params.setOrder a ep) es).toList.map (·.2)):Wk c h a es ep t T ys (.int 0 0) i
 |one {x:Int×Value} {j:Nat} (hb:c.w.params.followText "set-order"=false) (hl:t.led=true) (e:es= #[x]) (e':ys= [x.2]) (p:t.place= #[j]):Wk c h a es ep t T ys (.int 0 0) 0
 |done {i slot:Nat} (hb:c.w.params.followText "set-order"=false) (hl:t.led=true) (e:es.size<=1) (e':ys.length=i) (e2:es[SetTable.below t.place slot]? =none):Wk c h a es ep t T ys (.int slot 0) i
 |drawn {i e:Nat} {o:Obj} {places:Array Value} (hT:h.get? T=some o) (hd:o.data= .seq places e) (hz:places.size=ys.length) (hp:∀{i:Nat} {x:Value},ys[i]? =some x->∃(p:Nat) (tk:Tok) (hs:Int),places[i]? =some (Value.int p tk)/\es[p]? =some (hs,x)):Wk c h a es ep t T ys (.ref T) i
section
variable{c:Cx} {A:Around} {E:Value->Shared->Prop} {s:Shared} {I a T:Addr} {es:Array (Int×Value)} {ep:Nat} {t:SetTable} {first:Value} {i:Nat} {Q:Option Value->Shared->Prop} {ys:List Value}
theorem Wk.keeps (w:Wk c h a es ep t T ys first i) (k:∀o,h.get? T=some o->h'.get? T=some o):Wk c h' a es ep t T ys first i:=by
 induction w with
 |text hb e=>exact .text hb e
 |one hb hl e e' p=>exact .one hb hl e e' p
 |done hb hl e e' e2=>exact .done hb hl e e' e2
 |drawn hT hd hz hp=>exact .drawn (k _ hT) hd hz hp
theorem FK {j:Nat} (x:kN c s.heap I a (.int (i:Nat) 0) j es ep t) {y:Value} {next:Nat}
  (hn:∀{Q':Option (Value×Nat)->Shared->Prop} {E'},Q' (some (y,next)) s->wpAny c.M A.in1 (setNext a i j ep) Q' E' s)
  (hQ:∀h',kN c h' I a (.int next 0) (j+1) es ep t->Heap.SameBut I s.heap h'->Q (some y) {s with heap:=h'}) (oV:I≠a):wpAny c.M A (pyNext (.ref I)) Q E s:=by
 refine u4 x (wb (hn (wb (pj x.it rfl (vO 4) ?_))));have g1:=kR (Obj.mapFields (·.setIfInBounds 0 (rawInt next))) x.it rfl;refine wb (pj g1 rfl (tN (vO 3)) (ai ⟨y,rfl,hQ _ ⟨kR _ g1 rfl,x.st.imp λo e=>⟨?_,e.2⟩,x.fit⟩ ((iN ..).trans (iN ..))⟩));exact(yN _ _ oV).trans ((yN _ _ oV).trans e.1)
end
section
variable{c:Cx} {A:Around} {E:Value->Shared->Prop} {s:Shared} {I a T:Addr} {es:Array (Int×Value)} {ep:Nat} {t:SetTable} {first:Value} {i slot:Nat} {Q:Option Value->Shared->Prop} {ys:List Value} {Q':Option (Value×Nat)->Shared->Prop}
theorem wK {Q:Bool->Shared->Prop} (q:Q (c.w.params.followText "set-order") s):wpAny c.M A setsByText Q E s:=by
 unfold setsByText;exact wb (wpAny_askSetting (ai q))
theorem El (st:∃o,s.heap.get? a=some o/\o.data= .set es ep t) (f:t.fits es.size=true) (hb:c.w.params.followText "set-order"=true) (q:Q' (((pickOrder (c.w.params.setOrder a ep) es)[i]?).map λe=>(e.2,slot)) s):wpAny c.M A (setNext a slot i ep) Q' E s:=by
 obtain⟨o,ho,hd⟩:=st;unfold setNext setWalk;exact wb (vL ho hd f (wb (wK (jw hb (ct (by rw [bne_self_eq_false];exact cK) (wb (wb (vL ho hd f (wb (wK (jw hb (wb (wpAny_askSetting (ai (ai q)))))))))))))))
theorem F5 (st:∃o,s.heap.get? a=some o/\o.data= .set es ep t) (f:t.fits es.size=true) (hb:c.w.params.followText "set-order"=false) (hl:t.led=true) (h1:es.size<=1) (e:(match es[SetTable.below t.place slot]?,t.place[SetTable.below t.place slot]? with|some (_,x),some j=>some (x,j+1)|_,_=>none)=r) (q:Q' r s):wpAny c.M A (setNext a slot i ep) Q' E s:=by
 obtain⟨o,ho,hd⟩:=st;unfold setNext;refine wb (vL ho hd f (wb (wK (ct (a6 hb cK) ?_))));have d:decide (es.size>1)=false:=dD (iq.mpr h1);show wpAny _ _ (if(!t.plain&&decide (es.size>1))=true then _ else _) _ _ _;refine ct (by refine a6 d ?_;rw [Bool.and_false];exact cK) ?_;show wpAny _ _ ((if(!t.led&& !es.isEmpty)=true then unsupported "set:maker-not-led" else pure PUnit.unit)>>=_) _ _ _;exact wb (ct (a6 hl cK) (ai (ai (by subst e;exact q))))
theorem Wk.item (w:Wk c s.heap a es ep t T ys first i) (x:kN c s.heap I a first i es ep t) (oV:I≠a) (CZ:I≠T) (hz:ys.length=es.size) (hi:i<es.size)
  (hQ:∀{v h' Hk},ys[i]? =some v->kN c h' I a Hk (i+1) es ep t->Wk c h' a es ep t T ys Hk (i+1)->Heap.SameBut I s.heap h'->Q (some v) {s with heap:=h'}):wpAny c.M A (pyNext (.ref I)) Q E s:=by
 have hg:ys[i]? =some (ys[i]'(hz▸hi)):=dR _;generalize ys[i]'(hz▸hi)=y at hg;have kp:∀{h':Heap},Heap.SameBut I s.heap h'->∀o,s.heap.get? T=some o->h'.get? T=some o:=λsb o e=>sb.extBut T o (aL CZ) e;cases w with
 |text hb e=>
  refine FK (i:=0) (next:=0) x (λ{Q' E'} q=>El x.st x.fit hb ?_) (λh' x' sb=>hQ hg x' (.text hb e) sb) oV;rw [e,fc] at hg;obtain⟨e1,h1,h2⟩:=l_.mp hg;refine a6 (aT (nB)) (a6 h1 ?_);show Q' (some (e1.2,0)) s;exact a6 h2 q
 | @one z j hb hl e e' p=>
  subst e;subst e';cases hg;exact FK (i:=0) (next:=j+1) x (λ{Q' E'} q=>F5 x.st x.fit hb hl (bC _) (by refine a6 p ?_;rfl) q) (λh' x' sb=>hQ rfl x' (.done hb hl (bC _) rfl (by
   refine a6 p (a6 (show SetTable.below #[j] (j+1)=1 by unfold SetTable.below;simp [SetTable.below.go]) ?_);rfl)) sb) oV
 |done hb hl e e' e2=>exact absurd hi (a6 (aT hz) (a6 e' (tS _)))
 |drawn hT hd jB hp=>
  obtain⟨p,tk,hs,h1,h2⟩:=hp hg;refine u4 x (wb (wpAny_seqItems hT hd ?_));unfold yc;dsimp only;refine a6 h1 ?_;obtain⟨o,ho,CS⟩:=x.st;unfold setNextDrawn;refine wb (wb (vL ho CS x.fit (ct (by rw [bne_self_eq_false];exact cK) ?_)));show wpAny _ _ (match es[(p:Int).toNat]? with|some (_,x)=>pure x|x=>unsupported "internal:set_iterator") _ _ _;rewrite [nF];refine a6 h2 ?_;have sb:Heap.SameBut I s.heap (s.heap.update I (Obj.mapFields (·.setIfInBounds 1 (rawInt ((i:Int)+1))))):=iN ..;exact ai (wb (pj x.it rfl (tN (vO 3)) (ai ⟨_,rfl,hQ hg ⟨kR _ x.it rfl,x.st.imp λo e=>⟨sb.extBut a o (aL oV) e.1,e.2⟩,x.fit⟩ (.drawn (kp sb _ hT) hd jB hp) sb⟩)))
theorem Wk.end (hh:A.handled=none) (w:Wk c s.heap a es ep t T ys first i) (x:kN c s.heap I a first i es ep t) (hz:ys.length=es.size) (hi:i=es.size)
  (hQ:∀h',Heap.ExtBut I s.heap h'->Q none {s with heap:=h'}):wpAny c.M A (pyNext (.ref I)) Q E s:=by
 have stop:=λ{P:PySem.Fin->Shared->Prop}=>EW (c:=c) (E:=E) (P:=P) hh x.it rfl (tN (tN (vO 2))) hQ;induction w with
 |text hb e=>
  refine u4 x (wb (El x.st x.fit hb ?_));refine a6 (aT (nB)) (a6 (List.getElem?_eq_none_iff.mpr (by refine a6 ((Ei _ es).length_eq) (a6 hi (a6 qY ?_));exact bC _)) ?_);exact stop
 |one hb hl e e' p=>subst e;exact kI hi
 |done hb hl e e' e2=>
  refine u4 x (wb (F5 x.st x.fit hb hl e (by rewrite [nF];exact a6 e2 rfl) ?_));exact stop
 |drawn hT hd jB hp=>
  refine u4 x (wb (wpAny_seqItems hT hd ?_));unfold yc;dsimp only;refine a6 (Array.getElem?_eq_none (by refine a6 jB (a6 hz (a6 hi ?_));exact bC _)) ?_;refine wb (pj x.it rfl (vO 4) ?_);exact EW (s:={s with heap:=s.heap.update I _}) hh (kR _ x.it rfl) rfl (tN (tN (vO 2))) λh' hs=>hQ h' λb o' n e=>hs b o' n ((yN _ _ (aL n)).trans e)
theorem Pg (hh:A.handled=none) (oV:I≠a) (CZ:I≠T) (hz:ys.length=es.size):Walks c.prog c.w A I [I,a,T] [I] es.size (λi v=>ys[i]? =some v) (λi h=>∃first,kN c h I a first i es ep t/\Wk c h a es ep t T ys first i) where
 sub:=λb hb=>b3.mp hb▸aM
 frame:=λi h h' st hk=>st.imp λf x=>⟨x.1.keeps λb o e=>hk b (e.elim (λe=>e▸aM) λe=>e▸aQ _ aM) o,x.2.keeps λo=>hk T (aQ _ (aQ _ aM)) o⟩
 item:=λi s Q E hi st hQ=>st.elim λf x=>x.2.item x.1 oV CZ hz hi λe x' w' sb=>hQ _ _ s.toks e ⟨_,x',w'⟩ λb o n=>sb.extBut b o λq=>n (b3.mpr q)
 done:=λs Q E st hQ=>st.elim λf x=>x.2.end hh x.1 hz rfl λh' sb=>hQ h' s.toks λb o n=>sb b o λq=>n (b3.mpr q)
 self:=λi s Q E st hQ=>st.elim λf x=>Pf x.1 hQ
end
section
open PySem PySem.W PyProof.Rows PySem.Calls
inductive Itm (c:Cx) (S:PySem.Str->Bool) (n:Nat):List Value->Prop
 |mk {es:Array (Int×Value)} {t:SetTable} {ys:List Value} (x:jS c S n es t) (pm:ys.Perm (es.toList.map (·.2))):Itm c S n ys
section
variable{c:Cx} {A:Around} {E:Value->Shared->Prop} {s:Shared} {a:Addr} {S:PySem.Str->Bool} {n:Nat}
noncomputable abbrev A1 (a:Addr) (n:Nat) (first:Value):Sem PySem.Fin:=do let e<-setEpoch a;let r<-newFields "set_iterator" [first,rawInt 0, .ref a,rawInt n,rawInt e];ret r
theorem pF {h:Heap} {b:Addr} {o':Obj} (e:h.get? b=some o'):b≠h.objs.size:=cq (bk h) e
theorem O_ {h:Heap} {T:Addr} {es:Array (Int×Value)} {ep:Nat} {t:SetTable} {order:List Nat} (ho:order.Perm (List.range es.size)) (hT:h.get? T=some (gq (order.map λ(p:Nat)=>rawInt p) 0)):Wk c h a es ep t T (order.filterMap λp=>(es[p]?).map (·.2)) (.ref T) 0:=by
 have e:(order.filterMap λp=>(es[p]?).map (·.2)).map some=order.map λp=>(es[p]?).map (·.2):=by
  have hm:∀{p},p∈order->p<es.size:=λm=>dK.mp (ho.mem_iff.mp m);clear ho hT
  induction order with
  |nil=>rfl
  |cons p r ih=>
   have g:=tG (hm aM);exact a6 List.filterMap_cons (a6 pw (a6 g (aE (some _::·) (ih λm=>hm (aQ _ m)))))
 refine .drawn hT rfl ?_ λ{i x} hx=> ?_
 ·have:=aE List.length e
  rw [b0,b0] at this;refine a6 gS ?_;rewrite [b0];exact a6 this rfl
 ·have:=aE (·[i]?) e
  rw [fc,hx,fc] at this;obtain⟨p,hp,q⟩:=l_.mp this.symm;obtain⟨y,h1,h2⟩:=l_.mp q;exact⟨p,0,y.1,(fN ..).trans ((fc ..).trans (aE (Option.map _) hp)),h1.trans (aE some (Prod.ext rfl h2))⟩
theorem Np {es:Array (Int×Value)} {order:List Nat} (ho:order.Perm (List.range es.size)):(order.filterMap λp=>(es[p]?).map (·.2)).Perm (es.toList.map (·.2)):=by
 refine(ho.filterMap _).trans ?_;rw [<-filterMap_getElem?_range es,List.map_filterMap]
theorem Nn (hS:gE c s.heap a S n) 
  (h:∀{h' d' I T ys} {St:Nat->Heap->Prop},(∀b o,s.heap.get? b=some o->h'.get? b=some o)->s.heap.get? I=none->(T=a\/s.heap.get? T=none)->Itm c S n ys->ys.length=n->
   (∀{A'},A'.handled=none->Walks c.prog c.w A' I [I,a,T] [I] n (λi v=>ys[i]? =some v) St)->St 0 h'->Q (.ref I) {s with heap:=h',drawn:=d'}):wpAny c.M A (pyIter (.ref a)) Q E s:=by
 induction hS with
 | @mk o es ep t ho hex hd x=>
  cases x.sz;have hT:s.TypeIs (.ref a) "set":=⟨o,ho,hex.1⟩;have hf:=x.fit;refine wpAny_pyIter_slot hT PySem.F.slot_set_iter (jb PySem.F.slot_set_iter hT LW ?_ (PySem.F.args_set_iter_1 _));show wpAny _ _ (Builtin.Frozenset.sizeOf a>>=_) _ _ s;unfold Builtin.Frozenset.sizeOf setDrawn;refine wb (wb (wpAny_setEntries_of ho hd hf (ai (wb (wb (vL ho hd hf (wb (wK ?_))))))));show wpAny _ _ (pure (!c.w.params.followText "set-order"&&(!t.plain&&decide (es.size>1)))) _ _ _;refine ai ?_;have fin:∀{first ys T h0 d'},(k:∀b o,s.heap.get? b=some o->h0.get? b=some o)->(T=a\/s.heap.get? T=none)->T≠h0.objs.size->ys.Perm (es.toList.map (·.2))->Wk c h0 a es ep t T ys first 0->
    wpAny c.M A.in1 (A1 a es.size first) (λfin s'=>∃r,fin= .done (.ret r)/\∃T m,s'.TypeIs r T/\typeLookup (.type T) "__next__"=pure (some m)/\Q r s') E {s with heap:=h0,drawn:=d'}:=λ{first ys T h0 d'} k CV nT pm w=>by
   have l:ys.length=es.size:=pm.length_eq.trans ((b0 ..).trans qY);have k1:=bt h0 (GK first 0 a es.size ep);have na:a≠h0.objs.size:=pF (k _ _ ho);refine wb (wpAny_setEpoch_of (s:={s with heap:=h0,drawn:=d'}) (k _ _ ho) hd hf (wb (iO (ai ⟨_,rfl,"set_iterator",_,⟨_,cb _ rfl,rfl⟩,vR.lookup, ?_⟩))));refine h (T:=T) (λb o e=>k1 _ _ (k _ _ e)) ?_ CV (.mk x pm) l (λhh=>Pg hh (aL na) (aL nT) l) ⟨first,⟨cb _ rfl,⟨o,k1 _ _ (k _ _ ho),hd⟩,hf⟩,w.keeps λo=>k1 T o⟩;cases e:s.heap.get? h0.objs.size with
   |none=>rfl
   |some o'=>exact absurd rfl (pF (k _ _ e))
  refine(?_:wpAny _ A.in1 (if(!c.w.params.followText "set-order"&&(!t.plain&&decide (es.size>1)))=true then(drawOrder es.size (List.range es.size)>>=λo=>newTuple (o.map λ(i:Nat)=>rawInt i)>>=A1 a es.size) else pure (rawInt 0)>>=A1 a es.size) _ E s);cases hb:c.w.params.followText "set-order" with
  |true=>exact(ct cK (wb (ai (fin (λzz zz e=>e) (.inl rfl) (pF ho) ((Ei _ es).map _) (.text hb rfl)))))
  |false=>
   have hl:t.led=true:=x.ord.resolve_left λe=>de (hb.symm.trans e);by_cases h1:es.size<=1
   ·refine(ct (by refine a6 (dD (iq.mpr h1)) ?_;rw [Bool.and_false];exact cK) (wb (ai (fin (ys:=es.toList.map (·.2)) (λzz zz e=>e) (.inl rfl) (pF ho) (.refl _) ?_))))
    induction es with
    |mk l=>induction l with
     |nil=>exact .done hb hl (fh _) rfl rfl
     |cons y r=>induction r with
      |cons z r=>exact absurd h1 (by simp)
      |nil=>
       have e:t.place.size=1:=b7.mp (aj hf).1;refine .one (x:=y) (j:=t.place[0]) hb hl rfl rfl (Array.ext e λi h1 h2=> ?_);cases Nat.lt_one_iff.mp h2
       rfl
   ·have h1:es.size>1:=Nat.lt_of_not_le h1
    refine(jw (by refine a6 (x.pl (Nat.ne_of_gt (iP h1))) (a6 (bQ h1) ?_);rfl) (wb (LH (a6 gA rfl) λorder d' C3=> ?_)));have lz:(order.map λ(p:Nat)=>rawInt p).length<=sizeLine:=by
     rewrite [b0];exact a6 C3.length_eq (a6 gA (ay (jd x.b) (by decide+kernel)))
    refine wb (wpAny_newTuple (items:=order.map λ(p:Nat)=>rawInt p) ?_ lz);have g:=cb s.heap (o:=gq (order.map λ(p:Nat)=>rawInt p) 0) rfl;exact fin (bt _ _) (.inr (bk _)) (pF g) (Np C3) (O_ C3 g)
end
end
section
open PySem PySem.W PyProof.Rows PySem.Calls
section
variable{c:Cx} {A:Around} {E:Value->Shared->Prop} {s:Shared} {a:Addr} {S:PySem.Str->Bool} {n:Nat}
theorem Q9 (hT:s.TypeIs (.ref a) "set") (h:Q false s):wpAny c.M A (Builtin.List.listLengthHint (.ref a)) Q E s:=by
 unfold Builtin.List.listLengthHint;refine aK (tQ hT PySem.F.slot_set_len.lookup ?_);generalize cx:("set.__len__":String)=XS
 wp_delta
 refine a6 (show splitId XS=some ("set","__len__") from by subst cx;decide+kernel) ?_;subst cx;exact aK (ph (T:="set") (b:=true) hT (by rw [isSubtype_type];kernel_rfl) (wpAny_ite_split (λqH=>absurd qH (by decide)) (λzz=>wpAny_ite_split (λzz=>aK (wpAny_typeOf hT (ai h))) (λqH=>absurd (by decide+kernel) qH))))
inductive yK (c:Cx) (S:PySem.Str->Bool) (n:Nat) (s:Shared) (L:Addr) (v:Value):Result->Shared->Prop
 |mk {h':Heap} {tk:Nat} {d:Drawn} {ys:List Value} {e:Nat} (k:∀b o,b≠L->s.heap.get? b=some o->h'.get? b=some o) (at_:h'.get? L=some (c5 ys e)) (it:Itm c S n ys):yK c S n s L v (.ok (.ret v)) {s with heap:=h',toks:=tk,drawn:=d}
theorem Ov {acc:Array Value} {ys:List Value} (h:ItemsOf (λi v=>ys[i]? =some v) acc n) (l:ys.length=n):acc=ys.toArray:=by
 refine Array.ext (h.1.trans (a6 gS (a6 l rfl))) λi h1 h2=>cL (a6 (aT (tG h2)) (a6 (fN) ?_));rw [h.2 i _ (tG h1)]
theorem Nj {L:Addr} {v:Value} {R:Result->Shared->Prop} (hh:A.handled=none) (hS:gE c s.heap a S n) (CW:L≠a) (hL:s.heap.get? L=some (c5 [] 0)) (hn:n<=sizeLine) (hR:∀{r s'},yK c S n s L v r s'->R r s'):
  wpAny c.M A.in1 (Builtin.List.listExtendWith (.ref L) (.ref a) v) (y9 c A R) (λe s'=>R (.error e) s') s:=by
 have hT:s.TypeIs (.ref a) "set":=by induction hS with|mk ho hex hd x=>exact⟨_,ho,hex.1⟩
 unfold Builtin.List.listExtendWith;refine wb (wpAny_typeOf (T:="set") hT (ct (by
  rw [show Builtin.List.listSameRef (.ref L) (.ref a)=false from il.mpr CW]
  decide) (wb (Nn hS λ{h' d' I T ys St} k fI CV it l W st=> ?_))))
 have CX:=k L _ hL;have nL:∀{X:Addr},s.heap.get? X=none->L≠X:=λe q=>cy ((q▸hL).symm.trans e);have K4:L∉ [I,a,T]:=λm=>by
  rcases bz.mp m with e|m
  ·exact nL fI e
  ·rcases bz.mp m with e|m
   ·exact CW e
   ·exact CV.elim (λq=>CW ((b3.mp m).trans q)) λq=>nL q (b3.mp m)
 have key:∀{h2:Heap} {c₁ tk},St 0 h2->(∀b o,b≠L->s.heap.get? b=some o->h2.get? b=some o)->h2.get? L=some (c5 [] c₁)->codeAny c.M A (.builtin "list.extend.loop" ⟨[.ref L, .ref I,v], []⟩) R {s with heap:=h2,toks:=tk,drawn:=d'}:=λ{h2 c₁ tk} kL hk Vv=>by
  refine codeAny_extend_loopS ((W (A':=A.in1) hh).toS) hn L K4 v n 0 _ #[] c₁ rfl (fh _) kL Vv (ItemsOf.nil _) λs' hZ c' hm oU C4=>hR (a6 (Moved.eq_with hm) ?_);rw [Ov C4 l] at oU;exact .mk (λb o hb e=>hm.heap b o (λvm=>(bz.mp vm).elim hb λvm=>cy ((b3.mp vm▸e).symm.trans fI)) (hk b o hb e)) oU it
 refine wb (bN (Q9 (s:={s with heap:=h',drawn:=d'}) (hT.elim λo eY=>eY.elim λg q=>⟨o,k _ _ g,q⟩) (wpAny_ite_split (λzz=>wb (gj (wb ?_))) (λzz=>ai ⟨r5 PySem.F.plain_extend_loop _,key st (λb o zz e=>k b o e) CX⟩))));show wpAny _ _ (updateSeq L (·.push .none)>>=λzz=>updateSeq L (·.pop)) _ _ _;refine aK (wpAny_updateSeq CX rfl ?_);have K5:=kR (Obj.mapSeq (·.push Value.none)) CX rfl;refine wpAny_updateSeq (hz:=by seq_fits) K5 rfl ?_;have u_:∀b o,b≠L->h'.get? b=some o->((h'.update L (Obj.mapSeq (·.push Value.none))).update L (Obj.mapSeq (·.pop))).get? b=some o:=λb o n e=>(yN _ _ (aL n)).trans ((yN _ _ (aL n)).trans e);exact ai ⟨r5 PySem.F.plain_extend_loop _,key ((W (A':=A.in1) hh).frame 0 _ _ st λb hb o e=>u_ b o (λq=>K4 (q▸hb)) e) (λb o n e=>u_ b o n (k b o e)) (kR (Obj.mapSeq (·.pop)) K5 rfl)⟩
theorem gE.get (hS:gE c h a S n):∃o,h.get? a=some o:=by induction hS with|mk ho hex hd x=>exact⟨_,ho⟩
theorem M' (hh:A.handled=none) (hS:gE c s.heap a S n) (hn:n<=sizeLine)
  (h:∀{h' ys} tk d,(∀b o,s.heap.get? b=some o->h'.get? b=some o)->Itm c S n ys->R ys {s with heap:=h',toks:=tk,drawn:=d}):wpAny c.M A (collect (.ref a)) R E s:=by
 have na:s.heap.objs.size≠a:=hS.get.elim λo e=>aL (pF e);unfold collect;refine aK (wpAny_runValue (nJ entry_proto_collect' (a6 (p8 PySem.F.plain_proto_collect _) ?_)));show wpAny _ A.in1 (newList []>>=λl=>again (.builtin "list.__iadd__" ⟨[l, .ref a], []⟩)) _ _ s;refine aK (iO (ai ⟨r5 PySem.F.plain_list_iadd _,nJ entry_list_iadd' (a6 (p8 PySem.F.plain_list_iadd _) ?_)⟩));have fin:∀{r s'},yK c S n {s with heap:=s.heap.push (c5 [] 0)} s.heap.objs.size (.ref s.heap.objs.size) r s'->∃v,r= .ok (.ret v)/\wpAny c.M A (match v with| .ref a=>load a>>=λo=>(match o.data with| .seq xs _=>pure xs.toList|_=>unsupported "internal:collect")|_=>unsupported "internal:collect") R E s':=λx=>by
  induction x with
  |mk k g it=>exact⟨_,rfl,aK (wpAny_load g (ai (h _ _ (λb o e=>k b o (pF e) (bt _ _ _ _ e)) it)))⟩
 refine dS (Nj (A:=A) (s:={s with heap:=s.heap.push (c5 [] 0)}) (R:=yK c S n {s with heap:=s.heap.push (c5 [] 0)} s.heap.objs.size (.ref s.heap.objs.size)) hh (hS.to λo=>bt _ _ _ _) na (cb _ rfl) hn id) (λf s' x=> ?_) λe s' x=>nomatch x;induction f with
 |done f=>exact(fin x).elim λv fm=>fm.elim λe q=>by cases e;exact q
 |again c₁=>exact⟨x.1,codeAny_mono x.2 λq ez y=>(fin y).elim λv eC=>eC.elim λe q=>by subst e;exact q⟩
end
end
section
open PySem PySem.W PyProof.Rows PySem.Calls
theorem RD {d l:List V} (nd:d.Nodup) (hs:∀{x},x∈d->x∈l) (h:l.length=d.length):l.Perm d:=by
 induction d generalizing l with
 |nil=>cases f9 h;exact .refl _
 |cons x d ih=>
  have p:=List.perm_cons_erase (hs aM);exact p.trans (List.Perm.cons x (ih (cG.mp nd).2 (λ{y} hy=>(bz.mp (p.mem_iff.mp (hs (aQ _ hy)))).resolve_left λe=>(cG.mp nd).1 (e▸hy)) (d7 (p.length_eq.symm.trans h))))
section
variable{c:Cx} {A:Around} {E:Value->Shared->Prop} {σ:St} {Z X:Addr->Prop} {s:Shared} {Q:V->St->Prop} {R:Value->Shared->Prop}
theorem Ua (l:j5 xs ys):aO c σ Z h xs ys:=by
 induction l with
 |nil=>exact .nil
 |cons h t r ih=>exact .cons (.str h t) ih
theorem S8 (l:j5 xs ys):xs.length=ys.length:=by
 induction l with
 |nil=>rfl
 |cons h t r ih=>exact aE Nat.succ ih
theorem R_ (l:j5 xs ys) (hn:n<bJ.length) (m: .str (tx n) t∈ys):V.str n∈xs:=by
 induction l with
 |nil=>exact absurd m bx
 |cons h t' r ih=>exact(bz.mp m).elim (λe=>jK hn h (Value.str.inj e).1▸aM) λm=>aQ _ (ih m)
theorem Sk {d:List V} {n:Nat} {ys:List Value} (hd:j4 d) (h:∀{y},y∈ys->∃k t,y= .str k t/\iK d k=true):∃xs,j5 xs ys:=by
 induction ys with
 |nil=>exact⟨_, .nil⟩
 |cons y ys ih=>
  obtain⟨k,t,rfl,q⟩:=h aM;obtain⟨v,m,rfl⟩:=bB.mp (bY q);obtain⟨xs,l⟩:=ih λm=>h (aQ _ m);cases hd m with
  |mk h'=>exact⟨_, .cons h' t l⟩
theorem Ph {d:List V} (hd:j4 d) (nd:d.Nodup) {ys:List Value} (h:Itm c (iK d) d.length ys):∃xs,xs.Perm d/\j5 xs ys:=by
 cases h with
 | @mk es t _ x pm=>
  obtain⟨xs,l⟩:=Sk (n:=0) (ys:=ys) hd λ{y} m=>by
   obtain⟨e,he,rfl⟩:=bB.mp (pm.mem_iff.mp m);obtain⟨⟨k,hk,_⟩,_⟩:=x.el e he;obtain⟨t,ht⟩:=Value.isStrOf_shape hk;exact⟨k,t,ht,x.mem.mpr ⟨e,he,hk⟩⟩
  refine⟨xs,RD nd (λ{v} m=> ?_) ((S8 l).trans (pm.length_eq.trans ((b0 ..).trans (qY.trans x.sz)))),l⟩;cases hd m with
  |mk hn=>
   obtain⟨e,he,hq⟩:=x.mem.mp (bQ (bB.mpr ⟨_,m,rfl⟩):iK d (tx _)=true);obtain⟨t,ht⟩:=Value.isStrOf_shape hq;exact R_ l hn (pm.mem_iff.mpr (bB.mpr ⟨e,he,ht⟩))
theorem Ni (hh:A.handled=none) (I:Inv c σ Z s.heap) (hl:s.heap.get? p=some (c5 us e)) (hv:j5 xs us) (hx:j4 xs) (cX:xs.length<64) (q:Q (.aa (bg (e9 xs []))) σ) (k:bR c Z X σ s Q R):
  wpAny c.M A (call (.type "set") [.ref p]) (λu s'=>wpAny c.M A (call (.builtin "sorted") [u]) R E s') E s:=by
 have dl:(e9 xs []).length<64:=az (RZ (d:= [])) (by rwa [kX,di]);have hd:j4 (e9 xs []):=RY hx λm=>absurd m bx;refine N2 hh hl hv cX λ{h'} tk hS kk=> ?_;have st:aA c Z X σ s σ {s with heap:=h',toks:=tk}:=aA.grow I kk;exact yQ (s:={s with heap:=h',toks:=tk}) (.nm hd) st.inv dl (λw=>M' (A:=A.in1) hh hS (pM dl) λtk d k2 it=>(Ph hd (rO cY) it).elim λys dQ=>dQ.elim λpm l=>w tk d pm k2 (Ua l)) q λq r dU=>k q r (st.trans dU)
end
inductive sO (σ:St) (Q:V->St->Prop):V->Prop
 |mk {v:V} {xs:List V} (S:Sq σ 0 v xs) (hx:j4 xs) (h:xs.length<64) (q:Q (.aa (bg (e9 xs []))) σ):sO σ Q v
def V' (f:V->Prop) (vs:List V):Prop:=List.rec (motive:=λzz=>Prop) False (λv r zz=>List.rec (motive:=λzz=>Prop) (f v) (λzz zz zz=>False) r) vs
def Xb (Q:V->St->Prop) (v:V) (σ:St):Prop:=sO σ Q v
noncomputable def ME.N' (e:ME):ME where
 run:=λK ρ σ Q=>e.run K ρ σ (Xb Q)
 aD:=λsc fs=>nS λm as ps=>m=="sorted"&&(jr sc m&&as.casesOn false λb r=>r.isEmpty&&(!nX b&&nS (λm' tB bF=>m'=="set"&&(jr sc m'&&(eO.cons e .nil).aD sc fs tB)) b))
 ok:=λ{p sc fs a} F=>pB λ{m bF as ps} h=>by
  obtain⟨e1,h1⟩:=aj h;cases b7.mp e1;obtain⟨g1,h2⟩:=aj h1;induction as with
  |nil=>exact no h2
  |cons b r=>
   obtain⟨e2,h3⟩:=aj h2;cases iQ.mp e2;obtain⟨e3,h4⟩:=aj h3;refine pB (C:=λb=>nX b=false->bw p sc fs (λK ρ σ Q=>e.run K ρ σ λv a8=>sO a8 Q v) (.Call (.Name _ bF) [b] [] ps)) (λ{m' Zb tB Za} h=> ?_) h4 (dB e3);obtain⟨e4,h5⟩:=aj h;cases b7.mp e4;obtain⟨g2,h6⟩:=aj h5;refine λe5=>λ{A E env ρ σ s Z Q R} S q k=>tM (rG F S g1 (cA (i:=1) rfl) (callWith_of (P:=λh=>jN p.c.M h (.builtin "sorted")) (by rw [w9 (by rewrite [pQ];refine a6 jc (a6 e5 ?_);rfl)];rfl) (λh x=>x.k) (tT (by rewrite [pQ];refine a6 jc (a6 e5 ?_);rfl) (wpAny_items_cons (Q:=λws s'=>jN p.c.M s'.heap (.builtin "sorted")/\wpAny p.c.M A (call (.builtin "sorted") ([]++ws)) R E s') ?_ (tW e5)))));refine tM (rG F S g2 (cA (i:=10) rfl) (rg F (es:= .cons e .nil) h6 S (Q':=λvs a8=>V' (sO a8 Q) vs) q λ{vs us a8 s'} l q1 r1 au=>⟨pC _, ?_⟩));induction vs with
   |nil=>exact q1.elim
   |cons v r=>induction r with
    |cons _ _=>exact q1.elim
    |nil=>
     cases(q1:sO a8 Q v) with
     |mk V hx cX q=>exact r1.one λr=>V.rR au.inv r λho l=>dS (Ni S.room.hh au.inv ho (j5.of hx l) hx cX q (k.step au)) (λu s' x=>wpAny_items_nil ⟨nO _,x⟩) λzz zz x=>x
end
noncomputable abbrev CG:List Nat:= [95,60,113,108,115,159,58,78]
noncomputable abbrev t6:List Nat:= [95,60,113,108]
noncomputable abbrev JK:List Nat:= [95,60,113,108,115,37]
noncomputable abbrev JJ:List Nat:= [59,61,25,23,58]
noncomputable abbrev yv:List Nat:= [64,70,63,59,61,75,18,74,23,77]
noncomputable abbrev yu:List Nat:= [64,70,63,59,61,75,18]
noncomputable def Ba:aH:=(.cons (.g6 [160,158] (.tup (.cons (.bi .dict (.cons (.var 58) .nil)) (.cons (.aS (.attr (.var 95) 64) 158 (.cons (.var 159) (.cons (.idx (.var 78) (.var 37)) .nil))) .nil)))) (.cons (.fJ (.var 160) (.var 60) (.tup (.cons (.lit (.int 1)) (.cons (.cO (.dict (.cons (.var 37) (.lit (.int 1)) .nil))) .nil)))) (.cons (.ite (.cmp .NotEq (.var 158) (.neg (.lit (.int 1)))) (.cons (.ex (.d8 .append (.var 108) (.cons (.tup (.cons (.bin .Add (.var 115) (.var 37)) (.cons (.var 158) (.cons (.cO (.var 160)) .nil)))) .nil))) .nil) .nil) .nil)))
noncomputable def Hx:aH:=(.cons (.asg 62 (.aS (.attr (.var 95) 64) 158 (.cons (.var 159) (.cons (.aS (.var 95) 122 (.cons (.var 61) (.cons (.var 58) .nil))) .nil)))) (.cons (.ite (.cmp .NotEq (.var 62) (.neg (.lit (.int 1)))) (.cons (.fJ (.var 78) (.var 115) (.var 62)) .nil) .nil) .nil))
noncomputable def Hv:aH:=(.cons (.asg 58 (.bi .dict (.cons (.var 37) .nil))) (.cons (.fJ (.var 58) (.var 60) (.tup (.cons (.var 25) .nil))) (.cons (.ex (.d8 .append (.var 108) (.cons (.tup (.cons (.bin .Add (.var 115) (.var 25)) (.cons (.cO (.var 58)) .nil))) .nil))) .nil)))
noncomputable abbrev IZ:ME:= .ite (.cmp .Eq (.var 116) (.lit (.str 40))) (.bq 103 (.cons (.var 5) (.cons (.var 106) .nil))) (.tr (.cmp .Eq (.var 5) (.var 106)))
noncomputable def Gr:aH:=(.cons (.g6 [60,34] (.idx (.var 59) (.var 16))) (.cons (.ite (.cmp .NotIn (.tup (.cons (.idx (.var 25) (.var 16)) .nil)) (.bq 50 (.cons (.var 34) (.cons (.var 23) (.cons (.var 58) .nil))))) (.cons (.ret (.lit (.bool false))) .nil) .nil) (.cons (.fJ (.var 58) (.var 60) (.idx (.var 25) (.var 16))) .nil)))
noncomputable abbrev Gn:aH:=(.cons (.ite (.cmp .Eq (.idx (.var 46) (.lit (.int 0))) (.lit (.str 32))) (.cons (.ret (.c3 (.one 52) (.bi .range (.cons (.idx (.var 23) (.lit (.str 18))) .nil)) (.cons (.cmp .NotEq (.c3 (.many [53]) (.var 37) (.cons (.cmp .In (.tup (.cons (.var 53) (.cons (.var 52) .nil))) (.var 51)) .nil) (.emit (.var 53))) (.cO (.list .nil))) .nil) (.emit (.tup (.cons (.var 52) .nil))))) .nil) .nil) (.cons (.ite (.cmp .Eq (.idx (.var 46) (.lit (.int 0))) (.lit (.str 43))) (.cons (.ret (.c3 (.one 53) (.var 37) .nil (.gen (.one 52) (.var 51) .nil (.emit (.bin .Add (.var 53) (.var 52)))))) .nil) .nil) (.cons (.ret (.ite (.cmp .Eq (.idx (.var 46) (.lit (.int 0))) (.lit (.str 38))) (.bin .Add (.var 37) (.var 51)) (.c3 (.one 25) (.var 37) (.cons (.cmp .NotIn (.var 25) (.var 51)) .nil) (.emit (.var 25))))) .nil)))
noncomputable abbrev ym:MT:= .bo .Or (.cons (.cmp .Eq (.idx (.var 46) (.lit (.int 0))) (.lit (.str 40))) (.cons (.cmp .Eq (.c3 (.one 25) (.var 51) (.cons (.cmp .NotIn (.var 25) (.var 37)) .nil) (.emit (.var 25))) (.cO (.list .nil))) .nil))
noncomputable abbrev Aw:aH:= .cons (.ret (.tr (.bo .And (.cons (.cmp .Eq (.c3 (.one 25) (.var 37) (.cons (.cmp .NotIn (.var 25) (.var 51)) .nil) (.emit (.var 25))) (.cO (.list .nil))) (.cons ym .nil))))) .nil
noncomputable abbrev yi:ME:= .bq 33 (.cons (.var 14) (.cons (.var 28) (.cons (.var 29) .nil)))
noncomputable def Hw:aH:=(.cons (.asg 60 (.idx (.cO (.list (.cons (.lit (.str 1)) (.cons (.lit (.str 2)) .nil)))) (.bq 21 (.cons (.var 14) (.cons (.lit (.int 2)) .nil))))) (.cons (.asg 59 (.bin .Add (.var 59) (.tup (.cons (.tup (.cons (.var 60) (.cons (.bq 33 (.cons (.var 14) (.cons (.var 28) (.cons (.lit (.int 1)) .nil)))) .nil))) .nil)))) (.cons (.asg 28 (.ite (.cmp .In (.var 60) (.var 28)) (.var 28) (.bin .Add (.var 28) (.cO (.list (.cons (.var 60) .nil)))))) .nil)))
noncomputable def Gp:aH:=(.cons (.asg 22 (.bq 21 (.cons (.var 14) (.cons (.lit (.int 3)) .nil)))) (.cons (.ite (.bo .And (.cons (.cmp .Eq (.var 22) (.lit (.int 2))) (.cons (.cmp .Gt (.idx (.var 23) (.lit (.str 24))) (.lit (.int 0))) .nil))) (.cons (.fJ (.var 23) (.lit (.str 24)) (.bin .Sub (.idx (.var 23) (.lit (.str 24))) (.lit (.int 1)))) (.cons (.ex (.d8 .append (.var 20) (.cons (.var 25) .nil))) .nil)) (.cons (.ite (.cmp .Eq (.var 22) (.lit (.int 1))) (.cons (.ex (.d8 .append (.var 19) (.cons (.var 25) .nil))) .nil) .nil) .nil)) .nil))
noncomputable def Gm:aH:=(.cons (.ite (.cmp .In (.var 60) (.attr (.var 95) 97)) .dead .nil) (.cons (.fJ (.attr (.var 95) 97) (.var 60) (.bi .len (.cons (.attr (.var 95) 97) .nil))) .nil))
noncomputable def Gs:aH:=(.cons (.fJ (.var 78) (.var 37) (.ite (.cmp .In (.var 37) (.var 19)) (.lit (.int 1)) (.aS (.attr (.var 95) 64) 156 .nil))) (.cons (.ite (.cmp .NotIn (.var 37) (.var 19)) (.cons (.ex (.d8 .append (.attr (.var 95) 70) (.cons (.tup (.cons (.var 6) (.cons (.var 37) (.cons (.idx (.var 78) (.var 37)) .nil)))) .nil))) .nil) .nil) .nil))
noncomputable def Au:aH:=(.cons (.ite (.cmp .Eq (.aS (.var 64) 65 (.cons (.var 62) .nil)) (.lit (.str 66))) (.cons (.ex (.d8 .append (.var 55) (.cons (.tr (.cmp .In (.var 62) (.var 63))) .nil))) .nil) (.cons (.ex (.d8 .append (.var 55) (.cons (.tr (.cmp .Eq (.c3 (.one 67) (.aS (.var 64) 68 (.cons (.var 62) .nil)) (.cons (.cmp .NotEq (.idx (.var 55) (.bi .abs (.cons (.var 67) .nil))) (.tr (.cmp .Gt (.var 67) (.lit (.int 0))))) .nil) (.emit (.var 67))) (.cO (.list .nil)))) .nil))) .nil)) .nil)
noncomputable def wL:aH:=(.cons (.asg 78 (.idx (.idx (.var 63) (.var 53)) (.lit (.int 1)))) (.cons (.oE 55 (.one 25) (.bi .sorted (.cons (.var 78) .nil)) (.cons (.cmp .Eq (.idx (.var 74) (.bi .abs (.cons (.idx (.var 78) (.var 25)) .nil))) (.tr (.cmp .Gt (.idx (.var 78) (.var 25)) (.lit (.int 0))))) .nil) (.emit (.var 25))) (.cons (.ite (.cmp .NotEq (.var 55) (.c3 (.one 25) (.bq 48 (.cons (.var 23) (.cons (.bi .len (.cons (.var 59) .nil)) .nil))) (.cons (.ex (.bq 49 (.cons (.var 59) (.cons (.var 61) (.cons (.var 25) (.cons (.var 23) (.cons (.cO (.dict (.cons (.lit (.str 3)) (.var 53) .nil))) .nil))))))) .nil) (.emit (.var 25)))) (.cons (.ret (.lit (.bool false))) .nil) .nil) (.cons (.ite (.cmp .NotEq (.bi .tuple (.cons (.var 55) .nil)) (.aS (.var 77) 79 (.cons (.tup (.cons (.lit (.str 35)) (.cons (.var 59) (.cons (.var 61) .nil)))) (.cons (.cO (.dict (.cons (.lit (.str 3)) (.tup (.cons (.tup (.cons (.var 53) .nil)) .nil)) .nil))) .nil)))) (.cons (.ret (.lit (.bool false))) .nil) .nil) .nil))))
noncomputable abbrev Di:ME:= .aS (.var 90) 91 (.cons (.var 59) (.cons (.var 61) (.cons (.cO (.dict (.cons (.lit (.str 3)) (.tup (.cons (.lit (.int 1)) (.cons (.cO (.dict (.cons (.tup (.cons (.var 53) .nil)) (.lit (.int 1)) .nil))) .nil))) .nil))) .nil)))
noncomputable def Hz:aH:=(.cons (.asg 70 (.aS (.var 90) 93 .nil)) (.cons (.ite (.bo .And (.cons (.cmp .Eq (.var 70) (.cO (.list .nil))) (.cons (.cmp .NotEq (.c3 (.one 62) (.var 78) (.cons (.cmp .NotEq (.var 62) (.lit (.int 1))) .nil) (.emit (.var 62))) (.cO (.list .nil))) .nil))) (.cons (.ret (.lit (.bool false))) .nil) .nil) (.cons (.ret (.bq 94 (.cons (.var 64) (.cons (.var 70) (.cons (.var 63) (.cons (.var 59) (.cons (.var 61) (.cons (.var 75) (.cons (.var 18) .nil))))))))) .nil)))
noncomputable def HA:aH:=(.cons (.oE 78 (.many [57,92]) (.var 63) .nil (.gen (.one 62) (.vals (.var 92)) .nil (.emit (.var 62)))) (.cons (.ite (.bo .Or (.cons (.cmp .NotEq (.c3 (.many [57,92]) (.var 63) (.cons (.cmp .NotEq (.var 57) (.bi .len (.cons (.var 59) .nil))) .nil) (.emit (.var 57))) (.cO (.list .nil))) (.cons (.cmp .In (.neg (.lit (.int 1))) (.var 78)) .nil))) (.cons (.ret (.lit (.bool false))) .nil) .nil) Hz))
noncomputable def HB:aH:=(.cons (.oE 63 (.one 53) (.bi .range (.cons (.var 18) .nil)) .nil (.emit Di)) (.cons (.asg 69 (.aS (.var 64) 69 .nil)) (.cons (.ite (.bo .Or (.cons (.cmp .NotEq (.c3 (.one 53) (.bi .range (.cons (.var 18) .nil)) .nil (.emit Di)) (.var 63)) (.cons (.cmp .NotEq (.aS (.var 64) 69 .nil) (.var 69)) .nil))) (.cons (.ret (.lit (.bool false))) .nil) .nil) HA)))
noncomputable def HC:aH:=(.cons (.asg 61 (.bq 36 (.cons (.var 14) (.cons (.var 28) (.cons (.lit (.int 1)) .nil))))) (.cons (.asg 64 (.bq 88 .nil)) (.cons (.asg 90 (.bq 89 (.cons (.var 64) (.cons (.var 84) .nil)))) HB)))
noncomputable def Jm:ME:= .aS (.var 84) 85 (.cons (.idx (.lit (.str 86)) (.var 6)) (.cons (.bin .Add (.var 6) (.lit (.int 1))) (.cons (.bi .tuple (.cons (.idx (.idx (.var 75) (.var 6)) (.lit (.int 0))) .nil)) (.cons (.bi .tuple (.cons (.bi .sorted (.cons (.bin .Add (.idx (.idx (.var 75) (.var 6)) (.lit (.int 0))) (.idx (.idx (.var 75) (.var 6)) (.lit (.int 1)))) .nil)) .nil)) .nil))))
noncomputable def NO:aH:=(.cons (.asg 16 (.idx (.var 14) (.lit (.str 15)))) (.cons (.fJ (.var 14) (.lit (.str 15)) (.bin .Add (.var 16) (.lit (.int 1)))) (.cons (.ite (.cmp .Lt (.var 16) (.bi .len (.cons (.idx (.var 14) (.lit (.str 17))) .nil))) (.cons (.ret (.bin .Mod (.idx (.idx (.var 14) (.lit (.str 17))) (.var 16)) (.var 18))) .nil) .nil) (.cons (.ret (.bin .Mod (.bin .Mod (.bin .Add (.bin .Add (.bin .Mult (.bin .Mult (.lit (.int 7)) (.var 16)) (.var 16)) (.bin .Mult (.lit (.int 4)) (.var 16))) (.lit (.int 2))) (.lit (.int 61))) (.var 18))) .nil))))
noncomputable def Mc:aH:=(.cons (.ret (.tup (.cons (.cO (.var 19)) (.cons (.cO (.var 20)) .nil)))) .nil)
noncomputable def NM:aH:=(.cons (.g6 [19,20] (.tup (.cons (.list .nil) (.cons (.list .nil) .nil)))) (.cons (.for (.one 25) (.var 26) Gp [14,23,19,20]) Mc))
noncomputable def NL:aH:=(.cons (.ret (.tup (.cons (.lit (.str 27)) (.cons (.idx (.var 28) (.bq 21 (.cons (.var 14) (.cons (.bi .len (.cons (.var 28) .nil)) .nil)))) .nil)))) .nil)
noncomputable def NK:aH:=(.cons (.asg 22 (.bq 21 (.cons (.var 14) (.cons (.ite (.cmp .Gt (.var 29) (.lit (.int 0))) (.lit (.int 6)) (.lit (.int 3))) .nil)))) (.cons (.ite (.cmp .Eq (.var 22) (.lit (.int 0))) (.cons (.ret (.tup (.cons (.lit (.str 30)) (.cons (.lit (.int 0)) .nil)))) .nil) .nil) (.cons (.ite (.cmp .Eq (.var 22) (.lit (.int 1))) (.cons (.ret (.bq 31 (.cons (.var 14) (.cons (.var 28) .nil)))) .nil) .nil) (.cons (.ite (.cmp .Eq (.var 22) (.lit (.int 2))) (.cons (.ret (.tup (.cons (.lit (.str 32)) (.cons (.bq 31 (.cons (.var 14) (.cons (.var 28) .nil))) (.cons (.tup (.cons (.lit (.str 30)) (.cons (.lit (.int 1)) .nil))) .nil))))) .nil) .nil) (.cons (.ite (.cmp .Eq (.var 22) (.lit (.int 5))) (.cons (.asg 34 (.bq 33 (.cons (.var 14) (.cons (.var 28) (.cons (.lit (.int 0)) .nil))))) (.cons (.ret (.tup (.cons (.lit (.str 35)) (.cons (.tup (.cons (.tup (.cons (.lit (.str 0)) (.cons (.var 34) .nil))) .nil)) (.cons (.bq 36 (.cons (.var 14) (.cons (.bin .Add (.var 28) (.cO (.list (.cons (.lit (.str 0)) .nil)))) (.cons (.lit (.int 0)) .nil)))) .nil))))) .nil)) .nil) (.cons (.asg 37 (.bq 33 (.cons (.var 14) (.cons (.var 28) (.cons (.lit (.int 0)) .nil))))) (.cons (.ret (.tup (.cons (.idx (.cO (.list (.cons (.lit (.str 38)) (.cons (.lit (.str 39)) .nil)))) (.bin .Sub (.var 22) (.lit (.int 3)))) (.cons (.var 37) (.cons (.bq 33 (.cons (.var 14) (.cons (.var 28) (.cons (.lit (.int 0)) .nil)))) .nil))))) .nil)))))))
noncomputable def Me:aH:=(.cons (.asg 22 (.bq 21 (.cons (.var 14) (.cons (.ite (.cmp .Gt (.var 29) (.lit (.int 0))) (.lit (.int 6)) (.lit (.int 4))) .nil)))) (.cons (.ite (.cmp .Eq (.var 22) (.lit (.int 0))) (.cons (.ret (.tup (.cons (.lit (.str 40)) (.cons (.bq 31 (.cons (.var 14) (.cons (.var 28) .nil))) (.cons yi .nil))))) .nil) .nil) (.cons (.ite (.cmp .Eq (.var 22) (.lit (.int 1))) (.cons (.ret (.tup (.cons (.lit (.str 41)) (.cons yi .nil)))) .nil) .nil) (.cons (.ite (.cmp .Eq (.var 22) (.lit (.int 2))) (.cons (.ret (.tup (.cons (.lit (.str 42)) (.cons (.bq 31 (.cons (.var 14) (.cons (.var 28) .nil))) (.cons (.bq 31 (.cons (.var 14) (.cons (.var 28) .nil))) .nil))))) .nil) .nil) (.cons (.ite (.cmp .Eq (.var 22) (.lit (.int 3))) (.cons (.ret (.tup (.cons (.lit (.str 40)) (.cons (.tup (.cons (.lit (.str 43)) (.cons (.bq 31 (.cons (.var 14) (.cons (.var 28) .nil))) (.cons (.bq 31 (.cons (.var 14) (.cons (.var 28) .nil))) .nil)))) (.cons (.tup (.cons (.lit (.str 30)) (.cons (.lit (.int 1)) .nil))) .nil))))) .nil) .nil) (.cons (.ite (.cmp .Eq (.var 22) (.lit (.int 4))) (.cons (.ret (.tup (.cons (.lit (.str 44)) (.cons (.bq 36 (.cons (.var 14) (.cons (.var 28) (.cons (.lit (.int 0)) .nil)))) .nil)))) .nil) .nil) (.cons (.ret (.tup (.cons (.lit (.str 45)) (.cons (.tup (.cons (.bq 36 (.cons (.var 14) (.cons (.var 28) (.cons (.lit (.int 0)) .nil)))) (.cons (.bq 36 (.cons (.var 14) (.cons (.var 28) (.cons (.lit (.int 0)) .nil)))) .nil))) .nil)))) .nil)))))))
noncomputable def Mb:aH:=(.cons (.ite (.cmp .Eq (.idx (.var 46) (.lit (.int 0))) (.lit (.str 30))) (.cons (.ret (.idx (.idx (.var 23) (.lit (.str 26))) (.idx (.var 46) (.lit (.int 1))))) .nil) .nil) (.cons (.ite (.cmp .Eq (.idx (.var 46) (.lit (.int 0))) (.lit (.str 27))) (.cons (.ret (.cO (.list (.cons (.tup (.cons (.idx (.var 47) (.idx (.var 46) (.lit (.int 1)))) .nil)) .nil)))) .nil) .nil) (.cons (.ite (.cmp .Eq (.idx (.var 46) (.lit (.int 0))) (.lit (.str 35))) (.cons (.ret (.c3 (.one 25) (.bq 48 (.cons (.var 23) (.cons (.lit (.int 1)) .nil))) (.cons (.ex (.bq 49 (.cons (.idx (.var 46) (.lit (.int 1))) (.cons (.idx (.var 46) (.lit (.int 2))) (.cons (.var 25) (.cons (.var 23) (.cons (.var 47) .nil))))))) .nil) (.emit (.var 25)))) .nil) .nil) (.cons (.g6 [37,51] (.tup (.cons (.bq 50 (.cons (.idx (.var 46) (.lit (.int 1))) (.cons (.var 23) (.cons (.var 47) .nil)))) (.cons (.bq 50 (.cons (.idx (.var 46) (.lit (.int 2))) (.cons (.var 23) (.cons (.var 47) .nil)))) .nil)))) Gn))))
noncomputable def N3:aH:=(.cons (.ite (.cmp .Eq (.idx (.var 46) (.lit (.int 0))) (.lit (.str 44))) (.cons (.ret (.tr (.not (.ex (.bq 54 (.cons (.idx (.var 46) (.lit (.int 1))) (.cons (.var 23) (.cons (.var 47) .nil)))))))) .nil) .nil) (.cons (.ite (.cmp .Eq (.idx (.var 46) (.lit (.int 0))) (.lit (.str 45))) (.cons (.ret (.tr (.bo .And (.cons (.ex (.bq 54 (.cons (.idx (.idx (.var 46) (.lit (.int 1))) (.lit (.int 0))) (.cons (.var 23) (.cons (.var 47) .nil))))) (.cons (.ex (.bq 54 (.cons (.idx (.idx (.var 46) (.lit (.int 1))) (.lit (.int 1))) (.cons (.var 23) (.cons (.var 47) .nil))))) .nil))))) .nil) .nil) (.cons (.asg 37 (.bq 50 (.cons (.idx (.var 46) (.lit (.int 1))) (.cons (.var 23) (.cons (.var 47) .nil))))) (.cons (.ite (.cmp .Eq (.idx (.var 46) (.lit (.int 0))) (.lit (.str 41))) (.cons (.ret (.tr (.cmp .NotEq (.var 37) (.cO (.list .nil))))) .nil) .nil) (.cons (.asg 51 (.bq 50 (.cons (.idx (.var 46) (.lit (.int 2))) (.cons (.var 23) (.cons (.var 47) .nil))))) Aw)))))
noncomputable def MH:aH:=(.cons (.ret (.var 55)) .nil)
noncomputable def OX:aH:=(.cons (.asg 55 (.cO (.list (.cons (.tup .nil) .nil)))) (.cons (.for (.one 56) (.bi .range (.cons (.var 57) .nil)) (.cons (.oE 55 (.one 25) (.var 55) .nil (.gen (.one 53) (.bi .range (.cons (.idx (.var 23) (.lit (.str 18))) .nil)) .nil (.emit (.bin .Add (.var 25) (.tup (.cons (.var 53) .nil)))))) .nil) [23,55]) MH))
noncomputable def Md:aH:=(.cons (.ret (.bq 54 (.cons (.var 61) (.cons (.var 23) (.cons (.var 58) .nil))))) .nil)
noncomputable def NN:aH:=(.cons (.asg 58 (.bi .dict (.cons (.var 47) .nil))) (.cons (.for (.one 16) (.bi .range (.cons (.bi .len (.cons (.var 59) .nil)) .nil)) Gr JJ) Md))
noncomputable def LK:aH:=(.cons (.ret (.cO (.var 55))) .nil)
noncomputable def MG:aH:=(.cons (.asg 55 (.list (.cons (.lit (.bool false)) (.cons (.lit (.bool true)) .nil)))) (.cons (.for (.one 62) (.bi .range (.cons (.lit (.int 2)) (.cons (.bin .Add (.aS (.var 64) 69 .nil) (.lit (.int 1))) .nil))) Au [64,63,55]) LK))
noncomputable def LY:aH:=(.cons (.ret (.tup (.cons (.var 59) (.cons (.var 28) .nil)))) .nil)
noncomputable def N4:aH:=(.cons (.g6 [59,28] (.tup (.cons (.tup .nil) (.cons (.cO (.list (.cons (.lit (.str 3)) .nil))) .nil)))) (.cons (.for (.one 56) (.bi .range (.cons (.bin .Add (.lit (.int 1)) (.bq 21 (.cons (.var 14) (.cons (.lit (.int 2)) .nil)))) .nil)) Hw [14,59,28]) LY))
noncomputable def KR:aH:=(.cons (.ret (.lit (.bool true))) .nil)
noncomputable def Gq:aH:=(.cons (.asg 74 (.bq 73 (.cons (.var 64) (.cons (.c3 (.one 16) (.var 72) .nil (.emit (.idx (.idx (.var 70) (.var 16)) (.lit (.int 2))))) .nil)))) (.cons (.oE 26 (.one 6) (.bi .range (.cons (.lit (.int 2)) .nil)) .nil (.emit (.bi .sorted (.cons (.bin .Add (.idx (.idx (.var 75) (.var 6)) (.lit (.int 0))) (.c3 (.one 16) (.var 72) (.cons (.cmp .Eq (.idx (.idx (.var 70) (.var 16)) (.lit (.int 0))) (.var 6)) .nil) (.emit (.idx (.idx (.var 70) (.var 16)) (.lit (.int 1)))))) .nil)))) (.cons (.g6 [23,77] (.tup (.cons (.cO (.dict (.cons (.lit (.str 26)) (.var 26) (.cons (.lit (.str 18)) (.var 18) .nil)))) (.cons (.bq 76 (.cons (.var 18) (.cons (.c3 (.one 25) (.var 26) .nil (.emit (.bi .tuple (.cons (.var 25) .nil)))) .nil))) .nil)))) (.cons (.for (.one 53) (.bi .range (.cons (.var 18) .nil)) wL yv) .nil))))
noncomputable def Av:aH:=(.cons (.oE 72 (.one 16) (.bi .range (.cons (.bi .len (.cons (.var 70) .nil)) .nil)) (.cons (.cmp .Eq (.bin .BitAnd (.bin .RShift (.var 71) (.var 16)) (.lit (.int 1))) (.lit (.int 1))) .nil) (.emit (.var 16))) Gq)
noncomputable def La:aH:=(.cons (.for (.one 71) (.bi .range (.cons (.bin .Pow (.lit (.int 2)) (.bi .len (.cons (.var 70) .nil))) .nil)) Av yu) KR)
noncomputable def QN:aH:=(.cons (.g6 [59,28] (.bq 87 (.cons (.var 14) .nil))) HC)
noncomputable def Hy:aH:=(.cons (.asg 84 (.bq 82 (.cons (.bq 83 (.cons (.c3 (.one 53) (.bi .range (.cons (.var 18) .nil)) .nil (.emit (.bin .Add (.lit (.str 7)) (.bi .str (.cons (.var 53) .nil))))) .nil)) .nil))) (.cons (.for (.one 6) (.bi .range (.cons (.lit (.int 2)) .nil)) (.cons (.ex Jm) .nil) [18,75,84,14]) QN))
noncomputable def IB:aH:=(.cons (.g6 [14,23] (.tup (.cons (.dict (.cons (.lit (.str 17)) (.qo (.var 80)) (.cons (.lit (.str 15)) (.lit (.int 0)) .nil))) (.cons (.dict (.cons (.lit (.str 24)) (.lit (.int 2)) .nil)) .nil)))) (.cons (.asg 18 (.bin .Add (.lit (.int 2)) (.bq 21 (.cons (.var 14) (.cons (.lit (.int 2)) .nil))))) (.cons (.asg 75 (.list (.cons (.bq 81 (.cons (.var 14) (.cons (.c3 (.one 53) (.bi .range (.cons (.var 18) .nil)) .nil (.emit (.tup (.cons (.var 53) .nil)))) (.cons (.var 23) .nil)))) .nil))) (.cons (.ex (.d8 .append (.var 75) (.cons (.bq 81 (.cons (.var 14) (.cons (.c3 (.one 53) (.bi .range (.cons (.var 18) .nil)) .nil (.gen (.one 52) (.bi .range (.cons (.var 18) .nil)) .nil (.emit (.tup (.cons (.var 53) (.cons (.var 52) .nil)))))) (.cons (.var 23) .nil)))) .nil))) Hy))))
noncomputable def LM:aH:=(.cons (.dm (.var 95) 96 (.bi .tuple (.cons (.var 96) .nil))) (.cons (.dm (.var 95) 97 (.dict .nil)) (.cons (.for (.one 60) (.attr (.var 95) 96) Gm [95]) .nil)))
noncomputable def LL:aH:=(.cons (.ret (.bi .len (.cons (.attr (.var 95) 96) .nil))) .nil)
noncomputable def Mh:aH:=(.cons (.dm (.var 95) 98 (.var 98)) (.cons (.dm (.var 95) 84 (.list .nil)) (.cons (.dm (.var 95) 97 (.dict .nil)) .nil)))
noncomputable def MJ:aH:=(.cons (.ite (.cmp .In (.var 60) (.attr (.var 95) 97)) .dead .nil) (.cons (.ite (.bo .Or (.cons (.not (.ex (.jV "int" (.var 99)))) (.cons (.ex (.jV "bool" (.var 99))) (.cons (.cmp .Lt (.var 99) (.lit (.int 1))) .nil)))) .dead .nil) (.cons (.ex (.aS (.var 95) 100 (.cons (.var 60) (.cons (.var 99) (.cons (.var 101) .nil))))) (.cons (.ex (.aS (.var 95) 100 (.cons (.var 60) (.cons (.var 99) (.cons (.var 102) .nil))))) (.cons (.ite (.not (.ex (.bq 103 (.cons (.var 101) (.cons (.var 102) .nil))))) .dead .nil) (.cons (.fJ (.attr (.var 95) 97) (.var 60) (.bi .len (.cons (.attr (.var 95) 84) .nil))) (.cons (.ex (.d8 .append (.attr (.var 95) 84) (.cons (.tup (.cons (.var 60) (.cons (.var 99) (.cons (.var 101) (.cons (.var 102) .nil))))) .nil))) (.cons (.ret (.bin .Sub (.bi .len (.cons (.attr (.var 95) 84) .nil)) (.lit (.int 1)))) .nil))))))))
noncomputable def L9:aH:=(.cons (.for (.one 16) (.bi .range (.cons (.lit (.int 1)) (.cons (.bi .len (.cons (.var 41) .nil)) .nil))) (.cons (.ite (.not (.cmp .Lt (.idx (.var 41) (.bin .Sub (.var 16) (.lit (.int 1)))) (.idx (.var 41) (.var 16)))) .dead .nil) .nil) [41]) .nil)
noncomputable def LA:aH:=(.cons (.ite (.not (.ex (.jV "tuple" (.var 41)))) .dead .nil) (.cons (.for (.one 25) (.var 41) (.cons (.ite (.bo .Or (.cons (.not (.ex (.jV "tuple" (.var 25)))) (.cons (.cmp .NotEq (.bi .len (.cons (.var 25) .nil)) (.var 99)) .nil))) .dead .nil) (.cons (.for (.one 53) (.var 25) (.cons (.ite (.bo .Or (.cons (.not (.ex (.jV "int" (.var 53)))) (.cons (.ex (.jV "bool" (.var 53))) (.cons (.not (.chain .LtE .Lt (.lit (.int 0)) (.var 53) (.aS (.attr (.var 95) 98) 69 .nil))) .nil)))) .dead .nil) .nil) [95,99,41]) .nil)) [95,99,41]) L9))
noncomputable def M5:aH:=(.cons (.ret (.idx (.attr (.var 95) 84) (.var 6))) .nil)
noncomputable def Mg:aH:=(.cons (.ret (.bi .len (.cons (.attr (.var 95) 84) .nil))) .nil)
noncomputable def Fy:aH:=(.cons (.ret (.bi .tuple (.cons (.bi .sorted (.cons (.bi .dict (.cons (.c3 (.one 37) (.var 104) .nil (.emit (.tup (.cons (.var 37) (.cons (.lit (.bool true)) .nil))))) .nil)) .nil)) .nil))) .nil)
noncomputable def T8:aH:=(.cons (.ret (.bq 105 (.cons (.bin .Add (.var 5) (.var 106)) .nil))) .nil)
noncomputable def T9:aH:=(.cons (.asg 28 (.bi .dict (.cons (.c3 (.one 37) (.var 106) .nil (.emit (.tup (.cons (.var 37) (.cons (.lit (.bool true)) .nil))))) .nil))) (.cons (.ret (.bi .tuple (.cons (.c3 (.one 37) (.var 5) (.cons (.cmp .NotIn (.var 37) (.var 28)) .nil) (.emit (.var 37))) .nil))) .nil))
noncomputable def N5:aH:=(.cons (.ret (.tr (.cmp .Eq (.bq 39 (.cons (.var 5) (.cons (.var 106) .nil))) (.tup .nil)))) .nil)
noncomputable def OW:aH:=(.cons (.ite (.cmp .Gt (.bin .Mult (.bi .len (.cons (.var 5) .nil)) (.bi .len (.cons (.var 106) .nil))) (.glob 107)) .dead .nil) (.cons (.ret (.bi .tuple (.cons (.c3 (.one 37) (.var 5) .nil (.gen (.one 108) (.var 106) .nil (.emit (.bin .Add (.var 37) (.var 108))))) .nil))) .nil))
noncomputable def OY:aH:=(.cons (.ret (.bq 105 (.cons (.c3 (.one 37) (.var 5) .nil (.gen (.one 110) (.d8 .oy (.var 109) (.cons (.idx (.var 37) (.neg (.lit (.int 1)))) (.cons (.cO (.list .nil)) .nil))) .nil (.emit (.bin .Add (.oB (.var 37)) (.var 110))))) .nil))) .nil)
noncomputable def UN:aH:=(.cons (.asg 109 (.dict .nil)) (.cons (.for (.one 108) (.var 106) (.cons (.ex (.d8 .append (.d8 .setdefault (.var 109) (.cons (.idx (.var 108) (.lit (.int 0))) (.cons (.list .nil) .nil))) (.cons (.lL (.var 108)) .nil))) .nil) [5,109]) OY))
noncomputable def LC:aH:=(.cons (.dm (.var 95) 18 (.var 18)) (.cons (.dm (.var 95) 111 (.var 111)) (.cons (.dm (.var 95) 112 (.lit (.int 0))) .nil)))
noncomputable def L3:aH:=(.cons (.asg 55 (.cO (.var 108))) .nil)
noncomputable def L2:aH:=(.cons (.ret (.var 55)) .nil)
noncomputable def B8:aH:=(.cons (.asg 26 (.aS (.var 95) 79 (.cons (.var 113) (.cons (.var 37) .nil)))) (.cons (.dm (.var 95) 112 (.bin .Add (.attr (.var 95) 112) (.bi .len (.cons (.var 26) .nil)))) (.cons (.ite (.cmp .Gt (.attr (.var 95) 112) (.glob 114)) .dead .nil) (.cons (.for (.one 25) (.var 26) Hv JK) .nil))))
noncomputable def Gu:aH:=(.cons (.asg 108 (.list .nil)) (.cons (.for (.many [115,37]) (.var 55) B8 t6) L3))
noncomputable def Lo:aH:=(.cons (.asg 55 (.cO (.list (.cons (.tup (.cons (.tup .nil) (.cons (.var 47) .nil))) .nil)))) (.cons (.for (.many [60,113]) (.var 59) Gu [95,55]) L2))
noncomputable def Ln:aH:=(.cons (.asg 116 (.idx (.var 113) (.lit (.int 0)))) (.cons (.ite (.cmp .Eq (.var 116) (.lit (.str 30))) (.cons (.ret (.idx (.attr (.var 95) 111) (.idx (.var 113) (.lit (.int 1))))) .nil) .nil) (.cons (.ite (.cmp .Eq (.var 116) (.lit (.str 27))) (.cons (.ret (.idx (.var 47) (.idx (.var 113) (.lit (.int 1))))) .nil) .nil) (.cons (.ite (.cmp .Eq (.var 116) (.lit (.str 104))) .dead .nil) (.cons (.ite (.cmp .Eq (.var 116) (.lit (.str 117))) .dead .nil) (.cons (.ite (.cmp .Eq (.var 116) (.lit (.str 118))) .dead .nil) (.cons (.ite (.cmp .Eq (.var 116) (.lit (.str 119))) .dead .nil) (.cons (.ite (.cmp .Eq (.var 116) (.lit (.str 120))) .dead .nil) (.cons (.ite (.cmp .Eq (.var 116) (.lit (.str 35))) (.cons (.ret (.bq 105 (.cons (.c3 (.many [115,37]) (.aS (.var 95) 121 (.cons (.idx (.var 113) (.lit (.int 1))) (.cons (.var 47) .nil))) (.cons (.ex (.aS (.var 95) 122 (.cons (.idx (.var 113) (.lit (.int 2))) (.cons (.var 37) .nil)))) .nil) (.emit (.var 115))) .nil))) .nil) .nil) (.cons (.ite (.cmp .In (.var 116) (.tup (.cons (.lit (.str 56)) (.cons (.lit (.str 123)) (.cons (.lit (.str 124)) .nil))))) .dead .nil) (.cons (.ret (.aS (.var 95) 125 (.cons (.var 116) (.cons (.aS (.var 95) 79 (.cons (.idx (.var 113) (.lit (.int 1))) (.cons (.var 47) .nil))) (.cons (.aS (.var 95) 79 (.cons (.idx (.var 113) (.lit (.int 2))) (.cons (.var 47) .nil))) .nil))))) .nil)))))))))))
noncomputable def Lp:aH:=(.cons (.ite (.cmp .Eq (.var 116) (.lit (.str 38))) (.cons (.ret (.bq 38 (.cons (.var 5) (.cons (.var 106) .nil)))) .nil) .nil) (.cons (.ite (.cmp .Eq (.var 116) (.lit (.str 126))) .dead .nil) (.cons (.ite (.cmp .Eq (.var 116) (.lit (.str 39))) (.cons (.ret (.bq 39 (.cons (.var 5) (.cons (.var 106) .nil)))) .nil) .nil) (.cons (.ite (.cmp .Eq (.var 116) (.lit (.str 32))) (.cons (.ret (.bq 32 (.cons (.var 5) (.cons (.var 106) .nil)))) .nil) .nil) (.cons (.ite (.cmp .Eq (.var 116) (.lit (.str 43))) (.cons (.ret (.bq 43 (.cons (.var 5) (.cons (.var 106) .nil)))) .nil) .nil) (.cons (.ite (.cmp .Eq (.var 116) (.lit (.str 127))) .dead .nil) (.cons (.ret (.ite (.cmp .Eq (.var 116) (.lit (.str 128))) .dead .dead)) .nil)))))))
noncomputable def Ly:aH:=(.cons (.asg 116 (.idx (.var 129) (.lit (.int 0)))) (.cons (.ite (.cmp .In (.var 116) (.tup (.cons (.lit (.str 130)) (.cons (.lit (.str 131)) .nil)))) .dead .nil) (.cons (.ite (.cmp .Eq (.var 116) (.lit (.str 44))) (.cons (.ret (.tr (.not (.ex (.aS (.var 95) 122 (.cons (.idx (.var 129) (.lit (.int 1))) (.cons (.var 47) .nil))))))) .nil) .nil) (.cons (.ite (.cmp .Eq (.var 116) (.lit (.str 45))) (.cons (.ret (.bi .all (.cons (.c3 (.one 37) (.idx (.var 129) (.lit (.int 1))) .nil (.emit (.aS (.var 95) 122 (.cons (.var 37) (.cons (.var 47) .nil))))) .nil))) .nil) .nil) (.cons (.ite (.cmp .Eq (.var 116) (.lit (.str 132))) .dead .nil) (.cons (.ite (.cmp .Eq (.var 116) (.lit (.str 133))) .dead .nil) (.cons (.ite (.cmp .Eq (.var 116) (.lit (.str 134))) .dead .nil) (.cons (.ite (.cmp .In (.var 116) (.tup (.cons (.lit (.str 135)) (.cons (.lit (.str 136)) .nil)))) .dead .nil) (.cons (.ite (.cmp .In (.var 116) (.tup (.cons (.lit (.str 137)) (.cons (.lit (.str 138)) (.cons (.lit (.str 139)) .nil))))) .dead .nil) (.cons (.ite (.cmp .In (.var 116) (.tup (.cons (.lit (.str 40)) (.cons (.lit (.str 42)) .nil)))) (.cons (.g6 [5,106] (.tup (.cons (.aS (.var 95) 79 (.cons (.idx (.var 129) (.lit (.int 1))) (.cons (.var 47) .nil))) (.cons (.aS (.var 95) 79 (.cons (.idx (.var 129) (.lit (.int 2))) (.cons (.var 47) .nil))) .nil)))) (.cons (.ret IZ) .nil)) .nil) (.cons (.ret (.aS (.var 95) 140 (.cons (.var 116) (.cons (.bi .len (.cons (.aS (.var 95) 79 (.cons (.idx (.var 129) (.lit (.int 1))) (.cons (.var 47) .nil))) .nil)) .nil)))) .nil)))))))))))
noncomputable def L8:aH:=(.cons (.ite (.cmp .Eq (.var 116) (.lit (.str 41))) (.cons (.ret (.tr (.cmp .Gt (.var 18) (.lit (.int 0))))) .nil) .nil) (.cons (.ite (.cmp .Eq (.var 116) (.lit (.str 141))) .dead .nil) (.cons (.ret (.ite (.cmp .Eq (.var 116) (.lit (.str 37))) (.tr (.cmp .Eq (.var 18) (.lit (.int 1)))) (.tr (.cmp .Lt (.var 18) (.lit (.int 2)))))) .nil)))
noncomputable def NJ:aH:=(.cons (.ite (.cmp .In (.idx (.var 46) (.lit (.int 0))) (.tup (.cons (.lit (.str 45)) (.cons (.lit (.str 132)) .nil)))) (.cons (.ret (.idx (.var 46) (.lit (.int 1)))) .nil) .nil) (.cons (.ite (.cmp .In (.idx (.var 46) (.lit (.int 0))) (.tup (.cons (.lit (.str 30)) (.cons (.lit (.str 27)) (.cons (.lit (.str 104)) (.cons (.lit (.str 118)) (.cons (.lit (.str 119)) (.cons (.lit (.str 117)) (.cons (.lit (.str 142)) (.cons (.lit (.str 130)) (.cons (.lit (.str 131)) .nil))))))))))) (.cons (.ret (.tup .nil)) .nil) .nil) (.cons (.ret (.lL (.var 46))) .nil)))
noncomputable def LB:aH:=(.cons (.dm (.var 95) 28 (.dict .nil)) .nil)
noncomputable def LZ:aH:=(.cons (.ite (.cmp .NotIn (.var 46) (.attr (.var 95) 28)) (.cons (.fJ (.attr (.var 95) 28) (.var 46) (.bi .tuple (.cons (.N' (.aS (.var 95) 143 (.cons (.var 46) .nil))) .nil))) .nil) .nil) (.cons (.ret (.idx (.attr (.var 95) 28) (.var 46))) .nil))
noncomputable def K_:aH:=(.cons (.ret (.bin .Add (.var 55) (.c3 (.one 37) (.aS (.var 95) 145 (.cons (.idx (.var 46) (.lit (.int 2))) .nil)) (.cons (.cmp .NotIn (.var 37) (.var 144)) .nil) (.emit (.var 37))))) .nil)
noncomputable def KZ:aH:=(.cons (.ret (.cO (.var 55))) .nil)
noncomputable def Lk:aH:=(.cons (.ite (.cmp .Eq (.idx (.var 46) (.lit (.int 0))) (.lit (.str 27))) (.cons (.ret (.cO (.list (.cons (.idx (.var 46) (.lit (.int 1))) .nil)))) .nil) .nil) (.cons (.g6 [55,144] (.tup (.cons (.list .nil) (.cons (.list .nil) .nil)))) (.cons (.ite (.cmp .In (.idx (.var 46) (.lit (.int 0))) (.glob 146)) (.cons (.for (.many [60,113]) (.idx (.var 46) (.lit (.int 1))) (.cons (.ex (.d8 .extend (.var 55) (.cons (.c3 (.one 37) (.aS (.var 95) 145 (.cons (.var 113) .nil)) (.cons (.cmp .NotIn (.var 37) (.var 144)) .nil) (.emit (.var 37))) .nil))) (.cons (.ex (.d8 .append (.var 144) (.cons (.var 60) .nil))) .nil)) [95,46,55,144]) K_) .nil) (.cons (.for (.one 67) (.bq 147 (.cons (.var 46) .nil)) (.cons (.ex (.d8 .extend (.var 55) (.cons (.aS (.var 95) 145 (.cons (.var 67) .nil)) .nil))) .nil) [95,55]) KZ))))
noncomputable def Lv:aH:=(.cons (.dm (.var 95) 64 (.var 64)) (.cons (.dm (.var 95) 148 (.bq 149 (.cons (.var 64) (.cons (.aS (.attr (.var 84) 98) 69 .nil) .nil)))) (.cons (.dm (.var 95) 150 (.bq 151 (.cons (.var 64) .nil))) (.cons (.dm (.var 95) 96 (.bq 152 .nil)) (.cons (.dm (.var 95) 153 (.dict .nil)) (.cons (.dm (.var 95) 70 (.list .nil)) (.cons (.dm (.var 95) 112 (.lit (.int 0))) (.cons (.dm (.var 95) 154 (.c3 (.one 6) (.bi .range (.cons (.aS (.var 84) 69 .nil) .nil)) .nil (.emit (.aS (.var 95) 155 (.cons (.var 6) (.cons (.aS (.var 84) 144 (.cons (.var 6) .nil)) .nil)))))) .nil))))))))
noncomputable def KJ:aH:=(.cons (.ret (.tup (.cons (.var 99) (.cons (.cO (.var 78)) .nil)))) .nil)
noncomputable def KV:aH:=(.cons (.g6 [60,99,101,102] (.var 144)) (.cons (.g6 [78,19] (.tup (.cons (.dict .nil) (.cons (.Ir (.var 37) (.lit (.bool true)) (.one 37) (.var 101) .nil) .nil)))) (.cons (.for (.one 37) (.var 102) Gs [95,6,99,78,19]) KJ)))
noncomputable def Lh:aH:=(.cons (.ret (.bi .list (.cons (.attr (.var 95) 70) .nil))) .nil)
noncomputable def KU:aH:=(.cons (.asg 55 (.cO (.var 108))) .nil)
noncomputable def KS:aH:=(.cons (.ret (.var 55)) .nil)
noncomputable def B9:aH:=(.cons (.asg 78 (.idx (.aS (.var 95) 92 (.cons (.var 113) (.cons (.var 58) .nil))) (.lit (.int 1)))) (.cons (.dm (.var 95) 112 (.bin .Add (.attr (.var 95) 112) (.bi .len (.cons (.var 78) .nil)))) (.cons (.ite (.cmp .Gt (.attr (.var 95) 112) (.glob 157)) .dead .nil) (.cons (.for (.one 37) (.bi .sorted (.cons (.var 78) .nil)) Ba CG) .nil))))
noncomputable def Gw:aH:=(.cons (.asg 108 (.list .nil)) (.cons (.for (.many [115,159,58]) (.var 55) B9 t6) KU))
noncomputable def Lb:aH:=(.cons (.asg 55 (.cO (.list (.cons (.tup (.cons (.tup .nil) (.cons (.lit (.int 1)) (.cons (.var 47) .nil)))) .nil)))) (.cons (.for (.many [60,113]) (.var 59) Gw [95,55]) KS))
noncomputable def Lg:aH:=(.cons (.ite (.cmp .Eq (.idx (.var 113) (.lit (.int 0))) (.lit (.str 27))) (.cons (.ret (.idx (.var 47) (.idx (.var 113) (.lit (.int 1))))) .nil) .nil) (.cons (.ite (.cmp .NotEq (.aS (.attr (.var 95) 96) 145 (.cons (.var 113) .nil)) (.tup .nil)) (.cons (.ret (.aS (.var 95) 161 (.cons (.var 113) (.cons (.var 47) .nil)))) .nil) .nil) (.cons (.ite (.cmp .NotIn (.var 113) (.attr (.var 95) 153)) (.cons (.fJ (.attr (.var 95) 153) (.var 113) (.aS (.var 95) 161 (.cons (.var 113) (.cons (.var 47) .nil)))) .nil) .nil) (.cons (.ret (.idx (.attr (.var 95) 153) (.var 113))) .nil))))
noncomputable def KG:aH:=(.cons (.asg 116 (.idx (.var 113) (.lit (.int 0)))) (.cons (.ite (.cmp .Eq (.var 116) (.lit (.str 30))) (.cons (.ret (.idx (.attr (.var 95) 154) (.idx (.var 113) (.lit (.int 1))))) .nil) .nil) (.cons (.ite (.cmp .Eq (.var 116) (.lit (.str 104))) .dead .nil) (.cons (.ite (.cmp .Eq (.var 116) (.lit (.str 117))) .dead .nil) (.cons (.ite (.cmp .Eq (.var 116) (.lit (.str 118))) .dead .nil) (.cons (.ite (.cmp .Eq (.var 116) (.lit (.str 119))) .dead .nil) (.cons (.ite (.cmp .Eq (.var 116) (.lit (.str 35))) (.cons (.ret (.aS (.var 95) 91 (.cons (.idx (.var 113) (.lit (.int 1))) (.cons (.idx (.var 113) (.lit (.int 2))) (.cons (.var 47) .nil))))) .nil) .nil) (.cons (.ite (.cmp .Eq (.var 116) (.lit (.str 120))) .dead .nil) (.cons (.ite (.cmp .In (.var 116) (.tup (.cons (.lit (.str 56)) (.cons (.lit (.str 123)) (.cons (.lit (.str 124)) .nil))))) .dead .nil) (.cons (.ret (.aS (.var 95) 125 (.cons (.var 116) (.cons (.aS (.var 95) 92 (.cons (.idx (.var 113) (.lit (.int 1))) (.cons (.var 47) .nil))) (.cons (.aS (.var 95) 92 (.cons (.idx (.var 113) (.lit (.int 2))) (.cons (.var 47) .nil))) .nil))))) .nil))))))))))
noncomputable def Ld:aH:=(.cons (.ite (.cmp .Eq (.var 116) (.lit (.str 38))) (.cons (.ret (.aS (.attr (.var 95) 148) 38 (.cons (.var 53) (.cons (.var 52) .nil)))) .nil) .nil) (.cons (.ite (.cmp .Eq (.var 116) (.lit (.str 126))) .dead .nil) (.cons (.ite (.cmp .Eq (.var 116) (.lit (.str 39))) (.cons (.ret (.aS (.attr (.var 95) 148) 39 (.cons (.var 53) (.cons (.var 52) .nil)))) .nil) .nil) (.cons (.ite (.cmp .Eq (.var 116) (.lit (.str 32))) (.cons (.ret (.aS (.attr (.var 95) 148) 32 (.cons (.var 53) (.cons (.var 52) .nil)))) .nil) .nil) (.cons (.ite (.cmp .Eq (.var 116) (.lit (.str 43))) (.cons (.ret (.aS (.attr (.var 95) 148) 43 (.cons (.var 53) (.cons (.var 52) .nil)))) .nil) .nil) (.cons (.ite (.cmp .Eq (.var 116) (.lit (.str 127))) .dead .nil) (.cons (.ret (.ite (.cmp .Eq (.var 116) (.lit (.str 128))) .dead .dead)) .nil)))))))
noncomputable def KH:aH:=(.cons (.ret (.tup (.cons (.bi .len (.cons (.var 59) .nil)) (.cons (.cO (.var 78)) .nil)))) .nil)
noncomputable def KL:aH:=(.cons (.asg 78 (.dict .nil)) (.cons (.for (.many [115,159,58]) (.aS (.var 95) 121 (.cons (.var 59) (.cons (.var 47) .nil))) Hx [95,59,61,78]) KH))
noncomputable def Lj:aH:=(.cons (.ite (.cmp .NotEq (.aS (.attr (.var 95) 96) 145 (.cons (.var 129) .nil)) (.tup .nil)) (.cons (.ret (.aS (.var 95) 162 (.cons (.var 129) (.cons (.var 47) .nil)))) .nil) .nil) (.cons (.ite (.cmp .NotIn (.var 129) (.attr (.var 95) 153)) (.cons (.fJ (.attr (.var 95) 153) (.var 129) (.aS (.var 95) 162 (.cons (.var 129) (.cons (.var 47) .nil)))) .nil) .nil) (.cons (.ret (.idx (.attr (.var 95) 153) (.var 129))) .nil)))
noncomputable def KI:aH:=(.cons (.asg 116 (.idx (.var 129) (.lit (.int 0)))) (.cons (.ite (.cmp .In (.var 116) (.tup (.cons (.lit (.str 130)) (.cons (.lit (.str 131)) .nil)))) .dead .nil) (.cons (.ite (.cmp .Eq (.var 116) (.lit (.str 44))) (.cons (.ret (.bin .Sub (.lit (.int 0)) (.aS (.var 95) 122 (.cons (.idx (.var 129) (.lit (.int 1))) (.cons (.var 47) .nil))))) .nil) .nil) (.cons (.ite (.cmp .In (.var 116) (.tup (.cons (.lit (.str 45)) (.cons (.lit (.str 132)) .nil)))) (.cons (.oE 41 (.one 67) (.idx (.var 129) (.lit (.int 1))) .nil (.emit (.aS (.var 95) 122 (.cons (.var 67) (.cons (.var 47) .nil))))) (.cons (.ret (.ite (.cmp .Eq (.var 116) (.lit (.str 45))) (.aS (.attr (.var 95) 64) 163 (.cons (.var 41) .nil)) (.aS (.attr (.var 95) 64) 164 (.cons (.var 41) .nil)))) .nil)) .nil) (.cons (.ite (.cmp .In (.var 116) (.tup (.cons (.lit (.str 133)) (.cons (.lit (.str 134)) .nil)))) .dead .nil) (.cons (.ite (.cmp .Eq (.var 116) (.lit (.str 135))) .dead .nil) (.cons (.ite (.cmp .Eq (.var 116) (.lit (.str 136))) .dead .nil) (.cons (.ite (.cmp .In (.var 116) (.tup (.cons (.lit (.str 137)) (.cons (.lit (.str 138)) (.cons (.lit (.str 139)) .nil))))) .dead .nil) (.cons (.ret (.aS (.var 95) 165 (.cons (.var 116) (.cons (.c3 (.one 67) (.lL (.var 129)) .nil (.emit (.aS (.var 95) 92 (.cons (.var 67) (.cons (.var 47) .nil))))) .nil)))) .nil)))))))))
noncomputable def L4:aH:=(.cons (.ite (.cmp .Eq (.var 116) (.lit (.str 40))) (.cons (.ret (.aS (.attr (.var 95) 148) 143 (.cons (.idx (.var 41) (.lit (.int 0))) (.cons (.idx (.var 41) (.lit (.int 1))) .nil)))) .nil) .nil) (.cons (.ite (.cmp .Eq (.var 116) (.lit (.str 42))) (.cons (.ret (.aS (.attr (.var 95) 148) 42 (.cons (.idx (.var 41) (.lit (.int 0))) (.cons (.idx (.var 41) (.lit (.int 1))) .nil)))) .nil) .nil) (.cons (.ite (.cmp .Eq (.var 116) (.lit (.str 41))) (.cons (.ret (.aS (.attr (.var 95) 148) 41 (.cons (.idx (.var 41) (.lit (.int 0))) .nil))) .nil) .nil) (.cons (.ite (.cmp .Eq (.var 116) (.lit (.str 141))) .dead .nil) (.cons (.ret (.ite (.cmp .Eq (.var 116) (.lit (.str 37))) .dead .dead)) .nil)))))
noncomputable def M4:aH:=(.cons (.dm (.var 95) 166 (.list (.cons (.lit (.str 4)) (.cons (.lit (.str 130)) .nil)))) (.cons (.dm (.var 95) 167 (.list (.cons (.tup .nil) (.cons (.tup .nil) .nil)))) (.cons (.dm (.var 95) 28 (.dict .nil)) .nil)))
noncomputable def L_:aH:=(.cons (.ret (.bin .Sub (.bi .len (.cons (.attr (.var 95) 166) .nil)) (.lit (.int 1)))) .nil)
noncomputable def M3:aH:=(.cons (.ret (.idx (.attr (.var 95) 166) (.bi .abs (.cons (.var 168) .nil)))) .nil)
noncomputable def LP:aH:=(.cons (.ret (.idx (.attr (.var 95) 167) (.bi .abs (.cons (.var 168) .nil)))) .nil)
noncomputable def Lq:aH:=(.cons (.ex (.d8 .append (.attr (.var 95) 166) (.cons (.var 65) .nil))) (.cons (.ex (.d8 .append (.attr (.var 95) 167) (.cons (.var 68) .nil))) (.cons (.ret (.bin .Sub (.bi .len (.cons (.attr (.var 95) 166) .nil)) (.lit (.int 1)))) .nil)))
noncomputable def Li:aH:=(.cons (.ret (.aS (.var 95) 169 (.cons (.lit (.str 66)) (.cons (.tup .nil) .nil)))) .nil)
noncomputable def DG:aH:=(.cons (.asg 68 (.bi .tuple (.cons (.bi .sorted (.cons (.var 55) .nil)) .nil))) (.cons (.ite (.cmp .Lt (.bi .len (.cons (.var 68) .nil)) (.lit (.int 2))) (.cons (.ret (.ite (.cmp .Eq (.bi .len (.cons (.var 68) .nil)) (.lit (.int 1))) (.idx (.var 68) (.lit (.int 0))) (.lit (.int 1)))) .nil) .nil) (.cons (.ite (.cmp .NotIn (.var 68) (.attr (.var 95) 28)) (.cons (.fJ (.attr (.var 95) 28) (.var 68) (.aS (.var 95) 169 (.cons (.lit (.str 45)) (.cons (.var 68) .nil)))) .nil) .nil) (.cons (.ret (.idx (.attr (.var 95) 28) (.var 68))) .nil))))
noncomputable def LG:aH:=(.cons (.asg 55 (.dict .nil)) (.cons (.for (.one 168) (.var 78) (.cons (.ite (.bo .Or (.cons (.cmp .Eq (.var 168) (.neg (.lit (.int 1)))) (.cons (.cmp .In (.neg (.var 168)) (.var 55)) .nil))) (.cons (.ret (.neg (.lit (.int 1)))) .nil) .nil) (.cons (.ite (.cmp .NotEq (.var 168) (.lit (.int 1))) (.cons (.fJ (.var 55) (.var 168) (.lit (.bool true))) .nil) .nil) .nil)) [95,55]) DG))
noncomputable def LF:aH:=(.cons (.ret (.neg (.aS (.var 95) 163 (.cons (.c3 (.one 168) (.var 78) .nil (.emit (.neg (.var 168)))) .nil)))) .nil)
noncomputable def DK:aH:=(.cons (.ret (.aS (.var 95) 163 (.cons (.tup (.cons (.var 53) (.cons (.var 52) .nil))) .nil))) .nil)
noncomputable def LD:aH:=(.cons (.ret (.neg (.aS (.var 95) 163 (.cons (.tup (.cons (.neg (.var 53)) (.cons (.neg (.var 52)) .nil))) .nil)))) .nil)
noncomputable def Lz:aH:=(.cons (.ret (.neg (.aS (.var 95) 163 (.cons (.tup (.cons (.var 53) (.cons (.neg (.var 52)) .nil))) .nil)))) .nil)
noncomputable def Mf:aH:=(.cons (.ret (.aS (.var 95) 163 (.cons (.tup (.cons (.aS (.var 95) 133 (.cons (.var 53) (.cons (.var 52) .nil))) (.cons (.aS (.var 95) 133 (.cons (.var 52) (.cons (.var 53) .nil))) .nil))) .nil))) .nil)
noncomputable def L7:aH:=(.cons (.dm (.var 95) 64 (.var 64)) (.cons (.dm (.var 95) 170 (.var 170)) .nil))
noncomputable def L5:aH:=(.cons (.ret (.tup (.cons (.var 99) (.cons (.Ir (.var 171) (.var 62) (.many [171,62]) (.var 172) (.cons (.cmp .NotEq (.var 62) (.neg (.lit (.int 1)))) .nil)) .nil)))) .nil)
noncomputable def KQ:aH:=(.cons (.ret (.bi .sorted (.cons (.merge (.idx (.var 53) (.lit (.int 1))) (.idx (.var 52) (.lit (.int 1)))) .nil))) .nil)
noncomputable def KO:aH:=(.cons (.ret (.c3 (.one 171) (.bi .sorted (.cons (.idx (.var 53) (.lit (.int 1))) .nil)) .nil (.emit (.idx (.idx (.var 53) (.lit (.int 1))) (.var 171))))) .nil)
noncomputable def KW:aH:=(.cons (.asg 174 (.aS (.var 95) 173 (.cons (.var 53) (.cons (.var 52) .nil)))) (.cons (.ret (.aS (.var 95) 175 (.cons (.idx (.var 53) (.lit (.int 0))) (.cons (.c3 (.one 171) (.var 174) .nil (.emit (.tup (.cons (.var 171) (.cons (.aS (.attr (.var 95) 64) 120 (.cons (.d8 .oy (.idx (.var 53) (.lit (.int 1))) (.cons (.var 171) (.cons (.neg (.lit (.int 1))) .nil))) (.cons (.d8 .oy (.idx (.var 52) (.lit (.int 1))) (.cons (.var 171) (.cons (.neg (.lit (.int 1))) .nil))) .nil))) .nil))))) .nil)))) .nil))
noncomputable def KY:aH:=(.cons (.ret (.aS (.var 95) 175 (.cons (.idx (.var 53) (.lit (.int 0))) (.cons (.c3 (.one 171) (.bi .sorted (.cons (.idx (.var 53) (.lit (.int 1))) .nil)) .nil (.emit (.tup (.cons (.var 171) (.cons (.aS (.attr (.var 95) 64) 158 (.cons (.idx (.idx (.var 53) (.lit (.int 1))) (.var 171)) (.cons (.neg (.d8 .oy (.idx (.var 52) (.lit (.int 1))) (.cons (.var 171) (.cons (.neg (.lit (.int 1))) .nil)))) .nil))) .nil))))) .nil)))) .nil)
noncomputable def KP:aH:=(.cons (.ite (.cmp .Gt (.bin .Mult (.bi .len (.cons (.idx (.var 53) (.lit (.int 1))) .nil)) (.bi .len (.cons (.idx (.var 52) (.lit (.int 1))) .nil))) (.glob 176)) .dead .nil) (.cons (.asg 158 (.xE (.attr (.var 95) 64) 158)) (.cons (.ret (.aS (.var 95) 175 (.cons (.bin .Add (.idx (.var 53) (.lit (.int 0))) (.idx (.var 52) (.lit (.int 0)))) (.cons (.c3 (.one 5) (.bi .sorted (.cons (.idx (.var 53) (.lit (.int 1))) .nil)) .nil (.gen (.one 106) (.bi .sorted (.cons (.idx (.var 52) (.lit (.int 1))) .nil)) .nil (.emit (.tup (.cons (.bin .Add (.var 5) (.var 106)) (.cons (.VJ 158 (.cons (.idx (.idx (.var 53) (.lit (.int 1))) (.var 5)) (.cons (.idx (.idx (.var 52) (.lit (.int 1))) (.var 106)) .nil))) .nil)))))) .nil)))) .nil)))
noncomputable def DF:aH:=(.cons (.ret (.aS (.var 95) 175 (.cons (.bin .Sub (.bin .Add (.idx (.var 53) (.lit (.int 0))) (.idx (.var 52) (.lit (.int 0)))) (.lit (.int 2))) (.cons (.c3 (.one 171) (.bi .sorted (.cons (.var 55) .nil)) .nil (.emit (.tup (.cons (.var 171) (.cons (.aS (.attr (.var 95) 64) 164 (.cons (.idx (.var 55) (.var 171)) .nil)) .nil))))) .nil)))) .nil)
noncomputable def DE:aH:=(.cons (.for (.one 5) (.bi .sorted (.cons (.idx (.var 53) (.lit (.int 1))) .nil)) (.cons (.for (.one 106) (.d8 .oy (.var 177) (.cons (.idx (.var 5) (.neg (.lit (.int 1)))) (.cons (.cO (.list .nil)) .nil))) (.cons (.ex (.d8 .append (.d8 .setdefault (.var 55) (.cons (.bin .Add (.oB (.var 5)) (.lL (.var 106))) (.cons (.list .nil) .nil))) (.cons (.aS (.attr (.var 95) 64) 158 (.cons (.idx (.idx (.var 53) (.lit (.int 1))) (.var 5)) (.cons (.idx (.idx (.var 52) (.lit (.int 1))) (.var 106)) .nil))) .nil))) .nil) [95,53,52,5,55,177]) .nil) [95,53,52,55,177]) DF)
noncomputable def L6:aH:=(.cons (.g6 [55,177] (.tup (.cons (.dict .nil) (.cons (.dict .nil) .nil)))) (.cons (.for (.one 106) (.bi .sorted (.cons (.idx (.var 52) (.lit (.int 1))) .nil)) (.cons (.ex (.d8 .append (.d8 .setdefault (.var 177) (.cons (.idx (.var 106) (.lit (.int 0))) (.cons (.list .nil) .nil))) (.cons (.var 106) .nil))) .nil) [95,53,52,55,177]) DE))
noncomputable def Lx:aH:=(.cons (.ret (.aS (.attr (.var 95) 64) 163 (.cons (.c3 (.one 171) (.bi .sorted (.cons (.idx (.var 53) (.lit (.int 1))) .nil)) .nil (.emit (.aS (.attr (.var 95) 64) 133 (.cons (.idx (.idx (.var 53) (.lit (.int 1))) (.var 171)) (.cons (.d8 .oy (.idx (.var 52) (.lit (.int 1))) (.cons (.var 171) (.cons (.neg (.lit (.int 1))) .nil))) .nil))))) .nil))) .nil)
noncomputable def LO:aH:=(.cons (.asg 174 (.aS (.var 95) 173 (.cons (.var 53) (.cons (.var 52) .nil)))) (.cons (.ret (.aS (.attr (.var 95) 64) 163 (.cons (.c3 (.one 171) (.var 174) .nil (.emit (.aS (.attr (.var 95) 64) 134 (.cons (.d8 .oy (.idx (.var 53) (.lit (.int 1))) (.cons (.var 171) (.cons (.neg (.lit (.int 1))) .nil))) (.cons (.d8 .oy (.idx (.var 52) (.lit (.int 1))) (.cons (.var 171) (.cons (.neg (.lit (.int 1))) .nil))) .nil))))) .nil))) .nil))
noncomputable def LN:aH:=(.cons (.ret (.aS (.attr (.var 95) 64) 164 (.cons (.aS (.var 95) 178 (.cons (.var 53) .nil)) .nil))) .nil)
noncomputable def Mi:aH:=(.cons (.dm (.var 95) 64 (.var 64)) .nil)
noncomputable def yD:List (Nat×Fn):= [
 (21,⟨925, [14,18],NO,false⟩),
 (81,⟨932, [14,26,23],NM,false⟩),
 (31,⟨939, [14,28],NL,false⟩),
 (33,⟨946, [14,28,29],NK,false⟩),
 (36,⟨953, [14,28,29],Me,false⟩),
 (50,⟨958, [46,23,47],Mb,false⟩),
 (54,⟨963, [46,23,47],N3,false⟩),
 (48,⟨968, [23,57],OX,false⟩),
 (49,⟨975, [59,61,25,23,47],NN,false⟩),
 (73,⟨980, [64,63],MG,false⟩),
 (87,⟨987, [14],N4,false⟩),
 (94,⟨992, [64,70,63,59,61,75,18],La,false⟩),
 (79,⟨636, [104],Fy,false⟩),
 (38,⟨653, [5,106],T8,false⟩),
 (39,⟨663, [5,106],T9,false⟩),
 (103,⟨670, [5,106],N5,false⟩),
 (43,⟨675, [5,106],OW,false⟩),
 (32,⟨680, [5,106],UN,false⟩),
 (147,⟨375, [46],NJ,false⟩),
 (105,⟨636, [104],Fy,false⟩)]
noncomputable def y0:List (Nat×qQ):= [
 (83,⟨837,⟨799, [95,96],LM,true⟩⟩),
 (82,⟨914,⟨855, [95,98],Mh,true⟩⟩),
 (76,⟨781,⟨728, [95,18,111],LC,true⟩⟩),
 (152,⟨404,⟨389, [95],LB,true⟩⟩),
 (89,⟨517,⟨420, [95,64,84],Lv,true⟩⟩),
 (88,⟨627,⟨535, [95],M4,true⟩⟩),
 (149,⟨365,⟨202, [95,64,170],L7,true⟩⟩),
 (151,⟨184,⟨102, [95,64],Mi,true⟩⟩)]
noncomputable def n8:List (Addr×Nat):= [(837,0),(914,1),(781,2),(404,3),(517,4),(627,5),(365,6),(184,7)]
noncomputable def xo (i:Nat):List (Nat×Fn):=List.getD [
 [(69,⟨806, [95],LL,false⟩)],
 [(85,⟨862, [95,60,99,101,102],MJ,false⟩),(100,⟨869, [95,60,99,41],LA,false⟩),(144,⟨883, [95,6],M5,false⟩),(69,⟨890, [95],Mg,false⟩)],
 [(121,⟨735, [95,59,47],Lo,false⟩),(79,⟨740, [95,113,47],Ln,false⟩),(125,⟨754, [95,116,5,106],Lp,false⟩),(122,⟨764, [95,129,47],Ly,false⟩),(140,⟨778, [95,116,18],L8,false⟩)],
 [(145,⟨396, [95,46],LZ,false⟩),(143,⟨401, [95,46],Lk,false⟩)],
 [(155,⟨425, [95,6,144],KV,false⟩),(93,⟨432, [95],Lh,false⟩),(121,⟨439, [95,59,47],Lb,false⟩),(92,⟨446, [95,113,47],Lg,false⟩),(161,⟨453, [95,113,47],KG,false⟩),(125,⟨467, [95,116,53,52],Ld,false⟩),(91,⟨474, [95,59,61,47],KL,false⟩),(122,⟨495, [95,129,47],Lj,false⟩),(162,⟨500, [95,129,47],KI,false⟩),(165,⟨514, [95,116,41],L4,false⟩)],
 [(69,⟨542, [95],L_,false⟩),(65,⟨549, [95,168],M3,false⟩),(68,⟨556, [95,168],LP,false⟩),(169,⟨563, [95,65,68],Lq,false⟩),(156,⟨570, [95],Li,false⟩),(163,⟨577, [95,78],LG,false⟩),(164,⟨582, [95,78],LF,false⟩),(158,⟨589, [95,53,52],DK,false⟩),(120,⟨596, [95,53,52],LD,false⟩),(133,⟨603, [95,53,52],Lz,false⟩),(134,⟨610, [95,53,52],Mf,false⟩)],
 [(175,⟨207, [95,99,172],L5,false⟩),(173,⟨229, [95,53,52],KQ,false⟩),(178,⟨234, [95,53],KO,false⟩),(38,⟨239, [95,53,52],KW,false⟩),(39,⟨249, [95,53,52],KY,false⟩),(43,⟨254, [95,53,52],KP,false⟩),(32,⟨259, [95,53,52],L6,false⟩),(143,⟨329, [95,53,52],Lx,false⟩),(42,⟨334, [95,53,52],LO,false⟩),(41,⟨341, [95,53],LN,false⟩)],
 []] i []
noncomputable def Cd (i:Nat):List Nat:=List.getD [[96,97], [98,84,97], [18,111,112], [28], [64,148,150,96,153,70,112,154], [166,167,28], [64,170], [64]] i []
noncomputable def oW:List (Nat×V):= [(146, .tup [.str 135, .str 136, .str 35, .str 179]),(107, .int 2000000),(176, .int 2000000),(157, .int 1000000),(114, .int 1000000)]
noncomputable def By:Fn:=⟨589, [95,53,52],DK,false⟩
noncomputable def tb:tD where
 fn:=λf=>yD.lookup f
 cls:=λf=>y0.lookup f
 aZ:=λC m=>(n8.lookup C).bind λi=>(xo i).lookup m
 at_:=λa=>if a=589 then some By else none
 gl:=λx=>oW.lookup x
 i0:=λC m=>((n8.lookup C).map λi=>(Cd i).contains m).getD false
@[irreducible] noncomputable def K9 (n:Nat):Nat->List V->St->(V->St->Prop)->Prop:=(xC tb n).fn
@[irreducible] noncomputable def H_ (n:Nat):Addr->Nat->List V->St->(V->St->Prop)->Prop:=(xC tb n).aZ
@[irreducible] noncomputable def Hu (n:Nat):Addr->List V->St->(V->St->Prop)->Prop:=(xC tb n).bound
noncomputable def KN (n:Nat):CH:=⟨K9 n,H_ n,Hu n,λC n=>(tb.aZ C n).map (·.addr),tb.gl,tb.i0⟩
theorem cH {a b n:Nat} (h:a+b<=n):∃k,n=k+b:=Nat.exists_eq_add_of_le' (ay (cn ..) h)
theorem uJ:KN n=jO tb n:=by unfold KN K9 H_ Hu;rfl
abbrev execs (K:CH) (b:aH) (ρ:Env) (σ:St) (Q:Option V->Env->St->Prop):Prop:=b.run K ρ σ Q
abbrev ev (K:CH) (e:ME) (ρ:Env) (σ:St) (Q:V->St->Prop):Prop:=e.run K ρ σ Q
@[irreducible] noncomputable def rt (Q:V->St->Prop) (σ:St):Option V->Env->St->Prop:=λr zz a8=>Q (r.getD .none) (back a8 σ)
@[irreducible] noncomputable def rc (Q:V->St->Prop) (a:Addr):Option V->Env->St->Prop:=λr zz a8=>r.getD .none= .none/\Q (.ref a) a8
section
variable{K:CH} {st:MS} {r b:aH} {ρ:Env} {σ a8:St} {Q:Option V->Env->St->Prop} {R:V->St->Prop} {f m n:Nat} {a x C:Addr} {ps:List Nat} {as:List V} {v:V}
theorem go (h:st.run K ρ σ (sq r.run K Q)):(aH.cons st r).run K ρ σ Q:=h
theorem og (e:σ=τ) (h:st.run K ρ τ (sq r.run K Q)):(aH.cons st r).run K ρ σ Q:=e▸h
theorem sk (h:r.run K ρ σ Q):aH.nil.run K ρ σ (sq r.run K Q):=h
theorem f1 (h:b.run K ((y,v)::ρ) σ (jz keep k Q)):hV (.one y) b keep K Q v σ ρ k:=h
theorem Xq {Q:Bool->St->Prop} (q:Q false σ):cond (Cy .Or false) (dw.nil.run .Or K ρ σ Q) (Q false σ):=q
theorem AI (h:o=some fd) (q:se K fd as σ R):sU K o as σ R z:=h▸q
theorem dk (h:tb.fn f=some ⟨a,ps,b,false⟩) (hl:ps.length=as.length) (q:b.run (KN n) (ps.zip as) σ (rt R σ)):(KN (n+1)).fn f as σ R:=by
 rw [uJ] at q⊢;unfold rt at q;exact AI h ⟨hl,q⟩
theorem bf (h:tb.aZ C m=some ⟨a,ps,b,false⟩) (hl:ps.length=as.length) (q:b.run (KN n) (ps.zip as) σ (rt R σ)):(KN (n+1)).aZ C m as σ R:=by
 rw [uJ] at q⊢;unfold rt at q;exact AI h ⟨hl,q⟩
theorem QF (h:tb.at_ f=some ⟨a,ps,b,false⟩) (hl:ps.length=as.length) (q:b.run (KN n) (ps.zip as) σ (rt R σ)):(KN (n+1)).bound f as σ R:=by
 rw [uJ] at q⊢;unfold rt at q;exact AI h ⟨hl,q⟩
theorem nZ (h0:tb.fn f=none) (h:tb.cls f=some ⟨C,⟨x,ps,b,true⟩⟩) (hl:ps.length=as.length+1)
  (q:∀a dx,a≠dx->σ a=none->σ dx=none->b.run (KN n) (ps.zip (.ref a::as)) (upd (upd σ dx (.cx a)) a (.inst C dx [])) (rc R a)):(KN (n+1)).fn f as σ R:=by
 rw [uJ] at q⊢;unfold rc at q;show sU (jO tb n) (tb.fn f) as σ R (CB (jO tb n) (tb.cls f) as σ R);exact a6 h0 (a6 h (λa dx h1 h2 h3=>⟨hl,q a dx h1 h2 h3⟩))
theorem xl (q:R v (back a8 σ)):rt R σ (some v) ρ a8:=by unfold rt;exact q
theorem b4 (e:back a8 σ=τ) (q:R v τ):rt R σ (some v) ρ a8:=xl (e▸q)
theorem Ri (q:R .none (back a8 σ)):rt R σ none ρ a8:=by unfold rt;exact q
theorem o7 (q:R (.ref a) σ):rc R a none ρ σ:=by unfold rc;exact⟨rfl,q⟩
end
theorem ao (h:Nat.ble (a+1) b=true):a<b:=Nat.le_of_ble_eq_true h
theorem ah (h:Nat.ble a b=true):a<=b:=Nat.le_of_ble_eq_true h
section
variable{σ a8:St} {a b p:Addr} {mo m1 m2:MO}
theorem uN (h:b≠a):upd σ a mo b=σ b:=aB h
theorem uS (σ:St) (a:Addr) (mo:MO):upd σ a mo a=some mo:=aF rfl
theorem SV (σ:St) (a b:Addr):del σ a b=if b=a then none else σ b:=rfl
theorem mA (h:σ a=none):del (upd σ a mo) a=σ:=eR λb=>by
 by_cases e:b=a
 ·exact(aF e).trans (e▸h.symm)
 ·exact(aB e).trans (aB e)
theorem eo (σ:St) (a:Addr) (m1 m2:MO):upd (upd σ a m1) a m2=upd σ a m2:=eR λb=>by
 by_cases e:b=a
 ·exact(aF e).trans (aF e).symm
 ·exact(aB e).trans ((aB e).trans (aB e).symm)
theorem eF (h:a≠b):upd (upd σ a m1) b m2=upd (upd σ b m2) a m1:=eR λc=>by
 by_cases e:c=b
 ·exact(aF e).trans ((aB λq=>h (q.symm.trans e)).trans (aF e)).symm
 ·exact(aB e).trans (ite_congr rfl (λzz=>rfl) λzz=>(aB e).symm)
theorem k7 (h:σ a=some mo):upd σ a mo=σ:=eR λb=>by
 by_cases e:b=a
 ·exact(aF e).trans (e▸h.symm)
 ·exact aB e
theorem kb (a8 σ:St) (b:Addr):back a8 σ b=(σ b).casesOn (Ga (a8 b)) λzz=>a8 b:=by
 unfold back;cases σ b<;>rfl
theorem pD (σ:St):back σ σ=σ:=eR λb=>by
 rw [kb];cases h:σ b<;>rfl
theorem k9 (h:σ a≠none):back (upd a8 a mo) σ=upd (back a8 σ) a mo:=eR λb=>by
 rw [kb];by_cases e:b=a
 ·subst e
  rw [uS,uS];cases h':σ b with
  |none=>exact absurd h' h
  |some _=>rfl
 ·refine a6 (uN e) (a6 (uN e) ?_);rw [kb]
theorem Fx (h:σ p=none) (h':a8 p=none) (nh:∀a,mo≠ .cx a):back (upd a8 p mo) σ=back a8 σ:=eR λb=>by
 rw [kb,kb];by_cases e:b=p
 ·subst e
  refine a6 h ?_;rewrite [uS];refine a6 h' ?_;induction mo with
  |cx a=>exact absurd rfl (nh a)
  |_=>rfl
 ·exact a6 (uN e) rfl
theorem OU (h:σ p=none) (h':a8 p=none):back (upd a8 p (.dict ks vs)) σ=back a8 σ:=Fx h h' (λ_ h=>a_ h rfl)
theorem EH (h:σ p=none) (h':a8 p=none):back (upd a8 p (.list xs)) σ=back a8 σ:=Fx h h' (λ_ h=>a_ h rfl)
theorem c4 (q:Q v σ):rt Q σ (some v) ρ σ:=b4 (pD σ) q
end
section
variable{α β:Type} {l:List α} {i:Nat} {x:α} {step:Step β} {xs:List V} {Q:β->St->Prop} {c:V} {σ:St} {b:β}
theorem OG (h:l[i]? =some x):l.drop i=x::l.drop (i+1):=by
 obtain⟨hl,rfl⟩:=qS.mp h;exact List.drop_eq_getElem_cons hl
theorem Se {f:α->V} {x:V} (h:(l.map f)[i]? =some x):∃a,l[i]? =some a/\f a=x:=l_.mp ((fc ..).symm.trans h)
theorem IC (h:l[i]? =some x):i<l.length:=(qS.mp h).1
theorem Am (I:Nat->A->St->Prop) (f:A->V->A) (hx:∀{j a σ},I j a σ->Sq σ 2 c xs) (hs:∀{j a σ x k},x∈xs->j<xs.length->I j a σ->(∀{a8},I (j+1) (f a x) a8->k b a8)->step x σ b k) (h0:I 0 a σ)
  (q:∀{a8},I xs.length (xs.foldl f a) a8->Q b a8):g_ step c σ b Q:=by
 have key:∀{ys j a' σ},(∀{x},x∈ys->x∈xs)->j+ys.length=xs.length->ys.foldl f a'=xs.foldl f a->I j a' σ->dP (eT step c xs) ys σ b (eX c xs Q):=λ{ys}=>by
  induction ys with
  |nil=>exact λzz e e' i=>⟨hx i,q (a6 (aT e') (a6 (aT e) i))⟩
  |cons y ys ih=>exact λm e e' i=>⟨hx i,hs (m aM) (e▸nA (m8 _)) i λi'=>ih (λh=>m (aQ _ h)) ((k5 ..).trans e) e' i'⟩
 exact⟨hx h0,key id (di _) rfl h0⟩
theorem jf {step:Step (List V)} {Q:List V->St->Prop} (hx:Sq σ 2 c xs) (p:V->Bool) (f:V->V) (hl:xs.length<lim) (hs:∀x∈xs,∀b k,b.length<lim->k (if p x=true then b++ [f x] else b) σ->step x σ b k) (q:Q ((xs.filter p).map f) σ):g_ step c σ [] Q:=by
 have key:∀(ys b:List V),(∀x∈ys,x∈xs)->b.length+ys.length<=xs.length->Q (b++(ys.filter p).map f) σ->dP (eT step c xs) ys σ b (eX c xs Q):=λys=>by
  induction ys with
  |nil=>exact λb zz zz q=>⟨hx,by rw [List.filter_nil,List.map_nil,d6] at q;exact q⟩
  |cons x ys ih=>
   intro b hm hb q;have CU:b.length+1+ys.length<=xs.length:=(k5 b.length ys.length).symm▸hb;refine⟨hx,hs x (hm x aM) b _ (gg (gg (tO _) (aY _ _)) (ay CU (jd hl))) (ih _ (λy hy=>hm y (aQ _ hy)) ?_ ?_)⟩
   ·split
    ·exact a6 aP (a6 m4 CU)
    ·exact ay (bG (gU _) _) CU
   ·cases h:p x with
    |true=>rw [List.filter_cons_of_pos h] at q;refine a6 (aF rfl) ?_;rw [bP];exact q
    |false=>rw [List.filter_cons_of_neg (by refine a6 h ?_;decide)] at q;exact a6 (aB (by decide)) q
 exact⟨hx,key xs [] (λzz h=>h) (gh (di _)) q⟩
theorem lb {step:Step (List V)} {Q:List V->St->Prop} (hx:Sq σ 2 c xs) (f:V->V) (hl:xs.length<lim) (hs:∀x∈xs,∀b k,b.length<lim->k (b++ [f x]) σ->step x σ b k) (q:Q (xs.map f) σ):g_ step c σ [] Q:=
 jf hx (λzz=>true) f hl (λx m b k h q=>hs x m b k h q) (by rwa [List.filter_eq_self.mpr λzz zz=>rfl])
end
inductive bX (σ:St) (a C:Addr) (as:List (Nat×V)):Prop
 |mk {dx:Addr} (h:σ a=some (.inst C dx as))
structure j7 (v w:V):Prop where
 c:bI true 12 v w
 n:∀ks vs,v≠ .aN ks vs
section
variable{σ τ:St} {Q:V->St->Prop} {R:Bool->St->Prop} {S:St->Prop} {a dx C:Addr} {v w u:V} {xs ks vs:List V} {m n:Nat} {as:List (Nat×V)} {i j:Int}
theorem bX.to (h:bX σ a C as) (e:τ a=σ a):bX τ a C as:=h.casesOn λh=> .mk (e.trans h)
theorem bX.ne (h:bX σ a C as) (e:σ b=some mo) (n:∀dx,mo≠ .inst C dx as):a≠b:=λq=>h.casesOn λh=>n _ (cL (e.symm.trans (q▸h)))
theorem eB:j7 (.int i) (.int j):=⟨.int,(λ_ _ h=>i5 h rfl)⟩
theorem fP:j7 (.str m) (.str n):=⟨.str,(λ_ _ h=>i5 h rfl)⟩
theorem bu (ho:bX σ a C as) (h1:tb.i0 C m=true) (h2:as.lookup m=some u) (q:Q u σ):Bh (KN n).i0 σ Q m (.ref a):=ho.casesOn λho=> .mk ho h1 h2 q
theorem aV {f:Addr} {R:Addr->Prop} (ho:bX σ a C as) (h1:as.lookup m=none) (h2:(KN n).find C m=some f) (q:R C):Bg (KN n).find σ m R (.ref a):=ho.casesOn λho=> .mk ho h1 h2 q
theorem UE (ho:bX σ a C as) (h1:as.lookup m=none) (h2:(KN n).find C m=some f) (q:Q (.bm f a) σ):AB (KN n).find σ Q m (.ref a):=ho.casesOn λho=> .mk ho h1 h2 q
theorem wo (ho:σ a=some (.inst C dx as)) (h1:tb.i0 C m=true) (h3:Nat.ble (as.length+1) 100=true) (q:S (upd σ a (.inst C dx (jQ m v as)))):uw (KN n).i0 σ S m v (.ref a):= .mk ho h1 (ao h3) q
theorem wm (h:σ a=some (.dict ks vs)) (hk:aR 8 w=true) (hl:ks.length<lim) (q:S (upd σ a (.dict (bW w ks) (cz w v ks vs)))):xf σ S v (.ref a) w:= .mk h hk hl q
theorem ki (h:σ a=some (.dict ks vs)) (hk:aR 8 w=true) (hl:ks.length<lim) (e:MO.dict (bW w ks) (cz w v ks vs)=mo) (q:S (upd σ a mo)):xf σ S v (.ref a) w:=wm h hk hl (e▸q)
theorem eS (h:σ a=none) (q:Q (.aa xs) σ):sj (upd σ a (.list xs)) Q (.ref a):= .list (uS _ _ _) ((mA h).symm▸q)
theorem pU (h:σ a=none) (q:Q (.aN ks vs) σ):sj (upd σ a (.dict ks vs)) Q (.ref a):= .dict (uS _ _ _) ((mA h).symm▸q)
theorem append_in (h:σ a=some (.list xs)) (hl:xs.length<lim) (q:Q .none (upd σ a (.list (xs++ [w])))):IsL σ (.ref a)/\BE σ Q (.ref a) [w]:=⟨⟨.ref h⟩, .mk h hl q⟩
theorem mL (h:j7 v w) (q:R (decide (v=w)) σ):cU σ R .Eq v w:= .eq h.c h.n q
theorem xn (h:j7 v w) (q:R (!decide (v=w)) σ):cU σ R .NotEq v w:= .ne h.c h.n q
theorem uI {p:Prop} [Decidable p] {R:Bool->Prop} (h:p) (q:R true):R (decide p):=bQ h▸q
theorem xA {p:Prop} [Decidable p] {R:Bool->Prop} (h:¬p) (q:R false):R (decide p):=dD h▸q
theorem H4 {p:Prop} [Decidable p] {R:Bool->Prop} (h:¬p) (q:R true):R (!decide p):=dD h▸q
theorem H5 {p:Prop} [Decidable p] {R:Bool->Prop} (h:p) (q:R false):R (!decide p):=bQ h▸q
theorem hW (h:j7 v w) (e:v=w) (q:R true σ):cU σ R .Eq v w:=mL h (uI (R:=λb=>R b σ) e q)
theorem gM (h:j7 v w) (e:v≠w) (q:R false σ):cU σ R .Eq v w:=mL h (xA (R:=λb=>R b σ) e q)
theorem sy (h:j7 v w) (e:v≠w) (q:R true σ):cU σ R .NotEq v w:=xn h (H4 (R:=λb=>R b σ) e q)
theorem iE (h:j7 v w) (e:v=w) (q:R false σ):cU σ R .NotEq v w:=xn h (H5 (R:=λb=>R b σ) e q)
theorem SX:decide (V.int i=V.int j)=decide (i=j):=fA.mpr ⟨V.int.inj,aE _⟩
theorem SW:decide (V.str m=V.str n)=decide (m=n):=fA.mpr ⟨V.str.inj,aE _⟩
theorem kr (h:i≠j):V.int i≠V.int j:=λe=>h (V.int.inj e)
theorem gW (h:m≠n):V.str m≠V.str n:=λe=>h (V.str.inj e)
theorem eq_int (q:R (decide (i=j)) σ):cU σ R .Eq (.int i) (.int j):=mL eB (SX▸q)
theorem eq_str (q:R (decide (m=n)) σ):cU σ R .Eq (.str m) (.str n):=mL fP (SW▸q)
theorem He (D:Dc σ w ks vs) (hk:aR 8 v=true) (m:v∈ks) (q:R true σ):cU σ R .In v w:= .inD D hk (uI (R:=λb=>R b σ) m q)
theorem wY (D:Dc σ w ks vs) (hk:aR 8 v=true) (m:v∉ks) (q:R false σ):cU σ R .In v w:= .inD D hk (xA (R:=λb=>R b σ) m q)
theorem wA (D:Dc σ w ks vs) (hk:aR 8 v=true) (m:v∉ks) (q:R true σ):cU σ R .NotIn v w:= .BS D hk (H4 (R:=λb=>R b σ) m q)
theorem wB (D:Dc σ w ks vs) (hk:aR 8 v=true) (m:v∈ks) (q:R false σ):cU σ R .NotIn v w:= .BS D hk (H5 (R:=λb=>R b σ) m q)
theorem BU (h:i<j) (q:R true σ):cU σ R .Lt (.int i) (.int j):= .lt (uI (R:=λb=>R b σ) h q)
theorem BV (h:¬i<j) (q:R false σ):cU σ R .Lt (.int i) (.int j):= .lt (xA (R:=λb=>R b σ) h q)
theorem C5 (h:j<i) (q:R true σ):cU σ R .Gt (.int i) (.int j):= .gt (uI (R:=λb=>R b σ) h q)
theorem qj (h:¬j<i) (q:R false σ):cU σ R .Gt (.int i) (.int j):= .gt (xA (R:=λb=>R b σ) h q)
end
structure aJ where
 kinds:List V
 parts:List V
 kk:List V
 kg:List Int
noncomputable def iF (σ:St) (k p d:Addr) (C:aJ):St:=upd (upd (upd σ k (.list C.kinds)) p (.list C.parts)) d (.dict C.kk (C.kg.map .int))
structure CPut (put:aJ->St) (c k p d:Addr):Prop where
 ob:∀{C},bX (put C) c 627 [(166, .ref k),(167, .ref p),(28, .ref d)]
 hk:∀{C},put C k=some (.list C.kinds)
 hp:∀{C},put C p=some (.list C.parts)
 hd:∀{C},put C d=some (.dict C.kk (C.kg.map .int))
 u:∀{C C'},iF (put C) k p d C'=put C'
 kp:k≠p
noncomputable def et (C:aJ) (kd ps:V):aJ:={C with kinds:=C.kinds++ [kd],parts:=C.parts++ [ps]}
section
variable{put:aJ->St} {c k p d t:Addr} {C C':aJ} {Q:V->St->Prop} {n:Nat} {g:Int} {u kn ps:V}
theorem dC {σ:St} {a b:Addr} {m m':MO} (h:σ a=some m) (h':σ b=some m') (n:m≠m'):a≠b:=λe=>n (cL (h.symm.trans ((aE σ e).trans h')))
theorem b8 {σ:St} {a b:Addr} {m:MO} (h:σ a=some m) (h':σ b=none):a≠b:=λe=>cy (h.symm.trans ((aE σ e).trans h'))
theorem CPut.kd (h:CPut put c k p d):k≠d:=dC (h.hk (C:=⟨[], [], [], []⟩)) h.hd (λh=>a_ h rfl)
theorem CPut.pd (h:CPut put c k p d):p≠d:=dC (h.hp (C:=⟨[], [], [], []⟩)) h.hd (λh=>a_ h rfl)
theorem OV (hk:σ k≠none) (hp:σ p≠none) (hd:σ d≠none):back (iF σ k p d C') σ=iF σ k p d C':=by
 unfold iF;refine a6 (k9 hd) (a6 (k9 hp) (a6 (k9 hk) ?_));rw [pD]
theorem CPut.b (h:CPut put c k p d):back (put C') (put C)=put C':=by
 exact a6 (aT (h.u (C:=C) (C':=C'))) (OV (a6 h.hk cy) (a6 h.hp cy) (a6 h.hd cy))
theorem CPut.new (h:CPut put c k p d) (ht:put C t=none):put C' t=none:=by
 exact a6 (aT (h.u (C:=C))) ((uN (aL (b8 (h.hd (C:=C)) ht))).trans ((uN (aL (b8 (h.hp (C:=C)) ht))).trans ((uN (aL (b8 (h.hk (C:=C)) ht))).trans ht)))
theorem CPut.over (h:CPut put c k p d) (ht:put C t=none) (mo:MO):CPut (λC=>upd (put C) t mo) c k p d:=by
 have nk:=b8 (h.hk (C:=C)) ht;have np:=b8 (h.hp (C:=C)) ht;have nd:=b8 (h.hd (C:=C)) ht;refine ⟨λ{A}=>(h.ob (C:=A)).casesOn λe=> .mk ((uN (b8 e (h.new ht))).trans e),(uN nk).trans h.hk,(uN np).trans h.hp,(uN nd).trans h.hd,λ{A B}=>a6 (aT (h.u (C:=A) (C':=B))) ?_,h.kp⟩;unfold iF;exact a6 (eF (aL nk)) (a6 (eF (aL np)) (a6 (eF (aL nd)) rfl))
theorem CPut.tab (h:CPut put c k p d):upd (put C) d (.dict kk (kg.map .int))=put ⟨C.kinds,C.parts,kk,kg⟩:=by
 refine Eq.trans ?_ (h.u (C:=C));show _=upd (upd (upd (put C) k (.list C.kinds)) p (.list C.parts)) d _;exact a6 (k7 h.hk) (a6 (k7 h.hp) rfl)
theorem CPut.bn (h:CPut put c k p d) (ht:put C t=none):back (upd (put C') t (.dict ks vs)) (put C)=put C':=(OU ht (h.new ht)).trans h.b
theorem zx (h:CPut put c k p d) (hl:C.kinds.length<lim) (q:Q (.int (C.kinds.length -1)) (put C)):(KN (n+1)).aZ 627 69 [.ref c] (put C) Q:=
 bf rfl rfl (go (bu h.ob rfl rfl (.seq (.ref h.hk) hl (.sub (c4 q)))))
theorem Q1 (h:CPut put c k p d) (hl:C.kinds.length<lim) (hg:C.kinds[g.natAbs]? =some u) (q:Q u (put C)):(KN (n+1)).aZ 627 65 [.ref c, .int g] (put C) Q:=
 bf rfl rfl (go (bu h.ob rfl rfl (.mk (.seq (.ref h.hk) hl hg (c4 q)))))
theorem O8 (h:CPut put c k p d) (hl:C.parts.length<lim) (hg:C.parts[g.natAbs]? =some u) (q:Q u (put C)):(KN (n+1)).aZ 627 68 [.ref c, .int g] (put C) Q:=
 bf rfl rfl (go (bu h.ob rfl rfl (.mk (.seq (.ref h.hp) hl hg (c4 q)))))
theorem Q0 (kn ps:V):(((et C kn ps).kinds.length:Nat):Int) -1=C.kinds.length:=by
 rewrite [et];exact a6 aP (Int.add_sub_cancel (C.kinds.length:Int) 1)
theorem DN (h:CPut put c k p d) (hl:C.kinds.length+1<lim) (oR:C.parts.length<lim) (q:Q (.int C.kinds.length) (put (et C kn ps))):(KN (n+1)).aZ 627 169 [.ref c,kn,ps] (put C) Q:=by
 have e2:upd (upd (put C) k (.list (C.kinds++ [kn]))) p (.list (C.parts++ [ps]))=put (et C kn ps):=(k7 ((uN (aL h.pd)).trans ((uN (aL h.kd)).trans h.hd))).symm.trans (h.u (C:=C) (C':=et C kn ps));exact bf rfl rfl (go (bu h.ob rfl rfl (append_in h.hk (iP hl) (go (bu (h.ob.to (uN (h.ob.ne (h.hk (C:=C)) (λ_ h=>a_ h rfl)))) rfl rfl (append_in ((uN (aL h.kp)).trans h.hp) oR (og e2 (bu h.ob rfl rfl (.seq (.ref h.hk) (by rewrite [et];exact a6 aP hl) (.sub (b4 h.b ((Q0 kn ps).symm▸q))))))))))))
theorem M8 (h:CPut put c k p d) (hl:C.kinds.length+1<lim) (oR:C.parts.length<lim) (q:Q (.int C.kinds.length) (put (et C (.str 66) (.tup [])))):(KN (n+2)).aZ 627 156 [.ref c] (put C) Q:=
 bf rfl rfl (go (aV h.ob rfl rfl (DN h hl oR (b4 h.b q))))
end
noncomputable def gate:List V->List Int->V->Int
 |x::xs,g::gs,k=>if x=k then g else gate xs gs k
 |_,_,_=> -1
noncomputable abbrev fM (g:Int) (f:List Int):List Int:=if g=1\/g∈f then f else f++ [g]
noncomputable def ji:List Int->List Int->Option (List Int)
 | [],f=>some f
 |g::r,f=>if g= -1\/-g∈f then none else ji r (fM g f)
noncomputable def fF (f:List Int):V:= .tup (bg (f.map .int))
noncomputable def hY (C:aJ) (f:List Int):aJ:=⟨C.kinds++ [.str 45],C.parts++ [fF f],C.kk++ [fF f],C.kg++ [(C.kinds.length:Int)]⟩
noncomputable def mK (C:aJ) (f:List Int):Int×aJ:=if f.length<2 then(f.headD 1,C) else if fF f∈C.kk then(gate C.kk C.kg (fF f),C) else(C.kinds.length,hY C f)
noncomputable def bA (C:aJ) (gs:List Int):Int×aJ:=(ji gs []).elim (-1,C) (mK C)
section
variable{ks:List V} {gs f:List Int} {x:V} {g:Int} {σ:St}
theorem m9 (hl:ks.length=gs.length) (h:x∈ks):b_ x ks (gs.map .int)=some (.int (gate ks gs x)):=by
 induction ks generalizing gs with
 |nil=>exact absurd h bx
 |cons y ks ih=>induction gs with
  |nil=>exact eh hl
  |cons g gs=>
   by_cases e:y=x
   ·exact(aF e).trans (aE (λi=>some (V.int i)) (aF e).symm)
   ·exact(aB e).trans ((ih (d7 hl) ((bz.mp h).resolve_left λq=>e q.symm)).trans (aE (λi=>some (V.int i)) (aB e).symm))
theorem rp (h:x∉ks):gate ks gs x= -1:=by
 induction ks generalizing gs with
 |nil=>rfl
 |cons y ks ih=>induction gs with
  |nil=>rfl
  |cons g gs=>exact(aB (c:=y=x) λe=>h (e▸aM)).trans (ih λm=>h (aQ _ m))
theorem Ny (hl:ks.length=gs.length):(b_ x ks (gs.map .int)).getD (.int (-1))= .int (gate ks gs x):=by
 by_cases h:x∈ks
 ·refine a6 (m9 hl h) ?_;rfl
 ·refine a6 (r9 h) (a6 (rp h) ?_);rfl
theorem Qb (hl:ks.length=gs.length) (h:x∈ks):gate (ks++ls) (gs++hs) x=gate ks gs x:=by
 induction ks generalizing gs with
 |nil=>exact absurd h bx
 |cons y ks ih=>induction gs with
  |nil=>exact eh hl
  |cons g gs=>exact ite_congr rfl (λzz=>rfl) λe=>ih (d7 hl) ((bz.mp h).resolve_left λq=>e q.symm)
theorem zP (hl:ks.length=gs.length) (h:x∉ks):gate (ks++ [x]) (gs++ [g]) x=g:=by
 induction ks generalizing gs with
 |nil=>cases f9 hl.symm;exact aF rfl
 |cons y ks ih=>induction gs with
  |nil=>exact eh hl
  |cons g gs=>exact(aB (c:=y=x) λe=>h (e▸aM)).trans (ih (d7 hl) λm=>h (aQ _ m))
theorem wC:V.int g∈f.map V.int↔g∈f:=bB.trans ⟨λq=>q.elim λi q=>V.int.inj q.2▸q.1,λh=>⟨g,h,rfl⟩⟩
theorem Ol (h:∀{y},y∈xs->y∈f.map V.int):uV xs:= .int λm=>by
 obtain⟨i,_,rfl⟩:=bB.mp (h m);exact .mk
theorem Q2 (h:∀{y},y∈xs->y∈f.map V.int):lq n xs=true:=by
 induction xs with
 |nil=>rfl
 |cons x xs ih=>
  obtain⟨i,_,e⟩:=bB.mp (h aM);rewrite [lq];refine a6 (aT e) (a6 (ih λm=>h (aQ _ m)) ?_);rfl
theorem tZ (f:List Int):aR 8 (fF f)=true:=Q2 (f:=f) dY.mp
theorem z_:bg [x]= [x]:=List.perm_singleton.mp (nP _)
theorem pI:(bg xs).length=xs.length:=(nP _).length_eq
theorem MY {step:Step Env} {b:Env} {σf:List Int->St} {P:Prop} {Q:Env->St->Prop} {N:Nat} (hs:∀{g f k},f.length<N->(g= -1\/-g∈f->P)->(¬(g= -1\/-g∈f)->k b (σf (fM g f)))->step (.int g) (σf f) b k) (hl:f.length+gs.length<=N)
  (h0:ji gs f=none->P) (h1:∀{f'},ji gs f=some f'->f'.length<=N->Q b (σf f')):dP step (gs.map .int) (σf f) b Q:=by
 induction gs generalizing f with
 |nil=>exact h1 rfl hl
 |cons g gs ih=>
  refine hs (gg (nA (m8 _)) hl) (λc=>h0 (aF c)) λc=>ih ?_ (λe=>h0 ((aB c).trans e)) λe l=>h1 ((aB c).trans e) l;have:(fM g f).length<=f.length+1:=by
   unfold fM
   split
   ·exact gU _
   ·exact a6 aP (bC _)
  exact ay (bG this _) ((k5 f.length gs.length).symm▸hl)
noncomputable abbrev seen (f:List Int):MO:= .dict (f.map .int) (f.map λzz=> .bool true)
theorem O6:cz k (.bool true) ks (ks.map λzz=> .bool true)=(bW k ks).map λzz=> .bool true:=by
 by_cases h:k∈ks
 ·refine a6 (iA h) ?_
  induction ks with
  |nil=>exact absurd h bx
  |cons x ks ih=>
   by_cases e:x=k
   ·exact aF e
   ·exact(aB e).trans (aE (V.bool true::·) (ih ((bz.mp h).resolve_left λq=>e q.symm)))
 ·refine a6 (eG h) (a6 iR (a6 (jH (b0 ..).symm h) ?_));rfl
theorem Pp (h1:g≠1):MO.dict (bW (.int g) (f.map V.int)) (cz (.int g) (.bool true) (f.map V.int) (f.map λzz=> .bool true))=seen (fM g f):=by
 have e1:bW (.int g) (f.map V.int)=(fM g f).map V.int:=by
  by_cases h:g∈f
  ·exact(iA (wC.mpr h)).trans (aE _ (aF (.inr h)).symm)
  ·exact(eG λm=>h (wC.mp m)).trans ((iR (l₂:= [g])).symm.trans (aE _ (aB λc=>c.elim h1 h).symm))
 have e2:(f.map λzz=>V.bool true)=(f.map V.int).map λzz=> .bool true:=by refine a6 fB ?_;rfl
 refine a6 e2 (a6 O6 (a6 e1 (a6 fB ?_)));rfl
end
structure CR (C:aJ) (r:Nat):Prop where
 len:C.kk.length=C.kg.length
 gr:C.parts.length=C.kinds.length
 qh:C.kk.length<=C.kinds.length
 room:C.kinds.length+r<lim
section
variable{put:aJ->St} {c k p d t:Addr} {C:aJ} {Q:V->St->Prop} {n r r':Nat} {f gs:List Int}
theorem CR.less (h:CR C r) (l:r'<=r):CR C r':=⟨h.len,h.gr,h.qh,az (aU l _) h.room⟩
theorem CR.bA (h:CR C (r+1)) (gs:List Int):CR (bA C gs).2 r:=by
 have h0:CR C r:=h.less (gU r);unfold Internal.bA;cases ji gs [] with
 |none=>exact h0
 |some f=>
  show CR (mK C f).2 r;unfold mK;by_cases e:f.length<2
  ·exact a6 (aF e) h0
  ·refine a6 (aB e) ?_
   by_cases m:fF f∈C.kk
   ·exact a6 (aF m) h0
   ·refine a6 (aB m) ?_
    have l1:∀{α:Type} {l:List α} {x:α},(l++ [x]).length=l.length+1:=aP;exact⟨l1.trans ((aE Nat.succ h.len).trans l1.symm),l1.trans ((aE Nat.succ h.gr).trans l1.symm),(by show(C.kk++ [_]).length<=(C.kinds++ [_]).length;exact a6 l1 (a6 l1 (fe h.qh))),by have:=h.room;show(C.kinds++ [_]).length+r<lim;refine a6 l1 ?_;rw [k5];exact this⟩
theorem Te (h:CPut put c k p d) (ok:CR C 1) (ht:put C t=none) (vd:σ=upd (put C) t (seen f)) (cX:f.length<64) (q:Q (.int (mK C f).1) (put (mK C f).2)):
  sq DG.run (KN (n+1)) (rt Q (put C)) none [(95, .ref c),(55, .ref t)] σ:=by
 have h':CPut (λC=>upd (put C) t (seen f)) c k p d:=h.over ht (seen f);have sl:(bg (f.map .int)).length=f.length:=pI.trans (b0 ..);have yj:(bg (f.map .int)).length<lim:=sl▸gB cX (ao rfl);have e1:back σ (put C)=put C:=vd▸h.bn ht;have Yf:σ t=some (seen f):=vd▸uS ..;have ob:bX σ c 627 [(166, .ref k),(167, .ref p),(28, .ref d)]:=vd▸h'.ob;have D:Dc σ (.ref d) C.kk (C.kg.map .int):= .ref (vd▸h'.hd);unfold mK at q;refine go (.dict (.ref Yf) (Ol (f:=f) id) ((b0 ..).symm▸cX) (.mk .aa yj (go (.seq (.tup rfl) yj ?_))));by_cases hf:f.length<2
 ·rw [aF hf] at q
  refine BU (a6 sl (gC.mpr hf)) (go (.seq (.tup rfl) yj ?_));induction f with
  |nil=>exact gM eB (kr (by refine a6 sl ?_;decide)) (b4 e1 q)
  |cons g f=>induction f with
   |nil=>exact hW eB (by refine a6 sl ?_;rfl) (.seq (i:=0) (u:= .int g) (.tup rfl) yj (by show(bg [V.int g])[0]? =_;refine a6 z_ ?_;rfl) (b4 e1 q))
   |cons g' f=>exact absurd hf (iq.mpr (cn 2 _))
 ·rw [aB hf] at q
  refine BV (a6 sl λe=>hf (gC.mp e)) (sk (go (bu ob rfl rfl ?_)));by_cases hm:fF f∈C.kk
  ·rw [aF hm] at q
   exact wB D (tZ f) hm (sk (go (bu ob rfl rfl (.dict D (tZ f) (m9 ok.len hm) (b4 e1 q)))))
  ·rw [aB hm] at q
   subst vd;have kl:C.kk.length<lim:=az (ay ok.qh (gU _)) ok.room;have lg:C.kk.length=(C.kg.map V.int).length:=ok.len.trans (b0 ..).symm;have e3:MO.dict (bW (fF f) C.kk) (cz (fF f) (.int C.kinds.length) C.kk (C.kg.map .int))= .dict (C.kk++ [fF f]) ((C.kg++ [(C.kinds.length:Int)]).map .int):=by refine a6 (eG hm) (a6 (jH lg hm) (a6 iR ?_));rfl
   exact wA D (tZ f) hm (go (aV ob rfl rfl (DN h' ok.room (ok.gr▸iP ok.room) (bu h'.ob rfl rfl (ki h'.hd (tZ f) kl e3 (sk (og h'.tab (bu h'.ob rfl rfl (.dict (.ref (h'.hd (C:=hY C f))) (tZ f) ((m9 (by show(C.kk++ [_]).length=(C.kg++ [_]).length;refine a6 aP (a6 aP (a6 ok.len ?_));rfl) (ij _ aM)).trans (aE (λi=>some (V.int i)) (zP ok.len hm))) (b4 (h.bn ht) q))))))))))
theorem ud (h:CPut put c k p d) (ok:CR C 1) {gv:V} (vu:∀σ,Sq σ 2 gv (gs.map .int)) (cX:gs.length<64) (q:Q (.int (bA C gs).1) (put (bA C gs).2)):(KN (n+2)).aZ 627 163 [.ref c,gv] (put C) Q:=by
 refine bf rfl rfl (go (.mk cY rfl λt ht=>go ⟨vu _,MY (f:= []) (σf:=λf=>upd (put C) t (seen f)) (N:=63) (P:=Q (.int (-1)) (put C)) (λ{g f k} hl hP hN=>⟨vu _,f1 (go ?_)⟩) (by refine a6 kX ?_;rw [di];exact Nat.le_of_lt_succ cX) (λe=> ?_) λ{f} e l=>⟨vu _,Te h ok ht rfl (Nat.lt_succ_of_le l) ?_⟩⟩))
 ·have D:Dc (upd (put C) t (seen f)) (.ref t) (f.map .int) (f.map λzz=> .bool true):= .ref (uS _ _ _)
  have e1:back (upd (put C) t (seen f)) (put C)=put C:=h.bn ht;by_cases h1:g= -1
  ·exact dF.mk (hW eB (aE _ h1) (go (dF.mk (b4 e1 (hP (.inl h1))))))
  ·refine dF.mk (gM eB (kr h1) (dF.mk ?_))
   by_cases h2: -g∈f
   ·exact He D rfl (wC.mpr h2) (go (dF.mk (b4 e1 (hP (.inr h2)))))
   ·refine wY D rfl (λm=>h2 (wC.mp m)) (Xq (sk (go ?_)))
    have hN:=hN λc=>c.elim h1 h2;by_cases h3:g=1
    ·rw [fM,aF (.inl h3)] at hN
     exact iE eB (aE _ h3) hN
    ·exact sy eB (kr h3) (go (ki (uS _ _ _) rfl (by rw [b0];exact gB hl (ao rfl)) (Pp h3) ((eo ..).symm▸hN)))
 ·rw [bA,e] at q;exact q
 ·rw [bA,e] at q;exact q
end
noncomputable def j2 (C:aJ) (gs:List Int):Int×aJ:=(-(bA C (gs.map (-·))).1,(bA C (gs.map (-·))).2)
noncomputable def eI (C:aJ) (a b:Int):Int×aJ:=(-(bA C [a,-b]).1,(bA C [a,-b]).2)
noncomputable def lH (C:aJ) (a b:Int):Int×aJ:=bA (eI (eI C a b).2 b a).2 [(eI C a b).1,(eI (eI C a b).2 b a).1]
section
variable{put:aJ->St} {c k p d:Addr} {C:aJ} {Q:V->St->Prop} {n r:Nat} {a b:Int} {gs:List Int} {gv:V} (h:CPut put c k p d)
theorem CR.eI (h:CR C (r+1)) (a b:Int):CR (eI C a b).2 r:=h.bA _
theorem CR.j2 (h:CR C (r+1)) (gs:List Int):CR (j2 C gs).2 r:=h.bA _
theorem CR.lH (h:CR C (r+3)) (a b:Int):CR (lH C a b).2 r:=(CR.eI (CR.eI h _ _) _ _).bA _
include h
theorem u6 (ok:CR C 1) (q:Q (.int (bA C [a,b]).1) (put (bA C [a,b]).2)):(KN (n+2)).aZ 627 163 [.ref c, .tup [.int a, .int b]] (put C) Q:=ud h ok (gs:= [a,b]) (λzz=> .tup rfl) (ao rfl) q
theorem wj (ok:CR C 1) (q:Q (.int (bA C [a,b]).1) (put (bA C [a,b]).2)):(KN (n+3)).aZ 627 158 [.ref c, .int a, .int b] (put C) Q:=
 bf rfl rfl (go (aV h.ob rfl rfl (u6 h ok (b4 h.b q))))
theorem NC (ok:CR C 1) (q:Q (.int (j2 C [a,b]).1) (put (j2 C [a,b]).2)):(KN (n+3)).aZ 627 120 [.ref c, .int a, .int b] (put C) Q:=
 bf rfl rfl (go (aV h.ob rfl rfl (dF.mk (dF.mk (u6 h ok (dF.mk (b4 h.b q)))))))
theorem yV (ok:CR C 1) (q:Q (.int (eI C a b).1) (put (eI C a b).2)):(KN (n+3)).aZ 627 133 [.ref c, .int a, .int b] (put C) Q:=
 bf rfl rfl (go (aV h.ob rfl rfl (dF.mk (u6 h ok (dF.mk (b4 h.b q))))))
theorem Ss (ok:CR C 3) (q:Q (.int (lH C a b).1) (put (lH C a b).2)):(KN (n+4)).aZ 627 134 [.ref c, .int a, .int b] (put C) Q:=
 bf rfl rfl (go (aV h.ob rfl rfl (aV h.ob rfl rfl (yV h (ok.less (ah rfl)) (aV h.ob rfl rfl (yV h ((CR.eI ok a b).less (ah rfl)) (u6 (n:=n+1) h (CR.eI (CR.eI ok a b) b a) (b4 h.b q))))))))
theorem E6 (ok:CR C 1) (vu:Sq (put C) 2 gv (gs.map .int)) (cX:gs.length<64) (q:Q (.int (j2 C gs).1) (put (j2 C gs).2)):(KN (n+3)).aZ 627 164 [.ref c,gv] (put C) Q:=by
 refine bf rfl rfl (go (aV h.ob rfl rfl (lb vu (λv=> .int (-dj v)) (by rw [b0];exact gB cX (ao rfl)) (λx hx b k hl hk=> ?_) ?_)))
 ·obtain⟨g,_,rfl⟩:=bB.mp hx
  exact dF.mk ⟨hl,hk⟩
 ·exact ud h ok (gs:=gs.map (-·)) (λzz=>a6 fB (a6 fB .aa)) (by rw [b0];exact cX) (dF.mk (b4 h.b q))
end
structure Mx where
 ar:Int
 ks:List V
 gs:List Int
noncomputable def Mx.v (m:Mx):V:= .tup [.int m.ar, .aN m.ks (m.gs.map .int)]
structure UOk (U:List V):Prop where
 small:∀{x},x∈U->iB x=true
 d4:U.length<=9
structure e7 (U:List V) (m:Mx):Prop where
 nd:m.ks.Nodup
 len:m.ks.length=m.gs.length
 sub:∀{x},x∈m.ks->x∈U
theorem iV {U l:List V} (u:UOk U) (nd:l.Nodup) (h:∀{x},x∈l->x∈U):l.length<=9:=ay (nd.length_le_of_subset λzz=>h) u.d4
theorem w0 (h:iB x=true):sh x:=tX h (λi zz=> .mk (i:=i) (is:= [])) λi j zz zz=> .mk (i:=i) (is:= [(j:Int)])
theorem jF (h:iB x=true):aR 8 x=true:=tX h (G:=λx=>aR 8 x=true) (λzz zz=>rfl) λzz zz zz zz=>rfl
theorem rb (u:UOk U) (h:∀{x},x∈l->x∈U):uV l:= .row λm=>w0 (u.small (h m))
noncomputable def b6 (f:V->aJ->Int×aJ):List V->aJ->List Int×aJ
 | [],C=>([],C)
 |x::xs,C=>((f x C).1::(b6 f xs (f x C).2).1,(b6 f xs (f x C).2).2)
noncomputable def bj:List V->List Int->List V×List Int
 |x::xs,g::gs=>if g= -1 then bj xs gs else(x::(bj xs gs).1,g::(bj xs gs).2)
 |_,_=>([], [])
noncomputable abbrev ky (x:V) (g:Int):V:= .tup [x, .int g]
noncomputable def jl (ar:Int) (xs:List V) (gs:List Int):Mx:=⟨ar,(bj xs gs).1,(bj xs gs).2⟩
section
variable{f:V->aJ->Int×aJ} {w r n:Nat} {xs ks U:List V} {gs:List Int} {C:aJ} {put:aJ->St} {x cv:V} {Q:V->St->Prop} {σ:St} {a b:Mx} {m:Addr}
theorem mh:(b6 f xs C).1.length=xs.length:=by
 induction xs generalizing C with
 |nil=>rfl
 |cons x xs ih=>exact aE Nat.succ ih
theorem G6 (hf:∀{x C r},CR C (r+w)->CR (f x C).2 r):CR C (r+w*xs.length)->CR (b6 f xs C).2 r:=by
 induction xs generalizing C with
 |nil=>exact id
 |cons x xs ih=>exact λh=>ih (hf ((bH r (w*xs.length) w).symm▸(h:CR C (r+(w*xs.length+w)))))
theorem wh {step:Step (List V)} {Q:List V->St->Prop} (f:V->aJ->Int×aJ) (mk:V->Int->V) (w:Nat) (hw:∀{x C r},CR C (r+w)->CR (f x C).2 r) (hx:∀{σ},Sq σ 2 cv xs)
  (hs:∀{x C acc k},x∈xs->CR C w->acc.length<lim->k (acc++ [mk x (f x C).1]) (put (f x C).2)->step x (put C) acc k) (hc:CR C (w*xs.length)) (hl:xs.length<=9) (q:Q (List.zipWith mk xs (b6 f xs C).1) (put (b6 f xs C).2)):g_ step cv (put C) [] Q:=by
 have key:∀{ys acc C},(∀{x},x∈ys->x∈xs)->CR C (w*ys.length)->acc.length+ys.length<=9->Q (acc++List.zipWith mk ys (b6 f ys C).1) (put (b6 f ys C).2)->dP (eT step cv xs) ys (put C) acc (eX cv xs Q):=λ{ys}=>by
  induction ys with
  |nil=>exact λzz zz zz q=>⟨hx,Cz (p:=λl=>Q l _) (d6 _) q⟩
  |cons y ys ih=>
   intro acc C hm hc hl q;refine⟨hx,hs (hm aM) (CR.less hc (cn ..)) (az (ay (aY ..) hl) (ao rfl)) (ih (λm=>hm (aQ _ m)) (hw (hc:CR C (w*ys.length+w))) ?_ ?_)⟩
   ·exact a6 aP ((k5 acc.length ys.length).symm▸hl)
   ·rw [bP];exact q
 exact⟨hx,key id hc (by refine a6 kX ?_;rw [di];exact hl) q⟩
theorem Ou:(bj xs gs).1.length=(bj xs gs).2.length:=by
 induction xs generalizing gs with
 |nil=>rfl
 |cons x xs ih=>induction gs with
  |nil=>rfl
  |cons g gs=>
   by_cases e:g= -1
   ·rw [show bj (x::xs) (g::gs)=bj xs gs from aF e];exact ih
   ·rw [show bj (x::xs) (g::gs)=(x::(bj xs gs).1,g::(bj xs gs).2) from aB e];exact aE Nat.succ ih
theorem zg:(bj xs gs).1.Sublist xs:=by
 induction xs generalizing gs with
 |nil=>exact .slnil
 |cons x xs ih=>induction gs with
  |nil=>exact List.nil_sublist _
  |cons g gs=>
   by_cases e:g= -1
   ·rw [show bj (x::xs) (g::gs)=bj xs gs from aF e];exact ih.cons x
   ·rw [show bj (x::xs) (g::gs)=(x::(bj xs gs).1,g::(bj xs gs).2) from aB e];exact ih.cons_cons x
theorem Of {Q:List V×List V->St->Prop} {step:Step (List V×List V)}
  (hs:∀{x g d k},aR 8 x=true->d.1.length<64->(g= -1->k d σ)->(g≠-1->k (bW x d.1,cz x (.int g) d.1 d.2) σ)->step (ky x g) σ d k) {as bs:List V} (hl:xs.length=gs.length) (qH:as.length=bs.length) (nd:(as++xs).Nodup) (hk:∀{x},x∈xs->aR 8 x=true) (h9:as.length+xs.length<=9)
  (q:Q (as++(bj xs gs).1,bs++(bj xs gs).2.map .int) σ):dP step (List.zipWith ky xs gs) σ (as,bs) Q:=by
 induction xs generalizing gs as bs with
 |nil=>cases f9 hl.symm;exact(d6 as)▸(d6 bs)▸q
 |cons x xs ih=>induction gs with
  |nil=>exact eh hl
  |cons g gs=>
   have hx:x∉as:=λm=>(ja.mp nd).2.2 x m x aM rfl;have l9:as.length+1+xs.length<=9:=(k5 as.length xs.length).symm▸h9;refine hs (hk aM) (az (ay (aY ..) h9) (ao rfl)) (λe=> ?_) λe=> ?_
   ·rw [show bj (x::xs) (g::gs)=bj xs gs from aF e] at q
    exact ih (d7 hl) qH (nd.sublist (List.Sublist.append_left (List.sublist_cons_self x xs) as)) (λm=>hk (aQ _ m)) (ay (bG (gU _) _) l9) q
   ·rw [show bj (x::xs) (g::gs)=(x::(bj xs gs).1,g::(bj xs gs).2) from aB e] at q
    show dP step _ σ (bW x as,cz x (.int g) as bs) Q;refine a6 (eG hx) (a6 (jH qH hx) (ih (d7 hl) (by refine a6 aP (a6 aP (a6 qH ?_));rfl) (by rw [bP];exact nd) (λm=>hk (aQ _ m)) (a6 aP l9) ?_));rw [bP,bP];exact q
theorem F7 {ar:Int} (hl:xs.length=gs.length) (nd:xs.Nodup) (hk:∀{x},x∈xs->aR 8 x=true) (h9:xs.length<=9) (q:Q (jl ar xs gs).v σ):(KN (n+1)).aZ 365 175 [.ref m, .int ar, .aa (List.zipWith ky xs gs)] σ Q:=by
 refine bf rfl rfl (go (⟨.aa,Of (λ{x g dd kk} hx Yi h h'=>⟨.aa, .mk rfl (dF.mk ?_)⟩) (as:= []) (bs:= []) hl rfl nd hk ((di _).symm▸h9) ⟨.aa,c4 q⟩⟩:g_ _ (.aa (List.zipWith ky xs gs)) σ ([], []) _));by_cases e:g= -1
 ·exact iE eB (aE _ e) (h e)
 ·exact sy eB (kr e) ⟨hx,gB Yi (ao rfl),h' e⟩
theorem rH (hl:ks.length=gs.length) (hk:aR 8 x=true) (q:Q (.int (gate ks gs x)) σ):BC σ Q (.aN ks (gs.map .int)) [x, .int (-1)]:= .mk .aN hk ((Ny hl).symm▸q)
theorem dZ (q:Q (.aN a.ks (a.gs.map .int)) σ):eV σ Q a.v (.int 1):= .seq (i:=1) (.tup rfl) (ao rfl) rfl q
theorem sC (q:Q (.int a.ar) σ):eV σ Q a.v (.int 0):= .seq (i:=0) (.tup rfl) (ao rfl) rfl q
theorem rC (u:UOk U) (ha:e7 U a) (q:Q (.aa (bg a.ks)) σ):rA σ Q [.aN a.ks (a.gs.map .int)]:= .dict .aN (rb u ha.sub) (az (iV u ha.nd ha.sub) (ao rfl)) q
end
theorem rE:x∈e9 xs d↔x∈xs\/x∈d:=by
 induction xs generalizing d with
 |nil=>exact⟨.inr,λh=>h.resolve_left bx⟩
 |cons y r ih=>
  refine ih.trans ?_;rw [bz];show x∈r\/x∈(if y∈d then d else d++ [y])↔_;by_cases h:y∈d
  ·exact a6 (aF h) ⟨λq=>q.imp .inr id,λq=>q.elim (λq=>q.elim (λe=> .inr (e▸h)) .inl) .inr⟩
  ·refine a6 (aB h) ?_;rw [cM,b3];exact⟨λq=>q.elim (λq=> .inl (.inr q)) λq=>q.elim .inr λe=> .inl (.inl e),λq=>q.elim (λq=>q.elim (λe=> .inr (.inr e)) .inl) λq=> .inr (.inl q)⟩
theorem Mw (h:ls.length=ws.length):(dM (ls.zip ws) d).1=e9 ls d.1:=by
 induction ls generalizing ws d with
 |nil=>rfl
 |cons l ls ih=>induction ws with
  |nil=>exact eh h
  |cons w ws=>exact ih (d7 h)
noncomputable def jJ (a b:Mx):List V:=bg (e9 b.ks a.ks)
noncomputable def nV (C:aJ) (a b:Mx):Mx×aJ:=
 let r:=b6 (λx C=>j2 C [gate a.ks a.gs x,gate b.ks b.gs x]) (jJ a b) C;(jl a.ar (jJ a b) r.1,r.2)
noncomputable def nW (C:aJ) (a b:Mx):Mx×aJ:=
 let r:=b6 (λx C=>bA C [gate a.ks a.gs x,-gate b.ks b.gs x]) (bg a.ks) C;(jl a.ar (bg a.ks) r.1,r.2)
noncomputable def jg (C:aJ) (a b:Mx):Int×aJ:=let r:=b6 (λx C=>eI C (gate a.ks a.gs x) (gate b.ks b.gs x)) (bg a.ks) C;bA r.2 r.1
noncomputable def mJ (C:aJ) (a b:Mx):Int×aJ:=let r:=b6 (λx C=>lH C (gate a.ks a.gs x) (gate b.ks b.gs x)) (jJ a b) C;bA r.2 r.1
noncomputable def oi (C:aJ) (a:Mx):Int×aJ:=j2 C ((bg a.ks).map (gate a.ks a.gs))
structure nx (U l:List V):Prop where
 nd:l.Nodup
 sub:∀{x},x∈l->x∈U
 l9:l.length<=9
structure oF (put:aJ->St) (m c k p d:Addr) (nn:V):Prop extends CPut put c k p d where
 mo:∀{C},bX (put C) m 365 [(64, .ref c),(170,nn)]
section
variable{put:aJ->St} {m c k p d:Addr} {nn:V} {C:aJ} {Q:V->St->Prop} {σ:St} {n:Nat} {U l:List V} {a b:Mx} {x:V}
theorem nx.key (h:nx U l) (u:UOk U) (m:x∈l):aR 8 x=true:=jF (u.small (h.sub m))
theorem v_ (u:UOk U) (ha:e7 U a) (hb:e7 U b):nx U (jJ a b):=by
 have nd:(jJ a b).Nodup:=pO (rO ha.nd);have sub:∀{x},x∈jJ a b->x∈U:=λm=>(rE.mp (dY.mp m)).elim hb.sub ha.sub;exact⟨nd,sub,iV u nd sub⟩
theorem jI (u:UOk U) (ha:e7 U a):nx U (bg a.ks):=⟨pO ha.nd,λm=>ha.sub (dY.mp m),pI.symm▸iV u ha.nd ha.sub⟩
theorem PV (h:nx U l):e7 U (jl ar l gs):=⟨h.nd.sublist zg,Ou,λm=>h.sub (zg.subset m)⟩
theorem nx.made (h:nx U l) (u:UOk U) (hl:gs.length=l.length) (q:Q (jl ar l gs).v σ):(KN (n+1)).aZ 365 175 [.ref m, .int ar, .aa (List.zipWith ky l gs)] σ Q:=F7 hl.symm h.nd (h.key u) h.l9 q
theorem DP (u:UOk U) (ha:e7 U a) (hb:e7 U b) (q:Q (.aa (jJ a b)) σ):(KN (n+1)).aZ 365 173 [.ref m,a.v,b.v] σ Q:=by
 have l9:=λ{x:Mx} (hx:e7 U x)=>az (iV u hx.nd hx.sub) (ao rfl:9<1000);have sm:=λ{x:Mx} (hx:e7 U x)=>cQ.mpr λy (m:y∈x.ks)=>u.small (hx.sub m);have e:(dM (b.ks.zip (b.gs.map .int)) (a.ks,a.gs.map .int)).1=e9 b.ks a.ks:=Mw (by rw [b0];exact hb.len);have sub:∀{x},x∈e9 b.ks a.ks->x∈U:=λm=>(rE.mp m).elim hb.sub ha.sub;exact bf rfl rfl (go (dZ (.mk .aN (sm ha) (l9 ha) (dZ (.mk .aN (sm hb) (l9 hb) (.dict .aN (e▸rb u sub) (e▸az (iV u (rO ha.nd) sub) (ao rfl)) (c4 (e▸q))))))))
theorem MF (u:UOk U) (ha:e7 U a) (q:Q (.aa ((bg a.ks).map λx=> .int (gate a.ks a.gs x))) σ):(KN (n+1)).aZ 365 178 [.ref m,a.v] σ Q:=by
 refine bf rfl rfl (go (dZ (rC u ha (lb .aa (λx=> .int (gate a.ks a.gs x)) (az (jI u ha).l9 (ao rfl)) (λx hx b k hl hk=> ?_) (c4 q)))));have hm:=dY.mp hx;exact dZ (.dict .aN (jF (u.small (ha.sub hm))) (m9 ha.len hm) ⟨hl,hk⟩)
theorem IL (h:gs.length=xs.length):List.zipWith (λ(_:V) g=>V.int g) xs gs=gs.map .int:=by
 induction xs generalizing gs with
 |nil=>cases f9 h;rfl
 |cons x xs ih=>induction gs with
  |nil=>exact kI h
  |cons g gs=>exact aE _ (ih (d7 h))
variable(h:oF put m c k p d nn) (u:UOk U) (ha:e7 U a) (hb:e7 U b)
include h u ha
include hb in
theorem NV (ok:CR C 9) (q:Q (nV C a b).1.v (put (nV C a b).2)):(KN (n+4)).aZ 365 38 [.ref m,a.v,b.v] (put C) Q:=by
 have K:=v_ u ha hb;exact bf rfl rfl (go (aV h.mo rfl rfl (DP u ha hb (go (aV h.mo rfl rfl (sC (wh (λx C=>j2 C [gate a.ks a.gs x,gate b.ks b.gs x]) ky 1 (λh=>h.j2 _) .aa (λ{x C1 acc kk} hx hc hl hk=>bu h.mo rfl rfl (aV h.ob rfl rfl (dZ ⟨⟨.aN⟩,dF.mk (rH ha.len (K.key u hx) (dZ ⟨⟨.aN⟩,dF.mk (rH hb.len (K.key u hx) (NC h.toCPut hc ⟨hl,hk⟩))⟩))⟩))) (ok.less (by rw [px];exact K.l9)) K.l9 (K.made u mh (b4 h.b q)))))))))
include hb in
theorem Oc (ok:CR C 9) (q:Q (nW C a b).1.v (put (nW C a b).2)):(KN (n+4)).aZ 365 39 [.ref m,a.v,b.v] (put C) Q:=by
 have K:=jI u ha;exact bf rfl rfl (go (aV h.mo rfl rfl (sC (dZ (rC u ha (wh (λx C=>bA C [gate a.ks a.gs x,-gate b.ks b.gs x]) ky 1 (λh=>h.bA _) .aa (λ{x C1 acc kk} hx hc hl hk=>bu h.mo rfl rfl (aV h.ob rfl rfl (dZ (.dict .aN (K.key u hx) (m9 ha.len (dY.mp hx)) (dZ ⟨⟨.aN⟩,dF.mk (rH hb.len (K.key u hx) (dF.mk (wj h.toCPut hc ⟨hl,hk⟩)))⟩))))) (ok.less (by rw [px];exact K.l9)) K.l9 (K.made u mh (b4 h.b q))))))))
end
noncomputable def R1 (x:Nat):V:= .tup [.int x]
noncomputable def R2 (x y:Nat):V:= .tup [.int x, .int y]
noncomputable def kB (x:Nat):Mx:=⟨1, [R1 x], [1]⟩
noncomputable def o9 (x y:Nat):Mx:=⟨2, [R2 x y], [1]⟩
section
variable{put:aJ->St} {m c k p d:Addr} {nn:V} {C:aJ} {Q:V->St->Prop} {n:Nat} {U:List V} {a b:Mx} {g:Int}
theorem Fp:bA C [1,g]=(g,C):=by
 unfold bA;by_cases h:g= -1
 ·subst h;rfl
 ·have e:ji [1,g] []=some (fM g []):=(aB (λc=>c.elim (by decide) bx)).trans (aB λc=>c.elim h bx)
  refine a6 e ?_;by_cases h1:g=1
  ·subst h1;rfl
  ·rewrite [fM];refine a6 (aB λc=>c.elim h1 bx) ?_;rfl
theorem SE:j2 C [g]=(g,C):=by
 unfold j2 bA;by_cases h: -g= -1
 ·cases Int.neg_inj.mp h;rfl
 ·have e:ji [-g] []=some (fM (-g) []):=aB λc=>c.elim h bx
  refine a6 pw (a6 List.map_nil (a6 e ?_));by_cases h1: -g=1
  ·cases Int.neg_eq_comm.mp h1;rfl
  ·rewrite [fM];refine a6 (aB λc=>c.elim h1 bx) ?_
   show(- -g,C)=_;rw [Int.neg_neg]
theorem pH (h:x<4):iB (R1 x)=true:=ik.mpr ⟨bQ (nE x),bQ (gC.mpr h)⟩
variable(h:oF put m c k p d nn)
include h
theorem N8 (u:UOk U) (ha:e7 U a) (hb:e7 U b) (ok:CR C 10) (q:Q (.int (jg C a b).1) (put (jg C a b).2)):(KN (n+4)).aZ 365 143 [.ref m,a.v,b.v] (put C) Q:=by
 have K:=jI u ha;have hf:∀{x C r},CR C (r+1)->CR (eI C (gate a.ks a.gs x) (gate b.ks b.gs x)).2 r:=λh=>h.eI _ _;refine bf rfl rfl (go (bu h.mo rfl rfl (aV h.ob rfl rfl (dZ (rC u ha (wh (λx C=>eI C (gate a.ks a.gs x) (gate b.ks b.gs x)) (λzz g=>V.int g) 1 hf .aa (λ{x C1 acc kk} hx hc hl hk=> ?_) (ok.less (by rw [px];exact kT K.l9)) K.l9 ?_))))))
 ·exact bu h.mo rfl rfl (aV h.ob rfl rfl (dZ (.dict .aN (K.key u hx) (m9 ha.len (dY.mp hx)) (dZ ⟨⟨.aN⟩,dF.mk (rH hb.len (K.key u hx) (yV (n:=n) h.toCPut hc ⟨hl,hk⟩))⟩))))
 ·refine a6 (IL mh) ?_
  exact ud (n:=n+1) h.toCPut (G6 hf (ok.less (by rw [px,c0];exact fe K.l9))) (λzz=> .aa) (a6 mh (az K.l9 (ao rfl))) (b4 h.b q)
theorem Pq (u:UOk U) (ha:e7 U a) (hb:e7 U b) (ok:CR C 28) (q:Q (.int (mJ C a b).1) (put (mJ C a b).2)):(KN (n+5)).aZ 365 42 [.ref m,a.v,b.v] (put C) Q:=by
 have K:=v_ u ha hb;have hf:∀{x C r},CR C (r+3)->CR (lH C (gate a.ks a.gs x) (gate b.ks b.gs x)).2 r:=λh=>h.lH _ _;have JI:3*(jJ a b).length<=27:=eQ 3 K.l9;refine bf rfl rfl (go (aV h.mo rfl rfl (DP u ha hb (go (bu h.mo rfl rfl (aV h.ob rfl rfl (wh (λx C=>lH C (gate a.ks a.gs x) (gate b.ks b.gs x)) (λzz g=>V.int g) 3 hf .aa (λ{x C1 acc kk} hx hc hl hk=> ?_) (ok.less (kT JI)) K.l9 ?_)))))))
 ·exact bu h.mo rfl rfl (aV h.ob rfl rfl (dZ ⟨⟨.aN⟩,dF.mk (rH ha.len (K.key u hx) (dZ ⟨⟨.aN⟩,dF.mk (rH hb.len (K.key u hx) (Ss (n:=n) h.toCPut hc ⟨hl,hk⟩))⟩))⟩))
 ·refine a6 (IL mh) ?_
  exact ud (n:=n+2) h.toCPut (G6 hf (ok.less (by rw [c0];exact fe JI))) (λzz=> .aa) (a6 mh (az K.l9 (ao rfl))) (b4 h.b q)
theorem Pe (u:UOk U) (ha:e7 U a) (ok:CR C 1) (q:Q (.int (oi C a).1) (put (oi C a).2)):(KN (n+4)).aZ 365 41 [.ref m,a.v] (put C) Q:=
 bf rfl rfl (go (bu h.mo rfl rfl (aV h.ob rfl rfl (aV h.mo rfl rfl (MF u ha (E6 (n:=n) h.toCPut ok (gs:=(bg a.ks).map (gate a.ks a.gs)) (a6 fB .aa) (by rw [b0];exact az (jI u ha).l9 (ao rfl)) (b4 h.b q)))))))
theorem MU (ok:CR C 1) {x y:Nat} (hx:x<4) (hy:y<4) (q:Q (o9 x y).v (put C)):(KN (n+4)).aZ 365 43 [.ref m,(kB x).v,(kB y).v] (put C) Q:=by
 have lk:∀{z:Nat},b_ (R1 z) [R1 z] (List.map V.int [1])=some (.int 1):=aF rfl;have st:∀{z:Nat} {σ:St} {Q:V->St->Prop},z<4->Q (.aa [R1 z]) σ->rA σ Q [.aN [R1 z] ([1].map .int)]:=λhz q=> .dict .aN (.row λm=>b3.mp m▸w0 (pH hz)) (ao rfl) (z_.symm▸q);refine bf rfl rfl (go (dZ (uK.dict .aN (ao rfl) (dZ (uK.dict .aN (ao rfl) (fH.mul (ao rfl) (qj (show¬(2000000:Int)<((1:Nat):Int)*((1:Nat):Int) by decide) (sk (go (bu h.mo rfl rfl (UE h.ob rfl rfl (go (aV h.mo rfl rfl (sC (sC (fH.add (dZ (st hx (lb (xs:= [R1 x]) .aa (λz=>ky (R2 x y) 1) (ao rfl) (λz hz b k hl hk=> ?_) ?_)))))))))))))))))))
 ·cases b3.mp hz
  exact dZ (st hy ⟨.aa, .aa,fH.tup (ao rfl) (BD.mk (dZ (eV.dict .aN (jF (pH hx)) lk (dZ (eV.dict .aN (jF (pH hy)) lk (QF (f:=589) rfl rfl (go (aV h.ob rfl rfl (u6 (n:=n) h.toCPut ok (b4 h.b (a6 Fp ⟨hl, .aa,hk⟩)))))))))))⟩)
 ·exact F7 (xs:= [R2 x y]) (gs:= [1]) rfl (cG.mpr ⟨bx,cY⟩) (λhz=>by cases b3.mp hz;rfl) (ah rfl) (c4 q)
end
structure cP (σ σ0:St):Prop where
 old:∀{c},σ0 c≠none->σ c=σ0 c
 nh:∀{c a},σ0 c=none->σ c≠some (.cx a)
noncomputable def fK:List (V×List V)->V->List V
 | [],_=> []
 |x::g,k=>if x.1=k then x.2 else fK g k
noncomputable def eW (k v:V):List (V×List V)->List (V×List V)
 | []=> [(k, [v])]
 |x::g=>if x.1=k then(x.1,x.2++ [v])::g else x::eW k v g
inductive GL (σ0 σ:St) (q:Addr):List (V×List V)->List Addr->Prop
 |nil:GL σ0 σ q [] []
 |cons {k:V} {l:List V} {p:Addr} {g:List (V×List V)} {ps:List Addr} (h:σ p=some (.list l)) (h0:σ0 p=none) (hq:p≠q) (hn:p∉ps) (r:GL σ0 σ q g ps):GL σ0 σ q ((k,l)::g) (p::ps)
noncomputable abbrev fO (g:List (V×List V)):List V:=g.map (·.1)
structure GD (σ0 σ:St) (q:Addr) (g:List (V×List V)) (ps:List Addr):Prop where
 d:σ q=some (.dict (fO g) (ps.map .ref))
 q0:σ0 q=none
 l:GL σ0 σ q g ps
 fr:cP σ σ0
structure WU (σ0 σ:St) (q:Addr) (g:List (V×List V)) (k:V) (p:Addr):Prop where
 at_:σ p=some (.list (fK g k))
 fr:cP σ σ0
 add:∀{w},∃ps,GD σ0 (upd σ p (.list (fK g k++ [w]))) q (eW k w g) ps
section
variable{σ a8 σ0:St} {q r p:Addr} {g:List (V×List V)} {ps:List Addr} {k w:V} {K:V->St->Prop} {mo:MO}
theorem cP.refl (σ:St):cP σ σ:=⟨λzz=>rfl,λh e=>bK (h.symm.trans e)⟩
theorem cP.new (F:cP σ σ0) (h:σ p=none):σ0 p=none:=Classical.byContradiction λn=>n ((F.old n).symm.trans h)
theorem cP.upd (F:cP σ σ0) (h:σ0 p=none) (nh:∀a,mo≠ .cx a):cP (upd σ p mo) σ0:=
 ⟨λ{c} hc=>(uN λe:c=p=>hc (e▸h)).trans (F.old hc),λ{c a} hc e=>by
  by_cases e':c=p
  ·subst e';exact nh a (cL ((uS ..).symm.trans e))
  ·exact F.nh hc ((uN e').symm.trans e)⟩
theorem cP.back (F:cP σ σ0):back σ σ0=σ0:=eR λb=>by
 rw [kb];cases e:σ0 b with
 |some mo=>exact(F.old (a6 e cy)).trans e
 |none=>cases e':σ b with
  |none=>rfl
  |some mo=>induction mo with
   |cx a=>exact absurd e' (F.nh e)
   |_=>rfl
theorem cP.trans (F:cP a8 σ) (G:cP σ σ0):cP a8 σ0:=⟨λh=>(F.old (a6 (G.old h) h)).trans (G.old h),λ{c a} h e=>by
 cases e':σ c with
 |none=>exact F.nh e' e
 |some mo=>exact G.nh h ((F.old (a6 e' cy)).symm.trans e)⟩
theorem GL.mono (G:GL σ0 σ q g ps) (h:∀{p},p∈ps->a8 p=σ p):GL σ0 a8 q g ps:=by
 induction G with
 |nil=>exact .nil
 |cons h1 h0 hq hn r ih=>exact .cons ((h aM).trans h1) h0 hq hn (ih λm=>h (aQ _ m))
theorem GL.not (G:GL σ0 σ q g ps) (h:σ p=none):p∉ps:=by
 induction G with
 |nil=>exact bx
 |cons h1 h0 hq hn r ih=>exact λm=>(bz.mp m).elim (λe=>b8 h1 h e.symm) ih
theorem GL.W0 (G:GL σ0 σ q g ps):q∉ps:=by
 induction G with
 |nil=>exact bx
 |cons h1 h0 hq hn r ih=>exact λm=>(bz.mp m).elim (λe=>hq e.symm) ih
theorem GL.hit (G:GL σ0 σ q g ps) {k:V} {C:Prop} (a:b_ k (fO g) (ps.map .ref)=none->fK g k= []->(∀{w},eW k w g=g++ [(k, [w])])->k∉fO g->C)
  (b:∀{p},b_ k (fO g) (ps.map .ref)=some (.ref p)->p∈ps->σ p=some (.list (fK g k))->σ0 p=none->p≠q->(∀{w},fO (eW k w g)=fO g)->(∀{w a8},a8 p=some (.list (fK g k++ [w]))->(∀{p'},p'∈ps->p'≠p->a8 p'=σ p')->GL σ0 a8 q (eW k w g) ps)->C):C:=by
 induction G with
 |nil=>exact a rfl rfl rfl bx
 | @cons k' l p' g ps h1 h0 hq hn r ih=>
  by_cases e:k'=k
  ·have e1:∀{w},eW k w ((k',l)::g)=(k',l++ [w])::g:=aF e
   have e2:fK ((k',l)::g) k=l:=aF e;exact b (aF e) aM (e2.symm▸h1) h0 hq (e1▸rfl) λ{w a8} u v=>e1▸ .cons (e2▸u) h0 hq hn (r.mono λm=>v (aQ _ m) λe=>hn (e▸m))
  ·have e1:∀{w},eW k w ((k',l)::g)=(k',l)::eW k w g:=aB e
   have e2:fK ((k',l)::g) k=fK g k:=aB e;exact ih (λx y z t=>a ((aB e).trans x) (e2.trans y) (λ{w}=>e1.trans (aE _ z)) λm=>(bz.mp m).elim (λq=>e q.symm) t) λ{p} x m y z t u v=>b ((aB e).trans x) (aQ _ m) (e2.symm▸y) z t (λ{w}=>e1▸aE (k'::·) u) λ{w a8} s1 s2=>e1▸ .cons ((s2 aM λe=>hn (e▸m)).trans h1) h0 hq hn (v (e2▸s1) λm'=>s2 (aQ _ m'))
theorem GL.snoc (G:GL σ0 σ q g ps) (h:σ r=some (.list l)) (h0:σ0 r=none) (hq:r≠q) (hn:r∉ps):GL σ0 σ q (g++ [(k,l)]) (ps++ [r]):=by
 induction G with
 |nil=>exact .cons h h0 hq bx .nil
 |cons h1 h2 h3 h4 r' ih=>exact .cons h1 h2 h3 (λm=>(cM.mp m).elim h4 λe=>hn (b3.mp e▸aM)) (ih λm=>hn (aQ _ m))
theorem Hj (h:σ q=none):GD σ (upd σ q (.dict [] [])) q [] []:=⟨uS ..,h, .nil,(cP.refl σ).upd h (λ_ h=>a_ h rfl)⟩
theorem AY (G:GD σ0 σ q g ps) (hk:aR 8 k=true) (hl:g.length<lim) (hr:σ r=none) (h:∀{p uW},WU σ0 uW q g k p->K (.ref p) uW):Bf (upd σ r (.list [])) K (.ref q) [k, .ref r]:=by
 have rq:r≠q:=aL (b8 G.d hr);have r0:=G.fr.new hr;have hd:upd σ r (.list []) q=some (.dict (fO g) (ps.map .ref)):=(uN (aL rq)).trans G.d;have rn:=G.l.not hr;have F:=G.fr.upd (mo:= .list []) r0 (λ_ h=>a_ h rfl);refine .mk hd hk ((b0 (as:=g) _).symm▸hl) (λu hu=> ?_) λhu=> ?_
 ·refine G.l.hit (k:=k) (λx zz zz zz=>bK (x.symm.trans hu)) λ{p} x m y z t e1 v=> ?_
  cases hu.symm.trans x;have pr:p≠r:=λe=>rn (e▸m);exact h ⟨(uN pr).trans y,F,λ{w}=>⟨ps,a6 e1 ((uN (aL t)).trans hd),G.q0,v (uS ..) λm' n=>(uN n).trans (uN λe=>rn (e▸m')),F.upd z (λ_ h=>a_ h rfl)⟩⟩
 ·refine G.l.hit (k:=k) (λx e0 e1 nk=>h ?_) λx zz zz zz zz zz zz=>cy (x.symm.trans hu)
  have F2:=F.upd (mo:= .dict (fO g++ [k]) (ps.map .ref++ [.ref r])) G.q0 (λ_ h=>a_ h rfl);refine⟨by exact a6 e0 ((uN rq).trans (uS ..)),F2,λ{w}=>⟨ps++ [r], ?_,G.q0, ?_,F2.upd r0 (λ_ h=>a_ h rfl)⟩⟩
  ·have ek:fO (g++ [(k, [w])])=fO g++ [k]:=iR
   have ep:(ps++ [r]).map V.ref=ps.map V.ref++ [.ref r]:=iR;exact a6 e1 (a6 ek (a6 ep ((uN (aL rq)).trans (uS ..))))
  ·refine a6 e1 (a6 e0 ?_)
   exact(G.l.mono λ{p} m=>have n:p≠r:=λe=>rn (e▸m);(uN n).trans ((uN λe:p=q=>G.l.W0 (e▸m)).trans (uN n))).snoc (uS ..) r0 rq rn
noncomputable def oh (kf vf:V->V) (ts:List V) (g:List (V×List V)):List (V×List V):=ts.foldl (λg t=>eW (kf t) (vf t) g) g
theorem Fm:fK (eW k v g) k'=if k=k' then fK g k++ [v] else fK g k':=by
 induction g with
 |nil=>exact ite_congr rfl (λzz=>rfl) λzz=>rfl
 |cons x g ih=>
  by_cases e:x.1=k
  ·rewrite [show eW k v (x::g)=(x.1,x.2++ [v])::g from aF e,show fK (x::g) k=x.2 from aF e];refine a6 (aT e) ?_
   by_cases e':x.1=k'
   ·exact a6 (aF e') (aF e')
   ·exact a6 (aB e') ((aB e').trans (aB e').symm)
  ·rw [show eW k v (x::g)=x::eW k v g from aB e,show fK (x::g) k=fK g k from aB e]
   by_cases e':x.1=k'
   ·rw [aB λq=>e (e'.trans q.symm)];exact(aF e').trans (aF e').symm
   ·exact(aB e').trans (ih.trans (ite_congr rfl (λzz=>rfl) λzz=>(aB e').symm))
theorem zi:fK (oh kf vf ts g) k=fK g k++(ts.filter λt=>decide (kf t=k)).map vf:=by
 induction ts generalizing g with
 |nil=>exact(d6 _).symm
 |cons t ts ih=>
  refine ih.trans (a6 Fm ?_);by_cases e:kf t=k
  ·refine a6 (aF e) (a6 (List.filter_cons_of_pos (p:=λt=>decide (kf t=k)) (bQ e)) (a6 e ?_));rw [bP];rfl
  ·exact a6 (aB e) (a6 (List.filter_cons_of_neg (p:=λt=>decide (kf t=k)) (a6 (dD e) de)) rfl)
theorem Qc (h:k∉fO g):eW k v g=g++ [(k, [v])]:=by
 induction g with
 |nil=>rfl
 |cons x g ih=>exact(aB λe:x.1=k=>h (e▸aM)).trans (aE _ (ih λm=>h (aQ _ m)))
theorem Fh:fO (eW k v g)=bW k (fO g):=by
 by_cases h:k∈fO g
 ·refine a6 (iA h) ?_
  induction g with
  |nil=>exact absurd h bx
  |cons x g ih=>
   by_cases e:x.1=k
   ·rw [show eW k v (x::g)=(x.1,x.2++ [v])::g from aF e];rfl
   ·rw [show eW k v (x::g)=x::eW k v g from aB e]
    exact aE (x.1::·) (ih ((bz.mp h).resolve_left λq=>e q.symm))
 ·exact a6 (eG h) (a6 (Qc h) iR)
theorem Oq:fO (oh kf vf ts g)=e9 (ts.map kf) (fO g):=by
 induction ts generalizing g with
 |nil=>rfl
 |cons t ts ih=>exact ih.trans (aE (e9 (ts.map kf)) Fh)
theorem PN (h:(d++xs).Nodup):e9 xs d=d++xs:=by
 induction xs generalizing d with
 |nil=>exact(d6 d).symm
 |cons x xs ih=>
  have e:bW x d=d++ [x]:=eG λm=>(ja.mp h).2.2 x m x aM rfl;show e9 xs (bW x d)=_;refine a6 e ?_;rw [ih (by rw [bP];exact h),bP];rfl
theorem Qd:(eW k v g).length<=g.length+1:=by
 have e:∀{g:List (V×List V)},(fO g).length=g.length:=b0 ..;exact a6 (aT e) (a6 (aT (e (g:=g))) (a6 Fh pA))
structure qO (g:List (V×List V)) (j:Nat):Prop where
 n:g.length<=j
 l:∀k,(fK g k).length<=j
theorem An:qO [] 0:=⟨bC _,λzz=>bC _⟩
theorem qO.add (h:qO g j):qO (eW k v g) (j+1):=⟨ay Qd (fe h.n),λk'=>by
 refine a6 Fm ?_;by_cases e:k=k'
 ·exact a6 (aF e) (a6 aP (fe (h.l k)))
 ·exact a6 (aB e) (kT (h.l k'))⟩
theorem GU (nd:l.Nodup) (m:t∈l) (h:∀{x},x∈l->x=t):l= [t]:=by
 induction l with
 |nil=>exact absurd m bx
 |cons a l=>induction l with
  |nil=>exact a6 (h aM) rfl
  |cons b l=>exact absurd ((h aM).trans (h (aQ _ aM)).symm) λe=>(cG.mp nd).1 (e▸aM)
end
noncomputable def iX (t:V):V:=V.casesOn (motive_1:=λzz=>V) t .none (λb=> .none) (λi=> .none) (λn=> .none) (λl=>l.headD .none) (λl=> .none) (λl m=> .none) (λi j=> .none) (λa=> .none) (λa b=> .none)
noncomputable def cC (t:V):V:=V.casesOn (motive_1:=λzz=>V) t .none (λb=> .none) (λi=> .none) (λn=> .none) (λl=> .tup l.tail) (λl=> .none) (λl m=> .none) (λi j=> .none) (λa=> .none) (λa b=> .none)
noncomputable def eU (x:Nat) (b:Mx):List V:=(bg b.ks).filter λt=>decide (iX t= .int x)
noncomputable def mM (x:Nat) (t:V):V:=V.casesOn (motive_1:=λzz=>V) t .none (λb=> .none) (λi=> .none) (λn=> .none) (λl=> .tup (.int x::l)) (λl=> .none) (λl m=> .none) (λi j=> .none) (λa=> .none) (λa b=> .none)
noncomputable def gJ (x:Nat) (b:Mx) (key:V):Int:=gate b.ks b.gs (mM x key)
noncomputable def oc (x:Nat) (b:Mx):Mx:=jl 1 (bg ((eU x b).map cC)) ((bg ((eU x b).map cC)).map (gJ x b))
noncomputable def bS (N:Nat):List V:=(List.range N).flatMap λa=>(List.range N).map (R2 a)
noncomputable def aW (N:Nat):List V:=(List.range N).map R1
section
variable{N x y:Nat} {t t':V} {b:Mx}
theorem v7 (h:N<=3) (m:a<N):a<4:=gg m (ay h (ah rfl))
theorem fW (h:t∈aW N) {G:V->Prop} (k:∀{x},x<N->G (R1 x)):G t:=(bB.mp h).elim λzz dW=>dW.2▸k (dK.mp dW.1)
theorem jG (h:t∈bS N) {G:V->Prop} (k:∀{x y},x<N->y<N->G (R2 x y)):G t:=
 (tP.mp h).elim λa q=>(bB.mp q.2).elim λb r=>r.2▸k (dK.mp q.1) (dK.mp r.1)
theorem fE (h:x<N):R1 x∈aW N:=bB.mpr ⟨x,dK.mpr h,rfl⟩
theorem jj (h:x<N) (h':y<N):R2 x y∈bS N:=tP.mpr ⟨x,dK.mpr h,bB.mpr ⟨y,dK.mpr h',rfl⟩⟩
theorem gk (h:N<=3):UOk (aW N):=⟨λm=>fW m (G:=λx=>iB x=true) λm=>pH (v7 h m),by rewrite [aW,b0];exact a6 gA (ay h (ah rfl))⟩
theorem iz (h:N<=3):UOk (bS N):=by
 refine⟨λm=>jG m (G:=λx=>iB x=true) λ{x y} m m'=>ik.mpr ⟨pH (v7 h m),pH (v7 h m')⟩, ?_⟩;induction N with
 |zero=>exact ah rfl
 |succ N=>induction N with
  |zero=>exact ah rfl
  |succ N=>induction N with
   |zero=>exact ah rfl
   |succ N=>cases Nat.le_zero.mp (o_ (o_ (o_ h)));exact ah rfl
theorem pK (e:(V.int x:V)= .int y):x=y:=Int.ofNat.inj (V.int.inj e)
theorem Eo:t∈eU x b↔t∈b.ks/\iX t= .int x:=by rw [eU,cB,dY,kS]
theorem ro (hb:e7 (bS N) b) (h:t∈eU x b) {G:V->Prop} (k:∀{y},y<N->R2 x y∈b.ks->G (R2 x y)):G t:=
 have h:=Eo.mp h
 jG (hb.sub h.1) (G:=λt=>t∈b.ks->iX t= .int x->G t) (λ{x' y} zz hy m e=>by cases pK (x:=x') e;exact k hy m) h.1 h.2
theorem zu (hb:e7 (bS N) b) (h:t∈eU x b) (h':t'∈eU x b):cC t=cC t'->t=t':=
 ro hb h (G:=λt=>cC t=cC t'->t=t') λ{y} zz zz=>ro hb h' (G:=λt'=>R1 y=cC t'->R2 x y=t') λ{y'} zz zz e=>by
  cases pK (x:=y) (y:=y') (r7 (V.tup.inj e)).1;rfl
theorem zN (hb:e7 (bS N) b):(eU x b).Nodup:=(pO hb.nd).filter _
theorem we (hN:N<=3) (hb:e7 (bS N) b):(eU x b).length<=9:=ay (m5 ..) (jI (iz hN) hb).l9
theorem wX {α β:Type} {f:α->β} {l:List α} (h:∀{x y},x∈l->y∈l->f x=f y->x=y) (nd:l.Nodup):(l.map f).Nodup:=List.pairwise_map.mpr (nd.imp_of_mem λm m' n e=>n (h m m' e))
end
structure dz (σ:St) (c k p d:Addr) (C:aJ):Prop where
 ob:bX σ c 627 [(166, .ref k),(167, .ref p),(28, .ref d)]
 hk:σ k=some (.list C.kinds)
 hp:σ p=some (.list C.parts)
 hd:σ d=some (.dict C.kk (C.kg.map .int))
 kp:k≠p
section
variable{σ σ0:St} {put:aJ->St} {m c k p d:Addr} {C:aJ} {Q:V->St->Prop} {n:Nat} {g:Int} {gv:V} {as:List (Nat×V)} {a A:Addr}
theorem CPut.at_ (h:CPut put c k p d):dz (put C) c k p d C:=⟨h.ob,h.hk,h.hp,h.hd,h.kp⟩
theorem bX.fr (h:bX σ0 a A as) (F:cP σ σ0):bX σ a A as:=h.casesOn λh=> .mk ((F.old (a6 h cy)).trans h)
theorem dz.fr (h:dz σ0 c k p d C) (F:cP σ σ0):dz σ c k p d C:=⟨h.ob.fr F,(F.old (a6 h.hk cy)).trans h.hk,(F.old (a6 h.hp cy)).trans h.hp,(F.old (a6 h.hd cy)).trans h.hd,h.kp⟩
theorem dz.self (h:dz σ c k p d C):iF σ k p d C=σ:=by
 unfold iF;exact a6 (k7 h.hk) (a6 (k7 h.hp) (a6 (k7 h.hd) rfl))
theorem dz.cp (h:dz σ c k p d C):CPut (iF σ k p d) c k p d:=by
 have kd:=dC h.hk h.hd (λh=>a_ h rfl);have pd:=dC h.hp h.hd (λh=>a_ h rfl);refine⟨h.ob.to ((uN (h.ob.ne h.hd (λ_ h=>a_ h rfl))).trans ((uN (h.ob.ne h.hp (λ_ h=>a_ h rfl))).trans (uN (h.ob.ne h.hk (λ_ h=>a_ h rfl))))),(uN kd).trans ((uN h.kp).trans (uS ..)),(uN pd).trans (uS ..),uS .., ?_,h.kp⟩;intro A B;unfold iF;refine a6 (eF (aL kd)) (a6 (eF (aL pd)) ?_);rewrite [eo];refine a6 (eF (aL h.kp)) ?_;rw [eo,eo]
theorem VK (h:dz σ c k p d C) (ok:CR C 1) (q:Q (.int g) σ):(KN (n+3)).aZ 627 158 [.ref c, .int 1, .int g] σ Q:=by
 have:=wj (n:=n) (C:=C) (a:=1) (b:=g) (Q:=Q) h.cp ok;rw [Fp,h.self] at this;exact this q
theorem WQ (h:dz σ c k p d C) (ok:CR C 1) (hg:Sq σ 2 gv [.int g]) (q:Q (.int g) σ):(KN (n+3)).aZ 627 164 [.ref c,gv] σ Q:=by
 have:=E6 (n:=n) (C:=C) (gs:= [g]) (gv:=gv) (Q:=Q) h.cp ok;rw [SE,h.self] at this;exact this hg (ao rfl) q
end
section
variable{σ σ0 τ:St} {put:aJ->St} {m c k p d r q0:Addr} {nn cv:V} {C:aJ} {Q:V->St->Prop} {n N x:Nat} {b:Mx}
theorem Uu (h:τ r=some (.dict ks vs)):cP τ (del τ r):=⟨λ{c} h=>(aB λe:c=r=>h (aF e)).symm,λ{c a} h' e=>by
 by_cases e':c=r
 ·subst e';exact CD (h.symm.trans e) rfl
 ·exact bK (((aB e').symm.trans h').symm.trans e)⟩
noncomputable abbrev gv (b:Mx) (t:V):V:= .int (gate b.ks b.gs t)
theorem Q5 {ps:List Addr} (M:bX σ m 365 [(64, .ref c),(170,nn)]) (h:dz σ c k p d C) (ok:CR C 1) (hN:N<=3) (hb:e7 (bS N) b) (qG:b.ar=2) (G:GD σ0 σ r (oh cC (gv b) (eU x b) []) ps)
  (q:Q (oc x b).v (back σ τ)):sq DF.run (KN (n+3)) (rt Q τ) none [(95, .ref m),(53,(kB x).v),(52,b.v),(55, .ref r),(177,cv)] σ:=by
 have JN:=wX (zu (x:=x) hb) (zN hb);have sub:∀{y},y∈bg ((eU x b).map cC)->y∈aW N:=λm=>by
  obtain⟨t,ht,rfl⟩:=bB.mp (dY.mp m);exact ro hb ht (G:=λt=>cC t∈aW N) λhy zz=>fE hy
 have K:nx (aW N) (bg ((eU x b).map cC)):=⟨pO JN,sub,by refine a6 pI ?_;rw [b0];exact we hN hb⟩;have u1:=gk hN;have ks:fO (oh cC (gv b) (eU x b) [])=(eU x b).map cC:=Oq.trans (PN JN);have D:=G.d;rw [ks] at D;refine go (aV M rfl rfl (sC (sC (.add (.sub (.dict (.ref D) (rb u1 λm=>sub (dY.mpr m)) (by rw [b0];exact az (we hN hb) (ao rfl)) (lb .aa (λkey=>ky key (gJ x b key)) (az K.l9 (ao rfl)) (λkey hk acc kk hl gf=> ?_) ?_)))))))
 ·obtain⟨t,ht,rfl⟩:=bB.mp (dY.mp hk)
  have e1:fK (oh cC (gv b) (eU x b) []) (cC t)= [gv b t]:=zi.trans (by
   rw [GU (l:=(eU x b).filter λt'=>decide (cC t'=cC t)) ((zN hb).filter _) (cB.mpr ⟨ht,bQ rfl⟩) λm=>zu hb (cB.mp m).1 ht (bY (cB.mp m).2)];rfl)
  refine G.l.hit (k:=cC t) (λzz zz zz nk=>absurd (ks▸bB.mpr ⟨t,ht,rfl⟩) nk) λ{p'} l1 zz l2 zz zz zz zz=> ?_;rw [ks] at l1;rw [e1] at l2;have e2:gJ x b (cC t)=gate b.ks b.gs t:=ro hb ht (G:=λt=>gJ x b (cC t)=gate b.ks b.gs t) λzz zz=>rfl;exact bu M rfl rfl (aV h.ob rfl rfl (.dict (.ref D) (K.key u1 hk) l1 (WQ (n:=n) h ok (.ref l2) ⟨hl,e2▸gf⟩)))
 ·refine a6 qG (a6 (show((bg ((eU x b).map cC)).map λkey=>ky key (gJ x b key))=List.zipWith ky (bg ((eU x b).map cC)) ((bg ((eU x b).map cC)).map (gJ x b)) by exact a6 List.zipWith_map_right (a6 List.zipWith_self rfl)) ?_)
  exact K.made u1 (b0 ..) (xl q)
theorem Pd {z:V} (hs:iB z=true) {gs:List Int} {K:V->St->Prop} (q:K (.aa [z]) σ):rA σ K [.aN [z] (gs.map .int)]:= .dict .aN (.row λm=>b3.mp m▸w0 hs) (ao rfl) (z_.symm▸q)
theorem join_rows {ps:List Addr} (M:bX σ0 m 365 [(64, .ref c),(170,nn)]) (h:dz σ0 c k p d C) (ok:CR C 1) (hN:N<=3) (hx:x<N) (hb:e7 (bS N) b) (qG:b.ar=2) (r0:σ0 r=none) (F:cP τ (upd σ0 r (.dict [] []))) {g1:List (V×List V)}
  (G:GD (upd σ0 r (.dict [] [])) τ q0 g1 ps) (eg:fK g1 (.int x)=eU x b) (q:Q (oc x b).v σ0):sq DE.run (KN (n+3)) (rt Q σ0) none [(95, .ref m),(53,(kB x).v),(52,b.v),(55, .ref r),(177, .ref q0)] τ:=by
 have sx:iB (R1 x)=true:=pH (v7 hN hx);have dr:τ r=some (.dict [] []):=(F.old (by rw [uS];exact cy)).trans (uS ..);have F1:cP τ (del τ r):=Uu dr;have F2:cP (del τ r) σ0:=⟨λ{c} hc=>have e:c≠r:=λe=>hc (e▸r0);(aB e).trans ((F.old (a6 (uN e) hc)).trans (uN e)),λ{c a} hc e=>by
  by_cases e':c=r
  ·exact bK (((aF e').symm.trans e:none=some (MO.cx a)))
  ·exact F.nh ((uN e').trans hc) ((aB e').symm.trans e)⟩
 have hc:∃cv,(b_ (V.int x) (fO g1) (ps.map .ref)).getD (.aa [])=cv/\∀{a8},cP a8 (del τ r)->Sq a8 2 cv (eU x b):=by
  refine G.l.hit (k:= .int x) (λe1 e2 zz zz=>⟨.aa [],by refine a6 e1 ?_;rfl,λzz=>(e2.symm.trans eg)▸ .aa⟩) λ{p'} e1 zz e2 e3 zz zz zz=>⟨.ref p',by refine a6 e1 ?_;rfl,λF'=> ?_⟩;have pr:p'≠r:=λe=>bK ((e▸e3:upd σ0 r (.dict [] []) r=none).symm.trans (uS ..));rw [eg] at e2;exact .ref ((F'.old (by rewrite [show del τ r p'=τ p' from aB pr];exact a6 e2 cy)).trans ((aB pr).trans e2))
 obtain⟨cv,yB,hit⟩:=hc;refine go (dZ (Pd sx ⟨.aa, .aa,f1 (go ⟨⟨.ref G.d⟩,dF.mk (eV.last (ao rfl) rfl λpe CM=> .list (uS ..) ((mA CM).symm▸ .mk (.ref G.d) rfl (a6 yB (Am (λj g a8=>(∃ps,GD (del τ r) a8 r g ps)/\qO g j) (λg t=>eW (cC t) (gv b t) g) (λI=>hit I.1.choose_spec.fr) (λ{j g a8 t kk} ht hj I hk=> ?_) (a:= []) ⟨⟨[],dr,aF rfl, .nil,F1⟩,An⟩ λ{a8} I=> ?_))))⟩)⟩))
 ·obtain⟨⟨bF,G'⟩,lj⟩:=I
  have j9:j<lim:=gB (gg hj (we hN hb)) (ao rfl);obtain⟨y,hy,hm,rfl⟩:∃y,y<N/\R2 x y∈b.ks/\t=R2 x y:=ro hb ht (G:=λt=>∃y,y<N/\R2 x y∈b.ks/\t=R2 x y) λhy m=>⟨_,hy,m,rfl⟩;refine f1 (go ⟨⟨.ref G'.d⟩,xg.mk lU (ao rfl) (pX.mk lU (ao rfl) (fH.tup (ao rfl) λq2 CK=>AY G' rfl (az lj.n j9) CK λ{p2 uW} P=> ?_))⟩);have F3:=P.fr.trans F2;exact⟨⟨.ref P.at_⟩,bu (M.fr F3) rfl rfl (aV (h.fr F3).ob rfl rfl (dZ (eV.dict .aN (jF sx) (aF rfl) (dZ (eV.dict .aN (jF ((iz hN).small (hb.sub hm))) (m9 hb.len hm) (VK (n:=n) (h.fr F3) ok (.mk P.at_ (az (lj.l _) j9) (hk ⟨P.add,lj.add⟩))))))))⟩
 ·obtain⟨⟨bF,G'⟩,lj⟩:=I
  have F3:=G'.fr.trans F2;exact⟨.aa,Q5 (M.fr F3) (h.fr F3) ok hN hb qG G' (a6 F3.back q)⟩
theorem Q4 (h:oF put m c k p d nn) (ok:CR C 1) (hN:N<=3) (hx:x<N) (hb:e7 (bS N) b) (qG:b.ar=2) (q:Q (oc x b).v (put C)):(KN (n+4)).aZ 365 32 [.ref m,(kB x).v,b.v] (put C) Q:=by
 have u2:=iz hN;have K:=jI u2 hb;refine bf rfl rfl (go (.mk cY rfl λr hr=> .mk cY rfl λq0 oN=> .mk rfl (go (dZ (rC u2 hb (Am (λj g a8=>(∃ps,GD (upd (put C) r (.dict [] [])) a8 q0 g ps)/\qO g j) (λg t=>eW (iX t) t g) (λzz=> .aa) (λ{j g a8 t kk} ht hj I hk=> ?_) (a:= []) ⟨⟨[],Hj oN⟩,An⟩ λ{a8} I=> ?_))))))
 ·obtain⟨⟨bF,G'⟩,lj⟩:=I
  obtain⟨x',y,jW,hy,rfl⟩:∃x y,x<N/\y<N/\t=R2 x y:=jG (K.sub ht) (G:=λt=>∃x y,x<N/\y<N/\t=R2 x y) λhx hy=>⟨_,_,hx,hy,rfl⟩;have j9:j<lim:=gB (gg hj K.l9) (ao rfl);exact f1 (go ⟨⟨.ref G'.d⟩, .seq (i:=0) (.tup rfl) (ao rfl) rfl λr' CJ=>AY G' rfl (az lj.n j9) CJ λP=>⟨⟨.ref P.at_⟩, .mk P.at_ (az (lj.l _) j9) (hk ⟨P.add,lj.add⟩)⟩⟩)
 ·obtain⟨⟨bF,G'⟩,lj⟩:=I
  exact join_rows h.mo h.at_ ok hN hx hb qG hr G'.fr G' (zi.trans (iS _)) q
end
noncomputable def jq (tl:List Bool) (g:Int):Bool:=tl.getD g.natAbs false==decide (0<g)
noncomputable def wZ (v:V):List Int:=V.casesOn (motive_1:=λzz=>List Int) v [] (λb=> []) (λi=> []) (λn=> []) (λl=>l.map dj) (λl=> []) (λl m=> []) (λi j=> []) (λa=> []) (λa b=> [])
noncomputable def rS (I:List Int) (tl:List Bool) (q:V×V):List Bool:=tl++ [if q.1= .str 66 then decide ((tl.length:Int)∈I) else(wZ q.2).all (jq tl)]
noncomputable def gV (I:List Int) (C:aJ):List Bool:=((C.kinds.zip C.parts).drop 2).foldl (rS I) [false,true]
noncomputable def lt (I:List Int) (C:aJ) (g:Int):Bool:=jq (gV I C) g
structure eu (C:aJ) (g:Int):Prop where
 nz:g≠0
 lt:g.natAbs<C.kinds.length
inductive Wf (i:Nat):V->V->Prop
 |JQ:Wf i (.str 66) (.tup [])
 |and {f:List Int} (l:f.length<=100) (h:∀{x},x∈f->x.natAbs<i):Wf i (.str 45) (fF f)
inductive vG (C:aJ) (key:V) (g:Int):Prop
 |mk {f:List Int} (e:key=fF f) (v:eu C g) (vf:∀{x},x∈f->eu C x) (t:∀I,lt I C g=f.all (lt I C))
structure bO (C:aJ):Prop where
 len:C.kk.length=C.kg.length
 gr:C.parts.length=C.kinds.length
 qh:C.kk.length<=C.kinds.length
 two:2<=C.kinds.length
 wf:∀{i kd p},2<=i->C.kinds[i]? =some kd->C.parts[i]? =some p->Wf i kd p
 ent:∀{key},key∈C.kk->vG C key (gate C.kk C.kg key)
structure Pre (C C':aJ):Prop where
 k:C.kinds<+:C'.kinds
 p:C.parts<+:C'.parts
structure cV (C C':aJ):Prop extends Pre C C' where
 t:C.kk<+:C'.kk
 g:C.kg<+:C'.kg
 two:C.kinds.length=2->C'.kinds.length=2
section
variable{A B C C':aJ} {I:List Int} {g:Int} {tl r:List Bool} {zs:List (V×V)} {kd p key:V}
theorem Pre.refl (C:aJ):Pre C C:=⟨List.prefix_refl _,List.prefix_refl _⟩
theorem Pre.trans (h:Pre A B) (h':Pre B C):Pre A C:=⟨h.k.trans h'.k,h.p.trans h'.p⟩
theorem cV.refl (C:aJ):cV C C:=⟨Pre.refl C,List.prefix_refl _,List.prefix_refl _,id⟩
theorem cV.trans (h:cV A B) (h':cV B C):cV A C:=⟨h.toPre.trans h'.toPre,h.t.trans h'.t,h.g.trans h'.g,λe=>h'.two (h.two e)⟩
theorem cV.gate (s:cV C C') (G:bO C) (h:key∈C.kk):gate C'.kk C'.kg key=gate C.kk C.kg key:=by
 obtain⟨a,ha⟩:=s.t;obtain⟨b,hb⟩:=s.g;exact a6 (aT ha) (a6 (aT hb) (Qb G.len h))
theorem bO.cr (G:bO C) {r:Nat} (h:C.kinds.length+r<lim):CR C r:=⟨G.len,G.gr,G.qh,h⟩
theorem eu.step (h:eu C g) (s:Pre C C'):eu C' g:=⟨h.nz,gg h.lt s.k.length_le⟩
theorem eu.neg (h:eu C g):eu C (-g):=⟨λe=>h.nz (Int.neg_eq_zero.mp e),(Int.natAbs_neg g).symm▸h.lt⟩
theorem u5 (h:2<=C.kinds.length):eu C 1:=⟨by decide,h⟩
theorem w6 (h:2<=C.kinds.length):eu C (-1):=⟨by decide,h⟩
theorem OZ {α:Type} {l:List α} {p q:α->Bool} (h:∀{x},x∈l->p x=q x):l.all p=l.all q:=by
 induction l with
 |nil=>rfl
 |cons x l ih=>exact a6 jc (a6 jc (a6 (h aM) (a6 (ih λm=>h (aQ _ m)) rfl)))
theorem Az (p:Int->Bool):(wZ (fF l)).all p=l.all p:=
 (((nP (l.map .int)).map dj).all_eq).trans (a6 fB (aE (List.all · p) (iS l)))
theorem GJ:tl<+:zs.foldl (rS I) tl:=by
 induction zs generalizing tl with
 |nil=>exact List.prefix_refl _
 |cons z zs ih=>exact(List.prefix_append ..).trans ih
theorem Tu:(zs.foldl (rS I) tl).length=tl.length+zs.length:=by
 induction zs generalizing tl with
 |nil=>rfl
 |cons z zs ih=>exact ih.trans (by rewrite [rS];exact a6 aP (k5 ..))
theorem zW (hp:C.parts.length=C.kinds.length):(C.kinds.zip C.parts).length=C.kinds.length:=by refine a6 List.length_zip (a6 hp ?_);rw [Nat.min_self]
theorem vS (hp:C.parts.length=C.kinds.length) (h2:2<=C.kinds.length):(gV I C).length=C.kinds.length:=Tu.trans (a6 List.length_drop (a6 (zW hp) (Nat.add_sub_cancel' h2)))
theorem DT (hp:C.parts.length=C.kinds.length) (h2:2<=C.kinds.length) (e1:C'.kinds=C.kinds++ks) (e2:C'.parts=C.parts++ps):gV I C'=(ks.zip ps).foldl (rS I) (gV I C):=by
 unfold gV;exact a6 e1 (a6 e2 (a6 (List.zip_append hp.symm) (a6 (List.drop_append_of_le_length ((zW hp).symm▸h2)) (a6 List.foldl_append rfl))))
theorem PZ (h:g.natAbs<tl.length) (s:tl<+:r):jq r g=jq tl g:=by
 obtain⟨t,rfl⟩:=s;unfold jq;exact a6 (iM) (a6 (iM) (a6 (j_ h) rfl))
theorem ub (G:bO C) (s:Pre C C') (h:eu C g):lt I C' g=lt I C g:=by
 obtain⟨a,ha⟩:=s.k;obtain⟨b,hb⟩:=s.p;unfold lt;exact a6 (DT G.gr G.two ha.symm hb.symm) (PZ ((vS G.gr G.two).symm▸h.lt) GJ)
theorem AU (h:g≠0):lt I C (-g)= !lt I C g:=by
 unfold lt jq;rw [Int.natAbs_neg];rcases Int.lt_or_gt_of_ne h with h|h
 ·refine a6 (bQ (Int.neg_pos.mpr h)) (a6 (dD (Int.not_lt.mpr (Int.le_of_lt h))) ?_)
  cases(gV I C).getD g.natAbs false<;>rfl
 ·refine a6 (dD (Int.not_lt.mpr (Int.neg_nonpos_of_nonneg (Int.le_of_lt h)))) (a6 (bQ h) ?_)
  cases(gV I C).getD g.natAbs false<;>rfl
theorem uf:lt I C 1=true:=by
 obtain⟨r,e⟩:=GJ (I:=I) (tl:= [false,true]) (zs:=(C.kinds.zip C.parts).drop 2);unfold lt gV;refine a6 (aT e) ?_;rfl
theorem rU:lt I C (-1)=false:=by refine a6 (AU (by decide)) (a6 uf ?_);rfl
theorem AV {f:List Int} (G:bO C) (s:Pre C C') (h:∀{x},x∈f->eu C x):f.all (lt I C')=f.all (lt I C):=OZ λm=>ub G s (h m)
theorem vG.step (h:vG C key g) (G:bO C) (s:Pre C C'):vG C' key g:=by
 induction h with
 |mk e v vf t=>exact⟨e,v.step s,λm=>(vf m).step s,λI=>(ub G s v).trans ((t I).trans (AV G s vf).symm)⟩
theorem zG (G:bO C) (hk:C'.kinds=C.kinds++ [kd]) (hp:C'.parts=C.parts++ [p]):Pre C C'/\C'.kinds.length=C.kinds.length+1/\C'.parts.length=C'.kinds.length/\eu C' C.kinds.length/\∀I,lt I C' C.kinds.length=if kd= .str 66 then decide ((C.kinds.length:Int)∈I) else(wZ p).all (lt I C):=by
 have l:C'.kinds.length=C.kinds.length+1:=by refine a6 hk (a6 aP ?_);rfl
 have z:(0:Int)<C.kinds.length:=Int.natCast_pos.mpr (gg (by decide) G.two);refine⟨⟨⟨_,hk.symm⟩,⟨_,hp.symm⟩⟩,l,by refine a6 l (a6 hp (a6 aP (a6 G.gr ?_)));rfl,⟨Int.ne_of_gt z,by rewrite [Int.natAbs_natCast];exact a6 l (tO _)⟩,λI=> ?_⟩;have tl:=vS (I:=I) G.gr G.two;unfold lt;refine a6 (DT G.gr G.two hk hp) ?_;show((gV I C++ [_]).getD _ false==_)=_;rewrite [Int.natAbs_natCast];refine a6 (bQ z) ?_;rewrite [beq_true];refine a6 (iM) ?_
 conv=>lhs;rw [<-tl,List.getElem?_concat_length]
 show(if kd= .str 66 then decide (((gV I C).length:Int)∈I) else _)=_;exact a6 tl rfl
theorem Et (G:bO C) (hk:C'.kinds=C.kinds++ [kd]) (hp:C'.parts=C.parts++ [p]) (w:Wf C.kinds.length kd p) (len:C'.kk.length=C'.kg.length) (kl:C'.kk.length<=C'.kinds.length) (ent:∀{key},key∈C'.kk->vG C' key (gate C'.kk C'.kg key)):bO C':=by
 obtain⟨-,l,lp,-,-⟩:=zG G hk hp;refine⟨len,lp,kl,l▸kT G.two,λ{i Ze p'} hi e1 e2=> ?_,ent⟩;rw [hk] at e1;rw [hp] at e2;by_cases h:i<C.kinds.length
 ·exact G.wf hi ((j_ h).symm.trans e1) ((j_ (G.gr.symm▸h)).symm.trans e2)
 ·have h':i=C.kinds.length:=Nat.le_antisymm (Nat.le_of_lt_succ (by have:=(qS.mp e1).1;rwa [aP] at this)) (Nat.le_of_not_lt h)
  subst h';cases List.getElem?_concat_length.symm.trans e1;rw [<-G.gr] at e2;cases List.getElem?_concat_length.symm.trans e2;exact w
end
inductive Dz (C:aJ) (gs f:List Int):Option (List Int)->Prop
 |none (h:∀I,(gs.all (lt I C)&&f.all (lt I C))=false):Dz C gs f .none
 |some {f':List Int} (v:∀{x},x∈f'->eu C x) (a:∀I,f'.all (lt I C)=(gs.all (lt I C)&&f.all (lt I C))) (n:∀{x},x∈f'->x∈f\/(x≠1/\x≠-1)) (l:f'.length<=f.length+gs.length):Dz C gs f (.some f')
theorem QT:(fM g f).all (lt I C)=(lt I C g&&f.all (lt I C)):=by
 unfold fM;by_cases h:g=1
 ·refine a6 (aF (.inl h)) (a6 h (a6 uf ?_));rw [Bool.true_and]
 ·by_cases h':g∈f
  ·refine a6 (aF (.inr h')) ?_
   cases e:lt I C g with
   |true=>rw [Bool.true_and]
   |false=>rw [Bool.false_and,List.all_eq_false];exact⟨g,h',by refine a6 e ?_;decide⟩
  ·refine a6 (aB λc=>c.elim h h') (a6 List.all_append (a6 jc (a6 List.all_nil ?_)));rw [k6,Bool.and_comm]
theorem FD (m:x∈fM g f):x∈f\/x=g/\g≠1:=by
 unfold fM at m;by_cases h:g=1\/g∈f
 ·rw [aF h] at m;exact .inl m
 ·rw [aB h] at m;exact(cM.mp m).imp id λm=>⟨b3.mp m,λe=>h (.inl e)⟩
theorem QS:(fM g f).length<=f.length+1:=by
 unfold fM
 split
 ·exact gU _
 ·exact gh aP
theorem MC (hg:∀{x},x∈gs->eu C x) (hf:∀{x},x∈f->eu C x):Dz C gs f (ji gs f):=by
 induction gs generalizing f with
 |nil=>exact .some hf (λI=>rfl) .inl (bC _)
 |cons g r ih=>
  have hv:=hg aM;by_cases h:g= -1\/-g∈f
  ·rw [show ji (g::r) f=none from aF h]
   refine .none λI=>a6 jc ?_;rcases h with rfl|h
   ·refine a6 rU ?_;rfl
   ·cases e:lt I C g with
    |false=>rfl
    |true=>refine a6 (show f.all (lt I C)=false from List.all_eq_false.mpr ⟨-g,h,by refine a6 (AU hv.nz) (a6 e ?_);decide⟩) ?_;rw [Bool.and_false]
  ·rw [show ji (g::r) f=ji r (fM g f) from aB h]
   have e:∀{I},((g::r).all (lt I C)&&f.all (lt I C))=(r.all (lt I C)&&(fM g f).all (lt I C)):=λ{I}=>by
    refine a6 QT (a6 jc ?_);rw [Bool.and_comm (lt I C g),Bool.and_assoc]
   have i:=ih (f:=fM g f) (λm=>hg (aQ _ m)) λm=>(FD m).elim hf λq=>q.1▸hv
   revert i
   generalize ji r (fM g f)=o;intro i;induction i with
   |none h'=>exact .none λI=>e.trans (h' I)
   |some v a n l=>exact .some v (λI=>(a I).trans e.symm) (λm=>(n m).elim (λm=>(FD m).elim .inl λq=> .inr ⟨q.1▸q.2,q.1▸λc=>h (.inl c)⟩) .inr) (ay l (ay (bG QS _) (gh (k5 ..))))
structure Fr (S:Type) where
 good:S->Prop
 step:S->S->Prop
 own:S->S->Prop
 refl:∀{X},own X X
 GR:∀{X Y Z},own X Y->own Y Z->own X Z
 os:∀{X Y},own X Y->step X Y
 trans:∀{X Y Z},step X Y->step Y Z->step X Z
 room:S->Nat->Prop
 less:∀{X r s},room X r->s<=r->room X s
structure lX {S α:Type} (F:Fr S) (g:S->α×S) (k:Nat) (P:S->α->Prop) (X:S):Prop where
 own:F.own X (g X).2
 good:F.good (g X).2
 res:P (g X).2 (g X).1
 room:∀{r},F.room X (r+k)->F.room (g X).2 r
 again:∀{Y},F.good Y->F.step (g X).2 Y->g Y=((g X).1,Y)
def Rn (F:Fr S) (X0:S) (g:S->α×S) (k:Nat) (P:S->α->Prop):Prop:=∀X,F.good X->F.step X0 X->lX F g k P X
noncomputable def eA (f:β->S->α×S):List β->S->List α×S
 | [],X=>([],X)
 |x::xs,X=>((f x X).1::(eA f xs (f x X).2).1,(eA f xs (f x X).2).2)
section
variable{S α β:Type} {F:Fr S} {X0 X1:S} {f g:S->α×S} {k k':Nat} {P P':S->α->Prop}
theorem Fr.re (F:Fr S):F.step X X:=F.os F.refl
theorem lX.step (h:lX F g k P X):F.step X (g X).2:=F.os h.own
theorem wU (e:g X=(a,X')) (o:F.own X X') (G:F.good X') (p:P X' a) (r:∀{r},F.room X (r+k)->F.room X' r) (ag:∀{Y},F.good Y->F.step X' Y->g Y=(a,Y)):lX F g k P X:=
 ⟨by exact a6 e o,by exact a6 e G,by exact a6 e p,λh=>by exact a6 e (r h),λGY sY=>by rw [e] at sY⊢;exact ag GY sY⟩
theorem Rn.pure (h:∀{X},F.good X->F.step X0 X->P X a):Rn F X0 (λX=>(a,X)) 0 P:=λX G s=>⟨F.refl,G,h G s,id,λzz zz=>rfl⟩
theorem Rn.later (h:Rn F X0 g k P) (s:F.step X0 X1):Rn F X1 g k P:=λX G t=>h X G (F.trans s t)
theorem Rn.weak (h:Rn F X0 g k P) (hk:k<=k') (hP:∀{X a},F.good X->F.step X0 X->P X a->P' X a):Rn F X0 g k' P':=λX G s=>
 have r:=h X G s;⟨r.own,r.good,hP r.good (F.trans s r.step) r.res,λq=>r.room (F.less q (aU hk _)),r.again⟩
theorem Rn.bind {g:α->S->β×S} {Q:S->β->Prop} (h:Rn F X0 f k P) (hg:∀{X a},F.good X->F.step X0 X->P X a->Rn F X (g a) k' Q):Rn F X0 (λX=>g (f X).1 (f X).2) (k+k') Q:=λX G s=>by
 have r:=h X G s;have i:=hg r.good (F.trans s r.step) r.res _ r.good F.re;refine⟨F.GR r.own i.own,i.good,i.res,λ{q} e=>i.room (r.room (by rwa [bH,c0 k'])),λ{Y} GY sY=> ?_⟩;show g (f Y).1 (f Y).2=_;exact a6 (r.again GY (F.trans i.step sY)) (i.again GY sY)
theorem Rn.res (h:Rn F X0 g k P) (f:α->β) (hQ:∀{X a},F.good X->F.step X0 X->P X a->Q X (f a)):Rn F X0 (λX=>(f (g X).1,(g X).2)) k Q:=
 λX G s=>have r:=h X G s;⟨r.own,r.good,hQ r.good (F.trans s r.step) r.res,r.room,λ{Y} GY sY=>by show(f (g Y).1,(g Y).2)=_;exact a6 (r.again GY sY) rfl⟩
theorem Rn.map {f:β->S->α×S} {P:S->β->α->Prop} (mono:∀{X Y x a},F.good X->F.good Y->F.step X Y->P X x a->P Y x a) {xs:List β} (h:∀{x},x∈xs->Rn F X0 (f x) k λX a=>P X x a):Rn F X0 (eA f xs) (k*xs.length) λX as=>as.length=xs.length/\∀{q},q∈xs.zip as->P X q.1 q.2:=by
 induction xs generalizing X0 with
 |nil=>exact Rn.pure λzz zz=>⟨rfl,λm=>absurd m bx⟩
 |cons x xs ih=>
  have e:k*(x::xs).length=k+k*xs.length:=c0 ..;refine a6 e (Rn.bind (f:=f x) (g:=λa X=>(a::(eA f xs X).1,(eA f xs X).2)) (h aM) λ{X a} G s hP=> ?_);have i:=ih λm=>(h (aQ _ m)).later s;refine λY GY sY=>have r:=i Y GY sY;⟨r.own,r.good,⟨aE Nat.succ r.res.1,λ{q} m=>(bz.mp m).elim (λe=>e▸mono G r.good (F.trans sY r.step) hP) r.res.2⟩,r.room,λ{Z} GZ sZ=> ?_⟩;show(a::(eA f xs Z).1,(eA f xs Z).2)=_;exact a6 (r.again GZ sZ) rfl
end
noncomputable def FC:Fr aJ:=⟨bO,cV,cV,cV.refl _,cV.trans,id,cV.trans,λC r=>C.kinds.length+r<lim,λh k=>az (aU k _) h⟩
structure bV (C:aJ) (g:Int) (b:List Int->Bool):Prop where
 v:eu C g
 t:∀I,lt I C g=b I
section
variable{C C' C0:aJ} {g a b:Int} {p q:List Int->Bool} {f gs:List Int}
theorem bV.step (h:bV C g p) (G:bO C) (s:Pre C C'):bV C' g p:=⟨h.v.step s,λI=>(ub G s h.v).trans (h.t I)⟩
theorem bV.neg (h:bV C g p):bV C (-g) λI=> !p I:=⟨h.v.neg,λI=>(AU h.v.nz).trans (aE _ (h.t I))⟩
theorem bV.congr (h:bV C g p) (e:∀I,p I=q I):bV C g q:=⟨h.v,λI=>(h.t I).trans (e I)⟩
theorem Tg (G:bO C) (fv:∀{x},x∈f->eu C x) (fn:∀{x},x∈f->x≠1/\x≠-1) (hf:¬f.length<2) (fl:f.length<=100) (nk:fF f∉C.kk):cV C (hY C f)/\bO (hY C f)/\bV (hY C f) C.kinds.length (λI=>f.all (lt I C))/\(hY C f).kinds.length=C.kinds.length+1:=by
 obtain⟨s,l,-,v,t⟩:=zG (C':=hY C f) G rfl rfl;have t:=λI=>(t I).trans ((aB (gW (by decide))).trans (Az _));have l1:∀{α:Type} {l:List α} {x:α},(l++ [x]).length=l.length+1:=aP;have ln:C.kinds.length≠2:=λe=>by
  induction f with
  |nil=>exact hf (by decide)
  |cons x f=>
   have h1:=fv aM;have h2:=fn aM;exact(IM (e▸h1.lt) h1.nz).elim h2.1 h2.2
 have st:cV C (hY C f):=⟨s,List.prefix_append ..,List.prefix_append ..,λe=>absurd e ln⟩;refine⟨st,Et (C':=hY C f) G rfl rfl (.and fl λm=>(fv m).lt) (l1.trans ((aE Nat.succ G.len).trans l1.symm)) (by show(C.kk++ [_]).length<=_;exact a6 l1 (a6 l (fe G.qh))) λ{key} m=> ?_,⟨v,t⟩,l⟩;by_cases h:key∈C.kk
 ·exact a6 (st.gate G h) ((G.ent h).step G s)
 ·cases b3.mp ((cM.mp m).resolve_left h)
  rw [show gate (hY C f).kk (hY C f).kg (fF f)=C.kinds.length from zP G.len h];exact⟨rfl,v,λm=>(fv m).step s,λI=>(t I).trans (AV G s fv).symm⟩
theorem Fo (G:bO C) (hl:gs.length<=100) (hv:∀{x},x∈gs->eu C x):lX FC (λC=>bA C gs) 1 (λC g=>bV C g λI=>gs.all (lt I C)) C:=by
 have BJ:∀{g},bV C g (λI=>gs.all (lt I C))->(∀{Y},bO Y->cV C Y->bA Y gs=(g,Y))->lX FC (λC=>bA C gs) 1 (λC g=>bV C g λI=>gs.all (lt I C)) C:=λh1 h2=>wU (h2 G (cV.refl C)) (cV.refl C) G h1 (λh=>FC.less h (gU _)) h2;have D8:=MC (f:= []) hv λm=>absurd m bx
 revert D8
 generalize eg:ji gs []=o;intro D8;have ee:∀{Y},bA Y gs=o.elim (-1,Y) (mK Y):=λ{Y}=>aE (λo=>Option.elim o (-1,Y) (mK Y)) eg;induction D8 with
 |none h=>exact BJ ⟨w6 G.two,λI=>by refine a6 rU (a6 (aT (h I)) (a6 List.all_nil ?_));rw [k6]⟩ λzz zz=>ee
 | @some f v a n l=>
  have fa:∀{I},f.all (lt I C)=gs.all (lt I C):=λ{I}=>(a I).trans (k6 _);have ee:∀{Y},bA Y gs=mK Y f:=ee;by_cases hf:f.length<2
  ·refine BJ (g:=f.headD 1) ?_ λzz zz=>ee.trans (aF hf)
   induction f with
   |nil=>exact⟨u5 G.two,λI=>uf.trans fa⟩
   |cons g f=>induction f with
    |nil=>exact⟨v aM,λI=>(k6 _).symm.trans fa⟩
    |cons _ _=>exact absurd hf (iq.mpr (cn 2 _))
  ·have e1:∀{Y},fF f∈Y.kk->bA Y gs=(gate Y.kk Y.kg (fF f),Y):=λh=>ee.trans ((aB hf).trans (aF h))
   by_cases hk:fF f∈C.kk
   ·refine BJ (g:=gate C.kk C.kg (fF f)) ?_ λ{Y} GY sY=>(e1 (sY.t.subset hk)).trans (a6 (sY.gate G hk) rfl)
    cases G.ent hk with
    |mk e v' vf t=>exact⟨v',λI=>by refine a6 (t I) (a6 (aT fa) (a6 (aT (Az (lt I C))) (a6 (aT e) ?_)));rw [Az]⟩
   ·have e2:bA C gs=((C.kinds.length:Int),hY C f):=ee.trans ((aB hf).trans (aB hk))
    obtain⟨s,G',g',l'⟩:=Tg G v (λm=>(n m).resolve_left bx) hf (ay l (by refine a6 kX ?_;rw [di];exact hl)) hk;have e3:gate (hY C f).kk (hY C f).kg (fF f)=C.kinds.length:=zP G.len hk;have gf:fF f∈(hY C f).kk:=ij _ aM;refine wU e2 s G' (g'.congr λI=>fa.trans (AV G s.toPre hv).symm) (λ{r} h=> ?_) λ{Y} GY sY=>by rewrite [e1 (sY.t.subset gf),sY.gate G' gf];exact a6 e3 rfl
    show(hY C f).kinds.length+r<lim;refine a6 l' ?_;rw [k5];exact h
end
section
variable{C C0:aJ} {a b:Int} {p q:List Int->Bool}
theorem nR (G0:bO C0) (ha:bV C0 a p) (hb:bV C0 b q):Rn FC C0 (λC=>bA C [a,b]) 1 λC g=>bV C g λI=>p I&&q I:=λC G (s:cV C0 C)=>by
 have ha:=ha.step G0 s.toPre;have hb:=hb.step G0 s.toPre;have r:=Fo (gs:= [a,b]) G (ah rfl) λm=>(bz.mp m).elim (λe=>e▸ha.v) λm=>b3.mp m▸hb.v;refine⟨r.own,r.good,r.res.congr λI=> ?_,r.room,r.again⟩;have s':cV C _:=r.own;refine a6 jc (a6 jc (a6 List.all_nil ?_));rw [k6,ub G s'.toPre ha.v,ub G s'.toPre hb.v,ha.t,hb.t]
theorem SG (G0:bO C0) (ha:bV C0 a p) (hb:bV C0 b q):Rn FC C0 (λC=>j2 C [a,b]) 1 λC g=>bV C g λI=>p I||q I:=
 (nR G0 ha.neg hb.neg).res (λg=> -g) λzz zz h=>h.neg.congr λI=>by cases p I<;>cases q I<;>rfl
theorem Ai (G0:bO C0) (ha:bV C0 a p) (hb:bV C0 b q):Rn FC C0 (λC=>eI C a b) 1 λC g=>bV C g λI=> !p I||q I:=
 (nR G0 ha hb.neg).res (λg=> -g) λzz zz h=>h.neg.congr λI=>by cases p I<;>cases q I<;>rfl
theorem SH (G0:bO C0) (ha:bV C0 a p) (hb:bV C0 b q):Rn FC C0 (λC=>lH C a b) 3 λC g=>bV C g λI=>p I==q I:=by
 refine Rn.bind (k:=1) (k':=2) (f:=λC=>eI C a b) (g:=λx C=>bA (eI C b a).2 [x,(eI C b a).1]) (Ai G0 ha hb) λ{C1 x} G1 (s1:cV C0 C1) hx=>Rn.bind (k:=1) (k':=1) (f:=λC=>eI C b a) (g:=λy C=>bA C [x,y]) (Ai G1 (hb.step G0 s1.toPre) (ha.step G0 s1.toPre)) λ{C2 y} G2 (s2:cV C1 C2) hy=> ?_;exact(nR G2 (hx.step G1 s2.toPre) hy).weak (bC _) λzz zz h=>h.congr λI=>by cases p I<;>cases q I<;>rfl
theorem Sf:b6 f xs=eA f xs:=by
 induction xs with
 |nil=>rfl
 |cons x xs ih=>exact eR λC=>aE (λr:List Int×aJ=>((f x C).1::r.1,r.2)) (congrFun ih (f x C).2)
structure fi (C:aJ) (xs:List V) (gs:List Int) (d:List Int->V->Bool):Prop where
 l:gs.length=xs.length
 g:∀{i:Nat} {x:V} {g:Int},xs[i]? =some x->gs[i]? =some g->bV C g λI=>d I x
variable{xs:List V} {gs:List Int} {d d':List Int->V->Bool} {x:V} {k:Nat}
theorem zip_get {α β:Type} {as:List α} {bs:List β} {i:Nat} {a:α} {b:β} (h:as[i]? =some a) (h':bs[i]? =some b):(a,b)∈as.zip bs:=cA (i:=i) (List.getElem?_zip_eq_some.mpr ⟨h,h'⟩)
theorem u7 (h:∀{x},x∈xs->Rn FC C0 (f x) k λC g=>bV C g λI=>d I x):Rn FC C0 (b6 f xs) (k*xs.length) λC gs=>fi C xs gs d:=by
 exact a6 Sf ((Rn.map (F:=FC) (P:=λC x g=>bV C g λI=>d I x) (λG zz (s:cV _ _) h=>h.step G s.toPre) h).weak (bC _) λzz zz q=>⟨q.1,λe e'=>q.2 (zip_get e e')⟩)
theorem fi.of (h:fi C xs gs d) {g:Int} (m:g∈gs) {G:Prop} (k:∀{x},x∈xs->bV C g (λI=>d I x)->G):G:=by
 obtain⟨i,hi⟩:=qV.mp m;have hx:=dR (h.l▸(qS.mp hi).1:i<xs.length);exact k (cA hx) (h.g hx hi)
theorem fi.all (h:fi C xs gs d) (I:List Int):gs.all (lt I C)=xs.all (d I):=by
 induction xs generalizing gs with
 |nil=>cases f9 h.l;rfl
 |cons x xs ih=>induction gs with
  |nil=>exact kI h.l
  |cons g gs=>refine a6 jc (a6 jc ?_);rw [(h.g (i:=0) rfl rfl).t,ih ⟨d7 h.l,λ{i x g} e e'=>h.g (i:=i+1) e e'⟩]
theorem fi.step (h:fi C xs gs d) (G:bO C) (s:Pre C C'):fi C' xs gs d:=⟨h.l,λe e'=>(h.g e e').step G s⟩
theorem zQ (G0:bO C0) (h9:xs.length<=9) (h:fi C0 xs gs d):Rn FC C0 (λC=>bA C gs) 1 λC g=>bV C g λI=>xs.all (d I):=λC G (s:cV C0 C)=>by
 have h:=h.step G0 s.toPre;have r:=Fo (gs:=gs) G (h.l▸ay h9 (ah rfl)) λm=>h.of m λzz q=>q.v;exact⟨r.own,r.good,r.res.congr λI=>(h.step G (r.own:cV C _).toPre).all I,r.room,r.again⟩
theorem SF (G0:bO C0) (h9:xs.length<=9) (h:fi C0 xs gs d):Rn FC C0 (λC=>j2 C gs) 1 λC g=>bV C g λI=>xs.any (d I):=
 (zQ (gs:=gs.map (-·)) (d:=λI x=> !d I x) G0 h9 ⟨(b0 ..).trans h.l,λe e'=>by
  rw [fc] at e';obtain⟨g,h1,rfl⟩:=l_.mp e';exact(h.g e h1).neg⟩).res (λg=> -g) λzz zz q=>q.neg.congr λI=>by refine a6 List.not_all_eq_any_not ?_;exact aE (xs.any ·) (eR λx=>Bool.not_not _)
structure Mr (U:List V) (C:aJ) (m:Mx) (d:List Int->V->Bool):Prop where
 ok:e7 U m
 nm:∀{g},g∈m.gs->g≠-1
 val:∀{x},x∈U->bV C (gate m.ks m.gs x) λI=>d I x
variable{U:List V} {m m':Mx} {C':aJ} {ar:Int}
theorem Mr.step (h:Mr U C m d) (G:bO C) (s:Pre C C'):Mr U C' m d:=⟨h.ok,h.nm,λm=>(h.val m).step G s⟩
theorem Mr.out (h:Mr U C m d) (hx:x∈U) (hk:x∉m.ks) (I:List Int):d I x=false:=by
 have h1:=(h.val hx).t I;rw [rp hk,rU] at h1;exact h1.symm
theorem Mr.congr (h:Mr U C m d) (e:∀{I x},x∈U->d I x=d' I x):Mr U C m d':=⟨h.ok,h.nm,λm=>(h.val m).congr λI=>e m⟩
theorem Q3:g∈(bj xs gs).2->g≠-1:=by
 induction xs generalizing gs with
 |nil=>exact λm=>absurd m bx
 |cons x xs ih=>induction gs with
  |nil=>exact λm=>absurd m bx
  |cons k gs=>
   by_cases e:k= -1
   ·rw [show bj (x::xs) (k::gs)=bj xs gs from aF e];exact ih
   ·rw [show bj (x::xs) (k::gs)=(x::(bj xs gs).1,k::(bj xs gs).2) from aB e]
    exact λm=>(bz.mp m).elim (λq=>q▸e) ih
theorem Nz (nd:xs.Nodup) (hl:gs.length=xs.length):gate (bj xs gs).1 (bj xs gs).2 x=gate xs gs x:=by
 induction xs generalizing gs with
 |nil=>rfl
 |cons y xs ih=>induction gs with
  |nil=>exact kI hl
  |cons k gs=>
   have ih:=ih (cG.mp nd).2 (d7 hl);by_cases e:k= -1
   ·rewrite [show bj (y::xs) (k::gs)=bj xs gs from aF e];refine a6 ih ?_
    by_cases q:y=x
    ·rewrite [show gate (y::xs) (k::gs) x=k from aF q];refine a6 e ?_;rw [rp λm=>(cG.mp nd).1 (q▸m)]
    ·exact(aB q).symm
   ·rw [show bj (y::xs) (k::gs)=(y::(bj xs gs).1,k::(bj xs gs).2) from aB e]
    exact ite_congr rfl (λzz=>rfl) λzz=>ih
theorem fi.at_ (h:fi C xs gs d) (nd:xs.Nodup) (m:x∈xs):bV C (gate xs gs x) λI=>d I x:=by
 induction xs generalizing gs with
 |nil=>exact absurd m bx
 |cons y xs ih=>induction gs with
  |nil=>exact kI h.l
  |cons g gs=>
   by_cases e:y=x
   ·rw [show gate (y::xs) (g::gs) x=g from aF e];exact e▸h.g (i:=0) rfl rfl
   ·rw [show gate (y::xs) (g::gs) x=gate xs gs x from aB e];exact ih ⟨d7 h.l,λ{i x g} e e'=>h.g (i:=i+1) e e'⟩ (cG.mp nd).2 ((bz.mp m).resolve_left λq=>e q.symm)
theorem u9 (G:bO C) (K:nx U xs) (h:fi C xs gs d) (out:∀{x},x∈U->x∉xs->∀I,d I x=false):Mr U C (jl ar xs gs) d:=by
 refine⟨PV K,Q3,λ{x} hx=> ?_⟩;show bV C (gate (bj xs gs).1 (bj xs gs).2 x) _;refine a6 (Nz K.nd h.l) ?_;by_cases hk:x∈xs
 ·exact h.at_ K.nd hk
 ·exact a6 (rp hk) ⟨w6 G.two,λI=>rU.trans (out hx hk I).symm⟩
theorem A9 (h:x∉bg m.ks):x∉m.ks:=λq=>h (dY.mpr q)
theorem F_ (h:x∉jJ m m'):x∉m.ks:=λq=>h (dY.mpr (rE.mpr (.inr q)))
theorem FZ (h:x∉jJ m m'):x∉m'.ks:=λq=>h (dY.mpr (rE.mpr (.inl q)))
theorem Gy {p:V->Bool} (sub:∀{x},x∈xs->x∈U) (out:∀{x},x∈U->x∉xs->p x=true):xs.all p=U.all p:=by
 rw [ip,cQ,cQ];exact⟨λh x hx=>if hk:x∈xs then h x hk else out hx hk,λh x hx=>h x (sub hx)⟩
theorem Tb {p:V->Bool} (sub:∀{x},x∈xs->x∈U) (out:∀{x},x∈U->x∉xs->p x=false):xs.any p=U.any p:=by
 rw [ip,vQ,vQ];exact⟨λeC=>eC.elim λx dQ=>dQ.elim λhx h=>⟨x,sub hx,h⟩,λe8=>e8.elim λx eN=>eN.elim λhx h=>Classical.byContradiction λhk=>de ((out hx λm=>hk ⟨x,m,h⟩).symm.trans h)⟩
variable(G0:bO C0) (u:UOk U) (ha:Mr U C0 m d) (hb:Mr U C0 m' d')
include G0 u ha
include hb in
theorem Og:Rn FC C0 (λC=>nV C m m') 9 λC r=>r.ar=m.ar/\Mr U C r λI x=>d I x||d' I x:=by
 have K:=v_ u ha.ok hb.ok;refine((u7 (k:=1) (d:=λI x=>d I x||d' I x) λhx=>SG G0 (ha.val (K.sub hx)) (hb.val (K.sub hx))).res (jl m.ar (jJ m m')) λ{C gs} G s h=>⟨rfl,u9 G K h λ{x} hx hk I=> ?_⟩).weak (by rw [px];exact K.l9) λzz zz h=>h;rw [ha.out hx (F_ hk),hb.out hx (FZ hk)];rfl
include hb in
theorem Oh:Rn FC C0 (λC=>nW C m m') 9 λC r=>r.ar=m.ar/\Mr U C r λI x=>d I x&& !d' I x:=by
 have K:=jI u ha.ok;refine((u7 (k:=1) (d:=λI x=>d I x&& !d' I x) λhx=>nR G0 (ha.val (K.sub hx)) (hb.val (K.sub hx)).neg).res (jl m.ar (bg m.ks)) λ{C gs} G s h=>⟨rfl,u9 G K h λ{x} hx hk I=> ?_⟩).weak (by rw [px];exact K.l9) λzz zz h=>h;rw [ha.out hx (A9 hk)];rfl
include hb in
theorem E0:Rn FC C0 (λC=>jg C m m') 10 λC g=>bV C g λI=>U.all λx=> !d I x||d' I x:=by
 have K:=jI u ha.ok;exact (Rn.bind (f:=b6 (λx C=>eI C (gate m.ks m.gs x) (gate m'.ks m'.gs x)) (bg m.ks)) (g:=λgs C=>bA C gs) (u7 (k:=1) (d:=λI x=> !d I x||d' I x) λhx=>Ai G0 (ha.val (K.sub hx)) (hb.val (K.sub hx))) λG s h=>zQ G K.l9 h).weak (by rw [px];exact fe K.l9) λzz zz h=>h.congr λI=>Gy K.sub λ{x} hx hk=>by rw [ha.out hx (A9 hk)];rfl
include hb in
theorem Qf:Rn FC C0 (λC=>mJ C m m') 28 λC g=>bV C g λI=>U.all λx=>d I x==d' I x:=by
 have K:=v_ u ha.ok hb.ok;exact (Rn.bind (f:=b6 (λx C=>lH C (gate m.ks m.gs x) (gate m'.ks m'.gs x)) (jJ m m')) (g:=λgs C=>bA C gs) (u7 (k:=3) (d:=λI x=>d I x==d' I x) λhx=>SH G0 (ha.val (K.sub hx)) (hb.val (K.sub hx))) λG s h=>zQ G K.l9 h).weak (fe (eQ 3 K.l9)) λzz zz h=>h.congr λI=>Gy K.sub λ{x} hx hk=>by rw [ha.out hx (F_ hk),hb.out hx (FZ hk)];rfl
theorem Qe:Rn FC C0 (λC=>oi C m) 1 λC g=>bV C g λI=>U.any λx=>d I x:=by
 have K:=jI u ha.ok;refine(SF (gs:=(bg m.ks).map (gate m.ks m.gs)) (d:=d) G0 K.l9 ⟨b0 ..,λe e'=> ?_⟩).weak (bC _) λzz zz h=>h.congr λI=>Tb K.sub λ{x} hx hk=>ha.out hx (A9 hk) I;rw [fc,e] at e';cases e';exact ha.val (K.sub (cA e))
end
section
variable{C:aJ} {N x y:Nat} {d:List Int->V->Bool} {b:Mx} {U:List V} {r:V} {ar:Int}
theorem AP (G:bO C) (h:r∈U):Mr U C ⟨ar, [r], [1]⟩ λzz z=>decide (z=r):=by
 refine⟨⟨cG.mpr ⟨bx,cY⟩,rfl,λm=>b3.mp m▸h⟩,λm=>by cases b3.mp m;decide,λ{z} hz=> ?_⟩;by_cases e:z=r
 ·subst e
  rw [show gate [z] [1] z=1 from aF rfl];exact⟨u5 G.two,λI=>uf.trans (bQ rfl).symm⟩
 ·rw [rp λm=>e (b3.mp m)]
  exact⟨w6 G.two,λI=>rU.trans (dD e).symm⟩
theorem Sg (G:bO C) (hx:x<N):Mr (aW N) C (kB x) λzz z=>decide (z=R1 x):=AP G (fE hx)
theorem F8 (G:bO C) (hx:x<N) (hy:y<N):Mr (bS N) C (o9 x y) λzz z=>decide (z=R2 x y):=AP G (jj hx hy)
theorem PW (G:bO C) (hN:N<=3) (hx:x<N) (hb:Mr (bS N) C b d):Mr (aW N) C (oc x b) λI z=>d I (mM x z):=by
 have sub:∀{k},k∈bg ((eU x b).map cC)->k∈aW N/\∃y,y<N/\k=R1 y:=λm=>by
  obtain⟨t,ht,rfl⟩:=bB.mp (dY.mp m);exact ro hb.ok ht (G:=λt=>cC t∈aW N/\∃y,y<N/\cC t=R1 y) λhy zz=>⟨fE hy,_,hy,rfl⟩
 refine u9 G ⟨pO (wX (zu hb.ok) (zN hb.ok)),λm=>(sub m).1,by refine a6 pI ?_;rw [b0];exact we hN hb.ok⟩ ⟨b0 ..,λe e'=> ?_⟩ λ{z} hz hk I=> ?_
 ·rw [fc,e] at e'
  cases e';obtain⟨-,y,hy,rfl⟩:=sub (cA e);exact hb.val (jj hx hy)
 ·revert hk
  refine fW hz (G:=λz=>z∉bg ((eU x b).map cC)->d I (mM x z)=false) λ{y} hy hk=>hb.out (jj hx hy) (λm=>hk (dY.mpr (bB.mpr ⟨R2 x y,Eo.mpr ⟨m,rfl⟩,rfl⟩))) I
end
inductive Nd where
 |r0|r1
 |var (x:Nat)
 |pd (x y:Nat)
 |jn (x:Nat)
 |un (a b:Nd)
 |mi (a b:Nd)
 |cp (own f:Nd)
 |c8 (x:Nat) (e:Nd)
 |some (e:Nd)
 |same (x y:Nat)
 |pr (x y:Nat)
 |not (f:Nd)
 |and (f g:Nd)
noncomputable abbrev vV (x:Nat):V:= .tup [.str 27, .str x]
noncomputable abbrev Ct:V:= .tup [.str 30, .int 1]
noncomputable abbrev vP (x y:Nat):V:= .tup [.str 43,vV x,vV y]
noncomputable def Nd.v (nd:Nd):V:=nd.rec (.tup [.str 30, .int 0]) Ct vV vP (λx=> .tup [.str 32,vV x,Ct]) (λzz zz a b=> .tup [.str 38,a,b]) (λzz zz a b=> .tup [.str 39,a,b]) (λzz zz a b=> .tup [.str 35, .tup [.tup [.str 0,a]],b]) (λx zz e=> .tup [.str 40,vV x,e]) (λzz e=> .tup [.str 41,e]) (λx y=> .tup [.str 42,vV x,vV y]) (λx y=> .tup [.str 40,vP x y,Ct]) (λzz f=> .tup [.str 44,f]) λzz zz f g=> .tup [.str 45, .tup [f,g]]
noncomputable abbrev both (a b k:Nat) (x y:Nat):Nat:=if x=a/\y=b then k else 0
noncomputable def Nd.kd (nd:Nd):Nat:=nd.rec 1 3 (λzz=>1) (λzz zz=>3) (λzz=>1) (λzz zz=>both 1 1 1) (λzz zz=>both 1 1 1) (λzz zz=>both 1 2 1) (λzz zz a=>both 1 1 2 a 1) (λzz a=>both 1 1 2 a 1) (λzz zz=>2) (λzz zz=>2) (λzz a=>both 2 2 2 a 2) λzz zz=>both 2 2 2
noncomputable def cm (nd:Nd):Nat:=nd.rec 1 1 (λzz=>1) (λzz zz=>1) (λzz=>2) (λzz zz a b=>a+b+1) (λzz zz a b=>a+b+1) (λzz zz a b=>a+b+1) (λzz zz a=>a+1) (λzz a=>a+1) (λzz zz=>1) (λzz zz=>2) (λzz a=>a+1) λzz zz a b=>a+b+1
theorem c2 (f:α->β->γ) (h:a=a') (h':b=b'):f a b=f a' b':=h▸h'▸rfl
noncomputable def dT (v:V) (i:Nat):V:=V.casesOn (motive_1:=λzz=>V) v .none (λzz=> .none) (λzz=> .none) (λzz=> .none) (λl=>l.getD i .none) (λl=>l.getD i .none) (λzz zz=> .none) (λzz zz=> .none) (λzz=> .none) λzz zz=> .none
noncomputable def BL (v:V):Nat:=V.casesOn (motive_1:=λzz=>Nat) v 0 (λzz=>0) (λzz=>0) (λn=>n) (λzz=>0) (λzz=>0) (λzz zz=>0) (λzz zz=>0) (λzz=>0) λzz zz=>0
noncomputable def vt (v:V):Nat:=BL (dT v 0)
noncomputable def oH (v:V) (i:Nat):Nat:=BL (dT (dT v i) 1)
noncomputable def vA (n:Nat):V->Nd:=n.rec (λzz=> .r0) λzz r v=>
 bif vt v==30 then(bif dj (dT v 1)==0 then .r0 else .r1) else bif vt v==27 then .var (BL (dT v 1)) else bif vt v==43 then .pd (oH v 1) (oH v 2) else bif vt v==32 then .jn (oH v 1) else bif vt v==38 then .un (r (dT v 1)) (r (dT v 2)) else bif vt v==39 then .mi (r (dT v 1)) (r (dT v 2)) else
 bif vt v==35 then .cp (r (dT (dT (dT v 1) 0) 1)) (r (dT v 2)) else bif vt v==40 then(bif vt (dT v 1)==43 then .pr (oH (dT v 1) 1) (oH (dT v 1) 2) else .c8 (oH v 1) (r (dT v 2))) else bif vt v==41 then .some (r (dT v 1)) else bif vt v==42 then .same (oH v 1) (oH v 2) else
 bif vt v==44 then .not (r (dT v 1)) else .and (r (dT (dT v 1) 0)) (r (dT (dT v 1) 1))
theorem wI (i:∀k,vA (k+cm a) a.v=a) (j:∀k,vA (k+cm b) b.v=b) (k:Nat):vA (k+(cm a+cm b)) a.v=a/\vA (k+(cm a+cm b)) b.v=b:=
 ⟨by have:=i (k+cm b);rwa [bH,c0 (cm b)] at this,by have:=j (k+cm a);rwa [bH] at this⟩
theorem Ip:∀k,vA (k+cm nd) nd.v=nd:=by
 induction nd with
 |un a b i j=>exact λk=>have t:=wI i j k;c2 Nd.un t.1 t.2
 |mi a b i j=>exact λk=>have t:=wI i j k;c2 Nd.mi t.1 t.2
 |cp a b i j=>exact λk=>have t:=wI i j k;c2 Nd.cp t.1 t.2
 |and a b i j=>exact λk=>have t:=wI i j k;c2 Nd.and t.1 t.2
 |c8 x a i=>exact λk=>aE (Nd.c8 x) (i k)
 |some a i=>exact λk=>aE Nd.some (i k)
 |not a i=>exact λk=>aE Nd.not (i k)
 |_=>exact λk=>rfl
theorem Nd.Bn {a b:Nd} (h:a.v=b.v):a=b:=by
 have e:=Ip (nd:=a) (cm b);rw [h,c0,Ip (nd:=b)] at e;exact e.symm
structure World where
 n:Nat
 s:Nat->Bool
 r:Nat->Nat->Bool
noncomputable def c7 (env:Nat->Nat) (x a:Nat):Nat->Nat:=λy=>if y=x then a else env y
noncomputable def D (w:World) (nd:Nd):(Nat->Nat)->Nat->Bool:=nd.rec (λzz a=>w.s a) (λzz zz=>false) (λx e a=>a==e x) (λzz zz zz zz=>false) (λx e a=>w.r (e x) a) (λzz zz p q e a=>p e a||q e a) (λzz zz p q e a=>p e a&& !q e a) (λzz zz p q e a=>p e a&&q (c7 e 0 a) 0) (λx zz p e zz=>p e (e x)) (λzz p e zz=>(List.range w.n).any (p e)) (λx y e zz=>e x==e y) (λx y e zz=>w.r (e x) (e y)) (λzz p e zz=> !p e 0) λzz zz p q e zz=>p e 0&&q e 0
noncomputable def sn (xs:List V):List V:=bg (e9 xs [])
noncomputable def FT (nd:Nd):List V:=nd.rec [] [] (λx=>sn [.str x]) (λx y=>sn (sn [.str x]++sn [.str y])) (λx=>sn (sn [.str x]++ [])) (λzz zz a b=>sn (a++b)) (λzz zz a b=>sn (a++b)) (λzz zz a b=>sn (a++b.filter λv=> !decide (v= .str 0))) (λx zz a=>sn (sn [.str x]++a)) (λzz a=>sn a) (λx y=>sn (sn [.str x]++sn [.str y])) (λx y=>sn (sn (sn [.str x]++sn [.str y])++ [])) (λzz a=>sn a) λzz zz a b=>sn (a++b)
section
variable{xs ys:List V} {v:V} {w:World} {nd:Nd} {e e':Nat->Nat} {a x:Nat}
theorem fX:v∈sn xs↔v∈xs:=dY.trans (rE.trans ⟨λh=>h.resolve_right bx, .inl⟩)
theorem cD (h:v∈xs):v∈sn (xs++ys):=fX.mpr (qW _ h)
theorem dO (h:v∈ys):v∈sn (xs++ys):=fX.mpr (ij _ h)
theorem kz:v∈sn [v]:=fX.mpr aM
theorem Th:(∀{x},V.str x∈FT nd->e x=e' x)->D w nd e a=D w nd e' a:=by
 induction nd generalizing e e' a with
 |r0=>exact λzz=>rfl
 |r1=>exact λzz=>rfl
 |var x=>exact λh=>aE (a==·) (h kz)
 |pd x y=>exact λzz=>rfl
 |jn x=>exact λh=>aE (w.r · a) (h (cD kz))
 |un p q i j=>exact λh=>c2 or (i λm=>h (cD m)) (j λm=>h (dO m))
 |mi p q i j=>exact λh=>c2 and (i λm=>h (cD m)) (aE not (j λm=>h (dO m)))
 |cp p q i j=>
  refine λh=>c2 and (i λm=>h (cD m)) (j λ{x} m=> ?_);unfold c7;by_cases e0:x=0
  ·exact a6 (aF e0) (a6 (aF e0) rfl)
  ·refine a6 (aB e0) (a6 (aB e0) ?_)
   exact h (dO (cB.mpr ⟨m,by rw [dD λq=>e0 (V.str.inj q)];rfl⟩))
 |c8 x p i=>
  intro h;show D w p e (e x)=D w p e' (e' x);exact a6 (h (cD kz)) (i λm=>h (dO m))
 |some p i=>exact λh=>aE ((List.range w.n).any ·) (eR λb=>i λm=>h (fX.mpr m))
 |same x y=>exact λh=>c2 (λx y:Nat=>x==y) (h (cD kz)) (h (dO kz))
 |pr x y=>exact λh=>c2 w.r (h (cD (cD kz))) (h (cD (dO kz)))
 |not p i=>exact λh=>aE not (i λm=>h (fX.mpr m))
 |and p q i j=>exact λh=>c2 and (i λm=>h (cD m)) (j λm=>h (dO m))
end
structure TS where
 C:aJ
 qk:List V
 qv:List V
noncomputable abbrev Rt:=TS->V×TS
noncomputable def toMx (v:V):Mx:=⟨dj (dT v 0),V.casesOn (motive_1:=λzz=>List V) (dT v 1) [] (λzz=> []) (λzz=> []) (λzz=> []) (λzz=> []) (λzz=> []) (λks zz=>ks) (λzz zz=> []) (λzz=> []) (λzz zz=> []),V.casesOn (motive_1:=λzz=>List Int) (dT v 1) [] (λzz=> []) (λzz=> []) (λzz=> []) (λzz=> []) (λzz=> []) (λzz vs=>vs.map dj) (λzz zz=> []) (λzz=> []) (λzz zz=> [])⟩
theorem pN (m:Mx):toMx m.v=m:=by
 show(⟨m.ar,m.ks,(m.gs.map V.int).map dj⟩:Mx)=m;refine a6 fB (a6 (show dj∘V.int=id from rfl) ?_);rw [iS]
noncomputable def lc (f:aJ->α×aJ) (X:TS):α×TS:=((f X.C).1,{X with C:=(f X.C).2})
noncomputable def mS (k:V) (f:Rt) (X:TS):V×TS:=(b_ k X.qk X.qv).elim ((f X).1,{(f X).2 with qk:=bW k (f X).2.qk,qv:=cz k (f X).1 (f X).2.qk (f X).2.qv}) λv=>(v,X)
noncomputable def fk (nd:Nd) (f:Rt):Rt:=if FT nd= [] then mS nd.v f else f
noncomputable def cu (a b:V):V:= .tup ((V.casesOn (motive_1:=λzz=>List V) a [] (λzz=> []) (λzz=> []) (λzz=> []) id (λzz=> []) (λzz zz=> []) (λzz zz=> []) (λzz=> []) λzz zz=> [])++V.casesOn (motive_1:=λzz=>List V) b [] (λzz=> []) (λzz=> []) (λzz=> []) id (λzz=> []) (λzz zz=> []) (λzz zz=> []) (λzz=> []) λzz zz=> [])
noncomputable def gG (z:V) (i:Nat):Nat:=(dj (dT z i)).toNat
noncomputable abbrev b9 (z:V):Nat:=gG z 0
noncomputable def kA (g:Rt) (gd:Int) (z:V) (X:TS):(List V×List Int)×TS:=
 let r:=g X
 let q:=lc (b6 (λy C=>bA C [gd,gate (toMx r.1).ks (toMx r.1).gs y]) (bg (toMx r.1).ks)) r.2
 (((bg (toMx r.1).ks).map (cu z),q.1),q.2)
noncomputable def oj (rs:List (List V×List Int)):Mx:=jl 0 (rs.flatMap (·.1)) (rs.flatMap (·.2))
noncomputable def lT (g:V->Rt) (m:Mx) (X:TS):Mx×TS:=
 let r:=eA (λ(q:V×Int) X=>kA (g q.1) q.2 q.1 X) (m.ks.zip m.gs) X
 (oj r.1,r.2)
noncomputable def jt (f:Rt) (gd:Int) (X:TS):Int×TS:=lc (λC=>bA C [gd,dj (f X).1]) (f X).2
noncomputable def cmp (f:V->Rt) (ar:Int) (m:Mx) (X:TS):V×TS:=
 let r:=eA (λ(q:V×Int) X=>jt (f q.1) q.2 X) (m.ks.zip m.gs) X
 ((jl ar m.ks r.1).v,r.2)
noncomputable def m0:Mx:=⟨0, [.tup []], [1]⟩
noncomputable def sd (x:Nat) (g f:(Nat->Nat)->Rt) (e:Nat->Nat) (X:TS):V×TS:=let r:=lT (λzz=>g e) m0 X;cmp (λz=>f (c7 e x (b9 z))) 1 r.1 r.2
noncomputable def xB (x y:Nat) (g h f:(Nat->Nat)->Rt) (e:Nat->Nat) (X:TS):V×TS:=let r:=lT (λzz=>g e) m0 X;let q:=lT (λz=>h (c7 e x (b9 z))) r.1 r.2;cmp (λz=>f (c7 (c7 e x (b9 z)) y (gG z 1))) 2 q.1 q.2
noncomputable def two (f:aJ->Mx->Mx->Mx×aJ) (p q:Rt):Rt:=λX=>let a:=p X;let b:=q a.2;let r:=lc (λC=>f C (toMx a.1) (toMx b.1)) b.2;(r.1.v,r.2)
noncomputable def sr (f:aJ->Mx->Mx->Int×aJ) (p q:Rt):Rt:=λX=>let a:=p X;let b:=q a.2;let r:=lc (λC=>f C (toMx a.1) (toMx b.1)) b.2;(.int r.1,r.2)
noncomputable def I_ (f:aJ->Mx->Int×aJ) (p:Rt):Rt:=λX=>let a:=p X;let r:=lc (λC=>f C (toMx a.1)) a.2;(.int r.1,r.2)
noncomputable def Ji (p q:Rt):Rt:=λX=>let a:=p X;let b:=q a.2;let r:=lc (λC=>bA C [dj a.1,dj b.1]) b.2;(.int r.1,r.2)
noncomputable def J1 (p:Rt):Rt:=λX=>let a:=p X;(.int (0 -dj a.1),a.2)
noncomputable def JO (x:Nat) (p:Rt):Rt:=λX=>let b:=p X;((oc x (toMx b.1)).v,b.2)
noncomputable def qC (m:Mx):Rt:=λX=>(m.v,X)
noncomputable abbrev yl (x y:Nat) (e:Nat->Nat):Rt:=fk (.pd x y) (qC (o9 (e x) (e y)))
noncomputable abbrev sS (aG:Mx):Rt:=fk .r1 (qC aG)
noncomputable abbrev mR (x:Nat) (e:Nat->Nat):Rt:=qC (kB (e x))
noncomputable def run (aI aG:Mx) (nd:Nd):(Nat->Nat)->Rt:=nd.rec (motive:=λzz=>(Nat->Nat)->Rt) (λzz=>fk .r0 (qC aI)) (λzz=>sS aG) mR yl (λx e=>fk (.jn x) (JO (e x) (sS aG))) (λp q r s e=>fk (.un p q) (two nV (r e) (s e))) (λp q r s e=>fk (.mi p q) (two nW (r e) (s e))) (λp q r s e=>fk (.cp p q) (sd 0 r s e))
 (λx p r e=>fk (.c8 x p) (sr jg (mR x e) (r e))) (λp r e=>fk (.some p) (I_ oi (r e))) (λx y e=>fk (.same x y) (sr mJ (mR x e) (mR y e))) (λx y e=>fk (.pr x y) (sr jg (yl x y e) (sS aG))) (λp r e=>fk (.not p) (J1 (r e))) λp q r s e=>fk (.and p q) (Ji (r e) (s e))
noncomputable def iH (aI aG:Mx) (nd:Nd) (e:Nat->Nat):Rt:=nd.casesOn (motive:=λzz=>Rt) (qC aI) (qC aG) (λx=>mR x e) (λx y=>qC (o9 (e x) (e y))) (λx=>JO (e x) (sS aG)) (λp q=>two nV (run aI aG p e) (run aI aG q e)) (λp q=>two nW (run aI aG p e) (run aI aG q e)) (λp q=>sd 0 (run aI aG p) (run aI aG q) e)
 (λx p=>sr jg (mR x e) (run aI aG p e)) (λp=>I_ oi (run aI aG p e)) (λx y=>sr mJ (mR x e) (mR y e)) (λx y=>sr jg (yl x y e) (sS aG)) (λp=>J1 (run aI aG p e)) λp q=>Ji (run aI aG p e) (run aI aG q e)
structure Gv where
 n:Nat
 aI:Mx
 aG:Mx
 d0:List Int->V->Bool
 d1:List Int->V->Bool
 C0:aJ
structure d9 (c:Gv):Prop where
 lo:2<=c.n
 hi:c.n<=3
 G0:bO c.C0
 m0:Mr (aW c.n) c.C0 c.aI c.d0
 a0:c.aI.ar=1
 m1:Mr (bS c.n) c.C0 c.aG c.d1
 a1:c.aG.ar=2
noncomputable def Gv.w (c:Gv) (I:List Int):World:=⟨c.n,λa=>c.d0 I (R1 a),λa b=>c.d1 I (R2 a b)⟩
structure dq (U:List V) (ar:Int) (C:aJ) (v:V) (d:List Int->V->Bool):Prop where
 e:(toMx v).v=v
 ar:(toMx v).ar=ar
 m:Mr U C (toMx v) d
structure iZ (C:aJ) (v:V) (d:List Int->Bool):Prop where
 e: .int (dj v)=v
 g:bV C (dj v) d
abbrev qb (c:Gv) (C:aJ) (v:V) (d:List Int->Nat->Bool):Prop:=dq (aW c.n) 1 C v λI z=>d I (b9 z)
structure cT (c:Gv) (nd:Nd) (e:Nat->Nat) (C:aJ) (v:V):Prop where
 set:nd.kd=1->qb c C v λI a=>D (c.w I) nd e a
 fo:nd.kd=2->iZ C v λI=>D (c.w I) nd e 0
 r1:nd= .r1->dq (bS c.n) 2 C v c.d1/\v=c.aG.v
 pd:∀{x y},nd= .pd x y->v=(o9 (e x) (e y)).v
section
variable{c:Gv} {nd:Nd} {e e':Nat->Nat} {C C':aJ} {v:V} {U:List V} {ar:Int} {d d':List Int->V->Bool} {m:Mx} {p q:List Int->Bool} {g:Int}
theorem dq.mk' (a:m.ar=ar) (h:Mr U C m d):dq U ar C m.v d:=⟨aE Mx.v (pN m),(aE Mx.ar (pN m)).trans a,(pN m).symm▸h⟩
theorem dq.step (h:dq U ar C v d) (G:bO C) (s:Pre C C'):dq U ar C' v d:=⟨h.e,h.ar,h.m.step G s⟩
theorem dq.congr (h:dq U ar C v d) (e:∀{I x},x∈U->d I x=d' I x):dq U ar C v d':=⟨h.e,h.ar,h.m.congr e⟩
theorem iZ.mk' (h:bV C g p):iZ C (.int g) p:=⟨rfl,h⟩
theorem iZ.step (h:iZ C v p) (G:bO C) (s:Pre C C'):iZ C' v p:=⟨h.e,h.g.step G s⟩
theorem iZ.congr (h:iZ C v p) (e:∀I,p I=q I):iZ C v q:=⟨h.e,h.g.congr e⟩
theorem cT.step (h:cT c nd e C v) (G:bO C) (s:Pre C C'):cT c nd e C' v:=⟨λk=>(h.set k).step G s,λk=>(h.fo k).step G s,λk=>⟨(h.r1 k).1.step G s,(h.r1 k).2⟩,h.pd⟩
theorem cT.agree (h:cT c nd e C v) (hf:FT nd= []):cT c nd e' C v:=by
 have key:∀{I a},D (c.w I) nd e a=D (c.w I) nd e' a:=Th λm=>absurd (hf▸m) bx;refine⟨λk=>(h.set k).congr λzz=>key,λk=>(h.fo k).congr λI=>key,h.r1,λ{x y} q=> ?_⟩;subst q;exact absurd (hf▸cD kz:V.str x∈ []) bx
end
theorem PX (h:ks.length=vs.length):b_ k (ks++ [x]) (vs++ [v])=(b_ k ks vs).or (if x=k then some v else none):=by
 induction ks generalizing vs with
 |nil=>cases f9 h.symm;rfl
 |cons y ks ih=>induction vs with
  |nil=>exact eh h
  |cons w vs=>
   by_cases e:y=k
   ·rw [show b_ k (y::ks) (w::vs)=some w from aF e];exact aF e
   ·rw [show b_ k (y::ks) (w::vs)=b_ k ks vs from aB e];exact(aB e).trans (ih (d7 h))
theorem Fb (h:ks.length=vs.length) (e:b_ k ks vs=none):k∉ks:=by
 induction ks generalizing vs with
 |nil=>exact bx
 |cons y ks ih=>induction vs with
  |nil=>exact eh h
  |cons w vs=>
   by_cases q:y=k
   ·exact cy ((aF q).symm.trans e)
   ·exact λm=>(bz.mp m).elim (λr=>q r.symm) (ih (d7 h) ((aB q).symm.trans e))
structure bT (c:Gv) (X:TS):Prop where
 G:bO X.C
 len:X.qk.length=X.qv.length
 s0:Pre c.C0 X.C
 mem:∀{nd v e},b_ (Nd.v nd) X.qk X.qv=some v->FT nd= []->cT c nd e X.C v
structure TStep (X Y:TS):Prop where
 s:cV X.C Y.C
 ent:∀{k v},b_ k X.qk X.qv=some v->b_ k Y.qk Y.qv=some v
structure y4 (l:Nat) (X Y:TS):Prop extends TStep X Y where
 new:∀{k},k∈Y.qk->k∈X.qk\/∃m:Nd,k=m.v/\cm m<=l
structure iD (X:TS) (r:Nat):Prop where
 c:X.C.kinds.length+r<lim
 q:X.qk.length+r<lim
noncomputable def bD (c:Gv) (s:Nat):Fr TS where
 good:=bT c
 step:=TStep
 own:=y4 s
 refl:=⟨⟨cV.refl _,id⟩, .inl⟩
 GR:=λh g=>⟨⟨h.s.trans g.s,λq=>g.ent (h.ent q)⟩,λq=>(g.new q).elim h.new .inr⟩
 os:=λh=>h.toTStep
 trans:=λh g=>⟨h.s.trans g.s,λq=>g.ent (h.ent q)⟩
 room:=iD
 less:=λh q=>⟨az (aU q _) h.c,az (aU q _) h.q⟩
section
variable{c:Gv} {s s' k k' k1 k2 k3:Nat} {X0:TS} {α:Type} {nd:Nd} {e:Nat->Nat} {f p q:Rt} {P:TS->α->Prop}
theorem Rn.grow {f:TS->α×TS} (h:Rn (bD c s) X0 f k P) (l:s<=s'):Rn (bD c s') X0 f k P:=λX G t=>
 have r:=h X G t;have o:y4 s X _:=r.own
 ⟨⟨o.toTStep,λq=>(o.new q).imp id λeD=>eD.elim λm eL=>eL.elim λa b=>⟨m,a,ay b l⟩⟩,r.good,r.res,r.room,r.again⟩
theorem uC {f:aJ->α×aJ} {P:aJ->α->Prop} (h:Rn FC X0.C f k P):Rn (bD c s) X0 (lc f) k λX a=>P X.C a:=λX (G:bT c X) (t:TStep X0 X)=>by
 have r:=h X.C G.G t.s;have s1:cV X.C _:=r.own;exact⟨⟨⟨s1,id⟩, .inl⟩,⟨r.good,G.len,G.s0.trans s1.toPre,λq hf=>(G.mem q hf).step G.G s1.toPre⟩,r.res,λ{q} (e:iD X (q+k))=>⟨r.room e.c,az (aU (aY ..) _) e.q⟩,λ{Y} (GY:bT c Y) (sY:TStep _ Y)=>by unfold lc;rw [r.again GY.G sY.s]⟩
theorem Sd (hf:FT nd= []) (hs:cm nd=s+1) (h:Rn (bD c s) X0 f k λX v=>cT c nd e X.C v):Rn (bD c (s+1)) X0 (mS nd.v f) (k+1) λX v=>cT c nd e X.C v:=λX (G:bT c X) t=>by
 have r:=h X G t;have o:y4 s X _:=r.own;have g:bT c (f X).2:=r.good;cases el:b_ nd.v X.qk X.qv with
 |some v=>
  have e1:∀{Y},TStep X Y->mS nd.v f Y=(v,Y):=λ{Y} sY=>aE (λo=>Option.elim o _ λv=>(v,Y)) (sY.ent el);exact wU (X':=X) (e1 ⟨cV.refl _,id⟩) ⟨⟨cV.refl _,id⟩, .inl⟩ G (G.mem el hf) (λe=>(bD c s).less e (aY ..)) λzz sY=>e1 sY
 |none=>
  have nk:nd.v∉(f X).2.qk:=λm=>(o.new m).elim (Fb G.len el) λeZ=>eZ.elim λm dW=>dW.elim λq l=>by
   rw [<-Nd.Bn q,hs] at l;exact absurd l (Nat.not_succ_le_self _)
  have la:=λ{k'}=>PX (k:=k') (x:=nd.v) (v:=(f X).1) g.len;have e1:mS nd.v f X=((f X).1,⟨(f X).2.C,(f X).2.qk++ [nd.v],(f X).2.qv++ [(f X).1]⟩):=by
   unfold mS;refine a6 el (a6 (aT (eG nk)) (a6 (aT (jH g.len nk)) ?_));rfl
  refine wU e1 ⟨⟨o.s,λq=>la.trans (by refine a6 (o.ent q) ?_;rfl)⟩,λm=>(cM.mp m).elim (λm=>(o.new m).imp id λeY=>eY.elim λm fm=>fm.elim λa b=>⟨m,a,kT b⟩) λm=> .inr ⟨nd,b3.mp m,gh hs⟩⟩ ⟨g.G,by refine a6 aP (a6 aP (a6 g.len ?_));rfl,g.s0,λ{j1 v e'} q yA=> ?_⟩ r.res (λ{m} e=> ?_) λ{Y} zz (sY:TStep _ Y)=>aE (λo=>Option.elim o _ λv=>(v,Y)) (sY.ent (la.trans ?_))
  ·rw [la] at q
   cases e2:b_ j1.v (f X).2.qk (f X).2.qv with
   |some u=>rw [e2] at q;cases q;exact g.mem e2 yA
   |none=>
    rw [e2] at q;by_cases e3:nd.v=j1.v
    ·cases(aF e3).symm.trans q
     exact Nd.Bn e3▸(r.res:cT c nd e _ _).agree hf
    ·exact bK ((aB e3).symm.trans q)
  ·have:iD (f X).2 (m+1):=r.room (by rw [bH,c0 1];exact e)
   exact⟨iP this.c,by show((f X).2.qk++ [_]).length+m<lim;refine a6 aP (a6 m4 ?_);rw [bH,c0 1];exact this.q⟩
  ·exact a6 (r9 nk) (aF rfl)
theorem zX (hs:cm nd=s+1) (h:Rn (bD c s) X0 f k λX v=>cT c nd e X.C v):Rn (bD c (s+1)) X0 (fk nd f) (k+1) λX v=>cT c nd e X.C v:=by
 unfold fk;by_cases hf:FT nd= []
 ·exact a6 (aF hf) (Sd hf hs h)
 ·exact a6 (aB hf) ((h.grow (gU _)).weak (gU _) λzz zz h=>h)
theorem uq {β:Type} {A B:TS->V->Prop} {g:V->V->aJ->β×aJ} {mk:β->V} {Q:aJ->β->Prop} (mono:∀{X Y v},bT c X->TStep X Y->A X v->A Y v) (hp:Rn (bD c s) X0 p k1 A) (hq:∀{X},bT c X->TStep X0 X->Rn (bD c s) X q k2 B)
  (hg:∀{X v w},bT c X->A X v->B X w->Rn FC X.C (g v w) k3 Q):Rn (bD c s) X0 (λX=>let a:=p X;let b:=q a.2;let r:=lc (g a.1 b.1) b.2;(mk r.1,r.2)) (k1+(k2+k3)) λX v=>∃r,v=mk r/\Q X.C r:=
 Rn.bind (f:=p) (g:=λa X=>let b:=q X;let r:=lc (g a b.1) b.2;(mk r.1,r.2)) hp λG t ha=>Rn.bind (f:=q) (g:=λb X=>let r:=lc (g _ b) X;(mk r.1,r.2)) (hq G t) λ{Y b} (GY:bT c Y) tY hb=>(uC (hg GY (mono G tY ha) hb)).res mk λzz zz h=>⟨_,rfl,h⟩
end
abbrev IsT (z:V):Prop:=∃zs,z= .tup zs
theorem QD (hz:IsT z) (t8:IsT z') (h:cu z (R1 a)=cu z' (R1 b)):z=z'/\a=b:=by
 obtain⟨zs,rfl⟩:=hz;obtain⟨X2,rfl⟩:=t8;have h:=List.append_inj' (V.tup.inj h:zs++ [V.int a]=X2++ [V.int b]) rfl;exact⟨aE V.tup h.1,pK (r7 h.2).1⟩
structure OE (c:Gv) (z:V) (d:List Int->V->Bool) (C:aJ) (r:List V×List Int):Prop where
 nd:r.1.Nodup
 sub:∀{y},y∈r.1->∃x,x∈aW c.n/\y=cu z x
 g:fi C r.1 r.2 d
 out:∀{x},x∈aW c.n->cu z x∉r.1->∀I,d I (cu z x)=false
section
variable{c:Gv} {s k L:Nat} {X0:TS} {d d':List Int->V->Bool} {C:aJ} {m:Mx} {U U':List V} {xs ys:List V} {gs hs:List Int}
theorem fi.map (h:fi C xs gs d) (e:∀{x},x∈xs->∀I,d I x=d' I (f x)):fi C (xs.map f) gs d':=⟨h.l.trans (b0 ..).symm,λ{i x g} e1 e2=>by
 rw [fc] at e1;obtain⟨y,e3,rfl⟩:=l_.mp e1;exact(h.g e3 e2).congr λI=>e (cA e3) I⟩
theorem fi.app (h:fi C xs gs d) (h':fi C ys hs d):fi C (xs++ys) (gs++hs) d:=⟨by exact a6 aP (a6 aP (a6 h.l (a6 h'.l rfl))),λ{i x g} e1 e2=>by
 by_cases q:i<xs.length
 ·exact h.g ((j_ q).symm.trans e1) ((j_ (h.l.symm▸q)).symm.trans e2)
 ·have q:=Nat.le_of_not_lt q
  refine h'.g (i:=i -xs.length) ((List.getElem?_append_right q).symm.trans e1) (h.l▸(List.getElem?_append_right (h.l.symm▸q)).symm.trans e2)⟩
theorem fj (h:z∈aW c.n):∃a,a<c.n/\z=R1 a:=fW h (G:=λz=>∃a,a<c.n/\z=R1 a) λh=>⟨_,h,rfl⟩
theorem Ar (hz:IsT z) (t8:IsT z') (hx:x∈aW c.n) (jW:x'∈aW c.n) (h:cu z x=cu z' x'):z=z'/\x=x':=by
 obtain⟨a,_,rfl⟩:=fj hx;obtain⟨b,_,rfl⟩:=fj jW;exact(QD hz t8 h).imp id (aE R1)
theorem FV (O:d9 c) {g:Rt} {gd:Int} {z:V} {p:List Int->Bool} {dg:List Int->V->Bool} (G0:bT c X0) (hz:IsT z) (hg:Rn (bD c s) X0 g k λX v=>dq (aW c.n) 1 X.C v dg) (Yc:bV X0.C gd p) (hd:∀{I x},x∈aW c.n->d' I (cu z x)=(p I&&dg I x)):
  Rn (bD c s) X0 (kA g gd z) (k+9) λX r=>OE c z d' X.C r:=by
 refine Rn.bind (f:=g) (g:=λv X=>(((bg (toMx v).ks).map (cu z),(lc (b6 (λy C=>bA C [gd,gate (toMx v).ks (toMx v).gs y]) (bg (toMx v).ks)) X).1),(lc (b6 (λy C=>bA C [gd,gate (toMx v).ks (toMx v).gs y]) (bg (toMx v).ks)) X).2)) hg λ{X v} (G:bT c X) (t:TStep X0 X) hv=> ?_;have hm:=hv.m;have K:=jI (gk O.hi) hm.ok;refine((uC (u7 (k:=1) (d:=λI x=>p I&&dg I x) λhx=>nR G.G (Yc.step G0.G t.s.toPre) (hm.val (K.sub hx)))).res (λgs=>((bg (toMx v).ks).map (cu z),gs)) λ{Y gs} GY sY h=>⟨wX (λhx hy e=>(Ar hz hz (K.sub hx) (K.sub hy) e).2) K.nd,λm=> ?_,h.map λhx I=>(hd (K.sub hx)).symm,λ{x} hx hk I=> ?_⟩).weak (by rw [px];exact aU K.l9 0|>λh=>by rwa [di,di] at h) λzz zz h=>h
 ·obtain⟨x,hx,rfl⟩:=bB.mp m
  exact⟨x,K.sub hx,rfl⟩
 ·refine a6 (hd hx) ?_;rw [hm.out hx (λq=>hk (tK (dY.mpr q))),Bool.and_false]
theorem SJ {qs:List (V×Int)} {rs:List (List V×List Int)} (hl:rs.length=qs.length) (nd:(qs.map (·.1)).Nodup) (ht:∀{q},q∈qs->IsT q.1) (h:∀{x},x∈qs.zip rs->OE c x.1.1 d C x.2):
  (rs.flatMap (·.1)).Nodup/\(∀{y},y∈rs.flatMap (·.1)->∃q,q∈qs/\∃x,x∈aW c.n/\y=cu q.1 x)/\fi C (rs.flatMap (·.1)) (rs.flatMap (·.2)) d/\∀{q},q∈qs->∀{x},x∈aW c.n->cu q.1 x∉rs.flatMap (·.1)->∀I,d I (cu q.1 x)=false:=by
 induction qs generalizing rs with
 |nil=>cases f9 hl;exact⟨cY,λm=>absurd m bx,⟨rfl,bK⟩,λm=>absurd m bx⟩
 |cons q qs ih=>induction rs with
  |nil=>exact kI hl
  |cons r rs=>
   have j1:=cG.mp nd;obtain⟨i1,i2,i3,i4⟩:=ih (d7 hl) j1.2 (λm=>ht (aQ _ m)) λm=>h (aQ _ m);have o:=h (x:=(q,r)) aM;refine a6 kU (a6 kU ⟨ja.mpr ⟨o.nd,i1,λy hy y' XT e=> ?_⟩,λ{y} m=>(cM.mp m).elim (λm=>⟨q,aM,o.sub m⟩) λm=>(i2 m).elim λq' eC=>eC.elim λa b=>⟨q',aQ _ a,b⟩,o.g.app i3,λ{q'} oO {x} hx hk=>(bz.mp oO).elim (λe=>e▸o.out hx λm=>hk (e▸qW _ m)) λoO=>i4 oO hx λm=>hk (ij _ m)⟩);subst e;obtain⟨x,hx,e1⟩:=o.sub hy;obtain⟨q',oO,x',jW,e2⟩:=i2 XT;exact j1.1 (bB.mpr ⟨q',oO,(Ar (ht aM) (ht (aQ _ oO)) hx jW (e1.symm.trans e2)).1.symm⟩)
theorem w4 (nd:xs.Nodup) (h:(x,g)∈xs.zip gs):gate xs gs x=g:=by
 induction xs generalizing gs with
 |nil=>exact absurd h bx
 |cons y xs ih=>induction gs with
  |nil=>exact absurd h bx
  |cons k gs=>exact(bz.mp h).elim (λe=>by cases e;exact aF rfl) λh=>(aB λe:y=x=>(cG.mp nd).1 (e▸(List.of_mem_zip h).1)).trans (ih (cG.mp nd).2 h)
theorem QV {α β:Type} {as:List α} {bs:List β} (h:as.length=bs.length):(as.zip bs).map (·.1)=as:=List.map_fst_zip (gh h)
theorem AO (O:d9 c) {g:V->Rt} {dg:V->List Int->V->Bool} (G0:bT c X0) (hm:Mr U X0.C m d) (ht:∀{z},z∈U->IsT z) (hL:m.ks.length<=L) (hg:∀{z},z∈m.ks->Rn (bD c s) X0 (g z) k λX v=>dq (aW c.n) 1 X.C v (dg z))
  (hd:∀{z},z∈U->∀{I x},x∈aW c.n->d' I (cu z x)=(d I z&&dg z I x)) (hU:∀{y},y∈U'↔∃z,z∈U/\∃x,x∈aW c.n/\y=cu z x) (h9:U'.length<=9):
  Rn (bD c s) X0 (lT g m) (L*(k+9)) λX m'=>m'.ar=0/\Mr U' X.C m' d':=by
 have yw:(m.ks.zip m.gs).length=m.ks.length:=by refine a6 List.length_zip (a6 (aT hm.ok.len) ?_);rw [Nat.min_self]
 have f7:∀{q:V×Int},q∈m.ks.zip m.gs->q.1∈m.ks:=λ{q} h=>(List.of_mem_zip (show(q.1,q.2)∈_ from h)).1;have main:Rn (bD c s) X0 (eA (λ(q:V×Int) X=>kA (g q.1) q.2 q.1 X) (m.ks.zip m.gs)) ((k+9)*(m.ks.zip m.gs).length) λX rs=>rs.length=(m.ks.zip m.gs).length/\∀{x},x∈(m.ks.zip m.gs).zip rs->OE c x.1.1 d' X.C x.2:=by
  refine Rn.map (F:=bD c s) (P:=λX (q:V×Int) r=>OE c q.1 d' X.C r) (λ{X Y q r} (GX:bT c X) zz (t:TStep X Y) h=>⟨h.nd,h.sub,h.g.step GX.G t.s.toPre,h.out⟩) λ{q} hq=> ?_;have hz:=hm.ok.sub (f7 hq);have hv:=hm.val hz;rw [w4 hm.ok.nd (show(q.1,q.2)∈_ from hq)] at hv;exact FV O G0 (ht hz) (hg (f7 hq)) hv λhx=>hd hz hx
 refine(main.res (Q:=λX m'=>m'.ar=0/\Mr U' X.C m' d') oj λ{X rs} (G:bT c X) t h=>⟨rfl, ?_⟩).weak ?_ λzz zz h=>h
 ·obtain⟨f1,f2,f3,f4⟩:=SJ h.1 (a6 (QV hm.ok.len) hm.ok.nd) (λm=>ht (hm.ok.sub (f7 m))) h.2
  have sub:∀{y},y∈rs.flatMap (·.1)->y∈U':=λm=>(f2 m).elim λq dQ=>dQ.elim λhq e8=>e8.elim λx eN=>eN.elim λhx e=>hU.mpr ⟨q.1,hm.ok.sub (f7 hq),x,hx,e⟩;refine u9 G.G ⟨f1,sub,ay (f1.length_le_of_subset λzz=>sub) h9⟩ f3 λ{y} hy hk I=> ?_;obtain⟨z,hz,x,hx,rfl⟩:=hU.mp hy;by_cases JR:z∈m.ks
  ·obtain⟨i,hi⟩:=qV.mp JR
   have hg:=dR (hm.ok.len▸(qS.mp hi).1:i<m.gs.length);exact f4 (zip_get hi hg) hx hk I
  ·refine a6 (hd hz hx) (a6 (hm.out hz JR I) ?_);rfl
 ·refine a6 yw ?_;rw [Nat.mul_comm];exact m6 _ hL
theorem Hq {f:V->Rt} {ar:Int} {df:V->List Int->Bool} (G0:bT c X0) (hm:Mr U X0.C m d) (hU:UOk U) (hL:m.ks.length<=L) (hf:∀{z},z∈m.ks->Rn (bD c s) X0 (f z) k λX v=>iZ X.C v (df z)):
  Rn (bD c s) X0 (cmp f ar m) (L*(k+1)) λX v=>dq U ar X.C v λI z=>d I z&&df z I:=by
 have yw:(m.ks.zip m.gs).length=m.ks.length:=by refine a6 List.length_zip (a6 (aT hm.ok.len) ?_);rw [Nat.min_self]
 have main:Rn (bD c s) X0 (eA (λ(q:V×Int) X=>jt (f q.1) q.2 X) (m.ks.zip m.gs)) ((k+1)*(m.ks.zip m.gs).length) λX rs=>rs.length=(m.ks.zip m.gs).length/\∀{x},x∈(m.ks.zip m.gs).zip rs->bV X.C x.2 λI=>d I x.1.1&&df x.1.1 I:=by
  refine Rn.map (F:=bD c s) (P:=λX (q:V×Int) r=>bV X.C r λI=>d I q.1&&df q.1 I) (λ{X Y q r} (GX:bT c X) zz (t:TStep X Y) h=>h.step GX.G t.s.toPre) λ{q} hq=> ?_;have hz:=(List.of_mem_zip (show(q.1,q.2)∈_ from hq)).1;have hv:=hm.val (hm.ok.sub hz);rw [w4 hm.ok.nd (show(q.1,q.2)∈_ from hq)] at hv;exact Rn.bind (f:=f q.1) (g:=λv X=>lc (λC=>bA C [q.2,dj v]) X) (hf hz) λ{X v} (G:bT c X) (t:TStep X0 X) h=>uC (nR G.G (hv.step G0.G t.s.toPre) h.g)
 refine(main.res (λrs=>(jl ar m.ks rs).v) λ{X rs} (G:bT c X) t h=>dq.mk' rfl (u9 G.G ⟨hm.ok.nd,hm.ok.sub,iV hU hm.ok.nd hm.ok.sub⟩ ⟨h.1.trans yw,λ{i x g} e1 e2=> ?_⟩ λ{y} hy hk I=> ?_)).weak ?_ λzz zz h=>h
 ·obtain⟨gd,eg⟩:∃gd,m.gs[i]? =some gd:=⟨_,dR (hm.ok.len▸(qS.mp e1).1)⟩
  exact h.2 (zip_get (a:=(x,gd)) (List.getElem?_zip_eq_some.mpr ⟨e1,eg⟩) e2)
 ·refine a6 (hm.out hy hk I) ?_;rfl
 ·refine a6 yw ?_;rw [Nat.mul_comm];exact m6 _ hL
end
noncomputable def bL (nd:Nd):Nat:=nd.rec 1 1 (λzz=>1) (λzz zz=>3) (λzz=>3) (λzz zz a b=>a+b+1) (λzz zz a b=>a+b+1) (λzz zz a b=>a+b+1) (λzz zz a=>a+2) (λzz a=>a+1) (λzz zz=>3) (λzz zz=>5) (λzz a=>a+1) λzz zz a b=>a+b+1
noncomputable def b5 (nd:Nd):Nat:=nd.rec 10 10 (λzz=>10) (λzz zz=>30) (λzz=>50) (λp q a b=>bL p+bL q+1+(a+b+30)) (λp q a b=>bL p+bL q+1+(a+b+30)) (λp q a b=>bL p+bL q+1+((a+30)+3*(b+10)+30)) (λzz p a=>bL p+2+(a+40)) (λp a=>bL p+1+(a+30)) (λzz zz=>60) (λzz zz=>90) (λp a=>bL p+1+(a+30)) λp q a b=>bL p+bL q+1+(a+b+30)
section
variable{c:Gv} {s kg kh kf k x y:Nat} {X0:TS} {g h f:(Nat->Nat)->Rt} {e:Nat->Nat} {D1:List Int->Nat->Bool} {D2 F2:List Int->Nat->Nat->Bool} {nd p q:Nd} {C:aJ} {v:V}
theorem Vf (G:bO C):Mr [.tup []] C m0 λzz zz=>true:=by
 have h:=AP (U:= [.tup []]) (r:= .tup []) (ar:=0) G aM;exact h.congr λm=>bQ (b3.mp m)
theorem zA {x:V} (hx:x∈aW c.n):cu (.tup []) x=x:=by
 obtain⟨a,_,rfl⟩:=fj hx;rfl
theorem A6 (O:d9 c) (G0:bT c X0) (hg:Rn (bD c s) X0 (g e) k λX v=>qb c X.C v D1):Rn (bD c s) X0 (lT (λzz=>g e) m0) (1*(k+9)) λX m=>m.ar=0/\Mr (aW c.n) X.C m λI z=>D1 I (b9 z):=
 AO (U:= [.tup []]) (U':=aW c.n) (d':=λI z=>D1 I (b9 z)) (dg:=λzz I z=>D1 I (b9 z)) O G0 (Vf G0.G) (λm=>⟨[],b3.mp m⟩) (bC _) (λzz=>hg)
  (λ{z} hz {I x} hx=>by refine a6 (b3.mp hz) (a6 (zA hx) ?_);rfl) (λ{y}=>⟨λhy=>⟨_,b3.mpr rfl,y,hy,(zA hy).symm⟩,λ⟨z,hz,x,hx,q⟩=>a6 q (a6 (b3.mp hz) (a6 (zA hx) hx))⟩) (gk O.hi).d4
theorem uQ (O:d9 c) (h:Mr (aW c.n) C m d):m.ks.length<=3:=ay (h.ok.nd.length_le_of_subset λzz=>h.ok.sub) (by rewrite [aW,b0];exact a6 gA O.hi)
theorem Fu (O:d9 c) (G0:bT c X0) (hg:Rn (bD c s) X0 (g e) kg λX v=>qb c X.C v D1) (hf:∀{a},a<c.n->Rn (bD c s) X0 (f (c7 e x a)) kf λX v=>iZ X.C v λI=>D2 I a 0):
  Rn (bD c s) X0 (sd x g f e) (1*(kg+9)+3*(kf+1)) λX v=>qb c X.C v λI a=>D1 I a&&D2 I a 0:=
 Rn.bind (f:=lT (λzz=>g e) m0) (g:=λm X=>cmp (λz=>f (c7 e x (b9 z))) 1 m X) (A6 O G0 hg) λ{X m} G t hm=>Hq (df:=λz I=>D2 I (b9 z) 0) G hm.2 (gk O.hi) (uQ O hm.2) λ{z} hz=>by
  obtain⟨a,ha,rfl⟩:=fj (hm.2.ok.sub hz);exact(hf ha).later t
theorem xF (h:z∈bS c.n):∃a b,a<c.n/\b<c.n/\z=R2 a b:=jG h (G:=λz=>∃a b,a<c.n/\b<c.n/\z=R2 a b) λh h'=>⟨_,_,h,h',rfl⟩
theorem Qz (O:d9 c) (G0:bT c X0) (hg:Rn (bD c s) X0 (g e) kg λX v=>qb c X.C v D1) (hh:∀{a},a<c.n->Rn (bD c s) X0 (h (c7 e x a)) kh λX v=>qb c X.C v λI b=>D2 I a b)
  (hf:∀{a b},a<c.n->b<c.n->Rn (bD c s) X0 (f (c7 (c7 e x a) y b)) kf λX v=>iZ X.C v λI=>F2 I a b):
  Rn (bD c s) X0 (xB x y g h f e) (1*(kg+9)+(3*(kh+9)+9*(kf+1))) λX v=>dq (bS c.n) 2 X.C v λI z=>(D1 I (b9 z)&&D2 I (b9 z) (gG z 1))&&F2 I (b9 z) (gG z 1):=by
 refine Rn.bind (f:=lT (λzz=>g e) m0) (g:=λm X=>let q:=lT (λz=>h (c7 e x (b9 z))) m X;cmp (λz=>f (c7 (c7 e x (b9 z)) y (gG z 1))) 2 q.1 q.2) (A6 O G0 hg) λ{X m} (G:bT c X) t hm=>Rn.bind (f:=lT (λz=>h (c7 e x (b9 z))) m) (g:=λm X=>cmp (λz=>f (c7 (c7 e x (b9 z)) y (gG z 1))) 2 m X) (AO (U':=bS c.n) (d':=λI z=>D1 I (b9 z)&&D2 I (b9 z) (gG z 1)) (dg:=λz I w=>D2 I (b9 z) (b9 w)) O G hm.2 (λhz=>let⟨a,_,e⟩:=fj hz;⟨_,e⟩) (uQ O hm.2) (λ{z} hz=> ?_) (λ{z} hz {I w} hw=> ?_) (λ{w}=>⟨λhw=> ?_,λ⟨z,hz,u,hu,q⟩=> ?_⟩) (iz O.hi).d4) λ{Y m2} (GY:bT c Y) tY h2=> ?_
 ·obtain⟨a,ha,rfl⟩:=fj (hm.2.ok.sub hz)
  exact(hh ha).later t
 ·obtain⟨a,ha,rfl⟩:=fj hz
  obtain⟨b,hb,rfl⟩:=fj hw
  rfl
 ·obtain⟨a,b,ha,hb,rfl⟩:=xF hw
  exact⟨_,fE ha,_,fE hb,rfl⟩
 ·obtain⟨a,ha,rfl⟩:=fj hz
  obtain⟨b,hb,rfl⟩:=fj hu;exact a6 q (jj ha hb)
 ·refine Hq (df:=λz I=>F2 I (b9 z) (gG z 1)) GY h2.2 (iz O.hi) (iV (iz O.hi) h2.2.ok.nd h2.2.ok.sub) λ{z} hz=> ?_
  obtain⟨a,b,ha,hb,rfl⟩:=xF (h2.2.ok.sub hz);exact(hf ha hb).later ((bD c s).trans t tY)
theorem UO {U:List V} {z0:V} (h:z0∈U) {p:V->Bool}:(U.all λz=> !decide (z=z0)||p z)=p z0:=by
 rw [ip,cQ];exact⟨λq=>by have:=q z0 h;rwa [bQ rfl] at this,λq z zz=>by
  by_cases e:z=z0
  ·refine a6 e (a6 q ?_);rw [Bool.or_true]
  ·refine a6 (dD e) ?_;rfl⟩
theorem gp (he:∀x,e x<n) (ha:a<n):∀y,c7 e x a y<n:=λy=>by
 unfold c7;split
 ·exact ha
 ·exact he y
theorem cT.uB (hk:nd.kd=1) (h:qb c C v λI a=>D (c.w I) nd e a):cT c nd e C v:=⟨λzz=>h,λq=>(nomatch hk.symm.trans q),λq=>(by rw [q] at hk;exact nomatch hk),λq=>(by rw [q] at hk;exact nomatch hk)⟩
theorem cT.sv (hk:nd.kd=2) (h:iZ C v λI=>D (c.w I) nd e 0):cT c nd e C v:=⟨λq=>(nomatch hk.symm.trans q),λzz=>h,λq=>(by rw [q] at hk;exact nomatch hk),λq=>(by rw [q] at hk;exact nomatch hk)⟩
theorem HU (O:d9 c) (G:bT c X):cT c .r1 e X.C c.aG.v:=⟨nofun,nofun,λzz=>⟨dq.mk' O.a1 (O.m1.step O.G0 G.s0),rfl⟩,nofun⟩
theorem HW:cT c (.pd x y) e C (o9 (e x) (e y)).v:=⟨nofun,nofun,nofun,λq=>by cases q;rfl⟩
structure PR (c:Gv) (nd:Nd) (e:Nat->Nat) (X0:TS):Prop where
 pl:∃s k,cm nd=s+1/\bL nd+k+1<=b5 nd/\Rn (bD c s) X0 (iH c.aI c.aG nd e) k λX v=>cT c nd e X.C v
 all:Rn (bD c (cm nd)) X0 (run c.aI c.aG nd e) (b5 nd) λX v=>cT c nd e X.C v
theorem PR.mk' (h:Rn (bD c s) X0 (iH c.aI c.aG nd e) k λX v=>cT c nd e X.C v) (hs:cm nd=s+1) (hk:bL nd+k+1<=b5 nd) (hr:run c.aI c.aG nd e=fk nd (iH c.aI c.aG nd e)):PR c nd e X0:=
 ⟨⟨s,k,hs,hk,h⟩,a6 hr (a6 hs ((zX hs h).weak (ay (bG (cn ..) 1) hk) λzz zz h=>h))⟩
theorem rK (h:i+1<=j):t+(a+i)+1<=t+(a+j):=aU (aU h a) t
theorem TK (h:i+1<=j):t+(0+(a+i))+1<=t+(a+j):=by rw [di];exact rK h
theorem rJ (h:i+1<=j):t+(a+(b+i))+1<=t+(a+b+j):=by rw [<-bH a];exact rK h
theorem TJ:t+(1*(a+9)+3*(b+1))+1<=t+((a+30)+3*(b+10)+30):=sA (by decide) (by decide)
theorem Td {n x:Nat} {p:Nat->Bool} (h:x<n):((aW n).all λz=> !(b9 z==x)||p (b9 z))=p x:=by
 rewrite [aW];refine a6 List.all_map ?_;rw [ip,cQ];exact⟨λq=>by have this:(!(x==x)||p x)=true:=q x (dK.mpr h);rwa [gT] at this,λq z zz=>by
  show(!(z==x)||p z)=true;by_cases e:z=x
  ·refine a6 e (a6 q ?_);rw [Bool.or_true]
  ·refine a6 (il.mpr e) ?_;rfl⟩
theorem QQ (h:x<n):((aW n).all λz=>(b9 z==x)==(b9 z==y))=(x==y):=by
 rewrite [aW];refine a6 List.all_map ?_;rw [ip,cQ];exact⟨λq=>by have this:((x==x)==(x==y))=true:=q x (dK.mpr h);rw [gT] at this;exact(b7.mp this).symm,λq z zz=>a6 (b7.mp q) (gT _)⟩
theorem dN (h:both a b k x y≠0):x=a/\y=b:=Classical.byContradiction λn=>h (aB n)
theorem cS (h:x=a/\y=b):both a b k x y=k:=aF h
theorem cI (h:k=1):k≠0:=by refine a6 h ?_;decide
theorem fx (h:k=2):k≠0:=by refine a6 h ?_;decide
end
section
variable{c:Gv} (O:d9 c)
include O
theorem GH {s k1 k2 k3:Nat} {X0:TS} {nd p q:Nd} {e:Nat->Nat} {g:aJ->Mx->Mx->Mx×aJ} (hk:nd.kd=1) (kp:p.kd=1) (kq:q.kd=1) (hp:Rn (bD c s) X0 (run c.aI c.aG p e) k1 λX v=>cT c p e X.C v) (hq:∀{X},bT c X->Rn (bD c s) X (run c.aI c.aG q e) k2 λX v=>cT c q e X.C v)
  (hg:∀{C m m'},bO C->Mr (aW c.n) C m (λI z=>D (c.w I) p e (b9 z))->Mr (aW c.n) C m' (λI z=>D (c.w I) q e (b9 z))->Rn FC C (λC=>g C m m') k3 λC r=>r.ar=m.ar/\Mr (aW c.n) C r λI z=>D (c.w I) nd e (b9 z)):
  Rn (bD c s) X0 (two g (run c.aI c.aG p e) (run c.aI c.aG q e)) (k1+(k2+k3)) λX v=>cT c nd e X.C v:=
 (uq (g:=λv w C=>g C (toMx v) (toMx w)) (mk:=Mx.v) (Q:=λC r=>r.ar=1/\Mr (aW c.n) C r λI z=>D (c.w I) nd e (b9 z)) (λG (t:TStep _ _) h=>h.step G.G t.s.toPre) hp (λG zz=>hq G) λG ha hb=>(hg G.G (ha.set kp).m (hb.set kq).m).weak (bC _) λzz zz h=>⟨h.1.trans (ha.set kp).ar,h.2⟩).weak (bC _) λzz zz eC=>eC.elim λm dQ=>dQ.1▸ .uB hk (.mk' dQ.2.1 dQ.2.2)
theorem uz {s x:Nat} {X0:TS} {e:Nat->Nat} (he:∀x,e x<c.n):Rn (bD c s) X0 (mR x e) 0 λX v=>cT c (.var x) e X.C v:=Rn.pure λ{X} (G:bT c X) t=> .uB rfl (.mk' rfl ((Sg G.G (he x)).congr λ{I z} hz=>by
  obtain⟨a,_,rfl⟩:=fj hz;exact fA.mpr ⟨λh=>pK (r7 (V.tup.inj h)).1,aE R1⟩))
theorem HT {X0:TS} {e:Nat->Nat}:Rn (bD c 1) X0 (sS c.aG) 1 λX v=>cT c .r1 e X.C v:=zX (s:=0) rfl (Rn.pure λG t=>HU O G)
omit O in
theorem V6 {X0:TS} {x y:Nat} {e:Nat->Nat}:Rn (bD c 1) X0 (yl x y e) 1 λX v=>cT c (.pd x y) e X.C v:=zX (s:=0) rfl (Rn.pure λG t=>HW)
theorem k8 {nd:Nd} (hk:nd.kd≠0) {e:Nat->Nat} (he:∀x,e x<c.n) {X0:TS} (G0:bT c X0):PR c nd e X0:=by
 have u1:=gk O.hi;have u2:=iz O.hi;have yp:∀{a b:Nat},a<=a+b:=aY _ _;have yo:∀{a b:Nat},b<=a+b:=cn _ _
 induction nd generalizing e X0 with
 |r0=>exact .mk' (s:=0) (k:=0) (Rn.pure λ{X} (G:bT c X) t=> .uB rfl (.mk' O.a0 ((O.m0.step O.G0 G.s0).congr λ{I z} hz=>by obtain⟨a,_,rfl⟩:=fj hz;rfl))) rfl (ah rfl) rfl
 |r1=>exact .mk' (s:=0) (k:=0) (Rn.pure λG t=>HU O G) rfl (ah rfl) rfl
 |var x=>exact⟨⟨0,0,rfl,ah rfl,uz O he⟩,(uz O he).weak (ah rfl) λzz zz h=>h⟩
 |pd x y=>exact .mk' (s:=0) (k:=0) (Rn.pure λG t=>HW) rfl (ah rfl) rfl
 |jn x=>
  refine .mk' (s:=1) (k:=1) ((HT O (e:=e)).res (λv=>(oc (e x) (toMx v)).v) λ{X v} (G:bT c X) t h=> .uB rfl (.mk' rfl ((PW G.G O.hi (he x) (h.r1 rfl).1.m).congr λ{I z} hz=> ?_))) rfl (ah rfl) rfl;obtain⟨a,_,rfl⟩:=fj hz;rfl
 |un p q i j=>
  obtain⟨kp,kq⟩:p.kd=1/\q.kd=1:=dN hk;exact .mk' (s:=cm p+cm q) (GH O (cS ⟨kp,kq⟩) kp kq ((i (cI kp) he G0).all.grow yp) (λG=>(j (cI kq) he G).all.grow yo) λG ha hb=>Og G u1 ha hb) rfl (rJ (by decide)) rfl
 |mi p q i j=>
  obtain⟨kp,kq⟩:p.kd=1/\q.kd=1:=dN hk;exact .mk' (s:=cm p+cm q) (GH O (cS ⟨kp,kq⟩) kp kq ((i (cI kp) he G0).all.grow yp) (λG=>(j (cI kq) he G).all.grow yo) λG ha hb=>Oh G u1 ha hb) rfl (rJ (by decide)) rfl
 |cp p q i j=>
  obtain⟨kp,kq⟩:p.kd=1/\q.kd=2:=dN hk;exact .mk' (s:=cm p+cm q) (((Fu (D2:=λI a zz=>D (c.w I) q (c7 e 0 a) 0) O G0 (((i (cI kp) he G0).all.grow yp).weak (bC _) λzz zz h=>h.set kp) λha=>((j (fx kq) (gp he ha) G0).all.grow yo).weak (bC _) λzz zz h=>h.fo kq)).weak (bC _) λzz zz h=> .uB (cS ⟨kp,kq⟩) h) rfl TJ rfl
 |c8 x p i=>
  obtain⟨kp,-⟩:p.kd=1/\1=1:=dN hk;exact .mk' (s:=cm p) ((uq (g:=λv w C=>jg C (toMx v) (toMx w)) (mk:=V.int) (λG (t:TStep _ _) h=>h.step G.G t.s.toPre) (uz O he) (λG zz=>(i (cI kp) he G).all) λG ha hb=>E0 G.G u1 (ha.set rfl).m (hb.set kp).m).weak (bC _) λzz zz e8=>e8.elim λg eN=>eN.1▸ .sv (cS ⟨kp,rfl⟩) (.mk' (eN.2.congr λI=>(Td (he x)).trans rfl))) rfl (TK (by decide)) rfl
 |some p i=>
  obtain⟨kp,-⟩:p.kd=1/\1=1:=dN hk;exact .mk' (s:=cm p) (Rn.bind (f:=run c.aI c.aG p e) (g:=λa X=>let r:=lc (λC=>oi C (toMx a)) X;(V.int r.1,r.2)) (i (cI kp) he G0).all λ{X a} (G:bT c X) t ha=>(uC (Qe G.G u1 (ha.set kp).m)).res V.int λzz zz h=> .sv (cS ⟨kp,rfl⟩) (.mk' (h.congr λI=>List.any_map))) rfl (rK (by decide)) rfl
 |same x y=>exact .mk' (s:=0) ((uq (g:=λv w C=>mJ C (toMx v) (toMx w)) (mk:=V.int) (λG (t:TStep _ _) h=>h.step G.G t.s.toPre) (uz O he) (λG zz=>uz O he) λG ha hb=>Qf G.G u1 (ha.set rfl).m (hb.set rfl).m).weak (bC _) λzz zz eD=>eD.elim λg eL=>eL.1▸ .sv rfl (.mk' (eL.2.congr λI=>QQ (he x)))) rfl (ah rfl) rfl
 |pr x y=>exact .mk' (s:=1) ((uq (g:=λv w C=>jg C (toMx v) (toMx w)) (mk:=V.int) (Q:=λC g=>bV C g λI=>(bS c.n).all λz=> !decide (z=R2 (e x) (e y))||c.d1 I z) (λG (t:TStep _ _) h=>h.step G.G t.s.toPre) V6 (λG zz=>HT O (e:=e)) λ{X v w} (G:bT c X) ha hb=>by
   refine a6 (ha.pd rfl) ?_;rw [pN];exact E0 G.G u2 (F8 G.G (he x) (he y)) (hb.r1 rfl).1.m).weak (bC _) λzz zz eZ=>eZ.elim λg dW=>dW.1▸ .sv rfl (.mk' (dW.2.congr λI=>UO (jj (he x) (he y))))) rfl (ah rfl) rfl
 |not p i=>
  obtain⟨kp,-⟩:p.kd=2/\2=2:=dN hk;exact .mk' (s:=cm p) (k:=b5 p) ((i (fx kp) he G0).all.res (λv=>V.int (0 -dj v)) λzz zz h=> .sv (cS ⟨kp,rfl⟩) (.mk' (by rw [Int.zero_sub];exact(h.fo kp).g.neg))) rfl (rK (i:=0) (by decide)) rfl
 |and p q i j=>
  obtain⟨kp,kq⟩:p.kd=2/\q.kd=2:=dN hk;exact .mk' (s:=cm p+cm q) ((uq (g:=λv w C=>bA C [dj v,dj w]) (mk:=V.int) (λG (t:TStep _ _) h=>h.step G.G t.s.toPre) ((i (fx kp) he G0).all.grow yp) (λG zz=>(j (fx kq) he G).all.grow yo) λG ha hb=>nR G.G (ha.fo kp).g (hb.fo kq).g).weak (bC _) λzz zz eY=>eY.elim λg fm=>fm.1▸ .sv (cS ⟨kp,kq⟩) (.mk' fm.2)) rfl (rJ (by decide)) rfl
end
noncomputable def ch (nd:Nd):List Nd:=nd.casesOn [] [] (λzz=> []) (λx y=> [.var x, .var y]) (λx=> [.var x, .r1]) (λa b=> [a,b]) (λa b=> [a,b]) (λzz zz=> []) (λx e=> [.var x,e]) (λe=> [e]) (λx y=> [.var x, .var y]) (λx y=> [.pd x y, .r1]) (λf=> [f]) λf g=> [f,g]
def fR (nd:Nd):Prop:=nd.rec True True (λx=>x<4) (λx y=>x<4/\y<4) (λx=>x<4) (λzz zz a b=>a/\b) (λzz zz a b=>a/\b) (λzz zz a b=>a/\b) (λx zz a=>x<4/\a) (λzz a=>a) (λx y=>x<4/\y<4) (λx y=>x<4/\y<4) (λzz a=>a) λzz zz a b=>a/\b
noncomputable def qD (nd:Nd):Nat:=nd.rec 1 1 (λzz=>1) (λzz zz=>2) (λzz=>2) (λzz zz a b=>max a b+1) (λzz zz a b=>max a b+1) (λzz zz a b=>max (a+2) b+1) (λzz zz a=>max 1 a+1) (λzz a=>a+1) (λzz zz=>2) (λzz zz=>3) (λzz a=>a+1) λzz zz a b=>max a b+2
structure fQ (nd:Nd):Prop where
 nm:fR nd
 dp:qD nd<=8
section
variable{n k t x:Nat} {xs:List V} {v w:V} {nd a b:Nd} {G:V->Prop}
theorem rW (h:k+1<=n) (q:∀{m},k<=m->lq m xs=true):aR n (.tup xs)=true:=by
 induction n with
 |zero=>exact absurd h (Nat.not_succ_le_zero _)
 |succ n=>exact q (o_ h)
theorem jM (h:aR n v=true) (q:lq n xs=true):lq n (v::xs)=true:=by rewrite [lq];refine a6 h (a6 q ?_);rfl
theorem p_ (h:t<180):aR n (.str t)=true:=by
 cases n<;>exact bQ h
theorem pZ (h:x<4):aR n (.str x)=true:=p_ (gB h (ao rfl))
theorem l7 (l:1<=n) (h:x<4):aR n (vV x)=true:=rW (k:=0) l λzz=>jM (p_ (ao rfl)) (jM (pZ h) rfl)
theorem xq (l:1<=n):aR n (.tup [.str 30, .int i])=true:=rW (k:=0) l λ{m} zz=>jM (p_ (ao rfl)) (jM (by cases m<;>rfl) rfl)
theorem mH (h:t<180) (l:k+1<=n) (q:∀{m},k<=m->aR m v=true) (q':∀{m},k<=m->aR m w=true):aR n (.tup [.str t,v,w])=true:=rW l λl=>jM (p_ h) (jM (q l) (jM (q' l) rfl))
theorem xr (h:t<180) (l:k+1<=n) (q:∀{m},k<=m->aR m v=true):aR n (.tup [.str t,v])=true:=rW l λl=>jM (p_ h) (jM (q l) rfl)
theorem Ha (h:fR nd) (l:qD nd<=n):aR n nd.v=true:=by
 have l1:∀{a b m:Nat},max a b<=m->a<=m:=λh=>ay (Nat.le_max_left ..) h;have l2:∀{a b m:Nat},max a b<=m->b<=m:=λh=>ay (Nat.le_max_right ..) h
 induction nd generalizing n with
 |r0=>exact xq l
 |r1=>exact xq l
 |var x=>exact l7 l h
 |pd x y=>exact mH (ao rfl) l (λl=>l7 l h.1) λl=>l7 l h.2
 |jn x=>exact mH (ao rfl) l (λl=>l7 l h) λl=>xq l
 |un a b i j=>exact mH (ao rfl) l (λl=>i h.1 (l1 l)) λl=>j h.2 (l2 l)
 |mi a b i j=>exact mH (ao rfl) l (λl=>i h.1 (l1 l)) λl=>j h.2 (l2 l)
 |cp a b i j=>exact mH (ao rfl) l (λl=>rW (l1 l) λl=>jM (xr (ao rfl) l λl=>i h.1 l) rfl) λl=>j h.2 (l2 l)
 |c8 x a i=>exact mH (ao rfl) l (λl=>l7 (l1 l) h.1) λl=>i h.2 (l2 l)
 |some a i=>exact xr (ao rfl) l λl=>i h l
 |same x y=>exact mH (ao rfl) l (λl=>l7 l h.1) λl=>l7 l h.2
 |pr x y=>exact mH (ao rfl) l (λl=>mH (ao rfl) l (λl=>l7 l h.1) λl=>l7 l h.2) λl=>xq (fb l)
 |not a i=>exact xr (ao rfl) l λl=>i h l
 |and a b i j=>exact xr (ao rfl) l λl=>rW l λl=>jM (i h.1 (l1 l)) (jM (j h.2 (l2 l)) rfl)
theorem fQ.key (h:fQ nd):aR 8 nd.v=true:=Ha h.nm h.dp
theorem Ij (h:fR nd) (m:v∈FT nd) (k:∀{x},x<4->G (.str x)):G v:=by
 have s1:∀{x},x<4->v∈sn [V.str x]->G v:=λl m=>b3.mp (fX.mp m)▸k l;have s2:∀{xs ys:List V},v∈sn (xs++ys)->(v∈xs->G v)->(v∈ys->G v)->G v:=λm f g=>(cM.mp (fX.mp m)).elim f g;have s3:∀{x y},x<4/\y<4->v∈sn (sn [V.str x]++sn [V.str y])->G v:=λh m=>s2 m (s1 h.1) (s1 h.2);have s0:v∈ []->G v:=λm=>absurd m bx
 induction nd with
 |r0=>exact s0 m
 |r1=>exact s0 m
 |var x=>exact s1 h m
 |pd x y=>exact s3 h m
 |jn x=>exact s2 m (s1 h) s0
 |un a b i j=>exact s2 m (i h.1) (j h.2)
 |mi a b i j=>exact s2 m (i h.1) (j h.2)
 |cp a b i j=>exact s2 m (i h.1) λm=>j h.2 (cB.mp m).1
 |c8 x a i=>exact s2 m (s1 h.1) (i h.2)
 |some a i=>exact i h (fX.mp m)
 |same x y=>exact s3 h m
 |pr x y=>exact s2 m (s3 h) s0
 |not a i=>exact i h (fX.mp m)
 |and a b i j=>exact s2 m (i h.1) (j h.2)
theorem V4:(sn xs).Nodup:=pO (rO cY)
theorem Vy:(FT nd).Nodup:=by
 induction nd with
 |r0=>exact cY
 |r1=>exact cY
 |_=>exact V4
theorem H6 (nd:xs.Nodup) (h:∀{v},v∈xs->∀{G:V->Prop},(∀{x},x<4->G (.str x))->G v):xs.length<=4:=
 nd.length_le_of_subset (l₂:=(List.range 4).map V.str) λzz m=>h m λl=>tK (dK.mpr l)
theorem mE (h:fR nd):(FT nd).length<=4:=H6 Vy λm zz k=>Ij h m k
end
section
variable{k k' v y:V} {ks vs:List V} {C:Prop}
theorem Eg (e:y≠k):bW k (y::ks)=y::bW k ks:=by
 by_cases m:k∈ks
 ·exact a6 (iA m) (a6 (iA (aQ _ m)) rfl)
 ·refine a6 (eG m) ?_;rw [eG λq=>(bz.mp q).elim (λq=>e q.symm) m];rfl
theorem zL (h:ks.length=vs.length):b_ k' (bW k ks) (cz k v ks vs)=if k=k' then some v else b_ k' ks vs:=by
 induction ks generalizing vs with
 |nil=>cases f9 h.symm;refine a6 (eG bx) ?_;rfl
 |cons y ks ih=>induction vs with
  |nil=>exact eh h
  |cons w vs=>
   by_cases e:y=k
   ·refine a6 (iA (e▸aM)) ?_;rewrite [show cz k v (y::ks) (w::vs)=v::vs from aF e];refine a6 (aT e) ?_
    by_cases e':y=k'
    ·exact(aF e').trans (aF e').symm
    ·exact(aB e').trans ((aB e').trans (aB e')).symm
   ·refine a6 (Eg e) ?_;rw [show cz k v (y::ks) (w::vs)=w::cz k v ks vs from aB e]
    by_cases e':y=k'
    ·exact(aF e').trans ((aB λq:k=k'=>e (e'.trans q.symm)).trans (aF e')).symm
    ·exact(aB e').trans ((ih (d7 h)).trans (ite_congr rfl (λzz=>rfl) λzz=>(aB e').symm))
theorem FQ (h:ks.length=vs.length):(bW k ks).length=(cz k v ks vs).length:=by
 induction ks generalizing vs with
 |nil=>cases f9 h.symm;refine a6 (eG bx) ?_;rfl
 |cons y ks ih=>induction vs with
  |nil=>exact eh h
  |cons w vs=>
   by_cases e:y=k
   ·refine a6 (iA (e▸aM)) ?_;rw [show cz k v (y::ks) (w::vs)=v::vs from aF e];exact h
   ·refine a6 (Eg e) ?_;rw [show cz k v (y::ks) (w::vs)=w::cz k v ks vs from aB e];exact aE Nat.succ (ih (d7 h))
theorem zf (h:ks.length=vs.length):b_ k (bW k ks) (cz k v ks vs)=some v:=(zL h).trans (aF rfl)
theorem Fc (h:ks.length=vs.length) (m:k∈ks) (f:∀{u},b_ k ks vs=some u->C):C:=by
 cases e:b_ k ks vs with
 |none=>exact absurd m (Fb h e)
 |some u=>exact f e
end
structure KD where
 ks:List V
 vs:List V
structure gb (put:KD->St) (fn kd:Addr):Prop where
 ob:∀{K},bX (put K) fn 404 [(28, .ref kd)]
 hd:∀{K},put K kd=some (.dict K.ks K.vs)
 u:∀{K K'},upd (put K) kd (.dict K'.ks K'.vs)=put K'
structure kE (K:KD):Prop where
 len:K.ks.length=K.vs.length
 ent:∀{nd v},b_ (Nd.v nd) K.ks K.vs=some v->v= .tup (FT nd)
noncomputable def KD.put (K:KD) (nd:Nd):KD:=⟨bW nd.v K.ks,cz nd.v (.tup (FT nd)) K.ks K.vs⟩
noncomputable def Cc (cs:List Nd):List V:=cs.foldl (λl c=>l++FT c) []
structure qt (n m s:Nat) (w r:V):Prop where
 run:∀{put fn kd K Q},gb put fn kd->kE K->K.ks.length+s<lim->(∀{K'},kE K'->K'.ks.length<=K.ks.length+s->Q r (put K'))->(KN n).aZ 404 m [.ref fn,w] (put K) Q
abbrev dX (n:Nat) (nd:Nd):Prop:=qt n 145 (bL nd) nd.v (.tup (FT nd))
section
variable{put:KD->St} {fn kd t q0:Addr} {K K':KD} {Q:V->St->Prop} {n s x k:Nat} {σ a8:St} {bo:Bool} {R:Bool->St->Prop} {v w:V} {r L:List V} {nd:Nd}
theorem gb.b (h:gb put fn kd):back (put K') (put K)=put K':=by
 refine a6 (aT (h.u (K:=K) (K':=K'))) (a6 (k9 (by refine a6 h.hd ?_;exact cy)) ?_);rw [pD]
theorem gb.new (h:gb put fn kd) (ht:put K t=none):put K' t=none:=by
 exact a6 (aT (h.u (K:=K))) ((uN (aL (b8 (h.hd (K:=K)) ht))).trans ht)
theorem gb.over (h:gb put fn kd) (ht:put K t=none) (mo:MO):gb (λK=>upd (put K) t mo) fn kd:=
 ⟨λ{A}=>(h.ob (K:=A)).casesOn λe=> .mk ((uN (b8 e (h.new ht))).trans e),(uN (b8 (h.hd (K:=K)) ht)).trans h.hd,λ{A B}=>a6 (eF (aL (b8 (h.hd (K:=K)) ht))) (a6 (h.u (K:=A) (K':=B)) rfl)⟩
theorem QM (h:σ t=none) (h':∀a,a8 t≠some (.cx a)):back (del a8 t) σ=back a8 σ:=eR λb=>by
 rw [kb,kb,SV];by_cases e:b=t
 ·subst e
  refine a6 h (a6 (aF rfl) ?_);cases h2:a8 b with
  |none=>rfl
  |some mo=>induction mo with
   |cx a=>exact absurd h2 (h' a)
   |_=>rfl
 ·exact a6 (aB e) rfl
theorem dA (e:v= .tup (.str t::r)) (l:r.length<=99) (q:Q (.str t) σ):eV σ Q v (.int 0):=e▸ .seq (.tup rfl) (az (fe l) (ao rfl)) rfl q
theorem mU (l:List Nat) (h:l.contains t=bo) (q:R bo σ):cU σ R .In (.str t) (.tup (l.map V.str)):=by
 refine .vc (.tup rfl) (λy hy=> ?_) ?_
 ·obtain⟨a,_,rfl⟩:=bB.mp hy
  exact .str
 ·refine a6 (show decide (V.str t∈l.map V.str)=bo from h▸(by rw [ip,kS,tJ,bB];exact⟨λeC=>eC.elim λb dQ=>V.str.inj dQ.2▸dQ.1,λh=>⟨t,h,rfl⟩⟩)) ?_
  exact q
noncomputable abbrev GQ (t:Nat):Bool:= !(t==27)&& !([135,136,35,179].contains t)
theorem FR (h1: [45,132].contains t=false) (h2: [30,27,104,118,119,117,142,130,131].contains t=false) (hl:r.length<=98) (q:Q (.tup (w::r)) σ):(KN (n+1)).fn 147 [.tup (.str t::w::r)] σ Q:=
 dk rfl rfl (go (dA (r:=w::r) rfl (fe hl) (mU [45,132] h1 (sk (go (dA (r:=w::r) rfl (fe hl) (mU [30,27,104,118,119,117,142,130,131] h2 (sk (go (pX.mk lU (az (fe (fe hl)) (ao rfl)) (c4 q)))))))))))
theorem Rx (h1: [45,132].contains t=false) (h2: [30,27,104,118,119,117,142,130,131].contains t=true) (hl:r.length<=99) (q:Q (.tup []) σ):(KN (n+1)).fn 147 [.tup (.str t::r)] σ Q:=
 dk rfl rfl (go (dA rfl hl (mU [45,132] h1 (sk (go (dA rfl hl (mU [30,27,104,118,119,117,142,130,131] h2 (go (c4 q)))))))))
theorem Ry (q:Q (.tup [a,b]) σ):(KN (n+1)).fn 147 [.tup [.str 45, .tup [a,b]]] σ Q:=
 dk rfl rfl (go (dA rfl (ah rfl) (mU [45,132] rfl (go (.seq (.tup rfl) (ao rfl) rfl (c4 q))))))
theorem kE.V_ (h:kE K):kE (K.put nd):=⟨FQ h.len,λ{j1 v} e=>by
 have e:=(zL h.len).symm.trans e;by_cases e1:nd.v=j1.v
 ·cases(aF e1).symm.trans e;exact a6 (Nd.Bn e1) rfl
 ·exact h.ent ((aB e1).symm.trans e)⟩
abbrev qu (L:List V):Prop:=(∀{v},v∈L->mY v)/\L.length<=8
theorem AS (hk:aR 8 nd.v=true) (hL:qu L) (e:FT nd=sn L) (h4:(FT nd).length<=4) (hw:qt n 143 s nd.v (.aa L)) (hs:bL nd=s+1):dX (n+1) nd:=by
 refine⟨λ{put fn kd K Q} F ok hr q=> ?_⟩;have D:∀{K},Dc (put K) (.ref kd) K.ks K.vs:= .ref F.hd;refine bf rfl rfl (go (bu F.ob rfl rfl ?_));by_cases hm:nd.v∈K.ks
 ·refine Fc ok.len hm λ{u} hu=>wB D hk hm (sk (go (bu F.ob rfl rfl (.dict D hk hu (c4 ?_)))))
  exact a6 (ok.ent hu) (q ok (aY ..))
 ·rw [hs] at hr q
  refine wA D hk hm (go (aV F.ob rfl rfl (hw.run F ok (iP hr) λ{K1} sV l1=>sO.mk .aa hL.1 (az hL.2 (ao rfl)) ?_)));show ya _ _ _ [.aa (sn L)];refine a6 (aT e) ?_;have hl:K1.ks.length<lim:=az l1 (iP hr);exact .mk .aa (az h4 (ao rfl)) (bu F.ob rfl rfl (ki F.hd hk hl rfl (sk (og (F.u (K':=K1.put nd)) (bu F.ob rfl rfl (.dict D hk (zf sV.len) (b4 F.b (q sV.V_ (ay pA (fe l1))))))))))
end
noncomputable def qf (cs:List Nd):Nat:=cs.foldr (λc s=>bL c+s) 0
theorem Jx (h:a≠p):upd (upd (upd σ a m1) p m2) a m3=upd (upd σ a m3) p m2:=by refine a6 (eF (aL h)) ?_;rw [eo]
section
variable{put:KD->St} {st:List V->KD->St} {fn kd p q0:Addr} {K K':KD} {Q:V->St->Prop} {n x t:Nat} {L l m r:List V} {nd a b:Nd} {cs:List Nd}
theorem Ib (F:gb put fn kd) (hp:put K p=none) (hq:upd (put K) p (.list []) q0=none):back (upd (upd (put K') p (.list l)) q0 (.list m)) (put K)=put K':=
 have pq:=b8 (uS ..) hq;have hq:=(uN (aL pq)).symm.trans hq
 (EH hq ((uN (aL pq)).trans (F.new hq))).trans ((EH hp (F.new hp)).trans F.b)
theorem gb.two (F:gb put fn kd) (hp:put K p=none) (hq:upd (put K) p (.list []) q0=none):gb (λK=>upd (upd (put K) p (.list l)) q0 (.list m)) fn kd:=
 have pq:=b8 (uS ..) hq
 (F.over hp _).over (K:=K) ((uN (aL pq)).trans ((uN (aL pq)).symm.trans hq)) _
theorem pT (h:fR nd):qu (FT nd):=⟨λm=>Ij h m (G:=mY) λl=> .mk (gB l (ao rfl)),ay (mE h) (ah rfl)⟩
theorem SM (h:fR a) (h':fR b):qu (FT a++FT b):=⟨λm=>(cM.mp m).elim (pT h).1 (pT h').1,a6 aP (dh (mE h) (mE h'))⟩
theorem Nq {step:Step Env} {ρ:Env} {Q:Env->St->Prop} (hs:∀{c l K k},c∈cs->kE K->K.ks.length+bL c<lim->l.length<=8->(∀{K'},kE K'->K'.ks.length<=K.ks.length+bL c->k ρ (st (l++FT c) K'))->step c.v (st l K) ρ k)
  (h4:∀{c},c∈cs->(FT c).length<=4) (ok:kE K) (hr:K.ks.length+qf cs<lim) (hl:l.length+4*cs.length<=8) (q:∀{K'},kE K'->K'.ks.length<=K.ks.length+qf cs->Q ρ (st (cs.foldl (λl c=>l++FT c) l) K')):dP step (cs.map Nd.v) (st l K) ρ Q:=by
 induction cs generalizing K l with
 |nil=>exact q ok (bC _)
 |cons c cs ih=>
  have e:K.ks.length+bL c+qf cs=K.ks.length+qf (c::cs):=bH ..;refine hs aM ok (az (e▸aY ..) hr) (ay (aY ..) hl) λCC l'=> ?_;have l2:=bG l' (qf cs);exact ih (λm=>hs (aQ _ m)) (λm=>h4 (aQ _ m)) CC (az l2 (e▸hr)) (by refine a6 aP ?_;rw [bH];exact ay (aU (ay (bG (h4 aM) _) (gh (c0 ..))) _) hl) λqz l3=>q qz (ay l3 (e▸l2))
theorem Ml (e:nd.v= .tup (.str t::r)) (hl:r.length<=99) (ht:t≠27) (vg: [135,136,35,179].contains t=false) (pf:∀{σ Q},Q (.tup (cs.map Nd.v)) σ->(KN n).fn 147 [nd.v] σ Q) (h4:∀{c},c∈cs->(FT c).length<=4) (h2:cs.length<=2) (ih:∀{c},c∈cs->dX n c):
  qt (n+1) 143 (qf cs) nd.v (.aa (Cc cs)):=by
 refine ⟨λ{put fn kd K Q} F ok hr q=>bf rfl rfl (go (dA e hl (gM fP (gW ht) (sk (go λp hp q0 hq=> .mk rfl (go (dA e hl (mU [135,136,35,179] vg (sk (go (pf ?_)))))))))))⟩;have pq:=b8 (uS ..) hq;have jB:∀{K' l},upd (upd (put K') p (.list l)) q0 (.list []) p=some (.list l):=(uN pq).trans (uS ..);refine⟨.tup rfl,Nq (cs:=cs) (l:= []) (K:=K) (st:=λl K'=>upd (upd (put K') p (.list l)) q0 (.list [])) (λ{c l K1 kk} hc sV XZ oQ hk=>⟨.tup rfl,f1 (go ⟨⟨.ref jB⟩, ?_⟩)⟩) h4 ok hr (by refine a6 kX ?_;rw [di];exact eQ 4 h2) λ{K2} qz l2=>⟨.tup rfl,go ?_⟩⟩
 ·have F2:gb (λK'=>upd (upd (put K') p (.list l)) q0 (.list [])) fn kd:=F.two hp hq
  exact aV F2.ob rfl rfl ((ih hc).run F2 sV XZ λqz l2=> .mk jB (.tup rfl) (az (dh oQ (h4 hc)) (ao rfl)) (a6 (Jx pq) (hk qz l2)))
 ·refine .list jB (b4 ((QM hp λa e=> ?_).trans (Ib F hp hq)) (q qz l2))
  exact CD (jB.symm.trans e) rfl
theorem N7:qt (n+1) 143 0 (vV x) (.aa [.str x]):=by
 exact ⟨λ{put fn kd K Q} F ok hr q=>bf rfl rfl (go (dA rfl (ah rfl) (hW fP rfl (go (.seq (.tup rfl) (ao rfl) rfl λp hp=>eS hp (c4 (q ok (bC _))))))))⟩
end
section
variable{put:KD->St} {fn kd p q0:Addr} {K K':KD} {Q:V->St->Prop} {n x t s s':Nat} {L l m r xs ys:List V} {nd a b:Nd} {cs:List Nd} {σ:St} {ρ:Env} {v w:V} {C:CH}
theorem F0 (hr:ρ.lookup 144=some (.ref q0)) (hx:qu xs) (h:σ q0=some (.list m)) (hm:∀{y},y∈m->mY y) (e:(xs.filter λv=> !decide (v∈m))=ys) (q:Q (.aa ys) σ):g_ (lE (.one 37) (dw.cons (.cmp .NotIn (.var 37) (.var 144)) .nil).run C ((MI.emit (.var 37)).run C) ρ) (.tup xs) σ [] λl=>Q (.aa l):=by
 refine jf (.tup rfl) (λv=> !decide (v∈m)) id (az hx.2 (ao rfl)) (λx jW acc k hl hk=> ?_) ((e▸iS _:(xs.filter λv=> !decide (v∈m)).map id=ys)▸q);show sT (ρ.lookup 144) _;refine a6 hr (cU.xQ (.ref h) (λy hy=> ?_) ?_)
 ·cases hm hy;cases hx.1 jW;exact .str
 ·cases e:decide (x∈m) with
  |true=>rw [e] at hk;exact hk
  |false=>rw [e] at hk;exact⟨hl,hk⟩
theorem NP (hx:qu xs) (hy:qu ys) (i1:qt n 145 s v (.tup xs)) (i2:qt n 145 s' w (.tup ys)):qt (n+1) 143 (s+s') (.tup [.str 35, .tup [.tup [.str 0,v]],w]) (.aa (xs++ys.filter λv=> !decide (v∈ [.str 0]))):=by
 refine ⟨λ{put fn kd K Q} F ok hr q=>bf rfl rfl (go (dA rfl (ah rfl) (gM fP (gW (by decide)) (sk (go λp hp q0 hq=> .mk rfl (go (dA rfl (ah rfl) (mU [135,136,35,179] rfl (go (eV.seq (.tup rfl) (ao rfl) rfl ⟨.tup rfl, .tup rfl, .mk rfl (go ⟨⟨.ref (xs:= []) ((uN (b8 (uS ..) hq)).trans (uS ..))⟩, ?_⟩)⟩))))))))))⟩;have pq:=b8 (uS ..) hq;have jB:∀{K' l m},upd (upd (put K') p (.list l)) q0 (.list m) p=some (.list l):=(uN pq).trans (uS ..);have F2:∀{l m},gb (λK'=>upd (upd (put K') p (.list l)) q0 (.list m)) fn kd:=F.two hp hq;refine aV F2.ob rfl rfl (i1.run (F2 (l:= []) (m:= [])) ok (az (aU (aY ..) _) hr) λ{K1} sV l1=>F0 rfl hx (uS ..) jT (List.filter_eq_self.mpr λzz zz=>rfl) ?_);have l2:=bG l1 s';rw [bH] at l2;refine .mk jB .aa (az (dh (bC 0) hx.2) (ao rfl)) (go ⟨⟨.ref ((uN (aL pq)).trans (uS ..))⟩, .mk ((uN (aL pq)).trans (uS ..)) (ao rfl) ⟨.tup rfl,go (a6 (Jx pq) ?_)⟩⟩);rw [eo];refine aV F2.ob rfl rfl (eV.seq (.tup rfl) (ao rfl) rfl (i2.run F2 sV (az l2 hr) λ{K2} qz l3=>F0 rfl hy (uS ..) (λm=>by cases b3.mp m;exact .mk (ao rfl)) rfl (fH.lst (.ref jB) .aa (az (dh hx.2 (ay (m5 ..) hy.2)) (ao rfl)) (b4 (Ib F hp hq) (q qz (ay l3 l2))))))
end
noncomputable def fu (nd:Nd):Nat:=nd.rec 3 3 (λzz=>2) (λzz zz=>4) (λzz=>5) (λzz zz a b=>a+b+2) (λzz zz a b=>a+b+2) (λzz zz a b=>a+b+2) (λzz zz a=>a+2+2) (λzz a=>a+2) (λzz zz=>4) (λzz zz=>6) (λzz a=>a+2) λzz zz a b=>a+b+2
section
variable{n x y t s k:Nat} {L r:List V} {nd a b:Nd} {cs:List Nd} {P:Nd->Prop}
theorem all2 (h:P a) (h':P b):∀{c},c∈ [a,b]->P c:=λm=>(bz.mp m).elim (λe=>e▸h) λm=>b3.mp m▸h'
theorem all1 (h:P a):∀{c},c∈ [a]->P c:=λm=>b3.mp m▸h
theorem Jj:∀{c:Nd},c∈ []->P c:=λm=>absurd m bx
theorem SY (h:∀{c},c∈cs->fR c) (l:cs.length<=2):qu (Cc cs):=by
 induction cs with
 |nil=>exact⟨λm=>absurd m bx,fh _⟩
 |cons a cs=>induction cs with
  |nil=>exact pT (h aM)
  |cons b cs=>induction cs with
   |nil=>exact SM (h aM) (h (aQ _ aM))
   |cons c cs=>exact absurd l (Nat.not_le_of_lt (cn 3 _))
theorem Bw {P:Nat->Prop} (h:k+2<=n) (q:∀{m},k<=m->P (m+2)):P n:=by
 induction n with
 |zero=>exact absurd h (Nat.not_succ_le_zero _)
 |succ n=>induction n with
  |zero=>exact absurd (o_ h) (Nat.not_succ_le_zero _)
  |succ n=>exact q (o_ (o_ h))
theorem of_parts (h:fQ nd) (e:nd.v= .tup (.str t::r)) (hl:r.length<=99) (ht:GQ t=true) (pf:∀{n σ Q},Q (.tup (cs.map Nd.v)) σ->(KN (n+1)).fn 147 [nd.v] σ Q) (e1:FT nd=sn (Cc cs)) (hs:bL nd=qf cs+1) (h2:cs.length<=2) (hm:∀{c},c∈cs->fR c)
  (hn:k+1+2<=n) (ih:∀{c},c∈cs->∀{m},k+1<=m->dX m c):dX n nd:=Bw (P:=λn=>dX n nd) hn λ{m} l=>by
 induction m with
 |zero=>exact absurd l (Nat.not_succ_le_zero _)
 |succ m=>
  have ht:=ik.mp ht;exact AS h.key (SY hm h2) e1 (mE h.nm) (Ml e hl (il.mp ((nG _).mp ht.1)) ((nG _).mp ht.2) pf (λm=>mE (hm m)) h2 λhc=>ih hc l) hs
noncomputable abbrev x_ (t:Nat):Bool:=GQ t&&(!([45,132].contains t)&& !([30,27,104,118,119,117,142,130,131].contains t))
theorem rN (h:fQ nd) (ht:x_ t=true) (e:nd.v= .tup [.str t,a.v,b.v]) (e1:FT nd=sn (FT a++FT b)) (hs:bL nd=bL a+bL b+1) (ha:fR a) (hb:fR b) (hn:k+1+2<=n) (ia:∀{m},k+1<=m->dX m a) (ib:∀{m},k+1<=m->dX m b):dX n nd:=by
 have ht:=ik.mp ht;have h3:=ik.mp ht.2;exact of_parts (cs:= [a,b]) h e (ah rfl) ht.1 (λq=>e▸FR ((nG _).mp h3.1) ((nG _).mp h3.2) (ah rfl) q) e1 hs (ah rfl) (all2 ha hb) hn (all2 (P:=λc=>∀{m},k+1<=m->dX m c) ia ib)
theorem U9 (h:fQ nd) (ht:x_ t=true) (e:nd.v= .tup [.str t,a.v]) (e1:FT nd=sn (FT a)) (hs:bL nd=bL a+1) (ha:fR a) (hn:k+1+2<=n) (ia:∀{m},k+1<=m->dX m a):dX n nd:=by
 have ht:=ik.mp ht;have h3:=ik.mp ht.2;exact of_parts (cs:= [a]) h e (ah rfl) ht.1 (λq=>e▸FR ((nG _).mp h3.1) ((nG _).mp h3.2) (ah rfl) q) e1 hs (ah rfl) (all1 ha) hn (all1 (P:=λc=>∀{m},k+1<=m->dX m c) ia)
theorem GV (h:fQ nd) (e:nd.v= .tup [.str 30, .int i]) (e1:FT nd= []) (hs:bL nd=1) (hn:3<=n):dX n nd:=
 of_parts (cs:= []) (k:=0) h e (ah rfl) rfl (λq=>e▸Rx rfl rfl (ah rfl) q) (e1.trans List.mergeSort_nil.symm) hs (ah rfl) Jj hn (Jj (P:=λc=>∀{m},1<=m->dX m c))
theorem pP (h:x<4) (hn:2<=n):dX n (.var x):=Bw (k:=0) (P:=λn=>dX n (.var x)) hn λ{m} zz=>
 AS (l7 (ah rfl) h) ⟨λm=>by cases b3.mp m;exact .mk (gB h (ao rfl)),ah rfl⟩ rfl (mE (nd:= .var x) h) N7 rfl
theorem Br (hn:3<=n):dX n .r1:=GV ⟨jE,ah rfl⟩ rfl rfl rfl hn
theorem HZ (h:x<4/\y<4) (hn:4<=n):dX n (.pd x y):=rN (k:=1) (t:=43) (a:= .var x) (b:= .var y) ⟨h,ah rfl⟩ rfl rfl rfl rfl h.1 h.2 hn (pP h.1) (pP h.2)
theorem J8:2<=fu nd:=by
 cases nd<;>first|exact cn 2 _|exact ah rfl
theorem GW (h:fR nd) (d:qD nd<=8) (hn:fu nd<=n):dX n nd:=by
 have l1:∀{a b m:Nat},max a b+1<=m->a<=m:=λh=>ay (Nat.le_max_left ..) (fb h);have l2:∀{a b m:Nat},max a b+1<=m->b<=m:=λh=>ay (Nat.le_max_right ..) (fb h);have f1:∀{b m} {a:Nd},fu a+b -1+1<=m->fu a<=m:=λ{b m a} h=>by
  rw [Nat.sub_add_cancel (ay (fb (J8 (nd:=a))) (aY ..))] at h;exact ay (aY ..) h
 have f2:∀{b m} {a:Nd},b+fu a -1+1<=m->fu a<=m:=λ{b m a} h=>f1 (b:=b) (by rw [c0 (fu a)];exact h);have f0:∀{b n} {a:Nd},fu a+b+2<=n->fu a+b -1+1+2<=n:=λ{b n a} h=>by
  rwa [Nat.sub_add_cancel (ay (fb (J8 (nd:=a))) (aY ..))]
 have both:∀{nd a b:Nd} {t n} (h:fQ nd) (ht:x_ t=true) (e:nd.v= .tup [.str t,a.v,b.v]) (e1:FT nd=sn (FT a++FT b)) (hs:bL nd=bL a+bL b+1) (ha:fR a) (hb:fR b) (hn:fu a+fu b+2<=n) (ia:∀{m},fu a<=m->dX m a) (ib:∀{m},fu b<=m->dX m b),dX n nd:=
  λh ht e e1 hs ha hb hn ia ib=>rN h ht e e1 hs ha hb (f0 hn) (λl=>ia (f1 l)) λl=>ib (f2 l)
 have IY:∀{nd a:Nd} {t n} (h:fQ nd) (ht:x_ t=true) (e:nd.v= .tup [.str t,a.v]) (e1:FT nd=sn (FT a)) (hs:bL nd=bL a+1) (ha:fR a) (hn:fu a+2<=n) (ia:∀{m},fu a<=m->dX m a),dX n nd:=
  λh ht e e1 hs ha hn ia=>U9 h ht e e1 hs ha (f0 (b:=0) hn) λl=>ia (f1 (b:=0) l)
 induction nd generalizing n with
 |r0=>exact GV ⟨h,d⟩ rfl rfl rfl hn
 |r1=>exact Br hn
 |var x=>exact pP h hn
 |pd x y=>exact HZ h hn
 |jn x=>exact rN (k:=2) (t:=32) (a:= .var x) (b:= .r1) ⟨h,d⟩ rfl rfl rfl rfl h jE hn (λl=>pP h (fb l)) Br
 |un a b i j=>exact both (t:=38) ⟨h,d⟩ rfl rfl rfl rfl h.1 h.2 hn (i h.1 (l1 d)) (j h.2 (l2 d))
 |mi a b i j=>exact both (t:=39) ⟨h,d⟩ rfl rfl rfl rfl h.1 h.2 hn (i h.1 (l1 d)) (j h.2 (l2 d))
 |cp a b i j=>exact Bw (P:=λn=>dX n (.cp a b)) hn λ{m} l=>AS (Ha h d) ⟨λm=>(cM.mp m).elim (pT h.1).1 λm=>(pT h.2).1 (cB.mp m).1,a6 aP (dh (mE h.1) (ay (m5 ..) (mE h.2)))⟩ (aE (λf=>sn (FT a++(FT b).filter f)) (eR λv=>aE not (fA.mpr b3.symm))) (mE (nd:= .cp a b) h) (NP (pT h.1) (pT h.2) (i h.1 (fb (fb (l1 d))) (ay (aY ..) l)) (j h.2 (l2 d) (ay (cn ..) l))) rfl
 |c8 x a i=>exact rN (k:=fu a+1) (t:=40) (a:= .var x) ⟨h,d⟩ rfl rfl rfl (by show bL a+2=1+bL a+1;rw [c0 1]) h.1 h.2 hn (λl=>pP h.1 (ay (cn 2 _) l)) λl=>i h.2 (l2 d) (ay (aY _ 2) l)
 |some a i=>exact IY (t:=41) ⟨h,d⟩ rfl rfl rfl rfl h hn (i h (fb d))
 |same x y=>exact rN (k:=1) (t:=42) (a:= .var x) (b:= .var y) ⟨h,d⟩ rfl rfl rfl rfl h.1 h.2 hn (pP h.1) (pP h.2)
 |pr x y=>exact rN (k:=3) (t:=40) (a:= .pd x y) (b:= .r1) ⟨h,d⟩ rfl rfl rfl rfl h jE hn (HZ h) λl=>Br (fb l)
 |not a i=>exact IY (t:=44) ⟨h,d⟩ rfl rfl rfl rfl h hn (i h (fb d))
 |and a b i j=>exact of_parts (t:=45) (cs:= [a,b]) ⟨h,d⟩ rfl (ah rfl) rfl Ry rfl rfl (ah rfl) (all2 h.1 h.2) (f0 hn) (all2 (P:=λc=>∀{m},fu a+fu b -1+1<=m->dX m c) (λl=>i h.1 (l1 (fb d)) (f1 l)) λl=>j h.2 (l2 (fb d)) (f2 l))
end
noncomputable def ov (f σ:St):St:=λb=>(f b).casesOn (σ b) some
section
variable{f f' σ a8:St} {b p:Addr} {mo:MO} {put:aJ->St} {fp:KD->St} {m c k d fn kd:Addr} {nn:V} {C A:Addr} {as:List (Nat×V)}
theorem gY (h:f b=some mo):ov f σ b=some mo:=by unfold ov;exact a6 h rfl
theorem iT (h:f b=none):ov f σ b=σ b:=by unfold ov;exact a6 h rfl
theorem rM:upd (ov f σ) p mo=ov (upd f p mo) σ:=eR λb=>by
 by_cases e:b=p
 ·exact(aF e).trans (gY (aF e)).symm
 ·refine(aB e).trans ?_
  unfold ov;exact a6 (uN e) rfl
theorem rT (h:f p=none):upd (ov f σ) p mo=ov f (upd σ p mo):=eR λb=>by
 by_cases e:b=p
 ·exact(aF e).trans ((iT (e▸h)).trans (aF e)).symm
 ·refine(aB e).trans ?_
  unfold ov;exact a6 (uN e) rfl
theorem AN (h:f p=none):del (ov f σ) p=ov f (del σ p):=eR λb=>by
 by_cases e:b=p
 ·exact(aF e).trans ((iT (e▸h)).trans (aF e)).symm
 ·refine(aB e).trans ?_
  unfold ov;rw [show del σ p b=σ b from aB e]
theorem A5 (h:ov f σ p=none):f p=none/\σ p=none:=by
 cases e:f p with
 |none=>exact⟨rfl,(iT e).symm.trans h⟩
 |some mo=>exact cy ((gY e).symm.trans h)
theorem RE (h:∀{b},f b=none->f' b=none) (h':∀{b},f' b=none->f b=none) (F:cP a8 σ):back (ov f' a8) (ov f σ)=ov f' σ:=eR λb=>by
 rw [kb];cases e:f' b with
 |some mo=>
  refine a6 (gY e) (a6 (gY e) ?_);cases e2:f b with
  |none=>exact cy (e.symm.trans (h e2))
  |some m=>exact a6 (gY e2) rfl
 |none=>
  refine a6 (iT e) (a6 (iT e) (a6 (iT (h' e)) ?_));rewrite [<-kb];exact a6 F.back rfl
theorem bX.ov (h:bX f m A as):bX (ov f σ) m A as:=h.casesOn λh=> .mk (gY h)
theorem CPut.ov (h:CPut put c k p d):CPut (λC=>ov (put C) σ) c k p d:=⟨h.ob.ov,gY h.hk,gY h.hp,gY h.hd,λ{C C'}=>by
 unfold iF;exact a6 rM (a6 rM (a6 rM (aE (Internal.ov · σ) h.u))),h.kp⟩
theorem oF.ov (h:oF put m c k p d nn):oF (λC=>ov (put C) σ) m c k p d nn:=⟨h.toCPut.ov,h.mo.ov⟩
theorem gb.ov (h:gb fp fn kd):gb (λK=>ov (fp K) σ) fn kd:=⟨h.ob.ov,gY h.hd,λ{K K'}=>a6 rM (aE (Internal.ov · σ) h.u)⟩
end
structure TA where
 t:Addr
 c:Addr
 k:Addr
 p:Addr
 d:Addr
 m:Addr
 fn:Addr
 kd:Addr
 md:Addr
 dx:Addr
 nn:V
 bb:V
 ak:V
 mQ:V
structure Hd where
 w:Nat
 K:KD
noncomputable def TA.as (a:TA) (w:Nat):List (Nat×V):= [(64, .ref a.c),(148, .ref a.m),(150,a.bb),(96, .ref a.fn),(153, .ref a.md),(70,a.ak),(112, .int w),(154,a.mQ)]
structure cZ (put:TS->Hd->St) (a:TA):Prop where
 t:∀{X:TS} {H:Hd},put X H a.t=some (.inst 517 a.dx (a.as H.w))
 ut:∀{X:TS} {H:Hd} {w},upd (put X H) a.t (.inst 517 a.dx (a.as w))=put X ⟨w,H.K⟩
 mp:∀{X:TS} {H:Hd},oF (λC=>put ⟨C,X.qk,X.qv⟩ H) a.m a.c a.k a.p a.d a.nn
 fp:∀{X:TS} {H:Hd},gb (λK=>put X ⟨H.w,K⟩) a.fn a.kd
 md:∀{X:TS} {H:Hd},put X H a.md=some (.dict X.qk X.qv)
 um:∀{X:TS} {H:Hd} {qk qv},upd (put X H) a.md (.dict qk qv)=put ⟨X.C,qk,qv⟩ H
section
variable{put:TS->Hd->St} {a:TA} {X X':TS} {H H':Hd} {y:Addr} {σ a8:St}
theorem cZ.new (h:cZ put a) (e:put X H y=none):put X' H' y=none:=by
 have h1:put ⟨X'.C,X.qk,X.qv⟩ H y=none:=(h.mp (X:=X) (H:=H)).toCPut.new (C:=X.C) e;have h2:put X' H y=none:=h.um (X:=⟨X'.C,X.qk,X.qv⟩)▸(uN (aL (b8 h.md h1))).trans h1;have h3:put X' ⟨H.w,H'.K⟩ y=none:=(h.fp (X:=X') (H:=H)).new (K:=H.K) h2;exact h.ut (H:=⟨H.w,H'.K⟩)▸(uN (aL (b8 h.t h3))).trans h3
theorem cZ.back (h:cZ put a) (F:cP a8 σ):back (ov (put X' H') a8) (ov (put X H) σ)=ov (put X' H') σ:=RE h.new h.new F
theorem cZ.b (h:cZ put a):Internal.back (ov (put X' H') σ) (ov (put X H) σ)=ov (put X' H') σ:=h.back (cP.refl σ)
theorem cZ.o (h:cZ put a):bX (ov (put X H) σ) a.t 517 (a.as H.w):= .mk (gY h.t)
theorem cZ.cp (h:cZ put a):oF (λC=>ov (put ⟨C,X.qk,X.qv⟩ H) σ) a.m a.c a.k a.p a.d a.nn:=h.mp.ov
theorem cZ.f (h:cZ put a):gb (λK=>ov (put X ⟨H.w,K⟩) σ) a.fn a.kd:=h.fp.ov
theorem cZ.q (h:cZ put a):Dc (ov (put X H) σ) (.ref a.md) X.qk X.qv:= .ref (gY h.md)
end
structure cW (mk:Nat->V) (e:Nat->Nat) (F ks vs:List V):Prop where
 nd:ks.Nodup
 len:ks.length=vs.length
 str:∀{k},k∈ks->∀{G:V->Prop},(∀{x},x<4->G (.str x))->G k
 at_:∀{x},V.str x∈F->b_ (.str x) ks vs=some (mk (e x))
noncomputable def kJ (a:Nat):V:=(kB a).v
structure HR (H:Hd) (r:Nat):Prop where
 kn:kE H.K
 w:H.w+r<lim
 l:H.K.ks.length+r<lim
structure Dy (c:Gv) (X:TS) (H:Hd) (r:Nat):Prop where
 G:bT c X
 rm:iD X r
 hr:HR H r
structure Tq (c:Gv) (put:TS->Hd->St) (a:TA) (e:Nat->Nat) (F ks vs:List V):Prop where
 tp:cZ put a
 rl:a.mQ= .aa [c.aI.v,c.aG.v]
 he:∀x,e x<c.n
 env:cW kJ e F ks vs
structure c_ (c:Gv) (n M:Nat) (nd:Nd):Prop where
 run:∀{put a σ X H e F ks vs r Q},Tq c put a e F ks vs->Dy c X H (r+b5 nd)->(∀{v},v∈FT nd->v∈F)->(∀{H'},Dy c (run c.aI c.aG nd e X).2 H' r->cT c nd e (run c.aI c.aG nd e X).2.C (run c.aI c.aG nd e X).1->TStep X (run c.aI c.aG nd e X).2->Q (run c.aI c.aG nd e X).1 (ov (put (run c.aI c.aG nd e X).2 H') σ))->
  (KN n).aZ 517 M [.ref a.t,nd.v, .aN ks vs] (ov (put X H) σ) Q
structure g8 (c:Gv) (n M k:Nat) (nd:Nd):Prop where
 run:∀{put a σ X H e F ks vs r Q},Tq c put a e F ks vs->Dy c X H (r+k)->(∀{v},v∈FT nd->v∈F)->(∀{H'},HR H' r->Q (iH c.aI c.aG nd e X).1 (ov (put (iH c.aI c.aG nd e X).2 H') σ))->
  (KN n).aZ 517 M [.ref a.t,nd.v, .aN ks vs] (ov (put X H) σ) Q
section
variable{mk:Nat->V} {e:Nat->Nat} {F F' ks vs:List V} {x a n r s t k kp M:Nat} {K:CH} {ρ:Env} {v w:V} {σ:St} {Q:V->St->Prop} {c:Gv} {X:TS} {H:Hd} {K':KD} {nd:Nd} {f:Rt}
theorem cW.d4 (h:cW mk e F ks vs):ks.length<=4:=H6 h.nd h.str
theorem Rr (h:v∈bW w ks):v=w\/v∈ks:=by
 by_cases m:w∈ks
 ·exact .inr (iA m▸h)
 ·rw [eG m] at h
  exact(cM.mp h).elim .inr λh=> .inl (b3.mp h)
theorem cW.put (h:cW mk e F ks vs) (hx:x<4) (s:∀{v},v∈F'->v= .str x\/v∈F):cW mk (c7 e x a) F' (bW (.str x) ks) (cz (.str x) (mk a) ks vs):=by
 refine⟨vU h.nd,FQ h.len,λhk G q=>(Rr hk).elim (λe=>e▸q hx) λm=>h.str m q,λ{y} hy=>(zL h.len).trans ?_⟩;by_cases e0:y=x
 ·subst e0;exact(aF rfl).trans (aE (λa=>some (mk a)) (aF rfl).symm)
 ·have n:V.str x≠V.str y:=λw=>e0 (V.str.inj w).symm
  exact(aB n).trans ((h.at_ ((s hy).resolve_left (aL n))).trans (aE (λa=>some (mk a)) (aB e0).symm))
theorem cW.isStr (h:cW mk e F ks vs):ks.all Internal.isStr=true:=cQ.mpr λzz m=>h.str m (G:=λk=>Internal.isStr k=true) λl=>bQ (gB l (ao rfl))
theorem HR.less (h:HR H r) (l:s<=r):HR H s:=⟨h.kn,az (aU l _) h.w,az (aU l _) h.l⟩
theorem iD.less (h:iD X r) (l:s<=r):iD X s:=⟨az (aU l _) h.c,az (aU l _) h.q⟩
theorem Dy.less (h:Dy c X H r) (l:s<=r):Dy c X H s:=⟨h.G,h.rm.less l,h.hr.less l⟩
theorem HR.grow (h:HR H r) (ok:kE K') (l:K'.ks.length<=H.K.ks.length+t) (l':t+s<=r):HR ⟨H.w,K'⟩ s:=
 ⟨ok,az (aU (ay (cn ..) l') _) h.w,az (ay (bG l s) (bH .. ▸aU l' _)) h.l⟩
theorem vr (h:ρ.lookup x=some v) (q:P v):sT (ρ.lookup x) P:=by exact a6 h q
theorem PT (h:b_ v X.qk X.qv=some w):mS v f X=(w,X):=by unfold mS;refine a6 h ?_;rfl
theorem Od (h:v∉X.qk):mS v f X=((f X).1,⟨(f X).2.C,bW v (f X).2.qk,cz v (f X).1 (f X).2.qk (f X).2.qv⟩):=by unfold mS;refine a6 (r9 h) ?_;rfl
theorem Rp:ks.length<=(bW v ks).length:=by
 by_cases m:v∈ks
 ·exact a6 (iA m) (bC _)
 ·exact a6 (eG m) (a6 aP (aY ..))
theorem Bc:j7 (.tup xs) (.tup []):=⟨.tup λzz e=>(bK (List.getElem?_nil.symm.trans e)),(λ_ _ h=>i5 h rfl)⟩
noncomputable def UT (x M:Nat):aH:=(.cons (.ite (.cmp .NotEq (.aS (.attr (.var 95) 96) 145 (.cons (.var x) .nil)) (.tup .nil)) (.cons (.ret (.aS (.var 95) M (.cons (.var x) (.cons (.var 47) .nil)))) .nil) .nil) (.cons (.ite (.cmp .NotIn (.var x) (.attr (.var 95) 153)) (.cons (.fJ (.attr (.var 95) 153) (.var x) (.aS (.var 95) M (.cons (.var x) (.cons (.var 47) .nil)))) .nil) .nil) (.cons (.ret (.idx (.attr (.var 95) 153) (.var x))) .nil)))
theorem E7 {put:TS->Hd->St} {a:TA} {m:Addr} (O:d9 c) (hk:nd.kd≠0) (ok:fQ nd) (hr:Internal.run c.aI c.aG nd e=fk nd (iH c.aI c.aG nd e)) (hc:bL nd+(1+kp)<=b5 nd) (Y6:dX n nd) (hM:(KN n).find 517 M=some m) (Yo:∀w,(a.as w).lookup M=none) (hp:g8 c n M kp nd)
  (T:Tq c put a e F ks vs) (dy:Dy c X H (r+b5 nd)) (sF:∀{v},v∈FT nd->v∈F) (q:∀{H'},Dy c (Internal.run c.aI c.aG nd e X).2 H' r->cT c nd e (Internal.run c.aI c.aG nd e X).2.C (Internal.run c.aI c.aG nd e X).1->TStep X (Internal.run c.aI c.aG nd e X).2->Q (Internal.run c.aI c.aG nd e X).1 (ov (put (Internal.run c.aI c.aG nd e X).2 H') σ))
  (h1:ρ.lookup 95=some (.ref a.t)) (h2:ρ.lookup x=some nd.v) (h3:ρ.lookup 47=some (.aN ks vs)):(UT x M).run (KN n) ρ (ov (put X H) σ) (rt Q (ov (put X H) σ)):=by
 have P:=k8 O hk T.he dy.G;obtain⟨s,k,-,-,CL⟩:=P.pl;have D1:=CL X dy.G ((bD c s).os (bD c s).refl);have D0:=P.all X dy.G ((bD c s).os (bD c s).refl);have hr:=congrFun hr X;have R0:∀{R},fk nd (iH c.aI c.aG nd e) X=R->iD R.2 r:=λ{R} e=>hr.trans e▸D0.room dy.rm;have q':∀{R},fk nd (iH c.aI c.aG nd e) X=R->∀{H'},HR H' r->Q R.1 (ov (put R.2 H') σ):=λ{R} e {H'} h=>(hr.trans e▸q (H':=H') ⟨D0.good,D0.room dy.rm,h⟩ D0.res (D0.own:y4 _ X _).toTStep:Q R.1 (ov (put R.2 H') σ));have yq:r+1+kp<=r+b5 nd:=bH r 1 kp▸aU (ay (cn ..) hc) r;have ng:bL nd+(r+1+kp)<=r+b5 nd:=by rw [bH,Nat.add_left_comm];exact aU hc r
 refine go (vr h1 (bu T.tp.o rfl rfl (aV T.tp.f.ob rfl rfl (vr h2 (Y6.run T.tp.f dy.hr.kn (az (aU (ay (ay (aY ..) hc) (cn _ r)) _) dy.hr.l) λ{K'} CC l'=> ?_)))));have Dj:Dy c X ⟨H.w,K'⟩ (r+1+kp):=⟨dy.G,dy.rm.less yq,dy.hr.grow CC l' ng⟩;have call:∀{Q' X' H'},(KN n).aZ 517 M [.ref a.t,nd.v, .aN ks vs] (ov (put X' H') σ) Q'->(ME.aS (.var 95) M (.cons (.var x) (.cons (.var 47) .nil))).run (KN n) ρ (ov (put X' H') σ) Q':=λq=>vr h1 (aV T.tp.o (Yo _) hM (vr h2 (vr h3 q)));by_cases hf:FT nd= []
 ·have hw:fk nd (iH c.aI c.aG nd e) X=_:=congrFun (aF hf) X
  refine iE Bc (aE V.tup hf) (sk (go (vr h2 (vr h1 (bu T.tp.o rfl rfl ?_)))));by_cases hm:nd.v∈X.qk
  ·refine Fc dy.G.len hm λhu=>wB T.tp.q ok.key hm (sk (go (vr h1 (bu T.tp.o rfl rfl (vr h2 (.dict T.tp.q ok.key hu (b4 T.tp.b (q' (hw.trans (PT hu)) (Dj.hr.less (ay (aY ..) (aY ..)))))))))))
  ·have g:bT c (iH c.aI c.aG nd e X).2:=D1.good
   have hw:=hw.trans (Od hm);exact wA T.tp.q ok.key hm (go (call (hp.run T Dj sF λ{H'} C_=>vr h1 (bu T.tp.o rfl rfl (vr h2 (ki (gY T.tp.md) ok.key (az (ay Rp (aY ..)) (R0 hw).q) rfl (sk (og (rM.trans (aE (ov · σ) T.tp.um)) (vr h1 (bu T.tp.o rfl rfl (vr h2 (.dict T.tp.q ok.key (zf g.len) (b4 T.tp.b (q' hw (C_.less (aY ..))))))))))))))))
 ·exact sy Bc (λe=>hf (V.tup.inj e)) (go (call (hp.run T Dj sF λ{H'} C_=>b4 T.tp.b (q' (congrFun (aB hf) X) (C_.less (aY ..))))))
end
section
variable{put:TS->Hd->St} {a:TA} {σ:St} {X:TS} {H:Hd} {e:Nat->Nat} {F ks vs:List V} {x y n r t k kp w M:Nat} {Q:V->St->Prop} {c:Gv} {nd u v:Nd} {f:Rt} {v1 v2:V} {U:List V} {ar:Int} {d d':List Int->V->Bool} {l:List V} {g:(Nat->Nat)->V->V->Rt}
theorem Vc {l:List Nat} {t s:Nat} (h:l.contains t=false) (m:l.contains s=true):t≠s:=λe=>de ((e▸h).symm.trans m)
theorem Dy.cr (h:Dy c X H r):CR X.C r:=h.G.G.cr h.rm.c
theorem pL (O:d9 c) (hx:x<4):c_ c (n+1) 92 (.var x):=⟨λ{put a σ X H e F ks vs r Q} T dy s q=>
 bf rfl rfl (go (dA rfl (ah rfl) (hW fP rfl (go (.seq (.tup rfl) (ao rfl) rfl (.dict .aN (pZ hx) (T.env.at_ (s kz)) (b4 T.tp.b (q (dy.less (aY ..)) ((k8 O (nd:= .var x) eh T.he dy.G).all X dy.G ((bD c 1).os (bD c 1).refl)).res ⟨cV.refl _,id⟩))))))))⟩
theorem k_ (O:d9 c) (hk:nd.kd≠0) (ok:fQ nd) (ev:nd.v= .tup (.str t::l)) (hl:l.length<=99) (ht:t≠27) (hr:∀e,run c.aI c.aG nd e=fk nd (iH c.aI c.aG nd e)) (hc:bL nd+(1+kp)<=b5 nd) (hn:fu nd<=n) (hp:g8 c n 161 kp nd):c_ c (n+1) 92 nd:=
 ⟨λT dy s q=>bf rfl rfl (go (dA ev hl (gM fP (gW ht) (sk (E7 O hk ok (hr _) hc (GW ok.nm ok.dp hn) rfl (λzz=>rfl) hp T dy s q rfl rfl rfl)))))⟩
theorem rh (O:d9 c) (hk:nd.kd≠0) (ok:fQ nd) (hr:∀e,run c.aI c.aG nd e=fk nd (iH c.aI c.aG nd e)) (hc:bL nd+(1+kp)<=b5 nd) (hn:fu nd<=n) (hp:g8 c n 162 kp nd):c_ c (n+1) 122 nd:=
 ⟨λT dy s q=>bf rfl rfl (E7 (x:=129) O hk ok (hr _) hc (GW ok.nm ok.dp hn) rfl (λzz=>rfl) hp T dy s q rfl rfl rfl)⟩
end
section
variable{K:CH} {ρ:Env} {σ:St} {Q:Option V->Env->St->Prop} {b r:aH} {x m n:Nat} {v:V} {l':List V}
theorem bh (hx:ρ.lookup x=some (.str m)) (h:Nat.beq m n=false) (q:r.run K ρ σ Q):(aH.cons (.ite (.cmp .Eq (.var x) (.lit (.str n))) b .nil) r).run K ρ σ Q:=go (vr hx (gM fP (gW (Nat.ne_of_beq_eq_false h)) (sk q)))
theorem fS (hx:ρ.lookup x=some (.str m)) (q:b.run K ρ σ (sq r.run K Q)):(aH.cons (.ite (.cmp .Eq (.var x) (.lit (.str m))) b .nil) r).run K ρ σ Q:=go (vr hx (hW fP rfl q))
noncomputable def BX (l:List Nat):eO:=l.rec .nil λn zz r=> .cons (.lit (.str n)) r
theorem Fg {Q:List V->St->Prop} {l:List Nat} (q:Q (l.map .str) σ):(BX l).run K ρ σ Q:=by
 induction l generalizing Q with
 |nil=>exact q
 |cons n l ih=>exact ih q
theorem c8 (l:List Nat) (hx:ρ.lookup x=some (.str m)) (h:l.contains m=false) (q:r.run K ρ σ Q):(aH.cons (.ite (.cmp .In (.var x) (.tup (BX l))) b .nil) r).run K ρ σ Q:=go (vr hx (Fg (mU l h (sk q))))
theorem JP (l:List Nat) (hx:ρ.lookup x=some (.str m)) (h:l.contains m=true) (q:b.run K ρ σ (sq r.run K Q)):(aH.cons (.ite (.cmp .In (.var x) (.tup (BX l))) b .nil) r).run K ρ σ Q:=go (vr hx (Fg (mU l h q)))
theorem dG {l:List Nat} {t s:Nat} (h:l.contains t=false) (m:l.contains s=true):Nat.beq t s=false:=Bool.eq_false_iff.mpr λq=>Vc h m (Nat.eq_of_beq_eq_true q)
end
section
variable{put:TS->Hd->St} {a:TA} {σ:St} {X:TS} {H:Hd} {e:Nat->Nat} {F ks vs:List V} {x y n r t k kp w M:Nat} {Q:V->St->Prop} {c:Gv} {nd u v:Nd} {v1 v2:V} {U:List V} {ar tC:Int} {d d':List Int->V->Bool} {C C':aJ} {G:(Nat->Nat)->V->V->Rt}
theorem uM {P:V->V->Prop} (h1:dq U ar C v1 d) (h2:dq U tC C' v2 d') (q:P (toMx v1).v (toMx v2).v):P v1 v2:=h1.e▸h2.e▸q
theorem Tj (T:cZ put a) (u:UOk U) (h1:dq U ar X.C v1 d) (h2:dq U tC X.C v2 d') (ok:CR X.C 9) (q:Q (nV X.C (toMx v1) (toMx v2)).1.v (ov (put ⟨(nV X.C (toMx v1) (toMx v2)).2,X.qk,X.qv⟩ H) σ)):(KN (n+5)).aZ 517 125 [.ref a.t, .str 38,v1,v2] (ov (put X H) σ) Q:=
 uM (P:=λv w=>(KN (n+5)).aZ 517 125 [.ref a.t, .str 38,v,w] (ov (put X H) σ) Q) h1 h2 (bf rfl rfl (fS rfl (go (bu T.o rfl rfl (aV T.cp.mo rfl rfl (NV T.cp u h1.m.ok h2.m.ok ok (b4 T.b q)))))))
theorem Ts (T:cZ put a) (u:UOk U) (h1:dq U ar X.C v1 d) (h2:dq U tC X.C v2 d') (ok:CR X.C 9) (q:Q (nW X.C (toMx v1) (toMx v2)).1.v (ov (put ⟨(nW X.C (toMx v1) (toMx v2)).2,X.qk,X.qv⟩ H) σ)):(KN (n+5)).aZ 517 125 [.ref a.t, .str 39,v1,v2] (ov (put X H) σ) Q:=
 uM (P:=λv w=>(KN (n+5)).aZ 517 125 [.ref a.t, .str 39,v,w] (ov (put X H) σ) Q) h1 h2 (bf rfl rfl (bh rfl rfl (bh rfl rfl (fS rfl (go (bu T.o rfl rfl (aV T.cp.mo rfl rfl (Oc T.cp u h1.m.ok h2.m.ok ok (b4 T.b q)))))))))
theorem Tt (T:cZ put a) (hN:N<=3) (hx:x<N) (h2:e7 (bS N) (toMx v2)) (qG:(toMx v2).ar=2) (ok:CR X.C 1) (q:Q (oc x (toMx v2)).v (ov (put X H) σ)):(KN (n+5)).aZ 517 125 [.ref a.t, .str 32,(kB x).v,(toMx v2).v] (ov (put X H) σ) Q:=
 bf rfl rfl (bh rfl rfl (bh rfl rfl (bh rfl rfl (fS rfl (go (bu T.o rfl rfl (aV T.cp.mo rfl rfl (Q4 T.cp ok hN hx h2 qG (b4 T.b q)))))))))
theorem Tn (T:cZ put a) (hx:x<4) (hy:y<4) (ok:CR X.C 1) (q:Q (o9 x y).v (ov (put X H) σ)):(KN (n+5)).aZ 517 125 [.ref a.t, .str 43,(kB x).v,(kB y).v] (ov (put X H) σ) Q:=
 bf rfl rfl (bh rfl rfl (bh rfl rfl (bh rfl rfl (bh rfl rfl (fS rfl (go (bu T.o rfl rfl (aV T.cp.mo rfl rfl (MU T.cp ok hx hy (b4 T.b q))))))))))
theorem HV {i:Nat} {u:V} (ev:nd.v= .tup [.str 30, .int i]) (h: [c.aI.v,c.aG.v][i]? =some u) (hp:∀e X,iH c.aI c.aG nd e X=(u,X)):g8 c (n+1) 161 1 nd:=⟨λ{put a σ X H e F ks vs r Q} T dy s q=>by
 refine a6 ev (bf rfl rfl (go (dA rfl (ah rfl) (fS rfl (go (bu T.tp.o rfl rfl (.seq (.tup rfl) (ao rfl) rfl (a6 T.rl ?_))))))));have q:=q (dy.less (aY ..)).hr;rw [hp] at q;exact .seq .aa (ao rfl) h (b4 T.tp.b q)⟩
noncomputable abbrev V9 (t:Nat):Bool:= !([30,104,117,118,119,35,120].contains t)&& !([56,123,124].contains t)
theorem wz (O:d9 c) (ev:nd.v= .tup [.str t,u.v,v.v]) (ht:V9 t=true) (hp:∀e X,iH c.aI c.aG nd e X=G e (run c.aI c.aG u e X).1 (run c.aI c.aG v e (run c.aI c.aG u e X).2).1 (run c.aI c.aG v e (run c.aI c.aG u e X).2).2) (hu:∀{x},x∈FT u->x∈FT nd) (hv:∀{x},x∈FT v->x∈FT nd) (hk:b5 u+(b5 v+w)=kp)
  (iu:c_ c n 92 u) (iv:c_ c n 92 v) (two:∀{put a σ X0 X1 H e Q},cZ put a->CR (run c.aI c.aG v e X1).2.C w->bT c (run c.aI c.aG v e X1).2->(∀x,e x<c.n)->cT c u e (run c.aI c.aG v e X1).2.C (run c.aI c.aG u e X0).1->cT c v e (run c.aI c.aG v e X1).2.C (run c.aI c.aG v e X1).1->Q (G e (run c.aI c.aG u e X0).1 (run c.aI c.aG v e X1).1 (run c.aI c.aG v e X1).2).1 (ov (put (G e (run c.aI c.aG u e X0).1 (run c.aI c.aG v e X1).1 (run c.aI c.aG v e X1).2).2 H) σ)->(KN n).aZ 517 125 [.ref a.t, .str t,(run c.aI c.aG u e X0).1,(run c.aI c.aG v e X1).1] (ov (put (run c.aI c.aG v e X1).2 H) σ) Q):
  g8 c (n+1) 161 kp nd:=⟨λ{put a σ X H e F ks vs r Q} T dy s q=>by
 rw [hp] at q;refine a6 ev ?_;have ht:=ik.mp ht;have t1:=(nG _).mp ht.1;have t2:=(nG _).mp ht.2;have e1:r+kp=r+(b5 v+w)+b5 u:=by refine a6 (aT hk) ?_;rw [c0 (b5 u)];exact(bH ..).symm
 have e2:r+(b5 v+w)=r+w+b5 v:=by rw [c0 (b5 v)];exact(bH ..).symm
 exact bf rfl rfl (go (dA rfl (ah rfl) (bh rfl (dG t1 rfl) (bh rfl (dG t1 rfl) (bh rfl (dG t1 rfl) (bh rfl (dG t1 rfl) (bh rfl (dG t1 rfl) (bh rfl (dG t1 rfl) (bh rfl (dG t1 rfl) (c8 [56,123,124] rfl t2 (go (aV T.tp.o rfl rfl (aV T.tp.o rfl rfl (.seq (.tup rfl) (ao rfl) rfl (iu.run T (e1▸dy) (λm=>s (hu m)) λ{H1} d1 o1 zz=>aV T.tp.o rfl rfl (.seq (.tup rfl) (ao rfl) rfl (iv.run T (e2▸d1) (λm=>s (hv m)) λ{H2} d2 o2 s2=>two T.tp (d2.less (cn ..)).cr d2.G T.he (o1.step d1.G.G s2.s.toPre) o2 (b4 T.tp.b (q (d2.hr.less (aY ..)))))))))))))))))))))⟩
end
theorem m_ {a b k r:Nat} (h:a+b=k):r+k=r+b+a:=by refine a6 (aT h) ?_;rw [c0 a];exact(bH ..).symm
section
variable{put:TS->Hd->St} {a:TA} {σ:St} {X:TS} {H:Hd} {e:Nat->Nat} {F ks vs:List V} {x y n r t k kp w M:Nat} {Q:V->St->Prop} {c:Gv} {nd u v:Nd} {v1 v2:V} {U:List V} {ar tC:Int} {d d':List Int->V->Bool} {C C':aJ} {G:(Nat->Nat)->V->V->Rt} (O:d9 c)
include O
theorem JG (he:∀x,e x<c.n):e x<4:=v7 O.hi (he x)
theorem GP (hx:x<4) (hy:y<4):g8 c (n+6) 161 21 (.pd x y):=
 wz (u:= .var x) (v:= .var y) (w:=1) (G:=λe a b X=>((o9 (e x) (e y)).v,X)) O rfl rfl (λzz zz=>rfl) cD dO rfl (pL O hx) (pL O hy) λT ok G he h1 h2 q=>Tn T (JG O he) (JG O he) ok q
theorem T_ (hx:x<4) (iv:c_ c (n+5) 92 .r1):g8 c (n+6) 161 21 (.jn x):=
 wz (u:= .var x) (v:= .r1) (w:=1) (G:=λe a b X=>((oc (e x) (toMx b)).v,X)) O rfl rfl (λzz zz=>rfl) cD (λm=>absurd m bx) rfl (pL O hx) iv λ{put a σ X0 X1 H e Q} T ok G he h1 h2 q=>by
  have h:=(h2.r1 rfl).1;exact a6 (aT h.e) (Tt T O.hi (he x) h.m.ok h.ar ok q)
theorem TV (ku:u.kd=1) (kv:v.kd=1) (iu:c_ c (n+5) 92 u) (iv:c_ c (n+5) 92 v):g8 c (n+6) 161 (b5 u+(b5 v+9)) (.un u v):=
 wz (w:=9) (G:=λe a b X=>let r:=lc (λC=>nV C (toMx a) (toMx b)) X;(r.1.v,r.2)) O rfl rfl (λzz zz=>rfl) cD dO rfl iu iv λT ok G he h1 h2 q=>Tj T (gk O.hi) (h1.set ku) (h2.set kv) ok q
theorem TZ (ku:u.kd=1) (kv:v.kd=1) (iu:c_ c (n+5) 92 u) (iv:c_ c (n+5) 92 v):g8 c (n+6) 161 (b5 u+(b5 v+9)) (.mi u v):=
 wz (w:=9) (G:=λe a b X=>let r:=lc (λC=>nW C (toMx a) (toMx b)) X;(r.1.v,r.2)) O rfl rfl (λzz zz=>rfl) cD dO rfl iu iv λT ok G he h1 h2 q=>Ts T (gk O.hi) (h1.set ku) (h2.set kv) ok q
omit O in
theorem TX:g8 c (n+1) 161 1 .r0:=HV (i:=0) rfl rfl λzz zz=>rfl
omit O in
theorem AM:g8 c (n+1) 161 1 .r1:=HV (i:=1) rfl rfl λzz zz=>rfl
omit O
theorem FJ (T:cZ put a) (u:UOk U) (h1:dq U ar X.C v1 d) (h2:dq U tC X.C v2 d') (ok:CR X.C 10) (q:Q (.int (jg X.C (toMx v1) (toMx v2)).1) (ov (put ⟨(jg X.C (toMx v1) (toMx v2)).2,X.qk,X.qv⟩ H) σ)):(KN (n+6)).aZ 517 165 [.ref a.t, .str 40, .aa [v1,v2]] (ov (put X H) σ) Q:=
 uM (P:=λv w=>(KN (n+6)).aZ 517 165 [.ref a.t, .str 40, .aa [v,w]] (ov (put X H) σ) Q) h1 h2 (bf rfl rfl (fS rfl (go (bu T.o rfl rfl (aV T.cp.mo rfl rfl (.seq .aa (ao rfl) rfl (.seq (i:=1) .aa (ao rfl) rfl (N8 (n:=n+1) T.cp u h1.m.ok h2.m.ok ok (b4 T.b q)))))))))
theorem O3 (T:cZ put a) (u:UOk U) (h1:dq U ar X.C v1 d) (h2:dq U tC X.C v2 d') (ok:CR X.C 28) (q:Q (.int (mJ X.C (toMx v1) (toMx v2)).1) (ov (put ⟨(mJ X.C (toMx v1) (toMx v2)).2,X.qk,X.qv⟩ H) σ)):(KN (n+6)).aZ 517 165 [.ref a.t, .str 42, .aa [v1,v2]] (ov (put X H) σ) Q:=
 uM (P:=λv w=>(KN (n+6)).aZ 517 165 [.ref a.t, .str 42, .aa [v,w]] (ov (put X H) σ) Q) h1 h2 (bf rfl rfl (bh rfl rfl (fS rfl (go (bu T.o rfl rfl (aV T.cp.mo rfl rfl (.seq .aa (ao rfl) rfl (.seq (i:=1) .aa (ao rfl) rfl (Pq T.cp u h1.m.ok h2.m.ok ok (b4 T.b q))))))))))
theorem O2 (T:cZ put a) (u:UOk U) (h1:dq U ar X.C v1 d) (ok:CR X.C 1) (q:Q (.int (oi X.C (toMx v1)).1) (ov (put ⟨(oi X.C (toMx v1)).2,X.qk,X.qv⟩ H) σ)):(KN (n+6)).aZ 517 165 [.ref a.t, .str 41, .aa [v1]] (ov (put X H) σ) Q:=
 uM (P:=λv zz=>(KN (n+6)).aZ 517 165 [.ref a.t, .str 41, .aa [v]] (ov (put X H) σ) Q) h1 h1 (bf rfl rfl (bh rfl rfl (bh rfl rfl (fS rfl (go (bu T.o rfl rfl (aV T.cp.mo rfl rfl (.seq .aa (ao rfl) rfl (Pe (n:=n+1) T.cp u h1.m.ok ok (b4 T.b q))))))))))
end
noncomputable abbrev Va (t:Nat):Bool:= !([44,135,136].contains t)&&(!([130,131].contains t)&&(!([45,132].contains t)&&(!([133,134].contains t)&& !([137,138,139].contains t))))
theorem jk (h:(!b)=true):b=false:=(nG _).mp h
section
variable{put:TS->Hd->St} {a:TA} {σ:St} {X:TS} {H:Hd} {e:Nat->Nat} {F ks vs r:List V} {x y n t k kp w M:Nat} {Q:V->St->Prop} {R:Option V->Env->St->Prop} {c:Gv} {nd u v:Nd} {G:(Nat->Nat)->V->V->Rt} (O:d9 c)
include O
theorem zB (ev:nd.v= .tup [.str t,u.v,v.v]) (ht:Va t=true) (hp:∀e X,iH c.aI c.aG nd e X=G e (run c.aI c.aG u e X).1 (run c.aI c.aG v e (run c.aI c.aG u e X).2).1 (run c.aI c.aG v e (run c.aI c.aG u e X).2).2) (hu:∀{x},x∈FT u->x∈FT nd) (hv:∀{x},x∈FT v->x∈FT nd) (hk:b5 u+(b5 v+w)=kp)
  (iu:c_ c n 92 u) (iv:c_ c n 92 v) (two:∀{put a σ X0 X1 H e Q},cZ put a->CR (run c.aI c.aG v e X1).2.C w->bT c (run c.aI c.aG v e X1).2->(∀x,e x<c.n)->cT c u e (run c.aI c.aG v e X1).2.C (run c.aI c.aG u e X0).1->cT c v e (run c.aI c.aG v e X1).2.C (run c.aI c.aG v e X1).1->Q (G e (run c.aI c.aG u e X0).1 (run c.aI c.aG v e X1).1 (run c.aI c.aG v e X1).2).1 (ov (put (G e (run c.aI c.aG u e X0).1 (run c.aI c.aG v e X1).1 (run c.aI c.aG v e X1).2).2 H) σ)->(KN n).aZ 517 165 [.ref a.t, .str t, .aa [(run c.aI c.aG u e X0).1,(run c.aI c.aG v e X1).1]] (ov (put (run c.aI c.aG v e X1).2 H) σ) Q):
  g8 c (n+1) 162 kp nd:=⟨λ{put a σ X H e F ks vs r Q} T dy s q=>by
 rw [hp] at q;refine a6 ev (fG ht λt0 ht=>fG ht λt1 ht=>fG ht λt2 ht=>fG ht λt3 t4=> ?_);have t0:=jk t0;exact bf rfl rfl (go (dA rfl (ah rfl) (c8 [130,131] rfl (jk t1) (bh rfl (dG t0 rfl) (c8 [45,132] rfl (jk t2) (c8 [133,134] rfl (jk t3) (bh rfl (dG t0 rfl) (bh rfl (dG t0 rfl) (c8 [137,138,139] rfl (jk t4) (go (aV T.tp.o rfl rfl (pX.mk lU (ao rfl) ⟨.tup rfl, .tup rfl,aV T.tp.o rfl rfl (iu.run T (m_ hk▸dy) (λm=>s (hu m)) λ{H1} d1 o1 zz=>⟨ao rfl, .tup rfl,aV T.tp.o rfl rfl (iv.run T (m_ (r:=r) (rfl:b5 v+w=_)▸d1) (λm=>s (hv m)) λ{H2} d2 o2 s2=>⟨ao rfl, .tup rfl,two T.tp (d2.less (cn ..)).cr d2.G T.he (o1.step d1.G.G s2.s.toPre) o2 (b4 T.tp.b (q (d2.hr.less (aY ..))))⟩)⟩)⟩))))))))))))⟩
theorem RB (hx:x<4) (kv:v.kd=1) (iv:c_ c (n+6) 92 v):g8 c (n+7) 162 (10+(b5 v+10)) (.c8 x v):=
 zB (u:= .var x) (w:=10) (G:=λe a b X=>let r:=lc (λC=>jg C (toMx a) (toMx b)) X;(.int r.1,r.2)) O rfl rfl (λzz zz=>rfl) cD dO rfl (pL O hx) iv λT ok G he h1 h2 q=>FJ T (gk O.hi) (h1.set rfl) (h2.set kv) ok q
theorem Pz (hx:x<4) (hy:y<4):g8 c (n+7) 162 48 (.same x y):=
 zB (u:= .var x) (v:= .var y) (w:=28) (G:=λe a b X=>let r:=lc (λC=>mJ C (toMx a) (toMx b)) X;(.int r.1,r.2)) O rfl rfl (λzz zz=>rfl) cD dO rfl (pL O hx) (pL O hy) λT ok G he h1 h2 q=>O3 T (gk O.hi) (h1.set rfl) (h2.set rfl) ok q
omit O in
theorem cT.Xp {C:aJ} {w:V} (h:cT c (.pd x y) e C w) (G:bO C) (he:∀x,e x<c.n):dq (bS c.n) 2 C w λzz z=>decide (z=R2 (e x) (e y)):=by
 exact a6 (h.pd rfl) (.mk' rfl (F8 G (he x) (he y)))
theorem TY (iu:c_ c (n+6) 92 (.pd x y)) (iv:c_ c (n+6) 92 .r1):g8 c (n+7) 162 50 (.pr x y):=
 zB (u:= .pd x y) (v:= .r1) (w:=10) (G:=λe a b X=>let r:=lc (λC=>jg C (toMx a) (toMx b)) X;(.int r.1,r.2)) O rfl rfl (λzz zz=>rfl) cD (λm=>absurd m bx) rfl iu iv λT ok G he h1 h2 q=>FJ T (iz O.hi) (h1.Xp G.G he) (h2.r1 rfl).1 ok q
theorem Py (kv:v.kd=1) (iv:c_ c (n+6) 92 v):g8 c (n+7) 162 (b5 v+1) (.some v):=⟨λ{put a σ X H e F ks vs r Q} T dy s q=>by
 exact bf rfl rfl (go (dA rfl (ah rfl) (c8 [130,131] rfl rfl (bh rfl rfl (c8 [45,132] rfl rfl (c8 [133,134] rfl rfl (bh rfl rfl (bh rfl rfl (c8 [137,138,139] rfl rfl (go (aV T.tp.o rfl rfl (pX.mk lU (ao rfl) ⟨.tup rfl, .tup rfl,aV T.tp.o rfl rfl (iv.run T (m_ (r:=r) (rfl:b5 v+1=_)▸dy) (λm=>s (fX.mpr m)) λ{H2} d2 o2 s2=>⟨ao rfl, .tup rfl,O2 T.tp (gk O.hi) (o2.set kv) (d2.less (cn ..)).cr (b4 T.tp.b (q (d2.hr.less (aY ..))))⟩)⟩))))))))))))⟩
omit O
theorem xu {P:V->Prop} {C:aJ} {d:List Int->Bool} {v:V} (h:iZ C v d) (q:P (.int (dj v))):P v:=h.e▸q
theorem Rz (kv:v.kd=2) (iv:c_ c n 122 v):g8 c (n+1) 162 (b5 v) (.not v):=⟨λ{put a σ X H e F ks vs r Q} T dy s q=>
 bf rfl rfl (go (dA rfl (ah rfl) (c8 [130,131] rfl rfl (fS rfl (go (aV T.tp.o rfl rfl (.seq (.tup rfl) (ao rfl) rfl (iv.run T dy (λm=>s (fX.mpr m)) λ{H2} d2 o2 s2=>
  xu (P:=λw=>fH _ _ .Sub (.int 0) w) (o2.fo kv) (.sub (b4 T.tp.b (q d2.hr)))))))))))⟩
theorem RC (ku:u.kd=2) (kv:v.kd=2) (iu:c_ c (n+6) 122 u) (iv:c_ c (n+6) 122 v):g8 c (n+7) 162 (b5 u+(b5 v+1)) (.and u v):=⟨λ{put a σ X H e F ks vs r Q} T dy s q=>by
 refine bf rfl rfl (go (dA rfl (ah rfl) (c8 [130,131] rfl rfl (bh rfl rfl (JP [45,132] rfl rfl (go (.seq (.tup rfl) (ao rfl) rfl ⟨.tup rfl, .tup rfl,aV T.tp.o rfl rfl (iu.run T (m_ rfl▸dy) (λm=>s (cD m)) λ{H1} d1 o1 zz=>⟨ao rfl, .tup rfl,aV T.tp.o rfl rfl (iv.run T (m_ (r:=r) (rfl:b5 v+1=_)▸d1) (λm=>s (dO m)) λ{H2} d2 o2 s2=>⟨ao rfl, .tup rfl, ?_⟩)⟩)⟩)))))));have q:=q (d2.hr.less (aY ..));exact go (hW fP rfl (bu T.tp.o rfl rfl (aV T.tp.cp.ob rfl rfl (xu (P:=λw=>(KN (n+6)).aZ 627 163 [.ref a.c, .aa [w,_]] _ _) (o1.fo ku) (xu (P:=λw=>(KN (n+6)).aZ 627 163 [.ref a.c, .aa [_,w]] _ _) (o2.fo kv) (ud (n:=n+4) T.tp.cp.toCPut (d2.less (cn ..)).cr (gs:= [_,_]) (λzz=> .aa) (ao rfl) (b4 T.tp.b q)))))))⟩
end
inductive Fd (E:V->Nat->Nat) (F:List V):List V->List Int->List V->Prop
 |nil:Fd E F [] [] []
 |cons {z:V} {g:Int} {zs ks us fv:List V} {gs:List Int} (h:cW kJ (E z) F ks us) (r:Fd E F zs gs fv):Fd E F (z::zs) (g::gs) (.tup [z, .int g, .aN ks us]::fv)
structure Wy (σ0:St) (p:Addr) (mo:MO) (σ:St):Prop where
 fr:cP σ σ0
 at_:σ p=some mo
 new:σ0 p=none
section
variable{E:V->Nat->Nat} {F F' zs ys fv qI L A B ks us:List V} {gs hs:List Int} {g gd:Int} {z v:V} {σ σ0:St} {p q:Addr} {mo qB:MO}
theorem Fd.app (h:Fd E F zs gs fv) (h':Fd E F ys hs qI):Fd E F (zs++ys) (gs++hs) (fv++qI):=by
 induction h with
 |nil=>exact h'
 |cons e r ih=>exact .cons e ih
theorem Fd.len (h:Fd E F zs gs fv):fv.length=zs.length:=by
 induction h with
 |nil=>rfl
 |cons e r ih=>exact aE (· +1) ih
theorem En (h:zs.length=gs.length):bj (zs++ys) (gs++hs)=((bj zs gs).1++(bj ys hs).1,(bj zs gs).2++(bj ys hs).2):=by
 induction zs generalizing gs with
 |nil=>cases f9 h.symm;rfl
 |cons z zs ih=>induction gs with
  |nil=>exact eh h
  |cons g gs=>
   have i:=ih (d7 h);by_cases e:g= -1
   ·exact(aF e).trans (i.trans (by rw [show bj (z::zs) (g::gs)=_ from aF e]))
   ·exact((aB e).trans (aE (λr:List V×List Int=>(z::r.1,g::r.2)) i)).trans (by rw [show bj (z::zs) (g::gs)=_ from aB e];rfl)
theorem Wy.ne (W:Wy σ0 p mo σ) (h:σ q=none):p≠q:=b8 W.at_ h
theorem Wy.dict (W:Wy σ0 p mo σ) (h:σ q=none):Wy σ0 p mo (upd σ q (.dict ks vs)):=⟨W.fr.upd (W.fr.new h) (λ_ h=>a_ h rfl),(uN (W.ne h)).trans W.at_,W.new⟩
theorem Wy.put (W:Wy σ0 p mo σ) (n:∀a,qB≠ .cx a):Wy σ0 p qB (upd σ p qB):=⟨W.fr.upd W.new n,uS ..,W.new⟩
end
noncomputable abbrev xZ (t p:Addr) (x:Nat) (i6:V) (zs:List V) (gd:Int) (ks us:List V) (m:Mx):Env:= [(95, .ref t),(60, .str x),(113,i6),(108, .ref p),(115, .tup zs),(159, .int gd),(58, .aN ks us),(78, .aN m.ks (m.gs.map V.int))]
section
variable{put:TS->Hd->St} {a:TA} {σ σ0:St} {X:TS} {H:Hd} {p:Addr} {E:V->Nat->Nat} {e:Nat->Nat} {F F' zs ks us L ys xs:List V} {x b n:Nat} {gd:Int} {m:Mx} {i6:V} {k:Env->St->Prop} {R:Option V->Env->St->Prop} {Q:Env->St->Prop}
theorem RJ (T:cZ put a) (hx:x<4) (W:Wy σ0 p (.list L) σ) (pn:∀{X H},put X H p=none) (hl:L.length<lim) (cr:CR X.C 1) (hE:cW kJ e F ks us) (hz:zs.length<=9) (hb:E (cu (.tup zs) (R1 b))=c7 e x b) (vm:R1 b∈m.ks) (hlen:m.ks.length=m.gs.length) (kG:∀{v},v∈F'->v= .str x\/v∈F)
  (q:∀{L' a8},Fd E F' (bj [cu (.tup zs) (R1 b)] [(bA X.C [gd,gate m.ks m.gs (R1 b)]).1]).1 (bj [cu (.tup zs) (R1 b)] [(bA X.C [gd,gate m.ks m.gs (R1 b)]).1]).2 L'->Wy σ0 p (.list (L++L')) a8->k (xZ a.t p x i6 zs gd ks us m) (ov (put ⟨(bA X.C [gd,gate m.ks m.gs (R1 b)]).2,X.qk,X.qv⟩ H) a8)):
  Ba.run (KN (n+3)) ((37,R1 b)::xZ a.t p x i6 zs gd ks us m) (ov (put X H) σ) (jz CG k R):=by
 refine go (.copy .aN hE.isStr (ay hE.d4 (ah rfl)) λq0 oN=> ?_);obtain⟨n0,s0⟩:=A5 oN;refine a6 (rT n0) ?_;have W2:=W.dict s0 (ks:=ks) (vs:=us);have pq:=W.ne s0;refine bu T.o rfl rfl (aV T.cp.ob rfl rfl (.dict .aN (show aR 8 (R1 b)=true from rfl) (m9 hlen vm) (wj T.cp.toCPut cr (.mk rfl (go ⟨cG.mpr ⟨bx,cY⟩,rfl,λq1 vk=>pU vk (wm ((iT (T.new n0)).trans (uS ..)) (pZ hx) (az hE.d4 (ao rfl)) (a6 (rT (T.new n0)) ?_))⟩)))));rw [eo];have W3:Wy σ0 p (.list L) (upd σ q0 (.dict (bW (.str x) ks) (cz (.str x) (kJ b) ks us))):=W.dict s0;by_cases hg:(bA X.C [gd,gate m.ks m.gs (R1 b)]).1= -1
 ·have e1:bj [cu (.tup zs) (R1 b)] [(bA X.C [gd,gate m.ks m.gs (R1 b)]).1]=([], []):=aF hg
  rw [e1] at q;exact go (dF.mk (iE eB (aE V.int hg) (sk (q (L':= []) .nil ((d6 L).symm▸W3)))))
 ·have e1:bj [cu (.tup zs) (R1 b)] [(bA X.C [gd,gate m.ks m.gs (R1 b)]).1]=([cu (.tup zs) (R1 b)], [(bA X.C [gd,gate m.ks m.gs (R1 b)]).1]):=aB hg
  rw [e1] at q;exact go (dF.mk (sy eB (kr hg) (go ⟨⟨.ref ((iT pn).trans W3.at_)⟩, .tup (az (fe hz) (ao rfl)) (.dict ((iT (T.new n0)).trans (uS ..)) (a6 (AN (T.new n0)) (a6 (mA s0) (.mk ((iT pn).trans W.at_) hl (a6 (rT pn) (q (.cons (hb▸hE.put hx kG) .nil) (W.put (λ_ h=>a_ h rfl))))))))⟩)))
end
noncomputable abbrev Jl (m:Mx) (gd:Int) (zs ys:List V) (C:aJ):List V×List Int:=bj (ys.map (cu (.tup zs))) (b6 (λy C=>bA C [gd,gate m.ks m.gs y]) ys C).1
noncomputable abbrev oA (t p:Addr) (x:Nat) (i6:V):Env:= [(95, .ref t),(60, .str x),(113,i6),(108, .ref p)]
section
variable{c:Gv} {put:TS->Hd->St} {a:TA} {σ σ0:St} {X:TS} {H:Hd} {p:Addr} {E:V->Nat->Nat} {e:Nat->Nat} {F F' zs ks us L ys xs:List V} {x b n r:Nat} {gd:Int} {m:Mx} {i6:V} {nd:Nd} {k:Env->St->Prop} {R:Option V->Env->St->Prop} {Q:Env->St->Prop}
theorem O5 (T:cZ put a) (hx:x<4) (pn:∀{X H},put X H p=none) (hE:cW kJ e F ks us) (hz:zs.length<=9) (hb:∀{b},E (cu (.tup zs) (R1 b))=c7 e x b) (hlen:m.ks.length=m.gs.length) (kG:∀{v},v∈F'->v= .str x\/v∈F)
  (hy:∀{y},y∈ys->y∈m.ks/\∃b,y=R1 b) (cr:CR X.C ys.length) (hl:L.length+ys.length<lim) (W:Wy σ0 p (.list L) σ)
  (fin:∀{L' a8},Fd E F' (Jl m gd zs ys X.C).1 (Jl m gd zs ys X.C).2 L'->Wy σ0 p (.list (L++L')) a8->L'.length<=ys.length->Q (xZ a.t p x i6 zs gd ks us m) (ov (put ⟨(b6 (λy C=>bA C [gd,gate m.ks m.gs y]) ys X.C).2,X.qk,X.qv⟩ H) a8)):
  dP (eT (hV (.one 37) Ba CG (KN (n+3)) R) (.aa xs) xs) ys (ov (put X H) σ) (xZ a.t p x i6 zs gd ks us m) (eX (.aa xs) xs Q):=by
 induction ys generalizing X L σ with
 |nil=>exact⟨.aa,fin .nil ((d6 L).symm▸W) (bC _)⟩
 |cons y ys ih=>
  obtain⟨hm,b,rfl⟩:=hy aM;refine⟨.aa,f1 (RJ T hx W pn (az (aY ..) hl) (cr.less (fe (fh _))) hE hz hb hm hlen kG λ{L' a8} F1 W1=> ?_)⟩;have l1:L'.length<=1:=F1.len▸zg.length_le;refine ih (λm=>hy (aQ _ m)) (CR.bA cr _) ?_ W1 λ{vE ot} F2 W2 l2=>fin ?_ (by rw [<-bP];exact W2) ?_
  ·refine a6 aP ?_
   exact az (ay (bG (aU l1 _) _) (gh (by rw [bH,c0 1];rfl))) hl
  ·have:=En (zs:= [cu (.tup zs) (R1 b)]) (gs:= [(bA X.C [gd,gate m.ks m.gs (R1 b)]).1]) (ys:=ys.map (cu (.tup zs))) (hs:=(b6 (λy C=>bA C [gd,gate m.ks m.gs y]) ys (bA X.C [gd,gate m.ks m.gs (R1 b)]).2).1) rfl
   show Fd E F' (bj ([cu (.tup zs) (R1 b)]++_) ([_]++_)).1 (bj ([cu (.tup zs) (R1 b)]++_) ([_]++_)).2 _;exact a6 this (F1.app F2)
  ·refine a6 aP ?_;rw [c0];exact dh l2 l1
end
structure Wq (c:Gv) (put:TS->Hd->St) (a:TA) (x n:Nat) (nd:Nd) (F F':List V):Prop where
 tp:cZ put a
 rl:a.mQ= .aa [c.aI.v,c.aG.v]
 hx:x<4
 kn:nd.kd=1
 iv:c_ c (n+3) 92 nd
 sF:∀{v},v∈FT nd->v∈F
 kG:∀{v},v∈F'->v= .str x\/v∈F
section
variable{c:Gv} {put:TS->Hd->St} {a:TA} {σ σ0:St} {X:TS} {H:Hd} {p:Addr} {E:V->Nat->Nat} {e:Nat->Nat} {F F' zs ks us L ys xs:List V} {x b n r:Nat} {gd:Int} {m:Mx} {i6:V} {nd:Nd} {k:Env->St->Prop} {R:Option V->Env->St->Prop} {Q:Env->St->Prop}
theorem HR.VS (h:HR H (r+9)) (l:i<=9):HR ⟨H.w+i,H.K⟩ r:=⟨h.kn,az (ay (bG (aU l _) _) (gh (by rw [bH,c0 9]))) h.w,az (aU (aY ..) _) h.l⟩
theorem QX (O:d9 c) (q:Wq c put a x n nd F F') (pn:∀{X H},put X H p=none) (he:∀y,e y<c.n) (hE:cW kJ e F ks us) (hz:zs.length<=9) (hb:∀{b},E (cu (.tup zs) (R1 b))=c7 e x b) (W:Wy σ0 p (.list L) σ) (hl:L.length+9<lim) (dy:Dy c X H (r+(b5 nd+9)))
  (fin:∀{L' a8 H'},Fd E F' (bj (kA (run c.aI c.aG nd e) gd (.tup zs) X).1.1 (kA (run c.aI c.aG nd e) gd (.tup zs) X).1.2).1 (bj (kA (run c.aI c.aG nd e) gd (.tup zs) X).1.1 (kA (run c.aI c.aG nd e) gd (.tup zs) X).1.2).2 L'->Wy σ0 p (.list (L++L')) a8->L'.length<=9->HR H' r->k (oA a.t p x nd.v) (ov (put (kA (run c.aI c.aG nd e) gd (.tup zs) X).2 H') a8)):
  B9.run (KN (n+3)) ((58, .aN ks us)::(159, .int gd)::(115, .tup zs)::oA a.t p x nd.v) (ov (put X H) σ) (jz t6 k R):=by
 have u1:=gk O.hi;refine go (aV q.tp.o rfl rfl (q.iv.run ⟨q.tp,q.rl,he,hE⟩ (r:=r+9) (m_ (rfl:b5 nd+9=_)▸dy) q.sF λ{H1} d1 o1 zz=> ?_));have h:=o1.set q.kn;have l9:(toMx (run c.aI c.aG nd e X).1).ks.length<=9:=iV u1 h.m.ok.nd h.m.ok.sub;have K:=jI u1 h.m.ok;refine a6 (aT h.e) ?_;have h2:HR ⟨H1.w+(toMx (run c.aI c.aG nd e X).1).ks.length,H1.K⟩ r:=d1.hr.VS l9;exact dZ (go (bu q.tp.o rfl rfl (.dict .aN (az l9 (ao rfl)) (.add (wo (gY q.tp.t) rfl rfl (og (rM.trans (aE (ov · σ) (q.tp.ut (w:=H1.w+(toMx (run c.aI c.aG nd e X).1).ks.length)))) (bu q.tp.o rfl rfl (qj (Int.not_lt.mpr (Int.ofNat_le.mpr (jd (az (aY ..) h2.w)))) (sk (go (rC u1 h.m.ok (.mk .aa (O5 q.tp q.hx pn hE hz hb h.m.ok.len q.kG (λm=>⟨dY.mp m,(fj (K.sub m)).elim λb h=>⟨b,h.2⟩⟩) (d1.cr.less (ay K.l9 (cn ..))) (az (aU K.l9 _) hl) W λ{L' a8} F1 W1 l1=>fin F1 W1 (ay l1 K.l9) h2)))))))))))))
end
noncomputable def e6 (x:Nat) (nd:Nd):V:= .tup [.str x,nd.v]
inductive Zo (N:Nat) (E E':V->Nat->Nat) (x:Nat):V->Prop
 |mk {l:List V} (h:l.length<=9) (he:∀y,E (.tup l) y<N) (hb:∀{b},E' (cu (.tup l) (R1 b))=c7 (E (.tup l)) x b):Zo N E E' x (.tup l)
noncomputable abbrev Bq (c:Gv) (nd:Nd) (E:V->Nat->Nat):V×Int->TS->(List V×List Int)×TS:=λq X=>kA (run c.aI c.aG nd (E q.1)) q.2 q.1 X
noncomputable abbrev f_ (c:Gv) (nd:Nd) (E:V->Nat->Nat) (m:Mx) (X:TS):Mx×TS:=lT (λz=>run c.aI c.aG nd (E z)) m X
section
variable{c:Gv} {put:TS->Hd->St} {a:TA} {σ σ0:St} {X:TS} {H:Hd} {p:Addr} {E E':V->Nat->Nat} {e:Nat->Nat} {F F' zs ks us L ys xs fv:List V} {gs:List Int} {x y b n r:Nat} {gd:Int} {m:Mx} {i6 v:V} {nd:Nd} {k:Env->St->Prop} {R:Option V->Env->St->Prop} {Q:Env->St->Prop} {C C':aJ} {z:V}
theorem Wy.del (W:Wy σ0 p mo σ):cP (del σ p) σ0:=⟨λ{c} hc=>(aB λe:c=p=>hc (e▸W.new)).trans (W.fr.old hc),λ{c a} hc e=>by
 by_cases e':c=p
 ·exact bK ((aF e').symm.trans e)
 ·exact W.fr.nh hc ((aB e').symm.trans e)⟩
theorem OC {r:List V×List Int} {rs:List (List V×List Int)} (h:r.1.length=r.2.length):oj (r::rs)=⟨0,(bj r.1 r.2).1++(oj rs).ks,(bj r.1 r.2).2++(oj rs).gs⟩:=by
 unfold oj jl;exact a6 kU (a6 kU (a6 (En h) rfl))
theorem PF (O:d9 c) (kn:nd.kd=1) (he:∀y,e y<c.n) (G:bT c X) (hv:eu X.C gd) (hz:IsT z):lX (bD c (cm nd)) (kA (run c.aI c.aG nd e) gd z) (b5 nd+9) (λzz zz=>True) X:=by
 have h:Rn (bD c (cm nd)) X (kA (run c.aI c.aG nd e) gd z) (b5 nd+9) λzz zz=>True:=(FV (p:=λI=>lt I X.C gd) (dg:=λI x=>D (c.w I) nd e (b9 x)) (d':=λI y=>decide (∃x,x∈aW c.n/\y=cu z x/\(lt I X.C gd&&D (c.w I) nd e (b9 x))=true)) O G hz ((k8 O (cI kn) he G).all.weak (bC _) λzz zz h=>h.set kn) ⟨hv,λI=>rfl⟩ λ{I x} hx=>by
  rw [ip,kS];exact⟨λe8=>e8.elim λx' eN=>eN.elim λjW eD=>eD.elim λe' h=>(Ar hz hz hx jW e').2▸h,λh=>⟨x,hx,rfl,h⟩⟩).weak (bC _) λzz zz zz=>jE
 exact h X G (bD c (cm nd)).refl.toTStep
theorem NR (O:d9 c) (q:Wq c put a x n nd F F') (pn:∀{X H},put X H p=none) (h:Fd E F zs gs fv) (hz:∀{z},z∈zs->Zo c.n E E' x z) (hv:∀{g},g∈gs->eu X.C g) (W:Wy σ0 p (.list L) σ) (hl:L.length+zs.length*9<lim) (dy:Dy c X H (r+zs.length*(b5 nd+10)))
  (fin:∀{L' a8 H'},Fd E' F' (oj (eA (Bq c nd E) (zs.zip gs) X).1).ks (oj (eA (Bq c nd E) (zs.zip gs) X).1).gs L'->Wy σ0 p (.list (L++L')) a8->HR H' r->Q (oA a.t p x nd.v) (ov (put (eA (Bq c nd E) (zs.zip gs) X).2 H') a8)):
  dP (eT (hV (.many [115,159,58]) B9 t6 (KN (n+3)) R) (.aa xs) xs) fv (ov (put X H) σ) (oA a.t p x nd.v) (eX (.aa xs) xs Q):=by
 induction h generalizing X H L σ with
 |nil=>exact⟨.aa,fin .nil ((d6 L).symm▸W) (dy.hr.less (aY ..))⟩
 | @cons z g zs ks us fv gs hE h ih=>
  rw [nH,Nat.succ_mul] at dy hl;cases hz aM with
  | @mk l vn he hb=>
  have A:=PF O q.kn he dy.G (hv aM) ⟨l,rfl⟩;have st:TStep X _:=A.own.toTStep;refine ⟨.aa, .mk rfl (QX O q pn he hE vn hb W (r:=r+zs.length*(b5 nd+10)) (az (aU (cn ..) _) hl) (dy.less (by rw [bH];exact aY _ 1)) λ{L' a8 H'} F1 W1 l1 h1=>ih (λm=>hz (aQ _ m)) (λm=>(hv (aQ _ m)).step st.s.toPre) W1 ?_ ⟨A.good,A.room ((dy.less (by rw [bH];exact aY _ 1)).rm),h1⟩ λ{vE ot Dx} F2 W2 h2=>fin ?_ (by rw [<-bP];exact W2) h2)⟩
  ·refine a6 aP ?_;rw [bH,c0 L'.length]
   exact az (aU (aU l1 _) _) hl
  ·exact Eq.mpr (aE (λM:Mx=>Fd E' F' M.ks M.gs (L'++vE)) (OC ((b0 ..).trans mh.symm))) (F1.app F2)
theorem zT (O:d9 c) (q:Wq c put a x n nd F F') (h:Fd E F m.ks m.gs fv) (hz:∀{z},z∈m.ks->Zo c.n E E' x z) (hv:∀{g},g∈m.gs->eu X.C g) (h9:m.ks.length<=9) (dy:Dy c X H (r+m.ks.length*(b5 nd+10)))
  (fin:∀{L' a8 H'},cP a8 σ->Fd E' F' (f_ c nd E m X).1.ks (f_ c nd E m X).1.gs L'->HR H' r->k [(95, .ref a.t),(55, .aa L')] (ov (put (f_ c nd E m X).2 H') a8)):
  Gw.run (KN (n+3)) [(113,nd.v),(60, .str x),(95, .ref a.t),(55, .aa fv)] (ov (put X H) σ) (jz [95,55] k R):=by
 refine go λp hp=> ?_;obtain⟨n0,s0⟩:=A5 hp;refine a6 (rT n0) ?_;have pn:∀{X H},put X H p=none:=q.tp.new n0;exact go (.mk .aa (NR O q pn h hz hv ⟨(cP.refl σ).upd s0 (λ_ h=>a_ h rfl),uS ..,s0⟩ (az (aU (m6 9 h9) 0) (ao rfl)) dy λ{L' a8 H'} F1 W1 h1=>go (.list ((iT pn).trans W1.at_) (a6 (AN pn) (fin W1.del F1 h1)))))
end
noncomputable abbrev Je (t p:Addr) (ds:List V) (fv:V):Env:= [(95, .ref t),(59, .tup ds),(61,fv),(78, .ref p)]
noncomputable abbrev mF (c:Gv) (f:Nd) (E:V->Nat->Nat):V×Int->TS->Int×TS:=λq X=>jt (run c.aI c.aG f (E q.1)) q.2 X
section
variable{c:Gv} {put:TS->Hd->St} {a:TA} {σ σ0:St} {X X1:TS} {H:Hd} {p:Addr} {E:V->Nat->Nat} {e:Nat->Nat} {F zs ks us ds xs fv K U:List V} {gs G:List Int} {x y b n r:Nat} {gd:Int} {m:Mx} {f:Nd} {k:Env->St->Prop} {R:Option V->Env->St->Prop} {Q:Env->St->Prop} {S:V->St->Prop} {d:List Int->V->Bool}
theorem QC (O:d9 c) (kf:f.kd=2) (he:∀y,e y<c.n) (G:bT c X) (hv:eu X.C gd):lX (bD c (cm f)) (jt (run c.aI c.aG f e) gd) (b5 f+1) (λzz zz=>True) X:=
 Rn.bind (f:=run c.aI c.aG f e) (g:=λv X=>lc (λC=>bA C [gd,dj v]) X) (k8 O (fx kf) he G).all (λ{Y v} GY (t:TStep X Y) h=>(uC (nR (p:=λI=>lt I Y.C gd) GY.G ⟨hv.step t.s.toPre,λI=>rfl⟩ (h.fo kf).g)).weak (P':=λzz zz=>True) (bC _) λzz zz zz=>jE) X G (bD c (cm f)).refl.toTStep
theorem QB (O:d9 c) (T:cZ put a) (rl:a.mQ= .aa [c.aI.v,c.aG.v]) (pn:∀{X H},put X H p=none) (kf:f.kd=2) (iv:c_ c (n+3) 122 f) (sF:∀{v},v∈FT f->v∈F) (h:Fd E F zs gs fv) (he:∀{z},z∈zs->∀y,E z y<c.n) (hk:∀{z},z∈zs->aR 8 z=true) (hv:∀{g},g∈gs->eu X.C g)
  (hn:(K++zs).Nodup) (hl:K.length+zs.length<lim) (CY:K.length=G.length) (W:Wy σ0 p (.dict K (G.map .int)) σ) (dy:Dy c X H (r+zs.length*(b5 f+1)))
  (fin:∀{a8 H'},Wy σ0 p (.dict (K++(bj zs (eA (mF c f E) (zs.zip gs) X).1).1) ((G++(bj zs (eA (mF c f E) (zs.zip gs) X).1).2).map .int)) a8->HR H' r->Q (Je a.t p ds f.v) (ov (put (eA (mF c f E) (zs.zip gs) X).2 H') a8)):
  dP (eT (hV (.many [115,159,58]) Hx [95,59,61,78] (KN (n+3)) R) (.aa xs) xs) fv (ov (put X H) σ) (Je a.t p ds f.v) (eX (.aa xs) xs Q):=by
 induction h generalizing X H K G σ with
 |nil=>exact⟨.aa,fin (by refine a6 (show bj [] (eA (mF c f E) ([].zip []) X).1=([], []) from rfl) ?_;rw [d6,d6];exact W) (dy.hr.less (aY ..))⟩
 | @cons z g zs ks us fv gs hE h ih=>
  rw [nH,Nat.succ_mul] at dy;have hz:=hk aM;have A:=QC O kf (he aM) dy.G (hv aM);have st:TStep X _:=A.own.toTStep;have dy:Dy c X H (r+zs.length*(b5 f+1)+(b5 f+1)):=by rw [bH];exact dy
  have zK:z∉K:=λm=>(ja.mp hn).2.2 _ m _ aM rfl;refine⟨.aa, .mk rfl (go (bu T.o rfl rfl (aV T.cp.ob rfl rfl (aV T.o rfl rfl (iv.run ⟨T,rl,he aM,hE⟩ (r:=r+zs.length*(b5 f+1)+1) (by rw [bH _ 1,c0 1];exact dy) sF λ{H1} d1 o1 zz=>xu (P:=λw=>(KN (n+3)).aZ 627 158 [.ref a.c, .int g,w] _ _) (o1.fo kf) (wj T.cp.toCPut (d1.less (cn ..)).cr ?_))))))⟩;have next:=λ{K1:List V} {G1:List Int} {uW:St}=>ih (X:=(jt (run c.aI c.aG f (E z)) g X).2) (H:=H1) (K:=K1) (G:=G1) (σ:=uW) (λm=>he (aQ _ m)) (λm=>hk (aQ _ m)) λm=>(hv (aQ _ m)).step st.s.toPre;have Kh:Dy c (jt (run c.aI c.aG f (E z)) g X).2 H1 (r+zs.length*(b5 f+1)):=⟨A.good,A.room dy.rm,d1.hr.less (aY ..)⟩;by_cases hg:(jt (run c.aI c.aG f (E z)) g X).1= -1
  ·have e1:bj (z::zs) (eA (mF c f E) ((z,g)::zs.zip gs) X).1=bj zs (eA (mF c f E) (zs.zip gs) (jt (run c.aI c.aG f (E z)) g X).2).1:=aF hg
   exact go (dF.mk (iE eB (aE V.int hg) (sk (next (ja.mpr ⟨(ja.mp hn).1,(cG.mp (ja.mp hn).2.1).2,λa ha b hb=>(ja.mp hn).2.2 a ha b (aQ _ hb)⟩) (iP hl) CY W Kh λ{a8 H'} W' h'=>fin (Eq.mpr (aE (λq:List V×List Int=>Wy σ0 p (.dict (K++q.1) ((G++q.2).map V.int)) a8) e1) W') h'))))
  ·have e1:bj (z::zs) (eA (mF c f E) ((z,g)::zs.zip gs) X).1=(z::(bj zs (eA (mF c f E) (zs.zip gs) (jt (run c.aI c.aG f (E z)) g X).2).1).1,(jt (run c.aI c.aG f (E z)) g X).1::(bj zs (eA (mF c f E) (zs.zip gs) (jt (run c.aI c.aG f (E z)) g X).2).1).2):=aB hg
   have e2:MO.dict (bW z K) (cz z (.int (jt (run c.aI c.aG f (E z)) g X).1) K (G.map .int))= .dict (K++ [z]) ((G++ [(jt (run c.aI c.aG f (E z)) g X).1]).map .int):=by refine a6 (eG zK) (a6 (jH (by rw [b0];exact CY) zK) (a6 iR ?_));rfl
   refine go (dF.mk (sy eB (kr hg) (go (ki ((iT pn).trans W.at_) hz (az (aY ..) hl) e2 (a6 (rT pn) (next (by rw [bP];exact hn) (by refine a6 aP (a6 m4 ?_);rw [bH,c0 1];exact hl) (by refine a6 aP (a6 aP (a6 CY ?_));rfl) (W.put (λ_ h=>a_ h rfl)) Kh λ{a8 H'} W' h'=>fin (Eq.mpr (aE (λq:List V×List Int=>Wy σ0 p (.dict (K++q.1) ((G++q.2).map V.int)) a8) e1) ?_) h'))))));rw [bP,bP] at W';exact W'
theorem Mr.valid (h:Mr U X.C m d) {g:Int} (hg:g∈m.gs):eu X.C g:=by
 obtain⟨i,hi,e⟩:=List.getElem_of_mem hg;have hk:i<m.ks.length:=by exact a6 h.ok.len hi
 have:=(h.val (h.ok.sub (List.getElem_mem hk))).v
 rwa [w4 h.ok.nd (zip_get (dR hk) (a6 (dR hi) (a6 e rfl)))] at this
theorem Ft (O:d9 c) (T:cZ put a) (rl:a.mQ= .aa [c.aI.v,c.aG.v]) (kf:f.kd=2) (iv:c_ c (n+3) 122 f) (sF:∀{v},v∈FT f->v∈F) (u:UOk U) (hm:Mr U X1.C m d) (he:∀{z},z∈m.ks->∀y,E z y<c.n) (G1:bT c X1) (R1:iD X1 (r+m.ks.length*(b5 f+1))) (hd:ds.length<=9)
  (CN:∀{σ Q},(∀{L' H'},Fd E F m.ks m.gs L'->HR H' (r+m.ks.length*(b5 f+1))->Q (.aa L') (ov (put X1 H') σ))->(KN (n+3)).aZ 517 121 [.ref a.t, .tup ds, .aN ks us] (ov (put X H) σ) Q)
  (fin:∀{H'},HR H' r->S (cmp (λz=>run c.aI c.aG f (E z)) ds.length m X1).1 (ov (put (cmp (λz=>run c.aI c.aG f (E z)) ds.length m X1).2 H') σ)):
  (KN (n+4)).aZ 517 91 [.ref a.t, .tup ds,f.v, .aN ks us] (ov (put X H) σ) S:=by
 refine bf rfl rfl (go ⟨cY,rfl,λp hp=> ?_⟩);obtain⟨n0,s0⟩:=A5 hp;refine a6 (rT n0) ?_;have pn:∀{X H},put X H p=none:=T.new n0;exact go (aV T.o rfl rfl (CN λ{L' H'} F1 h1=> .mk .aa (QB (K:= []) (G:= []) O T rl pn kf iv sF F1 he (λm=>jF (u.small (hm.ok.sub m))) hm.valid hm.ok.nd (az (aU (iV u hm.ok.nd hm.ok.sub) 0) (ao rfl)) rfl ⟨(cP.refl σ).upd s0 (λ_ h=>a_ h rfl),uS ..,s0⟩ ⟨G1,R1,h1⟩ λ{a8 Dx} W2 h2=>go (.seq (.tup rfl) (az hd (ao rfl)) (.dict ((iT pn).trans W2.at_) (a6 (AN pn) (b4 (T.back W2.del) (fin h2))))))))
end
noncomputable abbrev E1 (e:Nat->Nat) (x:Nat) (z:V):Nat->Nat:=c7 e x (b9 z)
noncomputable abbrev E2 (e:Nat->Nat) (x y:Nat) (z:V):Nat->Nat:=c7 (c7 e x (b9 z)) y (gG z 1)
section
variable{c:Gv} {put:TS->Hd->St} {a:TA} {σ:St} {X X1:TS} {H:Hd} {e:Nat->Nat} {F F' qP ks us:List V} {x y n r:Nat} {m:Mx} {nd c9 f u:Nd} {Q:V->St->Prop} (O:d9 c)
include O
theorem RH (q:Wq c put a x n nd F F') (he:∀y,e y<c.n) (hE:cW kJ e F ks us) (dy:Dy c X H (r+1*(b5 nd+10)))
  (fin:∀{L' H'},Fd (E1 e x) F' (f_ c nd (λzz=>e) m0 X).1.ks (f_ c nd (λzz=>e) m0 X).1.gs L'->HR H' r->Q (.aa L') (ov (put (f_ c nd (λzz=>e) m0 X).2 H') σ)):
  (KN (n+4)).aZ 517 121 [.ref a.t, .tup [e6 x nd], .aN ks us] (ov (put X H) σ) Q:=
 bf rfl rfl (go λp hp=>eS hp (go (.mk (.tup rfl) ⟨.tup rfl, .mk rfl (zT (m:=m0) (E':=E1 e x) O q (.cons (E:=λzz=>e) hE .nil) (λm=>by cases b3.mp m;exact .mk (fh _) he rfl) (λm=>by rewrite [b3.mp m];exact u5 dy.G.G.two) (ah rfl) dy λ{L' a8 H'} F1 D1 h1=>⟨.tup rfl,go (b4 (q.tp.back F1) (fin D1 h1))⟩)⟩)))
theorem zF (kn:nd.kd=1) (he:∀y,e y<c.n) (G:bT c X):lX (bD c (cm nd)) (f_ c nd (λzz=>e) m0) (1*(b5 nd+9)) (λX m=>m.ar=0/\Mr (aW c.n) X.C m λI z=>D (c.w I) nd e (b9 z)) X:=
 A6 (g:=run c.aI c.aG nd) O G ((k8 O (cI kn) he G).all.weak (bC _) λzz zz h=>h.set kn) X G (bD c (cm nd)).refl.toTStep
theorem RG (q:Wq c put a x n nd F F') (q2:Wq c put a y n c9 F' qP) (he:∀y,e y<c.n) (hE:cW kJ e F ks us) (dy:Dy c X H (r+3*(b5 c9+10)+1*(b5 nd+10)))
  (fin:∀{L' H'},Fd (E2 e x y) qP (f_ c c9 (E1 e x) (f_ c nd (λzz=>e) m0 X).1 (f_ c nd (λzz=>e) m0 X).2).1.ks (f_ c c9 (E1 e x) (f_ c nd (λzz=>e) m0 X).1 (f_ c nd (λzz=>e) m0 X).2).1.gs L'->HR H' r->Q (.aa L') (ov (put (f_ c c9 (E1 e x) (f_ c nd (λzz=>e) m0 X).1 (f_ c nd (λzz=>e) m0 X).2).2 H') σ)):
  (KN (n+4)).aZ 517 121 [.ref a.t, .tup [e6 x nd,e6 y c9], .aN ks us] (ov (put X H) σ) Q:=by
 have A:=zF O q.kn he dy.G;have M:=A.res.2;have l3:=uQ O M;refine bf rfl rfl (go λp hp=>eS hp (go (.mk (.tup rfl) ⟨.tup rfl, .mk rfl (zT (m:=m0) (E':=E1 e x) O q (.cons (E:=λzz=>e) hE .nil) (λm=>by cases b3.mp m;exact .mk (fh _) he rfl) (λm=>by rewrite [b3.mp m];exact u5 dy.G.G.two) (ah rfl) dy λ{L' a8 H'} F1 D1 h1=>⟨.tup rfl, .mk rfl ?_⟩)⟩)));have YI:Dy c (f_ c nd (λzz=>e) m0 X).2 H' (r+3*(b5 c9+10)):=⟨A.good,A.room (dy.rm.less (aU (eQ 1 (gU _)) _)),h1⟩;refine zT (E':=E2 e x y) O q2 D1 (λ{z} m=> ?_) (Mr.valid M) (ay l3 (ah rfl)) (YI.less (aU (m6 _ l3) _)) λ{vE ot Dx} F2 D2 h2=>⟨.tup rfl,go (b4 (q.tp.back (F2.trans F1)) (fin D2 h2))⟩;obtain⟨b,hb,rfl⟩:=fj (M.ok.sub m);exact .mk (ah rfl) (gp he hb) rfl
theorem ER (q:Wq c put a x n nd F (.str x::F)) (kf:f.kd=2) (iv:c_ c (n+4) 122 f) (sF:∀{v},v∈FT f->v= .str x\/v∈F) (he:∀y,e y<c.n) (hE:cW kJ e F ks us) (dy:Dy c X H (r+3*(b5 f+1)+1*(b5 nd+10)))
  (fin:∀{H'},HR H' r->Q (sd x (run c.aI c.aG nd) (run c.aI c.aG f) e X).1 (ov (put (sd x (run c.aI c.aG nd) (run c.aI c.aG f) e X).2 H') σ)):
  (KN (n+5)).aZ 517 91 [.ref a.t, .tup [e6 x nd],f.v, .aN ks us] (ov (put X H) σ) Q:=by
 have A:=zF O q.kn he dy.G;have M:=A.res.2;have l3:=aU (m6 (b5 f+1) (uQ O M)) r;have G1:bT c (f_ c nd (λzz=>e) m0 X).2:=A.good;refine Ft (E:=E1 e x) (F:= .str x::F) O q.tp q.rl kf iv (λm=>(sF m).elim (λe=>e▸aM) (aQ _)) (gk O.hi) M (λ{z} m=> ?_) G1 (iD.less (A.room (dy.rm.less (aU (eQ 1 (gU _)) _))) l3) (ah rfl) (λql=>RH O q he hE (dy.less (bG l3 _)) ql) fin;obtain⟨b,hb,rfl⟩:=fj (M.ok.sub m);exact gp he hb
theorem T' (ku:u.kd=1) (kf:f.kd=2) (iu:c_ c (n+3) 92 u) (iv:c_ c (n+4) 122 f):g8 c (n+6) 161 (3*(b5 f+1)+1*(b5 u+10)) (.cp u f):=⟨λ{put a σ X H e F ks vs r Q} T dy s q=>by
 refine bf rfl rfl (go (dA rfl (ah rfl) (bh rfl rfl (bh rfl rfl (bh rfl rfl (bh rfl rfl (bh rfl rfl (fS rfl (go (aV T.tp.o rfl rfl (.seq (i:=1) (.tup rfl) (ao rfl) rfl (.seq (i:=2) (.tup rfl) (ao rfl) rfl (ER (x:=0) (r:=r) O ⟨T.tp,T.rl,by decide,ku,iu,λm=>s (cD m),bz.mp⟩ kf iv (λ{v} m=> ?_) T.he T.env (by rw [bH];exact dy) λh=>b4 T.tp.b (q h))))))))))))));by_cases h0:v= .str 0
 ·exact .inl h0
 ·exact .inr (s (dO (cB.mpr ⟨m,by refine a6 (dD h0) ?_;rfl⟩)))⟩
end
structure Lw (c:Gv) (n:Nat) (nd:Nd):Prop where
 set:nd.kd≠2->c_ c n 92 nd
 fo:nd.kd=2->c_ c n 122 nd
section
variable{c:Gv} {k n x y:Nat} {nd a b:Nd}
theorem c1 (h:t+k+1<=m):t+(1+k)<=m:=by rw [c0 1];exact h
theorem oX {a k:Nat} (h:2*(a+2)+8<=k+8):2*a+8<=k+4:=bG (Nat.le_of_add_le_add_right h:2*a+4<=k) 4
theorem iJ {a b k:Nat} (h:2*(a+b+2)+8<=k+8):2*a+8<=k+4/\2*b+8<=k+4:=⟨oX (ay (bG (gO 2 2 (aY ..)) 8) h),oX (ay (bG (gO 2 2 (cn ..)) 8) h)⟩
theorem jC {a k:Nat} (h:2*a+8<=k+8):a<=k+7:=ay (Nat.le_mul_of_pos_left a (by decide)) (ay (Nat.le_of_add_le_add_right h) (aY ..))
theorem TH {t a b:Nat}:t+(1+(3*(b+1)+1*(a+10)))<=t+((a+30)+3*(b+10)+30):=by refine a6 (c0 1 (_+_)) ?_;rw [c0 (3*(b+1))];exact sA (i:=10) (j:=1) (by decide) (by decide)
theorem TG {t a:Nat}:t+2+(1+(10+(a+10)))<=t+2+(a+40):=by rw [<-bH 1,c0 (1+10)];exact aU (aU (by decide:10+11<=40) a) _
theorem da (h:m<=k+4) (l:4<=i):m<=k+i:=ay h (aU l k)
theorem Lw.oK (hk:nd.kd≠0) (n2:nd.kd≠2) (h:c_ c n 92 nd):Lw c n nd:=⟨λzz=>h,λe=>absurd e n2⟩
theorem Lw.kF (h2:nd.kd=2) (h:c_ c n 122 nd):Lw c n nd:=⟨λe=>absurd h2 e,λzz=>h⟩
theorem Lw.s (h:Lw c n nd) (k:nd.kd=1):c_ c n 92 nd:=h.set (by refine a6 k ?_;decide)
theorem fQ.p2 (h:max i j+m<=8):i<=8/\j<=8:=⟨ay (Nat.le_max_left ..) (ay (aY ..) h),ay (Nat.le_max_right ..) (ay (aY ..) h)⟩
theorem J4 (O:d9 c) (ok:fQ nd) (hk:nd.kd≠0) (hn:2*fu nd+8<=n):Lw c n nd:=by
 obtain⟨m,d⟩:=ok
 induction nd generalizing n with
 |r0=>obtain⟨k,rfl⟩:=cH hn;exact .oK hk (by decide) (k_ O hk ⟨m,d⟩ rfl (ah rfl) (by decide) (λzz=>rfl) (ah rfl) (jC hn) TX)
 |r1=>obtain⟨k,rfl⟩:=cH hn;exact .oK hk (by decide) (k_ O hk ⟨m,d⟩ rfl (ah rfl) (by decide) (λzz=>rfl) (ah rfl) (jC hn) AM)
 |var x=>obtain⟨k,rfl⟩:=cH hn;exact .oK hk (show 1≠2 by decide) (pL O m)
 |pd x y=>obtain⟨k,rfl⟩:=cH hn;exact .oK hk (show 3≠2 by decide) (k_ O hk ⟨m,d⟩ rfl (ah rfl) (by decide) (λzz=>rfl) (ah rfl) (jC hn) (GP (n:=k+1) O m.1 m.2))
 |jn x=>obtain⟨k,rfl⟩:=cH hn;exact .oK hk (show 1≠2 by decide) (k_ O hk ⟨m,d⟩ rfl (ah rfl) (by decide) (λzz=>rfl) (ah rfl) (jC hn) (T_ (n:=k+1) O m (k_ O (by decide) ⟨jE,ah rfl⟩ rfl (ah rfl) (by decide) (λzz=>rfl) (ah rfl) (cn 3 _) AM)))
 |un u v i j=>
  obtain⟨k,rfl⟩:=cH hn;have kd:=dN hk;have l:=iJ hn;have p:=fQ.p2 d;exact .oK hk (by rw [show(Nd.un u v).kd=1 from cS kd];decide) (k_ O hk ⟨m,d⟩ rfl (ah rfl) (by decide) (λzz=>rfl) (c1 (rJ (by decide))) (jC hn) (TV (n:=k+1) O kd.1 kd.2 ((i (cI kd.1) (da (i:=6) l.1 (by decide)) m.1 p.1).s kd.1) ((j (cI kd.2) (da (i:=6) l.2 (by decide)) m.2 p.2).s kd.2)))
 |mi u v i j=>
  obtain⟨k,rfl⟩:=cH hn;have kd:=dN hk;have l:=iJ hn;have p:=fQ.p2 d;exact .oK hk (by rw [show(Nd.mi u v).kd=1 from cS kd];decide) (k_ O hk ⟨m,d⟩ rfl (ah rfl) (by decide) (λzz=>rfl) (c1 (rJ (by decide))) (jC hn) (TZ (n:=k+1) O kd.1 kd.2 ((i (cI kd.1) (da (i:=6) l.1 (by decide)) m.1 p.1).s kd.1) ((j (cI kd.2) (da (i:=6) l.2 (by decide)) m.2 p.2).s kd.2)))
 |cp u f i j=>
  obtain⟨k,rfl⟩:=cH hn;have kd:=dN hk;have l:=iJ hn;have p:=fQ.p2 d;exact .oK hk (by rw [show(Nd.cp u f).kd=1 from cS kd];decide) (k_ O hk ⟨m,d⟩ rfl (ah rfl) (by decide) (λzz=>rfl) TH (jC hn) (T' (n:=k+1) O kd.1 kd.2 ((i (cI kd.1) l.1 m.1 (Nat.le_of_add_right_le (k:=2) p.1)).s kd.1) ((j (fx kd.2) (da (i:=5) l.2 (by decide)) m.2 p.2).fo kd.2)))
 |c8 x v i=>
  obtain⟨k,rfl⟩:=cH hn;have kd:v.kd=1/\1=1:=dN hk;have l:=iJ (b:=2) hn;exact .kF (cS kd) (rh O hk ⟨m,d⟩ (λzz=>rfl) TG (jC hn) (RB (n:=k) O m.1 kd.1 ((i (cI kd.1) (da (i:=6) l.1 (by decide)) m.2 (fQ.p2 d).2).s kd.1)))
 |some v i=>
  obtain⟨k,rfl⟩:=cH hn;have kd:v.kd=1/\1=1:=dN hk;exact .kF (cS kd) (rh O hk ⟨m,d⟩ (λzz=>rfl) (c1 (rK (by decide))) (jC hn) (Py (n:=k) O kd.1 ((i (cI kd.1) (da (oX hn) (by decide)) m (fb d)).s kd.1)))
 |same x y=>
  obtain⟨k,rfl⟩:=cH hn;exact .kF rfl (rh O hk ⟨m,d⟩ (λzz=>rfl) (ah rfl) (jC hn) (Pz (n:=k) O m.1 m.2))
 |pr x y=>
  obtain⟨k,rfl⟩:=Nat.exists_eq_add_of_le' (ay (ah rfl:9<=20) hn);exact .kF rfl (rh O hk ⟨m,d⟩ (λzz=>rfl) (ah rfl) (jC (k:=k+1) hn) (TY (n:=k+1) O (k_ O (show 3≠0 by decide) ⟨m,ah rfl⟩ rfl (ah rfl) (by decide) (λzz=>rfl) (ah rfl) (ay (ah rfl:4<=6) (cn 6 _)) (GP (n:=k) O m.1 m.2)) (k_ O (by decide) ⟨jE,ah rfl⟩ rfl (ah rfl) (by decide) (λzz=>rfl) (ah rfl) (cn 3 _) AM)))
 |not v i=>
  obtain⟨k,rfl⟩:=cH hn;have kd:v.kd=2/\2=2:=dN hk;exact .kF (cS kd) (rh O hk ⟨m,d⟩ (λzz=>rfl) (c1 (rK (i:=0) (by decide))) (jC hn) (Rz (n:=k+6) kd.1 ((i (fx kd.1) (da (oX hn) (by decide)) m (fb d)).fo kd.1)))
 |and u v i j=>
  obtain⟨k,rfl⟩:=cH hn;have kd:=dN hk;have l:=iJ hn;have p:=fQ.p2 d;exact .kF (cS kd) (rh O hk ⟨m,d⟩ (λzz=>rfl) (c1 (rJ (by decide))) (jC hn) (RC (n:=k) kd.1 kd.2 ((i (fx kd.1) (da l.1 (by decide)) m.1 p.1).fo kd.1) ((j (fx kd.2) (da l.2 (by decide)) m.2 p.2).fo kd.2)))
end
section
variable{c:Gv} {put:TS->Hd->St} {a:TA} {σ:St} {X X1:TS} {H:Hd} {e:Nat->Nat} {F F' qP ks us:List V} {x y n r:Nat} {m:Mx} {nd c9 f u:Nd} {Q:V->St->Prop} (O:d9 c)
include O
theorem PG (kn:c9.kd=1) (he:∀y,e y<c.n) (G:bT c X) {d:List Int->Nat->Bool} (M:Mr (aW c.n) X.C m λI z=>d I (b9 z)):
  lX (bD c (cm c9)) (f_ c c9 (E1 e x) m) (3*(b5 c9+9)) (λX m=>m.ar=0/\Mr (bS c.n) X.C m λI z=>d I (b9 z)&&D (c.w I) c9 (E1 e x z) (gG z 1)) X:=by
 refine AO (U':=bS c.n) (dg:=λz I w=>D (c.w I) c9 (E1 e x z) (b9 w)) (d':=λI z=>d I (b9 z)&&D (c.w I) c9 (E1 e x z) (gG z 1)) O G M (λhz=>(fj hz).elim λa eL=>eL.elim λzz e=>⟨_,e⟩) (uQ O M) (λ{z} hz=> ?_) (λ{z} hz {I w} hw=> ?_) (λ{w}=>⟨λhw=> ?_,λeZ=>eZ.elim λz dW=>dW.elim λhz eY=>eY.elim λu fm=>fm.elim λhu q=> ?_⟩) (iz O.hi).d4 X G (bD c (cm c9)).refl.toTStep
 ·obtain⟨a,ha,rfl⟩:=fj (M.ok.sub hz)
  exact(k8 O (cI kn) (gp he ha) G).all.weak (bC _) λzz zz h=>h.set kn
 ·obtain⟨a,ha,rfl⟩:=fj hz
  obtain⟨b,hb,rfl⟩:=fj hw
  rfl
 ·obtain⟨a,b,ha,hb,rfl⟩:=xF hw
  exact⟨_,fE ha,_,fE hb,rfl⟩
 ·obtain⟨a,ha,rfl⟩:=fj hz
  obtain⟨b,hb,rfl⟩:=fj hu;exact a6 q (jj ha hb)
theorem P7 (q:Wq c put a x n nd F (.str x::F)) (q2:Wq c put a y n c9 (.str x::F) (.str y:: .str x::F)) (kf:f.kd=2) (iv:c_ c (n+4) 122 f) (sF:∀{v},v∈FT f->v= .str y\/v∈V.str x::F) (he:∀y,e y<c.n) (hE:cW kJ e F ks us) (dy:Dy c X H (r+9*(b5 f+1)+3*(b5 c9+10)+1*(b5 nd+10)))
  (fin:∀{H'},HR H' r->Q (xB x y (run c.aI c.aG nd) (run c.aI c.aG c9) (run c.aI c.aG f) e X).1 (ov (put (xB x y (run c.aI c.aG nd) (run c.aI c.aG c9) (run c.aI c.aG f) e X).2 H') σ)):
  (KN (n+5)).aZ 517 91 [.ref a.t, .tup [e6 x nd,e6 y c9],f.v, .aN ks us] (ov (put X H) σ) Q:=by
 have A:=zF O q.kn he dy.G;have M:=A.res.2;have B:=PG (x:=x) O q2.kn he A.good M;have M2:=B.res.2;have l9:=aU (m6 (b5 f+1) (iV (iz O.hi) M2.ok.nd M2.ok.sub)) r;refine Ft (E:=E2 e x y) (F:= .str y:: .str x::F) O q.tp q.rl kf iv (λm=>(sF m).elim (λe=>e▸aM) (aQ _)) (iz O.hi) M2 (λ{z} m=> ?_) B.good (iD.less (B.room (A.room (dy.rm.less (dh (aU (eQ 3 (gU _)) _) (eQ 1 (gU _)))))) l9) (ah rfl) (λql=>RG O q q2 he hE (dy.less (bG (bG l9 _) _)) ql) fin;obtain⟨a,b,ha,hb,rfl⟩:=xF (M2.ok.sub m);exact gp (gp he ha) hb
end
structure UpU (U:List V):Prop extends UOk U where
 up:yH U
 nd:U.Nodup
section
variable{U xs ys:List V} {x y N n:Nat} {v z:V} {σ:St} {Q:V->St->Prop} {p:V->Bool}
theorem vT (u:UpU U) (nd:xs.Nodup) (sub:∀{x},x∈xs->x∈U):bg xs=U.filter λx=>decide (x∈xs):=
 z6 Gg (λm=>w0 (u.small (sub (dY.mp m)))) ((List.perm_ext_iff_of_nodup (pO nd) (u.nd.filter _)).mpr λx=>dY.trans ⟨λh=>cB.mpr ⟨sub h,bQ h⟩,λh=>bY (cB.mp h).2⟩) wQ (u.up.sublist List.filter_sublist)
theorem FN:∀N,N<4->((aW N).Pairwise λa b=>eJ a b=true)/\(bS N).Pairwise λa b=>eJ a b=true:=by decide+kernel
theorem UpU.of (u:UOk U) (h:U.Pairwise λa b=>eJ a b=true):UpU U:=⟨u,h.imp w5,h.imp λ{a b} h e=>by subst e;exact absurd ((w5 h).symm.trans h) cK⟩
theorem mc (h:N<=3):UpU (aW N):= .of (gk h) (FN N (Nat.lt_succ_of_le h)).1
theorem ri (h:N<=3):UpU (bS N):= .of (iz h) (FN N (Nat.lt_succ_of_le h)).2
theorem xP:z∈e9 xs []↔z∈xs:=rE.trans ⟨λh=>h.resolve_right bx, .inl⟩
theorem Rf (u:UpU U) (sub:∀{x},x∈xs->x∈U):bg (e9 xs [])=U.filter λx=>decide (x∈xs):=
 (vT u (rO cY) λm=>sub (xP.mp m)).trans (pg λx zz=>fA.mpr xP)
noncomputable abbrev kF (x:V):V:= .tup [x, .bool true]
theorem Nt:l5 (xs.map kF)=some (xs.map λx=>(x, .bool true)):=by
 induction xs with
 |nil=>rfl
 |cons x xs ih=>exact aE (Option.map _) ih
theorem Mu:(dM (xs.map λx=>(x,V.bool true)) d).1=e9 xs d.1:=by
 induction xs generalizing d with
 |nil=>rfl
 |cons x xs ih=>exact ih
theorem Ex (hk:∀{x},x∈xs->aR 8 x=true) (hl:xs.length<lim) (q:∀{vs},Q (.aN (e9 xs []) vs) σ):xh σ Q [.aa (xs.map kF)]:= .pairs Nt (a6 List.all_map (cQ.mpr λx m=>hk m)) (by rw [b0];exact hl) (a6 Mu q)
theorem A2 (u:UpU U) (hv:Sq σ 2 v xs) (sub:∀{x},x∈xs->x∈U) (hl:xs.length<lim) (q:Q (.tup (U.filter λx=>decide (x∈xs))) σ):(KN (n+1)).fn 105 [v] σ Q:=by
 have sb:∀{x},x∈e9 xs []->x∈U:=λm=>sub (xP.mp m);have l9:=iV u.toUOk (rO cY) sb;exact dk rfl rfl (go (lb hv kF hl (λx hx acc k dn hk=>⟨dn,hk⟩) (Ex (λm=>jF (u.small (sub m))) hl λ{vs}=> .dict .aN (rb u.toUOk sb) (az l9 (ao rfl)) (.mk .aa (a6 pI (az l9 (ao rfl))) (c4 (a6 (Rf u sub) q))))))
theorem Nf (u:UpU U) (hx:∀{x},x∈xs->x∈U) (hy:∀{x},x∈ys->x∈U) (hl:xs.length+ys.length<lim) (q:Q (.tup (U.filter λx=>decide (x∈xs++ys))) σ):(KN (n+2)).fn 38 [.tup xs, .tup ys] σ Q:=
 dk rfl rfl (go (.tup hl (A2 u (.tup rfl) (λh=>(cM.mp h).elim hx hy) (a6 aP hl) (c4 q))))
theorem DV (u:UOk U) (hx:∀{x},x∈xs->x∈U) (hy:∀{x},x∈ys->x∈U) (lx:xs.length<lim) (ly:ys.length<lim) (q:Q (.tup (xs.filter λx=> !decide (x∈ys))) σ):(KN (n+1)).fn 39 [.tup xs, .tup ys] σ Q:=by
 refine dk rfl rfl (go (lb (.tup rfl) kF ly (λx hx acc k dn hk=>⟨dn,hk⟩) (Ex (λm=>jF (u.small (hy m))) ly λ{vs}=>go (jf (.tup rfl) (λx=> !decide (x∈ys)) id lx (λx m acc k dn hk=> .BS .aN (jF (u.small (hx m))) ?_) ?_))))
 ·rw [fA.mpr xP]
  cases e:decide (x∈ys) with
  |true=>rw [e] at hk;exact hk
  |false=>rw [e] at hk;exact⟨dn,hk⟩
 ·rw [iS]
  exact .mk .aa (az (m5 ..) lx) (c4 q)
theorem BR:¬(!b)=true↔b=true:=by cases b<;>decide
theorem Ob:decide (V.tup (xs.filter λx=> !decide (x∈ys))= .tup [])=xs.all λx=>decide (x∈ys):=by
 rewrite [ip];refine a6 decide_eq_true_eq ?_;rw [cQ];exact⟨λe x hx=>BR.mp (tI.mp (V.tup.inj e) x hx),λh=>aE V.tup (tI.mpr λx hx=>BR.mpr (h x hx))⟩
theorem yP (u:UOk U) (hx:∀{x},x∈xs->x∈U) (hy:∀{x},x∈ys->x∈U) (lx:xs.length<lim) (ly:ys.length<lim) (q:Q (.bool (xs.all λx=>decide (x∈ys))) σ):(KN (n+2)).fn 103 [.tup xs, .tup ys] σ Q:=
 dk rfl rfl (go (DV u hx hy lx ly (mL Bc (Ob▸c4 q))))
theorem Mn (q:Q (.tup [R2 x y]) σ):(KN (n+1)).fn 43 [.tup [R1 x], .tup [R1 y]] σ Q:=
 dk rfl rfl (go (.seq (.tup rfl) (ao rfl) (.seq (.tup rfl) (ao rfl) (.mul (show((1:Nat):Int).natAbs<2^31 by decide) (qj (show¬(2000000:Int)<((1:Nat):Int)*((1:Nat):Int) by decide) (sk (go ⟨.tup rfl, .tup rfl,⟨.tup rfl, .tup rfl, .tup (ao rfl) ⟨ao rfl, .tup rfl, .tup rfl, .mk .aa (ao rfl) (c4 q)⟩⟩⟩)))))))
end
section
variable{ts:List V} {x N n:Nat} {σ:St} {Q:V->St->Prop}
theorem z8 {t:V} (h:t∈(ts.filter λt=>decide (iX t= .int x)).map cC) (sub:∀{t},t∈ts->t∈bS N) {G:V->Prop} (q:∀{y},y<N->R2 x y∈ts->G (R1 y)):G t:=by
 obtain⟨t,m,rfl⟩:=bB.mp h;obtain⟨m,e⟩:=cB.mp m;exact jG (sub m) (G:=λt=>t∈ts->iX t= .int x->G (cC t)) (λ{x' y} zz hy m e=>by cases pK (x:=x') e;exact q hy m) m (bY e)
theorem O1 (hN:N<=3) (hx:x<N) (sub:∀{t},t∈ts->t∈bS N) (hl:ts.length<=9) (q:Q (.tup ((aW N).filter λz=>decide (mM x z∈ts))) σ):(KN (n+2)).fn 32 [.tup [R1 x], .tup ts] σ Q:=by
 have lx:((ts.filter λt=>decide (iX t= .int x)).map cC).length<lim:=by rw [b0];exact az (ay (m5 ..) hl) (ao rfl)
 have es:((aW N).filter λz=>decide (z∈(ts.filter λt=>decide (iX t= .int x)).map cC))=(aW N).filter λz=>decide (mM x z∈ts):=pg λz hz=>by
  exact fA.mpr ⟨λm=>z8 m sub (G:=λz=>mM x z∈ts) λzz m=>m,fW hz (G:=λz=>mM x z∈ts->z∈_) λ{y} zz m=>bB.mpr ⟨R2 x y,cB.mpr ⟨m,bQ rfl⟩,rfl⟩⟩
 refine dk rfl rfl (go ⟨cY,rfl,λq0 oN=>go (Am (λj g a8=>(∃ps,GD σ a8 q0 g ps)/\qO g j) (λg t=>eW (iX t) (cC t) g) (λzz=> .tup rfl) (λ{j g a8 t kk} ht hj I hk=> ?_) (a:= []) ⟨⟨[],Hj oN⟩,An⟩ λ{a8} I=> ?_)⟩)
 ·obtain⟨⟨bF,G'⟩,lj⟩:=I
  obtain⟨x',y,jW,hy,rfl⟩:∃x y,x<N/\y<N/\t=R2 x y:=jG (sub ht) (G:=λt=>∃x y,x<N/\y<N/\t=R2 x y) λhx hy=>⟨_,_,hx,hy,rfl⟩;have j9:j<lim:=gB (gg hj hl) (ao rfl);exact f1 (go ⟨⟨.ref G'.d⟩, .seq (i:=0) (.tup rfl) (ao rfl) rfl λr' CJ=>AY G' rfl (az lj.n j9) CJ λP=>⟨⟨.ref P.at_⟩,pX.mk lU (ao rfl) (.mk P.at_ (az (lj.l _) j9) (hk ⟨P.add,lj.add⟩))⟩⟩)
 ·obtain⟨⟨bF,G'⟩,-⟩:=I
  have G':GD σ a8 q0 (oh iX cC ts []) bF:=G';have eg:fK (oh iX cC ts []) (.int x)=(ts.filter λt=>decide (iX t= .int x)).map cC:=zi;have hc:∃cv,(b_ (V.int x) (fO (oh iX cC ts [])) (bF.map .ref)).getD (.aa [])=cv/\∀{m},Sq a8 m cv ((ts.filter λt=>decide (iX t= .int x)).map cC):=by
   refine G'.l.hit (k:= .int x) (λe1 e2 zz zz=>⟨.aa [],aE (λo=>Option.getD o _) e1,(e2.symm.trans eg)▸ .aa⟩) λ{p'} e1 zz e2 e3 zz zz zz=>⟨.ref p',aE (λo=>Option.getD o _) e1, ?_⟩;rw [eg] at e2;exact .ref e2
  obtain⟨cv,yB,hit⟩:=hc;refine go ⟨.tup rfl, .tup rfl,⟨⟨.ref G'.d⟩,dF.mk (eV.last (ao rfl) rfl λpe CM=> .list (uS ..) ((mA CM).symm▸ .mk (.ref G'.d) rfl (a6 yB (lb hit id lx (λt m acc k dn hk=> ?_) ⟨.tup rfl, ?_⟩))))⟩⟩
  ·obtain⟨y,rfl⟩:∃y,t=R1 y:=z8 m sub (G:=λt=>∃y,t=R1 y) λzz zz=>⟨_,rfl⟩
   exact xg.mk lU (ao rfl) (.tup (ao rfl) ⟨dn,hk⟩)
  ·rw [iS]
   exact A2 (mc hN) .aa (λm=>z8 m sub (G:=λt=>t∈aW N) λhy zz=>fE hy) lx (b4 G'.fr.back (es▸q))
end
noncomputable def r2 (ws:World) (z:V):Bool:=ws.r (b9 z) (gG z 1)
noncomputable abbrev C7 (ws:World):V:= .tup ((aW ws.n).filter λz=>ws.s (b9 z))
noncomputable abbrev xX (ws:World):V:= .tup ((bS ws.n).filter (r2 ws))
noncomputable abbrev C8 (ws:World) (w:Nat):List (Nat×V):= [(18, .int ws.n),(111, .aa [C7 ws,xX ws]),(112, .int w)]
noncomputable def es (ws:World) (σ:St) (v dx:Addr) (w:Nat):St:=upd σ v (.inst 781 dx (C8 ws w))
noncomputable def i8 (a:Nat):V:= .tup [R1 a]
noncomputable def h7 (ws:World) (nd:Nd) (e:Nat->Nat):V:= .tup ((aW ws.n).filter λz=>D ws nd e (b9 z))
noncomputable def gH (ws:World) (nd:Nd) (e:Nat->Nat):V:= .bool (D ws nd e 0)
structure bU (ws:World) (n M k:Nat) (nd:Nd) (val:(Nat->Nat)->V):Prop where
 run:∀{σ v dx w e F ks us r Q},w+(r+k)<lim->(∀x,e x<ws.n)->cW i8 e F ks us->(∀{v},v∈FT nd->v∈F)->(∀{w'},w'+r<lim->Q (val e) (es ws σ v dx w'))->(KN n).aZ 781 M [.ref v,nd.v, .aN ks us] (es ws σ v dx w) Q
inductive Fe (E:V->Nat->Nat) (F:List V):List V->List V->Prop
 |nil:Fe E F [] []
 |cons {z:V} {zs ks us fv:List V} (h:cW i8 (E z) F ks us) (r:Fe E F zs fv):Fe E F (z::zs) (.tup [z, .aN ks us]::fv)
noncomputable abbrev gZ (ws:World) (nd:Nd) (e:Nat->Nat) (z:V):List V:=((aW ws.n).filter λy=>D ws nd e (b9 y)).map (cu z)
section
variable{ws:World} {σ:St} {v dx p:Addr} {w w' x n r:Nat} {E E':V->Nat->Nat} {e:Nat->Nat} {F F' zs ys ks us L fv qI xs:List V} {nd:Nd} {i6 z:V} {k:Env->St->Prop} {R:Option V->Env->St->Prop} {Q:Env->St->Prop} {q:Addr} {mo:MO}
theorem Fe.app (h:Fe E F zs fv) (h':Fe E F ys qI):Fe E F (zs++ys) (fv++qI):=by
 induction h with
 |nil=>exact h'
 |cons e r ih=>exact .cons e ih
theorem Fe.len (h:Fe E F zs fv):fv.length=zs.length:=by
 induction h with
 |nil=>rfl
 |cons e r ih=>exact aE (· +1) ih
theorem gK:bX (es ws σ v dx w) v 781 (C8 ws w):= .mk (uS ..)
theorem Jd:upd (es ws σ v dx w) v (.inst 781 dx (C8 ws w'))=es ws σ v dx w':=eo ..
theorem lI:back (es ws σ v dx w') (es ws σ v dx w)=es ws σ v dx w':=by
 exact a6 (aT (Jd (w:=w))) ((k9 (by unfold es;rw [uS];exact cy)).trans (aE (upd · v _) (pD _)))
theorem Im (h:q≠v):es ws σ v dx w q=σ q:=uN h
theorem Bx (h:q≠v):upd (es ws σ v dx w) q mo=es ws (upd σ q mo) v dx w:=eF (aL h)
theorem SQ (h:es ws σ v dx w q=none):q≠v/\σ q=none:=have n:q≠v:=λe=>(by subst e;exact bK (h.symm.trans (uS ..)));⟨n,(uN n).symm.trans h⟩
theorem l6 (hN:ws.n<=3):((aW ws.n).filter f).length<=3:=ay (m5 ..) (by rewrite [aW,b0];exact a6 gA hN)
theorem Rj (h:y∈(aW ws.n).filter f):∃b,b<ws.n/\y=R1 b:=fW (cB.mp h).1 (G:=λy=>∃b,b<ws.n/\y=R1 b) λh=>⟨_,h,rfl⟩
theorem OF {xv:V} {K:CH} (hS:∀{σ},Sq σ 2 xv xs) (hx:x<4) (pv:p≠v) (hE:cW i8 e F ks us) (hz:zs.length<=9) (hb:∀{b},E (cu (.tup zs) (R1 b))=c7 e x b) (kG:∀{v},v∈F'->v= .str x\/v∈F) (hy:∀{y},y∈ys->∃b,b<ws.n/\y=R1 b) (hl:L.length+ys.length<lim)
  (fin:∀{L'},Fe E F' (ys.map (cu (.tup zs))) L'->Q [(95, .ref v),(60, .str x),(113,i6),(108, .ref p),(115, .tup zs),(37, .aN ks us)] (es ws (upd σ p (.list (L++L'))) v dx w)):
  dP (eT (hV (.one 25) Hv JK K R) xv xs) ys (es ws (upd σ p (.list L)) v dx w) [(95, .ref v),(60, .str x),(113,i6),(108, .ref p),(115, .tup zs),(37, .aN ks us)] (eX xv xs Q):=by
 induction ys generalizing L with
 |nil=>exact⟨hS,by have:=fin (L':= []) .nil;rwa [d6] at this⟩
 |cons y ys ih=>
  obtain⟨b,-,rfl⟩:=hy aM;have l8:=az hE.d4 (ao rfl:4<lim);have hp:es ws (upd σ p (.list L)) v dx w p=some (.list L):=(Im pv).trans (uS ..);refine⟨hS,f1 (go (.copy .aN hE.isStr (ay hE.d4 (ah rfl)) λq0 oN=>go (wm (uS ..) (pZ hx) l8 ?_)))⟩;rw [eo];refine go ⟨⟨.ref ((uN (b8 hp oN)).trans hp)⟩, .tup (az (fe hz) (ao rfl)) (pU oN (.mk hp (az (aY ..) hl) (a6 (Bx pv) ?_)))⟩;rw [eo];refine ih (λm=>hy (aQ _ m)) (by refine a6 aP (a6 m4 ?_);rw [bH,c0 1];exact hl) λ{L'} h=> ?_;rw [bP];exact fin (.cons (hb▸hE.put hx kG) h)
end
structure We (ws:World) (x n k:Nat) (nd:Nd) (F F':List V):Prop where
 hN:ws.n<=3
 hx:x<4
 iv:bU ws n 79 k nd (h7 ws nd)
 sF:∀{v},v∈FT nd->v∈F
 kG:∀{v},v∈F'->v= .str x\/v∈F
section
variable{ws:World} {σ:St} {v dx p:Addr} {w w' x n r c:Nat} {E E':V->Nat->Nat} {e:Nat->Nat} {F F' zs ys ks us L fv qI xs:List V} {nd:Nd} {i6 z:V} {k:Env->St->Prop} {R:Option V->Env->St->Prop} {Q:Env->St->Prop} {q:Addr} {mo:MO}
theorem Qk (W:We ws x n c nd F F') (pv:p≠v) (he:∀y,e y<ws.n) (hE:cW i8 e F ks us) (hz:zs.length<=9) (hb:∀{b},E (cu (.tup zs) (R1 b))=c7 e x b) (hl:L.length+3<lim) (hw:w+(r+(c+3))<lim)
  (fin:∀{L' w'},Fe E F' (gZ ws nd e (.tup zs)) L'->w'+r<lim->k (oA v p x nd.v) (es ws (upd σ p (.list (L++L'))) v dx w')):
  B8.run (KN n) ((37, .aN ks us)::(115, .tup zs)::oA v p x nd.v) (es ws (upd σ p (.list L)) v dx w) (jz t6 k R):=by
 have l3:((aW ws.n).filter λy=>D ws nd e (b9 y)).length<=3:=l6 W.hN;refine go (aV gK rfl rfl (W.iv.run (r:=r+3) (by rw [bH,c0 3];exact hw) he hE W.sF λ{w1} h1=> ?_));have h2:w1+((aW ws.n).filter λy=>D ws nd e (b9 y)).length+r<lim:=by rewrite [bH];exact a6 (c0 _ r) (az (aU (aU l3 _) _) h1)
 exact go (bu gK rfl rfl (.seq (.tup rfl) (az l3 (ao rfl)) (.add (wo (uS ..) rfl rfl (og (Jd (w':=w1+((aW ws.n).filter λy=>D ws nd e (b9 y)).length)) (bu gK rfl rfl (qj (Int.not_lt.mpr (Int.ofNat_le.mpr (jd (az (aY ..) h2)))) (sk (go (.mk (.tup rfl) (OF (.tup rfl) W.hx pv hE hz hb W.kG Rj (az (aU l3 _) hl) λ{L'} h=>fin h h2)))))))))))
theorem NB (W:We ws x n c nd F F') (pv:p≠v) (h:Fe E F zs fv) (hz:∀{z},z∈zs->Zo ws.n E E' x z) (hl:L.length+zs.length*3<lim) (hw:w+(r+zs.length*(c+3))<lim)
  (fin:∀{L' w'},Fe E' F' (zs.flatMap λz=>gZ ws nd (E z) z) L'->w'+r<lim->Q (oA v p x nd.v) (es ws (upd σ p (.list (L++L'))) v dx w')):
  dP (eT (hV (.many [115,37]) B8 t6 (KN n) R) (.aa xs) xs) fv (es ws (upd σ p (.list L)) v dx w) (oA v p x nd.v) (eX (.aa xs) xs Q):=by
 induction h generalizing w L with
 |nil=>exact⟨.aa,fin (L':= []) .nil (az (aU (aY ..) _) hw)|>λh=>by rwa [d6] at h⟩
 | @cons z zs ks us fv hE h ih=>
  rw [nH,Nat.succ_mul] at hl hw;cases hz aM with
  | @mk l vn he hb=>
  refine⟨.aa, .mk rfl (Qk W pv he hE vn hb (r:=r+zs.length*(c+3)) (az (aU (cn ..) _) hl) (by rw [bH r];exact hw) λ{L' w1} F1 h1=> ?_)⟩;have l1:L'.length<=3:=by refine a6 F1.len ?_;rw [b0];exact l6 W.hN
  refine ih (λm=>hz (aQ _ m)) ?_ h1 λ{vE Ju} F2 h2=> ?_
  ·refine a6 aP ?_;rw [bH,c0 L'.length]
   exact az (aU (aU l1 _) _) hl
  ·rw [bP]
   exact fin (a6 kU (F1.app F2)) h2
theorem zq (W:We ws x n c nd F F') (h:Fe E F zs fv) (hz:∀{z},z∈zs->Zo ws.n E E' x z) (h9:zs.length<=9) (hw:w+(r+zs.length*(c+3))<lim)
  (fin:∀{L' w'},Fe E' F' (zs.flatMap λz=>gZ ws nd (E z) z) L'->w'+r<lim->k [(95, .ref v),(55, .aa L')] (es ws σ v dx w')):
  Gu.run (KN n) [(113,nd.v),(60, .str x),(95, .ref v),(55, .aa fv)] (es ws σ v dx w) (jz [95,55] k R):=by
 refine go λp hp=> ?_;obtain⟨pv,h0⟩:=SQ hp;refine a6 (Bx pv) (go (.mk .aa (NB W pv h hz (az (aU (m6 3 h9) 0) (ao rfl)) hw λ{L' w'} F1 h1=>go ?_)));have n:∀{w},es ws σ v dx w p=none:=(Im pv).trans h0;rewrite [List.nil_append];exact a6 (aT (Bx pv)) (eS n (fin F1 h1))
end
noncomputable def uG (ds:List V) (f:Nd):V:= .tup [.str 35, .tup ds,f.v]
section
variable{ws:World} {σ:St} {v dx p:Addr} {w w' x y n r c c2 cf:Nat} {E E':V->Nat->Nat} {e:Nat->Nat} {F F' qP zs ys ks us L fv qI xs U ds acc:List V} {nd c9 f:Nd} {i6 z:V} {ρ:Env} {R:List V->St->Prop} {Q:V->St->Prop} {q:Addr} {mo:MO}
theorem Qq (W:We ws x n c nd F F') (he:∀y,e y<ws.n) (hE:cW i8 e F ks us) (hw:w+(r+1*(c+3))<lim)
  (fin:∀{L' w'},Fe (E1 e x) F' ([.tup []].flatMap λz=>gZ ws nd e z) L'->w'+r<lim->Q (.aa L') (es ws σ v dx w')):
  (KN (n+1)).aZ 781 121 [.ref v, .tup [e6 x nd], .aN ks us] (es ws σ v dx w) Q:=
 bf rfl rfl (go λp hp=>eS hp (go (.mk (.tup rfl) ⟨.tup rfl, .mk rfl (zq (E:=λzz=>e) (E':=E1 e x) W (.cons hE .nil) (λm=>by cases b3.mp m;exact .mk (fh _) he rfl) (ah rfl) hw λ{L' w'} D1 h1=>⟨.tup rfl,go (b4 lI (fin D1 h1))⟩)⟩)))
theorem ux (h:z∈ [.tup []].flatMap λz=>gZ ws nd e z) {G:V->Prop} (q:∀{b},b<ws.n->D ws nd e b=true->G (R1 b)):G z:=by
 obtain⟨y,m,rfl⟩:=bB.mp ((cM.mp (kU▸h)).resolve_right bx);obtain⟨m,h⟩:=cB.mp m;exact fW m (G:=λy=>D ws nd e (b9 y)=true->G (cu (.tup []) y)) (λh h'=>q h h') h
theorem HI (hb:b<ws.n) (h:D ws nd e b=true):R1 b∈ [.tup []].flatMap λz=>gZ ws nd e z:=tP.mpr ⟨.tup [],b3.mpr rfl,bB.mpr ⟨R1 b,cB.mpr ⟨fE hb,h⟩,rfl⟩⟩
theorem ue (hN:ws.n<=3):([V.tup []].flatMap λz=>gZ ws nd e z).length<=3:=by
 refine a6 kU (a6 aP ?_);rw [b0];exact l6 hN
theorem Qp (W:We ws x n c nd F F') (W2:We ws y n c2 c9 F' qP) (he:∀y,e y<ws.n) (hE:cW i8 e F ks us) (hw:w+(r+3*(c2+3)+1*(c+3))<lim)
  (fin:∀{L' w'},Fe (E2 e x y) qP (([.tup []].flatMap λz=>gZ ws nd e z).flatMap λz=>gZ ws c9 (E1 e x z) z) L'->w'+r<lim->Q (.aa L') (es ws σ v dx w')):
  (KN (n+1)).aZ 781 121 [.ref v, .tup [e6 x nd,e6 y c9], .aN ks us] (es ws σ v dx w) Q:=
 bf rfl rfl (go λp hp=>eS hp (go (.mk (.tup rfl) ⟨.tup rfl, .mk rfl (zq (E:=λzz=>e) (E':=E1 e x) W (.cons hE .nil) (λm=>by cases b3.mp m;exact .mk (fh _) he rfl) (ah rfl) hw λ{L' w'} D1 h1=>⟨.tup rfl, .mk rfl (zq (E':=E2 e x y) W2 D1 (λ{z} m=>ux m (G:=Zo ws.n (E1 e x) (E2 e x y) y) λhb zz=> .mk (ah rfl) (gp he hb) rfl) (ay (ue W.hN) (ah rfl)) (az (aU (aU (m6 _ (ue W.hN)) _) _) h1) λ{vE Ju} D2 h2=>⟨.tup rfl,go (b4 lI (fin D2 h2))⟩)⟩)⟩)))
theorem ND (h:Fe E F zs fv) (iw:bU ws n 122 cf f (gH ws f)) (sF:∀{v},v∈FT f->v∈F) (he:∀{z},z∈zs->∀y,E z y<ws.n) (h1:ρ.lookup 95=some (.ref v)) (h2:ρ.lookup 113=some (uG ds f)) (hl:acc.length+zs.length<lim) (hw:w+(r+zs.length*cf)<lim)
  (fin:∀{w'},w'+r<lim->R (acc++zs.filter λz=>D ws f (E z) 0) (es ws σ v dx w')):
  dP (eT (lE (.many [115,37]) (dw.cons (.ex (.aS (.var 95) 122 (.cons (.idx (.var 113) (.lit (.int 2))) (.cons (.var 37) .nil)))) .nil).run (KN n) ((MI.emit (.var 115)).run (KN n)) ρ) (.aa xs) xs) fv (es ws σ v dx w) acc (eX (.aa xs) xs R):=by
 induction h generalizing w acc with
 |nil=>exact⟨.aa,by have:=fin (w':=w) (az (aU (aY ..) _) hw);rwa [List.filter_nil,d6] at this⟩
 | @cons z zs ks us fv hE h ih=>
  rw [nH,Nat.succ_mul] at hw;refine⟨.aa, .mk rfl (vr h1 (aV gK rfl rfl (vr h2 (.seq (i:=2) (.tup rfl) (ao rfl) rfl (iw.run (r:=r+zs.length*cf) (by rw [bH r];exact hw) (he aM) hE sF λ{w1} JU=> .mk ?_)))))⟩;have l1:acc.length<lim:=az (aY ..) hl;cases hD:D ws f (E z) 0 with
  |true=>
   refine⟨l1,ih (λm=>he (aQ _ m)) (by refine a6 aP (a6 m4 ?_);rw [bH,c0 1];exact hl) JU λ{w'} h'=> ?_⟩;have:=fin h';rw [List.filter_cons_of_pos (p:=λz=>D ws f (E z) 0) hD] at this;rw [bP];exact this
  |false=>
   refine ih (λm=>he (aQ _ m)) (iP hl) JU λ{w'} h'=> ?_;have:=fin h'
   rwa [List.filter_cons_of_neg (p:=λz=>D ws f (E z) 0) (a6 hD de)] at this
theorem Ew (u:UpU U) (sub:∀{z},z∈zs->z∈U) (h9:zs.length<=9) (iw:bU ws (n+1) 122 cf f (gH ws f)) (sF:∀{v},v∈FT f->v∈F) (he:∀{z},z∈zs->∀y,E z y<ws.n)
  (CN:∀{Q':V->St->Prop},(∀{L' w'},Fe E F zs L'->w'+(r+zs.length*cf)<lim->Q' (.aa L') (es ws σ v dx w'))->(KN (n+1)).aZ 781 121 [.ref v, .tup ds, .aN ks us] (es ws σ v dx w) Q')
  (q:∀{w'},w'+r<lim->Q (.tup (U.filter λz=>decide (z∈zs.filter λz=>D ws f (E z) 0))) (es ws σ v dx w')):
  (KN (n+2)).aZ 781 79 [.ref v,uG ds f, .aN ks us] (es ws σ v dx w) Q:=
 bf rfl rfl (go (.seq (i:=0) (.tup rfl) (ao rfl) rfl (bh rfl rfl (bh rfl rfl (bh rfl rfl (bh rfl rfl (bh rfl rfl (bh rfl rfl (bh rfl rfl (fS rfl (go (aV gK rfl rfl (.seq (i:=1) (.tup rfl) (ao rfl) rfl (CN λ{L' w'} F1 h1=> .mk .aa (ND (acc:= []) F1 iw sF he rfl rfl (az (aU h9 0) (ao rfl)) h1 λ{Ju} h2=>
  A2 u .aa (λm=>sub (cB.mp m).1) (az (ay (m5 ..) h9) (ao rfl)) (b4 lI (q h2)))))))))))))))))
end
section
variable{ws:World} {σ:St} {v dx p:Addr} {w w' x y n r c c2 cf:Nat} {e:Nat->Nat} {F F' zs ks us U:List V} {nd c9 f:Nd} {z:V} {Q:V->St->Prop} {h g:V->Bool}
theorem wH {a x:V} (h:x=a\/x∈F):x∈a::F:=h.elim (λe=>e▸aM) (aQ _)
theorem FU (hm:∀{z},z∈U->(z∈zs↔h z=true)):(U.filter λz=>decide (z∈zs.filter g))=U.filter λz=>h z&&g z:=pg λz hz=>by
 rw [ip,kS,cB,hm hz,Bool.and_eq_true]
theorem Il (W:We ws x n c nd F (.str x::F)) (iw:bU ws (n+1) 122 cf f (gH ws f)) (sF:∀{v},v∈FT f->v= .str x\/v∈F) (he:∀y,e y<ws.n) (hE:cW i8 e F ks us) (hw:w+(r+3*cf+1*(c+3))<lim)
  (q:∀{w'},w'+r<lim->Q (.tup ((aW ws.n).filter λz=>D ws nd e (b9 z)&&D ws f (E1 e x z) 0)) (es ws σ v dx w')):(KN (n+2)).aZ 781 79 [.ref v,uG [e6 x nd] f, .aN ks us] (es ws σ v dx w) Q:=by
 exact Ew (E:=E1 e x) (F:= .str x::F) (mc W.hN) (λm=>ux m (G:=λz=>z∈aW ws.n) λhb zz=>fE hb) (ay (ue W.hN) (ah rfl)) iw (λm=>wH (sF m)) (λ{z} m=>ux m (G:=λz=>∀y,E1 e x z y<ws.n) λhb zz=>gp he hb) (λql=>Qq W he hE (az (aU (bG (aU (m6 _ (ue W.hN)) _) _) _) hw) ql) λ{w'} h1=>a6 (FU (h:=λz=>D ws nd e (b9 z)) λhz=>⟨λm=>ux m (G:=λz=>D ws nd e (b9 z)=true) λzz h=>h,fW hz (G:=λz=>D ws nd e (b9 z)=true->z∈_) λhb h=>HI hb h⟩) (q h1)
theorem Bm (h:z∈([.tup []].flatMap λz=>gZ ws nd e z).flatMap λz=>gZ ws c9 (E1 e x z) z) {G:V->Prop} (q:∀{a b},a<ws.n->b<ws.n->D ws nd e a=true->D ws c9 (c7 e x a) b=true->G (R2 a b)):G z:=by
 obtain⟨z1,m1,m⟩:=tP.mp h;refine ux m1 (G:=λz1=>z∈gZ ws c9 (E1 e x z1) z1->G z) (λ{a} ha h1 m=> ?_) m;obtain⟨y,m2,rfl⟩:=bB.mp m;obtain⟨m3,h⟩:=cB.mp m2;exact fW m3 (G:=λy=>D ws c9 (c7 e x a) (b9 y)=true->G (cu (R1 a) y)) (λhb h=>q ha hb h1 h) h
theorem US (ha:a<ws.n) (hb:b<ws.n) (h:D ws nd e a=true) (h':D ws c9 (c7 e x a) b=true):R2 a b∈([.tup []].flatMap λz=>gZ ws nd e z).flatMap λz=>gZ ws c9 (E1 e x z) z:=tP.mpr ⟨R1 a,HI ha h,bB.mpr ⟨R1 b,cB.mpr ⟨fE hb,h'⟩,rfl⟩⟩
theorem VC {α β:Type} {f:α->List β} (h:∀{x},(f x).length<=3) {l:List α}:(l.flatMap f).length<=3*l.length:=by
 induction l with
 |nil=>exact bC _
 |cons a l ih=>refine a6 kU (a6 aP (a6 nH ?_));rw [Nat.mul_succ,c0];exact dh ih h
theorem GA (hN:ws.n<=3):(([V.tup []].flatMap λz=>gZ ws nd e z).flatMap λz=>gZ ws c9 (E1 e x z) z).length<=9:=
 ay (VC λ{z}=>by rw [b0];exact l6 hN) (eQ 3 (ue hN))
theorem VD (W:We ws x n c nd F (.str x::F)) (W2:We ws y n c2 c9 (.str x::F) (.str y:: .str x::F)) (iw:bU ws (n+1) 122 cf f (gH ws f)) (sF:∀{v},v∈FT f->v= .str y\/v∈V.str x::F) (he:∀y,e y<ws.n) (hE:cW i8 e F ks us) (hw:w+(r+9*cf+3*(c2+3)+1*(c+3))<lim)
  (q:∀{w'},w'+r<lim->Q (.tup ((bS ws.n).filter λz=>(D ws nd e (b9 z)&&D ws c9 (E1 e x z) (gG z 1))&&D ws f (E2 e x y z) 0)) (es ws σ v dx w')):(KN (n+2)).aZ 781 79 [.ref v,uG [e6 x nd,e6 y c9] f, .aN ks us] (es ws σ v dx w) Q:=by
 exact Ew (E:=E2 e x y) (F:= .str y:: .str x::F) (ri W.hN) (λm=>Bm m (G:=λz=>z∈bS ws.n) λha hb zz zz=>jj ha hb) (GA W.hN) iw (λm=>wH (sF m)) (λ{z} m=>Bm m (G:=λz=>∀u,E2 e x y z u<ws.n) λha hb zz zz=>gp (gp he ha) hb) (λql=>Qp W W2 he hE (az (aU (bG (bG (aU (m6 _ (GA W.hN)) _) _) _) _) hw) ql) λ{w'} h1=>a6 (FU (h:=λz=>D ws nd e (b9 z)&&D ws c9 (E1 e x z) (gG z 1)) λhz=>⟨λm=>Bm m (G:=λz=>(D ws nd e (b9 z)&&D ws c9 (E1 e x z) (gG z 1))=true) λzz zz h h'=>ik.mpr ⟨h,h'⟩,jG hz (G:=λz=>(D ws nd e (b9 z)&&D ws c9 (E1 e x z) (gG z 1))=true->z∈_) λha hb h=>US ha hb (ik.mp h).1 (ik.mp h).2⟩) (q h1)
end
section
variable{ws:World} {σ:St} {v:Addr} {x y n r k k' ku kv t N M:Nat} {e:Nat->Nat} {F ks us xs ys ts U:List V} {nd a b f:Nd} {z:V} {Q:V->St->Prop} {p:V->Bool} {val fu fv:(Nat->Nat)->V}
theorem mf (h:z∈U):decide (z∈U.filter p)=p z:=by
 rewrite [ip];refine a6 decide_eq_true_eq ?_;rw [cB];exact⟨λq=>q.2,λq=>⟨h,q⟩⟩
theorem Pn (hN:ws.n<=3) (h:e x<ws.n):h7 ws (.var x) e=i8 (e x):=aE V.tup (GU ((mc hN).nd.filter _) (cB.mpr ⟨fE h,gT _⟩) λm=>fW (cB.mp m).1 (G:=λy=>(b9 y==e x)=true->y=R1 (e x)) (λzz h=>aE R1 (b7.mp h)) (cB.mp m).2)
theorem bU.le (h:bU ws n M k nd val) (l:k<=k'):bU ws n M k' nd val:=⟨λhw he hE s q=>h.run (az (aU (aU l _) _) hw) he hE s q⟩
theorem bU.cg (h:bU ws n M k nd fu) (q:∀{e},(∀x,e x<ws.n)->fu e=fv e):bU ws n M k nd fv:=⟨λhw he hE s q'=>h.run hw he hE s (a6 (q he) q')⟩
theorem pW (hx:x<4):bU ws (n+1) 79 10 (.var x) λe=>i8 (e x):=⟨λhw he hE s q=>
 bf rfl rfl (go (dA rfl (ah rfl) (bh rfl rfl (fS rfl (go (.seq (i:=1) (.tup rfl) (ao rfl) rfl (.dict .aN (pZ hx) (hE.at_ (s kz)) (b4 lI (q (az (aU (aY ..) _) hw))))))))))⟩
theorem Ik {i:Nat} {u:V} (ev:nd.v= .tup [.str 30, .int i]) (h: [C7 ws,xX ws][i]? =some u):bU ws (n+1) 79 10 nd λzz=>u:=⟨λhw he hE s q=>by
 exact a6 ev (bf rfl rfl (go (dA rfl (ah rfl) (fS rfl (go (bu gK rfl rfl (.seq (i:=1) (.tup rfl) (ao rfl) rfl (.seq .aa (ao rfl) h (b4 lI (q (az (aU (aY ..) _) hw)))))))))))⟩
theorem Hm:bU ws (n+1) 79 10 .r1 λzz=>xX ws:=Ik (i:=1) rfl rfl
noncomputable abbrev Xs (t:Nat):Bool:= !([30,27,104,117,118,119,120,35].contains t)&& !([56,123,124].contains t)
theorem wG (ev:nd.v= .tup [.str t,a.v,b.v]) (ht:Xs t=true) (ha:∀{v},v∈FT a->v∈FT nd) (hb:∀{v},v∈FT b->v∈FT nd) (ia:bU ws n 79 ku a fu) (ib:bU ws n 79 kv b fv)
  (two:∀{e σ v Q},(∀x,e x<ws.n)->Q (val e) σ->(KN n).aZ 781 125 [.ref v, .str t,fu e,fv e] σ Q):bU ws (n+1) 79 (ku+kv) nd val:=⟨λ{σ v dx w e F ks us r Q} hw he hE s q=>by
 refine a6 ev (fG ht λt1 t2=> ?_);have t1:=jk t1;exact bf rfl rfl (go (dA rfl (ah rfl) (bh rfl (dG t1 rfl) (bh rfl (dG t1 rfl) (bh rfl (dG t1 rfl) (bh rfl (dG t1 rfl) (bh rfl (dG t1 rfl) (bh rfl (dG t1 rfl) (bh rfl (dG t1 rfl) (bh rfl (dG t1 rfl) (c8 [56,123,124] rfl (jk t2) (go (aV gK rfl rfl (aV gK rfl rfl (.seq (i:=1) (.tup rfl) (ao rfl) rfl (ia.run (r:=r+kv) (m_ (r:=r) (rfl:ku+kv=_)▸hw) he hE (λm=>s (ha m)) λh1=>aV gK rfl rfl (.seq (i:=2) (.tup rfl) (ao rfl) rfl (ib.run (by rw [<-bH] at h1⊢;exact h1) he hE (λm=>s (hb m)) λh2=>two he (b4 lI (q h2))))))))))))))))))))⟩
theorem wt (hN:ws.n<=3):((aW ws.n).filter p).length<lim:=az (l6 hN) (ao rfl)
theorem wx (hN:N<=3):((bS N).filter p).length<=9:=ay (m5 ..) (iz hN).d4
theorem km (h:z∈U.filter p):z∈U:=(cB.mp h).1
theorem Uy (hx:x<4) (hy:y<4):bU ws (n+4) 79 20 (.pd x y) λe=> .tup [R2 (e x) (e y)]:=
 wG (a:= .var x) (b:= .var y) rfl rfl cD dO (pW hx) (pW hy) λhe q=>bf rfl rfl (bh rfl rfl (bh rfl rfl (bh rfl rfl (bh rfl rfl (fS rfl (go (Mn (c4 q))))))))
theorem UA (hN:ws.n<=3) (hx:x<4):bU ws (n+4) 79 20 (.jn x) (h7 ws (.jn x)):=
 wG (a:= .var x) (b:= .r1) rfl rfl cD (λm=>absurd m bx) (pW hx) Hm λ{e σ v Q} he q=>bf rfl rfl (bh rfl rfl (bh rfl rfl (bh rfl rfl (fS rfl (go (O1 hN (he x) km (wx hN) (c4 (by
  exact a6 (show((aW ws.n).filter λz=>decide (mM (e x) z∈(bS ws.n).filter (r2 ws)))=(aW ws.n).filter λz=>D ws (.jn x) e (b9 z) from pg λz hz=>fW hz (G:=λz=>decide (mM (e x) z∈(bS ws.n).filter (r2 ws))=D ws (.jn x) e (b9 z)) λha=>mf (jj (he x) ha)) q))))))))
theorem Uw (hN:ws.n<=3) (ia:bU ws (n+3) 79 ku a (h7 ws a)) (ib:bU ws (n+3) 79 kv b (h7 ws b)):bU ws (n+4) 79 (ku+kv) (.un a b) (h7 ws (.un a b)):=
 wG rfl rfl cD dO ia ib λ{e σ v Q} he q=>bf rfl rfl (fS rfl (go (Nf (mc hN) km km (az (dh (l6 hN) (l6 hN)) (ao rfl)) (c4 (by
  rw [show((aW ws.n).filter λz=>decide (z∈((aW ws.n).filter λz=>D ws a e (b9 z))++(aW ws.n).filter λz=>D ws b e (b9 z)))=(aW ws.n).filter λz=>D ws (.un a b) e (b9 z) from pg λz hz=>by
   rewrite [fA.mpr cM,Bool.decide_or];refine a6 (mf hz) (a6 (mf hz) ?_);rfl]
  exact q)))))
theorem Uz (hN:ws.n<=3) (ia:bU ws (n+3) 79 ku a (h7 ws a)) (ib:bU ws (n+3) 79 kv b (h7 ws b)):bU ws (n+4) 79 (ku+kv) (.mi a b) (h7 ws (.mi a b)):=
 wG rfl rfl cD dO ia ib λ{e σ v Q} he q=>bf rfl rfl (bh rfl rfl (bh rfl rfl (fS rfl (go (DV (gk hN) km km (wt hN) (wt hN) (c4 (by
  rw [List.filter_filter,show((aW ws.n).filter λz=> !decide (z∈(aW ws.n).filter λz=>D ws b e (b9 z))&&D ws a e (b9 z))=(aW ws.n).filter λz=>D ws (.mi a b) e (b9 z) from pg λz hz=>by
   refine a6 (mf hz) ?_;rw [Bool.and_comm];rfl]
  exact q)))))))
theorem UB (hN:ws.n<=3) (ia:bU ws n 79 ku a (h7 ws a)) (iw:bU ws (n+1) 122 kv f (gH ws f)):bU ws (n+2) 79 (3*kv+1*(ku+3)) (.cp a f) (h7 ws (.cp a f)):=⟨λ{σ v dx w e F ks us r Q} hw he hE s q=>by
 refine Il (x:=0) (r:=r) ⟨hN,by decide,ia,λm=>s (cD m),bz.mp⟩ iw (λ{v} m=> ?_) he hE (by rw [bH r];exact hw) q;by_cases h0:v= .str 0
 ·exact .inl h0
 ·exact .inr (s (dO (cB.mpr ⟨m,by refine a6 (dD h0) ?_;rfl⟩)))⟩
end
noncomputable abbrev Xr (t:Nat):Bool:= !([44,45,132,133,134].contains t)&&(!([130,131].contains t)&&(!([135,136].contains t)&&(!([137,138,139].contains t)&& [40,42].contains t)))
section
variable{ws:World} {σ:St} {v:Addr} {x y n r k k' ku kv t N M:Nat} {e:Nat->Nat} {F ks us xs ys ts U:List V} {nd a b f:Nd} {z:V} {Q:V->St->Prop} {p:V->Bool} {val pu qv:(Nat->Nat)->V}
theorem zR (ev:nd.v= .tup [.str t,a.v,b.v]) (ht:Xr t=true) (ha:∀{v},v∈FT a->v∈FT nd) (hb:∀{v},v∈FT b->v∈FT nd) (ia:bU ws n 79 ku a pu) (ib:bU ws n 79 kv b qv)
  (two:∀{e σ ρ Q},(∀x,e x<ws.n)->Q (val e) σ->IZ.run (KN n) ((106,qv e)::(5,pu e)::(116, .str t)::ρ) σ Q):bU ws (n+1) 122 (ku+kv) nd val:=⟨λ{σ v dx w e F ks us r Q} hw he hE s q=>by
 refine a6 ev (fG ht λt1 ht=>fG ht λt2 ht=>fG ht λt3 ht=>fG ht λt4 t5=> ?_);have t1:=jk t1;exact bf rfl rfl (go (dA rfl (ah rfl) (c8 [130,131] rfl (jk t2) (bh rfl (dG t1 rfl) (bh rfl (dG t1 rfl) (bh rfl (dG t1 rfl) (bh rfl (dG t1 rfl) (bh rfl (dG t1 rfl) (c8 [135,136] rfl (jk t3) (c8 [137,138,139] rfl (jk t4) (JP [40,42] rfl t5 (go (aV gK rfl rfl (.seq (i:=1) (.tup rfl) (ao rfl) rfl (ia.run (r:=r+kv) (m_ (r:=r) (rfl:ku+kv=_)▸hw) he hE (λm=>s (ha m)) λh1=>aV gK rfl rfl (.seq (i:=2) (.tup rfl) (ao rfl) rfl (ib.run (by rw [<-bH] at h1⊢;exact h1) he hE (λm=>s (hb m)) λh2=> .mk rfl (go (two he (b4 lI (q h2)))))))))))))))))))))⟩
theorem SO (hN:ws.n<=3) (hx:x<4) (ia:bU ws (n+2) 79 kv a (h7 ws a)):bU ws (n+3) 122 (10+kv) (.c8 x a) (gH ws (.c8 x a)):=
 zR rfl rfl cD dO (pW hx) ia λ{e σ ρ Q} he q=>hW fP rfl (yP (U:=aW ws.n) (gk hN) (λm=>a6 (b3.mp m) (fE (he x))) km (ao rfl) (wt hN) (by
  refine a6 jc (a6 List.all_nil ?_);rewrite [k6];exact a6 (mf (fE (he x))) q))
theorem Ux (hN:ws.n<=3) (hx:x<4) (hy:y<4):bU ws (n+5) 122 30 (.pr x y) (gH ws (.pr x y)):=
 zR (b:= .r1) rfl rfl cD (λm=>absurd m bx) (Uy hx hy) Hm λ{e σ ρ Q} he q=>hW fP rfl (yP (U:=bS ws.n) (iz hN) (λm=>a6 (b3.mp m) (jj (he x) (he y))) km (ao rfl) (az (wx hN) (ao rfl)) (by
  refine a6 jc (a6 List.all_nil ?_);rewrite [k6];exact a6 (mf (jj (he x) (he y))) q))
theorem sL {u v:V} (h:bI true n u v):bI true (n+1) (.tup [u]) (.tup [v]):= .tup λ{j x y} (e: [u][j]? =some x) (e': [v][j]? =some y)=>by
 induction j with
 |zero=>cases e;cases e';exact h
 |succ j=>exact bK ((List.getElem?_nil (i:=j)).symm.trans e)
theorem UP:j7 (i8 i) (i8 j):=⟨sL (sL .int),(λ_ _ h=>i5 h rfl)⟩
theorem Qm (hx:x<4) (hy:y<4):bU ws (n+2) 122 20 (.same x y) (gH ws (.same x y)):=
 zR (a:= .var x) (b:= .var y) rfl rfl cD dO (pW hx) (pW hy) λ{e σ ρ Q} he q=>gM fP (gW (by decide)) (mL UP (by
  rw [show decide (i8 (e x)=i8 (e y))=D ws (.same x y) e 0 from fA.mpr ⟨λh=>pK (r7 (V.tup.inj (r7 (V.tup.inj h)).1)).1,aE i8⟩];exact q))
theorem PU {k:Int} (q:Q (.bool (decide (0<k))) σ):(KN (n+1)).aZ 781 140 [.ref v, .str 41, .int k] σ Q:=bf rfl rfl (fS rfl (go (.gt (c4 q))))
theorem Rb:decide ((0:Int)<(((aW ws.n).filter λz=>D ws a e (b9 z)).length:Nat))=D ws (.some a) e 0:=by
 rewrite [ip];refine a6 decide_eq_true_eq (Iff.trans (Int.natCast_pos.trans ⟨λh=> ?_,λeC=>eC.elim λb dQ=>dQ.elim λhb h=>List.length_pos_of_mem (cB.mpr ⟨fE (dK.mp hb),h⟩:R1 b∈_)⟩) vQ.symm);obtain⟨z,hz⟩:=List.exists_mem_of_length_pos h;obtain⟨m,h⟩:=cB.mp hz;exact fW m (G:=λz=>D ws a e (b9 z)=true->∃x,x∈List.range ws.n/\D ws a e x=true) (λhb h=>⟨_,dK.mpr hb,h⟩) h
theorem Ql (hN:ws.n<=3) (ia:bU ws (n+1) 79 kv a (h7 ws a)):bU ws (n+2) 122 kv (.some a) (gH ws (.some a)):=⟨λ{σ v dx w e F ks us r Q} hw he hE s q=>by
 exact bf rfl rfl (go (dA rfl (ah rfl) (c8 [130,131] rfl rfl (bh rfl rfl (bh rfl rfl (bh rfl rfl (bh rfl rfl (bh rfl rfl (c8 [135,136] rfl rfl (c8 [137,138,139] rfl rfl (c8 [40,42] rfl rfl (go (aV gK rfl rfl (aV gK rfl rfl (.seq (i:=1) (.tup rfl) (ao rfl) rfl (ia.run hw he hE (λm=>s (fX.mpr m)) λh1=> .seq (.tup rfl) (wt hN) (PU (b4 lI (Rb▸q h1)))))))))))))))))))⟩
theorem SN (ia:bU ws n 122 kv f (gH ws f)):bU ws (n+1) 122 kv (.not f) (gH ws (.not f)):=⟨λ{σ v dx w e F ks us r Q} hw he hE s q=>
 bf rfl rfl (go (dA rfl (ah rfl) (c8 [130,131] rfl rfl (fS rfl (go (aV gK rfl rfl (.seq (i:=1) (.tup rfl) (ao rfl) rfl (ia.run hw he hE (λm=>s (fX.mpr m)) λh1=> .mk (b4 lI (q h1))))))))))⟩
theorem SP (ia:bU ws n 122 ku a (gH ws a)) (ib:bU ws n 122 kv b (gH ws b)):bU ws (n+1) 122 (ku+kv) (.and a b) (gH ws (.and a b)):=⟨λ{σ v dx w e F ks us r Q} hw he hE s q=>by
 refine bf rfl rfl (go (dA rfl (ah rfl) (c8 [130,131] rfl rfl (bh rfl rfl (fS rfl (go (.seq (i:=1) (.tup rfl) (ao rfl) rfl ⟨.tup rfl, .tup rfl,aV gK rfl rfl (ia.run (r:=r+kv) (m_ (r:=r) (rfl:ku+kv=_)▸hw) he hE (λm=>s (cD m)) λh1=>⟨ao rfl, .tup rfl,aV gK rfl rfl (ib.run (by rw [<-bH] at h1⊢;exact h1) he hE (λm=>s (dO m)) λh2=>⟨ao rfl, .tup rfl, .mk (bs:= [D ws a e 0,D ws b e 0]) (b4 lI (a6 jc (a6 jc (a6 List.all_nil ?_))))⟩)⟩)⟩)))))));rw [k6];exact q h2⟩
structure Le (ws:World) (n:Nat) (nd:Nd):Prop where
 set:nd.kd=1->bU ws n 79 (b5 nd) nd (h7 ws nd)
 fo:nd.kd=2->bU ws n 122 (b5 nd) nd (gH ws nd)
theorem Le.s (kd:nd.kd=1) (h:bU ws n 79 k nd (h7 ws nd)) (l:k<=b5 nd):Le ws n nd:=⟨λzz=>h.le l,λe=>nomatch kd.symm.trans e⟩
theorem Le.tr (kd:nd.kd=2) (h:bU ws n 122 k nd (gH ws nd)) (l:k<=b5 nd):Le ws n nd:=⟨λe=>(nomatch kd.symm.trans e),λzz=>h.le l⟩
theorem BY {t a b:Nat}:a+b<=t+(a+b+30):=ay (aY ..) (cn ..)
theorem yq {t a j:Nat}:a<=t+(a+j):=ay (aY ..) (cn ..)
theorem Wa {t a b:Nat}:3*b+1*(a+3)<=t+((a+30)+3*(b+10)+30):=by rw [c0 (3*b)];exact ay (cn _ t) (fb (sA (i:=3) (j:=0) (by decide) (by decide)))
theorem Vi {t a:Nat}:10+a<=t+(a+40):=by rw [c0 10];exact ay (aU (ah rfl) a) (cn ..)
theorem i7 (h:k=1):k≠3:=by refine a6 h ?_;decide
theorem lV (h:k=2):k≠3:=by refine a6 h ?_;decide
theorem Io (hN:ws.n<=3) (m:fR nd) (hk:nd.kd≠0) (h3:nd.kd≠3) (hn:2*fu nd+8<=n):Le ws n nd:=by
 induction nd generalizing n with
 |r1=>exact absurd rfl h3
 |pd x y=>exact absurd rfl h3
 |r0=>obtain⟨k,rfl⟩:=cH hn;exact .s rfl (Ik (i:=0) (n:=k+7) rfl rfl) (ah rfl)
 |var x=>obtain⟨k,rfl⟩:=cH hn;exact .s rfl ((pW (n:=k+7) m).cg λhe=>(Pn hN (he x)).symm) (ah rfl)
 |jn x=>obtain⟨k,rfl⟩:=cH hn;exact .s rfl (UA (n:=k+4) hN m) (ah rfl)
 |un u v i j=>
  obtain⟨k,rfl⟩:=cH hn;have kd:=dN hk;have l:=iJ hn;exact .s (cS kd) (Uw (n:=k+4) hN ((i m.1 (cI kd.1) (i7 kd.1) (da (i:=7) l.1 (by decide))).set kd.1) ((j m.2 (cI kd.2) (i7 kd.2) (da (i:=7) l.2 (by decide))).set kd.2)) BY
 |mi u v i j=>
  obtain⟨k,rfl⟩:=cH hn;have kd:=dN hk;have l:=iJ hn;exact .s (cS kd) (Uz (n:=k+4) hN ((i m.1 (cI kd.1) (i7 kd.1) (da (i:=7) l.1 (by decide))).set kd.1) ((j m.2 (cI kd.2) (i7 kd.2) (da (i:=7) l.2 (by decide))).set kd.2)) BY
 |cp u f i j=>
  obtain⟨k,rfl⟩:=cH hn;have kd:=dN hk;have l:=iJ hn;exact .s (cS kd) (UB (n:=k+6) hN ((i m.1 (cI kd.1) (i7 kd.1) (da (i:=6) l.1 (by decide))).set kd.1) ((j m.2 (fx kd.2) (lV kd.2) (da (i:=7) l.2 (by decide))).fo kd.2)) Wa
 |c8 x v i=>
  obtain⟨k,rfl⟩:=cH hn;have kd:v.kd=1/\1=1:=dN hk;exact .tr (cS kd) (SO (n:=k+5) hN m.1 ((i m.2 (cI kd.1) (i7 kd.1) (da (i:=7) (iJ (b:=2) hn).1 (by decide))).set kd.1)) Vi
 |some v i=>
  obtain⟨k,rfl⟩:=cH hn;have kd:v.kd=1/\1=1:=dN hk;exact .tr (cS kd) (Ql (n:=k+6) hN ((i m (cI kd.1) (i7 kd.1) (da (i:=7) (oX hn) (by decide))).set kd.1)) yq
 |same x y=>obtain⟨k,rfl⟩:=cH hn;exact .tr rfl (Qm (n:=k+6) m.1 m.2) (ah rfl)
 |pr x y=>obtain⟨k,rfl⟩:=cH hn;exact .tr rfl (Ux (n:=k+3) hN m.1 m.2) (ah rfl)
 |not v i=>
  obtain⟨k,rfl⟩:=cH hn;have kd:v.kd=2/\2=2:=dN hk;exact .tr (cS kd) (SN (n:=k+7) ((i m (fx kd.1) (lV kd.1) (da (i:=7) (oX hn) (by decide))).fo kd.1)) yq
 |and u v i j=>
  obtain⟨k,rfl⟩:=cH hn;have kd:=dN hk;have l:=iJ hn;exact .tr (cS kd) (SP (n:=k+7) ((i m.1 (fx kd.1) (lV kd.1) (da (i:=7) l.1 (by decide))).fo kd.1) ((j m.2 (fx kd.2) (lV kd.2) (da (i:=7) l.2 (by decide))).fo kd.2)) BY
end
noncomputable abbrev nf (a:Nat):V:= .int a
noncomputable def wV (N:Nat) (r0 r1:List V):V:= .aN [.str 26, .str 18] [.aa [.aa r0, .aa r1], .int N]
structure kM (ws:World) (r0 r1:List V):Prop where
 lo:2<=ws.n
 hi:ws.n<=3
 VY:∀{z},z∈r0->z∈aW ws.n
 IW:∀{z},z∈r1->z∈bS ws.n
 l0:r0.length<=3
 l1:r1.length<=9
 m0:∀{a},a<ws.n->decide (R1 a∈r0)=ws.s a
 m1:∀{a b},a<ws.n->b<ws.n->decide (R2 a b∈r1)=ws.r a b
structure HG (ws:World) (nd:Nd) (e:Nat->Nat) (xs:List V):Prop where
 sub:∀{z},z∈xs->z∈aW ws.n
 len:xs.length<=3*bL nd
 mem:∀{a},a<ws.n->decide (R1 a∈xs)=D ws nd e a
structure g7 (ws:World) (r0 r1:List V) (n:Nat) (nd:Nd):Prop where
 run:∀{σ c6 ks us e F Q},Dc σ c6 ks us->(∀x,e x<ws.n)->cW nf e F ks us->(∀{v},v∈FT nd->v∈F)->(∀{xs},HG ws nd e xs->Q (.aa xs) σ)->(KN n).fn 50 [nd.v,wV ws.n r0 r1,c6] σ Q
structure iG (ws:World) (r0 r1:List V) (n:Nat) (nd:Nd):Prop where
 run:∀{σ c6 ks us e F Q},Dc σ c6 ks us->(∀x,e x<ws.n)->cW nf e F ks us->(∀{v},v∈FT nd->v∈F)->Q (.bool (D ws nd e 0)) σ->(KN n).fn 54 [nd.v,wV ws.n r0 r1,c6] σ Q
noncomputable abbrev iU (N:Nat):List V:=(List.range N).map λ(i:Nat)=>V.int i
noncomputable abbrev grow (N:Nat) (zs:List V):List V:=zs.flatMap λz=>(iU N).flatMap λi=> [cu z (.tup [i])]
section
variable{n N i B:Nat} {σ:St} {xs zs acc r0 r1:List V} {v w c b:V} {Q:V->St->Prop} {R:Bool->St->Prop} {ws:World}
theorem yU:od n (i:Int)=(List.range n).map λj=>V.int ((i+j:Nat):Int):=by
 induction n generalizing i with
 |zero=>rfl
 |succ n ih=>
  refine a6 List.range_succ_eq_map (a6 pw (a6 fB (aE (V.int (i:Int)::·) ((ih (i:=i+1)).trans (List.map_congr_left λj zz=> ?_)))));show V.int ((i+1+j:Nat):Int)=V.int ((i+(j+1):Nat):Int);rw [bH,c0 1]
theorem lh (h:n<1000):Sq σ 2 (.dc 0 n) (iU n):=by
 have e:od (((n:Nat):Int) -0).toNat 0=iU n:=by
  rw [Int.sub_zero,nF];exact(yU (i:=0)).trans (List.map_congr_left λj zz=>aE (λk:Nat=>V.int k) (di j))
 exact e▸ .dc rfl (by decide) (gB h (ao rfl))
theorem rX {x:V} (h:x∈iU n) {G:V->Prop} (q:∀{j},j<n->G (.int (j:Nat))):G x:=(bB.mp h).elim λzz e8=>e8.2▸q (dK.mp e8.1)
theorem mB:j7 (.aa xs) (.aa []):=⟨.aa λzz e=>(bK (List.getElem?_nil.symm.trans e)),(λ_ _ h=>i5 h rfl)⟩
theorem A_:decide (V.aa xs= .aa [])=decide (xs= []):=fA.mpr ⟨V.aa.inj,aE _⟩
theorem FE (q:Q (.int N) σ):eV σ Q (wV N r0 r1) (.str 18):= .dict .aN (by decide) ((aB (gW (by decide))).trans (aF rfl)) q
theorem QY (q:Q (.aa [.aa r0, .aa r1]) σ):eV σ Q (wV N r0 r1) (.str 26):= .dict .aN (by decide) (aF rfl) q
theorem Bt (h:∀{z},z∈xs->z∈aW N) (hb:a∈aW N):∀y∈xs,bI true 12 y a:=λy m=>fW (h m) (G:=λy=>bI true 12 y a) λ{i} zz=>fW hb (G:=λa=>bI true 12 (R1 i) a) λzz=>sL .int
theorem Cb (h:bI true n a u) (h':bI true n b v):bI true (n+1) (.tup [a,b]) (.tup [u,v]):= .tup λ{j x y} (e: [a,b][j]? =some x) (e': [u,v][j]? =some y)=>by
 induction j with
 |zero=>cases e;cases e';exact h
 |succ j=>induction j with
  |zero=>cases e;cases e';exact h'
  |succ j=>exact bK ((List.getElem?_nil (i:=j)).symm.trans e)
theorem I8 (h:∀{z},z∈xs->z∈bS N) (hb:a∈bS N):∀y∈xs,bI true 12 y a:=λy m=>jG (h m) (G:=λy=>bI true 12 y a) λ{i j} zz zz=>jG hb (G:=λa=>bI true 12 (R2 i j) a) λzz zz=>Cb .int .int
theorem ry {step:Step (List V)} {Q:List V->St->Prop} (hx:Sq σ 2 c xs) (f:V->List V) (hl:acc.length+(xs.flatMap f).length<=B) (hs:∀{x b k},x∈xs->b.length+(f x).length<=B->k (b++f x) σ->step x σ b k) (q:Q (acc++xs.flatMap f) σ):g_ step c σ acc Q:=by
 have key:∀{ys b},(∀{x},x∈ys->x∈xs)->b.length+(ys.flatMap f).length<=B->Q (b++ys.flatMap f) σ->dP (eT step c xs) ys σ b (eX c xs Q):=λ{ys}=>by
  induction ys with
  |nil=>exact λ{b} zz zz q=>⟨hx,by rw [List.flatMap_nil,d6] at q;exact q⟩
  |cons x ys ih=>
   intro b hm hb q;rw [kU,aP,<-bH] at hb;refine⟨hx,hs (hm aM) (ay (aY ..) hb) (ih (λm=>hm (aQ _ m)) (a6 aP hb) (by rw [bP];exact q))⟩
 exact⟨hx,key id hl q⟩
theorem RI {f:V->V}:(xs.flatMap λi=> [f i]).length=xs.length:=by refine a6 (aT List.map_eq_flatMap) ?_;rw [b0]
theorem pS:(iU N).length=N:=by rewrite [b0];exact a6 gA rfl
theorem Qa:(grow N zs).length=zs.length*N:=by
 induction zs with
 |nil=>exact(Nat.zero_mul N).symm
 |cons z zs ih=>rewrite [grow];refine a6 kU (a6 aP (a6 RI (a6 pS (a6 nH ?_))));rw [Nat.succ_mul,c0];exact aE (· +N) ih
theorem Hh:grow N [.tup []]=aW N:=by
 rewrite [grow];refine a6 kU (a6 List.flatMap_nil ?_);rewrite [d6];refine a6 (aT List.map_eq_flatMap) (a6 fB ?_);rfl
theorem Us:grow N (aW N)=bS N:=by
 unfold grow aW bS;rw [List.flatMap_map];refine aE (λf=>List.flatMap f (List.range N)) (eR λa=>a6 (aT List.map_eq_flatMap) (a6 fB ?_));rfl
theorem Bb (h3:ws.n<=3) {K:CH} {ρ:Env} (hz:∀{z},z∈zs->∃l,z= .tup l/\l.length<=9) (h9:zs.length<=9) (h1:ρ.lookup 55=some (.aa zs)) (h2:ρ.lookup 23=some (wV ws.n r0 r1)) {Q:Option V->Env->St->Prop} (q:Q none ((55, .aa (grow ws.n zs))::ρ) σ):
  (MS.oE 55 (.one 25) (.var 55) .nil (.gen (.one 53) (.bi .range (.cons (.idx (.var 23) (.lit (.str 18))) .nil)) .nil (.emit (.bin .Add (.var 25) (.tup (.cons (.var 53) .nil)))))).run K ρ σ Q:=by
 refine vr h1 (ry (B:=27) .aa (λz=>(iU ws.n).flatMap λi=> [cu z (.tup [i])]) ?_ (λ{z b k} m hl hk=>vr h2 (FE (.one (ry (B:=27) (lh (az h3 (ao rfl))) (λi=> [cu z (.tup [i])]) hl (λ{i b k} mi hl hk=> ?_) hk)))) q)
 ·refine a6 kX ?_;rewrite [di];exact a6 Qa (Nat.mul_le_mul h9 h3)
 ·obtain⟨l,rfl,vn⟩:=hz m
  exact .tup (az (fe vn) (ao rfl)) ⟨gg hl (ah rfl),hk⟩
theorem mG:Sq σ 2 (.dc 0 1) [.int 0]:=lh (n:=1) (ao rfl)
theorem eH:Sq σ 2 (.dc 0 2) [.int 0, .int 1]:=lh (n:=2) (ao rfl)
theorem FA (h3:ws.n<=3) (q:Q (.aa (aW ws.n)) σ):(KN (n+1)).fn 48 [wV ws.n r0 r1, .int 1] σ Q:=
 dk rfl rfl (go λp hp=>eS hp (go (.one ⟨mG,mG,f1 (go (Bb h3 (λm=>⟨[],b3.mp m,fh _⟩) (ah rfl) rfl rfl ⟨mG,go (c4 (Hh▸q))⟩))⟩)))
theorem QR (h3:ws.n<=3) (q:Q (.aa (bS ws.n)) σ):(KN (n+1)).fn 48 [wV ws.n r0 r1, .int 2] σ Q:=by
 exact dk rfl rfl (go λp hp=>eS hp (go (.one ⟨eH,eH,f1 (go (Bb h3 (λm=>⟨[],b3.mp m,fh _⟩) (ah rfl) rfl rfl ⟨eH,f1 (go (a6 Hh (Bb h3 (λm=>fW m (G:=λz=>∃l,z= .tup l/\l.length<=9) λzz=>⟨_,rfl,ah rfl⟩) (gk h3).d4 rfl rfl ⟨eH,go (c4 (Us▸q))⟩)))⟩))⟩)))
end
structure Wl (ws:World) (r0 r1:List V) (x n:Nat) (nd:Nd) (F F':List V):Prop where
 hx:x<4
 ir:g7 ws r0 r1 n nd
 sF:∀{v},v∈FT nd->v∈F
 kG:∀{v},v∈F'->v= .str x\/v∈F
section
variable{ws:World} {r0 r1 ds rw ks us F F' qP xs:List V} {n i a b x y:Nat} {p:Addr} {σ:St} {nd c9 f:Nd} {e:Nat->Nat} {fv c6:V} {k:Env->St->Prop} {R:Option V->Env->St->Prop} {Q:V->St->Prop}
theorem zM (W:Wl ws r0 r1 x n nd F F') (ha:a<ws.n) (he:∀y,e y<ws.n) (hE:cW nf e F ks us) (hd:ds[i]? =some (e6 x nd)) (hr:rw[i]? =some (.int (a:Nat))) (ld:ds.length<lim) (lr:rw.length<lim)
  (hF:∀{ρ},D ws nd e a=false->R (some (.bool false)) ρ (upd σ p (.dict ks us))) (hT:D ws nd e a=true->∀{oL jx},cW nf (c7 e x a) F' oL jx->k [(59, .tup ds),(61,fv),(25, .tup rw),(23,wV ws.n r0 r1),(58, .ref p)] (upd σ p (.dict oL jx))):
  Gr.run (KN n) [(16, .int (i:Nat)),(59, .tup ds),(61,fv),(25, .tup rw),(23,wV ws.n r0 r1),(58, .ref p)] (upd σ p (.dict ks us)) (jz JJ k R):=by
 have l8:=az hE.d4 (ao rfl:4<lim);refine go (.seq (.tup rfl) ld hd (.mk rfl (go (.seq (.tup rfl) lr hr (W.ir.run (.ref (uS ..)) he hE W.sF λ{xs} t9=> .xQ .aa (Bt t9.sub (fE ha)) ?_)))));show cond _ _ _;rw [show decide (V.tup [.int (a:Nat)]∈xs)=D ws nd e a from t9.mem ha];cases hD:D ws nd e a with
 |false=>exact go (hF hD)
 |true=>
  refine sk (go (.seq (.tup rfl) lr hr (wm (uS ..) (pZ W.hx) l8 ?_)));rw [eo];exact hT hD (hE.put W.hx W.kG)
theorem uP (h:σ p=none):cP (upd σ p (.dict ks us)) σ:=(cP.refl σ).upd h (λ_ h=>a_ h rfl)
theorem Ia (W:Wl ws r0 r1 x n nd F (.str x::F)) (ih:iG ws r0 r1 n f) (ha:a<ws.n) (he:∀y,e y<ws.n) (hd:Dc σ c6 ks us) (hE:cW nf e F ks us) (sF:∀{v},v∈FT f->v= .str x\/v∈F) (q:Q (.bool (D ws nd e a&&D ws f (c7 e x a) 0)) σ):
  (KN (n+1)).fn 49 [.tup [e6 x nd],f.v,R1 a,wV ws.n r0 r1,c6] σ Q:=by
 refine dk rfl rfl (go (.copy hd hE.isStr (ay hE.d4 (ah rfl)) λp hp=>go (.seq (.tup rfl) (ao rfl) (.one ⟨mG,mG,f1 (zM (i:=0) W ha he hE rfl rfl (ao rfl) (ao rfl) (λhD=>b4 (uP hp).back ?_) λhD {oL jx} D6=>⟨mG,go (ih.run (.ref (uS ..)) (gp he ha) D6 (λm=>wH (sF m)) (b4 (uP hp).back ?_))⟩)⟩))))
 ·rw [hD] at q;exact q
 ·rw [hD] at q;exact q
theorem Vh (W:Wl ws r0 r1 x n nd F (.str x::F)) (W2:Wl ws r0 r1 y n c9 (.str x::F) (.str y:: .str x::F)) (ih:iG ws r0 r1 n f) (ha:a<ws.n) (hb:b<ws.n) (he:∀y,e y<ws.n) (hd:Dc σ c6 ks us) (hE:cW nf e F ks us) (sF:∀{v},v∈FT f->v= .str y\/v∈V.str x::F)
  (q:Q (.bool ((D ws nd e a&&D ws c9 (c7 e x a) b)&&D ws f (c7 (c7 e x a) y b) 0)) σ):(KN (n+1)).fn 49 [.tup [e6 x nd,e6 y c9],f.v,R2 a b,wV ws.n r0 r1,c6] σ Q:=by
 refine dk rfl rfl (go (.copy hd hE.isStr (ay hE.d4 (ah rfl)) λp hp=>go (.seq (.tup rfl) (ao rfl) (.one ⟨eH,eH,f1 (zM (i:=0) W ha he hE rfl rfl (ao rfl) (ao rfl) (λhD=>b4 (uP hp).back ?_) λhD {oL jx} D6=>⟨eH,f1 (zM (i:=1) W2 hb (gp he ha) D6 rfl rfl (ao rfl) (ao rfl) (λD7=>b4 (uP hp).back ?_) λD7 {oL jx} WA=>⟨eH,go (ih.run (.ref (uS ..)) (gp (gp he ha) hb) WA (λm=>wH (sF m)) (b4 (uP hp).back ?_))⟩)⟩)⟩))))
 ·rw [hD] at q;exact q
 ·rw [hD,D7] at q;exact q
 ·rw [hD,D7] at q;exact q
end
section
variable{K:CH} {ρ:Env} {σ:St} {Q:Option V->Env->St->Prop} {b r:aH} {m n:Nat} {v:V} {l:List V}
theorem gP (hx:ρ.lookup 46=some v) (ev:v= .tup (.str m::l)) (hl:l.length<=99) (h:Nat.beq m n=false) (q:r.run K ρ σ Q):(aH.cons (.ite (.cmp .Eq (.idx (.var 46) (.lit (.int 0))) (.lit (.str n))) b .nil) r).run K ρ σ Q:=go (vr hx (dA ev hl (gM fP (gW (Nat.ne_of_beq_eq_false h)) (sk q))))
theorem oM (hx:ρ.lookup 46=some v) (ev:v= .tup (.str m::l)) (hl:l.length<=99) (q:b.run K ρ σ (sq r.run K Q)):(aH.cons (.ite (.cmp .Eq (.idx (.var 46) (.lit (.int 0))) (.lit (.str m))) b .nil) r).run K ρ σ Q:=go (vr hx (dA ev hl (hW fP rfl q)))
end
section
variable{ws:World} {r0 r1 ks us F xs ys:List V} {n i x y t:Nat} {σ:St} {nd a b f:Nd} {e:Nat->Nat} {c6 w:V} {Q:V->St->Prop}
theorem pJ (hx:x<4) (hd:Dc σ c6 ks us) (hE:cW nf e F ks us) (s:∀{v},v∈FT (.var x)->v∈F) (q:Q (.aa [R1 (e x)]) σ):(KN (n+1)).fn 50 [(Nd.var x).v,wV ws.n r0 r1,c6] σ Q:=
 dk rfl rfl (gP rfl rfl (ah rfl) rfl (oM rfl rfl (ah rfl) (go (.seq (i:=1) (.tup rfl) (ao rfl) rfl (.dict hd (pZ hx) (hE.at_ (s kz)) λp hp=>eS hp (c4 q))))))
theorem HS (ev:nd.v= .tup [.str 30, .int i]) (h: [V.aa r0, .aa r1][i]? =some w) (q:Q w σ):(KN (n+1)).fn 50 [nd.v,wV ws.n r0 r1,c6] σ Q:=by
 exact a6 ev (dk rfl rfl (oM rfl rfl (ah rfl) (go (QY (.seq (i:=1) (.tup rfl) (ao rfl) rfl (.seq .aa (ao rfl) h (c4 q)))))))
theorem GO (q:Q (.aa r1) σ):(KN (n+1)).fn 50 [Nd.r1.v,wV ws.n r0 r1,c6] σ Q:=HS (i:=1) rfl rfl q
abbrev uU (ws:World) (r0 r1:List V) (n:Nat) (σ:St) (c6:V) (a:Nd) (P:V->Prop):Prop:=∀{S:V->St->Prop},(∀{w},P w->S w σ)->(KN n).fn 50 [a.v,wV ws.n r0 r1,c6] σ S
inductive Rows (ws:World) (nd:Nd) (e:Nat->Nat):V->Prop
 |mk {xs:List V} (h:HG ws nd e xs):Rows ws nd e (.aa xs)
theorem g7.part (h:g7 ws r0 r1 n nd) (hd:Dc σ c6 ks us) (he:∀x,e x<ws.n) (hE:cW nf e F ks us) (s:∀{v},v∈FT nd->v∈F):uU ws r0 r1 n σ c6 nd (Rows ws nd e):=λq=>h.run hd he hE s λh=>q (.mk h)
theorem wy (ev:nd.v= .tup [.str t,a.v,b.v]) (ht: [30,27,35].contains t=false) (pa:uU ws r0 r1 n σ c6 a P) (pb:uU ws r0 r1 n σ c6 b P')
  (q:∀{w w'},P w->P' w'->Gn.run (KN n) [(51,w'),(37,w),(46, .tup [.str t,a.v,b.v]),(23,wV ws.n r0 r1),(47,c6)] σ (rt Q σ)):(KN (n+1)).fn 50 [nd.v,wV ws.n r0 r1,c6] σ Q:=by
 exact a6 ev (dk rfl rfl (gP rfl rfl (ah rfl) (dG ht rfl) (gP rfl rfl (ah rfl) (dG ht rfl) (gP rfl rfl (ah rfl) (dG ht rfl) (go (.seq (i:=1) (.tup rfl) (ao rfl) rfl (pa λ{w} hw=> .seq (i:=2) (.tup rfl) (ao rfl) rfl (pb λ{w'} gQ=> .mk rfl (q hw gQ)))))))))
theorem TP (hx:x<4) (hy:y<4) (hd:Dc σ c6 ks us) (hE:cW nf e F ks us) (s:∀{v},v∈FT (.pd x y)->v∈F) (q:Q (.aa [R2 (e x) (e y)]) σ):(KN (n+2)).fn 50 [(Nd.pd x y).v,wV ws.n r0 r1,c6] σ Q:=
 wy (a:= .var x) (b:= .var y) (P:=(· = .aa [R1 (e x)])) (P':=(· = .aa [R1 (e y)])) rfl rfl (λq=>pJ hx hd hE (λm=>s (cD m)) (q rfl)) (λq=>pJ hy hd hE (λm=>s (dO m)) (q rfl)) λ{w w'} hw gQ=>by
  subst hw gQ;exact gP rfl rfl (ah rfl) rfl (oM rfl rfl (ah rfl) (go ⟨.aa, .aa,⟨.aa, .aa, .tup (ao rfl) ⟨ao rfl, .aa, .aa,c4 q⟩⟩⟩))
theorem TO (W:kM ws r0 r1):g7 ws r0 r1 (n+1) .r0:=⟨λhd he hE s q=>HS (i:=0) rfl rfl (q ⟨W.VY,W.l0,W.m0⟩)⟩
theorem AX:decide (R1 i∈ [R1 j])=(i==j):=fA.mpr ⟨λm=>pK (r7 (V.tup.inj (b3.mp m))).1,λe=>b3.mpr (aE R1 e)⟩
theorem Pu (hx:x<4):g7 ws r0 r1 (n+1) (.var x):=⟨λhd he hE s q=>pJ hx hd hE s (q ⟨λm=>by exact a6 (b3.mp m) (fE (he x)),ah rfl,λzz=>AX⟩)⟩
theorem Sm {N:Nat} {p:Nat->Bool} (h3:N<=3) {xs:List V} (e:xs=((iU N).filter λi=>p (dj i).toNat).map λi=> .tup [i]):(∀{z},z∈xs->z∈aW N)/\xs.length<=3/\∀{a},a<N->decide (R1 a∈xs)=p a:=by
 subst e;refine⟨λm=> ?_, ?_,λ{a} ha=> ?_⟩
 ·obtain⟨i,mi,rfl⟩:=bB.mp m
  exact rX (cB.mp mi).1 (G:=λi=>V.tup [i]∈aW N) fE
 ·rw [b0];exact ay (m5 ..) (pS▸h3)
 ·rw [ip,kS,bB]
  refine⟨λeN=>eN.elim λi eD=>eD.elim λmi e=> ?_,λh=>⟨.int a,cB.mpr ⟨bB.mpr ⟨a,dK.mpr ha,rfl⟩,h⟩,rfl⟩⟩;cases(r7 (V.tup.inj e)).1;exact(cB.mp mi).2
theorem TR (W:kM ws r0 r1) (hx:x<4):g7 ws r0 r1 (n+2) (.jn x):=⟨λ{σ c6 ks us e F Q} hd he hE s q=>by
 refine wy (a:= .var x) (b:= .r1) (P:=(· = .aa [R1 (e x)])) (P':=(· = .aa r1)) rfl rfl (λq=>pJ hx hd hE (λm=>s (cD m)) (q rfl)) (λq=>GO (q rfl)) λ{w w'} hw gQ=> ?_;subst hw gQ;have H:=Sm (p:=ws.r (e x)) W.hi rfl;refine oM rfl rfl (ah rfl) (go (FE (.one (jf (lh (az W.hi (ao rfl))) (λi=>ws.r (e x) (dj i).toNat) (λi=> .tup [i]) (pS▸az W.hi (ao rfl)) (λi mi acc k dn hk=> ?_) (c4 (q ⟨H.1,ay H.2.1 (ah rfl),H.2.2⟩))))));obtain⟨j,hj,rfl⟩:∃j:Nat,j<ws.n/\i= .int j:=rX mi (G:=λi=>∃j:Nat,j<ws.n/\i= .int j) λh=>⟨_,h,rfl⟩;refine⟨.aa, .aa, .mk rfl (.vc .aa (I8 W.IW (jj (he x) hj)) ?_)⟩;show cond _ _ _;rw [show decide (V.tup [.int (e x:Nat), .int (j:Nat)]∈r1)=ws.r (e x) j from W.m1 (he x) hj]
 replace hk:k (if ws.r (e x) j=true then acc++ [.tup [.int (j:Nat)]] else acc) σ:=hk
 cases hr:ws.r (e x) j with
 |true=>
  rw [hr,aF rfl] at hk;exact⟨ao rfl, .aa,λp hp=>eS hp (sy mB (λe=>lU (V.aa.inj e)) ⟨dn,hk⟩)⟩
 |false=>
  rw [hr,aB cK] at hk;exact⟨.aa,λp hp=>eS hp (iE mB rfl hk)⟩⟩
theorem TN (ht:bL a+bL b<=1000) (ia:g7 ws r0 r1 n a) (ib:g7 ws r0 r1 n b):g7 ws r0 r1 (n+1) (.un a b):=⟨λ{σ c6 ks us e F Q} hd he hE s q=>
 wy rfl rfl (ia.part hd he hE λm=>s (cD m)) (ib.part hd he hE λm=>s (dO m)) λ{w w'} hw gQ=>by
  induction hw with
  | @mk xs hx=>induction gQ with
   | @mk ys hy=>
    have l:xs.length+ys.length<=3*(bL a+bL b):=Nat.mul_add .. ▸dh hx.len hy.len;refine gP rfl rfl (ah rfl) rfl (gP rfl rfl (ah rfl) rfl (go (.seq (i:=0) (.tup rfl) (ao rfl) rfl (hW fP rfl (.lst .aa .aa (az (ay l (eQ 3 ht)) (ao rfl)) (c4 (q ⟨λm=>(cM.mp m).elim hx.sub hy.sub,by exact a6 aP (ay l (eQ 3 (gU _))),λh=> ?_⟩)))))));rewrite [fA.mpr cM,Bool.decide_or];refine a6 (hx.mem h) (a6 (hy.mem h) ?_);rfl⟩
theorem TQ (ht:bL a+bL b<=1000) (ia:g7 ws r0 r1 n a) (ib:g7 ws r0 r1 n b):g7 ws r0 r1 (n+1) (.mi a b):=⟨λ{σ c6 ks us e F Q} hd he hE s q=>
 wy rfl rfl (ia.part hd he hE λm=>s (cD m)) (ib.part hd he hE λm=>s (dO m)) λ{w w'} hw gQ=>by
  induction hw with
  | @mk xs hx=>induction gQ with
   | @mk ys hy=>
    have l:xs.length<=3*(bL a+bL b):=ay hx.len (eQ 3 (aY ..));refine gP rfl rfl (ah rfl) rfl (gP rfl rfl (ah rfl) rfl (go (.seq (i:=0) (.tup rfl) (ao rfl) rfl (gM fP (gW (by decide)) (jf .aa (λz=> !decide (z∈ys)) id (az (ay l (eQ 3 ht)) (ao rfl)) (λz mz acc k dn hk=> .xQ .aa (Bt hy.sub (hx.sub mz)) ?_) ?_)))))
    ·cases h:decide (z∈ys) with
     |true=>rw [h] at hk;exact hk
     |false=>rw [h] at hk;exact⟨dn,hk⟩
    ·rw [iS]
     refine c4 (q ⟨λm=>hx.sub (cB.mp m).1,ay (m5 ..) (ay l (eQ 3 (gU _))),λ{c} h=> ?_⟩);rewrite [fA.mpr cB,Bool.decide_and];refine a6 (hx.mem h) (a6 (hy.mem h) (a6 Bool.decide_eq_true ?_));rfl⟩
theorem TU (W:kM ws r0 r1) (ia:g7 ws r0 r1 n a) (ih:iG ws r0 r1 n f):g7 ws r0 r1 (n+2) (.cp a f):=⟨λ{σ c6 ks us e F Q} hd he hE s q=>by
 refine dk rfl rfl (gP rfl rfl (ah rfl) rfl (gP rfl rfl (ah rfl) rfl (oM rfl rfl (ah rfl) (go (FA W.hi (jf .aa (λz=>D ws (.cp a f) e (b9 z)) id (az (gk W.hi).d4 (ao rfl)) (λz mz acc k dn hk=> ?_) ?_))))))
 ·obtain⟨b,hb,rfl⟩:∃b,b<ws.n/\z=R1 b:=fW mz (G:=λz=>∃b,b<ws.n/\z=R1 b) λh=>⟨_,h,rfl⟩
  refine .seq (i:=1) (.tup rfl) (ao rfl) rfl (.seq (i:=2) (.tup rfl) (ao rfl) rfl (Ia (x:=0) ⟨by decide,ia,λm=>s (cD m),bz.mp⟩ ih hb he hd hE (λ{v} m=> ?_) (.mk ?_)))
  ·by_cases h0:v= .str 0
   ·exact .inl h0
   ·exact .inr (s (dO (cB.mpr ⟨m,by refine a6 (dD h0) ?_;rfl⟩)))
  ·replace hk:k (if(D ws a e b&&D ws f (c7 e 0 b) 0)=true then acc++ [R1 b] else acc) σ:=hk
   cases h:D ws a e b&&D ws f (c7 e 0 b) 0 with
   |true=>rw [h,aF rfl] at hk;exact⟨dn,hk⟩
   |false=>rw [h,aB cK] at hk;exact hk
 ·rw [iS]
  exact c4 (q ⟨km,ay (l6 W.hi) (ay (gh (Nat.mul_one 3).symm) (eQ 3 (cn 1 _))),λh=>mf (fE h)⟩)⟩
end
section
variable{ws:World} {r0 r1 ks us F xs ys l:List V} {n x y t X:Nat} {σ:St} {nd a b f g:Nd} {e:Nat->Nat} {c6 w z z2:V} {Q:V->St->Prop} {K:CH} {ρ:Env} {R:List V->St->Prop} {S:Option V->Env->St->Prop} {B:Bool->St->Prop}
theorem E_ (h:((25,z)::ρ).lookup X=some (.aa ys)) (ha:∀y∈ys,bI true 12 y z) (q:∀{l},decide (l= [])=decide (z∈ys)->R l σ):g_ (lE (.one 25) (dw.cons (.cmp .NotIn (.var 25) (.var X)) .nil).run K ((MI.emit (.var 25)).run K) ρ) (.aa [z]) σ [] R:=by
 refine⟨.aa, .aa,vr h (.xQ .aa ha ?_)⟩;cases hm:decide (z∈ys) with
 |true=>exact⟨.aa,q (by refine a6 hm ?_;rfl)⟩
 |false=>exact⟨ao rfl, .aa,q (by refine a6 hm ?_;rfl)⟩
theorem H3 (e:decide (l= [])=bo) (q:B bo σ):∀p,σ p=none->sj (upd σ p (.list [])) (λw σ=>cU σ B .Eq (.aa l) w) (.ref p):=λp hp=>eS hp (mL mB (a6 A_ (a6 e q)))
theorem Ah (ha:∀y∈ys,bI true 12 y z) (h2:∀{B},B bo σ->ym.run K [(51, .aa ys),(37, .aa [z]),(46,w),(23,wV n r0 r1),(47,c6)] σ B) (q:S (some (.bool (decide (z∈ys)&&bo))) [(51, .aa ys),(37, .aa [z]),(46,w),(23,wV n r0 r1),(47,c6)] σ):
  Aw.run K [(51, .aa ys),(37, .aa [z]),(46,w),(23,wV n r0 r1),(47,c6)] σ S:=by
 refine go (E_ rfl ha λ{l} e=>H3 e ?_);cases hm:decide (z∈ys) with
 |false=>rw [hm] at q;exact q
 |true=>rw [hm] at q;exact h2 (by cases bo<;>exact q)
theorem HY (ew:w= .tup (.str 40::l)) (hl:l.length<=99) (q:B true σ):ym.run K [(51, .aa ys),(37, .aa [z]),(46,w),(23,wV n r0 r1),(47,c6)] σ B:=dA ew hl (hW fP rfl q)
theorem V8 (ew:w= .tup (.str 42::l)) (hl:l.length<=99) (ha:bI true 12 z z2) (q:B (decide (z2∈ [z])) σ):ym.run K [(51, .aa [z2]),(37, .aa [z]),(46,w),(23,wV n r0 r1),(47,c6)] σ B:=
 dA ew hl (gM fP (gW (by decide)) (E_ rfl (λy m=>a6 (b3.mp m) ha) λ{l} e=>H3 e (by cases hb:decide (z2∈ [z])<;>(rw [hb] at q;exact q))))
theorem Sy (ih:iG ws r0 r1 n f):iG ws r0 r1 (n+1) (.not f):=⟨λhd he hE s q=>dk rfl rfl (oM rfl rfl (ah rfl) (go (.seq (i:=1) (.tup rfl) (ao rfl) rfl (ih.run hd he hE (λm=>s (fX.mpr m)) (.mk (c4 q))))))⟩
theorem SA (ih:iG ws r0 r1 n f) (ig:iG ws r0 r1 n g):iG ws r0 r1 (n+1) (.and f g):=⟨λ{σ c6 ks us e F Q} hd he hE s q=>by
 refine dk rfl rfl (gP rfl rfl (ah rfl) rfl (oM rfl rfl (ah rfl) (go (.seq (i:=1) (.tup rfl) (ao rfl) rfl (.seq (i:=0) (.tup rfl) (ao rfl) rfl (ih.run hd he hE (λm=>s (cD m)) (.mk ?_)))))));have q:Q (.bool (D ws f e 0&&D ws g e 0)) σ:=q;cases hD:D ws f e 0 with
 |false=>rw [hD] at q;exact c4 q
 |true=>
  rw [hD] at q;refine .seq (i:=1) (.tup rfl) (ao rfl) rfl (.seq (i:=1) (.tup rfl) (ao rfl) rfl (ig.run hd he hE (λm=>s (dO m)) (.mk ?_)));cases hG:D ws g e 0 with
  |false=>rw [hG] at q;exact c4 q
  |true=>rw [hG] at q;exact c4 q⟩
theorem Q7 (ia:g7 ws r0 r1 n a):iG ws r0 r1 (n+1) (.some a):=⟨λ{σ c6 ks us e F Q} hd he hE s q=>by
 refine dk rfl rfl (gP rfl rfl (ah rfl) rfl (gP rfl rfl (ah rfl) rfl (go (.seq (i:=1) (.tup rfl) (ao rfl) rfl (ia.run hd he hE (λm=>s (fX.mpr m)) λ{xs} t9=>oM rfl rfl (ah rfl) (go λp hp=>eS hp (xn mB (c4 ?_))))))));rewrite [A_,show(!decide (xs= []))=D ws (.some a) e 0 by
  rewrite [ip,nG,decide_eq_false_iff_not];refine Iff.trans ⟨λh=> ?_,λdW e'=>dW.elim λb eY=>eY.elim λhb h=> ?_⟩ vQ.symm
  ·obtain⟨z,hz⟩:=List.exists_mem_of_ne_nil xs h
   obtain⟨b,hb,rfl⟩:=fW (t9.sub hz) (G:=λz=>∃b,b<ws.n/\z=R1 b) λh=>⟨_,h,rfl⟩;exact⟨b,dK.mpr hb,(t9.mem hb).symm.trans (bQ hz)⟩
  ·have:=bY ((t9.mem (dK.mp hb)).trans h)
   rw [e'] at this;exact absurd this bx]
 exact q⟩
theorem Af (ev:nd.v= .tup [.str t,a.v,b.v]) (ht: [44,45,41].contains t=false) (pa:uU ws r0 r1 n σ c6 a P) (pb:uU ws r0 r1 n σ c6 b P')
  (q:∀{w w'},P w->P' w'->Aw.run (KN n) [(51,w'),(37,w),(46, .tup [.str t,a.v,b.v]),(23,wV ws.n r0 r1),(47,c6)] σ (rt Q σ)):(KN (n+1)).fn 54 [nd.v,wV ws.n r0 r1,c6] σ Q:=by
 exact a6 ev (dk rfl rfl (gP rfl rfl (ah rfl) (dG ht rfl) (gP rfl rfl (ah rfl) (dG ht rfl) (go (.seq (i:=1) (.tup rfl) (ao rfl) rfl (pa λ{w} hw=>gP rfl rfl (ah rfl) (dG ht rfl) (go (.seq (i:=2) (.tup rfl) (ao rfl) rfl (pb λ{w'} gQ=>q hw gQ)))))))))
theorem Sz (hx:x<4) (ia:g7 ws r0 r1 (n+1) a):iG ws r0 r1 (n+2) (.c8 x a):=⟨λ{σ c6 ks us e F Q} hd he hE s q=>
 Af (a:= .var x) (P:=(· = .aa [R1 (e x)])) rfl rfl (λq=>pJ hx hd hE (λm=>s (cD m)) (q rfl)) (ia.part hd he hE λm=>s (dO m)) λ{w w'} hw gQ=>by
  subst hw;induction gQ with
  | @mk ys hy=>exact Ah (bo:=true) (Bt hy.sub (fE (he x))) (HY rfl (ah rfl)) (c4 (by refine a6 (hy.mem (he x)) ?_;rw [k6];exact q))⟩
theorem Ur (W:kM ws r0 r1) (hx:x<4) (hy:y<4):iG ws r0 r1 (n+3) (.pr x y):=⟨λ{σ c6 ks us e F Q} hd he hE s q=>
 Af (a:= .pd x y) (b:= .r1) (P:=(· = .aa [R2 (e x) (e y)])) (P':=(· = .aa r1)) rfl rfl (λq=>TP hx hy hd hE (λm=>s (cD m)) (q rfl)) (λq=>GO (q rfl)) λ{w w'} hw gQ=>by
  subst hw gQ;exact Ah (bo:=true) (I8 W.IW (jj (he x) (he y))) (HY rfl (ah rfl)) (c4 (by refine a6 (W.m1 (he x) (he y)) ?_;rw [k6];exact q))⟩
theorem Q8 (hx:x<4) (hy:y<4):iG ws r0 r1 (n+2) (.same x y):=⟨λ{σ c6 ks us e F Q} hd he hE s q=>
 Af (a:= .var x) (b:= .var y) (P:=(· = .aa [R1 (e x)])) (P':=(· = .aa [R1 (e y)])) rfl rfl (λq=>pJ hx hd hE (λm=>s (cD m)) (q rfl)) (λq=>pJ hy hd hE (λm=>s (dO m)) (q rfl)) λ{w w'} hw gQ=>by
  subst hw gQ;refine Ah (λy m=>a6 (b3.mp m) (sL .int)) (V8 rfl (ah rfl) (sL .int)) (c4 (a6 AX (a6 AX (a6 (show(e y==e x)=(e x==e y) from Bool.beq_comm) ?_))));rw [Bool.and_self];exact q⟩
structure Ll (ws:World) (r0 r1:List V) (n:Nat) (nd:Nd):Prop where
 set:nd.kd=1->g7 ws r0 r1 n nd
 fo:nd.kd=2->iG ws r0 r1 n nd
theorem Ll.s (kd:nd.kd=1) (h:g7 ws r0 r1 n nd):Ll ws r0 r1 n nd:=⟨λzz=>h,λe=>nomatch kd.symm.trans e⟩
theorem Ll.hl (kd:nd.kd=2) (h:iG ws r0 r1 n nd):Ll ws r0 r1 n nd:=⟨λe=>(nomatch kd.symm.trans e),λzz=>h⟩
theorem I6 (W:kM ws r0 r1) (m:fR nd) (ht:bL nd<=1000) (hk:nd.kd≠0) (h3:nd.kd≠3) (hn:2*fu nd+8<=n):Ll ws r0 r1 n nd:=by
 have t2:∀{a b:Nat},a+b+1<=1000->a<=1000/\b<=1000:=λh=>⟨ay (aY ..) (fb h),ay (cn ..) (fb h)⟩
 induction nd generalizing n with
 |r1=>exact absurd rfl h3
 |pd x y=>exact absurd rfl h3
 |r0=>obtain⟨k,rfl⟩:=cH hn;exact .s rfl (TO (n:=k+7) W)
 |var x=>obtain⟨k,rfl⟩:=cH hn;exact .s rfl (Pu (n:=k+7) m)
 |jn x=>obtain⟨k,rfl⟩:=cH hn;exact .s rfl (TR (n:=k+6) W m)
 |un u v i j=>
  obtain⟨k,rfl⟩:=cH hn;have kd:=dN hk;have l:=iJ hn;exact .s (cS kd) (TN (n:=k+7) (fb ht) ((i m.1 (t2 ht).1 (cI kd.1) (i7 kd.1) (da (i:=7) l.1 (by decide))).set kd.1) ((j m.2 (t2 ht).2 (cI kd.2) (i7 kd.2) (da (i:=7) l.2 (by decide))).set kd.2))
 |mi u v i j=>
  obtain⟨k,rfl⟩:=cH hn;have kd:=dN hk;have l:=iJ hn;exact .s (cS kd) (TQ (n:=k+7) (fb ht) ((i m.1 (t2 ht).1 (cI kd.1) (i7 kd.1) (da (i:=7) l.1 (by decide))).set kd.1) ((j m.2 (t2 ht).2 (cI kd.2) (i7 kd.2) (da (i:=7) l.2 (by decide))).set kd.2))
 |cp u f i j=>
  obtain⟨k,rfl⟩:=cH hn;have kd:=dN hk;have l:=iJ hn;exact .s (cS kd) (TU (n:=k+6) W ((i m.1 (t2 ht).1 (cI kd.1) (i7 kd.1) (da (i:=6) l.1 (by decide))).set kd.1) ((j m.2 (t2 ht).2 (fx kd.2) (lV kd.2) (da (i:=6) l.2 (by decide))).fo kd.2))
 |c8 x v i=>
  obtain⟨k,rfl⟩:=cH hn;have kd:v.kd=1/\1=1:=dN hk;exact .hl (cS kd) (Sz (n:=k+6) m.1 ((i m.2 (Nat.le_of_add_right_le (k:=2) ht) (cI kd.1) (i7 kd.1) (da (i:=7) (iJ (b:=2) hn).1 (by decide))).set kd.1))
 |some v i=>
  obtain⟨k,rfl⟩:=cH hn;have kd:v.kd=1/\1=1:=dN hk;exact .hl (cS kd) (Q7 (n:=k+7) ((i m (fb ht) (cI kd.1) (i7 kd.1) (da (i:=7) (oX hn) (by decide))).set kd.1))
 |same x y=>obtain⟨k,rfl⟩:=cH hn;exact .hl rfl (Q8 (n:=k+6) m.1 m.2)
 |pr x y=>obtain⟨k,rfl⟩:=cH hn;exact .hl rfl (Ur (n:=k+5) W m.1 m.2)
 |not v i=>
  obtain⟨k,rfl⟩:=cH hn;have kd:v.kd=2/\2=2:=dN hk;exact .hl (cS kd) (Sy (n:=k+7) ((i m (fb ht) (fx kd.1) (lV kd.1) (da (i:=7) (oX hn) (by decide))).fo kd.1))
 |and u v i j=>
  obtain⟨k,rfl⟩:=cH hn;have kd:=dN hk;have l:=iJ hn;exact .hl (cS kd) (SA (n:=k+7) ((i m.1 (t2 ht).1 (fx kd.1) (lV kd.1) (da (i:=7) l.1 (by decide))).fo kd.1) ((j m.2 (t2 ht).2 (fx kd.2) (lV kd.2) (da (i:=7) l.2 (by decide))).fo kd.2))
end
noncomputable def fs (σ:St) (fd:Addr) (cells:List Int) (k:Nat):St:=upd σ fd (.dict [.str 17, .str 15] [.aa (cells.map V.int), .int k])
noncomputable def kV (K:List Nat):V:= .aa (K.map V.str)
structure bE (K:List Nat) (k d c t f:Nat) (nd:Nd):Prop where
 kd:nd.kd=k
 nm:fR nd
 ft:∀{v},v∈FT nd->∃x,x∈K/\v= .str x
 dp:qD nd<=d
 c:b5 nd<=c
 t:bL nd<=t
 f:fu nd<=f
section
variable{K:List Nat} {x y k d c t f d' c' t' f':Nat} {a b:Nd}
theorem bE.le (h:bE K k d c t f a) (h1:d<=d') (h2:c<=c') (h3:t<=t') (h4:f<=f'):bE K k d' c' t' f' a:=⟨h.kd,h.nm,h.ft,ay h.dp h1,ay h.c h2,ay h.t h3,ay h.f h4⟩
theorem qK (m:x∈K) (h:v∈sn [.str x]):∃x,x∈K/\v= .str x:=⟨x,m,b3.mp (fX.mp h)⟩
theorem qJ {xs ys:List V} {P:V->Prop} (p:∀{v},v∈xs->P v) (q:∀{v},v∈ys->P v) {v:V} (h:v∈sn (xs++ys)):P v:=(cM.mp (fX.mp h)).elim p q
theorem bE.r0:bE K 1 1 10 1 3 .r0:=⟨rfl,jE,λm=>absurd m bx,ah rfl,ah rfl,ah rfl,ah rfl⟩
theorem bE.var (l:x<4) (m:x∈K):bE K 1 1 10 1 2 (.var x):=⟨rfl,l,qK m,ah rfl,ah rfl,ah rfl,ah rfl⟩
theorem bE.jn (l:x<4) (m:x∈K):bE K 1 2 50 3 5 (.jn x):=⟨rfl,l,qJ (qK m) λm=>absurd m bx,ah rfl,ah rfl,ah rfl,ah rfl⟩
theorem max_le {a b c d:Nat} (h:a<=c) (h':b<=d):max a b<=max c d:=Nat.max_le.mpr ⟨ay h (Nat.le_max_left ..),ay h' (Nat.le_max_right ..)⟩
theorem ng {a b c d:Nat} (h:a<=c) (h':b<=d) (n:Nat):a+b+n<=c+d+n:=bG (dh h h') n
theorem bE.two (hk:nd.kd=k) (hn:fR nd) (hf:FT nd=sn (FT a++FT b)) (hd:qD nd=max (qD a) (qD b)+x) (hc:b5 nd=bL a+bL b+1+(b5 a+b5 b+30)) (ht:bL nd=bL a+bL b+1) (hu:fu nd=fu a+fu b+2) (h:bE K k1 d c t f a) (h':bE K k2 d' c' t' f' b):
  bE K k (max d d'+x) (t+t'+1+(c+c'+30)) (t+t'+1) (f+f'+2) nd:=⟨hk,hn,λm=>qJ h.ft h'.ft (hf▸m),hd▸bG (max_le h.dp h'.dp) x,hc▸dh (ng h.t h'.t 1) (ng h.c h'.c 30),ht▸ng h.t h'.t 1,hu▸ng h.f h'.f 2⟩
theorem bE.un (h:bE K 1 d c t f a) (h':bE K 1 d' c' t' f' b):bE K 1 (max d d'+1) (t+t'+1+(c+c'+30)) (t+t'+1) (f+f'+2) (.un a b):= .two (cS ⟨h.kd,h'.kd⟩) ⟨h.nm,h'.nm⟩ rfl rfl rfl rfl rfl h h'
theorem bE.mi (h:bE K 1 d c t f a) (h':bE K 1 d' c' t' f' b):bE K 1 (max d d'+1) (t+t'+1+(c+c'+30)) (t+t'+1) (f+f'+2) (.mi a b):= .two (cS ⟨h.kd,h'.kd⟩) ⟨h.nm,h'.nm⟩ rfl rfl rfl rfl rfl h h'
theorem bE.and (h:bE K 2 d c t f a) (h':bE K 2 d' c' t' f' b):bE K 2 (max d d'+2) (t+t'+1+(c+c'+30)) (t+t'+1) (f+f'+2) (.and a b):= .two (cS ⟨h.kd,h'.kd⟩) ⟨h.nm,h'.nm⟩ rfl rfl rfl rfl rfl h h'
theorem bE.cp (h:bE K 1 d c t f a) (h':bE (K++ [0]) 2 d' c' t' f' b):bE K 1 (max (d+2) d'+1) (t+t'+1+((c+30)+3*(c'+10)+30)) (t+t'+1) (f+f'+2) (.cp a b):=by
 refine⟨cS ⟨h.kd,h'.kd⟩,⟨h.nm,h'.nm⟩,qJ h.ft λm=> ?_,bG (max_le (bG h.dp 2) h'.dp) 1,dh (ng h.t h'.t 1) (bG (dh (bG h.c 30) (eQ 3 (bG h'.c 10))) 30),ng h.t h'.t 1,ng h.f h'.f 2⟩;obtain⟨m,h0⟩:=cB.mp m;obtain⟨x,hx,rfl⟩:=h'.ft m;refine(cM.mp hx).elim (λm=>⟨x,m,rfl⟩) λm=> ?_;rw [b3.mp m,bQ rfl] at h0;exact absurd h0 cK
theorem bE.c8 (l:x<4) (m:x∈K) (h:bE K 1 d c t f a):bE K 2 (max 1 d+1) (t+2+(c+40)) (t+2) (f+2+2) (.c8 x a):=⟨cS ⟨h.kd,rfl⟩,⟨l,h.nm⟩,qJ (qK m) h.ft,bG (max_le (bC _) h.dp) 1,dh (bG h.t 2) (bG h.c 40),bG h.t 2,bG h.f 4⟩
theorem bE.some (h:bE K 1 d c t f a):bE K 2 (d+1) (t+1+(c+30)) (t+1) (f+2) (.some a):=⟨cS ⟨h.kd,rfl⟩,h.nm,λm=>h.ft (fX.mp m),bG h.dp 1,dh (bG h.t 1) (bG h.c 30),bG h.t 1,bG h.f 2⟩
theorem bE.not (h:bE K 2 d c t f a):bE K 2 (d+1) (t+1+(c+30)) (t+1) (f+2) (.not a):=⟨cS ⟨h.kd,rfl⟩,h.nm,λm=>h.ft (fX.mp m),bG h.dp 1,dh (bG h.t 1) (bG h.c 30),bG h.t 1,bG h.f 2⟩
theorem bE.same (l:x<4) (m:x∈K) (l':y<4) (m':y∈K):bE K 2 2 60 3 4 (.same x y):=⟨rfl,⟨l,l'⟩,qJ (qK m) (qK m'),ah rfl,ah rfl,ah rfl,ah rfl⟩
theorem bE.pr (l:x<4) (m:x∈K) (l':y<4) (m':y∈K):bE K 2 3 90 5 6 (.pr x y):=⟨rfl,⟨l,l'⟩,qJ (qJ (qK m) (qK m')) λm=>absurd m bx,ah rfl,ah rfl,ah rfl,ah rfl⟩
end
abbrev DA (K:List Nat):Nd->Prop:=bE K 1 2 50 3 5
abbrev Kx (K:List Nat):Nd->Prop:=bE K 2 3 95 5 9
abbrev ie (K:List Nat):Nd->Prop:=bE K 1 5 434 9 16
abbrev kP (K:List Nat):Nd->Prop:=bE K 2 6 485 11 20
section
variable{σ:St} {fd q:Addr} {cells:List Int} {k k' j i n m:Nat} {K:List Nat} {Q:V->St->Prop} {mo:MO}
theorem rZ:fs σ fd cells k fd=some (.dict [.str 17, .str 15] [.aa (cells.map V.int), .int k]):=uS ..
theorem J9:upd (fs σ fd cells k) fd (.dict [.str 17, .str 15] [.aa (cells.map V.int), .int k'])=fs σ fd cells k':=eo ..
theorem hO:back (fs σ fd cells k') (fs σ fd cells k)=fs σ fd cells k':=by
 refine a6 (aT (J9 (k:=k))) ?_;exact(k9 (by refine a6 rZ ?_;exact cy)).trans (aE (upd · fd _) (pD _))
theorem qL (h:k+(j+i)<=10000):k+j<=10000:=ay (aU (aY ..) _) h
theorem ml (hc:cells.length<=60) (h0:0<m) (hk:k+(j+1)<=10000) (q:∀{r k':Nat},r<m->k'+j<=10000->Q (.int r) (fs σ fd cells k')):(KN (n+1)).fn 21 [.ref fd, .int m] (fs σ fd cells k) Q:=by
 have D:∀{k},Dc (fs σ fd cells k) (.ref fd) [.str 17, .str 15] [.aa (cells.map V.int), .int k]:= .ref rZ;have ne:V.str 17≠V.str 15:=gW (by decide);have lc:(cells.map V.int).length<lim:=by rw [b0];exact az hc (ao rfl)
 have fin:∀{a:Int} {ρ:Env},rt Q (fs σ fd cells k) (some (.int (a.fmod m))) ρ (fs σ fd cells (k+1)):=λ{a ρ}=>b4 hO (by
  have h0:=Int.fmod_nonneg_of_pos a (gC.mpr h0);have h1:=Int.fmod_lt_of_pos a (gC.mpr ‹0<m›);rw [<-Int.toNat_of_nonneg h0] at h1⊢;exact q (gC.mp h1) (by rw [bH,c0 1];exact hk))
 refine dk rfl rfl (go (.dict D rfl ((aB ne).trans (aF rfl)) (go (.add (ki rZ rfl (ao rfl) (by
  exact a6 (iA (aQ _ aM)) (aE (MO.dict _) ((aB ne).trans (aE _ (aF rfl))))) (og (J9 (k':=k+1)) (.dict D rfl (aF rfl) (.seq .aa lc ?_))))))))
 have hm:((m:Nat):Int)>0:=gC.mpr h0;by_cases oP:(k:Int)<((cells.map V.int).length:Nat)
 ·have gf:=gC.mp oP
  refine BU oP (go (.dict D rfl (aF rfl) (.seq .aa lc (dR gf) ?_)));rw [List.getElem_map];exact .mod hm fin
 ·have l:∀{a:Nat},a<=100000->((a:Nat):Int).natAbs<2^31:=λh=>az h (ao rfl)
  have Ya:k<=10000:=ay (aY ..) hk;exact BV oP (sk (go (.mul (l (a:=7) (ah rfl)) (.mul (l (a:=7*k) (ay (eQ 7 Ya) (ah rfl))) (.mul (l (a:=4) (ah rfl)) (.add (.add (.mod (by decide) (.mod hm fin)))))))))
theorem PS (hc:cells.length<=60) (hK:K≠ []) (Yp:K.length<=9) (hk:k+(j+1)<=10000) (q:∀{x k':Nat},x∈K->k'+j<=10000->Q (Nd.var x).v (fs σ fd cells k')):(KN (n+2)).fn 31 [.ref fd,kV K] (fs σ fd cells k) Q:=by
 have hl:(K.map V.str).length<lim:=by rw [b0];exact az Yp (ao rfl)
 refine dk rfl rfl (go (.seq .aa hl ?_));rw [b0];exact ml hc (List.length_pos_iff.mpr hK) hk λ{r k'} hr gf=> .seq .aa hl (by refine a6 (fc) (a6 (dR hr) ?_);rfl) (b4 hO (q (List.getElem_mem hr) gf))
end
section
variable{K:CH} {ρ:Env} {σ:St} {i j:Int} {b r:aH} {Q:Option V->Env->St->Prop} {x:Nat}
theorem dH (hx:ρ.lookup x=some (.int j)) (h:decide (j=i)=false) (q:r.run K ρ σ Q):(aH.cons (.ite (.cmp .Eq (.var x) (.lit (.int i))) b .nil) r).run K ρ σ Q:=go (vr hx (gM eB (kr (tL h)) (sk q)))
theorem ni (hx:ρ.lookup x=some (.int i)) (q:b.run K ρ σ (sq r.run K Q)):(aH.cons (.ite (.cmp .Eq (.var x) (.lit (.int i))) b .nil) r).run K ρ σ Q:=go (vr hx (hW eB rfl q))
end
noncomputable abbrev qA:ME:= .bq 31 (.cons (.var 14) (.cons (.var 28) .nil))
noncomputable abbrev Jz:ME:= .tup (.cons (.lit (.str 30)) (.cons (.lit (.int 1)) .nil))
noncomputable abbrev W7 (x4:aH):aH:=(.cons (.ite (.cmp .Eq (.var 22) (.lit (.int 0))) (.cons (.ret (.tup (.cons (.lit (.str 30)) (.cons (.lit (.int 0)) .nil)))) .nil) .nil) (.cons (.ite (.cmp .Eq (.var 22) (.lit (.int 1))) (.cons (.ret qA) .nil) .nil) (.cons (.ite (.cmp .Eq (.var 22) (.lit (.int 2))) (.cons (.ret (.tup (.cons (.lit (.str 32)) (.cons qA (.cons Jz .nil))))) .nil) .nil) x4)))
noncomputable abbrev W9 (x5:aH):aH:=(.cons (.ite (.cmp .Eq (.var 22) (.lit (.int 0))) (.cons (.ret (.tup (.cons (.lit (.str 40)) (.cons qA (.cons yi .nil))))) .nil) .nil) (.cons (.ite (.cmp .Eq (.var 22) (.lit (.int 1))) (.cons (.ret (.tup (.cons (.lit (.str 41)) (.cons yi .nil)))) .nil) .nil) (.cons (.ite (.cmp .Eq (.var 22) (.lit (.int 2))) (.cons (.ret (.tup (.cons (.lit (.str 42)) (.cons qA (.cons qA .nil))))) .nil) .nil) (.cons (.ite (.cmp .Eq (.var 22) (.lit (.int 3))) (.cons (.ret (.tup (.cons (.lit (.str 40)) (.cons (.tup (.cons (.lit (.str 43)) (.cons qA (.cons qA .nil)))) (.cons Jz .nil))))) .nil) .nil) x5))))
structure Dr (cells:List Int) (K:List Nat) (i:Nat):Prop where
 hc:cells.length<=60
 ne:K≠ []
 l:K.length<=i
 s:∀{x},x∈K->x<4
section
variable{σ:St} {fd q:Addr} {cells:List Int} {k k' j i n m r p:Nat} {K:List Nat} {Q:V->St->Prop} {d:V} {x4:aH} {E G:Nd->Prop}
theorem Dr.less (h:Dr cells K i) (l:i<=j):Dr cells K j:=⟨h.hc,h.ne,ay h.l l,h.s⟩
theorem Dr.nm (h:Dr cells K i) (l:i<=9) (hk:k+(j+1)<=10000) (q:∀{x k':Nat},x∈K->k'+j<=10000->Q (Nd.var x).v (fs σ fd cells k')):(KN (n+2)).fn 31 [.ref fd,kV K] (fs σ fd cells k) Q:=PS h.hc h.ne (ay h.l l) hk q
theorem EV (D:Dr cells K 9) (hr:r<3) (hk:k+(j+1)<=10000) (q:∀{nd k'},DA K nd->k'+j<=10000->Q nd.v (fs σ fd cells k')):(W7 x4).run (KN (n+2)) [(22, .int r),(14, .ref fd),(28,kV K),(29,d)] (fs σ fd cells k) (rt Q (fs σ fd cells m)):=by
 obtain rfl|rfl|rfl:r=0\/r=1\/r=2:=yt hr
 ·exact ni rfl (go (b4 hO (q (nd:= .r0) (bE.r0.le (ah rfl) (ah rfl) (ah rfl) (ah rfl)) (qL hk))))
 ·exact dH rfl rfl (ni rfl (go (D.nm (bC _) hk λ{x k'} hx h=>b4 hO (q (nd:= .var x) ((bE.var (D.s hx) hx).le (ah rfl) (ah rfl) (ah rfl) (ah rfl)) h))))
 ·exact dH rfl rfl (dH rfl rfl (ni rfl (go (D.nm (bC _) hk λ{x k'} hx h=>b4 hO (q (nd:= .jn x) (bE.jn (D.s hx) hx) h)))))
theorem r8 (D:Dr cells K 9) (hk:k+(j+2)<=10000) (q:∀{nd k'},DA K nd->k'+j<=10000->Q nd.v (fs σ fd cells k')):(KN (n+3)).fn 33 [.ref fd,kV K, .int 0] (fs σ fd cells k) Q:=
 dk rfl rfl (go (qj (by decide) (ml (m:=3) (j:=j+1) D.hc (by decide) hk λhr h=>EV D hr h q)))
theorem Fq (D:Dr cells K 9) (hm:1<=m) (hs:∀{k j Q},k+(j+m)<=10000->(∀{nd k'},E nd->k'+j<=10000->Q nd.v (fs σ fd cells k'))->(KN (n+2)).fn 33 [.ref fd,kV K,d] (fs σ fd cells k) Q)
  (g1:∀{x a},x∈K->E a->G (.c8 x a)) (g2:∀{a},E a->G (.some a)) (g3:∀{x y},x∈K->y∈K->G (.same x y)) (g4:∀{x y},x∈K->y∈K->G (.pr x y)) (hr:r<4) (hk:k+(j+m+1)<=10000) (q:∀{nd k'},G nd->k'+j<=10000->Q nd.v (fs σ fd cells k')):
  (W9 x4).run (KN (n+2)) [(22, .int r),(14, .ref fd),(28,kV K),(29,d)] (fs σ fd cells k) (rt Q (fs σ fd cells p)):=by
 have h2:k+(j+1+1)<=10000:=ay (aU (bG (aU hm _) 1) _) hk;obtain rfl|rfl|rfl|rfl:r=0\/r=1\/r=2\/r=3:=XK hr
 ·exact ni rfl (go (D.nm (j:=j+m) (bC _) hk λ{x k'} hx h=>hs h λ{a k'} ha h=>b4 hO (q (nd:= .c8 x a) (g1 hx ha) h)))
 ·exact dH rfl rfl (ni rfl (go (hs (qL (i:=1) hk) λ{a k'} ha h=>b4 hO (q (nd:= .some a) (g2 ha) h))))
 ·exact dH rfl rfl (dH rfl rfl (ni rfl (go (D.nm (bC _) h2 λ{x k'} hx h=>D.nm (bC _) h λ{y k'} hy h=>b4 hO (q (nd:= .same x y) (g3 hx hy) h)))))
 ·exact dH rfl rfl (dH rfl rfl (dH rfl rfl (ni rfl (go (D.nm (bC _) h2 λ{x k'} hx h=>D.nm (bC _) h λ{y k'} hy h=>b4 hO (q (nd:= .pr x y) (g4 hx hy) h))))))
theorem w2 (D:Dr cells K 9) (hk:k+(j+4)<=10000) (q:∀{nd k'},Kx K nd->k'+j<=10000->Q nd.v (fs σ fd cells k')):(KN (n+4)).fn 36 [.ref fd,kV K, .int 0] (fs σ fd cells k) Q:=
 dk rfl rfl (go (qj (by decide) (ml (m:=4) (j:=j+2+1) D.hc (by decide) hk λhr h=>Fq (E:=DA K) (G:=Kx K) (m:=2) D (by decide) (r8 D) (λhx ha=>(bE.c8 (D.s hx) hx ha).le (ah rfl) (ah rfl) (ah rfl) (ah rfl)) (λha=>ha.some.le (ah rfl) (ah rfl) (ah rfl) (ah rfl)) (λhx hy=>(bE.same (D.s hx) hx (D.s hy) hy).le (ah rfl) (ah rfl) (ah rfl) (ah rfl)) (λhx hy=>(bE.pr (D.s hx) hx (D.s hy) hy).le (ah rfl) (ah rfl) (ah rfl) (ah rfl)) hr h q)))
theorem Hb (l:K.length<=9) (q:S (kV (K++ [i])) σ):fH σ S .Add (kV K) (.aa [.str i]):=by
 unfold kV at q;rw [iR] at q;exact .lst .aa .aa (by rw [b0];exact az (fe l) (ao rfl)) q
theorem Dr.add (D:Dr cells K i) (hx:m<4):Dr cells (K++ [m]) (i+1):=⟨D.hc,List.append_ne_nil_of_left_ne_nil D.ne _,by exact a6 aP (fe D.l),λh=>(cM.mp h).elim D.s λh=>b3.mp h▸hx⟩
theorem Ed (D:Dr cells K 8) (hk:k+(j+7)<=10000) (q:∀{nd k'},ie K nd->k'+j<=10000->Q nd.v (fs σ fd cells k')):(KN (n+5)).fn 33 [.ref fd,kV K, .int 1] (fs σ fd cells k) Q:=by
 have D9:=D.less (ah rfl:8<=9);refine dk rfl rfl (go (C5 (by decide) (ml (m:=6) (j:=j+6) D.hc (by decide) hk λ{r k'} hr h=> ?_)));by_cases h3:r<3
 ·exact EV D9 h3 (qL (i:=5) h) λh=>q (h.le (ah rfl) (ah rfl) (ah rfl) (ah rfl))
 obtain rfl|rfl|rfl:r=3\/r=4\/r=5:=Yt hr h3
 ·exact dH rfl rfl (dH rfl rfl (dH rfl rfl (dH rfl rfl (go (r8 (j:=j+2) D9 (qL (i:=2) h) λ{a k'} ha h=>go λp hp=>eS hp (.sub (.seq (i:=0) .aa (ao rfl) rfl (r8 D9 h λ{b k'} hb h=>b4 hO (q (nd:= .un a b) ((ha.un hb).le (ah rfl) (ah rfl) (ah rfl) (ah rfl)) h)))))))))
 ·exact dH rfl rfl (dH rfl rfl (dH rfl rfl (dH rfl rfl (go (r8 (j:=j+2) D9 (qL (i:=2) h) λ{a k'} ha h=>go λp hp=>eS hp (.sub (.seq (i:=1) .aa (ao rfl) rfl (r8 D9 h λ{b k'} hb h=>b4 hO (q (nd:= .mi a b) ((ha.mi hb).le (ah rfl) (ah rfl) (ah rfl) (ah rfl)) h)))))))))
 ·exact dH rfl rfl (dH rfl rfl (dH rfl rfl (ni rfl (go (r8 (j:=j+4) D9 h λ{a k'} ha h=>go λp hp=>eS hp (Hb D9.l (w2 (D.add (by decide)) h λ{f k'} hf h=>b4 hO (q (nd:= .cp a f) ((ha.cp hf).le (ah rfl) (ah rfl) (ah rfl) (ah rfl)) h))))))))
theorem OB (D:Dr cells K 8) (hk:k+(j+9)<=10000) (q:∀{nd k'},kP K nd->k'+j<=10000->Q nd.v (fs σ fd cells k')):(KN (n+6)).fn 36 [.ref fd,kV K, .int 1] (fs σ fd cells k) Q:=by
 have D9:=D.less (ah rfl:8<=9);refine dk rfl rfl (go (C5 (by decide) (ml (m:=6) (j:=j+8) D.hc (by decide) hk λ{r k'} hr h=> ?_)));by_cases h4:r<4
 ·exact Fq (E:=ie K) (G:=kP K) (m:=7) D9 (by decide) (Ed D) (λhx ha=>(bE.c8 (D.s hx) hx ha).le (ah rfl) (ah rfl) (ah rfl) (ah rfl)) (λha=>ha.some.le (ah rfl) (ah rfl) (ah rfl) (ah rfl)) (λhx hy=>(bE.same (D.s hx) hx (D.s hy) hy).le (ah rfl) (ah rfl) (ah rfl) (ah rfl)) (λhx hy=>(bE.pr (D.s hx) hx (D.s hy) hy).le (ah rfl) (ah rfl) (ah rfl) (ah rfl)) h4 h q
 obtain rfl|rfl:r=4\/r=5:=Ys hr h4
 ·exact dH rfl rfl (dH rfl rfl (dH rfl rfl (dH rfl rfl (ni rfl (go (w2 D9 (qL (i:=4) h) λ{f k'} hf h=>b4 hO (q (nd:= .not f) (hf.not.le (ah rfl) (ah rfl) (ah rfl) (ah rfl)) h)))))))
 ·exact dH rfl rfl (dH rfl rfl (dH rfl rfl (dH rfl rfl (dH rfl rfl (go (w2 (j:=j+4) D9 h λ{f k'} hf h=>w2 D9 h λ{g k'} hg h=>b4 hO (q (nd:= .and f g) ((hf.and hg).le (ah rfl) (ah rfl) (ah rfl) (ah rfl)) h)))))))
end
section
variable{σ:St} {fd:Addr} {cells:List Int} {k k' j i n m x y:Nat} {K:List Nat} {ds:List V} {iv:V} {Q:V->St->Prop} {kk:Env->St->Prop} {R:Option V->Env->St->Prop}
theorem Aq (D:Dr cells K 8) (oS:ds.length<=5) (hk:k+(j+8)<=10000)
  (q:∀{x nd k'},(x=1\/x=2)->ie K nd->k'+j<=10000->kk [(14, .ref fd),(59, .tup (ds++ [e6 x nd])),(28,kV (if x∈K then K else K++ [x]))] (fs σ fd cells k')):
  Hw.run (KN (n+5)) [(56,iv),(14, .ref fd),(59, .tup ds),(28,kV K)] (fs σ fd cells k) (jz [14,59,28] kk R):=by
 refine go λp hp=>eS hp (ml (m:=2) (j:=j+7) D.hc (by decide) hk λ{r k'} hr h=> ?_);obtain⟨x,hx,Wx⟩:∃x,(x=1\/x=2)/\ [V.str 1, .str 2][r]? =some (.str x):=by
  obtain rfl|rfl:r=0\/r=1:=v8 hr
  ·exact⟨1, .inl rfl,rfl⟩
  ·exact⟨2, .inr rfl,rfl⟩
 refine .seq .aa (ao rfl) Wx (go (Ed D h λ{nd k'} th h=> .tup (az (fe oS) (ao rfl)) (go (.vc .aa (λy hy=> ?_) ?_))))
 ·obtain⟨z,_,rfl⟩:=bB.mp hy
  exact .str
 ·have e:decide (V.str x∈K.map V.str)=decide (x∈K):=fA.mpr ⟨λm=>by obtain⟨y,hy,e⟩:=bB.mp m;exact V.str.inj e▸hy,λm=>bB.mpr ⟨x,m,rfl⟩⟩
  refine a6 e ?_;have q:=q hx th h;by_cases hm:x∈K
  ·refine a6 (bQ hm) ?_
   rw [aF hm] at q;exact q
  ·refine a6 (dD hm) ?_
   rw [aB hm] at q;exact λp2 jB=>eS jB (Hb (ay D.l (ah rfl)) q)
theorem JA (h:x=1\/x=2):x∉ [3]:=λm=>by rw [b3.mp m] at h;exact absurd h (by decide)
theorem kH (h:x=1\/x=2):x<4:=by obtain rfl|rfl:=h<;>decide
theorem D3 (hc:cells.length<=60):Dr cells [3] 1:=⟨hc,by decide,bC _,λm=>by refine a6 (b3.mp m) ?_;decide⟩
theorem OH (hc:cells.length<=60) (hk:k+(j+17)<=10000)
  (q1:∀{x n1 k'},(x=1\/x=2)->ie [3] n1->k'+j<=10000->Q (.tup [.tup [e6 x n1],kV [3,x]]) (fs σ fd cells k'))
  (q2:∀{x y n1 n2 k'},(x=1\/x=2)->(y=1\/y=2)->ie [3] n1->ie [3,x] n2->k'+j<=10000->Q (.tup [.tup [e6 x n1,e6 y n2],kV (if y∈ [3,x] then [3,x] else [3,x]++ [y])]) (fs σ fd cells k')):
  (KN (n+6)).fn 87 [.ref fd] (fs σ fd cells k) Q:=by
 have D:=D3 hc;refine dk rfl rfl (go λp hp=>eS hp (.mk rfl (go (ml (m:=2) (j:=j+16) hc (by decide) hk λ{r k'} hr h=> .add (.one ?_)))));obtain rfl|rfl:r=0\/r=1:=v8 hr
 ·show g_ _ (V.dc 0 1) _ _ _
  exact ⟨mG,mG,f1 (Aq (K:= [3]) (ds:= []) (j:=j) (D.less (ah rfl)) (ah rfl) (qL (j:=j+8) (i:=8) h) λ{x n1 k'} hx h1 h=>⟨mG,a6 (aB (JA hx)) (go (b4 hO (q1 hx h1 h)))⟩)⟩
 ·show g_ _ (V.dc 0 2) _ _ _
  exact ⟨eH,eH,f1 (Aq (K:= [3]) (ds:= []) (j:=j+8) (D.less (ah rfl)) (ah rfl) h λ{x n1 k'} hx h1 h=>⟨eH,f1 (a6 (aB (JA hx)) (Aq (K:= [3,x]) (j:=j) ((D.add (kH hx)).less (ah rfl)) (ah rfl) h λ{y n2 k'} hy h2 h=>⟨eH,go (b4 hO (q2 hx hy h1 h2 h))⟩))⟩)⟩
end
noncomputable def wl (σ:St) (wd:Addr) (l:Nat):St:=upd σ wd (.dict [.str 24] [.int l])
noncomputable def jR (σ:St) (wd p q:Addr) (l:Nat) (S D:List V):St:=upd (upd (wl σ wd l) p (.list S)) q (.list D)
section
variable{σ:St} {fd wd p q a b:Addr} {cells:List Int} {k k' j l n:Nat} {S D S' D' xs ys:List V} {Q:Env->St->Prop} {R:Option V->Env->St->Prop} {T:V->St->Prop} {mo m':MO} {y:V}
theorem B4 (h:a≠b):del (upd σ a mo) b=upd (del σ b) a mo:=eR λc=>by
 by_cases e:c=b
 ·exact(aF e).trans ((uN λq=>h (q.symm.trans e)).trans (aF e)).symm
 ·exact(aB e).trans (ite_congr rfl (λzz=>rfl) λzz=>(aB e).symm)
theorem q8 (h:a≠fd):upd (fs σ fd cells k) a mo=fs (upd σ a mo) fd cells k:=eF (aL h)
theorem xj (h:S.Sublist ys):S.Sublist (y::ys):=h.cons y
theorem WR {K:CH} {ρ:Env} {Q:Bool->St->Prop} (q:Q true σ):yG .And dw.nil K ρ Q true σ:=q
theorem Oi (hc:cells.length<=60) (fw:fd≠wd) (fp:fd≠p) (fq:fd≠q) (wp:wd≠p) (wq:wd≠q) (pq:p≠q) (nd:ys.Nodup) (hl:S.length+ys.length<lim) (hd:D.length+ys.length<lim) (hk:k+(j+ys.length)<=10000)
  (fin:∀{S' D' l' k'},S'.Sublist ys->D'.Sublist ys->(S'++D').Nodup->l'+D'.length=l->k'+j<=10000->Q [(14, .ref fd),(23, .ref wd),(19, .ref p),(20, .ref q)] (fs (jR σ wd p q l' (S++S') (D++D')) fd cells k')):
  dP (eT (hV (.one 25) Gp [14,23,19,20] (KN (n+1)) R) (.aa xs) xs) ys (fs (jR σ wd p q l S D) fd cells k) [(14, .ref fd),(23, .ref wd),(19, .ref p),(20, .ref q)] (eX (.aa xs) xs Q):=by
 induction ys generalizing S D l k with
 |nil=>exact⟨.aa,by have:=fin (S':= []) (D':= []) (l':=l) (.refl _) (.refl _) cY rfl hk;rwa [d6,d6] at this⟩
 |cons y ys ih=>
  have ny:=(cG.mp nd).1;have ih:=λ{S D l k}=> @ih k l S D (cG.mp nd).2;refine⟨.aa,f1 (go (ml (m:=3) (j:=j+ys.length) hc (by decide) hk λ{r k'} hr h=> ?_))⟩;have aw:fs (jR σ wd p q l S D) fd cells k' wd=some (.dict [.str 24] [.int l]):=(uN (aL fw)).trans ((uN wq).trans ((uN wp).trans (uS ..)));have ap:fs (jR σ wd p q l S D) fd cells k' p=some (.list S):=(uN (aL fp)).trans ((uN pq).trans (uS ..));have aq:∀{l},fs (jR σ wd p q l S D) fd cells k' q=some (.list D):=(uN (aL fq)).trans (uS ..);have skip:=ih (S:=S) (D:=D) (l:=l) (k:=k') (iP hl) (iP hd) h λhS hD hn hl hk=>fin (xj hS) (xj hD) hn hl hk;have l1:∀{L:List V},L.length+(ys.length+1)<lim->(L++ [y]).length+ys.length<lim:=λh=>by refine a6 aP (a6 m4 ?_);rw [bH,c0 1];exact h
  have l0:∀{L:List V},L.length+(ys.length+1)<lim->L.length<lim:=λh=>az (aY ..) h;obtain rfl|rfl|rfl:r=0\/r=1\/r=2:=yt hr
  ·exact go (gM eB (kr (by decide)) (go (gM eB (kr (by decide)) (sk skip))))
  ·refine go (gM eB (kr (by decide)) (go (hW eB rfl (go ⟨⟨.ref ap⟩, .mk ap (l0 hl) ?_⟩))))
   refine a6 (q8 (aL fp)) ?_;rewrite [jR];refine a6 (eF (aL pq)) ?_;rw [eo];refine ih (S:=S++ [y]) (D:=D) (l1 hl) (iP hd) h λ{S' D' l' XQ} hS hD hn hl hk=> ?_;rw [bP];exact fin (hS.cons_cons y) (xj hD) (cG.mpr ⟨λm=>ny ((cM.mp m).elim (hS.subset ·) (hD.subset ·)),hn⟩) hl hk
  ·refine go (hW eB rfl (.dict (.ref aw) rfl (aF rfl) ?_))
   induction l with
   |zero=>exact qj (by decide) (go (gM eB (kr (by decide)) (sk skip)))
   |succ l=>
    refine C5 (gC.mpr (m8 l)) (WR (go (eV.dict (.ref aw) rfl (aF rfl) (fH.sub (ki aw rfl (ao rfl) (mo:= .dict [.str 24] [.int l]) ?_ ?_)))))
    ·refine a6 (iA aM) ?_
     exact aE (MO.dict _) ((aF rfl).trans (aE (λi=> [V.int i]) (Int.add_sub_cancel (l:Int) 1)))
    ·have e1:upd (fs (jR σ wd p q (l+1) S D) fd cells k') wd (.dict [.str 24] [.int l])=fs (jR σ wd p q l S D) fd cells k':=by
      refine a6 (q8 (aL fw)) ?_;rewrite [jR];refine a6 (eF (aL wq)) (a6 (eF (aL wp)) ?_);rw [wl,eo];rfl
     refine og e1 ⟨⟨.ref aq⟩, .mk aq (l0 hd) (a6 (q8 (aL fq)) ?_)⟩;rw [jR,eo];refine ih (S:=S) (D:=D++ [y]) (l:=l) (iP hl) (l1 hd) h λ{S' D' l' XQ} hS hD hn hl hk=> ?_;rw [bP];refine fin (xj hS) (hD.cons_cons y) (List.perm_middle.nodup_iff.mpr (cG.mpr ⟨λm=>ny ((cM.mp m).elim (hS.subset ·) (hD.subset ·)),hn⟩)) (aE (· +1) hl) hk
theorem F9 (hc:cells.length<=60) (fw:fd≠wd) (nd:xs.Nodup) (hx:xs.length<=9) (hk:k+(j+xs.length)<=10000)
  (fin:∀{S D l' k'},S.Sublist xs->D.Sublist xs->(S++D).Nodup->l'+D.length=l->k'+j<=10000->T (.tup [.aa S, .aa D]) (fs (wl σ wd l') fd cells k')):
  (KN (n+2)).fn 81 [.ref fd, .aa xs, .ref wd] (fs (wl σ wd l) fd cells k) T:=by
 refine dk rfl rfl (go λp hp q hq=> .mk rfl (go ?_));have af:∀{l k},fs (wl σ wd l) fd cells k fd=some (.dict [.str 17, .str 15] [.aa (cells.map V.int), .int k]):=rZ;have aw:∀{l k},fs (wl σ wd l) fd cells k wd=some (.dict [.str 24] [.int l]):=(uN (aL fw)).trans (uS ..);have fp:=b8 (af (l:=l) (k:=k)) hp;have wp:=b8 (aw (l:=l) (k:=k)) hp;have pq:p≠q:=b8 (uS ..) hq;have hq:=(uN (aL pq)).symm.trans hq;have fq:=b8 (af (l:=l) (k:=k)) hq;have wq:=b8 (aw (l:=l) (k:=k)) hq;have p0:∀{l},wl σ wd l p=none:=(uN (aL wp)).trans ((uN (aL wp)).symm.trans ((uN (aL fp)).symm.trans hp));have q0:∀{l},wl σ wd l q=none:=(uN (aL wq)).trans ((uN (aL wq)).symm.trans ((uN (aL fq)).symm.trans hq));have l9:xs.length<lim:=az hx (ao rfl);refine a6 (q8 (aL fp)) (a6 (q8 (aL fq)) (.mk .aa (Oi (S:= []) (D:= []) hc fw fp fq wp wq pq nd ((di _).symm▸l9) ((di _).symm▸l9) hk λ{S D l' k'} hS hD hn hl hk=>go (.list ((uN (aL fp)).trans ((uN pq).trans (uS ..))) ?_))));have e1:del (fs (jR σ wd p q l' ([]++S) ([]++D)) fd cells k') p=fs (upd (wl σ wd l') q (.list D)) fd cells k':=by
  rewrite [fs];refine a6 (B4 fp) ?_;rewrite [jR];refine a6 (B4 (aL pq)) (a6 (mA p0) ?_);rfl
 refine a6 e1 (.list ((uN (aL fq)).trans (uS ..)) ?_);have e4:del (fs (upd (wl σ wd l') q (.list D)) fd cells k') q=fs (wl σ wd l') fd cells k':=by
  rewrite [fs];refine a6 (B4 fq) (a6 (mA q0) ?_);rfl
 show Iy _ _ _ _ (.aa D) (del (fs (upd (wl σ wd l') q (.list D)) fd cells k') q);refine a6 e4 (b4 ?_ (fin hS hD hn hl hk));have e2:back (upd (wl σ wd l') fd (.dict [.str 17, .str 15] [.aa (cells.map V.int), .int k'])) (fs (wl σ wd l) fd cells k)=upd (back (wl σ wd l') (fs (wl σ wd l) fd cells k)) fd (.dict [.str 17, .str 15] [.aa (cells.map V.int), .int k']):=k9 (a6 af cy);have e3:back (upd σ wd (.dict [.str 24] [.int l'])) (fs (wl σ wd l) fd cells k)=upd (back σ (fs (wl σ wd l) fd cells k)) wd (.dict [.str 24] [.int l']):=k9 (a6 aw cy);refine e2.trans ?_;show upd (back (upd σ wd (.dict [.str 24] [.int l'])) (fs (wl σ wd l) fd cells k)) fd _=_;refine a6 e3 (eR λb=> ?_);by_cases e4:b=fd
 ·exact a6 e4 ((uS ..).trans (uS ..).symm)
 ·refine(uN e4).trans (Eq.trans ?_ (uN e4).symm)
  by_cases e5:b=wd
  ·exact a6 e5 ((uS ..).trans (uS ..).symm)
  ·refine(uN e5).trans (Eq.trans ?_ (uN e5).symm)
   rw [kb,show fs (wl σ wd l) fd cells k b=σ b from(uN e4).trans (uN e5)];cases h:σ b<;>rfl
end
structure Ag (a8 σ:St):Prop where
 at_:∀{c},σ c≠none->a8 c=σ c
section
variable{σ a8 s τ:St} {p a b C dx c:Addr} {mo mi:MO} {n m:Nat} {as:List (Nat×V)} {v:V} {S:St->Prop} {Q:V->St->Prop}
theorem Ag.refl (σ:St):Ag σ σ:=⟨λzz=>rfl⟩
theorem Ag.upd (h:Ag a8 σ) (hp:σ p=none):Ag (Internal.upd a8 p mo) σ:=⟨λ{c} hc=>(uN λe:c=p=>hc (e▸hp)).trans (h.at_ hc)⟩
theorem Ag.trans (h:Ag τ a8) (g:Ag a8 σ):Ag τ σ:=⟨λhc=>(h.at_ (a6 (g.at_ hc) hc)).trans (g.at_ hc)⟩
theorem Ag.none (h:Ag a8 σ) (hp:a8 p=none):σ p=none:=Classical.byContradiction λn=>n ((h.at_ n).symm.trans hp)
theorem Ag.get (h:Ag a8 σ) (e:σ c=some mo):a8 c=some mo:=(h.at_ (a6 e cy)).trans e
theorem Ag.ins (h:Ag a8 σ) (e:bX σ a C as):bX a8 a C as:=e.casesOn λe=> .mk (h.get e)
theorem iy (h1:tb.i0 C m=true) (h3:Nat.ble (as.length+1) 100=true) (q:S (upd s a (.inst C dx (jQ m v as)))):uw (KN n).i0 (upd s a (.inst C dx as)) S m v (.ref a):=wo (uS ..) h1 h3 (by rw [eo];exact q)
theorem qa (q:∀{p},a≠p->s p=none->Q (.ref p) (upd (upd s p mo) a mi)):∀p,upd s a mi p=none->Q (.ref p) (upd (upd s a mi) p mo):=λp hp=>by
 have n:=b8 (uS ..) hp;exact a6 (eF n) (q n ((uN (aL n)).symm.trans hp))
theorem NI (q:∀{a8 b},Ag a8 σ->Q (.ref b) a8):(KN (n+1)).fn 151 [.ref c] σ Q:=
 nZ rfl rfl rfl λa dx zz ha hd=>go (iy rfl rfl (o7 (q (((Ag.refl σ).upd hd).upd ha))))
theorem Mz (q:∀{a8 b},Ag a8 σ->σ b=none->bX a8 b 365 [(64, .ref c),(170,v)]->Q (.ref b) a8):(KN (n+1)).fn 149 [.ref c,v] σ Q:=
 nZ rfl rfl rfl λa dx zz ha hd=>go (iy rfl rfl (go (iy rfl rfl (o7 (q (((Ag.refl σ).upd hd).upd ha) ha (.mk (uS ..)))))))
theorem Oa (q:∀{a8 b kd},Ag a8 σ->σ b=none->σ kd=none->b≠kd->bX a8 b 404 [(28, .ref kd)]->a8 kd=some (.dict [] [])->Q (.ref b) a8):(KN (n+1)).fn 152 [] σ Q:=
 nZ rfl rfl rfl λa dx zz ha hd=>go (.mk cY rfl (qa λ{kd} n hk=>have g:=(Ag.refl σ).upd (mo:= .cx a) hd;have k0:=g.none hk
  iy rfl rfl (o7 (q ((g.upd k0).upd ha) ha k0 n (.mk (uS ..)) ((uN (aL n)).trans (uS ..))))))
theorem Qn (q:∀{τ b dx},Ag τ σ->σ b=none->Q (.ref b) (es ws τ b dx 0)):(KN (n+1)).fn 76 [.int ws.n, .aa [C7 ws,xX ws]] σ Q:=
 nZ rfl rfl rfl λa dx zz ha hd=>go (iy rfl rfl (go (iy rfl rfl (go (iy rfl rfl (o7 (q ((Ag.refl σ).upd hd) ha)))))))
noncomputable def q9:aJ:=⟨[.str 4, .str 130], [.tup [], .tup []], [], []⟩
theorem N0 (q:∀{a8 c k p d},Ag a8 σ->σ c=none->σ k=none->σ p=none->σ d=none->dz a8 c k p d q9->Q (.ref c) a8):(KN (n+1)).fn 88 [] σ Q:=
 nZ rfl rfl rfl λa dx zz ha hd=>have g:=(Ag.refl σ).upd (mo:= .cx a) hd
  go (qa λ{k} ak hk=>have k0:=g.none hk;iy rfl rfl (go (qa λ{p} ap hp=>have p0:=(g.upd k0).none hp;have kp:=b8 (uS ..) hp
  iy rfl rfl (go (.mk cY rfl (qa λ{d} ad hd=>have pd:=b8 (uS ..) hd;have kd:=b8 ((uN kp).trans (uS ..)) hd;have d0:=((g.upd k0).upd p0).none hd
  iy rfl rfl (o7 (q ((((g.upd k0).upd p0).upd d0).upd ha) ha k0 p0 d0 ⟨.mk (uS ..),(uN (aL ak)).trans ((uN kd).trans ((uN kp).trans (uS ..))),(uN (aL ap)).trans ((uN pd).trans (uS ..)),(uN (aL ad)).trans (uS ..),kp⟩))))))))
theorem NG (q:∀{a8 b bl bn},Ag a8 σ->σ b=none->σ bl=none->σ bn=none->bX a8 b 914 [(98, .ref u),(84, .ref bl),(97, .ref bn)]->a8 bl=some (.list [])->a8 bn=some (.dict [] [])->Q (.ref b) a8):(KN (n+1)).fn 82 [.ref u] σ Q:=
 nZ rfl rfl rfl λa dx zz ha hd=>have g:=(Ag.refl σ).upd (mo:= .cx a) hd
  go (iy rfl rfl (go (qa λ{p} ap hp=>have p0:=g.none hp
  iy rfl rfl (go (.mk cY rfl (qa λ{d} ad hd=>have pd:=b8 (uS ..) hd;have d0:=(g.upd p0).none hd
  iy rfl rfl (o7 (q (((g.upd p0).upd d0).upd ha) ha p0 d0 (.mk (uS ..)) ((uN (aL ap)).trans ((uN pd).trans (uS ..))) ((uN (aL ad)).trans (uS ..))))))))))
end
theorem Ak {β:Type} {step:Step β} {c:V} {xs:List V} {σ:St} {b:β} {Q:β->St->Prop} (hx:Sq σ 2 c xs) (hs:∀{x k},x∈xs->k b σ->step x σ b k) (q:Q b σ):g_ step c σ b Q:=by
 have key:∀{ys},(∀{x},x∈ys->x∈xs)->dP (eT step c xs) ys σ b (eX c xs Q):=λ{ys}=>by
  induction ys with
  |nil=>exact λzz=>⟨hx,q⟩
  |cons y ys ih=>exact λm=>⟨hx,hs (m aM) (ih λh=>m (aQ _ h))⟩
 exact⟨hx,key id⟩
section
variable{σ τ:St} {a d dx u:Addr} {n:Nat} {ns xs ys:List Nat} {vs:List V} {w:V} {Q:V->St->Prop} {R:Option V->Env->St->Prop} {S:Env->St->Prop}
noncomputable def qw (τ:St) (a dx d:Addr) (ns xs:List Nat) (vs:List V):St:=upd (upd τ d (.dict (xs.map V.str) vs)) a (.inst 837 dx [(96, .tup (ns.map V.str)),(97, .ref d)])
theorem P4 (ad:a≠d) (nd:(xs++ys).Nodup) (hs:∀{x},x∈ys->x<180) (hv:xs.length=vs.length) (hl:xs.length+ys.length<lim) (fin:∀{xs vs},S [(95, .ref a)] (qw τ a dx d ns xs vs)):
  dP (eT (hV (.one 60) Gm [95] (KN n) R) (.tup (ns.map V.str)) (ns.map V.str)) (ys.map V.str) (qw τ a dx d ns xs vs) [(95, .ref a)] (eX (.tup (ns.map V.str)) (ns.map V.str) S):=by
 induction ys generalizing xs vs with
 |nil=>exact⟨.tup rfl,fin⟩
 |cons y ys ih=>
  have o:bX (qw τ a dx d ns xs vs) a 837 [(96, .tup (ns.map V.str)),(97, .ref d)]:= .mk (uS ..);have hd:qw τ a dx d ns xs vs d=some (.dict (xs.map V.str) vs):=(uN (aL ad)).trans (uS ..);have hy:V.str y∉xs.map V.str:=λm=>by
   obtain⟨z,hz,e⟩:=bB.mp m;exact(ja.mp nd).2.2 z hz y aM (V.str.inj e)
  have hk:aR 8 (.str y)=true:=p_ (hs aM);have l:(xs.map V.str).length<lim:=by rw [b0];exact az (aY ..) hl
  refine⟨.tup rfl,f1 (go (bu o rfl rfl (wY (.ref hd) hk hy (sk (go (bu o rfl rfl (.dict (.ref hd) l (bu o rfl rfl (ki hd hk l (mo:= .dict ((xs++ [y]).map V.str) (vs++ [.int (xs.map V.str).length])) ?_ ?_)))))))))⟩
  ·refine a6 (eG hy) (a6 (jH (by rw [b0];exact hv) hy) (a6 iR ?_));rfl
  ·have e:upd (qw τ a dx d ns xs vs) d (.dict ((xs++ [y]).map V.str) (vs++ [.int (xs.map V.str).length]))=qw τ a dx d ns (xs++ [y]) (vs++ [.int (xs.map V.str).length]):=by
    rewrite [qw];refine a6 (eF ad) ?_;rw [eo];rfl
   exact a6 e (ih (by rw [bP];exact nd) (λm=>hs (aQ _ m)) (by refine a6 aP (a6 aP (a6 hv ?_));rfl) (by refine a6 aP (a6 m4 ?_);rw [bH,c0 1];exact hl))
theorem Mm (nd:ns.Nodup) (hs:∀{x},x∈ns->x<180) (hl:ns.length<lim) (q:∀{a8 u w},Ag a8 σ->σ u=none->bX a8 u 837 [(96, .tup (ns.map V.str)),(97,w)]->Q (.ref u) a8):(KN (n+1)).fn 83 [.aa (ns.map V.str)] σ Q:=
 nZ rfl rfl rfl λa dx zz ha hd=>have g:=(Ag.refl σ).upd (mo:= .cx a) hd
  go (.mk .aa (by rw [b0];exact hl) (iy rfl rfl (go (.mk cY rfl (qa λ{d} ad hd=>have d0:=g.none hd
  iy rfl rfl (go (bu (.mk (uS ..)) rfl rfl (.mk (.tup rfl) (P4 (xs:= []) ad nd hs rfl ((di _).symm▸hl) λ{xs vs}=>o7 (q ((g.upd d0).upd ha) ha (.mk (uS ..))))))))))))
theorem Eb (hu:bX σ u 837 [(96, .tup vs),(97,w)]) (hl:vs.length<lim) (q:Q (.int vs.length) σ):(KN (n+1)).aZ 837 69 [.ref u] σ Q:=
 bf rfl rfl (go (bu hu rfl rfl (.seq (.tup rfl) hl (c4 q))))
end
inductive y5 (N ar:Nat):V->Prop
 |mk {l:List Nat} (h:l.length=ar) (lt:∀{a},a∈l->a<N):y5 N ar (.tup (l.map λ(a:Nat)=>V.int a))
structure RU (N ar:Nat) (U:List V):Prop extends UpU U where
 st:U.Pairwise qc
 row:∀{z},z∈U->y5 N ar z
 one:1<=ar
 WE:ar<=9
theorem Pt (h:N<=3):RU N 1 (aW N):=⟨mc h,List.pairwise_map.mpr (List.pairwise_lt_range.imp λh=> .one (gC.mpr h)),λm=>fW m (G:=y5 N 1) λ{a} ha=> .mk (l:= [a]) rfl λm=>b3.mp m▸ha,ah rfl,ah rfl⟩
theorem Pr (h:N<=3):RU N 2 (bS N):=by
 refine⟨ri h,List.pairwise_flatMap.mpr ⟨λa zz=>List.pairwise_map.mpr (List.pairwise_lt_range.imp λh=> .snd (gC.mpr h)),List.pairwise_lt_range.imp λh x hx y hy=> ?_⟩,λm=>jG m (G:=y5 N 2) λ{a b} ha hb=> .mk (l:= [a,b]) rfl λm=>(bz.mp m).elim (λe=>e▸ha) λm=>b3.mp m▸hb,ah rfl,ah rfl⟩;obtain⟨i,_,rfl⟩:=bB.mp hx;obtain⟨j,_,rfl⟩:=bB.mp hy;exact .fst (gC.mpr h)
structure fV (σ:St) (b u bl bn:Addr) (ns Ls ks vs:List V) (w:V):Prop where
 ob:bX σ b 914 [(98, .ref u),(84, .ref bl),(97, .ref bn)]
 un:bX σ u 837 [(96, .tup ns),(97,w)]
 hl:σ bl=some (.list Ls)
 hn:σ bn=some (.dict ks vs)
 kl:ks.length=Ls.length
 vl:ks.length=vs.length
section
variable{σ a8:St} {b u bl bn:Addr} {ns Ls ks vs xs U S T:List V} {w nm v:V} {n i x N ar:Nat} {Q:V->St->Prop}
theorem R9 {k:Nat} (h:k<1000):Sq σ 2 (.dc 1 k) ((List.range (k -1)).map λ(j:Nat)=>V.int ((j+1:Nat):Int)):=by
 have e:od (((k:Nat):Int) -1).toNat 1=(List.range (k -1)).map λ(j:Nat)=>V.int ((j+1:Nat):Int):=by
  rw [show(((k:Nat):Int) -1).toNat=k -1 from Int.toNat_sub k 1];exact(yU (i:=1)).trans (List.map_congr_left λj zz=>aE (λk:Nat=>V.int k) (c0 1 j))
 exact e▸ .dc rfl (by decide) (gB h (ao rfl))
theorem fV.to (h:fV σ b u bl bn ns Ls ks vs w) (e1:a8 b=σ b) (e2:a8 u=σ u) (e3:a8 bl=σ bl) (e4:a8 bn=σ bn):fV a8 b u bl bn ns Ls ks vs w:=⟨h.ob.to e1,h.un.to e2,e3.trans h.hl,e4.trans h.hn,h.kl,h.vl⟩
theorem fV.ag (h:fV σ b u bl bn ns Ls ks vs w) (g:Ag a8 σ):fV a8 b u bl bn ns Ls ks vs w:=⟨g.ins h.ob,g.ins h.un,g.get h.hl,g.get h.hn,h.kl,h.vl⟩
theorem EF (h:fV σ b u bl bn ns Ls ks vs w) (hi:Ls[i]? =some v) (hl:Ls.length<lim) (q:Q v σ):(KN (n+1)).aZ 914 144 [.ref b, .int i] σ Q:=bf rfl rfl (go (bu h.ob rfl rfl (.seq (.ref h.hl) hl hi (c4 q))))
theorem OL (h:fV σ b u bl bn ns Ls ks vs w) (hl:Ls.length<lim) (q:Q (.int Ls.length) σ):(KN (n+1)).aZ 914 69 [.ref b] σ Q:=bf rfl rfl (go (bu h.ob rfl rfl (.seq (.ref h.hl) hl (c4 q))))
theorem Wb {i j:Int} {R:Bool->St->Prop} (h:i<=j) (q:R true σ):cU σ R .LtE (.int i) (.int j):= .le (uI (R:=λb=>R b σ) h q)
theorem qx {K:CH} {ρ:Env} {ts:dw} {Q:Bool->St->Prop} (q:ts.run .Or K ρ σ Q):yG .Or ts K ρ Q false σ:=q
theorem v5 {K:CH} {ρ:Env} {Q:Bool->St->Prop} (q:Q false σ):yG .Or dw.nil K ρ Q false σ:=q
theorem EK (h:fV σ b u bl bn ns Ls ks vs w) (hN:ns.length=N) (tm:N<=3) (R:RU N ar U) (s:xs.Sublist U) (q:Q .none σ):(KN (n+2)).aZ 914 100 [.ref b,nm, .int ar, .tup xs] σ Q:=by
 have l9:xs.length<=9:=ay s.length_le R.d4;have lx:xs.length<lim:=az l9 (ao rfl);have st:=R.st.sublist s;refine bf rfl rfl (go (.tup (.mk (sk (go (Ak (.tup rfl) (λ{z k} mz hk=>f1 ?_) ?_))))))
 ·cases R.row (s.subset mz) with
  | @mk l hl lt=>
   refine go (.tup (.mk (qx (.seq (.tup rfl) (by rewrite [b0];exact a6 hl (az R.WE (ao rfl))) (iE eB (by rewrite [b0];exact a6 hl rfl) (v5 (sk (go (Ak (.tup rfl) (λ{v k2} mv Y9=>f1 ?_) hk)))))))));obtain⟨a,ma,rfl⟩:=bB.mp mv;exact go (.int (.mk (qx (.bool (.mk (qx (Wb (nE a) (bu h.ob rfl rfl (aV h.un rfl rfl (Eb h.un (hN▸az tm (ao rfl)) (BU (hN▸gC.mpr (lt ma)) (v5 (sk Y9)))))))))))))
 ·refine go (.seq (.tup rfl) lx (.two (Ak (R9 (az l9 (ao rfl))) (λ{v k} mv hk=>f1 ?_) (Ri (by rw [pD];exact q)))))
  obtain⟨j,mj,rfl⟩:=bB.mp mv;have lj:=dK.mp mj;have l1:j+1<xs.length:=Nat.add_lt_of_lt_sub lj;have l0:=iP l1;refine go (.sub ?_);rw [show(((j+1:Nat):Int) -1)=(j:Nat) from Int.add_sub_cancel (j:Int) 1];exact .seq (.tup rfl) lx (dR l0) (.seq (.tup rfl) lx (dR l1) (.row (List.pairwise_iff_getElem.mp st j (j+1) l0 l1 (tO _)) (sk hk)))
end
noncomputable abbrev su (x ar:Nat) (S T:List V):V:= .tup [.str x, .int ar, .tup S, .tup T]
section
variable{σ a8:St} {b u bl bn t ak:Addr} {ns Ls ks vs U S T A:List V} {w:V} {n x N ar:Nat} {Q:V->St->Prop} {as:List (Nat×V)}
theorem Tf (h:fV σ b u bl bn ns Ls ks vs w) (hN:ns.length=N) (tm:N<=3) (R:RU N ar U) (s:S.Sublist U) (t:T.Sublist U) (st:∀{z},z∈S->z∈T) (hx:x<180) (nw:V.str x∉ks) (hl:Ls.length<=5)
  (q:∀{a8},(∀{c},c≠bl->c≠bn->a8 c=σ c)->fV a8 b u bl bn ns (Ls++ [su x ar S T]) (ks++ [.str x]) (vs++ [.int Ls.length]) w->Q (.int Ls.length) a8):
  (KN (n+3)).aZ 914 85 [.ref b, .str x, .int ar, .tup S, .tup T] σ Q:=by
 have l9:∀{X:List V},X.Sublist U->X.length<lim:=λs=>az (ay s.length_le R.d4) (ao rfl);have ll:Ls.length<lim:=az hl (ao rfl);have hk:aR 8 (.str x)=true:=p_ hx;have n1:b≠bn:=h.ob.ne h.hn (λ_ h=>a_ h rfl);have n2:b≠bl:=h.ob.ne h.hl (λ_ h=>a_ h rfl);have n3:bl≠bn:=dC h.hl h.hn (λh=>a_ h rfl);refine bf rfl rfl (go (bu h.ob rfl rfl (wY (.ref h.hn) hk nw (sk (go (.int (.mk (qx (.bool (.mk (qx (BV (Int.not_lt.mpr (Int.ofNat_le.mpr R.one)) (v5 (sk (go ?_)))))))))))))));refine aV h.ob rfl rfl (EK h hN tm R s (go (aV h.ob rfl rfl (EK h hN tm R t (go (yP R.toUOk (λm=>s.subset m) (λm=>t.subset m) (l9 s) (l9 t) (.mk ?_)))))));refine a6 (show(S.all λz=>decide (z∈T))=true from cQ.mpr λz m=>bQ (st m)) ?_;refine sk (go (bu h.ob rfl rfl (.seq (.ref h.hl) ll (bu h.ob rfl rfl (ki (mo:= .dict (ks++ [.str x]) (vs++ [.int Ls.length])) h.hn hk (h.kl▸ll) (by exact a6 (eG nw) (a6 (jH h.vl nw) rfl)) (go ?_))))));have o1:=h.ob.to (τ:=upd σ bn (.dict (ks++ [.str x]) (vs++ [.int Ls.length]))) (uN n1);have oQ:=(uN (σ:=σ) (mo:= .dict (ks++ [.str x]) (vs++ [.int Ls.length])) n3).trans h.hl;refine bu o1 rfl rfl ⟨⟨.ref oQ⟩, .mk oQ ll (go ?_)⟩;have o2:=o1.to (τ:=upd (upd σ bn (.dict (ks++ [.str x]) (vs++ [.int Ls.length]))) bl (.list (Ls++ [su x ar S T]))) (uN n2);have e1:back (upd (upd σ bn (.dict (ks++ [.str x]) (vs++ [.int Ls.length]))) bl (.list (Ls++ [su x ar S T]))) σ=upd (upd σ bn (.dict (ks++ [.str x]) (vs++ [.int Ls.length]))) bl (.list (Ls++ [su x ar S T])):=by
  refine a6 (k9 (by refine a6 h.hl ?_;exact cy)) (a6 (k9 (by refine a6 h.hn ?_;exact cy)) ?_);rw [pD]
 refine bu o2 rfl rfl (.seq (.ref (uS ..)) (by refine a6 aP ?_;exact az (bG hl 1) (ao rfl)) (.sub (b4 e1 ?_)));refine a6 aP ?_;rw [show(((Ls.length+ [su x ar S T].length:Nat):Int) -1)=Ls.length from Int.add_sub_cancel (Ls.length:Int) 1];exact q (λc1 c2=>(uN c1).trans (uN c2)) ⟨o2,h.un.to ((uN (h.un.ne h.hl (λ_ h=>a_ h rfl))).trans (uN (h.un.ne h.hn (λ_ h=>a_ h rfl)))),uS ..,(uN (aL n3)).trans (uS ..),by refine a6 aP (a6 aP (a6 h.kl ?_));rfl,by refine a6 aP (a6 aP (a6 h.vl ?_));rfl⟩
theorem Nv (ht:bX σ t 517 as) (e:as.lookup 70=some (.ref ak)) (nt:σ ak=some (.list A)) (hl:A.length<lim) (q:Q (.aa A) σ):(KN (n+1)).aZ 517 93 [.ref t] σ Q:=
 bf rfl rfl (go (bu ht rfl e (.mk (.ref nt) hl (c4 q))))
end
noncomputable def br (S:List V) (z:V) (C:aJ):Int×aJ:=if z∈S then(1,C) else((C.kinds.length:Nat),et C (.str 66) (.tup []))
noncomputable def mW (r:Nat) (S:List V) (z:V) (g:Int):List (Nat×V×Int):=if z∈S then [] else [(r,z,g)]
noncomputable def cF (r:Nat) (S:List V):List V->List Int->List (Nat×V×Int)
 |z::T,g::gs=>mW r S z g++cF r S T gs
 |_,_=> []
noncomputable def ju (q:Nat×V×Int):V:= .tup [.int q.1,q.2.1, .int q.2.2]
noncomputable abbrev lN (r:Nat) (S T:List V) (gs:List Int):List V:=(cF r S T gs).map ju
structure lQ (put:aJ->List V->St) (c k p d t ak:Addr) (as:List (Nat×V)):Prop where
 cp:∀{A},CPut (λC=>put C A) c k p d
 o:∀{C A},bX (put C A) t 517 as
 la:∀{C A},put C A ak=some (.list A)
 ua:∀{C A A'},upd (put C A) ak (.list A')=put C A'
 ec:as.lookup 64=some (.ref c)
 ea:as.lookup 70=some (.ref ak)
section
variable{put:aJ->List V->St} {c k p d t ak x g:Addr} {as:List (Nat×V)} {C:aJ} {A S T ys xs K vs:List V} {gs:List Int} {n r ar:Nat} {nm:V} {Q:V->St->Prop} {R:Option V->Env->St->Prop} {P:Env->St->Prop}
theorem lQ.new (h:lQ put c k p d t ak as) (e:put C A x=none):put C' A' x=none:=by
 have h1:put C' A x=none:=(h.cp (A:=A)).new (C:=C) e;exact h.ua (A:=A)▸(uN (aL (b8 h.la h1))).trans h1
theorem lQ.over (h:lQ put c k p d t ak as) (e:put C A x=none) (mo:MO):lQ (λC A=>upd (put C A) x mo) c k p d t ak as:=by
 have en:∀{C A},put C A x=none:=h.new e;exact⟨λ{A}=>(h.cp (A:=A)).over (C:=C) en mo,λ{C A}=>h.o.casesOn λe=> .mk ((uN (b8 e en)).trans e),λ{C A}=>(uN (b8 (h.la (C:=C) (A:=A)) en)).trans h.la,λ{C A A'}=>by exact a6 (eF (aL (b8 (h.la (C:=C) (A:=A)) en))) (a6 h.ua rfl),h.ec,h.ea⟩
theorem lQ.b (h:lQ put c k p d t ak as):back (put C' A') (put C A)=put C' A':=by
 refine a6 (aT (h.ua (A:=A))) (a6 (k9 (by refine a6 h.la ?_;exact cy)) ?_);exact aE (upd · ak _) ((h.cp (A:=A)).b (C:=C))
theorem QO (h:lQ put c k p d t ak as) (g0:∀{C A},put C A g=none) (nd:(K++ys).Nodup) (hk:∀{z},z∈ys->aR 8 z=true) (hl:K.length=gs.length) (lk:K.length+ys.length<lim) (la:A.length+ys.length<lim) (lc:C.kinds.length+1+ys.length<lim) (lp:C.parts.length+ys.length<lim)
  (fin:P [(95, .ref t),(6, .int r),(99, .int ar),(78, .ref g),(19, .aN S vs)] (upd (put (b6 (br S) ys C).2 (A++lN r S ys (b6 (br S) ys C).1)) g (.dict (K++ys) ((gs++(b6 (br S) ys C).1).map .int)))):
  dP (eT (hV (.one 37) Gs [95,6,99,78,19] (KN (n+2)) R) (.tup xs) xs) ys (upd (put C A) g (.dict K (gs.map .int))) [(95, .ref t),(6, .int r),(99, .int ar),(78, .ref g),(19, .aN S vs)] (eX (.tup xs) xs P):=by
 induction ys generalizing C A K gs with
 |nil=>exact⟨.tup rfl,by rw [show lN r S [] (b6 (br S) [] C).1= [] from rfl,show(b6 (br S) [] C).1= [] from rfl,d6,d6,d6] at fin;exact fin⟩
 |cons y ys ih=>
  have hy:=hk aM;have nK:y∉K:=λm=>(ja.mp nd).2.2 y m y aM rfl;have lK:K.length<lim:=az (aY ..) lk;have lA:A.length<lim:=az (aY ..) la;have O:=h.over (C:=C) (A:=A) (x:=g) g0;have l1:∀{X:List V} {z},X.length+(ys.length+1)<lim->(X++ [z]).length+ys.length<lim:=λh=>by refine a6 aP (a6 m4 ?_);rw [bH,c0 1];exact h
  have eM:∀{i:Int},MO.dict (bW y K) (cz y (.int i) K (gs.map .int))= .dict (K++ [y]) ((gs++ [i]).map .int):=λ{i}=>by refine a6 (eG nK) (a6 (jH (by rw [b0];exact hl) nK) (a6 iR ?_));rfl
  have next:=λ{i:Int} {C A}=>ih (K:=K++ [y]) (gs:=gs++ [i]) (C:=C) (A:=A) (by rw [bP];exact nd) (λm=>hk (aQ _ m)) (by refine a6 aP (a6 aP (a6 hl ?_));rfl) (l1 lk);by_cases m:y∈S
  ·have e1:br S y C=(1,C):=aF m
   have e2:lN r S (y::ys) (b6 (br S) (y::ys) C).1=lN r S ys (b6 (br S) ys C).1:=by
    show List.map ju (mW r S y _++cF r S ys (b6 (br S) ys (br S y C).2).1)=_;refine a6 e1 ?_;rewrite [mW];refine a6 (aF m) ?_;rfl
   have e3:b6 (br S) (y::ys) C=(1::(b6 (br S) ys C).1,(b6 (br S) ys C).2):=by
    show((br S y C).1::(b6 (br S) ys (br S y C).2).1,_)=_;exact a6 e1 rfl
   rw [e2,e3] at fin;refine⟨.tup rfl,f1 (go (He .aN hy m (ki (uS ..) hy lK (eM (i:=1)) ?_)))⟩;rw [eo];refine go (wB .aN hy m (sk (next (iP la) (iP lc) (iP lp) ?_)));rw [bP,bP];exact fin
  ·have e1:br S y C=(((C.kinds.length:Nat):Int),et C (.str 66) (.tup [])):=aB m
   have e3:b6 (br S) (y::ys) C=(((C.kinds.length:Nat):Int)::(b6 (br S) ys (et C (.str 66) (.tup []))).1,(b6 (br S) ys (et C (.str 66) (.tup []))).2):=by
    show((br S y C).1::(b6 (br S) ys (br S y C).2).1,_)=_;exact a6 e1 rfl
   have e2:lN r S (y::ys) (((C.kinds.length:Nat):Int)::(b6 (br S) ys (et C (.str 66) (.tup []))).1)=ju (r,y,((C.kinds.length:Nat):Int))::lN r S ys (b6 (br S) ys (et C (.str 66) (.tup []))).1:=by
    show List.map ju (mW r S y _++_)=_;rewrite [mW];refine a6 (aB m) ?_;rfl
   rw [e3] at fin;rw [e2] at fin;refine⟨.tup rfl,f1 (go (wY .aN hy m (bu (O _).o rfl h.ec (aV (O _).cp.ob rfl rfl (M8 (n:=n) (O _).cp (az (aY ..) lc) (az (aY ..) lp) (ki (uS ..) hy lK (eM (i:=C.kinds.length)) ?_))))))⟩;rw [eo];have en:b_ y (K++ [y]) ((gs++ [((C.kinds.length:Nat):Int)]).map .int)=some (.int (C.kinds.length:Nat)):=by
    have:=zf (k:=y) (v:= .int (C.kinds.length:Nat)) (ks:=K) (vs:=gs.map V.int) (by rw [b0];exact hl)
    rwa [eG nK,jH (by rw [b0];exact hl) nK,show gs.map V.int++ [V.int (C.kinds.length:Nat)]=(gs++ [((C.kinds.length:Nat):Int)]).map .int by refine a6 iR ?_;rfl] at this
   refine go (wA .aN hy m (go (bu (O _).o rfl h.ea ⟨⟨.ref (O _).la⟩, .dict (.ref (uS ..)) hy en (.mk (O _).la lA (a6 ((O _).ua) (next (l1 la) ?_ ?_ ?_)))⟩)))
   ·show(C.kinds++ [_]).length+1+ys.length<lim
    exact a6 aP (a6 m4 ((k5 .. :_+1+ys.length=_)▸lc))
   ·exact l1 lp
   ·rw [bP,bP,bP]
    exact fin
end
section
variable{put:aJ->List V->St} {c k p d t ak x g:Addr} {as:List (Nat×V)} {C C0:aJ} {A S T ys xs K vs:List V} {gs:List Int} {n r ar:Nat} {nm:V} {Q:V->St->Prop} {σ τ s:St} {Iw:aJ->St} {ρ:Env} {H:CH} {R:List V×List V->St->Prop}
theorem CPut.xc (h:CPut Iw c k p d) (nc:c≠x) (nk:k≠x) (np:p≠x) (nd:d≠x) (mo:MO):CPut (λC=>upd (Iw C) x mo) c k p d:=by
 refine ⟨λ{C}=>h.ob.to (uN nc),(uN nk).trans h.hk,(uN np).trans h.hp,(uN nd).trans h.hd,λ{C C'}=>a6 (aT (h.u (C:=C) (C':=C'))) ?_,h.kp⟩;unfold iF;exact a6 (eF (aL nk)) (a6 (eF (aL np)) (a6 (eF (aL nd)) rfl))
theorem N_ (nd:(K++ys).Nodup) (hk:∀{z},z∈ys->aR 8 z=true) (hl:K.length=vs.length) (l:K.length+ys.length<lim) (q:R (K++ys,vs++ys.map λzz=> .bool true) σ):
  dP (eT (lE (.one 37) dw.nil.run H (uH (.var 37) (.lit (.bool true)) H) ρ) (.tup xs) xs) ys σ (K,vs) (eX (.tup xs) xs R):=by
 induction ys generalizing K vs with
 |nil=>exact⟨.tup rfl,by rw [d6,List.map_nil,d6] at q;exact q⟩
 |cons y ys ih=>
  have nK:y∉K:=λm=>(ja.mp nd).2.2 y m y aM rfl;exact ⟨.tup rfl,hk aM,az (aY ..) l,a6 (eG nK) (a6 (jH hl nK) (ih (by rw [bP];exact nd) (λm=>hk (aQ _ m)) (by refine a6 aP (a6 aP (a6 hl ?_));rfl) (by refine a6 aP (a6 m4 ?_);rw [bH,c0 1];exact l) (by rw [bP,bP];exact q)))⟩
structure qq (U S T:List V):Prop where
 s:S.Sublist U
 t:T.Sublist U
 st:∀{z},z∈S->z∈T
theorem DM (h:lQ put c k p d t ak as) (u:UpU U) (D:qq U S T) (la:A.length<=9) (lc:C.kinds.length<=99) (lp:C.parts.length<=99) (q:Q (Mx.v ⟨ar,T,(b6 (br S) T C).1⟩) (put (b6 (br S) T C).2 (A++lN r S T (b6 (br S) T C).1))):
  (KN (n+3)).aZ 517 155 [.ref t, .int r, .tup [nm, .int ar, .tup S, .tup T]] (put C A) Q:=by
 have key:∀{X:List V},X.Sublist U->∀{z},z∈X->aR 8 z=true:=λ{X} s {z} m=>jF (u.small (s.subset m));have d4:∀{X:List V},X.Sublist U->X.length<=9:=λ{X} s=>ay s.length_le u.d4;have l0:∀{i j:Nat},i<=100->j<=9->i+j<lim:=λh h'=>az (dh h h') (ao rfl);refine bf rfl rfl (go (.mk rfl (go (.mk cY rfl λg hg=>⟨.tup rfl,N_ (K:= []) (vs:= []) (D.s.nodup u.nd) (key D.s) rfl (l0 (i:=0) (fh _) (d4 D.s)) (.mk rfl (go ?_))⟩))));have g0:∀{C A},put C A g=none:=h.new hg;exact .mk (.tup rfl) (QO h g0 (K:= []) (gs:= []) (D.t.nodup u.nd) (key D.t) rfl (l0 (i:=0) (fh _) (d4 D.t)) (l0 (ay la (ah rfl)) (d4 D.t)) (l0 (fe lc) (d4 D.t)) (l0 (kT lp) (d4 D.t)) (go (.dict (uS ..) (a6 (mA g0) (b4 h.b q)))))
end
structure qN (τ:St) (a:TA) (X:TS) (H:Hd):Prop where
 t:τ a.t=some (.inst 517 a.dx (a.as H.w))
 ca:dz τ a.c a.k a.p a.d X.C
 mo:bX τ a.m 365 [(64, .ref a.c),(170,a.nn)]
 fo:bX τ a.fn 404 [(28, .ref a.kd)]
 kd:τ a.kd=some (.dict H.K.ks H.K.vs)
 md:τ a.md=some (.dict X.qk X.qv)
 n1:a.d≠a.kd
 n2:a.d≠a.md
 n3:a.kd≠a.md
 n4:a.c≠a.t
 n5:a.m≠a.t
 n6:a.fn≠a.t
noncomputable def mO (τ:St) (a:TA) (X:TS) (H:Hd):St:=upd (upd (upd (iF τ a.k a.p a.d X.C) a.md (.dict X.qk X.qv)) a.kd (.dict H.K.ks H.K.vs)) a.t (.inst 517 a.dx (a.as H.w))
section
variable{τ:St} {a:TA} {X0:TS} {H0:Hd} {x:Addr} {mo:MO}
theorem wi (h1:b≠k) (h2:b≠p) (h3:b≠d):iF σ k p d C b=σ b:=by
 unfold iF;exact a6 (uN h3) (a6 (uN h2) (a6 (uN h1) rfl))
theorem qN.self (h:qN τ a X0 H0):mO τ a X0 H0=τ:=by
 unfold mO;exact a6 h.ca.self (a6 (k7 h.md) (a6 (k7 h.kd) (a6 (k7 h.t) rfl)))
theorem qN.put (h:qN τ a X0 H0):cZ (mO τ a) a:=by
 have kt:=dC h.ca.hk h.t (λh=>a_ h rfl);have pt:=dC h.ca.hp h.t (λh=>a_ h rfl);have dt:=dC h.ca.hd h.t (λh=>a_ h rfl);have JL:=dC h.kd h.t (λh=>a_ h rfl);have JF:=dC h.md h.t (λh=>a_ h rfl);have XN:=dC h.ca.hk h.kd (λh=>a_ h rfl);have Xo:=dC h.ca.hp h.kd (λh=>a_ h rfl);have XM:=dC h.ca.hk h.md (λh=>a_ h rfl);have Xn:=dC h.ca.hp h.md (λh=>a_ h rfl);have i:∀{x C as},bX τ x C as->(x≠a.k/\x≠a.p/\x≠a.d)/\x≠a.md/\x≠a.kd:=λo=>⟨⟨o.ne h.ca.hk (λ_ h=>a_ h rfl),o.ne h.ca.hp (λ_ h=>a_ h rfl),o.ne h.ca.hd (λ_ h=>a_ h rfl)⟩,o.ne h.md (λ_ h=>a_ h rfl),o.ne h.kd (λ_ h=>a_ h rfl)⟩;have out:∀{x C as X H},bX τ x C as->x≠a.t->bX (mO τ a X H) x C as:=λ{x C as X H} o n=>have j:=i o
  o.to ((uN n).trans ((uN j.2.2).trans ((uN j.2.1).trans (wi j.1.1 j.1.2.1 j.1.2.2))))
 refine⟨uS ..,eo ..,λ{X H}=>⟨((h.ca.cp.xc (i h.ca.ob).2.1 XM Xn h.n2 (.dict X.qk X.qv)).xc (i h.ca.ob).2.2 XN Xo h.n1 (.dict H.K.ks H.K.vs)).xc h.n4 kt pt dt (.inst 517 a.dx (a.as H.w)),out h.mo h.n5⟩,λ{X H}=>⟨out h.fo h.n6,(uN JL).trans (uS ..),λ{K K'}=> ?_⟩,(uN JF).trans ((uN (aL h.n3)).trans (uS ..)),λ{X H qk qv}=> ?_⟩
 ·unfold mO
  refine a6 (eF (aL JL)) ?_;rw [eo]
 ·unfold mO
  refine a6 (eF (aL JF)) (a6 (eF h.n3) ?_);rw [eo]
end
structure Ax (a:Addr) (a8 σ:St):Prop where
 at_:∀{c},σ c≠none->c≠a->a8 c=σ c
section
variable{a C dx p x A b u bl bn:Addr} {σ a8 s τ:St} {mo mi:MO} {as:List (Nat×V)} {n m:Nat} {v:V} {G:St->Prop} {Q:V->St->Prop} {ns Ls ks vs:List V} {w:V} {c k d:Addr} {D:aJ}
theorem Ag.ax (h:Ag a8 σ):Ax a a8 σ:=⟨λhc zz=>h.at_ hc⟩
theorem Ax.trans (h:Ax a τ a8) (g:Ax a a8 σ):Ax a τ σ:=⟨λhc n=>(h.at_ (a6 (g.at_ hc n) hc) n).trans (g.at_ hc n)⟩
theorem Ax.get (h:Ax a a8 σ) (e:σ x=some mo) (n:x≠a):a8 x=some mo:=(h.at_ (a6 e cy) n).trans e
theorem Ax.ins (h:Ax a a8 σ) (e:bX σ x C as) (n:x≠a):bX a8 x C as:=e.casesOn λe=> .mk (h.get e n)
theorem bX.not (h:bX σ x C as) (e:σ a=none):x≠a:=h.casesOn λh=>b8 h e
theorem Ax.cat (h:Ax a a8 σ) (e:dz σ c k p d D) (na:c≠a/\k≠a/\p≠a/\d≠a):dz a8 c k p d D:=⟨h.ins e.ob na.1,h.get e.hk na.2.1,h.get e.hp na.2.2.1,h.get e.hd na.2.2.2,e.kp⟩
theorem Ax.Ko (h:Ax a a8 σ) (e:fV σ b u bl bn ns Ls ks vs w) (na:σ a=none):fV a8 b u bl bn ns Ls ks vs w:=⟨h.ins e.ob (e.ob.not na),h.ins e.un (e.un.not na),h.get e.hl (b8 e.hl na),h.get e.hn (b8 e.hn na),e.kl,e.vl⟩
theorem n_ (e:s a=some (.inst C dx as)) (h1:tb.i0 C m=true) (h3:Nat.ble (as.length+1) 100=true) (q:∀{s'},Ax a s' s->s' a=some (.inst C dx (jQ m v as))->G s'):uw (KN n).i0 s G m v (.ref a):=wo e h1 h3 (q ⟨λzz n=>uN n⟩ (uS ..))
theorem HE (q:∀{p s'},s p=none->Ag s' s->s' p=some mo->Q (.ref p) s'):∀p,s p=none->Q (.ref p) (upd s p mo):=λp hp=>q hp ((Ag.refl s).upd hp) (uS ..)
end
noncomputable def sG (s:St) (k p d ak:Addr) (C:aJ) (A:List V):St:=upd (iF s k p d C) ak (.list A)
section
variable{s:St} {c k p d t ak b u bl bn a:Addr} {C:aJ} {A ns ks vs S0 T0 S1 T1:List V} {as:List (Nat×V)} {w n0 n1:V} {σ:St} {n N:Nat} {Q:V->St->Prop}
theorem So (h:dz s c k p d C) (o:bX s t 517 as) (la:s ak=some (.list A)) (nk:k≠ak) (np:p≠ak) (ec:as.lookup 64=some (.ref c)) (ea:as.lookup 70=some (.ref ak)):lQ (sG s k p d ak) c k p d t ak as:=
 ⟨λ{A}=>h.cp.xc (h.ob.ne la (λ_ h=>a_ h rfl)) nk np (dC h.hd la (λh=>a_ h rfl)) _,λ{C A}=>o.to ((uN (o.ne la (λ_ h=>a_ h rfl))).trans (wi (o.ne h.hk (λ_ h=>a_ h rfl)) (o.ne h.hp (λ_ h=>a_ h rfl)) (o.ne h.hd (λ_ h=>a_ h rfl)))),uS ..,eo ..,ec,ea⟩
theorem Ow (h:dz s c k p d C) (la:s ak=some (.list A)):sG s k p d ak C A=s:=by
 unfold sG;exact a6 h.self (a6 (k7 la) rfl)
end
structure WS (τ σ:St) (a:TA) (C:aJ) (rs:V) (ak:Addr) (as:List V):Prop where
 at_:qN τ a ⟨C, [], []⟩ ⟨0,⟨[], []⟩⟩
 er:a.mQ=rs
 ea:a.ak= .ref ak
 la:τ ak=some (.list as)
 out:ak≠a.k/\ak≠a.p
 fr:∀{x},σ x≠none->x≠a.k->x≠a.p->x≠a.d->τ x=σ x
section
variable{s:St} {c k p d t ak b u bl bn a:Addr} {C:aJ} {A ns ks vs S0 T0 S1 T1 U0 U1:List V} {as:List (Nat×V)} {w n0 n1:V} {σ:St} {n:Nat} {Q:V->St->Prop}
theorem Q6 (h:dz σ c k p d C) (B:fV σ b u bl bn ns [.tup [n0, .int 1, .tup S0, .tup T0], .tup [n1, .int 2, .tup S1, .tup T1]] ks vs w) (ln:ns.length<lim) (YU:bl≠k) (YT:bl≠p) (YQ:bn≠d) (u0:UpU U0) (u1:UpU U1) (D0:qq U0 S0 T0) (D1:qq U1 S1 T1) (lc:C.kinds.length=2) (lp:C.parts.length=2)
  (lM:(b6 (br S0) T0 C).2.kinds.length<=99/\(b6 (br S0) T0 C).2.parts.length<=99/\(lN 0 S0 T0 (b6 (br S0) T0 C).1).length<=9)
  (q:∀{τ a ak},a.c=c->a.k=k->a.p=p->a.d=d->WS τ σ a (b6 (br S1) T1 (b6 (br S0) T0 C).2).2 (.aa [Mx.v ⟨1,T0,(b6 (br S0) T0 C).1⟩,Mx.v ⟨2,T1,(b6 (br S1) T1 (b6 (br S0) T0 C).2).1⟩]) ak (lN 0 S0 T0 (b6 (br S0) T0 C).1++lN 1 S1 T1 (b6 (br S1) T1 (b6 (br S0) T0 C).2).1)->Q (.ref a.t) τ):
  (KN (n+4)).fn 89 [.ref c, .ref b] σ Q:=by
 refine nZ rfl rfl rfl λa dx hn ha hd=>go (n_ (uS ..) rfl rfl λ{s1} x1 a1=>go ?_);have g1:Ax a s1 σ:=x1.trans (((Ag.refl σ).upd hd).upd ha).ax;have B1:=g1.Ko B ha;refine bu B1.ob rfl rfl (aV B1.un rfl rfl (Eb B1.un ln (Mz λ{s2 m} f2 hm om=>n_ (f2.get a1) rfl rfl λ{s3} x3 a3=>go (NI λ{s4 bb} f4=>n_ (f4.get a3) rfl rfl λ{s5} x5 a5=>go (Oa λ{s6 fn kd} f6 vw JZ Zd Xt Kg=>n_ (f6.get a5) rfl rfl λ{s7} x7 a7=>go (.mk cY rfl (HE λ{md s8} CO f8 Yx=>n_ (f8.get a7) rfl rfl λ{s9} x9 a9=>go (HE λ{ak Z9} nt Dg YC=>n_ (Dg.get a9) rfl rfl λ{Z8} Cq YW=>go (n_ YW rfl rfl λ{sQ} Cp Kr=>go ?_)))))))));have z3:=x3.trans (f2.ax.trans g1);have z5:=x5.trans (f4.ax.trans z3);have z7:=x7.trans (f6.ax.trans z5);have z9:=x9.trans (f8.ax.trans z7);have Ck:=Cp.trans (Cq.trans (Dg.ax.trans z9));have y8:=Cp.trans (Cq.trans (Dg.ax.trans x9));have y6:=y8.trans (f8.ax.trans x7);have y2:=y6.trans (f6.ax.trans (x5.trans (f4.ax.trans x3)));have na:c≠a/\k≠a/\p≠a/\d≠a:=⟨h.ob.not ha,b8 h.hk ha,b8 h.hp ha,b8 h.hd ha⟩;have Du:=b8 a9 nt;have gw:=Ck.cat h na;have lY:=Ck.Ko B ha;have la:=(Cp.trans Cq).get YC (aL Du);have ka:=b8 (z9.get h.hk na.2.1) nt;have pa:=b8 (z9.get h.hp na.2.2.1) nt;have I:=So gw (.mk Kr) la ka pa rfl rfl;have out:∀{x C A},x≠k->x≠p->x≠d->x≠ak->sG sQ k p d ak C A x=sQ x:=λn1 n2 n3 n4=>(uN n4).trans (wi n1 n2 n3);have B':∀{C A},fV (sG sQ k p d ak C A) b u bl bn _ _ ks vs w:=lY.to (out (lY.ob.ne gw.hk (λ_ h=>a_ h rfl)) (lY.ob.ne gw.hp (λ_ h=>a_ h rfl)) (lY.ob.ne gw.hd (λ_ h=>a_ h rfl)) (lY.ob.ne la (λ_ h=>a_ h rfl))) (out (lY.un.ne gw.hk (λ_ h=>a_ h rfl)) (lY.un.ne gw.hp (λ_ h=>a_ h rfl)) (lY.un.ne gw.hd (λ_ h=>a_ h rfl)) (lY.un.ne la (λ_ h=>a_ h rfl))) (out YU YT (dC B.hl h.hd (λh=>a_ h rfl)) (b8 (z9.get B.hl (b8 B.hl ha)) nt)) (out (dC B.hn h.hk (λh=>a_ h rfl)) (dC B.hn h.hp (λh=>a_ h rfl)) YQ (dC lY.hn la (λh=>a_ h rfl)));have YG:∀{C A},sG sQ k p d ak C A a=some _:=(out (aL na.2.1) (aL na.2.2.1) (aL na.2.2.2) Du).trans Kr;refine a6 (aT (Ow gw la)) (aV B'.ob rfl rfl (OL B' (ao rfl) (.one ⟨eH,eH,aV I.o rfl rfl (aV B'.ob rfl rfl (EF B' (i:=0) rfl (ao rfl) (DM I u0 D0 (fh _) (lc▸ah rfl) (lp▸ah rfl) ⟨ao rfl,eH,aV I.o rfl rfl (aV B'.ob rfl rfl (EF B' (i:=1) rfl (ao rfl) (DM I u1 D1 lM.2.2 lM.1 lM.2.1 ⟨ao rfl,eH,n_ YG rfl rfl λ{τ} xt at_=>o7 ?_⟩)))⟩)))⟩)));have lift:∀{x mo},sQ x=some mo->x≠a->x≠k->x≠p->x≠d->x≠ak->τ x=some mo:=λe n n1 n2 n3 n4=>xt.get ((out n1 n2 n3 n4).trans e) n;have I9:∀{x A L},bX sQ x A L->x≠a->bX τ x A L:=λe n=>e.casesOn λe'=> .mk (lift e' n (e.ne gw.hk (λ_ h=>a_ h rfl)) (e.ne gw.hp (λ_ h=>a_ h rfl)) (e.ne gw.hd (λ_ h=>a_ h rfl)) (e.ne la (λ_ h=>a_ h rfl)));have Dq:=b8 a5 JZ;have Kq:=b8 a7 CO;have xU:=y6.get Kg (aL Dq);have xT:=y8.get Yx (aL Kq);have Kk:=b8 (z5.get h.hd na.2.2.2) JZ;have Kj:=b8 (z7.get h.hd na.2.2.2) CO;refine q (a:=⟨a,c,k,p,d,m,fn,kd,md,dx,_, .ref bb, .ref ak,_⟩) rfl rfl rfl rfl ⟨⟨at_,xt.cat I.cp.at_ na,I9 (y2.ins om (aL (b8 a1 hm))) (aL (b8 a1 hm)),I9 (y6.ins Xt (aL (b8 a5 vw))) (aL (b8 a5 vw)),lift xU (aL Dq) (dC xU gw.hk (λh=>a_ h rfl)) (dC xU gw.hp (λh=>a_ h rfl)) (aL Kk) (dC xU la (λh=>a_ h rfl)),lift xT (aL Kq) (dC xT gw.hk (λh=>a_ h rfl)) (dC xT gw.hp (λh=>a_ h rfl)) (aL Kj) (dC xT la (λh=>a_ h rfl)),Kk,Kj,b8 (x7.get Kg (aL Dq)) CO,na.1,aL (b8 a1 hm),aL (b8 a5 vw)⟩,rfl,rfl,xt.get I.la (aL Du),⟨aL ka,aL pa⟩,λ{x} hx n1 n2 n3=> ?_⟩;have xa:x≠a:=λe=>hx (e▸ha);have e1:=Ck.at_ hx xa;have xk:x≠ak:=λe=>hx ((z9.at_ hx xa).symm.trans (e▸nt));exact(xt.at_ (a6 (out n1 n2 n3 xk) (a6 e1 hx)) xa).trans ((out n1 n2 n3 xk).trans e1)
end
structure VR (C:aJ) (T S:List V) (r:Nat) (M:List Int×aJ) (q:Nat×V×Int):Prop where
 r:q.1=r
 t:q.2.1∈T
 s:q.2.1∉S
 g:q.2.2=gate T M.1 q.2.1
 lo:(C.kinds.length:Int)<=q.2.2
 hi:q.2.2<M.2.kinds.length
 ok:bV M.2 q.2.2 λI=>decide (q.2.2∈I)
structure mN (r:Nat) (S T:List V) (C:aJ) (M:List Int×aJ):Prop where
 good:bO M.2
 pre:Pre C M.2
 sure:∀{z},z∈T->z∈S->gate T M.1 z=1
 told:∀{z},z∈T->z∉S->(r,z,gate T M.1 z)∈cF r S T M.1
 ask:∀{q},q∈cF r S T M.1->VR C T S r M q
 rows:(cF r S T M.1).map (·.2.1)=T.filter λz=> !decide (z∈S)
 nd:((cF r S T M.1).map (·.2.2)).Nodup
 len:M.2.kinds.length=C.kinds.length+(cF r S T M.1).length
noncomputable def nu (S T:List V) (gs:List Int) (I:List Int) (z:V):Bool:=decide (z∈S)||(decide (z∈T)&&decide (gate T gs z∈I))
section
variable{C C':aJ} {r:Nat} {S T U:List V} {M:List Int×aJ} {ar:Int}
theorem Vb (G:bO C):Pre C (et C (.str 66) (.tup []))/\bO (et C (.str 66) (.tup []))/\bV (et C (.str 66) (.tup [])) C.kinds.length (λI=>decide ((C.kinds.length:Int)∈I))/\(et C (.str 66) (.tup [])).kinds.length=C.kinds.length+1:=by
 obtain⟨s,l,-,v,t⟩:=zG (C':=et C (.str 66) (.tup [])) G rfl rfl;exact⟨s,Et (C':=et C (.str 66) (.tup [])) G rfl rfl .JQ G.len (a6 l (kT G.qh)) λ{key} m=>(G.ent m).step G s,⟨v,λI=>(t I).trans (aF rfl)⟩,l⟩
theorem Hf (nd:T.Nodup) (G:bO C):mN r S T C (b6 (br S) T C):=by
 induction T generalizing C with
 |nil=>exact⟨G,Pre.refl C,λm=>absurd m bx,λm=>absurd m bx,λm=>absurd m bx,rfl,cY,rfl⟩
 |cons z T ih=>
  obtain⟨nz,nd⟩:=cG.mp nd;have gz:∀{g:Int} {gs},gate (z::T) (g::gs) z=g:=aF rfl;have gn:∀{g:Int} {gs y},y∈T->gate (z::T) (g::gs) y=gate T gs y:=λ{g gs y} m=>aB λe:z=y=>nz (e▸m);by_cases m:z∈S
  ·have e1:br S z C=(1,C):=aF m
   have e3:b6 (br S) (z::T) C=(1::(b6 (br S) T C).1,(b6 (br S) T C).2):=by
    show((br S z C).1::(b6 (br S) T (br S z C).2).1,_)=_;exact a6 e1 rfl
   have e2:cF r S (z::T) (1::(b6 (br S) T C).1)=cF r S T (b6 (br S) T C).1:=by
    show mW r S z 1++_=_;rewrite [mW];refine a6 (aF m) ?_;rfl
   have h:=ih nd G;refine a6 e3 ?_;refine⟨h.good,h.pre,λmy ms=>(bz.mp my).elim (λe=>by refine a6 e ?_;exact gz) λmy=>(gn my).trans (h.sure my ms),λmy ms=> ?_,λ{q} mq=> ?_, ?_, ?_, ?_⟩
   ·refine a6 e2 ?_
    refine(bz.mp my).elim (λe=>absurd (e▸m) ms) λmy=> ?_;refine a6 (gn my) ?_;exact h.told my ms
   ·have a:=h.ask (e2▸mq)
    exact⟨a.r,aQ _ a.t,a.s,a.g.trans (gn a.t).symm,a.lo,a.hi,a.ok⟩
   ·show(cF r S (z::T) (1::_)).map _=_
    refine a6 e2 (a6 (List.filter_cons_of_neg (by refine a6 (bQ m) ?_;decide)) ?_);exact h.rows
   ·show((cF r S (z::T) (1::_)).map _).Nodup
    refine a6 e2 ?_;exact h.nd
   ·show _=_+(cF r S (z::T) (1::_)).length
    refine a6 e2 ?_;exact h.len
  ·obtain⟨s,G',tz,l⟩:=Vb G
   have e1:br S z C=(((C.kinds.length:Nat):Int),et C (.str 66) (.tup [])):=aB m;have e3:b6 (br S) (z::T) C=(((C.kinds.length:Nat):Int)::(b6 (br S) T (et C (.str 66) (.tup []))).1,(b6 (br S) T (et C (.str 66) (.tup []))).2):=by
    show((br S z C).1::(b6 (br S) T (br S z C).2).1,_)=_;exact a6 e1 rfl
   have h:=ih nd G';have e2:cF r S (z::T) (((C.kinds.length:Nat):Int)::(b6 (br S) T (et C (.str 66) (.tup []))).1)=(r,z,((C.kinds.length:Nat):Int))::cF r S T (b6 (br S) T (et C (.str 66) (.tup []))).1:=by
    show mW r S z _++_=_;rewrite [mW];refine a6 (aB m) ?_;rfl
   have hl:=h.len;rw [l] at hl;have up:∀{q},q∈cF r S T (b6 (br S) T (et C (.str 66) (.tup []))).1->((C.kinds.length:Nat):Int)<q.2.2:=λmq=>Int.lt_of_lt_of_le (gC.mpr (by refine a6 l ?_;exact tO _)) (h.ask mq).lo;refine a6 e3 ?_;refine⟨h.good,s.trans h.pre,λmy ms=>(bz.mp my).elim (λe=>absurd (e▸ms) m) λmy=>(gn my).trans (h.sure my ms),λmy ms=> ?_,λ{q} mq=> ?_, ?_, ?_, ?_⟩
   ·refine a6 e2 ?_
    refine(bz.mp my).elim (λe=> ?_) λmy=> ?_
    ·refine a6 e (a6 gz ?_);exact aM
    ·refine a6 (gn my) ?_;exact aQ _ (h.told my ms)
   ·rw [e2] at mq
    refine(bz.mp mq).elim (λe=> ?_) λmq=> ?_
    ·refine a6 e ?_
     exact⟨rfl,aM,m,gz.symm,Int.le_refl _,gC.mpr (by refine a6 hl ?_;rw [bH];exact nA (gg Nat.zero_lt_one (aY ..))),tz.step G' h.pre⟩
    ·have a:=h.ask mq
     exact⟨a.r,aQ _ a.t,a.s,a.g.trans (gn a.t).symm,Int.le_of_lt (up mq),a.hi,a.ok⟩
   ·show(cF r S (z::T) (_::_)).map _=_
    refine a6 e2 ?_;rw [List.filter_cons_of_pos (by refine a6 (dD m) ?_;rfl)];exact aE (z::·) h.rows
   ·show((cF r S (z::T) (_::_)).map _).Nodup
    refine a6 e2 ?_;refine cG.mpr ⟨λmz=> ?_,h.nd⟩;obtain⟨q,mq,e⟩:=bB.mp mz;exact absurd e (Int.ne_of_gt (up mq))
   ·show _=_+(cF r S (z::T) (_::_)).length
    refine a6 e2 (a6 hl (a6 nH ?_));rw [bH,c0 1]
theorem mN.mr (h:mN r S T C M) (G:bO C) (nT:T.Nodup) (hl:M.1.length=T.length) (sub:∀{z},z∈T->z∈U) (st:∀{z},z∈S->z∈T) (s:Pre M.2 C') (G':bO C'):Mr U C' ⟨ar,T,M.1⟩ (nu S T M.1):=by
 have key:∀{z},z∈T->bV C' (gate T M.1 z) (λI=>nu S T M.1 I z)/\gate T M.1 z≠-1:=λ{z} hz=>by
  by_cases m:z∈S
  ·refine a6 (h.sure hz m) ?_
   refine⟨⟨u5 G'.two,λI=>uf.trans ?_⟩,by decide⟩;unfold nu;refine a6 (bQ m) ?_;rfl
  ·have a:=h.ask (h.told hz m)
   refine⟨(a.ok.step h.good s).congr λI=> ?_,λe=> ?_⟩
   ·unfold nu
    refine a6 (dD m) (a6 (bQ hz) ?_);rfl
   ·have:=a.lo
    rw [show(r,z,gate T M.1 z).2.2= -1 from e] at this;exact absurd (Int.le_trans (nE _) this) (by decide)
 refine⟨⟨nT,hl.symm,sub⟩,λ{g} hg=> ?_,λ{z} hz=> ?_⟩
 ·obtain⟨i,hi,e⟩:=List.getElem_of_mem hg
  have hk:i<T.length:=hl▸hi;have:=(key (List.getElem_mem hk)).2
  rwa [w4 nT (zip_get (dR hk) (a6 (dR hi) (a6 e rfl)))] at this
 ·by_cases hT:z∈T
  ·exact(key hT).1
  ·show bV C' (gate T M.1 z) _
   refine a6 (rp hT) ⟨w6 G'.two,λI=>rU.trans ?_⟩;unfold nu;refine a6 (dD hT) ?_;rw [dD λm=>hT (st m)];rfl
end
noncomputable def h_ (r:Nat) (ch:List (Nat×V×Int)):List V:=(ch.filter λq=>decide ((q.1:Int)=(r:Int))).map (·.2.1)
noncomputable abbrev tu (ch:List (Nat×V×Int)):List Int:=ch.map (·.2.2)
structure Tr (U S:List V) (r:Nat) (ch:List (Nat×V×Int)) (f:V->Bool):Prop where
 sub:∀{z},z∈S++h_ r ch->z∈U
 eq:bg (S++h_ r ch)=U.filter f
 len:(S++h_ r ch).length<=9
structure Told (n:Nat) (S0 S1:List V) (as:List (Nat×V×Int)) (cw:List Int->World):Prop where
 nn:∀{I},(cw I).n=n
 t0:∀{ch},ch.Sublist as->Tr (aW n) S0 0 ch λz=>(cw (tu ch)).s (b9 z)
 t1:∀{ch},ch.Sublist as->Tr (bS n) S1 1 ch (r2 (cw (tu ch)))
section
variable{C:aJ} {r r' n:Nat} {S T U D S0 T0 S1 T1:List V} {M M0 M1:List Int×aJ} {as ch:List (Nat×V×Int)} {f g:V->Bool}
theorem Ub {α β:Type} {f:α->β} {l:List α} {x y:α} (nd:(l.map f).Nodup) (hx:x∈l) (hy:y∈l) (e:f x=f y):x=y:=by
 induction l with
 |nil=>exact absurd hx bx
 |cons a l ih=>
  obtain⟨n1,n2⟩:=cG.mp nd;rcases bz.mp hx with rfl|h1<;>rcases bz.mp hy with rfl|h2
  ·rfl
  ·exact absurd (e▸tK h2) n1
  ·exact absurd (e▸tK h1) n1
  ·exact ih n2 h1 h2
theorem Tr.congr (h:Tr U S r ch f) (e:∀{z},z∈U->f z=g z):Tr U S r ch g:=⟨h.sub,h.eq.trans (pg λz m=>e m),h.len⟩
theorem HO (u:UpU U) (D:qq U S T) (I:mN r S T C M) (f7:∀{q},q∈cF r S T M.1->q∈as) (Wv:∀{q},q∈as->q.1=r->q∈cF r S T M.1) (th:(as.map (·.2.2)).Nodup) (Wt:h_ r as=(cF r S T M.1).map (·.2.1)) (tj:ch.Sublist as):Tr U S r ch (nu S T M.1 (tu ch)):=by
 have hs:(h_ r ch).Sublist (T.filter λz=> !decide (z∈S)):=by
  exact a6 (aT I.rows) (a6 (aT Wt) ((tj.filter _).map _))
 have h1:∀{z},z∈h_ r ch->z∈T/\z∉S:=λ{z} m=>have h:=cB.mp (hs.subset m);⟨h.1,tL (jk h.2)⟩;have sub:∀{z},z∈S++h_ r ch->z∈U:=λm=>(cM.mp m).elim (λm=>D.s.subset m) λm=>D.t.subset (h1 m).1;have nd:(S++h_ r ch).Nodup:=ja.mpr ⟨D.s.nodup u.nd,hs.nodup ((D.t.nodup u.nd).filter _),λx hx y hy e=>(h1 hy).2 (e▸hx)⟩;refine⟨sub,(vT u nd sub).trans (pg λz zz=> ?_),iV u.toUOk nd sub⟩;rw [ip,kS,cM];unfold nu;rw [Bool.or_eq_true,Bool.and_eq_true,kS,kS,kS];refine⟨λh=>h.imp id λm=> ?_,λh=>h.elim .inl λfm=>fm.elim λmT mg=> ?_⟩
 ·obtain⟨q,hq,rfl⟩:=bB.mp m
  obtain⟨m1,m2⟩:=cB.mp hq;have a:=I.ask (Wv (tj.subset m1) (Int.ofNat.inj (bY m2)));exact⟨a.t,a.g▸tK m1⟩
 ·by_cases m:z∈S
  ·exact .inl m
  ·obtain⟨q,hq,e⟩:=bB.mp mg
   have eq:=Ub th (tj.subset hq) (f7 (I.told mT m)) e;exact .inr (bB.mpr ⟨q,cB.mpr ⟨hq,a6 eq (bQ rfl)⟩,a6 eq rfl⟩)
theorem FL (I:mN r S T C M):h_ r (cF r S T M.1)=(cF r S T M.1).map (·.2.1):=aE _ (List.filter_eq_self.mpr λq m=>bQ (aE Int.ofNat (I.ask m).r))
theorem EY (I:mN r' S T C M) (h:r'≠r):h_ r (cF r' S T M.1)= []:=aE (List.map _) (tI.mpr λq m e=>h ((I.ask m).r.symm.trans (Int.ofNat.inj (bY e))))
theorem Gx (I:mN r S T C M) (nT:T.Nodup) (hT:∀{z},z∈T->z∈S++D):(cF r S T M.1).length<=D.length:=by
 have e:=aE List.length I.rows;rw [b0] at e;refine a6 e (List.Nodup.length_le_of_subset (nT.filter _) λz hz=> ?_);obtain⟨h1,h2⟩:=cB.mp hz;exact(cM.mp (hT h1)).resolve_left (tL (jk h2))
noncomputable abbrev BG (n:Nat) (S0 T0 S1 T1:List V) (M0 M1:List Int×aJ):Gv:=⟨n,⟨1,T0,M0.1⟩,⟨2,T1,M1.1⟩,nu S0 T0 M0.1,nu S1 T1 M1.1,M1.2⟩
structure YX (n:Nat) (C:aJ) (S0 T0 S1 T1:List V) (M0 M1:List Int×aJ):Prop where
 gv:d9 (BG n S0 T0 S1 T1 M0 M1)
 told:Told n S0 S1 (cF 0 S0 T0 M0.1++cF 1 S1 T1 M1.1) (BG n S0 T0 S1 T1 M0 M1).w
 len:M1.2.kinds.length=C.kinds.length+(cF 0 S0 T0 M0.1++cF 1 S1 T1 M1.1).length
theorem To (lo:2<=n) (hi:n<=3) (G:bO C) (I0:mN 0 S0 T0 C M0) (I1:mN 1 S1 T1 M0.2 M1) (l0:M0.1.length=T0.length) (l1:M1.1.length=T1.length) (D0:qq (aW n) S0 T0) (D1:qq (bS n) S1 T1):YX n C S0 T0 S1 T1 M0 M1:=by
 have u1:=mc hi;have u2:=ri hi;have th:((cF 0 S0 T0 M0.1++cF 1 S1 T1 M1.1).map (·.2.2)).Nodup:=by
  refine a6 iR (ja.mpr ⟨I0.nd,I1.nd,λx hx y hy e=> ?_⟩);obtain⟨q,hq,rfl⟩:=bB.mp hx;obtain⟨q',oO,rfl⟩:=bB.mp hy;exact absurd (Int.lt_of_lt_of_le (I0.ask hq).hi (I1.ask oO).lo) (a6 e (Int.lt_irrefl _))
 have row:∀{r a b},h_ r (a++b)=h_ r a++h_ r b:=by
  unfold h_;intro r a b;rewrite [List.filter_append];exact a6 iR rfl
 have t0:=λ{ch}=>HO (ch:=ch) (as:=cF 0 S0 T0 M0.1++cF 1 S1 T1 M1.1) u1 D0 I0 (λm=>qW _ m) (λm e=>(cM.mp m).resolve_right λm=>eh ((I1.ask m).r.symm.trans e)) th (by refine a6 row (a6 (FL I0) (a6 (EY I1 (by decide)) ?_));rw [d6]);have t1:=λ{ch}=>HO (ch:=ch) (as:=cF 0 S0 T0 M0.1++cF 1 S1 T1 M1.1) u2 D1 I1 (λm=>ij _ m) (λm e=>(cM.mp m).resolve_left λm=>kI ((I0.ask m).r.symm.trans e)) th (by refine a6 row (a6 (FL I1) (a6 (EY I0 (by decide)) ?_));rw [List.nil_append]);refine⟨⟨lo,hi,I1.good,I0.mr G (D0.t.nodup u1.nd) l0 (λm=>D0.t.subset m) D0.st I1.pre I1.good,rfl,I1.mr I0.good (D1.t.nodup u2.nd) l1 (λm=>D1.t.subset m) D1.st (Pre.refl _) I1.good,rfl⟩,⟨rfl,λh=>(t0 h).congr λm=> ?_,λh=>(t1 h).congr λm=> ?_⟩,by refine a6 I1.len (a6 I0.len (a6 aP ?_));rw [bH]⟩
 ·obtain⟨a,_,rfl⟩:=fW m (G:=λz=>∃a,a<n/\z=R1 a) λh=>⟨_,h,rfl⟩
  rfl
 ·obtain⟨a,b,rfl⟩:=jG m (G:=λz=>∃a b,z=R2 a b) λzz zz=>⟨_,_,rfl⟩
  rfl
end
section
variable{σ:St} {c k p d t:Addr} {C:aJ} {n i m:Nat} {g:Int} {u v w:V} {Q:V->St->Prop} {R:Option V->Env->St->Prop} {S:Env->St->Prop} {I:List Int} {tl:List Bool} {l:List V} {a b:Bool}
theorem dz.size (h:dz σ c k p d C) (hl:C.kinds.length<lim) (q:Q (.int (C.kinds.length -1)) σ):(KN (n+1)).aZ 627 69 [.ref c] σ Q:=by
 have:=zx (n:=n) (Q:=Q) h.cp hl (h.self.symm▸q)
 rwa [h.self] at this
theorem dz.kind (h:dz σ c k p d C) (hl:C.kinds.length<lim) (hg:C.kinds[i]? =some u) (q:Q u σ):(KN (n+1)).aZ 627 65 [.ref c, .int i] σ Q:=by
 have:=Q1 (n:=n) (Q:=Q) (g:=i) h.cp hl hg (h.self.symm▸q)
 rwa [h.self] at this
theorem dz.parts (h:dz σ c k p d C) (hl:C.parts.length<lim) (hg:C.parts[i]? =some u) (q:Q u σ):(KN (n+1)).aZ 627 68 [.ref c, .int i] σ Q:=by
 have:=O8 (n:=n) (Q:=Q) (g:=i) h.cp hl hg (h.self.symm▸q)
 rwa [h.self] at this
theorem Jk:j7 (.bool a) (.bool b):=⟨.bool,(λ_ _ h=>i5 h rfl)⟩
theorem Iq:decide (V.bool a= .bool b)=(a==b):=by
 rw [ip,kS,b7];exact⟨V.bool.inj,aE _⟩
theorem QK:decide (l.filter (λx=> !jq tl (dj x))= [])=(l.map dj).all (jq tl):=by
 rewrite [ip,kS,tI];refine a6 List.all_map ?_;rw [cQ];exact forall₂_congr λx zz=>BR
theorem FH (h2:2<=N) (h:N<lim):Sq σ 2 (.dc 2 N) ((List.range' 2 (N -2)).map λ(j:Nat)=>V.int j):=by
 have e:od (((N:Nat):Int) -2).toNat 2=(List.range' 2 (N -2)).map λ(j:Nat)=>V.int j:=by
  rewrite [show(((N:Nat):Int) -2).toNat=N -2 from Int.toNat_sub N 2];exact a6 List.range'_eq_map_range (a6 fB (yU (i:=2)))
 exact e▸ .dc rfl (by decide) (gB h (ao rfl))
theorem ML (G:bO C) (h:dz σ c k p d C) (ht:σ t=none) (hl:C.kinds.length<lim) (e1:tl.length=i) (e2:i+m=C.kinds.length) (h2:2<=i) {xs:List V} (hx:∀{σ},Sq σ 2 w xs)
  (fin:S [(64, .ref c),(63, .aa (I.map .int)),(55, .ref t)] (upd σ t (.list ((((C.kinds.zip C.parts).drop i).foldl (rS I) tl).map .bool)))):
  dP (eT (hV (.one 62) Au [64,63,55] (KN (n+1)) R) w xs) ((List.range' i m).map λ(j:Nat)=>V.int j) (upd σ t (.list (tl.map .bool))) [(64, .ref c),(63, .aa (I.map .int)),(55, .ref t)] (eX w xs S):=by
 induction m generalizing i tl with
 |zero=>
  rw [List.drop_of_length_le (by refine a6 (zW G.gr) (a6 (aT e2) ?_);exact bC _)] at fin;exact⟨hx,fin⟩
 |succ m ih=>
  have hi:i<C.kinds.length:=by refine a6 (aT e2) ?_;exact nA (m8 m)
  have hp:i<C.parts.length:=G.gr▸hi;have eK:C.kinds[i]? =some C.kinds[i]:=dR hi;have eP:C.parts[i]? =some C.parts[i]:=dR hp;rw [OG (x:=(C.kinds[i],C.parts[i])) (List.getElem?_zip_eq_some.mpr ⟨eK,eP⟩)] at fin;have H:∀{L},dz (upd σ t (.list L)) c k p d C:=h.fr ((cP.refl σ).upd ht (λ_ h=>a_ h rfl));have lt:(tl.map V.bool).length<lim:=by rewrite [b0];refine a6 e1 ?_;exact gB hi hl
  have next:∀{x}, [x]= [if C.kinds[i]= .str 66 then decide ((tl.length:Int)∈I) else(wZ C.parts[i]).all (jq tl)]->jz [64,63,55] (λρ σ=>dP (eT (hV (.one 62) Au [64,63,55] (KN (n+1)) R) w xs) ((List.range' (i+1) m).map λ(j:Nat)=>V.int j) σ ρ (eX w xs S)) R none [(62, .int i),(64, .ref c),(63, .aa (I.map .int)),(55, .ref t)] (upd (upd σ t (.list (tl.map .bool))) t (.list (tl.map .bool++ [.bool x]))):=λ{x} e=>by
   rw [eo];have:=ih (i:=i+1) (tl:=tl++ [x]) (by refine a6 aP (a6 e1 ?_);rfl) (by rw [bH,c0 1];exact e2) (kT h2) (by refine a6 e ?_;exact fin);rw [iR] at this;exact this
  refine⟨hx,f1 (go (aV H.ob rfl rfl (H.kind hl eK ?_)))⟩;have W:=G.wf h2 eK eP;generalize C.kinds[i]=kd at W next;generalize C.parts[i]=pp at W next eP;induction W with
  |JQ=>
   refine hW fP rfl (go ⟨⟨.ref (uS ..)⟩, .vc .aa (λy hy=> ?_) (.mk (uS ..) lt (next ?_))⟩)
   ·obtain⟨j,_,rfl⟩:=bB.mp hy;exact .int
   ·refine a6 (aF rfl) (a6 e1 ?_)
    exact aE (λb=> [b]) (fA.mpr ⟨λhm=>by obtain⟨j,h1,h2⟩:=bB.mp hm;exact V.int.inj h2▸h1,tK⟩)
  | @and f lf hf=>
   have ls:(bg (f.map V.int)).length<lim:=by refine a6 pI ?_;rw [b0];exact az lf (ao rfl)
   refine gM fP (gW (by decide)) (go ⟨⟨.ref (uS ..)⟩,aV H.ob rfl rfl (H.parts (G.gr▸hl) eP (jf (.tup rfl) (λx=> !jq tl (dj x)) id ls (λx mx acc k2 dn hk=> ?_) λp1 Y3=>eS Y3 (mL mB (.mk (uS ..) lt (next ?_)))))⟩)
   ·obtain⟨j,mj,rfl⟩:=bB.mp (dY.mp mx)
    have eb:(tl.map V.bool)[j.natAbs]? =some (.bool (tl.getD j.natAbs false)):=by
     refine a6 (fc) (a6 (iM) (a6 (dR (by refine a6 e1 ?_;exact hf mj)) ?_));rfl
    refine .mk (.seq (.ref (uS ..)) lt eb (.gt (xn Jk ?_)));refine a6 Iq ?_;have e:(tl.getD j.natAbs false==decide (0<j))=jq tl j:=rfl;refine a6 e ?_
    replace hk:k2 (if(!jq tl j)=true then acc++ [.int j] else acc) (upd σ t (.list (tl.map .bool))):=hk
    cases hb:jq tl j with
    |true=>rw [hb] at hk;exact hk
    |false=>rw [hb] at hk;exact⟨dn,hk⟩
   ·refine a6 (aB (gW (by decide))) (a6 A_ ?_);rewrite [iS];refine a6 QK ?_;rfl
theorem Na (h:dz σ c k p d C) (G:bO C) (hl:C.kinds.length<lim) (q:Q (.aa ((gV I C).map V.bool)) σ):(KN (n+2)).fn 73 [.ref c, .aa (I.map V.int)] σ Q:=by
 refine dk rfl rfl (go λt ht=> ?_);have F:∀{L},cP (upd σ t (.list L)) σ:=(cP.refl σ).upd ht (λ_ h=>a_ h rfl);have e0:(C.kinds.length:Int) -1+1=(C.kinds.length:Nat):=Int.sub_add_cancel ..;exact go (aV (h.fr F).ob rfl rfl ((h.fr F).size hl (.add (.two (a6 e0 (.mk (FH G.two hl) (ML (i:=2) (tl:= [false,true]) G h ht hl rfl (Nat.add_sub_cancel' G.two) (bC _) (FH G.two hl) (go (.list (uS ..) (a6 (mA ht) (c4 q)))))))))))
end
structure mX (M n B:Nat) (dv:List V) (f:Nd) (RR:List V) (DD:World->Nat->V->Bool):Prop where
 len:dv.length<=2
 up:UpU RR
 all:∀{r0 r1 σ Q},Q (.aa RR) σ->(KN M).fn 48 [wV n r0 r1, .int dv.length] σ Q
 lets:∀{ws r0 r1 σ Q a z},ws.n=n->kM ws r0 r1->a<n->z∈RR->Q (.bool (DD ws a z)) σ->(KN M).fn 49 [.tup dv,f.v,z,wV n r0 r1, .aN [.str 3] [.int (a:Nat)]] σ Q
 ev:∀{ws τ v dx w r Q a},ws.n=n->w+(r+B)<lim->a<n->(∀{w'},w'+r<lim->Q (.tup (RR.filter (DD ws a))) (es ws τ v dx w'))->(KN M).aZ 781 79 [.ref v,uG dv f, .aN [.str 3] [i8 a]] (es ws τ v dx w) Q
noncomputable abbrev uT (c:Addr) (A:List V) (ms:List Mx) (dv:List V) (f:Nd) (lo:Addr) (n:Nat) (I:List Int) (C:aJ) (r0 r1:List V) (v:Addr):Env:= [(64, .ref c),(70, .aa A),(63, .aa (ms.map Mx.v)),(59, .tup dv),(61,f.v),(75, .ref lo),(18, .int n),(74, .aa ((gV I C).map .bool)),(23,wV n r0 r1),(77, .ref v)]
section
variable{c lo v dx:Addr} {A dv RR r0 r1 U:List V} {ms:List Mx} {m:Mx} {f:Nd} {n M B a w r:Nat} {I:List Int} {C:aJ} {DD:World->Nat->V->Bool} {dd:List Int->V->Bool} {ws:World} {τ σ:St} {k:Env->St->Prop} {R:Option V->Env->St->Prop} {x:V}
theorem NA (up:UpU RR) (h:Mr RR C m dd):(bg m.ks).filter (λz=>lt I C (gate m.ks m.gs z))=RR.filter (dd I):=by
 refine a6 (vT up h.ok.nd h.ok.sub) (a6 List.filter_filter (pg λz hz=>a6 ((h.val hz).t I) ?_));by_cases hk:z∈m.ks
 ·refine a6 (bQ hk) ?_;rw [k6]
 ·refine a6 (dD hk) ?_;rw [Bool.and_false];exact(h.out hz hk I).symm
theorem Po (u:UOk U) (h:x∈U) (i:Nat):bI true (i+1) x x:=tX (u.small h) (G:=λx=>bI true (i+1) x x) (λzz zz=>sL .int) λzz zz zz zz=>Cb .int .int
theorem ID (h:∀{x},x∈L->bI true 11 x x):j7 (.aa L) (.aa L):=⟨.aa λ{j x y} e e'=>by cases e.symm.trans e';exact h (cA e),(λ_ _ h=>i5 h rfl)⟩
theorem VP (h:∀{x},x∈L->bI true 11 x x):j7 (.tup L) (.tup L):=⟨.tup λ{j x y} e e'=>by cases e.symm.trans e';exact h (cA e),(λ_ _ h=>i5 h rfl)⟩
theorem NY (K:mX (M+2) n B dv f RR DD) (G:bO C) (lC:C.kinds.length<lim) (W:kM ws r0 r1) (hn:ws.n=n) (ha:a<n) (em:ms[a]? =some m) (lm:ms.length<=9) (hM:Mr RR C m dd) (hI:dd I=DD ws a) (hw:w+(r+B)<lim)
  (fin:∀{w'},w'+r<lim->k (uT c A ms dv f lo n I C r0 r1 v) (es ws τ v dx w')):
  wL.run (KN (M+2)) ((53, .int (a:Nat))::uT c A ms dv f lo n I C r0 r1 v) (es ws τ v dx w) (jz yv k R):=by
 have l9:∀{X:List V},X.length<=9->X.length<lim:=λ{X} h=>az h (ao rfl);have XI:((gV I C).map V.bool).length<lim:=by rewrite [b0];exact a6 (vS G.gr G.two) lC
 have u:=K.up.toUOk;have lR:(RR.filter (DD ws a)).length<=9:=ay (m5 ..) u.d4;have sf:∀{x},x∈RR.filter (DD ws a)->bI true 11 x x:=λm=>Po u (km m) 10;refine go (.seq .aa (l9 (by rw [b0];exact lm)) (by refine a6 (fc) (a6 em ?_);rfl) (dZ (go (rC u hM.ok (jf .aa (λz=>lt I C (gate m.ks m.gs z)) id (l9 (jI u hM.ok).l9) (λz mz acc k2 dn hk=> ?_) ?_)))))
 ·have hz:=dY.mp mz
  have key:=jF (u.small (hM.ok.sub hz));have lk:=m9 hM.ok.len hz;have hv:=(hM.val (hM.ok.sub hz)).v;have eb:((gV I C).map V.bool)[(gate m.ks m.gs z).natAbs]? =some (.bool ((gV I C).getD (gate m.ks m.gs z).natAbs false)):=by
   refine a6 (fc) (a6 (iM) (a6 (dR (a6 (vS G.gr G.two) hv.lt)) ?_));rfl
  refine .dict .aN key lk (.mk (.seq .aa XI eb (.dict .aN key lk (.gt (mL Jk (a6 Iq ?_))))));have e:((gV I C).getD (gate m.ks m.gs z).natAbs false==decide (0<gate m.ks m.gs z))=lt I C (gate m.ks m.gs z):=rfl;refine a6 e ?_;cases hb:lt I C (gate m.ks m.gs z) with
  |true=>rw [hb,aF rfl] at hk;exact⟨dn,hk⟩
  |false=>rw [hb,aB cK] at hk;exact hk
 ·rewrite [iS];refine a6 (NA K.up hM) (a6 hI ?_)
  refine go (.seq (.tup rfl) (l9 (ay K.len (ah rfl))) (K.all (jf .aa (DD ws a) id (l9 u.d4) (λz mz acc k2 dn hk=> .mk (cG.mpr ⟨bx,cY⟩) rfl λq hq=>pU hq (K.lets hn W ha mz (.mk ?_))) ?_)))
  ·cases hb:DD ws a z with
   |true=>rw [hb,aF rfl] at hk;exact⟨dn,hk⟩
   |false=>rw [hb,aB cK] at hk;exact hk
  ·rw [iS]
   exact iE (ID sf) rfl (sk (go (.mk .aa (l9 lR) (aV gK rfl rfl (.mk (cG.mpr ⟨bx,cY⟩) rfl λq hq=>pU hq (K.ev hn hw ha λ{w'} h=>iE (VP sf) rfl (sk (fin h))))))))
end
theorem Gi {β:Type} {step:Step β} {c:V} {xs:List V} {σ:St} {b:β} {Q:β->St->Prop} (hx:∀{σ},Sq σ 2 c xs) (P:Nat->St->Prop) (hs:∀{x i σ k},x∈xs->P (i+1) σ->(∀{a8},P i a8->k b a8)->step x σ b k) (h0:P xs.length σ) (q:∀{a8},P 0 a8->Q b a8):g_ step c σ b Q:=by
 have key:∀{ys σ},(∀{x},x∈ys->x∈xs)->P ys.length σ->dP (eT step c xs) ys σ b (eX c xs Q):=λ{ys}=>by
  induction ys with
  |nil=>exact λzz h=>⟨hx,q h⟩
  |cons y ys ih=>exact λm h=>⟨hx,hs (m aM) h λh'=>ih (λe=>m (aQ _ e)) h'⟩
 exact⟨hx,key id h0⟩
noncomputable abbrev qM:Nat×V×Int:=(0, .none,0)
noncomputable abbrev jL (js:List Nat):List V:=js.map λ(j:Nat)=>V.int j
noncomputable abbrev qp (as:List (Nat×V×Int)) (js:List Nat):List (Nat×V×Int):=js.map λj=>as.getD j qM
noncomputable abbrev tA (as:List (Nat×V×Int)) (x:V):Nat×V×Int:=as.getD (dj x).toNat qM
section
variable{c k p d lo:Addr} {dv RR S0 S1:List V} {jZ jY:V} {ms:List Mx} {f:Nd} {n M B mk:Nat} {C:aJ} {DD:World->Nat->V->Bool} {as:List (Nat×V×Int)} {js:List Nat} {cw:List Int->World} {σ σ0:St} {kk:Env->St->Prop} {R:Option V->Env->St->Prop} {Q:V->St->Prop} {r i:Nat} {U:List V} {K:CH} {ρ:Env} {g:V->Bool} {T:List V->St->Prop} {v:V}
theorem range_getD {α:Type} {d:α} {as:List α}:(List.range as.length).map (λj=>as.getD j d)=as:=by
 induction as with
 |nil=>rfl
 |cons a as ih=>exact a6 nH (a6 List.range_succ_eq_map (a6 pw (a6 fB (aE (a::·) ih))))
theorem Jh (h:∀{j},j∈js->j<as.length) (m:x∈jL js):∃j:Nat,x= .int j/\(as.map ju)[j]? =some (ju (as.getD j qM)):=by
 obtain⟨j,hj,rfl⟩:=bB.mp m;refine ⟨j,rfl,a6 (fc) (a6 (iM) (a6 (dR (h hj)) ?_))⟩;rfl
theorem PC:(jL js).map (λx=>V.int (tA as x).2.2)=(tu (qp as js)).map .int:=by
 unfold jL qp tu;refine a6 fB (a6 fB (a6 fB ?_));rfl
theorem PB:((jL js).filter λx=>decide (((tA as x).1:Int)=(r:Int))).map (λx=>(tA as x).2.1)=h_ r (qp as js):=by
 unfold h_ jL qp;refine a6 List.filter_map (a6 fB (a6 List.filter_map (a6 fB ?_)));rfl
theorem Ee (h1:ρ.lookup 72=some (.aa (jL js))) (h2:ρ.lookup 70=some (.aa (as.map ju))) (h3:ρ.lookup 75=some (.ref lo)) (h6:ρ.lookup 6=some (.int (r:Nat))) (fT:σ lo=some (.list [.tup [.aa S0,jZ], .tup [.aa S1,jY]])) (la:as.length<=2) (lj:js.length<=2) (h:∀{j},j∈js->j<as.length) {S:List V} (hS: [V.tup [.aa S0,jZ], .tup [.aa S1,jY]][r]? =some (.tup [.aa S,v]))
  (t:Tr U S r (qp as js) g) (u:UOk U) {Q:V->St->Prop} (q:Q (.aa (U.filter g)) σ):
  (ME.bi .sorted (.cons (.bin .Add (.idx (.idx (.var 75) (.var 6)) (.lit (.int 0))) (.c3 (.one 16) (.var 72) (.cons (.cmp .Eq (.idx (.idx (.var 70) (.var 16)) (.lit (.int 0))) (.var 6)) .nil) (.emit (.idx (.idx (.var 70) (.var 16)) (.lit (.int 1)))))) .nil)).run K ρ σ Q:=by
 have l2:∀{X:List V},X.length<=9->X.length<lim:=λ{X} h=>az h (ao rfl);have yr:(as.map ju).length<lim:=l2 (by rw [b0];exact ay la (ah rfl));refine vr h3 (vr h6 (.seq (.ref fT) (ao rfl) hS (.seq (i:=0) (.tup rfl) (ao rfl) rfl (vr h1 (jf .aa (λx=>decide (((tA as x).1:Int)=(r:Int))) (λx=>(tA as x).2.1) (l2 (by rw [b0];exact ay lj (ah rfl))) (λx mx acc k2 dn hk=> ?_) ?_)))))
 ·obtain⟨j,rfl,e⟩:=Jh h mx
  refine vr (x:=70) h2 (.seq .aa yr e (.seq (i:=0) (.tup rfl) (ao rfl) rfl (vr (x:=6) h6 (eq_int ?_))))
  replace hk:k2 (if decide (((as.getD j qM).1:Int)=(r:Int))=true then acc++ [(as.getD j qM).2.1] else acc) σ:=hk
  cases hb:decide (((as.getD j qM).1:Int)=(r:Int)) with
  |true=>rw [hb,aF rfl] at hk;exact vr (x:=70) h2 (.seq .aa yr e (.seq (i:=1) (.tup rfl) (ao rfl) rfl ⟨dn,hk⟩))
  |false=>rw [hb,aB cK] at hk;exact hk
 ·refine a6 PB ?_
  have l:=t.len;exact .lst .aa .aa (a6 (aT aP) (l2 l)) (.list .aa (rb u t.sub) (az l (ao rfl)) (a6 t.eq q))
end
noncomputable abbrev uR (c:Addr) (as:List (Nat×V×Int)) (ms:List Mx) (dv:List V) (f:Nd) (lo:Addr) (n:Nat):Env:= [(64, .ref c),(70, .aa (as.map ju)),(63, .aa (ms.map Mx.v)),(59, .tup dv),(61,f.v),(75, .ref lo),(18, .int n)]
section
variable{c k p d lo:Addr} {dv RR S0 S1 r0 r1:List V} {jZ jY:V} {ms:List Mx} {f:Nd} {n M B mk a:Nat} {C:aJ} {DD:World->Nat->V->Bool} {as ch:List (Nat×V×Int)} {cw:List Int->World} {σ τ:St} {kk:Env->St->Prop} {R:Option V->Env->St->Prop} {Q:V->St->Prop} {ws:World} {A:List V} {I:List Int} {v dx:Addr}
theorem cE {e:ME} {K:CH} {y:Nat} {v:V} {ρ:Env} {acc:List V} {k:List V->St->Prop} (h:e.run K ((y,v)::ρ) σ (Kf acc k)):lE (.one y) dw.nil.run K ((MI.emit e).run K) ρ v σ acc k:=h
theorem sW: [x].Nodup:=cG.mpr ⟨bx,cY⟩
theorem X6 (lo:2<=ws.n) (hi:ws.n<=3):kM ws ((aW ws.n).filter λz=>ws.s (b9 z)) ((bS ws.n).filter (r2 ws)):=⟨lo,hi,km,km,l6 hi,wx hi,λh=>mf (fE h),λh h'=>mf (jj h h')⟩
theorem Nb (K:mX (M+2) ws.n B dv f RR DD) (G:bO C) (lC:C.kinds.length<lim) (W:kM ws r0 r1) (fy:ms.length=ws.n) (hM:∀{a m},ms[a]? =some m->∃dd,Mr RR C m dd/\dd I=DD ws a) (hw:ws.n*B<lim)
  (fin:∀{w},R none (uT c A ms dv f lo ws.n I C r0 r1 v) (es ws τ v dx w)):g_ (hV (.one 53) wL yv (KN (M+2)) R) (.dc 0 ws.n) (es ws τ v dx 0) (uT c A ms dv f lo ws.n I C r0 r1 v) (R none):=by
 refine Gi (lh (az W.hi (ao rfl))) (λi σ=>∃w,σ=es ws τ v dx w/\w+i*B<lim) (λ{x i σ k2} mx h hk=> ?_) ⟨0,rfl,by rewrite [di];exact a6 pS hw⟩ λ{a8} h=> ?_
 ·obtain⟨w,rfl,hw⟩:=h
  rw [Nat.succ_mul] at hw;refine rX mx (G:=λx=>hV (.one 53) wL yv (KN (M+2)) R x (es ws τ v dx w) (uT c A ms dv f lo ws.n I C r0 r1 v) k2) λ{a} ha=>f1 ?_;have em:ms[a]? =some ms[a]:=dR (fy▸ha);obtain⟨dd,h1,h2⟩:=hM em;exact NY K G lC W rfl ha em (fy▸ay W.hi (ah rfl)) h1 h2 hw λ{w'} h=>hk ⟨w',rfl,h⟩
 ·obtain⟨w,rfl,-⟩:=h
  exact fin
theorem MM {js:List Nat} (K:mX (M+2) n B dv f RR DD) (T:Told n S0 S1 as cw) (h:dz σ c k p d C) (G:bO C) (lC:C.kinds.length<lim) (n2:2<=n) (n3:n<=3) (la:as.length<=2) (fT:σ lo=some (.list [.tup [.aa S0,jZ], .tup [.aa S1,jY]])) (fy:ms.length=n) (hB:4*B<lim)
  (hM:∀{a m},ms[a]? =some m->Mr RR C m λI=>DD (cw I) a) (hs:js.Sublist (List.range as.length)) (q:∀{a8},Ag a8 σ->kk (uR c as ms dv f lo n) a8):
  Gq.run (KN (M+2)) ((72, .aa (jL js))::(71, .int mk)::uR c as ms dv f lo n) σ (jz yu kk R):=by
 have l2:∀{i:Nat},i<=9->i<lim:=λh=>az h (ao rfl);have yr:(as.map ju).length<lim:=by rw [b0];exact l2 (ay la (ah rfl))
 have hj:∀{j},j∈js->j<as.length:=λm=>dK.mp (hs.subset m);have lj:js.length<=2:=ay hs.length_le (a6 gA la);have tj:(qp as js).Sublist as:=by
  have:=hs.map λj=>as.getD j qM
  rwa [range_getD] at this
 refine go (lb .aa (λx=> .int (tA as x).2.2) (l2 (by rw [b0];exact ay lj (ah rfl))) (λx mx acc k2 dn hk=> ?_) ?_)
 ·obtain⟨j,rfl,e⟩:=Jh hj mx
  exact .seq .aa yr e (.seq (i:=2) (.tup rfl) (ao rfl) rfl ⟨dn,hk⟩)
 refine a6 PC ?_;have t0:=T.t0 tj;have t1:=T.t1 tj;have hn:=T.nn (I:=tu (qp as js));have hM:=λ{a m} e=>hM (a:=a) (m:=m) e;refine Na h G lC (go (.one ⟨eH,eH,cE (Ee (S:=S0) (r:=0) (js:=js) rfl rfl rfl rfl fT la lj hj rfl t0 (gk n3) ⟨ao rfl,eH,cE (Ee (S:=S1) (r:=1) (js:=js) rfl rfl rfl rfl fT la lj hj rfl t1 (iz n3) ⟨ao rfl,eH,go ?_⟩)⟩)⟩));subst hn;refine .mk (cG.mpr ⟨λm=>gW (by decide) (b3.mp m),sW⟩) rfl λq1 vk=>pU vk ⟨.aa, .aa, .mk .aa (l2 (ay (l6 n3) (ah rfl))) ⟨ao rfl, .aa, .mk .aa (l2 (wx n3)) ⟨ao rfl, .aa,Qn λ{τ b dx} g hb=> .mk rfl (go (.one (Nb K G lC (X6 n2 n3) fy (λe=>⟨_,hM e,rfl⟩) (az (m6 B (kT n3)) hB) (q (g.upd hb)))))⟩⟩⟩
theorem NX (K:mX (M+2) n B dv f RR DD) (T:Told n S0 S1 as cw) (h:dz σ c k p d C) (G:bO C) (lC:C.kinds.length<lim) (n2:2<=n) (n3:n<=3) (la:as.length<=2) (fT:σ lo=some (.list [.tup [.aa S0,jZ], .tup [.aa S1,jY]])) (fy:ms.length=n) (hB:4*B<lim)
  (hM:∀{a m},ms[a]? =some m->Mr RR C m λI=>DD (cw I) a) (q:∀{a8},Ag a8 σ->kk (uR c as ms dv f lo n) a8):
  Av.run (KN (M+2)) ((71, .int mk)::uR c as ms dv f lo n) σ (jz yu kk R):=by
 have l2:∀{i:Nat},i<=9->i<lim:=λh=>az h (ao rfl);refine go (.seq .aa (by rw [b0];exact l2 (ay la (ah rfl))) (.one ?_));rw [b0];refine jf (lh (az la (ao rfl))) (λx=>decide (((mk>>>(dj x).toNat:Nat):Int).fmod 2=1)) id (pS▸l2 (ay la (ah rfl))) (λx mx acc k2 dn hk=> ?_) ?_
 ·obtain⟨j,hj,rfl⟩:∃j:Nat,j<as.length/\x= .int j:=rX mx (G:=λx=>∃j:Nat,j<as.length/\x= .int j) λh=>⟨_,h,rfl⟩
  refine .shr (.band (eq_int ?_))
  replace hk:k2 (if decide (((mk>>>j:Nat):Int).fmod 2=1)=true then acc++ [.int (j:Nat)] else acc) σ:=hk
  cases hb:decide (((mk>>>j:Nat):Int).fmod 2=1) with
  |true=>rw [hb,aF rfl] at hk;exact⟨dn,hk⟩
  |false=>rw [hb,aB cK] at hk;exact hk
 ·rewrite [iS];refine a6 List.filter_map ?_
  exact MM K T h G lC n2 n3 la fT fy hB hM List.filter_sublist q
theorem P8 (K:mX (M+2) n B dv f RR DD) (T:Told n S0 S1 as cw) (h:dz σ c k p d C) (G:bO C) (lC:C.kinds.length<lim) (n2:2<=n) (n3:n<=3) (la:as.length<=2) (fT:σ lo=some (.list [.tup [.aa S0,jZ], .tup [.aa S1,jY]])) (fy:ms.length=n) (hB:4*B<lim)
  (hM:∀{a m},ms[a]? =some m->Mr RR C m λI=>DD (cw I) a) (q:∀{a8},Q (.bool true) a8):(KN (M+3)).fn 94 [.ref c, .aa (as.map ju), .aa (ms.map Mx.v), .tup dv,f.v, .ref lo, .int n] σ Q:=by
 have l2:∀{i:Nat},i<=9->i<lim:=λh=>az h (ao rfl);have h1:h.ob=h.ob:=rfl;refine dk rfl rfl (go (.seq .aa (by rw [b0];exact l2 (ay la (ah rfl))) (.pow (by rw [b0];exact ay la (ah rfl)) (.one ?_))));rw [b0,show((2:Int)^as.length)=((2^as.length:Nat):Int) from(Int.natCast_pow 2 as.length).symm];exact Gi (lh (az (Nat.pow_le_pow_right (by decide) la) (by decide))) (λzz a8=>Ag a8 σ) (λ{x i a8 k2} mx g hk=>rX mx (G:=λx=>hV (.one 71) Av yu (KN (M+2)) _ x a8 (uR c as ms dv f lo n) k2) λ{mk} zz=>f1 (NX K T ⟨g.ins h.ob,g.get h.hk,g.get h.hp,g.get h.hd,h.kp⟩ G lC n2 n3 la (g.get fT) fy hB hM λg'=>hk (g'.trans g))) (Ag.refl σ) λ{a8} g=>go (xl q)
end
structure sN (c:Gv) (M B:Nat) (dv:List V) (f:Nd) (RR:List V) (DD:World->Nat->V->Bool) (cf:(Nat->Nat)->Rt):Prop where
 CF:∀{put a σ X H a0 r Q},cZ put a->a.mQ= .aa [c.aI.v,c.aG.v]->Dy c X H (r+B)->a0<c.n->(∀{H'},HR H' r->Q (cf (λzz=>a0) X).1 (ov (put (cf (λzz=>a0) X).2 H') σ))->(KN M).aZ 517 91 [.ref a.t, .tup dv,f.v, .aN [.str 3] [kJ a0]] (ov (put X H) σ) Q
 rn:∃s,∀{a0},a0<c.n->∀{X0},bT c X0->Rn (bD c s) X0 (cf λzz=>a0) B λX v=>dq RR dv.length X.C v λI z=>DD (c.w I) a0 z
noncomputable def nY (cf:(Nat->Nat)->Rt) (l:List Nat) (X:TS):List V×TS:=eA (λa0=>cf λzz=>a0) l X
structure Gz (c:Gv) (dv RR:List V) (DD:World->Nat->V->Bool) (cf:(Nat->Nat)->Rt) (X:TS) (R:List V×TS):Prop where
 good:bT c R.2
 len:R.1.length=c.n
 val:∀{a v},R.1[a]? =some v->dq RR dv.length R.2.C v λI z=>DD (c.w I) a z
 again:nY cf (List.range c.n) R.2=(R.1,R.2)
 st:cV X.C R.2.C
section
variable{c:Gv} {M B r a0:Nat} {dv RR acc xs:List V} {f:Nd} {DD:World->Nat->V->Bool} {cf:(Nat->Nat)->Rt} {put:TS->Hd->St} {a:TA} {σ:St} {X:TS} {H:Hd} {l:List Nat} {ρ:Env} {S:List V->St->Prop} {w:V}
theorem E3 (T:sN c M B dv f RR DD cf) (tp:cZ put a) (rl:a.mQ= .aa [c.aI.v,c.aG.v]) (h0:ρ.lookup 90=some (.ref a.t)) (h1:ρ.lookup 59=some (.tup dv)) (h2:ρ.lookup 61=some f.v) (hl:∀{a0},a0∈l->a0<c.n) (dy:Dy c X H (r+B*l.length)) (l9:acc.length+l.length<lim) (hx:∀{σ},Sq σ 2 w xs)
  (fin:∀{H'},HR H' r->S (acc++(nY cf l X).1) (ov (put (nY cf l X).2 H') σ)):dP (eT (lE (.one 53) dw.nil.run (KN M) ((MI.emit Di).run (KN M)) ρ) w xs) (l.map λ(j:Nat)=>V.int j) (ov (put X H) σ) acc (eX w xs S):=by
 induction l generalizing X H acc with
 |nil=>exact⟨hx,by have:=fin dy.hr;rwa [show(nY cf [] X).1= [] from rfl,d6] at this⟩
 |cons a0 l ih=>
  obtain⟨s,hs⟩:=T.rn;have ha:=hl aM;have A:=hs ha dy.G X dy.G (bD c s).refl.toTStep;rw [nH,Nat.mul_succ] at dy;have dy:Dy c X H (r+B*l.length+B):=by rw [bH];exact dy
  refine⟨hx,cE (vr h0 (aV tp.o rfl rfl (vr h1 (vr h2 (.mk sW rfl λq1 vk=>pU vk (.mk sW rfl λq2 CK=>pU CK (T.CF tp rl dy ha λ{H'} h=>⟨az (aY ..) l9,ih (λm=>hl (aQ _ m)) ⟨A.good,A.room dy.rm,h⟩ ?_ λ{Dx} h'=> ?_⟩)))))))⟩
  ·refine a6 aP (a6 m4 ?_);rw [bH,c0 1];exact l9
  ·rw [bP]
   exact fin h'
theorem Qg (T:sN c M B dv f RR DD cf) (G:bT c X):Gz c dv RR DD cf X (nY cf (List.range c.n) X)/\∀{r},iD X (r+B*c.n)->iD (nY cf (List.range c.n) X).2 r:=by
 obtain⟨s,hs⟩:=T.rn;have A:=Rn.map (F:=bD c s) (X0:=X) (f:=λa0=>cf λzz=>a0) (k:=B) (P:=λX a0 v=>dq RR dv.length X.C v λI z=>DD (c.w I) a0 z) (xs:=List.range c.n) (λ{X Y a v} (GX:bT c X) zz (st:TStep X Y) h=>h.step GX.G st.s.toPre) (λm=>hs (dK.mp m) G) X G (bD c s).refl.toTStep;have hl:(nY cf (List.range c.n) X).1.length=c.n:=A.res.1.trans gA;refine⟨⟨A.good,hl,λ{a v} e=> ?_,A.again A.good (bD c s).refl.toTStep,(A.step:TStep X _).s⟩,λ{r} h=>A.room (a6 gA h)⟩;have ha:a<c.n:=hl▸IC e;exact A.res.2 (zip_get (List.getElem?_range ha) e)
end
structure yb (c:Gv) (M B1 B2:Nat) (dv:List V) (f:Nd) (RR:List V) (DD:World->Nat->V->Bool) (cf:(Nat->Nat)->Rt) (put:TS->Hd->St) (a:TA) (σ:St) (lo ak:Addr) (S0 S1:List V) (jZ jY:V) (as:List (Nat×V×Int)):Prop where
 K:mX (M+2) c.n B2 dv f RR DD
 T:sN c (M+3) B1 dv f RR DD cf
 O:d9 c
 W:Told c.n S0 S1 as c.w
 tp:cZ put a
 rl:a.mQ= .aa [c.aI.v,c.aG.v]
 hB:4*B2<lim
 la:as.length<=2
 l0:c.C0.kinds.length=2+as.length
 fT:∀{X H},ov (put X H) σ lo=some (.list [.tup [.aa S0,jZ], .tup [.aa S1,jY]])
 ea:a.ak= .ref ak
 nt:∀{X H},ov (put X H) σ ak=some (.list (as.map ju))
noncomputable abbrev xY (a:TA) (f:Nd) (dv:List V) (x28:V) (n:Nat) (lo:Addr) (x84 x14:V):Env:= [(90, .ref a.t),(64, .ref a.c),(61,f.v),(28,x28),(59, .tup dv),(18, .int n),(75, .ref lo),(84,x84),(14,x14)]
structure qr (c:Gv) (k:Nat) (RR:List V) (DD:World->Nat->V->Bool) (C:aJ) (ms:List Mx):Prop where
 len:ms.length=c.n
 at_:∀{a:Nat} {m:Mx},ms[a]? =some m->m.ar=(k:Int)/\Mr RR C m λI=>DD (c.w I) a
section
variable{c:Gv} {M B1 B2:Nat} {dv RR S0 S1 gl:List V} {f:Nd} {DD:World->Nat->V->Bool} {cf:(Nat->Nat)->Rt} {put:TS->Hd->St} {a:TA} {σ σ0:St} {lo ak:Addr} {jZ jY x28 x84 x14 Co:V} {as:List (Nat×V×Int)} {X Y:TS} {H:Hd} {ms:List Mx} {Q:V->St->Prop} {R:Option V->Env->St->Prop}
theorem Ej {xs:List V}:(xs.filter λzz=>false).map id= []:=by rw [iS];exact tI.mpr λzz zz=>cK
theorem kK (h:i<=99):i<lim:=az h (ao rfl)
theorem qr.of (F:Gz c dv RR DD cf X R'):R'.1=(R'.1.map toMx).map Mx.v/\qr c dv.length RR DD R'.2.C (R'.1.map toMx):=by
 refine⟨?_,by rw [b0];exact F.len,λ{a m} e=> ?_⟩
 ·refine a6 fB ?_
  refine(iS _).symm.trans (List.map_congr_left λv hv=> ?_);obtain⟨i,hi,rfl⟩:=List.getElem_of_mem hv;exact(F.val (dR hi)).e.symm
 ·obtain⟨v,e1,rfl⟩:=l_.mp ((fc ..).symm.trans e)
  have h:=F.val e1;exact⟨h.ar,h.m⟩
theorem qr.mem (h:qr c dv.length RR DD Y.C ms) (hm:m∈ms):m.ar=dv.length/\∃d,Mr RR Y.C m d:=by
 obtain⟨i,hi,rfl⟩:=List.getElem_of_mem hm;have:=h.at_ (dR hi);exact⟨this.1,_,this.2⟩
theorem Qr (E:yb c M B1 B2 dv f RR DD cf put a σ lo ak S0 S1 jZ jY as) (G:bT c Y) (s:cV c.C0 Y.C) (lC:Y.C.kinds.length<lim) (fy:qr c dv.length RR DD Y.C ms) (hg:∀{z},z∈gl->∃m:Mx,m∈ms/\∃g:Int,g∈m.gs/\z=V.int g) (lg:gl.length<=99) (q:∀{a8},Q (.bool true) a8):
  Hz.run (KN (M+3)) ((78, .aa gl)::(69,Co)::(63, .aa (ms.map Mx.v))::xY a f dv x28 c.n lo x84 x14) (ov (put Y H) σ) (rt Q σ0):=by
 have la:=E.la;refine go (aV E.tp.o rfl rfl (Nv E.tp.o (aE some E.ea) E.nt (by rw [b0];exact kK (ay la (ah rfl))) (go λp hp=>eS hp ?_)));have fin:(aH.cons (.ret (.bq 94 (.cons (.var 64) (.cons (.var 70) (.cons (.var 63) (.cons (.var 59) (.cons (.var 61) (.cons (.var 75) (.cons (.var 18) .nil))))))))) .nil).run (KN (M+3)) ((70, .aa (as.map ju))::(78, .aa gl)::(69,Co)::(63, .aa (ms.map Mx.v))::xY a f dv x28 c.n lo x84 x14) (ov (put Y H) σ) (rt Q σ0):=
  go (P8 E.K E.W E.tp.cp.at_ G.G lC E.O.lo E.O.hi la E.fT fy.len E.hB (λe=>(fy.at_ e).2) (xl q))
 by_cases has:as= []
 ·refine hW mB (by refine a6 has ?_;rfl) (jf .aa (λzz=>false) id (kK lg) (λx mx acc k2 dn hk=> ?_) ?_)
  ·obtain⟨m,hm,g,mg,rfl⟩:=hg mx
   obtain⟨-,d,h⟩:=fy.mem hm;have v:=h.valid mg;have t2:=s.two (by refine a6 E.l0 (a6 has ?_);rfl);have v1:=v.nz;have v2:=v.lt;have v3:=h.nm mg;rw [t2] at v2;exact iE eB (aE V.int ((IM v2 v1).elim id λe=>absurd e v3)) hk
  ·refine a6 Ej ?_
   exact λp hp=>eS hp (iE mB rfl (sk fin))
 ·exact gM mB (λe=>has (List.map_eq_nil_iff.mp (V.aa.inj e))) (sk fin)
theorem Sb {m:Mx}:bI true 11 m.v m.v:=Cb .int (.aN rfl λe=>by obtain⟨g,_,rfl⟩:=Se e;exact .int)
theorem Qs (E:yb c M B1 B2 dv f RR DD cf put a σ lo ak S0 S1 jZ jY as) (G:bT c Y) (s:cV c.C0 Y.C) (lC:Y.C.kinds.length<lim) (fy:qr c dv.length RR DD Y.C ms) (q:∀{a8},Q (.bool true) a8):
  HA.run (KN (M+3)) ((69,Co)::(63, .aa (ms.map Mx.v))::xY a f dv x28 c.n lo x84 x14) (ov (put Y H) σ) (rt Q σ0):=by
 have l3:ms.length<=3:=fy.len▸E.O.hi;have g9:∀{m:Mx},m∈ms->m.gs.length<=9:=λhm=>by
  obtain⟨-,d,h⟩:=fy.mem hm;exact a6 (aT h.ok.len) (iV E.K.up.toUOk h.ok.nd h.ok.sub)
 have mem:∀{z},z∈(ms.map Mx.v).flatMap (λv=>(toMx v).gs.map V.int)->∃m:Mx,m∈ms/\∃g:Int,g∈m.gs/\z=V.int g:=λmz=>by
  obtain⟨v,hv,mz⟩:=tP.mp mz;obtain⟨m,hm,rfl⟩:=bB.mp hv;obtain⟨g,hg,rfl⟩:=bB.mp mz;exact⟨m,hm,g,pN m▸hg,rfl⟩
 have lf:((ms.map Mx.v).flatMap λv=>(toMx v).gs.map V.int).length<=27:=by
  have key:∀{l:List Mx},(∀{m:Mx},m∈l->m∈ms)->((l.map Mx.v).flatMap λv=>(toMx v).gs.map V.int).length<=9*l.length:=λ{l}=>by
   induction l with
   |nil=>exact λzz=>bC _
   |cons m l ih=>
    intro h;refine a6 pw (a6 kU (a6 aP ?_));rewrite [b0,pN];refine a6 nH ?_;rw [Nat.mul_succ,c0];exact dh (ih λe=>h (aQ _ e)) (g9 (h aM))
  exact ay (key id) (eQ 9 l3)
 refine go (ry (B:=27) .aa (λv=>(toMx v).gs.map V.int) (by refine a6 kX ?_;rw [di];exact lf) (λ{x b k} mx hl hk=> ?_) (go ?_))
 ·obtain⟨m,hm,rfl⟩:=bB.mp mx
  rw [pN] at hl hk;have e1:((m.gs.map V.int).flatMap λz=> [z])=m.gs.map V.int:=by exact a6 (aT List.map_eq_flatMap) (iS _)
  exact .mk rfl (.mk .aN (by rw [b0];exact kK (ay (g9 hm) (ah rfl))) (ry (B:=27) .aa (λz=> [z]) (a6 e1 hl) (λ{z b k} mz hl hk=>⟨gg hl (ah rfl),hk⟩) (a6 e1 hk)))
 ·refine jf .aa (λzz=>false) id (by rw [b0];exact kK (ay l3 (ah rfl))) (λx mx acc k2 dn hk=> ?_) ?_
  ·obtain⟨m,hm,rfl⟩:=bB.mp mx
   exact .mk rfl (.seq (.tup rfl) (kK (ay E.K.len (ah rfl))) (iE eB (aE V.int (fy.mem hm).1) hk))
  ·refine a6 Ej ?_
   refine λp hp=>eS hp (iE mB rfl (qx (dF.mk (.vc .aa (λy hy=> ?_) ?_))))
   ·obtain⟨_,_,g,_,rfl⟩:=mem hy;exact .int
   ·rw [dD λh=>by
     obtain⟨m,hm,g,mg,e⟩:=mem h;obtain⟨-,d,h⟩:=fy.mem hm;exact h.nm mg (V.int.inj e).symm]
    exact v5 (sk (Qr E G s lC fy mem (ay lf (ah rfl)) q))
theorem Qt (E:yb c M B1 B2 dv f RR DD cf put a σ lo ak S0 S1 jZ jY as) (hH:HR H (B1*c.n+B1*c.n)) (hR:iD ⟨c.C0, [], []⟩ (B1*c.n+B1*c.n)) (q:∀{a8},Q (.bool true) a8):
  HB.run (KN (M+3)) (xY a f dv x28 c.n lo x84 x14) (ov (put ⟨c.C0, [], []⟩ H) σ) (rt Q σ0):=by
 have G0:bT c ⟨c.C0, [], []⟩:=⟨E.O.G0,rfl,Pre.refl _,λh=>bK h⟩;have rl:(List.range c.n).length=c.n:=gA;have l9:([]:List V).length+(List.range c.n).length<lim:=by exact a6 rl (kK (ay (gh (di _)) (ay E.O.hi (ah rfl))))
 have sq:∀{σ},Sq σ 2 (.dc 0 c.n) (iU c.n):=lh (az E.O.hi (ao rfl));obtain⟨F,room⟩:=Qg E.T G0;refine go (.one (.mk sq (E3 E.T E.tp E.rl rfl rfl rfl dK.mp ⟨G0,by exact a6 rl hR,a6 rl hH⟩ l9 sq λ{H1} h1=> ?_)));have R1:=room hR;have ag:=F.again;obtain⟨em,fy⟩:=qr.of F;generalize nY cf (List.range c.n) ⟨c.C0, [], []⟩=R at F R1 ag em fy⊢;obtain⟨vals,Y⟩:=R;have lC:Y.C.kinds.length<lim:=az (aY ..) R1.c;generalize vals.map toMx=ms at em fy;subst em;refine go (aV E.tp.cp.ob rfl rfl (zx E.tp.cp.toCPut lC (go (.one (.mk sq (E3 E.T E.tp E.rl rfl rfl rfl dK.mp ⟨F.good,by refine a6 rl ?_;rw [di];exact R1,by refine a6 rl ?_;rw [di];exact h1⟩ (r:=0) l9 sq λ{H2} h2=> ?_))))));exact a6 ag (iE (ID λm=>by obtain⟨m,_,rfl⟩:=bB.mp m;exact Sb) rfl (qx (aV E.tp.cp.ob rfl rfl (zx E.tp.cp.toCPut lC (iE eB rfl (v5 (sk (Qs E F.good F.st lC fy q))))))))
end
noncomputable def KA (x:Nat) (n1 f:Nd) (ws:World) (a:Nat) (z:V):Bool:=D ws n1 (λzz=>a) (b9 z)&&D ws f (E1 (λzz=>a) x z) 0
noncomputable def Kz (x y:Nat) (n1 n2 f:Nd) (ws:World) (a:Nat) (z:V):Bool:=(D ws n1 (λzz=>a) (b9 z)&&D ws n2 (E1 (λzz=>a) x z) (gG z 1))&&D ws f (E2 (λzz=>a) x y z) 0
section
variable{m n x y:Nat} {n1 n2 f nd:Nd} {K:List Nat} {L:List V} {c:Gv} {kd d t u i:Nat}
theorem sJ:cW mk (λzz=>a) [.str 3] [.str 3] [mk a]:=
 ⟨sW,rfl,λhk G q=>b3.mp hk▸q (by decide),λ{x} hx=>by cases b3.mp hx;exact aF rfl⟩
theorem bE.jA (F:bE K kd d i t u nd) (h:∀{x},x∈K->V.str x∈L) (m:v∈FT nd):v∈L:=by
 obtain⟨x,hx,rfl⟩:=F.ft m;exact h hx
theorem t7 (h:z∈ [3]):V.str z∈ [V.str 3]:=by exact a6 (b3.mp h) aM
theorem qi (h:z∈ [3,x]):V.str z∈ [.str x,V.str 3]:=(bz.mp h).elim (λe=>a6 e (aQ _ aM)) λh=>by exact a6 (b3.mp h) aM
theorem Ie (h:z∈(if y∈ [3,x] then [3,x] else [3,x]++ [y])):V.str z∈ [.str y, .str x,V.str 3]:=by
 by_cases m:y∈ [3,x]
 ·rw [aF m] at h;exact aQ _ (qi h)
 ·rw [aB m] at h
  exact(cM.mp h).elim (λh=>aQ _ (qi h)) λh=>by exact a6 (b3.mp h) aM
theorem fQ.fit (F:bE K kd d i t u nd) (h:d<=8):fQ nd:=⟨F.nm,ay F.dp h⟩
theorem Df (F:ie K nd):2*fu nd+8<=m+46:=ay (bG (eQ 2 F.f) 8) (ay (ah rfl) (cn 46 m))
theorem De (F:kP K nd):2*fu nd+8<=m+48:=ay (bG (eQ 2 F.f) 8) (cn 48 m)
theorem YF (h:a<=434) (h':b<=485):r+3*b+1*(a+3)<=r+8000:=j0 (ay (dh (gO 3 0 h') (gO 1 3 h)) (by decide))
theorem YD (h:a<=434) (h2:a'<=434) (h':b<=485):r+9*b+3*(a'+3)+1*(a+3)<=r+8000:=ay (j0 (r:=_+_) (dh (gO 3 3 h2) (gO 1 3 h))) (j0 (ay (bG (gO 9 0 h') _) (by decide)))
theorem Xa (h:a<=434) (h':b<=485):r+3*(b+1)+1*(a+10)<=r+8000:=j0 (ay (dh (gO 3 1 h') (gO 1 10 h)) (by decide))
theorem X9 (h:a<=434) (h2:a'<=434) (h':b<=485):r+9*(b+1)+3*(a'+10)+1*(a+10)<=r+8000:=ay (j0 (r:=_+_) (dh (gO 3 10 h2) (gO 1 10 h))) (j0 (ay (bG (gO 9 1 h') _) (by decide)))
theorem Xm (h:a<=434) (h':b<=485):1*(a+9)+3*(b+1)<=8000:=ay (dh (gO 1 9 h) (gO 3 1 h')) (by decide)
theorem Xk (h:a<=434) (h2:a'<=434) (h':b<=485):1*(a+9)+(3*(a'+9)+9*(b+1))<=8000:=ay (dh (gO 1 9 h) (dh (gO 3 9 h2) (gO 9 1 h'))) (by decide)
theorem A3 (W:kM ws r0 r1) (F:ie K nd):g7 ws r0 r1 (m+49) nd:=(I6 W F.nm (ay F.t (ah rfl)) (cI F.kd) (i7 F.kd) (Df (m:=m+3) F)).set F.kd
theorem Gh (W:kM ws r0 r1) (F:kP K nd):iG ws r0 r1 (m+49) nd:=(I6 W F.nm (ay F.t (ah rfl)) (fx F.kd) (lV F.kd) (De (m:=m+1) F)).fo F.kd
theorem B3 (hN:ws.n<=3) (F:ie K nd):bU ws (m+48) 79 (b5 nd) nd (h7 ws nd):=(Io hN F.nm (cI F.kd) (i7 F.kd) (Df (m:=m+2) F)).set F.kd
theorem Hn (hN:ws.n<=3) (F:kP K nd):bU ws (m+49) 122 (b5 nd) nd (gH ws nd):=(Io hN F.nm (fx F.kd) (lV F.kd) (De (m:=m+1) F)).fo F.kd
theorem Ad (O:d9 c) (F:ie K nd):c_ c (m+46+3) 92 nd:=(J4 O (.fit F (ah rfl)) (cI F.kd) (Df (m:=m+3) F)).s F.kd
theorem G7 (O:d9 c) (F:kP K nd):c_ c (m+46+4) 122 nd:=(J4 O (.fit F (ah rfl)) (fx F.kd) (De (m:=m+2) F)).fo F.kd
theorem Vm (hi:n<=3) (hx:x<4) (F1:ie [3] n1) (Ff:kP [3,x] f):mX (m+50) n 8000 [e6 x n1] f (aW n) (KA x n1 f):=by
 have sf:∀{v},v∈FT f->v= .str x\/v∈ [V.str 3]:=λm=>bz.mp (Ff.jA qi m);refine⟨ah rfl,mc hi,λ{r0 r1 σ Q} q=>FA (ws:=⟨n,λzz=>false,λzz zz=>false⟩) hi q,λ{ws r0 r1 σ Q a z} hn W ha hz q=> ?_,λ{ws τ v dx w r Q a} hn hw ha q=> ?_⟩
 ·subst hn
  obtain⟨b,hb,rfl⟩:∃b,b<ws.n/\z=R1 b:=fW hz (G:=λz=>∃b,b<ws.n/\z=R1 b) λh=>⟨_,h,rfl⟩;exact Ia (n:=m+49) ⟨hx,A3 W F1,F1.jA t7,bz.mp⟩ (Gh W Ff) hb (λzz=>ha) .aN sJ sf q
 ·subst hn
  exact Il (n:=m+48) (r:=r) ⟨hi,hx,B3 hi F1,F1.jA t7,bz.mp⟩ (Hn hi Ff) sf (λzz=>ha) sJ (az (aU (YF F1.c Ff.c) w) hw) q
theorem Vl (hi:n<=3) (hx:x<4) (hy:y<4) (F1:ie [3] n1) (F2:ie [3,x] n2) (Ff:kP (if y∈ [3,x] then [3,x] else [3,x]++ [y]) f):mX (m+50) n 8000 [e6 x n1,e6 y n2] f (bS n) (Kz x y n1 n2 f):=by
 have sf:∀{v},v∈FT f->v= .str y\/v∈ [.str x,V.str 3]:=λm=>bz.mp (Ff.jA Ie m);refine⟨ah rfl,ri hi,λ{r0 r1 σ Q} q=>QR (ws:=⟨n,λzz=>false,λzz zz=>false⟩) hi q,λ{ws r0 r1 σ Q a z} hn W ha hz q=> ?_,λ{ws τ v dx w r Q a} hn hw ha q=> ?_⟩
 ·subst hn
  obtain⟨i,j,h1,h2,rfl⟩:∃i j,i<ws.n/\j<ws.n/\z=R2 i j:=jG hz (G:=λz=>∃i j,i<ws.n/\j<ws.n/\z=R2 i j) λh h'=>⟨_,_,h,h',rfl⟩;exact Vh (n:=m+49) ⟨hx,A3 W F1,F1.jA t7,bz.mp⟩ ⟨hy,A3 W F2,F2.jA qi,bz.mp⟩ (Gh W Ff) h1 h2 (λzz=>ha) .aN sJ sf q
 ·subst hn
  exact VD (n:=m+48) (r:=r) ⟨hi,hx,B3 hi F1,F1.jA t7,bz.mp⟩ ⟨hi,hy,B3 hi F2,F2.jA qi,bz.mp⟩ (Hn hi Ff) sf (λzz=>ha) sJ (az (aU (YD F1.c F2.c Ff.c) w) hw) q
theorem UZ (O:d9 c) (hx:x<4) (F1:ie [3] n1) (Ff:kP [3,x] f):sN c (m+51) 8000 [e6 x n1] f (aW c.n) (KA x n1 f) (sd x (run c.aI c.aG n1) (run c.aI c.aG f)):=by
 have sf:∀{v},v∈FT f->v= .str x\/v∈ [V.str 3]:=λm=>bz.mp (Ff.jA qi m);exact ⟨λ{put a σ X H a0 r Q} tp rl dy ha q=>ER (n:=m+46) (r:=r) O ⟨tp,rl,hx,F1.kd,Ad O F1,F1.jA t7,bz.mp⟩ Ff.kd (G7 O Ff) sf (λzz=>ha) sJ (dy.less (Xa F1.c Ff.c)) q,cm n1+cm f,λ{a0} ha {X0} G=>(Fu (e:=λzz=>a0) (D1:=λI a=>D (c.w I) n1 (λzz=>a0) a) (D2:=λI a zz=>D (c.w I) f (c7 (λzz=>a0) x a) 0) O G (((k8 O (cI F1.kd) (λzz=>ha) G).all.grow (aY ..)).weak (bC _) λzz zz h=>h.set F1.kd) λh=>((k8 O (fx Ff.kd) (gp (λzz=>ha) h) G).all.grow (cn ..)).weak (bC _) λzz zz h=>h.fo Ff.kd).weak (Xm F1.c Ff.c) λzz zz h=>h⟩
theorem UY (O:d9 c) (hx:x<4) (hy:y<4) (F1:ie [3] n1) (F2:ie [3,x] n2) (Ff:kP (if y∈ [3,x] then [3,x] else [3,x]++ [y]) f):sN c (m+51) 8000 [e6 x n1,e6 y n2] f (bS c.n) (Kz x y n1 n2 f) (xB x y (run c.aI c.aG n1) (run c.aI c.aG n2) (run c.aI c.aG f)):=by
 have sf:∀{v},v∈FT f->v= .str y\/v∈ [.str x,V.str 3]:=λm=>bz.mp (Ff.jA Ie m);exact ⟨λ{put a σ X H a0 r Q} tp rl dy ha q=>P7 (n:=m+46) (r:=r) O ⟨tp,rl,hx,F1.kd,Ad O F1,F1.jA t7,bz.mp⟩ ⟨tp,rl,hy,F2.kd,Ad O F2,F2.jA qi,bz.mp⟩ Ff.kd (G7 O Ff) sf (λzz=>ha) sJ (dy.less (X9 F1.c F2.c Ff.c)) q,cm n1+cm n2+cm f,λ{a0} ha {X0} G=>(Qz (e:=λzz=>a0) (D1:=λI a=>D (c.w I) n1 (λzz=>a0) a) (D2:=λI a b=>D (c.w I) n2 (c7 (λzz=>a0) x a) b) (F2:=λI a b=>D (c.w I) f (c7 (c7 (λzz=>a0) x a) y b) 0) O G (((k8 O (cI F1.kd) (λzz=>ha) G).all.grow (ay (aY ..) (aY ..))).weak (bC _) λzz zz h=>h.set F1.kd) (λh=>((k8 O (cI F2.kd) (gp (λzz=>ha) h) G).all.grow (ay (cn ..) (aY ..))).weak (bC _) λzz zz h=>h.set F2.kd) λh h'=>((k8 O (fx Ff.kd) (gp (gp (λzz=>ha) h) h') G).all.grow (cn ..)).weak (bC _) λzz zz h=>h.fo Ff.kd).weak (Xk F1.c F2.c Ff.c) λzz zz h=>h⟩
end
inductive VQ (m n:Nat) (dv:List V) (f:Nd):Prop
 |mk {DD:World->Nat->V->Bool} {RR:List V} (K:mX (m+50) n 8000 dv f RR DD) (T:∀{c},d9 c->c.n=n->∃cf,sN c (m+51) 8000 dv f RR DD cf)
structure kO (U S D:List V):Prop where
 s:S.Sublist U
 d:D.Sublist U
 nd:(S++D).Nodup
section
variable{m n kc:Nat} {cells:List Int} {dv ns ks vs S0 D0 S1 D1 U S D T:List V} {K:List Nat} {τ σ0:St} {fd lo b u bl bn x:Addr} {w n0 n1:V} {Q:V->St->Prop} {a:TA} {X X0:TS} {H H0:Hd} {f:St}
theorem E5:bO q9:=⟨rfl,rfl,fh _,bC _,λ{i kd p} hi h1 zz=>absurd (IC h1) (iq.mpr hi),λm=>absurd m bx⟩
theorem U3:ov f (λzz=>none)=f:=eR λb=>by
 cases e:f b with
 |none=>exact iT e
 |some mo=>exact gY e
theorem qN.list (h:qN τ a X0 H0) {L:List V} (e:τ x=some (.list L)) (n1:x≠a.k) (n2:x≠a.p):ov (mO τ a X H) (λzz=>none) x=some (.list L):=
 gY ((uN (dC e h.t (λh=>a_ h rfl))).trans ((uN (dC e h.kd (λh=>a_ h rfl))).trans ((uN (dC e h.md (λh=>a_ h rfl))).trans ((wi n1 n2 (dC e h.ca.hd (λh=>a_ h rfl))).trans e))))
theorem kO.sub (h:kO U S D) (m:z∈S++D):z∈U:=(cM.mp m).elim (λm=>h.s.subset m) λm=>h.d.subset m
theorem kO.BO (u:UpU U) (h:kO U S D):qq U S (bg (S++D)):=⟨h.s,by exact a6 (vT u h.nd h.sub) List.filter_sublist,λm=>dY.mpr (qW _ m)⟩
theorem Gj (sX:2<=n) (hi:n<=3) (Y_:Dr cells K 8) (KT:∀{f},kP K f->VQ m n dv f) (hk:kc+(0+9)<=10000) (fT:∀{k},fs τ fd cells k lo=some (.list [.tup [.aa S0, .aa D0], .tup [.aa S1, .aa D1]]))
  (B:∀{k},fV (fs τ fd cells k) b u bl bn ns [.tup [n0, .int 1, .tup S0, .tup (bg (S0++D0))], .tup [n1, .int 2, .tup S1, .tup (bg (S1++D1))]] ks vs w) (ln:ns.length<lim) (L0:kO (aW n) S0 D0) (L1:kO (bS n) S1 D1) (lD:D0.length+D1.length<=2) (q:∀{a8},Q (.bool true) a8):
  HC.run (KN (m+51)) [(28,kV K),(59, .tup dv),(18, .int n),(75, .ref lo),(84, .ref b),(14, .ref fd)] (fs τ fd cells kc) (rt Q σ0):=by
 refine go (OB (n:=m+45) (j:=0) Y_ hk λ{f k'} hf zz=>go (N0 (n:=m+50) λ{s2 c k p d} g hc hk hp hd C=>go ?_));obtain⟨Ka,Ta⟩:=KT hf;have u1:=mc hi;have u2:=ri hi;have Y0:=L0.BO u1;have Y1:=L1.BO u2;have e2:q9.kinds.length=2:=rfl;have I0:=Hf (S:=S0) (r:=0) (C:=q9) (Y0.t.nodup u1.nd) E5;have I1:=Hf (S:=S1) (r:=1) (Y1.t.nodup u2.nd) I0.good;have f0:=Gx (D:=D0) I0 (Y0.t.nodup u1.nd) dY.mp;have f1:=Gx (D:=D1) I1 (Y1.t.nodup u2.nd) dY.mp;have W:=To sX hi E5 I0 I1 mh mh Y0 Y1;have Kb:D0.length<=2:=ay (aY ..) lD;have kl:(b6 (br S0) (bg (S0++D0)) q9).2.kinds.length<=99:=by exact a6 I0.len (ay (aU (ay f0 Kb) 2) (ah rfl))
 refine Q6 (n:=m+47) C (B.ag g) ln (b8 B.hl hk) (b8 B.hl hp) (b8 B.hn hd) u1 u2 Y0 Y1 rfl rfl ⟨kl,I0.good.gr▸kl,by rw [b0];exact ay f0 (ay Kb (ah rfl))⟩ λ{Jq A ak} ec ek ep ed tn=> ?_;generalize b6 (br S1) (bg (S1++D1)) (b6 (br S0) (bg (S0++D0)) q9).2=M1 at I1 f1 W tn;generalize b6 (br S0) (bg (S0++D0)) q9=M0 at I0 f0 W tn I1;obtain⟨cf,Tc⟩:=Ta W.gv rfl;have la:(cF 0 S0 (bg (S0++D0)) M0.1++cF 1 S1 (bg (S1++D1)) M1.1).length<=2:=by
  exact a6 aP (ay (dh f0 f1) lD)
 have nk:lo≠A.k:=ek▸b8 fT hk;have np:lo≠A.p:=ep▸b8 fT hp;have nd:lo≠A.d:=ed▸b8 fT hd;have g1:=g.get (fT (k:=k'));have XJ:=(tn.fr (a6 g1 cy) nk np nd).trans g1;have ls:=tn.la;rw [<-iR] at ls;have E:yb (BG n S0 (bg (S0++D0)) S1 (bg (S1++D1)) M0 M1) (m+48) 8000 8000 dv f _ _ cf (mO Jq A) A (λzz=>none) lo ak S0 S1 _ _ _:=⟨Ka,Tc,W.gv,W.told,tn.at_.put,tn.er,ao rfl,la,W.len,tn.at_.list XJ nk np,tn.ea,tn.at_.list ls tn.out.1 tn.out.2⟩;have b1:8000*n+8000*n<=60000:=ay (dh (eQ 8000 hi) (eQ 8000 hi)) (ah rfl);have b2:∀{i},i<=9->i+(8000*n+8000*n)<lim:=λh=>az (dh h b1) (ao rfl);have h1:HR ⟨0,⟨[], []⟩⟩ (8000*n+8000*n):=⟨⟨rfl,λh=>bK h⟩,b2 (fh _),b2 (fh _)⟩;have h2:iD ⟨M1.2, [], []⟩ (8000*n+8000*n):=⟨b2 (a6 W.len (ay (aU la 2) (ah rfl))),b2 (fh _)⟩;have e:=Qt (σ0:=σ0) (x28:=kV K) (x84:= .ref b) (x14:= .ref fd) (Q:=Q) E h1 h2 q;exact a6 (aT tn.at_.self) (a6 (aT (U3 (f:=mO Jq A _ _))) (a6 (aT ec) e))
end
noncomputable abbrev BW (S0 D0 S1 D1:List V):List V:= [.tup [.aa S0, .aa D0], .tup [.aa S1, .aa D1]]
section
variable{m n N r ar x a l k j:Nat} {cells:List Int} {S D S0 D0 S1 D1 U ns Ls ks vs:List V} {σ τ:St} {b u bl bn lo fd wd:Addr} {w:V} {Q:V->St->Prop} {K:CH} {ρ:Env} {mo:MO}
theorem kO.len (u:UOk U) (h:kO U S D):(S++D).length<=9:=iV u h.nd h.sub
theorem V2 (h:r<2) (q:T (.str (5+r)) σ):eV σ T (.str 86) (.int r):=by
 obtain rfl|rfl:r=0\/r=1:=v8 h
 ·exact .str (i:=0) (m:=5) (by decide) (by decide) (by decide) q
 ·exact .str (i:=1) (m:=6) (by decide) (by decide) (by decide) q
theorem Sa {ha:a<3} (q:Q (.str (11+a)) σ):(ME.bin .Add (.lit (.str 7)) (.bi .str (.cons (.var 53) .nil))).run K ((53, .int a)::ρ) σ Q:=by
 obtain rfl|rfl|rfl:a=0\/a=1\/a=2:=yt ha
 ·exact .mk (m:=8) (by decide) (by decide) (by decide) rfl (.str (m:=11) (by decide) (by decide) q)
 ·exact .mk (m:=9) (by decide) (by decide) (by decide) rfl (.str (m:=12) (by decide) (by decide) q)
 ·exact .mk (m:=10) (by decide) (by decide) (by decide) rfl (.str (m:=13) (by decide) (by decide) q)
theorem HF (h1:ρ.lookup 84=some (.ref b)) (h2:ρ.lookup 6=some (.int r)) (h3:ρ.lookup 75=some (.ref lo)) (hr:r<2) (e:τ lo=some (.list (BW S0 D0 S1 D1))) (er:(BW S0 D0 S1 D1)[r]? =some (.tup [.aa S, .aa D])) (B:fV τ b u bl bn ns Ls ks vs w) (hN:ns.length=N) (tm:N<=3) (R:RU N (r+1) U) (L:kO U S D) (nw:V.str (5+r)∉ks) (hl:Ls.length<=5)
  (q:∀{a8 v},(∀{c},c≠bl->c≠bn->a8 c=τ c)->fV a8 b u bl bn ns (Ls++ [su (5+r) (r+1) S (bg (S++D))]) (ks++ [.str (5+r)]) (vs++ [.int Ls.length]) w->Q v a8):Jm.run (KN (m+3)) ρ τ Q:=by
 have l9:=L.len R.toUOk;have lS:S.length<lim:=kK (ay (ay (aP▸aY ..) l9) (ah rfl));have Y:=L.BO R.toUpU;exact vr h1 (aV B.ob rfl rfl (vr h2 (V2 hr (vr h2 (.add (vr h3 (vr h2 (.seq (.ref e) (ao rfl) er (.seq (i:=0) (.tup rfl) (ao rfl) rfl (.mk .aa lS (vr h3 (vr h2 (.seq (.ref e) (ao rfl) er (.seq (i:=0) (.tup rfl) (ao rfl) rfl (vr h3 (vr h2 (.seq (.ref e) (ao rfl) er (.seq (i:=1) (.tup rfl) (ao rfl) rfl (.lst .aa .aa (aP▸kK (ay l9 (ah rfl))) (.list .aa (rb R.toUOk L.sub) (az l9 (ao rfl)) (.mk .aa (a6 pI (kK (ay l9 (ah rfl)))) (Tf B hN tm R Y.s Y.t Y.st (gg (Nat.add_lt_add_left hr 5) (ah rfl)) nw hl λf B'=>q f B'))))))))))))))))))))))
theorem HJ (h:a≠wd):upd (wl σ wd l) a mo=wl (upd σ a mo) wd l:=eF (aL h)
theorem MW:((iU n).map λi=>V.tup [i])=aW n:=fB ..
theorem DQ:((iU n).flatMap λi=>(iU n).flatMap λj=> [V.tup [i,j]])=bS n:=by
 unfold bS;rw [List.flatMap_map];refine aE (λf=>List.flatMap f (List.range n)) (eR λa=>a6 (aT List.map_eq_flatMap) (a6 fB ?_));rfl
end
section
variable{m n l k j:Nat} {cells cs:List Int} {S0 D0 S1 D1:List V} {σ τ σ0:St} {lo fd wd:Addr} {Q:V->St->Prop} {X5 X4:V}
theorem Ke {K:CH} {ρ:Env} {e:ME} {R:Option V->Env->St->Prop} (h:e.run K ρ σ (Kc ρ R)):(MS.ex e).run K ρ σ R:=h
theorem PQ:((List.range n).map (11+·)).Nodup:=wX (λzz zz e=>Nat.add_left_cancel e) List.nodup_range
theorem MX:((iU n).map λi=>V.str (11+(dj i).toNat))=((List.range n).map (11+·)).map V.str:=by
 refine a6 fB (a6 fB ?_);rfl
theorem Wc (sX:2<=n) (hi:n<=3) (hc:cs.length<=60) (hk:k+(9+17)<=10000) (hf:σ fd=some (.dict [.str 17, .str 15] [.aa (cs.map V.int), .int k])) (e:σ lo=some (.list (BW S0 D0 S1 D1))) (L0:kO (aW n) S0 D0) (L1:kO (bS n) S1 D1) (lD:D0.length+D1.length<=2) (q:∀{a8},Q (.bool true) a8):
  Hy.run (KN (m+51)) [(75, .ref lo),(18, .int n),(23,X5),(14, .ref fd),(80,X4)] σ (rt Q σ0):=by
 have u1:=Pt hi;have u2:=Pr hi;have ln:(((List.range n).map (11+·)).map V.str).length=n:=by rewrite [b0,b0];exact a6 gA rfl
 have n9:n<lim:=kK (ay hi (ah rfl));refine go (.one (lb (lh (az hi (ao rfl))) (λi=> .str (11+(dj i).toNat)) (pS▸n9) (λx mx acc k2 dn hk=> ?_) ?_))
 ·obtain⟨a,ha,rfl⟩:∃a:Nat,a<n/\x= .int a:=rX mx (G:=λx=>∃a:Nat,a<n/\x= .int a) λh=>⟨_,h,rfl⟩
  exact cE (Sa (ha:=gg ha hi) ⟨dn,hk⟩)
 refine a6 MX (Mm (n:=m+50) PQ (λmx=> ?_) (by rewrite [b0];exact a6 gA n9) λ{s1 u w} g1 zz ou=>NG (n:=m+50) λ{s2 b bl bn} g2 hb K3 K0 ob YB YA=>go (.one ?_))
 ·obtain⟨a,ma,rfl⟩:=bB.mp mx
  exact gg (Nat.add_lt_add_left (gg (dK.mp ma) hi) 11) (ah rfl)
 have CQ:=g1.get hf;have e1:=g1.get e;have Ye:=g2.get CQ;have e2:=g2.get e1;have Dm:=b8 CQ K3;have Dl:=b8 CQ K0;have Km:=b8 e1 K3;have Kl:=b8 e1 K0;have B0:fV s2 b u bl bn (((List.range n).map (11+·)).map V.str) [] [] [] w:=⟨ob,g2.ins ou,YB,YA,rfl,rfl⟩;refine⟨eH,eH,f1 (go (Ke (HF (r:=0) (m:=m+48) rfl rfl rfl (by decide) e2 rfl B0 ln hi u1 L0 bx (fh _) λ{s3 v} h3 B1=> ?_)))⟩;have Yd:=(h3 Dm Dl).trans Ye;have e3:=(h3 Km Kl).trans e2;refine⟨eH,f1 (go (Ke (HF (r:=1) (m:=m+48) rfl rfl rfl (by decide) e3 rfl B1 ln hi u2 L1 (λmx=>gW (by decide) (b3.mp mx)) (ah rfl) λ{s4 v} h4 B2=> ?_)))⟩;have yz:=(h4 Dm Dl).trans Yd;have e4:=(h4 Km Kl).trans e3;refine⟨eH,go ?_⟩;have ef:fs s4 fd cs k=s4:=k7 yz;have lf:=dC e4 yz (λh=>a_ h rfl);have Bk:∀{k},fV (fs s4 fd cs k) b u bl bn _ _ _ _ w:=B2.to (uN (B2.ob.ne yz (λ_ h=>a_ h rfl))) (uN (B2.un.ne yz (λ_ h=>a_ h rfl))) (uN (aL Dm)) (uN (aL Dl));refine a6 (aT ef) (OH (n:=m+45) (j:=9) hc hk (λ{x n1 k'} hx F1 gf=> .mk rfl ?_) λ{x y n1 n2 k'} hx hy F1 F2 gf=> .mk rfl ?_)
 ·exact Gj (K:= [3,x]) sX hi ((D3 hc).add (kH hx)|>.less (ah rfl)) (λFf=>⟨Vm hi (kH hx) F1 Ff,λ{c} O e=>by subst e;exact⟨_,UZ O (kH hx) F1 Ff⟩⟩) gf ((uN lf).trans e4) Bk (ln.symm▸n9) L0 L1 lD q
 ·have D:Dr cs (if y∈ [3,x] then [3,x] else [3,x]++ [y]) 8:=by
   by_cases my:y∈ [3,x]
   ·exact a6 (aF my) (((D3 hc).add (kH hx)).less (ah rfl))
   ·exact a6 (aB my) ((((D3 hc).add (kH hx)).add (kH hy)).less (ah rfl))
  exact Gj sX hi D (λFf=>⟨Vl hi (kH hx) (kH hy) F1 F2 Ff,λ{c} O e=>by subst e;exact⟨_,UY O (kH hx) (kH hy) F1 F2 Ff⟩⟩) gf ((uN lf).trans e4) Bk (ln.symm▸n9) L0 L1 lD q
theorem VH (hl:cells.length<lim) (q:Q (.aa ((cells.take 60).map V.int)) σ):Ci σ Q (.aa (cells.map V.int)):= .mk .aa (by rw [b0];exact hl) (a6 (aT List.map_take) q)
theorem WI (h:k+100<=10000) (l:a<=100):k+a<=10000:=ay (aU l k) h
theorem Si (hl:cells.length<lim) (q:∀{a8},Q (.bool true) a8):IB.run (KN (m+51)) [(80, .aa (cells.map V.int))] σ (rt Q σ0):=by
 refine go (VH hl (.mk (cG.mpr ⟨λm=>gW (by decide) (b3.mp m),sW⟩) rfl λfd Zh=> .mk sW rfl λwd XW=> .mk rfl (go ?_)));have fw:fd≠wd:=b8 (uS ..) XW;have hc:(cells.take 60).length<=60:=by exact a6 List.length_take (Nat.min_le_left ..)
 refine a6 (show upd (upd σ fd (.dict [.str 17, .str 15] [.aa ((cells.take 60).map V.int), .int 0])) wd (.dict [.str 24] [.int 2])=fs (wl σ wd 2) fd (cells.take 60) 0 from eF fw) ?_;generalize cells.take 60=cs at hc;refine ml (n:=m+50) (m:=2) (j:=100) hc (by decide) (ah rfl) λ{r k1} hr h1=> .add (go ?_);obtain⟨n,sX,hi,en⟩:∃n:Nat,2<=n/\n<=3/\(2:Int)+(r:Nat)=(n:Nat):=⟨2+r,aY ..,aU (Nat.le_of_lt_succ hr) 2,rfl⟩;refine a6 en ?_;have u1:=mc hi;have u2:=ri hi;have n9:n<lim:=kK (ay hi (ah rfl));have sq:∀{σ},Sq σ 2 (.dc 0 n) (iU n):=lh (az hi (ao rfl));refine .one (lb sq (λi=> .tup [i]) (pS▸n9) (λx mx acc k2 dn hk=>⟨dn,hk⟩) (a6 MW (F9 (n:=m+49) (j:=80) hc fw u1.nd u1.d4 (WI h1 (ay (aU u1.d4 80) (ah rfl))) λ{S0 D0 l1 k2} s0 d0 n0 e0 h2=>λlo fT=>go ?_)));have wf:∀{l k},fs (wl σ wd l) fd cs k wd=some (.dict [.str 24] [.int l]):=(uN (aL fw)).trans (uS ..);have lf:lo≠fd:=aL (b8 rZ fT);have lw:lo≠wd:=aL (b8 wf fT);refine a6 (q8 lf) (a6 (HJ lw) ?_);have Dp:∀{σ l k L},fs (wl (upd σ lo (.list L)) wd l) fd cs k lo=some (.list L):=(uN lf).trans ((uN lw).trans (uS ..));refine⟨⟨.ref Dp⟩, .one (ry (B:=9) sq (λi=>(iU n).flatMap λj=> [V.tup [i,j]]) (by refine a6 DQ (a6 kX ?_);rw [di];exact u2.d4) (λ{x acc k} mx hl hk=> .one (ry (B:=9) sq (λj=> [V.tup [x,j]]) hl (λ{x acc k} mx hl hk=>⟨gg hl (ah rfl),hk⟩) hk)) ?_)⟩;refine a6 DQ (F9 (n:=m+49) (j:=60) hc fw u2.nd u2.d4 (ay (aU (ay (aU u2.d4 60) (ah rfl)) k2) h2) λ{S1 D1 l2 k3} s1 d1 n1 e1 h3=> .mk Dp (ao rfl) (a6 (q8 lf) (a6 (HJ lw) ?_)));rw [eo];have lD:D0.length+D1.length<=2:=by omega
 exact Wc sX hi hc (ay (aU (ah rfl) k3) h3) rZ Dp ⟨s0,d0,n0⟩ ⟨s1,d1,n1⟩ lD q
end
noncomputable def Xw:List (Nat×List Nat):= [(925, [14,18,16]),(932, [14,26,23,25,19,20,22]),(939, [14,28]),(946, [14,28,29,22,37,34]),(953, [14,28,29,22]),(958, [46,23,47,37,51]),(963, [46,23,47,37,51]),(968, [23,57,55,56]),(975, [59,61,25,23,47,58,16,60,34]),(980, [64,63,55,62]),(987, [14,56,59,28,60]),(992, [64,70,63,59,61,75,18,71,72,74,26,53,23,77,78,55]),(997, [80,18,75,84,6,61,64,90,63,69,78,70,14,23,59,28]),(799, [95,96,60]),(806, [95]),(855, [95,98]),(862, [95,60,99,101,102]),(869, [95,60,99,41,25,16,53]),(883, [95,6]),(890, [95]),(636, [104]),(653, [5,106]),(663, [5,106,28]),(670, [5,106]),(675, [5,106]),(680, [5,106,109,108]),(728, [95,18,111]),(735, [95,59,47,55,60,113,108,115,37,26,25,58]),(740, [95,113,47,116]),(754, [95,116,5,106]),(764, [95,129,47,116,55,5,106]),(778, [95,116,18]),(375, [46]),(389, [95]),(396, [95,46]),(401, [95,46,67,55,144,60,113]),(420, [95,64,84]),(425, [95,6,144,37,60,99,101,102,78,19]),(432, [95]),(439, [95,59,47,55,60,113,108,115,159,58,78,37,160,158]),(446, [95,113,47]),(453, [95,113,47,116,122]),(467, [95,116,53,52]),(474, [95,59,61,47,78,115,159,58,62]),(495, [95,129,47]),(500, [95,129,47,116,41,112,37,51]),(514, [95,116,41]),(535, [95]),(542, [95]),(549, [95,168]),(556, [95,168]),(563, [95,65,68]),(570, [95]),(577, [95,78,55,168,68]),(582, [95,78]),(589, [95,53,52]),(596, [95,53,52]),(603, [95,53,52]),(610, [95,53,52]),(202, [95,64,170]),(207, [95,99,172]),(229, [95,53,52]),(234, [95,53]),(239, [95,53,52,174]),(249, [95,53,52]),(254, [95,53,52,158]),(259, [95,53,52,106,5,55,177]),(329, [95,53,52]),(334, [95,53,52,174]),(341, [95,53]),(102, [95,64])]
noncomputable def HX (D:FuncData) (ps:List Nat):List Bool:= [D.params.posonlyargs.isEmpty,D.params.args.map (·.arg)==ps.map tx,D.params.vararg.isNone,D.params.kwonlyargs.isEmpty,D.params.kwarg.isNone,D.defaults== .none,decide ps.Nodup,ps.all (fY D.scope)]
noncomputable def IX (f:List Stmt->Bool) (b:FuncBody):Bool:=b.casesOn f λe=>false
noncomputable def VG (F:Frag) (fd:Fn) (D:FuncData):List Bool:= [codeIn F D.code D.qualname,D.globals==mainGlobals,D.builtins==builtinsNs,D.closure.isEmpty, !D.scope.isCoroutine, !D.scope.isGenerator,decide (D.scope.kind= .function),(HX D fd.params).all id,IX (fd.body.aD D.scope ((Xw.lookup fd.addr).getD [])) D.body]
noncomputable def Ii (f:FuncData->Bool) (d:Data):Bool:=match d with| .func D=>f D|_=>false
noncomputable def vz (F:Frag) (fd:Fn):Bool:=(F.lookup fd.addr).any λo=>Ii (λD=>(VG F fd D).all id) o.data
noncomputable def Jg (F:Frag) (C:Addr):List Bool:= [findIn F (.ref C) "__getattribute__"==some (some (.builtin "object.__getattribute__")),findIn F (.ref C) "__getattr__"==some none,findIn F (.ref C) "__setattr__"==some (some (.builtin "object.__setattr__")),plainOver F C,(clsIn F C).any (·.hasDict)]
noncomputable def I3 (F:Frag) (C:Addr) (q:Nat×Fn):List Bool:= [findIn F (.ref C) (tx q.1)==some (some (.ref q.2.addr)),typeIn F (.ref q.2.addr)==some (.type "function"),keepIn F (.ref q.2.addr),fnIn F q.2.addr,vz F q.2]
noncomputable def Ig (F:Frag) (q:Nat×Fn):List Bool:= [nsIn F mainGlobals (tx q.1)==some (some (.ref q.2.addr)),keepIn F (.ref q.2.addr),vz F q.2]
noncomputable def I5 (F:Frag) (q:Nat×qQ):List Bool:= [nsIn F mainGlobals (tx q.1)==some (some (.ref q.2.addr)),keepIn F (.ref q.2.addr),makesIn F q.2.addr,findIn F (.ref q.2.addr) "__init__"==some (some (.ref q.2.init.addr)),typeIn F (.ref q.2.init.addr)==some (.type "function"),vz F q.2.init]
noncomputable def BZ:Fn:=⟨997, [80],IB,false⟩
noncomputable def K8:List (Nat×Int×Nat):= [(107,2000000,1043),(176,2000000,429),(157,1000000,660),(114,1000000,1147)]
structure yM (F:Frag):Prop where
 fn:yD.all (λq=>(Ig F q).all id)=true
 cls:y0.all (λq=>(I5 F q).all id)=true
 co:n8.all (λq=>(Jg F q.1).all id)=true
 me:n8.all (λq=>(xo q.2).all λx=>(I3 F q.1 x).all id)=true
 at_:n8.all (λq=>(Cd q.2).all λx=>findIn F (.ref q.1) (tx x)==some none)=true
 bi:ko.all (λx=>nsIn F mainGlobals x.1==some none)=true
 CF:vz F BZ=true
 gn:nsIn F mainGlobals (tx 146)=some (some (.ref 368))
 gt:F.lookup 368=some (gq [.str (tx 135) 662, .str (tx 136) 663, .str (tx 35) 664, .str (tx 179) 665] 0)
 gi:K8.all (λq=>nsIn F mainGlobals (tx q.1)==some (some (.int q.2.1 q.2.2)))=true
theorem ga {l:List Bool} {b:Bool} (h:l.all id=true) (i:Nat) (e:l[i]? =some b):b=true:=cQ.mp h b (cA e)
theorem GS {β:Type} {o:Option β} {f:β->Bool} {G:Prop} (h:o.any f=true) (k:∀x,o=some x->f x=true->G):G:=by
 induction o with
 |none=>exact de h
 |some x=>exact k x rfl h
theorem SI {d:Data} {f:FuncData->Bool} {G:Prop} (h:Ii f d=true) (k:∀D,d= .func D->f D=true->G):G:=by
 induction d with
 |func D=>exact k D rfl h
 |_=>exact de h
theorem TB {b:FuncBody} {f:List Stmt->Bool} {G:Prop} (h:IX f b=true) (k:∀l,b= .stmts l->f l=true->G):G:=by
 induction b with
 |stmts l=>exact k l rfl h
 |expr e=>exact de h
theorem x8 (h:vz c.F fd=true):Good c fd:=
 GS h λo e h=>SI h λD ed h=>TB (ga h 8 rfl) λb eb hb=>
  have p:(HX D fd.params).all id=true:=ga h 7 rfl;have pk:∀x∈fd.params,fY D.scope x=true:=cQ.mp (ga p 7 rfl)
  .mk ⟨⟨o,e,ed⟩,ga h 0 rfl,b7.mp (ga h 1 rfl),b7.mp (ga h 2 rfl),iQ.mp (ga h 3 rfl),eb,dB (ga h 4 rfl),dB (ga h 5 rfl),bY (ga h 6 rfl),
   ⟨iQ.mp (ga p 0 rfl),b7.mp (ga p 1 rfl),Option.isNone_iff_eq_none.mp (ga p 2 rfl),iQ.mp (ga p 3 rfl),Option.isNone_iff_eq_none.mp (ga p 4 rfl),b7.mp (ga p 5 rfl),nodup_map_on (λx hx y hy q=>jK (wD (pk x hx)) (wD (pk y hy)) q) (bY (ga p 6 rfl))⟩,λ{x} hx=>pk x hx⟩ hb
theorem o8 {β:Type} {x:Nat} {d:β} {l:List (Nat×β)} (h:l.lookup x=some d):(x,d)∈l:=by
 induction l with
 |nil=>exact bK h
 |cons q l ih=>
  obtain⟨y,e⟩:=q;by_cases q:x=y
  ·subst q;rw [jD,gT] at h;cases h;exact aM
  ·rw [jD,il.mpr q] at h;exact aQ _ (ih h)
theorem Hr (h:(Jg F C).all id=true):so F C:=
 ⟨b7.mp (ga h 0 rfl),b7.mp (ga h 1 rfl),b7.mp (ga h 2 rfl),ga h 3 rfl,GS (ga h 4 rfl) λx e q=>⟨x,e,q⟩⟩
theorem VA:fastLookup "function" "__get__"=some (some (.builtin "function.__get__")):=by kernel_rfl
theorem Vz:fastLookup "function" "__set__"=some none:=by kernel_rfl
theorem VB:fastLookup "function" "__delete__"=some none:=by kernel_rfl
theorem AZ (t:typeIn F (.ref f)=some (.type "function")) (e:fastLookup "function" n=r):specialIn F (.ref f) n=r:=by unfold specialIn;exact a6 t e
theorem Uq:([21,81,31,33,36,50,54,48,49,73,87,94,79,38,39,103,43,32,147,105,83,82,76,152,89,88,149,151]:List Nat).all (λf=>decide (f<180)&&((yD.lookup f).isSome||(y0.lookup f).isSome))=true:=by decide+kernel
theorem Vw (k:yM c.F) (e:oW.lookup x=some v):∃u,nsIn c.F mainGlobals (tx x)=some (some u)/\∀{σ Z h},Inv c σ Z h->Rv c σ Z h v u:=by
 refine(bz.mp (show(x,v)∈(146, .tup [.str 135, .str 136, .str 35, .str 179])::K8.map (λq=>(q.1,V.int q.2.1)) from o8 e)).elim (λq=> ?_) λq=> ?_
 ·cases q
  refine⟨_,k.gn,λI=> .BH (I.tl (c.fin _ _ k.gt)) (.cons (.str ?_ _) (.cons (.str ?_ _) (.cons (.str ?_ _) (.cons (.str ?_ _) .nil))))⟩<;>exact w8▸bY rfl
 ·obtain⟨p,m,e⟩:=bB.mp q
  cases e;exact⟨_,b7.mp (cQ.mp k.gi p m),λI=> .int _ _⟩
theorem Ut:([146,107,176,157,114]:List Nat).all (λx=>decide (x<180)&&(oW.lookup x).isSome)=true:=by decide+kernel
theorem Tv (k:yM c.F) (hb:∀x∈ko,c.mb x.1=some x.2):IF c tb:=by
 have Lf:∀{f fd},yD.lookup f=some fd->c.mg (tx f)=some (.ref fd.addr)/\keepIn c.F (.ref fd.addr)=true/\Good c fd:=λ{f fd} e=>
  have h:(Ig c.F (f,fd)).all id=true:=cQ.mp k.fn _ (o8 e)
  ⟨mg_of c.fin c.g (b7.mp (ga h 0 rfl)),ga h 1 rfl,x8 (ga h 2 rfl)⟩
 have Lc:∀{f d},y0.lookup f=some d->c.mg (tx f)=some (.ref d.addr)/\keepIn c.F (.ref d.addr)=true/\Bd c d:=λ{f d} e=>
  have h:(I5 c.F (f,d)).all id=true:=cQ.mp k.cls _ (o8 e)
  ⟨mg_of c.fin c.g (b7.mp (ga h 0 rfl)),ga h 1 rfl,ga h 2 rfl,b7.mp (ga h 3 rfl),b7.mp (ga h 4 rfl),x8 (ga h 5 rfl)⟩
 have Lm:∀{C m fd i},n8.lookup C=some i->(m,fd)∈xo i->uu c.F C m fd.addr/\Good c fd:=λ{C m fd i} e hm=>
  have h:(I3 c.F C (m,fd)).all id=true:=cQ.mp (cQ.mp k.me _ (o8 e)) _ hm;have t:=b7.mp (ga h 1 rfl)
  ⟨⟨Hr (cQ.mp k.co _ (o8 e)),b7.mp (ga h 0 rfl),t,ga h 2 rfl,ga h 3 rfl,AZ t VA,by unfold takesIn;refine a6 (AZ t Vz) ?_;dsimp only;refine a6 (AZ t VB) ?_;rfl⟩,x8 (ga h 4 rfl)⟩
 refine⟨λx hx=>⟨mg_none_of c.fin c.g (b7.mp (cQ.mp k.bi x hx)),hb x hx⟩,λ{f} hf=> ?_,λ{x} hx=> ?_,λ{C x} h=> ?_,λ{C m fd} h=> ?_,λ{f fd} h=> ?_,λ{f d} zz h=> ?_,λ{a fd} h=> ?_⟩
 ·refine fG (cQ.mp Uq f (tJ.mp hf)) λh1 h2=> ?_
  refine(Bool.or_eq_true_iff.mp h2).elim (λh=> ?_) λh=> ?_<;>obtain⟨d,e⟩:=Option.isSome_iff_exists.mp h
  ·exact⟨_,⟨w8▸bY h1,(Lf e).1⟩,λX=>⟨keeps_K (Lf e).2.1 _ X⟩⟩
  ·exact⟨_,⟨w8▸bY h1,(Lc e).1⟩,λX=>⟨keeps_K (Lc e).2.1 _ X⟩⟩
 ·refine fG (cQ.mp Ut x (tJ.mp hx)) λh1 h2=> ?_
  obtain⟨v0,ex⟩:=Option.isSome_iff_exists.mp h2;obtain⟨u,hu,r⟩:=Vw k ex;exact⟨u,⟨w8▸bY h1,mg_of c.fin c.g hu⟩,λ{v σ Z h} hv I=>cL (ex.symm.trans hv)▸r I⟩
 ·have h:((n8.lookup C).map λi=>(Cd i).contains x).getD false=true:=h
  cases e:n8.lookup C with
  |none=>rw [e] at h;exact de h
  |some i=>
   rw [e] at h;exact⟨Hr (cQ.mp k.co _ (o8 e)),b7.mp (cQ.mp (cQ.mp k.at_ _ (o8 e)) x (tJ.mp h))⟩
 ·obtain⟨i,h1,h2⟩:=Option.bind_eq_some_iff.mp (show((n8.lookup C).bind λi=>(xo i).lookup m)=some fd from h)
  exact Lm h1 (o8 h2)
 ·exact⟨(Lf h).1,(Lf h).2.2⟩
 ·exact⟨(Lc h).1,(Lc h).2.2⟩
 ·have h:(if a=589 then some By else none)=some fd:=h
  by_cases q:a=589
  ·rw [aF q] at h
   cases h;subst q;have L:=Lm (C:=627) (m:=158) (fd:=By) (i:=5) rfl (cA (i:=7) rfl);exact⟨rfl,L.1.fn,L.2⟩
  ·rw [aB q] at h;exact bK h
theorem Qi (r:Rv c σ Z h (.bool true) u):u= .bool true:=r.bool_inv rfl
theorem Sp (hI:IntsAre vs ns):aO c σ Z h (ns.map V.int) vs:=by
 induction hI with
 |nil=>exact .nil
 |cons n t _ ih=>exact .cons (.int n t) ih
theorem NQ (W:Well P h (.ref l) (.list xs)):∃vs,h.get? l=some (c5 vs 0):=by
 cases W with
 |list h _=>exact⟨_,h⟩
theorem WG (ck:yM c.F) (hb:∀x∈ko,c.mb x.1=some x.2) (hH:c.H0=aC.heap) (oR:aC.heap.get? l=some (c5 vs 0)) (hI:IntsAre vs cells) (hlen:cells.length<lim):
  codeAny c.M callerA (.call (.ref 997) ⟨[.ref l], []⟩) (RP (λzz zz=>False) λu s'=>u= .bool true/\∃a8,aA c (λzz=>False) X0 (λzz=>none) aC a8 s') aC:=by
 have I0:Inv c (λzz=>none) (λzz=>False) aC.heap:=⟨λh=>hH▸h,bK,bK,False.elim,bK⟩;have hq:se (jO tb 51) BZ [.aa (cells.map V.int)] (λzz=>none) (λv zz=>v= .bool true):=⟨rfl,by
  have q:=Si (m:=0) (cells:=cells) (σ:=λzz=>none) (σ0:=λzz=>none) (Q:=λv zz=>v=V.bool true) hlen rfl;rw [uJ] at q;unfold rt at q;exact q⟩
 have LR:aO c (λzz=>none) (λzz=>False) aC.heap (cells.map V.int) vs:=Sp hI;exact uc (c:=c) (fd:=BZ) (A:=callerA) (E:=λzz zz=>False) (Z:=λzz=>False) (vs:= [.aa (cells.map V.int)]) (us:= [.ref l]) (Q:=λv zz=>v= .bool true) (x8 ck.CF) (Uv (Tv ck hb) 51) ⟨rfl,by decide,by decide⟩ I0 (.cons (.aa (e:=0) ⟨oR,rfl,λh=>h⟩ LR.len LR.at_) .nil) hq λ{v u a8 s'} q r st=>⟨Qi (q▸r),a8,st⟩
theorem V5 (r:RP (λzz zz=>False) Q res s):∃v,res= .ok (.ret v)/\Q v s:=by
 induction res with
 |error e=>exact r.elim
 |ok f=>induction f with
  |ret v=>exact⟨v,rfl,r⟩
  |_=>exact r.elim
set_option tactic.hygienic true in
theorem walk {K:Params->Frag} {as:List Addr} {e:∀P,as=(K P).map (·.1)} {q:Program} {lv:List (PySem.Str×WData)} {d:DefRec} {loose:List PySem.Str} (hK:∀P,yM (K P)) (hN:∀P,nsIn (K P) mainGlobals "law"=some (some (.ref 997))) (Yj:d.name="law") (hi:importsNone q=true)
  (hb:ko.all (λx=>(bootBuiltins x.1==some x.2)&& !(x.1==("__name__":PySem.Str)))=true):WalkO q loose (XL q lv) (kHook K as e).says Challenge.rw_rr0108_01.row.toRowW d [] (λf vs=>PySem.call f vs):=by
 intro w qg aC mg mb G Y a o pm cd doc dV kV ho hd Zj hD JX hg args vals tB Wu Ww XY XU fT;have KX:=kIn_of Y;refine enter_call ?_
 wrow_args Wu Ww XY XU fT
 rename_i cells _ _ _ _ _ _ _ l vs _ hL _ wl _ hI _ hlen _
 rw [Yj,mg_of KX G.T.g (hN w.params)] at JX;obtain rfl:997=a:=by injection JX with h;injection h
 obtain⟨ye,oR⟩:=NQ wl;have ev:ye=vs:=by
  obtain⟨o',e1,_,n',e2⟩:=hL;rw [oR] at e1;obtain rfl:=cL e1;have:=Data.seq.inj e2;exact List.toArray_inj this.1
 subst ev;have hS:∃o,aC.heap.get? sysModules=some o:=by obtain⟨_,⟨o,_,_,ho,_⟩,_⟩:=(G.T.seer hi).mods;exact⟨o,ho⟩
 refine codeAny_mono (WG (c:=⟨Challenge.rw_rr0108_01.row.prog,w,aC.heap,K w.params,mg,mb,hS,G.T.g,G.T.b,G.T.nolimit,KX⟩) (hK w.params) (λx hx=> ?_) rfl oR hI (by unfold lim;omega)) λres s' r=> ?_
 ·obtain⟨h1,h2⟩:=aj (cQ.mp hb x hx)
  exact(G.T.builtins x.1 (λe=>by rw [e] at h2;simp at h2)).trans (b7.mp h1)
 ·obtain⟨v,rfl,rfl,a8,st⟩:=V5 r
  exact⟨.inl ⟨_, .bool true, [],rfl,λzz=>rfl, .bool true,by wrow_post,λzz=>⟨cY,(λ_=>jT)⟩⟩, .of_keep λb o h=>(st.keep ⟨h,rfl,λx=>x⟩).at_,st.os, .of_eq (st.gens.trans hg)⟩
end Mine.Internal
set_option tactic.hygienic true
set_option genInjectivity true
set_option genSizeOfSpec true
namespace Mine
abbrev Tk:Prop:=True
theorem Tl:Tk:=⟨⟩
namespace head
theorem tw4764554697811233:Tk:=Tl
theorem tw5363715690607933:Tk:=Tl
theorem tw16997897962222511:Tk:=Tl
theorem tw17017319662998615:Tk:=Tl
theorem tw45052839361067614:Tk:=Tl
theorem tw48543519692965452:Tk:=Tl
theorem tw67086481866811729:Tk:=Tl
theorem tw69809265629811306:Tk:=Tl
theorem tw86301839051661876:Tk:=Tl
theorem tw139141181571183326:Tk:=Tl
theorem tw140066278072042493:Tk:=Tl
theorem tw174166394780034911:Tk:=Tl
theorem tw203279951241792120:Tk:=Tl
theorem tw262713603470380999:Tk:=Tl
theorem tw266100023129296208:Tk:=Tl
theorem tw284086516184904499:Tk:=Tl
theorem tw315434073420411817:Tk:=Tl
theorem tw322437386772585718:Tk:=Tl
theorem tw497287684792784471:Tk:=Tl
theorem tw527386997569798941:Tk:=Tl
theorem tw532055438628499158:Tk:=Tl
theorem tw533756555076263647:Tk:=Tl
theorem tw573967197379146972:Tk:=Tl
theorem tw604627371996746742:Tk:=Tl
theorem tw649443455394278489:Tk:=Tl
theorem tw693309671712327132:Tk:=Tl
theorem tw697593947973469745:Tk:=Tl
theorem tw708152393587867187:Tk:=Tl
theorem tw709382114072422158:Tk:=Tl
theorem tw739537129135343663:Tk:=Tl
theorem tw763314674957123698:Tk:=Tl
theorem tw780477332936465449:Tk:=Tl
theorem tw792300799171563205:Tk:=Tl
theorem tw797404776988869559:Tk:=Tl
theorem tw801906712849415907:Tk:=Tl
theorem tw807142644699662319:Tk:=Tl
theorem tw807299193193998342:Tk:=Tl
theorem tw820421773197932041:Tk:=Tl
theorem tw829941438253678028:Tk:=Tl
theorem tw851385035628625539:Tk:=Tl
theorem tw860298348326699438:Tk:=Tl
theorem tw883913982201973750:Tk:=Tl
theorem tw890905387884194350:Tk:=Tl
theorem tw907359911958329709:Tk:=Tl
theorem tw930087139818521243:Tk:=Tl
theorem tw940147379719373870:Tk:=Tl
theorem tw976808484645153763:Tk:=Tl
theorem tw999222835498014148:Tk:=Tl
theorem tw1050551135032985961:Tk:=Tl
theorem tw1056085985882870562:Tk:=Tl
theorem tw1060599470133986369:Tk:=Tl
theorem tw1061700454162486011:Tk:=Tl
theorem tw1062042127530464391:Tk:=Tl
theorem tw1082313596108445148:Tk:=Tl
theorem tw1125430239929706018:Tk:=Tl
theorem tw1134157569726261602:Tk:=Tl
theorem tw1146124256749630112:Tk:=Tl
theorem tw1155926839051525531:Tk:=Tl
theorem tw1211024037004892549:Tk:=Tl
theorem tw1212124681294104184:Tk:=Tl
theorem tw1214346256449528893:Tk:=Tl
theorem tw1216361941278037836:Tk:=Tl
theorem tw1224924573807776437:Tk:=Tl
theorem tw1232503513038610811:Tk:=Tl
theorem tw1235056861985050600:Tk:=Tl
theorem tw1272635626206103303:Tk:=Tl
theorem tw1276956409769668328:Tk:=Tl
theorem tw1291722185910714397:Tk:=Tl
theorem tw1315816938146588887:Tk:=Tl
theorem tw1318689175770300589:Tk:=Tl
theorem tw1344716296598748285:Tk:=Tl
theorem tw1351559336864506655:Tk:=Tl
theorem tw1389810093214676884:Tk:=Tl
theorem tw1398043889541792783:Tk:=Tl
theorem tw1425459126675767727:Tk:=Tl
theorem tw1472379273497163797:Tk:=Tl
theorem tw1489404036187247834:Tk:=Tl
theorem tw1495726902847802894:Tk:=Tl
theorem tw1499353310998574721:Tk:=Tl
theorem tw1503407388533364548:Tk:=Tl
theorem tw1506576300011279404:Tk:=Tl
theorem tw1519320592345488741:Tk:=Tl
theorem tw1522823579158628613:Tk:=Tl
theorem tw1588943658860677225:Tk:=Tl
theorem tw1593561654347908568:Tk:=Tl
theorem tw1618804561499322139:Tk:=Tl
theorem tw1620002657737552111:Tk:=Tl
theorem tw1626232751844553403:Tk:=Tl
theorem tw1642545813376747948:Tk:=Tl
theorem tw1643771367246577777:Tk:=Tl
theorem tw1693818546310300448:Tk:=Tl
theorem tw1703907593899377836:Tk:=Tl
theorem tw1714602735852981970:Tk:=Tl
theorem tw1718890006036334650:Tk:=Tl
theorem tw1728724042893426364:Tk:=Tl
theorem tw1748456618969930982:Tk:=Tl
theorem tw1756991915124769162:Tk:=Tl
theorem tw1764952784847918493:Tk:=Tl
theorem tw1786199778172832133:Tk:=Tl
theorem tw1792277464101229681:Tk:=Tl
theorem tw1852205218256702202:Tk:=Tl
theorem tw1858156416291392539:Tk:=Tl
theorem tw1858285994304674589:Tk:=Tl
theorem tw1894759731626308040:Tk:=Tl
theorem tw1909714482019496454:Tk:=Tl
theorem tw1917425121527220963:Tk:=Tl
theorem tw1919001801439425371:Tk:=Tl
theorem tw1919890906376249811:Tk:=Tl
theorem tw1929634836878124385:Tk:=Tl
theorem tw1937370526825066196:Tk:=Tl
theorem tw1939405473400901271:Tk:=Tl
theorem tw1976755195193171425:Tk:=Tl
theorem tw1983432208667318996:Tk:=Tl
theorem tw1985537357303476512:Tk:=Tl
theorem tw1992862871153497056:Tk:=Tl
theorem tw1995287165650055613:Tk:=Tl
theorem tw2035680199648653684:Tk:=Tl
theorem tw2041922666546174627:Tk:=Tl
theorem tw2066564036433440168:Tk:=Tl
theorem tw2118377178292867602:Tk:=Tl
theorem tw2123727595537733498:Tk:=Tl
theorem tw2154566216772986472:Tk:=Tl
theorem tw2172669909848549399:Tk:=Tl
theorem tw2203363585012173787:Tk:=Tl
theorem tw2232109503444375002:Tk:=Tl
theorem tw2237326684586592538:Tk:=Tl
theorem tw2249667046024356820:Tk:=Tl
theorem tw2260579728952749127:Tk:=Tl
theorem tw2298694737197419510:Tk:=Tl
theorem tw2336085555427514152:Tk:=Tl
theorem tw2340069552987342377:Tk:=Tl
theorem tw2342417691235652057:Tk:=Tl
theorem tw2343260813663018654:Tk:=Tl
theorem tw2350586252961548244:Tk:=Tl
theorem tw2355103038987944067:Tk:=Tl
theorem tw2366605209839970157:Tk:=Tl
theorem tw2371957332031735670:Tk:=Tl
theorem tw2393098407364606883:Tk:=Tl
theorem tw2393937325987436248:Tk:=Tl
theorem tw2400818531096893172:Tk:=Tl
theorem tw2401673296934814795:Tk:=Tl
theorem tw2413573451304230806:Tk:=Tl
theorem tw2417591901434828539:Tk:=Tl
theorem tw2428695696106030784:Tk:=Tl
theorem tw2437478716016495240:Tk:=Tl
theorem tw2491421050496283774:Tk:=Tl
theorem tw2506711637615833298:Tk:=Tl
theorem tw2518057956044344595:Tk:=Tl
theorem tw2521584445584981976:Tk:=Tl
theorem tw2525317073905713282:Tk:=Tl
theorem tw2529948359932261575:Tk:=Tl
theorem tw2545145822199252752:Tk:=Tl
theorem tw2581250870941146908:Tk:=Tl
theorem tw2588942769649879372:Tk:=Tl
theorem tw2591067827882107080:Tk:=Tl
theorem tw2599346099135257874:Tk:=Tl
theorem tw2624612372273768290:Tk:=Tl
theorem tw2625984366357065906:Tk:=Tl
theorem tw2661039320868540944:Tk:=Tl
theorem tw2681166955253090778:Tk:=Tl
theorem tw2694075680205673411:Tk:=Tl
theorem tw2701338428046395954:Tk:=Tl
theorem tw2705560170217086799:Tk:=Tl
theorem tw2753283235347674219:Tk:=Tl
theorem tw2760189568479381244:Tk:=Tl
theorem tw2770570992077290226:Tk:=Tl
theorem tw2781723093108153277:Tk:=Tl
theorem tw2797894973233656403:Tk:=Tl
theorem tw2800570052845255841:Tk:=Tl
theorem tw2821592275122389253:Tk:=Tl
theorem tw2825341998796452840:Tk:=Tl
theorem tw2876011056497122456:Tk:=Tl
theorem tw2907111362388958804:Tk:=Tl
theorem tw2973143901146584636:Tk:=Tl
theorem tw2976249973925969801:Tk:=Tl
theorem tw2994366008111725845:Tk:=Tl
theorem tw2994772191003457714:Tk:=Tl
theorem tw3021114989795446570:Tk:=Tl
theorem tw3031357335402518240:Tk:=Tl
theorem tw3040085230504974413:Tk:=Tl
theorem tw3062044705579621278:Tk:=Tl
theorem tw3083302935323014018:Tk:=Tl
theorem tw3088210815446039105:Tk:=Tl
theorem tw3089916443595474862:Tk:=Tl
theorem tw3103639331685909893:Tk:=Tl
theorem tw3127049524044150859:Tk:=Tl
theorem tw3160712208675142370:Tk:=Tl
theorem tw3164961170700492040:Tk:=Tl
theorem tw3171451927456968151:Tk:=Tl
theorem tw3185377453876500656:Tk:=Tl
theorem tw3186774066764743411:Tk:=Tl
theorem tw3212073173673764245:Tk:=Tl
theorem tw3223962053107752630:Tk:=Tl
theorem tw3244951577380529755:Tk:=Tl
theorem tw3254172550106833301:Tk:=Tl
theorem tw3290047583113660281:Tk:=Tl
theorem tw3304075619188804072:Tk:=Tl
theorem tw3321875119742208626:Tk:=Tl
theorem tw3333069708870698940:Tk:=Tl
theorem tw3340124654517525194:Tk:=Tl
theorem tw3364305129493290686:Tk:=Tl
theorem tw3368030927266983236:Tk:=Tl
theorem tw3368474557548986910:Tk:=Tl
theorem tw3371767082919648918:Tk:=Tl
theorem tw3390878434225100092:Tk:=Tl
theorem tw3401221922045585347:Tk:=Tl
theorem tw3404819636646143723:Tk:=Tl
theorem tw3405375401864073989:Tk:=Tl
theorem tw3468014072342718959:Tk:=Tl
theorem tw3500380475922496097:Tk:=Tl
theorem tw3501597964444990463:Tk:=Tl
theorem tw3512634313551410195:Tk:=Tl
theorem tw3514389088698752745:Tk:=Tl
theorem tw3539761223686108643:Tk:=Tl
theorem tw3547240966391284428:Tk:=Tl
theorem tw3556061257289618393:Tk:=Tl
theorem tw3581614266968435656:Tk:=Tl
theorem tw3615648651819825313:Tk:=Tl
theorem tw3616486834168423931:Tk:=Tl
theorem tw3644226017259064516:Tk:=Tl
theorem tw3651205649096709438:Tk:=Tl
theorem tw3659646283403374670:Tk:=Tl
theorem tw3688799982635324794:Tk:=Tl
theorem tw3690969761935527329:Tk:=Tl
theorem tw3696042808614700290:Tk:=Tl
theorem tw3715144110773694964:Tk:=Tl
theorem tw3715584954343283195:Tk:=Tl
theorem tw3746228215898030841:Tk:=Tl
theorem tw3749026756887285471:Tk:=Tl
theorem tw3794523003379204399:Tk:=Tl
theorem tw3821945547825155762:Tk:=Tl
theorem tw3859398291796969178:Tk:=Tl
theorem tw3863384581746538084:Tk:=Tl
theorem tw3869590956505411354:Tk:=Tl
theorem tw3898573915619166781:Tk:=Tl
theorem tw3910526619309349007:Tk:=Tl
theorem tw3928599903575798129:Tk:=Tl
theorem tw3940916156864168563:Tk:=Tl
theorem tw3942004810282270783:Tk:=Tl
theorem tw3944913497352057107:Tk:=Tl
theorem tw3973953319845086491:Tk:=Tl
theorem tw3979787820943753880:Tk:=Tl
theorem tw3980653432952411973:Tk:=Tl
theorem tw3991279037241028524:Tk:=Tl
theorem tw4005429485061764775:Tk:=Tl
theorem tw4023466491090337370:Tk:=Tl
theorem tw4063747431996464497:Tk:=Tl
theorem tw4068010885799345606:Tk:=Tl
theorem tw4071276723835451856:Tk:=Tl
theorem tw4073432952366045084:Tk:=Tl
theorem tw4090201507572337743:Tk:=Tl
theorem tw4142019850904089934:Tk:=Tl
theorem tw4151447041120621724:Tk:=Tl
theorem tw4160124254940468481:Tk:=Tl
theorem tw4163069186122357367:Tk:=Tl
theorem tw4176204533620912855:Tk:=Tl
theorem tw4196546014268931301:Tk:=Tl
theorem tw4235852798576303577:Tk:=Tl
theorem tw4239589573987675453:Tk:=Tl
theorem tw4264387012706588817:Tk:=Tl
theorem tw4277651752456152607:Tk:=Tl
theorem tw4311042196063409733:Tk:=Tl
theorem tw4318500180640689126:Tk:=Tl
theorem tw4357005996527412928:Tk:=Tl
theorem tw4377270945021899497:Tk:=Tl
theorem tw4381510469713062047:Tk:=Tl
theorem tw4387028780061031483:Tk:=Tl
theorem tw4389056084150536348:Tk:=Tl
theorem tw4389747894416019800:Tk:=Tl
theorem tw4405531762615560363:Tk:=Tl
theorem tw4405734404675932169:Tk:=Tl
theorem tw4407807290196491609:Tk:=Tl
theorem tw4415685298772064003:Tk:=Tl
theorem tw4419558321834357505:Tk:=Tl
theorem tw4433315090154635215:Tk:=Tl
theorem tw4473611206160876864:Tk:=Tl
theorem tw4489203361448125431:Tk:=Tl
theorem tw4528443807372415038:Tk:=Tl
theorem tw4543076655600059902:Tk:=Tl
theorem tw4554283584077286953:Tk:=Tl
theorem tw4576125674228380541:Tk:=Tl
theorem tw4585157591006285545:Tk:=Tl
theorem tw4591285823534602200:Tk:=Tl
theorem tw4607607821588926596:Tk:=Tl
theorem tw4652900348082922388:Tk:=Tl
theorem tw4673441458371412756:Tk:=Tl
theorem tw4691952243595246448:Tk:=Tl
theorem tw4692888973056910177:Tk:=Tl
theorem tw4702340293382431092:Tk:=Tl
theorem tw4708111749353345164:Tk:=Tl
theorem tw4709128311485490483:Tk:=Tl
theorem tw4746297304354101679:Tk:=Tl
theorem tw4834694072379752904:Tk:=Tl
theorem tw4839655697589452165:Tk:=Tl
theorem tw4874392174073282168:Tk:=Tl
theorem tw4885112425497105109:Tk:=Tl
theorem tw4932745802714450591:Tk:=Tl
theorem tw4947412792043415962:Tk:=Tl
theorem tw4964814941381164201:Tk:=Tl
theorem tw4965378191221513410:Tk:=Tl
theorem tw4975070653579243887:Tk:=Tl
theorem tw4991397462208424806:Tk:=Tl
theorem tw4993741786232285773:Tk:=Tl
theorem tw5013180600929471838:Tk:=Tl
theorem tw5015311536963163689:Tk:=Tl
theorem tw5061997093462229610:Tk:=Tl
theorem tw5064764789634828332:Tk:=Tl
theorem tw5080737588221150853:Tk:=Tl
theorem tw5092371620264689978:Tk:=Tl
theorem tw5096742575497195690:Tk:=Tl
theorem tw5104563664521345299:Tk:=Tl
theorem tw5111174896325423537:Tk:=Tl
theorem tw5111550220656817904:Tk:=Tl
theorem tw5129616035191883695:Tk:=Tl
theorem tw5140934472235413692:Tk:=Tl
theorem tw5141578139466067413:Tk:=Tl
theorem tw5172421753618935790:Tk:=Tl
theorem tw5182153607120983317:Tk:=Tl
theorem tw5187041380464763778:Tk:=Tl
theorem tw5195771902682577575:Tk:=Tl
theorem tw5210181285589595013:Tk:=Tl
theorem tw5240702290290941181:Tk:=Tl
theorem tw5253091568745631028:Tk:=Tl
theorem tw5271886537152271918:Tk:=Tl
theorem tw5274623360512300857:Tk:=Tl
theorem tw5331137831679937033:Tk:=Tl
theorem tw5346772772824661884:Tk:=Tl
theorem tw5353729903917744248:Tk:=Tl
theorem tw5380383263664398348:Tk:=Tl
theorem tw5392078452651409485:Tk:=Tl
theorem tw5401097623525119610:Tk:=Tl
theorem tw5407718363533321033:Tk:=Tl
theorem tw5418945672586834282:Tk:=Tl
theorem tw5438144065070405397:Tk:=Tl
theorem tw5467695095851852608:Tk:=Tl
theorem tw5479459121986351116:Tk:=Tl
theorem tw5487235932777146282:Tk:=Tl
theorem tw5501060405047882677:Tk:=Tl
theorem tw5506250874072839755:Tk:=Tl
theorem tw5508695066786827253:Tk:=Tl
theorem tw5515381820778694223:Tk:=Tl
theorem tw5593727005144783397:Tk:=Tl
theorem tw5612995960945425718:Tk:=Tl
theorem tw5617373736292572815:Tk:=Tl
theorem tw5638995163158488052:Tk:=Tl
theorem tw5651425540991249520:Tk:=Tl
theorem tw5658499677264881363:Tk:=Tl
theorem tw5723944856813171866:Tk:=Tl
theorem tw5725584637647431893:Tk:=Tl
theorem tw5737951250597237232:Tk:=Tl
theorem tw5751227541892866231:Tk:=Tl
theorem tw5776309275727910279:Tk:=Tl
theorem tw5788964047882338313:Tk:=Tl
theorem tw5792407227767346561:Tk:=Tl
theorem tw5797013207949663412:Tk:=Tl
theorem tw5865467396996320769:Tk:=Tl
theorem tw5869485362099743711:Tk:=Tl
theorem tw5881713671565795756:Tk:=Tl
theorem tw5894247764576360081:Tk:=Tl
theorem tw5901594920499545818:Tk:=Tl
theorem tw5906241406904858968:Tk:=Tl
theorem tw5906749814970224870:Tk:=Tl
theorem tw5915552362696249034:Tk:=Tl
theorem tw5916404902352869828:Tk:=Tl
theorem tw5944183977427860380:Tk:=Tl
theorem tw5944575059761466720:Tk:=Tl
theorem tw5950005786790840295:Tk:=Tl
theorem tw5973763720392745831:Tk:=Tl
theorem tw5986637957666399235:Tk:=Tl
theorem tw5996384718915585738:Tk:=Tl
theorem tw6053349399257934933:Tk:=Tl
theorem tw6053997905714604814:Tk:=Tl
theorem tw6079359036626576793:Tk:=Tl
theorem tw6099028997845504075:Tk:=Tl
theorem tw6153569298028143949:Tk:=Tl
theorem tw6157079530059567975:Tk:=Tl
theorem tw6162323617158237712:Tk:=Tl
theorem tw6174258528820157971:Tk:=Tl
theorem tw6202090305015876224:Tk:=Tl
theorem tw6202622434921078099:Tk:=Tl
theorem tw6207834228037699737:Tk:=Tl
theorem tw6212921109956642855:Tk:=Tl
theorem tw6215453301258677876:Tk:=Tl
theorem tw6229939688011154569:Tk:=Tl
theorem tw6232644224018631296:Tk:=Tl
theorem tw6240353410654795137:Tk:=Tl
theorem tw6247268493268985975:Tk:=Tl
theorem tw6260244149815935644:Tk:=Tl
theorem tw6265338273532641288:Tk:=Tl
theorem tw6272251169252508156:Tk:=Tl
theorem tw6298033893332097587:Tk:=Tl
theorem tw6304676298305806467:Tk:=Tl
theorem tw6307057079134178644:Tk:=Tl
theorem tw6327039764776113722:Tk:=Tl
theorem tw6342581108930332356:Tk:=Tl
theorem tw6343081548495622777:Tk:=Tl
theorem tw6369041477666114370:Tk:=Tl
theorem tw6402496994288996404:Tk:=Tl
theorem tw6426539377367359892:Tk:=Tl
theorem tw6474009502463322548:Tk:=Tl
theorem tw6489421142724028100:Tk:=Tl
theorem tw6497301856786237229:Tk:=Tl
theorem tw6507506987150044280:Tk:=Tl
theorem tw6511893084456135703:Tk:=Tl
theorem tw6518409114910312394:Tk:=Tl
theorem tw6544681653968885310:Tk:=Tl
theorem tw6562009823351158392:Tk:=Tl
theorem tw6581712109270413358:Tk:=Tl
theorem tw6585138550035349233:Tk:=Tl
theorem tw6587087628758450585:Tk:=Tl
theorem tw6588589085864783938:Tk:=Tl
theorem tw6595276589069765893:Tk:=Tl
theorem tw6604829842348296887:Tk:=Tl
theorem tw6638625709723660006:Tk:=Tl
theorem tw6640010369347007910:Tk:=Tl
theorem tw6665365088423693247:Tk:=Tl
theorem tw6668890000431947556:Tk:=Tl
theorem tw6684681932595197013:Tk:=Tl
theorem tw6684978435548883818:Tk:=Tl
theorem tw6692803169904595997:Tk:=Tl
theorem tw6737735255597943219:Tk:=Tl
theorem tw6751290297309308749:Tk:=Tl
theorem tw6772502638888315869:Tk:=Tl
theorem tw6836605351468522007:Tk:=Tl
theorem tw6836608696283027097:Tk:=Tl
theorem tw6846597200999610202:Tk:=Tl
theorem tw6847273489543275152:Tk:=Tl
theorem tw6857060684267632606:Tk:=Tl
theorem tw6858743491597560450:Tk:=Tl
theorem tw6870361546347238192:Tk:=Tl
theorem tw6871339299614917876:Tk:=Tl
theorem tw6880043348581005364:Tk:=Tl
theorem tw6889739017440866108:Tk:=Tl
theorem tw6891450509433485068:Tk:=Tl
theorem tw6910089277995645325:Tk:=Tl
theorem tw6925956493692337269:Tk:=Tl
theorem tw6930615606355531631:Tk:=Tl
theorem tw6931653728971238233:Tk:=Tl
theorem tw6968674436765558698:Tk:=Tl
theorem tw7013799640231393816:Tk:=Tl
theorem tw7020426759955784428:Tk:=Tl
theorem tw7044984988248179734:Tk:=Tl
theorem tw7046380642943354848:Tk:=Tl
theorem tw7090939061502383884:Tk:=Tl
theorem tw7096138990903361605:Tk:=Tl
theorem tw7119846925741900413:Tk:=Tl
theorem tw7148437315225170067:Tk:=Tl
theorem tw7150722627226208844:Tk:=Tl
theorem tw7161073391023584161:Tk:=Tl
theorem tw7179252675378151715:Tk:=Tl
theorem tw7195933706287572923:Tk:=Tl
theorem tw7218757217702219634:Tk:=Tl
theorem tw7256407767356113836:Tk:=Tl
theorem tw7270002223443293236:Tk:=Tl
theorem tw7272792461964422541:Tk:=Tl
theorem tw7273171245171862726:Tk:=Tl
theorem tw7287109101882759415:Tk:=Tl
theorem tw7309950759910210094:Tk:=Tl
theorem tw7313386461004707312:Tk:=Tl
theorem tw7358512011923840914:Tk:=Tl
theorem tw7392004362435642628:Tk:=Tl
theorem tw7396500232308049434:Tk:=Tl
theorem tw7415321957212557323:Tk:=Tl
theorem tw7417405269818204032:Tk:=Tl
theorem tw7421959067914383049:Tk:=Tl
theorem tw7447869477702799209:Tk:=Tl
theorem tw7450023128482652576:Tk:=Tl
theorem tw7459580235894062507:Tk:=Tl
theorem tw7492340954919836559:Tk:=Tl
theorem tw7494366503370351645:Tk:=Tl
theorem tw7498250532897285284:Tk:=Tl
theorem tw7512725033676591148:Tk:=Tl
theorem tw7523532297153676066:Tk:=Tl
theorem tw7575806435727305068:Tk:=Tl
theorem tw7582878936473852414:Tk:=Tl
theorem tw7596824489109172434:Tk:=Tl
theorem tw7604411431414283762:Tk:=Tl
theorem tw7616930195647119758:Tk:=Tl
theorem tw7624658959004494543:Tk:=Tl
theorem tw7656372460463219624:Tk:=Tl
theorem tw7658410731251134818:Tk:=Tl
theorem tw7659462814917621580:Tk:=Tl
theorem tw7661765248129044261:Tk:=Tl
theorem tw7680146299302783591:Tk:=Tl
theorem tw7704315382344345624:Tk:=Tl
theorem tw7705420606127192585:Tk:=Tl
theorem tw7712916153251135833:Tk:=Tl
theorem tw7734086686654790897:Tk:=Tl
theorem tw7743085818281968155:Tk:=Tl
theorem tw7748693106545578708:Tk:=Tl
theorem tw7758381527925395934:Tk:=Tl
theorem tw7789450098604059249:Tk:=Tl
theorem tw7802898811600756450:Tk:=Tl
theorem tw7833285031277912329:Tk:=Tl
theorem tw7846308304327970078:Tk:=Tl
theorem tw7876399200375917224:Tk:=Tl
theorem tw7885897083568230588:Tk:=Tl
theorem tw7906546307943345882:Tk:=Tl
theorem tw7928285938522686346:Tk:=Tl
theorem tw7940748693946456147:Tk:=Tl
theorem tw7961726388155042601:Tk:=Tl
theorem tw7992697801930647134:Tk:=Tl
theorem tw7994106446794305319:Tk:=Tl
theorem tw8035625575855466936:Tk:=Tl
theorem tw8041981036286801607:Tk:=Tl
theorem tw8047331064198847621:Tk:=Tl
theorem tw8047541715743884091:Tk:=Tl
theorem tw8062929857114545703:Tk:=Tl
theorem tw8086450761072817414:Tk:=Tl
theorem tw8097174177036852075:Tk:=Tl
theorem tw8101760021730824546:Tk:=Tl
theorem tw8119138517388224971:Tk:=Tl
theorem tw8169693465737517768:Tk:=Tl
theorem tw8172283286065499403:Tk:=Tl
theorem tw8182079617134344778:Tk:=Tl
theorem tw8182465387277545410:Tk:=Tl
theorem tw8185714761375850791:Tk:=Tl
theorem tw8187629637223713605:Tk:=Tl
theorem tw8234971438303653646:Tk:=Tl
theorem tw8264559056461403633:Tk:=Tl
theorem tw8299393411229908732:Tk:=Tl
theorem tw8337448324364255386:Tk:=Tl
theorem tw8382746154173761051:Tk:=Tl
theorem tw8402214883040486957:Tk:=Tl
theorem tw8402328212356670530:Tk:=Tl
theorem tw8408249889716310983:Tk:=Tl
theorem tw8414573866900348196:Tk:=Tl
theorem tw8451055240067260542:Tk:=Tl
theorem tw8451290768687142514:Tk:=Tl
theorem tw8453659626754050520:Tk:=Tl
theorem tw8476099583838051002:Tk:=Tl
theorem tw8476951943066225111:Tk:=Tl
theorem tw8497721794823489343:Tk:=Tl
theorem tw8518231567759158271:Tk:=Tl
theorem tw8534208459206503383:Tk:=Tl
theorem tw8546719886708726068:Tk:=Tl
theorem tw8549075639274686408:Tk:=Tl
theorem tw8550467674348477657:Tk:=Tl
theorem tw8569104457590258164:Tk:=Tl
theorem tw8586521899292070991:Tk:=Tl
theorem tw8595470254474955868:Tk:=Tl
theorem tw8603420104599213669:Tk:=Tl
theorem tw8610661140672950678:Tk:=Tl
theorem tw8618353936845011185:Tk:=Tl
theorem tw8626486368039343599:Tk:=Tl
theorem tw8671685427711848851:Tk:=Tl
theorem tw8758324158161630591:Tk:=Tl
theorem tw8773370040425892893:Tk:=Tl
theorem tw8812732774380208333:Tk:=Tl
theorem tw8815353094830122866:Tk:=Tl
theorem tw8838475285390394957:Tk:=Tl
theorem tw8866670633112419022:Tk:=Tl
theorem tw8874674299285249911:Tk:=Tl
theorem tw8912104118211102971:Tk:=Tl
theorem tw8943219189493157100:Tk:=Tl
theorem tw8988664977312594650:Tk:=Tl
theorem tw8997269238129315039:Tk:=Tl
theorem tw9005204637564801583:Tk:=Tl
theorem tw9030979908501067730:Tk:=Tl
theorem tw9065935926736091543:Tk:=Tl
theorem tw9074772780463953568:Tk:=Tl
theorem tw9083612298779875492:Tk:=Tl
theorem tw9101448428047585222:Tk:=Tl
theorem tw9103479521544129834:Tk:=Tl
theorem tw9107825763807709430:Tk:=Tl
theorem tw9133290819911140118:Tk:=Tl
theorem tw9142320679590124636:Tk:=Tl
theorem tw9145527808636388435:Tk:=Tl
theorem tw9171846695823722306:Tk:=Tl
theorem tw9186546921256032858:Tk:=Tl
theorem tw9196398404247428943:Tk:=Tl
theorem tw9211057245822576837:Tk:=Tl
theorem tw9213911765573242809:Tk:=Tl
theorem tw9214367901419015226:Tk:=Tl
theorem tw9234455393454914656:Tk:=Tl
theorem tw9258293945399652946:Tk:=Tl
theorem tw9259982139148825551:Tk:=Tl
theorem tw9280153536138602973:Tk:=Tl
theorem tw9325057278558614444:Tk:=Tl
theorem tw9353324838224930552:Tk:=Tl
theorem tw9354026244260953042:Tk:=Tl
theorem tw9368406320212774489:Tk:=Tl
theorem tw9374387883903384206:Tk:=Tl
theorem tw9380374249521086144:Tk:=Tl
theorem tw9388430590476628193:Tk:=Tl
theorem tw9449176361245260279:Tk:=Tl
theorem tw9464831228461672588:Tk:=Tl
theorem tw9493678621577581731:Tk:=Tl
theorem tw9495540839478616804:Tk:=Tl
theorem tw9553506758532729402:Tk:=Tl
theorem tw9592777112578238593:Tk:=Tl
theorem tw9601497413559074677:Tk:=Tl
theorem tw9610264321537646536:Tk:=Tl
theorem tw9625377726130185387:Tk:=Tl
theorem tw9644850379433450445:Tk:=Tl
theorem tw9646481798937456297:Tk:=Tl
theorem tw9655098249580616457:Tk:=Tl
theorem tw9658139154387788515:Tk:=Tl
theorem tw9682625523605357890:Tk:=Tl
theorem tw9701577420580846637:Tk:=Tl
theorem tw9716329373054682134:Tk:=Tl
theorem tw9717200733822644074:Tk:=Tl
theorem tw9718778162690014751:Tk:=Tl
theorem tw9743709737119245314:Tk:=Tl
theorem tw9746458257258439470:Tk:=Tl
theorem tw9767149119325585590:Tk:=Tl
theorem tw9777841548286773677:Tk:=Tl
theorem tw9777900189565919194:Tk:=Tl
theorem tw9802980913210911633:Tk:=Tl
theorem tw9820158181544301314:Tk:=Tl
theorem tw9823536610671039419:Tk:=Tl
theorem tw9827913525700040407:Tk:=Tl
theorem tw9867840190021597282:Tk:=Tl
theorem tw9881340216297992761:Tk:=Tl
theorem tw9885750084120196852:Tk:=Tl
theorem tw9894326130215728876:Tk:=Tl
theorem tw9909477652473797434:Tk:=Tl
theorem tw9942188429317320347:Tk:=Tl
theorem tw9966027542202029443:Tk:=Tl
theorem tw9978949632667528635:Tk:=Tl
theorem tw9984397402777080727:Tk:=Tl
theorem tw9987851973559822609:Tk:=Tl
theorem tw9997931420998421608:Tk:=Tl
theorem tw10005452208157733855:Tk:=Tl
theorem tw10010264046613662565:Tk:=Tl
theorem tw10015159338476511836:Tk:=Tl
theorem tw10018764681926925449:Tk:=Tl
theorem tw10021064610941686981:Tk:=Tl
theorem tw10059252607514160932:Tk:=Tl
theorem tw10062970787820224252:Tk:=Tl
theorem tw10066793327743970655:Tk:=Tl
theorem tw10070411193226618655:Tk:=Tl
theorem tw10079960370226730655:Tk:=Tl
theorem tw10104939547818948385:Tk:=Tl
theorem tw10105583180162433683:Tk:=Tl
theorem tw10110233660360586483:Tk:=Tl
theorem tw10116942457455264815:Tk:=Tl
theorem tw10128390137947593754:Tk:=Tl
theorem tw10128820837102578890:Tk:=Tl
theorem tw10170068340998493759:Tk:=Tl
theorem tw10187618423342961781:Tk:=Tl
theorem tw10205530081349824492:Tk:=Tl
theorem tw10242447542790323104:Tk:=Tl
theorem tw10261356005730403935:Tk:=Tl
theorem tw10265929125382437317:Tk:=Tl
theorem tw10270352894671993868:Tk:=Tl
theorem tw10275354952418168282:Tk:=Tl
theorem tw10307130028497402462:Tk:=Tl
theorem tw10333954764705244698:Tk:=Tl
theorem tw10338832156385106289:Tk:=Tl
theorem tw10340462753498674063:Tk:=Tl
theorem tw10356212845559719233:Tk:=Tl
theorem tw10366927770000222440:Tk:=Tl
theorem tw10371985647062452541:Tk:=Tl
theorem tw10389290468125465742:Tk:=Tl
theorem tw10457615780465708087:Tk:=Tl
theorem tw10472834687351259785:Tk:=Tl
theorem tw10504981510240967646:Tk:=Tl
theorem tw10510183946089719056:Tk:=Tl
theorem tw10510622979536455646:Tk:=Tl
theorem tw10519217271611395807:Tk:=Tl
theorem tw10521553517811329670:Tk:=Tl
theorem tw10573961123116132518:Tk:=Tl
theorem tw10589435714200987077:Tk:=Tl
theorem tw10668533816033670360:Tk:=Tl
theorem tw10698650227242318774:Tk:=Tl
theorem tw10706776884845955466:Tk:=Tl
theorem tw10730805705081004914:Tk:=Tl
theorem tw10735254221757914791:Tk:=Tl
theorem tw10736139440505347576:Tk:=Tl
theorem tw10746725682022337571:Tk:=Tl
theorem tw10748227973586771634:Tk:=Tl
theorem tw10786079294511566085:Tk:=Tl
theorem tw10840385229135970747:Tk:=Tl
theorem tw10845400790151957771:Tk:=Tl
theorem tw10875119458065257276:Tk:=Tl
theorem tw10898857373019930491:Tk:=Tl
theorem tw10927441816077202529:Tk:=Tl
theorem tw10936905620487946977:Tk:=Tl
theorem tw10947310743691471603:Tk:=Tl
theorem tw10987702880554017565:Tk:=Tl
theorem tw11005904730967762025:Tk:=Tl
theorem tw11008383303370536362:Tk:=Tl
theorem tw11052631288978436188:Tk:=Tl
theorem tw11060938730435951684:Tk:=Tl
theorem tw11063524718261073790:Tk:=Tl
theorem tw11081218982966106116:Tk:=Tl
theorem tw11097941207591946120:Tk:=Tl
theorem tw11105056867450500199:Tk:=Tl
theorem tw11124748197601291601:Tk:=Tl
theorem tw11128210870785958166:Tk:=Tl
theorem tw11194998557105285118:Tk:=Tl
theorem tw11255790879490906821:Tk:=Tl
theorem tw11274228538900641214:Tk:=Tl
theorem tw11290360913936777911:Tk:=Tl
theorem tw11305582741114486441:Tk:=Tl
theorem tw11308087075614649832:Tk:=Tl
theorem tw11402027661713467040:Tk:=Tl
theorem tw11427066125472700054:Tk:=Tl
theorem tw11434997419882176723:Tk:=Tl
theorem tw11484358847640170188:Tk:=Tl
theorem tw11484797826999851062:Tk:=Tl
theorem tw11540487432870637733:Tk:=Tl
theorem tw11544532188706048022:Tk:=Tl
theorem tw11569442021236766091:Tk:=Tl
theorem tw11582096051123008839:Tk:=Tl
theorem tw11597336398036118778:Tk:=Tl
theorem tw11613311375368785083:Tk:=Tl
theorem tw11628534518673281344:Tk:=Tl
theorem tw11636873012791513418:Tk:=Tl
theorem tw11680266561614322678:Tk:=Tl
theorem tw11692735721529064706:Tk:=Tl
theorem tw11704837465938651953:Tk:=Tl
theorem tw11714945338242495837:Tk:=Tl
theorem tw11732908120936727654:Tk:=Tl
theorem tw11770459041652445329:Tk:=Tl
theorem tw11808996689058197189:Tk:=Tl
theorem tw11820730986300896962:Tk:=Tl
theorem tw11821203517306503961:Tk:=Tl
theorem tw11857307637417881527:Tk:=Tl
theorem tw11862927689305589065:Tk:=Tl
theorem tw11893822550167381502:Tk:=Tl
theorem tw11904684991359361074:Tk:=Tl
theorem tw11914187763297459524:Tk:=Tl
theorem tw11923155195566972133:Tk:=Tl
theorem tw11925700103697007601:Tk:=Tl
theorem tw11988142204041823098:Tk:=Tl
theorem tw11998209505049934977:Tk:=Tl
theorem tw12024539317367501503:Tk:=Tl
theorem tw12032222614953749359:Tk:=Tl
theorem tw12037728316022314418:Tk:=Tl
theorem tw12043669396524033845:Tk:=Tl
theorem tw12074249297620881909:Tk:=Tl
theorem tw12084453891678590660:Tk:=Tl
theorem tw12095829319087573521:Tk:=Tl
theorem tw12120646240234225243:Tk:=Tl
theorem tw12147184966966947637:Tk:=Tl
theorem tw12182850187970735909:Tk:=Tl
theorem tw12201952087667049370:Tk:=Tl
theorem tw12205659690895024086:Tk:=Tl
theorem tw12207028300977255130:Tk:=Tl
theorem tw12212823987433534256:Tk:=Tl
theorem tw12214093580764582487:Tk:=Tl
theorem tw12242153458792446204:Tk:=Tl
theorem tw12244833863542804788:Tk:=Tl
theorem tw12249523057431388528:Tk:=Tl
theorem tw12275693417441809861:Tk:=Tl
theorem tw12280473595433404654:Tk:=Tl
theorem tw12287978374625458572:Tk:=Tl
theorem tw12310735299239354703:Tk:=Tl
theorem tw12324890628731678277:Tk:=Tl
theorem tw12328230846540189838:Tk:=Tl
theorem tw12330954535739239725:Tk:=Tl
theorem tw12339793173418651155:Tk:=Tl
theorem tw12344544660321961925:Tk:=Tl
theorem tw12352672977532951062:Tk:=Tl
theorem tw12359489953124434286:Tk:=Tl
theorem tw12362083183470981646:Tk:=Tl
theorem tw12364624919760631829:Tk:=Tl
theorem tw12371566548271132015:Tk:=Tl
theorem tw12385872997891368232:Tk:=Tl
theorem tw12394069701764826827:Tk:=Tl
theorem tw12398312691204496596:Tk:=Tl
theorem tw12417293695627231756:Tk:=Tl
theorem tw12427710115714267126:Tk:=Tl
theorem tw12428389735305899900:Tk:=Tl
theorem tw12460202669355646752:Tk:=Tl
theorem tw12472887615940459650:Tk:=Tl
theorem tw12475708393154427166:Tk:=Tl
theorem tw12478146576626367362:Tk:=Tl
theorem tw12489392125719316460:Tk:=Tl
theorem tw12542841389457131302:Tk:=Tl
theorem tw12550804045273059180:Tk:=Tl
theorem tw12573619785200380473:Tk:=Tl
theorem tw12596154207471609045:Tk:=Tl
theorem tw12601080634535202701:Tk:=Tl
theorem tw12604462930493870256:Tk:=Tl
theorem tw12611893724949602041:Tk:=Tl
theorem tw12630350610049390935:Tk:=Tl
theorem tw12668424612319814730:Tk:=Tl
theorem tw12682429181067543257:Tk:=Tl
theorem tw12695399030622205104:Tk:=Tl
theorem tw12723833596933988784:Tk:=Tl
theorem tw12727220549172885185:Tk:=Tl
theorem tw12740806245664736207:Tk:=Tl
theorem tw12763952150808568291:Tk:=Tl
theorem tw12764128322984676335:Tk:=Tl
theorem tw12775505166333009402:Tk:=Tl
theorem tw12795389718870424448:Tk:=Tl
theorem tw12799616582074740251:Tk:=Tl
theorem tw12822298378996975857:Tk:=Tl
theorem tw12841863872788715202:Tk:=Tl
theorem tw12851702773856589430:Tk:=Tl
theorem tw12856577281151766611:Tk:=Tl
theorem tw12858780395421280599:Tk:=Tl
theorem tw12865059321931465230:Tk:=Tl
theorem tw12870424476946447624:Tk:=Tl
theorem tw12875325457547866274:Tk:=Tl
theorem tw12892129938458570674:Tk:=Tl
theorem tw12903917746401883607:Tk:=Tl
theorem tw12908475990344208633:Tk:=Tl
theorem tw12949380547846470161:Tk:=Tl
theorem tw12987040726578829979:Tk:=Tl
theorem tw13002585709282622103:Tk:=Tl
theorem tw13065621461132903086:Tk:=Tl
theorem tw13078646160514809887:Tk:=Tl
theorem tw13086575352542018947:Tk:=Tl
theorem tw13135395098459392958:Tk:=Tl
theorem tw13137911371727378231:Tk:=Tl
theorem tw13165147918651461345:Tk:=Tl
theorem tw13180129090757240718:Tk:=Tl
theorem tw13199516396595161752:Tk:=Tl
theorem tw13216898753189638151:Tk:=Tl
theorem tw13276723143375012678:Tk:=Tl
theorem tw13277643439714857746:Tk:=Tl
theorem tw13294958713779813728:Tk:=Tl
theorem tw13295082483830516422:Tk:=Tl
theorem tw13295774097974887486:Tk:=Tl
theorem tw13315729282080922261:Tk:=Tl
theorem tw13335025841360890868:Tk:=Tl
theorem tw13353151263460963528:Tk:=Tl
theorem tw13357441389134331599:Tk:=Tl
theorem tw13379202705063549618:Tk:=Tl
theorem tw13379354915994877463:Tk:=Tl
theorem tw13381877923881390905:Tk:=Tl
theorem tw13381936622781507537:Tk:=Tl
theorem tw13397106695672350980:Tk:=Tl
theorem tw13448663612475342349:Tk:=Tl
theorem tw13488047542759136002:Tk:=Tl
theorem tw13504307299585405616:Tk:=Tl
theorem tw13508044439285423174:Tk:=Tl
theorem tw13510609219080548989:Tk:=Tl
theorem tw13537664574400122534:Tk:=Tl
theorem tw13585267454733459922:Tk:=Tl
theorem tw13600378441667735501:Tk:=Tl
theorem tw13605870324054321959:Tk:=Tl
theorem tw13631071318896544983:Tk:=Tl
theorem tw13650549970936915252:Tk:=Tl
theorem tw13653928888864918839:Tk:=Tl
theorem tw13664066127859960707:Tk:=Tl
theorem tw13687475568465949530:Tk:=Tl
theorem tw13689084217373910675:Tk:=Tl
theorem tw13697588214506672789:Tk:=Tl
theorem tw13708957947011138092:Tk:=Tl
theorem tw13743032657059413451:Tk:=Tl
theorem tw13750642191701924398:Tk:=Tl
theorem tw13846591363081406657:Tk:=Tl
theorem tw13896987355042952010:Tk:=Tl
theorem tw13906610036690215845:Tk:=Tl
theorem tw13910694723763315657:Tk:=Tl
theorem tw13917482298092908234:Tk:=Tl
theorem tw13932022402069264104:Tk:=Tl
theorem tw13942192884097748152:Tk:=Tl
theorem tw13955511503576765797:Tk:=Tl
theorem tw13988103294471073821:Tk:=Tl
theorem tw13999681649124312864:Tk:=Tl
theorem tw14059167943309011982:Tk:=Tl
theorem tw14061139507663348314:Tk:=Tl
theorem tw14068133799693864440:Tk:=Tl
theorem tw14078167904914714981:Tk:=Tl
theorem tw14083850284487924763:Tk:=Tl
theorem tw14086173767186703872:Tk:=Tl
theorem tw14088839388186607084:Tk:=Tl
theorem tw14090159008775844135:Tk:=Tl
theorem tw14112020806712329415:Tk:=Tl
theorem tw14112051064653734678:Tk:=Tl
theorem tw14127983276867164173:Tk:=Tl
theorem tw14139617269561922093:Tk:=Tl
theorem tw14149427978524627653:Tk:=Tl
theorem tw14149492867418468938:Tk:=Tl
theorem tw14158537116620707164:Tk:=Tl
theorem tw14168692526580214153:Tk:=Tl
theorem tw14195316510222423288:Tk:=Tl
theorem tw14205479233844494046:Tk:=Tl
theorem tw14220653579789841498:Tk:=Tl
theorem tw14234965402570480558:Tk:=Tl
theorem tw14241001667801471300:Tk:=Tl
theorem tw14255830675389880745:Tk:=Tl
theorem tw14277528927401260903:Tk:=Tl
theorem tw14330330676051879864:Tk:=Tl
theorem tw14344768424176206936:Tk:=Tl
theorem tw14349913743752837093:Tk:=Tl
theorem tw14364637388885140079:Tk:=Tl
theorem tw14393718171448925343:Tk:=Tl
theorem tw14417885227837004991:Tk:=Tl
theorem tw14427283581363961175:Tk:=Tl
theorem tw14488727979953464203:Tk:=Tl
theorem tw14492117785962260688:Tk:=Tl
theorem tw14512941343882779238:Tk:=Tl
theorem tw14513887754847984766:Tk:=Tl
theorem tw14524160177008508720:Tk:=Tl
theorem tw14527164170590304321:Tk:=Tl
theorem tw14531177953140590962:Tk:=Tl
theorem tw14565420633037775528:Tk:=Tl
theorem tw14586503196746008701:Tk:=Tl
theorem tw14597329475937083939:Tk:=Tl
theorem tw14628233357713752721:Tk:=Tl
theorem tw14631306762972528136:Tk:=Tl
theorem tw14631705268626504575:Tk:=Tl
theorem tw14637134836413734856:Tk:=Tl
theorem tw14643560169476415855:Tk:=Tl
theorem tw14643959010103036307:Tk:=Tl
theorem tw14646466228836335164:Tk:=Tl
theorem tw14676189674455941282:Tk:=Tl
theorem tw14679116673082234219:Tk:=Tl
theorem tw14699528089545365996:Tk:=Tl
theorem tw14699756766385990792:Tk:=Tl
theorem tw14721649852327151169:Tk:=Tl
theorem tw14735301032572234722:Tk:=Tl
theorem tw14740928361383774428:Tk:=Tl
theorem tw14744981736328886265:Tk:=Tl
theorem tw14746898714274692784:Tk:=Tl
theorem tw14759185912286986992:Tk:=Tl
theorem tw14768688571040804171:Tk:=Tl
theorem tw14788773977795034992:Tk:=Tl
theorem tw14796412885826930917:Tk:=Tl
theorem tw14843749296085226474:Tk:=Tl
theorem tw14909605222495392915:Tk:=Tl
theorem tw14922436083285072407:Tk:=Tl
theorem tw14943480678444902952:Tk:=Tl
theorem tw14946772226789246504:Tk:=Tl
theorem tw14956371261235936329:Tk:=Tl
theorem tw14959218684248593190:Tk:=Tl
theorem tw14969385696402013904:Tk:=Tl
theorem tw14969395210118534408:Tk:=Tl
theorem tw14969872817325187116:Tk:=Tl
theorem tw14982685227137828758:Tk:=Tl
theorem tw14999265807660949796:Tk:=Tl
theorem tw15012772271602616124:Tk:=Tl
theorem tw15022480046535758418:Tk:=Tl
theorem tw15035418422258542911:Tk:=Tl
theorem tw15037083628117588352:Tk:=Tl
theorem tw15039987702171664376:Tk:=Tl
theorem tw15052771764104931649:Tk:=Tl
theorem tw15064752311394979489:Tk:=Tl
theorem tw15091486752826498866:Tk:=Tl
theorem tw15112835437128306455:Tk:=Tl
theorem tw15127644999133008818:Tk:=Tl
theorem tw15142167089309388077:Tk:=Tl
theorem tw15171285062763278426:Tk:=Tl
theorem tw15181326774706428367:Tk:=Tl
theorem tw15204471325056678010:Tk:=Tl
theorem tw15215111219801757744:Tk:=Tl
theorem tw15248001044337979736:Tk:=Tl
theorem tw15250023729529759990:Tk:=Tl
theorem tw15253147559959296200:Tk:=Tl
theorem tw15253846138512369154:Tk:=Tl
theorem tw15256841493749336786:Tk:=Tl
theorem tw15296082917334920728:Tk:=Tl
theorem tw15305915472762889579:Tk:=Tl
theorem tw15317023959539522800:Tk:=Tl
theorem tw15326552575505426906:Tk:=Tl
theorem tw15328847239876097677:Tk:=Tl
theorem tw15330342782969278459:Tk:=Tl
theorem tw15392136045813129965:Tk:=Tl
theorem tw15399148058966210843:Tk:=Tl
theorem tw15436542981012472205:Tk:=Tl
theorem tw15452280279296900796:Tk:=Tl
theorem tw15468718075485040107:Tk:=Tl
theorem tw15501141472565082077:Tk:=Tl
theorem tw15506723302920939300:Tk:=Tl
theorem tw15582730294447300881:Tk:=Tl
theorem tw15604011560834605598:Tk:=Tl
theorem tw15638870477510070732:Tk:=Tl
theorem tw15647610678857825673:Tk:=Tl
theorem tw15656768269340197940:Tk:=Tl
theorem tw15666658371737129944:Tk:=Tl
theorem tw15676425527210111115:Tk:=Tl
theorem tw15682741785845805564:Tk:=Tl
theorem tw15736342250582547807:Tk:=Tl
theorem tw15781038721244158349:Tk:=Tl
theorem tw15782939476341012554:Tk:=Tl
theorem tw15794997505209512671:Tk:=Tl
theorem tw15796087645652482245:Tk:=Tl
theorem tw15798066900824788120:Tk:=Tl
theorem tw15832300201269216667:Tk:=Tl
theorem tw15838623164411332158:Tk:=Tl
theorem tw15840312062823119879:Tk:=Tl
theorem tw15841401105113185080:Tk:=Tl
theorem tw15845715064670954444:Tk:=Tl
theorem tw15873191416987729925:Tk:=Tl
theorem tw15894371620910866019:Tk:=Tl
theorem tw15895748673760503845:Tk:=Tl
theorem tw15898109809663626304:Tk:=Tl
theorem tw15898970277018273793:Tk:=Tl
theorem tw15924019268735266097:Tk:=Tl
theorem tw15967466079928408925:Tk:=Tl
theorem tw16014373381606645092:Tk:=Tl
theorem tw16031315777459398524:Tk:=Tl
theorem tw16065611263816554750:Tk:=Tl
theorem tw16065720564569863766:Tk:=Tl
theorem tw16072502192527678464:Tk:=Tl
theorem tw16078238667976319046:Tk:=Tl
theorem tw16106133796442146334:Tk:=Tl
theorem tw16111715859725283846:Tk:=Tl
theorem tw16138378287714980278:Tk:=Tl
theorem tw16157028059845574642:Tk:=Tl
theorem tw16166440364842034014:Tk:=Tl
theorem tw16172356507618199906:Tk:=Tl
theorem tw16175233474957185256:Tk:=Tl
theorem tw16226220715811633075:Tk:=Tl
theorem tw16278871845796110771:Tk:=Tl
theorem tw16291991722392533869:Tk:=Tl
theorem tw16332062296072025786:Tk:=Tl
theorem tw16446913148795680959:Tk:=Tl
theorem tw16470739840699324481:Tk:=Tl
theorem tw16472945084836616533:Tk:=Tl
theorem tw16474958459275807246:Tk:=Tl
theorem tw16481179823495478772:Tk:=Tl
theorem tw16495435189000846180:Tk:=Tl
theorem tw16530349751119242087:Tk:=Tl
theorem tw16545597347906280737:Tk:=Tl
theorem tw16546490078704341612:Tk:=Tl
theorem tw16572314662081343053:Tk:=Tl
theorem tw16576625349610184965:Tk:=Tl
theorem tw16582591585412914238:Tk:=Tl
theorem tw16640130746408290383:Tk:=Tl
theorem tw16647155751929229394:Tk:=Tl
theorem tw16652688526520581961:Tk:=Tl
theorem tw16659920880120507502:Tk:=Tl
theorem tw16695014060947850149:Tk:=Tl
theorem tw16703865258624009325:Tk:=Tl
theorem tw16714887947964762639:Tk:=Tl
theorem tw16723652938130148585:Tk:=Tl
theorem tw16753123920654623182:Tk:=Tl
theorem tw16769997242578385675:Tk:=Tl
theorem tw16800043278716471037:Tk:=Tl
theorem tw16817119741492734445:Tk:=Tl
theorem tw16821450928103126590:Tk:=Tl
theorem tw16828514060538661750:Tk:=Tl
theorem tw16845296645482713644:Tk:=Tl
theorem tw16847831306532103052:Tk:=Tl
theorem tw16871623187472473471:Tk:=Tl
theorem tw16874305072444578374:Tk:=Tl
theorem tw16888070154925205155:Tk:=Tl
theorem tw16894197260953374720:Tk:=Tl
theorem tw16894393574925625578:Tk:=Tl
theorem tw16894561301568121468:Tk:=Tl
theorem tw16903022960794457021:Tk:=Tl
theorem tw16917608666046251313:Tk:=Tl
theorem tw16922147877168347812:Tk:=Tl
theorem tw16942090399603786721:Tk:=Tl
theorem tw16952181060025214987:Tk:=Tl
theorem tw16962450398199861240:Tk:=Tl
theorem tw16966009324859112401:Tk:=Tl
theorem tw16974685034882416825:Tk:=Tl
theorem tw16984083398119652359:Tk:=Tl
theorem tw17002534310236347988:Tk:=Tl
theorem tw17007033763367706731:Tk:=Tl
theorem tw17008234436448823602:Tk:=Tl
theorem tw17014415605687186514:Tk:=Tl
theorem tw17014734716931888790:Tk:=Tl
theorem tw17015032458148788900:Tk:=Tl
theorem tw17024340208454683379:Tk:=Tl
theorem tw17037872496334206203:Tk:=Tl
theorem tw17047625674926534286:Tk:=Tl
theorem tw17050696954950088759:Tk:=Tl
theorem tw17062125606838978880:Tk:=Tl
theorem tw17109638464079675080:Tk:=Tl
theorem tw17113217626458354986:Tk:=Tl
theorem tw17129914584562691343:Tk:=Tl
theorem tw17142359554024780413:Tk:=Tl
theorem tw17156091980717111821:Tk:=Tl
theorem tw17173245716831642929:Tk:=Tl
theorem tw17173436117698932495:Tk:=Tl
theorem tw17188972718952451159:Tk:=Tl
theorem tw17194126546080390198:Tk:=Tl
theorem tw17197444120159719569:Tk:=Tl
theorem tw17212568112599259466:Tk:=Tl
theorem tw17238610979035211840:Tk:=Tl
theorem tw17243387458012846398:Tk:=Tl
theorem tw17262968490309938674:Tk:=Tl
theorem tw17265401458761052179:Tk:=Tl
theorem tw17275705279478898512:Tk:=Tl
theorem tw17304152732226823993:Tk:=Tl
theorem tw17332727794074296334:Tk:=Tl
theorem tw17339705970751849611:Tk:=Tl
theorem tw17346037399652195860:Tk:=Tl
theorem tw17362218986543327160:Tk:=Tl
theorem tw17377423518514600169:Tk:=Tl
theorem tw17411354535832351560:Tk:=Tl
theorem tw17444863063712431705:Tk:=Tl
theorem tw17453365369857097546:Tk:=Tl
theorem tw17458890533420659534:Tk:=Tl
theorem tw17486074103640542121:Tk:=Tl
theorem tw17522360388414511382:Tk:=Tl
theorem tw17525636777796739105:Tk:=Tl
theorem tw17539234302018041193:Tk:=Tl
theorem tw17552560543380974038:Tk:=Tl
theorem tw17553620660974883448:Tk:=Tl
theorem tw17573037796337583832:Tk:=Tl
theorem tw17577399041416155939:Tk:=Tl
theorem tw17595797816247731874:Tk:=Tl
theorem tw17630500395600762314:Tk:=Tl
theorem tw17646911460466567920:Tk:=Tl
theorem tw17658000642845759554:Tk:=Tl
theorem tw17698105195316432488:Tk:=Tl
theorem tw17700853532424174462:Tk:=Tl
theorem tw17725469503822016867:Tk:=Tl
theorem tw17768545326873755256:Tk:=Tl
theorem tw17769433529836712537:Tk:=Tl
theorem tw17782148633632673465:Tk:=Tl
theorem tw17789423225533864492:Tk:=Tl
theorem tw17799944620789180261:Tk:=Tl
theorem tw17821319399108415887:Tk:=Tl
theorem tw17826015225549371706:Tk:=Tl
theorem tw17836260108008149386:Tk:=Tl
theorem tw17836618258811950860:Tk:=Tl
theorem tw17854890406432584798:Tk:=Tl
theorem tw17861090557041406298:Tk:=Tl
theorem tw17889261914703972767:Tk:=Tl
theorem tw17890245599415353634:Tk:=Tl
theorem tw17894702793023417833:Tk:=Tl
theorem tw17958272820484234708:Tk:=Tl
theorem tw17972497016974392416:Tk:=Tl
theorem tw17975491588444890076:Tk:=Tl
theorem tw17988201657351507238:Tk:=Tl
theorem tw17993767162375566018:Tk:=Tl
theorem tw17994261503862256477:Tk:=Tl
theorem tw18007968972792079559:Tk:=Tl
theorem tw18014224886719972007:Tk:=Tl
theorem tw18051680202136193954:Tk:=Tl
theorem tw18060483585939721653:Tk:=Tl
theorem tw18081138779251354973:Tk:=Tl
theorem tw18095809974233413182:Tk:=Tl
theorem tw18123143868385100064:Tk:=Tl
theorem tw18125128294737035143:Tk:=Tl
theorem tw18164835968555783806:Tk:=Tl
theorem tw18176413224385145225:Tk:=Tl
theorem tw18177109656662797139:Tk:=Tl
theorem tw18177665153149118353:Tk:=Tl
theorem tw18192872963121912645:Tk:=Tl
theorem tw18215824643853355119:Tk:=Tl
theorem tw18254194996027185994:Tk:=Tl
theorem tw18277060748420158845:Tk:=Tl
theorem tw18282902561792777199:Tk:=Tl
theorem tw18331334602107656470:Tk:=Tl
theorem tw18332285231265401824:Tk:=Tl
theorem tw18332689328565389885:Tk:=Tl
theorem tw18345104242076519216:Tk:=Tl
theorem tw18364922244981856966:Tk:=Tl
theorem tw18384547517478447814:Tk:=Tl
theorem tw18416563613846182222:Tk:=Tl
theorem tw18419137052163196841:Tk:=Tl
theorem tw18433677622606106133:Tk:=Tl
end head
set_option Elab.async true
set_option maxRecDepth 100000 in
set_option maxHeartbeats 8000000 in
theorem head : PySem.Challenge.rw_rr0108_01.Holds := by
  w_on; o_law; k_head
  (case hw => w_witness2)
  exact Internal.walk (fun P => ⟨by kernel_rfl, by kernel_rfl, by kernel_rfl, by kernel_rfl, by kernel_rfl, by kernel_rfl, by kernel_rfl, by kernel_rfl, by kernel_rfl, by kernel_rfl⟩) (fun P => by kernel_rfl) rfl (by kernel_rfl) (by kernel_rfl)
end Mine
set_option Elab.async false
theorem PySem.Challenge.cw_rr0108_01_holds : PySem.Challenge.rw_rr0108_01.Holds :=
  Mine.head
