import PyProof.Rows.All
import Wide.All
import OpenK.AllK
import Wide.FinOn
import Lean
import PySem.Challenge.RW_up0039_01
set_option Elab.async false
set_option maxRecDepth 100000
set_option maxHeartbeats 0
set_option linter.unusedVariables false
set_option linter.unusedSectionVars false
set_option linter.unusedSimpArgs false
noncomputable section
namespace Up
local macro_rules |`(def $i:declId $s:optDeclSig $v:declVal)=>`(noncomputable def $i:declId $s:optDeclSig $v:declVal)
abbrev Lm:=List
abbrev Qj:=PySem.Shared
abbrev Ę:=PySem.Value
abbrev Ģ:=Bool
abbrev Ĳ:=Option
abbrev ĳ:=PySem.Expr
abbrev Ĵ:=Nat
abbrev ĵ:=Int
abbrev aJ:=@Nat.le_trans
abbrev bc:=@PySem.wpAny_bind
abbrev bl:=@if_pos
abbrev bt:=@if_neg
abbrev bR:=@List.length_map
abbrev bX:=@congrArg
abbrev b1:=@PySem.wpAny_pure
abbrev cV:=@List.mem_singleton
abbrev cY:=@Option.some.inj
abbrev c4:=@List.map_append
abbrev c_:=@List.length_append
abbrev da:=@Nat.succ_le_succ
abbrev dn:=@List.mem_map
abbrev dy:=@Nat.le_refl
abbrev dQ:=@decide_eq_true
abbrev d6:=@List.all_eq_true
abbrev eo:=@List.size_toArray
abbrev eC:=@decide_eq_false
abbrev eE:=@LawfulBEq.eq_of_beq
abbrev eJ:=@List.mem_cons
abbrev eM:=@Bool.false_ne_true
abbrev eW:=@Bool.and_eq_true
abbrev fl:=@List.getElem?_eq_getElem
abbrev fx:=@List.map_cons
abbrev fy:=@List.mem_map_of_mem
abbrev fz:=@of_decide_eq_true
abbrev fO:=@Nat.add_le_add_right
abbrev fN:=@beq_iff_eq
abbrev fU:=@Nat.le_of_eq
abbrev fZ:=@List.isEmpty_iff
abbrev f7:=@Nat.zero_le
abbrev f8:=@List.map_map
abbrev gm:=@List.mem_append
abbrev gp:=@Nat.add_le_add_left
abbrev gz:=@List.mem_filter
abbrev gI:=@Nat.lt_of_lt_of_le
abbrev gJ:=@Nat.add_le_add
abbrev gG:=@Nat.ne_of_lt
abbrev gT:=@List.append_nil
abbrev gS:=@List.getElem?_map
abbrev gQ:=@Bool.and_eq_true_iff
abbrev gO:=@PySem.Heap.get?_push_size
abbrev gU:=@PySem.wpAny_holding
abbrev hb:=@List.getElem?_eq_some_iff
abbrev g2:=@Option.isSome_iff_exists
abbrev hc:=@Nat.mul_le_mul_left
abbrev hN:=@Nat.lt_of_le_of_lt
abbrev hS:=@List.append_assoc
abbrev h2:=@List.filter_cons
abbrev hT:=@List.nodup_cons
abbrev h5:=@Ne.symm
abbrev ib:=@List.mem_of_getElem?
abbrev ih:=@PySem.Heap.get?_push_of_some
abbrev iK:=@Nat.le_of_ble_eq_true
abbrev iM:=@Int.ofNat_lt
abbrev iG:=@Nat.zero_add
abbrev iL:=@Nat.le_succ_of_le
abbrev iA:=@List.mem_append_right
abbrev jV:=@beq_self_eq_true
abbrev jF:=@List.mem_flatMap
abbrev jD:=@decide_eq_true_eq
abbrev kq:=@Nat.le_of_lt
abbrev j2:=@Bool.not_eq_true'
abbrev j5:=@Nat.le_succ
abbrev jZ:=@Nat.lt_irrefl
abbrev kr:=@congrFun
abbrev j_:=@PySem.Heap.lt_size
abbrev kQ:=@List.mem_append_left
abbrev kB:=@List.lookup_cons
abbrev kK:=@PySem.sizeLine_eq
abbrev li:=@Nat.le_of_succ_le
abbrev lL:=@List.mem_range
abbrev lN:=@List.getD_eq_getElem?_getD
abbrev lf:=@beq_eq_false_iff_ne
abbrev lG:=@PySem.wpAny_mono
abbrev mE:=@List.length_cons
abbrev l':=@List.filter_append
abbrev l1:=@List.length_filter_le
abbrev mx:=@Bool.or_eq_true
abbrev nt:=@Int.natCast_nonneg
abbrev nd:=@List.nodup_append
abbrev mM:=@Nat.le_add_right
abbrev ny:=@decide_eq_false_iff_not
abbrev nE:=@Prod.ext
abbrev nA:=@Nat.lt_succ_of_lt
abbrev mH:=@PySem.wpAny_call_entry
abbrev nn:=@List.mem_toArray
abbrev nu:=@List.getElem?_set_ne
abbrev oG:=@Nat.succ_pos
abbrev o1:=@List.getElem?_append_left
abbrev pe:=@List.length_singleton
abbrev oS:=@List.all_map
abbrev pf:=@List.getElem?_append_right
abbrev o':=@Int.ofNat_eq_zero
abbrev qK:=@List.flatMap_cons
abbrev qL:=@Nat.lt_trans
abbrev qh:=@Nat.add_comm
abbrev qr:=@Int.toNat_natCast
abbrev pR:=@Bool.or_eq_false_iff
abbrev qD:=@Nat.lt_succ_self
abbrev pH:=@PySem.wpAny_standAt
abbrev qv:=@if_true
abbrev pU:=@Option.isNone_iff_eq_none
abbrev rF:=@Nat.add_assoc
abbrev q0:=@Nat.le_of_not_lt
abbrev q1:=@List.nodup_nil
abbrev rq:=@List.any_eq_true
abbrev rz:=@Nat.not_lt
abbrev rn:=@PySem.wpAny_Name
abbrev rm:=@PySem.wpAny_truthy_bool
abbrev rD:=@Bool.false_eq_true
abbrev ri:=@if_false
abbrev rv:=@PyProof.Rows.slot_tuple_getitem
abbrev q2:=@List.getElem?_set
abbrev rM:=@List.mem_cons_of_mem
abbrev rl:=@PySem.Heap.size_push
abbrev tL:=@List.cons.inj
abbrev tF:=@List.pairwise_cons
abbrev sH:=@List.flatMap_append
abbrev s':=@List.flatMap_singleton
abbrev th:=@List.cons.injEq
abbrev s3:=@List.length_range
abbrev sb:=@Int.sub_zero
abbrev sG:=@List.take_of_length_le
abbrev sO:=@Nat.mod_lt
abbrev tn:=@Nat.sub_le
abbrev s0:=@Bool.and_false
abbrev tG:=@List.all_cons
abbrev r9:=@PySem.wpAny_rule
abbrev tp:=@PySem.Heap.get?_update_self
abbrev sf:=@PySem.wpAny_callSpecial?_slot
abbrev r1:=@List.find?_some
abbrev t0:=@List.mem_cons_self
abbrev tD:=@PySem.Heap.get?_push_ne
abbrev v5:=@Nat.le_of_succ_le_succ
abbrev wB:=@List.length_nil
abbrev v2:=@of_decide_eq_false
abbrev uB:=@List.filter_eq_nil_iff
abbrev ut:=@Nat.sub_self
abbrev ux:=@List.length_take_of_le
abbrev v9:=@Nat.succ_add_eq_add_succ
abbrev vA:=@Nat.le_antisymm
abbrev wz:=@Int.le_trans
abbrev ud:=@Int.ofNat_le
abbrev v7:=@decide_eq_decide
abbrev uH:=@List.length_replicate
abbrev u6:=@Nat.succ_lt_succ
abbrev u1:=@List.length_drop
abbrev v1:=@List.getElem?_drop
abbrev wF:=@Nat.ne_of_beq_eq_false
abbrev vZ:=@PySem.Heap.SameBut.update
abbrev uU:=@PySem.wpAny_sequenceKey
abbrev vd:=@PySem.wpAny_newObj_type
abbrev ue:=@List.mem_of_find?_eq_some
abbrev vR:=@PySem.Calls.spliced_cons
abbrev uc:=@List.not_lt
abbrev uG:=@PySem.wpAny_newList
abbrev vg:=@PySem.Heap.size_update
abbrev ze:=@Nat.le_of_lt_succ
abbrev xP:=@Nat.mul_add
abbrev w_:=@List.getElem_mem
abbrev y0:=@List.not_mem_nil
abbrev zM:=@Nat.lt_succ_of_le
abbrev xp:=@List.drop_eq_getElem_cons
abbrev xR:=@Nat.add_right_comm
abbrev y':=@List.take_add_one
abbrev yM:=@Nat.not_lt_zero
abbrev x_:=@Nat.ne_of_gt
abbrev yW:=@Int.eq_ofNat_of_zero_le
abbrev yn:=@Bool.or_true
abbrev zN:=@List.pairwise_map
abbrev zB:=@List.map_replicate
abbrev zr:=@Nat.add_lt_add
abbrev zA:=@List.length_eq_zero_iff
abbrev wS:=@Bool.not_eq_true
abbrev xI:=@List.length_take
abbrev yY:=@Option.map_eq_some_iff
abbrev zi:=@PySem.wpAny_specialOf
abbrev yZ:=@PySem.F.slot_tuple_hash
abbrev wP:=@List.findIdx?_cons
abbrev w3:=@And.right
abbrev x5:=@PySem.wpAny_Call_method1_late
abbrev y1:=@PySem.wpAny_Expr
abbrev zj:=@List.zip_cons_cons
abbrev wT:=@List.lt_trans
abbrev yG:=@PyProof.Rows.listUpdate_at
abbrev Co:=@List.getElem_inj
abbrev A3:=@List.map_nil
abbrev EL:=@List.cons_append
abbrev AY:=@List.drop_zero
abbrev De:=@Nat.lt_asymm
abbrev Do:=@Int.ofNat_inj
abbrev BH:=@List.flatMap_map
abbrev zU:=@Nat.lt_or_ge
abbrev C7:=@Int.ofNat_fmod
abbrev C4:=@Nat.add_sub_cancel_left
abbrev Dt:=@List.filter_sublist
abbrev AA:=@List.mem_reverse
abbrev DC:=@Bool.true_and
abbrev CQ:=@Bool.and_true
abbrev zY:=@List.contains_iff_mem
abbrev DS:=@Option.some.injEq
abbrev CZ:=@Nat.sub_zero
abbrev C1:=@List.getElem?_eq_none
abbrev AJ:=@List.mem_iff_getElem?
abbrev AO:=@List.mem_of_mem_take
abbrev Ec:=@Nat.min_le_left
abbrev Bw:=@List.range_succ_eq_map
abbrev Ao:=@bne_iff_ne
abbrev A9:=@List.cons_lt_cons_iff
abbrev BG:=@List.any_cons
abbrev C3:=@Bool.not_true
abbrev Bc:=@List.ext_getElem?
abbrev AN:=@PySem.slot_dict_contains
abbrev AW:=@PySem.slot_dict_getitem
abbrev ER:=@Int.negSucc_lt_zero
abbrev BS:=@List.dropLast_eq_take
abbrev Es:=@Int.not_lt
abbrev A8:=@PySem.Heap.IsSliceOf.new
abbrev Eo:=@Int.le_of_lt
abbrev BE:=@PySem.Calls.call_function_entry
abbrev z6:=@PySem.wpAny_Call_NameR
abbrev EF:=@PySem.Calls.evalArgs_plain
abbrev EE:=@PySem.Calls.spliced_nil
abbrev Bp:=@List.forIn_cons
abbrev DR:=@PySem.wpAny_Assign_Name
abbrev Dc:=@PySem.Heap.get?_update_other
abbrev Eb:=@List.filterMap_cons
abbrev Ai:=@Nat.sub_succ_lt_self
abbrev A':=@PySem.wpAny_comprehension_free
abbrev CX:=@List.lookup_append
abbrev Em:=@Nat.add_sub_cancel'
abbrev Dj:=@List.lt_irrefl
abbrev KQ:=@List.pairwise_singleton
abbrev Iq:=@List.Perm.eq_of_pairwise
abbrev Hl:=@List.replicate_succ
abbrev MC:=@Nat.lt_of_le_of_ne
abbrev Kz:=@List.length_erase_of_mem
abbrev Lp:=@Nat.le_succ_of_pred_le
abbrev JX:=@List.getElem_range
abbrev HG:=@List.getElem?_cons_zero
abbrev GY:=@Nat.lt_of_succ_lt_succ
abbrev Lw:=@Nat.not_succ_le_zero
abbrev Lf:=@Int.ofNat_ne_zero
abbrev Gz:=@Nat.lt_trichotomy
abbrev Me:=@List.length_take_le'
abbrev FJ:=@Nat.add_lt_add_left
abbrev I1:=@List.length_take_le
abbrev Fm:=@List.map_inj_right
abbrev LF:=@List.map_singleton
abbrev F6:=@List.mem_replicate
abbrev IT:=@Nat.lt_add_of_pos_right
abbrev Ly:=@Nat.sub_pos_of_lt
abbrev Gv:=@List.getElem?_cons_succ
abbrev Fw:=@Nat.pos_of_ne_zero
abbrev Ge:=@Nat.add_lt_of_lt_sub'
abbrev HN:=@List.take_sublist
abbrev JC:=@List.length_reverse
abbrev Gn:=@Option.bind_eq_some_iff
abbrev EU:=@List.reverse_cons
abbrev LV:=@Array.forIn_toList
abbrev KC:=@List.findIdx?_eq_none_iff
abbrev Jx:=@List.length_dropLast
abbrev Gb:=@Int.sub_add_cancel
abbrev KU:=@PySem.wpAny_getItem_list_slice
abbrev LX:=@List.getElem?_range
abbrev Kb:=@List.getElem_toArray
abbrev G2:=@PySem.plainObj_wpAny_Assign_Attribute
abbrev J8:=@Nat.sub_eq_zero_of_le
abbrev Jj:=@Nat.sub_le_of_le_add
abbrev IK:=@List.getElem?_zip_eq_some
abbrev Gf:=@List.mem_iff_getElem
abbrev Mz:=@List.getElem_take
abbrev Mp:=@List.getElem?_inj
abbrev Fe:=@List.drop_sublist
abbrev F5:=@Nat.sub_sub_right
abbrev J':=@List.zip_eq_zipWith
abbrev Ja:=@List.pairwise_of_forall
abbrev Go:=@Array.length_toList
abbrev Gj:=@Array.getElem?_toList
abbrev It:=@bne_self_eq_false
set_option backward.match.sparseCases false
set_option genInjectivity false
set_option genSizeOf false
local macro_rules |`(tactic|omega)=>`(tactic|lia)
theorem q7{b:Ģ}{p:Prop}(h:cond b True p)(e:b=false):p:=by rw[e]at h;exact h
theorem aH{a b:Ĵ}(e:Nat.ble a b=true):a<=b:=iK e
theorem jC{a b:Ĵ}(e:Nat.ble (a+1) b=true):a<b:=iK e
theorem hp{a k l c:Ĵ}(h:a+k<=c)(e:Nat.ble l k=true:=by rfl):a+l<=c:=aJ (gp (aH e) _) h
theorem iX{a k l c:Ĵ}(h:a+k<c)(e:Nat.ble l k=true:=by rfl):a+l<c:=hN (gp (aH e) _) h
theorem fK{a k l:Ĵ}(h:a<=k)(e:Nat.ble k l=true:=by rfl):a<=l:=aJ h<|aH e
theorem uQ{a k l:Ĵ}(h:a<k)(e:Nat.ble k l=true:=by rfl):a<l:=gI h<|aH e
theorem pq{a k l:Ĵ}(h:a<k)(e:Nat.ble k (l+1)=true:=by rfl):a<=l:=ze<|gI h<|aH e
theorem BI{a k l:Ĵ}(h:a<=k)(e:Nat.ble (k+1) l=true:=by rfl):a<l:=hN h<|aH e
theorem Ć{v n:Ĵ}(h:(v:ĵ)<(OfNat.ofNat n:ĵ)):v<n:=iM.mp h
theorem b4{aC:Type _}{z:aC}{cX:Prop}(h:none=some z):cX:=Option.noConfusion rfl<|heq_of_eq h
theorem lh{aC:Type _}{z:aC}{cX:Prop}(h:some z=none):cX:=b4 h.symm
theorem cq{cX:Prop}(h:false=true):cX:=Bool.noConfusion h
theorem hK{cX:Prop}(h:true=false):cX:=Bool.noConfusion h
theorem AM{aC:Type _}(f:aC->Ĵ){a b:aC}{cX:Prop}(h:a=b)(n:(f a==f b)=false):cX:=by subst h;rw[jV]at n;cases n
inductive ee {ir ip:Type} (P:ir->ip->Prop):Prop|mk (a:ir) (b:ip) (h:P a b):ee P
inductive dD {ir ip js:Type} (P:ir->ip->js->Prop):Prop|mk (a:ir) (b:ip) (c:js) (h:P a b c):dD P
inductive gV {ir ip js kE:Type} (P:ir->ip->js->kE->Prop):Prop|mk (a:ir) (b:ip) (c:js) (d:kE) (h:P a b c d):gV P
inductive rT {ir ip js kE mV:Type} (P:ir->ip->js->kE->mV->Prop):Prop|mk (a:ir) (b:ip) (c:js) (d:kE) (e:mV) (h:P a b c d e):rT P
inductive XC {ir ip js kE mV pG:Type} (P:ir->ip->js->kE->mV->pG->Prop):Prop|mk (a:ir) (b:ip) (c:js) (d:kE) (e:mV) (f:pG) (h:P a b c d e f):XC P
inductive z8 {ir ip js kE mV pG ug:Type} (P:ir->ip->js->kE->mV->pG->ug->Prop):Prop|mk (a:ir) (b:ip) (c:js) (d:kE) (e:mV) (f:pG) (g:ug) (h:P a b c d e f g):z8 P
inductive KH {ir ip js kE mV pG ug I4 J3 Fi Iz J9:Type} (P:ir->ip->js->kE->mV->pG->ug->I4->J3->Fi->Iz->J9->Prop):Prop|mk (a:ir) (b:ip) (c:js) (d:kE) (e:mV) (f:pG) (g:ug) (h:I4) (i:J3) (j:Fi) (k:Iz) (l:J9) (h:P a b c d e f g h i j k l):KH P
inductive dY (jH dA er:Prop):Prop|mk (a:jH) (b:dA) (c:er):dY jH dA er
inductive hP (jH dA er f_:Prop):Prop|mk (a:jH) (b:dA) (c:er) (d:f_):hP jH dA er f_
structure pZ(jH dA er f_ jE:Prop):Prop where mk::(a:jH) (b:dA) (c:er) (d:f_) (e:jE)
inductive rx (jH dA er f_ jE p':Prop):Prop|mk (a:jH) (b:dA) (c:er) (d:f_) (e:jE) (f:p'):rx jH dA er f_ jE p'
inductive Gd (jH dA er f_ jE p' vL:Prop):Prop|mk (a:jH) (b:dA) (c:er) (d:f_) (e:jE) (f:p') (g:vL):Gd jH dA er f_ jE p' vL
inductive Hk (jH dA er f_ jE p' vL Ki:Prop):Prop|mk (a:jH) (b:dA) (c:er) (d:f_) (e:jE) (f:p') (g:vL) (h:Ki):Hk jH dA er f_ jE p' vL Ki
abbrev bv:=Lm Ĵ
set_option genInjectivity true in
inductive B where
 |none
 |bool (b:Bool)
 |int (i:Int)
 |str (s:bv)
 |tup (l:List B)
 |lst (l:List B)
 |a9 (l:List (B×B))
 |ref (n:Nat)
 |eA (a b:Int)
theorem mB{a b:B}{cX:Prop}(h:a=b)(n:(a.ctorIdx==b.ctorIdx)=false):cX:=AM _ h n
inductive qo where
 |add|sub|mul|fdiv|mod|band
 deriving DecidableEq
inductive lH where
 |eq|ne|lt|le|gt|ge|isin|f5|is|p_
 deriving DecidableEq
inductive hR where
 |len|sorted|tuple|any|all|ro|str|int|index|get
 deriving DecidableEq
inductive a1 where
 |k (v:B)
 |v (i:Nat)
 |at(e:a1) (a:Nat)
 |ao (e i:a1)
 |aL (e:a1) (lo aA st:Option Int)
 |sh (e i:a1)
 |box (e:a1)
 |tup (l:List a1)
 |lst (l:List a1)
 |a9 (l:List (a1×a1))
 |bin (o:qo) (a b:a1)
 |not (e:a1)
 |cmp (a:a1) (l:List (lH×a1))
 |an (l:List a1)
 |or (l:List a1)
 |ite (c t e:a1)
 |call (f:Nat) (l:List a1)
 |new (c:Nat) (l:List a1)
 |cQ (o:a1) (m:Nat) (l:List a1)
 |bi (b:hR) (l:List a1)
 |eA (a b:a1)
 |comp (gc:a1) (bk:Bool) (aU:List Nat) (it:a1) (ifs:List a1)
 |bad
inductive dS where
 |set (i:Nat) (e:a1)
 |own (i:Nat) (e:a1)
 |hs (l:List Nat) (e:a1)
 |fX (o:a1) (a:Nat) (e:a1)
 |jr (o:a1) (a:Nat) (e:a1)
 |mW (o i e:a1)
 |jS (i:Nat) (k e:a1)
 |app (i:Nat) (e:a1)
 |ext (i:Nat) (e:a1)
 |m5 (o:a1) (e:a1)
 |ex (e:a1)
 |iff (c:a1) (t e:List dS)
 |for (bk:Bool) (aU:List Nat) (it:a1) (b:List dS)
 |ret (e:a1)
 |a4 (i:Nat)
 |bad
inductive cr where
 |un
 |val (v:B)
 |ol (l:List B)
 |od (l:List (B×B))
inductive dd where
 |ins (c:Nat) (a:List (Nat×B))
 |ls (l:List B)
 |cN (l:List (B×B))
abbrev St:=Lm dd
abbrev aK:=Lm cr
structure bS where
 np:Nat
 lg:Nat
 dflt:List B
 body:List dS
structure Ri where
 fns:Nat->Option bS
 meths:Nat->Nat->Option Nat
 z4:Nat->Option Nat
def hA (f:B->B->Ĳ Ģ):Lm B->Lm B->Ĳ Ģ
 |[],[]=>some true
 |[],_::_=>some false
 |_::_,[]=>some false
 |a::r,b::t=>(f a b).bind λx=>(hA f r t).map λy=>x&&y
def l0 (g:Lm B->Lm B->Ĳ Ģ) (x y:B):Ĳ Ģ:=match x with
 |.none=>(match y with|.none=>some true|.int _=>some false|.str _=>some false|.tup _=>some false|_=>none)
 |.bool a=>(match y with|.bool b=>some (a==b)|_=>none)
 |.int a=>(match y with|.int b=>some (decide<|a=b)|.none=>some false|.str _=>some false|.tup _=>some false|_=>none)
 |.str a=>(match y with|.str b=>some (decide<|a=b)|.none=>some false|.int _=>some false|.tup _=>some false|_=>none)
 |.tup a=>(match y with|.tup b=>g a b|.none=>some false|.int _=>some false|.str _=>some false|_=>none)
 |.lst a=>(match y with|.lst b=>g a b|_=>none)
 |_=>none
def g6:Ĵ->B->B->Ĳ Ģ
 |0=>l0 λ_ _=>none
 |n+1=>l0<|hA<|g6 n
noncomputable abbrev fu:B->B->Ĳ Ģ:=g6 16
def jt:B->Ĳ Ģ
 |.none=>some false
 |.bool b=>some b
 |.int i=>some<|decide<|i≠0
 |.str s=>some<|!s.isEmpty
 |.tup l=>some<|!l.isEmpty
 |.lst l=>some<|!l.isEmpty
 |_=>none
def hO (x:B):Lm B->Ĳ Ģ
 |[]=>some false
 |y::r=>(fu y x).bind λa=>(hO x r).map λb=>a||b
def fh (k:B):Lm (B×B)->Ĳ (Ĳ B)
 |[]=>some none
 |(a,b)::r=>match fu a k with
  |some true=>some<|some b
  |some false=>fh k r
  |none=>none
def hh (k v:B):Lm (B×B)->Ĳ (List<|B×B)
 |[]=>some [(k,v)]
 |(a,b)::r=>match fu a k with
  |some true=>some<|(a,v)::r
  |some false=>(hh k v r).map ((a,b)::·)
  |none=>none
def eS:Ĵ->B->Ģ
 |0=>λv=>match v with|.int _=>true|.str _=>true|_=>false
 |n+1=>λv=>match v with|.int _=>true|.str _=>true|.tup l=>l.all (eS n)|_=>false
def eG (k:B):Ĵ:=match k with
 |.int _=>1
 |.str _=>2
 |.tup _=>if eS 6 k then 3 else 0
 |_=>0
def ej (k:B) (l:Lm (B×B)):Ģ:=eG k !=0&&l.all λe=>eG e.1==eG k
def fQ {dw:Type} (y:B) (k:ĵ->Ĳ dw):Ĳ dw:=if h:y.ctorIdx=2 then B.int.elim (motive_1:=λ_=>Ĳ dw) y h k else none
def lZ {dw:Type} (y:B) (k:bv->Ĳ dw):Ĳ dw:=if h:y.ctorIdx=3 then B.str.elim (motive_1:=λ_=>Ĳ dw) y h k else none
def ta {dw:Type} (y:B) (k:Lm B->Ĳ dw):Ĳ dw:=if h:y.ctorIdx=4 then B.tup.elim (motive_1:=λ_=>Ĳ dw) y h k else none
def lI {dw:Type} (y:B) (k:Lm B->Ĳ dw):Ĳ dw:=if h:y.ctorIdx=5 then B.lst.elim (motive_1:=λ_=>Ĳ dw) y h k else none
def tW {dw:Type} (y:B) (k:Ĳ dw):Ĳ dw:=if y.ctorIdx=0 then k else none
def contains (x:B) (c:B):Ĳ Ģ:=match c with
 |.tup l=>hO x l
 |.lst l=>hO x l
 |.a9 l=>if ej x l then(fh x l).map (·.isSome)else none
 |.str s=>lZ x λl=>(match l with|c::t=>(match t with|[]=>some (s.contains c)|_::_=>none)|[]=>none)
 |_=>none
def jM (i:ĵ) (n:Ĵ):Ĳ Ĵ:=if 0<=i then(if i.toNat<n then some i.toNat else none)else(if(-i).toNat<=n then some (n-(-i).toNat)else none)
def wE (l:Lm B) (k:B):Ĳ B:=fQ k λi=>(jM i l.length).bind λj=>l[j]?
def FT (l:bv) (k:B):Ĳ B:=fQ k λi=>(jM i l.length).bind λj=>(l[j]?).map λc=>.str [c]
def CF (l:Lm (B×B)) (k:B):Ĳ B:=if ej k l then(fh k l).bind id else none
def WS (l:Lm B) (a b:Ĳ ĵ):Ĳ B:=match b with
 |none=>(match a with|some i=>(match i with|.ofNat a=>if 1<=a/\a<=l.length then some (.tup<|l.drop a)else none|.negSucc _=>none)|none=>none)
 |some j=>(match a with|none=>(match j with|.negSucc n=>(match n with|0=>if l.isEmpty then none else some (.tup l.dropLast)|_+1=>none)|.ofNat _=>none)|some _=>none)
def MJ (l:Lm B) (b d:Ĳ ĵ):Ĳ B:=match d with
 |none=>(match b with|some i=>(match i with|.ofNat b=>some (.lst<|l.take b)|.negSucc _=>none)|none=>none)
 |some j=>(match b with|none=>(match j with|.negSucc n=>(match n with|0=>some (.lst l.reverse)|_+1=>none)|.ofNat _=>none)|some _=>none)
def qX (o:B) (a b d:Ĳ ĵ):Ĳ B:=match o with
 |.tup l=>(match d with|none=>WS l a b|some _=>none)
 |.lst l=>(match a with|none=>MJ l b d|some _=>none)
 |_=>none
def mn (n:Ĵ) (l:Lm aC):Lm aC:=match n with
 |0=>[]
 |n+1=>l++mn n l
def lb (a b:Ĵ):Ĵ:=a&&&b
def a3:Ĵ:=16777216
def i7 (n:Ĵ) (x:aC):Ĳ aC:=if n<=a3 then some x else none
def small (i:ĵ):Ģ:=decide (-536870912<=i)&&decide (i<=536870912)
def rE (f:ĵ->ĵ->Ĳ B) (x y:B):Ĳ B:=fQ x λa=>fQ y<|f a
def bin (o:qo) (x y:B):Ĳ B:=match o with
 |.add=>if x.ctorIdx=2 then rE (λa b=>some<|.int<|a+b) x y else if x.ctorIdx=4 then(ta x λa=>ta y λb=>if a.isEmpty||b.isEmpty then none else i7 (a.length+b.length) (.tup<|a++b))else lI x λa=>lI y λb=>i7 (a.length+b.length)<|.lst<|a++b
 |.sub=>rE (λa b=>some<|.int<|a-b) x y
 |.mul=>if x.ctorIdx=2 then rE (λa b=>if small a&&small b then some (.int<|a*b)else none) x y else lI x λa=>fQ y λn=>if small n then i7 (n.toNat*a.length) (.lst<|mn n.toNat a)else none
 |.fdiv=>rE (λa b=>if b≠0/\(small a&&small b)=true then some (.int<|Int.fdiv a b)else none) x y
 |.mod=>rE (λa b=>if b=0 then none else some (.int<|Int.fmod a b)) x y
 |.band=>rE (λa b=>match a with|.ofNat a=>(match b with|.ofNat b=>some (.int<|.ofNat<|lb a b)|.negSucc _=>none)|.negSucc _=>none) x y
def gb:bv->bv->Ģ
 |[],[]=>false
 |[],_::_=>true
 |_::_,[]=>false
 |a::r,b::t=>if a<b then true else if a=b then gb r t else false
def cmp (o:lH) (x y:B):Ĳ Ģ:=match o with
 |.eq=>fu x y
 |.ne=>(fu x y).map (!·)
 |.lt=>fQ x λa=>fQ y λb=>some<|decide<|a<b
 |.le=>if x.ctorIdx=2 then(fQ x λa=>fQ y λb=>some<|decide<|a<=b)else lZ x λa=>lZ y λb=>some<|!gb b a
 |.gt=>fQ x λa=>fQ y λb=>some<|decide<|a>b
 |.ge=>fQ x λa=>fQ y λb=>some<|decide<|a>=b
 |.isin=>contains x y
 |.f5=>(contains x y).map (!·)
 |.is=>tW y<|some<|x.ctorIdx==0
 |.p_=>tW y<|some<|!(x.ctorIdx==0)
def items:B->Ĳ (Lm B)
 |.tup l=>some l
 |.lst l=>some l
 |.a9 l=>if(l.all λe=>eG e.1==1)||(l.all λe=>eG e.1==2)then some (l.map (·.1))else none
 |.str s=>some<|s.map λc=>.str [c]
 |.eA a b=>some<|(List.range (b-a).toNat).map λ(i:Ĵ)=>B.int<|a+Int.ofNat i
 |_=>none
def Ez (l:Lm B):Ĳ bv:=match l with|[]=>none|x::_=>(match x with|.str a=>some a|_=>none)
def qz (x y:B):Ĳ Ģ:=match x with
 |.int a=>(match y with|.int b=>some (decide<|a<b)|_=>none)
 |.str a=>(match y with|.str b=>some (gb a b)|_=>none)
 |.tup l=>(match y with|.tup m=>(Ez l).bind λa=>(Ez m).bind λb=>if a==b then none else some (gb a b)|_=>none)
 |_=>none
def qm (x:B):Lm B->Ĳ (Lm B)
 |[]=>some [x]
 |y::r=>match qz x y with
  |some true=>some<|x::y::r
  |some false=>(qm x r).map (y::·)
  |none=>none
def iU:Lm B->Ĳ (Lm B)
 |[]=>some []
 |x::r=>(iU r).bind<|qm x
def je (v:B):Ĳ bv:=match v with
 |.tup l=>Ez l
 |_=>none
def dq (i:ĵ):bv:=(toString i).toList.map Char.toNat
def Ex (l:bv):Ĳ Ĵ:=(List.range 64).find? λn=>decide<|dq (Int.ofNat n)=l
def qf:Lm B->Ĳ (Lm Ģ)
 |[]=>some []
 |.bool b::r=>(qf r).map (b::·)
 |_=>none
def kC.go (x:B):Lm B->Ĵ->Ĳ B
 |[],_=>none
 |y::r,n=>match fu y x with
  |some true=>some<|.int n
  |some false=>kC.go x r<|n+1
  |none=>none
def yk (r:aK) (i:Ĵ):Ĳ B:=match r[i]? with
 |some (.val v)=>some v
 |_=>none
def peek (r:aK):a1->Ĳ B
 |.v i=>match r[i]? with
  |some (.val v)=>some v
  |some (.ol l)=>some<|.lst l
  |some (.od l)=>some<|.a9 l
  |_=>none
 |_=>none
def h7 (bk:Ģ) (aU:Lm Ĵ) (v:B) (r:aK):Ĳ aK:=match bk with
 |false=>(match aU with|[]=>none|i::t=>(match t with|[]=>some (r.set i<|.val v)|_::_=>none))
 |true=>(match v with|.tup l=>if l.length=aU.length then some ((aU.zip l).foldl (λr p=>r.set p.1<|.val p.2) r)else none|_=>none)
def ho (s:St) (o k:B):Ĳ B:=match o with
 |.ref n=>(s[n]?).bind λy=>(match y with|.ls l=>wE l k|.cN l=>CF l k|.ins _ _=>none)
 |.tup l=>wE l k
 |.lst l=>wE l k
 |.str l=>FT l k
 |.a9 l=>CF l k
 |_=>none
def Ck (s:St) (o:B):Ĳ B:=match o with
 |.ref n=>(s[n]?).bind λy=>match y with|.ls l=>some (.int l.length)|_=>none
 |_=>none
def Wu {dw:Type} (y:B) (k:Lm (B×B)->Ĳ dw):Ĳ dw:=match y with|.a9 l=>k l|_=>none
def LK (s:St) (v:B):Ĳ B:=match v with
 |.ref n=>Ck s<|.ref n
 |.tup l=>some<|.int l.length
 |.lst l=>some<|.int l.length
 |.a9 l=>some<|.int l.length
 |.str l=>some<|.int l.length
 |_=>none
def Lz (v:B):Ĳ B:=match v with
 |.lst l=>some<|.tup l
 |.tup l=>some<|.tup l
 |_=>none
def Ot (v:B):Ĳ B:=match v with
 |.str _=>some<|.bool true
 |.int _=>some<|.bool false
 |_=>none
def Im (v:B):Ĳ B:=match v with
 |.a9 l=>((items<|.a9 l).bind λl=>if l.length<64 then iU l else none).map .lst
 |.lst l=>if l.length<=4/\(l.all λx=>(je x).isSome)=true/\(l.map je).Nodup then(iU l).map .lst else none
 |_=>none
def n3 (b:hR) (s:St) (v:B):Ĳ B:=match b with
 |.len=>LK s v
 |.sorted=>Im v
 |.tuple=>Lz v
 |.any=>lI v λl=>(qf l).map λce=>.bool<|ce.any id
 |.all=>lI v λl=>(qf l).map λce=>.bool<|ce.all id
 |.ro=>Ot v
 |.str=>fQ v λi=>if small i then i7 (dq i).length (.str<|dq i)else none
 |.int=>lZ v λl=>(Ex l).map λn=>.int<|Int.ofNat n
 |.index=>none
 |.get=>none
def Jz (b:hR) (v x:B):Ĳ B:=match b with
 |.index=>lI v λl=>if(hO x l).isSome then kC.go x l 0 else none
 |_=>none
def Fc (b:hR) (v x y:B):Ĳ B:=match b with
 |.get=>Wu v λl=>if ej x l then(fh x l).map λo=>o.getD y else none
 |_=>none
def pg (b:hR) (s:St) (vs:Lm B):Ĳ B:=match vs with
 |[]=>none
 |v::r=>match r with
  |[]=>n3 b s v
  |x::r=>match r with
   |[]=>Jz b v x
   |y::r=>match r with
    |[]=>Fc b v x y
    |_::_=>none
def kC (b:hR) (vs:Lm B):Ĳ B:=pg b [] vs
def pT (s:St) (x c:B):Ĳ Ģ:=match c with
 |.ref n=>(s[n]?).bind λy=>match y with|.cN l=>if ej x l then(fh x l).map (·.isSome)else none|_=>none
 |_=>contains x c
def pa {dw:Type} (s:St) (o:B) (k:Ĵ->Ĵ->Lm (Ĵ×B)->Ĳ dw):Ĳ dw:=match o with
 |.ref n=>(s[n]?).bind λy=>match y with|.ins c l=>k n c l|_=>none
 |_=>none
def oz (s:St) (o:B) (a:Ĵ):Ĳ B:=pa s o λ_ _ l=>l.lookup a
def Cp (s:St) (o:B):Ĳ Ĵ:=pa s o λ_ c _=>some c
def putAt (a:Ĵ) (v:B):Lm (Ĵ×B)->Lm (Ĵ×B)
 |[]=>[(a,v)]
 |(b,w)::r=>if b=a then(b,v)::r else(b,w)::putAt a v r
def oh (s:St) (o:B) (a:Ĵ) (v:B):Ĳ St:=pa s o λn c l=>if l.length<=900 then some (s.set n<|.ins c<|putAt a v l)else none
inductive ck where
 |go
 |ret (v:B)
def r2 (f:bS) (vs:Lm B):Ĳ aK:=if vs.length<=f.np/\f.np<=vs.length+f.dflt.length then some (((vs++f.dflt.drop (f.dflt.length-(f.np-vs.length))).map .val)++List.replicate (f.lg-f.np) .un)else none
def cN (p:Prop):Ģ:=@decide p<|Classical.propDecidable p
theorem vf{p:Prop}(h:p):cN p=true:=@dQ p (Classical.propDecidable p) h
theorem qQ{p:Prop}(h:p->False):cN p=false:=@eC p (Classical.propDecidable p) h
theorem rC{p q:Prop}(h:p↔q):cN p=cN q:=bX cN<|propext h
theorem wl(p:Prop):(p/\cN p=true)\/((p->False)/\cN p=false):=(Classical.em p).imp (λh=>⟨h,vf h⟩) λh=>⟨h,qQ h⟩
theorem Uy{p q:Prop}:(cN p&&cN q)=cN (p/\q):=by
 rcases wl p with⟨h,e⟩|⟨h,e⟩<;>rw[e]
 .exact rC ⟨λx=>⟨h,x⟩,λx=>x.2⟩
 .exact(qQ λx=>h x.1).symm
theorem XM{p q:Prop}:(cN p||cN q)=cN (p\/q):=by
 rcases wl p with⟨h,e⟩|⟨h,e⟩<;>rw[e]
 .exact(vf<|.inl h).symm
 .exact rC ⟨.inr,λx=>x.resolve_left h⟩
theorem FM{aC:Type}[DecidableEq aC](a b:aC):decide (a=b)=cN (a=b):=by
 rcases wl (a=b)with⟨h,e⟩|⟨h,e⟩<;>rw[e]
 .exact dQ h
 .exact eC h
def fE:Ĵ->B->Ģ
 |0=>λv=>match v with|.none=>true|.int _=>true|.str _=>true|_=>false
 |n+1=>λv=>match v with|.none=>true|.int _=>true|.str _=>true|.tup l=>l.all (fE n)|_=>false
theorem DO{d:Ĵ}{l:Lm B}(h:eS (d+1) (.tup l)=true):∀v∈l,eS d v=true:=d6.mp h
theorem Ji{M:Ĵ->B->Prop}(aA:∀d i,M d<|.int i)(aM:∀d l,M d<|.str l)(dU:∀d l,(∀v∈l,eS d v=true)->(∀v,eS d v=true->M d v)->M (d+1) (.tup l)):∀d k,eS d k=true->M d k:=by
 intro d;induction d with
 |zero=>
  intro k aE;induction k using B.casesOn with
  |int i=>exact aA 0 i
  |str l=>exact aM 0 l
  |_=>exact cq aE
 |succ d ar=>
  intro k aE;induction k using B.casesOn with
  |int i=>exact aA _ i
  |str l=>exact aM _ l
  |tup l=>exact dU d l (DO aE) ar
  |_=>exact cq aE
theorem B8{d:Ĵ}{l:Lm B}(h:fE (d+1) (.tup l)=true):∀v∈l,fE d v=true:=d6.mp h
theorem DW{d:Ĵ}{k:B}(h:eS d k=true):fE d k=true:=Ji (M:=λd k=>fE d k=true) (λd _=>by induction d using Nat.casesOn<;>rfl) (λd _=>by induction d using Nat.casesOn<;>rfl) (λ_ _ ah ar=>d6.mpr λv af=>ar v<|ah v af) d k h
theorem EG{d n:Ĵ}{k:B}(h:fE d k=true)(am:d<=n):fE n k=true:=by
 induction n generalizing d k with
 |zero=>cases Nat.le_zero.mp am;exact h
 |succ n ar=>
  induction d using Nat.casesOn with
  |zero=>induction k using B.casesOn<;>first|rfl|exact cq h
  |succ d=>induction k using B.casesOn with
   |tup l=>exact d6.mpr λv af=>ar (B8 h v af)<|v5 am
   |none=>rfl
   |int=>rfl
   |str=>rfl
   |_=>exact cq h
theorem OM{f:B->B->Ĳ Ģ}:∀{l m:Lm B},(∀v∈l,∀u∈m,f v u=some (cN<|v=u))->hA f l m=some (cN<|l=m):=by
 intro l;induction l with
 |nil=>
  intro m _;induction m using List.casesOn with
  |nil=>exact bX some (vf rfl).symm
  |cons=>exact bX some (qQ λe=>(nomatch e)).symm
 |cons v r ar=>
  intro m h;induction m using List.casesOn with
  |nil=>exact bX some (qQ λe=>(nomatch e)).symm
  |cons u t=>show((f v u).bind λx=>(hA f r t).map λy=>x&&y)=_;rw[h v (.head _) u<|.head _,ar λv af u a5=>h v (.tail _ af) u<|.tail _ a5];exact bX some<|Uy.trans<|rC ⟨λh=>by rw[h.1,h.2],tL⟩
theorem mv{a b:B}(h:a=b->False):some false=some (cN<|a=b):=bX some (qQ h).symm
def bW (v:B):Ģ:=match v with|.none=>true|.int _=>true|.str _=>true|.tup _=>true|_=>false
theorem yj{n:Ĵ}{v:B}(h:fE n v=true):bW v=true:=by induction v using B.casesOn<;>first|rfl|(induction n using Nat.casesOn<;>exact cq h)
theorem Ld{g:Lm B->Lm B->Ĳ Ģ}{x y:B}(ay:bW x=true)(a2:bW y=true):l0 g x y=some (cN<|x=y)\/∃l m,x=.tup l/\y=.tup m:=by
 induction x using B.casesOn with
 |none=>induction y using B.casesOn with
  |none=>exact .inl<|bX some (vf rfl).symm
  |int=>exact .inl<|mv λe=>mB e rfl
  |str=>exact .inl<|mv λe=>mB e rfl
  |tup=>exact .inl<|mv λe=>mB e rfl
  |_=>exact cq a2
 |int=>induction y using B.casesOn with
  |int=>exact .inl<|bX some<|(FM _ _).trans<|rC ⟨bX _,B.int.inj⟩
  |none=>exact .inl<|mv λe=>mB e rfl
  |str=>exact .inl<|mv λe=>mB e rfl
  |tup=>exact .inl<|mv λe=>mB e rfl
  |_=>exact cq a2
 |str=>induction y using B.casesOn with
  |str=>exact .inl<|bX some<|(FM _ _).trans<|rC ⟨bX _,B.str.inj⟩
  |int=>exact .inl<|mv λe=>mB e rfl
  |none=>exact .inl<|mv λe=>mB e rfl
  |tup=>exact .inl<|mv λe=>mB e rfl
  |_=>exact cq a2
 |tup=>induction y using B.casesOn with
  |tup=>exact .inr ⟨_,_,rfl,rfl⟩
  |int=>exact .inl<|mv λe=>mB e rfl
  |str=>exact .inl<|mv λe=>mB e rfl
  |none=>exact .inl<|mv λe=>mB e rfl
  |_=>exact cq a2
 |_=>exact cq ay
theorem yI{n d:Ĵ}{x y:B}(ay:fE d x=true)(a2:fE d y=true)(am:d<=n):g6 n x y=some (cN<|x=y):=by
 replace ay:=EG ay am;replace a2:=EG a2 am;clear am;induction n generalizing x y with
 |zero=>
  rcases Ld (yj ay) (yj a2)with e|⟨l,m,rfl,rfl⟩
  .exact e
  .exact cq ay
 |succ n ar=>
  rcases Ld (yj ay) (yj a2)with e|⟨l,m,rfl,rfl⟩
  .exact e
  .exact(OM λv af u a5=>ar (B8 ay v af)<|B8 a2 u a5).trans<|bX some<|rC ⟨bX _,B.tup.inj⟩
theorem L2{x:B}(ay:fE 16 x=true){l:Lm B}(h:∀a∈l,fE 16 a=true):hO x l=some (cN<|x∈l):=by
 induction l with
 |nil=>exact bX some (qQ λe=>(nomatch e)).symm
 |cons y r ar=>show(g6 16 y x).bind _=_;rw[yI (h y<|.head _) ay<|dy _,ar λa ak=>h a<|.tail _ ak];exact bX some (XM.trans<|rC<|by rw[eJ,eq_comm])
section
variable{aC:Type}{f:aC->B}{b:aC->aC->Ģ}{ne R:aC->aC->Prop}(aE:∀x y,ne x y->qz (f x) (f y)=some (b x y))(G:∀x y,b x y=true->R x y)(E:∀x y,ne x y->b x y=false->R y x)(aB:∀x y z,b x y=true->R y z->R x z)
include aE G E aB
theorem YL(x:aC){cg:Lm aC}(h:cg.Pairwise R)(m:∀y∈cg,ne x y):∃c7:Lm aC,qm (f x) (cg.map f)=some (c7.map f)/\c7.Pairwise R/\c7.Perm (x::cg):=by
 induction cg with
 |nil=>exact⟨[x],rfl,KQ _ _,.refl _⟩
 |cons y r ar=>
  obtain⟨c5,bj⟩:=tF.mp h;show∃c7:Lm aC,(match qz (f x) (f y)with|some true=>some (f x::f y::r.map f)|some false=>(qm (f x)<|r.map f).map (f y::·)|none=>none)=some (c7.map f)/\_;rw[aE x y<|m y<|.head _];induction c:b x y using Bool.casesOn with
  |true=>
   refine⟨x::y::r,rfl,tF.mpr ⟨λz hz=>?_,h⟩,.refl _⟩;cases hz with
   |head=>exact G x y c
   |tail _ hz=>exact aB x y z c<|c5 z hz
  |false=>
   obtain⟨c7,e,ae,aN⟩:=ar bj λz hz=>m z<|.tail _ hz;rw[e];refine⟨y::c7,rfl,tF.mpr ⟨λz hz=>?_,ae⟩,(aN.cons y).trans<|.swap x y r⟩;cases aN.mem_iff.mp hz with
   |head=>exact E x y (m y<|.head _) c
   |tail _ hz=>exact c5 z hz
theorem uL{bJ:Lm aC}(h:bJ.Pairwise ne):∃cR:Lm aC,iU (bJ.map f)=some (cR.map f)/\cR.Pairwise R/\cR.Perm bJ:=by
 induction h with
 |nil=>exact⟨[],rfl,.nil,.refl _⟩
 |cons h _ ar=>obtain⟨cR,e,ae,aN⟩:=ar;obtain⟨c7,bx,gX,kA⟩:=YL aE G E aB _ ae λy a2=>h y<|aN.mem_iff.mp a2;exact⟨c7,(bX (Option.bind · (qm<|f _)) e).trans bx,gX,kA.trans<|aN.cons _⟩
end
theorem Gc{aC:Type}{R:aC->aC->Prop}{a b:Lm aC}(no:∀x y,R x y->R y x->False)(ak:a.Pairwise R)(av:b.Pairwise R)(h:∀p,p∈a↔p∈b):a=b:=have b6:∀{x y:aC},R x y->x≠y:=λr e=>(by subst e;exact no _ _ r r);Iq (λx y _ _ p q=>(no x y p q).elim) ak av<|(List.perm_ext_iff_of_nodup (ak.imp b6)<|av.imp b6).mpr h
noncomputable abbrev L (n:ĵ):a1:=.k<|.int n
noncomputable abbrev aD:a1:=.v 0
noncomputable abbrev aS:a1:=.v 1
noncomputable abbrev aZ:a1:=.v 2
noncomputable abbrev bp:a1:=.v 3
noncomputable abbrev bN:a1:=.v 4
noncomputable abbrev c6:a1:=.v 5
noncomputable abbrev dL:a1:=.v 6
noncomputable abbrev fq:a1:=.v 7
noncomputable abbrev f2:a1:=.v 8
noncomputable abbrev gq:a1:=.v 9
noncomputable abbrev m0:a1:=.v 10
noncomputable abbrev ng:a1:=.v 11
noncomputable abbrev kU:a1:=.v 12
noncomputable abbrev om:a1:=.v 13
noncomputable abbrev n8:a1:=.v 14
noncomputable abbrev pr:a1:=.v 15
noncomputable abbrev rJ:a1:=.v 16
noncomputable abbrev uX:a1:=.v 17
noncomputable abbrev uW:a1:=.v 18
noncomputable abbrev zn:a1:=.v 19
noncomputable abbrev FL:a1:=.v 20
noncomputable abbrev Zp:a1:=.v 21
noncomputable abbrev Fn:a1:=.v 22
noncomputable abbrev Nx:a1:=.v 23
noncomputable abbrev w6:a1:=.v 24
noncomputable abbrev YN:a1:=.v 25
noncomputable abbrev z9:a1:=.v 26
noncomputable abbrev bo (l:Lm Ĵ):a1:=.k<|.str l
def x7:bS:=⟨1,2,[],[.jr aD 0<|.lst [],.jr aD 1<|.a9 [],.jr aD 2<|.lst [.k .none],.jr aD 3<|.lst [],.jr aD 4<|.lst [],.jr aD 5<|.lst [],.jr aD 6<|.a9 [],.jr aD 7<|.a9 [],.fX aD 8<|L 0,.fX aD 9<|L 0,.for false [1] (.k<|.tup [.tup [.int 1,.str [97,110,121]],.tup [.int 1,.str [117,110,107,110,111,119,110]],.tup [.int 1,.str [110,101,118,101,114]],.tup [.int 1,.str [118,111,105,100]],.tup [.int 1,.str [117,110,100,101,102,105,110,101,100]],.tup [.int 1,.str [110,117,108,108]],.tup [.int 1,.str [115,116,114,105,110,103]],.tup [.int 1,.str [110,117,109,98,101,114]],.tup [.int 2,.int 0,.int 0],.tup [.int 2,.int 1,.int 0],.tup [.int 1,.str [111,98,106,101,99,116]],.tup [.int 8,.tup [],.tup [],.tup [],.tup [],.tup [],.int 0],.tup [.int 6,.tup [.int 8,.int 9]],.tup [.int 1,.str [101,114,114,111,114]],.tup [.int 2,.int 0,.int 1],.tup [.int 2,.int 1,.int 1]]) [.ex<|.cQ aD 0 [aS]]]⟩
def NN:bS:=⟨2,3,[],[.iff (.cmp aS [(.isin,(.at aD 1))]) [.ret<|.ao (.at aD 1) aS] [],.set 2<|.bi .len [.at aD 0],.m5 (.at aD 0) aS,.mW (.at aD 1) aS aZ,.ret aZ]⟩
def Rx:bS:=⟨4,4,[],[.fX aD 10 aS,.fX aD 11 aZ,.fX aD 12 bp,.fX aD 13<|.tup [],.fX aD 14<|.k<|.int<|-1,.fX aD 15<|.tup [],.fX aD 16<|.k<|.int<|-1,.fX aD 17<|L 0,.fX aD 18<|.k<|.bool false,.jr aD 19<|.lst [],.jr aD 20<|.lst [],.fX aD 21<|L 0,.fX aD 22<|L 0,.fX aD 23<|bo [],.fX aD 24<|L 0]⟩
def å:bS:=⟨3,3,[.int 0],[.ret<|.cQ aD 0 [.tup [L 3,aS,aZ]]]⟩
def Vy:bS:=⟨3,3,[.int 0],[.ret<|.cQ aD 0 [.tup [L 11,aS,aZ]]]⟩
def T3:bS:=⟨2,4,[],[.set 2<|.k<|.int<|-1,.for false [3] (.eA (L 0)<|.bi .len [aD]) [.iff (.cmp (.ao (.ao aD bp)<|L 1) [(.isin,aS)]) [.set 2 bp] []],.ret aZ]⟩
def QD:bS:=⟨2,7,[],[.set 2<|.call 5 [aS,.tup [L 0]],.own 3<|.lst [],.for false [4] (.eA (L 0)<|.bi .len [aS]) [.hs [5,6]<|.ao aS bN,.iff (.an [.cmp dL [(.eq,L 1)],.cmp bN [(.lt,aZ)]]) [.app 3<|.tup [.call 22 [aD,c6],L 0]] [.app 3<|.tup [c6,dL]]],.a4 3,.ret bp]⟩
def WJ:bS:=⟨3,8,[],[.set 3<|.k<|.int<|-1,.for false [4] (.eA (L 0)<|.bi .len [aS]) [.iff (.an [.cmp bp [(.lt,L 0)],.cmp (.ao (.ao aS bN)<|L 1) [(.eq,L 2)]]) [.set 3 bN] []],.iff (.or [.cmp bp [(.lt,L 0)],.cmp aZ [(.le,bp)]]) [.ret aS] [],.own 5<|.lst [],.for true [6,7] .bad [.app 5<|.ite (.cmp fq [(.eq,L 1)]) (.call 22 [aD,dL]) dL],.a4 5,.ret<|.bin .add (.bin .add .bad<|.lst [.tup [.call 20 [aD,c6],L 2]]) .bad]⟩
def Wd:bS:=⟨3,7,[.int 0],[.set 3<|.comp (.tup [c6,dL]) true [5,6] aS [],.iff (.cmp (.call 5 [bp,.tup [L 3]]) [(.lt,L 0)]) [.set 4<|.call 5 [bp,.tup [L 2,L 1]],.set 3<|.call 7 [aD,.call 6 [aD,bp],bN],.iff (.an [.cmp (.bi .len [bp]) [(.eq,L 1)],.cmp (.ao (.ao bp<|L 0)<|L 1) [(.eq,L 2)]]) [.ret<|.call 4 [aD,.ao (.ao bp<|L 0)<|L 0,aZ]] []] [],.ret<|.cQ aD 0 [.tup [L 12,.bi .tuple [bp],aZ]]]⟩
def Ă:bS:=⟨1,4,[],[.own 1<|.a9 [],.for false [2] aD [.jS 1 (.ao aZ<|L 0) aZ],.a4 1,.ret<|.bi .tuple [.comp (.ao aS bp) false [3] (.bi .sorted [aS]) []]]⟩
def Tc:bS:=⟨7,7,[.tup [],.tup [],.tup [],.tup [],.int 0],[.ret<|.cQ aD 0 [.tup [L 8,.call 9 [aS],.bi .tuple [aZ],.bi .tuple [bp],bN,c6,dL]]]⟩
def Zj:bS:=⟨2,2,[],[.ret<|.cQ aD 0 [.tup [L 8,.tup [],.tup [aS],.tup [],.tup [],.tup [],L 0]]]⟩
def Yp:bS:=⟨4,5,[.int<|-1,.int<|-1],[.set 4<|.bi .len [.at aD 3],.m5 (.at aD 3) aZ,.m5 (.at aD 4) bp,.m5 (.at aD 5) aS,.ret<|.cQ aD 0 [.tup [L 10,bN]]]⟩
def Ow:bS:=⟨3,4,[],[.set 3<|.new 1 [.bi .len [.at aD 2],aS,aZ],.m5 (.at aD 2) bp,.ret bp]⟩
def Wg:bS:=⟨2,3,[],[.iff (.cmp aS [(.eq,L 2)]) [.ret<|.tup []] [],.set 2<|.ao (.at aD 0) aS,.iff (.cmp (.ao aZ<|L 0) [(.eq,L 6)]) [.ret<|.ao aZ<|L 1] [],.ret<|.tup [aS]]⟩
def Qv:bS:=⟨1,2,[],[.set 1<|.ao aD<|L 0,.iff (.or [.cmp aS [(.eq,L 3)],.cmp aS [(.eq,L 18)]]) [.ret<|L 6] [],.iff (.cmp aS [(.eq,L 4)]) [.ret<|L 7] [],.iff (.cmp aS [(.eq,L 5)]) [.ret<|.ite (.bi .ro [.ao aD<|L 3]) (L 6)<|L 7] [],.ret<|.k<|.int<|-1]⟩
def QY:bS:=⟨2,3,[],[.set 2<|.ao (.at aD 0) aS,.iff (.an [.cmp (.ao aZ<|L 0) [(.isin,(.k<|.tup [.int 2,.int 3,.int 4,.int 5,.int 8]))],.cmp (.ao aZ<|.k<|.int<|-1) [(.eq,L 1)]]) [.ret<|.bi .get [.at aD 1,.bin .add (.aL aZ none (some<|-1) none)<|.tup [L 0],.k<|.int<|-1]] [],.ret<|.k<|.int<|-1]⟩
def T4:bS:=⟨1,1,[],[.iff (.an [.or [.cmp (L 8) [(.isin,aD)],.cmp (L 14) [(.isin,aD)]],.or [.cmp (L 9) [(.isin,aD)],.cmp (L 15) [(.isin,aD)]]]) [.mW aD (L 8)<|L 1,.mW aD (L 9)<|L 1] []]⟩
def Sr:bS:=⟨3,3,[],[.iff (.cmp (.call 16 [aD,aZ]) [(.isin,aS)]) [.ret<|.k<|.bool false] [],.ret<|.cmp (.call 15 [.ao (.at aD 0) aZ]) [(.f5,aS)]]⟩
def Oo:bS:=⟨1,2,[],[.for false [1] (.tup [L 0,L 13,L 1]) [.iff (.cmp aS [(.isin,aD)]) [.ret aS] []],.ret<|.k<|.int<|-1]⟩
def Pq:bS:=⟨2,8,[],[.own 2<|.a9 [],.for false [3] aS [.for false [4] (.call 14 [aD,bp]) [.jS 2 bN<|L 1]],.a4 2,.set 5<|.call 19 [aZ],.iff (.cmp c6 [(.ge,L 0)]) [.ret c6] [],.a4 2,.ex<|.call 17 [aZ],.a4 2,.set 6<|.comp fq false [7] (.bi .sorted [aZ]) [.call 18 [aD,aZ,fq]],.iff (.not dL) [.ret<|L 2] [],.iff (.cmp (.bi .len [dL]) [(.eq,L 1)]) [.ret<|.ao dL<|L 0] [],.iff (.cmp (.bi .len [dL]) [(.gt,L 400)]) [.bad] [],.ret<|.cQ aD 0 [.tup [L 6,.bi .tuple [dL]]]]⟩
def W8:bS:=⟨3,4,[],[.ret<|.call 20 [aD,.comp bp false [3] (.call 14 [aD,aS]) [.cmp bp [(.f5,aZ)]]]]⟩
def MK:bS:=⟨2,2,[],[.ret<|.call 20 [aD,.tup [aS,L 4]]]⟩
def WV:bS:=⟨2,5,[],[.set 2<|.call 25 [aD,.ao aS<|L 0],.set 3<|.bi .all [.comp (.cmp (.call 25 [aD,bN]) [(.eq,aZ)]) false [4] aS []],.ret<|.ite bp aZ<|L 0]⟩
def M3:bS:=⟨2,5,[],[.set 2<|L 0,.for false [3] aS [.set 4<|.call 25 [aD,bp],.iff (.an [.cmp bN [(.ne,L 0)],.cmp bN [(.ne,L 7)]]) [.ret bN] [],.iff (.an [.cmp bN [(.eq,L 7)],.cmp bp [(.ne,L 11)]]) [.set 2<|L 7] []],.ret aZ]⟩
def Tk:bS:=⟨2,5,[],[.set 2<|.ao (.at aD 0) aS,.set 3<|.ao aZ<|L 0,.iff (.cmp bp [(.eq,L 1)]) [.ret<|.bi .get [.k<|.a9 [((.int 3),(.int 6)),((.int 4),(.int 5)),((.int 5),(.int 4)),((.int 6),(.int 1)),((.int 7),(.int 2)),((.int 10),(.int 7))],aS,L 0]] [],.iff (.cmp bp [(.eq,L 2)]) [.ret<|L 3] [],.iff (.cmp bp [(.isin,(.k<|.tup [.int 8,.int 9,.int 11,.int 12,.int 13]))]) [.ret<|L 7] [],.iff (.cmp bp [(.eq,L 6)]) [.ret<|.call 23 [aD,.ao aZ<|L 1]] [],.iff (.cmp bp [(.eq,L 7)]) [.ret<|.call 24 [aD,.ao aZ<|L 1]] [],.set 4<|.call 15 [aZ],.iff (.cmp bN [(.lt,L 0)]) [.ret<|L 0] [],.ret<|.ite (.cmp bN [(.eq,L 6)]) (L 1)<|L 2]⟩
def QT:bS:=⟨2,4,[],[.for false [2] (.eA (L 0)<|L 40) [.iff (.cmp aS [(.lt,L 0)]) [.bad] [],.set 3<|.ao (.at aD 0) aS,.iff (.cmp (.ao bp<|L 0) [(.eq,L 8)]) [.ret aS] [],.iff (.cmp (.ao bp<|L 0) [(.eq,L 13)]) [.ret<|.call 11 [aD,aS]] [],.iff (.cmp (.ao bp<|L 0) [(.isin,(.k<|.tup [.int 1,.int 2,.int 3,.int 4,.int 5]))]) [.ret<|L 11] [],.iff (.or [.cmp (.ao bp<|L 0) [(.ne,L 9)],.ao bp<|L 2,.at (.ao (.at aD 2)<|.ao bp<|L 1) 15]) [.bad] [],.set 1<|.at (.ao (.at aD 2)<|.ao bp<|L 1) 14],.bad]⟩
def Vl:bS:=⟨3,3,[],[.ret<|.k .none]⟩
def RA:bS:=⟨2,2,[],[.ret<|.call 26 [.at aD 25,aS]]⟩
def UL:bS:=⟨1,2,[],[.iff (.cmp (.ao aD<|L 0) [(.eq,L 11)]) [.ret<|L 0] [],.for false [1] (.eA (L 0)<|.bi .len [.ao aD<|L 1]) [.iff (.cmp (.ao (.ao (.ao aD<|L 1) aS)<|L 1) [(.isin,(.tup [L 2,L 3]))]) [.ret aS] []],.ret<|.bi .len [.ao aD<|L 1]]⟩
def YQ:bS:=⟨2,3,[],[.for false [2] (.ao aD<|L 1) [.iff (.cmp (.ao aZ<|L 0) [(.eq,aS)]) [.ret aZ] []],.ret<|.k .none]⟩
def X1:bS:=⟨1,3,[],[.set 1<|.bi .all [.comp (.cmp (bo [48]) [(.le,aZ),(.le,bo [57])]) false [2] aD []],.ret<|.or [.cmp aD [(.eq,bo [48])],.an [.cmp aD [(.ne,bo [])],.cmp (.ao aD<|L 0) [(.ne,bo [48])],aS]]]⟩
def Tt:bS:=⟨3,5,[],[.set 1<|.cQ aD 6 [aS],.set 3<|.ao (.at (.at aD 25) 0) aS,.iff (.or [.cmp (.ao bp<|L 0) [(.eq,L 11)],.cmp (.ao bp<|L 0) [(.eq,L 12)]]) [.set 4<|.cQ aD 1 [aS,aZ]] [.set 4<|.call 30 [.ao (.at (.at aD 25) 0)<|.cQ aD 2 [aS],aZ]],.ret<|.ite (.cmp bN [(.is,(.k .none))]) (.k .none)<|.tup [aZ,.cQ aD 6 [.ao bN<|L 1],.ao bN<|L 2,.ao bN<|L 3]]⟩
def WZ:bS:=⟨2,2,[],[.ret<|.ite (.bin .band (.ao aS<|L 2)<|L 1) (.call 22 [aD,.ao aS<|L 1])<|.ao aS<|L 1]⟩
def Tn:bS:=⟨2,6,[],[.set 2<|.ao (.at aD 0) aS,.iff (.cmp (.ao aZ<|L 0) [(.isin,(.k<|.tup [.int 10,.int 14,.int 15,.int 16,.int 17,.int 19]))]) [.ret<|.k<|.bool true] [],.iff (.or [.cmp (.ao aZ<|L 0) [(.eq,L 6)],.cmp (.ao aZ<|L 0) [(.eq,L 7)]]) [.for false [3] (.ao aZ<|L 1) [.iff (.call 34 [aD,bp]) [.ret<|.k<|.bool true] []]] [],.iff (.cmp (.ao aZ<|L 0) [(.eq,L 12)]) [.for false [4] (.ao aZ<|L 1) [.iff (.cmp (.ao bN<|L 1) [(.eq,L 3)]) [.ret<|.k<|.bool true] []]] [],.iff (.cmp (.ao aZ<|L 0) [(.eq,L 18)]) [.for false [5] (.ao aZ<|L 2) [.iff (.call 34 [aD,c6]) [.ret<|.k<|.bool true] []]] [],.ret<|.k<|.bool false]⟩
def Z_:bS:=⟨2,3,[],[.set 2<|.ao (.at aD 0) aS,.iff (.cmp (.ao aZ<|L 0) [(.eq,L 3)]) [.ret<|.ao aZ<|L 1] [],.iff (.cmp (.ao aZ<|L 0) [(.eq,L 4)]) [.ret<|.bi .str [.ao aZ<|L 1]] [],.iff (.cmp (.ao aZ<|L 0) [(.eq,L 5)]) [.ret<|.bi .str [.ao aZ<|L 3]] [],.iff (.cmp (.ao aZ<|L 0) [(.eq,L 2)]) [.ret<|.ite (.cmp (.ao aZ<|L 1) [(.eq,L 1)]) (bo [116,114,117,101])<|bo [102,97,108,115,101]] [],.iff (.cmp aS [(.eq,L 5)]) [.ret<|bo [110,117,108,108]] [],.iff (.cmp aS [(.eq,L 4)]) [.ret<|bo [117,110,100,101,102,105,110,101,100]] [],.ret<|.k .none]⟩
def Xv:bS:=⟨2,2,[],[.iff (.cmp (.ao (.ao (.at aD 0) aS)<|L 0) [(.isin,(.tup [L 3,L 4,L 5]))]) [.ret<|.call 35 [aD,aS]] [],.ret<|.k .none]⟩
def ZU:bS:=⟨1,1,[],[.ret<|.cmp (.bin .band (.ao aD<|L 2)<|.bin .add (L 8)<|L 16) [(.eq,L 0)]]⟩
def VR:bS:=⟨1,1,[],[.jr aD 0<|.a9 [],.jr aD 5<|.lst [],.fX aD 26<|.tup [],.fX aD 27<|.tup []]⟩
def Xp:bS:=⟨5,7,[],[.iff (.cmp aZ [(.f5,(.at aD 0))]) [.m5 (.at aD 5) aZ,.mW (.at aD 0) aZ<|.tup [bp,bN],.ret<|.k .none] [],.set 5<|.ao (.at aD 0) aZ,.own 6<|.lst [.ao c6<|L 0,bp],.iff (.an [.cmp (.bin .band bN<|L 1) [(.ne,L 0)],.cmp (.bin .band (.ao c6<|L 1)<|L 1) [(.eq,L 0)]]) [.app 6<|L 4] [],.a4 6,.mW (.at aD 0) aZ<|.tup [.call 20 [aS,dL],.ao c6<|L 1]]⟩
def Rv:bS:=⟨5,7,[],[.set 5<|.ite aZ (.at aD 27)<|.at aD 26,.set 6<|.tup [bp,bN],.iff (.cmp c6 [(.ne,(.tup []))]) [.set 6<|.tup [.call 20 [aS,.lst [.ao c6<|L 0,bp]],.ite (.or [.cmp (.ao c6<|L 1) [(.eq,L 1)],.cmp bN [(.eq,L 1)]]) (L 1)<|L 0]] [],.iff aZ [.fX aD 27 dL] [.fX aD 26 dL]]⟩
def VX:bS:=⟨2,4,[],[.set 2<|.comp (.tup [bp,.ao (.ao (.at aD 0) bp)<|L 0,.ao (.ao (.at aD 0) bp)<|L 1,L 0]) false [3] (.at aD 5) [],.ret<|.call 10 [aS,aZ,.tup [],.tup [],.at aD 26,.at aD 27,L 0]]⟩
def Þ:bS:=⟨2,7,[],[.set 2<|.k<|.bool false,.for false [3] (.call 14 [aD,aS]) [.set 4<|.ao (.at aD 0) bp,.set 5<|.ite (.cmp (.ao bN<|L 0) [(.eq,L 19)]) (.ao bN<|L 2)<|.tup [bp],.iff (.bi .any [.comp (.call 34 [aD,dL]) false [6] c6 []]) [.ret<|.k<|.bool false] [],.set 2<|.or [aZ,.cmp (.ao bN<|L 0) [(.eq,L 19)]]],.ret aZ]⟩
def Ti:bS:=⟨2,3,[],[.set 2<|.at aD 25,.iff (.call 42 [aZ,aS]) [.ret<|.cQ aZ 0 [.tup [L 7,.tup [aS,.call 20 [aZ,.lst [L 11,L 5]]]]]] [],.set 1<|.cQ aD 6 [aS],.ret<|.ite (.cmp aS [(.eq,L 4)]) (L 2)<|.call 21 [aZ,aS,.lst [L 4]]]⟩
def UW:bS:=⟨2,2,[],[.iff (.cmp aS [(.eq,L 4)]) [.ret aS] [],.ret<|.call 21 [aD,aS,.lst [L 4]]]⟩
def Q7:bS:=⟨2,2,[],[.iff (.cmp aD [(.eq,L 1)]) [.ret<|L 1] [],.iff (.cmp aD [(.eq,L 2)]) [.ret<|L 0] [],.ret aS]⟩
def X':bS:=⟨3,3,[],[.ret<|.cQ aD 8 [.ao aS<|L 4,.a9 [((.ao aS<|L 1),aZ)]]]⟩
def Qt:bS:=⟨2,2,[],[.ret<|.or [.cmp (.ao aD<|L 5) [(.eq,L 1)],.an [.cmp (.ao aD<|L 5) [(.eq,L 0)],aS]]]⟩
def Vf:bS:=⟨5,7,[],[.set 5<|.at aD 25,.set 6<|.ite (.cmp bp [(.ge,L 0)]) bp<|.call 46 [aD,aS,aZ],.iff (.call 47 [aS,bN]) [.iff (.an [.cmp bp [(.ge,L 0)],bN]) [.ret dL] [],.ret<|.call 44 [c6,dL]] [],.iff bN [.ret<|.call 43 [aD,dL]] [],.ret dL]⟩
def Rg:bS:=⟨3,6,[],[.set 3<|.ite (.cmp aS [(.is,(.k .none))]) (L 0)<|.ao aS<|L 2,.set 4<|L 0,.iff (.call 47 [aD,.cmp (.bin .band bp<|L 1) [(.ne,L 0)]]) [.set 4<|L 1] [],.set 5<|.ite (.cmp (.bin .band bp<|L 2) [(.ne,L 0)]) (L 1)<|L 0,.iff (.cmp (.call 45 [.ao aD<|L 6,c6]) [(.eq,L 1)]) [.set 4<|.bin .add bN<|L 2] [],.ret<|.ite aZ (.bin .add bN<|.bin .band bp<|L 4) bN]⟩
def TK:bS:=⟨3,4,[],[.iff (.cmp (.ao aS<|L 3) [(.eq,(.k<|.int<|-1))]) [.ret<|.tup [aZ]] [],.set 3<|.cQ aD 6 [.cQ aD 8 [.ao aS<|L 3,.a9 [((.ao aS<|L 1),aZ)]]],.iff (.call 34 [.at aD 25,bp]) [.ret<|.k .none] [],.ret<|.call 14 [.at aD 25,bp]]⟩
def Ur:bS:=⟨4,4,[],[.fX aD 28 aS,.fX aD 29 aZ,.fX aD 1 bp]⟩
def Oa:bS:=⟨6,13,[],[.set 6<|.at aD 25,.set 7<|.call 36 [dL,bN],.set 8<|.k<|.int<|-1,.set 9<|.k<|.bool false,.iff (.cmp (.at bp 29) [(.p_,(.k .none))]) [.set 9<|.cmp (.bin .band (.ao (.at bp 29)<|L 2)<|L 1) [(.ne,L 0)],.set 8<|.ite c6 (.ao (.at bp 29)<|L 1)<|.k<|.int<|-1] [.iff (.cmp (.at bp 1) [(.ne,(.tup []))]) [.set 8<|.ite c6 (.ao (.at bp 1)<|L 0)<|.k<|.int<|-1] []],.iff (.cmp fq [(.p_,(.k .none))]) [.set 10<|.call 48 [aD,aS,.at bp 28,f2,gq],.ex<|.cQ aZ 3 [dL,fq,m0,.call 49 [aS,.at bp 29,c6]],.ret<|.k .none] [],.iff (.an [.cmp bN [(.f5,(.tup [L 6,L 7,L 0]))],.cmp .bad [(.ne,L 18)]]) [.ret<|.k .none] [],.set 11<|.ite (.cmp f2 [(.ge,L 0)]) f2<|.call 46 [aD,aS,.at bp 28],.iff (.or [.cmp (.ao aS<|L 5) [(.eq,L 1)],.an [.cmp f2 [(.ge,L 0)],gq]]) [.set 11<|.call 20 [dL,.lst [ng,L 4]]] [],.set 12<|.ite (.cmp (.at bp 1) [(.ne,(.tup []))]) (.ao (.at bp 1)<|L 1)<|L 0,.ex<|.cQ aZ 4 [dL,.cmp bN [(.eq,L 7)],ng,.call 45 [.ao aS<|L 6,kU]]]⟩
def PW:bS:=⟨4,8,[],[.set 4<|.new 5 [],.for false [5] aZ [.set 6<|.call 50 [aD,aS,.at c6 28],.iff (.cmp dL [(.is,(.k .none))]) [.ret<|.cQ (.at aD 25) 0 [aS]] [],.for false [7] dL [.ex<|.call 52 [aD,aS,bN,c6,fq,bp]]],.ret<|.cQ bN 5 [.at aD 25]]⟩
def PD:bS:=⟨2,6,[],[.set 2<|.at aD 25,.own 3<|.lst [],.set 4<|.ao (.at aZ 0)<|.cQ aD 2 [aS],.for false [5] (.ao bN<|L 1) [.iff (.call 37 [c6]) [.app 3<|.new 6 [.call 3 [aZ,.ao c6<|L 0],c6,.tup []]] []],.iff (.cmp (.ao bN<|L 4) [(.ne,(.tup []))]) [.app 3<|.new 6 [L 6,.k .none,.ao bN<|L 4]] [],.iff (.cmp (.ao bN<|L 5) [(.ne,(.tup []))]) [.app 3<|.new 6 [L 7,.k .none,.ao bN<|L 5]] [],.a4 3,.ret bp]⟩
def Zq:bS:=⟨4,7,[],[.set 4<|.at aD 25,.set 5<|.ao (.at bN 0) aZ,.set 6<|.ite bp (.ao c6<|L 1)<|.call 46 [aD,aS,L 7],.ret<|.call 4 [bN,.call 56 [aD,aS,dL],.call 45 [.ao aS<|L 6,.ao c6<|L 2]]]⟩
def WX:bS:=⟨3,3,[],[.iff (.cmp (.ao aS<|L 5) [(.eq,L 1)]) [.ret<|.call 20 [.at aD 25,.lst [aZ,L 4]]] [],.iff (.cmp (.ao aS<|L 5) [(.eq,L 2)]) [.ret<|.call 43 [aD,aZ]] [],.ret aZ]⟩
def RC:bS:=⟨5,10,[],[.set 5<|.call 3 [.at aD 25,.bi .str [aZ]],.set 6<|.ite bN (.ao bp<|L 0)<|.k<|.int<|-1,.iff (.cmp (.ao bp<|L 1) [(.eq,L 2)]) [.set 7<|.ite bN dL<|.call 46 [aD,aS,c6],.ret<|.tup [.call 56 [aD,aS,fq],L 2]] [],.set 8<|.cmp (.ao bp<|L 1) [(.eq,L 1)],.set 9<|.ite (.call 47 [aS,f2]) (L 1)<|L 0,.ret<|.tup [.call 48 [aD,aS,c6,dL,f2],gq]]⟩
def Yc:bS:=⟨2,2,[],[.ret<|.cmp (.call 25 [aD,aS]) [(.f5,(.tup [L 7,L 0]))]]⟩
def RU:bS:=⟨3,6,[],[.set 3<|.ao (.at (.at aD 25) 0) aZ,.iff (.call 58 [.at aD 25,aZ]) [.ret aZ] [],.iff (.cmp (.ao aS<|L 3) [(.ne,(.k<|.int<|-1))]) [.ret<|L 11] [],.iff (.cmp (.ao bp<|L 0) [(.eq,L 11)]) [.ret<|.call 55 [aD,aS,aZ,.k<|.bool false]] [],.iff (.cmp (.ao bp<|L 0) [(.eq,L 12)]) [.ret<|.call 60 [aD,aS,bp]] [],.set 4<|.comp c6 false [5] (.call 54 [aD,aZ]) [.not (.call 61 [aD,c6])],.ret<|.call 53 [aD,aS,bN,.k<|.bool false]]⟩
def Sa:bS:=⟨3,8,[],[.own 3<|.lst [],.set 4<|.call 29 [aZ],.for false [5] (.eA (L 0)<|.bi .len [.ao aZ<|L 1]) [.set 6<|.ao (.ao aZ<|L 1) c6,.iff (.cmp c6 [(.lt,bN)]) [.app 3<|.call 57 [aD,aS,c6,dL,.k<|.bool false]] [.set 7<|.call 56 [aD,aS,.call 46 [aD,aS,L 7]],.app 3<|.tup [fq,.ite (.cmp (.ao dL<|L 1) [(.eq,L 2)]) (L 2)<|L 0]]],.a4 3,.ret<|.call 8 [.at aD 25,.bi .tuple [bp],.call 45 [.ao aS<|L 6,.ao aZ<|L 2]]]⟩
def XJ:bS:=⟨2,4,[],[.iff (.cmp (.at aS 29) [(.is,(.k .none))]) [.ret<|.k<|.bool false] [],.set 2<|.ao (.at aS 29)<|L 0,.iff (.or [.cmp aZ [(.eq,bo [108,101,110,103,116,104])],.call 31 [aZ]]) [.ret<|.k<|.bool true] [],.for false [3] (.tup [.call 4 [.at aD 25,L 0,L 0],L 6,L 7]) [.iff (.cmp (.call 32 [aD,bp,aZ]) [(.p_,(.k .none))]) [.ret<|.k<|.bool true] []],.ret<|.k<|.bool false]⟩
def RE:bS:=⟨3,4,[],[.ret<|.bi .tuple [.comp (.call 66 [aD,bp,aZ]) false [3] aS []]]⟩
def Qo:bS:=⟨3,3,[],[.ret<|.ite (.cmp aS [(.eq,(.tup []))]) (.tup [])<|.tup [.call 66 [aD,.ao aS<|L 0,aZ],.ao aS<|L 1]]⟩
def U1:bS:=⟨3,8,[],[.set 3<|.bi .tuple [.comp (.tup [.ao fq<|L 0,.call 66 [aD,.ao fq<|L 1,aZ],.ao fq<|L 2,.ao fq<|L 3]) false [7] (.ao aS<|L 1) []],.set 4<|.call 62 [aD,.ao aS<|L 2,aZ],.set 5<|.call 62 [aD,.ao aS<|L 3,aZ],.set 6<|.call 63 [aD,.ao aS<|L 4,aZ],.ret<|.cQ (.at aD 25) 0 [.tup [L 8,bp,bN,c6,dL,.call 63 [aD,.ao aS<|L 5,aZ],.ao aS<|L 6]]]⟩
def VL:bS:=⟨4,5,[],[.iff (.cmp (.ao aZ<|L 0) [(.eq,L 15)]) [.ret<|.cQ aD 7 [.bin .add (.tup [L 15])<|.call 62 [aD,.aL aZ (some 1) none none,bp]]] [],.iff (.cmp (.ao aZ<|L 0) [(.eq,L 14)]) [.ret<|.cQ aD 7 [.tup [L 14,.call 66 [aD,.ao aZ<|L 1,bp]]]] [],.iff (.cmp (.ao aZ<|L 0) [(.eq,L 18)]) [.ret<|.cQ aD 7 [.tup [L 18,.ao aZ<|L 1,.call 62 [aD,.ao aZ<|L 2,bp]]]] [],.iff (.cmp (.ao aZ<|L 0) [(.eq,L 9)]) [.ret<|.cQ (.at aD 25) 0 [.tup [L 9,.ao aZ<|L 1,.call 62 [aD,.ao aZ<|L 2,bp]]]] [],.iff (.cmp (.ao aZ<|L 0) [(.eq,L 19)]) [.ret<|.cQ aD 7 [.tup [L 19,.ao aZ<|L 1,.call 62 [aD,.ao aZ<|L 2,bp]]]] [],.iff (.cmp (.ao aZ<|L 0) [(.eq,L 16)]) [.set 4 .bad,.ret<|.ite (.cmp (.bi .len [bN]) [(.gt,L 0)]) (.cQ aD 9 [aZ,bN]) aS] [],.ret aS]⟩
def Sd:bS:=⟨3,4,[],[.iff (.or [.cmp aS [(.lt,L 0)],.cmp (.bi .len [aZ]) [(.eq,L 0)]]) [.ret aS] [],.set 3<|.ao (.at (.at aD 25) 0) aS,.iff (.cmp (.ao bp<|L 0) [(.eq,L 10)]) [.ret<|.bi .get [aZ,.ao bp<|L 1,aS]] [],.iff (.cmp (.ao bp<|L 0) [(.eq,L 6)]) [.ret<|.call 20 [.at aD 25,.call 62 [aD,.ao bp<|L 1,aZ]]] [],.iff (.cmp (.ao bp<|L 0) [(.eq,L 11)]) [.ret<|.call 4 [.at aD 25,.call 66 [aD,.ao bp<|L 1,aZ],.ao bp<|L 2]] [],.iff (.cmp (.ao bp<|L 0) [(.eq,L 12)]) [.ret .bad] [],.iff (.cmp (.ao bp<|L 0) [(.eq,L 8)]) [.ret<|.call 64 [aD,bp,aZ]] [],.iff (.cmp (.ao bp<|L 0) [(.eq,L 13)]) [.ret .bad] [],.ret<|.call 65 [aD,aS,bp,aZ]]⟩
def Xx:bS:=⟨2,5,[],[.set 2<|.ao (.at aD 0)<|.ao aS<|L 1,.iff (.cmp (.ao aS<|L 1) [(.eq,L 0)]) [.ret<|L 0] [],.iff (.cmp (.ao aZ<|L 0) [(.ne,L 8)]) [.ret<|.cQ aD 0 [aS]] [],.set 3<|.call 30 [aZ,.call 36 [aD,.ao aS<|L 2]],.iff (.cmp bp [(.p_,(.k .none))]) [.ret<|.call 33 [aD,bp]] [],.set 4<|.ite (.an [.cmp (.ao aS<|L 2) [(.eq,L 7)],.cmp (.ao aZ<|L 5) [(.ne,(.tup []))]]) (.ao aZ<|L 5)<|.ao aZ<|L 4,.ret<|.ite (.cmp bN [(.eq,(.tup []))]) (L 13)<|.ao bN<|L 0]⟩
def ß:bS:=⟨2,2,[],[.iff (.cmp (.ao aS<|L 0) [(.eq,L 15)]) [.ret<|.call 67 [.at aD 25,aS]] [],.iff (.cmp (.ao aS<|L 0) [(.eq,L 18)]) [.ret .bad] [],.ret<|.cQ (.at aD 25) 0 [aS]]⟩
def YE:bS:=⟨2,2,[],[.fX aD 25 aS,.fX aD 30<|L 0,.fX aD 31<|L 200,.fX aD 32<|L 40]⟩
def M_:bS:=⟨2,3,[],[.set 2<|.ao (.at (.at aD 25) 0) aS,.ret<|.ite (.or [.cmp (.ao aZ<|L 0) [(.eq,L 15)],.cmp (.ao aZ<|L 0) [(.eq,L 18)]]) (.call 68 [aD,aZ]) aS]⟩
def Z4:bS:=⟨2,2,[],[.ret<|.call 68 [aD,aS]]⟩
def ZZ:bS:=⟨3,3,[],[.ret<|.call 66 [aD,aS,aZ]]⟩
def WO:bS:=⟨2,3,[],[.set 2<|.ao aD<|L 0,.mW aD (L 0)<|.bin .add aZ<|L 1,.ret<|.bin .mod (.bin .add (.ao (.ao aD<|L 1)<|.bin .mod aZ<|.bi .len [.ao aD<|L 1])<|.bin .mul (L 7)<|.bin .fdiv aZ<|.bi .len [.ao aD<|L 1]) aS]⟩
def VP:bS:=⟨1,5,[],[.set 1<|.lst [.tup [bo [116],bo [97]],.k<|.tup [.str [119],.str [83]],.k<|.tup [.str [119],.str [117]],.tup [bo [35],L 0],.k<|.tup [.str [119],.str [78]],.tup [bo [119],bo [110]],.tup [bo [116],bo [98]],.tup [bo [35],L 1]],.own 2<|.lst [],.for false [3] (.eA (L 0)<|.ao (.lst [L 1,L 2,L 3,L 1,L 2,L 0])<|.call 73 [aD,L 6]) [.set 4<|.ao aS<|.call 73 [aD,L 8],.iff (.cmp bN [(.f5,aZ)]) [.app 2 bN] []],.a4 2,.ret aZ]⟩
def V5:bS:=⟨3,4,[],[.ret<|.call 20 [aD,.comp (.call 76 [aD,aS,bp]) false [3] aZ []]]⟩
def Xw:bS:=⟨3,5,[],[.hs [3,4] aZ,.iff (.cmp bp [(.eq,bo [116])]) [.ret<|.cQ aD 0 [.tup [L 3,bN,L 0]]] [],.iff (.cmp bp [(.eq,bo [35])]) [.ret<|.cQ aD 0 [.tup [L 4,bN,L 0]]] [],.iff (.cmp bp [(.eq,bo [91])]) [.ret<|.cQ aD 0 [.tup [L 11,.call 75 [aD,aS,bN],L 0]]] [],.iff (.cmp bp [(.eq,bo [84])]) [.ret<|.cQ aD 0 [.tup [L 15,aS,.call 76 [aD,aS,bN]]]] [],.ret<|.ao (.a9 [((bo [117]),(L 4)),((bo [110]),(L 5)),((bo [83]),(L 6)),((bo [78]),(L 7))]) bN]⟩
def Å:bS:=⟨2,4,[],[.set 2<|.ao (.at aD 0) aS,.iff (.cmp aS [(.eq,L 2)]) [.ret<|.lst []] [],.ret<|.comp (.call 78 [aD,bp]) false [3] (.ite (.cmp (.ao aZ<|L 0) [(.eq,L 6)]) (.ao aZ<|L 1)<|.tup [aS]) []]⟩
def Nt:bS:=⟨2,3,[],[.set 2<|.ao (.at aD 0) aS,.iff (.cmp (.ao aZ<|L 0) [(.eq,L 3)]) [.ret<|.tup [bo [116],.ao aZ<|L 1]] [],.iff (.cmp (.ao aZ<|L 0) [(.eq,L 4)]) [.ret<|.tup [bo [35],.ao aZ<|L 1]] [],.iff (.cmp (.ao aZ<|L 0) [(.eq,L 11)]) [.ret<|.tup [bo [91],.bi .tuple [.call 77 [aD,.ao aZ<|L 1]]]] [],.iff (.cmp (.ao aZ<|L 0) [(.eq,L 15)]) [.ret<|.tup [bo [84],.call 78 [aD,.ao aZ<|L 2]]] [],.ret<|.tup [bo [119],.bi .get [.a9 [((L 4),(bo [117])),((L 5),(bo [110])),((L 6),(bo [83])),((L 7),(bo [78]))],aS,bo [63]]]]⟩
def Zn:bS:=⟨1,5,[],[.set 1<|.call 73 [aD,L 4],.set 2<|.call 73 [aD,L 4],.set 3<|.ite (.cmp aS [(.eq,L 2)]) (.call 74 [aD])<|.lst [],.own 4<|.a9 [],.iff (.cmp aS [(.eq,L 3)]) [.jS 4 (bo [48])<|.call 74 [aD],.jS 4 (bo [97])<|.call 74 [aD],.jS 4 (bo [42])<|.bin .add (.bin .add (.call 74 [aD])<|.ao bN<|bo [48])<|.ao bN<|bo [97]] [],.a4 4,.ret<|.tup [aS,aZ,bp,bN]]⟩
def zX:bS:=⟨2,7,[],[.hs [2,3,4,5] aD,.set 6 bN,.iff (.cmp aZ [(.eq,L 0)]) [.set 6<|.lst [.tup [bo [84],aS]]] [],.iff (.cmp aZ [(.eq,L 1)]) [.set 6<|.lst [aS]] [],.iff (.cmp aZ [(.eq,L 3)]) [.set 6<|.ite (.an [.cmp (.ao aS<|L 0) [(.eq,bo [116])],.cmp (.ao aS<|L 1) [(.isin,c6)]]) (.ao c6<|.ao aS<|L 1)<|.ao c6<|bo [42]] [],.iff (.cmp (.bin .mod bp<|L 2) [(.eq,L 1)]) [.set 6<|.lst [.tup [bo [91],.bi .tuple [dL]]]] [],.ret<|.ite (.cmp bp [(.gt,L 1)]) (.bin .add dL<|.lst [.k<|.tup [.str [119],.str [117]]]) dL]⟩
def ê:bS:=⟨4,11,[],[.hs [4,5,6,7] bp,.set 8 aZ,.iff (.cmp bN [(.eq,L 0)]) [.set 8<|.cQ aD 0 [.tup [L 15,aS,aZ]]] [],.iff (.cmp bN [(.eq,L 2)]) [.set 8<|.call 75 [aD,aS,dL]] [],.iff (.cmp bN [(.eq,L 3)]) [.set 9<|.bi .tuple [.comp (.tup [m0,.call 75 [aD,aS,.ao fq m0],L 0,L 0]) false [10] (.tup [bo [48],bo [97]]) []],.set 8<|.cQ aD 0 [.tup [L 15,.cQ aD 0 [.tup [L 8,gq,.tup [],.tup [],.tup [.call 75 [aD,aS,.ao fq<|bo [42]],L 0],.tup [],L 0]],aZ]]] [],.iff (.cmp (.bin .mod c6<|L 2) [(.eq,L 1)]) [.set 8<|.cQ aD 0 [.tup [L 11,f2,L 0]]] [],.ret<|.ite (.cmp c6 [(.gt,L 1)]) (.call 20 [aD,.tup [f2,L 4]]) f2]⟩
def Yo:bS:=⟨2,27,[],[.set 2<|.lst [bo [97],bo [108,101,110,103,116,104],bo [98],bo [48],bo [49,50],bo [48,49],bo [45,49]],.set 3<|.call 73 [aD,L 3],.own 4<|.lst [],.for false [5] (.eA (L 0)<|.ao (.lst [L 2,L 0,L 1,L 3,L 4])<|.call 73 [aD,L 5]) [.set 6<|.ao aZ<|.bin .mod (.bin .add (.call 73 [aD,L 7]) c6)<|L 7,.set 7<|.call 73 [aD,L 60],.set 8<|.call 74 [aD],.iff (.cmp dL [(.f5,(.comp (.ao Nx<|L 0) false [23] bN []))]) [.app 4<|.tup [dL,f2,.bin .mod fq<|L 2,.bin .mod (.bin .fdiv fq<|L 2)<|L 2,.bin .mod (.bin .fdiv fq<|L 4)<|L 3,.ao (.lst [L 0,L 0,L 0,L 1,L 2])<|.bin .fdiv fq<|L 12]] []],.set 9<|.call 73 [aD,L 5],.set 10<|.comp w6 false [24] bN [.or [.cmp (.ao w6<|L 5) [(.gt,L 0)],.an [.cmp (.ao w6<|L 2) [(.eq,L 0)],.cmp (.ao w6<|L 0) [(.f5,(.tup [bo [108,101,110,103,116,104],bo [48],bo [49,50]]))]]]],.iff (.an [.cmp gq [(.eq,L 2)],.cmp bp [(.ne,L 1)],.cmp (.bi .len [m0]) [(.eq,L 0)]]) [.set 9<|L 1] [],.set 11<|.comp (.ite (.cmp gq [(.isin,YN)]) (.tup [.call 74 [aD],.call 73 [aD,L 2]])<|.tup []) false [25] (.tup [.tup [L 1,L 3],.tup [L 2,L 3]]) [],.a4 4,.set 4<|.bi .sorted [bN],.own 12<|.lst [],.a4 4,.for true [6,8,13,14,15,16] bN [.set 17<|.bin .add (.bin .add (.bin .add (.bin .mul om<|L 1)<|.bin .mul n8<|L 2)<|.ao (.lst [L 0,L 4,.bin .add (L 32)<|L 64]) pr)<|.ao (.lst [L 0,L 8,L 16]) rJ,.app 12<|.tup [dL,.call 75 [aS,.k<|.int<|-1,f2],uX,.ite (.cmp rJ [(.gt,L 0)]) (L 1)<|L 0]],.set 18<|.ite (.cmp bp [(.eq,L 1)]) (.tup [.cQ aS 0 [.tup [L 13,.tup [],.tup [],L 3,.tup [],L 0]]])<|.tup [],.set 19<|.comp (.ite (.cmp z9 [(.eq,(.tup []))]) (.tup [])<|.tup [.call 75 [aS,.k<|.int<|-1,.ao z9<|L 0],.ao z9<|L 1]) false [26] ng [],.a4 12,.set 20<|.cQ aS 0 [.tup [L 8,.bi .tuple [kU],uW,.tup [],.ao zn<|L 0,.ao zn<|L 1,.bin .mod bp<|L 2]],.a4 12,.set 21<|.cQ aS 0 [.tup [L 8,.bi .tuple [.aL kU none none<|some<|-1],uW,.tup [],.ao zn<|L 0,.ao zn<|L 1,.bin .mod bp<|L 2]],.iff (.cmp bp [(.eq,L 2)]) [.set 22<|.call 13 [aS,L 2,bo [73]],.fX Fn 14 FL,.set 20<|.cQ aS 0 [.tup [L 9,.at Fn 10,.tup []]]] [],.a4 4,.a4 12,.ret<|.a9 [((bo [115,111,114,116]),(bo [123])),((bo [116]),FL),((bo [116,117,114,110,101,100]),Zp),((bo [109,101,109,98,101,114,115]),bN),((bo [112,114,111,112,115]),kU),((bo [99,101,108,108,115]),ng),((bo [119,97,121]),bp)]]⟩
def O5:bS:=⟨2,10,[],[.set 2<|.call 73 [aD,L 2],.set 3<|.call 73 [aD,L 4],.set 4<|.bin .mul (.lst [L 0])<|.call 73 [aD,L 3],.iff (.cmp bp [(.eq,L 0)]) [.set 4<|.bin .add bN<|.bin .mul (.lst [L 1])<|.call 73 [aD,L 3]] [],.iff (.cmp bp [(.eq,L 1)]) [.set 4<|.bin .add (.bin .add bN<|.bin .mul (.lst [L 1])<|.call 73 [aD,L 3])<|.lst [L 2]] [],.iff (.cmp bp [(.eq,L 2)]) [.set 4<|.bin .add (.bin .add bN<|.lst [L 2])<|.bin .mul (.lst [L 0])<|.bin .add (L 1)<|.call 73 [aD,L 2]] [],.iff (.cmp bp [(.eq,L 3)]) [.set 4<|.lst [L 2]] [],.set 5<|.comp (.tup [.call 74 [aD],fq]) false [7] bN [],.iff (.cmp bN [(.eq,(.lst [L 2]))]) [.set 6<|.cQ aS 0 [.tup [L 11,.call 75 [aS,.k<|.int<|-1,.ao (.ao c6<|L 0)<|L 0],aZ]]] [.set 6<|.cQ aS 0 [.tup [L 12,.bi .tuple [.comp (.tup [.call 75 [aS,.k<|.int<|-1,f2],gq]) true [8,9] c6 []],aZ]]],.ret<|.a9 [((bo [115,111,114,116]),(bo [91])),((bo [116]),dL),((bo [101,108,101,109,115]),c6),((bo [114,111]),aZ),((bo [111,112,101,110]),(.cmp bN [(.eq,(.lst [L 2]))]))]]⟩
def MV:bS:=⟨2,5,[],[.set 2<|.call 73 [aD,L 11],.set 3<|.cQ aS 0 [.tup [L 13,.tup [],.tup [],L 3,.tup [],L 0]],.iff (.cmp aZ [(.lt,L 6)]) [.set 4<|.ao (.lst [L 6,L 3,L 5,L 12,.cQ aS 0 [.tup [L 3,bo [97],L 0]],.cQ aS 0 [.tup [L 4,L 3,L 1]]]) aZ] [.iff (.cmp aZ [(.lt,L 8)]) [.set 4<|.ite (.cmp aZ [(.eq,L 6)]) (.cQ aS 0 [.tup [L 18,.tup [bo [120],bo []],.tup [L 7]]])<|.cQ aS 0 [.tup [L 5,L 1,bo [65],L 0,L 0]]] [.iff (.cmp aZ [(.eq,L 8)]) [.set 4<|.cQ aS 0 [.tup [L 7,.tup [L 6,.cQ aS 0 [.tup [L 8,.tup [.tup [bo [98,114,97,110,100],L 7,L 0,L 0]],.tup [],.tup [],.tup [],.tup [],L 0]]]]]] [.set 4<|.ite (.cmp aZ [(.eq,L 9)]) (L 10)<|L 1,.iff (.an [.cmp aZ [(.eq,L 9)],.cmp (.call 73 [aD,L 2]) [(.eq,L 1)]]) [.set 4 bp] []]]],.ret<|.a9 [((bo [115,111,114,116]),(bo [112])),((bo [116]),bN),((bo [115,116,97,121,115]),(.cmp aZ [(.lt,L 9)]))]]⟩
def NS:bS:=⟨3,5,[],[.set 3<|.comp bN false [4] aD [.cmp bN [(.ne,(.k<|.tup [.str [119],.str [117]]))]],.iff (.or [.cmp aS [(.eq,L 1)],.an [.cmp aS [(.eq,L 0)],.cmp aZ [(.eq,L 1)]]]) [.ret<|.tup [.ite (.cmp (.bi .len [bp]) [(.eq,L 0)]) aD bp,L 1]] [],.ret<|.tup [.ite (.cmp aZ [(.eq,L 1)]) bp aD,L 0]]⟩
def VW:bS:=⟨5,19,[],[.hs [5,6] bp,.iff (.cmp (.ao bN<|bo [115,111,114,116]) [(.eq,bo [91])]) [.ret<|.call 87 [aD,aS,aZ,bp,bN]] [],.own 7<|.lst [],.for true [8,9,10,11,12,13] (.ao bN<|bo [109,101,109,98,101,114,115]) [.iff (.an [.cmp om [(.eq,L 0)],.cmp f2 [(.f5,(.tup [bo [108,101,110,103,116,104],bo [48],bo [49,50]]))]]) [.hs [14,15]<|.call 85 [.call 80 [aZ,.tup [bo [116],f2]],c6,m0],.app 7<|.tup [f2,.call 75 [aD,aS,n8],.bin .add (.bin .mul pr<|L 1)<|.bin .mul (.ao (.lst [ng,L 1,L 0]) dL)<|L 2,L 0]] []],.own 16<|.lst [],.for false [17] (.eA (L 0)<|L 2) [.set 18<|.ao (.ao bN<|bo [99,101,108,108,115]) uX,.iff (.cmp uW [(.ne,(.tup []))]) [.set 14<|.bin .add (.call 80 [aZ,.ao (.lst [.k<|.tup [.str [119],.str [83]],.k<|.tup [.str [119],.str [78]]]) uX])<|.ite (.cmp c6 [(.eq,L 1)]) (.lst [.k<|.tup [.str [119],.str [117]]])<|.lst [],.set 18<|.tup [.call 75 [aD,aS,n8],.ao (.lst [.ao uW<|L 1,L 1,L 0]) dL]] [],.app 16 uW],.a4 7,.ret<|.cQ aD 0 [.tup [L 8,.bi .tuple [fq],.tup [],.tup [],.ao rJ<|L 0,.ao rJ<|L 1,L 0]]]⟩
def VC:bS:=⟨5,18,[],[.hs [5,6] bp,.set 7<|.ao (.lst [.ao bN<|bo [114,111],L 1,L 0]) dL,.set 8<|.call 80 [aZ,.k<|.tup [.str [119],.str [78]]],.iff (.cmp c6 [(.eq,L 1)]) [.set 8<|.bin .add f2<|.lst [.k<|.tup [.str [119],.str [117]]]] [],.iff (.cmp c6 [(.eq,L 2)]) [.set 8<|.comp pr false [15] f2 [.cmp pr [(.ne,(.k<|.tup [.str [119],.str [117]]))]]] [],.iff (.ao bN<|bo [111,112,101,110]) [.ret<|.cQ aD 0 [.tup [L 11,.call 75 [aD,aS,f2],fq]]] [],.set 9<|.comp uX true [16,17] (.ao bN<|bo [101,108,101,109,115]) [],.set 10<|.ite (.cmp (L 2) [(.isin,gq)]) (.bi .index [gq,L 2])<|.bi .len [gq],.own 11<|.lst [],.for false [12] (.eA (L 0)<|.bi .len [gq]) [.hs [13,14]<|.tup [f2,.ao gq kU],.iff (.cmp kU [(.lt,m0)]) [.hs [13,14]<|.call 85 [.call 80 [aZ,.tup [bo [116],.bi .str [kU]]],c6,.ao gq kU]] [],.iff (.an [.cmp n8 [(.eq,L 1)],.cmp m0 [(.lt,(.bin .sub (.bi .len [gq])<|L 1))]]) [.hs [13,14]<|.tup [.bin .add om<|.lst [.k<|.tup [.str [119],.str [117]]],L 0]] [],.app 11<|.tup [.call 75 [aD,aS,om],n8]],.a4 11,.ret<|.cQ aD 0 [.tup [L 12,.bi .tuple [ng],fq]]]⟩
def Zw:bS:=⟨1,17,[],[.iff (.cmp (.ao aD<|bo [115,111,114,116]) [(.eq,bo [91])]) [.ret<|.comp (.tup [.call 90 [n8],bo [91]]) false [14] (.call 89 [.ao aD<|bo [101,108,101,109,115]]) []] [],.own 1<|.a9 [],.own 2<|.a9 [],.own 3<|.a9 [],.set 4<|.an [.cmp (.ao aD<|bo [119,97,121]) [(.ne,L 1)],.cmp (.ao aD<|bo [99,101,108,108,115]) [(.eq,(.lst [.tup [],.tup []]))]],.set 5<|.lst [.tup [bo [116],bo [97]]],.own 6<|.lst [],.for true [7,8,9,10,11,12] (.ao aD<|bo [109,101,109,98,101,114,115]) [.iff (.cmp kU [(.eq,L 0)]) [.jS 1 fq<|.tup [f2,gq],.jS 2 fq<|.tup [f2,L 0],.iff (.cmp gq [(.eq,L 0)]) [.jS 3 fq<|.tup [f2,L 0],.app 6 fq] []] [],.set 4<|.an [bN,.cmp kU [(.eq,L 0)],.or [.cmp fq [(.ne,bo [108,101,110,103,116,104])],.cmp (.k<|.tup [.str [119],.str [78]]) [(.isin,f2)]]],.set 5<|.ite (.cmp fq [(.eq,bo [48])]) f2 c6],.jS 2 (bo [122])<|.tup [.lst [.tup [bo [116],bo [97]]],L 0],.jS 3 (bo [55])<|.tup [.lst [.tup [bo [35],L 1]],L 0],.a4 2,.a4 3,.a4 1,.own 13<|.lst [.tup [aS,bo [123]],.tup [aZ,bo [123]],.tup [bp,bo [123]]],.iff (.an [bN,.cmp (.bi .len [.comp pr false [15] dL [.cmp pr [(.ne,bo [108,101,110,103,116,104])]]]) [(.eq,L 0)]]) [.app 13<|.tup [.a9 [],bo [116,101,120,116]]] [],.iff (.an [bN,.cmp (.bi .len [.comp rJ false [16] dL [.cmp rJ [(.f5,(.tup [bo [108,101,110,103,116,104],bo [48]]))]]]) [(.eq,L 0)]]) [.app 13<|.tup [.a9 [((bo [48]),(.tup [c6,L 0]))],bo [91]]] [],.a4 13,.ret om]⟩
def Yb:bS:=⟨1,8,[],[.own 1<|.lst [.comp (.tup [dL,L 0]) true [6,7] aD [.cmp fq [(.eq,L 0)]]],.for false [2] (.eA (L 0)<|L 3) [.own 3<|.lst [],.for true [4,5] aD [.iff (.cmp c6 [(.eq,L 2)]) [.ext 3<|.bin .mul (.lst [.tup [bN,L 0]]) aZ] [.app 3<|.tup [bN,.ite (.an [.cmp c6 [(.eq,L 1)],.cmp aZ [(.eq,L 0)]]) (L 1)<|L 0]]],.a4 3,.app 1 bp],.a4 1,.ret aS]⟩
def N8:bS:=⟨1,3,[],[.own 1<|.a9 [],.for false [2] (.eA (L 0)<|.bi .len [aD]) [.jS 1 (.bi .str [aZ])<|.ao aD aZ],.a4 1,.ret aS]⟩
def Y_:bS:=⟨2,8,[],[.set 2<|.comp fq false [7] aD [],.iff (.cmp (.ao aS<|L 0) [(.eq,bo [116])]) [.iff (.cmp (.ao aS<|L 1) [(.f5,aD)]) [.ret<|.lst [.k<|.tup [.str [119],.str [117]]]] [],.set 2<|.lst [.ao aS<|L 1]] [],.own 3<|.lst [],.for false [4] aZ [.hs [5,6]<|.ao aD bN,.ext 3<|.bin .add c6<|.bin .mul (.lst [.k<|.tup [.str [119],.str [117]]]) dL],.a4 3,.ret bp]⟩
def Ro:bS:=⟨2,5,[],[.own 2<|.lst [],.for true [3,4] aD [.iff (.cmp bp [(.eq,bo [84])]) [.ext 2<|.call 91 [aS,bN]] [.iff (.cmp bp [(.eq,bo [91])]) [.app 2<|.tup [bp,.bi .tuple [.call 92 [bN,aS]]]] [.app 2<|.tup [bp,bN]]]],.a4 2,.ret aZ]⟩
def Pg:bS:=⟨5,9,[],[.iff (.an [.cmp bN [(.eq,bo [108,101,110,103,116,104])],.cmp bp [(.ne,bo [123])]]) [.ret<|.lst [.k<|.tup [.str [119],.str [78]]]] [],.iff (.cmp bN [(.f5,aZ)]) [.ret<|.lst [.k<|.tup [.str [119],.str [117]]]] [],.hs [5,6]<|.ao aZ bN,.hs [7,8]<|.call 85 [.call 92 [.call 80 [aD,.tup [bo [116],bN]],aZ],aS,dL],.ret<|.bin .add fq<|.bin .mul (.lst [.k<|.tup [.str [119],.str [117]]]) f2]⟩
def Of:bS:=⟨1,2,[],[.ret<|.an [.cmp aD [(.ne,bo [])],.cmp (.bi .len [.comp aS false [1] aD [.cmp aS [(.f5,bo [48,49,50,51,52,53,54,55,56,57])]]]) [(.eq,L 0)]]]⟩
def RD:bS:=⟨2,5,[],[.hs [2,3] aD,.iff (.cmp aD [(.isin,aS)]) [.ret<|.k<|.bool true] [],.iff (.cmp aZ [(.eq,bo [116])]) [.ret<|.or [.cmp (.k<|.tup [.str [119],.str [83]]) [(.isin,aS)],.an [.cmp (.k<|.tup [.str [119],.str [78]]) [(.isin,aS)],.call 94 [bp]]]] [],.iff (.cmp aZ [(.eq,bo [35])]) [.ret<|.cmp (.k<|.tup [.str [119],.str [78]]) [(.isin,aS)]] [],.ret<|.an [.cmp aZ [(.eq,bo [91])],.cmp (.bi .len [.comp bN false [4] aS [.an [.cmp (.ao bN<|L 0) [(.eq,bo [91])],.call 96 [bp,.ao bN<|L 1]]]]) [(.gt,L 0)]]]⟩
def Tl:bS:=⟨2,3,[],[.ret<|.cmp (.bi .len [.comp aZ false [2] aD [.not (.call 95 [aZ,aS])]]) [(.eq,L 0)]]⟩
def NO:bS:=⟨3,12,[],[.iff (.cmp (.ao aS<|L 0) [(.eq,L 11)]) [.ret<|.lst [.call 77 [aD,.ao aS<|L 1]]] [],.iff (.cmp (.ao aS<|L 0) [(.eq,L 12)]) [.set 3<|.comp m0 true [9,10] (.ao aS<|L 1) [],.set 4<|.ite (.cmp (L 2) [(.isin,bp)]) (.bi .index [bp,L 2])<|.bi .len [bp],.set 5<|.bi .int [aZ],.iff (.cmp c6 [(.lt,bN)]) [.ret<|.lst [.bin .add (.call 77 [aD,.ao (.ao (.ao aS<|L 1) c6)<|L 0])<|.bin .mul (.lst [.k<|.tup [.str [119],.str [117]]])<|.ao bp c6]] [],.own 6<|.lst [],.for true [7,8] (.sh (.ao aS<|L 1) bN) [.ext 6<|.call 77 [aD,fq]],.a4 6,.ret<|.lst [dL]] [],.own 6<|.comp (.bin .add (.call 77 [aD,.ao ng<|L 1])<|.bin .mul (.lst [.k<|.tup [.str [119],.str [117]]])<|.bin .mod (.ao ng<|L 2)<|L 2) false [11] (.ao aS<|L 1) [.cmp (.ao ng<|L 0) [(.eq,aZ)]],.iff (.cmp (.ao aS<|L 4) [(.ne,(.tup []))]) [.app 6<|.bin .add (.call 77 [aD,.ao (.ao aS<|L 4)<|L 0])<|.lst [.k<|.tup [.str [119],.str [117]]]] [],.iff (.an [.cmp (.ao aS<|L 5) [(.ne,(.tup []))],.call 94 [aZ]]) [.app 6<|.bin .add (.call 77 [aD,.ao (.ao aS<|L 5)<|L 0])<|.lst [.k<|.tup [.str [119],.str [117]]]] [],.a4 6,.ret dL]⟩
def O1:bS:=⟨5,18,[],[.for true [5,6] bN [.own 7<|.comp om false [13] c6 [],.iff (.cmp (.ao aS<|L 0) [(.eq,L 8)]) [.ext 7<|.comp (.ao n8<|L 0) false [14] (.ao aS<|L 1) [.cmp (.ao n8<|L 0) [(.f5,c6)]]] [],.iff (.cmp (.ao aS<|L 0) [(.eq,L 12)]) [.set 8<|.comp rJ true [15,16] (.ao aS<|L 1) [],.set 9<|.ite (.cmp (L 2) [(.isin,f2)]) (.bi .index [f2,L 2])<|.bi .len [f2],.ext 7<|.comp (.bi .str [uX]) false [17] (.eA (.bi .len [c6]) gq) []] [],.a4 7,.for false [10] fq [.set 11<|.call 93 [aZ,bp,c6,dL,m0],.for false [12] (.call 97 [aD,aS,m0]) [.iff (.not (.call 96 [ng,.bin .add (.call 92 [kU,c6])<|.bin .mul (.lst [.k<|.tup [.str [119],.str [117]]])<|.bin .fdiv bp<|L 2])) [.ret<|.k<|.bool false] []]]],.ret<|.k<|.bool true]⟩
def w4:bS:=⟨1,16,[],[.set 1<|.new 0 [],.set 2<|.new 4 [aS],.set 3<|.call 12 [aS,bo [84]],.set 4<|.call 12 [aS,bo [80]],.set 5<|.call 79 [aD],.set 6<|.tup [.call 73 [aD,L 3],.call 73 [aD,L 3]],.set 7<|.cmp (.call 73 [aD,L 5]) [(.eq,L 4)],.set 8<|.call 73 [aD,L 8],.set 9<|.ite (.cmp f2 [(.lt,L 4)]) (.call 82 [aD,aS])<|.ite (.cmp f2 [(.lt,L 7)]) (.call 83 [aD,aS])<|.call 84 [aD,aS],.set 10<|.call 81 [aS,bp,bN,c6],.set 11<|.cQ aS 0 [.tup [L 14,bp]],.set 12<|.tup [L 17,.ao (.ao (.at aS 0) bN)<|L 1,ng,.ite fq bN<|.k<|.int<|-1,m0,.ao dL<|L 0,.ao dL<|L 1],.set 13<|.call 59 [aZ,kU,.ao gq<|bo [116]],.iff (.cmp (.ao gq<|bo [115,111,114,116]) [(.eq,bo [112])]) [.ret<|.cmp om [(.eq,(.ite (.ao gq<|bo [115,116,97,121,115]) (.ao gq<|bo [116])<|L 11))]] [],.set 14<|.call 86 [aS,bp,c6,dL,gq],.iff (.cmp om [(.ne,(.ite fq (L 11) n8))]) [.ret<|.k<|.bool false] [],.iff (.cmp (.ao gq<|bo [115,111,114,116]) [(.eq,bo [91])]) [.iff (.an [.not (.ao gq<|bo [111,112,101,110]),.cmp (.call 60 [aZ,kU,.ao (.at aS 0)<|.ao gq<|bo [116]]) [(.ne,n8)]]) [.ret<|.k<|.bool false] []] [.iff (.cmp (.call 59 [aZ,kU,.ao gq<|bo [116,117,114,110,101,100]]) [(.ne,om)]) [.ret<|.k<|.bool false] [],.for false [15] (.ao gq<|bo [112,114,111,112,115]) [.iff (.cmp (.call 61 [aZ,.new 6 [.cQ aS 0 [.tup [L 3,.ao pr<|L 0,L 0]],pr,.tup []]]) [(.ne,(.cmp (.ao pr<|L 0) [(.isin,(.tup [bo [108,101,110,103,116,104],bo [48],bo [49,50]]))]))]) [.ret<|.k<|.bool false] []],.iff (.call 61 [aZ,.new 6 [.ao (.lst [L 6,L 7])<|.bin .mod f2<|L 2,.k .none,.tup [L 6,L 0]]]) [.ret<|.k<|.bool false] []],.ret<|.or [fq,.call 98 [aS,.ao (.at aS 0) om,c6,.ao dL<|L 0,.call 88 [gq]]]]⟩
def NA:bS:=⟨1,3,[],[.set 1<|.comp (.bin .mod aZ<|L 99991) false [2] (.aL aD none (some 48) none) [],.iff (.cmp (.bi .len [aS]) [(.eq,L 0)]) [.set 1<|.lst [L 0,L 2,L 0,L 1,L 0,L 0,L 0,L 0,L 0,L 5,L 1,L 2,L 1,L 0,L 0,L 4,L 5,L 38,L 1,L 0,L 3,L 1]] [],.ret<|.call 99 [.box<|.lst [L 0,aS]]]⟩
def um:Lm bS:=[x7,NN,Rx,å,Vy,T3,QD,WJ,Wd,Ă,Tc,Zj,Yp,Ow,Wg,Qv,QY,T4,Sr,Oo,Pq,W8,MK,WV,M3,Tk,QT,Vl,RA,UL,YQ,X1,Tt,WZ,Tn,Z_,Xv,ZU,VR,Xp,Rv,VX,Þ,Ti,UW,Q7,X',Qt,Vf,Rg,TK,Ur,Oa,PW,PD,Zq,WX,RC,Yc,RU,Sa,XJ,RE,Qo,U1,VL,Sd,Xx,ß,YE,M_,Z4,ZZ,WO,VP,V5,Xw,Å,Nt,Zn,zX,ê,Yo,O5,MV,NS,VW,VC,Zw,Yb,N8,Y_,Ro,Pg,Of,RD,Tl,NO,O1,w4,NA]
def Jb:Lm (Ĵ×Ĵ×Ĵ):=[(0,0,1),(4,1,27),(4,2,28),(4,6,70),(4,7,71),(4,8,72),(5,3,39),(5,4,40),(5,5,41)]
def Az (c m:Ĵ):Ĳ Ĵ:=(Jb.find? λx=>Nat.beq x.1 c&&Nat.beq x.2.1 m).map (·.2.2)
def zV:Ĵ->Ĳ Ĵ
 |0=>some 0
 |1=>some 2
 |4=>some 69
 |5=>some 38
 |6=>some 51
 |_=>none
def mi:Ri:=⟨λi=>um[i]?,Az,zV⟩
def ax{aC:Type}(o:Ĳ aC)(Q:aC->Prop):Prop:=match o with|some a=>Q a|none=>False
def k1(p q:Prop)(b:Ģ):Prop:=match b with|true=>p|false=>q
def bh(o:Ĳ Ģ)(p q:Prop):Prop:=ax o<|k1 p q
structure jQ(p:Prop):Prop where
 of:p
abbrev jK:=Ĵ->Lm B->St->(B->St->Prop)->Prop
def p6(o:Ĳ B)(s:St)(f:(B->St->Prop)->Prop)(K:B->St->Prop):Prop:=match o with|some v=>K v s|none=>f K
def Sh (aj:Lm (B×B)):Ĳ (List<|B×B):=aj.foldlM (λd (p:B×B)=>if ej p.1 d then hh p.1 p.2 d else none) []
def hu (o:lH) (s:St) (x y:B):Ĳ Ģ:=match o with|.isin=>pT s x y|.f5=>(pT s x y).map (!·)|o=>Up.cmp o x y
def qG(o k:B)(Q:B->Prop):Prop:=match o with
 |.tup l=>(match k with|.int i=>(match i with|.ofNat j=>j<=l.length/\Q (.tup<|l.drop j)|.negSucc _=>False)|_=>False)
 |_=>False
def kd(o:B)(Q:Lm B->Prop):Prop:=match o with|.lst l=>Q l|_=>False
def ps(x y:B)(Q:B->Prop):Prop:=match x with
 |.int i=>(match y with|.int j=>small i=true/\small j=true/\(j-i).toNat<=a3/\Q (.eA i j)|_=>False)
 |_=>False
def t1(v:B)(f:cr->Prop):Prop:=match v with|.lst l=>f (.ol l)|.a9 l=>f (.od l)|_=>False
def hY(o:Ĳ cr)(f:Lm B->Prop):Prop:=match o with|some x=>(match x with|.ol l=>f l|_=>False)|_=>False
def kJ(o:Ĳ cr)(f:Lm (B×B)->Prop):Prop:=match o with|some x=>(match x with|.od l=>f l|_=>False)|_=>False
def vn(v:B)(p:Prop):Prop:=match v with|.none=>p|.int _=>p|_=>False
def rO(o:Ĳ cr)(p:Prop)(f:B->Prop):Prop:=match o with|some x=>(match x with|.ol l=>f (.lst l)|.od l=>f (.a9 l)|_=>p)|none=>False
def vq(x:B)(f:Ĵ->Prop):Prop:=match x with|.ref n=>f n|_=>False
def gZ(o:Ĳ dd)(f:Lm B->Prop):Prop:=match o with|some y=>(match y with|.ls l=>f l|_=>False)|none=>False
def K3 (s:St):B->Ĳ St
 |.lst l=>some<|s++[dd.ls l]
 |.a9 l=>some<|s++[dd.cN l]
 |_=>none
def Fp (s:St) (x k v:B):Ĳ St:=match x with
 |.ref n=>(s[n]?).bind λy=>match y with
  |.ls l=>(match k with|.int i=>(match i with|.ofNat j=>if j<l.length then some (s.set n<|.ls<|l.set j v)else none|_=>none)|_=>none)
  |.cN l=>if ej k l then(hh k v l).bind λl=>i7 l.length (s.set n<|.cN l)else none
  |_=>none
 |_=>none
def lQ(o:Ĳ B)(Q:B->St->Prop)(s:St):Prop:=ax o λa=>Q a s
def hD{aC cC:Type}(w:aK->St->cC->Prop)(r:aK)(K:aC->cC)(x:aC)(s:St):Prop:=w r s<|K x
def HX(a:Ĵ)(Q:B->St->Prop)(o:B)(s:St):Prop:=lQ (oz s o a) Q s
def LP(Q:B->St->Prop)(o k:B)(s:St):Prop:=lQ (ho s o k) Q s
def Hs(a b c:Ĳ ĵ)(Q:B->St->Prop)(o:B)(s:St):Prop:=lQ (qX o a b c) Q s
def LW(Q:B->St->Prop)(o k:B)(s:St):Prop:=qG o k λv=>Q v s
def UB(Q:B->St->Prop)(o:B)(s:St):Prop:=kd o λl=>Q (.ref s.length)<|s++[dd.ls l]
def La(Q:B->St->Prop)(l:Lm B)(s:St):Prop:=Q (.tup l) s
def Cc(Q:B->St->Prop)(l:Lm B)(s:St):Prop:=Q (.lst l) s
def FP(Q:B->St->Prop)(l:Lm (B×B))(s:St):Prop:=ax (Sh l) λd=>Q (.a9 d) s
def Ir(o:qo)(Q:B->St->Prop)(x y:B)(s:St):Prop:=lQ (Up.bin o x y) Q s
def Ij(Q:B->St->Prop)(x:B)(s:St):Prop:=ax (jt x) λb=>Q (.bool !b) s
def LC(o:B)(Q:B->St->Prop)(v:B)(s:St):Prop:=v=.none/\Q o s
def ob(b:hR)(v:B)(p:Prop):Prop:=match b with|.index=>kd v λ_=>p|.get=>(match v with|.a9 _=>p|_=>False)|_=>p
def Ox(b:hR)(v:B)(Q:B->St->Prop)(l:Lm B)(s:St):Prop:=lQ (pg b s<|v::l) Q s
def Mw(b:hR)(w:aK->St->(Lm B->St->Prop)->Prop)(r:aK)(Q:B->St->Prop)(v:B)(s:St):Prop:=ob b v<|w r s<|Ox b v Q
def Ay(Q:B->St->Prop)(x y:B)(s:St):Prop:=ps x y λv=>Q v s
def CV(o:lH)(x:B)(Q:B->St->Prop)(y:B)(s:St):Prop:=ax (hu o s x y) λt=>Q (.bool t) s
def Kp(Q:Lm B->St->Prop)(v:B)(l:Lm B)(s:St):Prop:=Q (v::l) s
def Io(Q:Lm (B×B)->St->Prop)(x y:B)(l:Lm (B×B))(s:St):Prop:=Q ((x,y)::l) s
def Ue(w:B->aK->St->(B->St->Prop)->Prop)(r:aK)(Q:B->St->Prop)(x:B)(s:St):Prop:=w x r s Q
def G6{dw:Type}(w qW:aK->St->dw->Prop)(r:aK)(Q:dw)(v:B)(s:St):Prop:=bh (jt v) (w r s Q)<|qW r s Q
def Le(w:aK->St->(B->St->Prop)->Prop)(r:aK)(Q:B->St->Prop)(v:B)(s:St):Prop:=bh (jt v) (w r s Q)<|Q v s
def ID(w:aK->St->(B->St->Prop)->Prop)(r:aK)(Q:B->St->Prop)(v:B)(s:St):Prop:=bh (jt v) (Q v s)<|w r s Q
def V4(w:aK->St->(Ģ->St->Prop)->Prop)(r:aK)(Q:Ģ->St->Prop)(v:B)(s:St):Prop:=bh (jt v) (w r s Q)<|Q false s
def W6(o:lH)(x:B)(w:B->aK->St->(B->St->Prop)->Prop)(r:aK)(Q:B->St->Prop)(y:B)(s:St):Prop:=bh (Up.cmp o x y) (w y r s Q)<|Q (.bool false) s
def k5(fb:aK->St->(B->St->Prop)->Prop)(fG:aK->St->(Ģ->St->Prop)->Prop)(bk:Ģ)(aU:Lm Ĵ)(r:aK)(v:B)(s:St)(Q:Lm B->St->Prop):Prop:=ax (h7 bk aU v r) λb0=>fG b0 s λb s=>bh (some b) (fb b0 s λy s=>Q [y] s)<|Q [] s
def ku(t:B->St->(Lm B->St->Prop)->Prop)(Q:B->St->Prop):Lm B->Lm B->St->Prop
 |[],cg,s=>Q (.lst cg) s
 |v::l,cg,s=>t v s λc7 s=>ku t Q l (cg++c7) s
def n0(t:B->St->(Lm B->St->Prop)->Prop)(Q:B->St->Prop)(m:Ĵ):Ĵ->Ĵ->Lm B->St->Prop
 |0,i,cg,s=>gZ s[m]? λl=>l.length=i/\Q (.lst cg) s
 |n+1,i,cg,s=>gZ s[m]? λl=>ax l[i]? λv=>t v s λc7 s=>n0 t Q m n (i+1) (cg++c7) s
def kj(t:B->St->(Lm B->St->Prop)->Prop)(Q:B->St->Prop)(x:B)(s:St):Prop:=match x with
 |.ref m=>gZ s[m]? λl=>n0 t Q m l.length 0 [] s
 |x=>ax (items x) λbM=>ku t Q bM [] s
section
variable(ai:jK)
def Xf(f:Ĵ)(Q:B->St->Prop)(l:Lm B)(s:St):Prop:=ai f l s Q
def NX(c:Ĵ)(Q:B->St->Prop)(l:Lm B)(s:St):Prop:=ax (mi.z4 c) λf=>ai f (.ref s.length::l) (s++[.ins c []])<|LC (.ref s.length) Q
def Æ(f:Ĵ)(x:B)(Q:B->St->Prop)(l:Lm B)(s:St):Prop:=ai f (x::l) s Q
def Qc(m:Ĵ)(w:aK->St->(Lm B->St->Prop)->Prop)(r:aK)(Q:B->St->Prop)(x:B)(s:St):Prop:=ax ((Cp s x).bind λc=>mi.meths c m) λf=>w r s<|Æ ai f x Q
mutual
def cj:a1->aK->St->(B->St->Prop)->Prop
 |.k v,_,s,Q=>Q v s
 |.v i,r,s,Q=>lQ (yk r i) Q s
 |.at e a,r,s,Q=>cj e r s<|HX a Q
 |.ao e i,r,s,Q=>p6 (peek r e) s (cj e r s)<|hD (cj i) r<|LP Q
 |.aL e a b c,r,s,Q=>cj e r s<|Hs a b c Q
 |.sh e i,r,s,Q=>cj e r s<|hD (cj i) r<|LW Q
 |.box e,r,s,Q=>cj e r s<|UB Q
 |.tup l,r,s,Q=>k_ l r s<|La Q
 |.lst l,r,s,Q=>k_ l r s<|Cc Q
 |.a9 l,r,s,Q=>za l r s<|FP Q
 |.bin o a b,r,s,Q=>cj a r s<|hD (cj b) r<|Ir o Q
 |.not e,r,s,Q=>cj e r s<|Ij Q
 |.cmp a l,r,s,Q=>cj a r s<|Ue (u_ l) r Q
 |.an l,r,s,Q=>qJ l r s Q
 |.or l,r,s,Q=>qF l r s Q
 |.ite c t e,r,s,Q=>cj c r s<|G6 (cj t) (cj e) r Q
 |.call f l,r,s,Q=>k_ l r s<|Xf ai f Q
 |.new c l,r,s,Q=>k_ l r s<|NX ai c Q
 |.cQ o m l,r,s,Q=>cj o r s<|Qc ai m (k_ l) r Q
 |.bi b l,r,s,Q=>match l with|[]=>False|a::l=>cj a r s<|Mw b (k_ l) r Q
 |.eA a b,r,s,Q=>cj a r s<|hD (cj b) r<|Ay Q
 |.comp e bk aU it ifs,r,s,Q=>jQ<|p6 (peek r it) s (cj it r s)<|kj (k5 (cj e) (sA ifs) bk aU r) Q
 |.bad,_,_,_=>False
def k_:Lm a1->aK->St->(Lm B->St->Prop)->Prop
 |[],_,s,Q=>Q [] s
 |e::l,r,s,Q=>cj e r s<|hD (k_ l) r<|Kp Q
def za:Lm (a1×a1)->aK->St->(Lm (B×B)->St->Prop)->Prop
 |[],_,s,Q=>Q [] s
 |(a,b)::l,r,s,Q=>cj a r s<|hD (cj b) r λx=>hD (za l) r<|Io Q x
def u_:Lm (lH×a1)->B->aK->St->(B->St->Prop)->Prop
 |[],_,_,_,_=>False
 |(o,b)::l,x,r,s,Q=>match l with
  |[]=>p6 (peek r b) s (cj b r s)<|CV o x Q
  |_::_=>cj b r s<|W6 o x (u_ l) r Q
def qJ:Lm a1->aK->St->(B->St->Prop)->Prop
 |[],_,_,_=>False
 |e::l,r,s,Q=>match l with
  |[]=>cj e r s Q
  |_::_=>cj e r s<|Le (qJ l) r Q
def qF:Lm a1->aK->St->(B->St->Prop)->Prop
 |[],_,_,_=>False
 |e::l,r,s,Q=>match l with
  |[]=>cj e r s Q
  |_::_=>cj e r s<|ID (qF l) r Q
def sA:Lm a1->aK->St->(Ģ->St->Prop)->Prop
 |[],_,s,Q=>Q true s
 |e::l,r,s,Q=>cj e r s<|V4 (sA l) r Q
end
end
def kP(w:aK->St->(ck->aK->St->Prop)->Prop)(Q:ck->aK->St->Prop)(f:ck)(r:aK)(s:St):Prop:=match f with|.go=>w r s Q|.ret v=>Q (.ret v) r s
def mZ(dI:aK->St->Prop)(Q:ck->aK->St->Prop)(f:ck)(r:aK)(s:St):Prop:=match f with|.go=>dI r s|.ret v=>Q (.ret v) r s
def pL(i:Ĵ)(r:aK)(Q:ck->aK->St->Prop)(v:B)(s:St):Prop:=Q .go (r.set i<|.val v) s
def u5(i:Ĵ)(r:aK)(Q:ck->aK->St->Prop)(v:B)(s:St):Prop:=t1 v λx=>Q .go (r.set i x) s
def Bm(l:Lm Ĵ)(r:aK)(Q:ck->aK->St->Prop)(v:B)(s:St):Prop:=ax (h7 true l v r) λr=>Q .go r s
def CN(a:Ĵ)(r:aK)(Q:ck->aK->St->Prop)(v x:B)(s:St):Prop:=ax (oh s x a v) λs=>Q .go r s
def Ku(r:aK)(Q:ck->aK->St->Prop)(v x k:B)(s:St):Prop:=ax (Fp s x k v) λs=>Q .go r s
def Fh(i:Ĵ)(r:aK)(Q:ck->aK->St->Prop)(v x:B)(s:St):Prop:=kJ r[i]? λl=>ej x l=true/\ax (hh x v l) λdh=>dh.length<=a3/\Q .go (r.set i<|.od dh) s
def KJ(i:Ĵ)(r:aK)(Q:ck->aK->St->Prop)(v:B)(s:St):Prop:=hY r[i]? λl=>l.length+1<=a3/\Q .go (r.set i<|.ol<|l++[v]) s
def Mr(i:Ĵ)(r:aK)(Q:ck->aK->St->Prop)(v:B)(s:St):Prop:=hY r[i]? λl=>kd v λm=>l.length+m.length<=a3/\Q .go (r.set i<|.ol<|l++m) s
def RG(x:B)(r:aK)(Q:ck->aK->St->Prop)(v:B)(s:St):Prop:=vq x λm=>gZ s[m]? λl=>l.length+1<=a3/\Q .go r (s.set m<|.ls<|l++[v])
def EW(w:aK->St->(B->St->Prop)->Prop)(r:aK)(Q:ck->aK->St->Prop)(x:B)(s:St):Prop:=ax (Ck s x) λ_=>w r s<|RG x r Q
def HL(w:aK->St->(B->St->Prop)->Prop)(a:Ĵ)(r:aK)(Q:ck->aK->St->Prop)(v:B)(s:St):Prop:=ax (K3 s v) λpS=>w r pS<|CN a r Q<|.ref s.length
def Kr(r:aK)(Q:ck->aK->St->Prop)(v:B)(s:St):Prop:=vn v<|Q .go r s
def Gu(r:aK)(Q:ck->aK->St->Prop)(v:B)(s:St):Prop:=Q (.ret v) r s
def nN(w:aK->St->(ck->aK->St->Prop)->Prop)(bk:Ģ)(aU:Lm Ĵ)(Q:ck->aK->St->Prop):Lm B->aK->St->Prop
 |[],r,s=>Q .go r s
 |v::l,r,s=>ax (h7 bk aU v r) λr=>w r s<|mZ (nN w bk aU Q l) Q
def kFor(w:aK->St->(ck->aK->St->Prop)->Prop)(bk:Ģ)(aU:Lm Ĵ)(r:aK)(Q:ck->aK->St->Prop)(x:B)(s:St):Prop:=ax (items x) λbM=>jQ<|nN w bk aU Q bM r s
section
variable(ai:jK)
mutual
def lO:dS->aK->St->(ck->aK->St->Prop)->Prop
 |.set i e,r,s,Q=>cj ai e r s<|pL i r Q
 |.own i e,r,s,Q=>cj ai e r s<|u5 i r Q
 |.hs l e,r,s,Q=>cj ai e r s<|Bm l r Q
 |.fX o a e,r,s,Q=>cj ai e r s<|hD (cj ai o) r<|CN a r Q
 |.jr o a e,r,s,Q=>cj ai e r s<|HL (cj ai o) a r Q
 |.mW o i e,r,s,Q=>cj ai e r s<|hD (cj ai o) r λv=>hD (cj ai i) r<|Ku r Q v
 |.jS i k e,r,s,Q=>kJ r[i]? λ_=>cj ai e r s<|hD (cj ai k) r<|Fh i r Q
 |.app i e,r,s,Q=>hY r[i]? λ_=>cj ai e r s<|KJ i r Q
 |.ext i e,r,s,Q=>hY r[i]? λ_=>cj ai e r s<|Mr i r Q
 |.m5 o e,r,s,Q=>cj ai o r s<|EW (cj ai e) r Q
 |.ex e,r,s,Q=>cj ai e r s<|Kr r Q
 |.iff c t e,r,s,Q=>cj ai c r s<|G6 (kl t) (kl e) r Q
 |.for bk aU it b,r,s,Q=>cj ai it r s<|kFor (kl b) bk aU r Q
 |.ret e,r,s,Q=>cj ai e r s<|Gu r Q
 |.a4 i,r,s,Q=>rO r[i]? (Q .go r s) λv=>Q .go (r.set i<|.val v) s
 |.bad,_,_,_=>False
def kl:Lm dS->aK->St->(ck->aK->St->Prop)->Prop
 |[],r,s,Q=>Q .go r s
 |c::l,r,s,Q=>lO c r s<|kP (kl l) Q
end
end
def ck.val:ck->B|.ret v=>v|.go=>.none
@[irreducible] noncomputable def Ch:Ĵ->jK
 |0=>λ_ _ _ _=>False
 |n+1=>λf vs s Q=>ax (mi.fns f) λc=>ax (r2 c vs) λr=>kl (λf vs s Q=>jQ<|Ch n f vs s Q) c.body r s λcM _ s=>Q cM.val s
abbrev bd(n:Ĵ):jK:=λf vs s Q=>jQ<|Ch n f vs s Q
theorem xj{n f:Ĵ}{vs:Lm B}{s:St}{Q:B->St->Prop}:Ch (n+1) f vs s Q=ax (mi.fns f) λc=>ax (r2 c vs) λr=>kl (bd n) c.body r s λcM _ s=>Q cM.val s:=by with_unfolding_all rfl
abbrev di(n:Ĵ):=cj<|bd n
abbrev sC(n:Ĵ):=sA<|bd n
abbrev nq(n:Ĵ):=lO<|bd n
abbrev bw(n:Ĵ):=kl<|bd n
abbrev cE(n:Ĵ)(bk:Ģ)(aU:Lm Ĵ)(b:Lm dS)(bM:Lm B)(r:aK)(s:St)(Q:ck->aK->St->Prop):Prop:=jQ<|nN (bw n b) bk aU Q bM r s
abbrev eN(n:Ĵ)(e:a1)(bk:Ģ)(aU:Lm Ĵ)(ifs:Lm a1)(v:B)(r:aK)(s:St)(Q:Lm B->St->Prop):Prop:=k5 (di n e) (sC n ifs) bk aU r v s Q
abbrev fj(x:B)(r:aK)(s:St)(n:Ĵ)(e:a1)(bk:Ģ)(aU:Lm Ĵ)(ifs:Lm a1)(Q:B->St->Prop):Prop:=kj (k5 (di n e) (sC n ifs) bk aU r) Q x s
abbrev BL(n:Ĵ)(e:a1)(bk:Ģ)(aU:Lm Ĵ)(it:a1)(ifs:Lm a1)(r:aK)(s:St)(Q:B->St->Prop):Prop:=jQ<|p6 (peek r it) s (di n it r s)<|kj (k5 (di n e) (sC n ifs) bk aU r) Q
def tv(ai:jK):Prop:=∀f vs s Q bT,(∀v s,Q v s->bT v s)->ai f vs s Q->ai f vs s bT
def gH{aC:Type}(w:aK->St->(aC->St->Prop)->Prop):Prop:=∀r s Q bT,(∀a s,Q a s->bT a s)->w r s Q->w r s bT
theorem jQ.imp{p q:Prop}(f:p->q)(h:jQ p):jQ q:=⟨f h.of⟩
theorem ax.imp{aC:Type}{o:Ĳ aC}{Q bT:aC->Prop}(k:∀a,Q a->bT a)(h:ax o Q):ax o bT:=by
 induction o with
 |none=>exact h.elim
 |some a=>exact k a h
theorem bh.qU{o:Ĳ Ģ}{p q et fd:Prop}(f:p->et)(g:q->fd)(h:bh o p q):bh o et fd:=by
 induction o with
 |none=>exact h.elim
 |some b=>induction b with
  |true=>exact f h
  |false=>exact g h
theorem Ek{o:Ĳ B}{s:St}{f:(B->St->Prop)->Prop}{K eH:B->St->Prop}(a7:(∀a s,K a s->eH a s)->f K->f eH)(k:∀a s,K a s->eH a s)(h:p6 o s f K):p6 o s f eH:=by
 induction o with
 |none=>exact a7 k h
 |some v=>exact k _ _ h
theorem gZ.imp{o:Ĳ dd}{f g:Lm B->Prop}(k:∀l,f l->g l)(h:gZ o f):gZ o g:=by
 induction o with
 |none=>exact h.elim
 |some y=>induction y with
  |ls l=>exact k l h
  |_=>exact h.elim
theorem kd.imp{o:B}{f g:Lm B->Prop}(k:∀l,f l->g l)(h:kd o f):kd o g:=by
 induction o using B.casesOn with
 |lst l=>exact k l h
 |_=>exact h.elim
theorem ob.imp{b:hR}{v:B}{p q:Prop}(k:p->q)(h:ob b v p):ob b v q:=by induction b<;>first|exact k h|exact kd.imp (λ_=>k) h|(induction v using B.casesOn<;>first|exact k h|exact h.elim)
theorem qG.imp{o x:B}{f g:B->Prop}(k:∀l,f l->g l)(h:qG o x f):qG o x g:=by
 induction o using B.casesOn with
 |tup l=>induction x using B.casesOn with
  |int i=>induction i with
   |ofNat j=>exact⟨h.1,k _ h.2⟩
   |negSucc=>exact h.elim
  |_=>exact h.elim
 |_=>exact h.elim
theorem ps.imp{x y:B}{f g:B->Prop}(k:∀l,f l->g l)(h:ps x y f):ps x y g:=by
 induction x using B.casesOn with
 |int i=>induction y using B.casesOn with
  |int j=>exact⟨h.1,h.2.1,h.2.2.1,k _ h.2.2.2⟩
  |_=>exact h.elim
 |_=>exact h.elim
theorem kj.mo{t:B->St->(Lm B->St->Prop)->Prop}(dU:∀v s Q bT,(∀a s,Q a s->bT a s)->t v s Q->t v s bT){Q bT:B->St->Prop}(k:∀v s,Q v s->bT v s)(x:B)(s:St)(h:kj t Q x s):kj t bT x s:=by
 have Gs:∀bM cg s,ku t Q bM cg s->ku t bT bM cg s:=λbM=>by
  induction bM with
  |nil=>exact λ_ _ h=>k _ _ h
  |cons v l ar=>exact λcg s h=>dU v s _ _ (λc7 s h=>ar _ _ h) h
 induction x using B.casesOn with
 |ref m=>
  have Z6:∀n i cg s,n0 t Q m n i cg s->n0 t bT m n i cg s:=λn=>by
   induction n with
   |zero=>exact λ_ _ _ h=>gZ.imp (λ_ h=>⟨h.1,k _ _ h.2⟩) h
   |succ n ar=>exact λi cg s h=>gZ.imp (λ_ h=>ax.imp (λv h=>dU v s _ _ (λc7 s h=>ar _ _ _ h) h) h) h
  exact gZ.imp (λ_ h=>Z6 _ _ _ _ h) h
 |a9 l=>exact ax.imp (λ_ h=>Gs _ _ _ h) h
 |_=>first|exact Gs _ _ _ h|exact h.elim
section
variable{ai:jK}(b2:tv ai)
include b2
omit b2 in
theorem Qy{fb:aK->St->(B->St->Prop)->Prop}{fG:aK->St->(Ģ->St->Prop)->Prop}{bk:Ģ}{aU:Lm Ĵ}{r:aK}(a6:gH fb)(aA:gH fG):∀v s Q bT,(∀a s,Q a s->bT a s)->k5 fb fG bk aU r v s Q->k5 fb fG bk aU r v s bT:=λv s Q bT k h=>ax.imp (λb0 h=>aA b0 s _ _ (λb s=>bh.qU (λh=>a6 _ _ _ _ (λ_ _=>k _ _) h)<|k _ _) h) h
theorem gE(e:a1):gH (cj ai e):=a1.rec (motive_1:=λe=>gH<|cj ai e) (motive_2:=λl=>pZ (gH<|k_ ai l) (gH<|qJ ai l) (gH<|qF ai l) (gH<|sA ai l) (∀b,gH<|cj ai<|.bi b l)) (motive_3:=λl=>gH<|za ai l) (motive_4:=λl=>∀x,gH<|u_ ai l x) (motive_5:=λp=>gH (cj ai p.1)/\gH (cj ai p.2)) (motive_6:=λp=>gH<|cj ai p.2) (λ_ _ _ _ _ k h=>k _ _ h) (λ_ _ _ _ _ k h=>ax.imp (λ_=>k _ _) h) (λ_ _ m _ _ _ _ k h=>m _ _ _ _ (λ_ _=>ax.imp λ_=>k _ _) h) (λ_ _ m n _ _ _ _ k h=>Ek (m _ _ _ _) (λ_ _=>n _ _ _ _ λ_ _=>ax.imp λ_=>k _ _) h) (λ_ _ _ _ m _ _ _ _ k h=>m _ _ _ _ (λ_ _=>ax.imp λ_=>k _ _) h) (λ_ _ m n _ _ _ _ k h=>m _ _ _ _ (λ_ _=>n _ _ _ _ λ_ _=>qG.imp λ_=>k _ _) h) (λ_ m _ _ _ _ k h=>m _ _ _ _ (λ_ _=>kd.imp λ_=>k _ _) h) (λ_ m _ _ _ _ k h=>m.a _ _ _ _ (λ_ _=>k _ _) h) (λ_ m _ _ _ _ k h=>m.a _ _ _ _ (λ_ _=>k _ _) h) (λ_ m _ _ _ _ k h=>m _ _ _ _ (λ_ _=>ax.imp λ_=>k _ _) h) (λ_ _ _ m n _ _ _ _ k h=>m _ _ _ _ (λ_ _=>n _ _ _ _ λ_ _=>ax.imp λ_=>k _ _) h) (λ_ m _ _ _ _ k h=>m _ _ _ _ (λ_ _=>ax.imp λ_=>k _ _) h) (λ_ _ m n _ _ _ _ k h=>m _ _ _ _ (λ_ _=>n _ _ _ _ _ k) h) (λ_ m _ _ _ _ k h=>m.b _ _ _ _ k h) (λ_ m _ _ _ _ k h=>m.c _ _ _ _ k h) (λ_ _ _ m n o _ _ _ _ k h=>m _ _ _ _ (λ_ _=>bh.qU (n _ _ _ _ k)<|o _ _ _ _ k) h) (λ_ _ m _ _ _ _ k h=>m.a _ _ _ _ (λ_ _=>b2 _ _ _ _ _ k) h) (λ_ _ m _ _ _ _ k h=>m.a _ _ _ _ (λ_ _=>ax.imp λ_=>b2 _ _ _ _ _ λ_ _ h=>⟨h.1,k _ _ h.2⟩) h) (λ_ _ _ m n _ _ _ _ k h=>m _ _ _ _ (λ_ _=>ax.imp λ_=>n.a _ _ _ _ λ_ _=>b2 _ _ _ _ _ k) h) (λb l m=>List.casesOn (motive:=λl=>pZ (gH<|k_ ai l) (gH<|qJ ai l) (gH<|qF ai l) (gH<|sA ai l) (∀b,gH<|cj ai<|.bi b l)->gH (cj ai<|.bi b l)) l (λm=>m.e b) (λ_ _ m=>m.e b) m) (λ_ _ m n _ _ _ _ k h=>m _ _ _ _ (λ_ _=>n _ _ _ _ λ_ _=>ps.imp λ_=>k _ _) h) (λ_ _ _ _ _ m n o _ _ _ _ k h=>jQ.imp (Ek (n _ _ _ _)<|kj.mo (Qy m o.d) k) h) (λ_ _ _ _ _ h=>h.elim) ⟨λ_ _ _ _ k h=>k _ _ h,λ_ _ _ _ _ h=>h.elim,λ_ _ _ _ _ h=>h.elim,λ_ _ _ _ k h=>k _ _ h,λ_ _ _ _ _ _ h=>h.elim⟩ (λ_ l m n=>⟨λ_ _ _ _ k h=>m _ _ _ _ (λ_ _=>n.a _ _ _ _ λ_ _=>k _ _) h,List.casesOn (motive:=λl=>gH (qJ ai l)->gH (qJ ai<|_::l)) l (λ_=>m) (λ_ _ n _ _ _ _ k h=>m _ _ _ _ (λ_ _=>bh.qU (n _ _ _ _ k)<|k _ _) h) n.b,List.casesOn (motive:=λl=>gH (qF ai l)->gH (qF ai<|_::l)) l (λ_=>m) (λ_ _ n _ _ _ _ k h=>m _ _ _ _ (λ_ _=>bh.qU (k _ _)<|n _ _ _ _ k) h) n.c,λ_ _ _ _ k h=>m _ _ _ _ (λ_ _=>bh.qU (n.d _ _ _ _ k)<|k _ _) h,λ_ _ _ _ _ k h=>m _ _ _ _ (λ_ _=>ob.imp<|n.a _ _ _ _ λ_ _=>ax.imp λ_=>k _ _) h⟩) (λ_ _ _ _ k h=>k _ _ h) (λ_ _ m n _ _ _ _ k h=>m.1 _ _ _ _ (λ_ _=>m.2 _ _ _ _ λ_ _=>n _ _ _ _ λ_ _=>k _ _) h) (λ_ _ _ _ _ _ h=>h.elim) (λp l m n x=>List.casesOn (motive:=λl=>(∀x,gH<|u_ ai l x)->gH (u_ ai (p::l) x)) l (λ_ _ _ _ _ k h=>Ek (m _ _ _ _) (λ_ _=>ax.imp λ_=>k _ _) h) (λ_ _ n _ _ _ _ k h=>m _ _ _ _ (λ_ _=>bh.qU (n _ _ _ _ _ k)<|k _ _) h) n) (λ_ _ m n=>⟨m,n⟩) (λ_ _ m=>m) e
omit b2 in
theorem t1.imp{v:B}{f g:cr->Prop}(k:∀l,f l->g l)(h:t1 v f):t1 v g:=by induction v using B.casesOn<;>first|exact k _ h|exact h.elim
omit b2 in
theorem hY.imp{o:Ĳ cr}{f g:Lm B->Prop}(k:∀l,f l->g l)(h:hY o f):hY o g:=by
 induction o with
 |none=>exact h.elim
 |some x=>induction x<;>first|exact k _ h|exact h.elim
omit b2 in
theorem kJ.imp{o:Ĳ cr}{f g:Lm (B×B)->Prop}(k:∀l,f l->g l)(h:kJ o f):kJ o g:=by
 induction o with
 |none=>exact h.elim
 |some x=>induction x<;>first|exact k _ h|exact h.elim
omit b2 in
theorem vq.imp{x:B}{f g:Ĵ->Prop}(k:∀l,f l->g l)(h:vq x f):vq x g:=by induction x using B.casesOn<;>first|exact k _ h|exact h.elim
omit b2 in
theorem vn.imp{x:B}{f g:Prop}(k:f->g)(h:vn x f):vn x g:=by induction x using B.casesOn<;>first|exact k h|exact h.elim
omit b2 in
theorem rO.imp{o:Ĳ cr}{p et:Prop}{f g:B->Prop}(G:p->et)(k:∀l,f l->g l)(h:rO o p f):rO o et g:=by
 induction o with
 |none=>exact h.elim
 |some x=>induction x<;>first|exact k _ h|exact G h
def rj(w:aK->St->(ck->aK->St->Prop)->Prop):Prop:=∀r s Q bT,(∀f r s,Q f r s->bT f r s)->w r s Q->w r s bT
omit b2 in
theorem MD{w:aK->St->(ck->aK->St->Prop)->Prop}(bF:rj w){Q bT:ck->aK->St->Prop}(k:∀f r s,Q f r s->bT f r s)(f:ck)(r:aK)(s:St)(h:kP w Q f r s):kP w bT f r s:=by
 induction f with
 |go=>exact bF _ _ _ _ k h
 |ret=>exact k _ _ _ h
omit b2 in
theorem Oh{w:aK->St->(ck->aK->St->Prop)->Prop}{bk:Ģ}{aU:Lm Ĵ}(bF:rj w){Q bT:ck->aK->St->Prop}(k:∀f r s,Q f r s->bT f r s)(l:Lm B):∀r s,nN w bk aU Q l r s->nN w bk aU bT l r s:=by
 induction l with
 |nil=>exact λ_ _ h=>k _ _ _ h
 |cons v l ar=>exact λr s h=>ax.imp (λr h=>bF _ _ _ _ (λf r s h=>by
  induction f with
  |go=>exact ar _ _ h
  |ret=>exact k _ _ _ h) h) h
theorem AS(c:dS):rj (lO ai c):=dS.rec (motive_1:=λc=>rj<|lO ai c) (motive_2:=λl=>rj<|kl ai l) (λ_ e _ _ _ _ k h=>gE b2 e _ _ _ _ (λ_ _=>k _ _ _) h) (λ_ e _ _ _ _ k h=>gE b2 e _ _ _ _ (λ_ _=>t1.imp λ_=>k _ _ _) h) (λ_ e _ _ _ _ k h=>gE b2 e _ _ _ _ (λ_ _=>ax.imp λ_=>k _ _ _) h) (λo _ e _ _ _ _ k h=>gE b2 e _ _ _ _ (λ_ _=>gE b2 o _ _ _ _ λ_ _=>ax.imp λ_=>k _ _ _) h) (λo _ e _ _ _ _ k h=>gE b2 e _ _ _ _ (λ_ _=>ax.imp λ_=>gE b2 o _ _ _ _ λ_ _=>ax.imp λ_=>k _ _ _) h) (λo i e _ _ _ _ k h=>gE b2 e _ _ _ _ (λ_ _=>gE b2 o _ _ _ _ λ_ _=>gE b2 i _ _ _ _ λ_ _=>ax.imp λ_=>k _ _ _) h) (λ_ j e _ _ _ _ k h=>kJ.imp (λ_ h=>gE b2 e _ _ _ _ (λ_ _=>gE b2 j _ _ _ _ λ_ _=>kJ.imp λ_ h=>⟨h.1,ax.imp (λ_ h=>⟨h.1,k _ _ _ h.2⟩) h.2⟩) h) h) (λ_ e _ _ _ _ k h=>hY.imp (λ_ h=>gE b2 e _ _ _ _ (λ_ _=>hY.imp λ_ h=>⟨h.1,k _ _ _ h.2⟩) h) h) (λ_ e _ _ _ _ k h=>hY.imp (λ_ h=>gE b2 e _ _ _ _ (λ_ _=>hY.imp λ_=>kd.imp λ_ h=>⟨h.1,k _ _ _ h.2⟩) h) h) (λo e _ _ _ _ k h=>gE b2 o _ _ _ _ (λ_ _=>ax.imp λ_=>gE b2 e _ _ _ _ λ_ _=>vq.imp λ_=>gZ.imp λ_ h=>⟨h.1,k _ _ _ h.2⟩) h) (λe _ _ _ _ k h=>gE b2 e _ _ _ _ (λ_ _=>vn.imp<|k _ _ _) h) (λe _ _ m n _ _ _ _ k h=>gE b2 e _ _ _ _ (λ_ _=>bh.qU (m _ _ _ _ k)<|n _ _ _ _ k) h) (λ_ _ e _ m _ _ _ _ k h=>gE b2 e _ _ _ _ (λ_ _=>ax.imp λ_=>jQ.imp<|Oh m k _ _ _) h) (λe _ _ _ _ k h=>gE b2 e _ _ _ _ (λ_ _=>k _ _ _) h) (λi r s Q bT k=>rO.imp (k .go r s) λv=>k .go (r.set i<|.val v) s) (λ_ _ _ _ _ h=>h.elim) (λ_ _ _ _ k h=>k _ _ _ h) (λ_ _ m n _ _ _ _ k h=>m _ _ _ _ (MD n k) h) c
theorem JA(l:Lm dS):rj (kl ai l):=List.rec (motive:=λl=>rj<|kl ai l) (λ_ _ _ _ k h=>k _ _ _ h) (λc _ n _ _ _ _ k h=>AS b2 c _ _ _ _ (MD n k) h) l
end
theorem bd.m(n:Ĵ):tv (bd n):=by
 induction n with
 |zero=>exact λ_ _ _ _ _ _ h=>jQ.imp (by with_unfolding_all exact False.elim) h
 |succ n ar=>exact λ_ _ _ _ _ k h=>jQ.imp (by rw[xj,xj];exact ax.imp λ_=>ax.imp λ_=>JA ar _ _ _ _ _ λ_ _ _=>k _ _) h
theorem ax.of{aC:Type}{o:Ĳ aC}{a:aC}{Q:aC->Prop}(h:o=some a)(q:Q a):ax o Q:=by rw[h];exact q
theorem bh.d{c:Prop}[Decidable c]{p q:Prop}(G:c->p)(E:¬c->q):bh (some<|decide c) p q:=by
 by_cases h:c
 .rw[dQ h];exact G h
 .rw[eC h];exact E h
theorem gZ.of{o:Ĳ dd}{l:Lm B}{f:Lm B->Prop}(h:o=some (.ls l))(q:f l):gZ o f:=by rw[h];exact q
section
variable{n:Ĵ}{r:aK}{s:St}
theorem bd.fn{f:Ĵ}{vs:Lm B}{np lg:Ĵ}{d:Lm B}{b:Lm dS}{r:aK}{Q:B->St->Prop}(a7:mi.fns f=some ⟨np,lg,d,b⟩)(ak:r2 ⟨np,lg,d,b⟩ vs=some r)(h:bw n b r s λcM _ aq=>Q cM.val aq):bd (n+1) f vs s Q:=⟨by rw[xj];exact ax.of a7<|ax.of ak h⟩
theorem bd.mono{f:Ĵ}{vs:Lm B}{Q bT:B->St->Prop}(h:bd n f vs s bT)(k:∀v s,bT v s->Q v s):bd n f vs s Q:=bd.m n _ _ _ _ _ k h
theorem nq.mono{c:dS}{Q bT:ck->aK->St->Prop}(h:nq n c r s bT)(k:∀f r s,bT f r s->Q f r s):nq n c r s Q:=AS (bd.m n) c _ _ _ _ k h
theorem bw.mono{l:Lm dS}{Q bT:ck->aK->St->Prop}(h:bw n l r s bT)(k:∀f r s,bT f r s->Q f r s):bw n l r s Q:=JA (bd.m n) l _ _ _ _ k h
variable{Q:ck->aK->St->Prop}{bk:Ģ}{aU:Lm Ĵ}{b:Lm dS}
theorem bw.skip{l:Lm dS}(h:bw n l r s Q):bw n [] r s (kP (bw n l) Q):=h
theorem cE.nil(h:Q .go r s):cE n bk aU b [] r s Q:=⟨h⟩
theorem cE.cons{v:B}{l:Lm B}(h:ax (h7 bk aU v r) λr=>bw n b r s (mZ (λr s=>cE n bk aU b l r s Q) Q)):cE n bk aU b (v::l) r s Q:=⟨ax.imp (λ_ h=>bw.mono h λf r s h=>by
 induction f with
 |go=>exact h.of
 |ret=>exact h) h⟩
def p7{aC cC:Type}(dI K:aC->cC->Prop):Prop:=∀a b,dI a b->K a b
theorem p7.go{aC cC:Type}{dI K:aC->cC->Prop}{a:aC}{b:cC}(h:p7 dI K)(j:dI a b):K a b:=h a b j
def wZ(dI:aK->St->Prop)(Z:B->aK->St->Prop)(f:ck)(r:aK)(s:St):Prop:=match f with|.go=>dI r s|.ret v=>Z v r s
def qR(Q:ck->aK->St->Prop)(Z:B->aK->St->Prop):Prop:=∀v r s,Q (.ret v) r s->Z v r s
theorem qR.go{Q:ck->aK->St->Prop}{Z:B->aK->St->Prop}{v:B}{r:aK}{s:St}(h:qR Q Z)(q:Q (.ret v) r s):Z v r s:=h v r s q
theorem cE.inv(dI:Lm B->aK->St->Prop)(ba:∀v l r s (K:aK->St->Prop),p7 (dI l) K->∀Z,qR Q Z->dI (v::l) r s->ax (h7 bk aU v r) λr=>bw n b r s<|wZ K Z)(cO:∀r s,dI [] r s->Q .go r s){bM:Lm B}{r:aK}{s:St}(h:dI bM r s):cE n bk aU b bM r s Q:=by
 induction bM generalizing r s with
 |nil=>exact cE.nil<|cO r s h
 |cons v l ar=>
  refine cE.cons<|ax.imp (λr G=>bw.mono G λf r s h=>?_)<|ba v l r s _ (λ_ _ h=>h) _ (λ_ _ _ h=>h) h;induction f with
  |go=>exact ar h
  |ret w=>exact h
theorem cE.map{aC:Type}{f:aC->B}{bM:Lm B}{all:Lm aC}{r:aK}{s:St}(ay:bM=all.map f)(dI:Lm aC->aK->St->Prop)(ba:∀done a a',all=done++a::a'->∀r s (K:aK->St->Prop),p7 (dI<|done++[a]) K->∀Z,qR Q Z->dI done r s->ax (h7 bk aU (f a) r) λr=>bw n b r s<|wZ K Z)(cO:∀r s,dI all r s->Q .go r s)(h:dI [] r s):cE n bk aU b bM r s Q:=by
 subst ay;have key:∀(a' done:Lm aC) r s,all=done++a'->dI done r s->cE n bk aU b (a'.map f) r s Q:=by
  intro a';induction a' with
  |nil=>intro done r s e h;rw[gT]at e;exact cE.nil<|cO r s<|e▸h
  |cons a a' ar=>
   intro done r s e h;refine cE.cons<|ax.imp (λr G=>bw.mono G λf r s h=>?_)<|ba done a a' e r s _ (λ_ _ h=>h) _ (λ_ _ _ h=>h) h;induction f with
   |go=>exact ar (done++[a]) r s (by rw[e,hS];rfl) h
   |ret w=>exact h
 exact key all [] r s rfl h
theorem cE.mp{aC:Type}{f:aC->B}{bM:Lm B}{all:Lm aC}(ay:bM=all.map f)(fA:Lm aC->(aK->St->Prop)->Prop)(ba:∀done a a',all=done++a::a'->∀K:aK->St->Prop,fA (done++[a]) K->fA done λr s=>ax (h7 bk aU (f a) r) λr=>bw n b r s<|mZ K Q)(cO:fA all (Q .go)){r:aK}{s:St}(h:∀K:aK->St->Prop,fA [] K->K r s):cE n bk aU b bM r s Q:=by
 have key:∀a' done:Lm aC,all=done++a'->fA done (nN (bw n b) bk aU Q<|a'.map f):=by
  intro a';induction a' with
  |nil=>intro done e;rw[gT]at e;exact e▸cO
  |cons a a' ar=>exact λdone e=>ba done a a' e _ (ar _<|by rw[e,hS];rfl)
 rw[ay];exact⟨h _<|key all [] rfl⟩
end
theorem bw.rb{n:Ĵ}{s:St}{i:Ĵ}{e:a1}{l:Lm dS}{r:aK}{Q:ck->aK->St->Prop}(fA:(B->St->Prop)->Prop)(G:∀K:B->St->Prop,fA K->di n e r s K)(E:fA λv s=>bw n l (r.set i<|.val v) s Q):bw n (.set i e::l) r s Q:=G _ E
theorem bw.fY{n:Ĵ}{s:St}{c:dS}{l:Lm dS}{r:aK}{Q:ck->aK->St->Prop}(fA:(aK->St->Prop)->Prop)(G:∀K:ck->aK->St->Prop,fA (K .go)->nq n c r s K)(E:fA λr s=>bw n l r s Q):bw n (c::l) r s Q:=G _ E
section
variable{n:Ĵ}{r:aK}{s:St}{Q:B->St->Prop}{e it:a1}{bk:Ģ}{aU:Lm Ĵ}{ifs:Lm a1}
theorem di.comp{x:B}(p:Up.peek r it=some x)(h:fj x r s n e bk aU ifs Q):BL n e bk aU it ifs r s Q:=⟨by rw[p];exact h⟩
theorem di.m8(p:Up.peek r it=none)(h:di n it r s λx s=>fj x r s n e bk aU ifs Q):BL n e bk aU it ifs r s Q:=⟨by rw[p];exact h⟩
theorem di.oM{x:B}(p:Up.peek r it=none)(af:∀Q:B->St->Prop,Q x s->di n it r s Q)(h:fj x r s n e bk aU ifs Q):BL n e bk aU it ifs r s Q:=di.m8 p<|af _ h
theorem eN.mk{v:B}{Q:Lm B->St->Prop}(h:ax (h7 bk aU v r) λb0=>sC n ifs b0 s λb s=>bh (some b) (di n e b0 s λy s=>Q [y] s)<|Q [] s):eN n e bk aU ifs v r s Q:=h
variable{t:B->St->(Lm B->St->Prop)->Prop}
theorem fj.un{x:B}{bM:Lm B}(G:items x=some bM)(h:ku t Q bM [] s):kj t Q x s:=by
 induction x using B.casesOn with
 |a9=>exact ax.of (Q:=λbM=>ku t Q bM [] s) G h
 |_=>first|exact b4 G|(cases G;exact h)
theorem fj.map{aC:Type}{f:aC->B}{x:B}{all:Lm aC}(G:items x=some (all.map f))(dI:Lm aC->Lm B->St->Prop)(ba:∀done a a',all=done++a::a'->∀cg s (K:Lm B->St->Prop),p7 (λc7 s=>dI (done++[a]) (cg++c7) s) K->dI done cg s->t (f a) s K)(cO:∀cg s,dI all cg s->Q (.lst cg) s)(h:dI [] [] s):kj t Q x s:=by
 refine fj.un G ?_;have key:∀(a' done:Lm aC) cg s,all=done++a'->dI done cg s->ku t Q (a'.map f) cg s:=by
  intro a';induction a' with
  |nil=>intro done cg s e h;rw[gT]at e;exact cO cg s<|e▸h
  |cons a a' ar=>intro done cg s e h;exact ba done a a' e cg s _ (λc7 s h=>ar (done++[a]) (cg++c7) s (by rw[e,hS];rfl) h) h
 exact key all [] [] s rfl h
theorem fj.mp{aC:Type}{f:aC->B}{x:B}{all:Lm aC}(G:items x=some (all.map f))(fA:Lm aC->(Lm B->St->Prop)->Prop)(ba:∀done a a',all=done++a::a'->∀K:Lm B->St->Prop,fA (done++[a]) K->fA done λcg s=>t (f a) s λc7 s=>K (cg++c7) s)(cO:fA all λcg=>Q<|.lst cg)(h:∀K:Lm B->St->Prop,fA [] K->K [] s):kj t Q x s:=by
 have key:∀a' done:Lm aC,all=done++a'->fA done (ku t Q<|a'.map f):=by
  intro a';induction a' with
  |nil=>intro done e;rw[gT]at e;exact e▸cO
  |cons a a' ar=>exact λdone e=>ba done a a' e _ (ar _<|by rw[e,hS];rfl)
 exact fj.un G<|h _<|key all [] rfl
theorem pi{x:B}{bM:Lm B}{f:B->Lm B}(G:items x=some bM)(h:∀v∈bM,∀bT:Lm B->St->Prop,bT (f v) s->t v s bT)(q:Q (.lst<|bM.flatMap f) s):kj t Q x s:=by
 refine fj.un G ?_;have key:∀(l cg:Lm B),(∀v∈l,∀bT:Lm B->St->Prop,bT (f v) s->t v s bT)->Q (.lst<|cg++l.flatMap f) s->ku t Q l cg s:=by
  intro l;induction l with
  |nil=>intro cg _ q;rw[List.flatMap_nil,gT]at q;exact q
  |cons v l ar=>intro cg h q;exact h v (.head _) _ (ar _ (λw bF=>h w<|.tail _ bF)<|by rw[hS,<-qK];exact q)
 exact key bM [] h q
theorem Rj{aC:Type}{f g:aC->B}{m:Ĵ}{all:Lm aC}(aN:s[m]?=some (.ls<|all.map f))(h:∀a∈all,∀bT:Lm B->St->Prop,bT [g a] s->t (f a) s bT)(q:Q (.lst<|all.map g) s):kj t Q (.ref m) s:=by
 refine gZ.of aN ?_;rw[bR];have key:∀l done:Lm aC,all=done++l->n0 t Q m l.length done.length (done.map g) s:=by
  intro l;induction l with
  |nil=>intro done e;rw[gT]at e;exact gZ.of aN ⟨by rw[e,bR],e▸q⟩
  |cons v l ar=>intro done e;refine gZ.of aN<|ax.of (a:=f v) (by rw[e,gS];simp)<|h v (by rw[e];simp) _ ?_;have:=ar (done++[v]) (by rw[e,hS];rfl);rwa[c_,c4]at this
 exact key all [] rfl
end
theorem O9(a b:B)(ak:fE 16 a=true)(av:fE 16 b=true):(a=b/\fu a b=some true)\/(a≠b/\fu a b=some false):=by have e:=yI (n:=16) ak av<|dy _;exact(wl<|a=b).imp (λh=>⟨h.1,e.trans<|bX some h.2⟩) λh=>⟨h.1,e.trans<|bX some h.2⟩
theorem Sz{a b:B}(ak:fE 16 a=true)(av:fE 16 b=true)(ne:a≠b):fu a b=some false:=(yI ak av<|dy _).trans<|bX some<|qQ ne
theorem D1{x:B}(ay:fE 16 x=true){l:Lm B}(h:∀a∈l,fE 16 a=true):(x∈l/\hO x l=some true)\/(x∉l/\hO x l=some false):=by rw[L2 ay h];exact(wl<|x∈l).imp (λh=>⟨h.1,bX some h.2⟩) λh=>⟨h.1,bX some h.2⟩
def sE(l:Lm (B×B)):Prop:=∀p∈l,fE 16 p.1=true
theorem ON{k a b:B}{r:Lm (B×B)}(e:fu a k=some true):fh k ((a,b)::r)=some (some b):=by show(match fu a k with|some true=>some (some b)|some false=>fh k r|none=>none)=_;rw[e]
theorem TG{k a b:B}{r:Lm (B×B)}(e:fu a k=some false):fh k ((a,b)::r)=fh k r:=by show(match fu a k with|some true=>some (some b)|some false=>fh k r|none=>none)=_;rw[e]
theorem Yu{k v a b:B}{r:Lm (B×B)}(e:fu a k=some false):hh k v ((a,b)::r)=(hh k v r).map ((a,b)::·):=by show(match fu a k with|some true=>some ((a,v)::r)|some false=>(hh k v r).map ((a,b)::·)|none=>none)=_;rw[e]
theorem yg{k:B}(aE:fE 16 k=true){l:Lm (B×B)}(h:sE l):(∃v,(k,v)∈l/\fh k l=some (some v))\/(k∉l.map (·.1)/\fh k l=some none):=by
 induction l with
 |nil=>exact .inr ⟨λh=>(nomatch h),rfl⟩
 |cons p r ar=>
  induction p with|mk a b=>
  rcases O9 a k (h _ (.head _)) aE with⟨rfl,e⟩|⟨ne,e⟩
  .exact .inl ⟨b,.head _,ON e⟩
  .rw[TG e];exact(ar λp ae=>h p<|.tail _ ae).imp (λ⟨v,m,bx⟩=>⟨v,.tail _ m,bx⟩) λ⟨m,bx⟩=>⟨λq=>(eJ.mp q).elim (λq=>ne q.symm) m,bx⟩
theorem xv{k v:B}(aE:fE 16 k=true){l:Lm (B×B)}(h:sE l)(m:k∉l.map (·.1)):hh k v l=some (l++[(k,v)]):=by
 induction l with
 |nil=>rfl
 |cons p r ar=>
  induction p with|mk a b=>
  rw[fx,eJ]at m;rw[Yu<|Sz (h _<|.head _) aE λq=>m<|.inl q.symm,ar (λp ae=>h p<|.tail _ ae) λq=>m<|.inr q];rfl
set_option tactic.hygienic false
def gj:Ĵ->Lm B->Lm (B×B)
 |_,[]=>[]
 |k,r::t=>(r,.int k)::gj (k+1) t
def pB:Lm (Ĵ×B):=[(0,.ref 2),(1,.ref 3),(2,.ref 4),(3,.ref 5),(4,.ref 6),(5,.ref 7),(6,.ref 8),(7,.ref 9),(8,.int 0),(9,.int 0)]
def BQ:Lm (Ĵ×B):=[(25,.ref 1),(30,.int 0),(31,.int 200),(32,.int 40)]
structure dz where
 d:Nat
 nums:List B
 R:List B
 D:List B
 X:List dd
def dz.st (S:dz):St:=.ls [.int S.d,.lst S.nums]::.ins 0 pB::.ls S.R::.cN (gj 0 S.R)::.ls S.D::.ls [.int<|-1,.int<|-1]::.ls [.int<|-1,.int<|-1]::.ls [.str [84],.str [80]]::.cN []::.cN []::.ins 4 BQ::S.X
noncomputable abbrev dz.w (S:dz) (R:Lm B):dz:={S with R:=R}
section
variable{n:Ĵ}{S:dz}{s:St}{Q:B->St->Prop}{k:Ĵ}
def h_ (v:B):Ģ:=match v with|.tup l=>eS 6 (.tup l)|_=>false
theorem YT{v:B}(h:h_ v=true):eS 6 v=true:=by
 induction v using B.casesOn with
 |tup l=>exact h
 |_=>exact cq h
theorem zf{v:B}(h:h_ v=true):fE 16 v=true:=EG (DW<|YT h) (by decide)
theorem KN{v:B}(h:h_ v=true):eG v=3:=by
 induction v using B.casesOn with
 |tup l=>exact bl h
 |_=>exact cq h
theorem lP{a b:Ģ}(h:a=true)(k:b=true):(a&&b)=true:=by rw[h,k];rfl
theorem zT{aC:Type}{d:Ĵ}{f:aC->B}{l:Lm aC}(h:∀a,eS d (f a)=true):eS (d+1) (.tup<|l.map f)=true:=d6.mpr λv af=>by obtain⟨a,_,rfl⟩:=dn.mp af;clear af;exact h a
def hm:Lm B:=[.tup [.int 1,.str [97,110,121]],.tup [.int 1,.str [117,110,107,110,111,119,110]],.tup [.int 1,.str [110,101,118,101,114]],.tup [.int 1,.str [118,111,105,100]],.tup [.int 1,.str [117,110,100,101,102,105,110,101,100]],.tup [.int 1,.str [110,117,108,108]],.tup [.int 1,.str [115,116,114,105,110,103]],.tup [.int 1,.str [110,117,109,98,101,114]],.tup [.int 2,.int 0,.int 0],.tup [.int 2,.int 1,.int 0],.tup [.int 1,.str [111,98,106,101,99,116]],.tup [.int 8,.tup [],.tup [],.tup [],.tup [],.tup [],.int 0],.tup [.int 6,.tup [.int 8,.int 9]],.tup [.int 1,.str [101,114,114,111,114]],.tup [.int 2,.int 0,.int 1],.tup [.int 2,.int 1,.int 1],.tup [.int 10,.int 0],.tup [.int 10,.int 1]]
structure Rows(R:List B):Prop where
 base:∃e,R=hm++e
 b6:R.Nodup
 row:∀v∈R,h_ v=true
structure a_(R aa:List B)(c:Nat):Prop where
 ok:Rows aa
 ext:∃e,aa=R++e/\e.length<=c
theorem a_.refl{R:Lm B}(h:Rows R){c:Ĵ}:a_ R R c:=⟨h,[],by simp,by simp⟩
theorem a_.trans{R aa i3:Lm B}{a b:Ĵ}(x:a_ R aa a)(y:a_ aa i3 b):a_ R i3 (a+b):=by obtain⟨_,e,rfl,h⟩:=x;obtain⟨o,f,rfl,aR⟩:=y;exact⟨o,e++f,by simp,by rw[c_];omega⟩
theorem a_.le{R aa:Lm B}{a b:Ĵ}(x:a_ R aa a)(h:a<=b):a_ R aa b:=by obtain⟨o,e,rfl,aR⟩:=x;exact⟨o,e,rfl,by omega⟩
theorem a_.len{R aa:Lm B}{a:Ĵ}(x:a_ R aa a):aa.length<=R.length+a:=by obtain⟨o,e,rfl,aR⟩:=x;rw[c_];omega
theorem a_.at{R aa:Lm B}{a t:Ĵ}{v:B}(x:a_ R aa a)(h:R[t]?=some v):aa[t]?=some v:=by obtain⟨o,e,rfl,aR⟩:=x;rw[o1 (hb.mp h).1];exact h
theorem a_.room{R aa:Lm B}{x b k:Ĵ}(g:a_ R aa x)(ap:R.length+b<=a3)(h:x+k<=b):aa.length+k<=a3:=aJ (fO g.len k) (by rw[rF];exact aJ (gp h _) ap)
theorem r3{aC:Type}{all done a':Lm aC}{a:aC}{N:Ĵ}(c:Ĵ)(e:all=done++a::a')(h:all.length<=N):c*done.length+c<=c*N:=hc c<|aJ (by rw[e,c_];exact gp (da<|f7 _) _) h
theorem a_.step{aC:Type}{R aa bu:Lm B}{c d:Ĵ}{done:Lm aC}{a:aC}(g:a_ R aa (c*done.length))(bj:a_ aa bu d)(h:d<=c):a_ R bu (c*(done++[a]).length):=(g.trans bj).le (by rw[c_,pe,xP,Nat.mul_one];exact gp h _)
theorem a_.turn{aC:Type}{R aa:Lm B}{c N b k:Ĵ}{all done a':Lm aC}{a:aC}(g:a_ R aa (c*done.length))(e:all=done++a::a')(ah:all.length<=N)(ap:R.length+b<=a3)(G:Nat.ble k c=true:=by rfl)(E:Nat.ble (c*N) b=true:=by rfl):aa.length+k<=a3:=g.room ap<|aJ (gp (aH G) _)<|aJ (r3 c e ah)<|aH E
theorem oA{aC:Type}{all done a':Lm aC}{a:aC}{N:Ĵ}(e:all=done++a::a')(h:all.length<=N):done.length+1<=N:=aJ (by rw[e,c_];exact gp (da<|f7 _) _) h
theorem Xu{aC:Type}{c x y:Ĵ}{done:Lm aC}{a:aC}(h:x<=c*done.length)(k:y<=c):x+y<=c*(done++[a]).length:=by rw[c_,pe,xP,Nat.mul_one];exact gJ h k
theorem yB{aC cC:Type}{f:aC->cC}{a b:Lm aC}{k:Ĵ}(h:a.length+b.length<=k)(e:Nat.ble k 1000=true:=by rfl):(a.map f).length+(b.map f).length<=1000:=by rw[bR,bR];exact aJ h<|aH e
theorem vN{aC cC:Type}{f:aC->cC}{l:Lm aC}{k:Ĵ}(h:l.length+1<=k)(e:Nat.ble k a3=true:=by rfl):(l.map f).length+1<=a3:=by rw[bR];exact aJ h<|aH e
theorem Rows.inj{R:Lm B}(h:Rows R){s t:Ĵ}{v:B}(G:R[s]?=some v)(E:R[t]?=some v):s=t:=by obtain⟨a,ag⟩:=hb.mp G;obtain⟨b,a8⟩:=hb.mp E;exact(Co h.b6).mp<|ag.trans a8.symm
theorem Rows.at{R:Lm B}(h:Rows R){t:Ĵ}{v:B}(e:hm[t]?=some v):R[t]?=some v:=by obtain⟨f,rfl⟩:=h.base;rw[o1 (hb.mp e).1];exact e
theorem p3{t n:Ĵ}(h:t<n):jM (t:ĵ) n=some t:=by unfold jM;rw[bl<|nt t];simp[h]
theorem zk{dw:Type}{s:St}{n c:Ĵ}{l:Lm (Ĵ×B)}{k:Ĵ->Ĵ->Lm (Ĵ×B)->Ĳ dw}(h:s[n]?=some (.ins c l)):pa s (.ref n) k=k n c l:=by show(s[n]?).bind _=_;rw[h];rfl
theorem w'{s:St}{n c a:Ĵ}{l:Lm (Ĵ×B)}{v:B}(h:s[n]?=some (.ins c l))(ah:l.length<=900):oh s (.ref n) a v=some (s.set n<|.ins c<|putAt a v l):=(zk h).trans<|bl ah
theorem vr{aC:Type}{f:aC->B}{l:Lm aC}{v:Ĵ}(h:v<l.length):∃a∈l,∀s,ho s (.lst<|l.map f) (.int (v:Ĵ))=some (f a):=⟨l[v],w_ h,λs=>by show(jM (v:ĵ) (l.map f).length).bind _=_;rw[p3<|by rw[bR];exact h];show(l.map f)[v]?=_;rw[gS,fl h];rfl⟩
theorem gM{v n:Ĵ}(h:(v:ĵ)<(n:ĵ)):v<n:=iM.mp h
theorem tj{v:Ĵ}(h:v<2):v=0\/v=1:=(by decide:∀v,v<2->v=0\/v=1) v h
theorem PQ{v:Ĵ}(h:v<3):v=0\/v=1\/v=2:=(by decide:∀v,v<3->v=0\/v=1\/v=2) v h
theorem zm{v:Ĵ}(h:v<4):v=0\/v=1\/v=2\/v=3:=(by decide:∀v,v<4->v=0\/v=1\/v=2\/v=3) v h
theorem pX{S:dz}{t:Ĵ}{v:B}(h:S.R[t]?=some v):ho S.st (.ref 2) (.int t)=some v:=by show(jM (t:ĵ) S.R.length).bind _=_;rw[p3 (hb.mp h).1];exact h
theorem ax.row{S:dz}{t:Ĵ}{v:B}{Q:B->Prop}(h:S.R[t]?=some v)(q:Q v):ax (ho S.st (.ref 2)<|.int t) Q:=ax.of (pX h) q
local macro_rules |`(tactic|k_go)=>`(tactic|(refine bd.fn rfl rfl ?_;dsimp only[fx,A3,EL,List.nil_append,gT,mE,wB,List.drop_nil,List.drop_succ_cons,AY,Hl,List.replicate_zero,Nat.reduceAdd,Nat.reduceSub,iG]))
local macro_rules |`(tactic|tm_at "w")=>`(tactic|conv=>whnf)
local macro_rules |`(tactic|lk)=>`(tactic|((conv=>whnf);(repeat'((first|with_reducible apply cE.cons|with_reducible apply cE.nil|refine ax.row (by assumption) ?_);(conv=>whnf)));try first|refine p7.go (by with_reducible assumption) ?_|(refine qR.go (by with_reducible assumption) ?_;conv=>whnf)))
theorem MA:∀{R:Lm B} {k:Ĵ} {v w:B},(v,w)∈gj k R->∃i,R[i]?=some v/\w=.int ((k+i:Ĵ):ĵ)
 |r::t,k,v,w,h=>by
  rw[gj]at h;rcases eJ.mp h with e|h
  .cases e;exact⟨0,rfl,rfl⟩
  .obtain⟨i,G,E⟩:=MA h;clear h;exact⟨i+1,G,by rw[E];congr 2;omega⟩
theorem wC:∀(R:Lm B) (k:Ĵ),(gj k R).map (·.1)=R
 |[],_=>rfl
 |r::t,k=>by rw[gj,fx,wC t]
theorem F2:∀(R:Lm B) (k:Ĵ) (v:B),gj k (R++[v])=gj k R++[(v,.int ((k+R.length:Ĵ):ĵ))]
 |[],k,v=>rfl
 |r::t,k,v=>by show(r,_)::gj (k+1) (t++[v])=_;rw[F2 t];show _=(r,B.int (k:ĵ))::(gj (k+1) t++_);rw[show k+1+t.length=k+(r::t).length by simp;omega]
theorem X0(R:Lm B)(k:Ĵ):(gj k R).length=R.length:=by have:=bX List.length<|wC R k;rwa[bR]at this
theorem RH{R:Lm B}(h:∀v∈R,h_ v=true){v:B}(af:h_ v=true):ej v (gj 0 R)=true:=by unfold ej;rw[KN af];exact lP rfl (d6.mpr λp ae=>fN.mpr<|KN<|h _<|by rw[<-wC R 0];exact fy ae)
theorem G_{R:Lm B}(h:∀v∈R,h_ v=true):sE (gj 0 R):=λp ae=>zf (h _<|by rw[<-wC R 0];exact fy ae)
theorem zd{n:Ĵ}{x:dd}{R:Lm B}{i9:St}{row:B}{Q:B->St->Prop}(T:∀v∈R,h_ v=true)(bm:h_ row=true)(ap:R.length+1<=a3)(G:∀i:Ĵ,R[i]?=some row->Q (.int i) (x::.ins 0 pB::.ls R::.cN (gj 0 R)::i9))(E:row∉R->Q (.int R.length) (x::.ins 0 pB::.ls (R++[row])::.cN (gj 0<|R++[row])::i9)):bd (n+1) 1 [.ref 1,row] (x::.ins 0 pB::.ls R::.cN (gj 0 R)::i9) Q:=by
 k_go;have xw:=RH T bm;rcases yg (zf bm) (G_ T)with⟨v,m,e⟩|⟨m,e⟩
 .obtain⟨i,aA,rfl⟩:=MA m;clear m;refine ax.of (a:=true) (by show(if ej row (gj 0 R)then(fh row<|gj 0 R).map (·.isSome)else none)=_;rw[xw,e];rfl) ?_;refine ax.of (a:=.int ((0+i:Ĵ):ĵ)) (by show(if ej row (gj 0 R)then(fh row<|gj 0 R).bind id else none)=_;rw[xw,e];rfl) ?_;rw[iG];exact G i aA
 .refine ax.of (a:=false) (by show(if ej row (gj 0 R)then(fh row<|gj 0 R).map (·.isSome)else none)=_;rw[xw,e];rfl) ?_;refine⟨ap,ax.of (a:=x::.ins 0 pB::.ls (R++[row])::.cN (gj 0<|R++[row])::i9) ?_<|E<|by rwa[wC]at m⟩;show(if ej row (gj 0 R)then(hh row (.int R.length)<|gj 0 R).bind λl=>i7 l.length (x::dd.ins 0 pB::.ls (R++[row])::.cN l::i9)else none)=_;rw[xw,xv (zf bm) (G_ T) m,F2,iG];have ah:(gj 0 R++[(row,B.int R.length)]).length<=a3:=by rw[c_,X0];exact ap
  exact bl ah
theorem e4{n:Ĵ}{S:dz}{row:B}{Q:B->St->Prop}(T:Rows S.R)(bm:h_ row=true)(ap:S.R.length+1<=a3)(h:∀(t:Ĵ) aa,a_ S.R aa 1->aa[t]?=some row->Q (.int t) (S.w aa).st):bd (n+1) 1 [.ref 1,row] S.st Q:=zd T.row bm ap (λi e=>h i S.R (a_.refl T) e) λno=>h S.R.length _ ⟨⟨let⟨e,a6⟩:=T.base;⟨e++[row],by rw[a6,hS]⟩,nd.mpr ⟨T.b6,by simp,λa ak b av q=>no<|by rw[cV]at av;rw[<-av,<-q];exact ak⟩,λv af=>(gm.mp af).elim (T.row v) λaf=>cV.mp af▸bm⟩,[row],rfl,dy _⟩ (by simp)
noncomputable abbrev au (n:Ĵ):B:=.int (n:ĵ)
theorem Nn{a b:Ĵ}(h:a≠b):¬((a:ĵ)=(b:ĵ)):=by omega
theorem TJ(a b:Ĵ):fu (au a) (au b)=some (decide<|a=b):=by
 show some (decide<|(a:ĵ)=(b:ĵ))=_;congr 1;by_cases h:a=b
 .simp[h]
 .rw[eC h,eC<|Nn h]
def dl (bJ:Lm Ĵ):Lm (B×B):=bJ.map λp=>(au p,.int 1)
theorem wk{aC:Type}{k:B}{f:aC->B×B}{l:Lm aC}(aF:(eG k !=0)=true)(h:∀a,(eG (f a).1==eG k)=true):ej k (l.map f)=true:=by show(eG k !=0&&(l.map f).all _)=true;rw[aF,oS];exact d6.mpr λa _=>h a
theorem Wq(p:Ĵ)(bJ:Lm Ĵ):ej (au p) (dl bJ)=true:=wk rfl λ_=>rfl
theorem QW(p:ĵ)(bJ:Lm Ĵ):ej (.int p) (dl bJ)=true:=wk rfl λ_=>rfl
theorem Mk(p:Ĵ):∀bJ:Lm Ĵ,hh (au p) (.int 1) (dl bJ)=some (dl<|if p∈bJ then bJ else bJ++[p])
 |[]=>rfl
 |g::r=>by
  show(match fu (au g) (au p)with|some true=>some ((au g,B.int 1)::dl r)|some false=>(hh (au p) (.int 1)<|dl r).map ((au g,B.int 1)::·)|none=>none)=_;rw[TJ];by_cases h:g=p
  .subst h;simp;rfl
  .have aR:¬p=g:=λq=>h q.symm;rw[eC h];dsimp only;rw[Mk p r];by_cases m:p∈r<;>simp[m,aR]<;>rfl
theorem Fl(p:ĵ):∀bJ:Lm Ĵ,fh (.int p) (dl bJ)=some (if(∃g∈bJ,(g:ĵ)=p)then some (.int 1)else none)
 |[]=>by simp[dl,fh]
 |g::r=>by
  show(match fu (au g) (.int p)with|some true=>some (some<|B.int 1)|some false=>fh (.int p) (dl r)|none=>none)=_;rw[show fu (au g) (.int p)=some (decide<|(g:ĵ)=p)from rfl];by_cases h:(g:ĵ)=p
  .rw[dQ h];simp[h]
  .rw[eC h];dsimp only;rw[Fl p r];simp[h]
theorem rN(p:ĵ)(bJ:Lm Ĵ):contains (.int p) (.a9<|dl bJ)=some (decide (∃g∈bJ,(g:ĵ)=p)):=by
 show(if ej (.int p) (dl bJ)then(fh (.int p)<|dl bJ).map (·.isSome)else none)=_;rw[QW,Fl,bl rfl];by_cases h:∃g∈bJ,(g:ĵ)=p
 .rw[bl h,dQ h];rfl
 .rw[bt h,eC h];rfl
theorem Su(bJ:Lm Ĵ)(h:bJ.Nodup):∃cR:Lm Ĵ,iU (bJ.map au)=some (cR.map au)/\cR.Pairwise (· <·)/\(∀p,p∈cR↔p∈bJ)/\cR.length=bJ.length:=by obtain⟨cR,e,G,E⟩:=uL (f:=au) (b:=λ(x y:Ĵ)=>decide<|(x:ĵ)<(y:ĵ)) (R:=(· <·)) (λ_ _ _=>rfl) (λ_ _ h=>iM.mp<|fz h) (λ_ _ n h=>MC (q0 λq=>v2 h<|iM.mpr q)<|h5 n) (λ_ _ _ a b=>qL (iM.mp<|fz a) b) h;exact⟨cR,e,G,λ_=>E.mem_iff,E.length_eq⟩
theorem T9{bJ:Lm Ĵ}(h:bJ.Nodup)(ah:bJ.length<64):∃cR:Lm Ĵ,kC .sorted [.a9<|dl bJ]=some (.lst<|cR.map au)/\cR.Pairwise (· <·)/\(∀p,p∈cR↔p∈bJ)/\cR.length=bJ.length:=by
 obtain⟨cR,e,G,E,aB⟩:=Su bJ h;refine⟨cR,?_,G,E,aB⟩;have aA:items (.a9<|dl bJ)=some (bJ.map au):=by
  have:((dl bJ).all λe=>eG e.1==1)=true:=by unfold dl;rw[oS];exact d6.mpr λ_ _=>rfl
  show(if(((dl bJ).all λe=>eG e.1==1)||((dl bJ).all λe=>eG e.1==2))=true then some ((dl bJ).map (·.1))else none)=_;rw[this];simp[dl]
 show((items<|.a9<|dl bJ).bind λl=>if l.length<64 then iU l else none).map B.lst=_;rw[aA];show(if(bJ.map au).length<64 then iU (bJ.map au)else none).map B.lst=_;rw[bR,bl ah,e];rfl
inductive nR:List B->Int->Prop
 |txt (x:bv):nR [.int 3,.str x,.int 0] 6
 |num (i:Int):nR [.int 4,.int i,.int 0] 7
 |key (x:bv):nR [.int 1,.str x] (-1)
 |arr (e aV:Int):nR [.int 11,.int e,.int aV] (-1)
 |idx (a b:Int):nR [.int 15,.int a,.int b] (-1)
 |par (i:Int):nR [.int 10,.int i] (-1)
structure gi(R:List B)(p:Nat)(w:Int):Prop where
 row:∃l,R[p]?=some (.tup l)/\nR l w
 odd:p≠2/\p≠0/\p≠1/\p≠13/\p≠8/\p≠9/\p≠14/\p≠15
theorem gi.bf{R aa:Lm B}{c p:Ĵ}{w:ĵ}(h:gi R p w)(x:a_ R aa c):gi aa p w:=by obtain⟨⟨l,G,E⟩,aB⟩:=h;exact⟨⟨l,x.at G,E⟩,aB⟩
structure eg(R:List B)(t:Nat)(aj:List Nat):Prop where
 fB:aj.Pairwise (· <·)
 pt:∀p∈aj,∃w,gi R p w/\∀q∈aj,(q:Int)≠w
 is:(aj=[]/\t=2)\/aj=[t]\/(2<=aj.length/\t≠2/\R[t]?=some (.tup [.int 6,.tup<|aj.map au]))
theorem eg.bf{R aa:Lm B}{c t:Ĵ}{aj:Lm Ĵ}(h:eg R t aj)(x:a_ R aa c):eg aa t aj:=⟨h.fB,λp ae=>(h.pt p ae).imp λw bF=>⟨bF.1.bf x,bF.2⟩,h.is.imp id<|Or.imp id λ⟨a,b,c⟩=>⟨a,b,x.at c⟩⟩
theorem wA{a b:Lm Ĵ}:a.Pairwise (· <·)->b.Pairwise (· <·)->(∀p,p∈a↔p∈b)->a=b:=Gc λ_ _ p q=>De p q
theorem eg.inj{R:Lm B}(T:Rows R){s t:Ĵ}{aj:Lm Ĵ}(G:eg R s aj)(E:eg R t aj):s=t:=by
 rcases G.is with⟨rfl,e⟩|rfl|⟨a,_,e⟩
 .rcases E.is with⟨_,bx⟩|bx|⟨a,_⟩
  .rw[e,bx]
  .cases bx
  .simp at a
 .rcases E.is with⟨bx,_⟩|bx|⟨a,_⟩
  .cases bx
  .cases bx;rfl
  .simp at a
 .rcases E.is with⟨rfl,_⟩|rfl|⟨hi,_,bx⟩
  .simp at a
  .simp at a
  .exact T.inj e bx
theorem bh.ft{c:Prop}[Decidable c]{p q:Prop}(h:¬c)(x:q):bh (jt<|.bool<|decide c) p q:=by rw[eC h];exact x
theorem bh.pW{c:Prop}[Decidable c]{p q:Prop}(h:c)(x:p):bh (jt<|.bool<|decide c) p q:=by rw[dQ h];exact x
theorem bh.ef{c:Prop}[Decidable c]{p q:Prop}(G:c->p)(E:¬c->q):bh (jt<|.bool<|decide c) p q:=bh.d G E
theorem bh.ik{b:Ģ}{p q:Prop}(h:b=false)(x:q):bh (jt<|.bool b) p q:=by rw[h];exact x
theorem bh.mz{b:Ģ}{p q:Prop}(h:b=true)(x:p):bh (jt<|.bool b) p q:=by rw[h];exact x
theorem Dp{t:Ĵ}{aj:Lm Ĵ}(h:eg S.R t aj)(q:Q (.tup<|aj.map au) S.st):bd (n+1) 14 [.ref 1,au t] S.st Q:=by
 k_go;rcases h.is with⟨rfl,rfl⟩|rfl|⟨a,b,e⟩
 .lk;exact q
 .obtain⟨w,⟨⟨l,G,E⟩,aB⟩,_⟩:=h.pt t<|.head _;lk;refine bh.ft (by omega) ?_;induction E<;>(lk;exact q)
 .lk;refine bh.ft (by omega) ?_;lk;exact q
theorem Yn{l:Lm B}{w:ĵ}(h:nR l w)(q:Q (.int w) s):bd (n+1) 15 [.tup l] s Q:=by k_go;induction h<;>(exact q)
theorem ô{t:Ĵ}{w:ĵ}(h:gi S.R t w)(q:Q (.int<|-1) S.st):bd (n+1) 16 [.ref 1,au t] S.st Q:=by k_go;obtain⟨⟨l,G,E⟩,aB⟩:=h;induction E<;>(lk;exact q)
def Cn(bJ:Lm Ĵ):Prop:=∀g∈bJ,g≠2/\g≠0/\g≠1/\g≠13/\g≠8/\g≠9/\g≠14/\g≠15
theorem ă{bJ:Lm Ĵ}(h:Cn bJ)(q:Q (.int<|-1) s):bd (n+1) 19 [.a9<|dl bJ] s Q:=by have no:∀k:Ĵ,(∀g∈bJ,g≠k)->¬∃g∈bJ,(g:ĵ)=k:=λk aE ⟨g,d5,e⟩=>aE g d5<|Do.mp e;k_go;lk;refine ax.of (rN _ bJ)<|bh.ft (no 0 λg d5=>(h g d5).2.1) ?_;lk;refine ax.of (rN _ bJ)<|bh.ft (no 13 λg d5=>(h g d5).2.2.2.1) ?_;lk;refine ax.of (rN _ bJ)<|bh.ft (no 1 λg d5=>(h g d5).2.2.1) ?_;lk;exact q
theorem Â{bJ:Lm Ĵ}(h:Cn bJ)(q:Q .none s):bd (n+1) 17 [.a9<|dl bJ] s Q:=by have no:∀k:Ĵ,(∀g∈bJ,g≠k)->¬∃g∈bJ,(g:ĵ)=k:=λk aE ⟨g,d5,e⟩=>aE g d5<|Do.mp e;k_go;exact ax.of (rN _ bJ)<|bh.ft (no 8 λg d5=>(h g d5).2.2.2.2.1)<|ax.of (rN _ bJ)<|bh.ft (no 14 λg d5=>(h g d5).2.2.2.2.2.2.1)<|bh.ft (no 14 λg d5=>(h g d5).2.2.2.2.2.2.1) q
theorem Xm{bJ:Lm Ĵ}{t:Ĵ}{w:ĵ}(h:gi S.R t w)(q:Q (.bool<|!decide (∃g∈bJ,(g:ĵ)=w)) S.st):bd (n+2) 18 [.ref 1,.a9<|dl bJ,au t] S.st Q:=by k_go;refine ô h<|ax.of (rN _ bJ)<|bh.ft (λ⟨g,_,e⟩=>by omega) ?_;obtain⟨⟨l,G,E⟩,aB⟩:=h;lk;refine Yn E ?_;refine ax.of (show hu .f5 S.st (.int w) (.a9<|dl bJ)=_ from by show(contains (.int w)<|.a9<|dl bJ).map (!·)=_;rw[rN];rfl) ?_;exact q
def rZ (R:Lm B) (p:Ĵ):ĵ:=match R[p]? with
 |some (.tup (.int 3::_))=>6
 |some (.tup (.int 4::_))=>7
 |_=> -1
theorem gi.w{R:Lm B}{p:Ĵ}{w:ĵ}(h:gi R p w):rZ R p=w:=by obtain⟨⟨l,G,E⟩,_⟩:=h;unfold rZ;rw[G];induction E<;>rfl
def ru(R:Lm B)(aQ:Lm Ĵ)(p:Ĵ):Prop:=p∈aQ/\∀q∈aQ,(q:ĵ)≠rZ R p
def jl (bJ l:Lm Ĵ):Lm Ĵ:=l.foldl (λbJ p=>if p∈bJ then bJ else bJ++[p]) bJ
theorem KO(l:Lm Ĵ):∀bJ,bJ.Nodup->(jl bJ l).Nodup/\(∀p,p∈jl bJ l↔p∈bJ\/p∈l)/\(jl bJ l).length<=bJ.length+l.length:=by
 induction l with
 |nil=>exact λbJ h=>⟨h,λp=>(or_iff_left y0).symm,dy _⟩
 |cons a l ar=>
  intro bJ h;by_cases c:a∈bJ
  .obtain⟨G,E,aB⟩:=ar bJ h;rw[show jl bJ (a::l)=jl bJ l by show jl (if a∈bJ then bJ else bJ++[a]) l=_;rw[bl c]];exact⟨G,λp=>(E p).trans ⟨λh=>h.imp id<|.tail _,λh=>h.elim .inl λh=>(eJ.mp h).elim (λe=>.inl<|e▸c) .inr⟩,iL aB⟩
  .obtain⟨G,E,aB⟩:=ar (bJ++[a])<|nd.mpr ⟨h,by simp,λx ay y a2 e=>c<|cV.mp a2▸e▸ay⟩;rw[show jl bJ (a::l)=jl (bJ++[a]) l by show jl (if a∈bJ then bJ else bJ++[a]) l=_;rw[bt c]];refine⟨G,λp=>(E p).trans ?_,?_⟩
   .rw[gm,cV,eJ,or_assoc]
   .rw[c_,pe,rF,qh 1]at aB;exact aB
theorem Yq(aj:Lm Ĵ):h_ (.tup [.int 6,.tup<|aj.map au])=true:=lP (zT λ_=>rfl) rfl
theorem yD{aC:Type}{f:aC->B}{p:aC->Ģ}{N:Lm aC}{x:B}{t:B->St->(Lm B->St->Prop)->Prop}(G:items x=some (N.map f))(h:∀a∈N,∀K:Lm B->St->Prop,K (if p a=true then [f a]else []) s->t (f a) s K)(q:Q (.lst<|(N.filter p).map f) s):kj t Q x s:=by
 refine fj.mp (all:=N) (f:=f) G (λdone K=>K ((done.filter p).map f) s) (λdone a a' ag K ab=>h a (by rw[ag];exact iA _<|.head _) _ ?_) q λK ab=>ab;rw[l',c4,h2]at ab;induction ae:p a using Bool.casesOn with
 |true=>rw[ae]at ab;exact ab
 |false=>rw[ae]at ab;exact ab
def I8 (arg:B) (bJ:Lm Ĵ) (x y:cr):aK:=[.val<|.ref 1,.val arg,.od<|dl bJ,x,y,.un,.un,.un]
theorem uu{aU:Lm (Ĵ×Lm Ĵ)}{arg:B}(T:Rows S.R)(ak:items arg=some (aU.map λu=>au u.1))(a5:∀u∈aU,eg S.R u.1 u.2)(ah:(aU.flatMap Prod.snd).length<64)(ap:S.R.length+1<=a3)(q:∀t aj aa,a_ S.R aa 1->eg aa t aj->(∀p,p∈aj↔ru S.R (aU.flatMap Prod.snd) p)->Q (au t) (S.w aa).st):bd (n+3) 20 [.ref 1,arg] S.st Q:=by
 have Bv:∀p∈aU.flatMap Prod.snd,∃w,gi S.R p w:=λp ae=>by obtain⟨t,dU,ae⟩:=jF.mp ae;exact((a5 t dU).pt p ae).imp λw bF=>bF.1
 have g':∀l m,aU.flatMap Prod.snd=l++m->(dl<|jl [] l).length<=a3:=λl m e=>by unfold dl;rw[bR];rw[e,c_]at ah;exact aJ (KO l [] q1).2.2<|aJ (kq<|hN (by rw[wB,iG];exact mM _ _) ah)<|aH rfl
 k_go;refine ax.of ak<|cE.mp (all:=aU) (f:=λu=>au u.1) rfl (λdone K=>∀x y,K (I8 arg (jl []<|done.flatMap Prod.snd) x y) S.st) (λdone t a' ag K ab x y=>?_) (λx y=>?_) λK ab=>ab _ _
 .refine Dp (a5 t<|by rw[ag];exact iA _<|.head _) ?_;lk;refine cE.mp (all:=t.2) (f:=au) rfl (λr4 K=>∀y,K (I8 arg (jl []<|done.flatMap Prod.snd++r4) (.val<|au t.1) y) S.st) (λr4 p Y3 a8 K ab y=>?_) (λy=>?_) λK ab=>by rw[gT]at ab;exact ab _
  .have e6:jl [] (done.flatMap Prod.snd++(r4++[p]))=if p∈jl [] (done.flatMap Prod.snd++r4)then jl [] (done.flatMap Prod.snd++r4)else jl [] (done.flatMap Prod.snd++r4)++[p]:=by rw[<-hS];exact List.foldl_append
   lk;refine⟨Wq p _,ax.of (Mk p _) ?_⟩;rw[<-e6];refine⟨g' _ (Y3++a'.flatMap Prod.snd) (by rw[ag,sH,qK,a8];simp),?_⟩;lk;exact ab _
  .rw[sH,s']at ab;lk;exact ab _ _
 .obtain⟨b6,d5,sr⟩:=KO (aU.flatMap Prod.snd) [] q1;generalize jl [] (aU.flatMap Prod.snd)=bJ at b6 d5 sr⊢;replace d5:∀p,p∈bJ↔p∈aU.flatMap Prod.snd:=λp=>(d5 p).trans<|or_iff_right<|y0;have Mo:Cn bJ:=λg Rr=>by obtain⟨w,h⟩:=Bv g<|(d5 g).mp Rr;exact h.odd
  rw[wB,iG]at sr;obtain⟨cR,n9,sa,kx,sX⟩:=T9 b6<|hN sr ah;refine ă Mo<|Â Mo<|di.m8 rfl<|ax.of (show pg .sorted S.st [.a9<|dl bJ]=_ from n9)<|yD (N:=cR) (f:=au) (p:=λp=> !decide (∃g∈bJ,(g:ĵ)=rZ S.R p)) rfl (λp ae K ab=>?_) ?_
  .obtain⟨w,h⟩:=Bv p<|(d5 p).mp<|(kx p).mp ae;refine eN.mk<|Xm h ?_;rw[<-h.w];induction c:(!decide (∃g∈bJ,(g:ĵ)=rZ S.R p))using Bool.casesOn with
   |true=>rw[c]at ab;exact bh.mz rfl ab
   |false=>rw[c]at ab;exact bh.ik rfl ab
  generalize uy:(cR.filter λp=> !decide (∃g∈bJ,(g:ĵ)=rZ S.R p))=aj;have jR:∀p,p∈aj↔ru S.R (aU.flatMap Prod.snd) p:=by
   intro p;rw[<-uy,gz,kx,d5];unfold ru;constructor
   .rintro⟨G,E⟩;refine⟨G,λz hz e=>?_⟩;simp only[j2,ny]at E;exact E ⟨z,(d5 z).mpr hz,e⟩
   .rintro⟨G,E⟩;refine⟨G,?_⟩;simp only[j2,ny];rintro⟨z,hz,e⟩;exact E z ((d5 z).mp hz) e
  have H1:aj.Pairwise (· <·):=by rw[<-uy];exact sa.filter _
  have tl:∀p∈aj,∃w,gi S.R p w/\∀z∈aj,(z:ĵ)≠w:=λp ae=>by obtain⟨G,E⟩:=(jR p).mp ae;obtain⟨w,h⟩:=Bv p G;refine⟨w,h,λz hz=>?_⟩;rw[<-h.w];exact E z ((jR z).mp hz).1
  have sI:aj.length<64:=by
   have:aj.length<=cR.length:=by rw[<-uy];exact l1 _ _
   omega
  induction aj using List.casesOn with
  |nil=>exact q 2 [] S.R (a_.refl T) ⟨.nil,tl,.inl ⟨rfl,rfl⟩⟩ jR
  |cons a r=>
  induction r with
  |nil=>exact q a [a] S.R (a_.refl T) ⟨H1,tl,.inr<|.inl rfl⟩ jR
  |cons b r=>
  refine bh.ft (by simp only[bR,mE]at sI⊢;omega) ?_;refine e4 T (Yq<|a::b::r) ap λt aa g e=>q t (a::b::r) aa g ⟨H1,λp ae=>(tl p ae).imp λw bF=>⟨bF.1.bf g,bF.2⟩,.inr<|.inr ⟨by simp,λE=>?_,e⟩⟩ jR;subst E;have:=g.ok.at (t:=2) rfl;rw[e]at this;cases this
theorem eg.one{R:Lm B}{t p:Ĵ}{aj:Lm Ĵ}(h:eg R t aj)(ae:p∈aj):eg R p [p]:=by obtain⟨w,G,E⟩:=h.pt p ae;refine⟨by simp,λq bb=>?_,.inr<|.inl rfl⟩;rw[cV]at bb;subst bb;exact⟨w,G,λz hz=>by rw[cV]at hz;subst hz;exact E z ae⟩
theorem gi.key{R:Lm B}(T:Rows R){p:Ĵ}(h:p=4\/p=5\/p=6\/p=7):gi R p (-1):=by rcases h with e|e|e|e<;>rw[e]<;>exact⟨⟨_,T.at rfl,.key _⟩,by decide⟩
theorem eg.key{R:Lm B}(T:Rows R){p:Ĵ}(h:p=4\/p=5\/p=6\/p=7):eg R p [p]:=⟨by simp,λq bb=>by rw[cV]at bb;subst bb;exact⟨-1,gi.key T h,λz _=>by omega⟩,.inr<|.inl rfl⟩
theorem eg.four{R:Lm B}(T:Rows R){aj:Lm Ĵ}(h:eg R 4 aj):aj=[4]:=by
 rcases h.is with⟨_,e⟩|e|⟨_,_,e⟩
 .cases e
 .exact e
 .have:=T.at (t:=4) rfl;rw[e]at this;cases this
theorem SA{R:Lm B}(T:Rows R){t:Ĵ}{aj:Lm Ĵ}(h:eg R t aj)(p:Ĵ):ru R (aj++[4]) p↔p∈aj\/p=4:=by
 unfold ru;rw[gm,cV];refine⟨λh=>h.1,λae=>⟨ae,λz hz=>?_⟩⟩;have bF:∃w,gi R p w/\∀q∈aj,(q:ĵ)≠w:=by
  rcases ae with ae|rfl
  .exact h.pt p ae
  .exact⟨-1,gi.key T<|.inl rfl,λz _=>by omega⟩
 obtain⟨w,G,E⟩:=bF;rw[G.w];rcases gm.mp hz with hz|hz
 .exact E z hz
 .rw[cV]at hz;subst hz;obtain⟨⟨l,_,ah⟩,_⟩:=G;induction ah<;>decide
theorem J1{R:Lm B}{t:Ĵ}{aj:Lm Ĵ}(h:eg R t aj){aQ:Lm Ĵ}(ct:∀p∈aQ,p∈aj)(p:Ĵ):ru R aQ p↔p∈aQ:=by refine⟨λh=>h.1,λae=>⟨ae,λz hz=>?_⟩⟩;obtain⟨w,G,E⟩:=h.pt p<|ct p ae;rw[G.w];exact E z<|ct z hz
theorem yL{t:Ĵ}{aj:Lm Ĵ}{arg:B}(T:Rows S.R)(a5:eg S.R t aj)(ak:items arg=some [au t,au 4])(ah:aj.length<63)(ap:S.R.length+1<=a3)(q:∀dK dJ aa,a_ S.R aa 1->eg aa dK dJ->(∀p,p∈dJ↔p∈aj\/p=4)->Q (au dK) (S.w aa).st):bd (n+3) 20 [.ref 1,arg] S.st Q:=by
 refine uu (aU:=[(t,aj),(4,[4])]) T ak ?_ (by simp;omega) ap λdK dJ aa g u m=>?_
 .intro u aN;rcases eJ.mp aN with rfl|aN
  .exact a5
  .rw[cV]at aN;subst aN;exact eg.key T<|.inl rfl
 .refine q dK dJ aa g u λp=>?_;rw[m p,<-SA T a5 p];simp
theorem MG{t:Ĵ}{aj:Lm Ĵ}(T:Rows S.R)(a5:eg S.R t aj)(ah:aj.length<63)(ap:S.R.length+1<=a3)(q:∀dK dJ aa,a_ S.R aa 1->eg aa dK dJ->(∀p,p∈dJ↔p∈aj\/p=4)->Q (au dK) (S.w aa).st):bd (n+4) 22 [.ref 1,au t] S.st Q:=by k_go;exact yL T a5 rfl ah ap λdK dJ aa g u m=>q dK dJ aa g u m
theorem HP{t:Ĵ}{aj:Lm Ĵ}(T:Rows S.R)(a5:eg S.R t aj)(ah:aj.length<64)(ap:S.R.length+1<=a3)(q:∀dK aa,a_ S.R aa 1->eg aa dK (aj.filter λp=> !decide (p=4))->Q (au dK) (S.w aa).st):bd (n+4) 21 [.ref 1,au t,.lst [.int 4]] S.st Q:=by
 k_go;refine di.m8 rfl<|Dp a5 ?_;have CL:∀l:Lm Ĵ,(l.map au).flatMap (λv=>match v with|.int p=>if(!decide (p.toNat=4))=true then [v]else []|_=>[])=((l.filter λp=> !decide (p=4)).map λp=>(p,[p])).map λu=>au u.1:=by
  intro l;induction l with
  |nil=>rfl
  |cons a l ar=>rw[fx,qK,ar,h2];simp only[qr];split<;>simp
 refine pi (f:=λv=>match v with|.int p=>if(!decide (p.toNat=4))=true then [v]else []|_=>[]) rfl ?_ ?_
 .intro v af bT bb;obtain⟨p,ae,rfl⟩:=dn.mp af;clear af;simp only[qr]at bb;refine eN.mk ?_;by_cases c:p=4
  .rw[bt<|by simp[c]]at bb;refine bh.ik (by subst c;rfl) ?_;exact bb
  .rw[bl<|by simp[c]]at bb;refine bh.mz (by simp;omega) ?_;exact bb
 .have ct:((aj.filter λp=> !decide (p=4)).map λp=>(p,[p])).flatMap Prod.snd=aj.filter λp=> !decide (p=4):=by rw[BH];simp
  refine uu (aU:=(aj.filter λp=> !decide (p=4)).map λp=>(p,[p])) T (bX some<|CL aj) ?_ ?_ ap λdK dJ aa g u m=>?_
  .intro u aN;obtain⟨p,ae,rfl⟩:=dn.mp aN;clear aN;exact a5.one (gz.mp ae).1
  .rw[ct];exact hN (l1 _ _) ah
  .rw[ct]at m;refine q dK aa g ?_;rw[<-wA u.fB (a5.fB.filter _) λp=>by rw[m p];exact J1 a5 (λp ae=>(gz.mp ae).1) p];exact u
def Cl(R:Lm B)(aj:Lm Ĵ):Prop:=∀p∈aj,∀a b:ĵ,R[p]?=some (.tup [.int 15,.int a,.int b])->a=16
theorem eg.two{R:Lm B}{t:Ĵ}{aj:Lm Ĵ}(h:eg R t aj)(e:t=2):aj=[]:=by
 rcases h.is with⟨e,_⟩|rfl|⟨_,bx,_⟩
 .exact e
 .obtain⟨w,G,_⟩:=h.pt t<|.head _;exact absurd e G.odd.1
 .exact absurd e bx
theorem JP{row:B}{t:Ĵ}(T:Rows S.R)(h:S.R[t]?=some row)(ap:S.R.length+1<=a3)(q:∀aa,a_ S.R aa 1->Q (au t) (S.w aa).st):bd (n+1) 1 [.ref 1,row] S.st Q:=by refine e4 T (T.row _<|ib h) ap λdK aa g e=>?_;rw[g.ok.inj e<|g.at h];exact q aa g
theorem ü{p:Ĵ}{w:ĵ}(h:gi S.R p w)(q:∀b,Q (.bool b) S.st):bd (n+1) 34 [.ref 1,au p] S.st Q:=by obtain⟨⟨l,G,E⟩,aB⟩:=h;k_go;induction E<;>(lk;exact q _)
theorem Rq{t:Ĵ}{aj:Lm Ĵ}(h:eg S.R t aj)(q:Q (.bool false) S.st):bd (n+2) 42 [.ref 1,au t] S.st Q:=by
 k_go;lk;refine Dp h ?_;lk;refine cE.inv (λl r s=>s=S.st/\rT λ(a':Lm Ĵ) (d3 eT c1 dg:cr)=>dY (l=a'.map au) (r=[.val<|.ref 1,.val<|au t,.val<|.bool false,d3,eT,c1,dg]) (∀p∈a',p∈aj)) ?_ ?_ ⟨rfl,aj,_,_,_,_,rfl,rfl,λ_ h=>h⟩
 .rintro v l r s _ _ _ _⟨rfl,a',d3,eT,c1,dg,ag,rfl,bm⟩;induction a' using List.casesOn with
  |nil=>cases ag
  |cons p a'=>
  rw[fx,th]at ag;obtain⟨rfl,rfl⟩:=ag;obtain⟨w,ae,_⟩:=h.pt p<|bm p<|.head _;obtain⟨⟨l,G,E⟩,aB⟩:=id ae;have key:∀(a b c d e f:cr) (bT:B->St->Prop),(∀b,bT (.lst [.bool b]) S.st)->fj (.tup [au p]) [.val<|.ref 1,a,b,c,d,e,f] S.st (n+1) (.call 34 [.v 0,.v 6]) false [6] [] bT:=by intro a b c d e f bT fd;refine fj.un rfl<|eN.mk ?_;lk;exact ü ae λb=>fd b
  induction E<;>(
   lk;refine di.comp rfl<|key _ _ _ _ _ _ _ λb=>?_;lk;induction b
   .lk;exact⟨rfl,a',_,_,_,_,rfl,rfl,λp ae=>bm p<|.tail _ ae⟩
   .lk;exact q)
 .rintro r s⟨rfl,a',d3,eT,c1,dg,ag,rfl,bm⟩;lk;exact q
theorem UE{t:Ĵ}{aj:Lm Ĵ}(T:Rows S.R)(a5:eg S.R t aj)(eQ:Cl S.R aj)(ap:S.R.length+1<=a3)(q:∀aa,a_ S.R aa 1->Q (au t) (S.w aa).st):bd (n+4) 70 [.ref 10,au t] S.st Q:=by
 k_go;rcases a5.is with⟨rfl,rfl⟩|rfl|⟨a,b,e⟩
 .have E:=T.at (t:=2) rfl;lk;exact q S.R<|a_.refl T
 .obtain⟨w,⟨⟨l,G,E⟩,aB⟩,_⟩:=a5.pt t<|.head _;induction E with
  |idx a b=>have ak:a=16:=eQ t (.head _) a b G;subst ak;lk;k_go;lk;k_go;lk;refine ax.of (pX (S:=S) (t:=16)<|T.at rfl) ?_;lk;exact JP T G ap q
  |_=>lk;exact q S.R<|a_.refl T
 .lk;exact q S.R<|a_.refl T
theorem P7{t:Ĵ}{aj:Lm Ĵ}(T:Rows S.R)(a5:eg S.R t aj)(ah:aj.length<64)(ap:S.R.length+1<=a3)(q:∀dK dJ aa,a_ S.R aa 1->eg aa dK dJ->dJ=(if aj=[4]then [4]else aj.filter λp=> !decide (p=4))->Q (au dK) (S.w aa).st):bd (n+5) 44 [.ref 1,au t] S.st Q:=by
 k_go;refine bh.ef (λh=>?_) λh=>?_
 .have aR:t=4:=by omega
  subst aR;have:=a5.four T;subst this;exact q 4 [4] S.R (a_.refl T) a5 (by simp)
 .refine HP T a5 ah ap λdK aa g u=>q dK _ aa g u ?_;rw[bt];rintro rfl;rcases a5.is with⟨e,_⟩|e|⟨e,_⟩
  .cases e
  .cases e;exact h rfl
  .simp at e
theorem M5{t:Ĵ}{aj:Lm Ĵ}(T:Rows S.R)(a5:eg S.R t aj)(eQ:Cl S.R aj)(ah:aj.length<64)(ap:S.R.length+2<=a3)(q:∀dK aa,a_ S.R aa 2->eg aa dK (aj.filter λp=> !decide (p=4))->Q (au dK) (S.w aa).st):bd (n+5) 43 [.ref 10,au t] S.st Q:=by
 k_go;refine Rq a5<|UE T a5 eQ (hp ‹_›) λaa g=>bh.ef (λh=>?_) λh=>?_
 .have aR:t=4:=by omega
  subst aR;have:=a5.four T;subst this;exact q 2 aa (g.le<|aH rfl) ⟨by simp,λp ae=>by simp at ae,.inl ⟨by simp,rfl⟩⟩
 .have:=g.len;refine HP (S:=S.w aa) g.ok (a5.bf g) ah (by show aa.length+1<=a3;omega) λdK i3 dV u=>?_;exact q dK i3 (g.trans dV) u
inductive bG|txt (x:bv)|S|N
 deriving DecidableEq
inductive aO|txt (x:bv)|num (i:Int)|bA|nul|S|N|ao (k:bG)
 deriving DecidableEq
set_option genInjectivity true in
inductive aG|b (a:aO)|arr (K:List aO)
 deriving DecidableEq
structure c9(aC:Type)where
 gx:List B->Nat->aC->Prop
 il:aC->Int
 qx:aC
 lh:aC
 bA:aC
 bf:∀{R aa c p a},gx R p a->a_ R aa c->gx aa p a
 pt:∀{R p a},Rows R->gx R p a->gi R p (il a)
 fn:∀{R p q a},Rows R->gx R p a->gx R q a->p=q
 sj:∀{R p a},Rows R->gx R p a->(p=6↔a=qx)
 t4:∀{R p a},Rows R->gx R p a->(p=7↔a=lh)
 tV:∀{R p a},Rows R->gx R p a->(p=4↔a=bA)
 four:∀{R},Rows R->gx R 4 bA
 v_:il qx= -1
 vp:il lh= -1
 xU:il bA= -1
section
variable{aC:Type}(Z:c9 aC)
def c9.iI(K:Lm aC)(a:aC):Prop:=(Z.il a=6->Z.qx∉K)/\(Z.il a=7->Z.lh∉K)
structure c9.Is(R:List B)(K:List aC)(aj:List Nat):Prop where
 to:∀p∈aj,∃a∈K,Z.gx R p a/\Z.iI K a
 of:∀a∈K,Z.iI K a->∃p∈aj,Z.gx R p a
def c9.Ty(R:Lm B)(t:Ĵ)(K:Lm aC):Prop:=∃aj,eg R t aj/\Z.Is R K aj
variable{Z}{R aa:Lm B}{t:Ĵ}{K:Lm aC}{c:Ĵ}
theorem c9.Is.bf{aj:Lm Ĵ}(h:Z.Is R K aj)(g:a_ R aa c):Z.Is aa K aj:=⟨λp ae=>(h.to p ae).imp λa x=>⟨x.1,Z.bf x.2.1 g,x.2.2⟩,λa ak s=>(h.of a ak s).imp λp x=>⟨x.1,Z.bf x.2 g⟩⟩
theorem c9.Ty.bf(h:Z.Ty R t K)(g:a_ R aa c):Z.Ty aa t K:=by obtain⟨aj,u,i⟩:=h;exact⟨aj,u.bf g,i.bf g⟩
theorem c9.Jp{K eH:Lm aC}(h:∀a,a∈K↔a∈eH)(a:aC):Z.iI K a↔Z.iI eH a:=by unfold c9.iI;rw[h,h]
theorem c9.Is.congr{eH:Lm aC}{aj:Lm Ĵ}(h:∀a,a∈K↔a∈eH)(x:Z.Is R K aj):Z.Is R eH aj:=⟨λp ae=>(x.to p ae).imp λa y=>⟨(h a).mp y.1,y.2.1,(c9.Jp h a).mp y.2.2⟩,λa ak s=>x.of a ((h a).mpr ak)<|(c9.Jp h a).mpr s⟩
theorem c9.Ty.inj(T:Rows R){s t:Ĵ}(G:Z.Ty R s K)(E:Z.Ty R t K):s=t:=by
 obtain⟨aj,u,i⟩:=G;obtain⟨ca,v,j⟩:=E;have e:aj=ca:=wA u.fB v.fB λp=>by
  constructor
  .intro ae;obtain⟨a,ak,am,aM⟩:=i.to p ae;obtain⟨q,bb,he⟩:=j.of a ak aM;rwa[Z.fn T am he]
  .intro ae;obtain⟨a,ak,am,aM⟩:=j.to p ae;obtain⟨q,bb,he⟩:=i.of a ak aM;rwa[Z.fn T am he]
 subst e;exact u.inj T v
theorem c9.Is.union(T:Rows R){fJ:Lm (Lm Ĵ×Lm aC)}(h:∀u∈fJ,Z.Is R u.2 u.1){aj:Lm Ĵ}(m:∀p,p∈aj↔ru R (fJ.flatMap Prod.fst) p):Z.Is R (fJ.flatMap Prod.snd) aj:=by
 have FY:∀k:Ĵ,∀s:aC,Z.il s= -1->(∀p a,Z.gx R p a->(p=k↔a=s))->(k∈fJ.flatMap Prod.fst↔s∈fJ.flatMap Prod.snd):=by
  intro k s aM aE;rw[jF,jF];constructor
  .rintro⟨u,a5,ae⟩;obtain⟨a,ak,am,_⟩:=(h u a5).to k ae;rw[<-(aE k a am).mp rfl];exact⟨u,a5,ak⟩
  .rintro⟨u,a5,ak⟩;obtain⟨p,ae,am⟩:=(h u a5).of s ak ⟨λq=>by rw[aM]at q;omega,λq=>by rw[aM]at q;omega⟩;rw[<-(aE p s am).mpr rfl];exact⟨u,a5,ae⟩
 have dv:=FY 6 Z.qx Z.v_ λp a am=>Z.sj T am;have ds:=FY 7 Z.lh Z.vp λp a am=>Z.t4 T am;have key:∀p a,Z.gx R p a->((∀q∈fJ.flatMap Prod.fst,(q:ĵ)≠rZ R p)↔Z.iI (fJ.flatMap Prod.snd) a):=by
  intro p a am;have ae:=Z.pt T am;rw[ae.w];constructor
  .intro x;exact⟨λe aM=>x 6 (dv.mpr aM) (by rw[e];rfl),λe aM=>x 7 (ds.mpr aM)<|by rw[e];rfl⟩
  .rintro⟨dg,cW⟩q bb e;obtain⟨⟨l,_,ah⟩,_⟩:=ae;generalize bF:Z.il a=w at*;induction ah
   .exact dg rfl (dv.mp<|by rw[<-show q=6 by omega];exact bb)
   .exact cW rfl (ds.mp<|by rw[<-show q=7 by omega];exact bb)
   all_goals omega
 constructor
 .intro p ae;obtain⟨ct,aE⟩:=(m p).mp ae;obtain⟨u,a5,MP⟩:=jF.mp ct;clear ct;obtain⟨a,ak,am,_⟩:=(h u a5).to p MP;exact⟨a,jF.mpr ⟨u,a5,ak⟩,am,(key p a am).mp aE⟩
 .intro a ak aM;obtain⟨u,a5,UZ⟩:=jF.mp ak;clear ak;obtain⟨p,ae,am⟩:=(h u a5).of a UZ (⟨λe q=>aM.1 e<|jF.mpr ⟨u,a5,q⟩,λe q=>aM.2 e<|jF.mpr ⟨u,a5,q⟩⟩:Z.iI u.2 a);exact⟨p,(m p).mpr ⟨jF.mpr ⟨u,a5,ae⟩,(key p a am).mpr aM⟩,am⟩
theorem c9.Is.bA(T:Rows R){aj dJ:Lm Ĵ}(h:Z.Is R K aj)(m:∀p,p∈dJ↔p∈aj\/p=4):Z.Is R (K++[Z.bA]) dJ:=by
 have st:∀a,Z.iI (K++[Z.bA]) a↔Z.iI K a:=by
  intro a;have d2:Z.qx≠Z.bA:=λe=>by have:=(Z.sj T<|Z.four T).mpr e.symm;omega
  have fp:Z.lh≠Z.bA:=λe=>by have:=(Z.t4 T<|Z.four T).mpr e.symm;omega
  unfold c9.iI;simp[d2,fp]
 constructor
 .intro p ae;rcases(m p).mp ae with ae|rfl
  .obtain⟨a,ak,am,aM⟩:=h.to p ae;exact⟨a,kQ _ ak,am,(st a).mpr aM⟩
  .exact⟨Z.bA,by simp,Z.four T,(st _).mpr ⟨λe=>by rw[Z.xU]at e;omega,λe=>by rw[Z.xU]at e;omega⟩⟩
 .intro a ak aM;rcases gm.mp ak with ak|ak
  .obtain⟨p,ae,am⟩:=h.of a ak<|(st a).mp aM;exact⟨p,(m p).mpr<|.inl ae,am⟩
  .rw[cV]at ak;subst ak;exact⟨4,(m 4).mpr<|.inr rfl,Z.four T⟩
theorem c9.Is.less[DecidableEq aC](T:Rows R){aj:Lm Ĵ}(h:Z.Is R K aj):Z.Is R (K.filter λa=> !decide (a=Z.bA)) (aj.filter λp=> !decide (p=4)):=by
 have st:∀a,Z.iI (K.filter λa=> !decide (a=Z.bA)) a↔Z.iI K a:=by
  intro a;have d2:Z.qx≠Z.bA:=λe=>by have:=(Z.sj T<|Z.four T).mpr e.symm;omega
  have fp:Z.lh≠Z.bA:=λe=>by have:=(Z.t4 T<|Z.four T).mpr e.symm;omega
  unfold c9.iI;simp[gz,d2,fp]
 constructor
 .intro p ae;obtain⟨ae,ba⟩:=gz.mp ae;obtain⟨a,ak,am,aM⟩:=h.to p ae;refine⟨a,gz.mpr ⟨ak,?_⟩,am,(st a).mpr aM⟩;simp only[j2,ny]at ba⊢;exact λe=>ba<|(Z.tV T am).mpr e
 .intro a ak aM;obtain⟨ak,ba⟩:=gz.mp ak;obtain⟨p,ae,am⟩:=h.of a ak<|(st a).mp aM;refine⟨p,gz.mpr ⟨ae,?_⟩,am⟩;simp only[j2,ny]at ba⊢;exact λe=>ba<|(Z.tV T am).mp e
end
def m' (v:B):Ĵ:=match v with|.tup l=>(match l with|x::_=>(match x with|.int i=>i.toNat|_=>0)|[]=>0)|_=>0
theorem r_{R:Lm B}(T:Rows R){p:Ĵ}{v:B}(h:R[p]?=some v)(af:Nat.ble 3 (m' v)=true):p≠2/\p≠0/\p≠1/\p≠13/\p≠8/\p≠9/\p≠14/\p≠15:=by
 have key:∀t sx,hm[t]?=some sx->Nat.ble 3 (m' sx)=false->p≠t:=λt sx e n q=>by have e:=T.at e;rw[<-q,h]at e;rw[<-cY e,af]at n;exact hK n
 exact⟨key 2 _ rfl rfl,key 0 _ rfl rfl,key 1 _ rfl rfl,key 13 _ rfl rfl,key 8 _ rfl rfl,key 9 _ rfl rfl,key 14 _ rfl rfl,key 15 _ rfl rfl⟩
noncomputable abbrev tB (x:bv):B:=.tup [.int 3,.str x,.int 0]
noncomputable abbrev DP (i:ĵ):B:=.tup [.int 4,.int i,.int 0]
noncomputable abbrev pc (a b:ĵ):B:=.tup [.int 15,.int a,.int b]
noncomputable abbrev hV (e:Ĵ) (aV:ĵ):B:=.tup [.int 11,au e,.int aV]
def gK(R:Lm B)(s:Ĵ):bG->Prop
 |.txt x=>R[s]?=some (tB x)
 |.S=>s=6
 |.N=>s=7
def eR(R:Lm B)(p:Ĵ):aO->Prop
 |.txt x=>R[p]?=some (tB x)
 |.num i=>R[p]?=some (DP i)
 |.bA=>p=4
 |.nul=>p=5
 |.S=>p=6
 |.N=>p=7
 |.ao k=>∃s,gK R s k/\R[p]?=some (pc 16 s)
def aO.il:aO->ĵ
 |.txt _=>6
 |.num _=>7
 |_=> -1
theorem gK.bf{R aa:Lm B}{c s:Ĵ}{k:bG}(h:gK R s k)(g:a_ R aa c):gK aa s k:=by induction k<;>first|exact g.at h|exact h
theorem gK.fn{R:Lm B}(T:Rows R){s t:Ĵ}{k:bG}(h:gK R s k)(aR:gK R t k):s=t:=by
 induction k
 .exact T.inj h aR
 .exact h.trans aR.symm
 .exact h.trans aR.symm
theorem o6{R:Lm B}(T:Rows R){p t:Ĵ}{v w:B}(h:R[p]?=some v)(aF:hm[t]?=some w)(ne:v≠w):p≠t:=by rintro rfl;have:=T.at aF;rw[h]at this;cases this;exact ne rfl
theorem eR.pt{R:Lm B}(T:Rows R){p:Ĵ}{a:aO}(h:eR R p a):gi R p a.il:=by
 induction a with
 |txt x=>exact⟨⟨_,h,.txt x⟩,r_ T h rfl⟩
 |num i=>exact⟨⟨_,h,.num i⟩,r_ T h rfl⟩
 |ao k=>obtain⟨s,_,h⟩:=h;exact⟨⟨_,h,.idx _ _⟩,r_ T h rfl⟩
 |bA=>exact gi.key T<|.inl h
 |nul=>exact gi.key T<|.inr<|.inl h
 |S=>exact gi.key T<|.inr<|.inr<|.inl h
 |N=>exact gi.key T<|.inr<|.inr<|.inr h
def sU:aO->Ĵ|.bA=>4|.nul=>5|.S=>6|.N=>7|_=>0
def wK (k:Ĵ):aO:=if k=4 then .bA else if k=5 then .nul else if k=6 then .S else .N
theorem w9{R:Lm B}(T:Rows R){p:Ĵ}{v:B}(h:R[p]?=some v)(n:Nat.ble 3 (m' v)=true):p≠4/\p≠6/\p≠7:=by
 have af:∀x,v≠.tup [.int 1,.str x]:=by rintro x rfl;exact cq n
 exact⟨o6 T h rfl<|af _,o6 T h rfl<|af _,o6 T h rfl<|af _⟩
theorem eR.sU{R:Lm B}(T:Rows R){p:Ĵ}{a:aO}(h:eR R p a):(Up.sU a=p/\wK p=a)\/(Up.sU a=0/\p≠4/\p≠6/\p≠7):=by
 induction a with
 |txt x=>exact .inr ⟨rfl,w9 T h rfl⟩
 |num i=>exact .inr ⟨rfl,w9 T h rfl⟩
 |ao k=>obtain⟨_,_,h⟩:=h;exact .inr ⟨rfl,w9 T h rfl⟩
 |bA=>obtain rfl:p=4:=h;exact .inl ⟨rfl,rfl⟩
 |nul=>obtain rfl:p=5:=h;exact .inl ⟨rfl,rfl⟩
 |S=>obtain rfl:p=6:=h;exact .inl ⟨rfl,rfl⟩
 |N=>obtain rfl:p=7:=h;exact .inl ⟨rfl,rfl⟩
theorem Bd{p k:Ĵ}{cX:Prop}(aE:k=4\/k=6\/k=7)(e:p=k)(n:p≠4/\p≠6/\p≠7):cX:=aE.elim (λq=>absurd (e.trans q) n.1) λaE=>aE.elim (λq=>absurd (e.trans q) n.2.1) λq=>absurd (e.trans q) n.2.2
theorem eR.num{R:Lm B}(T:Rows R){p k:Ĵ}{a:aO}(aE:k=4\/k=6\/k=7)(h:eR R p a):p=k↔a=wK k:=by
 have w0:Up.sU (wK k)=k:=by rcases aE with e|e|e<;>rw[e]<;>rfl
 rcases h.sU T with⟨ag,a8⟩|⟨ag,n⟩
 .exact⟨λe=>a8.symm.trans<|bX wK e,λe=>ag.symm.trans<|(bX Up.sU e).trans w0⟩
 .exact⟨λe=>Bd aE e n,λe=>by rw[e,w0]at ag;exact Bd aE ag.symm<|by decide⟩
def h4:c9 aO where
 gx:=eR
 il:=aO.il
 qx:=.S
 lh:=.N
 bA:=.bA
 bf:=λ{R aa c p a} h g=>by induction a<;>first|exact g.at h|exact h|(obtain⟨s,G,E⟩:=h;exact⟨s,G.bf g,g.at E⟩)
 pt:=λT h=>eR.pt T h
 fn:=λ{R p q a} T h aR=>by
  induction a with
  |txt x=>exact T.inj h aR
  |num x=>exact T.inj h aR
  |ao k=>obtain⟨s,G,E⟩:=h;obtain⟨t,aB,ba⟩:=aR;have:=G.fn T aB;subst this;exact T.inj E ba
  |_=>exact Eq.trans h<|Eq.symm aR
 sj:=λT h=>eR.num T (.inr<|.inl rfl) h
 t4:=λT h=>eR.num T (.inr<|.inr rfl) h
 tV:=λT h=>eR.num T (.inl rfl) h
 four:=λ_=>rfl
 v_:=rfl
 vp:=rfl
 xU:=rfl
def mY(R:Lm B)(p:Ĵ):aG->Prop
 |.b a=>eR R p a
 |.arr K=>∃e,R[p]?=some (hV e 0)/\h4.Ty R e K
def aG.il:aG->ĵ
 |.b a=>a.il
 |.arr _=> -1
theorem mY.num{R:Lm B}(T:Rows R){p k:Ĵ}{a:aG}(aE:k=4\/k=6\/k=7)(h:mY R p a):p=k↔a=.b (wK k):=by
 induction a with
 |b a=>exact(eR.num T aE h).trans ⟨bX _,λe=>by cases e;rfl⟩
 |arr K=>obtain⟨e,h,_⟩:=h;exact⟨λe=>Bd aE e<|w9 T h rfl,λe=>by cases e⟩
def d4:c9 aG where
 gx:=mY
 il:=aG.il
 qx:=.b .S
 lh:=.b .N
 bA:=.b .bA
 bf:=λ{R aa c p a} h g=>by
  induction a with
  |b a=>exact h4.bf (a:=a) (show h4.gx R p a from h) g
  |arr K=>obtain⟨e,G,E⟩:=h;exact⟨e,g.at G,E.bf g⟩
 pt:=λ{R p a} T h=>by
  induction a with
  |b a=>exact eR.pt T h
  |arr K=>obtain⟨e,h,_⟩:=h;exact⟨⟨_,h,.arr _ _⟩,r_ T h rfl⟩
 fn:=λ{R p q a} T h aR=>by
  induction a with
  |b a=>exact h4.fn (a:=a) T (show h4.gx R p a from h) aR
  |arr K=>obtain⟨e,G,E⟩:=h;obtain⟨f,aB,ba⟩:=aR;have:=E.inj T ba;subst this;exact T.inj G aB
 sj:=λT h=>mY.num T (.inr<|.inl rfl) h
 t4:=λT h=>mY.num T (.inr<|.inr rfl) h
 tV:=λT h=>mY.num T (.inl rfl) h
 four:=λ_=>rfl
 v_:=rfl
 vp:=rfl
 xU:=rfl
def bG.aW:bG->B
 |.txt x=>.tup [.str [116],.str x]
 |.S=>.tup [.str [119],.str [83]]
 |.N=>.tup [.str [119],.str [78]]
def aO.aW:aO->B
 |.txt x=>.tup [.str [116],.str x]
 |.num i=>.tup [.str [35],.int i]
 |.bA=>.tup [.str [119],.str [117]]
 |.nul=>.tup [.str [119],.str [110]]
 |.S=>.tup [.str [119],.str [83]]
 |.N=>.tup [.str [119],.str [78]]
 |.ao k=>.tup [.str [84],k.aW]
def aG.aW:aG->B
 |.b a=>a.aW
 |.arr K=>.tup [.str [91],.tup<|K.map aO.aW]
section
variable{aC:Type}{Z:c9 aC}{R:Lm B}
theorem c9.O4(a:aC):Z.iI [a] a:=⟨λe h=>by rw[cV]at h;rw[<-h,Z.v_]at e;omega,λe h=>by rw[cV]at h;rw[<-h,Z.vp]at e;omega⟩
theorem c9.F1(T:Rows R){p:Ĵ}{a:aC}(h:Z.gx R p a):eg R p [p]:=by
 refine⟨by simp,λq bb=>?_,.inr<|.inl rfl⟩;rw[cV]at bb;subst bb;refine⟨_,Z.pt T h,λz hz=>?_⟩;rw[cV]at hz;subst hz;intro e;have ae:=Z.pt T h;obtain⟨⟨l,_,ah⟩,_⟩:=id ae;clear ae;generalize bF:Z.il a=w at*;induction ah
 .have:=(Z.sj T h).mp (by omega);subst this;rw[Z.v_]at bF;omega
 .have:=(Z.t4 T h).mp (by omega);subst this;rw[Z.vp]at bF;omega
 all_goals omega
theorem c9.CD(T:Rows R){p:Ĵ}{a:aC}(h:Z.gx R p a):Z.Is R [a] [p]:=⟨λq bb=>⟨a,.head _,by rw[cV]at bb;rw[bb];exact h,c9.O4 a⟩,λb av _=>⟨p,.head _,by rw[cV]at av;rw[av];exact h⟩⟩
end
inductive b_ {aC cC:Type} (P:aC->cC->Prop):List aC->List cC->Prop
 |nil:b_ P [] []
 |cons {a b l m}:P a b->b_ P l m->b_ P (a::l) (b::m)
theorem b_.snoc{aC cC:Type}{P:aC->cC->Prop}{a:aC}{b:cC}(h:P a b){l:Lm aC}{m:Lm cC}(x:b_ P l m):b_ P (l++[a]) (m++[b]):=b_.rec (motive:=λl m _=>b_ P (l++[a])<|m++[b]) (.cons h .nil) (λx _ ar=>.cons x ar) x
theorem b_.imp{aC cC:Type}{P se:aC->cC->Prop}(h:∀a b,P a b->se a b){l:Lm aC}{m:Lm cC}(x:b_ P l m):b_ se l m:=b_.rec (motive:=λl m _=>b_ se l m) .nil (λx _ ar=>.cons (h _ _ x) ar) x
theorem b_.len{aC cC:Type}{P:aC->cC->Prop}{l:Lm aC}{m:Lm cC}(x:b_ P l m):l.length=m.length:=b_.rec (motive:=λ(l:Lm aC) (m:Lm cC) (_:b_ P l m)=>l.length=m.length) rfl (λ_ _ ar=>bX Nat.succ ar) x
section
variable{aC:Type}{Z:c9 aC}{n:Ĵ}{S:dz}{s:St}{Q:B->St->Prop}
theorem IZ{R:Lm B}(T:Rows R):∀{aj:Lm Ĵ} {K:Lm aC},b_ (λp a=>Z.gx R p a) aj K->∃fJ:Lm (Lm Ĵ×Lm aC),(∀u∈fJ,Z.Is R u.2 u.1)/\fJ.flatMap Prod.fst=aj/\fJ.flatMap Prod.snd=K
 |_,_,.nil=>⟨[],by simp,rfl,rfl⟩
 |_,_,.cons (a:=p) (b:=a) h r=>by
  obtain⟨fJ,G,E,aB⟩:=IZ T r;refine⟨([p],[a])::fJ,λu a5=>?_,by simp[E],by simp[aB]⟩;rcases eJ.mp a5 with rfl|a5
  .exact c9.CD T h
  .exact G u a5
theorem G9{aW:aC->B}{hy arg:B}{g m:Ĵ}{K:Lm aC}(T:Rows S.R)(ah:K.length<=m)(aN:Nat.ble m 63=true)(ap:S.R.length+(g*m+1)<=a3)(aA:items arg=some (K.map aW))(m1:∀a∈K,∀(cm:dz) (bT:B->St->Prop),Rows cm.R->cm.R.length+g<=a3->(∀p aa,a_ cm.R aa g->Z.gx aa p a->bT (au p) (cm.w aa).st)->bd (n+4) 76 [.ref 1,hy,aW a] cm.st bT)(q:∀t aa,a_ S.R aa (g*m+1)->Z.Ty aa t K->Q (au t) (S.w aa).st):bd (n+5) 75 [.ref 1,hy,arg] S.st Q:=by
 have d5:=da<|hc g ah;k_go;refine di.comp rfl<|fj.mp aA (λdone K=>∀aa aj,a_ S.R aa (g*done.length)->b_ (λp a=>Z.gx aa p a) aj done->K (aj.map au) (S.w aa).st) (λdone a a' a8 K ab aa aj bf al=>?_) (λaa aj bf al=>?_) λK ab=>ab S.R [] (a_.refl T) .nil
 .refine eN.mk ?_;lk;refine m1 a (by rw[a8];simp) (S.w aa) _ bf.ok (bf.room ap<|iL<|r3 g a8 ah) λp bu bj QL=>?_;have:=ab bu (aj++[p]) (bf.step bj<|dy _)<|(al.imp λp b h=>Z.bf h bj).snoc QL;rwa[c4]at this
 .obtain⟨fJ,G,E,aB⟩:=IZ bf.ok al;have a7:(aj.map λp=>(p,[p])).flatMap Prod.snd=aj:=by rw[BH];simp
  have kA:∀{l:Lm Ĵ} {m:Lm aC},b_ (λp a=>Z.gx aa p a) l m->∀p∈l,∃a,Z.gx aa p a:=by
   intro l m x;induction x with
   |nil=>intro p ae;cases ae
   |cons x _ ar=>
    intro p ae;rcases eJ.mp ae with rfl|ae
    .exact⟨_,x⟩
    .exact ar p ae
  refine uu (S:=S.w aa) (aU:=aj.map λp=>(p,[p])) bf.ok (by show some _=_;rw[f8];rfl) (λu a5=>?_) (by rw[a7,al.len];exact zM<|aJ ah<|aH aN) (bf.room ap d5) λt dJ bu bj u m=>?_
  .obtain⟨p,ae,rfl⟩:=dn.mp a5;clear a5;obtain⟨a,h⟩:=kA al p ae;exact c9.F1 bf.ok h
  .rw[a7]at m;exact q t bu ((bf.trans bj).le d5) ⟨dJ,u,aB▸(c9.Is.union (Z:=Z) bf.ok G (aj:=dJ)<|by rw[E];exact m).bf bj⟩
theorem Wk{k:bG}{hy:B}(T:Rows S.R)(ap:S.R.length+1<=a3)(q:∀p aa,a_ S.R aa 1->gK aa p k->Q (au p) (S.w aa).st):bd (n+2) 76 [.ref 1,hy,k.aW] S.st Q:=by
 k_go;induction k with
 |txt x=>exact e4 T rfl ap λt aa g e=>q t aa g e
 |S=>exact q 6 S.R (a_.refl T) rfl
 |N=>exact q 7 S.R (a_.refl T) rfl
theorem Hg{a:aO}{hy:B}(T:Rows S.R)(ap:S.R.length+2<=a3)(tc:∀k,a=.ao k->hy=.int 16)(q:∀p aa,a_ S.R aa 2->eR aa p a->Q (au p) (S.w aa).st):bd (n+3) 76 [.ref 1,hy,a.aW] S.st Q:=by
 k_go;induction a with
 |txt x=>exact e4 T rfl (hp ‹_›) λt aa g e=>q t aa (g.le<|aH rfl) e
 |num x=>exact e4 T rfl (hp ‹_›) λt aa g e=>q t aa (g.le<|aH rfl) e
 |bA=>exact q 4 S.R (a_.refl T) rfl
 |nul=>exact q 5 S.R (a_.refl T) rfl
 |S=>exact q 6 S.R (a_.refl T) rfl
 |N=>exact q 7 S.R (a_.refl T) rfl
 |ao k=>obtain rfl:=tc k rfl;exact Wk T (hp ‹_›) λp aa g aE=>e4 (S:=S.w aa) g.ok rfl (g.room ap<|aH rfl) λt bu dV e=>q t bu (g.trans dV) ⟨p,aE.bf dV,e⟩
theorem s8{K:Lm aO}{hy arg:B}{m:Ĵ}(T:Rows S.R)(ah:K.length<=m)(aN:Nat.ble m 63=true)(ap:S.R.length+(2*m+1)<=a3)(aA:items arg=some (K.map aO.aW))(tc:∀k,aO.ao k∈K->hy=.int 16)(q:∀t aa,a_ S.R aa (2*m+1)->h4.Ty aa t K->Q (au t) (S.w aa).st):bd (n+5) 75 [.ref 1,hy,arg] S.st Q:=G9 (Z:=h4) T ah aN ap aA (λa ak cm bT tx eL fd=>Hg tx eL (λk e=>tc k<|e▸ak) λp aa g h=>fd p aa g h) q
def aG.fits:aG->Prop
 |.b _=>True
 |.arr K=>K.length<=12
theorem OT{a:aG}{hy:B}(T:Rows S.R)(ap:S.R.length+26<=a3)(a7:a.fits)(tc:hy=.int 16\/∃b,a=.b b/\∀k,b≠.ao k)(q:∀p aa,a_ S.R aa 26->mY aa p a->Q (au p) (S.w aa).st):bd (n+6) 76 [.ref 1,hy,a.aW] S.st Q:=by
 induction a with
 |b a=>
  refine Hg T (hp ‹_›) (λk e=>?_) λp aa g h=>q p aa (g.le<|aH rfl) h;rcases tc with h|⟨b,ag,a8⟩
  .exact h
  .cases ag;exact absurd e<|a8 k
 |arr K=>
  obtain rfl:hy=.int 16:=by
   rcases tc with h|⟨b,ag,_⟩
   .exact h
   .cases ag
  k_go;show bw _ _ [_,_,.val<|.tup [.str [91],.tup<|K.map aO.aW],_,_] _ _;exact s8 T a7 rfl (hp ‹_›) rfl (λ_ _=>rfl) λt aa g h=>e4 (S:=S.w aa) g.ok rfl (g.room ap<|aH rfl) λp bu dV e=>q p bu (g.trans dV) ⟨t,e,h.bf dV⟩
theorem x2{K:Lm aG}{arg:B}{m:Ĵ}(T:Rows S.R)(ah:K.length<=m)(aN:Nat.ble m 63=true)(ap:S.R.length+(26*m+1)<=a3)(aA:items arg=some (K.map aG.aW))(a7:∀a∈K,a.fits)(q:∀t aa,a_ S.R aa (26*m+1)->d4.Ty aa t K->Q (au t) (S.w aa).st):bd (n+7) 75 [.ref 1,.int 16,arg] S.st Q:=G9 (Z:=d4) T ah aN ap aA (λa ak cm bT tx eL fd=>OT tx eL (a7 a ak) (.inl rfl) λp aa g h=>fd p aa g h) q
end
noncomputable abbrev mp (k:Ĵ):B:=.a9 [(.int 1,au k)]
inductive tO:List B->Prop
 |txt (x:bv):tO [.int 3,.str x,.int 0]
 |num (i:Int):tO [.int 4,.int i,.int 0]
 |key (x:bv):tO [.int 1,.str x]
def AQ(R:Lm B)(aj:Lm Ĵ):Prop:=∀p∈aj,∃l,R[p]?=some (.tup l)/\tO l
theorem x0{p:Ĵ}{l:Lm B}(h:S.R[p]?=some (.tup l))(ah:tO l)(q:Q (au p) S.st):bd (n+2) 66 [.ref 10,au p,mp k] S.st Q:=by k_go;induction ah<;>(lk;k_go;lk;exact q)
theorem As{aj:Lm Ĵ}(h:AQ S.R aj)(q:Q (.tup<|aj.map au) S.st):bd (n+3) 62 [.ref 10,.tup<|aj.map au,mp k] S.st Q:=by
 k_go;refine di.comp rfl<|pi (f:=λv=>[v]) rfl ?_ ?_
 .intro v af bT bb;obtain⟨p,ae,rfl⟩:=dn.mp af;clear af;obtain⟨l,G,E⟩:=h p ae;exact eN.mk<|x0 G E bb
 .rw[show(aj.map au).flatMap (λv=>[v])=aj.map au by simp];exact q
theorem VS{t:Ĵ}{aj:Lm Ĵ}(T:Rows S.R)(a5:eg S.R t aj)(h:AQ S.R aj)(ah:aj.length<64)(ap:S.R.length+1<=a3)(q:∀aa,a_ S.R aa 1->Q (au t) (S.w aa).st):bd (n+4) 66 [.ref 10,au t,mp k] S.st Q:=by
 rcases a5.is with⟨_,rfl⟩|rfl|⟨a,b,e⟩
 .exact x0 (T.at rfl) (.key _)<|q S.R<|a_.refl T
 .obtain⟨l,G,E⟩:=h t<|.head _;exact x0 G E<|q S.R<|a_.refl T
 .k_go;lk;refine As h ?_;have a7:(aj.map λp=>(p,[p])).flatMap Prod.snd=aj:=by rw[BH];simp
  refine uu (aU:=aj.map λp=>(p,[p])) T (by show some _=_;rw[f8];rfl) (λu aN=>?_) (by rw[a7];exact ah) ap λdK dJ aa g u m=>?_
  .obtain⟨p,ae,rfl⟩:=dn.mp aN;clear aN;exact a5.one ae
  .rw[a7]at m;have bx:dJ=aj:=wA u.fB a5.fB λp=>by rw[m p];exact J1 a5 (λ_ h=>h) p
   subst bx;rw[u.inj g.ok<|a5.bf g];exact q aa g
theorem Bj(T:Rows S.R)(q:Q (au k) S.st):bd (n+1) 66 [.ref 10,.int 17,mp k] S.st Q:=by k_go;exact ax.of (pX (S:=S) (t:=17)<|T.at rfl) q
theorem OV(T:Rows S.R)(q:Q (.int 16) S.st):bd (n+1) 66 [.ref 10,.int 16,mp k] S.st Q:=by k_go;exact ax.of (pX (S:=S) (t:=16)<|T.at rfl) q
theorem Uk{x:Ĵ}{key:bG}(T:Rows S.R)(h:S.R[x]?=some (pc 16 17))(aE:gK S.R k key)(ap:S.R.length+1<=a3)(q:∀p aa,a_ S.R aa 1->eR aa p (.ao key)->Q (au p) (S.w aa).st):bd (n+7) 66 [.ref 10,au x,mp k] S.st Q:=by k_go;lk;k_go;k_go;refine di.comp rfl<|fj.un rfl<|eN.mk<|OV T ?_;lk;refine Bj T ?_;lk;k_go;k_go;k_go;exact ax.of (pX (S:=S) (t:=16)<|T.at rfl)<|e4 T rfl ap λp aa g e=>q p aa g ⟨k,aE.bf g,e⟩
noncomputable abbrev vJ (ia iu aU:Ĵ):B:=.tup [.int 8,.tup [.tup [.str [48],au ia,.int 0,.int 0],.tup [.str [97],au iu,.int 0,.int 0]],.tup [],.tup [],.tup [au aU,.int 0],.tup [],.int 0]
def yc(K:Lm aO):Prop:=∀k,aO.ao k∉K
theorem eR.TF{R:Lm B}(T:Rows R){p:Ĵ}{a:aO}(h:eR R p a)(ak:∀k,a≠.ao k):∃l,R[p]?=some (.tup l)/\tO l:=by
 induction a with
 |txt x=>exact⟨_,h,.txt x⟩
 |num i=>exact⟨_,h,.num i⟩
 |bA=>rcases(show p=4 from h)with rfl;exact⟨_,T.at rfl,.key _⟩
 |nul=>rcases(show p=5 from h)with rfl;exact⟨_,T.at rfl,.key _⟩
 |S=>rcases(show p=6 from h)with rfl;exact⟨_,T.at rfl,.key _⟩
 |N=>rcases(show p=7 from h)with rfl;exact⟨_,T.at rfl,.key _⟩
 |ao k=>exact absurd rfl<|ak k
structure iY(R:List B)(t:Nat)(K:List aO):Prop where
 ty:h4.Ty R t K
 no:yc K
 len:K.length<=12
theorem iY.bf{R aa:Lm B}{t c:Ĵ}{K:Lm aO}(h:iY R t K)(g:a_ R aa c):iY aa t K:=⟨h.ty.bf g,h.no,h.len⟩
theorem c9.Is.len{aC:Type}{Z:c9 aC}{R:Lm B}(T:Rows R):∀{aj:Lm Ĵ} {K:Lm aC},aj.Pairwise (· <·)->(∀p∈aj,∃a∈K,Z.gx R p a)->aj.length<=K.length:=by
 intro aj K aM h;have:∀(K:Lm aC) (aj:Lm Ĵ),aj.Nodup->(∀p∈aj,∃a∈K,Z.gx R p a)->aj.length<=K.length:=by
  intro K;induction K with
  |nil=>intro aj _ h;induction aj with|nil=>simp|cons p r=>obtain⟨a,ak,_⟩:=h p<|.head _;cases ak
  |cons a K ar=>
   intro aj b6 h;by_cases c:∃p∈aj,Z.gx R p a
   .obtain⟨p,ae,am⟩:=c;have:=ar (aj.erase p) (b6.erase p) λq bb=>by
     have vV:=(b6.mem_erase_iff).mp bb;obtain⟨b,av,wf⟩:=h q vV.2;rcases eJ.mp av with rfl|av
     .exact absurd (Z.fn T wf am) vV.1
     .exact⟨b,av,wf⟩
    rw[Kz ae]at this;exact Lp this
   .have:=ar aj b6 λq bb=>by
     obtain⟨b,av,wf⟩:=h q bb;rcases eJ.mp av with rfl|av
     .exact absurd ⟨q,bb,wf⟩ c
     .exact⟨b,av,wf⟩
    simp only[mE];exact iL ‹_›
 exact this K aj (aM.imp λh=>gG h) h
theorem iY.un{R:Lm B}(T:Rows R){t:Ĵ}{K:Lm aO}(h:iY R t K):∃aj,eg R t aj/\AQ R aj/\aj.length<64:=by
 obtain⟨⟨aj,u,i⟩,no,l⟩:=h;refine⟨aj,u,λp ae=>?_,?_⟩
 .obtain⟨a,ak,am,_⟩:=i.to p ae;exact eR.TF T am λk e=>no k<|e▸ak
 .have:=c9.Is.len T u.fB λp ae=>(i.to p ae).imp λa x=>⟨x.1,x.2.1⟩;omega
theorem xW{t:Ĵ}{K:Lm aO}(T:Rows S.R)(h:iY S.R t K)(ap:S.R.length+1<=a3)(q:∀aa,a_ S.R aa 1->Q (au t) (S.w aa).st):bd (n+4) 66 [.ref 10,au t,mp k] S.st Q:=by obtain⟨aj,u,è,l⟩:=h.un T;exact VS T u è l ap q
theorem N3{aX ia iu aU:Ĵ}{ep e3 el:Lm aO}(T:Rows S.R)(dW:S.R[aX]?=some (vJ ia iu aU))(aF:iY S.R ia ep)(ak:iY S.R iu e3)(aM:iY S.R aU el)(ap:S.R.length+4<=a3)(q:∀aa,a_ S.R aa 4->Q (au aX) (S.w aa).st):bd (n+7) 66 [.ref 10,au aX,mp k] S.st Q:=by k_go;lk;k_go;lk;refine di.m8 rfl ?_;lk;refine xW T aF (hp ‹_›) λgs c5=>?_;lk;refine xW (S:=S.w gs) c5.ok (ak.bf c5) (c5.room ap<|aH rfl) λbu bj=>?_;replace bj:=c5.trans bj;lk;refine As (S:=S.w bu) (aj:=[]) (λp ae=>by cases ae) ?_;lk;refine As (S:=S.w bu) (aj:=[]) (λp ae=>by cases ae) ?_;lk;k_go;lk;refine xW (S:=S.w bu) bj.ok (aM.bf bj) (bj.room ap<|aH rfl) λdX cK=>?_;replace cK:=bj.trans cK;lk;k_go;lk;exact JP (S:=S.w dX) cK.ok (cK.at dW) (cK.room ap<|aH rfl) λrY hU=>q rY<|cK.trans hU
def jy {aC:Type} (ep e3 el:aC):bG->aC
 |.txt x=>if [48]=x then ep else if [97]=x then e3 else el
 |_=>el
theorem DZ{key:bG}(T:Rows S.R)(aE:gK S.R k key)(q:Q (match key with|.txt x=>.str x|_=>.none) S.st):bd (n+2) 36 [.ref 1,au k] S.st Q:=by
 k_go;induction key with
 |txt x=>have h:S.R[k]?=some (tB x):=aE;lk;k_go;lk;exact q
 |S=>obtain rfl:k=6:=aE;have h:=T.at (t:=6) rfl;lk;exact q
 |N=>obtain rfl:k=7:=aE;have h:=T.at (t:=7) rfl;lk;exact q
theorem RO{aX ia iu aU:Ĵ}{key:bG}(T:Rows S.R)(dW:S.R[aX]?=some (vJ ia iu aU))(aE:gK S.R k key)(q:Q (au<|jy ia iu aU key) S.st):bd (n+4) 68 [.ref 10,pc aX k] S.st Q:=by
 k_go;k_go;lk;have ě:aX≠0:=o6 T dW rfl (λe=>by cases e);refine bh.ft (by omega)<|DZ T aE ?_;k_go;induction key with
 |txt x=>
  lk;by_cases aF:[48]=x
  .refine bh.pW aF ?_;rw[show jy ia iu aU (.txt x)=ia by simp[jy,aF]]at q;k_go;lk;exact q
  .refine bh.ft aF ?_;lk;by_cases ak:[97]=x
   .refine bh.pW ak ?_;rw[show jy ia iu aU (.txt x)=iu by simp[jy,aF,ak]]at q;k_go;lk;exact q
   .refine bh.ft ak ?_;rw[show jy ia iu aU (.txt x)=aU by simp[jy,aF,ak]]at q;lk;refine bh.ef (λfp=>?_) λfp=>?_
    .exact q
    .exact bh.ft fp q
 |S=>obtain rfl:k=6:=aE;lk;exact q
 |N=>obtain rfl:k=7:=aE;lk;exact q
theorem VM{x aX ia iu aU:Ĵ}{ep e3 el:Lm aO}{key:bG}(T:Rows S.R)(ay:S.R[x]?=some (pc aX 17))(dW:S.R[aX]?=some (vJ ia iu aU))(aF:iY S.R ia ep)(ak:iY S.R iu e3)(aM:iY S.R aU el)(aE:gK S.R k key)(ap:S.R.length+4<=a3)(q:∀aa,a_ S.R aa 4->Q (au<|jy ia iu aU key) (S.w aa).st):bd (n+10) 66 [.ref 10,au x,mp k] S.st Q:=by k_go;lk;k_go;k_go;refine di.comp rfl<|fj.un rfl<|eN.mk<|N3 T dW aF ak aM ‹_› λaa g=>?_;lk;refine Bj (S:=S.w aa) g.ok ?_;lk;k_go;exact RO (S:=S.w aa) g.ok (g.at dW) (aE.bf g)<|q aa g
def bG.sN:bG->aO
 |.txt x=>.txt x
 |.S=>.S
 |.N=>.N
theorem gK.sN{R:Lm B}{k:Ĵ}{key:bG}(h:gK R k key):eR R k key.sN:=by induction key<;>exact h
theorem c9.Ty.one{aC:Type}{Z:c9 aC}{R:Lm B}(T:Rows R){p:Ĵ}{a:aC}(h:Z.gx R p a):Z.Ty R p [a]:=⟨[p],c9.F1 T h,c9.CD T h⟩
theorem Vq{R:Lm B}{t:Ĵ}{K:Lm aO}(h:h4.Ty R t K):d4.Ty R t (K.map .b):=by
 obtain⟨aj,u,i⟩:=h;have st:∀a,d4.iI (K.map .b) (.b a)↔h4.iI K a:=by intro a;show(_->aG.b aO.S∉_)/\(_->aG.b aO.N∉_)↔(_->aO.S∉K)/\(_->aO.N∉K);simp only[dn,aG.b.injEq,exists_eq_right];rfl
 refine⟨aj,u,λp ae=>?_,λa ak aM=>?_⟩
 .obtain⟨a,ak,am,aM⟩:=i.to p ae;exact⟨.b a,fy ak,am,(st a).mpr aM⟩
 .obtain⟨b,av,rfl⟩:=dn.mp ak;clear ak;exact i.of b av<|(st b).mp aM
inductive kR (R:List B):Nat->(bG->List aO)->Prop
 |own {x:Nat}:R[x]?=some (pc 16 17)->kR R x λk=>[.ao k]
 |key:kR R 17 λk=>[k.sN]
 |fix {x:Nat} {K:List aO}:iY R x K->kR R x λ_=>K
 |tab {x aX ia iu aU:Nat} {ep e3 el:List aO}:R[x]?=some (pc aX 17)->R[aX]?=some (vJ ia iu aU)->iY R ia ep->iY R iu e3->iY R aU el->kR R x (jy ep e3 el)
theorem kR.bf{R aa:Lm B}{x c:Ĵ}{F:bG->Lm aO}(h:kR R x F)(g:a_ R aa c):kR aa x F:=by
 induction h with
 |own h=>exact .own<|g.at h
 |key=>exact .key
 |fix h=>exact .fix<|h.bf g
 |tab a b c d e=>exact .tab (g.at a) (g.at b) (c.bf g) (d.bf g)<|e.bf g
theorem kR.len{R:Lm B}{x:Ĵ}{F:bG->Lm aO}(h:kR R x F)(key:bG):(F key).length<=12:=by
 induction h with
 |own h=>exact iK rfl
 |key=>exact iK rfl
 |fix h=>exact h.len
 |tab a b c d e=>
  induction key with
  |txt x=>
   unfold jy;dsimp only;split
   .exact c.len
   .split
    .exact d.len
    .exact e.len
  |S=>exact e.len
  |N=>exact e.len
inductive oi (R:List B):Nat->(bG->List aG)->Prop
 |base {x:Nat} {F:bG->List aO}:kR R x F->oi R x λk=>(F k).map .b
 |arr {x p:Nat} {F:bG->List aO}:kR R x F->R[p]?=some (hV x 0)->oi R p λk=>[.arr<|F k]
theorem oi.bf{R aa:Lm B}{t c:Ĵ}{F:bG->Lm aG}(h:oi R t F)(g:a_ R aa c):oi aa t F:=by
 induction h with
 |base h=>exact .base<|h.bf g
 |arr h e=>exact .arr (h.bf g)<|g.at e
theorem oi.len{R:Lm B}{x:Ĵ}{F:bG->Lm aG}(h:oi R x F)(key:bG):(F key).length<=12:=by
 induction h with
 |base h=>rw[bR];exact h.len key
 |arr h e=>exact iK rfl
inductive f9 (R:List B):Nat->(bG->List aG)->Prop
 |one {t:Nat} {F:bG->List aG}:oi R t F->f9 R t F
 |bA {t p:Nat} {F:bG->List aG}:oi R p F->gi R p (-1)->4<p->eg R t [4,p]->f9 R t λk=>F k++[.b .bA]
theorem f9.bf{R aa:Lm B}{t c:Ĵ}{F:bG->Lm aG}(h:f9 R t F)(g:a_ R aa c):f9 aa t F:=by
 induction h with
 |one h=>exact .one<|h.bf g
 |bA h ae l e=>exact .bA (h.bf g) (ae.bf g) l<|e.bf g
theorem f9.len{R:Lm B}{x:Ĵ}{F:bG->Lm aG}(h:f9 R x F)(key:bG):(F key).length<=13:=by
 induction h with
 |one h=>exact iL<|h.len key
 |bA h _ _ _=>rw[c_];exact da<|h.len key
theorem c9.Ty.tE{R:Lm B}{t:Ĵ}{aC:Type}{Z:c9 aC}{K:Lm aC}(T:Rows R)(h:Z.Ty R t K):∃aj,eg R t aj/\Z.Is R K aj/\aj.length<=K.length:=by obtain⟨aj,u,i⟩:=h;exact⟨aj,u,i,c9.Is.len T u.fB λp ae=>(i.to p ae).imp λa x=>⟨x.1,x.2.1⟩⟩
theorem Kx{x:Ĵ}{F:bG->Lm aO}{key:bG}(T:Rows S.R)(h:kR S.R x F)(aE:gK S.R k key)(ap:S.R.length+4<=a3)(q:∀t aa,a_ S.R aa 4->h4.Ty aa t (F key)->Q (au t) (S.w aa).st):bd (n+10) 66 [.ref 10,au x,mp k] S.st Q:=by
 cases h with
 |own h=>exact Uk T h aE (hp ‹_›) λp aa g e=>q p aa (g.le<|aH rfl)<|c9.Ty.one (Z:=h4) g.ok e
 |key=>exact Bj T<|q k S.R (a_.refl T)<|c9.Ty.one (Z:=h4) T aE.sN
 |fix h=>exact xW T h (hp ‹_›) λaa g=>q x aa (g.le<|aH rfl)<|h.ty.bf g
 |tab a b c d e=>
  refine VM T a b c d e aE ap λaa g=>q _ aa g ?_;induction key with
  |txt x=>
   unfold jy;dsimp only;split
   .exact c.ty.bf g
   .split
    .exact d.ty.bf g
    .exact e.ty.bf g
  |S=>exact e.ty.bf g
  |N=>exact e.ty.bf g
theorem GF{t:Ĵ}{F:bG->Lm aG}{key:bG}(T:Rows S.R)(h:oi S.R t F)(aE:gK S.R k key)(ap:S.R.length+5<=a3)(q:∀u aa,a_ S.R aa 5->d4.Ty aa u (F key)->Q (au u) (S.w aa).st):bd (n+11) 66 [.ref 10,au t,mp k] S.st Q:=by
 induction h with
 |base h=>exact Kx T h aE (hp ‹_›) λu aa g ty=>q u aa (g.le<|aH rfl)<|Vq ty
 |arr h e=>k_go;lk;refine Kx T h aE (hp ‹_›) λu aa g ty=>?_;have:=g.len;k_go;refine e4 (S:=S.w aa) g.ok rfl (by show aa.length+1<=a3;omega) λp i3 dV bx=>?_;exact q p i3 (g.trans dV)<|c9.Ty.one (Z:=d4) dV.ok ⟨u,bx,ty.bf dV⟩
set_option tactic.hygienic true in
theorem U8{t:Ĵ}{F:bG->Lm aG}{key:bG}(T:Rows S.R)(h:f9 S.R t F)(aE:gK S.R k key)(ap:S.R.length+6<=a3)(q:∀u aa,a_ S.R aa 6->d4.Ty aa u (F key)->Q (au u) (S.w aa).st):bd (n+13) 66 [.ref 10,au t,mp k] S.st Q:=by
 induction h with
 |one h=>exact GF T h aE (hp ‹_›) λu aa g ty=>q u aa (g.le<|aH rfl) ty
 |bA h ae l u=>
  rename_i p F;rcases u.is with⟨e,_⟩|e|⟨_,_,e⟩
  .cases e
  .cases e
  .k_go;lk;k_go;refine di.comp rfl<|fj.un rfl<|eN.mk<|x0 (p:=4) (T.at rfl) (.key _) ?_;lk;refine GF T h aE (hp ‹_›) λu aa g ty=>?_;lk;have:=g.len;have kN:=h.len key;obtain⟨aj,a5,aA,ah⟩:=ty.tE g.ok;refine uu (S:=S.w aa) (aU:=[(4,[4]),(u,aj)]) g.ok rfl (λx ay=>?_) (by show(aj++[]).length+1<64;rw[gT];exact hN (da<|aJ ah kN)<|by decide) (g.room ap<|aH rfl) λdK dJ i3 dV ie m=>?_
   .rcases eJ.mp ay with rfl|ay
    .exact eg.key g.ok<|.inl rfl
    .rw[cV]at ay;subst ay;exact a5
   .refine q dK i3 (g.trans dV) ⟨dJ,ie,?_⟩;have:=c9.Is.union (Z:=d4) g.ok (fJ:=[([4],[.b .bA]),(aj,F key)]) (λx ay=>by
     rcases eJ.mp ay with rfl|ay
     .exact c9.CD (Z:=d4) (a:=aG.b aO.bA) g.ok<|show mY aa 4 (.b .bA)from rfl
     .rw[cV]at ay;subst ay;exact aA) (aj:=dJ) (by intro p;rw[m p];simp)
    refine(this.congr λa=>?_).bf dV;simp[or_comm]
noncomputable abbrev fW (cI nm d0 Y aV:ĵ):B:=.tup [.int 17,.int 1,.int cI,.int nm,.int d0,.int Y,.int aV]
theorem u2{t:Ĵ}{F:bG->Lm aG}{key:bG}{cI nm Y aV:ĵ}(T:Rows S.R)(h:f9 S.R t F)(aE:gK S.R k key)(ap:S.R.length+6<=a3)(q:∀u aa,a_ S.R aa 6->d4.Ty aa u (F key)->Q (au u) (S.w aa).st):bd (n+15) 46 [.ref 10,fW cI nm t Y aV,au k] S.st Q:=by k_go;k_go;exact U8 T h aE ap q
theorem c9.mL{aC:Type}{Z:c9 aC}{K:Lm aC}{a:aC}(h:Z.il a= -1):Z.iI K a:=⟨λe=>(by rw[h]at e;omega),λe=>(by rw[h]at e;omega)⟩
def a' (K:Lm aG):Lm aG:=K.filter λa=> !decide (a=.b .bA)
def fT (Y:ĵ) (fP:Ģ):Ģ:=decide (Y=1)||(decide (Y=0)&&fP)
def fC (Y:ĵ) (fP:Ģ) (K:Lm aG):Lm aG:=if fT Y fP=true then(if a' K=[]then K else a' K)else if fP=true then a' K else K
def fM (Y:ĵ) (K:Lm aG):Lm aG:=if Y=1 then K++[.b .bA]else if Y=2 then a' K else K
theorem Yr{R:Lm B}(T:Rows R){K:Lm aG}{aj:Lm Ĵ}(h:d4.Is R K aj):Cl R aj:=by
 intro p ae x y e;obtain⟨a,_,am,_⟩:=h.to p ae;induction a with
 |arr K=>obtain⟨_,h,_⟩:=(show mY R p (.arr K)from am);rw[h]at e;cases e
 |b a=>
  have he:eR R p a:=am;induction a with
  |txt x=>rw[show R[p]?=some (tB x)from he]at e;cases e
  |num x=>rw[show R[p]?=some (DP x)from he]at e;cases e
  |ao k=>obtain⟨s,_,h⟩:=he;rw[h]at e;cases e;rfl
  |bA=>rcases(show p=4 from he)with rfl;rw[T.at (t:=4) rfl]at e;cases e
  |nul=>rcases(show p=5 from he)with rfl;rw[T.at (t:=5) rfl]at e;cases e
  |S=>rcases(show p=6 from he)with rfl;rw[T.at (t:=6) rfl]at e;cases e
  |N=>rcases(show p=7 from he)with rfl;rw[T.at (t:=7) rfl]at e;cases e
theorem Ā{R:Lm B}(T:Rows R){K:Lm aG}{aj:Lm Ĵ}(aM:aj.Pairwise (· <·))(h:d4.Is R K aj):d4.Is R (if a' K=[]then K else a' K) (if aj=[4]then [4]else aj.filter λp=> !decide (p=4)):=by
 have Li:d4.Is R (a' K) (aj.filter λp=> !decide (p=4)):=c9.Is.less (Z:=d4) T h;by_cases ba:aj=[4]
 .subst ba;have:a' K=[]:=by
   rw[a',uB];intro a ak;simp only[j2,Bool.not_eq_false,jD];have e1:aG.b aO.S∉K:=λq=>by obtain⟨p,ae,am⟩:=h.of _ q<|c9.mL rfl;rw[cV]at ae;subst ae;cases(show(4:Ĵ)=6 from am)
   have c':aG.b aO.N∉K:=λq=>by obtain⟨p,ae,am⟩:=h.of _ q<|c9.mL rfl;rw[cV]at ae;subst ae;cases(show(4:Ĵ)=7 from am)
   obtain⟨p,ae,am⟩:=h.of a ak ⟨λ_=>e1,λ_=>c'⟩;rw[cV]at ae;subst ae;exact(d4.tV T am).mp rfl
  rw[bl rfl,bl this];exact h
 .rw[bt ba];split
  .rename_i bm;have ab:K=[]:=by
    induction aE:K with
    |nil=>rfl
    |cons a r=>
     exfalso;have all:∀b∈K,b=.b .bA:=λb av=>by have:=(uB.mp bm) b av;simpa using this
     have cZ:∀p∈aj,p=4:=λp ae=>by obtain⟨b,av,am,_⟩:=h.to p ae;exact(d4.tV T am).mpr<|all b av
     have aN:4∈aj:=by obtain⟨p,ae,am⟩:=h.of a (by rw[aE];exact .head _) (c9.mL<|by rw[all a<|by rw[aE];exact .head _];rfl);rw[cZ p ae]at ae;exact ae
     refine ba<|wA aM (by simp) λp=>?_;rw[cV];exact⟨cZ p,λe=>e▸aN⟩
   subst ab;exact Li
  .exact Li
theorem xs{cI nm d0 Y aV:ĵ}{fP:Ģ}(az:Y=0\/Y=1\/Y=2)(q:Q (.bool<|fT Y fP) s):bd (n+1) 47 [fW cI nm d0 Y aV,.bool fP] s Q:=by
 k_go;rcases az with rfl|rfl|rfl
 .exact q
 .exact q
 .exact q
theorem yr{aI aV:ĵ}(az:aI=0\/aI=1\/aI=2)(q:Q (.int<|if aI=1 then 1 else if aI=2 then 0 else aV) s):bd (n+1) 45 [.int aI,.int aV] s Q:=by
 k_go;rcases az with rfl|rfl|rfl
 .exact q
 .exact q
 .exact q
theorem JT{t:Ĵ}{K:Lm aG}(T:Rows S.R)(h:d4.Ty S.R t K)(ah:K.length<63)(ap:S.R.length+2<=a3)(q:∀dK aa,a_ S.R aa 2->d4.Ty aa dK (a' K)->Q (au dK) (S.w aa).st):bd (n+5) 43 [.ref 10,au t] S.st Q:=by obtain⟨aj,u,i,l⟩:=h.tE T;exact M5 T u (Yr T i) (by omega) ap λdK aa g ie=>q dK aa g ⟨_,ie,(c9.Is.less (Z:=d4) T i).bf g⟩
theorem HY{t:Ĵ}{K:Lm aG}{arg:B}(T:Rows S.R)(h:d4.Ty S.R t K)(ak:items arg=some [au t,au 4])(ah:K.length<63)(ap:S.R.length+1<=a3)(q:∀dK aa,a_ S.R aa 1->d4.Ty aa dK (K++[.b .bA])->Q (au dK) (S.w aa).st):bd (n+3) 20 [.ref 1,arg] S.st Q:=by obtain⟨aj,u,i,l⟩:=h.tE T;exact yL T u ak (by omega) ap λdK dJ aa g ie m=>q dK aa g ⟨_,ie,(c9.Is.bA (Z:=d4) T i m).bf g⟩
theorem wp{t:Ĵ}{F:bG->Lm aG}{key:bG}{cI nm Y aV:ĵ}{fP:Ģ}(T:Rows S.R)(h:f9 S.R t F)(aE:gK S.R k key)(az:Y=0\/Y=1\/Y=2)(ap:S.R.length+8<=a3)(q:∀u aa,a_ S.R aa 8->d4.Ty aa u (fC Y fP<|F key)->Q (au u) (S.w aa).st):bd (n+16) 48 [.ref 10,fW cI nm t Y aV,au k,.int<|-1,.bool fP] S.st Q:=by
 have ah:=h.len key;k_go;refine u2 T h aE (hp ‹_›) λu aa g ty=>?_;have:=g.len;refine xs az ?_;induction aM:fT Y fP with
 |true=>obtain⟨aj,a5,aA,sI⟩:=ty.tE g.ok;refine P7 (S:=S.w aa) g.ok a5 (by omega) (by show aa.length+1<=a3;omega) λdK dJ i3 dV ie e=>?_;refine q dK i3 ((g.trans dV).le<|aH rfl) ⟨dJ,ie,?_⟩;unfold fC;rw[bl aM,e];exact(Ā g.ok a5.fB aA).bf dV
 |false=>
  induction fP with
  |true=>refine JT (S:=S.w aa) g.ok ty (BI ‹_›) (by show aa.length+2<=a3;omega) λdK i3 dV uY=>?_;refine q dK i3 (g.trans dV) ?_;unfold fC;rw[bt (by rw[aM];decide),bl rfl];exact uY
  |false=>refine q u aa (g.le<|aH rfl) ?_;unfold fC;rw[bt (by rw[aM];decide),bt<|by decide];exact ty
theorem CM{t:Ĵ}{K:Lm aG}{cI nm d0 Y aV:ĵ}(T:Rows S.R)(h:d4.Ty S.R t K)(az:Y=0\/Y=1\/Y=2)(ah:K.length<63)(ap:S.R.length+2<=a3)(q:∀u aa,a_ S.R aa 2->d4.Ty aa u (fM Y K)->Q (au u) (S.w aa).st):bd (n+6) 56 [.ref 10,fW cI nm d0 Y aV,au t] S.st Q:=by
 k_go;rcases az with rfl|rfl|rfl
 .exact q t S.R (a_.refl T) h
 .exact HY T h rfl ah (hp ‹_›) λu aa g ty=>q u aa (g.le<|aH rfl) ty
 .exact JT T h ah ap λu aa g ty=>q u aa g ty
theorem F'{x:bv}(T:Rows S.R)(ap:S.R.length+1<=a3)(q:∀p aa,a_ S.R aa 1->gK aa p (.txt x)->Q (au p) (S.w aa).st):bd (n+2) 3 [.ref 1,.str x] S.st Q:=by k_go;exact e4 T rfl ap λp aa g e=>q p aa g e
theorem Qf{t:Ĵ}{F:bG->Lm aG}{cI nm Y aV:ĵ}{lW:Ĵ}{dr qB:ĵ}(T:Rows S.R)(h:f9 S.R t F)(az:Y=0\/Y=1\/Y=2)(aN:qB=0\/qB=1\/qB=2)(ae:small (lW:ĵ)=true)(ay:(dq lW).length<=a3)(ap:S.R.length+9<=a3)(q:∀u aa,a_ S.R aa 9->d4.Ty aa u (if qB=2 then fM Y (F<|.txt<|dq lW)else fC Y (decide<|qB=1) (F<|.txt<|dq lW))->Q (.tup [au u,.int<|if qB=2 then 2 else if fT Y (decide<|qB=1)=true then 1 else 0]) (S.w aa).st):bd (n+17) 57 [.ref 10,fW cI nm t Y aV,au lW,.tup [.int dr,.int qB],.bool false] S.st Q:=by
 have wM:pg .str S.st [au lW]=some (.str<|dq lW):=by show(if small (lW:ĵ)then i7 (dq lW).length (B.str<|dq lW)else none)=_;rw[ae];unfold i7;rw[bl ay];rfl
 have ah:=h.len<|.txt<|dq lW;k_go;refine ax.of wM<|F' T (hp ‹_›) λk gs c5 aE=>?_;have:=c5.len;rcases aN with rfl|rfl|rfl
 .refine xs az ?_;induction aM:fT Y false with
  |true=>refine bh.mz aM ?_;refine wp (S:=S.w gs) c5.ok (h.bf c5) aE az (by show gs.length+8<=a3;omega) λu bu bj ty=>?_;have:=q u bu ((c5.trans bj).le<|aH rfl) ty;simp[aM]at this;exact this
  |false=>refine bh.ik aM ?_;refine wp (S:=S.w gs) c5.ok (h.bf c5) aE az (by show gs.length+8<=a3;omega) λu bu bj ty=>?_;have:=q u bu ((c5.trans bj).le<|aH rfl) ty;simp[aM]at this;exact this
 .refine xs az ?_;induction aM:fT Y true with
  |true=>refine bh.mz aM ?_;refine wp (S:=S.w gs) c5.ok (h.bf c5) aE az (by show gs.length+8<=a3;omega) λu bu bj ty=>?_;have:=q u bu ((c5.trans bj).le<|aH rfl) ty;simp[aM]at this;exact this
  |false=>refine bh.ik aM ?_;refine wp (S:=S.w gs) c5.ok (h.bf c5) aE az (by show gs.length+8<=a3;omega) λu bu bj ty=>?_;have:=q u bu ((c5.trans bj).le<|aH rfl) ty;simp[aM]at this;exact this
 .refine u2 (S:=S.w gs) c5.ok (h.bf c5) aE (by show gs.length+6<=a3;omega) λu bu bj ty=>?_;have:=bj.len;have e:(S.w gs).R.length=gs.length:=rfl;refine CM (S:=S.w bu) bj.ok ty az (BI ‹_›) (by show bu.length+2<=a3;omega) λv dX cK uY=>?_;exact q v dX (((c5.trans bj).trans cK).le<|aH rfl) uY
theorem cE.nat{bk:Ģ}{aU:Lm Ĵ}{b:Lm dS}{r:aK}{Q:ck->aK->St->Prop}{len:Ĵ}(dI:Ĵ->aK->St->Prop)(aF:dI 0 r s)(ba:∀i,i<len->∀r s (K:aK->St->Prop),p7 (dI<|i+1) K->∀Z,qR Q Z->dI i r s->ax (h7 bk aU (au i) r) λr=>bw n b r s<|wZ K Z)(cO:∀r s,dI len r s->Q .go r s):cE n bk aU b ((List.range len).map au) r s Q:=by
 refine cE.inv (λl r s=>∃i,i<=len/\l=((List.range len).drop i).map au/\dI i r s) ?_ ?_ ⟨0,f7 _,by rw[AY],aF⟩
 .rintro v l r s K ab Z Te⟨i,aA,e,b8⟩;have wG:i<len:=by
   rcases zU i len with h|h
   .exact h
   .rw[List.drop_of_length_le<|by simpa using h]at e;cases e
  rw[xp (by simpa using wG),fx,th,JX]at e;obtain⟨rfl,rfl⟩:=e;exact ba i wG r s K (λr s h=>ab _ _ ⟨i+1,wG,rfl,h⟩) Z Te b8
 .rintro r s⟨i,aA,e,b8⟩;have:i=len:=by
   rcases zU i len with h|h
   .rw[xp<|by simpa using h]at e;cases e
   .omega
  subst this;exact cO r s b8
theorem cE.eA{bk:Ģ}{aU:Lm Ĵ}{b:Lm dS}{r:aK}{Q:ck->aK->St->Prop}{x:B}{len:Ĵ}(dI:Ĵ->aK->St->Prop)(ay:items x=some ((List.range len).map au))(aF:dI 0 r s)(ba:∀i,i<len->∀r s (K:aK->St->Prop),p7 (dI<|i+1) K->∀Z,qR Q Z->dI i r s->ax (h7 bk aU (au i) r) λr=>bw n b r s<|wZ K Z)(cO:∀r s,dI len r s->Q .go r s):ax (items x) λbM=>cE n bk aU b bM r s Q:=ax.of ay<|cE.nat dI aF ba cO
theorem M6{len:Ĵ}{done a':Lm Ĵ}{a:Ĵ}(e:List.range len=done++a::a'):a=done.length/\done.length<len:=by have h:=bX (λl:Lm Ĵ=>l[done.length]?) e;simp only[pf<|dy _,ut,HG]at h;obtain⟨G,E⟩:=hb.mp h;rw[JX]at E;exact⟨E.symm,by simpa using G⟩
theorem cE.o_{bk:Ģ}{aU:Lm Ĵ}{b:Lm dS}{r:aK}{Q:ck->aK->St->Prop}{x:B}{len:Ĵ}(ay:items x=some ((List.range len).map au))(fA:Ĵ->(aK->St->Prop)->Prop)(ba:∀i,i<len->∀K:aK->St->Prop,fA (i+1) K->fA i λr s=>ax (h7 bk aU (au i) r) λr=>bw n b r s<|mZ K Q)(cO:fA len (Q .go))(h:∀K:aK->St->Prop,fA 0 K->K r s):ax (items x) λbM=>cE n bk aU b bM r s Q:=ax.of ay<|cE.mp rfl (λdone=>fA done.length) (λdone a a' e K ab=>by obtain⟨rfl,aA⟩:=M6 e;rw[c_]at ab;exact ba _ aA K ab) (by rw[s3];exact cO) h
theorem kg(len:Ĵ):items (.eA 0 (len:ĵ))=some ((List.range len).map au):=by show some _=some _;congr 1;rw[show((len:ĵ)-0).toNat=len by omega];apply List.map_congr_left;intro i _;show B.int (0+Int.ofNat i)=B.int (i:ĵ);rw[Int.zero_add];rfl
def de (es:Lm (Ĵ×ĵ)):Lm B:=es.map λe=>.tup [au e.1,.int e.2]
def u4 (v:B):Lm B:=match v with|.tup [_,m]=>[m]|_=>[]
theorem mA(es:Lm (Ĵ×ĵ)):(de es).length=es.length:=by unfold de;rw[bR]
theorem DV{es:Lm (Ĵ×ĵ)}{i:Ĵ}{e:Ĵ×ĵ}(h:es[i]?=some e):∀{s:St},ho s (.lst<|de es) (au i)=some (.tup [au e.1,.int e.2]):=by intro s;show(jM (i:ĵ) (de es).length).bind (λj=>(de es)[j]?)=_;rw[mA,p3 (hb.mp h).1];show(es.map _)[i]?=_;rw[gS,h];rfl
theorem Ct{es:Lm (Ĵ×ĵ)}{i:Ĵ}{e:Ĵ×ĵ}(h:es[i]?=some e):∀{s:St},ho s (.tup<|de es) (au i)=some (.tup [au e.1,.int e.2]):=by intro s;show(jM (i:ĵ) (de es).length).bind (λj=>(de es)[j]?)=_;rw[mA,p3 (hb.mp h).1];show(es.map _)[i]?=_;rw[gS,h];rfl
theorem tX(m:ĵ):∀aw:Lm ĵ,hO (.int m) (aw.map .int)=some (decide<|m∈aw)
 |[]=>rfl
 |a::r=>by
  show((fu (.int a)<|.int m).bind λx=>(hO (.int m)<|r.map .int).map λb=>x||b)=_;rw[tX m r];show some (decide (a=m)||decide (m∈r))=_;congr 1;by_cases h:a=m
  .simp[h]
  .have:¬m=a:=λe=>h e.symm;simp[h,this]
def iy (p:ĵ->Ģ) (l:Lm ĵ):Ĵ->ĵ
 |0=> -1
 |i+1=>(l[i]?).elim (iy p l i) λe=>if p e=true then(i:ĵ)else iy p l i
theorem iq{n:Ĵ}(h:n<=1000):small (n:ĵ)=true:=by unfold small;simp;omega
theorem zF{n k:Ĵ}(h:n<=k)(e:Nat.ble k a3=true:=by rfl):((n:ĵ)-0).toNat<=a3:=by rw[sb,qr];exact aJ h<|aH e
theorem Ax{es:Lm (Ĵ×ĵ)}{aw:Lm ĵ}(ah:es.length<=1000)(q:Q (.int<|iy (λm=>decide<|m∈aw) (es.map (·.2)) es.length) s):bd (n+1) 5 [.lst<|de es,.tup<|aw.map .int] s Q:=by
 k_go;lk;rw[mA];refine⟨rfl,iq ah,zF ah,cE.o_ (len:=es.length) (kg _) (λi K=>∀x,K [.val<|.lst<|de es,.val<|.tup<|aw.map .int,.val<|.int<|iy (λm=>decide<|m∈aw) (es.map (·.2)) i,x] s) (λi aA K ab x=>?_) (λx=>by exact q) λK ab=>ab _⟩;have a6:=fl aA;have ay:iy (λm=>decide<|m∈aw) (es.map (·.2)) (i+1)=if decide (es[i].2∈aw)=true then(i:ĵ)else iy (λm=>decide<|m∈aw) (es.map (·.2)) i:=by show((es.map (·.2))[i]?).elim _ _=_;rw[gS,a6];rfl
 rw[ay]at ab;lk;refine ax.of (DV a6)<|ax.of (show hu .isin s (.int es[i].2) (.tup<|aw.map .int)=_ from tX _ aw)<|bh.ef (λh=>?_) λh=>?_
 .rw[bl<|dQ h]at ab;exact ab _
 .rw[bt<|by rw[eC h];exact eM]at ab;exact ab _
abbrev g5:=Lm aG×ĵ
def hd(b:Ĵ)(R:Lm B)(es:Lm (Ĵ×ĵ))(ai:Lm g5):Prop:=b_ (λe c=>e.2=c.2/\d4.Ty R e.1 c.1/\c.1.length<=b) es ai
theorem hd.bf{b:Ĵ}{R aa:Lm B}{c:Ĵ}{es:Lm (Ĵ×ĵ)}{ai:Lm g5}(h:hd b R es ai)(g:a_ R aa c):hd b aa es ai:=b_.imp (λe c x=>⟨x.1,x.2.1.bf g,x.2.2⟩) h
theorem b_.at{aC cC:Type}{P:aC->cC->Prop}{l:Lm aC}{m:Lm cC}(x:b_ P l m):∀{i:Ĵ} {a:aC},l[i]?=some a->∃b,m[i]?=some b/\P a b:=b_.rec (motive:=λl m _=>∀{i:Ĵ} {a:aC},l[i]?=some a->∃b,m[i]?=some b/\P a b) (λh=>b4 h) (λx _ ar=>λ{i} _ h=>by
 induction i with
 |zero=>cases h;exact⟨_,rfl,x⟩
 |succ i=>exact ar (i:=i) h) x
def conv (dN:ĵ) (i:Ĵ) (c:g5):g5:=if c.2=1/\(i:ĵ)<dN then(c.1++[.b .bA],0)else c
def jd (dN:ĵ):Ĵ->Lm g5->Lm g5
 |_,[]=>[]
 |i,c::r=>conv dN i c::jd dN (i+1) r
theorem uo(dN:ĵ)(l:Lm g5):∀j:Ĵ,(jd dN j l).length=l.length:=by
 induction l with
 |nil=>exact λ_=>rfl
 |cons c r ar=>exact λj=>bX Nat.succ<|ar<|j+1
theorem SS(dN:ĵ)(c:g5)(l:Lm g5):∀j:Ĵ,jd dN j (l++[c])=jd dN j l++[conv dN (j+l.length) c]:=by
 induction l with
 |nil=>exact λ_=>rfl
 |cons a r ar=>
  intro j;show conv dN j a::jd dN (j+1) (r++[c])=conv dN j a::(jd dN (j+1) r++[conv dN (j+(r.length+1)) c])
  rw[ar,xR,rF]
theorem hd.marks{R:Lm B}{b:Ĵ}{es:Lm (Ĵ×ĵ)}{ai:Lm g5}(h:hd b R es ai):es.map (·.2)=ai.map (·.2):=by
 induction h with
 |nil=>rfl
 |cons x _ ar=>rw[fx,fx,ar,x.1]
theorem s4(es:Lm (Ĵ×ĵ))(a:Ĵ)(m:ĵ):de es++[.tup [au a,.int m]]=de (es++[(a,m)]):=by unfold de;simp
def DH (es:Lm (Ĵ×ĵ)) (dN:ĵ) (l:Lm B) (x y z:cr):aK:=[.val<|.ref 1,.val<|.lst<|de es,.val<|.int dN,.ol l,x,y,z]
theorem Xq{b:Ĵ}{es:Lm (Ĵ×ĵ)}{ai:Lm g5}(T:Rows S.R)(cf:hd b S.R es ai)(av:b<=60)(ah:es.length<=100)(ap:S.R.length+es.length<=a3)(q:∀cA aa,a_ S.R aa es.length->hd (b+1) aa cA (jd (iy (λm=>decide<|m∈[(0:ĵ)]) (es.map (·.2)) es.length) 0 ai)->Q (.lst<|de cA) (S.w aa).st):bd (n+6) 6 [.ref 1,.lst<|de es] S.st Q:=by
 generalize Y1:iy (λm=>decide<|m∈[(0:ĵ)]) (es.map (·.2)) es.length=dN at q;k_go;refine Ax (aw:=[0]) (aJ ah<|aH rfl) ?_;rw[Y1];lk;rw[mA];refine⟨rfl,iq<|aJ ah<|aH rfl,zF ah,cE.o_ (len:=es.length) (kg _) (λi K=>∀aa cA x y z,a_ S.R aa i->hd (b+1) aa cA (jd dN 0<|ai.take i)->K (DH es dN (de cA) x y z) (S.w aa).st) (λi aA K ab aa cA x y z g eL=>?_) (λaa cA x y z g eL=>?_) λK ab=>ab S.R [] _ _ _ (a_.refl T) .nil⟩
 .have a6:=fl aA;obtain⟨c,ti,aN,ty,aE⟩:=cf.at a6;have iV:cA.length=i:=by rw[eL.len,uo];exact ux (by rw[<-cf.len];exact kq aA)
  have g':(de cA).length+1<=a3:=by rw[mA,iV];exact aJ (da<|aJ (kq aA) ah)<|aH rfl
  obtain⟨aj,a5,wG,sI⟩:=(ty.bf g).tE g.ok;have ab:∀bu (t m:ĵ) (dK:Ĵ) a x y z,t=dK->a_ aa bu 1->(a.2=m/\d4.Ty bu dK a.1/\a.1.length<=b+1)->conv dN i c=a->K (DH es dN (de cA++[.tup [.int t,.int m]]) x y z) (S.w bu).st:=λbu t m dK a x y z qC bj h e=>by rw[qC,s4];refine ab bu _ x y z (g.trans bj) ?_;rw[y',ti];show hd _ _ _<|jd dN 0<|ai.take i++[c];rw[SS,iG,ux (by rw[<-cf.len];exact kq aA),e];exact b_.snoc ⟨h.1.symm,h.2⟩<|eL.bf bj
  have keep:∀x y z,¬(c.2=1/\(i:ĵ)<dN)->K (DH es dN (de cA++[.tup [au es[i].1,.int es[i].2]]) x y z) (S.w aa).st:=λx y z h=>ab aa _ _ _ c x y z rfl (a_.refl g.ok) ⟨aN.symm,ty.bf g,iL aE⟩<|bt h;lk;refine ax.of (DV a6)<|bh.ef (λG=>bh.ef (λE=>?_) λE=>?_) λG=>bh.ft G ?_
  .refine MG (S:=S.w aa) g.ok a5 (by omega) (aJ (da g.len)<|aJ (gp aA S.R.length) ap) λdK dJ i3 dV ie m=>⟨g',?_⟩;exact ab i3 _ 0 dK (c.1++[.b .bA],0) _ _ _ rfl dV ⟨rfl,⟨dJ,ie,(c9.Is.bA (Z:=d4) g.ok wG m).bf dV⟩,by rw[c_];exact da aE⟩ (by unfold conv;rw[bl ⟨aN▸G,E⟩])
  .exact⟨g',keep _ _ _ λh=>E h.2⟩
  .exact⟨g',keep _ _ _ λh=>G<|by rw[aN];exact h.1⟩
 .rw[sG<|fU cf.len.symm]at eL;exact q cA aa g eL
def j0 (l:Lm ĵ):Ĵ->ĵ
 |0=> -1
 |i+1=>(l[i]?).elim (j0 l i) λm=>if j0 l i<0/\m=2 then(i:ĵ)else j0 l i
theorem O'{p:ĵ->Ģ}{l:Lm ĵ}(h:∀m∈l,p m=false)(i:Ĵ):iy p l i= -1:=by
 induction i with
 |zero=>rfl
 |succ i ar=>
  show(l[i]?).elim _ _=_;induction aN:l[i]? using Option.casesOn with
  |none=>exact ar
  |some m=>exact(bt<|by rw[h m<|ib aN];exact eM).trans ar
theorem A4(aV:ĵ)(es:Lm (Ĵ×ĵ)):h_ (.tup [.int 12,.tup<|de es,.int aV])=true:=lP (zT λ_=>rfl) rfl
theorem Rc{es:Lm (Ĵ×ĵ)}{dN:ĵ}(ah:es.length<=100)(h:j0 (es.map (·.2)) es.length<0\/dN<=j0 (es.map (·.2)) es.length)(q:Q (.lst<|de es) s):bd (n+1) 7 [.ref 1,.lst<|de es,.int dN] s Q:=by
 k_go;lk;rw[mA];refine⟨rfl,iq<|aJ ah<|aH rfl,zF ah,cE.o_ (len:=es.length) (kg _) (λi K=>∀x,K [.val<|.ref 1,.val<|.lst<|de es,.val<|.int dN,.val<|.int<|j0 (es.map (·.2)) i,x,.un,.un,.un] s) (λi aA K ab x=>?_) (λx=>?_) λK ab=>ab _⟩
 .have a6:=fl aA;have ay:j0 (es.map (·.2)) (i+1)=if j0 (es.map (·.2)) i<0/\es[i].2=2 then(i:ĵ)else j0 (es.map (·.2)) i:=by show((es.map (·.2))[i]?).elim _ _=_;rw[gS,a6];rfl
  rw[ay]at ab;refine bh.ef (λG=>ax.of (DV a6)<|bh.ef (λE=>?_) λE=>?_) λG=>bh.ft G ?_
  .rw[bl ⟨G,E⟩]at ab;exact ab _
  .rw[bt λh=>E h.2]at ab;exact ab _
  .rw[bt λh=>G h.1]at ab;exact ab _
 .exact bh.ef (λG=>bh.pW G q) λG=>bh.pW (h.resolve_left G) q
theorem Pp{b:Ĵ}{es:Lm (Ĵ×ĵ)}{ai:Lm g5}{aV:ĵ}{M:Lm ĵ}(T:Rows S.R)(cf:hd b S.R es ai)(av:b<=60)(ah:es.length<=100)(ap:S.R.length+es.length+1<=a3)(aB:∀m∈es.map (·.2),m≠3)(eK:M=(jd (iy (λm=>decide<|m∈[(0:ĵ)]) (es.map (·.2)) es.length) 0 ai).map (·.2))(E:M≠[2])(bm:j0 M es.length<0\/iy (λm=>decide<|m∈[(2:ĵ),1]) (es.map (·.2)) es.length<=j0 M es.length)(q:∀t cA aa,a_ S.R aa (es.length+1)->hd (b+1) aa cA (jd (iy (λm=>decide<|m∈[(0:ĵ)]) (es.map (·.2)) es.length) 0 ai)->aa[t]?=some (.tup [.int 12,.tup<|de cA,.int aV])->Q (au t) (S.w aa).st):bd (n+7) 8 [.ref 1,.tup<|de es,.int aV] S.st Q:=by
 k_go;refine di.comp rfl<|fj.mp (all:=es) (f:=λe=>.tup [au e.1,.int e.2]) rfl (λdone K=>K (de done) S.st) (λdone e a' ag K ab=>eN.mk<|by rw[<-s4]at ab;exact ab) ?_ λK ab=>ab;refine Ax (aw:=[3]) (aJ ah<|aH rfl) ?_;rw[O'<|λm aN=>eC λh=>aB m aN<|cV.mp h];refine Ax (aw:=[2,1]) (aJ ah<|aH rfl)<|Xq T cf av ah (li ap) λcA aa g ic=>?_;have wR:cA.length=es.length:=by rw[ic.len,uo,cf.len]
 rw[eK,<-ic.marks,<-wR]at bm;rw[eK,<-ic.marks]at E;refine Rc (aJ (fU wR) ah) (wR▸bm) ?_;have fin:bd (n+6) 1 [.ref 1,.tup [.int 12,.tup<|de cA,.int aV]] (S.w aa).st Q:=e4 (S:=S.w aa) g.ok (A4 aV cA) (aJ (da g.len) ap) λt i3 dV e=>q t cA i3 (g.trans dV) (ic.bf dV) e;clear bm eK cf ic wR q g aB;induction cA using List.casesOn with
 |nil=>exact fin
 |cons a r=>induction r using List.casesOn with
  |nil=>exact bh.ft (λh=>E<|by rw[fx,show a.2=2 from h];rfl) fin
  |cons c r=>exact fin
def b':Lm ĵ->Ĵ
 |[]=>0
 |m::r=>if m=2 then 0 else b' r+1
theorem Ad{l:Lm ĵ}:∀{i:Ĵ} {m:ĵ},l[i]?=some m->i<b' l->m≠2:=by
 induction l with
 |nil=>exact λh=>nomatch h
 |cons a r ar=>
  intro i m h ah;replace ah:i<(if a=2 then 0 else b' r+1):=ah;by_cases c:a=2
  .rw[bl c]at ah;exact absurd ah<|yM _
  .rw[bt c]at ah;induction i using Nat.casesOn with
   |zero=>exact cY h▸c
   |succ i=>exact ar (i:=i) h<|GY ah
theorem O7{l:Lm ĵ}:∀{i:Ĵ},l[i]?=some 2->i<=b' l->b' l=i:=by
 induction l with
 |nil=>exact λh=>nomatch h
 |cons a r ar=>
  intro i h ah;induction i using Nat.casesOn with
  |zero=>exact bl<|cY h
  |succ i=>
   replace ah:i+1<=(if a=2 then 0 else b' r+1):=ah;show(if a=2 then 0 else b' r+1)=i+1;by_cases c:a=2
   .rw[bl c]at ah;exact absurd ah<|Lw _
   .rw[bt c]at ah⊢;exact bX Nat.succ<|ar (i:=i) h<|v5 ah
theorem YZ{l:Lm ĵ}:∀{i:Ĵ} {m:ĵ},l[i]?=some m->m≠2->i<=b' l->i+1<=b' l:=by
 induction l with
 |nil=>exact λh=>nomatch h
 |cons a r ar=>
  intro i m h n ah;show i+1<=(if a=2 then 0 else b' r+1);induction i using Nat.casesOn with
  |zero=>rw[bt<|cY h▸n];exact da<|f7 _
  |succ i=>
   replace ah:i+1<=(if a=2 then 0 else b' r+1):=ah;by_cases c:a=2
   .rw[bl c]at ah;exact absurd ah<|Lw _
   .rw[bt c]at ah⊢;exact da<|ar (i:=i) h n<|v5 ah
theorem wW(l:Lm ĵ):b' l<=l.length:=by
 induction l with
 |nil=>exact dy _
 |cons m r ar=>
  show(if m=2 then 0 else b' r+1)<=r.length+1;by_cases c:m=2
  .rw[bl c];exact f7 _
  .rw[bt c];exact da ar
theorem y3:∀i,i<100->(dq<|Int.ofNat i).length<=10:=by decide+kernel
def kz (Y:ĵ) (F:bG->Lm aG) (eu i:Ĵ) (m:ĵ):g5:=if i<eu then(fC Y (decide<|m=1)<|F<|.txt<|dq i,if fT Y (decide<|m=1)=true then 1 else 0)else(fM Y<|F .N,if m=2 then 2 else 0)
def mj (Y:ĵ) (F:bG->Lm aG) (eu:Ĵ):Ĵ->Lm ĵ->Lm g5
 |_,[]=>[]
 |i,m::r=>kz Y F eu i m::mj Y F eu (i+1) r
theorem G7(Y:ĵ)(F:bG->Lm aG)(eu:Ĵ)(m:ĵ)(l:Lm ĵ):∀j:Ĵ,mj Y F eu j (l++[m])=mj Y F eu j l++[kz Y F eu (j+l.length) m]:=by
 induction l with
 |nil=>exact λ_=>rfl
 |cons a r ar=>exact λj=>(bX (List.cons _)<|ar<|j+1).trans (by rw[mE,v9];rfl)
theorem uj(Y:ĵ)(F:bG->Lm aG)(eu:Ĵ)(l:Lm ĵ):∀j:Ĵ,(mj Y F eu j l).length=l.length:=by
 induction l with
 |nil=>exact λ_=>rfl
 |cons a r ar=>exact λj=>bX Nat.succ<|ar<|j+1
theorem P0(Y:ĵ)(F:bG->Lm aG)(eu:Ĵ)(l:Lm ĵ):∀j:Ĵ,∀m∈(mj Y F eu j l).map (·.2),m≠3:=by
 have two:∀{p:Prop} [Decidable p] {x y:ĵ},x≠3->y≠3->(if p then x else y)≠3:=λ{p} _ x y ay a2=>by
  by_cases h:p
  .rw[bl h];exact ay
  .rw[bt h];exact a2
 induction l with
 |nil=>exact λ_ _ h=>nomatch h
 |cons a r ar=>
  intro j m h;cases h with
  |head=>
   show(kz Y F eu j a).2≠3;unfold kz;by_cases h:j<eu
   .rw[bl h];exact two (by decide) (by decide)
   .rw[bt h];exact two (by decide) (by decide)
  |tail _ h=>exact ar _ m h
theorem wh(Y:ĵ)(fP:Ģ)(K:Lm aG):(fC Y fP K).length<=K.length:=by
 have:=l1 (λa=> !decide (a=aG.b aO.bA)) K;unfold fC a';split
 .split
  .exact dy _
  .exact this
 .split
  .exact this
  .exact dy _
theorem AI(Y:ĵ)(K:Lm aG):(fM Y K).length<=K.length+1:=by
 have:=l1 (λa=> !decide (a=aG.b aO.bA)) K;unfold fM a';split
 .simp
 .split
  .exact iL ‹_›
  .exact j5 _
def Tv (es:Lm (Ĵ×ĵ)) (aV:ĵ) (x:cr):aK:=[.val<|.tup [.int 12,.tup<|de es,.int aV],x]
theorem V'{es:Lm (Ĵ×ĵ)}{aV:ĵ}(ah:es.length<=100)(aN:∀m∈es.map (·.2),m=0\/m=1\/m=2)(q:Q (au<|b'<|es.map (·.2)) s):bd (n+1) 29 [.tup [.int 12,.tup<|de es,.int aV]] s Q:=by
 k_go;lk;rw[mA];refine⟨rfl,iq<|fK ‹_›,(by rw[sb,qr];exact aJ ah<|aH rfl),?_⟩;refine cE.o_ (len:=es.length) (kg _) (λi K=>i<=b' (es.map (·.2))->∀x,K (Tv es aV x) s) (λi aA K ab a7 x=>?_) (λa7 x=>?_) λK ab=>ab (f7 _) _
 .have a6:es[i]?=some es[i]:=fl aA;have nP:(es.map (·.2))[i]?=some es[i].2:=by rw[gS,a6];rfl
  lk;refine ax.of (Ct a6) ?_;by_cases E:es[i].2=2
  .refine bh.mz (by show(decide (2=es[i].2)||_)=true;rw[dQ E.symm];rfl) ?_;rw[E]at nP;rw[O7 nP a7]at q;lk;exact q
  .have aB:¬3=es[i].2:=λq=>by rcases aN _ (ib nP)with h|h|h<;>rw[h]at q<;>exact absurd q (by decide)
   refine bh.ik (by show(decide (2=es[i].2)||(decide (3=es[i].2)||false))=false;rw[eC λq=>E q.symm,eC aB];rfl) ?_;lk;exact ab (YZ nP E a7) _
 .have:=wW<|es.map (·.2);rw[bR]at this;rw[vA this a7]at q;lk;rw[mA];exact q
def LY (row:B) (ce:Lm (Ĵ×ĵ)) (aV:ĵ) (es:Lm B) (x y z:cr):aK:=[.val<|.ref 10,.val row,.val<|.tup [.int 12,.tup<|de ce,.int aV],.ol es,.val<|au<|b'<|ce.map (·.2),x,y,z]
theorem NF{t:Ĵ}{F:bG->Lm aG}{cI nm Y aI aV:ĵ}{ce:Lm (Ĵ×ĵ)}{aT:Lm g5}{M:Lm ĵ}(T:Rows S.R)(h:f9 S.R t F)(az:Y=0\/Y=1\/Y=2)(dj:aI=0\/aI=1\/aI=2)(ah:ce.length<=20)(aN:∀m∈ce.map (·.2),m=0\/m=1\/m=2)(ap:S.R.length+250<=a3)(eY:aT=mj Y F (b'<|ce.map (·.2)) 0 (ce.map (·.2)))(eK:M=(jd (iy (λm=>decide<|m∈[(0:ĵ)]) (aT.map (·.2)) ce.length) 0 aT).map (·.2))(E:M≠[2])(bm:j0 M ce.length<0\/iy (λm=>decide<|m∈[(2:ĵ),1]) (aT.map (·.2)) ce.length<=j0 M ce.length)(q:∀u cA aa,a_ S.R aa 250->hd 15 aa cA (jd (iy (λm=>decide<|m∈[(0:ĵ)]) (aT.map (·.2)) ce.length) 0 aT)->aa[u]?=some (.tup [.int 12,.tup<|de cA,.int<|if aI=1 then 1 else if aI=2 then 0 else aV])->Q (au u) (S.w aa).st):bd (n+19) 60 [.ref 10,fW cI nm t Y aI,.tup [.int 12,.tup<|de ce,.int aV]] S.st Q:=by
 have kN:=λkey=>h.len key;have fp:=T.at (t:=7) rfl;k_go;refine V' (aJ ah<|aH rfl) aN ?_;lk;rw[mA];refine⟨rfl,iq<|fK ‹_›,(by rw[sb,qr];exact aJ ah<|aH rfl),?_⟩;refine cE.o_ (len:=ce.length) (kg _) (λi K=>∀aa cA x y z,a_ S.R aa (9*i)->hd 14 aa cA (mj Y F (b'<|ce.map (·.2)) 0<|(ce.map (·.2)).take i)->K (LY (fW cI nm t Y aI) ce aV (de cA) x y z) (S.w aa).st) (λi aA K ab aa cA x y z g eL=>?_) (λaa cA x y z g eL=>?_) λK ab=>ab S.R [] _ _ _ (a_.refl T) .nil
 .have a6:ce[i]?=some ce[i]:=fl aA;have nP:(ce.map (·.2))[i]?=some ce[i].2:=by rw[gS,a6];rfl
  have pC:(ce.map (·.2)).take (i+1)=(ce.map (·.2)).take i++[ce[i].2]:=by rw[y',nP];rfl
  have AF:((ce.map (·.2)).take i).length=i:=ux (by rw[bR];exact kq aA);have qs:=aJ (kq aA) ah;have iV:cA.length=i:=by have:=eL.len;rw[uj,AF]at this;exact this
  have g':(de cA).length+1<=a3:=by rw[mA,iV];exact aJ (da qs)<|aH rfl
  have tK:a_ S.R aa 180:=g.le<|hc 9 qs;lk;refine ax.of (Ct a6)<|bh.ef (λG=>?_) λG=>?_
  .have mu:i<b' (ce.map (·.2)):=iM.mp G;have lF:=Ad nP mu;lk;refine Qf (S:=S.w aa) (lW:=i) g.ok (h.bf g) az (aN ce[i].2<|ib nP) (iq<|aJ qs<|aH rfl) (aJ (y3 i<|hN qs<|aH rfl)<|aH rfl) (tK.room ap<|aH rfl) λu i3 dV ty=>?_;rw[bt lF]at ty;refine⟨g',?_⟩;have ab:=ab i3 (cA++[(u,if fT Y (decide<|ce[i].2=1)=true then 1 else 0)]) (.val<|au i) (.val<|.tup [au ce[i].1,.int ce[i].2]) z (by rw[xP];exact g.trans dV) (by rw[pC,G7,iG,AF];refine b_.snoc ?_<|eL.bf dV;unfold kz;rw[bl mu];exact⟨rfl,ty,aJ (wh _ _ _)<|aJ (kN _)<|aH rfl⟩);rw[<-s4]at ab;lk;rw[bt lF];exact ab
  .have mu:¬i<b' (ce.map (·.2)):=λx=>G<|iM.mpr x;refine u2 (S:=S.w aa) (k:=7) (key:=.N) g.ok (h.bf g) rfl (tK.room ap<|aH rfl) λu bu bj ty=>CM (S:=S.w bu) bj.ok ty az (hN (kN _)<|jC rfl) ((tK.trans bj).room ap<|aH rfl) λv dX cK uY=>?_;have ab:∀iS:ĵ,iS=(if ce[i].2=2 then 2 else 0)->K (LY (fW cI nm t Y aI) ce aV (de cA++[.tup [au v,.int iS]]) (.val<|au i) (.val<|.tup [au ce[i].1,.int ce[i].2])<|.val<|au v) (S.w dX).st:=λiS kA=>by rw[s4];refine ab dX _ _ _ _ (by rw[xP];exact(((g.trans bj).trans cK).le<|by show 9*i+8<=9*i+9;exact j5 _)) ?_;rw[pC,G7,iG,AF];refine b_.snoc ?_<|(eL.bf bj).bf cK;unfold kz;rw[bt mu];exact⟨kA,uY,aJ (AI _ _)<|da<|kN _⟩
   refine bh.ef (λE=>?_) λE=>?_
   .refine⟨g',?_⟩;lk;exact ab 2 (by rw[bl E])
   .refine⟨g',?_⟩;lk;exact ab 0 (by rw[bt E])
 .rw[sG<|by rw[bR];exact dy _]at eL;have tK:a_ S.R aa 180:=g.le<|hc 9 ah;rw[<-eY]at eL;have Ik:=eL.marks;have iV:cA.length=ce.length:=by rw[eL.len,eY,uj,bR]
  have DT:=aJ (fU iV) ah;rw[<-Ik,<-iV]at eK bm q;refine yr dj<|Pp (S:=S.w aa) g.ok eL (aH rfl) (aJ DT<|aH rfl) (aJ (fO (gJ tK.len DT) 1)<|aJ (fU<|by rfl)<|aJ (gp (aH rfl:201<=250) _) ap) (by rw[Ik,eY];exact P0 _ _ _ _ _) eK E bm λu W5 bu bj sQ a8=>?_;exact q u W5 bu ((tK.trans bj).le<|aJ (gp (da DT) _)<|aH rfl) sQ a8
inductive hF
 |own
 |key
 |fix (K:List aO)
 |tab (ep e3 el:List aO)
structure cG where
 h6:hF
 e7:Nat
def hF.num:hF->ĵ
 |.own=>0
 |.key=>1
 |.fix _=>2
 |.tab _ _ _=>3
def hF.at:hF->bG->Lm aO
 |.own,k=>[.ao k]
 |.key,k=>[k.sN]
 |.fix K,_=>K
 |.tab ep e3 el,k=>jy ep e3 el k
def gA (e7:Ĵ) (K:Lm aO):Lm aG:=(if e7%2=1 then [.arr K]else K.map .b)++(if 1<e7 then [.b .bA]else [])
def cG.at (p:cG) (k:bG):Lm aG:=gA p.e7<|p.h6.at k
def hF.fixed:hF->Lm B
 |.fix K=>K.map aO.aW
 |_=>[]
def hF.table:hF->Lm (B×B)
 |.tab ep e3 el=>[(.str [48],.lst<|ep.map aO.aW),(.str [97],.lst<|e3.map aO.aW),(.str [42],.lst<|el.map aO.aW)]
 |_=>[]
def cG.aW (p:cG):B:=.tup [.int p.h6.num,.int p.e7,.lst p.h6.fixed,.a9 p.h6.table]
structure cG.ok(p:cG):Prop where
 e7:p.e7<4
 len:∀k,(p.h6.at k).length<=12
theorem bG.Q_(k:bG):k.sN.aW=k.aW:=by induction k<;>rfl
theorem lu{a b:Lm B}(h:a.length+b.length<=1000):Up.bin .add (.lst a) (.lst b)=some (.lst<|a++b):=by show i7 (a.length+b.length) (B.lst<|a++b)=_;unfold i7;rw[bl<|by unfold a3;exact fK ‹_›]
theorem JZ{aC:Type}(x:aC):∀n,mn n [x]=List.replicate n x
 |0=>rfl
 |n+1=>by show x::mn n [x]=_;rw[JZ x n];rfl
theorem Ev{o:Ĵ}(h:o<=1000)(x:B):Up.bin .mul (.lst [x]) (au o)=some (.lst<|List.replicate o x):=by show(if small (o:ĵ)then i7 (Int.toNat (o:ĵ)*1) (B.lst<|mn (Int.toNat (o:ĵ)) [x])else none)=_;rw[iq h,qr,JZ];unfold i7;rw[bl (by rfl),bl<|by unfold a3;omega]
theorem æ{t src:Ĵ}{F:bG->Lm aG}{cI nm Y aI:ĵ}{e:Ĵ}{aV:ĵ}(T:Rows S.R)(h:f9 S.R t F)(az:Y=0\/Y=1\/Y=2)(dj:aI=0\/aI=1\/aI=2)(aM:S.R[src]?=some (hV e aV))(ap:S.R.length+9<=a3)(q:∀u x aa,a_ S.R aa 9->d4.Ty aa x (fM Y<|F .N)->aa[u]?=some (hV x<|if aI=1 then 1 else if aI=2 then 0 else aV)->Q (au u) (S.w aa).st):bd (n+17) 55 [.ref 10,fW cI nm t Y aI,au src,.bool false] S.st Q:=by have kN:=h.len .N;k_go;lk;refine u2 (k:=7) (key:=.N) T h rfl (hp ‹_›) λu aa g ty=>?_;have:=g.len;refine CM (S:=S.w aa) g.ok ty az (BI ‹_›) (by show aa.length+2<=a3;omega) λx bu bj DK=>?_;have:=bj.len;have c0:(S.w aa).R.length=aa.length:=rfl;refine yr dj ?_;k_go;refine e4 (S:=S.w bu) bj.ok rfl (by show bu.length+1<=a3;omega) λv dX cK cZ=>?_;exact q v x dX ((g.trans bj).trans cK) (DK.bf cK) cZ
theorem SK(x:bv)(ep e3 el:Lm aO):hu .isin s (.str x) (.a9<|hF.table<|.tab ep e3 el)=some (decide ([48]=x)||(decide ([97]=x)||decide ([42]=x))):=by
 show(if ej (.str x) (hF.table<|.tab ep e3 el)then(fh (.str x)<|hF.table<|.tab ep e3 el).map (·.isSome)else none)=_;rw[show ej (.str x) (hF.table<|.tab ep e3 el)=true from rfl,bl rfl];show(match(some (decide<|[48]=x):Ĳ Ģ)with|some true=>some (some<|B.lst<|ep.map aO.aW)|some false=>(match(some (decide<|[97]=x):Ĳ Ģ)with|some true=>some (some<|B.lst<|e3.map aO.aW)|some false=>(match(some (decide<|[42]=x):Ĳ Ģ)with|some true=>some (some<|B.lst<|el.map aO.aW)|some false=>some none|none=>none)|none=>none)|none=>none:Ĳ (Ĳ B)).map Option.isSome=_;cases decide ([48]=x)with
 |true=>rfl
 |false=>
  cases decide ([97]=x)with
  |true=>rfl
  |false=>cases decide ([42]=x)<;>rfl
theorem Rn(K:Lm aO):(gA 0 K).map aG.aW=K.map aO.aW/\(gA 1 K).map aG.aW=[.tup [.str [91],.tup<|K.map aO.aW]]/\(gA 2 K).map aG.aW=K.map aO.aW++[.tup [.str [119],.str [117]]]/\(gA 3 K).map aG.aW=[.tup [.str [91],.tup<|K.map aO.aW]]++[.tup [.str [119],.str [117]]]:=by
 have LU:∀K:Lm aO,(K.map aG.b).map aG.aW=K.map aO.aW:=λK=>by rw[f8];rfl
 refine⟨?_,rfl,?_,rfl⟩
 .rw[<-LU];simp[gA]
 .rw[<-LU];simp[gA,aG.aW,aO.aW]
theorem SY{K:Lm aO}{aQ:Lm B}{e7 m:Ĵ}{iW e0 fS km oX:cr}(ap:e7<4)(ah:K.length<=12)(ct:aQ=K.map aO.aW)(q:Q (.lst<|(gA e7 K).map aG.aW) s):bw m (zX.body.drop 5) [iW,e0,fS,.val<|.int e7,km,oX,.val<|.lst aQ] s (λcM _ aq=>Q cM.val aq):=by
 obtain⟨cy,cT,Y6,Vt⟩:=Rn K;rw[ct];rcases zm ap with e|e|e|e<;>rw[e]at q⊢
 .rw[cy]at q;exact q
 .rw[cT]at q;exact q
 .rw[Y6]at q;exact ax.of (lu<|aJ (da<|aJ (fU (bR ..)) ah)<|aH rfl) q
 .rw[Vt]at q;exact q
theorem uk{p:cG}{k:bG}(ae:p.ok)(q:Q (.lst<|(p.at k).map aG.aW) s):bd (n+1) 80 [p.aW,k.aW] s Q:=by
 obtain⟨h6,e7⟩:=p;have step:∀{aQ:Lm B} {K:Lm aO} {m:Ĵ} {iW e0 fS km oX:cr},K=h6.at k->aQ=K.map aO.aW->bw m (zX.body.drop 5) [iW,e0,fS,.val<|.int e7,km,oX,.val<|.lst aQ] s (λcM _ aq=>Q cM.val aq):=λe ct=>SY ae.e7 (ae.len k) (by rw[ct,e]) q;clear q ae;k_go;induction h6 with
 |own=>exact step rfl rfl
 |key=>exact step rfl<|bX (λv=>[v]) k.Q_.symm
 |fix K=>exact step rfl rfl
 |tab ep e3 el=>
  induction k with
  |S=>exact step (K:=el) rfl rfl
  |N=>exact step (K:=el) rfl rfl
  |txt x=>
   by_cases G:[48]=x
   .subst G;exact step (K:=ep) rfl rfl
   .by_cases E:[97]=x
    .subst E;exact step (K:=e3) rfl rfl
    .have ab:el=(hF.tab ep e3 el).at (.txt x):=by simp[hF.at,jy,G,E]
     by_cases aB:[42]=x
     .subst aB;exact step ab rfl
     .exact ax.of (SK x ep e3 el)<|bh.ik (by rw[eC G,eC E,eC aB];rfl)<|step ab rfl
noncomputable abbrev nF:B:=.tup [.str [119],.str [117]]
theorem wg(a:aG):fu a.aW nF=some (decide<|a=.b .bA):=by
 induction a with
 |arr K=>show some (decide ([91]=[119])&&(false&&true))=_;simp
 |b a=>
  induction a with
  |txt x=>show some (decide (([116]:bv)=[119])&&(decide (x=[117])&&true))=_;simp
  |num i=>show some (decide (([35]:bv)=[119])&&(false&&true))=_;simp
  |ao k=>induction k<;>(show some (decide (([84]:bv)=[119])&&(false&&true))=_;simp)
  |_=>rfl
theorem Fb(a:aG):hu .ne s a.aW nF=some (!decide (a=.b .bA)):=by show(fu a.aW nF).map (!·)=_;rw[wg];rfl
theorem Ix(K:Lm aG):(K.map aG.aW).flatMap (λv=>if(fu v nF)=some true then []else [v])=(a' K).map aG.aW:=by
 induction K with
 |nil=>rfl
 |cons a K ar=>
  rw[fx,qK,ar,wg];unfold a';rw[h2];by_cases h:a=.b .bA
  .simp[h]
  .simp[h]
theorem Dh{K:Lm aG}{Y:ĵ}{fP:Ģ}(az:Y=0\/Y=1\/Y=2)(q:Q (.tup [.lst<|(fC Y fP K).map aG.aW,.int<|if fT Y fP=true then 1 else 0]) s):bd (n+1) 85 [.lst<|K.map aG.aW,.int Y,.int<|if fP=true then 1 else 0] s Q:=by
 k_go;refine di.comp rfl<|pi (f:=λv=>if(fu v nF)=some true then []else [v]) rfl ?_ ?_
 .intro v af bT bb;obtain⟨a,ak,rfl⟩:=dn.mp af;clear af;refine eN.mk ?_;lk;refine ax.of (Fb a) ?_;by_cases h:a=.b .bA
  .rw[bl<|by rw[wg,dQ h]]at bb;exact bh.ik (by simp[h]) bb
  .rw[bt<|by rw[wg,eC h];simp]at bb;exact bh.mz (by simp[h]) bb
 .rw[Ix];have fin:∀(T7:Ģ),T7=fP->True:=λ_ _=>trivial;rcases az with rfl|rfl|rfl<;>induction fP
  .have e:fC 0 false K=K:=rfl;rw[e]at q;exact q
  .induction bm:a' K with
   |nil=>
    have e:fC 0 true K=K:=by show(if a' K=[]then K else a' K)=K;rw[bl bm]
    rw[e]at q;exact q
   |cons a r=>
    have e:fC 0 true K=a::r:=by show(if a' K=[]then K else a' K)=_;rw[bt (by rw[bm];simp),bm]
    rw[e]at q;exact q
  .induction bm:a' K with
   |nil=>
    have e:fC 1 false K=K:=by show(if a' K=[]then K else a' K)=K;rw[bl bm]
    rw[e]at q;exact q
   |cons a r=>
    have e:fC 1 false K=a::r:=by show(if a' K=[]then K else a' K)=_;rw[bt (by rw[bm];simp),bm]
    rw[e]at q;exact q
  .induction bm:a' K with
   |nil=>
    have e:fC 1 true K=K:=by show(if a' K=[]then K else a' K)=K;rw[bl bm]
    rw[e]at q;exact q
   |cons a r=>
    have e:fC 1 true K=a::r:=by show(if a' K=[]then K else a' K)=_;rw[bt (by rw[bm];simp),bm]
    rw[e]at q;exact q
  .have e:fC 2 false K=K:=rfl;rw[e]at q;exact q
  .have e:fC 2 true K=a' K:=rfl;rw[e]at q;exact q
noncomputable abbrev dz.go (S:dz) (d:Ĵ):dz:={S with d:=d}
structure n4(l:List B):Prop where
 ne:l≠[]
 int:∀v∈l,∃i,v=.int i
 len:l.length<=1000
theorem LI{n:Ĵ}(h:n<=536870912):small (n:ĵ)=true:=lP (dQ<|wz (by decide)<|nt n)<|dQ<|ud.mpr h
theorem hI{m:ĵ}(c':n4 S.nums)(bg:S.d<=100000)(aN:0<m)(q:∀v:Ĵ,(v:ĵ)<m->Q (au v) (S.go<|S.d+1).st):bd (n+1) 73 [.ref 0,.int m] S.st Q:=by
 have ah:0<S.nums.length:=List.length_pos_iff.mpr c'.ne;have cU:=sO S.d ah;obtain⟨i,aA⟩:=c'.int _<|w_ cU;have o8:S.d/S.nums.length<=S.d:=Nat.div_le_self _ _;k_go;refine ax.of (show Up.bin .mod (.int S.d) (.int (S.nums.length:ĵ))=some (.int ((S.d%S.nums.length:Ĵ):ĵ))from ?_) ?_
 .show(if(S.nums.length:ĵ)=0 then none else some (B.int<|Int.fmod S.d S.nums.length))=_;rw[bt<|Lf.mpr<|x_ ah,(C7 _ _).symm]
 refine ax.of (show ho (S.go<|S.d+1).st (.lst S.nums) (au<|S.d%S.nums.length)=some (.int i)from ?_) ?_
 .show(jM _ S.nums.length).bind (λj=>S.nums[j]?)=_;rw[p3 cU];show S.nums[S.d%S.nums.length]?=_;rw[fl cU,aA]
 refine ax.of (show Up.bin .fdiv (.int S.d) (.int (S.nums.length:ĵ))=some (.int ((S.d/S.nums.length:Ĵ):ĵ))from ?_) ?_
 .show(if(S.nums.length:ĵ)≠0/\(small S.d&&small S.nums.length)=true then some (B.int<|Int.fdiv S.d S.nums.length)else none)=_;rw[bl ⟨Lf.mpr<|x_ ah,lP (LI<|aJ bg<|aH rfl)<|LI<|aJ c'.len<|aH rfl⟩,(Int.ofNat_fdiv _ _).symm]
 refine ax.of (show Up.bin .mul (.int 7) (.int ((S.d/S.nums.length:Ĵ):ĵ))=some (.int<|7*((S.d/S.nums.length:Ĵ):ĵ))from ?_) ?_
 .show(if(small 7&&small _)=true then some (B.int<|7*((S.d/S.nums.length:Ĵ):ĵ))else none)=_;rw[bl];generalize S.d/S.nums.length=z at*;unfold small;simp only[eW,jD];omega
 refine ax.of (show Up.bin .mod (.int<|i+7*((S.d/S.nums.length:Ĵ):ĵ)) (.int m)=some (.int<|Int.fmod (i+7*((S.d/S.nums.length:Ĵ):ĵ)) m)from ?_) ?_
 .show(if m=0 then none else some _)=_;rw[bt<|by omega]
 have aF:=Int.fmod_nonneg_of_pos (i+7*((S.d/S.nums.length:Ĵ):ĵ)) aN;obtain⟨v,af⟩:=yW aF;clear aF;have:=q v (by rw[<-af];exact(Int.fmod_lt_of_pos (i+7*((S.d/S.nums.length:Ĵ):ĵ)) aN));rw[<-show(B.int<|Int.fmod (i+7*((S.d/S.nums.length:Ĵ):ĵ)) m)=au v from bX B.int af]at this;exact this
def rS:Lm aO:=[.txt [97],.S,.bA,.num 0,.N,.nul,.txt [98],.num 1]
theorem aO.fE(a:aO):Up.fE 16 a.aW=true:=by
 induction a with
 |ao k=>induction k<;>rfl
 |_=>rfl
theorem QG(a:aO)(K:Lm aO):∃b,hO a.aW (K.map aO.aW)=some b:=by
 rcases D1 a.fE (l:=K.map aO.aW) (λx ay=>by obtain⟨b,_,rfl⟩:=dn.mp ay;clear ay;exact b.fE)with⟨_,e⟩|⟨_,e⟩
 .exact⟨true,e⟩
 .exact⟨false,e⟩
structure Drawn(K:List aO):Prop where
 len:K.length<=3
 pd:∀a∈K,a∈rS
theorem qZ(c':n4 S.nums)(bg:S.d<=90000)(q:∀K d,S.d<=d->d<=S.d+4->Drawn K->Q (.lst<|K.map aO.aW) (S.go d).st):bd (n+2) 74 [.ref 0] S.st Q:=by
 k_go;refine hI c' (fK ‹_›) (by omega) λv af=>?_;obtain⟨c,L6,ap⟩:=vr (f:=au) (l:=[1,2,3,1,2,0])<|gM af;replace L6:c<=3:=(by decide:∀c∈[1,2,3,1,2,0],c<=3) c L6;refine ax.of (ap _)<|⟨rfl,iq<|fK ‹_›,?_,?_⟩
 .rw[show((c:ĵ)-0).toNat=c by omega];unfold a3;exact fK ‹_›
 .refine cE.eA (len:=c) (λi r aq=>gV λK d x y=>rx (aq=(S.go d).st) (S.d<=d) (d<=S.d+1+i) (r=[.val<|.ref 0,.val<|.lst<|rS.map aO.aW,.ol<|(K:Lm aO).map aO.aW,x,y]) (K.length<=i) (∀a∈K,a∈rS)) (kg _) ⟨[],S.d+1,_,_,rfl,j5 _,dy _,rfl,by simp,by simp⟩ ?_ ?_
  .rintro i aA r aq _ _ _ _⟨K,d,x,y,rfl,aF,G,rfl,E,aB⟩;refine hI (S:=S.go d) c' (by show d<=100000;omega) (by omega) λv af=>?_;obtain⟨a,ak,Ra⟩:=vr (f:=aO.aW) (l:=rS)<|gM af;refine ax.of (Ra _) ?_;obtain⟨b,av⟩:=QG a K;refine ax.of (show hu .f5 _ a.aW (.lst<|K.map aO.aW)=some (!b)from by show(hO a.aW<|K.map aO.aW).map (!·)=_;rw[av];rfl) ?_;induction b with
   |true=>lk;exact⟨K,d+1,_,_,rfl,by omega,by omega,rfl,iL ‹_›,aB⟩
   |false=>
    lk;refine⟨by rw[bR];unfold a3;omega,?_⟩;lk;refine⟨K++[a],d+1,_,_,rfl,by omega,by omega,by rw[c4];rfl,by simp;omega,?_⟩;intro z hz;rcases gm.mp hz with hz|hz
    .exact aB z hz
    .rw[cV.mp hz];exact ak
  .rintro r aq⟨K,d,x,y,rfl,aF,G,rfl,E,aB⟩;exact q K d aF (by omega) ⟨by omega,aB⟩
theorem v3{t:Ĵ}{cL:ĵ}{l:Lm B}(h:S.R[t]?=some (.tup<|.int cL::l))(aE:cL=8\/cL=9\/cL=11\/cL=12\/cL=13)(q:Q (.bool false) S.st):bd (n+2) 58 [.ref 1,au t] S.st Q:=by k_go;lk;k_go;rcases aE with rfl|rfl|rfl|rfl|rfl<;>(lk;exact q)
theorem NZ{t src:Ĵ}{F:bG->Lm aG}{cI Y aI:ĵ}{e:Ĵ}{aV:ĵ}(T:Rows S.R)(h:f9 S.R t F)(az:Y=0\/Y=1\/Y=2)(dj:aI=0\/aI=1\/aI=2)(aM:S.R[src]?=some (hV e aV))(ap:S.R.length+9<=a3)(q:∀u x aa,a_ S.R aa 9->d4.Ty aa x (fM Y<|F .N)->aa[u]?=some (hV x<|if aI=1 then 1 else if aI=2 then 0 else aV)->Q (au u) (S.w aa).st):bd (n+18) 59 [.ref 10,fW cI (-1) t Y aI,au src] S.st Q:=by k_go;lk;exact v3 aM (by omega)<|æ T h az dj aM ap q
theorem BW{t src nm:Ĵ}{cL:ĵ}{l:Lm B}{cI Y aI:ĵ}(aM:S.R[src]?=some (.tup<|.int cL::l))(aE:cL=8\/cL=9\/cL=11\/cL=12\/cL=13)(q:Q (.int 11) S.st):bd (n+3) 59 [.ref 10,fW cI nm t Y aI,au src] S.st Q:=by k_go;lk;exact v3 aM aE q
theorem yU:∀a:bv,gb a a=false
 |[]=>rfl
 |a::r=>by rw[gb,bt<|jZ a,bl rfl];exact yU r
theorem JN:∀a b:bv,a=b\/gb a b=true\/gb b a=true
 |[],[]=>.inl rfl
 |[],_::_=>.inr<|.inl rfl
 |_::_,[]=>.inr<|.inr rfl
 |a::r,b::t=>by
  rcases Gz a b with h|rfl|h
  .exact .inr (.inl<|by rw[gb,bl h])
  .rcases JN r t with rfl|h|h
   .exact .inl rfl
   .exact .inr (.inl<|by rw[gb,bt<|jZ a,bl rfl];exact h)
   .exact .inr (.inr<|by rw[gb,bt<|jZ a,bl rfl];exact h)
  .exact .inr (.inr<|by rw[gb,bl h])
theorem xT:∀{a b c:bv},gb a b=true->gb b c=true->gb a c=true
 |[],[],_,h,_=>by exact cq h
 |[],_::_,[],_,h=>by exact cq h
 |[],_::_,_::_,_,_=>rfl
 |_::_,[],_,h,_=>by exact cq h
 |_::_,_::_,[],_,h=>by exact cq h
 |a::r,b::t,c::u,G,E=>by
  rw[gb]at G E⊢;split at G
  .rename_i x;split at E
   .rename_i y;rw[bl<|qL x y]
   .split at E
    .rename_i y;subst y;rw[bl x]
    .exact cq E
  .split at G
   .rename_i x;subst x;split at E
    .rename_i y;rw[bl y]
    .split at E
     .rename_i y;subst y;rw[bt<|jZ a,bl rfl];exact xT G E
     .exact cq E
   .exact cq G
noncomputable abbrev ek (x:bv):B:=.str x
abbrev oF(a b:bv):Prop:=gb a b=true
theorem F7{x y:bv}(n:x≠y)(h:gb x y=false):oF y x:=((JN x y).resolve_left n).resolve_left λq=>hK<|q.symm.trans h
theorem Sn(bJ:Lm bv)(h:bJ.Nodup):∃cR:Lm bv,iU (bJ.map ek)=some (cR.map ek)/\cR.Pairwise oF/\(∀p,p∈cR↔p∈bJ)/\cR.length=bJ.length:=by obtain⟨cR,e,G,E⟩:=uL (f:=ek) (b:=gb) (R:=oF) (λ_ _ _=>rfl) (λ_ _ h=>h) (λ_ _ n h=>F7 n h) (λ_ _ _ a b=>xT a b) h;exact⟨cR,e,G,λ_=>E.mem_iff,E.length_eq⟩
theorem PV{a b:Lm bv}:a.Pairwise oF->b.Pairwise oF->(∀p,p∈a↔p∈b)->a=b:=Gc λ_ _ p q=>hK<|(xT p q).symm.trans<|yU _
def qn (Y:ĵ) (eu i:Ĵ) (m:ĵ):ĵ:=if i<eu then(if fT Y (decide<|m=1)=true then 1 else 0)else(if m=2 then 2 else 0)
def v' (Y:ĵ) (eu:Ĵ):Ĵ->Lm ĵ->Lm ĵ
 |_,[]=>[]
 |i,m::r=>qn Y eu i m::v' Y eu (i+1) r
def uz (dN:ĵ) (i:Ĵ) (m:ĵ):ĵ:=if m=1/\(i:ĵ)<dN then 0 else m
def x3 (dN:ĵ):Ĵ->Lm ĵ->Lm ĵ
 |_,[]=>[]
 |i,m::r=>uz dN i m::x3 dN (i+1) r
theorem Df(Y:ĵ)(F:bG->Lm aG)(eu:Ĵ)(l:Lm ĵ):∀j:Ĵ,(mj Y F eu j l).map (·.2)=v' Y eu j l:=by
 induction l with
 |nil=>exact λ_=>rfl
 |cons m r ar=>intro j;show(kz Y F eu j m).2::(mj Y F eu (j+1) r).map (·.2)=qn Y eu j m::_;rw[ar];unfold kz qn;split<;>rfl
theorem Y4(dN:ĵ)(ai:Lm g5):∀j:Ĵ,(jd dN j ai).map (·.2)=x3 dN j (ai.map (·.2)):=by
 induction ai with
 |nil=>exact λ_=>rfl
 |cons c r ar=>
  intro j;show(conv dN j c).2::(jd dN (j+1) r).map (·.2)=uz dN j c.2::_;rw[ar];unfold conv uz
  split<;>rfl
def hf:Lm (Lm ĵ):=(List.range 3).flatMap λi=>((List.range 3).flatMap λj=>[List.replicate i 0++List.replicate j 1,List.replicate i 0++List.replicate j 1++[2]])++[List.replicate i 0++[2]++[0],List.replicate i 0++[2]++[0,0]]
def xf (Y:ĵ) (aw:Lm ĵ):Ģ:=let b:=v' Y (b' aw) 0 aw;let c:=x3 (iy (λm=>decide<|m∈[(0:ĵ)]) b aw.length) 0 b;decide (j0 c aw.length<0)||decide (iy (λm=>decide<|m∈[(2:ĵ),1]) b aw.length<=j0 c aw.length)
theorem YY:(hf.all λaw=>xf 0 aw&&(xf 1 aw&&xf 2 aw))=true:=by decide+kernel
theorem Vx{Y:ĵ}{aw:Lm ĵ}(az:Y=0\/Y=1\/Y=2)(ae:aw∈hf):xf Y aw=true:=by have h:=(eW _ _).mp<|d6.mp YY aw ae;have E:=(eW _ _).mp h.2;exact az.elim (· ▸h.1) λaz=>az.elim (· ▸E.1) (· ▸E.2)
abbrev c2:=bv×Ĵ×ĵ×ĵ
def ff (p:c2):B:=.tup [.str p.1,au p.2.1,.int p.2.2.1,.int p.2.2.2]
def hH (aj:Lm c2):Lm (B×B):=aj.map λp=>(ek p.1,ff p)
theorem J6(x:bv)(aj:Lm c2):ej (.str x) (hH aj)=true:=wk rfl λ_=>rfl
theorem Mi(aj:Lm c2):sE (hH aj):=λp ae=>by obtain⟨m,_,rfl⟩:=dn.mp ae;clear ae;rfl
theorem CJ{aj:Lm c2}(b6:(aj.map (·.1)).Nodup){p:c2}(ae:p∈aj):∀{s:St},ho s (.a9<|hH aj) (.str p.1)=some (ff p):=by
 intro s;show(if ej (.str p.1) (hH aj)then(fh (.str p.1)<|hH aj).bind id else none)=_;rw[J6,bl rfl];rcases yg (k:=.str p.1) rfl (Mi aj)with⟨v,m,e⟩|⟨m,e⟩
 .rw[e];obtain⟨z,hz,a8⟩:=dn.mp m;clear m;have G:z.1=p.1:=by have:=bX Prod.fst a8;exact B.str.inj this
  have E:v=ff z:=(bX Prod.snd a8).symm;have:z=p:=by
   have m6:∀(l:Lm c2),(l.map (·.1)).Nodup->z∈l->p∈l->z=p:=by
    intro l;induction l with
    |nil=>intro _ h;cases h
    |cons a r ar=>
     intro b6 hz ae;rw[fx,hT]at b6;rcases eJ.mp hz with ag|vI<;>rcases eJ.mp ae with a8|uV
     .rw[ag,a8]
     .exact absurd (fy (f:=λx:c2=>x.1) uV) (by rw[<-G,ag];exact b6.1)
     .exact absurd (fy (f:=λx:c2=>x.1) vI) (by rw[G,a8];exact b6.1)
     .exact ar b6.2 vI uV
   exact m6 aj b6 hz ae
  rw[E,this];rfl
 .exact absurd (by unfold hH;rw[f8];exact fy (f:=(λx:B×B=>x.1)∘λp:c2=>(ek p.1,ff p)) ae) m
theorem OQ{aj:Lm c2}{arg:B}(ak:items arg=some (aj.map ff))(b6:(aj.map (·.1)).Nodup)(ah:aj.length<64)(q:∀dJ:Lm c2,(dJ.map (·.1)).Pairwise oF->(∀p,p∈dJ↔p∈aj)->dJ.length=aj.length->Q (.tup<|dJ.map ff) s):bd (n+1) 9 [arg] s Q:=by
 k_go;refine ax.of ak<|cE.map rfl (λdone r aq=>aq=s/\∃x:cr,r=[.val arg,.od<|hH done,x,.un]) ?_ ?_ ⟨rfl,_,rfl⟩
 .rintro done p a' ag r aq _ _ _ _⟨rfl,x,rfl⟩;have tM:B.str p.1∉(hH done).map (·.1):=by intro h;obtain⟨z,hz,e⟩:=dn.mp h;clear h;obtain⟨y,a2,rfl⟩:=dn.mp hz;clear hz;rw[ag,c4,nd]at b6;exact b6.2.2 _ (fy (f:=λx:c2=>x.1) a2) p.1 (by simp)<|B.str.inj e
  have dP:(hH done++[(ek p.1,ff p)]).length<=a3:=by have:=bX List.length ag;rw[c_,mE]at this;rw[c_];unfold hH;rw[bR];unfold a3;simp;omega
  refine⟨J6 _ _,ax.of (xv rfl (Mi _) tM) ⟨dP,?_⟩⟩;lk;exact⟨rfl,_,by unfold hH;rw[c4];rfl⟩
 .rintro r aq⟨rfl,x,rfl⟩;obtain⟨cR,n9,sa,kx,sX⟩:=Sn _ b6;have aA:kC .sorted [.a9<|hH aj]=some (.lst<|cR.map ek):=by
   show((if(((hH aj).all λe=>eG e.1==1)||((hH aj).all λe=>eG e.1==2))=true then some ((hH aj).map (·.1))else none).bind λl=>if l.length<64 then iU l else none).map B.lst=_;have E:((hH aj).all λe=>eG e.1==2)=true:=by unfold hH;rw[oS];exact d6.mpr λ_ _=>rfl
   rw[E,yn,bl rfl];have aB:(hH aj).map (·.1)=(aj.map (·.1)).map ek:=by unfold hH;simp
   show((if((hH aj).map (·.1)).length<64 then iU ((hH aj).map (·.1))else none).map B.lst)=_;rw[aB,bl (by simpa using ah),n9];rfl
  have o0:∀l:Lm bv,(∀x∈l,x∈aj.map (·.1))->∃aw:Lm c2,aw.map (·.1)=l/\∀p∈aw,p∈aj:=by
   intro l;induction l with
   |nil=>intro _;exact⟨[],rfl,λ_ h=>by cases h⟩
   |cons x r ar=>intro h;obtain⟨aw,ag,a8⟩:=ar λy a2=>h y<|.tail _ a2;obtain⟨p,ae,e⟩:=dn.mp<|h x<|.head _;exact⟨p::aw,by rw[fx,ag,e],λz hz=>(eJ.mp hz).elim (λq=>q▸ae)<|a8 z⟩
  obtain⟨aw,gh,ed⟩:=o0 cR λx ay=>(kx x).mp ay;refine di.m8 rfl<|ax.of (show pg .sorted aq [.a9<|hH aj]=_ from aA) ?_;refine(fj.map (f:=λp:c2=>ek p.1) (all:=aw) (by rw[<-gh,f8];rfl) (λdone cg s=>s=aq/\cg=done.map ff) ?_ ?_ ⟨rfl,rfl⟩)
  .rintro done p a' ag cg s _ _⟨rfl,rfl⟩;refine eN.mk ?_;lk;refine ax.of (CJ b6<|ed p<|by rw[ag];simp) ?_;lk;exact⟨rfl,by rw[c4];rfl⟩
  .rintro cg s⟨rfl,rfl⟩;refine q aw (by rw[gh];exact sa) (λp=>⟨ed p,λae=>?_⟩) (by have:=bX List.length gh;rw[bR]at this;rw[this,sX,bR]);have:p.1∈aw.map (·.1):=by rw[gh];exact(kx _).mpr<|fy (f:=λx:c2=>x.1) ae
   obtain⟨z,hz,e⟩:=dn.mp this;clear this;have c5:=CJ b6 (ed z hz) (s:=s);rw[e,CJ b6 ae (s:=s)]at c5;have:ff p=ff z:=cY c5;unfold ff at this;simp only[B.tup.injEq,th,B.int.injEq,Int.natCast_inj,and_true]at this;have:p=z:=nE e.symm<|nE this.2.1<|nE this.2.2.1 this.2.2.2;rw[this];exact hz
theorem Cz{t:Ĵ}{x:bv}(h:S.R[t]?=some (.tup [.int 1,.str x]))(q:Q (.int 11) S.st):bd (n+1) 26 [.ref 1,au t] S.st Q:=by
 k_go;refine⟨rfl,rfl,by decide,ax.of (kg 40)<|cE.inv (λl r s=>s=S.st/\l≠[]/\r=[.val<|.ref 1,.val<|au t,.un,.un]) ?_ ?_ ⟨rfl,by simp,rfl⟩⟩
 .rintro v l r s _ _ _ _⟨rfl,_,rfl⟩;lk;exact q
 .rintro r s⟨_,h,_⟩;exact absurd rfl h
theorem Vd{t:Ĵ}{l:Lm B}(h:S.R[t]?=some (.tup<|.int 8::l))(q:Q (au t) S.st):bd (n+1) 26 [.ref 1,au t] S.st Q:=by
 k_go;refine⟨rfl,rfl,by decide,ax.of (kg 40)<|cE.inv (λl r s=>s=S.st/\l≠[]/\r=[.val<|.ref 1,.val<|au t,.un,.un]) ?_ ?_ ⟨rfl,by simp,rfl⟩⟩
 .rintro v l r s _ _ _ _⟨rfl,_,rfl⟩;lk;exact q
 .rintro r s⟨_,h,_⟩;exact absurd rfl h
theorem JI{t:Ĵ}{x y:bv}(T:Rows S.R)(h:S.R[t]?=some (.tup [.int 1,.str y]))(q:Q .none S.st):bd (n+4) 32 [.ref 10,au t,.str x] S.st Q:=by have sJ:=T.at (t:=11) rfl;k_go;k_go;lk;k_go;refine Cz h ?_;lk;k_go;lk;exact q
theorem Xb{t e:Ĵ}{x:bv}{aV:ĵ}(T:Rows S.R)(h:S.R[t]?=some (hV e aV))(q:Q .none S.st):bd (n+4) 32 [.ref 10,au t,.str x] S.st Q:=by k_go;k_go;lk;k_go;exact q
def iC:Lm bv:=[[97],[108,101,110,103,116,104],[98],[48],[49,50],[48,49],[45,49]]
def xr (x:bv):Ģ:=decide (x=[48])||decide (x=[49,50])
theorem Ni{x:bv}(ay:x∈iC)(q:Q (.bool<|xr x) s):bd (n+1) 31 [.str x] s Q:=by unfold iC at ay;simp only[eJ,y0,or_false]at ay;rcases ay with rfl|rfl|rfl|rfl|rfl|rfl|rfl<;>(k_go;exact di.comp rfl q)
def iv (x:bv):Ģ:=decide (x=[108,101,110,103,116,104])||xr x
theorem ø{m:Ĵ}{p:c2}(T:Rows S.R)(ay:p.1∈iC)(aE:∀R,oz (S.w R).st (.ref m) 29=some (ff p))(ap:S.R.length+1<=a3)(q:∀aa,a_ S.R aa 1->Q (.bool<|iv p.1) (S.w aa).st):bd (n+7) 61 [.ref 10,.ref m] S.st Q:=by
 have Ha:=aE S.R;k_go;refine ax.of Ha<|ax.of Ha<|bh.ef (λG=>?_) λG=>?_
 .refine bh.pW G ?_;have:=q S.R<|a_.refl T;rw[show iv p.1=true by unfold iv;rw[dQ G];rfl]at this;exact this
 .refine Ni ay ?_;induction bg:xr p.1 with
  |true=>have:=q S.R<|a_.refl T;rw[show iv p.1=true by unfold iv;rw[bg,yn]]at this;exact this
  |false=>
   have ah:iv p.1=false:=by unfold iv;rw[bg,eC G];rfl
   k_go;refine e4 T rfl ap λt aa g e=>?_;lk;refine Xb (S:=S.w aa) g.ok e ?_;lk;refine JI (S:=S.w aa) (t:=6) g.ok (g.at<|T.at (t:=6) rfl) ?_;lk;refine JI (S:=S.w aa) (t:=7) g.ok (g.at<|T.at (t:=7) rfl) ?_;lk;have:=q aa g;rw[ah]at this;exact this
noncomputable abbrev dz.x (S:dz) (X:Lm dd):dz:={S with X:=X}
theorem PA{s:St}{o cu:dd}:(s++[o]).set s.length cu=s++[cu]:=by simp
theorem Hn{s:St}{o:dd}:(s++[o])[s.length]?=some o:=by simp
theorem Bz{s:St}{c:Ĵ}{a:Lm (Ĵ×B)}{k:Ĵ}{v:B}(h:a.length<=900):oh (s++[.ins c a]) (.ref s.length) k v=some (s++[.ins c<|putAt k v a]):=by rw[w' Hn h,PA]
inductive gP
 |mem (k:Nat) (p:c2)
 |idx (k:Nat) (c:B)
def gP.cp:gP->dd
 |.mem k p=>.ins 6 [(28,au k),(29,ff p),(1,.tup [])]
 |.idx k c=>.ins 6 [(28,au k),(29,.none),(1,c)]
def f3(X:Lm dd)(v:B)(e:gP):Prop:=∃i,v=.ref (i+11)/\X[i]?=some e.cp
theorem f3.app{X cB:Lm dd}{v:B}{e:gP}(h:f3 X v e):f3 (X++cB) v e:=by obtain⟨i,G,E⟩:=h;exact⟨i,G,by rw[o1 (hb.mp E).1];exact E⟩
theorem Bn(S:dz):S.st.length=S.X.length+11:=rfl
theorem f3.new{S:dz}{e:gP}:f3 (S.X++[e.cp]) (.ref S.st.length) e:=⟨S.X.length,by rw[Bn],by simp⟩
theorem zI{a b c:B}{s:St}(q:Q .none (s++[.ins 6 [(28,a),(29,b),(1,c)]])):bd (n+1) 51 [.ref s.length,a,b,c] (s++[.ins 6 []]) Q:=by k_go;exact ax.of (Bz<|iK rfl)<|ax.of (Bz<|iK rfl)<|ax.of (Bz<|iK rfl) q
def oD (f:ĵ):Ģ:=decide<|(lb f.toNat 24:ĵ)=0
theorem VD{p:c2}(a7:0<=p.2.2.1)(q:Q (.bool<|oD p.2.2.1) s):bd (n+1) 37 [ff p] s Q:=by
 obtain⟨f,jX⟩:=yW a7;clear a7;have fd:Q (.bool<|decide<|(lb f 24:ĵ)=0) s:=by
  have e:oD p.2.2.1=decide ((lb f 24:ĵ)=0):=by unfold oD;rw[jX];rfl
  rw[e]at q;exact q
 obtain⟨nm,t,cM,d⟩:=p;obtain rfl:cM=(f:ĵ):=jX;k_go;exact fd
def gu:Ĳ (Ĵ×ĵ)->B
 |none=>.tup []
 |some (t,aV)=>.tup [au t,.int aV]
noncomputable abbrev h3 (aj:Lm c2) (eD:B) (b9 bQ:Ĳ (Ĵ×ĵ)) (e2:ĵ):B:=.tup [.int 8,.tup<|aj.map ff,eD,.tup [],gu b9,gu bQ,.int e2]
def kw (k:Ĵ):Ĳ (Ĵ×ĵ)->Lm gP
 |none=>[]
 |some c=>[.idx k<|gu<|some c]
def pu(R:Lm B)(e:gP)(p:c2):Prop:=∃k,e=.mem k p/\gK R k (.txt p.1)
theorem pu.bf{R aa:Lm B}{c:Ĵ}{e:gP}{p:c2}(h:pu R e p)(g:a_ R aa c):pu aa e p:=by obtain⟨k,G,E⟩:=h;exact⟨k,G,E.bf g⟩
theorem Mb{X:Lm dd}{aQ:Lm B}{es:Lm gP}{e:gP}(a:b_ (f3 X) aQ es):b_ (f3<|X++[e.cp]) (aQ++[.ref<|X.length+11]) (es++[e]):=b_.snoc ⟨_,rfl,Hn⟩<|a.imp λ_ _ h=>h.app
def vO (t:Ĵ) (row:B) (aQ:Lm B) (x:cr):aK:=[.val<|.ref 10,.val<|au t,.val<|.ref 1,.ol aQ,.val row,x]
theorem KV{t i:Ĵ}{row:B}{aa:Lm B}{es:Lm gP}{d_:Lm dd}{aQ:Lm B}{c:Ĳ (Ĵ×ĵ)}{x:cr}{K:ck->aK->St->Prop}(a:b_ (f3<|S.X++d_) aQ es)(ct:aQ.length+1<=a3)(aA:∀s,ho s row (au i)=some (gu c))(ab:∀d_ e5,b_ (f3<|S.X++d_) e5 (es++kw k c)->e5.length<=aQ.length+1->K .go (vO t row e5 x) ((S.w aa).x<|S.X++d_).st):nq (n+1) (.iff (.cmp (.ao (.v 4)<|.k<|au i) [(.ne,.tup [])]) [.app 3<|.new 6 [.k<|au k,.k .none,.ao (.v 4)<|.k<|au i]] []) (vO t row aQ x) ((S.w aa).x<|S.X++d_).st K:=by
 refine ax.of (aA _) ?_;cases c with
 |none=>exact ab d_ aQ (by rw[kw,gT];exact a)<|j5 _
 |some c=>refine ax.of (aA _)<|zI (s:=((S.w aa).x<|S.X++d_).st) ⟨rfl,ct,?_⟩;have ab:=ab (d_++[gP.cp<|.idx k<|gu<|some c]) (aQ++[.ref<|(S.X++d_).length+11]) (by rw[<-hS];exact Mb a) (fU<|by rw[c_];rfl);rw[<-hS]at ab;exact ab
theorem WU{t o:Ĵ}{aj:Lm c2}{eD:B}{b9 bQ:Ĳ (Ĵ×ĵ)}{e2:ĵ}(T:Rows S.R)(sF:∀bT,bT (au o) S.st->bd (n+3) 28 [.ref 10,au t] S.st bT)(az:S.R[o]?=some (h3 aj eD b9 bQ e2))(a7:∀p∈aj,0<=p.2.2.1)(ah:aj.length<=100)(ap:S.R.length+aj.length<=a3)(q:∀aa d_ aQ aw,a_ S.R aa aj.length->b_ (f3<|S.X++d_) aQ (aw++(kw 6 b9++kw 7 bQ))->b_ (pu aa) aw (aj.filter λp=>oD p.2.2.1)->Q (.lst aQ) ((S.w aa).x<|S.X++d_).st):bd (n+4) 54 [.ref 10,au t] S.st Q:=by
 k_go;refine sF _<|ax.of (pX az) (cE.mp (all:=aj) (f:=ff) rfl (λdone K=>∀aa d_ aQ aw x,a_ S.R aa done.length->b_ (f3<|S.X++d_) aQ aw->b_ (pu aa) aw (done.filter λp=>oD p.2.2.1)->aQ.length<=done.length->K (vO t (h3 aj eD b9 bQ e2) aQ x) ((S.w aa).x<|S.X++d_).st) (λdone p a' ag K ab aa d_ aQ aw x g e0 fS ct=>?_) (λaa d_ aQ aw x g e0 fS ct=>?_) λK ab=>by have ab:=ab S.R [] [] [] .un (a_.refl T) .nil .nil<|dy _;rw[gT]at ab;exact ab)
 .have bg:=oA ag<|dy _;refine VD (a7 p<|by rw[ag];exact iA _<|.head _) ?_;rw[l',h2,c_]at ab;cases ae:oD p.2.2.1 with
  |true=>rw[ae]at ab;lk;refine F' (S:=(S.w aa).x<|S.X++d_) g.ok (g.room ap bg) λk bu bj aE=>?_;lk;refine zI (s:=(((S.w aa).x<|S.X++d_).w bu).st) ⟨rfl,aJ (da ct)<|aJ bg<|aJ ah<|aH rfl,?_⟩;have ab:=ab bu (d_++[gP.cp<|.mem k p]) (aQ++[.ref<|(S.X++d_).length+11]) (aw++[.mem k p]) (.val<|ff p) (g.trans bj) (by rw[<-hS];exact Mb e0) (b_.snoc ⟨k,rfl,aE⟩<|fS.imp λa b h=>h.bf bj) (by rw[c_];exact da ct);rw[<-hS]at ab;exact ab
  |false=>rw[ae]at ab;exact ab aa d_ aQ aw _ (g.le<|j5 _) e0 (by show b_ _ _<|_++[];rw[gT];exact fS)<|iL ct
 .have FC:=aJ ct ah;refine bw.fY (λK=>∀d_ e5,b_ (f3<|S.X++d_) e5 (aw++kw 6 b9)->e5.length<=aQ.length+1->K (vO t (h3 aj eD b9 bQ e2) e5 x) ((S.w aa).x<|S.X++d_).st) (λK ab=>KV (i:=4) (k:=6) e0 (aJ (da FC)<|aH rfl) (λ_=>rfl) ab) λd_ e5 e0 kX=>?_;refine bw.fY (λK=>∀d_ e5,b_ (f3<|S.X++d_) e5 (aw++kw 6 b9++kw 7 bQ)->K (vO t (h3 aj eD b9 bQ e2) e5 x) ((S.w aa).x<|S.X++d_).st) (λK ab=>KV (i:=5) (k:=7) e0 (aJ (da<|aJ kX<|da FC)<|aH rfl) (λ_=>rfl) λd_ e5 a _=>ab d_ e5 a) λd_ e5 e0=>?_;rw[hS]at e0;exact q aa d_ e5 aw g e0 fS
theorem BD{s t:St}{o cu:dd}:(s++o::t).set s.length cu=s++cu::t:=by simp
theorem wx{s t:St}{o:dd}:(s++o::t)[s.length]?=some o:=by simp
theorem wd{s t:St}{c:Ĵ}{a:Lm (Ĵ×B)}{k:Ĵ}{v:B}(h:a.length<=900):oh (s++.ins c a::t) (.ref s.length) k v=some (s++.ins c (putAt k v a)::t):=by rw[w' wx h,BD]
abbrev f0:=bv×Ĵ×ĵ
def iN (d:Lm f0):Lm (B×B):=d.map λm=>(ek m.1,.tup [au m.2.1,.int m.2.2])
def nD (d:Lm f0):Lm B:=d.map λm=>ek m.1
def dt (X:Lm dd) (d:Lm f0) (cz cs:B):Lm dd:=X++[.ins 5 [(0,.ref<|X.length+12),(5,.ref<|X.length+13),(26,cz),(27,cs)],.cN<|iN d,.ls<|nD d]
theorem xS{S:dz}{v:B}{e:gP}(h:f3 S.X v e):∃m,v=.ref m/\∃l,e.cp=.ins 6 l/\∀R a,oz (S.w R).st (.ref m) a=l.lookup a:=by
 obtain⟨i,rfl,h⟩:=h;refine⟨_,rfl,?_⟩;induction e with
 |mem k p=>refine⟨_,rfl,λR a=>?_⟩;show(S.X[i]?).bind _=_;rw[h];rfl
 |idx k c=>refine⟨_,rfl,λR a=>?_⟩;show(S.X[i]?).bind _=_;rw[h];rfl
def mg:gP->Ģ
 |.mem _ p=> !iv p.1
 |.idx _ _=>true
theorem WY{m:Ĵ}(aE:oz s (.ref m) 29=some .none)(q:Q (.bool false) s):bd (n+1) 61 [.ref 10,.ref m] s Q:=by k_go;exact ax.of aE q
theorem Br{v:B}{e:gP}(T:Rows S.R)(h:f3 S.X v e)(ay:∀k p,e=.mem k p->p.1∈iC)(ap:S.R.length+1<=a3)(q:∀aa,a_ S.R aa 1->Q (.bool<|!mg e) (S.w aa).st):bd (n+7) 61 [.ref 10,v] S.st Q:=by
 obtain⟨m,rfl,l,G,E⟩:=xS h;clear h;induction e with
 |mem k p=>cases G;refine ø T (ay k p rfl) (λR=>E R 29) ap λaa g=>?_;have:=q aa g;rw[show(!mg (.mem k p))=iv p.1 by simp[mg]]at this;exact this
 |idx k c=>cases G;exact WY (E S.R 29)<|q S.R<|a_.refl T
set_option tactic.hygienic true in
theorem WC{aQ:Lm B}{es:Lm gP}{x:B}{iW e0 fS kM km oX:cr}{N:Ĵ}(T:Rows S.R)(h:b_ (f3 S.X) aQ es)(ay:∀e∈es,∀k p,e=.mem k p->p.1∈iC)(ap:S.R.length+es.length<=a3)(q:∀aa e5,a_ S.R aa es.length->b_ (f3 S.X) e5 (es.filter mg)->Q (.lst e5) (S.w aa).st):fj (.lst aQ) [.val<|.ref 10,e0,fS,kM,km,oX] S.st (n+7) (.v 5) false [5] [.not (.call 61 [.v 0,.v 5])] Q:=by
 refine fj.un rfl ?_;have key:∀{aQ:Lm B} {es:Lm gP},b_ (f3 S.X) aQ es->(∀e∈es,∀k p,e=.mem k p->p.1∈iC)->∀aa cg,Rows aa->aa.length+es.length<=a3->∀K:B->St->Prop,(∀bu e5,a_ aa bu es.length->b_ (f3 S.X) e5 (es.filter mg)->K (.lst<|cg++e5) (S.w bu).st)->
  ku (k5 (di (n+7)<|.v 5) (sC (n+7) [.not (.call 61 [.v 0,.v 5])]) false [5] [.val<|.ref 10,iW,e0,fS,kM,km]) K aQ cg (S.w aa).st:=by
  intro aQ es h
  induction h with
  |nil=>intro _ aa cg T _ K q;have:=q aa [] (a_.refl T) .nil;rwa[gT]at this
  |@cons v e l es af al ar=>
   intro ay aa cg T ap K q;refine eN.mk ?_;lk;refine Br (S:=S.w aa) T af (ay e<|.head _) (aJ (gp (da<|f7 _) _) ap) λbu g=>?_;have go:∀c7,(∀e5,b_ (f3 S.X) e5 (es.filter mg)->b_ (f3 S.X) (c7++e5) ((e::es).filter mg))->ku (k5 (di (n+7)<|.v 5) (sC (n+7) [.not (.call 61 [.v 0,.v 5])]) false [5] [.val<|.ref 10,iW,e0,fS,kM,km]) K l (cg++c7) (S.w bu).st:=λc7 hz=>ar (λe h=>ay e<|.tail _ h) bu _ g.ok (by have:=g.len;have:aa.length+(es.length+1)<=a3:=ap;omega) K λdX e5 cK a=>by rw[hS];exact q dX _ ((g.trans cK).le<|fU<|qh _ _)<|hz e5 a
   lk;induction aE:mg e with
   |true=>exact go [v] λe5 a=>by rw[h2,bl aE];exact .cons af a
   |false=>exact go [] λe5 a=>by rw[h2,bt<|by rw[aE];exact eM];exact a
 exact key h ay S.R [] T ap Q q
theorem Ui(q:Q .none (S.x<|dt S.X [] (.tup [])<|.tup []).st):bd (n+1) 38 [.ref S.st.length] (S.st++[.ins 5 []]) Q:=by
 k_go;refine ax.of (show oh ((S.st++[dd.ins 5 []])++[.cN []]) (.ref S.st.length) 0 (.ref (S.st++[dd.ins 5 []]).length)=some (S.st++dd.ins 5 [(0,.ref<|S.X.length+12)]::[.cN []])from ?_) ?_
 .rw[hS,show [dd.ins 5 []]++[dd.cN []]=dd.ins 5 []::[.cN []]from rfl,wd<|iK rfl];rw[c_,Bn];rfl
 refine ax.of (show oh ((S.st++dd.ins 5 [(0,.ref<|S.X.length+12)]::[.cN []])++[.ls []]) (.ref S.st.length) 5 (.ref (S.st++dd.ins 5 [(0,.ref<|S.X.length+12)]::[.cN []]).length)=some (S.st++dd.ins 5 [(0,.ref<|S.X.length+12),(5,.ref<|S.X.length+13)]::[.cN [],.ls []])from ?_) ?_
 .rw[hS,show(dd.ins 5 [(0,.ref<|S.X.length+12)]::[.cN []])++[dd.ls []]=dd.ins 5 [(0,.ref<|S.X.length+12)]::[.cN [],.ls []]from rfl,wd<|iK rfl];rw[c_,Bn];rfl
 exact ax.of (wd<|iK rfl)<|ax.of (wd<|iK rfl) q
set_option tactic.hygienic true
def rI (f:ĵ):Ģ:= !decide ((lb f.toNat 1:ĵ)=0)
def tH (f:ĵ):ĵ:=if !decide ((lb f.toNat 2:ĵ)=0)then 1 else 0
def gN (aI aV:ĵ):ĵ:=if aI=1 then 1 else if aI=2 then 0 else aV
def pP (Y aI f:ĵ):ĵ:=(if fT Y (rI f)=true then 1 else 0)+(if gN aI (tH f)=1 then 2 else 0)
def ji (Y:ĵ) (K:Lm aG):Lm aG:=if Y=1 then K++[.b .bA]else K
theorem Dv(x:bv)(d:Lm f0):ej (.str x) (iN d)=true:=wk rfl λ_=>rfl
theorem A5(d:Lm f0):sE (iN d):=λp ae=>by obtain⟨m,_,rfl⟩:=dn.mp ae;clear ae;rfl
theorem I'(d:Lm f0):(iN d).map (·.1)=(d.map (·.1)).map ek:=by unfold iN;simp
theorem ZE{p:c2}{cI nm d0 Y aI:ĵ}(az:Y=0\/Y=1\/Y=2)(dj:aI=0\/aI=1\/aI=2)(a7:0<=p.2.2.1)(q:Q (.int<|pP Y aI p.2.2.1) s):bd (n+2) 49 [fW cI nm d0 Y aI,ff p,.bool false] s Q:=by
 obtain⟨f,jX⟩:=yW a7;clear a7;obtain⟨x,t,cM,d⟩:=p;obtain rfl:cM=(f:ĵ):=jX;have fd:∀a b:ĵ,a=(if fT Y (!decide (Int.ofNat (lb f 1)=0))=true then 1 else 0)->b=(if gN aI (tH f)=1 then 2 else 0)->∀c,c=a+b->Q (.int c) s:=by rintro a b rfl rfl c rfl;exact q
 have bm:∀b:Ģ,b=decide (Int.ofNat (lb f 2)=0)->tH f=if(!b)=true then 1 else 0:=by rintro b rfl;rfl
 clear q;k_go;refine xs az ?_;have fin:∀a:ĵ,a=(if fT Y (!decide (Int.ofNat (lb f 1)=0))=true then 1 else 0)->bw (n+1) [dS.set 5 (.ite (.cmp (.bin .band (.v 3) (.k (.int 2))) [(.ne,.k (.int 0))]) (.k (.int 1)) (.k (.int 0))),
  .iff (.cmp (.call 45 [.ao (.v 0) (.k (.int 6)),.v 5]) [(.eq,.k (.int 1))]) [.set 4 (.bin .add (.v 4) (.k (.int 2)))] [],.ret (.ite (.v 2) (.bin .add (.v 4) (.bin .band (.v 3) (.k (.int 4)))) (.v 4))]
  [cr.val<|fW cI nm d0 Y aI,.val<|ff (x,t,↑f,d),.val<|.bool false,.val<|.int f,.val<|.int a,.un] s (λcM x aq=>Q cM.val aq):=by
  intro a ak
  have dN:∀b:ĵ,b=tH f->bw (n+1) [.iff (.cmp (.call 45 [.ao (.v 0)<|.k<|.int 6,.v 5]) [(.eq,.k<|.int 1)]) [.set 4<|.bin .add (.v 4)<|.k<|.int 2] [],.ret<|.ite (.v 2) (.bin .add (.v 4)<|.bin .band (.v 3)<|.k<|.int 4)<|.v 4] [cr.val<|fW cI nm d0 Y aI,.val<|ff (x,t,↑f,d),.val<|.bool false,.val<|.int f,.val<|.int a,.val<|.int b] s (λcM x aq=>Q cM.val aq):=by
   rintro b rfl;refine yr dj<|bh.ef (λh=>?_) λh=>?_
   .exact fd a 2 ak (bl h).symm _ rfl
   .lk;exact fd a 0 ak (bt h).symm _ (by omega)
  lk
  induction av:decide (Int.ofNat (lb f 2)=0)with
  |true=>lk;have:=dN 0 (by rw[bm true av.symm];rfl);lk;exact this
  |false=>lk;have:=dN 1 (by rw[bm false av.symm];rfl);lk;exact this
 induction aM:fT Y (!decide (Int.ofNat (lb f 1)=0))with
 |true=>have:=fin 1 (by rw[aM];rfl);exact this
 |false=>have:=fin 0 (by rw[aM];rfl);exact this
theorem EC{aC:Type}{X cB:Lm aC}{j:Ĵ}:(X++cB)[X.length+j]?=cB[j]?:=by rw[pf<|mM _ _,C4]
theorem Gi{aC:Type}{X cB:Lm aC}{j:Ĵ}{x:aC}:(X++cB).set (X.length+j) x=X++cB.set j x:=by rw[List.set_append_right _ _<|mM _ _,C4]
def te (S:dz) (a:Lm (B×B)) (b:Lm B) (cz cs:B):St:=[.ins 5 [(0,.ref<|S.X.length+12),(5,.ref<|S.X.length+13),(26,cz),(27,cs)],.cN a,.ls b]
theorem Tw{d:Lm f0}{cz cs:B}{x:bv}{t:Ĵ}{f:ĵ}(bg:x∉d.map (·.1))(ah:d.length<=1000)(q:Q .none (S.x<|dt S.X (d++[(x,t,f)]) cz cs).st):bd (n+1) 39 [.ref<|S.X.length+11,.ref 1,.str x,au t,.int f] (S.x<|dt S.X d cz cs).st Q:=by
 have wm:∀j:Ĵ,(S.x<|dt S.X d cz cs).st[S.X.length+j+11]?=(te S (iN d) (nD d) cz cs)[j]?:=λj=>EC (X:=S.X);have iW:oz (S.x<|dt S.X d cz cs).st (.ref<|S.X.length+11) 0=some (.ref<|S.X.length+12):=by show((S.x<|dt S.X d cz cs).st[S.X.length+0+11]?).bind _=_;rw[wm 0];rfl
 have oX:oz (S.x<|dt S.X d cz cs).st (.ref<|S.X.length+11) 5=some (.ref<|S.X.length+13):=by show((S.x<|dt S.X d cz cs).st[S.X.length+0+11]?).bind _=_;rw[wm 0];rfl
 have tM:B.str x∉(iN d).map (·.1):=by rw[I'];intro h;obtain⟨y,a2,e⟩:=dn.mp h;cases e;exact bg a2
 have T_:fh (.str x) (iN d)=some none:=by
  rcases yg (k:=.str x) rfl (A5 d)with⟨v,m,e⟩|⟨m,e⟩
  .exact absurd (fy m) tM
  .exact e
 k_go;refine ax.of iW<|ax.of (show hu .f5 (S.x<|dt S.X d cz cs).st (.str x) (.ref<|S.X.length+12)=some true from ?_)<|ax.of oX<|ax.of (a:=.int (nD d).length) ?_ ?_
 .show(((S.x<|dt S.X d cz cs).st[S.X.length+1+11]?).bind _).map _=_;rw[wm 1];show(if ej (.str x) (iN d)then(fh (.str x)<|iN d).map (·.isSome)else none).map (!·)=_;rw[Dv,T_];rfl
 .show((S.x<|dt S.X d cz cs).st[S.X.length+2+11]?).bind _=_;rw[wm 2];rfl
 refine gZ.of (l:=nD d) (wm 2) ⟨aJ (da<|aJ (fU (bR ..)) ah)<|aH rfl,?_⟩;have ag:(S.x<|dt S.X d cz cs).st.set (S.X.length+13) (.ls<|nD d++[.str x])=(S.x<|S.X++te S (iN d) (nD d++[.str x]) cz cs).st:=bX (λX=>(S.x X).st)<|Gi (X:=S.X) (j:=2);rw[ag];refine ax.of (a:=.ref<|S.X.length+12) ?_<|ax.of (a:=(S.x<|dt S.X (d++[(x,t,f)]) cz cs).st) ?_ q
 .show((S.X++te S (iN d) (nD d++[.str x]) cz cs)[S.X.length+0]?).bind _=_;rw[EC];rfl
 .show((S.X++te S (iN d) (nD d++[.str x]) cz cs)[S.X.length+1]?).bind _=_;rw[EC];show(if ej (.str x) (iN d)then(hh (.str x) (.tup [au t,.int f])<|iN d).bind λl=>i7 l.length ((S.x<|S.X++te S (iN d) (nD d++[.str x]) cz cs).st.set (S.X.length+12)<|.cN l)else none)=_;rw[Dv,xv rfl (A5 d) tM,bl rfl];refine(bl<|by rw[c_];exact(aJ (da<|aJ (fU (bR ..)) ah)<|aH rfl)).trans<|bX some<|(bX (λX=>(S.x X).st)<|Gi (X:=S.X) (j:=1)).trans ?_;unfold dt te iN nD;rw[c4,c4];rfl
set_option tactic.hygienic false
theorem DJ(S:dz)(d:Lm f0)(cz cs:B):(S.x<|dt S.X d cz cs).st[S.X.length+11]?=some (.ins 5 [(0,.ref<|S.X.length+12),(5,.ref<|S.X.length+13),(26,cz),(27,cs)]):=by show(dt S.X d cz cs)[S.X.length]?=_;exact wx
theorem q4(S:dz)(d:Lm f0)(cz cs:B)(a:Ĵ):oz (S.x<|dt S.X d cz cs).st (.ref<|S.X.length+11) a=List.lookup a [(0,.ref<|S.X.length+12),(5,.ref<|S.X.length+13),(26,cz),(27,cs)]:=zk<|DJ S d cz cs
theorem DF(S:dz)(d:Lm f0)(cz cs:B):Cp (S.x<|dt S.X d cz cs).st (.ref<|S.X.length+11)=some 5:=zk<|DJ S d cz cs
theorem Jy(S:dz)(d:Lm f0)(cz cs v:B)(a:Ĵ){yd zC:B}(h:putAt a v [(0,.ref<|S.X.length+12),(5,.ref<|S.X.length+13),(26,cz),(27,cs)]=[(0,.ref<|S.X.length+12),(5,.ref<|S.X.length+13),(26,yd),(27,zC)]):oh (S.x<|dt S.X d cz cs).st (.ref<|S.X.length+11) a v=some (S.x<|dt S.X d yd zC).st:=by
 rw[w' (DJ S d cz cs)<|aH rfl,h];have:(dt S.X d cz cs).set S.X.length (.ins 5 [(0,.ref<|S.X.length+12),(5,.ref<|S.X.length+13),(26,yd),(27,zC)])=dt S.X d yd zC:=by unfold dt;rw[BD]
 rw[<-this];rfl
theorem Z2{d:Lm f0}{cs:B}{t:Ĵ}{aV:ĵ}(q:Q .none (S.x<|dt S.X d (.tup [au t,.int aV]) cs).st):bd (n+1) 40 [.ref<|S.X.length+11,.ref 1,.bool false,au t,.int aV] (S.x<|dt S.X d (.tup []) cs).st Q:=by k_go;exact ax.of ((q4 S d _ _ 26).trans rfl)<|ax.of (Jy S d _ _ _ 26 rfl) q
theorem Wa{d:Lm f0}{cz:B}{t:Ĵ}{aV:ĵ}(q:Q .none (S.x<|dt S.X d cz<|.tup [au t,.int aV]).st):bd (n+1) 40 [.ref<|S.X.length+11,.ref 1,.bool true,au t,.int aV] (S.x<|dt S.X d cz<|.tup []).st Q:=by k_go;exact ax.of ((q4 S d _ _ 27).trans rfl)<|ax.of (Jy S d _ _ _ 27 rfl) q
theorem Pa{d:Lm f0}{cz cs:B}{t:Ĵ}{aV:ĵ}(aE:(k=6/\cz=.tup [])\/(k=7/\cs=.tup []))(q:Q .none (S.x<|dt S.X d (if k=6 then .tup [au t,.int aV]else cz)<|if k=7 then .tup [au t,.int aV]else cs).st):bd (n+1) 40 [.ref<|S.X.length+11,.ref 1,.bool<|decide<|(k:ĵ)=7,au t,.int aV] (S.x<|dt S.X d cz cs).st Q:=by
 rcases aE with⟨rfl,rfl⟩|⟨rfl,rfl⟩
 .exact Z2 q
 .exact Wa q
theorem UM{t:Ĵ}{F:bG->Lm aG}{cI nm Y aI:ĵ}{v:B}{p:c2}{d:Lm f0}{cz cs:B}(T:Rows S.R)(h:f9 S.R t F)(az:Y=0\/Y=1\/Y=2)(dj:aI=0\/aI=1\/aI=2)(B3:f3 S.X v (.mem k p))(aE:gK S.R k (.txt p.1))(a7:0<=p.2.2.1)(bg:p.1∉d.map (·.1))(ah:d.length<=1000)(ap:S.R.length+8<=a3)(q:∀u aa,a_ S.R aa 8->d4.Ty aa u (fC Y (rI p.2.2.1)<|F<|.txt p.1)->Q .none ((S.w aa).x<|dt S.X (d++[(p.1,u,pP Y aI p.2.2.1)]) cz cs).st):bd (n+18) 52 [.ref 10,fW cI nm t Y aI,.ref<|S.X.length+11,v,au k,.bool false] (S.x<|dt S.X d cz cs).st Q:=by obtain⟨m,rfl,l,G,E⟩:=xS (S:=S.x<|dt S.X d cz cs) (B3.app:f3 (S.X++_) v (.mem k p));cases G;have l7:=E S.R;obtain⟨f,jX⟩:=yW a7;obtain⟨x,pt,cM,pw⟩:=p;obtain rfl:cM=(f:ĵ):=jX;k_go;refine DZ (S:=S.x<|dt S.X d cz cs) T aE<|ax.of (l7 29)<|ax.of (l7 29)<|ax.of (l7 28)<|wp (S:=S.x<|dt S.X d cz cs) T h aE az ap λu aa g ty=>?_;rw[(rfl:(((S.x<|dt S.X d cz cs).w aa).st)=((S.w aa).x<|dt (S.w aa).X d cz cs).st)];refine ax.of (a:=39) (by rw[DF<|S.w aa];rfl) ?_;exact ax.of (E aa 29)<|(@ZE<|n+15) az dj a7<|Tw (S:=S.w aa) bg ah<|q u aa g ty
theorem OD{t:Ĵ}{F:bG->Lm aG}{key:bG}{cI nm Y aI:ĵ}{v:B}{c:Ĵ}{aV:ĵ}{d:Lm f0}{cz cs:B}(T:Rows S.R)(h:f9 S.R t F)(az:Y=0\/Y=1\/Y=2)(dj:aI=0\/aI=1\/aI=2)(aE:(k=6/\key=.S/\cz=.tup [])\/(k=7/\key=.N/\cs=.tup []))(B3:f3 S.X v (.idx k<|gu<|some (c,aV)))(ap:S.R.length+7<=a3)(q:∀u aa,a_ S.R aa 7->d4.Ty aa u (ji Y<|F key)->Q .none ((S.w aa).x<|dt S.X d (if k=6 then .tup [au u,.int<|gN aI aV]else cz)<|if k=7 then .tup [au u,.int<|gN aI aV]else cs).st):bd (n+16) 52 [.ref 10,fW cI nm t Y aI,.ref<|S.X.length+11,v,au k,.bool false] (S.x<|dt S.X d cz cs).st Q:=by
 obtain⟨m,rfl,l,G,E⟩:=xS (S:=S.x<|dt S.X d cz cs) (B3.app:f3 (S.X++_) v (.idx k _));cases G;have l7:=E S.R;have wN:(k=6/\cz=.tup [])\/(k=7/\cs=.tup []):=aE.imp (λh=>⟨h.1,h.2.2⟩) λh=>⟨h.1,h.2.2⟩;have ab:gK S.R k key:=by rcases aE with⟨e,a8,_⟩|⟨e,a8,_⟩<;>rw[e,a8]<;>rfl
 have dU:∀x,key≠.txt x:=λx e=>by rcases aE with h|h<;>exact nomatch h.2.1.symm.trans e
 have Kl:(!(decide ((6:ĵ)=k)||(decide ((7:ĵ)=k)||(decide ((0:ĵ)=k)||false))))=false:=by rcases aE with h|h<;>rw[h.1]<;>rfl
 clear aE;have fin:∀u (bu:Lm B),a_ S.R bu 7->d4.Ty bu u (ji Y<|F key)->∀(iW oU H6 tq xh Hb:cr),bw (n+15) [.set 12<|.ite (.cmp (.at (.v 3) 1) [(.ne,.tup [])]) (.ao (.at (.v 3) 1)<|.k<|.int 1)<|.k<|.int 0,.ex<|.cQ (.v 2) 4 [.v 6,.cmp (.v 4) [(.eq,.k<|.int 7)],.v 11,.call 45 [.ao (.v 1)<|.k<|.int 6,.v 12]]] [iW,.val<|fW cI nm t Y aI,.val<|.ref<|S.X.length+11,.val<|.ref m,.val<|au k,.val<|.bool false,.val<|.ref 1,oU,H6,tq,xh,.val<|au u,Hb] ((S.w bu).x<|dt S.X d cz cs).st (λcM _ aq=>Q cM.val aq):=λu bu g ty iW oU H6 tq xh Hb=>ax.of (E bu 1)<|ax.of (E bu 1)<|ax.of (a:=40) (by rw[DF<|S.w bu];rfl)<|yr dj<|Pa (S:=S.w bu) wN<|q u bu g ty;clear wN dj q;k_go;refine DZ (S:=S.x<|dt S.X d cz cs) T ab ?_;induction key using bG.casesOn with
 |txt x=>exact absurd rfl<|dU x
 |_=>
  refine ax.of (l7 29)<|ax.of (l7 1)<|bh.ik Kl<|bh.ik Kl<|ax.of (l7 28)<|u2 (S:=S.x<|dt S.X d cz cs) T h ab (li ap) λu aa g ty=>bh.ef (λG=>bh.pW G ?_) λG=>?_
  .refine HY (S:=(S.x<|dt S.X d cz cs).w aa) g.ok ty rfl (hN (h.len _)<|jC rfl) (g.room ap<|aH rfl) λBK bu bj DK=>?_;exact fin BK bu (g.trans bj) (by unfold ji;rw[bl G];exact DK) _ _ _ _ _ _
  .exact fin u aa (g.le<|aH rfl) (by unfold ji;rw[bt G];exact ty) _ _ _ _ _ _
theorem K1(aj:Lm c2)(b9 bQ:Ĳ (Ĵ×ĵ)):h_ (h3 aj (.tup []) b9 bQ 0)=true:=by induction b9<;>induction bQ<;>exact lP (zT λ_=>rfl) rfl
def vD (d:Lm f0):Lm c2:=d.map λm=>(m.1,m.2.1,m.2.2,0)
theorem cE.app{bk:Ģ}{aU:Lm Ĵ}{b:Lm dS}{cg bM:Lm B}{Q:ck->aK->St->Prop}{r:aK}{s:St}(h:cE n bk aU b bM r s (mZ (λr s=>cE n bk aU b cg r s Q) Q)):cE n bk aU b (bM++cg) r s Q:=by
 constructor;replace h:=h.of;induction bM generalizing r s with
 |nil=>exact h.of
 |cons v l ar=>
  refine ax.imp (λr h=>bw.mono h λf r s h=>?_) h;induction f with
  |ret=>exact h
  |go=>exact ar h
theorem F_{cI d0 Y aI:ĵ}{v:B}(q:Q (.tup [v]) s):bd (n+1) 50 [.ref 10,fW cI (-1) d0 Y aI,v] s Q:=by k_go;exact q
theorem Yt{aj:Lm c2}{b9 bQ:Ĳ (Ĵ×ĵ)}{arg:B}(T:Rows S.R)(ak:items arg=some (aj.map ff))(b6:(aj.map (·.1)).Nodup)(ah:aj.length<64)(ap:S.R.length+1<=a3)(q:∀t dJ aa,a_ S.R aa 1->(dJ.map (·.1)).Pairwise oF->(∀p,p∈dJ↔p∈aj)->aa[t]?=some (h3 dJ (.tup []) b9 bQ 0)->Q (au t) (S.w aa).st):bd (n+2) 10 [.ref 1,arg,.tup [],.tup [],gu b9,gu bQ,.int 0] S.st Q:=by k_go;exact OQ ak b6 ah λdJ G E aB=>e4 T (K1 dJ b9 bQ) ap λt aa g e=>q t dJ aa g G E e
theorem PR{d:Lm f0}(b6:(d.map (·.1)).Nodup){m:f0}(aN:m∈d):fh (.str m.1) (iN d)=some (some<|.tup [au m.2.1,.int m.2.2]):=by
 rcases yg (k:=.str m.1) rfl (A5 d)with⟨v,af,e⟩|⟨af,e⟩
 .rw[e];obtain⟨z,hz,a8⟩:=dn.mp af;clear af;have G:z.1=m.1:=B.str.inj<|bX Prod.fst a8;have:z=m:=by
   have m6:∀(l:Lm f0),(l.map (·.1)).Nodup->z∈l->m∈l->z=m:=by
    intro l;induction l with
    |nil=>intro _ h;cases h
    |cons a r ar=>
     intro b6 hz ae;rw[fx,hT]at b6;rcases eJ.mp hz with ag|vI<;>rcases eJ.mp ae with a8|uV
     .rw[ag,a8]
     .exact absurd (fy (f:=λx:f0=>x.1) uV) (by rw[<-G,ag];exact b6.1)
     .exact absurd (fy (f:=λx:f0=>x.1) vI) (by rw[G,a8];exact b6.1)
     .exact ar b6.2 vI uV
   exact m6 d b6 hz aN
  rw[<-this];exact bX (λx:B×B=>some<|some x.2) a8.symm
 .exfalso;apply af;rw[I'];exact fy<|fy (f:=λx:f0=>x.1) aN
theorem RV(S:dz)(d:Lm f0)(cz cs:B):(S.x<|dt S.X d cz cs).st[S.X.length+13]?=some (.ls<|nD d):=by show(dt S.X d cz cs)[S.X.length+2]?=_;unfold dt;rw[pf<|mM _ _,C4];rfl
theorem Tx(S:dz)(d:Lm f0)(cz cs:B):(S.x<|dt S.X d cz cs).st[S.X.length+12]?=some (.cN<|iN d):=by show(dt S.X d cz cs)[S.X.length+1]?=_;unfold dt;rw[pf<|j5 _,show S.X.length+1-S.X.length=1 by omega];rfl
theorem R8{d:Lm f0}{b9 bQ:Ĳ (Ĵ×ĵ)}(T:Rows S.R)(b6:(d.map (·.1)).Nodup)(ah:d.length<64)(ap:S.R.length+1<=a3)(q:∀t dJ aa,a_ S.R aa 1->(dJ.map (·.1)).Pairwise oF->(∀p,p∈dJ↔p∈vD d)->aa[t]?=some (h3 dJ (.tup []) b9 bQ 0)->Q (au t) ((S.w aa).x<|dt S.X d (gu b9)<|gu bQ).st):bd (n+3) 41 [.ref<|S.X.length+11,.ref 1] (S.x<|dt S.X d (gu b9)<|gu bQ).st Q:=by
 have HE:∀m∈d,ho (S.x<|dt S.X d (gu b9)<|gu bQ).st (.ref<|S.X.length+12) (.str m.1)=some (.tup [au m.2.1,.int m.2.2]):=by intro m aN;show(_:Ĳ dd).bind _=_;rw[Tx];show(if _ then _ else _)=_;rw[Dv,PR b6 aN];rfl
 k_go;refine di.m8 rfl<|ax.of ((q4 S d _ _ 5).trans rfl)<|Rj (f:=λm:f0=>ek m.1) (g:=λm=>ff (m.1,m.2.1,m.2.2,0)) (RV S d _ _) (λm aN bT bb=>?_) ?_
 .refine eN.mk ?_;lk;exact ax.of ((q4 S d _ _ 0).trans rfl)<|ax.of (HE m aN)<|ax.of ((q4 S d _ _ 0).trans rfl)<|ax.of (HE m aN) bb
 .refine ax.of ((q4 S d _ _ 26).trans rfl)<|ax.of ((q4 S d _ _ 27).trans rfl) ?_;refine Yt (S:=S.x<|dt S.X d (gu b9)<|gu bQ) (aj:=vD d) T (by unfold vD;rw[f8];rfl) (by unfold vD;rw[f8];exact b6) (by unfold vD;simpa using ah) ap λt dJ aa g G E aB=>?_;exact q t dJ aa g G E aB
abbrev Tm:=bv×ĵ
def pM(R:Lm B)(F:bG->Lm aG)(Y aI:ĵ)(m:f0)(p:Tm):Prop:=m.1=p.1/\m.2.2=pP Y aI p.2/\d4.Ty R m.2.1 (fC Y (rI p.2)<|F<|.txt p.1)
theorem pM.bf{R aa:Lm B}{F:bG->Lm aG}{Y aI:ĵ}{m:f0}{p:Tm}{c:Ĵ}(h:pM R F Y aI m p)(g:a_ R aa c):pM aa F Y aI m p:=⟨h.1,h.2.1,h.2.2.bf g⟩
def lK(R:Lm B)(Y aI:ĵ)(K:Lm aG):Ĳ (Ĵ×ĵ)->Ĳ (Ĵ×ĵ)->Prop
 |none,c=>c=none
 |some (_,aV),c=>∃u,c=some (u,gN aI aV)/\d4.Ty R u (ji Y K)
theorem lK.bf{R aa:Lm B}{Y aI:ĵ}{K:Lm aG}{a b:Ĳ (Ĵ×ĵ)}{c:Ĵ}(h:lK R Y aI K a b)(g:a_ R aa c):lK aa Y aI K a b:=by
 rcases a with _|⟨t,aV⟩
 .exact h
 .obtain⟨u,G,E⟩:=h;exact⟨u,G,E.bf g⟩
structure jb(R:List B)(F:bG->List aG)(Y aI:Int)(aw:List Tm)(b9 bQ:Option (Nat×Int))(t:Nat)(aj:List c2)(dv ds:Option (Nat×Int)):Prop where
 row:R[t]?=some (h3 aj (.tup []) dv ds 0)
 fB:(aj.map (·.1)).Pairwise oF
 to:∀p∈aj,p.2.2.2=0/\∃m∈aw,pM R F Y aI (p.1,p.2.1,p.2.2.1) m
 of:∀m∈aw,∃p∈aj,pM R F Y aI (p.1,p.2.1,p.2.2.1) m
 six:lK R Y aI (F .S) b9 dv
 tm:lK R Y aI (F .N) bQ ds
theorem jb.bf{R aa:Lm B}{F:bG->Lm aG}{Y aI:ĵ}{aw:Lm Tm}{b9 bQ:Ĳ (Ĵ×ĵ)}{t:Ĵ}{aj:Lm c2}{dv ds:Ĳ (Ĵ×ĵ)}{c:Ĵ}(h:jb R F Y aI aw b9 bQ t aj dv ds)(g:a_ R aa c):jb aa F Y aI aw b9 bQ t aj dv ds:=⟨g.at h.row,h.fB,λp ae=>⟨(h.to p ae).1,(h.to p ae).2.imp λm x=>⟨x.1,x.2.bf g⟩⟩,λm aN=>(h.of m aN).imp λp x=>⟨x.1,x.2.bf g⟩,h.six.bf g,h.tm.bf g⟩
theorem b_.mem{aC cC:Type}{P:aC->cC->Prop}{l:Lm aC}{m:Lm cC}(x:b_ P l m):∀b∈m,∃a∈l,P a b:=by
 induction x with
 |nil=>exact λb h=>nomatch h
 |cons x y ar=>
  intro b h;cases h with
  |head=>exact⟨_,.head _,x⟩
  |tail _ h=>obtain⟨a,G,E⟩:=ar b h;exact⟨a,.tail _ G,E⟩
theorem b_.t6{aC cC:Type}{P:aC->cC->Prop}{l:Lm aC}{m:Lm cC}(x:b_ P l m):∀a∈l,∃b∈m,P a b:=by
 induction x with
 |nil=>exact λb h=>nomatch h
 |cons x y ar=>
  intro b h;cases h with
  |head=>exact⟨_,.head _,x⟩
  |tail _ h=>obtain⟨a,G,E⟩:=ar b h;exact⟨a,.tail _ G,E⟩
theorem b_.names{R:Lm B}{F:bG->Lm aG}{Y aI:ĵ}{d:Lm f0}{l:Lm Tm}(x:b_ (pM R F Y aI) d l):d.map (·.1)=l.map (·.1):=by
 induction x with
 |nil=>rfl
 |cons x _ ar=>rw[fx,fx,ar,x.1]
def yx (p:c2):Tm:=(p.1,p.2.2.1)
theorem cE.al{aC:Type}{P:B->aC->Prop}{bk:Ģ}{aU:Lm Ĵ}{b:Lm dS}{Q:ck->aK->St->Prop}{bM:Lm B}{all:Lm aC}(al:b_ P bM all)(fA:Lm aC->(aK->St->Prop)->Prop)(ba:∀done v a a',all=done++a::a'->P v a->∀K:aK->St->Prop,fA (done++[a]) K->fA done λr s=>ax (h7 bk aU v r) λr=>bw n b r s<|mZ K Q)(cO:fA all (Q .go)){r:aK}{s:St}(h:∀K:aK->St->Prop,fA [] K->K r s):cE n bk aU b bM r s Q:=by
 have key:∀(a' done:Lm aC) (l:Lm B),all=done++a'->b_ P l a'->fA done (nN (bw n b) bk aU Q l):=by
  intro a';induction a' with
  |nil=>intro done l e al;cases al;rw[gT]at e;exact e▸cO
  |cons a a' ar=>
   intro done l e al;cases al with|cons x y=>
   exact ba done _ a a' e x _<|ar _ _ (by rw[e,hS];rfl) y
 exact⟨h _<|key all [] bM rfl al⟩
theorem b_.comp{aC cC dw:Type}{P:aC->cC->Prop}{se:cC->dw->Prop}{l:Lm aC}{m:Lm cC}(x:b_ P l m):∀{k:Lm dw},b_ se m k->b_ (λa c=>∃b,P a b/\se b c) l k:=by
 induction x with
 |nil=>intro k y;cases y;exact .nil
 |cons x _ ar=>intro k y;cases y with|cons y Dr=>exact .cons ⟨_,x,y⟩<|ar Dr
theorem b_.parts{aC cC:Type}{P:aC->cC->Prop}{a b:Lm cC}:∀{l:Lm aC},b_ P l (a++b)->ee λmw og=>dY (l=mw++og) (b_ P mw a) (b_ P og b):=by
 induction a with
 |nil=>exact λh=>⟨[],_,rfl,.nil,h⟩
 |cons e a ar=>
  intro l h;cases h with|cons x y=>
  obtain⟨mw,og,rfl,G,E⟩:=ar y;exact⟨_::mw,og,rfl,.cons x G,E⟩
theorem H4{v:B}{e:gP}{d:Lm f0}{cz cs:B}{R:Lm B}{l:Lm (Ĵ×B)}(af:f3 S.X v e)(a6:e.cp=.ins 6 ((28,au k)::l)):oz ((S.w R).x<|dt S.X d cz cs).st v 28=some (au k):=by obtain⟨m,rfl,dh,G,E⟩:=xS (S:=S.x<|dt S.X d cz cs) (af.app:f3 (S.X++_) v e);rw[G]at a6;have:=E R 28;injection a6 with _ a6;rw[a6]at this;exact this
def Bx (S:dz) (row:B) (aQ:Lm B) (c1 dg cW:cr):aK:=[.val<|.ref 10,.val row,.val<|.lst aQ,.val<|.bool false,.val<|.ref<|S.X.length+11,c1,dg,cW]
noncomputable abbrev û:Lm dS:=[.set 6<|.call 50 [.v 0,.v 1,.at (.v 5) 28],.iff (.cmp (.v 6) [(.is,.k .none)]) [.ret<|.cQ (.at (.v 0) 25) 0 [.v 1]] [],.for false [7] (.v 6) [.ex<|.call 52 [.v 0,.v 1,.v 4,.v 5,.v 7,.v 3]]]
theorem I7{t:Ĵ}{F:bG->Lm aG}{key:bG}{cI Y aI:ĵ}{aQ pb:Lm B}{c:Ĳ (Ĵ×ĵ)}{d:Lm f0}{cz cs:B}{c1 dg cW:cr}{Q:ck->aK->St->Prop}(T:Rows S.R)(h:f9 S.R t F)(az:Y=0\/Y=1\/Y=2)(dj:aI=0\/aI=1\/aI=2)(aE:(k=6/\key=.S/\cz=.tup [])\/(k=7/\key=.N/\cs=.tup []))(al:b_ (f3 S.X) pb (kw k c))(ap:S.R.length+7<=a3)(q:∀iH aa c1 dg cW,a_ S.R aa 7->lK aa Y aI (F key) c iH->Q .go (Bx S (fW cI (-1) t Y aI) aQ c1 dg cW) ((S.w aa).x<|dt S.X d (if k=6 then gu iH else cz)<|if k=7 then gu iH else cs).st):cE (n+18) false [5] û pb (Bx S (fW cI (-1) t Y aI) aQ c1 dg cW) (S.x<|dt S.X d cz cs).st Q:=by
 induction c with
 |none=>
  have e:(if k=6 then gu none else cz)=cz/\(if k=7 then gu none else cs)=cs:=by rcases aE with⟨rfl,-,rfl⟩|⟨rfl,-,rfl⟩<;>exact⟨rfl,rfl⟩
  have q:=q none S.R c1 dg cW (a_.refl T) rfl;rw[e.1,e.2]at q;cases al;exact⟨q⟩
 |some c=>obtain⟨c,aV⟩:=c;cases al with|@cons v _ _ _ af al=>cases al;lk;refine ax.of (H4 (R:=S.R) af rfl)<|F_ ?_;lk;refine OD T h az dj aE af ap λu dX cK ty=>?_;lk;exact(q (some (u,gN aI aV)) dX (.val v) (.val<|.tup [au k]) (.val<|au k) cK ⟨u,rfl,ty⟩)
theorem Lx{t:Ĵ}{F:bG->Lm aG}{cI Y aI:ĵ}{aQ:Lm B}{aw:Lm gP}{aj:Lm c2}{b9 bQ:Ĳ (Ĵ×ĵ)}(T:Rows S.R)(h:f9 S.R t F)(az:Y=0\/Y=1\/Y=2)(dj:aI=0\/aI=1\/aI=2)(ct:b_ (f3 S.X) aQ (aw++(kw 6 b9++kw 7 bQ)))(my:b_ (pu S.R) aw aj)(a7:∀p∈aj,0<=p.2.2.1)(b6:(aj.map (·.1)).Nodup)(ah:aj.length<=40)(ap:S.R.length+400<=a3)(q:∀u ca dv ds aa d_,a_ S.R aa 400->jb aa F Y aI (aj.map yx) b9 bQ u ca dv ds->Q (au u) ((S.w aa).x<|S.X++d_).st):bd (n+19) 53 [.ref 10,fW cI (-1) t Y aI,.lst aQ,.bool false] S.st Q:=by
 obtain⟨X9,e5,rfl,e0,hi⟩:=ct.parts;clear ct;obtain⟨pb,uI,rfl,fS,kM⟩:=hi.parts;clear hi;k_go;refine Ui ⟨rfl,cE.app<|cE.al (e0.comp my) (λdone K=>∀aa d c1 dg cW,a_ S.R aa (8*done.length)->b_ (pM aa F Y aI) d (done.map yx)->K (Bx S (fW cI (-1) t Y aI) (X9++(pb++uI)) c1 dg cW) ((S.w aa).x<|dt S.X d (gu none)<|gu none).st) (λdone v p a' ag af K ab aa d c1 dg cW g mm=>?_) (λaa d c1 dg cW g mm=>?_) λK ab=>ab S.R [] _ _ _ (a_.refl T) .nil⟩
 .obtain⟨e,af,aN⟩:=af;obtain⟨k,rfl,aE⟩:=aN;have o8:d.length<=1000:=by rw[mm.len,bR];exact aJ (li<|oA ag ah)<|aH rfl
  lk;refine ax.of (H4 (R:=aa) af rfl) ?_;lk;refine F_ ?_;lk;refine UM (S:=S.w aa) g.ok (h.bf g) az dj af (aE.bf g) (a7 p<|by rw[ag];exact iA _<|.head _) ?_ o8 (g.turn ag ah ap) λu bu bj ty=>?_
  .rw[mm.names,f8];intro jR;rw[ag,c4,nd]at b6;exact b6.2.2 p.1 jR p.1 (.head _) rfl
  .have ab:=ab bu (d++[(p.1,u,pP Y aI p.2.2.1)]) (.val v) (.val<|.tup [au k]) (.val<|au k) (g.step bj<|dy _) (by rw[c4];exact(mm.imp λa b h=>h.bf bj).snoc ⟨rfl,rfl,ty⟩);lk;exact ab
 .have Fa:a_ S.R aa 320:=g.le<|hc 8 ah;have Ca:=mm.names;have o8:d.length<64:=by rw[mm.len,bR];exact hN ah<|aH rfl
  have PN:(d.map (·.1)).Nodup:=by rw[Ca,f8];exact b6
  refine cE.app<|I7 (S:=S.w aa) (k:=6) (key:=.S) (c:=b9) g.ok (h.bf g) az dj (.inl ⟨rfl,rfl,rfl⟩) fS (Fa.room ap<|aH rfl) λdv bu c1 dg cW bj d2=>?_;have cK:=Fa.trans bj;refine I7 (S:=S.w bu) (k:=7) (key:=.N) (c:=bQ) bj.ok ((h.bf g).bf bj) az dj (.inr ⟨rfl,rfl,rfl⟩) kM (cK.room ap<|aH rfl) λds dX c1 dg cW hU fp=>?_;have lw:=cK.trans hU;refine ax.of (a:=41) (by rw[DF<|S.w dX];rfl) ?_;refine R8 (S:=S.w dX) lw.ok PN o8 (lw.room ap<|aH rfl) λu ca rY mf u3 qO B9=>q u ca dv ds rY _ ((lw.trans mf).le<|aH rfl) ⟨B9,u3,λp ae=>?_,λm aN=>?_,(d2.bf hU).bf mf,fp.bf mf⟩
  .obtain⟨z,hz,rfl⟩:=dn.mp<|(qO p).mp ae;obtain⟨b,av,eY⟩:=mm.t6 z hz;exact⟨rfl,b,av,((eY.bf bj).bf hU).bf mf⟩
  .obtain⟨z,hz,eY⟩:=mm.mem m aN;exact⟨_,(qO _).mpr<|fy hz,((eY.bf bj).bf hU).bf mf⟩
theorem Lo{aC cC:Type}(f:aC->cC):∀{l dh:Lm aC},l.map f=dh.map f->(∀p∈l,∀et∈dh,f p=f et->p=et)->l=dh
 |[],[],_,_=>rfl
 |[],_::_,h,_=>by cases h
 |_::_,[],h,_=>by cases h
 |a::l,b::dh,h,k=>by rw[fx,fx,th]at h;rw[k a (.head _) b (.head _) h.1,Lo f h.2 λp ae et gX=>k p (.tail _ ae) et<|.tail _ gX]
theorem lK.inj{R:Lm B}(T:Rows R){Y aI:ĵ}{K:Lm aG}{a hi b ev:Ĳ (Ĵ×ĵ)}(h:lK R Y aI K a b)(aR:lK R Y aI K hi ev)(e:a.map (·.2)=hi.map (·.2)):b=ev:=by
 rcases a with _|⟨t,aV⟩<;>rcases hi with _|⟨dK,Ĉ⟩
 .rw[show b=none from h,show ev=none from aR]
 .exact b4 e
 .exact lh e
 .cases e;obtain⟨u,rfl,E⟩:=h;obtain⟨ie,rfl,l6⟩:=aR;rw[E.inj T l6]
theorem jb.inj{R:Lm B}(T:Rows R){F:bG->Lm aG}{Y aI:ĵ}{aw K9:Lm Tm}{b9 bQ wa ul:Ĳ (Ĵ×ĵ)}{t dK:Ĵ}{aj dJ:Lm c2}{dv ds Zk MU:Ĳ (Ĵ×ĵ)}(h:jb R F Y aI aw b9 bQ t aj dv ds)(aR:jb R F Y aI K9 wa ul dK dJ Zk MU)(aN:∀m,m∈aw↔m∈K9)(fn:∀m∈aw,∀iS∈aw,m.1=iS.1->m=iS)(fv:b9.map (·.2)=wa.map (·.2))(kF:bQ.map (·.2)=ul.map (·.2)):t=dK:=by
 have uy:aj=dJ:=by
  refine Lo (λp=>p.1) (PV h.fB aR.fB λx=>?_) λp ae et gX e=>?_
  .constructor
   .intro ay;obtain⟨p,ae,rfl⟩:=dn.mp ay;clear ay;obtain⟨m,gh,av⟩:=(h.to p ae).2;obtain⟨et,gX,l5⟩:=aR.of m<|(aN m).mp gh;rw[show p.1=et.1 from av.1.trans l5.1.symm];exact fy (f:=λx:c2=>x.1) gX
   .intro ay;obtain⟨p,ae,rfl⟩:=dn.mp ay;clear ay;obtain⟨m,gh,av⟩:=(aR.to p ae).2;obtain⟨et,gX,l5⟩:=h.of m<|(aN m).mpr gh;rw[show p.1=et.1 from av.1.trans l5.1.symm];exact fy (f:=λx:c2=>x.1) gX
  .obtain⟨cZ,m,gh,kn,jW,ly⟩:=h.to p ae;obtain⟨MR,iS,Wl,Nq,No,OS⟩:=aR.to et gX;have:m=iS:=fn m gh iS ((aN iS).mpr Wl)<|kn.symm.trans<|(show p.1=et.1 from e).trans Nq;subst this;exact nE e<|nE (ly.inj T OS)<|nE (jW.trans No.symm)<|cZ.trans MR.symm
 have r:=h.row;rw[uy,h.six.inj T aR.six fv,h.tm.inj T aR.tm kF]at r;exact T.inj r aR.row
theorem b_.Qb{R:Lm B}{aw:Lm gP}{aj:Lm c2}(x:b_ (pu R) aw aj):b_ (pu R) (aw.filter mg) (aj.filter λp=> !iv p.1):=by
 induction x with
 |nil=>exact .nil
 |@cons e p _ _ x y ar=>
  obtain⟨k,rfl,aE⟩:=id x;rw[h2,h2];show b_ _ (if(!iv p.1)=true then _ else _) _;induction iv p.1 with
  |false=>exact .cons x ar
  |true=>exact ar
def rd (aj:Lm c2):Lm Tm:=((aj.filter λp=>oD p.2.2.1).filter λp=> !iv p.1).map yx
theorem P'{t src o:Ĵ}{F:bG->Lm aG}{cI Y aI cL e2:ĵ}{l:Lm B}{aj:Lm c2}{eD:B}{b9 bQ:Ĳ (Ĵ×ĵ)}(T:Rows S.R)(h:f9 S.R t F)(az:Y=0\/Y=1\/Y=2)(dj:aI=0\/aI=1\/aI=2)(aM:S.R[src]?=some (.tup<|.int cL::l))(aE:cL=8\/cL=9)(sF:∀m bT,bT (au o) S.st->bd (m+4) 28 [.ref 10,au src] S.st bT)(bm:S.R[o]?=some (h3 aj eD b9 bQ e2))(ay:∀p∈aj,p.1∈iC)(a7:∀p∈aj,0<=p.2.2.1)(b6:(aj.map (·.1)).Nodup)(ah:aj.length<=7)(ap:S.R.length+500<=a3)(q:∀u ca dv ds aa d_,a_ S.R aa 500->jb aa F Y aI (rd aj) b9 bQ u ca dv ds->Q (au u) ((S.w aa).x<|S.X++d_).st):bd (n+21) 59 [.ref 10,fW cI (-1) t Y aI,au src] S.st Q:=by
 have fH:cL≠11:=by rcases aE with e|e<;>rw[e]<;>decide
 have gy:cL≠12:=by rcases aE with e|e<;>rw[e]<;>decide
 k_go;lk;refine v3 aM (aE.imp id .inl)<|bh.ft fH<|bh.ft gy<|di.m8 rfl<|WU T (λbT bb=>sF _ bT bb) bm a7 (aJ ah<|aH rfl) (aJ (gp (aJ ah<|aH rfl) _) ap) λaa d_ aQ aw g e0 fS=>?_;replace g:=g.le ah;have ti:∀k c,(kw k c).length<=1:=by rintro k(_|c)<;>exact aH rfl
 have oo:(aw++(kw 6 b9++kw 7 bQ)).length<=9:=by rw[c_,c_];exact gJ (aJ (fU fS.len)<|aJ (l1 _ _) ah)<|gJ (ti 6 b9)<|ti 7 bQ
 have K2:∀k c,(kw k c).filter mg=kw k c:=by rintro k(_|c)<;>rfl
 refine WC (S:=(S.w aa).x<|S.X++d_) (iW:=.un) (x:=.none) (N:=0) g.ok e0 (λe a6 k p N6=>?_) (aJ (gp oo _)<|g.room ap<|aH rfl) λbu pb bj iz=>?_
 .rw[N6]at a6;rcases gm.mp a6 with a6|a6
  .obtain⟨et,gX,iB,ag,_⟩:=fS.t6 _ a6;cases ag;exact ay p (gz.mp gX).1
  .rcases gm.mp a6 with a6|a6
   .rcases b9 with _|c
    .exact nomatch a6
    .exact nomatch cV.mp a6
   .rcases bQ with _|c
    .exact nomatch a6
    .exact nomatch cV.mp a6
 .replace bj:=bj.le oo;rw[l',l',K2,K2]at iz;have cK:=g.trans bj;refine Lx (S:=((S.w aa).x<|S.X++d_).w bu) bj.ok (h.bf cK) az dj iz ((fS.imp λa b h=>h.bf bj).Qb:b_ (pu bu) (aw.filter mg) (((aj.filter λp=>oD p.2.2.1).filter λp=> !iv p.1))) (λp ae=>a7 p (gz.mp (gz.mp ae).1).1) (((Dt.trans Dt).map _).nodup b6) (aJ (l1 _ _)<|aJ (l1 _ _)<|aJ ah<|aH rfl) (cK.room ap<|aH rfl) λu ca dv ds dX SI hU to=>?_;have q:=q u ca dv ds dX (d_++SI) ((cK.trans hU).le<|aH rfl) to;rw[<-hS]at q;exact q
def hF.good:hF->Prop
 |.fix K=>Drawn K
 |.tab ep e3 el=>Drawn ep/\Drawn e3/\(∀a∈el,a∈rS)/\el.length<=9/\(∀a∈ep,a∈el)/\∀a∈e3,a∈el
 |_=>True
structure cG.good(p:cG):Prop where
 e7:p.e7<4
 h6:p.h6.good
theorem cG.good.ok{p:cG}(h:p.good):p.ok:=by
 refine⟨h.e7,λk=>?_⟩;have av:=h.h6;induction e:p.h6 with
 |own=>exact iK rfl
 |key=>exact iK rfl
 |fix K=>rw[e]at av;have:=Drawn.len av;show K.length<=12;exact fK ‹_›
 |tab ep e3 el=>
  rw[e]at av;obtain⟨aF,ak,_,aM,_,_⟩:=av;have:=aF.len;have:=ak.len;show(jy ep e3 el k).length<=12;unfold jy;split
  .split
   .exact fK ‹_›
   .split<;>omega
  .exact fK ‹_›
theorem q9{K:Lm aO}(h:∀a∈K,a∈rS):yc K:=λk aE=>by have:=h _ aE;simp[rS]at this
theorem xY{K:Lm aO}{hy:B}(ab:Drawn K)(T:Rows S.R)(ap:S.R.length+8<=a3)(q:∀t aa,a_ S.R aa 7->h4.Ty aa t K->Q (au t) (S.w aa).st):bd (n+5) 75 [.ref 1,hy,.lst<|K.map aO.aW] S.st Q:=s8 T ab.len rfl (hp ‹_›) rfl (λk aE=>absurd aE<|q9 ab.pd k) q
theorem Ye(c':n4 S.nums)(bg:S.d<=80000)(q:∀(p:cG) d,p.good->d<=S.d+14->Q p.aW (S.go d).st):bd (n+3) 79 [.ref 0] S.st Q:=by
 k_go;refine hI c' (aJ bg<|aH rfl) (by decide) λbase av=>?_;refine hI (S:=S.go<|S.d+1) c' (aJ (da bg)<|aH rfl) (by decide) λe7 qq=>?_;have xm:e7<4:=gM qq;have y6:∀{a b:Ĵ},Nat.ble b 14=true->a<=S.d+b->a<=S.d+14:=λe h=>aJ h<|gp (aH e) _;have zw:∀{a b:Ĵ},Nat.ble b 14=true->a<=S.d+b->a<=90000:=λe h=>aJ (y6 e h)<|aJ (fO bg 14)<|aH rfl;rcases zm (gM av)with ei|ei|ei|ei<;>rw[ei]
 .exact q ⟨.own,e7⟩ (S.d+1+1) ⟨xm,trivial⟩<|y6 (b:=2) rfl<|dy _
 .exact q ⟨.key,e7⟩ (S.d+1+1) ⟨xm,trivial⟩<|y6 (b:=2) rfl<|dy _
 .exact qZ (S:=S.go<|S.d+1+1) c' (zw (b:=2) rfl<|dy _) λK d _ E ab=>q ⟨.fix K,e7⟩ d ⟨xm,ab⟩<|y6 (b:=6) rfl E
 .refine qZ (S:=S.go<|S.d+1+1) c' (zw (b:=2) rfl<|dy _) λep JV _ E s1=>?_;replace E:JV<=S.d+6:=E;refine⟨rfl,ax.of rfl ⟨iK rfl,?_⟩⟩;refine qZ (S:=S.go JV) c' (zw rfl E) λe3 wD _ ba yF=>?_;replace ba:wD<=S.d+10:=aJ ba<|fO E 4;refine⟨rfl,ax.of rfl ⟨iK rfl,?_⟩⟩;refine qZ (S:=S.go wD) c' (zw rfl ba) λel y7 _ d2 pD=>?_;have aB:∀{a b:Lm aO},a.length<=3->b.length<=3->(a.map aO.aW).length+(b.map aO.aW).length<=6:=λak av=>by rw[bR,bR];exact gJ ak av
  refine ax.of (lu<|aJ (aB pD.len s1.len)<|aH rfl) ?_;refine ax.of (lu<|aJ (by rw[c_];exact gJ (aB pD.len s1.len) (aJ (fU<|bR _) yF.len):_<=9)<|aH rfl) ?_;refine⟨rfl,ax.of rfl ⟨iK rfl,?_⟩⟩;have q:=q ⟨.tab ep e3<|el++ep++e3,e7⟩ y7 ⟨xm,s1,yF,λa ak=>(gm.mp ak).elim (λak=>(gm.mp ak).elim (pD.pd a)<|s1.pd a)<|yF.pd a,by rw[c_,c_];exact gJ (gJ pD.len s1.len) yF.len,λa h=>kQ _<|iA _ h,λa h=>iA _ h⟩<|aJ d2<|fO ba 4;simp only[cG.aW,hF.num,hF.fixed,hF.table,c4]at q;exact q
theorem JM{R:Lm B}(T:Rows R){p:Ĵ}{v:B}(h:R[p]?=some v)(af:∀x,v≠.tup [.int 1,.str x]):4<p:=by exact Nat.lt_of_not_le λq=>((by decide:∀p≤4,p=0\/p=1\/p=2\/p=3\/p=4) p q).elim (o6 T h (t:=0) rfl<|af _) λq=>q.elim (o6 T h (t:=1) rfl<|af _) λq=>q.elim (o6 T h (t:=2) rfl<|af _) λq=>q.elim (o6 T h (t:=3) rfl<|af _)<|o6 T h (t:=4) rfl<|af _
theorem gi.un{R:Lm B}{p:Ĵ}(h:gi R p (-1)):eg R p [p]:=⟨by simp,λq bb=>⟨-1,by rw[cV]at bb;subst bb;exact h,λz _=>by omega⟩,.inr<|.inl rfl⟩
theorem JE{p:Ĵ}{arg:B}(T:Rows S.R)(h:gi S.R p (-1))(ba:4<p)(ak:items arg=some [au p,au 4])(ap:S.R.length+1<=a3)(q:∀t aa,a_ S.R aa 1->eg aa t [4,p]->Q (au t) (S.w aa).st):bd (n+3) 20 [.ref 1,arg] S.st Q:=by
 refine yL T h.un ak (by simp) ap λt aj aa g u m=>q t aa g ?_;have:aj=[4,p]:=wA u.fB (tF.mpr ⟨λx ay=>by rw[cV.mp ay];exact ba,KQ _ _⟩) λz=>(m z).trans ⟨λh=>h.elim (λh=>.tail _ h) λe=>by rw[e];exact .head _,λh=>by
  cases h with
  |head=>exact .inr rfl
  |tail _ h=>exact .inl h⟩
 rw[<-this];exact u
theorem wQ{e7 x:Ĵ}{F:bG->Lm aO}{iW e0 fS kM km Eh oU tq xh:cr}{Q:ck->aK->St->Prop}(T:Rows S.R)(qq:e7<4)(eY:kR S.R x F)(ay:(gi S.R x (-1)/\4<x)\/∃K,K.length<=11/\iY S.R x K/\F=λ_=>K)(ap:S.R.length+2<=a3)(q:∀t aa r,a_ S.R aa 2->f9 aa t (λk=>gA e7<|F k)->Q (.ret<|au t) r (S.w aa).st):bw (n+5) [.iff (.cmp (.bin .mod (.v 5)<|.k<|.int 2) [(.eq,.k<|.int 1)]) [.set 8<|.cQ (.v 0) 0 [.tup [.k<|.int 11,.v 8,.k<|.int 0]]] [],.ret<|.ite (.cmp (.v 5) [(.gt,.k<|.int 1)]) (.call 20 [.v 0,.tup [.v 8,.k<|.int 4]])<|.v 8] [.val<|.ref 1,e0,fS,kM,km,.val<|.int e7,Eh,oU,.val<|au x,tq,xh] S.st Q:=by
 have P1:∀{R:Lm B} {p:Ĵ},Rows R->R[p]?=some (hV x 0)->gi R p (-1)/\4<p:=λT h=>⟨⟨⟨_,h,.arr _ _⟩,r_ T h rfl⟩,JM T h λx q=>by cases q⟩;rcases(zm qq)with rfl|rfl|rfl|rfl
 .refine q x S.R _ (a_.refl T) ?_;rw[(funext λk=>by simp[gA]:(λk=>gA 0<|F k)=λk=>(F k).map .b)];exact .one<|.base eY
 .refine e4 T rfl (li ap) λp aa g e=>q p aa _ (g.le<|aH rfl) ?_;rw[(funext λk=>rfl:(λk=>gA 1<|F k)=λk=>[.arr<|F k])];exact .one<|.arr (eY.bf g) e
 .rcases ay with⟨ae,ba⟩|⟨K,ab,kN,rfl⟩
  .refine JE T ae ba rfl (li ap) λt aa g u=>q t aa _ (g.le<|aH rfl) ?_;rw[(funext λk=>rfl:(λk=>gA 2<|F k)=λk=>(F k).map .b++[.b .bA])];exact .bA (.base<|eY.bf g) (ae.bf g) ba u
  .obtain⟨aj,u,i,ah⟩:=kN.ty.tE T;refine yL T u rfl (hN (aJ ah ab)<|jC rfl) (li ap) λt dJ aa g ie m=>q t aa _ (g.le<|aH rfl) ?_;rw[(funext λk=>by simp[gA]:(λ_:bG=>gA 2 K)=λ_=>(K++[aO.bA]).map .b)];have no:yc (K++[aO.bA]):=λk aE=>by
    rcases gm.mp aE with aE|aE
    .exact kN.no k aE
    .rw[cV]at aE;cases aE
   exact .one<|.base<|.fix ⟨⟨dJ,ie,(c9.Is.bA (Z:=h4) T i m).bf g⟩,no,by rw[c_];exact da ab⟩
 .refine e4 T rfl (li ap) λp aa g e=>?_;obtain⟨ae,ba⟩:=P1 g.ok e;have sr:=g.len;refine JE (S:=S.w aa) g.ok ae ba rfl (g.room ap<|aH rfl) λt bu bj u=>?_;refine q t bu _ (g.trans bj) ?_;rw[(funext λk=>rfl:(λk=>gA 3<|F k)=λk=>[.arr<|F k]++[.b .bA])];exact .bA (.arr ((eY.bf g).bf bj)<|bj.at e) (ae.bf bj) ba u
theorem FK{R:Lm B}(T:Rows R){p:Ĵ}{a b:ĵ}(h:R[p]?=some (pc a b)):gi R p (-1)/\4<p:=⟨⟨⟨_,h,.idx _ _⟩,r_ T h rfl⟩,JM T h λx q=>by cases q⟩
theorem O3{p:cG}(T:Rows S.R)(ae:p.good)(ap:S.R.length+100<=a3)(q:∀t aa,a_ S.R aa 100->f9 aa t p.at->Q (au t) (S.w aa).st):bd (n+7) 81 [.ref 1,.int 16,.int 17,p.aW] S.st Q:=by
 obtain⟨h6,e7⟩:=p;obtain⟨qq,av⟩:=ae;k_go;induction h6 with
 |own=>lk;refine e4 T rfl (hp ‹_›) λx aa g e=>?_;have sr:=g.len;have bx:aa[x]?=some (pc 16 17):=e;lk;exact(@wQ (n+1) (S.w aa) e7 x _ (.val<|.ref 1) (.val<|.int 16) (.val<|.int 17) (.val<|cG.aW ⟨.own,e7⟩) (.val<|.int 0) (.val<|.lst []) (.val<|.a9 []) .un .un (λcM _ aq=>Q cM.val aq) g.ok qq (.own bx) (.inl<|FK g.ok bx) (by show aa.length+2<=a3;omega) λt bu r bj bk=>q t bu ((g.trans bj).le<|aH rfl) bk)
 |key=>lk;exact(@wQ (n+1) S e7 17 _ (.val<|.ref 1) (.val<|.int 16) (.val<|.int 17) (.val<|cG.aW ⟨.key,e7⟩) (.val<|.int 1) (.val<|.lst []) (.val<|.a9 []) .un .un (λcM _ aq=>Q cM.val aq) T qq .key (.inl ⟨⟨⟨_,T.at rfl,.par _⟩,by decide⟩,by decide⟩) (hp ‹_›) λt bu r bj bk=>q t bu (bj.le<|aH rfl) bk)
 |fix K=>have ab:Drawn K:=av;have rp:=ab.len;lk;refine s8 T rp rfl (hp ‹_›) rfl (λ_ _=>rfl) λx aa g ty=>?_;have sr:=g.len;have kN:iY aa x K:=⟨ty,q9 ab.pd,by omega⟩;lk;exact(@wQ (n+1) (S.w aa) e7 x _ (.val<|.ref 1) (.val<|.int 16) (.val<|.int 17) (.val<|cG.aW ⟨.fix K,e7⟩) (.val<|.int 2) (.val<|.lst<|K.map aO.aW) (.val<|.a9 []) .un .un (λcM _ aq=>Q cM.val aq) g.ok qq (.fix kN) (.inr ⟨K,fK ‹_›,kN,rfl⟩) (by show aa.length+2<=a3;omega) λt bu r bj bk=>q t bu ((g.trans bj).le<|by omega) bk)
 |tab ep e3 el=>obtain⟨aF,ak,aM,t3,KD,K0⟩:=av;have Ĝ:=aF.len;have ġ:=ak.len;lk;refine di.m8 rfl ?_;lk;refine s8 T aF.len rfl (hp ‹_›) rfl (λ_ _=>rfl) λia gs g Qg=>?_;lk;refine s8 (S:=S.w gs) g.ok ak.len rfl (g.room ap<|aH rfl) rfl (λ_ _=>rfl) λiu bu bj Pf=>?_;replace g:=g.trans bj;lk;refine s8 (S:=S.w bu) g.ok t3 rfl (g.room ap<|aH rfl) rfl (λ_ _=>rfl) λaU dX cK ò=>?_;replace g:=g.trans cK;lk;refine e4 (S:=S.w dX) (row:=vJ ia iu aU) g.ok rfl (g.room ap<|aH rfl) λaX rY hU M8=>?_;replace g:=g.trans hU;lk;refine e4 (S:=S.w rY) (row:=pc aX 17) g.ok rfl (g.room ap<|aH rfl) λx ot lw ex=>?_;replace g:=g.trans lw;have x4:kR ot x (jy ep e3 el):=.tab ex (lw.at M8) ⟨(((Qg.bf bj).bf cK).bf hU).bf lw,q9 aF.pd,by have:=aF.len;omega⟩ ⟨((Pf.bf cK).bf hU).bf lw,q9 ak.pd,by have:=ak.len;omega⟩ ⟨(ò.bf hU).bf lw,q9 aM,fK ‹_›⟩;lk;exact(λtq=>@wQ (n+1) (S.w ot) e7 x _ (.val<|.ref 1) (.val<|.int 16) (.val<|.int 17) (.val<|cG.aW ⟨.tab ep e3 el,e7⟩) (.val<|.int 3) (.val<|.lst []) (.val<|.a9<|hF.table<|.tab ep e3 el) tq .un (λcM _ aq=>Q cM.val aq) g.ok qq x4 (.inl<|FK g.ok ex) (g.room ap<|aH rfl) λt Et r mf bk=>q t Et ((g.trans mf).le<|aH rfl) bk) _
theorem DA{a b:Ĵ}(av:0<b)(ak:a<=1000)(l5:b<=1000):Up.bin .fdiv (au a) (au b)=some (au<|a/b):=by show(if(b:ĵ)≠0/\(small a&&small b)=true then some (B.int<|Int.fdiv a b)else none)=_;rw[bl ⟨by omega,by rw[iq ak,iq l5];rfl⟩,<-Int.ofNat_fdiv]
theorem GA{a b:Ĵ}(ak:a<=1000)(av:b<=1000):Up.bin .mul (au a) (au b)=some (au<|a*b):=by show(if(small a&&small b)=true then some (B.int<|(a:ĵ)*b)else none)=_;rw[bl<|by rw[iq ak,iq av];rfl];rfl
theorem bw.seq{n:Ĵ}{c:dS}{l:Lm dS}{r:aK}{s:St}{Q:ck->aK->St->Prop}(i:Ĵ)(K:cr->St->Prop)(G:nq n c r s λf b0 aq=>f=.go/\∃v,b0=r.set i v/\K v aq)(E:∀v aq,K v aq->bw n l (r.set i v) aq Q):bw n (c::l) r s Q:=by exact nq.mono G λf b0 aq h=>by obtain⟨rfl,v,rfl,aE⟩:=h;exact E v aq aE
theorem bw.to{n:Ĵ}{c:dS}{l:Lm dS}{r:aK}{s:St}{Q:ck->aK->St->Prop}(b0:aK)(aq:St)(G:∀K:ck->aK->St->Prop,K .go b0 aq->nq n c r s K)(E:bw n l b0 aq Q):bw n (c::l) r s Q:=G _ E
theorem bw.yQ{n:Ĵ}{c:dS}{l:Lm dS}{r:aK}{s:St}{Q:ck->aK->St->Prop}(i:Ĵ)(fA:(cr->St->Prop)->Prop)(G:∀K:cr->St->Prop,fA K->nq n c r s λf b0 aq=>f=.go/\∃v,b0=r.set i v/\K v aq)(E:fA λv aq=>bw n l (r.set i v) aq Q):bw n (c::l) r s Q:=bw.seq i _ (G _ E) λ_ _ h=>h
theorem bw.SG{n:Ĵ}{c:a1}{t l:Lm dS}{r:aK}{s:St}{Q:ck->aK->St->Prop}(h:di n c r s λv aq=>jt v=some false/\aq=s)(k:bw n l r s Q):bw n (.iff c t []::l) r s Q:=gE (bd.m n) c _ _ _ _ (λv aq h=>by show bh (jt v) _ _;rw[h.1,h.2];exact k) h
theorem bw.DL{n i:Ĵ}{l:Lm dS}{r:aK}{s:St}{Q:ck->aK->St->Prop}(k:bw n l (r.set i<|.od []) s Q):bw n (.own i (.a9 [])::l) r s Q:=k
theorem kP.go{n:Ĵ}{l:Lm dS}{r:aK}{s:St}{Q:ck->aK->St->Prop}(k:bw n l r s Q):kP (bw n l) Q .go r s:=k
theorem bw.z_{n i:Ĵ}{l:Lm dS}{r:aK}{s:St}{d:Lm (B×B)}{Q:ck->aK->St->Prop}(e:r[i]?=some (.od d))(k:bw n l (r.set i<|.val<|.a9 d) s Q):bw n (.a4 i::l) r s Q:=by show rO r[i]? (kP (bw n l) Q .go r s) λv=>kP (bw n l) Q .go (r.set i<|.val v) s;rw[e];exact k
theorem bw.Rt{n i:Ĵ}{e:a1}{aQ:Lm B}{l:Lm dS}{r:aK}{s:St}{Q:ck->aK->St->Prop}(h:di n e r s λv aq=>v=.lst aQ/\aq=s)(k:bw n l (r.set i<|.ol aQ) s Q):bw n (.own i e::l) r s Q:=gE (bd.m n) e _ _ _ _ (λv aq h=>by show t1 v _;rw[h.1,h.2];exact k) h
structure bO where
 nm:bv
 K:List aO
 o:Nat
 aV:Nat
 w:Nat
 h:Nat
def bO.aW (m:bO):B:=.tup [.str m.nm,.lst<|m.K.map aO.aW,au m.o,au m.aV,au m.w,au m.h]
structure bO.ok(m:bO):Prop where
 nm:m.nm∈iC
 K:Drawn m.K
 o:m.o<2
 aV:m.aV<2
 w:m.w<3
 h:m.h<3
theorem Wv(v:Ĵ)(af:v<7):∃x∈iC,∀s,ho s (.lst<|iC.map ek) (au v)=some (.str x):=vr af
theorem Od(x:bv)(l:Lm bv):hO (.str x) (l.map ek)=some (decide<|x∈l):=by
 rcases D1 (x:=.str x) rfl (l:=l.map ek) (λa ak=>by obtain⟨y,_,rfl⟩:=dn.mp ak;clear ak;rfl)with⟨h,e⟩|⟨h,e⟩
 .rw[e,dQ];obtain⟨y,a2,e⟩:=dn.mp h;clear h;cases e;exact a2
 .rw[e,eC λq=>h<|fy q]
def El (dG:B) (l:Lm B) (c1 dg cW cv:cr):aK:=[.val<|.ref 0,.val<|.ref 1,.val<|.lst<|iC.map ek,.val dG,.ol l,c1,dg,cW,cv,.un,.un,.un,.un,.un,.un,.un,.un,.un,.un,.un,.un,.un,.un,.un,.un,.un,.un]
theorem xo(a b:Ĵ):(a:ĵ).fmod (b:Ĵ)=((a%b:Ĵ):ĵ):=(C7 a b).symm
theorem YX{Q:ck->aK->St->Prop}{dG:B}{c:Ĵ}(c':n4 S.nums)(bg:S.d<=70000)(ap:c<=4)(q:∀(M:Lm bO) d c1 dg cW cv,d<=S.d+24->(∀m∈M,m.ok)->(M.map (·.nm)).Nodup->M.length<=4->Q .go (El dG (M.map bO.aW) c1 dg cW cv) (S.go d).st):cE (n+3) false [5] [.set 6<|.ao (.v 2)<|.bin .mod (.bin .add (.call 73 [.v 0,.k<|.int 7])<|.v 5)<|.k<|.int 7,.set 7<|.call 73 [.v 0,.k<|.int 60],.set 8<|.call 74 [.v 0],.iff (.cmp (.v 6) [(.f5,.comp (.ao (.v 23)<|.k<|.int 0) false [23] (.v 4) [])]) [.app 4<|.tup [.v 6,.v 8,.bin .mod (.v 7)<|.k<|.int 2,.bin .mod (.bin .fdiv (.v 7)<|.k<|.int 2)<|.k<|.int 2,.bin .mod (.bin .fdiv (.v 7)<|.k<|.int 4)<|.k<|.int 3,.ao (.lst [.k<|.int 0,.k<|.int 0,.k<|.int 0,.k<|.int 1,.k<|.int 2])<|.bin .fdiv (.v 7)<|.k<|.int 12]] []] ((List.range c).map au) (El dG [] .un .un .un .un) S.st Q:=by
 have ah:(List.range c).length<=4:=aJ (fU s3) ap;refine cE.mp (all:=List.range c) (f:=au) rfl (λdone K=>∀(M:Lm bO) d c1 dg cW cv,d<=S.d+6*done.length->(∀m∈M,m.ok)->(M.map (·.nm)).Nodup->M.length<=done.length->K (El dG (M.map bO.aW) c1 dg cW cv) (S.go d).st) (λdone i a' ag K ab M d c1 dg cW cv E eK kH uS=>?_) (λM d c1 dg cW cv E eK kH uS=>q M d c1 dg cW cv (aJ E<|gp (hc 6 ah) _) eK kH<|aJ uS ah) λK ab=>ab [] S.d _ _ _ _ (dy _) (λ_ h=>nomatch h) .nil<|dy _;have aA:=oA ag ah;have Ap:d<=70024:=aJ E<|gJ bg<|hc 6<|li aA;rw[c_]at ab;refine hI (S:=S.go d) c' (aJ Ap<|aH rfl) (by decide) λv af=>?_;obtain⟨x,ay,XU⟩:=Wv ((v+i)%7)<|sO _<|jC rfl;refine ax.of (a:=.str x) (by rw[show((v:ĵ)+(i:ĵ)).fmod 7=(((v+i)%7:Ĵ):ĵ)from xo (v+i) 7];exact XU _) ?_;refine hI (S:=S.go<|d+1) c' (aJ (fO Ap 1)<|aH rfl) (by decide) λfY TX=>?_;have IX:fY<=59:=ze<|gM TX;have BR:=aJ IX (aH rfl:59<=1000);refine qZ (S:=S.go<|d+1+1) c' (aJ (fO Ap 2)<|aH rfl) λeH nc _ ba vM=>?_;have yy:nc<=S.d+6*(done.length+1):=aJ ba<|fO E 6;refine di.comp rfl<|fj.mp (all:=M) (f:=bO.aW) rfl (λdone K=>K ((done.map (·.nm)).map ek) (S.go nc).st) (λdone m a' _ K ab=>eN.mk<|by rw[c4,c4]at ab;exact ab) ?_ λK ab=>ab;refine ax.of (show hu .f5 _ (.str x) (.lst<|(M.map (·.nm)).map ek)=some (!decide (x∈M.map (·.nm)))from by show(hO _ _).map (!·)=_;rw[Od];rfl) ?_;by_cases jR:x∈M.map (·.nm)
 .exact bh.ik (by rw[dQ jR];rfl)<|ab M nc _ _ _ _ yy eK kH<|iL uS
 .refine bh.mz (by rw[eC jR];rfl) ?_;obtain⟨h,cc,a6⟩:=vr (f:=au) (l:=[0,0,0,1,2]) (v:=fY/12) (Nat.div_lt_of_lt_mul (zM IX));replace cc:h<3:=(by decide:∀c∈[0,0,0,1,2],c<3) h cc;have ab:=ab (M++[⟨x,eH,fY%2,fY/2%2,fY/4%3,h⟩]) nc (.val (au i)) (.val (.str x)) (.val (au fY)) (.val (.lst (eH.map aO.aW))) yy (λm aN=>(gm.mp aN).elim (eK m) λaN=>by
   rw[cV.mp aN];exact⟨ay,vM,sO _ (jC rfl),sO _ (jC rfl),sO _ (jC rfl),cc⟩) (by
   rw[c4,nd];refine⟨kH,hT.mpr ⟨λq=>(nomatch q),.nil⟩,λa ak b av e=>jR ?_⟩;rw[<-show b=x from cV.mp av,<-e];exact ak) (by rw[c_];exact da uS)
  rw[c4]at ab;lk;refine ax.of (DA (a:=fY) (b:=2) (jC rfl) BR<|aH rfl) ?_;lk;refine ax.of (DA (a:=fY) (b:=4) (jC rfl) BR<|aH rfl) ?_;lk;refine ax.of (DA (a:=fY) (b:=12) (jC rfl) BR<|aH rfl) ?_;refine ax.of (a6 _) ⟨by rw[bR];exact aJ (da uS)<|aJ aA<|aH rfl,?_⟩;rw[show(fY:ĵ).fmod 2=((fY%2:Ĵ):ĵ)from xo fY 2,show((fY/2:Ĵ):ĵ).fmod 2=((fY/2%2:Ĵ):ĵ)from xo (fY/2) 2,show((fY/4:Ĵ):ĵ).fmod 3=((fY/4%3:Ĵ):ĵ)from xo (fY/4) 3];exact ab
theorem ZW(x y:bO)(h:x.nm≠y.nm):qz x.aW y.aW=some (gb x.nm y.nm):=by show(if(x.nm==y.nm)=true then none else some (gb x.nm y.nm))=_;rw[bt<|by simpa using h]
abbrev uF(a b:bO):Prop:=oF a.nm b.nm
theorem RP(bJ:Lm bO)(h:(bJ.map (·.nm)).Nodup):∃cR:Lm bO,iU (bJ.map bO.aW)=some (cR.map bO.aW)/\cR.Pairwise uF/\(∀p,p∈cR↔p∈bJ)/\cR.length=bJ.length:=by obtain⟨cR,e,G,E⟩:=uL (f:=bO.aW) (b:=λx y=>gb x.nm y.nm) (R:=uF) ZW (λ_ _ h=>h) (λ_ _ n h=>F7 n h) (λ_ _ _ a b=>xT a b)<|zN.mp h;exact⟨cR,e,G,λ_=>E.mem_iff,E.length_eq⟩
theorem Xj{M:Lm bO}(h:(M.map (·.nm)).Nodup)(ah:M.length<=4):∃cR:Lm bO,kC .sorted [.lst<|M.map bO.aW]=some (.lst<|cR.map bO.aW)/\cR.Pairwise uF/\(∀p,p∈cR↔p∈M)/\cR.length=M.length:=by
 obtain⟨cR,e,G,E,aB⟩:=RP M h;refine⟨cR,?_,G,E,aB⟩;show(if(M.map bO.aW).length<=4/\((M.map bO.aW).all λx=>(je x).isSome)=true/\((M.map bO.aW).map je).Nodup then(iU<|M.map bO.aW).map B.lst else none)=_;rw[bl,e];rfl;refine⟨by rw[bR];exact ah,?_,?_⟩
 .rw[oS,d6];intro x _;rfl
 .rw[f8];have:(je∘bO.aW)=some∘(λm:bO=>m.nm):=rfl;rw[this,<-f8];exact List.Pairwise.map _ (λa b h e=>h<|cY e) h
def ka (m:bO):Ĵ:=m.o*1+m.aV*2+(if m.w=0 then 0 else if m.w=1 then 4 else 96)+(if m.h=0 then 0 else if m.h=1 then 8 else 16)
abbrev ht:=Option<|Lm aO×Ĵ
def jO:ht->B
 |none=>.tup []
 |some (K,aV)=>.tup [.lst<|K.map aO.aW,au aV]
def ht.ok:ht->Prop
 |none=>True
 |some (K,aV)=>Drawn K/\aV<2
def xz(p:c2)(m:bO):Prop:=p.1=m.nm/\p.2.2.1=(ka m:ĵ)/\p.2.2.2=(if 0<m.h then 1 else 0)
theorem Rl{m:bO}{Q:B->St->Prop}{xi ln h' d3 eT c1 dg cW cv dF dE dR du:cr}{i9:Lm cr}(aN:m.ok)(q:Q (au<|ka m) s):di n (.bin .add (.bin .add (.bin .add (.bin .mul (.v 13)<|.k<|.int 1)<|.bin .mul (.v 14)<|.k<|.int 2)<|.ao (.lst [.k<|.int 0,.k<|.int 4,.bin .add (.k<|.int 32)<|.k<|.int 64])<|.v 15)<|.ao (.lst [.k<|.int 0,.k<|.int 8,.k<|.int 16])<|.v 16) (xi::ln::h'::d3::eT::c1::dg::cW::cv::dF::dE::dR::du::.val (au m.o)::.val (au m.aV)::.val (au m.w)::.val (au m.h)::i9) s Q:=by
 obtain⟨_,_,az,bm,bF,cc⟩:=aN;obtain⟨nm,K,o,aV,w,h⟩:=m;have ao:∀{a b c:ĵ} {i:Ĵ} (f:Ĵ->ĵ),f 0=a->f 1=b->f 2=c->i<3->∀s,ho s (.lst [.int a,.int b,.int c]) (au i)=some (.int<|f i):=by
  intro a b c i f oP ag a8 aA s;rcases PQ aA with e|e|e<;>rw[e]
  .rw[oP];rfl
  .rw[ag];rfl
  .rw[a8];rfl
 exact ax.of (GA (a:=o) (b:=1) (aJ (kq az)<|aH rfl)<|aH rfl)<|ax.of (GA (a:=aV) (b:=2) (aJ (kq bm)<|aH rfl)<|aH rfl)<|ax.of (ao (λw=>((if w=0 then 0 else if w=1 then 4 else 96:Ĵ):ĵ)) rfl rfl rfl bF _)<|ax.of (ao (λh=>((if h=0 then 0 else if h=1 then 8 else 16:Ĵ):ĵ)) rfl rfl rfl cc _) q
theorem NE{cy cT:ht}{Q:B->St->Prop}{xi h' d3 eT c1 dg cW cv dF dE dR du dO dT dc gw e8 nB E3 E' Ka GX JY GI HR K4:cr}{i9:Lm cr}(T:Rows S.R)(aF:cy.ok)(G:cT.ok)(ap:S.R.length+20<=a3)(q:∀(a b:Ĳ (Ĵ×ĵ)) aa,a_ S.R aa 20->a.map (·.2)=cy.map (λc=>(c.2:ĵ))->b.map (·.2)=cT.map (λc=>(c.2:ĵ))->Q (.lst [gu a,gu b]) (S.w aa).st):fj (.lst [jO cy,jO cT]) (xi::.val (.ref 1)::h'::d3::eT::c1::dg::cW::cv::dF::dE::dR::du::dO::dT::dc::gw::e8::nB::E3::E'::Ka::GX::JY::GI::HR::K4::i9) S.st (n+6) (.ite (.cmp (.v 26) [(.eq,.tup [])]) (.tup [])<|.tup [.call 75 [.v 1,.k<|.int<|-1,.ao (.v 26)<|.k<|.int 0],.ao (.v 26)<|.k<|.int 1]) false [26] [] Q:=by
 have one:∀(c:ht) (cm:dz) (bT:Lm B->St->Prop),c.ok->Rows cm.R->cm.R.length+8<=a3->(∀(a:Ĳ (Ĵ×ĵ)) aa,a_ cm.R aa 7->a.map (·.2)=c.map (λc=>(c.2:ĵ))->bT [gu a] (cm.w aa).st)->eN (n+6) (.ite (.cmp (.v 26) [(.eq,.tup [])]) (.tup [])<|.tup [.call 75 [.v 1,.k<|.int<|-1,.ao (.v 26)<|.k<|.int 0],.ao (.v 26)<|.k<|.int 1]) false [26] [] (jO c) (xi::.val (.ref 1)::h'::d3::eT::c1::dg::cW::cv::dF::dE::dR::du::dO::dT::dc::gw::e8::nB::E3::E'::Ka::GX::JY::GI::HR::K4::i9) cm.st bT:=by
  intro c cm bT eL tx g' bb;refine eN.mk ?_;lk;rcases c with _|⟨K,aV⟩
  .exact bb none cm.R (a_.refl tx) rfl
  .exact xY eL.1 tx g' λt aa g ty=>bb (some (t,aV)) aa g rfl
 refine fj.un rfl<|one cy S _ aF T (aJ (gp (aH rfl) _) ap) λa aa g e6=>one cT (S.w aa) _ G g.ok (g.room ap<|aH rfl) λb bu bj ea=>q a b bu ((g.trans bj).le<|aH rfl) e6 ea
def lj (M9 a b qj hv kv:B):Lm (Ĵ×B):=[(10,M9),(11,a),(12,b),(13,.tup []),(14,qj),(15,.tup []),(16,.int<|-1),(17,.int 0),(18,.bool false),(19,hv),(20,kv),(21,.int 0),(22,.int 0),(23,.str []),(24,.int 0)]
noncomputable abbrev dz.y (S:dz) (D:Lm B) (X:Lm dd):dz:={S with D:=D,X:=X}
inductive oj (S:dz):Nat->Nat->Prop
 |obj {t:Nat} {l:List B}:S.R[t]?=some (.tup (.int 8::l))->oj S t t
 |ref {t o i:Nat} {l:List B} {a:List (Nat×B)}:S.R[t]?=some (.tup [.int 9,.int 1,.tup []])->S.D[1]?=some (.ref (i+11))->S.X[i]?=some (.ins 1 a)->a.lookup 15=some (.tup [])->a.lookup 14=some (au o)->S.R[o]?=some (.tup (.int 8::l))->oj S t o
theorem oj.cL{S:dz}{t o:Ĵ}(h:oj S t o):ee λ(cL:ĵ) (l:Lm B)=>S.R[t]?=some (.tup<|.int cL::l)/\(cL=8\/cL=9):=by
 induction h with
 |obj h=>exact⟨8,_,h,.inl rfl⟩
 |ref h=>exact⟨9,_,h,.inr rfl⟩
theorem TR{s:St}{a b c:B}(q:Q .none (s++.ins 1 (lj a b c (.int<|-1) (.ref<|s.length+1)<|.ref<|s.length+2)::[.ls [],.ls []])):bd (n+1) 2 [.ref s.length,a,b,c] (s++[.ins 1 []]) Q:=by
 generalize b2:lj a b c (.int<|-1) (.ref<|s.length+1) (.ref<|s.length+2)=D at q;have ah:D.length=15:=by rw[<-b2];rfl
 have b5:∀(k:Ĵ) (t:St) {key:Ĵ} {v:B},putAt key v (D.take k)=D.take (k+1)->oh (s++.ins 1 (D.take k)::t) (.ref s.length) key v=some (s++.ins 1 (D.take<|k+1)::t):=λk t key v h=>by rw[wd<|aJ (Me _ _)<|aJ (fU ah)<|aH rfl,h]
 k_go;rw[show s++[dd.ins 1 []]=s++dd.ins 1 (D.take 0)::[]from rfl];refine ax.of (b5 0 []<|by rw[<-b2];rfl) ?_;refine ax.of (b5 1 []<|by rw[<-b2];rfl) ?_;refine ax.of (b5 2 []<|by rw[<-b2];rfl) ?_;refine ax.of (b5 3 []<|by rw[<-b2];rfl) ?_;refine ax.of (b5 4 []<|by rw[<-b2];rfl) ?_;refine ax.of (b5 5 []<|by rw[<-b2];rfl) ?_;refine ax.of (b5 6 []<|by rw[<-b2];rfl) ?_;refine ax.of (b5 7 []<|by rw[<-b2];rfl) ?_;refine ax.of (b5 8 []<|by rw[<-b2];rfl) ?_;lk;rw[(λa=>by simp:∀a:Lm (Ĵ×B),(s++dd.ins 1 a::[])++[.ls []]=s++dd.ins 1 a::[.ls []]),(λa=>by simp:∀a:Lm (Ĵ×B),(s++dd.ins 1 a::[]).length=s.length+1)];refine ax.of (b5 9 [.ls []]<|by rw[<-b2];rfl) ?_;lk;rw[(λa=>by simp:∀a:Lm (Ĵ×B),(s++dd.ins 1 a::[.ls []])++[.ls []]=s++dd.ins 1 a::[.ls [],.ls []]),(λa=>by simp:∀a:Lm (Ĵ×B),(s++dd.ins 1 a::[.ls []]).length=s.length+2)];refine ax.of (b5 10 [.ls [],.ls []]<|by rw[<-b2];rfl) ?_;refine ax.of (b5 11 [.ls [],.ls []]<|by rw[<-b2];rfl) ?_;refine ax.of (b5 12 [.ls [],.ls []]<|by rw[<-b2];rfl) ?_;refine ax.of (b5 13 [.ls [],.ls []]<|by rw[<-b2];rfl) ?_;refine ax.of (b5 14 [.ls [],.ls []]<|by rw[<-b2];rfl) ?_;rw[show D.take 15=D from sG<|by omega];exact q
theorem Zh{a b:B}(b2:S.D=[.none])(q:Q (.ref<|S.X.length+11) (S.y [.none,.ref<|S.X.length+11]<|S.X++.ins 1 (lj (.int 1) a b (.int<|-1) (.ref<|S.X.length+12)<|.ref<|S.X.length+13)::[.ls [],.ls []]).st):bd (n+2) 13 [.ref 1,a,b] S.st Q:=by obtain⟨d,nums,R,D,X⟩:=S;obtain rfl:D=[.none]:=b2;k_go;exact TR (s:=dz.st ⟨d,nums,R,[.none],X⟩)<|⟨rfl,⟨iK rfl,q⟩⟩
set_option tactic.hygienic true in
theorem Yy{t o:Ĵ}(T:Rows S.R)(h:oj S t o)(q:Q (au o) S.st):bd (n+2) 28 [.ref 10,au t] S.st Q:=by
 k_go;induction h with
 |obj h=>exact Vd h q
 |ref G E aB ba cO d2=>
  rename_i i l a;have H5:∀k,oz S.st (.ref<|i+11) k=a.lookup k:=λk=>by exact zk aB
  have FH:ho S.st (.ref 4) (.int 1)=some (.ref<|i+11):=by show(jM 1 S.D.length).bind (λj=>S.D[j]?)=_;rw[show jM 1 S.D.length=some 1 from p3 (hb.mp E).1];exact E
  k_go;refine⟨rfl,rfl,by decide,ax.of (kg 40) ?_⟩;rw[show List.range 40=0::1::(List.range 38).map (· +2)from by decide];show cE _ _ _ _ (au 0::au 1::((List.range 38).map (· +2)).map au) _ _ _;lk;refine ax.of FH<|ax.of ((H5 15).trans ba)<|ax.of FH<|ax.of ((H5 14).trans cO) ?_;lk;exact q
set_option tactic.hygienic true
theorem FQ{aj:Lm c2}{eD:B}(b9 bQ:Ĳ (Ĵ×ĵ)){e2:ĵ}(h:eS 5 eD=true):h_ (h3 aj eD b9 bQ e2)=true:=by induction b9<;>induction bQ<;>exact lP (zT λ_=>rfl)<|lP h rfl
def m_ (t fo:Ĵ) (M:Lm bO) (aj:Lm c2) (cy cT:ht) (dG:Ĵ):Lm (B×B):=[(.str [115,111,114,116],.str [123]),(.str [116],au t),(.str [116,117,114,110,101,100],au fo),(.str [109,101,109,98,101,114,115],.lst<|M.map bO.aW),(.str [112,114,111,112,115],.lst<|aj.map ff),(.str [99,101,108,108,115],.lst [jO cy,jO cT]),(.str [119,97,121],au dG)]
structure qt(S:dz)(t o fo:Nat)(M:List bO)(aj:List c2)(cy cT:ht)(dG:Nat)(eD:B)(b9 bQ:Option (Nat×Int))(e2:Int):Prop where
 ok:∀m∈M,m.ok
 fB:M.Pairwise uF
 len:M.length<=4
 Ef:ht.ok cy
 fH:ht.ok cT
 dG:dG<3
 props:b_ xz aj M
 src:oj S t o
 row:S.R[o]?=some (h3 aj eD b9 bQ e2)
 xH:S.R[fo]?=some (h3 aj.reverse eD b9 bQ e2)
 oP:b9.map (·.2)=cy.map (λc=>(c.2:Int))
 ag:bQ.map (·.2)=cT.map (λc=>(c.2:Int))
theorem bh.both{b:Ģ}{p q:Prop}(G:p)(E:q):bh (jt<|.bool b) p q:=by
 induction b
 .exact E
 .exact G
theorem VE:h_ (.tup [.int 13,.tup [],.tup [],.int 3,.tup [],.int 0])=true:=rfl
theorem Wt{ai:jK}(cf:tv ai)(k:Ĵ):∀(l:Lm dS) (r:aK) (s:St) (Q:ck->aK->St->Prop),kl ai (l.take k) r s (kP (kl ai<|l.drop k) Q)->kl ai l r s Q:=by
 induction k with
 |zero=>exact λ_ _ _ _ h=>h
 |succ k ar=>
  intro l;induction l using List.casesOn with
  |nil=>exact λ_ _ _ h=>h
  |cons c l=>exact λr s Q h=>AS cf c _ _ _ _ (λf r s h=>by
   induction f with
   |go=>exact ar l r s Q h
   |ret=>exact h) h
theorem bw.cut(k:Ĵ){l:Lm dS}{r:aK}{Q:ck->aK->St->Prop}(fA:(aK->St->Prop)->Prop)(G:∀K:ck->aK->St->Prop,fA (K .go)->bw n (l.take k) r s K)(E:fA λr s=>bw n (l.drop k) r s Q):bw n l r s Q:=Wt (bd.m n) k l r s Q<|G _ E
theorem pL.to{i:Ĵ}{v:B}{l:Lm dS}{r:aK}{Q:ck->aK->St->Prop}(h:bw n l (r.set i<|.val v) s Q):pL i r (kP (bw n l) Q) v s:=h
theorem Yv{t:B->St->(Lm B->St->Prop)->Prop}{d:Ĵ}(one:∀(i:ĵ) e (K:Lm B->St->Prop),e<=d+6->(∀(c:ht) bx,c.ok->bx<=e+5->K [jO c] (S.go bx).st)->t (.tup [.int i,.int 3]) (S.go e).st K)(q:∀(cy cT:ht) e,cy.ok->cT.ok->e<=d+11->Q (.lst [jO cy,jO cT]) (S.go e).st):ku t Q [.tup [.int 1,.int 3],.tup [.int 2,.int 3]] [] (S.go<|d+1).st:=one 1 (d+1) _ (gp (aH rfl) d) λcy e aF a6=>one 2 e _ a6 λcT bx G h9=>q cy cT bx aF G<|aJ h9<|fO a6 5
def XE (dG:Ĵ) (uf:Lm bO) (c1 dg cW cv:cr) (w:Ĵ) (cM:Lm B):aK:=[.val<|.ref 0,.val<|.ref 1,.val<|.lst<|iC.map ek,.val<|au dG,.ol<|uf.map bO.aW,c1,dg,cW,cv,.val<|au w,.val<|.lst cM,.un,.un,.un,.un,.un,.un,.un,.un,.un,.un,.un,.un,.un,.un,.un,.un]
def Ah (dG:Ĵ) (M:Lm bO) (c1 dg cW cv:cr) (w:Ĵ) (cM:Lm B) (cy cT:ht) (aj:Lm c2) (dO dT dc gw e8:cr):aK:=[.val<|.ref 0,.val<|.ref 1,.val<|.lst<|iC.map ek,.val<|au dG,.val<|.lst<|M.map bO.aW,c1,dg,cW,cv,.val<|au w,.val<|.lst cM,.val<|.lst [jO cy,jO cT],.ol<|aj.map ff,dO,dT,dc,gw,e8,.un,.un,.un,.un,.un,.un,.un,.un,.un]
theorem Sy(T:Rows S.R)(c':n4 S.nums)(bg:S.d<=60000)(b2:S.D=[.none])(ap:S.R.length+200<=a3)(q:∀cm t o fo M aj cy cT dG eD b9 bQ e2,qt cm t o fo M aj cy cT dG eD b9 bQ e2->a_ S.R cm.R 200->cm.nums=S.nums->Q (.a9<|m_ t fo M aj cy cT dG) cm.st):bd (n+9) 82 [.ref 0,.ref 1] S.st Q:=by
 k_go;lk;refine hI c' (aJ bg<|aH rfl) (by decide) λdG NQ=>?_;have Ic:dG<3:=gM NQ;lk;refine hI (S:=S.go<|S.d+1) c' (aJ (da bg)<|aH rfl) (by decide) λv af=>?_;obtain⟨c,vH,ti⟩:=vr (f:=au) (l:=[2,0,1,3,4])<|gM af;replace vH:c<=4:=(by decide:∀c∈[2,0,1,3,4],c<=4) c vH;refine ax.of (ti _) ⟨rfl,iq<|aJ vH<|aH rfl,(by rw[sb,qr];exact aJ vH<|aH rfl),ax.of (kg c) ?_⟩;refine YX (S:=S.go<|S.d+1+1) (dG:=au dG) c' (aJ (fO bg 2)<|aH rfl) vH λuf d c1 dg cW cv yy EK kH dP=>?_;obtain⟨M,n9,sa,kx,sX⟩:=Xj kH dP;have r6:d<=60026:=aJ yy<|fO bg 26;have wH:M.length<=4:=aJ (fU sX) dP;have Bk:∀m∈M,m.ok:=λm aN=>EK m<|(kx m).mp aN;lk;refine hI (S:=S.go d) c' (aJ r6<|aH rfl) (by decide) λw bF=>di.comp rfl<|fj.mp (f:=bO.aW) (all:=uf) rfl (λ_ K=>∀cg,K cg (S.go<|d+1).st) (λdone m a' _ K ab cg=>?_) (λcM=>?_) λK ab=>ab []
 .refine eN.mk ?_;repeat'(lk;refine bh.both ?_ ?_)
  all_goals exact ab _
 refine pL.to<|bw.fY (λK=>∀w:Ĵ,K (XE dG uf c1 dg cW cv w cM) (S.go<|d+1).st) (λK ab=>?_) λw=>bw.rb (λK=>∀(cy cT:ht) e,cy.ok->cT.ok->e<=d+11->K (.lst [jO cy,jO cT]) (S.go e).st) (λK ab=>?_) λcy cT e aF G a6=>?_
 .repeat'(lk;refine bh.both ?_ ?_)
  all_goals lk
  all_goals first|exact ab 1|exact ab w
 .refine di.oM (x:=.tup [.tup [.int 1,.int 3],.tup [.int 2,.int 3]]) rfl (λ_ h=>h)<|fj.un rfl<|Yv (λi e K a6 ab=>eN.mk ?_) ab;lk;refine bh.both ?_ ?_
  .lk;refine qZ (S:=S.go e) c' (aJ a6<|aJ (fO r6 6)<|aH rfl) λK bx aB ba vM=>?_;lk;refine hI (S:=S.go bx) c' (aJ ba<|aJ (fO (aJ a6<|fO r6 6) 4)<|aH rfl) (by decide) λaV nZ=>?_;lk;exact ab (some (K,aV)) (bx+1) ⟨vM,gM nZ⟩<|da ba
  .lk;exact ab none e trivial<|mM _ 5
 refine ax.of (show pg .sorted _ [.lst<|uf.map bO.aW]=_ from n9)<|cE.mp (all:=M) (f:=bO.aW) rfl (λdone K=>∀aa aj dg cv dO dT dc gw e8,a_ S.R aa (7*done.length)->b_ xz aj done->K (Ah dG M c1 dg cW cv w cM cy cT aj dO dT dc gw e8) ((S.go e).w aa).st) (λdone m a' ag K ab aa aj dg cv dO dT dc gw e8 g al=>?_) (λaa aj dg cv dO dT dc gw e8 g al=>?_) λK ab=>ab S.R [] _ _ _ _ _ _ _ (a_.refl T) .nil
 .have aN:m.ok:=Bk m (by rw[ag];exact iA _<|.head _);have sI:(aj.map ff).length+1<=a3:=by rw[bR,al.len];exact aJ (oA ag wH)<|aH rfl
  refine Rl aN<|xY (S:=(S.go e).w aa) aN.K g.ok (g.room ap<|aJ (da<|r3 7 ag wH)<|aH rfl) λt bu bj ty=>bh.ef (λh=>?_) λh=>?_
  .lk;refine⟨sI,?_⟩;have ab:=ab bu (aj++[(m.nm,t,(ka m:ĵ),1)]) (.val<|.str m.nm) (.val<|.lst<|m.K.map aO.aW) (.val<|au m.o) (.val<|au m.aV) (.val<|au m.w) (.val<|au m.h) (.val<|au<|ka m) (g.step bj<|dy _)<|al.snoc ⟨rfl,rfl,by rw[bl<|by omega]⟩;unfold Ah at ab;rw[c4]at ab;lk;exact ab
  .lk;refine⟨sI,?_⟩;have ab:=ab bu (aj++[(m.nm,t,(ka m:ĵ),0)]) (.val<|.str m.nm) (.val<|.lst<|m.K.map aO.aW) (.val<|au m.o) (.val<|au m.aV) (.val<|au m.w) (.val<|au m.h) (.val<|au<|ka m) (g.step bj<|dy _)<|al.snoc ⟨rfl,rfl,by rw[bt<|by omega]⟩;unfold Ah at ab;rw[c4]at ab;lk;exact ab
 .have GQ:a_ S.R aa 28:=g.le<|hc 7 wH;refine bw.rb (λK=>∀eD bu,eS 5 eD=true->a_ aa bu 1->K eD ((S.go e).w bu).st) (λK ab=>?_) λeD bu IV bj=>?_
  .refine bh.ef (λh=>?_) λh=>?_
   .exact e4 (S:=(S.go e).w aa) g.ok VE (GQ.room ap<|aH rfl) λt bu bj qC=>ab _ bu rfl bj
   .exact ab _ aa rfl<|a_.refl g.ok
  have bj:=GQ.trans bj;refine di.comp rfl<|NE (S:=(S.go e).w bu) bj.ok aF G (bj.room ap<|aH rfl) λa b dX cK e6 ea=>?_;have cK:=bj.trans cK;lk;refine e4 (S:=(S.go e).w dX) (row:=h3 aj eD a b<|Int.fmod dG 2) cK.ok (FQ a b IV) (cK.room ap<|aH rfl) λo rY hU BJ=>?_;have hU:=cK.trans hU;lk;rw[show(aj.map ff).reverse=aj.reverse.map ff from List.map_reverse.symm];refine e4 (S:=(S.go e).w rY) (row:=h3 aj.reverse eD a b<|Int.fmod dG 2) hU.ok (FQ a b IV) (hU.room ap<|aH rfl) λfo ot lw E1=>?_;have AH:=hU.trans lw;have zK:=lw.at BJ;lk;refine bh.ef (λsS=>?_) λsS=>?_
  .lk;refine Zh (S:=(S.go e).w ot) b2 ?_;lk;refine ax.of (a:=(((S.go e).w ot).y [.none,.ref<|S.X.length+11]<|S.X++.ins 1 (lj (.int 1) (.int 2) (.str [73]) (au o) (.ref<|S.X.length+12)<|.ref<|S.X.length+13)::[.ls [],.ls []]).st) ?_ ?_
   .have g:(((S.go e).w ot).y [.none,.ref<|S.X.length+11]<|S.X++.ins 1 (lj (.int 1) (.int 2) (.str [73]) (.int<|-1) (.ref<|S.X.length+12)<|.ref<|S.X.length+13)::[.ls [],.ls []]).st[S.X.length+11]?=some (.ins 1<|lj (.int 1) (.int 2) (.str [73]) (.int<|-1) (.ref<|S.X.length+12)<|.ref<|S.X.length+13):=by show(S.X++_::_)[S.X.length]?=_;exact wx
    show oh (((S.go e).w ot).y [.none,.ref<|S.X.length+11]<|S.X++.ins 1 (lj (.int 1) (.int 2) (.str [73]) (.int<|-1) (.ref<|S.X.length+12)<|.ref<|S.X.length+13)::[.ls [],.ls []]).st (.ref<|S.X.length+11) 14 (au o)=_;rw[w' g<|aH rfl];have E:(S.X++dd.ins 1 (lj (.int 1) (.int 2) (.str [73]) (.int<|-1) (.ref<|S.X.length+12)<|.ref<|S.X.length+13)::[dd.ls [],.ls []]).set S.X.length (.ins 1<|putAt 14 (au o)<|lj (.int 1) (.int 2) (.str [73]) (.int<|-1) (.ref<|S.X.length+12)<|.ref<|S.X.length+13)=S.X++.ins 1 (lj (.int 1) (.int 2) (.str [73]) (au o) (.ref<|S.X.length+12)<|.ref<|S.X.length+13)::[.ls [],.ls []]:=by rw[BD];rfl
    rw[<-E];rfl
   lk;refine ax.of (a:=.int 1) ?_ ?_
   .show((S.X++.ins 1 (lj (.int 1) (.int 2) (.str [73]) (au o) (.ref<|S.X.length+12)<|.ref<|S.X.length+13)::[.ls [],.ls []])[S.X.length]?).bind _=_;rw[wx];rfl
   lk;refine e4 (n:=n+7) (S:=((S.go e).w ot).y [.none,.ref<|S.X.length+11]<|S.X++.ins 1 (lj (.int 1) (.int 2) (.str [73]) (au o) (.ref<|S.X.length+12)<|.ref<|S.X.length+13)::[.ls [],.ls []]) lw.ok (row:=.tup [.int 9,.int 1,.tup []]) rfl (AH.room ap<|aH rfl) λt Et mf qC=>?_;lk;refine q ((((S.go e).w ot).y [.none,.ref<|S.X.length+11]<|S.X++.ins 1 (lj (.int 1) (.int 2) (.str [73]) (au o) (.ref<|S.X.length+12)<|.ref<|S.X.length+13)::[.ls [],.ls []]).w Et) t o fo M aj cy cT dG eD a b (Int.fmod dG 2) ⟨Bk,sa,wH,aF,G,Ic,al,.ref (i:=S.X.length) qC rfl wx rfl rfl<|mf.at zK,mf.at zK,mf.at E1,e6,ea⟩ ((AH.trans mf).le<|aH rfl) rfl
  .lk;exact q ((S.go e).w ot) o o fo M aj cy cT dG eD a b (Int.fmod dG 2) ⟨Bk,sa,wH,aF,G,Ic,al,.obj zK,zK,E1,e6,ea⟩ (AH.le<|aH rfl) rfl
set_option tactic.hygienic false
theorem WN(N:Ĵ)(a:Lm ĵ):∀b:Lm ĵ,hA (g6 N) (a.map .int) (b.map .int)=some (decide<|a=b):=by
 induction a with
 |nil=>intro b;induction b using List.casesOn<;>rfl
 |cons x a ar=>
  intro b;induction b using List.casesOn with
  |nil=>rfl
  |cons y b=>show((g6 N (.int x)<|.int y).bind λz=>(hA (g6 N) (a.map .int)<|b.map .int).map λw=>z&&w)=_;rw[ar b,show g6 N (.int x) (.int y)=some (decide<|x=y)by induction N<;>rfl];show some (decide (x=y)&&decide (a=b))=_;rw[<-Bool.decide_and];exact bX some<|v7.mpr ⟨λh=>by rw[h.1,h.2],λh=>tL h⟩
theorem X8{s:St}(a b:Lm ĵ):hu .eq s (.lst<|a.map .int) (.lst<|b.map .int)=some (decide<|a=b):=WN 15 a b
abbrev hq:=List<|Lm aO×ĵ
def qp (es:hq):Lm B:=es.map λe=>.tup [.lst<|e.1.map aO.aW,.int e.2]
def ko (t:Ĵ) (es:hq) (aV:Ĵ):Lm (B×B):=[(.str [115,111,114,116],.str [91]),(.str [116],au t),(.str [101,108,101,109,115],.lst<|qp es),(.str [114,111],au aV),(.str [111,112,101,110],.bool<|decide<|es.map (·.2)=[2])]
structure rL(R:List B)(t:Nat)(es:hq)(aV:Nat):Prop where
 t7:∀e∈es,Drawn e.1
 pat:es.map (·.2)∈hf
 nZ:aV<2
 arr:es.map (·.2)=[2]->∃e,R[t]?=some (hV e aV)
 tup:es.map (·.2)≠[2]->∃ce,ce.map (·.2)=es.map (·.2)/\R[t]?=some (.tup [.int 12,.tup<|de ce,.int aV])
theorem rL.bf{R aa:Lm B}{t aV c:Ĵ}{es:hq}(h:rL R t es aV)(g:a_ R aa c):rL aa t es aV:=⟨h.t7,h.pat,h.nZ,λe=>(h.arr e).imp λ_ x=>g.at x,λe=>(h.tup e).imp λ_ x=>⟨x.1,g.at x.2⟩⟩
theorem wy:∀aw∈hf,aw.length<=5:=by decide
def WR (aV:Ĵ) (aw:Lm ĵ) (d3 c1:cr):aK:=[.val<|.ref 0,.val<|.ref 1,.val<|au aV,d3,.val<|.lst<|aw.map .int,c1,.un,.un,.un,.un]
theorem Q8(T:Rows S.R)(c':n4 S.nums)(bg:S.d<=60000)(ap:S.R.length+200<=a3)(q:∀t es aV aa d,rL aa t es aV->a_ S.R aa 200->Q (.a9<|ko t es aV) ((S.go d).w aa).st):bd (n+9) 83 [.ref 0,.ref 1] S.st Q:=by
 have aN:∀(x:ĵ) {j:Ĵ},j<3->Up.bin .mul (.lst [.int x]) (au j)=some (.lst<|(List.replicate j x).map .int):=λx j h=>by rw[zB];exact Ev (aJ (kq h)<|aH rfl) _
 have ak:∀{a b:Lm ĵ} {c d:Ĵ},a.length=c->b.length=d->c+d<10->Up.bin .add (.lst<|a.map .int) (.lst<|b.map .int)=some (.lst<|(a++b).map .int):=by rintro a b _ _ rfl rfl h;rw[c4];exact lu (by rw[bR,bR];exact aJ (kq h)<|aH rfl)
 have bm:∀(x:ĵ) {j:Ĵ},(List.replicate j x).length=j:=λ_ _=>uH;have t7:∀{k:Ĵ},k<=1000->S.d+k<=90000:=λh=>aJ (gJ bg h)<|aH rfl;have tY:∀{k:Ĵ},k<=1000->S.d+k<=100000:=λh=>aJ (t7 h)<|aH rfl;k_go;refine hI (m:=2) c' (tY (aH rfl:0<=1000)) (by decide) λaV nZ=>hI (S:=S.go<|S.d+1) c' (tY<|aH rfl) (by decide) λģ CC=>hI (S:=S.go<|S.d+1+1) c' (tY (aH rfl:2<=1000)) (by decide) λi aA=>?_;replace aA:i<3:=gM aA;refine ax.of (aN 0 aA)<|pL.to<|bw.cut 4 (λK=>∀aw∈hf,∀d3 e,e<=S.d+4->K (WR aV aw d3 .un) (S.go e).st) (λK ab=>?_) λaw my d3 e nP=>?_
 .rcases zm (gM CC)with e|e|e|e<;>subst e
  .exact hI (S:=S.go<|S.d+3) c' (tY<|aH rfl) (by decide) λj b8=>ax.of (aN 1<|gM b8)<|ax.of (ak (bm _) (bm _)<|qL (zr aA<|gM b8)<|by decide)<|ab _ ((by decide:∀i,i<3->∀j,j<3->List.replicate i 0++List.replicate j 1∈hf) i aA j<|gM b8) _ (S.d+3+1)<|dy _
  .exact hI (S:=S.go<|S.d+3) c' (tY<|aH rfl) (by decide) λj b8=>ax.of (aN 1<|gM b8)<|ax.of (ak (bm _) (bm _)<|qL (zr aA<|gM b8)<|by decide)<|ax.of (ak (b:=[2]) (c_.trans<|congr (bX _<|bm _)<|bm _) rfl<|qL (u6<|zr aA<|gM b8)<|by decide)<|ab _ ((by decide:∀i,i<3->∀j,j<3->List.replicate i 0++List.replicate j 1++[2]∈hf) i aA j<|gM b8) _ (S.d+3+1)<|dy _
  .exact ax.of (ak (b:=[2]) (bm _) rfl<|qL (u6 aA)<|by decide)<|hI (S:=S.go<|S.d+3) c' (tY<|aH rfl) (by decide) λj b8=>ax.of (aN 0 (j:=1+j)<|FJ (gM b8) 1)<|ax.of (ak (c_.trans<|bX (· +1)<|bm _) (bm _)<|qL (zr (u6 aA)<|FJ (gM b8) 1)<|by decide)<|ab _ ((by decide:∀i,i<3->∀j,j<2->List.replicate i 0++[2]++List.replicate (1+j) 0∈hf) i aA j<|gM b8) _ (S.d+3+1)<|dy _
  .exact ab [2] (fz rfl) _ (S.d+3)<|j5 _
 have mK:=wy aw my;refine di.comp rfl<|fj.mp (f:=B.int) (all:=aw) rfl (λdone K=>∀(es:hq) (bx:Ĵ),es.map (·.2)=done->(∀x∈es,Drawn x.1)->bx<=e+4*done.length->K (qp es) (S.go bx).st) (λdone m a' ag K ab es bx c0 tb E=>?_) (λes bx oo tb E=>?_) λK ab=>ab [] e rfl (λ_ h=>nomatch h)<|dy _
 .have sX:bx<=S.d+24:=aJ E<|aJ (gJ nP<|aJ (mM _ 4)<|r3 4 ag mK)<|dy _;refine eN.mk ?_;lk;refine qZ (S:=S.go bx) c' (aJ sX<|t7<|aH rfl) λOK Wf aB ba vM=>?_;have ab:=ab (es++[(OK,m)]) Wf (by rw[c4,c0];rfl) (λx ay=>(gm.mp ay).elim (tb x) λh=>by rw[cV.mp h];exact vM) (by rw[c_];exact aJ ba<|fO E 4);unfold qp at ab;rw[c4]at ab;lk;exact ab
 have iV:es.length<=5:=by rw[<-bR (f:=λx:Lm aO×ĵ=>x.2),oo];exact mK
 subst oo;have Hu:∀s,hu .eq s (.lst<|(es.map (·.2)).map .int) (.lst [.int 2])=some (decide<|es.map (·.2)=[2]):=λs=>X8 _ [2];refine ax.of (Hu _)<|bh.ef (λaz=>?_) λaz=>?_
 .obtain⟨K,rfl⟩:∃K,es=[(K,2)]:=by
   induction es using List.casesOn with
   |nil=>exact nomatch az
   |cons x es=>induction es using List.casesOn with
    |nil=>obtain⟨K,m⟩:=x;obtain rfl:m=2:=(tL az).1;exact⟨K,rfl⟩
    |cons=>exact nomatch (tL az).2
  exact xY (S:=S.go bx) (K:=K) (tb _<|.head _) T (aJ (gp (aH rfl) _) ap) λt aa g ty=>e4 (S:=(S.go bx).w aa) g.ok rfl (g.room ap<|aH rfl) λu bu bj ix=>q u [(K,2)] aV bu bx ⟨tb,my,gM nZ,λ_=>⟨t,ix⟩,λh=>absurd az h⟩<|(g.trans bj).le<|aH rfl
 .refine di.comp rfl<|fj.mp (f:=λe:Lm aO×ĵ=>.tup [.lst<|e.1.map aO.aW,.int e.2]) (all:=es) rfl (λdone K=>∀(ce:Lm (Ĵ×ĵ)) aa,ce.map (·.2)=done.map (·.2)->a_ S.R aa (7*done.length)->K (de ce) ((S.go bx).w aa).st) (λdone m a' ag K ab ce aa c0 g=>?_) (λce aa c0 g=>?_) λK ab=>ab [] S.R rfl<|a_.refl T
  .refine eN.mk ?_;lk;refine xY (S:=(S.go bx).w aa) (tb m<|by rw[ag];exact iA _<|.head _) g.ok (g.room ap<|aJ (da<|r3 7 ag iV)<|aH rfl) λt bu bj ty=>?_;have ab:=ab (ce++[(t,m.2)]) bu (by rw[c4,c4,c0];rfl)<|g.step bj<|dy _;rw[<-s4]at ab;lk;exact ab
  .have g:=g.le<|hc 7 iV;exact e4 (S:=(S.go bx).w aa) g.ok (A4 _ _) (g.room ap<|aH rfl) λu bu bj ix=>ax.of (Hu _)<|q u es aV bu bx ⟨tb,my,gM nZ,λh=>absurd h az,λ_=>⟨ce,c0,ix⟩⟩<|(g.trans bj).le<|aH rfl
noncomputable abbrev yq:B:=.tup [.int 13,.tup [],.tup [],.int 3,.tup [],.int 0]
inductive lS (R:List B):Nat->Prop
 |s:lS R 6
 |v:lS R 3
 |n:lS R 5
 |b:lS R 12
 |t {t:Nat}:R[t]?=some (.tup [.int 3,.str [97],.int 0])->lS R t
 |m {t:Nat}:R[t]?=some (.tup [.int 4,.int 3,.int 1])->lS R t
 |x {t:Nat}:R[t]?=some (.tup [.int 18,.tup [.str [120],.str []],.tup [.int 7]])->lS R t
 |e {t:Nat}:R[t]?=some (.tup [.int 5,.int 1,.str [65],.int 0,.int 0])->lS R t
 |i {t o:Nat}:R[t]?=some (.tup [.int 7,.tup [.int 6,au o]])->lS R t
def sc(R:Lm B)(t:Ĵ)(st:Ģ):Prop:=(st=true/\lS R t)\/(st=false/\(t=10\/t=1\/R[t]?=some yq))
theorem sc.bf{R aa:Lm B}{t c:Ĵ}{st:Ģ}(h:sc R t st)(g:a_ R aa c):sc aa t st:=by
 rcases h with⟨e,h⟩|⟨e,h|h|h⟩
 .refine .inl ⟨e,?_⟩;induction h with
  |s=>exact .s
  |v=>exact .v
  |n=>exact .n
  |b=>exact .b
  |t h=>exact .t<|g.at h
  |m h=>exact .m<|g.at h
  |x h=>exact .x<|g.at h
  |e h=>exact .e<|g.at h
  |i h=>exact .i<|g.at h
 .exact .inr ⟨e,.inl h⟩
 .exact .inr ⟨e,.inr<|.inl h⟩
 .exact .inr ⟨e,.inr<|.inr<|g.at h⟩
def xQ (t:Ĵ) (st:Ģ):Lm (B×B):=[(.str [115,111,114,116],.str [112]),(.str [116],au t),(.str [115,116,97,121,115],.bool st)]
theorem Uq{t:Ĵ}(T:Rows S.R)(h:lS S.R t)(q:Q (.bool true) S.st):bd (n+6) 58 [.ref 1,au t] S.st Q:=by
 have aB:=T.at (t:=3) rfl;have cO:=T.at (t:=5) rfl;have d2:=T.at (t:=6) rfl;have qI:=T.at (t:=8) rfl;have ei:=T.at (t:=9) rfl;have oQ:=T.at (t:=12) rfl;k_go;k_go;induction h with
 |s=>lk;exact q
 |v=>lk;exact q
 |n=>lk;exact q
 |b=>lk;k_go;k_go;lk;refine di.comp rfl<|fj.un (bM:=[.int 8,.int 9]) rfl<|eN.mk ?_;k_go;lk;k_go;lk;exact q
 |t h=>lk;k_go;exact q
 |m h=>lk;k_go;exact q
 |x h=>lk;k_go;exact q
 |e h=>lk;k_go;exact q
 |i h=>lk;k_go;lk;k_go;lk;exact q
theorem U6{t d0:Ĵ}{cI nm Y aI:ĵ}(T:Rows S.R)(h:lS S.R t)(q:Q (au t) S.st):bd (n+7) 59 [.ref 10,fW cI nm d0 Y aI,au t] S.st Q:=by
 have rc:∃v,S.R[t]?=some v:=by
  induction h with
  |s=>exact⟨_,T.at rfl⟩
  |v=>exact⟨_,T.at rfl⟩
  |n=>exact⟨_,T.at rfl⟩
  |b=>exact⟨_,T.at rfl⟩
  |t h=>exact⟨_,h⟩
  |m h=>exact⟨_,h⟩
  |x h=>exact⟨_,h⟩
  |e h=>exact⟨_,h⟩
  |i h=>exact⟨_,h⟩
 obtain⟨v,af⟩:=rc;k_go;lk;exact Uq T h q
theorem ZD(T:Rows S.R)(c':n4 S.nums)(bg:S.d<=60000)(ap:S.R.length+20<=a3)(q:∀t st aa d,sc aa t st->a_ S.R aa 20->Q (.a9<|xQ t st) ((S.go d).w aa).st):bd (n+4) 84 [.ref 0,.ref 1] S.st Q:=by
 k_go;refine hI c' (aJ bg<|aH rfl) (by decide) λv af=>e4 (S:=S.go<|S.d+1) T rfl (aJ (gp (aH rfl) _) ap) λfY gs c5 es=>?_;replace c5:a_ S.R gs 1:=c5;refine bh.ef (λd2=>?_) λd2=>?_
 .refine e4 (S:=(S.go<|S.d+1).w gs) c5.ok rfl (c5.room ap<|aH rfl) λVY bu bj cZ=>?_;replace bj:=c5.trans bj;refine e4 (S:=((S.go<|S.d+1).w gs).w bu) bj.ok rfl (bj.room ap<|aH rfl) λUU dX cK mJ=>?_;have fin:∀t,lS dX t->Q (.a9<|xQ t true) ((S.go<|S.d+1).w dX).st:=λt dU=>q t true dX (S.d+1) (.inl ⟨rfl,dU⟩)<|(bj.trans cK).le<|aH rfl;clear q;rcases(by decide:∀v<6,v=0\/v=1\/v=2\/v=3\/v=4\/v=5) v (gM d2)with ei|ei|ei|ei|ei|ei<;>rw[ei]
  .exact fin 6 .s
  .exact fin 3 .v
  .exact fin 5 .n
  .exact fin 12 .b
  .exact fin VY<|.t<|cK.at cZ
  .exact fin UU<|.m mJ
 .rcases(by decide:∀v<11,¬v<6->v=6\/v=7\/v=8\/v=9\/v=10) v (gM af) (λh=>d2<|iM.mpr h)with ei|ei|ei|ei|ei<;>rw[ei]<;>clear ei d2 af
  .exact e4 (S:=(S.go<|S.d+1).w gs) c5.ok rfl (c5.room ap<|aH rfl) λt bu bj e=>q t true bu (S.d+1) (.inl ⟨rfl,.x e⟩)<|(c5.trans bj).le<|aH rfl
  .exact e4 (S:=(S.go<|S.d+1).w gs) c5.ok rfl (c5.room ap<|aH rfl) λt bu bj e=>q t true bu (S.d+1) (.inl ⟨rfl,.e e⟩)<|(c5.trans bj).le<|aH rfl
  .exact e4 (S:=(S.go<|S.d+1).w gs) c5.ok rfl (c5.room ap<|aH rfl) λo bu bj e=>e4 (S:=((S.go<|S.d+1).w gs).w bu) bj.ok (row:=.tup [.int 7,.tup [.int 6,au o]]) rfl ((c5.trans bj).room ap<|aH rfl) λt dX cK c0=>q t true dX (S.d+1) (.inl ⟨rfl,.i c0⟩)<|((c5.trans bj).trans cK).le<|aH rfl
  .refine hI (S:=(S.go<|S.d+1).w gs) c' (aJ (da bg)<|aH rfl) (by decide) λw bF=>?_;rcases tj (gM bF)with ei|ei<;>rw[ei]
   .exact q 10 false gs (S.d+2) (.inr ⟨rfl,.inl rfl⟩)<|c5.le<|aH rfl
   .exact q fY false gs (S.d+2) (.inr ⟨rfl,.inr<|.inr es⟩)<|c5.le<|aH rfl
  .exact q 1 false gs (S.d+1) (.inr ⟨rfl,.inr<|.inl rfl⟩)<|c5.le<|aH rfl
theorem ZH{t:Ĵ}(T:Rows S.R)(h:t=10\/t=1\/S.R[t]?=some yq)(ap:S.R.length+1<=a3)(q:∀o aa eD,a_ S.R aa 1->aa[o]?=some (h3 [] eD none none 0)->Q (au o) (S.w aa).st):bd (n+4) 28 [.ref 10,au t] S.st Q:=by
 k_go;rcases h with rfl|rfl|h
 .exact Cz (T.at (t:=10) rfl)<|q 11 S.R _ (a_.refl T)<|T.at rfl
 .exact Cz (T.at (t:=1) rfl)<|q 11 S.R _ (a_.refl T)<|T.at rfl
 .k_go;refine⟨rfl,rfl,by decide,ax.of (kg 40) ?_⟩;rw[show List.range 40=0::(List.range 39).map (· +1)from by decide];show cE _ _ _ _ (au 0::((List.range 39).map (· +1)).map au) _ _ _;lk;k_go;exact e4 T rfl ap λo aa g e=>q o aa _ g e
theorem J_{t:Ĵ}(T:Rows S.R)(h:t=10\/t=1\/S.R[t]?=some yq)(q:Q (.bool false) S.st):bd (n+4) 58 [.ref 1,au t] S.st Q:=by
 have G:=T.at (t:=1) rfl;have sq:=T.at (t:=10) rfl;rcases h with rfl|rfl|h
 .k_go;k_go;lk;exact q
 .k_go;k_go;lk;exact q
 .exact v3 h (.inr<|.inr<|.inr<|.inr rfl) q
theorem Ò{t:Ĵ}{d0:Ĵ}{F:bG->Lm aG}{cI nm Y aI:ĵ}(T:Rows S.R)(jf:f9 S.R d0 F)(az:Y=0\/Y=1\/Y=2)(dj:aI=0\/aI=1\/aI=2)(Ca:nm= -1\/nm=17)(h:t=10\/t=1\/S.R[t]?=some yq)(ap:S.R.length+500<=a3)(q:∀aa d_,a_ S.R aa 500->Q (.int 11) ((S.w aa).x d_).st):bd (n+21) 59 [.ref 10,fW cI nm d0 Y aI,au t] S.st Q:=by
 have a':∀d3,bw (n+20) [.set 4<|.comp (.v 5) false [5] (.call 54 [.v 0,.v 2]) [.not (.call 61 [.v 0,.v 5])],.ret<|.call 53 [.v 0,.v 1,.v 4,.k<|.bool false]] [.val<|.ref 10,.val<|fW cI (-1) d0 Y aI,.val<|au t,d3,.un,.un] S.st (λcM _ aq=>Q cM.val aq):=by
  intro d3;refine di.m8 rfl ?_;k_go;refine ZH T h (aJ (gp (aH rfl) _) ap) λo aa eD g e=>ax.of (pX e) ?_;lk;refine cE.nil ?_;lk;refine Lx (S:=S.w aa) (aw:=[]) (aj:=[]) (b9:=none) (bQ:=none) g.ok (jf.bf g) az dj .nil .nil (λ_ h=>nomatch h) .nil (aH rfl) (g.room ap<|aH rfl) λu ca dv ds bu ę bj to=>?_;have bb:ca=[]:=by
   induction ca using List.casesOn with
   |nil=>rfl
   |cons p r=>obtain⟨m,aN,_⟩:=(to.to p<|.head _).2;exact nomatch aN
  have a5:u=11:=by have:=to.row;rw[to.six,to.tm,bb]at this;exact bj.ok.inj this<|bj.ok.at rfl
  subst a5;exact q bu _<|(g.trans bj).le<|aH rfl
 obtain⟨cL,l,aM,fH,gy⟩:ee λ(cL:ĵ) (l:Lm B)=>dY (S.R[t]?=some (.tup<|.int cL::l)) (cL≠11) (cL≠12):=by
  rcases h with e|e|e
  .exact⟨_,_,by rw[e];exact T.at rfl,by decide,by decide⟩
  .exact⟨_,_,by rw[e];exact T.at rfl,by decide,by decide⟩
  .exact⟨_,_,e,by decide,by decide⟩
 rcases Ca with ei|ei<;>rw[ei]
 .k_go;lk;exact J_ T h<|bh.ft fH<|bh.ft gy<|a' _
 .k_go;lk;exact J_ T h<|q S.R S.X<|a_.refl T
theorem UD:∀o<2,∀aV<2,∀w<3,∀h<3,rI ((o*1+aV*2+(if w=0 then 0 else if w=1 then 4 else 96)+(if h=0 then 0 else if h=1 then 8 else 16):Ĵ):ĵ)=decide (o=1)/\tH ((o*1+aV*2+(if w=0 then 0 else if w=1 then 4 else 96)+(if h=0 then 0 else if h=1 then 8 else 16):Ĵ):ĵ)=(aV:ĵ)/\oD ((o*1+aV*2+(if w=0 then 0 else if w=1 then 4 else 96)+(if h=0 then 0 else if h=1 then 8 else 16):Ĵ):ĵ)=decide (h=0):=by decide+kernel
theorem B0(m:bO)(h:m.ok):rI (ka m)=decide (m.o=1)/\tH (ka m)=(m.aV:ĵ)/\oD (ka m)=decide (m.h=0):=UD m.o h.o m.aV h.aV m.w h.w m.h h.h
def ma (m:bO):Ģ:=decide (m.h=0)&& !iv m.nm
def i4 (M:Lm bO):Lm Tm:=(M.filter ma).map λm=>(m.nm,(ka m:ĵ))
theorem QQ{aC cC dw:Type}{P:aC->cC->Prop}{p:aC->Ģ}{q:cC->Ģ}{f:aC->dw}{g:cC->dw}{l:Lm aC}{m:Lm cC}(x:b_ P l m):(∀a b,P a b->b∈m->p a=q b/\f a=g b)->(l.filter p).map f=(m.filter q).map g:=by
 induction x with
 |nil=>exact λ_=>rfl
 |@cons a b l m x y ar=>
  intro h;obtain⟨G,E⟩:=h _ _ x<|.head _;replace ar:=ar λa b x av=>h a b x<|.tail _ av;rw[h2,h2,G];clear G;cases q _ with
  |true=>exact congr (bX List.cons E) ar
  |false=>exact ar
theorem Xh{aj:Lm c2}{M:Lm bO}(x:b_ xz aj M)(h:∀m∈M,m.ok):rd aj=i4 M:=by
 unfold rd i4;rw[List.filter_filter];refine QQ x λp m x aN=>⟨?_,?_⟩
 .rw[x.1,x.2.1,(B0 m<|h m aN).2.2,Bool.and_comm];rfl
 .unfold yx;rw[x.1,x.2.1]
theorem U4(aj:Lm c2)(m:Tm):m∈rd aj.reverse↔m∈rd aj:=by unfold rd;simp only[dn,gz,AA]
def be (c:ht):Ĳ (Ĵ×ĵ):=c.map λc=>(0,(c.2:ĵ))
theorem Ln(c:ht):(be c).map (·.2)=c.map (λc=>(c.2:ĵ)):=by rcases c with _|c<;>rfl
theorem CT(a b:bv):decide (a=b)=decide (b=a):=v7.mpr eq_comm
theorem EP(x:bv):(!(decide ([108,101,110,103,116,104]=x)||(decide ([48]=x)||(decide ([49,50]=x)||false))))= !iv x:=by unfold iv xr;rw[CT _ x,CT _ x,CT _ x,Bool.or_false]
theorem cG.fits{p:cG}(h:p.ok)(k:bG):∀a∈p.at k,a.fits:=by
 intro a ak;unfold cG.at gA at ak;rcases gm.mp ak with ak|ak
 .split at ak
  .rw[cV]at ak;subst ak;exact(h.len k)
  .obtain⟨b,_,rfl⟩:=dn.mp ak;clear ak;trivial
 .split at ak
  .rw[cV]at ak;subst ak;trivial
  .cases ak
theorem cG.rt{p:cG}(h:p.ok)(k:bG):(p.at k).length<=13:=by
 have ah:=h.len k;unfold cG.at gA;rw[c_];have e0:(if p.e7%2=1 then [aG.arr<|p.h6.at k]else(p.h6.at k).map .b).length<=12:=by
  split
  .simp
  .rw[bR];exact ah
 have fS:(if 1<p.e7 then [aG.b aO.bA]else []).length<=1:=by split<;>simp
 exact gJ e0 fS
theorem vS{Y:ĵ}{fP:Ģ}{K:Lm aG}:∀a∈fC Y fP K,a∈K:=by
 intro a ak;have bm:∀a∈a' K,a∈K:=λa h=>(gz.mp h).1;unfold fC at ak;split at ak
 .split at ak
  .exact ak
  .exact bm a ak
 .split at ak
  .exact bm a ak
  .exact ak
def tP(R:Lm B)(F:bG->Lm aG)(Y aI:ĵ)(a:c2)(b:Tm):Prop:=a.2.2.2=0/\pM R F Y aI (a.1,a.2.1,a.2.2.1) b
theorem tP.bf{R aa:Lm B}{F:bG->Lm aG}{Y aI:ĵ}{c:Ĵ}{l:Lm c2}{m:Lm Tm}(h:b_ (tP R F Y aI) l m)(g:a_ R aa c):b_ (tP aa F Y aI) l m:=h.imp λ_ _ h=>⟨h.1,h.2.bf g⟩
theorem OI{M:Lm bO}{m:bO}:i4 (M++[m])=i4 M++if ma m=true then [(m.nm,(ka m:ĵ))]else []:=by unfold i4;rw[l',c4,h2];split<;>rfl
theorem Dw{aI:ĵ}(dj:aI=0\/aI=1\/aI=2)(m:ĵ)(s:St):ho s (.lst [.int m,.int 1,.int 0]) (.int aI)=some (.int<|gN aI m):=by rcases dj with ei|ei|ei<;>rw[ei]<;>rfl
theorem Lh{Y:ĵ}{K:Lm aG}(h:K.length<=13):(ji Y K).length<=14:=by
 unfold ji;split
 .rw[c_];exact da h
 .exact iL h
theorem Kn{Y:ĵ}{K:Lm aG}(h:∀a∈K,a.fits):∀a∈ji Y K,a.fits:=λa ak=>by
 unfold ji at ak;split at ak
 .rcases gm.mp ak with ak|ak
  .exact h a ak
  .rw[cV]at ak;subst ak;trivial
 .exact h a ak
def tu (p:cG) (Y aI:ĵ) (D:B) (l cv dF dE dR du dO dT dc gw e8 nB:cr):aK:=[.val<|.ref 1,.val<|.int 16,.val p.aW,.val<|.tup [.int Y,.int aI],.val D,.val<|.int Y,.val<|.int aI,l,cv,dF,dE,dR,du,dO,dT,dc,gw,e8,nB]
theorem UN{p:cG}{Y aI:ĵ}{t fo dG:Ĵ}{M:Lm bO}{aj:Lm c2}{cy cT:ht}(T:Rows S.R)(ae:p.ok)(az:Y=0\/Y=1\/Y=2)(dj:aI=0\/aI=1\/aI=2)(eK:∀m∈M,m.ok)(aM:M.Pairwise uF)(ah:M.length<=4)(aF:cy.ok)(G:cT.ok)(ap:S.R.length+3000<=a3)(q:∀u ca dv ds aa,a_ S.R aa 3000->jb aa p.at Y aI (i4 M) (be cy) (be cT) u ca dv ds->Q (au u) (S.w aa).st):bd (n+9) 86 [.ref 1,.int 16,p.aW,.tup [.int Y,.int aI],.a9<|m_ t fo M aj cy cT dG] S.st Q:=by
 k_go;let D:B:=.a9<|m_ t fo M aj cy cT dG;refine cE.mp rfl (λdone K=>∀aa ca cv dF dE dR du dO dT dc,a_ S.R aa (400*done.length)->b_ (tP aa p.at Y aI) ca (i4 done)->ca.length<=done.length->K (tu p Y aI D (.ol<|ca.map ff) cv dF dE dR du dO dT dc .un .un .un) (S.w aa).st) (λdone m a' ag K ab aa ca cv dF dE dR du dO dT dc g al m2=>?_) (λaa ca cv dF dE dR du dO dT dc g al m2=>?_) λK ab=>ab S.R [] _ _ _ _ _ _ _ _ (a_.refl T) .nil<|dy _
 .have aN:m.ok:=eK m (by rw[ag];simp);have av:=B0 m aN;rw[OI,c_]at ab;have skip:ma m=false->∀cv dF dE dR du dO dT dc,K (tu p Y aI D (.ol<|ca.map ff) cv dF dE dR du dO dT dc .un .un .un) (S.w aa).st:=λdU cv dF dE dR du dO dT dc=>ab aa ca _ _ _ _ _ _ _ _ (g.le<|hc _<|j5 _) (by rw[dU];simpa using al)<|iL m2;refine bh.ef (λcc=>?_) λcc=>?_
  .have Ko:=EP m.nm;induction tC:iv m.nm with
   |true=>exact bh.ik (Ko.trans<|by rw[tC];rfl)<|skip (by unfold ma;rw[tC];simp) _ _ _ _ _ _ _ _
   |false=>
    refine bh.mz (Ko.trans<|by rw[tC];rfl) ?_;have bF:au m.o=.int (if decide (m.o=1)=true then 1 else 0):=by rcases tj aN.o with e|e<;>rw[e]<;>rfl
    refine uk (k:=.txt m.nm) ae ?_;rw[bF];refine Dh az<|x2 (m:=13) (S:=S.w aa) g.ok (aJ (wh Y (decide<|m.o=1)<|p.at<|.txt m.nm)<|cG.rt ae _) rfl (g.turn ag ah ap) rfl (λa ak=>cG.fits ae _ a<|vS a ak) λu bu bj ty=>?_;have QJ:∀a:ĵ,a=(if fT Y (decide<|m.o=1)=true then 1 else 0)->Up.bin .mul (.int a) (.int 1)=some (.int a):=by rintro a rfl;split<;>rfl
    have Q9:Up.bin .mul (.int<|gN aI (m.aV:ĵ)) (.int 2)=some (.int<|if gN aI (m.aV:ĵ)=1 then 2 else 0):=by rcases tj aN.aV with e|e<;>rw[e]<;>rcases dj with h|h|h<;>rw[h]<;>rfl
    refine ax.of (QJ _ rfl)<|ax.of (Dw dj _ _)<|ax.of Q9<|⟨vN<|aJ (da m2)<|oA ag ah,?_⟩;have go:∀l,l=(ca++[(m.nm,u,pP Y aI<|ka m,0)]).map ff->∀cv dF dE dR du dO dT dc,K (tu p Y aI D (.ol l) cv dF dE dR du dO dT dc .un .un .un) (S.w bu).st:=by rintro l rfl cv dF dE dR du dO dT dc;refine ab bu _ _ _ _ _ _ _ _ _ ((g.trans bj).le<|gp (aH rfl)<|400*done.length) ?_ (by rw[c_];exact da m2);rw[show ma m=true by unfold ma;rw[tC,show m.h=0 from Do.mp cc];rfl,bl rfl];refine b_.snoc ⟨rfl,rfl,rfl,?_⟩<|tP.bf al bj;show d4.Ty bu u<|fC Y (rI<|ka m)<|p.at<|.txt m.nm;rw[av.1];exact ty
    exact go _ (by rw[c4];unfold pP;rw[av.1,av.2.1];rfl) _ _ _ _ _ _ _ _
  .exact bh.ft cc<|skip (by unfold ma;rw[show decide (m.h=0)=false from eC λe=>cc<|by rw[e];rfl];rfl) _ _ _ _ _ _ _ _
 .replace g:a_ S.R aa 1600:=g.le<|hc 400 ah;refine⟨rfl,rfl,by decide,cE.o_ (len:=2) (kg 2) (λi K=>∀bu (aQ:Lm (Option<|Ĵ×ĵ)) qu e8 nB,a_ aa bu (400*i)->b_ (λa (kD:Ĳ (Ĵ×ĵ)×bG)=>lK bu Y aI (p.at kD.2) kD.1 a) aQ ([(be cy,bG.S),(be cT,bG.N)].take i)->K (tu p Y aI D (.ol<|ca.map ff) cv dF dE dR du dO qu dc (.ol<|aQ.map gu) e8 nB) (S.w bu).st) (λi aA K ab bu aQ qu e8 nB s_ qE=>?_) (λbu aQ qu e8 nB s_ qE=>?_) λK ab=>ab aa [] _ _ _ (a_.refl g.ok) .nil⟩
  .obtain⟨c,key,eL,SJ,wN,pC⟩:ee λ(c:ht) (key:bG)=>hP c.ok ((∀s,ho s (.lst [jO cy,jO cT]) (au i)=some (jO c))) ((∀s,ho s (.lst [.tup [.str [119],.str [83]],.tup [.str [119],.str [78]]]) (au i)=some key.aW)) ([(be cy,bG.S),(be cT,bG.N)].take (i+1)=[(be cy,bG.S),(be cT,bG.N)].take i++[(be c,key)]):=by
    rcases tj aA with rfl|rfl
    .exact⟨cy,.S,aF,λ_=>rfl,λ_=>rfl,rfl⟩
    .exact⟨cT,.N,G,λ_=>rfl,λ_=>rfl,rfl⟩
   rw[pC]at ab;have ct:aQ.length+1<=3:=da<|aJ (by rw[qE.len];exact I1 _ _)<|kq aA;have bj:=g.trans s_;have add:∀a dX l,a_ bu dX 400->lK dX Y aI (p.at key) (be c) a->l=(aQ++[a]).map gu->∀qu e8 nB,K (tu p Y aI D (.ol<|ca.map ff) cv dF dE dR du dO qu dc (.ol l) e8 nB) (S.w dX).st:=by rintro a dX l cK ak rfl qu e8 nB;refine ab dX _ _ _ _ (s_.trans cK)<|b_.snoc ?_<|qE.imp λa b h=>h.bf cK;exact ak
   lk;refine ax.of (SJ _) ?_;rcases c with _|⟨ep,aV⟩
   .refine⟨vN ct,?_⟩;exact add none bu _ (a_.refl bj.ok) rfl (by rw[c4];rfl) _ _ _
   .have k2:=cG.rt ae key;have step:∀cX,cX=ji Y (p.at key)->∀(qu e8:cr) (Z:ck->aK->St->Prop),bw (n+8) [.set 18<|.tup [.call 75 [.v 0,.v 1,.v 14],.ao (.lst [.ao (.v 18)<|.k<|.int 1,.k<|.int 1,.k<|.int 0])<|.v 6]] (tu p Y aI D (.ol<|ca.map ff) cv dF dE dR du dO (.val<|.lst<|cX.map aG.aW) dc (.ol<|aQ.map gu) e8<|.val<|jO<|some (ep,aV)) (S.w bu).st (kP (bw (n+8) [.app 16<|.v 18])<|mZ K Z):=by rintro cX rfl qu e8 Z;refine x2 (m:=14) (S:=S.w bu) bj.ok (Lh k2) rfl (bj.room ap<|aJ (fO (gp (hc 400<|ze aA) 1600) _)<|aH rfl) rfl (Kn<|cG.fits ae _) λu dX cK ty=>ax.of (Dw dj _ _)<|⟨vN ct,?_⟩;exact add (some (u,gN aI aV)) dX _ (cK.le<|aH rfl) ⟨u,rfl,ty⟩ (by rw[c4];rfl) _ _ _
    refine ax.of (wN _)<|uk ae<|bh.ef (λh=>?_) λh=>?_
    .refine ax.of (lu<|by rw[bR];exact aJ (fO k2 _)<|aH rfl) ?_;have jW:=step (p.at key++[.b .bA]) (by unfold ji;rw[bl h]);rw[c4]at jW;exact jW .un _ _
    .refine ax.of (lu<|by rw[bR];exact aJ (fO k2 _)<|aH rfl) ?_;rw[gT];exact step (p.at key) (by unfold ji;rw[bt h]) .un _ _
  .cases qE with
   |cons ak qE=>
   cases qE with
   |cons av qE=>
   cases qE;have bj:=g.trans s_;refine e4 (S:=S.w bu) bj.ok (K1 _ _ _) (bj.room ap<|aH rfl) λu dX cK ix=>q u ca _ _ dX ((bj.trans cK).le<|aH rfl) ⟨ix,?_,λx ay=>?_,λm aN=>?_,ak.bf cK,av.bf cK⟩
   .have lF:ca.map (·.1)=(i4 M).map (·.1):=by
     have m6:∀{l:Lm c2} {m:Lm Tm},b_ (tP aa p.at Y aI) l m->l.map (·.1)=m.map (·.1):=by
      intro l m h;induction h with
      |nil=>rfl
      |cons x _ ar=>rw[fx,fx,ar,show _=_ from x.2.1]
     exact m6 al
    rw[lF];unfold i4;rw[f8,zN];exact aM.filter _
   .obtain⟨ev,l5,ag,a8⟩:=al.t6 x ay;exact⟨ag,ev,l5,(a8.bf s_).bf cK⟩
   .obtain⟨hi,l8,ag,a8⟩:=al.mem m aN;exact⟨hi,l8,(a8.bf s_).bf cK⟩
def ii (Y:ĵ) (F:bG->Lm aG) (eu len i:Ĵ) (m:ĵ):g5:=let c:g5:=if i<eu then(fC Y (decide<|m=1)<|F<|.txt<|dq i,if fT Y (decide<|m=1)=true then 1 else 0)else(fM Y<|F .N,m);if c.2=1/\eu+1<len then(c.1++[.b .bA],0)else c
def oI (Y:ĵ) (aw:Lm ĵ):ĵ:=iy (λm=>decide<|m∈[(0:ĵ)]) (v' Y (b' aw) 0 aw) aw.length
def xb (Y:ĵ) (aw:Lm ĵ):Ģ:=(List.range aw.length).all λi=>(aw[i]?).elim true λm=>(decide (i<b' aw)||decide ((if m=2 then 2 else 0)=m))&&(!decide (qn Y (b' aw) i m=1)||(decide ((i:ĵ)<oI Y aw)==decide (b' aw+1<aw.length)))
theorem US:(hf.all λaw=>xb 0 aw&&(xb 1 aw&&xb 2 aw))=true:=by decide+kernel
theorem GC{Y:ĵ}{F:bG->Lm aG}{aw:Lm ĵ}(az:Y=0\/Y=1\/Y=2)(ae:aw∈hf){i:Ĵ}{m:ĵ}(aN:aw[i]?=some m):ii Y F (b' aw) aw.length i m=conv (oI Y aw) i (kz Y F (b' aw) i m):=by
 have av:xb Y aw=true:=by have h:=(eW _ _).mp<|d6.mp US aw ae;have E:=(eW _ _).mp h.2;exact az.elim (· ▸h.1) λaz=>az.elim (· ▸E.1) (· ▸E.2)
 have h:=d6.mp av i<|lL.mpr (hb.mp aN).1;rw[aN]at h;replace h:((decide (i<b' aw)||decide ((if m=2 then 2 else 0)=m))&&(!decide (qn Y (b' aw) i m=1)||(decide ((i:ĵ)<oI Y aw)==decide (b' aw+1<aw.length))))=true:=h;simp only[eW,mx,jD,j2,ny,fN,v7]at h;obtain⟨G,E⟩:=h;have e:(if i<b' aw then((fC Y (decide<|m=1)<|F<|.txt<|dq i,if fT Y (decide<|m=1)=true then 1 else 0):g5)else(fM Y<|F .N,m))=kz Y F (b' aw) i m:=by
  unfold kz;split
  .rfl
  .rename_i aA;rw[G.resolve_left aA]
 have a8:(kz Y F (b' aw) i m).2=qn Y (b' aw) i m:=by unfold kz qn;split<;>rfl
 unfold ii conv
 dsimp only;rw[e,a8];by_cases c:qn Y (b' aw) i m=1
 .have:=E.resolve_left<|λn=>n c;by_cases d:(i:ĵ)<oI Y aw
  .rw[bl ⟨c,this.mp d⟩,bl ⟨c,d⟩]
  .rw[bt λx=>d<|this.mpr x.2,bt λx=>d x.2]
 .rw[bt λx=>c x.1,bt λx=>c x.1]
theorem Fx(Y:ĵ)(F:bG->Lm aG)(eu:Ĵ)(l:Lm ĵ):∀(j i:Ĵ) {m:ĵ},l[i]?=some m->(mj Y F eu j l)[i]?=some (kz Y F eu (j+i) m):=by
 induction l with
 |nil=>exact λ_ _ _ h=>nomatch h
 |cons a r ar=>
  intro j i m h;induction i using Nat.casesOn with
  |zero=>rw[<-cY h];rfl
  |succ i=>exact(ar (j+1) i h).trans (by rw[xR];rfl)
theorem IR(dN:ĵ)(l:Lm g5):∀(j i:Ĵ) {c:g5},l[i]?=some c->(jd dN j l)[i]?=some (conv dN (j+i) c):=by
 induction l with
 |nil=>exact λ_ _ _ h=>nomatch h
 |cons a r ar=>
  intro j i m h;induction i using Nat.casesOn with
  |zero=>rw[<-cY h];rfl
  |succ i=>exact(ar (j+1) i h).trans (by rw[xR];rfl)
def jU (Y:ĵ) (F:bG->Lm aG) (aw:Lm ĵ):Lm g5:=jd (oI Y aw) 0<|mj Y F (b' aw) 0 aw
theorem UV{Y:ĵ}{F:bG->Lm aG}{aw:Lm ĵ}(az:Y=0\/Y=1\/Y=2)(ae:aw∈hf){i:Ĵ}{m:ĵ}(aN:aw[i]?=some m):(jU Y F aw).take (i+1)=(jU Y F aw).take i++[ii Y F (b' aw) aw.length i m]:=by rw[y',GC az ae aN];unfold jU;rw[IR (oI Y aw) _ 0 i<|Fx Y F (b' aw) aw 0 i aN,iG];rfl
theorem Wj(aw:Lm ĵ):∀n:Ĵ,2∈aw->kC.go (.int 2) (aw.map .int) n=some (au<|n+b' aw):=by
 induction aw with
 |nil=>exact λ_ h=>nomatch h
 |cons m r ar=>
  intro n h;show(match some (decide<|m=2)with|some true=>some (B.int n)|some false=>kC.go (.int 2) (r.map .int) (n+1)|none=>none)=some (au<|n+if m=2 then 0 else b' r+1);by_cases c:m=2
  .rw[dQ c,bl c];rfl
  .rw[eC c,bt c];exact(ar (n+1)<|(eJ.mp h).resolve_left λe=>c e.symm).trans (by rw[xR];rfl)
theorem DE(aw:Lm ĵ):2∉aw->b' aw=aw.length:=by
 induction aw with
 |nil=>exact λ_=>rfl
 |cons m r ar=>exact λh=>(bt λe=>h<|by rw[e];exact .head _).trans<|bX Nat.succ<|ar λq=>h<|.tail _ q
theorem Cw{aw:Lm ĵ}(h:2∈aw):kC .index [.lst<|aw.map .int,.int 2]=some (au<|b' aw):=by show(if(hO (.int 2)<|aw.map .int).isSome then kC.go (.int 2) (aw.map .int) 0 else none)=_;rw[tX,bl (by rfl),Wj aw 0 h,iG]
theorem FD:∀aw∈hf,∀m∈aw,m=0\/m=1\/m=2:=by decide
theorem aG.Cx{K:Lm aG}(h:∀a∈K,a.fits):∀a∈K++[aG.b .bA],a.fits:=by
 intro a ak;rcases gm.mp ak with ak|ak
 .exact h a ak
 .rw[cV]at ak;subst ak;trivial
theorem xq{Y:ĵ}{K:Lm aG}(h:∀a∈K,a.fits):∀a∈fM Y K,a.fits:=by
 unfold fM;split
 .exact aG.Cx h
 .split
  .exact λa ak=>h a (gz.mp ak).1
  .exact h
def ry (p:cG) (Y aI:ĵ) (D:B) (Zi:ĵ) (cv dF dE l du dO dT:cr):aK:=[.val<|.ref 1,.val<|.int 16,.val p.aW,.val<|.tup [.int Y,.int aI],.val D,.val<|.int Y,.val<|.int aI,.val<|.int Zi,cv,dF,dE,l,du,dO,dT,.un,.un,.un]
theorem PB{es:hq}{aw:Lm ĵ}(h:es.map (·.2)=aw):(qp es).flatMap u4=aw.map .int:=by
 rw[<-h];unfold qp;clear h;induction es with
 |nil=>rfl
 |cons e es ar=>rw[fx,qK,ar];rfl
theorem Dl{aw:Lm ĵ}{i:Ĵ}{m:ĵ}(aN:aw[i]?=some m)(s:St):ho s (.lst<|aw.map .int) (au i)=some (.int m):=by show(jM (i:ĵ) (aw.map B.int).length).bind (λj=>(aw.map B.int)[j]?)=_;rw[bR,p3 (hb.mp aN).1];show(aw.map B.int)[i]?=_;rw[gS,aN];rfl
theorem Ol{p:cG}{Y aI:ĵ}{t aV:Ĵ}{es:hq}(T:Rows S.R)(ae:p.ok)(az:Y=0\/Y=1\/Y=2)(dj:aI=0\/aI=1\/aI=2)(on:es.map (·.2)∈hf)(nZ:aV<2)(ap:S.R.length+4000<=a3)(gd:es.map (·.2)=[2]->∀u x aa,a_ S.R aa 4000->d4.Ty aa x (fM Y<|p.at .N)->aa[u]?=some (hV x<|gN aI aV)->Q (au u) (S.w aa).st)(rG:es.map (·.2)≠[2]->∀u cA aa,a_ S.R aa 4000->hd 15 aa cA (jU Y p.at<|es.map (·.2))->aa[u]?=some (.tup [.int 12,.tup<|de cA,.int<|gN aI aV])->Q (au u) (S.w aa).st):bd (n+9) 87 [.ref 1,.int 16,p.aW,.tup [.int Y,.int aI],.a9<|ko t es aV] S.st Q:=by
 have i6:=cG.fits ae;have mc:=cG.rt ae;have t3:(fM Y<|p.at .N).length<=14:=aJ (AI _ _)<|da<|mc .N;generalize my:es.map (·.2)=aw at*;have mK:=wy aw on;k_go;refine ax.of (Dw dj _ _)<|uk (k:=.N) ae<|bw.to (ry p Y aI (.a9<|ko t es aV) (gN aI aV) (.val<|.lst<|(if Y=1 then p.at .N++[.b .bA]else p.at .N).map aG.aW) .un .un .un .un .un .un) S.st (λK ab=>?_) ?_
 .refine bh.ef (λh=>?_) λh=>?_
  .rw[bl h,c4]at ab;exact ax.of (lu<|by rw[bR];exact aJ (fO (mc .N) _)<|aH rfl) ab
  .rw[bt h]at ab;exact ab
 refine bw.to (ry p Y aI (.a9<|ko t es aV) (gN aI aV) (.val<|.lst<|(fM Y<|p.at .N).map aG.aW) .un .un .un .un .un .un) S.st (λK ab=>?_) ?_
 .refine bh.ef (λh=>?_) λh=>?_
  .have G:¬Y=1:=by rw[h];decide
   rw[show fM Y (p.at .N)=a' (p.at .N)by unfold fM;rw[bt G,bl h]]at ab;rw[bt G];refine di.comp (x:=.lst<|(p.at .N).map aG.aW) rfl<|pi (f:=λv=>if(fu v nF)=some true then []else [v]) rfl ?_ ?_
   .intro v af bT bb;obtain⟨a,ak,rfl⟩:=dn.mp af;clear af;refine eN.mk ?_;lk;refine ax.of (Fb a) ?_;rw[wg]at bb;by_cases h:a=.b .bA
    .rw[dQ h]at bb⊢;exact bb
    .rw[eC h]at bb⊢;exact bb
   .rw[Ix];exact ab
  .rw[show fM Y (p.at .N)=if Y=1 then p.at .N++[.b .bA]else p.at .N by unfold fM;rw[bt h]]at ab;exact ab
 refine bh.ef (λua=>?_) λua=>?_
 .rw[my]at ua;exact x2 (m:=14) T t3 rfl (hp ‹_›) rfl (xq<|i6 .N) λx aa g ty=>e4 (S:=S.w aa) g.ok rfl (g.room ap<|aH rfl) λu bu bj e=>gd ua u x bu ((g.trans bj).le<|aH rfl) (ty.bf bj) e
 .rw[my]at ua;refine bw.skip<|bw.to (ry p Y aI (.a9<|ko t es aV) (gN aI aV) (.val<|.lst<|(fM Y<|p.at .N).map aG.aW) (.val<|.lst<|aw.map .int) .un .un .un .un .un) S.st (λK ab=>?_) ?_
  .refine di.oM (x:=.lst<|qp es) rfl (λ_ h=>h)<|pi (f:=u4) rfl ?_ ?_
   .intro v af bT bb;obtain⟨e,a6,rfl⟩:=dn.mp af;clear af;exact eN.mk bb
   .rw[PB my];exact ab
  refine bw.to (ry p Y aI (.a9<|ko t es aV) (gN aI aV) (.val<|.lst<|(fM Y<|p.at .N).map aG.aW) (.val<|.lst<|aw.map .int) (.val<|au<|b' aw) .un .un .un .un) S.st (λK ab=>?_) ?_
  .refine ax.of (show hu .isin S.st (.int 2) (.lst<|aw.map .int)=_ from tX 2 aw)<|bh.ef (λh=>?_) λh=>?_
   .exact ax.of (Cw h) ab
   .rw[DE aw h,<-bR (f:=B.int)]at ab;exact ab
  lk;rw[bR];refine⟨rfl,iq<|aJ mK<|aH rfl,zF mK,cE.o_ (len:=aw.length) (kg _) (λi K=>∀aa cA du dO dT,a_ S.R aa (500*i)->hd 15 aa cA ((jU Y p.at aw).take i)->K (ry p Y aI (.a9<|ko t es aV) (gN aI aV) (.val<|.lst<|(fM Y<|p.at .N).map aG.aW) (.val<|.lst<|aw.map .int) (.val<|au<|b' aw) (.ol<|de cA) du dO dT) (S.w aa).st) (λi aA K ab aa cA du dO dT g cf=>?_) (λaa cA du dO dT g cf=>?_) λK ab=>ab S.R [] _ _ _ (a_.refl T) .nil⟩
  .have aN:aw[i]?=some aw[i]:=fl aA;generalize aw[i]=m at aN;rw[UV (F:=p.at) az on aN]at ab;have yK:i<5:=gI aA mK;have dN:∀(eH:Lm aG) (D_:ĵ) (du:cr) (Z:ck->aK->St->Prop),(∀a∈eH,a.fits)->eH.length<=15->ii Y p.at (b' aw) aw.length i m=(eH,D_)->bw (n+8) [.app 11<|.tup [.call 75 [.v 0,.v 1,.v 13],.v 14]] (ry p Y aI (.a9<|ko t es aV) (gN aI aV) (.val<|.lst<|(fM Y<|p.at .N).map aG.aW) (.val<|.lst<|aw.map .int) (.val<|au<|b' aw) (.ol<|de cA) du (.val<|.lst<|eH.map aG.aW)<|.val<|.int D_) (S.w aa).st (mZ K Z):=by intro eH D_ du Z ND Ml XN;rw[XN]at ab;refine x2 (m:=15) (S:=S.w aa) g.ok Ml rfl (g.room ap<|aJ (fO (hc 500<|kq yK) _)<|aH rfl) rfl ND λu bu bj ty=>?_;refine⟨by rw[mA];exact aJ (da<|aJ (by rw[cf.len];exact I1 _ _)<|kq yK)<|aH rfl,?_⟩;rw[s4];exact ab bu _ _ _ _ ((g.trans bj).le<|gp (aH rfl)<|500*i)<|b_.snoc ⟨rfl,ty,Ml⟩<|cf.bf bj
   have fin:∀(K:Lm aG) (fY:ĵ) (Z:ck->aK->St->Prop),(∀a∈K,a.fits)->K.length<=14->ii Y p.at (b' aw) aw.length i m=(if fY=1/\b' aw+1<aw.length then(K++[.b .bA],0)else(K,fY))->bw (n+8) [.iff (.an [.cmp (.v 14) [(.eq,.k<|.int 1)],.cmp (.v 10) [(.lt,.bin .sub (.bi .len [.v 9])<|.k<|.int 1)]]) [.hs [13,14]<|.tup [.bin .add (.v 13)<|.lst [.k<|.tup [.str [119],.str [117]]],.k<|.int 0]] [],.app 11<|.tup [.call 75 [.v 0,.v 1,.v 13],.v 14]] (ry p Y aI (.a9<|ko t es aV) (gN aI aV) (.val<|.lst<|(fM Y<|p.at .N).map aG.aW) (.val<|.lst<|aw.map .int) (.val<|au<|b' aw) (.ol<|de cA) (.val<|au i) (.val<|.lst<|K.map aG.aW)<|.val<|.int fY) (S.w aa).st (mZ ‹aK->St->Prop› Z):=by
    intro K fY Z ab rp eQ;by_cases G:fY=1
    .refine bh.pW G ?_;lk;rw[bR];by_cases E:b' aw+1<aw.length
     .rw[bl ⟨G,E⟩]at eQ;have jW:=dN _ _ (.val<|au i) Z (aG.Cx ab) (by rw[c_];exact da rp) eQ;rw[c4]at jW;refine bh.pW (Int.lt_sub_right_of_add_lt<|iM.mpr E) ?_;exact ax.of (lu<|by rw[bR];exact aJ (fO rp _)<|aH rfl) jW
     .rw[bt λx=>E x.2]at eQ;exact bh.ft (λh=>E<|iM.mp<|Int.add_lt_of_lt_sub_right h)<|dN _ _ _ _ ab (iL rp) eQ
    .rw[bt λx=>G x.1]at eQ;exact bh.ft G<|bh.ft G<|dN _ _ _ _ ab (iL rp) eQ
   lk;refine ax.of (Dl aN _)<|bh.ef (λcU=>?_) λcU=>?_
   .replace cU:i<b' aw:=iM.mp cU;have Q5:B.int m=.int (if decide (m=1)=true then 1 else 0):=by
     rcases FD aw on m (ib aN)with h|h|h
     .rw[h];rfl
     .rw[h];rfl
     .exact absurd h<|Ad aN cU
    have wM:pg .str (S.w aa).st [au i]=some (.str<|dq i):=by show(if small (i:ĵ)then i7 (dq i).length (B.str<|dq i)else none)=_;rw[iq<|pq yK,bl<|by rfl];exact bl<|aJ (y3 i<|uQ yK)<|aH rfl
    refine ax.of wM<|uk (k:=.txt<|dq i) ae<|ax.of (Dl aN _) ?_;rw[Q5];refine Dh az ?_;exact fin (fC Y (decide<|m=1)<|p.at<|.txt<|dq i) (if fT Y (decide<|m=1)=true then 1 else 0) _ (λa ak=>i6 _ a<|vS a ak) (aJ (wh _ _ _)<|iL<|mc _) (by unfold ii;rw[bl cU])
   .exact fin (fM Y<|p.at .N) m _ (xq<|i6 .N) t3 (by unfold ii;rw[bt λh=>cU<|iM.mpr h])
  .rw[sG<|by unfold jU;rw[uo,uj];exact dy _]at cf;exact e4 (S:=S.w aa) g.ok (A4 _ _) (g.room ap<|aJ (fO (hc 500 mK) _)<|aH rfl) λu bu bj e=>rG ua u cA bu ((g.trans bj).le<|aJ (fO (hc 500 mK) _)<|aH rfl) (cf.bf bj) e
abbrev cS:=List<|bv×Lm aO×Ĵ
def jz (e:bv×Lm aO×Ĵ):Lm aO:=e.2.1++List.replicate e.2.2 .bA
def d' (x:bv):cS->Ĳ (bv×Lm aO×Ĵ)
 |[]=>none
 |e::r=>if e.1=x then some e else d' x r
def qN (z:cS):bG->Lm aO
 |.txt x=>match d' x z with
  |none=>[.bA]
  |some e=>jz e
 |_=>z.flatMap jz
def lx (z:cS):aO->Lm aO
 |.ao k=>qN z k
 |a=>[a]
def nr (z:cS) (K:Lm aO):Lm aO:=K.flatMap<|lx z
def vW (z:cS):aG->Lm aG
 |.b a=>(lx z a).map .b
 |.arr K=>[.arr<|nr z K]
def iZ (z:cS) (K:Lm aG):Lm aG:=K.flatMap<|vW z
def lC (x:bv):Ģ:= !x.isEmpty&&x.all λc=>decide<|c∈[48,49,50,51,52,53,54,55,56,57]
def p4 (p:aO->Ģ):aO->Ģ
 |.txt x=>p .S||(p .N&&lC x)
 |.num _=>p .N
 |_=>false
def vG (a:aO) (room:Lm aO):Ģ:=decide (a∈room)||p4 (λb=>decide<|b∈room) a
def rW (K room:Lm aO):Ģ:=K.all λa=>vG a room
def Cv (K:Lm aO):aG->Ģ
 |.arr aQ=>rW K aQ
 |.b _=>false
def Nm (room:Lm aG):aG->Ģ
 |.b a=>p4 (λb=>decide<|aG.b b∈room) a
 |.arr K=>room.any<|Cv K
def jT (a:aG) (room:Lm aG):Ģ:=decide (a∈room)||Nm room a
def kb (K room:Lm aG):Ģ:=K.all λa=>jT a room
def S8(z:cS)(K:Lm aO):aO->Prop
 |.ao k=>∃iB,.ao iB∈K/\∀u∈qN z k,u∈qN z iB
 |a=>a∈K\/(match a with|.txt x=>aO.S∈K\/(aO.N∈K/\lC x=true)|.num _=>aO.N∈K|_=>False)
def j'(z:cS)(aQ K:Lm aO):Prop:=∀a∈aQ,S8 z K a
def mQ(z:cS)(aQ K:Lm aG):Prop:=∀a∈aQ,a≠.b .bA->match a with
 |.b (.ao k)=>∃iB,.b (.ao iB)∈K/\∀u∈qN z k,u∈qN z iB
 |.b a=>.b a∈K\/(match a with|.txt x=>aG.b .S∈K\/(aG.b .N∈K/\lC x=true)|.num _=>aG.b .N∈K|_=>False)
 |.arr e5=>∃eH,.arr eH∈K/\j' z e5 eH
def qT(K aT:Lm aO):Prop:=∀a∈K,h4.iI K a->a∈aT
def i8(K aT:Lm aG):Prop:=∀a∈K,d4.iI K a->match a with
 |.b a=>.b a∈aT
 |.arr eH=>∃si,.arr si∈aT/\qT eH si
theorem RJ{a:aO}{room:Lm aO}(h:a∈room):vG a room=true:=by unfold vG;rw[dQ h];rfl
theorem sw{a:aG}{room:Lm aG}(h:a∈room):jT a room=true:=by unfold jT;rw[dQ h];rfl
theorem Mf{z:cS}{K:Lm aO}{a b:aO}(h:a∈K)(aR:b∈lx z a):b∈nr z K:=jF.mpr ⟨a,h,aR⟩
theorem td{z:cS}{K:Lm aG}{a b:aG}(h:a∈K)(aR:b∈vW z a):b∈iZ z K:=jF.mpr ⟨a,h,aR⟩
theorem qT.S{K aT:Lm aO}(h:qT K aT)(m:aO.S∈K):aO.S∈aT:=h _ m<|c9.mL rfl
theorem qT.N{K aT:Lm aO}(h:qT K aT)(m:aO.N∈K):aO.N∈aT:=h _ m<|c9.mL rfl
theorem i8.S{K aT:Lm aG}(h:i8 K aT)(m:aG.b .S∈K):aG.b .S∈aT:=h _ m<|c9.mL rfl
theorem i8.N{K aT:Lm aG}(h:i8 K aT)(m:aG.b .N∈K):aG.b .N∈aT:=h _ m<|c9.mL rfl
theorem i8.U{K aT:Lm aG}(h:i8 K aT)(m:aG.b .bA∈K):aG.b .bA∈aT:=h _ m<|c9.mL rfl
theorem rB{a b:Ģ}(h:a=true):(a||b)=true:=by rw[h];rfl
theorem pk{a b:Ģ}(h:b=true):(a||b)=true:=by rw[h,yn]
theorem IC{a b:Ģ}(h:(a||b)=true):a=true\/b=true:=(mx _ _).mp h
def Cb(q:aO->Prop):aO->Prop
 |.txt x=>q .S\/(q .N/\lC x=true)
 |.num _=>q .N
 |_=>False
theorem K6{a:aO}{q:aO->Prop}{p:aO->Ģ}(e1:q .S->p .S=true)(c':q .N->p .N=true)(iO:q a->(h4.il a=6->¬q .S)/\(h4.il a=7->¬q .N)->p a=true)(G:q a\/Cb q a):(p a||p4 p a)=true:=by
 induction a using aO.casesOn with
 |txt x=>
  rcases G with m|m|⟨m,d⟩
  .by_cases c:q .S
   .exact pk<|rB<|e1 c
   .exact rB<|iO m ⟨λ_=>c,λe=>(nomatch e)⟩
  .exact pk<|rB<|e1 m
  .exact pk<|pk<|lP (c' m) d
 |num i=>
  rcases G with m|m
  .by_cases c:q .N
   .exact pk<|c' c
   .exact rB<|iO m ⟨λe=>(nomatch e),λ_=>c⟩
  .exact pk<|c' m
 |_=>exact rB<|iO (G.resolve_right id) ⟨λe=>(nomatch e),λe=>(nomatch e)⟩
theorem Nh{z:cS}{aQ K aT:Lm aO}(h:j' z aQ K)(s:qT K aT):rW (nr z aQ) (nr z aT)=true:=by
 unfold rW;rw[d6];intro b av;obtain⟨a,ak,av⟩:=jF.mp av;have G:=h a ak;have mem:∀{a:aO},a∈aT->lx z a=[a]->decide (a∈nr z aT)=true:=λm e=>dQ (Mf m<|by rw[e];exact .head _);have go:(lx z a=[a])->(a∈K\/Cb (λb=>b∈K) a)->vG b (nr z aT)=true:=λe G=>by rw[e]at av;rw[cV.mp av];exact K6 (q:=λb=>b∈K) (p:=λb=>decide<|b∈nr z aT) (λm=>mem (s.S m) rfl) (λm=>mem (s.N m) rfl) (λm k=>mem (s _ m k) e) G
 induction a using aO.casesOn with
 |ao k=>obtain⟨iB,aE,o0⟩:=G;exact RJ<|Mf (s _ aE<|c9.mL rfl)<|o0 b av
 |_=>exact go rfl G
theorem Uj{a:aO}{p et:aO->Ģ}(h:∀b,p b=true->et b=true)(e:p4 p a=true):p4 et a=true:=by
 induction a using aO.casesOn with
 |txt x=>exact(IC e).elim (λe=>rB<|h _ e) λe=>pk<|lP (h _ ((eW _ _).mp e).1) ((eW _ _).mp e).2
 |num i=>exact h _ e
 |_=>exact e
theorem Vb{a:aG}{r b0:Lm aG}(h:∀x∈r,x∈b0)(q:jT a r=true):jT a b0=true:=by
 refine(IC q).elim (λq=>rB<|dQ<|h _<|fz q) λq=>pk ?_;induction a using aG.casesOn with
 |b a=>exact Uj (λb e=>dQ<|h _<|fz e) q
 |arr K=>obtain⟨m,aN,q⟩:=rq.mp q;exact rq.mpr ⟨m,h _ aN,q⟩
theorem PK{z:cS}{aQ K aT:Lm aG}(h:mQ z aQ K)(s:i8 K aT):∀b∈iZ z aQ,(b=.b .bA/\.b .bA∈aQ)\/jT b (iZ z aT)=true:=by
 intro b av;obtain⟨a,ak,av⟩:=jF.mp av;by_cases a5:a=.b .bA
 .rw[a5]at av ak;exact .inl ⟨cV.mp av,ak⟩
 have G:=h a ak a5;refine .inr ?_;induction a using aG.casesOn with
 |arr e5=>rw[show b=.arr (nr z e5)from cV.mp av];obtain⟨eH,aE,o0⟩:=G;obtain⟨si,eY,aM⟩:=s _ aE<|c9.mL rfl;exact pk<|rq.mpr ⟨_,td eY<|cV.mpr rfl,Nh o0 aM⟩
 |b a=>
  have mem:∀{a:aO},aG.b a∈aT->lx z a=[a]->decide (aG.b a∈iZ z aT)=true:=λ{a} m e=>dQ (td m<|by show _∈(lx z a).map aG.b;rw[e];exact .head _);have go:(lx z a=[a])->(aG.b a∈K\/Cb (λb=>aG.b b∈K) a)->jT b (iZ z aT)=true:=λe G=>by rw[show vW z (.b a)=[.b a]from bX (List.map aG.b) e]at av;rw[cV.mp av];exact K6 (q:=λb=>aG.b b∈K) (p:=λb=>decide<|aG.b b∈iZ z aT) (λm=>mem (s.S m) rfl) (λm=>mem (s.N m) rfl) (λm k=>mem (s _ m k) e) G
  induction a using aO.casesOn with
  |ao k=>obtain⟨iB,aE,o0⟩:=G;obtain⟨u,a5,e⟩:=dn.mp av;rw[<-e];exact sw<|td (s _ aE<|c9.mL rfl)<|fy<|o0 u a5
  |_=>exact go rfl G
def tR (z:cS) (Y:ĵ) (fP:Ģ) (aQ:Lm aG):Lm aG:=fC Y fP (iZ z aQ)++if fT Y fP=true then [.b .bA]else []
def mR (z:cS) (Y:ĵ) (aT:Lm aG) (U:Ģ):Lm aG:=iZ z (aT++if U=true then [.b .bA]else [])++if Y=2 then [.b .bA]else []
theorem BM{z:cS}{Y:ĵ}{K aT:Lm aG}{U:Ģ}(s:i8 K aT)(h:U=true\/.b .bA∈K\/Y=2):aG.b .bA∈mR z Y aT U:=by
 unfold mR;rw[gm];rcases h with rfl|h|rfl
 .exact .inl<|td (iA _<|by rw[bl rfl];exact .head _)<|cV.mpr rfl
 .exact .inl<|td (kQ _<|s.U h)<|cV.mpr rfl
 .exact .inr (by rw[bl rfl];exact .head _)
theorem xM{z:cS}{Y:ĵ}{fP U:Ģ}{aQ K aT:Lm aG}(az:Y=0\/Y=1\/Y=2)(h:mQ z aQ K)(s:i8 K aT)(G:fT Y fP=true->U=true\/.b .bA∈K\/Y=2)(E:Y=0->fP=false->.b .bA∈aQ->U=true\/.b .bA∈K):kb (tR z Y fP aQ) (mR z Y aT U)=true:=by
 have sub:∀x∈iZ z aT,x∈mR z Y aT U:=λx ay=>by obtain⟨a,ak,ay⟩:=jF.mp ay;exact kQ _<|td (kQ _ ak) ay
 unfold kb;rw[d6];intro b av;unfold tR at av;rcases gm.mp av with av|av
 .rcases PK h s b (vS b av)with⟨rfl,ct⟩|cc
  .refine sw<|BM s ?_;induction aM:fT Y fP with
   |true=>exact G aM
   |false=>
    rcases az with rfl|rfl|rfl
    .induction fP with
     |true=>exact hK aM
     |false=>exact(E rfl rfl ct).imp id .inl
    .exact hK aM
    .exact .inr<|.inr rfl
  .exact Vb sub cc
 .split at av
  .rename_i aM;rw[cV]at av;subst av;exact sw<|BM s<|G aM
  .cases av
theorem BU{z:cS}{Y:ĵ}{U:Ģ}{K aT:Lm aG}(s:i8 K aT)(G:U=true\/.b .bA∈K\/Y=2):kb [.b .bA] (mR z Y aT U)=true:=by unfold kb;rw[d6];intro b av;rw[cV]at av;subst av;exact sw<|BM s G
def bG.un (l:Lm B):bG:=match l with
 |x::_=>(match x with|.str t=>if t=[116]then .txt (match l with|[_,.str x]=>x|_=>[])else(match l with|[_,.str x]=>if x=[83]then .S else .N|_=>.N)|_=>.N)
 |_=>.N
def aO.un (v:B):aO:=match v with
 |.tup l=>(match l with
  |x::l=>(match x with
   |.str t=>(match l with
    |y::_=>if t=[116]then(match y with|.str x=>.txt x|_=>.N)else if t=[35]then(match y with|.int i=>.num i|_=>.N)else if t=[119]then(match y with|.str x=>if x=[117]then .bA else if x=[110]then .nul else if x=[83]then .S else .N|_=>.N)else(match y with|.tup m=>.ao (bG.un m)|_=>.N)
    |[]=>.N)
   |_=>.N)
  |[]=>.N)
 |_=>.N
theorem aO.KX(a:aO):aO.un a.aW=a:=by
 induction a with
 |ao k=>induction k<;>rfl
 |_=>rfl
theorem aO.inj{a b:aO}(h:a.aW=b.aW):a=b:=a.KX.symm.trans<|(bX aO.un h).trans b.KX
def t2 (v:B):Ģ:=match v with
 |.tup (.str t::_)=>decide<|t=[91]
 |_=>false
theorem aO.t2(a:aO):Up.t2 a.aW=false:=by induction a<;>rfl
theorem aG.inj{a b:aG}(h:a.aW=b.aW):a=b:=by
 induction a with
 |b a=>
  induction b with
  |b b=>exact bX _<|aO.inj h
  |arr K=>exact cq<|a.t2.symm.trans<|bX Up.t2 h
 |arr K=>
  induction b with
  |b b=>exact cq ((bX Up.t2 h).trans b.t2).symm
  |arr eH=>have h:B.tup (K.map aO.aW)=B.tup (eH.map aO.aW):=(tL (tL<|B.tup.inj h).2).1;exact bX _<|(Fm λa b h=>aO.inj h).mp<|B.tup.inj h
theorem bG.zS(k:bG)(n:Ĵ):Up.fE (n+1) k.aW=true:=by induction k<;>induction n<;>rfl
theorem aO.zS(a:aO)(n:Ĵ):Up.fE (n+2) a.aW=true:=by
 induction a with
 |ao k=>show(true&&(Up.fE (n+1) k.aW&&true))=true;rw[bG.zS];rfl
 |_=>rfl
theorem aG.fE(a:aG):Up.fE 16 a.aW=true:=by
 induction a with
 |b a=>exact a.zS 14
 |arr K=>show(true&&((K.map aO.aW).all (Up.fE 14)&&true))=true;rw[DC,CQ,oS,d6];exact λa _=>a.zS 12
theorem Cg(a:aG)(aT:Lm aG):hO a.aW (aT.map aG.aW)=some (decide<|a∈aT):=by
 rcases D1 a.fE (l:=aT.map aG.aW) (λx ay=>by obtain⟨b,_,rfl⟩:=dn.mp ay;clear ay;exact b.fE)with⟨m,e⟩|⟨m,e⟩
 .rw[e,dQ];obtain⟨b,av,e⟩:=dn.mp m;clear m;rwa[aG.inj e]at av
 .rw[e,eC λh=>m<|fy h]
def dC (z:cS):Lm (B×B):=z.map λe=>(.str e.1,.tup [.lst<|e.2.1.map aO.aW,au e.2.2])
structure i_(z:cS):Prop where
 b6:(z.map (·.1)).Nodup
 len:z.length<=10
 k:∀e∈z,e.2.1.length<=3/\e.2.2<=1
theorem Jg(z:cS):items (.a9<|dC z)=some ((z.map (·.1)).map ek):=by
 have E:((dC z).all λe=>eG e.1==2)=true:=by unfold dC;rw[oS];exact d6.mpr λ_ _=>rfl
 show(if(((dC z).all λe=>eG e.1==1)||((dC z).all λe=>eG e.1==2))=true then some ((dC z).map (·.1))else none)=_;rw[E,yn,bl rfl];unfold dC;rw[f8,f8];rfl
theorem pJ(x:bv)(z:cS):ej (.str x) (dC z)=true:=wk rfl λ_=>rfl
theorem Mt(x:bv)(z:cS):fh (.str x) (dC z)=some ((d' x z).map λe=>.tup [.lst<|e.2.1.map aO.aW,au e.2.2]):=by
 induction z with
 |nil=>rfl
 |cons e r ar=>
  show(match some (decide<|e.1=x)with|some true=>some (some<|B.tup [.lst<|e.2.1.map aO.aW,au e.2.2])|some false=>fh (.str x) (dC r)|none=>none)=some ((if e.1=x then some e else d' x r).map _);by_cases h:e.1=x
  .rw[dQ h,bl h];rfl
  .rw[eC h,bt h];exact ar
theorem DB{s:St}(x:bv)(z:cS):pT s (.str x) (.a9<|dC z)=some (d' x z).isSome:=by show(if ej (.str x) (dC z)then(fh (.str x)<|dC z).map (·.isSome)else none)=_;rw[pJ,Mt,bl rfl];induction d' x z<;>rfl
theorem Ie{s:St}{x:bv}{z:cS}{e:bv×Lm aO×Ĵ}(h:d' x z=some e):ho s (.a9<|dC z) (.str x)=some (.tup [.lst<|e.2.1.map aO.aW,au e.2.2]):=by show(if ej (.str x) (dC z)then(fh (.str x)<|dC z).bind id else none)=_;rw[pJ,Mt,h];rfl
theorem Zl{z:cS}:(z.map (·.1)).Nodup->∀e∈z,d' e.1 z=some e:=by
 induction z with
 |nil=>exact λ_ _ h=>nomatch h
 |cons a r ar=>
  intro h e m;have h:=hT.mp h;cases m with
  |head=>exact bl rfl
  |tail _ m=>exact(bt λq:a.1=e.1=>h.1<|by show a.1∈_;rw[q];exact fy (f:=λx:bv×Lm aO×Ĵ=>x.1) m).trans<|ar h.2 e m
theorem rr{z:cS}{x:bv}{e:bv×Lm aO×Ĵ}:d' x z=some e->e∈z/\e.1=x:=by
 induction z with
 |nil=>exact λh=>nomatch h
 |cons a r ar=>
  intro h;replace h:(if a.1=x then some a else d' x r)=some e:=h;by_cases c:a.1=x
  .rw[bl c]at h;rw[<-cY h];exact⟨.head _,c⟩
  .rw[bt c]at h;exact⟨.tail _ (ar h).1,(ar h).2⟩
theorem Bs{z:cS}(h:i_ z):∀e∈z,(jz e).length<=4:=λe a6=>by unfold jz;rw[c_,uH];exact gJ (h.k e a6).1 (h.k e a6).2
theorem sz{aC cC:Type}(f:aC->Lm cC)(b:Ĵ){l:Lm aC}:(∀x∈l,(f x).length<=b)->(l.flatMap f).length<=b*l.length:=by
 induction l with
 |nil=>exact λ_=>f7 _
 |cons a l ar=>intro h;rw[qK,c_,qh];exact gJ (ar λx ay=>h x<|.tail _ ay)<|h a<|.head _
theorem JO{z:cS}(h:i_ z)(k:bG):(qN z k).length<=40:=by
 have gf:(z.flatMap jz).length<=40:=by exact aJ (sz jz 4<|Bs h)<|hc 4 h.len
 induction k with
 |txt x=>
  show(match d' x z with|none=>[aO.bA]|some e=>jz e).length<=40;induction e:d' x z with
  |none=>simp
  |some bx=>exact aJ (Bs h bx (rr e).1)<|aH rfl
 |S=>exact gf
 |N=>exact gf
theorem Jl{z:cS}(h:i_ z)(a:aO):(lx z a).length<=40:=by
 induction a with
 |ao k=>exact JO h k
 |_=>simp[lx]
section
variable{n:Ĵ}{s:St}{z:cS}
def JF (z:cS) (e0 fS:cr) (l:Lm B) (eT c1 dg oU:cr):aK:=[.val<|.a9<|dC z,e0,fS,.ol l,eT,c1,dg,oU]
theorem CI{Q:B->St->Prop}{es:cS}{e0 fS km oX Eh oU:cr}(h:i_ z)(oo:∀e∈es,d' e.1 z=some e)(ah:es.length<=10)(q:Q (.lst<|(es.flatMap jz).map aO.aW) s):cE n false [4] [.hs [5,6]<|.ao (.v 0)<|.v 4,.ext 3<|.bin .add (.v 5)<|.bin .mul (.lst [.k<|.tup [.str [119],.str [117]]])<|.v 6] ((es.map (·.1)).map ek) (JF z e0 fS [] km oX Eh oU) s (kP (bw n [.a4 3,.ret<|.v 3]) λcM _ aq=>Q cM.val aq):=by
 refine cE.mp (f:=λe:bv×Lm aO×Ĵ=>ek e.1) (all:=es) f8 (λdone K=>∀eT c1 dg,K (JF z e0 fS ((done.flatMap jz).map aO.aW) eT c1 dg oU) s) (λdone e a' ag K ab eT c1 dg=>?_) (λ_ _ _=>q) λK ab=>ab _ _ _;have a6:=oo e (by rw[ag];exact iA _<|.head _);have aE:=h.k e (rr a6).1;have bm:(e.2.1.map aO.aW).length+(List.replicate e.2.2 nF).length<=4:=by rw[bR,uH];exact gJ aE.1 aE.2
 rw[sH,c4,s',jz,c4,zB]at ab;lk;refine ax.of (Ie a6) ?_;lk;exact ax.of (Ev (aJ aE.2<|aH rfl) _)<|ax.of (lu<|aJ bm<|aH rfl) ⟨by rw[bR,c_];exact aJ (gJ (aJ (sz jz 4 λx ay=>Bs h x (rr<|oo x<|by rw[ag];exact kQ _ ay).1)<|hc 4<|li<|oA ag ah) bm)<|aH rfl,ab _ _ _⟩
theorem WW{Q:B->St->Prop}{key:bG}(h:i_ z)(q:Q (.lst<|(qN z key).map aO.aW) s):bd (n+1) 91 [.a9<|dC z,key.aW] s Q:=by
 have gf:=Zl h.b6;k_go;refine di.comp rfl<|fj.mp (f:=ek) (Jg z) (λdone K=>K (done.map ek) s) (λdone x a' ag K ab=>eN.mk<|by rw[c4]at ab;exact ab) ?_ λK ab=>ab;induction key with
 |txt x=>
  refine ax.of (show hu .f5 s (.str x) (.a9<|dC z)=some (!(d' x z).isSome)from by show(pT s (.str x)<|.a9<|dC z).map (!·)=_;rw[DB];rfl) ?_;replace q:Q (.lst<|(match d' x z with|none=>[aO.bA]|some e=>jz e).map aO.aW) s:=q;induction a7:d' x z with
  |none=>rw[a7]at q;exact q
  |some e=>rw[a7]at q;have a6:=(rr a7).2;rw[<-a6];exact CI h (λx ay=>by rw[cV.mp ay,a6];exact a7) (aH rfl) (by rw[s'];exact q)
 |S=>exact CI h gf h.len q
 |N=>exact CI h gf h.len q
noncomputable abbrev R7:Lm dS:=[.iff (.cmp (.v 3) [(.eq,.k<|.str [84])]) [.ext 2<|.call 91 [.v 1,.v 4]] [.iff (.cmp (.v 3) [(.eq,.k<|.str [91])]) [.app 2<|.tup [.v 3,.bi .tuple [.call 92 [.v 4,.v 1]]]] [.app 2<|.tup [.v 3,.v 4]]]]
theorem JL{a:aO}{aQ:Lm B}{iW d3 eT:cr}{Q:ck->aK->St->Prop}(h:i_ z)(ah:aQ.length<=4000)(q:∀d3 eT,Q .go [iW,.val<|.a9<|dC z,.ol<|aQ++(lx z a).map aO.aW,d3,eT] s):ax (h7 true [3,4] a.aW [iW,.val<|.a9<|dC z,.ol aQ,d3,eT]) λr=>bw (n+1) R7 r s Q:=by
 induction a with
 |ao k=>exact WW h ⟨aJ (gJ ah<|aJ (fU (bR ..))<|JO h k)<|aH rfl,q _ _⟩
 |_=>exact⟨aJ (da ah)<|aH rfl,q _ _⟩
theorem Kt{aC cC:Type}{f:aC->Lm cC}{K done a':Lm aC}{a:aC}(e:K=done++a::a')(ah:K.length<=100)(h:∀a,(f a).length<=40){g:cC->B}:((done.flatMap f).map g).length<=4000:=aJ (fU (bR ..))<|aJ (sz f 40 λx _=>h x)<|hc 40<|li<|oA e ah
theorem XS{Q:B->St->Prop}{arg:B}{K:Lm aO}(h:i_ z)(ak:items arg=some (K.map aO.aW))(ah:K.length<=100)(q:Q (.lst<|(nr z K).map aO.aW) s):bd (n+2) 92 [arg,.a9<|dC z] s Q:=by k_go;lk;refine ax.of ak<|cE.mp (all:=K) (f:=aO.aW) rfl (λdone K=>∀d3 eT,K [.val arg,.val<|.a9<|dC z,.ol<|(nr z done).map aO.aW,d3,eT] s) (λdone a a' ag K ab d3 eT=>?_) (λ_ _=>q) λK ab=>ab _ _;unfold nr at ab⊢;rw[sH,c4,s']at ab;exact JL h (Kt ag ah<|Jl h) ab
theorem Ce(h:i_ z)(a:aG):(vW z a).length<=40:=by
 induction a with
 |b a=>show((lx z a).map aG.b).length<=40;rw[bR];exact Jl h a
 |arr K=>exact aH rfl
theorem FF{Q:B->St->Prop}{arg:B}{K:Lm aG}(h:i_ z)(ak:items arg=some (K.map aG.aW))(ah:K.length<=100)(aE:∀aQ,aG.arr aQ∈K->aQ.length<=100)(q:Q (.lst<|(iZ z K).map aG.aW) s):bd (n+3) 92 [arg,.a9<|dC z] s Q:=by
 k_go;refine ax.of ak<|cE.mp (all:=K) (f:=aG.aW) rfl (λdone K=>∀d3 eT,K [.val arg,.val<|.a9<|dC z,.ol<|(iZ z done).map aG.aW,d3,eT] s) (λdone a a' ag K ab d3 eT=>?_) (λ_ _=>q) λK ab=>ab _ _;unfold iZ at ab⊢;rw[sH,c4,s']at ab;have ap:=Kt ag ah (Ce h) (g:=aG.aW);induction a with
 |b a=>rw[show(vW z<|.b a).map aG.aW=(lx z a).map aO.aW from f8]at ab;exact JL (a:=a) h ap ab
 |arr eH=>exact XS h rfl (aE eH<|by rw[ag];exact iA _<|.head _) ⟨aJ (da ap)<|aH rfl,ab _ _⟩
end
noncomputable abbrev zP:Lm Ĵ:=[48,49,50,51,52,53,54,55,56,57]
theorem NV(a:aO)(R:Lm aO):jT (.b a) (R.map .b)=vG a R:=by have m:(λb:aO=>decide<|aG.b b∈R.map aG.b)=λb=>decide (b∈R):=funext λb=>v7.mpr ⟨λh=>by obtain⟨c,ap,e⟩:=dn.mp h;cases e;exact ap,λh=>fy h⟩;show(decide (aG.b a∈R.map aG.b)||p4 (λb:aO=>decide<|aG.b b∈R.map aG.b) a)=(decide (a∈R)||p4 _ a);rw[m,show decide (aG.b a∈R.map aG.b)=decide (a∈R)from kr m a]
theorem Zb(K R:Lm aO):kb (K.map .b) (R.map .b)=rW K R:=by unfold kb rW;rw[oS];congr 1;funext a;exact NV a R
theorem Cj(K:Lm aO):(K.map aG.b).map aG.aW=K.map aO.aW:=by rw[f8];rfl
def q5(aI:B)(aT:Lm aG):Prop:=aI=.lst (aT.map aG.aW)\/aI=.tup (aT.map aG.aW)
section
variable{n:Ĵ}{s:St}{z:cS}{Q:B->St->Prop}
theorem q5.isin{aI:B}{aT:Lm aG}(h:q5 aI aT)(a:aG):hu .isin s a.aW aI=some (decide<|a∈aT):=by
 rcases h with ei|ei<;>rw[ei]
 .exact Cg a aT
 .exact Cg a aT
theorem q5.it{aI:B}{aT:Lm aG}(h:q5 aI aT):items aI=some (aT.map aG.aW):=by rcases h with ei|ei<;>rw[ei]<;>rfl
theorem GP{aC:Type}{f:aC->B}{p:aC->Ģ}{l:Lm aC}:decide (((((l.filter λa=> !p a).map f).length:Ĵ):ĵ)=0)=l.all p:=by
 rw[bR];induction av:l.all p using Bool.casesOn with
 |true=>exact dQ (bX Int.ofNat<|zA.mpr<|uB.mpr λa ak=>by rw[d6.mp av a ak];exact eM)
 |false=>
  refine eC λh=>?_;have h:=uB.mp<|zA.mp<|o'.mp h;refine cq<|av.symm.trans<|d6.mpr λa ak=>?_;induction ae:p a using Bool.casesOn with
  |true=>rfl
  |false=>exact absurd (by rw[ae];rfl)<|h a ak
theorem XO{aC:Type}{f:aC->B}{p:aC->Ģ}{l:Lm aC}:decide (((((l.filter p).map f).length:Ĵ):ĵ)>0)=l.any p:=by
 rw[bR];induction av:l.any p using Bool.casesOn with
 |true=>obtain⟨a,ak,ae⟩:=rq.mp av;exact dQ<|iM.mpr<|List.length_pos_of_mem<|gz.mpr ⟨ak,ae⟩
 |false=>refine eC λh=>?_;obtain⟨a,ak⟩:=List.exists_mem_of_length_pos<|iM.mp h;exact cq<|av.symm.trans<|rq.mpr ⟨a,gz.mp ak⟩
theorem Hp{x:bv}(q:Q (.bool<|lC x) s):bd (n+1) 94 [.str x] s Q:=by
 k_go;induction x using List.casesOn with
 |nil=>exact q
 |cons cy l=>
  refine di.comp rfl<|yD (N:=cy::l) (f:=λc=>.str [c]) (p:=λc=> !decide (c∈zP)) rfl (λc _ K ab=>?_) ?_
  .refine eN.mk ?_;induction ap:decide (c∈zP)using Bool.casesOn with
   |true=>rw[ap]at ab;exact bh.ik (by rw[zY.mpr<|fz ap];rfl) ab
   |false=>rw[ap]at ab;exact bh.mz (by rw[show zP.contains c=false by rw[<-wS,zY];exact v2 ap];rfl) ab
  .have fd:Q (.bool<|(cy::l).all λc=>decide<|c∈zP) s:=q;rw[<-GP (f:=λc=>B.str [c])]at fd;exact fd
theorem JJ{a:aO}{aI:B}{aT:Lm aG}(h:q5 aI aT)(q:Q (.bool<|jT (.b a) aT) s):bd (n+2) 95 [a.aW,aI] s Q:=by
 have iP:=h.isin (s:=s)<|.b a;have e1:=h.isin (s:=s)<|.b .S;have c':=h.isin (s:=s)<|.b .N;have bY:aG.b a∈aT->Q (.bool true) s:=λm=>by rw[sw m]at q;exact q
 have br:aG.b a∉aT->Q (.bool<|p4 (λb=>decide<|aG.b b∈aT) a) s:=λm=>by unfold jT at q;rw[eC m,Bool.false_or]at q;exact q
 clear q h;k_go;induction a with
 |txt x=>
  refine ax.of iP<|bh.ef bY λm=>?_;replace br:Q (.bool<|decide (aG.b .S∈aT)||(decide (aG.b .N∈aT)&&lC x)) s:=br m;refine ax.of e1<|bh.ef (λye=>?_) λye=>ax.of c'<|bh.ef (λtT=>Hp ?_) λtT=>?_
  .rw[dQ ye]at br⊢;exact br
  .rw[eC ye,dQ tT]at br;exact br
  .rw[eC ye,eC tT]at br;rw[eC tT];exact br
 |num x=>exact ax.of iP<|bh.ef bY λm=>ax.of c'<|br m
 |_=>exact ax.of iP<|bh.ef bY br
theorem Ho{arg aI:B}{A aT:Lm aG}(aA:items arg=some (A.map aG.aW))(cc:∀a∈A,∀bT:B->St->Prop,bT (.bool<|jT a aT) s->bd n 95 [a.aW,aI] s bT)(q:Q (.bool<|kb A aT) s):bd (n+1) 96 [arg,aI] s Q:=by
 k_go;refine di.comp rfl<|yD (N:=A) (p:=λa=> !jT a aT) aA (λa ak K ab=>eN.mk<|cc a ak _ ?_) ?_
 .induction av:jT a aT using Bool.casesOn with
  |true=>rw[av]at ab;exact ab
  |false=>rw[av]at ab;exact ab
 .unfold kb at q;rw[<-GP (f:=aG.aW)]at q;exact q
theorem TE{a:aG}{aI:B}{aT:Lm aG}(h:q5 aI aT)(q:Q (.bool<|jT a aT) s):bd (n+5) 95 [a.aW,aI] s Q:=by
 induction a with
 |b a=>exact JJ h q
 |arr K=>
  k_go;show bw _ _ [.val<|.tup [.str [91],.tup<|K.map aO.aW],_,_,_,_] _ _;lk;refine ax.of (h.isin (s:=s)<|.arr K)<|bh.ef (λm=>?_) λm=>?_
  .lk;rw[sw m]at q;exact q
  .lk;have af:jT (.arr K) aT=aT.any (Cv K):=by unfold jT;rw[eC m,Bool.false_or];rfl
   rw[af,<-XO (f:=aG.aW)]at q;refine di.comp rfl<|yD (N:=aT) (p:=Cv K) h.it (λa _ eH ab=>eN.mk ?_) ?_
   .induction a with
    |b a=>induction a<;>exact ab
    |arr aQ=>
     lk;refine Ho (A:=K.map .b) (aT:=aQ.map .b) (by rw[Cj];rfl) (λa ak bT bb=>?_) ?_
     .obtain⟨b,_,rfl⟩:=dn.mp ak;clear ak;exact JJ (.inr<|by rw[Cj]) bb
     .rw[Zb];replace ab:eH (if rW K aQ=true then [aG.aW<|.arr aQ]else []) s:=ab;induction av:rW K aQ using Bool.casesOn with
      |false=>rw[av]at ab;exact ab
      |true=>rw[av]at ab;exact ab
   .exact q
theorem Wp{arg aI:B}{A aT:Lm aG}(aA:items arg=some (A.map aG.aW))(h:q5 aI aT)(q:Q (.bool<|kb A aT) s):bd (n+6) 96 [arg,aI] s Q:=Ho aA (λa _ bT bb=>TE h bb) q
def jn (z:cS) (p:cG) (Y:ĵ) (x:bv):Lm aG:=match d' x z with
 |none=>[.b .bA]
 |some e=>tR z Y (decide<|e.2.2=1)<|p.at<|.txt x
theorem Ug{p:cG}{Y:ĵ}{fB x:bv}(ae:p.ok)(h:i_ z)(az:Y=0\/Y=1\/Y=2)(ay:x=[108,101,110,103,116,104]->fB=[123])(q:Q (.lst<|(jn z p Y x).map aG.aW) s):bd (n+5) 93 [p.aW,.int Y,.a9<|dC z,.str fB,.str x] s Q:=by
 have main:bw (n+4) [.iff (.cmp (.v 4) [(.f5,.v 2)]) [.ret<|.lst [.k<|.tup [.str [119],.str [117]]]] [],.hs [5,6]<|.ao (.v 2)<|.v 4,.hs [7,8]<|.call 85 [.call 92 [.call 80 [.v 0,.tup [.k<|.str [116],.v 4]],.v 2],.v 1,.v 6],.ret<|.bin .add (.v 7)<|.bin .mul (.lst [.k<|.tup [.str [119],.str [117]]])<|.v 8]
  [.val p.aW,.val<|.int Y,.val<|.a9<|dC z,.val<|.str fB,.val<|.str x,.un,.un,.un,.un] s (λcM _ aq=>Q cM.val aq):=by
  refine ax.of (show hu .f5 s (.str x) (.a9<|dC z)=some (!(d' x z).isSome)from by show(pT s (.str x)<|.a9<|dC z).map (!·)=_;rw[DB];rfl) ?_
  induction a7:d' x z with
  |none=>
   have:jn z p Y x=[.b .bA]:=by unfold jn;rw[a7]
   rw[this]at q;exact q
  |some e=>
   have Ó:jn z p Y x=tR z Y (decide<|e.2.2=1) (p.at<|.txt x):=by unfold jn;rw[a7]
   rw[Ó]at q;have bF:au e.2.2=.int (if decide (e.2.2=1)=true then 1 else 0):=by rcases tj (zM (h.k e (rr a7).1).2)with e|e<;>rw[e]<;>rfl
   have k2:=aJ (cG.rt ae<|.txt x) (aH rfl:13<=20);refine ax.of (Ie a7)<|uk (k:=.txt x) ae<|FF h rfl (aJ k2<|aH rfl) (λaQ ct=>aJ (show aQ.length<=12 from cG.fits ae (.txt x) _ ct)<|aH rfl) ?_;rw[bF];refine Dh az ?_;lk;refine ax.of (a:=.lst<|(if fT Y (decide<|e.2.2=1)=true then [aG.b .bA]else []).map aG.aW) ?_<|ax.of (lu ?_) ?_
   .induction fT Y (decide<|e.2.2=1)using Bool.casesOn<;>rfl
   .rw[bR,bR];refine aJ (gJ (aJ (wh _ _ _)<|aJ (sz _ 40 λa _=>Ce h a)<|hc 40 k2) (?_:_<=1))<|aH rfl;induction fT Y (decide<|e.2.2=1)using Bool.casesOn<;>exact aH rfl
   unfold tR at q;rw[c4]at q;exact q
 by_cases dP:x=[108,101,110,103,116,104]
 .have aM:=ay dP;clear ay h ae az q;subst aM dP;k_go;exact main
 .k_go;exact bh.ft dP<|bh.ft dP main
end
def dr (v:B) (i:Ĵ):B:=match v with|.tup l=>l.getD i .none|_=>.none
def Dz (v:B):bv:=match v with|.str x=>x|_=>[]
def Jc (v:B):ĵ:=match v with|.int i=>i|_=>0
def Cq (R:Lm B) (s:Ĵ):bG:=if m' (R.getD s .none)=3 then .txt (Dz<|dr (R.getD s .none) 1)else if s=6 then .S else .N
def QI (R:Lm B) (p:Ĵ) (v:B):aO:=if m' v=3 then .txt (Dz<|dr v 1)else if m' v=4 then .num (Jc<|dr v 1)else if m' v=15 then .ao (Cq R (Jc<|dr v 2).toNat)else if p=4 then .bA else if p=5 then .nul else if p=6 then .S else .N
theorem gK.dec{R:Lm B}(T:Rows R){s:Ĵ}{k:bG}(h:gK R s k):k=Cq R s:=by
 have key:∀v,R[s]?=some v->k=(if m' v=3 then .txt (Dz<|dr v 1)else if s=6 then .S else .N)->k=Cq R s:=λv e h=>by rw[<-show R.getD s .none=v from(lN ..).trans<|bX (Option.getD · _) e]at h;exact h
 induction k with
 |txt x=>exact key _ h rfl
 |S=>obtain rfl:s=6:=h;exact key _ (T.at rfl) rfl
 |N=>obtain rfl:s=7:=h;exact key _ (T.at rfl) rfl
theorem eR.dec{R:Lm B}(T:Rows R){p:Ĵ}{a:aO}(h:eR R p a):∃v,R[p]?=some v/\a=QI R p v/\Nat.beq (m' v) 11=false:=by
 induction a with
 |txt x=>exact⟨_,h,rfl,rfl⟩
 |num x=>exact⟨_,h,rfl,rfl⟩
 |ao k=>obtain⟨s,G,E⟩:=h;exact⟨_,E,bX aO.ao<|G.dec T,rfl⟩
 |bA=>obtain rfl:p=4:=h;exact⟨_,T.at rfl,rfl,rfl⟩
 |nul=>obtain rfl:p=5:=h;exact⟨_,T.at rfl,rfl,rfl⟩
 |S=>obtain rfl:p=6:=h;exact⟨_,T.at rfl,rfl,rfl⟩
 |N=>obtain rfl:p=7:=h;exact⟨_,T.at rfl,rfl,rfl⟩
theorem eR.GL{R:Lm B}(T:Rows R){p:Ĵ}{a:aO}{v:B}{cX:Prop}(h:eR R p a)(e:R[p]?=some v)(n:Nat.beq (m' v) 11=true):cX:=by obtain⟨w,ag,-,a8⟩:=h.dec T;rw[cY<|e.symm.trans ag]at n;exact hK<|n.symm.trans a8
theorem eR.inj{R:Lm B}(T:Rows R){p:Ĵ}{a b:aO}(h:eR R p a)(aR:eR R p b):a=b:=by obtain⟨v,ag,e,-⟩:=h.dec T;obtain⟨w,a8,bx,-⟩:=aR.dec T;rw[e,bx,cY<|ag.symm.trans a8]
theorem nR.RX{l:Lm B}{w:ĵ}(h:nR l w):Nat.beq (m'<|.tup l) 6=false:=by induction h<;>rfl
theorem eg.det{R:Lm B}{t:Ĵ}{aj ca:Lm Ĵ}(h:eg R t aj)(aR:eg R t ca):aj=ca:=by
 have no:∀{aj ca:Lm Ĵ},eg R t aj->R[t]?=some (.tup [.int 6,.tup<|ca.map au])->aj≠[t]:=by rintro aj ca h e rfl;obtain⟨w,⟨⟨l,G,E⟩,-⟩,-⟩:=h.pt t<|.head _;have E:=E.RX;rw[<-cY (e.symm.trans G)]at E;exact hK E
 rcases h.is with⟨rfl,e⟩|e|⟨_,ne,e⟩
 .exact(aR.two e).symm
 .rcases aR.is with⟨rfl,bx⟩|bx|⟨_,_,bx⟩
  .exact h.two bx
  .rw[e,bx]
  .exact absurd e<|no h bx
 .rcases aR.is with⟨rfl,bx⟩|bx|⟨_,_,bx⟩
  .exact absurd bx ne
  .exact absurd bx<|no aR e
  .rw[e]at bx;simp only[DS,B.tup.injEq,th,and_true,true_and]at bx;exact(Fm λa b h=>by have:(a:ĵ)=b:=B.int.inj h;omega).mp bx
def tI(R:Lm B)(t:Ĵ)(aT:Lm aO):Prop:=∀K,h4.Ty R t K->qT K aT
def qa(R:Lm B)(t:Ĵ)(aT:Lm aG):Prop:=∀K,d4.Ty R t K->i8 K aT
structure rf(R:List B)(t:Nat):Prop where
 ex:∃K,d4.Ty R t K/\K.length<=16/\∀a∈K,a.fits
theorem FN{t:Ĵ}{aj:Lm Ĵ}{P:Ĵ->B->Prop}(T:Rows S.R)(a5:eg S.R t aj)(a7:∀p∈aj,∀bT:B->St->Prop,(∀v,P p v->bT v S.st)->bd n 78 [.ref 1,au p] S.st bT)(q:∀vs,b_ P aj vs->Q (.lst vs) S.st):bd (n+1) 77 [.ref 1,au t] S.st Q:=by
 have hy:∀(ln h' d3:cr) (x:B),items x=some (aj.map au)->fj x [.val<|.ref 1,ln,h',d3] S.st n (.call 78 [.v 0,.v 3]) false [3] [] Q:=by intro ln h' d3 x aA;refine fj.mp aA (λdone K=>∀cg,b_ P done cg->K cg S.st) (λdone p a' ag K ab cg al=>eN.mk ?_) (λcg al=>q cg al) λK ab=>ab [] .nil;lk;exact a7 p (by rw[ag];simp) _ λv af=>ab _<|al.snoc af
 k_go;rcases a5.is with⟨rfl,rfl⟩|rfl|⟨a,b,e⟩
 .have E:=T.at (t:=2) rfl;lk;exact q [] .nil
 .obtain⟨w,⟨⟨l,G,E⟩,aB⟩,_⟩:=a5.pt t<|.head _;lk;refine bh.ft (by omega) ?_;induction E<;>exact di.oM (x:=.tup [au t]) rfl (λ_ h=>h)<|hy _ _ _ _ rfl
 .lk;exact bh.ft (by omega)<|di.oM (x:=.tup<|aj.map au) rfl (λ_ h=>h)<|hy _ _ _ _ rfl
theorem Ì{s:Ĵ}{key:bG}(T:Rows S.R)(h:gK S.R s key)(q:Q key.aW S.st):bd (n+1) 78 [.ref 1,au s] S.st Q:=by
 have d2:=T.at (t:=6) rfl;have fp:=T.at (t:=7) rfl;k_go;induction key with
 |txt x=>have h:S.R[s]?=some (tB x):=h;lk;exact q
 |S=>obtain rfl:s=6:=h;lk;exact q
 |N=>obtain rfl:s=7:=h;lk;exact q
theorem L0{p:Ĵ}{a:aO}(T:Rows S.R)(h:eR S.R p a)(q:Q a.aW S.st):bd (n+2) 78 [.ref 1,au p] S.st Q:=by
 have ba:=T.at (t:=4) rfl;have cO:=T.at (t:=5) rfl;have d2:=T.at (t:=6) rfl;have fp:=T.at (t:=7) rfl;k_go;induction a with
 |txt x=>have h:S.R[p]?=some (tB x):=h;lk;exact q
 |num x=>have h:S.R[p]?=some (DP x):=h;lk;exact q
 |bA=>obtain rfl:p=4:=h;lk;exact q
 |nul=>obtain rfl:p=5:=h;lk;exact q
 |S=>obtain rfl:p=6:=h;lk;exact q
 |N=>obtain rfl:p=7:=h;lk;exact q
 |ao k=>obtain⟨s,aE,h⟩:=h;lk;exact Ì T aE q
theorem MS{t:Ĵ}{ep:Lm aO}(T:Rows S.R)(h:h4.Ty S.R t ep)(q:∀aT,tI S.R t aT->aT.length<=ep.length->Q (.lst<|aT.map aO.aW) S.st):bd (n+3) 77 [.ref 1,au t] S.st Q:=by
 obtain⟨aj,u,i⟩:=id h;clear h;have dP:=c9.Is.len T u.fB λp ae=>(i.to p ae).imp λa x=>⟨x.1,x.2.1⟩;refine FN (P:=λp v=>∃a,v=a.aW/\eR S.R p a) T u (λp ae bT bb=>?_) λvs al=>?_
 .obtain⟨a,_,he,_⟩:=i.to p ae;exact L0 T he<|bb _ ⟨a,rfl,he⟩
 .have m6:∀{aj:Lm Ĵ} {vs:Lm B},b_ (λp v=>∃a,v=a.aW/\eR S.R p a) aj vs->∃aT:Lm aO,vs=aT.map aO.aW/\aT.length=aj.length/\∀p∈aj,∃a∈aT,eR S.R p a:=by
   intro aj vs al;induction al with
   |nil=>exact⟨[],rfl,rfl,by simp⟩
   |cons x _ ar=>
    obtain⟨a,rfl,ak⟩:=x;obtain⟨aT,rfl,E,aB⟩:=ar;refine⟨a::aT,rfl,by simp[E],λp ae=>?_⟩;rcases eJ.mp ae with rfl|ae
    .exact⟨a,.head _,ak⟩
    .obtain⟨b,av,l5⟩:=aB p ae;exact⟨b,.tail _ av,l5⟩
  obtain⟨aT,rfl,E,aB⟩:=m6 al;clear al;refine q aT (λK ab a ak st=>?_) (by omega);obtain⟨dJ,ie,qH⟩:=ab;obtain rfl:=u.det ie;obtain⟨p,ae,r7⟩:=qH.of a ak st;obtain⟨b,av,xV⟩:=aB p ae;rwa[eR.inj T r7 xV]
theorem sK{t:Ĵ}(T:Rows S.R)(h:rf S.R t)(q:∀aT,qa S.R t aT->aT.length<=16->(∀aQ,aG.arr aQ∈aT->aQ.length<=12)->Q (.lst<|aT.map aG.aW) S.st):bd (n+5) 77 [.ref 1,au t] S.st Q:=by
 obtain⟨ep,⟨aj,u,i⟩,s1,i6⟩:=h.ex;have dP:=c9.Is.len T u.fB λp ae=>(i.to p ae).imp λa x=>⟨x.1,x.2.1⟩;refine FN (P:=λp v=>(∃a,v=a.aW/\eR S.R p a)\/(ee λe aT=>hP (v=(aG.arr aT).aW) (S.R[p]?=some (hV e 0)) (tI S.R e aT)<|aT.length<=12)) T u (λp ae bT bb=>?_) λvs al=>?_
 .obtain⟨a,ak,he,_⟩:=i.to p ae;induction a with
  |b a=>exact L0 T he<|bb _<|.inl ⟨a,rfl,he⟩
  |arr K=>obtain⟨e,a6,mP⟩:=he;have rp:K.length<=12:=i6 _ ak;k_go;lk;exact MS T mP λaT eY ah=>bb _<|.inr ⟨e,aT,rfl,a6,eY,by omega⟩
 .have m6:∀{aj:Lm Ĵ} {vs:Lm B},b_ (λp v=>(∃a,v=a.aW/\eR S.R p a)\/(ee λe aT=>hP (v=(aG.arr aT).aW) (S.R[p]?=some (hV e 0)) (tI S.R e aT)<|aT.length<=12)) aj vs->
   ∃aT:Lm aG,vs=aT.map aG.aW/\aT.length=aj.length/\(∀aQ,aG.arr aQ∈aT->aQ.length<=12)/\∀p∈aj,(∃a,.b a∈aT/\eR S.R p a)\/(ee λe aQ=>dY (.arr aQ∈aT) (S.R[p]?=some (hV e 0))<|tI S.R e aQ):=by
   intro aj vs al
   induction al with
   |nil=>exact⟨[],rfl,rfl,by simp,by simp⟩
   |cons x _ ar=>
    obtain⟨aT,rfl,E,ba,aB⟩:=ar;have old:∀(c:aG) (p:Ĵ),((∃a,.b a∈aT/\eR S.R p a)\/(ee λe aQ=>dY (.arr aQ∈aT) (S.R[p]?=some (hV e 0))<|tI S.R e aQ))->((∃a,.b a∈c::aT/\eR S.R p a)\/(ee λe aQ=>dY (.arr aQ∈c::aT) (S.R[p]?=some (hV e 0))<|tI S.R e aQ)):=by
     rintro c p(⟨a,ak,h⟩|⟨e,aQ,ak,h,g⟩)
     .exact .inl ⟨a,.tail _ ak,h⟩
     .exact .inr ⟨e,aQ,.tail _ ak,h,g⟩
    rcases x with⟨a,rfl,ak⟩|⟨e,aQ,rfl,a6,ct,ah⟩
    .refine⟨.b a::aT,rfl,by simp[E],λaQ ct=>?_,λp ae=>?_⟩
     .rcases eJ.mp ct with e|ct
      .cases e
      .exact ba aQ ct
     .rcases eJ.mp ae with rfl|ae
      .exact .inl ⟨a,.head _,ak⟩
      .exact old _ p<|aB p ae
    .refine⟨.arr aQ::aT,rfl,by simp[E],λe5 kX=>?_,λp ae=>?_⟩
     .rcases eJ.mp kX with e|kX
      .cases e;exact ah
      .exact ba e5 kX
     .rcases eJ.mp ae with rfl|ae
      .exact .inr ⟨e,aQ,.head _,a6,ct⟩
      .exact old _ p<|aB p ae
  obtain⟨aT,rfl,E,ba,aB⟩:=m6 al;clear al;refine q aT (λK ab a ak st=>?_) (by omega) ba;obtain⟨dJ,ie,qH⟩:=ab;obtain rfl:=u.det ie;obtain⟨p,ae,r7⟩:=qH.of a ak st;rcases aB p ae with⟨b,av,xV⟩|⟨e,aQ,ct,a6,ZX⟩
  .induction a with
   |b a=>show aG.b a∈aT;rwa[eR.inj T (show eR S.R p a from r7) xV]
   |arr eH=>obtain⟨e,a6,_⟩:=(show mY S.R p (.arr eH)from r7);exact xV.GL T a6 rfl
  .induction a with
   |b a=>exact(show eR S.R p a from r7).GL T a6 rfl
   |arr eH=>
    obtain⟨bx,h9,mP⟩:=(show mY S.R p (.arr eH)from r7);rw[a6]at h9;have:e=bx:=by simp only[DS,B.tup.injEq,th,B.int.injEq,Int.natCast_inj,and_true,true_and]at h9;exact h9
    subst this;exact⟨aQ,ct,ZX eH mP⟩
theorem Vw:∀i<20,Ex (dq (i:Ĵ))=some i:=by decide+kernel
structure ja(ai:List aG):Prop where
 len:ai.length<=90
 arr:∀aQ,aG.arr aQ∈ai->aQ.length<=12
theorem ja.bA{ai:Lm aG}(h:ja ai)(ah:ai.length<=89)(U:Ģ):ja (ai++if U=true then [.b .bA]else []):=by
 refine⟨?_,λaQ ct=>?_⟩
 .rw[c_];exact(gJ ah (by cases U<;>exact aH rfl):ai.length+(if U=true then [aG.b .bA]else []).length<=89+1)
 .rcases gm.mp ct with ct|ct
  .exact h.arr aQ ct
  .split at ct
   .rw[cV]at ct;cases ct
   .cases ct
noncomputable abbrev nU (ai:Lm aG):B:=.lst<|ai.map aG.aW
def uZ (f:ĵ):Ģ:=decide (f=1)||decide (f=3)
def r8(R:Lm B)(ca:Lm c2)(dv ds:Ĳ (Ĵ×ĵ))(x:bv)(ai:Lm aG):Prop:=ee λaT U=>ai=aT++(if U=true then [.b .bA]else [])/\((∃p∈ca,p.1=x/\qa R p.2.1 aT/\U=uZ p.2.2.1)\/(U=true/\ee λu aV=>dv=some (u,aV)/\qa R u aT)\/(U=true/\lC x=true/\ee λu aV=>ds=some (u,aV)/\qa R u aT))
def C_ (row x:B) (d3 eT c1 dg cW cv dF dE dR:cr):aK:=[.val<|.ref 1,.val row,.val x,d3,eT,c1,dg,cW,cv,dF,dE,dR]
theorem Jt{es:Lm (Ĵ×ĵ)}{aw:Lm ĵ}(h:es.map (·.2)=aw):(de es).flatMap u4=aw.map .int:=by
 rw[<-h];unfold de;clear h;induction es with
 |nil=>rfl
 |cons e es ar=>rw[fx,qK,ar];rfl
theorem Fz(U:Ģ):(if U=true then [aG.b .bA]else []).length<=1:=by induction U<;>decide
theorem T'{e:Ĵ}{aV:ĵ}{x:bv}(T:Rows S.R)(h:rf S.R e)(q:∀aT,qa S.R e aT->ja aT->Q (.lst [nU aT]) S.st):bd (n+6) 97 [.ref 1,hV e aV,.str x] S.st Q:=by k_go;exact sK T h λaT eY G E=>q aT eY ⟨fK ‹_›,E⟩
theorem R9{es:Lm (Ĵ×ĵ)}{aV:ĵ}{i:Ĵ}(T:Rows S.R)(mP:∀e∈es,rf S.R e.1)(aN:∀m∈es.map (·.2),m=0\/m=1\/m=2)(ah:es.length<=5)(aA:i<20)(bY:∀e aT,i<b' (es.map (·.2))->es[i]?=some e->qa S.R e.1 aT->ja (aT++if decide (e.2=1)=true then [.b .bA]else [])->Q (.lst [nU<|aT++if decide (e.2=1)=true then [.b .bA]else []]) S.st)(br:∀ai,¬i<b' (es.map (·.2))->ja ai->(∀e∈es.drop (b'<|es.map (·.2)),∃aT,qa S.R e.1 aT/\∀a∈aT,a∈ai)->Q (.lst [nU ai]) S.st):bd (n+6) 97 [.ref 1,.tup [.int 12,.tup<|de es,.int aV],.str<|dq i] S.st Q:=by
 have jj:=wW<|es.map (·.2);rw[bR]at jj;generalize my:es.map (·.2)=aw at*;k_go;refine di.oM (x:=.tup<|de es) rfl (λ_ h=>h)<|pi (f:=u4) rfl ?_ ?_
 .intro v af bT bb;obtain⟨e,a6,rfl⟩:=dn.mp af;clear af;exact eN.mk bb
 rw[Jt my];refine bw.to (C_ (.tup [.int 12,.tup<|de es,.int aV]) (.str<|dq i) (.val<|.lst<|aw.map .int) (.val<|au<|b' aw) .un .un .un .un .un .un .un) S.st (λK ab=>?_) ?_
 .refine ax.of (show hu .isin S.st (.int 2) (.lst<|aw.map .int)=_ from tX 2 aw)<|bh.ef (λh=>?_) λh=>?_
  .exact ax.of (Cw h) ab
  .rw[DE aw h,<-bR (f:=B.int)]at ab;exact ab
 refine ax.of (show pg .int S.st [.str<|dq i]=some (au i)from by show(Ex<|dq i).map _=_;rw[Vw i aA];rfl) ?_;refine bh.ef (λcU=>?_) λcU=>?_
 .replace cU:i<b' aw:=iM.mp cU;have a6:es[i]?=some es[i]:=fl<|gI cU jj;generalize es[i]=e at a6;have gh:aw[i]?=some e.2:=by rw[<-my,gS,a6];rfl
  have Ae:Up.bin .mul (.lst [nF]) (.int e.2)=some (.lst<|(if decide (e.2=1)=true then [aG.b .bA]else []).map aG.aW):=by
   rcases aN e.2 (ib gh)with h|h|h
   .rw[h];rfl
   .rw[h];rfl
   .exact absurd h<|Ad gh cU
  refine ax.of (Ct a6)<|sK T (mP e<|ib a6) λaT eY G E=>ax.of (Dl gh _)<|ax.of Ae<|ax.of (lu<|yB<|gJ G<|Fz _) ?_;have:=bY e aT cU a6 eY<|ja.bA ⟨fK ‹_›,E⟩ (fK ‹_›) _;unfold nU at this;rw[c4]at this;exact this
 .replace cU:¬i<b' aw:=λh=>cU<|iM.mpr h;refine⟨by rw[mA];exact jj,?_⟩;rw[show(de es).drop (b' aw)=de (es.drop<|b' aw)by unfold de;rw[List.map_drop]];have o8:(es.drop<|b' aw).length<=5:=by rw[u1];exact aJ (tn _ _) ah
  refine cE.mp rfl (λdone K=>∀ai cW cv,ja ai->ai.length<=16*done.length->(∀e∈done,∃aT,qa S.R e.1 aT/\∀a∈aT,a∈ai)->K (C_ (.tup [.int 12,.tup<|de es,.int aV]) (.str<|dq i) (.val<|.lst<|aw.map .int) (.val<|au<|b' aw) (.val<|au i) (.ol<|ai.map aG.aW) cW cv .un .un .un) S.st) (λdone e a' ag K ab ai cW cv cf jh av=>?_) (λai cW cv cf _ av=>br ai cU cf av) λK ab=>ab [] _ _ ⟨by simp,by simp⟩ (f7 _) (by simp);lk;refine sK T (mP e<|List.mem_of_mem_drop<|by rw[ag];simp) λaT eY G E=>?_;have tU:=aJ (gJ jh G)<|r3 16 ag o8;refine⟨aJ (yB tU)<|aH rfl,?_⟩;rw[<-c4];refine ab _ _ _ ⟨by rw[c_];exact aJ tU<|aH rfl,λaQ ct=>(gm.mp ct).elim (cf.arr aQ)<|E aQ⟩ (by rw[c_];exact Xu jh G) λbx h9=>?_;rcases gm.mp h9 with h9|h9
  .exact(av bx h9).imp λsi h=>⟨h.1,λa ak=>kQ _<|h.2 a ak⟩
  .rw[cV]at h9;rw[h9];exact⟨aT,eY,λa ak=>iA _ ak⟩
theorem RQ{ca:Lm c2}{dv ds:Ĳ (Ĵ×ĵ)}{x:bv}(T:Rows S.R)(mP:∀p∈ca,rf S.R p.2.1)(d2:∀u aV,dv=some (u,aV)->rf S.R u)(fp:∀u aV,ds=some (u,aV)->rf S.R u)(a7:∀p∈ca,p.2.2.1=0\/p.2.2.1=1\/p.2.2.1=2\/p.2.2.1=3)(ah:ca.length<=10)(q:∀gg:Lm (Lm aG),(∀ai∈gg,ja ai/\r8 S.R ca dv ds x ai)->Q (.lst<|gg.map nU) S.st):bd (n+6) 97 [.ref 1,h3 ca (.tup []) dv ds 0,.str x] S.st Q:=by
 have add:∀{gg:Lm (Lm aG)} {ai},(∀ai∈gg,ja ai/\r8 S.R ca dv ds x ai)->ja ai/\r8 S.R ca dv ds x ai->∀D∈gg++[ai],ja D/\r8 S.R ca dv ds x D:=λh aR D b2=>(gm.mp b2).elim (h D) λb2=>cV.mp b2▸aR;have IU:∀(aT:Lm aG),aT.length<=16->Up.bin .add (.lst<|aT.map aG.aW) (.lst [nF])=some (nU<|aT++[.b .bA]):=λaT eY=>(lu<|yB (f:=aG.aW) (b:=[.b .bA])<|da eY).trans<|bX (λl=>some<|B.lst l) c4.symm;have dN:∀(gg:Lm (Lm aG)) (cW cv dF dE dR d3 eT c1:cr),gg.length<=12->(∀ai∈gg,ja ai/\r8 S.R ca dv ds x ai)->bw (n+5) [.iff (.an [.cmp (.ao (.v 1)<|.k<|.int 5) [(.ne,.tup [])],.call 94 [.v 2]]) [.app 6<|.bin .add (.call 77 [.v 0,.ao (.ao (.v 1)<|.k<|.int 5)<|.k<|.int 0])<|.lst [.k<|.tup [.str [119],.str [117]]]] [],.a4 6,.ret<|.v 6] (C_ (h3 ca (.tup []) dv ds 0) (.str x) d3 eT c1 (.ol<|gg.map nU) cW cv dF dE dR) S.st (λcM _ aq=>Q cM.val aq):=by
  intro gg cW cv dF dE dR d3 eT c1 jh cf;rcases ds with _|⟨u,aV⟩
  .exact q gg cf
  .refine Hp ?_;induction bg:lC x with
   |false=>exact q gg cf
   |true=>refine sK T (fp u aV rfl) λaT eY G E=>ax.of (IU aT G)<|⟨vN<|da jh,?_⟩;have:=q (gg++[aT++[.b .bA]])<|add cf ⟨ja.bA (U:=true) ⟨fK ‹_›,E⟩<|fK ‹_›,aT,true,rfl,.inr<|.inr ⟨rfl,bg,u,aV,rfl,eY⟩⟩;rw[c4]at this;exact this
 k_go;refine di.oM (x:=.tup<|ca.map ff) rfl (λ_ h=>h) (fj.mp rfl (λdone K=>∀gg:Lm (Lm aG),gg.length<=done.length->(∀ai∈gg,ja ai/\r8 S.R ca dv ds x ai)->K (gg.map nU) S.st) (λdone p a' ag K ab gg jh cf=>?_) (λgg jh cf=>?_) λK ab=>ab [] (dy _)<|by simp)
 .have ae:p∈ca:=by rw[ag];simp
  rw[c_]at ab;refine eN.mk<|bh.ef (λay=>?_) λay=>?_
  .refine sK T (mP p ae) λaT eY G E=>?_;have Ae:Up.bin .mul (.lst [nF]) (.int<|Int.fmod p.2.2.1 2)=some (.lst<|(if uZ p.2.2.1=true then [aG.b .bA]else []).map aG.aW):=by rcases a7 p ae with h|h|h|h<;>rw[h]<;>rfl
   lk;refine ax.of Ae<|ax.of (lu<|yB<|gJ G<|Fz _) ?_;have:=ab (gg++[aT++if uZ p.2.2.1=true then [.b .bA]else []]) (by rw[c_];exact da jh)<|add cf ⟨ja.bA ⟨fK ‹_›,E⟩ (fK ‹_›) _,aT,_,rfl,.inl ⟨p,ae,ay,eY,rfl⟩⟩;rw[c4,LF]at this;unfold nU at this⊢;rw[c4]at this;exact this
  .show K (_++[]) _;rw[gT];exact ab gg (iL jh) cf
 .replace jh:=aJ jh ah;rcases dv with _|⟨u,aV⟩
  .exact dN gg _ _ _ _ _ .un .un .un (aJ jh<|aH rfl) cf
  .refine sK T (d2 u aV rfl) λaT eY G E=>ax.of (IU aT G)<|⟨vN<|da jh,?_⟩;have jW:=λcW cv dF dE dR d3 eT c1=>dN (gg++[aT++[.b .bA]]) cW cv dF dE dR d3 eT c1 (by rw[c_];exact aJ (da jh)<|aH rfl)<|add cf ⟨ja.bA (U:=true) ⟨fK ‹_›,E⟩<|fK ‹_›,aT,true,rfl,.inr<|.inl ⟨rfl,u,aV,rfl,eY⟩⟩;rw[c4]at jW;exact jW _ _ _ _ _ _ _ _
abbrev hw:=List<|Lm aO×Ĵ
def hZ (r:hw):Lm B:=r.map λe=>.tup [.lst<|e.1.map aO.aW,au e.2]
def j4 (w:Ĵ) (es:hq):hw:=es.flatMap λe=>if e.2=2 then List.replicate w (e.1,0)else [(e.1,if e.2=1/\w=0 then 1 else 0)]
def k4 (es:hq):Lm hw:=[(es.filter λe=>decide<|e.2=0).map λe=>(e.1,0),j4 0 es,j4 1 es,j4 2 es]
def uP (w:Ĵ) (aw:Lm ĵ):Lm Ĵ:=aw.flatMap λm=>if m=2 then List.replicate w 0 else [if m=1/\w=0 then 1 else 0]
def vw (aw:Lm ĵ):Lm (Lm Ĵ):=[(aw.filter λm=>decide<|m=0).map λ_=>0,uP 0 aw,uP 1 aw,uP 2 aw]
theorem Pu(w:Ĵ)(es:hq):(j4 w es).map (·.2)=uP w (es.map (·.2)):=by
 induction es with
 |nil=>rfl
 |cons e es ar=>
  show((if e.2=2 then List.replicate w (e.1,0)else [(e.1,if e.2=1/\w=0 then 1 else 0)])++j4 w es).map (λx:Lm aO×Ĵ=>x.2)=(if e.2=2 then List.replicate w 0 else [if e.2=1/\w=0 then 1 else 0])++uP w (es.map λx:Lm aO×ĵ=>x.2);rw[c4,ar];by_cases h:e.2=2
  .rw[bl h,bl h,zB]
  .rw[bt h,bt h];rfl
theorem OX(es:hq):(k4 es).map (λr=>r.map (·.2))=vw (es.map (·.2)):=by
 unfold k4 vw;have aF:((es.filter λe=>decide<|e.2=0).map λe=>((e.1,0):Lm aO×Ĵ)).map (·.2)=((es.map (·.2)).filter λm=>decide<|m=0).map λ_=>0:=by
  induction es with
  |nil=>rfl
  |cons e es ar=>
   rw[h2,fx,h2];split
   .rw[fx,fx,ar];rfl
   .exact ar
 simp only[fx,A3,Pu,aF]
theorem PI(es:hq):∀r∈k4 es,∀e∈r,∃x∈es,e.1=x.1:=by
 have bF:∀w,∀e∈j4 w es,∃x∈es,e.1=x.1:=by
  intro w e a6;obtain⟨x,ay,a6⟩:=jF.mp a6;refine⟨x,ay,?_⟩;split at a6
  .rw[(F6.mp a6).2]
  .rw[cV.mp a6]
 intro r bm e a6;unfold k4 at bm;simp only[eJ,y0,or_false]at bm;rcases bm with rfl|rfl|rfl|rfl
 .obtain⟨x,ay,rfl⟩:=dn.mp a6;clear a6;exact⟨x,(gz.mp ay).1,rfl⟩
 .exact bF _ e a6
 .exact bF _ e a6
 .exact bF _ e a6
def GO (aw:Lm ĵ) (w:Lm Ĵ):Ģ:=decide (w.length<=8)&&(w.all λx=>decide<|x<=1)&&(List.range 12).all λi=>if i<b' aw then(if i<w.length then !decide (w[i]?=some 1)||decide (aw[i]?=some 1)else decide (aw[i]?=some 1))else !decide (w[i]?=some 1)&&(!decide (i<w.length)||decide (b' aw<aw.length))
theorem PL:(hf.all λaw=>(vw aw).all<|GO aw)=true:=by decide+kernel
def gn:Ĵ->hw->cS
 |_,[]=>[]
 |i,e::r=>(dq (i:Ĵ),e.1,e.2)::gn (i+1) r
theorem BB:∀i<20,∀j<20,dq (i:Ĵ)=dq (j:Ĵ)->i=j:=by decide+kernel
theorem FO(r:hw):∀i:Ĵ,(gn i r).length=r.length:=by
 induction r with
 |nil=>exact λ_=>rfl
 |cons e r ar=>exact λi=>bX Nat.succ<|ar<|i+1
theorem Ä(e:Lm aO×Ĵ)(r:hw):∀i:Ĵ,gn i (r++[e])=gn i r++[(dq ((i+r.length:Ĵ):ĵ),e.1,e.2)]:=by
 induction r with
 |nil=>exact λ_=>rfl
 |cons a r ar=>exact λi=>(bX (List.cons _)<|ar<|i+1).trans (by rw[mE,v9];rfl)
theorem Jq{i n:Ĵ}(h:i+(n+1)<=20):i<20/\i+1+n<=20:=⟨gI (IT<|oG _) h,aJ (fU<|v9 _ _) h⟩
theorem JH(r:hw):∀i j:Ĵ,i+r.length<=20->i<=j->j<20->d' (dq (j:Ĵ)) (gn i r)=(r[j-i]?).map λe=>(dq (j:Ĵ),e.1,e.2):=by
 induction r with
 |nil=>exact λ_ _ _ _ _=>rfl
 |cons e r ar=>
  intro i j h k9 b8;have h:=Jq h;show(if dq (i:Ĵ)=dq (j:Ĵ)then some (dq (i:Ĵ),e.1,e.2)else d' (dq (j:Ĵ)) (gn (i+1) r))=_;by_cases c:i=j
  .rw[c,bl rfl,ut];rfl
  .have cU:=MC k9 c;rw[bt λq=>c<|BB i h.1 j b8 q,ar (i+1) j h.2 cU b8,(Nat.sub_add_cancel (Ly cU):j-(i+1)+1=j-i).symm,Gv];rfl
theorem xD(r:hw):∀(i:Ĵ) (x:bv),x∈(gn i r).map (·.1)->∃j:Ĵ,i<=j/\j<i+r.length/\x=dq (j:Ĵ):=by
 induction r with
 |nil=>exact λ_ _ h=>nomatch h
 |cons e r ar=>
  intro i x h;cases h with
  |head=>exact⟨i,dy _,IT<|oG _,rfl⟩
  |tail _ h=>obtain⟨j,G,E,aB⟩:=ar (i+1) x h;exact⟨j,li G,Nat.lt_of_lt_of_eq E<|v9 _ _,aB⟩
theorem TS(r:hw):∀i:Ĵ,i+r.length<=20->((gn i r).map (·.1)).Nodup:=by
 induction r with
 |nil=>exact λ_ _=>.nil
 |cons e r ar=>intro i h;have h:=Jq h;refine hT.mpr ⟨λq=>?_,ar (i+1) h.2⟩;obtain⟨j,G,E,aB⟩:=xD r (i+1) _ q;exact absurd (BB i h.1 j (gI E h.2) aB)<|gG G
theorem Oy(r:hw):∀i:Ĵ,∀e∈gn i r,∃x∈r,e.2=x:=by
 induction r with
 |nil=>exact λ_ _ h=>nomatch h
 |cons a r ar=>
  intro i e h;cases h with
  |head=>exact⟨a,.head _,rfl⟩
  |tail _ h=>obtain⟨x,G,E⟩:=ar (i+1) e h;exact⟨x,.tail _ G,E⟩
theorem î(z:cS)(e:bv×Lm aO×Ĵ):dC (z++[e])=dC z++[(.str e.1,.tup [.lst<|e.2.1.map aO.aW,au e.2.2])]:=by unfold dC;rw[c4];rfl
theorem PO(z:cS):sE (dC z):=λp ae=>by obtain⟨m,_,rfl⟩:=dn.mp ae;clear ae;rfl
theorem y9{z:cS}{e:bv×Lm aO×Ĵ}(h:e.1∉z.map (·.1)):hh (.str e.1) (.tup [.lst<|e.2.1.map aO.aW,au e.2.2]) (dC z)=some (dC<|z++[e]):=by rw[î];refine xv rfl (PO z) λq=>?_;unfold dC at q;rw[f8]at q;obtain⟨a,ak,e6⟩:=dn.mp q;clear q;have:a.1=e.1:=B.str.inj e6;exact h<|this▸fy (f:=λx:bv×Lm aO×Ĵ=>x.1) ak
def W_ (r:hw) (z:cS) (x:cr):aK:=[.val<|.lst<|hZ r,.od<|dC z,x]
theorem R_{r:hw}(ah:r.length<=10)(q:Q (.a9<|dC<|gn 0 r) s):bd (n+1) 90 [.lst<|hZ r] s Q:=by
 have Jr:(hZ r).length=r.length:=bR ..;k_go;lk;rw[Jr];refine⟨rfl,iq<|fK ‹_›,(by rw[sb,qr];exact aJ ah<|aH rfl),?_⟩;refine cE.o_ (len:=r.length) (kg _) (λi K=>∀x,K (W_ r (gn 0<|r.take i) x) s) (λi aA K ab x=>?_) (λx=>?_) λK ab=>ab _
 .have a6:r[i]?=some r[i]:=fl aA;have QC:ho s (.lst<|hZ r) (au i)=some (.tup [.lst<|r[i].1.map aO.aW,au r[i].2]):=by show(jM (i:ĵ) (hZ r).length).bind (λj=>(hZ r)[j]?)=_;rw[Jr,p3 aA];show(r.map _)[i]?=_;rw[gS,a6];rfl
  have l7:i<20:=gI aA<|aJ ah<|aH rfl;have wM:pg .str s [au i]=some (.str<|dq i):=by show(if small (i:ĵ)then i7 (dq i).length (B.str<|dq i)else none)=_;rw[iq<|aJ (kq l7)<|aH rfl];exact bl<|aJ (y3 i<|gI l7<|aH rfl)<|aH rfl
  have My:(r.take i).length=i:=ux<|kq aA;have pC:gn 0 (r.take<|i+1)=gn 0 (r.take i)++[(dq (i:Ĵ),r[i].1,r[i].2)]:=by rw[y',a6];show gn 0 (r.take i++[r[i]])=_;rw[Ä,My,iG]
  have tM:dq (i:Ĵ)∉(gn 0<|r.take i).map (·.1):=λq=>by obtain⟨j,G,E,aB⟩:=xD _ _ _ q;rw[My,iG]at E;exact absurd (BB i l7 j (qL E l7) aB)<|x_ E
  lk;refine ax.of QC<|ax.of wM ⟨pJ _ _,ax.of (y9 (e:=(dq (i:Ĵ),r[i].1,r[i].2)) tM) ⟨?_,?_⟩⟩
  .rw[<-pC];show(List.map _ _).length<=_;rw[bR,FO,ux aA];exact aJ (aJ aA ah)<|aH rfl
  .lk;rw[<-pC];exact ab _
 .rw[sG<|dy _];exact q
theorem HO{w:Ĵ}{es:hq}(bF:w<=2):(j4 w es).length<=2*es.length:=sz _ 2 λx _=>by
 by_cases h:x.2=2
 .rw[bl h,uH];exact bF
 .rw[bt h];exact aH rfl
def xn (es:hq):hw:=(es.filter λe=>decide<|e.2=0).map λe=>(e.1,0)
theorem Ve{es:hq}{e:Lm aO×ĵ}:hZ (xn<|es++[e])=hZ (xn es)++(if e.2=0 then [.tup [.lst<|e.1.map aO.aW,.int 0]]else []):=by
 unfold xn hZ;rw[l',c4,c4];by_cases h:e.2=0
 .rw[bl h,h2,bl<|dQ h];rfl
 .rw[bt h,h2,bt<|by rw[eC h];exact eM];rfl
theorem Rs{w:Ĵ}{es:hq}{e:Lm aO×ĵ}:hZ (j4 w<|es++[e])=hZ (j4 w es)++hZ (if e.2=2 then List.replicate w (e.1,0)else [(e.1,if e.2=1/\w=0 then 1 else 0)]):=by unfold j4 hZ;rw[sH,c4,s']
def AK (es:hq) (mU:Lm hw) (h' d3 eT c1 dg cW:cr):aK:=[.val<|.lst<|qp es,.ol<|mU.map λr=>.lst<|hZ r,h',d3,eT,c1,dg,cW]
theorem Yw{es:hq}(ah:es.length<=5)(q:Q (.lst<|(k4 es).map λr=>.lst<|hZ r) s):bd (n+1) 89 [.lst<|qp es] s Q:=by
 k_go;refine di.comp rfl<|fj.mp (all:=es) (f:=λe=>.tup [.lst<|e.1.map aO.aW,.int e.2]) rfl (λdone K=>K (hZ<|xn done) s) (λdone e a' ag K ab=>?_) ?_ λK ab=>ab
 .rw[Ve]at ab;refine eN.mk<|bh.ef (λh=>?_) λh=>?_
  .rw[bl h]at ab;exact ab
  .rw[bt h]at ab;exact ab
 .refine⟨rfl,rfl,by decide,cE.o_ (len:=3) (kg 3) (λi K=>∀h' d3 eT c1 dg cW,K (AK es ((k4 es).take<|i+1) h' d3 eT c1 dg cW) s) (λw bF K ab h' d3 eT c1 dg cW=>?_) (λh' d3 eT c1 dg cW=>q) λK ab=>ab _ _ _ _ _ _⟩;have sS:=ze bF;have pC:(k4 es).take (w+1+1)=(k4 es).take (w+1)++[j4 w es]:=by
   induction w using Nat.casesOn with
   |zero=>rfl
   |succ w=>induction w using Nat.casesOn with
    |zero=>rfl
    |succ w=>rw[Nat.le_zero.mp<|v5<|v5 sS];rfl
  refine cE.mp (all:=es) rfl (λdone K=>∀eT c1,K (AK es ((k4 es).take<|w+1) (.val<|au w) (.ol<|hZ<|j4 w done) eT c1 dg cW) s) (λdone e a' ag K ab eT c1=>?_) (λeT c1=>?_) λK ab=>ab _ _
  .have dP:(hZ<|j4 w done).length<=10:=by show(List.map _ _).length<=_;rw[bR];exact aJ (HO sS)<|hc 2<|li<|oA ag ah
   have D2:(hZ<|j4 w done).length+1<=a3:=aJ (da dP)<|aH rfl;rw[Rs]at ab;refine bh.ef (λE=>?_) λE=>?_
   .rw[bl E]at ab;refine ax.of (Ev (o:=w) (aJ sS<|aH rfl) _) ⟨by rw[uH];exact aJ (gJ dP sS)<|aH rfl,?_⟩;lk;unfold hZ at ab⊢;rw[zB]at ab;exact ab _ _
   .rw[bt E]at ab;refine bh.ef (λG=>?_) λG=>?_
    .refine bh.ef (λaF=>?_) λaF=>?_
     .rw[bl ⟨G,o'.mp aF⟩]at ab;refine⟨D2,?_⟩;lk;exact ab _ _
     .rw[bt λx=>aF<|o'.mpr x.2]at ab;refine⟨D2,?_⟩;lk;exact ab _ _
    .rw[bt λx=>G x.1]at ab;refine bh.ft G ⟨D2,?_⟩;lk;exact ab _ _
  .refine⟨by rw[bR];exact aJ (da (Me ..))<|aH rfl,?_⟩;lk;rw[pC]at ab;unfold AK at ab;rw[c4]at ab;exact ab _ _ _ _ _ _
abbrev kp:=cS×bv
def oW (c:kp):B:=.tup [.a9<|dC c.1,.str c.2]
theorem Ð{es:hq}(ah:es.length<=5):∀r∈k4 es,r.length<=10:=by
 have bF:∀w≤2,(j4 w es).length<=10:=λw bF=>aJ (HO bF)<|hc 2 ah;intro r bm;cases bm with
 |head=>rw[bR];exact aJ (l1 _ _)<|aJ ah<|aH rfl
 |tail _ bm=>cases bm with
  |head=>exact bF 0<|aH rfl
  |tail _ bm=>cases bm with
   |head=>exact bF 1<|aH rfl
   |tail _ bm=>cases bm with
    |head=>exact bF 2<|aH rfl
    |tail _ bm=>exact nomatch bm
theorem OG{t aV:Ĵ}{es:hq}(ah:es.length<=5)(q:Q (.lst<|((k4 es).map λr=>((gn 0 r,[91]):kp)).map oW) s):bd (n+2) 88 [.a9<|ko t es aV] s Q:=by k_go;refine di.m8 rfl<|Yw ah<|fj.mp (all:=k4 es) (f:=λr=>.lst<|hZ r) rfl (λdone K=>K ((done.map λr=>((gn 0 r,[91]):kp)).map oW) s) (λdone r a' ag K ab=>?_) q λK ab=>ab;rw[c4,c4]at ab;exact eN.mk<|R_ (Ð ah r<|by rw[ag];exact iA _<|.head _) ab
def g0 (P:bO->Ģ) (f:bO->Ĵ) (M:Lm bO):cS:=(M.filter P).map λm=>(m.nm,m.K,f m)
def yR (m:bO):Ģ:=decide<|m.h=0
def nS (m:bO):Ģ:=decide (m.h=0)&&decide (m.o=0)
noncomputable abbrev tk:=g0 yR bO.o
noncomputable abbrev rH:=g0 yR λ_=>0
noncomputable abbrev pA:=g0 nS λ_=>0
def lR (M:Lm bO):Lm bv:=(M.filter nS).map bO.nm
theorem Ym{P:bO->Ģ}{f:bO->Ĵ}{M:Lm bO}{m:bO}(h:P m=true):g0 P f (M++[m])=g0 P f M++[(m.nm,m.K,f m)]:=by unfold g0;rw[l',c4,h2,bl h];rfl
theorem zL{P:bO->Ģ}{f:bO->Ĵ}{M:Lm bO}{m:bO}(h:P m=false):g0 P f (M++[m])=g0 P f M:=by unfold g0;rw[l',h2,bt (by rw[h];exact eM),List.filter_nil,gT]
theorem QA{M:Lm bO}{m:bO}(h:nS m=true):(lR<|M++[m]).map ek=(lR M).map ek++[ek m.nm]:=by unfold lR;rw[l',c4,h2,bl h,c4];rfl
theorem IF{M:Lm bO}{m:bO}(h:nS m=false):lR (M++[m])=lR M:=by unfold lR;rw[l',h2,bt (by rw[h];exact eM),List.filter_nil,gT]
theorem xx{P:bO->Ģ}{f:bO->Ĵ}{M:Lm bO}:(g0 P f M).length<=M.length:=by unfold g0;rw[bR];exact l1 _ _
structure rh(M:List bO)(c:kp):Prop where
 ok:i_ c.1
 told:∀m∈M,ma m=true->(∃e,d' m.nm c.1=some e/\(e.2.2=1->m.o=1))\/(d' m.nm c.1=none/\m.o=1)
 len:c.2=[123]\/∀e∈c.1,e.1≠[108,101,110,103,116,104]
theorem SE{x:bv}{l:cS}:x∉l.map (·.1)->d' x l=none:=by
 induction l with
 |nil=>exact λ_=>rfl
 |cons e l ar=>exact λh=>(bt λq=>h<|by rw[<-q];exact .head _).trans<|ar λq=>h<|.tail _ q
theorem D8{P:bO->Ģ}{f:bO->Ĵ}{M:Lm bO}{x:bv}{m:bO}(ay:m.nm=x):(M.map (·.nm)).Nodup->m∈M->d' x (g0 P f M)=if P m=true then some (m.nm,m.K,f m)else none:=by
 induction M with
 |nil=>exact λ_ h=>nomatch h
 |cons a M ar=>
  intro b6 aN;have b6:=hT.mp b6;have KI:P a=false->g0 P f (a::M)=g0 P f M:=λh=>bX (List.map _) (List.filter_cons_of_neg<|by rw[h];exact eM);have FR:P a=true->g0 P f (a::M)=(a.nm,a.K,f a)::g0 P f M:=λh=>bX (List.map _)<|List.filter_cons_of_pos h;cases aN with
  |head=>
   induction ae:P m using Bool.casesOn with
   |true=>rw[FR ae,bl rfl];exact bl ay
   |false=>rw[KI ae,bt eM];refine SE λq=>b6.1 ?_;obtain⟨e,a6,G⟩:=dn.mp q;obtain⟨y,a2,E⟩:=dn.mp a6;show m.nm∈_;rw[ay,<-G,<-E];exact fy (f:=λm:bO=>m.nm) (gz.mp a2).1
  |tail _ aN=>
   rw[<-ar b6.2 aN];induction ae:P a using Bool.casesOn with
   |true=>rw[FR ae];exact bt (λe=>b6.1 (by show a.nm∈_;rw[e,<-ay];exact fy (f:=λm:bO=>m.nm) aN):¬a.nm=x)
   |false=>rw[KI ae]
theorem I2{x:bv}{e:bv×Lm aO×Ĵ}(h:x≠e.1){z:cS}:d' x (z++[e])=d' x z:=by
 induction z with
 |nil=>exact bt λq=>h q.symm
 |cons a z ar=>exact bX (λy=>if a.1=x then some a else y) ar
theorem wX{P:bO->Ģ}{f:bO->Ĵ}{M:Lm bO}{x:bv}(h:x∈(g0 P f M).map (·.1)):∃m∈M,m.nm=x:=by obtain⟨e,a6,G⟩:=dn.mp h;obtain⟨y,a2,E⟩:=dn.mp a6;exact⟨y,(gz.mp a2).1,by rw[<-G,<-E]⟩
theorem G0{P:bO->Ģ}{f:bO->Ĵ}{M:Lm bO}(b6:(M.map (·.nm)).Nodup)(ah:M.length<=4)(eK:∀m∈M,m.ok)(a7:∀m∈M,f m<=1):i_ (g0 P f M):=by
 refine⟨?_,aJ xx<|aJ ah<|aH rfl,λx ay=>?_⟩
 .unfold g0;rw[f8];exact(Dt.map _).nodup b6
 .obtain⟨m,aN,rfl⟩:=dn.mp ay;have kA:=(gz.mp aN).1;exact⟨(eK m kA).K.len,a7 m kA⟩
theorem HH{P:bO->Ģ}{f:bO->Ĵ}{M:Lm bO}(b6:(M.map (·.nm)).Nodup)(ah:M.length<=4)(eK:∀m∈M,m.ok)(a7:∀m∈M,f m<=1){e:bv×Lm aO×Ĵ}(a6:e.1∉iC)(aE:e.2.1.length<=3/\e.2.2<=1):i_ (g0 P f M++[e]):=by
 have h:=G0 (P:=P) b6 ah eK a7;refine⟨?_,?_,λx ay=>?_⟩
 .rw[c4,nd];refine⟨h.b6,hT.mpr ⟨λq=>(nomatch q),.nil⟩,λa ak c ap q=>?_⟩;obtain⟨m,aN,ag⟩:=wX ak;refine a6 ?_;rw[<-show c=e.1 from cV.mp ap,<-q,<-ag];exact(eK m aN).nm
 .rw[c_];exact da<|aJ xx<|aJ ah<|aH rfl
 .rcases gm.mp ay with ay|ay
  .exact h.k x ay
  .rw[cV.mp ay];exact aE
theorem sm{m:bO}(h:ma m=true):m.h=0/\iv m.nm=false:=by unfold ma at h;simpa using h
theorem Ab(z:cS):(dC z).length=z.length:=bR ..
theorem bw.Fg{i:Ĵ}{e:a1}{l:Lm dS}{r:aK}{s:St}{Q:ck->aK->St->Prop}(G:∀K:B->St->Prop,(∀b,K (.bool b) s)->di n e r s K)(E:∀b,bw n l (r.set i<|.val<|.bool b) s Q):bw n (.set i e::l) r s Q:=G _ E
theorem JW{p:bv->Ģ}{N:Lm bv}(h:((((N.filter λx=> !p x).map ek).length:Ĵ):ĵ)=0):∀x∈N,p x=true:=λx ay=>by
 have h:=o'.mp h;rw[bR,zA]at h;induction ae:p x using Bool.casesOn with
 |true=>rfl
 |false=>exact nomatch (h▸gz.mpr ⟨ay,by rw[ae];rfl⟩:x∈([]:Lm bv))
theorem GG{p:bv->Ģ}{N:Lm bv}{t:B->St->(Lm B->St->Prop)->Prop}(h:∀x (K:Lm B->St->Prop),K (if p x=true then []else [ek x]) s->t (ek x) s K)(q:Q (.lst<|(N.filter λx=> !p x).map ek) s):kj t Q (.lst<|N.map ek) s:=by
 refine fj.mp (all:=N) (f:=ek) rfl (λdone K=>K ((done.filter λx=> !p x).map ek) s) (λdone x a' ag K ab=>h x _ ?_) q λK ab=>ab;rw[l',c4,h2]at ab;induction ae:p x using Bool.casesOn with
 |true=>rw[ae]at ab;exact ab
 |false=>rw[ae]at ab;exact ab
noncomputable abbrev wq (M:Lm bO):Lm kp:=[(tk M,[123]),(rH M++[([122],[.txt [97]],0)],[123]),(pA M++[([55],[.num 1],0)],[123])]
def EB (x:bv):Ģ:=decide<|x=[108,101,110,103,116,104]
def xA (x:bv):Ģ:=decide (([108,101,110,103,116,104]:bv)=x)||(decide (([48]:bv)=x)||false)
section
variable{M:Lm bO}(eK:∀m∈M,m.ok)
include eK
theorem B5:∀m∈M,m.o<=1:=λm aN=>by have:=(eK m aN).o;exact pq ‹_›
theorem Mq{p:bv->Ģ}(ae:∀x,iv x=false->p x=false)(gf:∀x∈lR M,p x=true):∀m∈M,ma m=true->m.o=1:=by
 intro m aN dU;obtain⟨aF,tC⟩:=sm dU;by_cases az:m.o=0
 .have:=gf _<|fy (f:=bO.nm)<|gz.mpr ⟨aN,lP (dQ aF)<|dQ az⟩;rw[ae _ tC]at this;exact cq this
 .exact vA (B5 eK m aN)<|Fw az
theorem Q3(gf:∀x∈lR M,EB x=true):rh M ([],[116,101,120,116]):=⟨⟨.nil,f7 _,λ_ h=>nomatch h⟩,λm aN dU=>.inr ⟨rfl,Mq eK (λx ay=>(pR.mp ay).1) gf m aN dU⟩,.inr λe a6=>nomatch a6⟩
theorem S'{jP:Lm aO}(v8:jP.length<=3)(gf:∀x∈lR M,xA x=true):rh M ([([48],jP,0)],[91]):=by
 refine⟨⟨hT.mpr ⟨λq=>(nomatch q),.nil⟩,aH rfl,λe a6=>by rw[cV.mp a6];exact⟨v8,f7 _⟩⟩,λm aN dU=>.inr ⟨?_,Mq eK (λx ay=>?_) gf m aN dU⟩,.inr λe a6 q=>?_⟩
 .refine bt λe=>?_;have:=(sm dU).2;rw[<-e]at this;exact hK this
 .have:=EP x;rw[ay]at this;simp only[Bool.not_false,j2,pR]at this;unfold xA;rw[this.1,this.2.1];rfl
 .rw[cV.mp a6]at q;cases q
variable(b6:(M.map (·.nm)).Nodup)(ah:M.length<=4)
include b6 ah
theorem Ú:∀c∈wq M,rh M c:=by
 have hz:([122]:bv)∉iC:=by decide
 have fp:([55]:bv)∉iC:=by decide
 intro c ap;cases ap with
 |head=>exact⟨G0 b6 ah eK<|B5 eK,λm aN dU=>.inl ⟨_,(D8 rfl b6 aN).trans<|bl<|dQ (sm dU).1,id⟩,.inl rfl⟩
 |tail _ ap=>cases ap with
  |head=>exact⟨HH b6 ah eK (λ_ _=>f7 _) hz ⟨aH rfl,f7 _⟩,λm aN dU=>.inl ⟨(m.nm,m.K,0),(I2 (e:=([122],[.txt [97]],0)) λe=>hz<|by rw[<-show m.nm=[122]from e];exact(eK m aN).nm).trans<|(D8 rfl b6 aN).trans<|bl<|dQ (sm dU).1,λe=>nomatch e⟩,.inl rfl⟩
  |tail _ ap=>
   rw[cV.mp ap];refine⟨HH b6 ah eK (λ_ _=>f7 _) fp ⟨aH rfl,f7 _⟩,λm aN dU=>?_,.inl rfl⟩;have x':=(I2 (z:=pA M) (e:=([55],[.num 1],0)) λe=>fp<|by rw[<-show m.nm=[55]from e];exact(eK m aN).nm).trans<|D8 rfl b6 aN;by_cases aF:m.o=0
   .exact .inl ⟨(m.nm,m.K,0),x'.trans<|bl<|lP (dQ (sm dU).1)<|dQ aF,λe=>nomatch e⟩
   .exact .inr ⟨x'.trans (bt<|by unfold nS;rw[eC aF,s0];exact eM),vA (B5 eK m aN)<|Fw aF⟩
end
def JS (o:Lm (B×B)) (W F H:cS) (N:Lm B) (b:Ģ) (jP:Lm aO) (cW cv dF dE dR du:cr) (bZ:Lm B):aK:=[.val<|.a9 o,.val<|.a9<|dC W,.val<|.a9<|dC F,.val<|.a9<|dC H,.val<|.bool b,.val<|.lst<|jP.map aO.aW,.ol N,cW,cv,dF,dE,dR,du,.ol bZ,.un,.un,.un]
theorem bw.H9{I6:Type}{c:dS}{l:Lm dS}{r:aK}{s:St}{Q:ck->aK->St->Prop}(p:I6->Prop)(f:I6->aK)(G:∀K:ck->aK->St->Prop,(∀i,p i->K .go (f i) s)->nq n c r s K)(E:∀i,p i->bw n l (f i) s Q):bw n (c::l) r s Q:=G _ E
def JB (o:Lm (B×B)) (W F H:cS) (N:Lm B) (b:Ģ) (jP:Lm aO) (cW cv dF dE dR du:cr):aK:=[.val<|.a9 o,.od<|dC W,.od<|dC F,.od<|dC H,.val<|.bool b,.val<|.lst<|jP.map aO.aW,.ol N,cW,cv,dF,dE,dR,du,.un,.un,.un,.un]
theorem MZ{t fo dG:Ĵ}{M:Lm bO}{aj:Lm c2}{cy cT:ht}(eK:∀m∈M,m.ok)(b6:(M.map (·.nm)).Nodup)(ah:M.length<=4)(q:∀bZ:Lm kp,(∀c∈bZ,rh M c)->Q (.lst<|bZ.map oW) s):bd (n+1) 88 [.a9<|m_ t fo M aj cy cT dG] s Q:=by
 k_go;refine bw.SG (by exact⟨rfl,rfl⟩)<|bw.DL<|bw.DL<|bw.DL<|bw.Fg (λK ab=>?_) λS1=>?_
 .rcases cy with _|⟨ep,Ī⟩<;>rcases cT with _|⟨Mc,hv⟩<;>(repeat'(refine bh.both ?_ ?_));all_goals exact ab _
 refine cE.mp (all:=M) (f:=bO.aW) rfl (λdone K=>∀b (jP:Lm aO) cW cv dF dE dR du,jP.length<=3->K (JB (m_ t fo M aj cy cT dG) (tk done) (rH done) (pA done) ((lR done).map ek) b jP cW cv dF dE dR du) s) (λdone m a' ag K ab b jP cW cv dF dE dR du v8=>?_) (λb jP cW cv dF dE dR du v8=>?_) λK ab=>ab S1 [.txt [97]] _ _ _ _ _ _<|aH rfl
 .have aN:m.ok:=eK m (by rw[ag];exact iA _<|.head _);have LO:=oA ag ah;have new:∀{P f},m.nm∉(g0 P f done).map (·.1):=λh=>by obtain⟨y,a2,e⟩:=wX h;rw[ag,c4,nd]at b6;exact b6.2.2 _ (fy (f:=λm:bO=>m.nm) a2) m.nm (.head _) e
  have cD:∀{P:bO->Ģ} {f:bO->Ĵ},P m=true->hh (.str m.nm) (.tup [.lst<|m.K.map aO.aW,au<|f m]) (dC<|g0 P f done)=some (dC<|g0 P f<|done++[m]):=λh=>by rw[Ym h];exact y9 (e:=(m.nm,m.K,_)) new
  have m3:∀{P:bO->Ģ} {f:bO->Ĵ},(dC<|g0 P f<|done++[m]).length<=a3:=λ{P f}=>(λh=>aJ (fU<|Ab _)<|aJ h<|aH rfl) (aJ xx<|by rw[c_];exact LO);refine bw.to (JB (m_ t fo M aj cy cT dG) (tk<|done++[m]) (rH<|done++[m]) (pA<|done++[m]) ((lR<|done++[m]).map ek) b jP (.val<|.str m.nm) (.val<|.lst<|m.K.map aO.aW) (.val<|au m.o) (.val<|au m.aV) (.val<|au m.w)<|.val<|au m.h) s (λK ab=>?_)<|bw.Fg (λK ab=>?_) λev=>?_
  .refine bh.ef (λcc=>?_) λcc=>?_
   .have aF:yR m=true:=dQ<|o'.mp cc;refine⟨pJ _ _,ax.of (cD (f:=bO.o) aF) ⟨m3,⟨pJ _ _,ax.of (cD (f:=λ_=>0) aF) ⟨m3,bh.ef (λaz=>?_) λaz=>?_⟩⟩⟩⟩
    .have G:nS m=true:=lP aF<|dQ<|o'.mp az;rw[QA G]at ab;exact⟨pJ _ _,ax.of (cD (f:=λ_=>0) G) ⟨m3,⟨aJ (da<|aJ (fU (bR ..))<|aJ (fU (bR ..))<|l1 _ _)<|aJ LO<|aH rfl,ab⟩⟩⟩
    .have G:nS m=false:=by unfold nS;rw[eC λx=>az<|o'.mpr x,s0]
     rw[pA,zL G,IF G]at ab;exact ab
   .have aF:yR m=false:=eC λx=>cc<|o'.mpr x;have G:nS m=false:=by unfold nS;rw[show decide (m.h=0)=false from aF,Bool.false_and]
    rw[tk,rH,pA,zL aF,zL aF,zL G,IF G]at ab;exact ab
  .have iP:hu .isin s (.tup [.str [119],.str [78]]) (.lst<|m.K.map aO.aW)=some (decide<|aG.b .N∈m.K.map aG.b):=by have:=Cg (.b .N)<|m.K.map aG.b;rw[Cj]at this;exact this
   induction b with
   |false=>exact ab _
   |true=>exact bh.both (bh.both (ab _)<|ax.of iP<|ab _)<|ab _
  .refine bh.both ?_ ?_
   .exact ab ev m.K _ _ _ _ _ _ aN.K.len
   .exact ab ev jP _ _ _ _ _ _ v8
 .have gC:([122]:bv)∉(rH M).map (·.1):=λh=>by obtain⟨m,aN,e⟩:=wX h;exact absurd (eK m aN).nm (by rw[e];decide)
  have lT:([55]:bv)∉(pA M).map (·.1):=λh=>by obtain⟨m,aN,e⟩:=wX h;exact absurd (eK m aN).nm (by rw[e];decide)
  have m3:∀{P:bO->Ģ} {f:bO->Ĵ} {e},(dC<|g0 P f M++[e]).length<=a3:=λ{P f e}=>by rw[Ab,c_];exact aJ (da<|aJ xx ah)<|aH rfl
  refine⟨pJ _ _,ax.of (y9 (e:=([122],[.txt [97]],0)) gC) ⟨m3,⟨pJ _ _,ax.of (y9 (e:=([55],[.num 1],0)) lT) ⟨m3,kP.go<|bw.z_ rfl<|bw.z_ rfl<|bw.z_ rfl<|bw.Rt (by exact⟨rfl,rfl⟩)<|bw.H9 (λbZ:Lm kp=>bZ.length<=4/\∀c∈bZ,rh M c) (λbZ=>JS (m_ t fo M aj cy cT dG) (tk M) (rH M++[([122],[.txt [97]],0)]) (pA M++[([55],[.num 1],0)]) ((lR M).map ek) b jP cW cv dF dE dR du<|bZ.map oW) (λK ab=>?_) λbZ jg=>bw.H9 (λbZ:Lm kp=>∀c∈bZ,rh M c) (λbZ=>JS (m_ t fo M aj cy cT dG) (tk M) (rH M++[([122],[.txt [97]],0)]) (pA M++[([55],[.num 1],0)]) ((lR M).map ek) b jP cW cv dF dE dR du<|bZ.map oW) (λK ab=>?_) q⟩⟩⟩⟩
  .have L_:=Ú eK b6 ah;have H0:=ab (wq M) ⟨aH rfl,L_⟩;induction b with
   |false=>exact H0
   |true=>
    refine di.comp rfl<|GG (p:=EB) (λx K ab=>eN.mk ?_) ?_
    .induction ay:EB x with
     |true=>rw[ay]at ab;exact bh.ik (bX not ay) ab
     |false=>rw[ay]at ab;exact bh.mz (bX not ay) ab
    .refine bh.ef (λhz=>?_) λhz=>H0;exact⟨aH rfl,ab (wq M++[([],[116,101,120,116])]) ⟨aH rfl,λc ap=>(gm.mp ap).elim (L_ c) λh=>by rw[cV.mp h];exact Q3 eK<|JW hz⟩⟩
  .have pD:=ab bZ jg.2;induction b with
   |false=>exact pD
   |true=>
    refine di.comp rfl<|GG (p:=xA) (λx K ab=>eN.mk ?_) ?_
    .induction ay:xA x with
     |true=>rw[ay]at ab;exact bh.ik (bX not ay) ab
     |false=>rw[ay]at ab;exact bh.mz (bX not ay) ab
    .refine bh.ef (λhz=>?_) λhz=>pD;refine⟨by rw[bR];exact aJ (da jg.1)<|aH rfl,?_⟩;have ab:=ab (bZ++[([([48],jP,0)],[91])]) λc ap=>(gm.mp ap).elim (jg.2 c) λh=>by rw[cV.mp h];exact S' eK v8<|JW hz
     rw[c4]at ab;exact ab
def o4 (Y:ĵ):Lm aG:=if Y=2 then [.b .bA]else []
def pK(S:dz)(n:Ĵ)(row:B)(p:cG)(Y:ĵ)(z:cS)(fB x:bv):Prop:=(x=[108,101,110,103,116,104]->fB=[123])/\∀bT:B->St->Prop,(∀gg:Lm (Lm aG),(∀ai∈gg,ja ai/\kb (jn z p Y x) (iZ z ai++o4 Y)=true)->bT (.lst<|gg.map nU) S.st)->bd n 97 [.ref 1,row,.str x] S.st bT
def yt (ca:Lm c2) (z:cS):Lm bv:=z.map (·.1)++(ca.map (·.1)).filter λx=> !(d' x z).isSome
def su (eu:Ĵ) (z:cS):Lm bv:=z.map (·.1)++(List.range<|eu-z.length).map λi=>dq ((z.length+i:Ĵ):ĵ)
def Bi (row:B) (p:cG) (Y:ĵ) (bZ:Lm kp) (c1 dg cW cv dF dE dR du dO dT dc gw e8:cr):aK:=[.val<|.ref 1,.val row,.val p.aW,.val<|.int Y,.val<|.lst<|bZ.map oW,c1,dg,cW,cv,dF,dE,dR,du,dO,dT,dc,gw,e8]
def xL (row:B) (p:cG) (Y:ĵ) (bZ:Lm kp) (z:cS) (fB:bv) (aQ:Lm bv) (cv dF dE dR du dO dT dc gw e8:cr):aK:=Bi row p Y bZ (.val<|.a9<|dC z) (.val<|.str fB) (.val<|.lst<|aQ.map ek) cv dF dE dR du dO dT dc gw e8
theorem P8{Y:ĵ}:(o4 Y).length<=1:=by unfold o4;split<;>decide
theorem Tq{row:B}{p:cG}{Y:ĵ}{bZ:Lm kp}{z:cS}{fB:bv}{aQ:Lm bv}{K:aK->St->Prop}{Z:ck->aK->St->Prop}(ae:p.ok)(az:Y=0\/Y=1\/Y=2)(hz:i_ z)(ct:∀x∈aQ,pK S (n+7) row p Y z fB x)(ab:∀cv dF dE dR du dO dT dc gw e8,K (xL row p Y bZ z fB aQ cv dF dE dR du dO dT dc gw e8) S.st)(cv dF dE dR du dO dT dc gw e8:cr):bw (n+7) [.for false [10] (.v 7) [.set 11<|.call 93 [.v 2,.v 3,.v 5,.v 6,.v 10],.for false [12] (.call 97 [.v 0,.v 1,.v 10]) [.iff (.not (.call 96 [.v 11,.bin .add (.call 92 [.v 12,.v 5])<|.bin .mul (.lst [.k<|.tup [.str [119],.str [117]]])<|.bin .fdiv (.v 3)<|.k<|.int 2])) [.ret<|.k<|.bool false] []]]] (xL row p Y bZ z fB aQ cv dF dE dR du dO dT dc gw e8) S.st (mZ K Z):=by refine cE.mp rfl (λ_ K=>∀cv dF dE dR du dO dT dc gw e8,K (xL row p Y bZ z fB aQ cv dF dE dR du dO dT dc gw e8) S.st) (λdone x a' ag K ab cv dF dE dR du dO dT dc gw e8=>?_) ab λK h=>h _ _ _ _ _ _ _ _ _ _;obtain⟨UR,Sj⟩:=ct x (by rw[ag];simp);refine Ug ae hz az UR<|Sj _ λgg yC=>cE.mp rfl (λ_ K=>∀du,K (xL row p Y bZ z fB aQ cv dF (.val<|.str x) (.val<|.lst<|(jn z p Y x).map aG.aW) du dO dT dc gw e8) S.st) (λdone ai a' a8 K ab du=>?_) (λ_=>ab _ _ _ _ _ _ _ _ _ _) λK h=>h _;obtain⟨cf,Xr⟩:=yC ai (by rw[a8];simp);refine FF hz rfl (aJ cf.len<|aH rfl) (λe5 kX=>aJ (cf.arr e5 kX)<|aH rfl) ?_;refine ax.of (show Up.bin .fdiv (.int Y) (.int 2)=some (.int<|Int.fdiv Y 2)from by rcases az with h|h|h<;>rw[h]<;>rfl) ?_;refine ax.of (show Up.bin .mul (.lst [nF]) (.int<|Int.fdiv Y 2)=some (.lst<|(o4 Y).map aG.aW)from by rcases az with h|h|h<;>rw[h]<;>rfl) ?_;refine ax.of (a:=.lst<|(iZ z ai++o4 Y).map aG.aW) (by rw[c4];exact bl<|by rw[bR,bR];exact aJ (gJ (aJ (sz _ 40 λa _=>Ce hz a:(iZ z ai).length<=40*ai.length)<|hc 40 cf.len) P8)<|aH rfl) ?_;refine Wp (A:=jn z p Y x) (aT:=iZ z ai++o4 Y) rfl (.inl rfl) ?_;rw[Xr];exact ab _
theorem Wh{row:B}{p:cG}{Y:ĵ}{bZ:Lm kp}{N:cS->Lm bv}(T:Rows S.R)(ae:p.ok)(az:Y=0\/Y=1\/Y=2)(rc:(ee λe aV=>row=hV e aV/\∀z,N z=z.map (·.1))\/(ee λes aV=>dY (row=.tup [.int 12,.tup<|de es,.int aV]) ((N=su (b'<|es.map (·.2))))<|es.length<=5)\/(dD λca dv ds=>dY (row=h3 ca (.tup []) dv ds 0) (N=yt ca)<|ca.length<=10))(jg:∀c∈bZ,i_ c.1/\∀x∈N c.1,pK S (n+7) row p Y c.1 c.2 x)(q:Q (.bool true) S.st):bd (n+8) 98 [.ref 1,row,p.aW,.int Y,.lst<|bZ.map oW] S.st Q:=by
 k_go;refine cE.mp rfl (λ_ K=>∀c1 dg cW cv dF dE dR du dO dT dc gw e8,K (Bi row p Y bZ c1 dg cW cv dF dE dR du dO dT dc gw e8) S.st) (λdone c a' ag K ab c1 dg cW cv dF dE dR du dO dT dc gw e8=>?_) (λ_ _ _ _ _ _ _ _ _ _ _ _ _=>q) λK h=>h _ _ _ _ _ _ _ _ _ _ _ _ _;obtain⟨hz,c'⟩:=jg c (by rw[ag];simp);have AU:=hz.len;have go:=λcv dF dE dR du dO dT dc gw e8 Z=>Tq (bZ:=bZ) (K:=K) (Z:=Z) ae az hz c' (ab _ _ _) cv dF dE dR du dO dT dc gw e8;refine di.comp rfl<|pi (f:=λv=>[v]) (Jg c.1) (λv af ĩ Pd=>eN.mk Pd) ?_;rw[show((c.1.map (·.1)).map ek).flatMap (λv=>[v])=(c.1.map (·.1)).map ek by simp];rcases rc with⟨e,aV,rfl,uD⟩|⟨es,aV,rfl,uD,iV⟩|⟨ca,dv,ds,rfl,uD,m2⟩
 .rw[uD]at go;exact go _ _ _ _ _ _ _ _ _ _ _
 .have jj:b' (es.map (·.2))<=5:=aJ (wW _) (by rw[bR];exact iV);rw[uD]at go;unfold su at go;refine di.oM (x:=.tup<|de es) rfl (λ_ h=>h)<|pi (f:=u4) rfl ?_ ?_
  .intro v af bT bb;obtain⟨e,a6,rfl⟩:=dn.mp af;clear af;exact eN.mk bb
  rw[Jt rfl];generalize es.map (·.2)=aw at*;refine bw.to (Bi (.tup [.int 12,.tup<|de es,.int aV]) p Y bZ (.val<|.a9<|dC c.1) (.val<|.str c.2) (.ol<|(c.1.map (·.1)).map ek) (.val<|.lst<|aw.map .int) (.val<|au<|b' aw) dE dR du dO dT dc gw e8) S.st (λK ab=>?_) ?_
  .refine ax.of (show hu .isin S.st (.int 2) (.lst<|aw.map .int)=_ from tX 2 aw)<|bh.ef (λh=>?_) λh=>?_
   .exact ax.of (Cw h) ab
   .rw[DE aw h,<-bR (f:=B.int)]at ab;exact ab
  refine di.m8 rfl ?_;lk;rw[Ab];have Ci:b' aw-c.1.length<=5:=aJ (tn _ _) jj;refine⟨iq<|fK ‹_›,iq<|fK ‹_›,by rw[Int.toNat_sub];exact aJ Ci<|aH rfl,?_⟩;refine pi (bM:=(List.range<|b' aw-c.1.length).map λi=>au<|c.1.length+i) (f:=λv=>match v with|.int i=>[.str<|dq i]|_=>[]) (by show some _=some _;rw[Int.toNat_sub];rfl) ?_ ?_
  .intro v af bT bb;obtain⟨i,QX,rfl⟩:=dn.mp af;clear af;have aA:c.1.length+i<15:=Nat.add_lt_add_of_le_of_lt AU<|gI (lL.mp QX) Ci;refine eN.mk ?_;lk;refine ax.of (a:=.str<|dq ((c.1.length+i:Ĵ):ĵ)) ?_ bb;show(if small ((c.1.length+i:Ĵ):ĵ)then i7 (dq ((c.1.length+i:Ĵ):ĵ)).length (B.str<|dq ((c.1.length+i:Ĵ):ĵ))else none)=_;rw[iq<|pq aA,bl<|by rfl];exact bl<|aJ (y3 _<|uQ aA)<|aH rfl
  .have CL:((List.range<|b' aw-c.1.length).map λi=>au<|c.1.length+i).flatMap (λv=>match v with|.int i=>[B.str<|dq i]|_=>[])=((List.range<|b' aw-c.1.length).map λi=>dq ((c.1.length+i:Ĵ):ĵ)).map ek:=by
    generalize List.range (b' aw-c.1.length)=l;induction l with
    |nil=>rfl
    |cons a l ar=>rw[fx,qK,ar];rfl
   rw[CL];refine⟨by rw[bR,bR,bR,bR,s3];exact aJ (gJ AU Ci)<|aH rfl,?_⟩;rw[<-c4];exact go _ _ _ _ _ _ _ _ _ _ _
 .rw[uD]at go;unfold yt at go;refine di.oM (x:=.tup<|ca.map ff) rfl (λ_ h=>h)<|fj.mp rfl (λdone K=>K (((done.map (·.1)).filter λx=> !(d' x c.1).isSome).map ek) S.st) (λdone m a' ag K ab=>?_) ?_ λK h=>h
  .rw[c4,l',c4,LF,h2]at ab;refine eN.mk ?_;lk;refine ax.of (show hu .f5 S.st (.str m.1) (.a9<|dC c.1)=some (!(d' m.1 c.1).isSome)from by show(pT S.st (.str m.1)<|.a9<|dC c.1).map (!·)=_;rw[DB];rfl) ?_;generalize(d' m.1 c.1).isSome=b at ab;induction b with
   |true=>exact ab
   |false=>exact ab
  .have mc:=l1 (λx=> !(d' x c.1).isSome)<|ca.map (·.1);rw[bR]at mc;refine⟨by rw[bR,bR,bR];exact aJ (gJ AU<|aJ mc m2)<|aH rfl,?_⟩;rw[<-c4];exact go _ _ _ _ _ _ _ _ _ _ _
theorem j'.refl(z:cS)(K:Lm aO):j' z K K:=λa ak=>by
 induction a with
 |ao k=>exact⟨k,ak,λ_ h=>h⟩
 |_=>exact .inl ak
theorem j'.of{z:cS}{aQ K:Lm aO}(h:∀a∈aQ,a∈K)(no:yc aQ):j' z aQ K:=λa ak=>by
 induction a with
 |ao k=>exact absurd ak<|no k
 |_=>exact .inl<|h _ ak
theorem Km{p:cG}(ae:p.good){z:cS}{x:bv}{e:bv×Lm aO×Ĵ}(a7:d' x z=some e){k:bG}(aE:k=.S\/(k=.N/\lC x=true)):j' z (p.h6.at<|.txt x) (p.h6.at k):=by
 have av:=ae.h6;obtain⟨a6,ĝ⟩:=rr a7;induction Oc:p.h6 with
 |own=>
  intro a ak;obtain rfl:a=.ao (.txt x):=cV.mp ak;refine⟨k,cV.mpr rfl,λu a5=>?_⟩;have nX:u∈jz e:=by
   have:qN z (.txt x)=jz e:=by show(match d' x z with|none=>[aO.bA]|some e=>jz e)=_;rw[a7]
   rw[this]at a5;exact a5
  have:u∈z.flatMap jz:=jF.mpr ⟨e,a6,nX⟩;rcases aE with rfl|⟨rfl,_⟩<;>exact this
 |key=>
  intro a ak;obtain rfl:a=.txt x:=cV.mp ak;rcases aE with rfl|⟨rfl,bg⟩
  .exact .inr<|.inl<|cV.mpr rfl
  .exact .inr<|.inr ⟨cV.mpr rfl,bg⟩
 |fix K=>exact j'.refl z K
 |tab ep e3 el=>
  rw[Oc]at av;obtain⟨aF,ak,aM,_,KD,K0⟩:=av;have pD:(hF.tab ep e3 el).at k=el:=by rcases aE with rfl|⟨rfl,_⟩<;>rfl
  rw[pD];show j' z (if [48]=x then ep else if [97]=x then e3 else el) el;split
  .exact j'.of KD<|q9 aF.pd
  .split
   .exact j'.of K0<|q9 ak.pd
   .exact j'.refl z el
theorem HJ{z:cS}{aQ K:Lm aO}(h:j' z aQ K)(c:Ĵ):mQ z (gA c aQ) (gA c K):=by
 have e1:c%2=0->∀b∈K,aG.b b∈gA c K:=λap b av=>by unfold gA;rw[bt<|by omega];exact kQ _<|fy av
 intro a ak a5;unfold gA at ak;rcases gm.mp ak with ak|ak
 .split at ak
  .rename_i ap;rw[cV]at ak;subst ak;exact⟨K,by unfold gA;rw[bl ap];exact .head _,h⟩
  .rename_i ap;obtain⟨b,av,rfl⟩:=dn.mp ak;clear ak;have G:=h b av;have eL:c%2=0:=by omega
   induction b with
   |ao k=>obtain⟨iB,E,aB⟩:=G;exact⟨iB,e1 eL _ E,aB⟩
   |txt x=>exact G.imp (e1 eL _) λy=>y.imp (e1 eL _) λw=>⟨e1 eL _ w.1,w.2⟩
   |num i=>exact G.imp (e1 eL _)<|e1 eL _
   |bA=>exact absurd rfl a5
   |nul=>exact .inl<|e1 eL _<|G.resolve_right id
   |S=>exact .inl<|e1 eL _<|G.resolve_right id
   |N=>exact .inl<|e1 eL _<|G.resolve_right id
 .split at ak
  .rw[cV]at ak;exact absurd ak a5
  .cases ak
theorem To{z:cS}{aQ K:Lm aO}(h:j' z aQ K)(c:Ĵ)(m:aG.b .bA∈gA c aQ):aG.b .bA∈gA c K:=by
 unfold gA at m⊢;rcases gm.mp m with m|m
 .split at m
  .rw[cV]at m;cases m
  .rename_i ap;obtain⟨b,av,e⟩:=dn.mp m;clear m;cases e;rw[bt ap];exact kQ _<|fy<|(h _ av).resolve_right id
 .exact iA _ m
theorem mQ.mono{z:cS}{aQ K eH:Lm aG}(h:mQ z aQ K)(m:∀a∈K,a≠.b .bA->a∈eH):mQ z aQ eH:=by
 intro a ak a5;have G:=h a ak a5;induction a with
 |arr e5=>obtain⟨Mc,E,aB⟩:=G;exact⟨Mc,m _ E (λe=>by cases e),aB⟩
 |b a=>
  induction a with
  |ao k=>obtain⟨iB,E,aB⟩:=G;exact⟨iB,m _ E (λe=>by cases e),aB⟩
  |txt x=>exact G.imp (λy=>m _ y a5) λy=>y.imp (λy=>m _ y<|λe=>by cases e) λw=>⟨m _ w.1 (λe=>by cases e),w.2⟩
  |num i=>exact G.imp (λy=>m _ y a5) (λy=>m _ y<|λe=>by cases e)
  |bA=>exact absurd rfl a5
  |nul=>exact .inl<|m _ (G.resolve_right id) a5
  |S=>exact .inl<|m _ (G.resolve_right id) a5
  |N=>exact .inl<|m _ (G.resolve_right id) a5
theorem Lr{p:cG}(ae:p.good){z:cS}{x:bv}{e:bv×Lm aO×Ĵ}(a7:d' x z=some e){k:bG}(aE:k=.S\/(k=.N/\lC x=true)):mQ z (p.at<|.txt x) (p.at k)/\(aG.b .bA∈p.at (.txt x)->aG.b .bA∈p.at k):=⟨HJ (Km ae a7 aE) _,To (Km ae a7 aE) _⟩
theorem mQ.refl(z:cS)(p:cG)(k:bG):mQ z (p.at k) (p.at k):=HJ (j'.refl z _) _
theorem Iw{K:Lm aG}:∀a∈K,a≠.b .bA->a∈a' K:=λa ak a5=>gz.mpr ⟨ak,by simp[a5]⟩
theorem Gp{Y:ĵ}{fP:Ģ}{K:Lm aG}:∀a∈K,a≠.b .bA->a∈fC Y fP K:=by
 intro a ak a5;have bm:=Iw a ak a5;unfold fC;split
 .split
  .exact ak
  .exact bm
 .split
  .exact bm
  .exact ak
theorem PH{Y:ĵ}{K:Lm aG}:∀a∈K,a≠.b .bA->a∈fM Y K:=by
 intro a ak a5;unfold fM;split
 .exact kQ _ ak
 .split
  .exact Iw a ak a5
  .exact ak
theorem Se{Y:ĵ}{K:Lm aG}:∀a∈K,a≠.b .bA->a∈ji Y K:=by
 intro a ak a5;unfold ji;split
 .exact kQ _ ak
 .exact ak
theorem Bu:∀i<20,lC (dq (i:Ĵ))=true:=by decide+kernel
theorem w5{z:cS}{p:cG}{Y:ĵ}{x:bv}{e:bv×Lm aO×Ĵ}(h:d' x z=some e):jn z p Y x=tR z Y (decide<|e.2.2=1) (p.at<|.txt x):=by unfold jn;rw[h]
theorem B_{z:cS}{p:cG}{Y:ĵ}{x:bv}(h:d' x z=none):jn z p Y x=[.b .bA]:=by unfold jn;rw[h]
theorem NC{z:cS}{x:bv}(h:x∈z.map (·.1)):∃e,d' x z=some e:=by
 induction z with
 |nil=>exact nomatch h
 |cons a z ar=>
  show∃e,(if a.1=x then some a else d' x z)=some e;by_cases c:a.1=x
  .exact⟨a,bl c⟩
  .rw[bt c];exact ar<|(eJ.mp h).resolve_left λq=>c q.symm
theorem KP{Y:ĵ}(h:fT Y false=true):Y=1:=fz (((mx _ _).mp h).elim id λh=>by rw[s0]at h;exact cq h)
theorem E8{Y:ĵ}{a b:Ģ}(h:fT Y a=true)(k:a=true->b=true):fT Y b=true:=by
 induction a with
 |true=>rw[k rfl];exact h
 |false=>exact(mx _ _).mpr<|.inl<|dQ<|KP h
theorem EZ{Y:ĵ}(az:Y=0\/Y=1\/Y=2):fT Y true=true\/Y=2:=by
 rcases az with rfl|rfl|rfl
 .exact .inl rfl
 .exact .inl rfl
 .exact .inr rfl
theorem SN{b:Ģ}{p:Prop}[Decidable p]{f:ĵ}(e:f=(if b=true then 1 else 0)+if p then 2 else 0):(f=0\/f=1\/f=2\/f=3)/\uZ f=b:=by
 rw[e];by_cases h:p
 .rw[bl h];induction b with
  |true=>exact⟨.inr<|.inr<|.inr rfl,rfl⟩
  |false=>exact⟨.inr<|.inr<|.inl rfl,rfl⟩
 .rw[bt h];induction b with
  |true=>exact⟨.inr<|.inl rfl,rfl⟩
  |false=>exact⟨.inl rfl,rfl⟩
def Vr(R:Lm B)(p:cG)(Y:ĵ)(M:Lm bO)(q:c2):Prop:=∃m∈M,hP (ma m=true) (q.1=m.nm) ((q.2.2.1=0\/q.2.2.1=1\/q.2.2.1=2\/q.2.2.1=3)/\uZ q.2.2.1=fT Y (decide<|m.o=1))<|d4.Ty R q.2.1<|fC Y (decide<|m.o=1)<|p.at<|.txt q.1
theorem jb.prop{R:Lm B}{p:cG}{Y aI:ĵ}{M:Lm bO}{b9 bQ dv ds:Ĳ (Ĵ×ĵ)}{t:Ĵ}{ca:Lm c2}(to:jb R p.at Y aI (i4 M) b9 bQ t ca dv ds)(eK:∀m∈M,m.ok):∀q∈ca,Vr R p Y M q:=λq bb=>by
 obtain⟨_,b,av,G,E,aB⟩:=to.to q bb;obtain⟨m,aN,e⟩:=dn.mp av;obtain⟨aN,dU⟩:=gz.mp aN;rw[<-e]at G E aB;replace E:q.2.2.1=pP Y aI (ka m):=E;replace aB:d4.Ty R q.2.1 (fC Y (rI<|ka m)<|p.at<|.txt q.1):=by rw[show q.1=m.nm from G];exact aB
 unfold pP at E;rw[(B0 m<|eK m aN).1]at E aB;exact⟨m,aN,dU,G,SN E,aB⟩
theorem lK.ty{R:Lm B}{Y aI:ĵ}{K:Lm aG}{a b:Ĳ (Ĵ×ĵ)}{u:Ĵ}{aV:ĵ}(h:lK R Y aI K a b)(e:b=some (u,aV)):d4.Ty R u (ji Y K):=by
 induction a using Option.casesOn with
 |none=>exact b4<|(show b=none from h).symm.trans e
 |some a=>obtain⟨v,G,E⟩:=h;rw[<-(Prod.mk.inj<|cY<|G.symm.trans e).1];exact E
theorem Hf{R:Lm B}{p:cG}{Y:ĵ}{k:bG}{u:Ĵ}(ae:p.ok)(h:d4.Ty R u (ji Y<|p.at k)):rf R u:=⟨_,h,aJ (Lh<|cG.rt ae k)<|aH rfl,Kn<|cG.fits ae k⟩
section
variable{z:cS}{p:cG}{Y:ĵ}{x:bv}{aT:Lm aG}{U:Ģ}(az:Y=0\/Y=1\/Y=2)
include az
theorem Pr{m:bO}(told:(∃e,d' x z=some e/\(e.2.2=1->m.o=1))\/(d' x z=none/\m.o=1))(tQ:i8 (fC Y (decide<|m.o=1)<|p.at<|.txt x) aT)(lE:U=fT Y (decide<|m.o=1)):kb (jn z p Y x) (mR z Y aT U)=true:=by
 rw[lE];rcases told with⟨e,a6,bF⟩|⟨a6,bF⟩
 .rw[w5 a6];refine xM az ((mQ.refl z p<|.txt x).mono Gp) tQ (λaM=>.inl<|E8 aM λh=>dQ<|bF<|fz h) λaF Nu ct=>?_;rw[aF];induction bg:decide (m.o=1)with
  |true=>exact .inl rfl
  |false=>exact .inr ct
 .rw[B_ a6,dQ bF];rw[dQ bF]at tQ;exact BU tQ<|(EZ az).imp id .inr
theorem LB{k:bG}(ae:p.good)(aE:k=.S\/(k=.N/\lC x=true))(q6:(∃e,d' x z=some e)\/d' x z=none)(tQ:i8 (ji Y<|p.at k) aT)(lE:U=true):kb (jn z p Y x) (mR z Y aT U)=true:=by
 rcases q6 with⟨e,a6⟩|a6
 .rw[w5 a6];exact xM az ((Lr ae a6 aE).1.mono Se) tQ (λ_=>.inl lE)<|λ_ _ _=>.inl lE
 .rw[B_ a6];exact BU tQ<|.inl lE
end
theorem Vj{n:Ĵ}{S:dz}{p:cG}{Y aI:ĵ}{M:Lm bO}{cy cT:ht}{t:Ĵ}{ca:Lm c2}{dv ds:Ĳ (Ĵ×ĵ)}{c:kp}(T:Rows S.R)(ae:p.good)(az:Y=0\/Y=1\/Y=2)(eK:∀m∈M,m.ok)(m2:ca.length<=10)(to:jb S.R p.at Y aI (i4 M) (be cy) (be cT) t ca dv ds)(ap:rh M c):∀x∈yt ca c.1,pK S (n+6) (h3 ca (.tup []) dv ds 0) p Y c.1 c.2 x:=by
 have yw:=to.prop eK;intro x ay;have q6:(∃e,d' x c.1=some e)\/(d' x c.1=none/\∃q∈ca,q.1=x):=(gm.mp ay).imp NC λay=>by
  obtain⟨G,E⟩:=gz.mp ay;refine⟨?_,dn.mp G⟩;induction a7:d' x c.1 using Option.casesOn with
  |none=>rfl
  |some e=>rw[a7]at E;exact cq E
 refine⟨λdP=>?_,λbT eP=>RQ T (λq bb=>?_) (λu aV e=>Hf ae.ok<|to.six.ty e) (λu aV e=>Hf ae.ok<|to.tm.ty e) (λq bb=>?_) m2 λgg yC=>eP gg λai cf=>⟨(yC ai cf).1,?_⟩⟩
 .rcases q6 with⟨e,a6⟩|⟨_,q,bb,e⟩
  .obtain⟨G,E⟩:=rr a6;exact ap.len.elim id λh=>absurd (E.trans dP)<|h e G
  .obtain⟨m,aN,dU,G,_⟩:=yw q bb;have:=(sm dU).2;rw[<-G,e,dP]at this;exact hK this
 .obtain⟨m,aN,dU,G,E,aB⟩:=yw q bb;exact⟨_,aB,aJ (wh _ _ _)<|aJ (cG.rt ae.ok _)<|aH rfl,λa ak=>cG.fits ae.ok _ a<|vS a ak⟩
 .obtain⟨m,aN,dU,G,E,aB⟩:=yw q bb;exact E.1
 .obtain⟨aT,U,e,eY⟩:=(yC ai cf).2;rw[e];show kb (jn c.1 p Y x) (mR c.1 Y aT U)=true;rcases eY with⟨q,bb,JK,av,lE⟩|eY
  .obtain⟨m,aN,dU,G,E,aB⟩:=yw q bb;have told:=ap.told m aN dU;rw[<-G,JK]at told;rw[JK]at aB;exact Pr az told (av _ aB)<|lE.trans E.2
  .replace q6:=q6.imp id And.left;rcases eY with⟨lE,u,aV,e,av⟩|⟨lE,bg,u,aV,e,av⟩
   .exact LB az ae (.inl rfl) q6 (av _<|to.six.ty e) lE
   .exact LB az ae (.inr ⟨rfl,bg⟩) q6 (av _<|to.tm.ty e) lE
def n6 (Y:ĵ) (aw:Lm ĵ):Lm ĵ:=x3 (oI Y aw) 0<|v' Y (b' aw) 0 aw
def we (Y:ĵ) (aw:Lm ĵ):Ģ:=decide (b' (n6 Y aw)=b' aw)&&(n6 Y aw).all (λm=>decide (m=0)||(decide (m=1)||decide (m=2)))&&(decide (aw=[2])|| !decide (n6 Y aw=[2]))
theorem WD:(hf.all λaw=>we 0 aw&&(we 1 aw&&we 2 aw))=true:=by decide+kernel
theorem JQ{Y:ĵ}{aw:Lm ĵ}(az:Y=0\/Y=1\/Y=2)(ae:aw∈hf):b' (n6 Y aw)=b' aw/\(∀m∈n6 Y aw,m=0\/m=1\/m=2)/\(aw≠[2]->n6 Y aw≠[2]):=by
 have av:we Y aw=true:=by
  have:=d6.mp WD aw ae;simp only[eW]at this;rcases az with ei|ei|ei<;>rw[ei]
  .exact this.1
  .exact this.2.1
  .exact this.2.2
 unfold we at av;simp only[eW,mx,j2,jD,ny,d6]at av;exact⟨av.1.1,av.1.2,λh=>av.2.resolve_left h⟩
theorem Jk(Y:ĵ)(F:bG->Lm aG)(aw:Lm ĵ):(jU Y F aw).map (·.2)=n6 Y aw:=by unfold jU n6;rw[Y4,Df]
theorem zZ{aw:Lm ĵ}(ae:aw∈hf){w:Lm Ĵ}(bF:w∈vw aw):w.length<=8/\(∀x∈w,x<=1)/\∀i<12,(i<b' aw->(i<w.length->w[i]?=some 1->aw[i]?=some 1)/\(¬i<w.length->aw[i]?=some 1))/\(¬i<b' aw->w[i]?≠some 1/\(i<w.length->b' aw<aw.length)):=by
 have av:=d6.mp (d6.mp PL aw ae) w bF;unfold GO at av;simp only[eW,jD,d6,lL]at av;refine⟨av.1.1,av.1.2,λi aA=>?_⟩;have h:=av.2 i aA;constructor
 .intro a7;rw[bl a7]at h;constructor
  .intro ah G;rw[bl ah]at h;simpa[G]using h
  .intro ah;rw[bt ah]at h;simpa using h
 .intro a7;rw[bt a7]at h;simp only[eW,mx,j2,ny,jD]at h;exact⟨h.1,λah=>h.2.resolve_left λx=>x ah⟩
structure wv(aw:List Int)(r:hw):Prop where
 k:∀e∈r,e.1.length<=3
 m:r.map (·.2)∈vw aw
theorem wv.slt{aw:Lm ĵ}{r:hw}(h:wv aw r)(ae:aw∈hf):i_ (gn 0 r):=by obtain⟨G,E,_⟩:=zZ ae h.m;rw[bR]at G;refine⟨TS r 0 (by omega),by rw[FO];exact fK ‹_›,λe a6=>?_⟩;obtain⟨x,ay,a8⟩:=Oy r 0 e a6;rw[a8];exact⟨h.k x ay,E _<|fy (f:=λe:Lm aO×Ĵ=>e.2) ay⟩
theorem I0{i:Ĵ}(aA:i<20):dq (i:Ĵ)≠[108,101,110,103,116,104]:=λe=>by have:=Bu i aA;rw[e]at this;exact cq this
def qc (Y:ĵ) (F:bG->Lm aG) (eu i:Ĵ) (m:ĵ):g5:=if i<eu then(fC Y (decide<|m=1)<|F<|.txt<|dq i,if fT Y (decide<|m=1)=true then 1 else 0)else(fM Y<|F .N,m)
theorem D'(Y:ĵ)(F:bG->Lm aG)(eu len i:Ĵ)(m:ĵ):ii Y F eu len i m=((qc Y F eu i m).1++[.b .bA],0)\/ii Y F eu len i m=qc Y F eu i m:=by
 show(if(qc Y F eu i m).2=1/\eu+1<len then _ else _)=_\/(if(qc Y F eu i m).2=1/\eu+1<len then _ else _)=_;split
 .exact .inl rfl
 .exact .inr rfl
theorem Vh(z:cS)(Y:ĵ)(ai:Lm aG):iZ z ai++o4 Y=mR z Y ai false:=by unfold mR o4;simp
theorem B'{aC:Type}{P:aC->Prop}{a:aC}(h:P a):∀x∈[a],P x:=λx ay=>by rw[cV.mp ay];exact h
theorem DN{r:hw}(ah:r.length<=8){i:Ĵ}(aA:i<r.length):∃bx,d' (dq (i:Ĵ)) (gn 0 r)=some bx/\(r.map (·.2))[i]?=some bx.2.2:=⟨_,(JH r 0 i (aJ (fU<|iG _)<|aJ ah<|aH rfl) (f7 _)<|gI aA<|aJ ah<|aH rfl).trans (by rw[CZ,fl aA];rfl),by rw[gS,fl aA];rfl⟩
theorem ö{K:Lm aG}:aG.b .bA∈fM 1 K:=iA _<|.head _
theorem i8.up{K aT ai:Lm aG}(s:i8 K aT)(h:∀a∈aT,a∈ai):i8 K ai:=λa ak aM=>by
 have:=s a ak aM;induction a using aG.casesOn with
 |b a=>exact h _ this
 |arr K=>obtain⟨si,ln,h'⟩:=this;exact⟨si,h _ ln,h'⟩
theorem Ft{z:cS}{p:cG}{Y:ĵ}{x:bv}{e:bv×Lm aO×Ĵ}{K ai:Lm aG}(ae:p.good)(az:Y=0\/Y=1\/Y=2)(a6:d' x z=some e)(bF:e.2.2≠1)(ay:lC x=true)(ab:∀a∈fM Y (p.at .N),a∈K)(s:i8 K ai):kb (jn z p Y x) (iZ z ai++o4 Y)=true:=by have aM:=Lr ae a6 (k:=.N)<|.inr ⟨rfl,ay⟩;rw[Vh,w5 a6,eC bF];exact xM az (aM.1.mono λa ak a5=>ab a<|PH a ak a5) s (λh=>.inr<|.inl<|ab _<|by rw[KP h];exact ö) λaF _ ct=>.inr (ab _<|by rw[aF];exact aM.2 ct)
theorem Wm{p:cG}{Y aV:ĵ}{e:Ĵ}{r:hw}(T:Rows S.R)(ae:p.good)(az:Y=0\/Y=1\/Y=2)(mP:d4.Ty S.R e (fM Y<|p.at .N))(bm:wv [2] r):∀x∈(gn 0 r).map (·.1),pK S (n+6) (hV e aV) p Y (gn 0 r) [91] x:=by obtain⟨ah,_,eY⟩:=zZ (aw:=[2]) (by decide) bm.m;rw[bR]at ah;intro x ay;obtain⟨i,_,aA,rfl⟩:=xD r 0 x ay;rw[iG]at aA;have Dm:=gI aA ah;obtain⟨bx,h9,bF⟩:=DN ah aA;exact⟨λh=>absurd h<|I0<|gI Dm<|aH rfl,λbT eP=>T' T ⟨_,mP,aJ (AI Y<|p.at .N)<|da<|aJ (cG.rt ae.ok .N)<|aH rfl,xq<|cG.fits ae.ok .N⟩ λaT XR dj=>eP [aT]<|B' ⟨dj,Ft ae az h9 (λh=>((eY i<|gI Dm<|aH rfl).2<|yM i).1<|by rw[bF,h]) (Bu i<|gI Dm<|aH rfl) (λ_ h=>h)<|XR _ mP⟩⟩
theorem S7{Y:ĵ}{F:bG->Lm aG}{aw:Lm ĵ}(az:Y=0\/Y=1\/Y=2)(ae:aw∈hf){i:Ĵ}{m:ĵ}(aN:aw[i]?=some m):(jU Y F aw)[i]?=some (ii Y F (b' aw) aw.length i m):=by have h:=IR (oI Y aw) _ 0 i<|Fx Y F (b' aw) aw 0 i aN;rw[iG]at h;rw[GC az ae aN];exact h
theorem ð{Y:ĵ}{F:bG->Lm aG}{f l i:Ĵ}{m:ĵ}(a7:∀k,∀a∈F k,a.fits):∀a∈(ii Y F f l i m).1,a.fits:=by
 have aF:∀a∈(qc Y F f i m).1,a.fits:=by
  unfold qc;split
  .exact λa ak=>a7 _ a<|vS a ak
  .exact xq<|a7 .N
 rcases D' Y F f l i m with e|e<;>rw[e]
 .exact aG.Cx aF
 .exact aF
theorem â{Y:ĵ}{F:bG->Lm aG}{f l i:Ĵ}{m:ĵ}(cU:i<f):(∀a∈fC Y (decide<|m=1) (F<|.txt<|dq i),a∈(ii Y F f l i m).1)/\(fT Y (decide<|m=1)=true->decide ((ii Y F f l i m).2=1)=true\/.b .bA∈(ii Y F f l i m).1):=by
 have oP:qc Y F f i m=(fC Y (decide<|m=1)<|F<|.txt<|dq i,if fT Y (decide<|m=1)=true then 1 else 0):=bl cU;rcases D' Y F f l i m with e|e<;>rw[e,oP]
 .exact⟨λa ak=>kQ _ ak,λ_=>.inr<|iA _<|.head _⟩
 .exact⟨λa ak=>ak,λh=>.inl<|dQ<|bl h⟩
theorem YW{Y:ĵ}{F:bG->Lm aG}{f l:Ĵ}{m:ĵ}:∀a∈fM Y (F .N),a∈(ii Y F f l f m).1:=by
 have oP:qc Y F f f m=(fM Y<|F .N,m):=bt<|jZ _;rcases D' Y F f l f m with e|e<;>rw[e,oP]
 .exact λa ak=>kQ _ ak
 .exact λa ak=>ak
theorem N7{p:cG}{Y:ĵ}{r:hw}{i f l:Ĵ}{m:ĵ}{aT:Lm aG}(az:Y=0\/Y=1\/Y=2)(ah:r.length<=8)(u0:i<12)(cU:i<f)(iz:i<r.length->(r.map (·.2))[i]?=some 1->m=1)(n2:¬i<r.length->m=1)(s:i8 (ii Y p.at f l i m).1 aT):kb (jn (gn 0 r) p Y<|dq i) (mR (gn 0 r) Y aT<|decide<|(ii Y p.at f l i m).2=1)=true:=by
 obtain⟨ab,E⟩:=â (Y:=Y) (F:=p.at) (l:=l) (m:=m) cU;by_cases aA:i<r.length
 .obtain⟨bx,h9,bF⟩:=DN ah aA;rw[w5 h9];refine xM az ((mQ.refl _ p _).mono λa ak a5=>ab a<|Gp a ak a5) s (λaM=>(E<|E8 aM λh=>dQ<|iz aA<|by rw[bF,fz h]).imp id .inl) λaF Nu ct=>?_;induction bg:decide (m=1)using Bool.casesOn with
  |true=>exact E (by rw[bg,aF];rfl)
  |false=>exact .inr (ab _<|by rw[bg,aF];exact ct)
 .rw[B_<|(JH r 0 i (aJ (fU<|iG _)<|aJ ah<|aH rfl) (f7 _)<|gI u0<|aH rfl).trans<|by rw[CZ,C1<|q0 aA];rfl];refine BU s<|(EZ az).elim (λh=>(E ?_).imp id .inl) λh=>.inr<|.inr h;rw[dQ<|n2 aA];exact h
theorem Sm{x:bv}{f:Ĵ}{r:hw}(h:x∈su f (gn 0 r)):∃i:Ĵ,x=dq (i:Ĵ)/\(i<r.length\/i<f):=by
 rcases gm.mp h with h|h
 .obtain⟨i,_,aA,e⟩:=xD r 0 x h;exact⟨i,e,.inl<|by rw[iG]at aA;exact aA⟩
 .obtain⟨j,b8,e⟩:=dn.mp h;have b8:=lL.mp b8;exact⟨(gn 0 r).length+j,e.symm,.inr<|Ge b8⟩
theorem OC{p:cG}{Y aV:ĵ}{es:Lm (Ĵ×ĵ)}{aw:Lm ĵ}{r:hw}(T:Rows S.R)(ae:p.good)(az:Y=0\/Y=1\/Y=2)(on:aw∈hf)(cf:hd 15 S.R es (jU Y p.at aw))(bm:wv aw r):∀x∈su (b'<|es.map (·.2)) (gn 0 r),pK S (n+6) (.tup [.int 12,.tup<|de es,.int aV]) p Y (gn 0 r) [91] x:=by
 obtain⟨ah,_,eY⟩:=zZ on bm.m;rw[bR]at ah eY;have mK:=wy aw on;obtain⟨yv,Lg,_⟩:=JQ az on;have uA:es.map (·.2)=n6 Y aw:=cf.marks.trans (Jk ..);rw[<-uA]at yv Lg;have iV:es.length=aw.length:=by rw[cf.len,jU,uo,uj]
 have cell:∀{i:Ĵ} {e:Ĵ×ĵ},es[i]?=some e->∃m,dY (aw[i]?=some m) (e.2=(ii Y p.at (b' aw) aw.length i m).2) (d4.Ty S.R e.1 (ii Y p.at (b' aw) aw.length i m).1/\(ii Y p.at (b' aw) aw.length i m).1.length<=15):=λ{i e} a6=>by have aA:=(hb.mp a6).1;have aN:=fl<|iV▸aA;obtain⟨c,ap,G,E,aB⟩:=cf.at a6;rw[S7 az on aN]at ap;cases ap;exact⟨_,aN,G,E,aB⟩
 intro x ay;rw[yv]at ay;obtain⟨i,rfl,I9⟩:=Sm ay;clear ay;have u0:i<12:=I9.elim (λh=>gI h<|aJ ah<|aH rfl) λh=>gI h<|aJ (wW aw)<|aJ mK<|aH rfl;have qs:=gI u0 (aH rfl:12<=20);obtain⟨iz,n2⟩:=eY i u0;refine⟨λh=>absurd h<|I0 qs,λbT eP=>R9 T (λe a6=>?_) Lg (aJ (fU iV) mK) qs (λe aT cU a6 av dj=>eP [_]<|B' ⟨dj,?_⟩) λai BX dj gf=>?_⟩
 .obtain⟨i,V_⟩:=AJ.mp a6;obtain⟨m,aN,G,E,aB⟩:=cell V_;exact⟨_,E,iL aB,ð<|cG.fits ae.ok⟩
 .rw[yv]at cU;obtain⟨m,aN,G,E,aB⟩:=cell a6;rw[aN]at iz;obtain⟨iz,pz⟩:=iz cU;rw[G];exact N7 az ah u0 cU (λh k=>cY<|iz h k) (λh=>cY<|pz h)<|av _ E
 .rw[yv]at BX gf;obtain⟨iz,pz⟩:=n2 BX;have aA:i<r.length:=I9.resolve_right BX;have FI:=fl (iV.symm▸pz aA:b' aw<es.length);obtain⟨bx,h9,bF⟩:=DN ah aA;obtain⟨aT,av,o0⟩:=gf _<|ib<|(v1 (j:=0)).trans FI;obtain⟨m,aN,G,E,_⟩:=cell FI;exact eP [ai]<|B' ⟨dj,Ft ae az h9 (λh=>iz<|by rw[bF,h]) (Bu i qs) YW<|(av _ E).up o0⟩
def DM:Lm B->Ģ
 |[]=>true
 |v::l=>(match hO v l with|some b=> !b|none=>false)&&DM l
theorem M2{l:Lm B}(aE:∀v∈l,fE 16 v=true)(h:DM l=true):l.Nodup:=by
 induction l with
 |nil=>exact .nil
 |cons v l ar=>have h:((match hO v l with|some b=> !b|none=>false)&&DM l)=true:=h;rw[L2 (aE v<|.head _) λa ak=>aE a<|.tail _ ak]at h;have h:=gQ.mp h;refine hT.mpr ⟨λq=>?_,ar (λv af=>aE v<|.tail _ af) h.2⟩;have G:(!cN (v∈l))=true:=h.1;rw[vf q]at G;exact cq G
theorem rs:Rows hm where
 base:=⟨[],(gT _).symm⟩
 b6:=M2 (λv af=>zf<|d6.mp (rfl:hm.all h_=true) v af) rfl
 row:=λv af=>d6.mp (rfl:hm.all h_=true) v af
def lX (nums:Lm B):dz:=⟨0,nums,hm,[.none],[]⟩
def k7 (nums:Lm B):St:=[.ls [.int 0,.lst nums],.ins 0 pB,.ls<|hm.take 16,.cN<|gj 0<|hm.take 16,.ls [.none],.ls [],.ls [],.ls [],.cN [],.cN []]
def pS (nums:Lm B):St:=k7 nums++[.ins 4 BQ]
def l9 (nums:Lm B):St:=[.ls [.int 0,.lst nums],.ins 0 pB,.ls<|hm.take 17,.cN<|gj 0<|hm.take 17,.ls [.none],.ls [.int<|-1],.ls [.int<|-1],.ls [.str [84]],.cN [],.cN [],.ins 4 BQ]
def HI (nums R:Lm B):St:=[.ls [.int 0,.lst nums],.ins 0 pB,.ls R,.cN<|gj 0 R,.ls [.none],.ls [],.ls [],.ls [],.cN [],.cN []]
theorem TB{nums:Lm B}{m:Ĵ}{Q:ck->aK->St->Prop}:bw (m+2) x7.body [.val<|.ref 1,.un] ([.ls [.int 0,.lst nums]]++[.ins 0 []]) Q=bw (m+2) (x7.body.drop 10) [.val<|.ref 1,.un] (HI nums []) Q:=by kernel_rfl
theorem ZV{nums:Lm B}{m:Ĵ}{Q:B->St->Prop}(q:Q (.none) (k7 nums)):bd (m+3) 0 [.ref 1] ([.ls [.int 0,.lst nums]]++[.ins 0 []]) Q:=by
 have T:∀{done a':Lm B} {a},hm.take 16=done++a::a'->a∉done/\h_ a=true/\(∀v∈done,h_ v=true)/\done.length<=16:=λ{done a' a} e=>by have h:∀v∈done++a::a',h_ v=true:=λv af=>rs.row v<|AO<|e▸af;have b6:=(rs.b6.sublist<|HN 16 hm);rw[e,nd]at b6;exact⟨λh=>b6.2.2 a h a (.head _) rfl,h a (by simp),λv af=>h v<|kQ _ af,aJ (j5 _)<|oA e<|dy 16⟩
 refine bd.fn (b:=x7.body) (r:=[.val<|.ref 1,.un]) rfl rfl ?_;rw[TB];refine cE.mp (f:=id) (all:=hm.take 16) rfl (λdone K=>∀x,K [.val<|.ref 1,x]<|HI nums done) (λdone a a' e K ab x=>?_) (λx=>q) λK h=>h _;obtain⟨G,E,aB,ba⟩:=T e;refine zd aB E (aJ (da ba)<|aH rfl) (λi aA=>absurd (ib aA) G) λ_=>ab _
theorem O0{nums:Lm B}{m:Ĵ}{Q:B->St->Prop}(q:Q (.none) (pS nums)):bd (m+3) 69 [.ref 10,.ref 1] (k7 nums++[.ins 4 []]) Q:=by k_go;exact q
theorem W7{nums:Lm B}{m:Ĵ}{Q:B->St->Prop}(q:Q (.int 16) (l9 nums)):bd (m+3) 12 [.ref 1,.str [84]] (pS nums) Q:=by k_go;refine⟨aH rfl,aH rfl,aH rfl,?_⟩;exact zd (R:=hm.take 16) (λv af=>rs.row v<|AO af) rfl (aH rfl) (λi aA=>absurd (ib aA) λh=>by have b6:=rs.b6.sublist<|HN 17 hm;rw[show hm.take 17=hm.take 16++[.tup [.int 10,.int 0]]from rfl,nd]at b6;exact b6.2.2 _ h _ (.head _) rfl) λ_=>q
theorem QS{nums:Lm B}{m:Ĵ}{Q:B->St->Prop}(q:Q (.int 17) ((lX nums).st)):bd (m+3) 12 [.ref 1,.str [80]] (l9 nums) Q:=by k_go;refine⟨aH rfl,aH rfl,aH rfl,?_⟩;exact zd (R:=hm.take 17) (λv af=>rs.row v<|AO af) rfl (aH rfl) (λi aA=>absurd (ib aA) λh=>by have b6:=rs.b6;rw[show hm=hm.take 17++[.tup [.int 10,.int 1]]from rfl,nd]at b6;exact b6.2.2 _ h _ (.head _) rfl) λ_=>q
theorem oj.ex{S cm:dz}{c t o:Ĵ}(h:oj S t o)(g:a_ S.R cm.R c)(b2:cm.D=S.D)(c8:∃cB,cm.X=S.X++cB):oj cm t o:=by
 obtain⟨cB,c8⟩:=c8;induction h with
 |obj h=>exact .obj<|g.at h
 |ref G E aB ba cO d2=>refine .ref (g.at G) (by rw[b2];exact E) ?_ ba cO<|g.at d2;rw[c8,o1 (hb.mp aB).1];exact aB
theorem qt.ex{S cm:dz}{t o fo dG:Ĵ}{M:Lm bO}{aj:Lm c2}{cy cT:ht}{eD:B}{b9 bQ:Ĳ (Ĵ×ĵ)}{e2:ĵ}{c:Ĵ}(h:qt S t o fo M aj cy cT dG eD b9 bQ e2)(g:a_ S.R cm.R c)(b2:cm.D=S.D)(c8:∃cB,cm.X=S.X++cB):qt cm t o fo M aj cy cT dG eD b9 bQ e2:={h with src:=h.src.ex g b2 c8,row:=g.at h.row,xH:=g.at h.xH}
structure fL(S cm:dz)(c:Nat):Prop where
 g:a_ S.R cm.R c
 D:cm.D=S.D
 X:∃cB,cm.X=S.X++cB
theorem fL.trans{S cm H_:dz}{a b:Ĵ}(h:fL S cm a)(k:fL cm H_ b):fL S H_ (a+b):=by obtain⟨cB,jx⟩:=h.X;obtain⟨Wb,QM⟩:=k.X;exact⟨h.g.trans k.g,k.D.trans h.D,cB++Wb,by rw[QM,jx,hS]⟩
theorem fL.le{S cm:dz}{a b:Ĵ}(h:fL S cm a)(ah:a<=b):fL S cm b:=⟨h.g.le ah,h.D,h.X⟩
theorem fL.refl{S:dz}(T:Rows S.R){c:Ĵ}:fL S S c:=⟨a_.refl T,rfl,[],(gT _).symm⟩
theorem fL.w{S:dz}{aa:Lm B}{c:Ĵ}(g:a_ S.R aa c):fL S (S.w aa) c:=⟨g,rfl,[],(gT _).symm⟩
theorem fL.WK{S:dz}{aa:Lm B}{d_:Lm dd}{c:Ĵ}(g:a_ S.R aa c):fL S ((S.w aa).x<|S.X++d_) c:=⟨g,rfl,d_,rfl⟩
theorem IA:∀{aj:Lm c2} {M:Lm bO},b_ xz aj M->aj.map (·.1)=M.map (·.nm)
 |_,_,.nil=>rfl
 |_,_,.cons x y=>by rw[fx,fx,IA y,x.1]
structure TN(M:List bO)(aj:List c2):Prop where
 x:∀p∈aj,p.1∈iC
 f:∀p∈aj,0<=p.2.2.1
 b6:(aj.map (·.1)).Nodup
 l:aj.length<=4
 sD:(M.map (·.nm)).Nodup
theorem qt.f{S:dz}{t o fo dG:Ĵ}{M:Lm bO}{aj:Lm c2}{cy cT:ht}{eD:B}{b9 bQ:Ĳ (Ĵ×ĵ)}{e2:ĵ}(h:qt S t o fo M aj cy cT dG eD b9 bQ e2):TN M aj:=by
 have sD:(M.map (·.nm)).Nodup:=by rw[List.Nodup,zN];refine h.fB.imp λ{a b} sd e=>?_;have:gb a.nm b.nm=true:=sd;rw[e,yU]at this;exact cq this
 refine⟨λp ae=>?_,λp ae=>?_,(IA h.props)▸sD,by rw[h.props.len];exact h.len,sD⟩
 .obtain⟨m,aN,G,_⟩:=h.props.t6 p ae;rw[G];exact(h.ok m aN).nm
 .obtain⟨m,aN,_,E,_⟩:=h.props.t6 p ae;rw[E];exact nt _
def yJ (dH:Ģ):ĵ:=cond dH 17<|-1
def nv (p:cG) (Y aI:Ĵ) (dH:Ģ) (g4:Ĵ) (b:B) (d0 cI:Ĵ) (dO dT dc:cr):aK:=[.val<|.ref 0,.val<|.ref 1,.val<|.ref 10,.val<|.int 16,.val<|.int 17,.val p.aW,.val<|.tup [au Y,au aI],.val<|.bool dH,.val<|au g4,.val b,.val<|au d0,.val<|au cI,.val<|fW cI (yJ dH) d0 Y aI,dO,dT,dc]
def qw(dH:Ģ)(R:Lm B)(F:bG->Lm aG)(Y aI:ĵ)(aQ:Lm Tm)(b9 bQ:Ĳ (Ĵ×ĵ))(u:Ĵ):Prop:=cond dH (u=11)<|dD λca dv ds=>jb R F Y aI aQ b9 bQ u ca dv ds
theorem Hh{dH:Ģ}{d0 t o:Ĵ}{F:bG->Lm aG}{cI Y aI e2:ĵ}{aj:Lm c2}{eD:B}{b9 bQ:Ĳ (Ĵ×ĵ)}(T:Rows S.R)(h:f9 S.R d0 F)(az:Y=0\/Y=1\/Y=2)(dj:aI=0\/aI=1\/aI=2)(aM:oj S t o)(bm:S.R[o]?=some (h3 aj eD b9 bQ e2))(ay:∀p∈aj,p.1∈iC)(a7:∀p∈aj,0<=p.2.2.1)(b6:(aj.map (·.1)).Nodup)(ah:aj.length<=4)(ap:S.R.length+500<=a3)(q:∀u cm,fL S cm 500->qw dH cm.R F Y aI (rd aj) b9 bQ u->Q (au u) cm.st):bd (n+21) 59 [.ref 10,fW cI (yJ dH) d0 Y aI,au t] S.st Q:=by
 obtain⟨cL,l,G,E⟩:=aM.cL;induction dH using Bool.casesOn with
 |true=>exact BW (nm:=17) G (E.imp id .inl)<|q 11 S (.refl T) rfl
 |false=>exact P' T h az dj G E (λm bT bb=>Yy T aM bb) bm ay a7 b6 (aJ ah<|aH rfl) ap λu ca dv ds aa d_ g to=>q u _ (.WK g) ⟨ca,dv,ds,to⟩
theorem BO(a:ĵ):(!decide (a=a))=false:=by rw[dQ rfl];rfl
theorem QF(b:Ģ):(!(b==b))=false:=by induction b using Bool.casesOn<;>rfl
theorem fL.step{aC:Type}{S cm uC:dz}{c d:Ĵ}{done:Lm aC}{a:aC}(aQ:fL S cm (c*done.length))(pb:fL cm uC d)(h:d<=c):fL S uC (c*(done++[a]).length):=⟨aQ.g.step pb.g h,(aQ.trans pb).D,(aQ.trans pb).X⟩
theorem TA{p:cG}{Y aI g4 d0 cI:Ĵ}{dH:Ģ}{b:B}{dO dT dc:cr}{aj:Lm c2}{cM:ck->aK->St->Prop}(T:Rows S.R)(ay:∀p∈aj,p.1∈iC)(ah:aj.length<=4)(ap:S.R.length+8<=a3)(q:∀cm dc,fL S cm 8->cM .go (nv p Y aI dH g4 b d0 cI dO dT dc) cm.st):cE (n+9) false [15] [.iff (.cmp (.call 61 [.v 2,.new 6 [.cQ (.v 1) 0 [.tup [.k<|.int 3,.ao (.v 15)<|.k<|.int 0,.k<|.int 0]],.v 15,.tup []]]) [(.ne,.cmp (.ao (.v 15)<|.k<|.int 0) [(.isin,.tup [.k<|.str [108,101,110,103,116,104],.k<|.str [48],.k<|.str [49,50]])])]) [.ret<|.k<|.bool false] []] (aj.map ff) (nv p Y aI dH g4 b d0 cI dO dT dc) S.st cM:=by refine cE.mp (all:=aj) (f:=ff) rfl (λdone K=>∀cm dc,fL S cm (2*done.length)->K (nv p Y aI dH g4 b d0 cI dO dT dc) cm.st) (λdone m a' ag K ab cm dc aQ=>?_) (λcm dc aQ=>q cm dc<|aQ.le<|hc 2 ah) λK ab=>ab S _<|fL.refl T;have room:cm.R.length+1+1<=a3:=aQ.g.turn (k:=2) ag ah ap;refine e4 (S:=cm) aQ.g.ok rfl (li room) λk bu bj yi=>zI (s:=(cm.w bu).st) ⟨rfl,Br (S:=(cm.w bu).x<|cm.X++[gP.cp<|.mem k m]) (e:=.mem k m) bj.ok (f3.new (S:=cm.w bu)) (λiB et e=>by cases e;exact ay m<|by rw[ag];exact iA _<|.head _) (aJ (da bj.len) room) λdX cK=>?_⟩;rw[show(!mg (.mem k m))=(decide ([108,101,110,103,116,104]=m.1)||(decide ([48]=m.1)||(decide ([49,50]=m.1)||false)))from(bX Bool.not (EP m.1).symm).trans<|Bool.not_not _];lk;exact bh.ik (QF _)<|ab _ _<|aQ.step (⟨bj.trans cK,rfl,_,rfl⟩:fL cm (((cm.w bu).x<|cm.X++[gP.cp<|.mem k m]).w dX) 2)<|dy _
def vy(S:dz)(v:B):Prop:=(KH λt o fo M aj cy cT dG eD b9 bQ e2=>v=.a9 (m_ t fo M aj cy cT dG)/\qt S t o fo M aj cy cT dG eD b9 bQ e2)\/(dD λt es aV=>v=.a9 (ko t es aV)/\rL S.R t es aV)\/(ee λt st=>v=.a9 (xQ t st)/\sc S.R t st)
theorem vy.ex{S cm:dz}{v:B}{c:Ĵ}(h:vy S v)(aQ:fL S cm c):vy cm v:=by
 rcases h with⟨t,o,fo,M,aj,cy,cT,dG,eD,b9,bQ,e2,e,h⟩|⟨t,es,aV,e,h⟩|⟨t,st,e,h⟩
 .exact .inl ⟨t,o,fo,M,aj,cy,cT,dG,eD,b9,bQ,e2,e,h.ex aQ.g aQ.D aQ.X⟩
 .exact .inr<|.inl ⟨t,es,aV,e,h.bf aQ.g⟩
 .exact .inr<|.inr ⟨t,st,e,h.bf aQ.g⟩
theorem IB{aC cC:Type}(f:aC->cC):∀{l:Lm aC},(l.map f).Nodup->∀a∈l,∀b∈l,f a=f b->a=b
 |c::l,h,a,ak,b,av,e=>by
  rw[fx,hT]at h;rcases eJ.mp ak with e6|yA<;>rcases eJ.mp av with ea|GU
  .rw[e6,ea]
  .exact absurd (by rw[<-e6,e];exact fy (f:=f) GU) h.1
  .exact absurd (by rw[<-ea,<-e];exact fy (f:=f) yA) h.1
  .exact IB f h.2 a yA b GU e
theorem Js:∀(m l:Lm bv),l.Nodup->(∀x∈l,x∈m)->l.length<=m.length
 |[],l,_,h=>by
  induction l with
  |nil=>exact dy _
  |cons a r=>cases h a (.head _)
 |a::m,l,b6,h=>by
  have E:=Js m (l.erase a) (b6.erase a) λx ay=>by have g_:=(b6.mem_erase_iff).mp ay;exact(eJ.mp<|h x g_.2).resolve_left g_.1
  by_cases c:a∈l
  .rw[Kz c]at E;exact Lp E
  .rw[List.erase_of_not_mem c]at E;simp only[mE];exact iL ‹_›
theorem LA{v:Ĵ}(h:(v:ĵ)<3):(v:ĵ)=0\/(v:ĵ)=1\/(v:ĵ)=2:=by omega
theorem We{n:Ĵ}{nums:Lm B}{b:Lm dS}{i9:Lm cr}{Q:ck->aK->St->Prop}(q:bw (n+4) b ([.val<|.ref 0,.val<|.ref 1,.val<|.ref 10,.val<|.int 16,.val<|.int 17]++i9) (lX nums).st Q):bw (n+4) (.set 1 (.new 0 [])::.set 2 (.new 4 [.v 1])::.set 3 (.call 12 [.v 1,.k<|.str [84]])::.set 4 (.call 12 [.v 1,.k<|.str [80]])::b) ([.val<|.ref 0,.un,.un,.un,.un]++i9) [.ls [.int 0,.lst nums]] Q:=by exact ZV ⟨rfl,O0 ⟨rfl,W7<|QS q⟩⟩
theorem qw.eq{dH:Ģ}{R:Lm B}{F:bG->Lm aG}{Y aI:ĵ}{aQ:Lm Tm}{M:Lm bO}{b9 bQ wa ul dv ds:Ĳ (Ĵ×ĵ)}{u w:Ĵ}{ca:Lm c2}(T:Rows R)(b6:(M.map (·.nm)).Nodup)(h:qw dH R F Y aI aQ b9 bQ u)(to:jb R F Y aI (i4 M) wa ul w ca dv ds)(ct:∀m,m∈aQ↔m∈i4 M)(fv:b9.map (·.2)=wa.map (·.2))(kF:bQ.map (·.2)=ul.map (·.2)):u=cond dH 11 w:=by
 induction dH using Bool.casesOn with
 |true=>exact h
 |false=>obtain⟨_,_,_,h⟩:=h;refine h.inj T to ct (λm aN iS kA e=>?_) fv kF;obtain⟨a,ak,e6⟩:=dn.mp<|(ct m).mp aN;obtain⟨b,av,ea⟩:=dn.mp<|(ct iS).mp kA;rw[<-e6,<-ea]at e⊢;rw[IB (λm:bO=>m.nm) b6 a (gz.mp ak).1 b (gz.mp av).1 e]
theorem qw.bf{dH:Ģ}{R aa:Lm B}{F:bG->Lm aG}{Y aI:ĵ}{aQ:Lm Tm}{b9 bQ:Ĳ (Ĵ×ĵ)}{u c:Ĵ}(h:qw dH R F Y aI aQ b9 bQ u)(g:a_ R aa c):qw dH aa F Y aI aQ b9 bQ u:=by
 induction dH using Bool.casesOn with
 |true=>exact h
 |false=>obtain⟨a,b,c,h⟩:=h;exact⟨a,b,c,h.bf g⟩
theorem jb.le{R:Lm B}{F:bG->Lm aG}{Y aI:ĵ}{M:Lm bO}{b9 bQ dv ds:Ĳ (Ĵ×ĵ)}{u:Ĵ}{ca:Lm c2}(to:jb R F Y aI (i4 M) b9 bQ u ca dv ds):ca.length<=M.length:=by
 have h:=Js ((i4 M).map (·.1)) (ca.map (·.1)) (List.Pairwise.imp (S:=λa b=>a≠b) (λ{a b} (sd:gb a b=true) e=>by rw[e]at sd;exact cq<|(yU b).symm.trans sd) to.fB) λx ay=>by obtain⟨y,a2,e⟩:=dn.mp ay;obtain⟨_,m,aN,av⟩:=to.to y a2;rw[<-e,show y.1=m.1 from av.1];exact fy (f:=λm:Tm=>m.1) aN
 rw[bR,bR]at h;exact aJ h (by unfold i4;rw[bR];exact l1 _ _)
def Va(row:B)(N:cS->Lm bv):Prop:=(ee λe aV=>row=hV e aV/\∀z,N z=z.map (·.1))\/(ee λes aV=>dY (row=.tup [.int 12,.tup<|de es,.int aV]) ((N=su (b'<|es.map (·.2))))<|es.length<=5)\/(dD λca dv ds=>dY (row=h3 ca (.tup []) dv ds 0) (N=yt ca)<|ca.length<=10)
section
variable{n:Ĵ}{Q:B->St->Prop}{p:cG}{Y aI g4 d0 cI:Ĵ}{dH:Ģ}{b:B}{dT dc:cr}{s:St}
theorem LR{u w:Ĵ}{K:ck->aK->St->Prop}(h:u=cond dH 11 w)(ab:K .go (nv p Y aI dH g4 b d0 cI (.val<|au u) (.val<|au w) dc) s):nq n (.iff (.cmp (.v 13) [(.ne,.ite (.v 7) (.k<|.int 11)<|.v 14)]) [.ret<|.k<|.bool false] []) (nv p Y aI dH g4 b d0 cI (.val<|au u) (.val<|au w) dc) s K:=by
 subst h;induction dH using Bool.casesOn with
 |true=>exact ab
 |false=>exact bh.ik (BO _) ab
theorem Hx{S:dz}{u:Ĵ}(T:Rows S.R)(ae:p.ok)(az:(Y:ĵ)=0\/(Y:ĵ)=1\/(Y:ĵ)=2)(q:∀s,Q (.bool true) s)(h:dH=false->ee λrow N=>dY (S.R[u]?=some row) (Va row N) (∀K:B->St->Prop,(∀bZ:Lm kp,(∀c∈bZ,i_ c.1/\∀x∈N c.1,pK S (n+38) row p Y c.1 c.2 x)->K (.lst<|bZ.map oW) S.st)->bd (n+39) 88 [b] S.st K)):bw (n+39) [.ret<|.or [.v 7,.call 98 [.v 1,.ao (.at (.v 1) 0)<|.v 13,.v 5,.ao (.v 6)<|.k<|.int 0,.call 88 [.v 9]]]] (nv p Y aI dH g4 b d0 cI (.val<|au u) dT dc) S.st (λcM _ aq=>Q cM.val aq):=by
 induction dH using Bool.casesOn with
 |true=>exact q _
 |false=>obtain⟨row,N,G,E,aB⟩:=h rfl;exact ax.of (pX G)<|aB _ λbZ jg=>Wh (n:=n+31) T ae az E jg<|q _
theorem W'(g4:Ĵ):∃k:Ĵ,∀s,ho s (.lst [.int 6,.int 7]) (.int<|Int.fmod g4 2)=some (au k):=by
 rw[show(g4:ĵ).fmod 2=((g4%2:Ĵ):ĵ)from(C7 g4 2).symm];rcases tj (sO g4 (aH rfl))with e|e<;>rw[e]
 .exact⟨6,λ_=>rfl⟩
 .exact⟨7,λ_=>rfl⟩
theorem Sq{g9:dz}{t o fo dG:Ĵ}{M:Lm bO}{aj:Lm c2}{cy cT:ht}{eD:B}{b9 bQ:Ĳ (Ĵ×ĵ)}{e2:ĵ}(l_:Rows g9.R)(ae:p.good)(az:(Y:ĵ)=0\/(Y:ĵ)=1\/(Y:ĵ)=2)(dj:(aI:ĵ)=0\/(aI:ĵ)=1\/(aI:ĵ)=2)(o2:g9.R.length<=500)(m9:f9 g9.R d0 p.at)(h0:qt g9 t o fo M aj cy cT dG eD b9 bQ e2)(q:∀s,Q (.bool true) s):bw (n+40) (w4.body.drop 12) (nv p Y aI dH g4 (.a9<|m_ t fo M aj cy cT dG) d0 cI .un .un .un) g9.st (λcM _ aq=>Q cM.val aq):=by
 have a7:=h0.f;have Hj:=Xh h0.props h0.ok;have room:∀{cm k c},fL g9 cm c->Nat.ble (500+c+k) a3=true->cm.R.length+k<=a3:=λaQ h=>aJ (fO (aJ aQ.g.len<|fO o2 _) _)<|aH h;have fv:=h0.oP.trans (Ln cy).symm;have kF:=h0.ag.trans (Ln cT).symm;refine bw.rb (λK=>∀u jI,fL g9 jI 500->qw dH jI.R p.at Y aI (i4 M) b9 bQ u->K (au u) jI.st) (λK ab=>Hh l_ m9 az dj h0.src h0.row a7.x a7.f a7.b6 a7.l (room (.refl l_ (c:=0)) rfl) λu cm aQ cH=>ab u cm aQ<|Hj▸cH) λu jI q' cH=>bw.to _ _ (λK h=>h)<|bw.rb (λK=>∀w jw ca dv ds,fL jI jw 3000->jb jw.R p.at Y aI (i4 M) (be cy) (be cT) w ca dv ds->K (au w) jw.st) (λK ab=>UN (S:=jI) q'.g.ok ae.ok az dj h0.ok h0.fB h0.len h0.Ef h0.fH (room q' rfl) λw ca dv ds aa g to=>ab w _ ca dv ds (.w g) to) λw jw ca dv ds nY to=>?_;have nC:=q'.trans nY;have Gl:=h0.ex nC.g nC.D nC.X;have ix:u=cond dH 11 w:=qw.eq (dH:=dH) nY.g.ok a7.sD (cH.bf nY.g) to (λ_=>Iff.rfl) fv kF;refine bw.to _ _ (λK h=>LR ix h)<|bw.fY (λK=>∀tS dc,fL jw tS 600->K (nv p Y aI dH g4 (.a9<|m_ t fo M aj cy cT dG) d0 cI (.val<|au u) (.val<|au w) dc) tS.st) (λK ab=>?_) λtS dc Aj=>?_
 .refine Hh (S:=jw) (o:=fo) (aj:=aj.reverse) nY.g.ok (m9.bf nC.g) az dj (.obj Gl.xH) Gl.xH (λp ae=>a7.x p<|AA.mp ae) (λp ae=>a7.f p<|AA.mp ae) (by rw[List.map_reverse,List.Nodup,List.pairwise_reverse];exact a7.b6.imp λh e=>h e.symm) (aJ (fU JC) a7.l) (room nC rfl) λie l3 mN WM=>?_;refine bh.ik (by rw[WM.eq mN.g.ok a7.sD (to.bf mN.g) (λm=>by rw[U4,Hj]) fv kF,<-ix];exact BO _)<|TA (S:=l3) mN.g.ok a7.x a7.l (room (nC.trans mN) rfl) λmG dc C6=>?_;obtain⟨k,aE⟩:=W' g4;exact ax.of (aE _)<|zI (s:=mG.st) ⟨rfl,Br (S:=mG.x<|mG.X++[gP.cp<|.idx k<|.tup [.int 6,.int 0]]) C6.g.ok (f3.new (S:=mG)) (λ_ _ e=>nomatch e) (show mG.R.length+1<=a3 from room ((nC.trans mN).trans C6) rfl) λā XF=>ab _ _<|((mN.trans C6).trans (⟨XF,rfl,_,rfl⟩:fL mG ((mG.x<|mG.X++[gP.cp<|.idx k<|.tup [.int 6,.int 0]]).w ā) 1)).le<|aH rfl⟩
 .have Ea:=to.bf Aj.g;have m2:=aJ Ea.le<|aJ h0.len (aH rfl:4<=10);exact Hx (n:=n+1) Aj.g.ok ae.ok az q λh=>⟨_,_,by rw[ix,h];exact Ea.row,.inr<|.inr ⟨ca,dv,ds,rfl,rfl,m2⟩,λK ab=>MZ h0.ok a7.sD h0.len λbZ jg=>ab bZ λc ap=>⟨(jg c ap).ok,Vj Aj.g.ok ae az h0.ok m2 Ea<|jg c ap⟩⟩
end
theorem hd.inj{R:Lm B}(T:Rows R){b ev:Ĵ}{ai:Lm g5}{es:Lm (Ĵ×ĵ)}(h:hd b R es ai):∀{cA:Lm (Ĵ×ĵ)},hd ev R cA ai->es=cA:=by
 induction h with
 |nil=>exact λh=>by cases h;rfl
 |cons x _ ar=>exact λh=>by cases h with|cons y h=>rw[ar h,nE (x.2.1.inj T y.2.1)<|x.1.trans y.1.symm]
theorem IQ{t:Ĵ}{F:bG->Lm aG}{cI nm Y aI aV:ĵ}{ce:Lm (Ĵ×ĵ)}{aw:Lm ĵ}(T:Rows S.R)(h:f9 S.R t F)(az:Y=0\/Y=1\/Y=2)(dj:aI=0\/aI=1\/aI=2)(av:ce.map (·.2)=aw)(ae:aw∈hf)(E:aw≠[2])(ap:S.R.length+250<=a3)(q:∀u es aa,a_ S.R aa 250->hd 15 aa es (jU Y F aw)->aa[u]?=some (.tup [.int 12,.tup<|de es,.int<|gN aI aV])->Q (au u) (S.w aa).st):bd (n+19) 60 [.ref 10,fW cI nm t Y aI,.tup [.int 12,.tup<|de ce,.int aV]] S.st Q:=by
 have ah:ce.length=aw.length:=by rw[<-av,bR]
 have ag:iy (λm=>decide<|m∈[(0:ĵ)]) ((mj Y F (b' aw) 0 aw).map (·.2)) ce.length=oI Y aw:=by rw[Df,ah];rfl
 refine NF (M:=n6 Y aw) T h az dj (aJ (fU ah)<|aJ (wy aw ae)<|aH rfl) (by rw[av];exact FD aw ae) ap (by rw[av]) (by rw[ag];exact(Jk Y F aw).symm) ((JQ az ae).2.2 E) (by rw[Df,ah];exact((mx _ _).mp<|Vx az ae).imp fz fz) ?_;rw[ag];exact q
theorem VO{t src:Ĵ}{F:bG->Lm aG}{cI Y aI aV:ĵ}{ce:Lm (Ĵ×ĵ)}{aw:Lm ĵ}(T:Rows S.R)(h:f9 S.R t F)(az:Y=0\/Y=1\/Y=2)(dj:aI=0\/aI=1\/aI=2)(aM:S.R[src]?=some (.tup [.int 12,.tup<|de ce,.int aV]))(av:ce.map (·.2)=aw)(ae:aw∈hf)(E:aw≠[2])(ap:S.R.length+250<=a3)(q:∀u es aa,a_ S.R aa 250->hd 15 aa es (jU Y F aw)->aa[u]?=some (.tup [.int 12,.tup<|de es,.int<|gN aI aV])->Q (au u) (S.w aa).st):bd (n+20) 59 [.ref 10,fW cI (-1) t Y aI,au src] S.st Q:=by k_go;lk;exact v3 aM (.inr<|.inr<|.inr<|.inl rfl)<|IQ T h az dj av ae E ap q
theorem OR{p:cG}{Y aI:ĵ}{t aV:Ĵ}{es:hq}(T:Rows S.R)(ae:p.ok)(az:Y=0\/Y=1\/Y=2)(dj:aI=0\/aI=1\/aI=2)(on:es.map (·.2)∈hf)(nZ:aV<2)(ap:S.R.length+4000<=a3)(gd:es.map (·.2)=[2]->∀u x aa,a_ S.R aa 4000->d4.Ty aa x (fM Y<|p.at .N)->aa[u]?=some (hV x<|gN aI aV)->Q (au u) (S.w aa).st)(rG:es.map (·.2)≠[2]->∀u cA aa,a_ S.R aa 4000->hd 15 aa cA (jU Y p.at<|es.map (·.2))->aa[u]?=some (.tup [.int 12,.tup<|de cA,.int<|gN aI aV])->Q (au u) (S.w aa).st):bd (n+10) 86 [.ref 1,.int 16,p.aW,.tup [.int Y,.int aI],.a9<|ko t es aV] S.st Q:=by k_go;exact Ol T ae az dj on nZ ap gd rG
def nG(R:Lm B)(p:cG)(Y aI:ĵ)(aV:Ĵ)(aw:Lm ĵ)(u:Ĵ):Prop:=(aw=[2]/\∃x,d4.Ty R x (fM Y<|p.at .N)/\R[u]?=some (hV x<|gN aI aV))\/(aw≠[2]/\∃es,hd 15 R es (jU Y p.at aw)/\R[u]?=some (.tup [.int 12,.tup<|de es,.int<|gN aI aV]))
theorem nG.bf{R aa:Lm B}{p:cG}{Y aI:ĵ}{aV:Ĵ}{aw:Lm ĵ}{u c:Ĵ}(h:nG R p Y aI aV aw u)(g:a_ R aa c):nG aa p Y aI aV aw u:=by
 rcases h with⟨e,x,G,E⟩|⟨e,es,G,E⟩
 .exact .inl ⟨e,x,G.bf g,g.at E⟩
 .exact .inr ⟨e,es,G.bf g,g.at E⟩
theorem nG.inj{R:Lm B}(T:Rows R){p:cG}{Y aI:ĵ}{aV:Ĵ}{aw:Lm ĵ}{u w:Ĵ}(h:nG R p Y aI aV aw u)(aR:nG R p Y aI aV aw w):u=w:=by
 rcases h with⟨e,x,G,E⟩|⟨e,es,G,E⟩<;>rcases aR with⟨bx,ez,mu,l6⟩|⟨bx,cA,mu,l6⟩
 .rw[G.inj T mu]at E;exact T.inj E l6
 .exact absurd e bx
 .exact absurd bx e
 .rw[G.inj T mu]at E;exact T.inj E l6
theorem R2{es:hq}(bg:∀e∈es,Drawn e.1):∀r∈k4 es,wv (es.map (·.2)) r:=λr bm=>⟨λe a6=>by obtain⟨x,ay,h⟩:=PI es r bm e a6;rw[h];exact(bg x ay).len,by rw[<-OX];exact fy (f:=λr:hw=>r.map (·.2)) bm⟩
def HK(dH:Ģ)(R:Lm B)(p:cG)(Y aI:ĵ)(aV:Ĵ)(aw:Lm ĵ)(u:Ĵ):Prop:=cond dH (u=11)<|nG R p Y aI aV aw u
section
variable{n:Ĵ}{Q:B->St->Prop}{p:cG}{Y aI g4 d0 cI t aV:Ĵ}{dH:Ģ}{es:hq}
theorem Tf{S:dz}{dH:Ģ}(T:Rows S.R)(bk:f9 S.R d0 p.at)(az:(Y:ĵ)=0\/(Y:ĵ)=1\/(Y:ĵ)=2)(dj:(aI:ĵ)=0\/(aI:ĵ)=1\/(aI:ĵ)=2)(h:rL S.R t es aV)(ap:S.R.length+250<=a3)(q:∀u cm,fL S cm 250->HK dH cm.R p Y aI aV (es.map (·.2)) u->Q (au u) cm.st):bd (n+20) 59 [.ref 10,fW cI (yJ dH) d0 Y aI,au t] S.st Q:=by
 by_cases c:es.map (·.2)=[2]
 .obtain⟨e,a6⟩:=h.arr c;induction dH using Bool.casesOn with
  |true=>exact BW (nm:=17) a6 (.inr<|.inr<|.inl rfl)<|q 11 S (.refl T) rfl
  |false=>exact NZ T bk az dj a6 (aJ (gp (aH rfl) _) ap) λu x aa g ty ix=>q u _ (.w<|g.le<|aH rfl)<|.inl ⟨c,x,ty,ix⟩
 .obtain⟨ce,av,a6⟩:=h.tup c;induction dH using Bool.casesOn with
  |true=>exact BW (nm:=17) a6 (.inr<|.inr<|.inr<|.inl rfl)<|q 11 S (.refl T) rfl
  |false=>exact VO T bk az dj a6 av h.pat c ap λu cA aa g cf ix=>q u _ (.w g)<|.inr ⟨c,cA,cf,ix⟩
theorem Py{g9:dz}(l_:Rows g9.R)(ae:p.good)(az:(Y:ĵ)=0\/(Y:ĵ)=1\/(Y:ĵ)=2)(dj:(aI:ĵ)=0\/(aI:ĵ)=1\/(aI:ĵ)=2)(o2:g9.R.length<=500)(m9:f9 g9.R d0 p.at)(lr:rL g9.R t es aV)(q:∀s,Q (.bool true) s):bw (n+40) (w4.body.drop 12) (nv p Y aI dH g4 (.a9<|ko t es aV) d0 cI .un .un .un) g9.st (λcM _ aq=>Q cM.val aq):=by
 have iV:es.length<=5:=by have:=wy _ lr.pat;rw[bR]at this;exact this
 have room:∀{cm k c},fL g9 cm c->Nat.ble (500+c+k) a3=true->cm.R.length+k<=a3:=λaQ h=>aJ (fO (aJ aQ.g.len<|fO o2 _) _)<|aH h;refine bw.rb (λK=>∀u jI,fL g9 jI 250->HK dH jI.R p Y aI aV (es.map (·.2)) u->K (au u) jI.st) (λK ab=>Tf l_ m9 az dj lr (room (.refl l_ (c:=0)) rfl) ab) λu jI q' cH=>bw.to _ _ (λK h=>h)<|bw.rb (λK=>∀w jw,fL jI jw 4000->nG jw.R p Y aI aV (es.map (·.2)) w->K (au w) jw.st) (λK ab=>OR (S:=jI) q'.g.ok ae.ok az dj lr.pat lr.nZ (room q' rfl) (λc w x aa g ty e=>ab w _ (.w g)<|.inl ⟨c,x,ty,e⟩) λc w cA aa g cf e=>ab w _ (.w g)<|.inr ⟨c,cA,cf,e⟩) λw jw nY i9=>?_;have nC:=q'.trans nY;have ix:u=cond dH 11 w:=by
  induction dH using Bool.casesOn with
  |true=>exact cH
  |false=>exact(nG.bf cH nY.g).inj nY.g.ok i9
 refine bw.to _ _ (λK h=>LR ix h)<|bw.fY (λK=>∀l3 dc,fL jw l3 250->K (nv p Y aI dH g4 (.a9<|ko t es aV) d0 cI (.val<|au u) (.val<|au w) dc) l3.st) (λK ab=>?_) λl3 dc mN=>?_
 .by_cases c:es.map (·.2)=[2]
  .have av:(!decide (es.map (·.2)=[2]))=false:=by rw[dQ c];rfl
   exact bh.ik av<|bh.ik av<|ab jw _<|.refl nY.g.ok
  .obtain⟨ce,av,a6⟩:=(lr.bf nC.g).tup c;refine bh.mz (by rw[eC c];rfl) ?_;lk;exact IQ (S:=jw) nY.g.ok (m9.bf nC.g) az dj av lr.pat c (room nC rfl) λv cA aa g cf e=>bh.ik (by rw[nG.inj g.ok (.inr ⟨c,cA,cf,e⟩)<|i9.bf g];exact BO _)<|ab _ _<|.w g
 .refine Hx (n:=n+1) mN.g.ok ae.ok az q λh=>?_;replace ix:u=w:=by rw[ix,h];rfl
  have Dq:=R2 lr.t7;have bZ:∀{N:cS->Lm bv} {row:B},(∀r∈k4 es,∀x∈N (gn 0 r),pK l3 (n+39) row p Y (gn 0 r) [91] x)->∀K:B->St->Prop,(∀bZ:Lm kp,(∀c∈bZ,i_ c.1/\∀x∈N c.1,pK l3 (n+39) row p Y c.1 c.2 x)->K (.lst<|bZ.map oW) l3.st)->bd (n+40) 88 [.a9<|ko t es aV] l3.st K:=λ{N row} c' K ab=>OG (n:=n+38) iV (ab _ λc ap=>by obtain⟨r,bm,e⟩:=dn.mp ap;rw[<-e];exact⟨(Dq r bm).slt lr.pat,c' r bm⟩);rcases i9.bf mN.g with⟨c,x,ty,rc⟩|⟨c,cA,cf,rc⟩
  .exact⟨_,λz=>z.map (·.1),ix▸rc,.inl ⟨x,_,rfl,λ_=>rfl⟩,bZ λr bm=>Wm mN.g.ok ae az ty<|c▸Dq r bm⟩
  .exact⟨_,su<|b'<|cA.map (·.2),ix▸rc,.inr<|.inl ⟨cA,_,rfl,rfl,by rw[cf.len,jU,uo,uj,bR];exact iV⟩,bZ λr bm=>OC mN.g.ok ae az lr.pat cf<|Dq r bm⟩
end
theorem Ã{n:Ĵ}{Q:B->St->Prop}{g9:dz}{p:cG}{Y aI g4 d0 cI:Ĵ}{dH:Ģ}{t:Ĵ}{st:Ģ}(l_:Rows g9.R)(ae:p.good)(az:(Y:ĵ)=0\/(Y:ĵ)=1\/(Y:ĵ)=2)(dj:(aI:ĵ)=0\/(aI:ĵ)=1\/(aI:ĵ)=2)(o2:g9.R.length<=500)(m9:f9 g9.R d0 p.at)(D7:sc g9.R t st)(q:∀s,Q (.bool true) s):bw (n+40) (w4.body.drop 12) (nv p Y aI dH g4 (.a9<|xQ t st) d0 cI .un .un .un) g9.st (λcM _ aq=>Q cM.val aq):=by
 refine bw.rb (λK=>∀s,K (.int<|if st=true then(t:ĵ)else 11) s) (λK ab=>?_) λs=>?_
 .rcases D7 with⟨rfl,h⟩|⟨rfl,h⟩
  .exact U6 l_ h<|ab _
  .exact Ò l_ m9 az dj (by induction dH using Bool.casesOn with|true=>exact .inr rfl|false=>exact .inl rfl) h (aJ (fO o2 _)<|aH rfl) λaa d_ g=>ab _
 .induction st using Bool.casesOn with
  |true=>have fd:=q s;rw[<-show decide ((t:ĵ)=t)=true from dQ rfl]at fd;exact fd
  |false=>exact q s
theorem TO{n:Ĵ}{nums:Lm B}{Q:B->St->Prop}(c':n4 nums)(q:∀s,Q (.bool true) s):bd (n+41) 99 [.ref 0] [.ls [.int 0,.lst nums]] Q:=by
 have A2:=rs;k_go;refine We (i9:=List.replicate 11 .un)<|Ye (S:=lX nums) c' (aH rfl) λp d ae (bg:d<=14)=>?_;have wD:d+1<=15:=da bg;have y7:d+2<=16:=da wD;have L9:d+3<=17:=da y7;have A0:d+4<=18:=da L9;refine hI (S:=(lX nums).go d) c' (aJ bg<|aH rfl) (by decide) λY Ss=>hI (S:=(lX nums).go<|d+1) c' (aJ wD<|aH rfl) (by decide) λaI WE=>hI (S:=(lX nums).go<|d+2) c' (aJ y7<|aH rfl) (by decide) λv _=>hI (S:=(lX nums).go<|d+3) c' (aJ L9<|aH rfl) (by decide) λg4 Ĕ=>?_;have az:=LA Ss;have dj:=LA WE;refine bw.yQ 9 (λK=>∀(S:dz) w,vy S w->Rows S.R->S.R.length<=300->K (.val w) S.st) (λK ab=>?_)<|λkt O6 H3 KW Mv=>?_
 .have g':hm.length+200<=a3:=aH rfl;refine bh.ef (λba=>?_) λba=>?_
  .exact Sy (S:=(lX nums).go<|d+4) A2 c' (aJ A0<|aH rfl) rfl g' λcm t o fo M aj cy cT dG eD b9 bQ e2 h0 g ċ=>⟨rfl,_,rfl,ab cm _ (.inl ⟨t,o,fo,M,aj,cy,cT,dG,eD,b9,bQ,e2,rfl,h0⟩) g.ok<|aJ g.len<|aH rfl⟩
  .refine bh.ef (λfp=>?_) λfp=>?_
   .exact Q8 (S:=(lX nums).go<|d+4) A2 c' (aJ A0<|aH rfl) g' λt es aV aa nc lr g=>⟨rfl,_,rfl,ab ((((lX nums).go<|d+4).go nc).w aa) _ (.inr<|.inl ⟨t,es,aV,rfl,lr⟩) g.ok<|aJ g.len<|aH rfl⟩
   .exact ZD (S:=(lX nums).go<|d+4) A2 c' (aJ A0<|aH rfl) (aH rfl) λt st aa nc ct g=>⟨rfl,_,rfl,ab ((((lX nums).go<|d+4).go nc).w aa) _ (.inr<|.inr ⟨t,st,rfl,ct⟩) g.ok<|aJ g.len<|aH rfl⟩
 have room:∀{k},Nat.ble (300+k) a3=true->kt.R.length+k<=a3:=λ{k} e=>aJ (fO Mv k)<|aH e;refine bw.yQ 10 (λK=>∀d0 bu,a_ kt.R bu 100->f9 bu d0 p.at->K (.val<|au d0) (kt.w bu).st) (λK ab=>O3 (S:=kt) KW ae (room rfl) λd0 bu bj AB=>⟨rfl,_,rfl,ab d0 bu bj AB⟩) λd0 bu bj AB=>bw.yQ 11 (λK=>∀(k:Ĵ) dX,a_ bu dX 1->K (.val<|au k) (kt.w dX).st) (λK ab=>e4 (S:=kt.w bu) bj.ok rfl (bj.room (room (k:=200) rfl)<|aH rfl) λcI dX cK _=>⟨rfl,_,rfl,ab cI dX cK⟩) λcI dX cK=>?_;have uI:fL kt (kt.w dX) 101:=.w<|bj.trans cK;have l_:Rows (kt.w dX).R:=cK.ok;have o2:(kt.w dX).R.length<=500:=aJ uI.g.len<|aJ (fO Mv 101)<|aH rfl;have m9:=AB.bf cK;have TC:vy (kt.w dX) O6:=H3.ex uI;have Ĥ:dX[17]?=some (.tup [.int 10,.int 1]):=cK.ok.at rfl;generalize decide ((v:ĵ)=4)=dH;refine bw.yQ 12 (λK=>K (.val<|fW cI (yJ dH) d0 Y aI) (kt.w dX).st) (λK ab=>?_) ?_
 .induction dH with
  |true=>lk;exact⟨rfl,_,rfl,ab⟩
  |false=>lk;exact⟨rfl,_,rfl,ab⟩
 clear H3 uI KW;rcases TC with⟨t,o,fo,M,aj,cy,cT,dG,eD,b9,bQ,e2,rfl,h0⟩|⟨t,es,aV,rfl,lr⟩|⟨t,st,rfl,D7⟩
 .exact Sq l_ ae az dj o2 m9 h0 q
 .exact Py l_ ae az dj o2 m9 lr q
 .exact Ã l_ ae az dj o2 m9 D7 q
theorem Uo{n:Ĵ}{l:Lm ĵ}{Q:B->St->Prop}(q:∀s,Q (.bool true) s):bd (n+43) 100 [.lst<|l.map .int] [] Q:=by
 have fin:∀(nums:Lm B),n4 nums->∀sx Kh,bw (n+42) [.ret<|.call 99 [.box<|.lst [.k<|.int 0,.v 1]]] [sx,.val<|.lst nums,Kh] [] (λcM _ aq=>Q cM.val aq):=λnums c' sx Kh=>TO c' q;have H':∀k:Lm ĵ,k≠[]->k.length<=48->n4 (k.map .int):=λk G E=>⟨λe=>G<|List.map_eq_nil_iff.mp e,λv af=>by obtain⟨i,_,rfl⟩:=dn.mp af;clear af;exact⟨i,rfl⟩,by rw[bR];exact fK ‹_›⟩;k_go;refine di.oM (x:=.lst<|(l.take 48).map .int) rfl (λ_ h=>by rw[List.map_take]at h;exact h)<|fj.mp (f:=.int) (all:=l.take 48) rfl (λdone K=>K (done.map λi=>B.int<|Int.fmod i 99991) []) (λdone i a' e K ab=>?_) ?_ λK h=>h
 .rw[c4]at ab;exact eN.mk ab
 have e:(l.take 48).map (λi=>B.int<|Int.fmod i 99991)=((l.take 48).map λi=>Int.fmod i 99991).map .int:=by rw[f8];rfl
 rw[e];have aN:((l.take 48).map λi=>Int.fmod i 99991).length<=48:=by rw[bR,xI];exact Ec _ _
 generalize(l.take 48).map (λi=>Int.fmod i 99991)=m at aN;by_cases aF:m=[]
 .subst aF;exact fin ([0,2,0,1,0,0,0,0,0,5,1,2,1,0,0,4,5,38,1,0,3,1].map .int) (H' _ (by simp)<|by simp) _ _
 .lk;rw[bR];exact bh.ft (λe=>aF<|zA.mp<|o'.mp e)<|fin (m.map .int) (H' m aF aN) _ _
theorem Rm(l:Lm ĵ):bd 100 100 [.lst<|l.map .int] [] λv s=>v=.bool true:=Uo (n:=57) λ_=>rfl
end
open PySem PySem.W PyProof.Rows PySem.Calls PySem.SeqAt PySem.Spec
set_option tactic.hygienic true
noncomputable abbrev fk:Program:=PySem.Challenge.pw_up0039_01
def body:Lm Stmt:=fk.main.body
def aL (i:Ĵ):Stmt:=(body.drop i).headD<|.Pass ⟨0,0,0,0⟩
def gB:Stmt->Lm Stmt
 |.ClassDef _ _ _ b _ _ _ _ _ _ _=>b
 |_=>[]
def dx (i j:Ĵ):Stmt:=((gB<|aL i).drop j).headD<|.Pass ⟨0,0,0,0⟩
def nm:Stmt->Str
 |.FunctionDef n _ _ _ _ _ _ _ _ _=>n
 |_=>Str.empty
def k8:Stmt->Arguments
 |.FunctionDef _ a _ _ _ _ _ _ _ _=>a
 |_=>⟨[],[],none,[],[],none,[]⟩
def qj:Stmt->Lm Stmt
 |.FunctionDef _ _ b _ _ _ _ _ _ _=>b
 |_=>[]
def b9:Stmt->Scope
 |.FunctionDef _ _ _ _ _ _ s _ _ _=>s
 |_=>fk.main.scope
def g3 (a n:Ĵ):Lm Stmt:=(body.drop a).take n
noncomputable abbrev N:Ę:=.none
noncomputable abbrev TT:Ę:=.bool true
noncomputable abbrev Ô:Ę:=.bool false
noncomputable abbrev I (i t:Ĵ):Ę:=.int (Int.ofNat i) t
noncomputable abbrev dI (i t:Ĵ):Ę:=.int (Int.negSucc i) t
noncomputable abbrev S (s:String) (t:Ĵ):Ę:=.str (Str.ofString s) t
noncomputable abbrev ai (t:Ĵ):Ę:=.str (Str.ofString "/claim/cut.py") t
noncomputable abbrev T (n:String):Ę:=.type n
noncomputable abbrev U (n:String):Ę:=.builtin n
noncomputable abbrev R (a:Ĵ):Ę:=.ref a
noncomputable abbrev O (P:Params) (x:String) (t:Ĵ) (v:Ę):DictEntry:=⟨PyData.keyHash P<|Str.ofString x,.str (Str.ofString x) t,v⟩
noncomputable abbrev Q (c:Ę) (l:Lm Ę):Obj:=⟨c,none,.seq ⟨l⟩ 0,#[]⟩
noncomputable abbrev cX (c:Ę) (l:Lm Ę):Obj:=⟨c,none,.fields ⟨l⟩,#[]⟩
noncomputable abbrev Bg (x:Stmt) (bb:String) (ov xu c:Ę):Obj:=⟨.type "function",none,.func {name:=nm x,qualname:=Str.ofString bb,params:=k8 x,body:=.stmts<|qj x,scope:=b9 x,globals:=3,closure:=[],defaults:=ov,kwdefaults:=.none,doc:=.none,pyModule:=xu,annotations:=none,code:=c,closureTuple:=.none,builtins:=0},#[]⟩
noncomputable abbrev HQ (x:Stmt) (bb:String):Obj:=⟨.none,none,.func {name:=nm x,qualname:=Str.ofString bb,params:=k8 x,body:=.stmts<|qj x,scope:=b9 x,globals:=0,closure:=[],defaults:=.none,kwdefaults:=.none,doc:=.none,pyModule:=.none,annotations:=none,code:=.none,closureTuple:=.none,builtins:=0},#[]⟩
def hz:Obj:=Q (T "tuple") []
noncomputable abbrev bb (l:Lm Ę):Obj:=Q (T "tuple") l
def iT:Obj:=cX (T "builtin_function_or_method") [U "type.__prepare__",T "type"]
noncomputable abbrev oC (r:Ę):Obj:=cX (T "builtin_function_or_method") [U "object.__init_subclass__",r]
noncomputable abbrev nj (l:Lm Ę):Obj:=cX (T "getset_descriptor") l
noncomputable abbrev oB (r:Ĵ):Obj:=cX (T "super") [R r,R r,R r]
noncomputable abbrev jj (a b:Ĵ) (m:Ę):Obj:=⟨T "frame",none,.plain,#[some<|R a,some<|R 3,some<|R b,none,some m,none,some<|R 0]⟩
noncomputable abbrev hX (l:Lm DictEntry) (n:Ĵ):Obj:=⟨T "dict",none,.dict ⟨l⟩ n,#[]⟩
noncomputable abbrev eQ (n:String) (b m:Lm Ę) (ns:Ĵ) (mT:Lm Ę) (l:Lm (Ĳ Ę)):Obj:=⟨T "type",none,.cls {name:=n,bases:=b,mro:=m,ns:=ns,qualname:=n,hasDict:=true,slotNames:=[],subclasses:=mT,abstract:=false,collection:=none,hasDel:=false},⟨l⟩⟩
def wJ:Ĵ->Lm String->Lm Ę
 |_,[]=>[]
 |t,s::r=>S s t::wJ (t+1) r
noncomputable abbrev c8 (t:Ĵ) (l:Lm String):Obj:=Q (T "tuple")<|wJ t l
noncomputable abbrev CS (n bb:String) (t l a f r:Ĵ) (b x y hz:Ę) (u:Ĵ):Obj:=cX (T "code") [S n t,S bb<|t+1,ai<|t+2,I l 0,I a 0,I 0 0,I 0 0,I f 0,R r,b,I 181 0,R<|r+1,N,x,y,hz,I u 0,I l 0,ai<|u+1]
noncomputable abbrev nx (n:String) (t l r u:Ĵ):Obj:=CS n n t l 0 0 r Ô N N N u
def eV (r:Ĵ) (x:Stmt) (p n:String) (t l a:Ĵ) (vs:Lm String) (ov m:Ę):Lm Obj:=
 match vs with
 |[]=>[hz,cX N [],HQ x p,CS n p t l a 3 r TT N N (R<|r+2)<|t+3,Bg x p ov m<|R<|r+3]
 |v::w=>[hz,cX N [],c8 (t+3)<|v::w,hz,HQ x p,CS n p t l a 3 r TT (R<|r+2) (R<|r+3) (R<|r+4)<|t+3+(v::w).length,Bg x p ov m<|R<|r+5]
noncomputable abbrev b3 (r:Ĵ) (x:Stmt) (n:String) (t l a:Ĵ) (vs:Lm String) (ov m:Ę):Lm Obj:=eV r x n n t l a vs ov m
noncomputable abbrev JG:Ę:=S "__main__" 164
noncomputable abbrev gh:Ę:=S "kindkeep.diags" 194
noncomputable abbrev ed:Ę:=S "kindkeep.types" 283
noncomputable abbrev L7:Ę:=S "kindkeep.shapes" 764
noncomputable abbrev fg:Ę:=S "kindkeep.hosts" 779
noncomputable abbrev po:Ę:=S "kindkeep.kindtpl" 1055
noncomputable abbrev Au:Ę:=S "kindkeep.kindkeys" 1140
noncomputable abbrev f1:Ę:=S "kindkeep.kindmap" 1149
noncomputable abbrev xg:Ę:=S "kindkeep.kinds" 1421
noncomputable abbrev op:Ę:=S "kindkeep.plainput" 1453
noncomputable abbrev nh:Ę:=S "kindkeep.keyhost" 1519
noncomputable abbrev fD:Ę:=S "law_up0039_01" 1594
def Q2 (P:Params):Lm DictEntry:=[O P "_wall" 193<|R 21,O P "KeepError" 226<|R 39,O P "TooDeep" 255<|R 60,O P "HostFault" 282<|R 80,O P "Y_KEY" 286<|I 1 285,O P "Y_BOOL" 288<|I 2 287,O P "Y_STR" 290<|I 3 289,O P "Y_NUM" 292<|I 4 291,O P "Y_ENUM" 294<|I 5 293,O P "Y_UNION" 296<|I 6 295,O P "Y_INTER" 298<|I 7 297,O P "Y_OBJ" 300<|I 8 299,O P "Y_REF" 302<|I 9 301,O P "Y_PARAM" 304<|I 10 303,O P "Y_ARRAY" 306<|I 11 305,O P "Y_TUPLE" 308<|I 12 307,O P "Y_SIG" 310<|I 13 309,O P "Y_KEYOF" 312<|I 14 311,O P "Y_INDEX" 314<|I 15 313,O P "Y_COND" 316<|I 16 315,O P "Y_MAPPED" 318<|I 17 317,O P "Y_TPL" 320<|I 18 319,O P "Y_ALIAS" 322<|I 19 321,O P "ANY" 324<|I 0 323,O P "UNKNOWN" 326<|I 1 325,O P "NEVER" 328<|I 2 327,O P "VOID" 330<|I 3 329,O P "UNDEF" 332<|I 4 331,O P "NULLT" 334<|I 5 333,O P "STRING" 336<|I 6 335,O P "NUMBER" 338<|I 7 337,O P "FALSE_T" 340<|I 8 339,O P "TRUE_T" 342<|I 9 341,O P "OBJECTT" 344<|I 10 343,O P "EMPTY" 346<|I 11 345,O P "BOOLEAN" 348<|I 12 347,O P "ERR" 350<|I 13 349,O P "FRESH_F" 352<|I 14 351,O P "FRESH_T" 354<|I 15 353,O P "P_OPT" 356<|I 1 355,O P "P_READONLY" 358<|I 2 357,O P "P_METHOD" 360<|I 4 359,O P "P_PRIVATE" 362<|I 8 361,O P "P_PROTECTED" 364<|I 16 363,O P "P_GETONLY" 366<|I 32 365,O P "P_ACCESS" 368<|I 64 367,O P "E_NEED" 370<|I 0 369,O P "E_OPT" 372<|I 1 371,O P "E_REST" 374<|I 2 373,O P "E_SPREAD" 376<|I 3 375,O P "D_INTERFACE" 378<|I 2 377,O P "FAM_OTHER" 380<|I 0 379,O P "FAM_STR" 382<|I 1 381,O P "FAM_NUM" 384<|I 2 383,O P "FAM_BOOL" 386<|I 3 385,O P "FAM_NULL" 388<|I 4 387,O P "FAM_UNDEF" 390<|I 5 389,O P "FAM_VOID" 392<|I 6 391,O P "FAM_OBJ" 394<|I 7 393,O P "MAX_UNION" 396<|I 400 395,O P "FIRST_ROWS" 418<|R 105,O P "MARKED_ROWS" 419<|R 106,O P "OBJECT_ROWS" 420<|R 107,O P "KEY_FAMILIES" 427<|R 108,O P "TypeTable" 482<|R 139,O P "Decl" 527<|R 160,O P "kind_of" 535<|R 171,O P "str_type" 545<|R 179,O P "array_type" 555<|R 187,O P "last_mark" 565<|R 194,O P "needed_to_last" 578<|R 201,O P "one_rest" 592<|R 208,O P "tuple_type" 599<|R 214,O P "sorted_props" 605<|R 219,O P "obj_type" 619<|R 231,O P "sig_type" 632<|R 240,O P "func_type" 640<|R 247,O P "new_param" 655<|R 255,O P "new_decl" 665<|R 262,O P "parts_of" 674<|R 269,O P "whole_of_row" 682<|R 276,O P "regular_twin" 691<|R 283,O P "join_bools" 698<|R 290,O P "stays_beside" 707<|R 297,O P "top_of" 715<|R 304,O P "union" 721<|R 309,O P "without" 727<|R 314,O P "add_undef" 735<|R 321,O P "common_family" 741<|R 326,O P "meet_family" 752<|R 333,O P "family" 763<|R 340,O P "MOST_PLAIN" 767<|I 40 766,O P "PLAIN_ROWS" 768<|R 341,O P "plain_shape" 778<|R 348,O P "MOST_ROUNDS" 782<|I 200 781,O P "MOST_SHAPES" 784<|I 40 783,O P "Thin" 970<|R 491,O P "RefHost" 1012<|R 526,O P "told_places" 1020<|R 535,O P "find_prop" 1029<|R 542,O P "is_digits" 1035<|R 547,O P "prop_row" 1046<|R 554,O P "read_type" 1054<|R 561,O P "MOST_CROSSED" 1058<|I 200 1057,O P "OPEN_KINDS" 1059<|R 562,O P "is_open" 1071<|R 569,O P "unit_word" 1080<|R 576,O P "key_text" 1088<|R 583,O P "glue" 1096<|R 590,O P "hole_pieces" 1109<|R 597,O P "cross_holes" 1115<|R 602,O P "one_template" 1127<|R 609,O P "tpl_kind" 1139<|R 616,O P "is_public" 1148<|R 623,O P "Made" 1213<|R 659,O P "is_late_alias" 1219<|R 668,O P "undefless" 1228<|R 675,O P "optional_form" 1236<|R 682,O P "readonly_after" 1244<|R 689,O P "template_at" 1253<|R 696,O P "member_opt" 1261<|R 703,O P "member_kind" 1274<|R 710,O P "kindmap_member_flags" 1286<|R 717,O P "names_for" 1296<|R 724,O P "Keyed" 1329<|R 741,O P "put_member" 1348<|R 752,O P "build_members" 1362<|R 759,O P "shape_entries" 1374<|R 766,O P "map_array" 1387<|R 773,O P "spare_elem" 1396<|R 780,O P "map_elem" 1412<|R 787,O P "is_primitive" 1420<|R 794,O P "known_part" 1428<|R 799,O P "bound_tuple" 1442<|R 806,O P "lists_have" 1452<|R 813,O P "put_each" 1460<|R 818,O P "put_cell" 1469<|R 825,O P "put_shape" 1475<|R 830,O P "plainput_put_elems" 1481<|R 835,O P "put_call" 1487<|R 840,O P "without_own" 1497<|R 847,O P "put_late" 1508<|R 854,O P "plain_put" 1518<|R 861,O P "table_read" 1531<|R 868,O P "put_name" 1539<|R 875,O P "NameHost" 1593<|R 913,O P "_law_undef" 1598<|R 916,O P "_law_texts" 1601<|R 917,O P "_law_numbers" 1604<|R 918,O P "_law_take" 1613<|R 925,O P "_law_kind" 1624<|R 932,O P "_law_type" 1630<|R 937,O P "_law_atom" 1641<|R 944,O P "_law_back" 1647<|R 949,O P "_law_back_one" 1656<|R 956,O P "_law_plan" 1667<|R 963,O P "_law_at" 1680<|R 970,O P "_law_template" 1686<|R 975,O P "_law_object" 1692<|R 980,O P "_law_list" 1698<|R 985,O P "_law_lone" 1709<|R 992,O P "_law_slot" 1715<|R 997,O P "_law_told" 1740<|R 1004,O P "_law_told_list" 1746<|R 1009,O P "_law_choices" 1752<|R 1014,O P "_law_rows" 1758<|R 1019,O P "_law_numbered" 1767<|R 1026,O P "_law_own" 1773<|R 1031,O P "_law_free" 1784<|R 1038,O P "_law_after" 1799<|R 1045,O P "_law_digits" 1805<|R 1050,O P "_law_held" 1811<|R 1055,O P "_law_lies" 1817<|R 1060,O P "_law_rooms" 1823<|R 1065,O P "_law_sound" 1829<|R 1070,O P "_law_round" 1851<|R 1077,O P "law" 1857<|R 1082]
def YS:Lm Ę:=[I 1 0,I 0 0,R 20,I 5 0,I 0 0,R 27,I 10 0,I 0 0,R 48,I 15 0,I 0 0,R 68,I 81 0,I 0 0,R 114,I 107 0,I 0 0,R 149,I 125 0,I 0 0,R 170,I 127 0,I 0 0,R 178,I 129 0,I 0 0,R 186,I 131 0,I 0 0,R 193,I 137 0,I 0 0,R 200,I 147 0,I 0 0,R 207,I 158 0,I 0 0,R 213,I 166 0,I 0 0,R 218,I 171 0,I 0 0,R 230,I 173 0,I 0 0,R 239,I 175 0,I 0 0,R 246,I 177 0,I 0 0,R 254,I 183 0,I 0 0,R 261,I 187 0,I 0 0,R 268,I 194 0,I 0 0,R 275,I 203 0,I 0 0,R 282,I 208 0,I 0 0,R 289,I 212 0,I 0 0,R 296,I 216 0,I 0 0,R 303,I 221 0,I 0 0,R 308,I 238 0,I 0 0,R 313,I 240 0,I 0 0,R 320,I 242 0,I 0 0,R 325,I 246 0,I 0 0,R 332,I 255 0,I 0 0,R 339,I 275 0,I 0 0,R 347,I 293 0,I 0 0,R 354,I 355 0,I 0 0,R 501,I 365 0,I 0 0,R 534,I 372 0,I 0 0,R 541,I 377 0,I 0 0,R 546,I 380 0,I 0 0,R 553,I 388 0,I 0 0,R 560,I 393 0,I 0 0,R 568,I 410 0,I 0 0,R 575,I 425 0,I 0 0,R 582,I 429 0,I 0 0,R 589,I 431 0,I 0 0,R 596,I 446 0,I 0 0,R 601,I 463 0,I 0 0,R 608,I 474 0,I 0 0,R 615,I 481 0,I 0 0,R 622,I 484 0,I 0 0,R 629,I 516 0,I 0 0,R 667,I 525 0,I 0 0,R 674,I 531 0,I 0 0,R 681,I 535 0,I 0 0,R 688,I 541 0,I 0 0,R 695,I 543 0,I 0 0,R 702,I 545 0,I 0 0,R 709,I 555 0,I 0 0,R 716,I 564 0,I 0 0,R 723,I 571 0,I 0 0,R 730,I 577 0,I 0 0,R 751,I 598 0,I 0 0,R 758,I 607 0,I 0 0,R 765,I 619 0,I 0 0,R 772,I 624 0,I 0 0,R 779,I 630 0,I 0 0,R 786,I 639 0,I 0 0,R 793,I 642 0,I 0 0,R 798,I 654 0,I 0 0,R 805,I 665 0,I 0 0,R 812,I 676 0,I 0 0,R 817,I 678 0,I 0 0,R 824,I 680 0,I 0 0,R 829,I 686 0,I 0 0,R 834,I 692 0,I 0 0,R 839,I 697 0,I 0 0,R 846,I 703 0,I 0 0,R 853,I 718 0,I 0 0,R 860,I 736 0,I 0 0,R 867,I 747 0,I 0 0,R 874,I 753 0,I 0 0,R 881,I 774 0,I 0 0,R 924,I 778 0,I 0 0,R 931,I 786 0,I 0 0,R 936,I 788 0,I 0 0,R 943,I 799 0,I 0 0,R 948,I 804 0,I 0 0,R 955,I 815 0,I 0 0,R 962,I 825 0,I 0 0,R 969,I 837 0,I 0 0,R 974,I 850 0,I 0 0,R 979,I 879 0,I 0 0,R 984,I 897 0,I 0 0,R 991,I 911 0,I 0 0,R 996,I 916 0,I 0 0,R 1003,I 933 0,I 0 0,R 1008,I 954 0,I 0 0,R 1013,I 980 0,I 0 0,R 1018,I 991 0,I 0 0,R 1025,I 996 0,I 0 0,R 1030,I 1007 0,I 0 0,R 1037,I 1017 0,I 0 0,R 1044,I 1025 0,I 0 0,R 1049,I 1027 0,I 0 0,R 1054,I 1036 0,I 0 0,R 1059,I 1038 0,I 0 0,R 1064,I 1057 0,I 0 0,R 1069,I 1072 0,I 0 0,R 1076,I 1103 0,I 0 0,R 1081]
def hk (P:Params) (m:Ę) (k n:Ĵ):Obj:=⟨T "dict",none,.dict ⟨[O P "__name__" 165 m,O P "__doc__" 166 N,O P "__package__" 167 N,O P "__loader__" 168<|U "__main__.__loader__#opaque",O P "__spec__" 169 N,O P "__annotations__" 170<|R 6,O P "__builtins__" 171<|R 4,O P "__file__" 173<|ai 172,O P "__cached__" 174 N]++(Q2 P).take k⟩ n,#[]⟩
def hB (k:Ĵ):Obj:=⟨N,none,.fields ⟨YS.take k⟩,#[]⟩
def EN (P:Params):Obj:=⟨N,none,.dict ⟨[O P "type.__subclasses__.Exception.0" 223<|I 39 0,O P "type.__subclasses__.Exception.n" 224<|I 1 0]⟩ 2,#[]⟩
def Vc (P:Params):Lm Obj:=[PySem.W.boot_o_0 P,PySem.W.boot_o_1 P,EN P,hk P fD 177 186,PySem.W.boot_o_4 P,PySem.W.boot_o_5 P,PySem.W.boot_o_6 P,PySem.W.boot_o_7 P,PySem.W.boot_o_8 P,PySem.W.boot_o_9 P,PySem.W.boot_o_10 P,hz,hB 324,nx "<module>" 182 1 11 185,jj 13 3 JG]++(b3 15 (aL 0) "_wall" 187 1 1 ["k"] N JG++([bb [T "Exception"],iT,hX [O P "__module__" 203 gh,O P "__qualname__" 205<|S "KeepError" 204,O P "__firstlineno__" 207<|I 5 206,O P "__init__" 216<|R 36,O P "__static_attributes__" 219<|R 37] 5,hz,cX N [I 7 0,I 4 0,R 35],nx "KeepError" 198 5 25 201,jj 27 24 gh,bb [S "" 208]]++(eV 30 (dx 2 0) "KeepError.__init__" "__init__" 209 7 2 ["self","text"] (R 29) gh++([c8 217 ["number","text"],hX [O P "__module__" 203 gh,O P "__firstlineno__" 207<|I 5 206,O P "__init__" 216<|R 36,O P "__static_attributes__" 219<|R 37,O P "__weakref__" 221<|R 40,O P "__doc__" 222 N] 3,eQ "KeepError" [T "Exception"] [R 39,T "Exception",T "BaseException",T "object"] 38 [R 60,R 80] [some<|R 22,none,some<|S "KeepError" 196,some<|S "KeepError" 204,some<|U "Exception.__new__",some TT],nj [S "__weakref__" 220,R 39,U "ExceptionGroup.__weakref__",N],oB 39,oC<|R 39,bb [R 39],iT,hX [O P "__module__" 234 gh,O P "__qualname__" 236<|S "TooDeep" 235,O P "__firstlineno__" 238<|I 10 237,O P "__init__" 249<|R 57,O P "__static_attributes__" 252<|R 58] 5,hz,cX N [I 12 0,I 4 0,R 56],nx "TooDeep" 229 10 46 232,jj 48 45 gh,bb [I 2589 239,S "" 240]]++(eV 51 (dx 3 0) "TooDeep.__init__" "__init__" 241 12 3 ["self","number","text"] (R 50) gh++([c8 250 ["number","text"],hX [O P "__module__" 234 gh,O P "__firstlineno__" 238<|I 10 237,O P "__init__" 249<|R 57,O P "__static_attributes__" 252<|R 58,O P "__doc__" 253 N] 2,eQ "TooDeep" [R 39] [R 60,R 39,T "Exception",T "BaseException",T "object"] 59 [] [some<|R 43,none,some<|S "TooDeep" 227,some<|S "TooDeep" 235,some<|U "Exception.__new__",some TT],oB 60,oC<|R 60,bb [R 39],iT,hX [O P "__module__" 263 gh,O P "__qualname__" 265<|S "HostFault" 264,O P "__firstlineno__" 267<|I 15 266,O P "__init__" 276<|R 77,O P "__static_attributes__" 279<|R 78] 5,hz,cX N [I 17 0,I 4 0,R 76],nx "HostFault" 258 15 66 261,jj 68 65 gh,bb [S "" 268]]++(eV 71 (dx 4 0) "HostFault.__init__" "__init__" 269 17 2 ["self","text"] (R 70) gh++([c8 277 ["number","text"],hX [O P "__module__" 263 gh,O P "__firstlineno__" 267<|I 15 266,O P "__init__" 276<|R 77,O P "__static_attributes__" 279<|R 78,O P "__doc__" 280 N] 2,eQ "HostFault" [R 39] [R 80,R 39,T "Exception",T "BaseException",T "object"] 79 [] [some<|R 63,none,some<|S "HostFault" 256,some<|S "HostFault" 264,some<|U "Exception.__new__",some TT],oB 80,oC<|R 80,bb [I 1 285,S "any" 397],bb [I 1 285,S "unknown" 398],bb [I 1 285,S "never" 399],bb [I 1 285,S "void" 400],bb [I 1 285,S "undefined" 401],bb [I 1 285,S "null" 402],bb [I 1 285,S "string" 403],bb [I 1 285,S "number" 404],bb [I 2 287,I 0 405,I 0 406],bb [I 2 287,I 1 407,I 0 408],bb [I 1 285,S "object" 409],hz,hz,hz,hz,hz,bb [I 8 299,R 94,R 95,R 96,R 97,R 98,I 0 410],bb [I 8 411,I 9 412],bb [I 6 295,R 100],bb [I 1 285,S "error" 413],bb [I 2 287,I 0 414,I 1 415],bb [I 2 287,I 1 416,I 1 417],bb [R 83,R 84,R 85,R 86,R 87,R 88,R 89,R 90,R 91,R 92,R 93,R 99,R 101,R 102,R 103,R 104],bb [I 2 287,I 3 289,I 4 291,I 5 293,I 8 299],bb [I 8 299,I 9 301,I 11 305,I 12 307,I 13 309],hX [⟨3,I 3 329,I 6 391⟩,⟨4,I 4 331,I 5 389⟩,⟨5,I 5 333,I 4 387⟩,⟨6,I 6 335,I 1 381⟩,⟨7,I 7 337,I 2 383⟩,⟨10,I 10 343,I 7 393⟩] 6,hz,iT,hX [O P "__module__" 435 ed,O P "__qualname__" 437<|S "TypeTable" 436,O P "__firstlineno__" 439<|I 81 438,O P "__init__" 447<|R 122,O P "row" 455<|R 129,O P "put" 464<|R 136,O P "__static_attributes__" 475<|R 137] 7,hz,cX N [I 83 0,I 4 0,R 121,I 97 0,I 4 0,R 128,I 100 0,I 4 0,R 135],nx "TypeTable" 430 81 112 433,jj 114 111 ed]++(eV 116 (dx 66 0) "TypeTable.__init__" "__init__" 440 83 1 ["self","row"] N ed++(eV 123 (dx 66 1) "TypeTable.row" "row" 448 97 2 ["self","t"] N ed++(eV 130 (dx 66 2) "TypeTable.put" "put" 456 100 2 ["self","row","t"] N ed++([c8 465 ["bounds","decls","defaults","index","names","origins","putting","renamed","rows","shaping"],hX [O P "__module__" 435 ed,O P "__firstlineno__" 439<|I 81 438,O P "__init__" 447<|R 122,O P "row" 455<|R 129,O P "put" 464<|R 136,O P "__static_attributes__" 475<|R 137,O P "__dict__" 477<|R 140,O P "__weakref__" 479<|R 141,O P "__doc__" 480 N] 4,eQ "TypeTable" [T "object"] [R 139,T "object"] 138 [] [none,none,some<|S "TypeTable" 428,some<|S "TypeTable" 436,some<|U "object.__new__",some TT],nj [S "__dict__" 476,R 139,U "function.__dict__",U "function.__dict__#set"],nj [S "__weakref__" 478,R 139,U "ExceptionGroup.__weakref__",N],oB 139,oC<|R 139,hz,iT,hX [O P "__module__" 490 ed,O P "__qualname__" 492<|S "Decl" 491,O P "__firstlineno__" 494<|I 107 493,O P "__init__" 504<|R 157,O P "__static_attributes__" 520<|R 158] 5,hz,cX N [I 109 0,I 4 0,R 156],nx "Decl" 485 107 147 488,jj 149 146 ed]++(eV 151 (dx 67 0) "Decl.__init__" "__init__" 495 109 4 ["self","did","kind","name"] N ed++([c8 505 ["abstract","at","bases","body","busy","did","extends_class","file","kind","members","name","nid","params","static","variances"],hX [O P "__module__" 490 ed,O P "__firstlineno__" 494<|I 107 493,O P "__init__" 504<|R 157,O P "__static_attributes__" 520<|R 158,O P "__dict__" 522<|R 161,O P "__weakref__" 524<|R 162,O P "__doc__" 525 N] 4,eQ "Decl" [T "object"] [R 160,T "object"] 159 [] [none,none,some<|S "Decl" 483,some<|S "Decl" 491,some<|U "object.__new__",some TT],nj [S "__dict__" 521,R 160,U "function.__dict__",U "function.__dict__#set"],nj [S "__weakref__" 523,R 160,U "ExceptionGroup.__weakref__",N],oB 160,oC<|R 160]))))))))))))))
def yA (P:Params):Lm Obj:=b3 165 (aL 68) "kind_of" 528 125 2 ["tab","t"] N ed++([bb [I 0 536]]++(b3 173 (aL 69) "str_type" 537 127 3 ["tab","text","fresh"] (R 172) ed++([bb [I 0 546]]++(b3 181 (aL 70) "array_type" 547 129 3 ["tab","elem","ro"] (R 180) ed++(b3 188 (aL 71) "last_mark" 556 131 2 ["elems","marks","found","place"] N ed++(b3 195 (aL 72) "needed_to_last" 566 137 2 ["tab","elems","last","out","place","given","mark"] N ed++(b3 202 (aL 73) "one_rest" 579 147 3 ["tab","elems","last","first","place","held","given","mark"] N ed++([bb [I 0 593]]++(b3 210 (aL 74) "tuple_type" 594 158 3 [] (R 209) ed++(b3 215 (aL 75) "sorted_props" 600 166 1 [] N ed++([hz,hz,hz,hz,bb [R 220,R 221,R 222,R 223,I 0 606]]++(b3 225 (aL 76) "obj_type" 607 171 7 ["tab","props","calls","ctors","sindex","nindex","fresh"] (R 224) ed++([hz,bb [R 232,I 0 620]]++(b3 234 (aL 77) "sig_type" 621 173 6 ["tab","tparams","params","ret","pred","flags"] (R 233) ed++(b3 241 (aL 78) "func_type" 633 175 2 ["tab","sig"] N ed++([bb [dI 0 642,dI 0 644]]++(b3 249 (aL 79) "new_param" 645 177 4 ["tab","name","bound","default","pid"] (R 248) ed++(b3 256 (aL 80) "new_decl" 656 183 3 ["tab","kind","name","decl"] N ed++(b3 263 (aL 81) "parts_of" 666 187 2 ["tab","t","row"] N ed++(b3 270 (aL 82) "whole_of_row" 675 194 1 ["row","kind"] N ed++(b3 277 (aL 83) "regular_twin" 683 203 2 ["tab","t","row"] N ed++(b3 284 (aL 84) "join_bools" 692 208 1 ["got"] N ed++(b3 291 (aL 85) "stays_beside" 699 212 3 ["tab","got","t"] N ed++(b3 298 (aL 86) "top_of" 708 216 1 ["got","t"] N ed++(b3 305 (aL 87) "union" 716 221 2 [] N ed++(b3 310 (aL 88) "without" 722 238 3 [] N ed++(b3 315 (aL 89) "add_undef" 728 240 2 ["tab","t"] N ed++(b3 322 (aL 90) "common_family" 736 242 2 [] N ed++(b3 327 (aL 91) "meet_family" 742 246 2 ["tab","parts","found","part","fam"] N ed++(b3 334 (aL 92) "family" 753 255 2 ["tab","t","row","kind","whole"] N ed++([bb [I 1 285,I 2 287,I 3 289,I 4 291,I 5 293]]++(b3 342 (aL 96) "plain_shape" 769 275 2 ["tab","t","turn","row"] N L7++([hz,iT,hX [O P "__module__" 792 fg,O P "__qualname__" 794<|S "Thin" 793,O P "__firstlineno__" 796<|I 293 795,O P "__init__" 804<|R 362,O P "force" 812<|R 369,O P "put_deferred" 820<|R 376,O P "put_cond" 829<|R 383,O P "lay_row" 838<|R 390,O P "bound" 846<|R 397,O P "shape" 854<|R 404,O P "fits" 863<|R 411,O P "lies" 872<|R 418,O P "infers" 882<|R 425,O P "tpl_fits" 891<|R 432,O P "shape_fits" 900<|R 439,O P "put_in" 909<|R 446,O P "own_sig" 918<|R 453,O P "forget" 925<|R 460,O P "list_prop" 934<|R 467,O P "list_index" 942<|R 474,O P "elem_met" 950<|R 481,O P "error_class" 957<|R 488,O P "__static_attributes__" 963<|R 489] 23,hz,cX N [I 295 0,I 4 0,R 361,I 302 0,I 4 0,R 368,I 305 0,I 4 0,R 375,I 308 0,I 4 0,R 382,I 311 0,I 4 0,R 389,I 314 0,I 4 0,R 396,I 317 0,I 4 0,R 403,I 320 0,I 4 0,R 410,I 323 0,I 4 0,R 417,I 326 0,I 4 0,R 424,I 329 0,I 4 0,R 431,I 332 0,I 4 0,R 438,I 335 0,I 4 0,R 445,I 338 0,I 4 0,R 452,I 341 0,I 4 0,R 459,I 344 0,I 4 0,R 466,I 347 0,I 4 0,R 473,I 350 0,I 4 0,R 480,I 353 0,I 4 0,R 487],nx "Thin" 787 293 352 790,jj 354 351 fg]++(eV 356 (dx 100 0) "Thin.__init__" "__init__" 797 295 2 ["self","tab"] N fg++(eV 363 (dx 100 1) "Thin.force" "force" 805 302 2 ["self","t"] N fg++(eV 370 (dx 100 2) "Thin.put_deferred" "put_deferred" 813 305 2 ["self","row"] N fg++(eV 377 (dx 100 3) "Thin.put_cond" "put_cond" 821 308 3 ["self","row","mapping"] N fg++(eV 384 (dx 100 4) "Thin.lay_row" "lay_row" 830 311 3 ["self","row","mapping"] N fg++(eV 391 (dx 100 5) "Thin.bound" "bound" 839 314 2 ["self","t"] N fg++(eV 398 (dx 100 6) "Thin.shape" "shape" 847 317 2 ["self","t"] N fg++(eV 405 (dx 100 7) "Thin.fits" "fits" 855 320 3 ["self","s","t"] N fg++(eV 412 (dx 100 8) "Thin.lies" "lies" 864 323 3 ["self","s","t"] N fg++(eV 419 (dx 100 9) "Thin.infers" "infers" 873 326 4 ["self","pids","check","ext"] N fg++(eV 426 (dx 100 10) "Thin.tpl_fits" "tpl_fits" 883 329 3 ["self","s","t"] N fg++(eV 433 (dx 100 11) "Thin.shape_fits" "shape_fits" 892 332 3 ["self","s","t"] N fg++(eV 440 (dx 100 12) "Thin.put_in" "put_in" 901 335 3 ["self","t","mapping"] N fg++(eV 447 (dx 100 13) "Thin.own_sig" "own_sig" 910 338 3 ["self","s","erased"] N fg++(eV 454 (dx 100 14) "Thin.forget" "forget" 919 341 1 ["self"] N fg++(eV 461 (dx 100 15) "Thin.list_prop" "list_prop" 926 344 3 ["self","t","name"] N fg++(eV 468 (dx 100 16) "Thin.list_index" "list_index" 935 347 2 ["self","t"] N fg++(eV 475 (dx 100 17) "Thin.elem_met" "elem_met" 943 350 2 ["self","kinds"] N fg++(eV 482 (dx 100 18) "Thin.error_class" "error_class" 951 353 1 ["self"] N fg++([c8 958 ["deep","lib","most_deep","most_rounds","tab"],hX [O P "__module__" 792 fg,O P "__firstlineno__" 796<|I 293 795,O P "__init__" 804<|R 362,O P "force" 812<|R 369,O P "put_deferred" 820<|R 376,O P "put_cond" 829<|R 383,O P "lay_row" 838<|R 390,O P "bound" 846<|R 397,O P "shape" 854<|R 404,O P "fits" 863<|R 411,O P "lies" 872<|R 418,O P "infers" 882<|R 425,O P "tpl_fits" 891<|R 432,O P "shape_fits" 900<|R 439,O P "put_in" 909<|R 446,O P "own_sig" 918<|R 453,O P "forget" 925<|R 460,O P "list_prop" 934<|R 467,O P "list_index" 942<|R 474,O P "elem_met" 950<|R 481,O P "error_class" 957<|R 488,O P "__static_attributes__" 963<|R 489,O P "__dict__" 965<|R 492,O P "__weakref__" 967<|R 493,O P "__doc__" 968 N] 4,eQ "Thin" [T "object"] [R 491,T "object"] 490 [R 526] [none,none,some<|S "Thin" 785,some<|S "Thin" 793,some<|U "object.__new__",some TT],nj [S "__dict__" 964,R 491,U "function.__dict__",U "function.__dict__#set"],nj [S "__weakref__" 966,R 491,U "ExceptionGroup.__weakref__",N],oB 491,oC<|R 491,bb [R 491],iT,hX [O P "__module__" 978 fg,O P "__qualname__" 980<|S "RefHost" 979,O P "__firstlineno__" 982<|I 355 981,O P "shape" 990<|R 509,O P "fits" 999<|R 516,O P "lies" 1008<|R 523,O P "__static_attributes__" 1009<|R 524] 7,hz,cX N [I 357 0,I 4 0,R 508,I 360 0,I 4 0,R 515,I 363 0,I 4 0,R 522],nx "RefHost" 973 355 499 976,jj 501 498 fg])))))))))))))))))))))))))))))))))))))))))))))))))))))
def Z0 (P:Params):Lm Obj:=eV 503 (dx 101 0) "RefHost.shape" "shape" 983 357 2 ["self","t"] N fg++(eV 510 (dx 101 1) "RefHost.fits" "fits" 991 360 3 ["self","s","t"] N fg++(eV 517 (dx 101 2) "RefHost.lies" "lies" 1000 363 3 ["self","s","t"] N fg++([hz,hX [O P "__module__" 978 fg,O P "__firstlineno__" 982<|I 355 981,O P "shape" 990<|R 509,O P "fits" 999<|R 516,O P "lies" 1008<|R 523,O P "__static_attributes__" 1009<|R 524,O P "__doc__" 1010 N] 2,eQ "RefHost" [R 491] [R 526,R 491,T "object"] 525 [R 913] [some<|R 496,none,some<|S "RefHost" 971,some<|S "RefHost" 979,some<|U "object.__new__",some TT],oB 526,oC<|R 526]++(b3 529 (aL 102) "told_places" 1013 365 1 ["row","place"] N fg++(b3 536 (aL 103) "find_prop" 1021 372 2 ["row","name","prop"] N fg++(b3 543 (aL 104) "is_digits" 1030 377 1 [] N fg++(b3 548 (aL 105) "prop_row" 1036 380 3 ["host","t","name","row","prop"] N fg++(b3 555 (aL 106) "read_type" 1047 388 2 ["tab","prop"] N fg++([bb [I 10 303,I 14 311,I 15 313,I 16 315,I 17 317,I 19 321]]++(b3 563 (aL 110) "is_open" 1060 393 2 ["tab","t","row","part","elem","hole"] N po++(b3 570 (aL 111) "unit_word" 1072 410 2 ["tab","t","row"] N po++(b3 577 (aL 112) "key_text" 1081 425 2 ["tab","t"] N po++(b3 584 (aL 113) "glue" 1089 429 2 ["left","right"] N po++(b3 591 (aL 114) "hole_pieces" 1097 431 2 ["host","t","tab","pieces","part","word","row"] N po++(b3 598 (aL 115) "cross_holes" 1110 446 3 [] N po++(b3 603 (aL 116) "one_template" 1116 463 3 ["tab","texts","types","plain","text","t"] N po++(b3 610 (aL 117) "tpl_kind" 1128 474 3 ["host","texts","types","tab","made","joining"] N po++(b3 617 (aL 119) "is_public" 1142 481 1 ["prop"] N Au++([hz,iT,hX [O P "__module__" 1158 f1,O P "__qualname__" 1160<|S "Made" 1159,O P "__firstlineno__" 1162<|I 484 1161,O P "__init__" 1169<|R 637,O P "add" 1182<|R 644,O P "add_index" 1195<|R 651,O P "done" 1201<|R 656,O P "__static_attributes__" 1206<|R 657] 8,hz,cX N [I 486 0,I 4 0,R 636,I 492 0,I 4 0,R 643,I 503 0,I 4 0,R 650,I 513 0,I 4 0,R 655],nx "Made" 1153 484 627 1156,jj 629 626 f1]++(eV 631 (dx 121 0) "Made.__init__" "__init__" 1163 486 1 ["self"] N f1++(eV 638 (dx 121 1) "Made.add" "add" 1170 492 5 ["self","tab","name","t","flags","old","parts"] N f1++(eV 645 (dx 121 2) "Made.add_index" "add_index" 1183 503 5 ["self","tab","number","t","ro","old","fresh"] N f1++(eV 652 (dx 121 3) "Made.done" "done" 1196 513 2 [] N f1++([c8 1202 ["names","nindex","rows","sindex"],hX [O P "__module__" 1158 f1,O P "__firstlineno__" 1162<|I 484 1161,O P "__init__" 1169<|R 637,O P "add" 1182<|R 644,O P "add_index" 1195<|R 651,O P "done" 1201<|R 656,O P "__static_attributes__" 1206<|R 657,O P "__dict__" 1208<|R 660,O P "__weakref__" 1210<|R 661,O P "__doc__" 1211 N] 4,eQ "Made" [T "object"] [R 659,T "object"] 658 [] [none,none,some<|S "Made" 1151,some<|S "Made" 1159,some<|U "object.__new__",some TT],nj [S "__dict__" 1207,R 659,U "function.__dict__",U "function.__dict__#set"],nj [S "__weakref__" 1209,R 659,U "ExceptionGroup.__weakref__",N],oB 659,oC<|R 659]++(b3 664 (aL 122) "is_late_alias" 1214 516 2 [] N f1++(b3 669 (aL 123) "undefless" 1220 525 2 ["host","t","tab"] N f1++(b3 676 (aL 124) "optional_form" 1229 531 2 ["tab","t"] N f1++(b3 683 (aL 125) "readonly_after" 1237 535 2 ["romod","ro"] N f1++(b3 690 (aL 126) "template_at" 1245 541 3 ["host","row","key"] N f1++(b3 697 (aL 127) "member_opt" 1254 543 2 ["row","was"] N f1++(b3 704 (aL 128) "member_kind" 1262 545 5 ["host","row","key","own","was","tab","t"] N f1++(b3 711 (aL 129) "kindmap_member_flags" 1275 555 3 ["row","prop","plain","was","flags","ro"] N f1++(b3 718 (aL 130) "names_for" 1287 564 3 ["host","row","key","name"] N f1++([hz,iT,hX [O P "__module__" 1304 f1,O P "__qualname__" 1306<|S "Keyed" 1305,O P "__firstlineno__" 1308<|I 571 1307,O P "__init__" 1318<|R 738,O P "__static_attributes__" 1322<|R 739] 5,hz,cX N [I 573 0,I 4 0,R 737],nx "Keyed" 1299 571 728 1302,jj 730 727 f1]++(eV 732 (dx 131 0) "Keyed.__init__" "__init__" 1309 573 4 ["self","key","prop","index"] N f1++([c8 1319 ["index","key","prop"],hX [O P "__module__" 1304 f1,O P "__firstlineno__" 1308<|I 571 1307,O P "__init__" 1318<|R 738,O P "__static_attributes__" 1322<|R 739,O P "__dict__" 1324<|R 742,O P "__weakref__" 1326<|R 743,O P "__doc__" 1327 N] 4,eQ "Keyed" [T "object"] [R 741,T "object"] 740 [] [none,none,some<|S "Keyed" 1297,some<|S "Keyed" 1305,some<|U "object.__new__",some TT],nj [S "__dict__" 1323,R 741,U "function.__dict__",U "function.__dict__#set"],nj [S "__weakref__" 1325,R 741,U "ExceptionGroup.__weakref__",N],oB 741,oC<|R 741]++(b3 746 (aL 132) "put_member" 1330 577 6 ["host","row","made","keyed","target","plain","tab","text","own","was","kept","t","ro"] N f1++(b3 753 (aL 133) "build_members" 1349 598 4 ["host","row","entries","plain","made","keyed","targets","target"] N f1++(b3 760 (aL 134) "shape_entries" 1363 607 2 ["host","t","tab","entries","shape","prop"] N f1++(b3 767 (aL 135) "map_array" 1375 619 4 ["host","row","t","plain","tab","source","elem"] N f1++(b3 774 (aL 136) "spare_elem" 1388 624 3 ["host","row","elem"] N f1++(b3 781 (aL 137) "map_elem" 1397 630 5 ["host","row","place","elem","plain","key","own","kind","was","mark"] N f1++(b3 788 (aL 138) "is_primitive" 1413 639 2 ["tab","t"] N f1++(b3 795 (aL 140) "known_part" 1423 642 3 [] N xg++(b3 800 (aL 141) "bound_tuple" 1429 654 3 ["host","row","source","elems","places","place","elem","t"] N xg++(b3 807 (aL 142) "lists_have" 1443 665 2 ["host","keyed","name","t"] N xg++(b3 814 (aL 144) "put_each" 1455 676 3 [] N op++(b3 819 (aL 145) "put_cell" 1461 678 3 ["host","cell","mapping"] N op++(b3 826 (aL 146) "put_shape" 1470 680 3 [] N op++(b3 831 (aL 147) "plainput_put_elems" 1476 686 3 [] N op++(b3 836 (aL 148) "put_call" 1482 692 4 [] N op++(b3 841 (aL 149) "without_own" 1488 697 2 ["mapping","pids","rest","pid"] N op))))))))))))))))))))))))))))))))))))))))))))))))))))
def UH (P:Params):Lm Obj:=b3 848 (aL 150) "put_late" 1498 703 4 ["host","t","row","mapping","rest"] N op++(b3 855 (aL 151) "plain_put" 1509 718 3 ["host","t","mapping","row"] N op++(b3 862 (aL 153) "table_read" 1521 736 2 ["tab","row","other","prop","cell"] N nh++(b3 869 (aL 154) "put_name" 1532 747 2 ["host","row"] N nh++([bb [R 526],iT,hX [O P "__module__" 1547 nh,O P "__qualname__" 1549<|S "NameHost" 1548,O P "__firstlineno__" 1551<|I 753 1550,O P "__init__" 1559<|R 889,O P "force" 1568<|R 896,O P "put_deferred" 1576<|R 903,O P "put_in" 1585<|R 910,O P "__static_attributes__" 1590<|R 911] 8,hz,cX N [I 755 0,I 4 0,R 888,I 761 0,I 4 0,R 895,I 765 0,I 4 0,R 902,I 768 0,I 4 0,R 909],nx "NameHost" 1542 753 879 1545,jj 881 878 nh]++(eV 883 (dx 155 0) "NameHost.__init__" "__init__" 1552 755 2 ["self","tab"] N nh++(eV 890 (dx 155 1) "NameHost.force" "force" 1560 761 2 ["self","t","row"] N nh++(eV 897 (dx 155 2) "NameHost.put_deferred" "put_deferred" 1569 765 2 ["self","row"] N nh++(eV 904 (dx 155 3) "NameHost.put_in" "put_in" 1577 768 3 ["self","t","mapping"] N nh++([c8 1586 ["deep","most_deep","most_rounds","tab"],hX [O P "__module__" 1547 nh,O P "__firstlineno__" 1551<|I 753 1550,O P "__init__" 1559<|R 889,O P "force" 1568<|R 896,O P "put_deferred" 1576<|R 903,O P "put_in" 1585<|R 910,O P "__static_attributes__" 1590<|R 911,O P "__doc__" 1591 N] 2,eQ "NameHost" [R 526] [R 913,R 526,R 491,T "object"] 912 [] [some<|R 876,none,some<|S "NameHost" 1540,some<|S "NameHost" 1548,some<|U "object.__new__",some TT],oB 913,oC<|R 913,c8 1596 ["w","u"],c8 1599 ["w","S"],c8 1602 ["w","N"]]++(b3 919 (aL 160) "_law_take" 1605 774 2 ["d","n","at"] N fD++(b3 926 (aL 161) "_law_kind" 1614 778 1 ["d","atoms","got","go","one"] N fD++(b3 933 (aL 162) "_law_type" 1625 786 3 [] N fD++(b3 938 (aL 163) "_law_atom" 1631 788 3 ["tab","over","one","sort","what"] N fD++(b3 945 (aL 164) "_law_back" 1642 799 2 [] N fD++(b3 950 (aL 165) "_law_back_one" 1648 804 2 ["tab","t","row"] N fD++(b3 957 (aL 166) "_law_plan" 1657 815 1 ["d","base","coat","fixed","table"] N fD++(b3 964 (aL 167) "_law_at" 1668 825 2 ["plan","key","base","coat","fixed","table","kind"] N fD++(b3 971 (aL 168) "_law_template" 1681 837 4 [] N fD++(b3 976 (aL 169) "_law_object" 1687 850 2 [] N fD++(b3 981 (aL 170) "_law_list" 1693 879 2 [] N fD++(b3 986 (aL 171) "_law_lone" 1699 897 2 ["d","tab","n","sig","t"] N fD++(b3 993 (aL 172) "_law_slot" 1710 911 3 [] N fD++(b3 998 (aL 173) "_law_told" 1716 916 5 ["tab","over","plan","mods","bound","opt","ro","rows","name","kind","was","shut","what","hid","given","sign","told","place","cell"] N fD++(b3 1005 (aL 174) "_law_told_list" 1741 933 5 [] N fD++(b3 1010 (aL 175) "_law_choices" 1747 954 1 [] N fD++(b3 1015 (aL 176) "_law_rows" 1753 980 1 [] N fD++(b3 1020 (aL 177) "_law_numbered" 1759 991 1 ["row","slots","place"] N fD++(b3 1027 (aL 178) "_law_own" 1768 996 2 [] N fD++(b3 1032 (aL 179) "_law_free" 1774 1007 2 ["kind","slots","out","sort","what"] N fD++(b3 1039 (aL 180) "_law_after" 1785 1017 5 ["plan","opt","slots","sort","name","kind","was","given","sign"] N fD++(b3 1046 (aL 181) "_law_digits" 1800 1025 1 [] N fD++(b3 1051 (aL 182) "_law_held" 1806 1027 2 [] N fD++(b3 1056 (aL 183) "_law_lies" 1812 1036 2 [] N fD++(b3 1061 (aL 184) "_law_rooms" 1818 1038 3 [] N fD++(b3 1066 (aL 185) "_law_sound" 1824 1057 5 [] N fD++(b3 1071 (aL 186) "_law_round" 1830 1072 1 ["d","tab","host","over","key","plan","mods","naming","sort","bound","template","keys","row","said","told","prop"] N fD++(b3 1078 (aL 187) "law" 1852 1103 1 [] N fD)))))))))))))))))))))))))))))))))))))
def Bh (P:Params):Lm Obj:=Vc P++(yA P++(Z0 P++(UH P)))
def tl:Lm Obj->Lm (Ĵ×Obj)->Lm Obj
 |l,[]=>l
 |l,(a,o)::r=>tl (l.set a o) r
def Cy:Lm Obj->Lm Obj
 |a::_::r=>a::Cy r
 |l=>l
def uA:Ĵ->Lm Obj->BT
 |_,[]=>.nil
 |0,_=>.nil
 |n+1,o::r=>.node o (uA n<|Cy r)<|uA n<|Cy r.tail
noncomputable abbrev hC (n k:Ĵ) (d:Params->Lm (Ĵ×Obj)) (w:World) (os:OsState):SharedT:=⟨uA 12<|tl ((Bh w.params).take n)<|d w.params,n,{},⟨[]⟩,{},k,os⟩
def qM:World->OsState->SharedT:=hC 15 187 λP=>[(3,PySem.W.boot_o_3 P),(12,hB 0),(2,PySem.W.boot_o_2 P)]
def kt:World->OsState->SharedT:=hC 43 227 λP=>[(3,hk P gh 2 11),(12,hB 6),(39,eQ "KeepError" [T "Exception"] [R 39,T "Exception",T "BaseException",T "object"] 38 [] [some<|R 22,none,some<|S "KeepError" 196,some<|S "KeepError" 204,some<|U "Exception.__new__",some TT])]
def uC:World->OsState->SharedT:=hC 63 256 λP=>[(3,hk P gh 3 12),(12,hB 9),(39,eQ "KeepError" [T "Exception"] [R 39,T "Exception",T "BaseException",T "object"] 38 [R 60] [some<|R 22,none,some<|S "KeepError" 196,some<|S "KeepError" 204,some<|U "Exception.__new__",some TT])]
def g9:World->OsState->SharedT:=hC 83 315 λP=>[(3,hk P ed 19 28),(12,hB 12)]
def jI:World->OsState->SharedT:=hC 83 397 λP=>[(3,hk P ed 60 69),(12,hB 12)]
def jw:World->OsState->SharedT:=hC 109 428 λP=>[(3,hk P ed 64 73),(12,hB 12)]
def l3:World->OsState->SharedT:=hC 144 483 λP=>[(3,hk P ed 65 74),(12,hB 15)]
def mG:World->OsState->SharedT:=hC 195 566 λP=>[(3,hk P ed 70 79),(12,hB 30)]
def tS:World->OsState->SharedT:=hC 277 683 λP=>[(3,hk P ed 81 90),(12,hB 63)]
def HW:World->OsState->SharedT:=hC 349 785 λP=>[(3,hk P fg 96 105),(12,hB 96)]
def J2:World->OsState->SharedT:=hC 496 971 λP=>[(3,hk P fg 97 106),(12,hB 99),(491,eQ "Thin" [T "object"] [R 491,T "object"] 490 [] [none,none,some<|S "Thin" 785,some<|S "Thin" 793,some<|U "object.__new__",some TT])]
def IE:World->OsState->SharedT:=hC 548 1036 λP=>[(3,hk P fg 101 110),(12,hB 111),(526,eQ "RefHost" [R 491] [R 526,R 491,T "object"] 525 [] [some<|R 496,none,some<|S "RefHost" 971,some<|S "RefHost" 979,some<|U "object.__new__",some TT])]
def Mn:World->OsState->SharedT:=hC 624 1149 λP=>[(3,hk P Au 114 123),(12,hB 144),(526,eQ "RefHost" [R 491] [R 526,R 491,T "object"] 525 [] [some<|R 496,none,some<|S "RefHost" 971,some<|S "RefHost" 979,some<|U "object.__new__",some TT])]
def HM:World->OsState->SharedT:=hC 676 1229 λP=>[(3,hk P f1 117 126),(12,hB 153),(526,eQ "RefHost" [R 491] [R 526,R 491,T "object"] 525 [] [some<|R 496,none,some<|S "RefHost" 971,some<|S "RefHost" 979,some<|U "object.__new__",some TT])]
def IP:World->OsState->SharedT:=hC 725 1297 λP=>[(3,hk P f1 124 133),(12,hB 174),(526,eQ "RefHost" [R 491] [R 526,R 491,T "object"] 525 [] [some<|R 496,none,some<|S "RefHost" 971,some<|S "RefHost" 979,some<|U "object.__new__",some TT])]
def Ll:World->OsState->SharedT:=hC 774 1388 λP=>[(3,hk P f1 129 138),(12,hB 189),(526,eQ "RefHost" [R 491] [R 526,R 491,T "object"] 525 [] [some<|R 496,none,some<|S "RefHost" 971,some<|S "RefHost" 979,some<|U "object.__new__",some TT])]
def HV:World->OsState->SharedT:=hC 848 1498 λP=>[(3,hk P op 141 150),(12,hB 225),(526,eQ "RefHost" [R 491] [R 526,R 491,T "object"] 525 [] [some<|R 496,none,some<|S "RefHost" 971,some<|S "RefHost" 979,some<|U "object.__new__",some TT])]
def GV:World->OsState->SharedT:=hC 876 1540 λP=>[(3,hk P nh 145 154),(12,hB 237),(526,eQ "RefHost" [R 491] [R 526,R 491,T "object"] 525 [] [some<|R 496,none,some<|S "RefHost" 971,some<|S "RefHost" 979,some<|U "object.__new__",some TT])]
def H8:World->OsState->SharedT:=hC 918 1602 λP=>[(3,hk P fD 148 157),(12,hB 240)]
def Ht:World->OsState->SharedT:=hC 998 1716 λP=>[(3,hk P fD 162 171),(12,hB 279)]
def Jd:World->OsState->SharedT:=hC 1071 1830 λP=>[(3,hk P fD 175 184),(12,hB 318)]
def Ey:World->OsState->SharedT:=hC 1083 1858 λP=>[]
noncomputable abbrev h8:Pos:=⟨0,0,0,0⟩
noncomputable abbrev df:Env:={scope:=fk.main.scope,locals:=mainNs,globals:=mainNs,cells:=[],code:=.ref 13,frame:=some 14}
noncomputable abbrev code:Code:=.body (behindTheImports fk) df
noncomputable abbrev gW (n:Ĵ) (X cB:World->OsState->SharedT) (l:Lm Stmt) (p et:Pos):Prop:=∀(w:World) (os:OsState),segRunT treeTable fk w 11 (some<|.ref 6) 1 n (X w os) (piecesOf l df code p [topFrame h8])=some (.next,cB w os,code,et)
theorem io{n:Ĵ}{X cB:World->OsState->SharedT}{l:Lm Stmt}{p et:Pos}(h:(λw os=>PySem.W.Fast.tw10110043849684766642 PySem.W.Fast.tw14364793385576792824 fk w 11 (some<|.ref 6) 1 n (X w os)<|piecesOf l df code p [topFrame h8])=λw os=>some (Flow.next,cB w os,code,et)):gW n X cB l p et:=λw os=>by rw[PySem.W.Fast.te10110043849684766642,PySem.W.Fast.te14364793385576792824];exact kr (kr h w) os
theorem U_{n:Ĵ}{X cB:World->OsState->SharedT}{l:Lm Stmt}{p et:Pos}(h:(λ(w:World) os=>PySem.W.Fast.tw10110043849684766642 PySem.W.Fast.tw14364793385576792824 fk (w.withFollow "special-get-raises" false) 11 (some<|.ref 6) 1 n (X (w.withFollow "special-get-raises" false) os)<|piecesOf l df code p [topFrame h8])=λ(w:World) os=>some (Flow.next,cB (w.withFollow "special-get-raises" false) os,code,et))(aR:(λ(w:World) os=>PySem.W.Fast.tw10110043849684766642 PySem.W.Fast.tw14364793385576792824 fk (w.withFollow "special-get-raises" true) 11 (some<|.ref 6) 1 n (X (w.withFollow "special-get-raises" true) os)<|piecesOf l df code p [topFrame h8])=λ(w:World) os=>some (Flow.next,cB (w.withFollow "special-get-raises" true) os,code,et)):gW n X cB l p et:=λw os=>by rw[PySem.W.Fast.te10110043849684766642,PySem.W.Fast.te14364793385576792824];exact byRow2 "special-get-raises" (P:=λw=>PySem.W.Fast.tw10110043849684766642 PySem.W.Fast.tw14364793385576792824 fk w 11 (some<|.ref 6) 1 n (X w os) (piecesOf l df code p [topFrame h8])=some (.next,cB w os,code,et)) (λw=>kr (kr h w) os) (λw=>kr (kr aR w) os) w
theorem OP:gW 270 qM kt (g3 0 3) ⟨0,0,0,0⟩ ⟨5,0,9,24⟩:=io (by kernel_rfl)
theorem Ys:gW 251 kt uC (g3 3 1) ⟨5,0,9,24⟩ ⟨10,0,14,24⟩:=io (by kernel_rfl)
theorem T8:gW 393 uC g9 (g3 4 17) ⟨10,0,14,24⟩ ⟨35,0,35,7⟩:=io (by kernel_rfl)
theorem U7:gW 370 g9 jI (g3 21 41) ⟨35,0,35,7⟩ ⟨76,0,76,9⟩:=io (by kernel_rfl)
theorem R1:gW 248 jI jw (g3 62 4) ⟨76,0,76,9⟩ ⟨80,0,80,12⟩:=U_ (by kernel_rfl) (by kernel_rfl)
theorem Yj:gW 297 jw l3 (g3 66 1) ⟨80,0,80,12⟩ ⟨81,0,106,16⟩:=io (by kernel_rfl)
theorem NR:gW 367 l3 mG (g3 67 5) ⟨81,0,106,16⟩ ⟨131,0,136,16⟩:=io (by kernel_rfl)
theorem So:gW 378 mG tS (g3 72 11) ⟨131,0,136,16⟩ ⟨194,0,202,13⟩:=io (by kernel_rfl)
theorem Wo:gW 393 tS HW (g3 83 17) ⟨194,0,202,13⟩ ⟨292,0,292,11⟩:=io (by kernel_rfl)
theorem P6:gW 812 HW J2 (g3 100 1) ⟨292,0,292,11⟩ ⟨293,0,354,17⟩:=io (by kernel_rfl)
theorem Vz:gW 398 J2 IE (g3 101 4) ⟨293,0,354,17⟩ ⟨377,0,379,68⟩:=io (by kernel_rfl)
theorem VH:gW 396 IE Mn (g3 105 15) ⟨377,0,379,68⟩ ⟨481,0,482,49⟩:=io (by kernel_rfl)
theorem ZK:gW 393 Mn HM (g3 120 4) ⟨481,0,482,49⟩ ⟨525,0,530,60⟩:=io (by kernel_rfl)
theorem ZY:gW 223 HM IP (g3 124 7) ⟨525,0,530,60⟩ ⟨564,0,570,35⟩:=io (by kernel_rfl)
theorem N1:gW 373 IP Ll (g3 131 5) ⟨564,0,570,35⟩ ⟨619,0,623,90⟩:=io (by kernel_rfl)
theorem Y8:gW 379 Ll HV (g3 136 14) ⟨619,0,623,90⟩ ⟨697,0,702,15⟩:=io (by kernel_rfl)
theorem Ph:gW 138 HV GV (g3 150 5) ⟨697,0,702,15⟩ ⟨747,0,752,28⟩:=io (by kernel_rfl)
theorem Xg:gW 394 GV H8 (g3 155 4) ⟨747,0,752,28⟩ ⟨772,0,772,10⟩:=io (by kernel_rfl)
theorem Ws:gW 398 H8 Ht (g3 159 14) ⟨772,0,772,10⟩ ⟨911,0,915,42⟩:=io (by kernel_rfl)
theorem Ob:gW 383 Ht Jd (g3 173 13) ⟨911,0,915,42⟩ ⟨1057,0,1071,15⟩:=io (by kernel_rfl)
theorem á:gW 71 Jd Ey (g3 186 2) ⟨1057,0,1071,15⟩ ⟨1103,0,1107,32⟩:=io (by kernel_rfl)
def i' (P:Params):Heap:=⟨⟨Bh P⟩,{}⟩
noncomputable abbrev uM (w:World) (os:OsState):Qj:=⟨i' w.params,⟨[]⟩,{},1858,os⟩
theorem TM{n:Ĵ}{X cB:World->OsState->Qj}{t:Thread}(h:(λw os=>PySem.W.Fast.tw14082659384304107361 PySem.W.Fast.tw14364793385576792824 fk w 11 (some<|.ref 6) n (X w os) t)=λw os=>some<|cB w os):∀(w:World) (os:OsState),topRun treeTable fk w 11 (some<|.ref 6) n (X w os) t=some (cB w os):=λw os=>by rw[PySem.W.Fast.te14082659384304107361,PySem.W.Fast.te14364793385576792824];exact kr (kr h w) os
theorem Ov(e:Env)(c:Code)(p:Pos)(aT:Lm Frame):(⟨doneF .next,c,p,aT⟩:Thread)=restOf (body.drop 188) e c p aT:=by kernel_rfl
theorem QE(a n:Ĵ):body.drop a=g3 a n++body.drop (a+n):=by unfold g3;rw[<-List.drop_drop,List.take_append_drop]
theorem Vp:behindTheImports fk=body.drop 0:=by kernel_rfl
theorem Sx:∀(w:World) (os:OsState),topGo treeTable fk w 11 (some<|.ref 6) 12 ⟨boot_heap w.params,⟨[]⟩,boot_drawn,boot_toks,os⟩ (topStub fk)=some ((qM w os).abs,⟨denote treeTable code,code,h8,[topFrame h8]⟩):=by rw[PySem.W.Fast.te15667345088766844465,PySem.W.Fast.te14364793385576792824,PySem.W.Fast.te11892475500146522536];exact λw os=>kr (kr (f:=λw os=>PySem.W.Fast.tw15667345088766844465 PySem.W.Fast.tw14364793385576792824 fk w 11 (some<|.ref 6) 12 ⟨boot_heap w.params,⟨[]⟩,boot_drawn,boot_toks,os⟩<|topStub fk) (g:=λw os=>some ((qM w os).abs,⟨PySem.W.Fast.tw11892475500146522536 PySem.W.Fast.tw14364793385576792824 code,code,h8,[topFrame h8]⟩)) (by kernel_rfl) w) os
theorem YG:∀(w:World) (os:OsState),segRun treeTable fk w 11 (some<|.ref 6) 1 1 (qM w os).abs (blockOf (behindTheImports fk) df code h8 [topFrame h8])=some (.next,(qM w os).abs,code,h8):=by rw[PySem.W.Fast.te14374325043358763698,PySem.W.Fast.te14364793385576792824];exact λw os=>kr (kr (f:=λw os=>PySem.W.Fast.tw14374325043358763698 PySem.W.Fast.tw14364793385576792824 fk w 11 (some<|.ref 6) 1 1 (qM w os).abs<|blockOf (behindTheImports fk) df code h8 [topFrame h8]) (g:=λw os=>some (.next,(qM w os).abs,code,h8)) (by kernel_rfl) w) os
theorem T6:∀(w:World) (os:OsState),topRun treeTable fk w 11 (some<|.ref 6) 2 (Ey w os).abs ⟨doneF .next,code,⟨1103,0,1107,32⟩,[topFrame h8]⟩=some (uM w os):=TM (by kernel_rfl)
noncomputable abbrev Run (n:Ĵ) (X:World->OsState->SharedT) (a:Ĵ) (p:Pos):Prop:=∀(w:World) (os:OsState),topRun treeTable fk w 11 (some<|.ref 6) n (X w os).abs (restOf (body.drop a) df code p [topFrame h8])=some (uM w os)
theorem gW.step{n N a k:Ĵ}{X cB:World->OsState->SharedT}{p et:Pos}(h:gW n X cB (g3 a k) p et)(g:Run N cB (a+k) et):Run (n+N) X a p:=λw os=>by rw[QE a k];exact piece_app (n:=n) (N:=N) (segRun_of<|h w os)<|g w os
theorem O_:Run 2 Ey 188 ⟨1103,0,1107,32⟩:=λw os=>(Ov df code ⟨1103,0,1107,32⟩ [topFrame h8])▸T6 w os
theorem Td:Run 7327 qM 0 ⟨0,0,0,0⟩:=by have h:=OP.step<|Ys.step<|T8.step<|U7.step<|R1.step<|Yj.step<|NR.step<|So.step<|Wo.step<|P6.step<|Vz.step<|VH.step<|ZK.step<|ZY.step<|N1.step<|Y8.step<|Ph.step<|Xg.step<|Ws.step<|Ob.step<|á.step O_;exact h
def loose:Lm Str:=["_wall","KeepError","TooDeep","HostFault","Y_KEY","Y_BOOL","Y_STR","Y_NUM","Y_ENUM","Y_UNION","Y_INTER","Y_OBJ","Y_REF","Y_PARAM","Y_ARRAY","Y_TUPLE","Y_SIG","Y_KEYOF","Y_INDEX","Y_COND","Y_MAPPED","Y_TPL","Y_ALIAS","ANY","UNKNOWN","NEVER","VOID","UNDEF","NULLT","STRING","NUMBER","FALSE_T","TRUE_T","OBJECTT","EMPTY","BOOLEAN","ERR","FRESH_F","FRESH_T","P_OPT","P_READONLY","P_METHOD","P_PRIVATE","P_PROTECTED","P_GETONLY","P_ACCESS","E_NEED","E_OPT","E_REST","E_SPREAD","D_INTERFACE","FAM_OTHER","FAM_STR","FAM_NUM","FAM_BOOL","FAM_NULL","FAM_UNDEF","FAM_VOID","FAM_OBJ","MAX_UNION","FIRST_ROWS","MARKED_ROWS","OBJECT_ROWS","KEY_FAMILIES","TypeTable","Decl","kind_of","str_type","array_type","last_mark","needed_to_last","one_rest","tuple_type","sorted_props","obj_type","sig_type","func_type","new_param","new_decl","parts_of","whole_of_row","regular_twin","join_bools","stays_beside","top_of","union","without","add_undef","common_family","meet_family","family","MOST_PLAIN","PLAIN_ROWS","plain_shape","MOST_ROUNDS","MOST_SHAPES","Thin","RefHost","told_places","find_prop","is_digits","prop_row","read_type","MOST_CROSSED","OPEN_KINDS","is_open","unit_word","key_text","glue","hole_pieces","cross_holes","one_template","tpl_kind","is_public","Made","is_late_alias","undefless","optional_form","readonly_after","template_at","member_opt","member_kind","kindmap_member_flags","names_for","Keyed","put_member","build_members","shape_entries","map_array","spare_elem","map_elem","is_primitive","known_part","bound_tuple","lists_have","put_each","put_cell","put_shape","plainput_put_elems","put_call","without_own","put_late","plain_put","table_read","put_name","NameHost","_law_undef","_law_texts","_law_numbers","_law_take","_law_kind","_law_type","_law_atom","_law_back","_law_back_one","_law_plan","_law_at","_law_template","_law_object","_law_list","_law_lone","_law_slot","_law_told","_law_told_list","_law_choices","_law_rows","_law_numbered","_law_own","_law_free","_law_after","_law_digits","_law_held","_law_lies","_law_rooms","_law_sound","_law_round"].map Str.ofString
noncomputable abbrev iR:OpenLaw:=PySem.Challenge.rw_up0039_01
theorem uq:iR.wellSaid=true:=by
 unfold OpenLaw.wellSaid OpenRow.wellSaid OpenRow.partSaid looksOpen;repeat'(with_reducible refine look_both ?_ ?_)
 all_goals((try rw[PySem.W.Fast.te8326940854005059898]);(try rw[PySem.W.Fast.te8377067652309620493]);(try rw[PySem.W.Fast.te17119622794617984870]);(try rw[PySem.W.Fast.te8179353310426384613]);(try rw[PySem.W.Fast.te797321630700447069]);(try rw[PySem.W.Fast.te6984425678791042302]);(try rw[PySem.W.Fast.te10792542408131684335]);(try rw[PySem.W.Fast.te16286561074155671207]);(try rw[PySem.W.Fast.te9558739934217749035]);(try rw[PySem.W.Fast.te10501279942588096481]);(try rw[PySem.W.Fast.named_eq]);(try rw[PySem.W.Fast.te18344453789297297638]);(try rw[PySem.W.Fast.te5923862056798008813]);(try rw[PySem.W.Fast.te13343964577679436407]);(try rw[PySem.W.Fast.te17868728402115742887]);(try rw[PySem.W.Fast.te12879404354523853263]);(try rw[PySem.W.Fast.te482687673346738481]);(try rw[PySem.W.Fast.te14412699480532031325]);(try rw[PySem.W.Fast.te3471404346716756564]);decide+kernel)
theorem zv:fk.tablesWhole=true:=by kernel_rfl
theorem ã(w:World)(os:OsState):topRun treeTable fk w 11 (some<|.ref 6) 7340 ⟨boot_heap w.params,⟨[]⟩,boot_drawn,boot_toks,os⟩ (topStub fk)=some (uM w os):=go_top (n:=12) (N:=7328) (Sx w os) (piece_block (n:=1) (N:=7327) (b:=behindTheImports fk) (YG w os)<|by rw[Vp];exact Td w os)
def nM:Program:=view fk [187]
theorem Pb:opening fk=plainProg fk.main.scope.names:=by kernel_rfl
theorem Z9(s:Qj):fenceModules? fk s=some s:=by kernel_rfl
theorem VQ:∀w:World,(fencedOpening treeTable fk w 20000).map (λs=>(s.heap,s.gens,s.drawn,s.toks))=some (boot_heap w.params,Array.mk [],boot_drawn,boot_toks):=boot_open Pb (by decide+kernel) Z9
theorem OL:∀w:World,((boot_heap w.params).isNs mainGlobals&&(Array.mk ([]:Lm GenState)).size==0,(boot_heap w.params).objs.size,(boot_heap w.params).nsMap mainGlobals "__annotations__")=(true,11,some<|.ref 6):=λw=>by kernel_rfl
theorem Ud(w:World):staticsOk (importedModules fk.main.body) (boot_heap w.params) (i' w.params)=true:=by kernel_rfl
theorem SX(w:World):namesBound fk (i' w.params)=true:=by kernel_rfl
theorem U3(w:World):laidKept (boot_heap w.params) (i' w.params)=true:=by kernel_rfl
theorem Á:(λw os=>PySem.W.Fast.tw4187177175401517315 nM loose (importedModules fk.main.body) (λ_=>true) true<|uM w os)=λ(_:World) (_:OsState)=>openGood nM loose:=by kernel_rfl
theorem left:LeftO fk nM loose (λ_=>true) Shared.heap (λw=>i' w.params) 20000 true:=LeftO.of_pieces (H₀:=boot_heap) (H₁:=i') (gs₀:=⟨[]⟩) (gs₁:=⟨[]⟩) (d₀:=boot_drawn) (d₁:={}) (k₀:=boot_toks) (k₁:=1858) (m₀:=11) (ann:=some<|.ref 6) (M:=7340) VQ OL ã (by decide+kernel) λw=>by
 funext os;refine nE ?_<|nE ?_ rfl
 .show(_&&_&&_&&_)=true;rw[Ud,SX,U3];rfl
 .show openSeen nM loose (importedModules fk.main.body) (λ_=>true) true (uM w os)=openGood nM loose;rw[PySem.W.Fast.te4187177175401517315];exact kr (kr Á w) os
noncomputable abbrev oN:DefRec:=⟨Str.ofString "law",k8<|aL 187,qj<|aL 187,b9<|aL 187,⟨1103,0,1107,32⟩⟩
theorem Tb:defOf nM iR.row.name=some (oN,[]):=by kernel_rfl
theorem ZS:iR.row.prog.theDef iR.row.name=some (oN.params,oN.body,oN.scope):=by kernel_rfl
theorem YI:kwWritten? oN.params.kwonlyargs oN.params.kw_defaults=some []:=by kernel_rfl
theorem EK:(chainsOk nM&&opensWell iR.row.prog&&(frees iR.row.toRowW&&iR.row.within.isEmpty))=true:=by kernel_rfl
theorem X5:iR.row.prog.bare:=⟨rfl,rfl,rfl,rfl,rfl,zv⟩
abbrev Kept(w:World)(h:Heap):Prop:=∀b o,(i' w.params).get? b=some o->h.get? b=some o
theorem head(bF:iR.row.toRowW.promised)(call:WalkO nM loose (λ_ _=>True) Kept iR.row.toRowW oN [] (λf vs=>PySem.call f vs)):iR.Holds:=holds_law uq λfH=>holds_open (q:=nM) (loose:=loose) (Xt:=λ_=>true) (XP:=λ_ _=>True) (Yf:=Shared.heap) (Ya:=λw=>i' w.params) (YP:=Kept) (d:=oN) (kwd:=[]) (N:=20000) left (λw s e b o h=>by rw[e];exact h) (λw h aR y k b o e=>k b o<|y b o e) (λ_ _=>trivial) (λ_ _ _ _ _=>trivial) Tb ZS YI (λ_ _=>recFacts_nil rfl) rfl fH EK X5 bF call
set_option tactic.hygienic false
theorem xK{aC:Type}{c:Prop}[Decidable c]{f:c->Ĳ aC}{z:aC}(h:(if h:c then f h else none)=some z):∃aF,f aF=some z:=by
 by_cases cy:c
 .rw[dif_pos cy]at h;exact⟨cy,h⟩
 .rw[dif_neg cy]at h;exact b4 h
theorem hj{aC:Type}{p:Prop}[Decidable p]{x:Ĳ aC}{y:aC}(h:(if p then x else none)=some y):p/\x=some y:=by
 by_cases c:p
 .rw[bl c]at h;exact⟨c,h⟩
 .rw[bt c]at h;exact b4 h
theorem Db{aC:Type}{p:Prop}[Decidable p]{x y z:aC}(h:(if p then x else y)=z):x=z\/y=z:=by
 by_cases c:p
 .rw[bl c]at h;exact .inl h
 .rw[bt c]at h;exact .inr h
theorem vk{aC:Type}{n:Ĵ}{x y:aC}(h:i7 n x=some y):n<=a3/\x=y:=(hj h).imp id cY
theorem fQ.of{dw:Type}{y:B}{z:dw}{k:ĵ->Ĳ dw}(h:fQ y k=some z):∃a,y=.int a/\k a=some z:=by obtain⟨aF,h⟩:=xK h;exact B.int.elim (motive_1:=λy=>∀aF,B.int.elim (motive_1:=λ_=>Ĳ dw) y aF k=some z->∃a,y=.int a/\k a=some z) y aF (λa _ h=>⟨a,rfl,h⟩) aF h
theorem lZ.of{dw:Type}{y:B}{z:dw}{k:bv->Ĳ dw}(h:lZ y k=some z):∃a,y=.str a/\k a=some z:=by obtain⟨aF,h⟩:=xK h;exact B.str.elim (motive_1:=λy=>∀aF,B.str.elim (motive_1:=λ_=>Ĳ dw) y aF k=some z->∃a,y=.str a/\k a=some z) y aF (λa _ h=>⟨a,rfl,h⟩) aF h
theorem ta.of{dw:Type}{y:B}{z:dw}{k:Lm B->Ĳ dw}(h:ta y k=some z):∃a,y=.tup a/\k a=some z:=by obtain⟨aF,h⟩:=xK h;exact B.tup.elim (motive_1:=λy=>∀aF,B.tup.elim (motive_1:=λ_=>Ĳ dw) y aF k=some z->∃a,y=.tup a/\k a=some z) y aF (λa _ h=>⟨a,rfl,h⟩) aF h
theorem lI.of{dw:Type}{y:B}{z:dw}{k:Lm B->Ĳ dw}(h:lI y k=some z):∃a,y=.lst a/\k a=some z:=by obtain⟨aF,h⟩:=xK h;exact B.lst.elim (motive_1:=λy=>∀aF,B.lst.elim (motive_1:=λ_=>Ĳ dw) y aF k=some z->∃a,y=.lst a/\k a=some z) y aF (λa _ h=>⟨a,rfl,h⟩) aF h
theorem tW.of{dw:Type}{y:B}{z:dw}{k:Ĳ dw}(h:tW y k=some z):y=.none/\k=some z:=(hj h).imp (λh=>(B.none.elim (motive_1:=λb=>B.none=b) y h rfl).symm) id
theorem pa.of{dw:Type}{s:St}{o:B}{z:dw}{k:Ĵ->Ĵ->Lm (Ĵ×B)->Ĳ dw}(h:pa s o k=some z):dD λn c l=>dY (o=.ref n) (s[n]?=some (.ins c l)) (k n c l=some z):=by
 induction o using B.casesOn with
 |ref n=>
  obtain⟨cp,aM,h⟩:=Gn.mp<|show(s[n]?).bind _=some z from h;induction cp using dd.casesOn with
  |ins c l=>exact⟨n,c,l,rfl,aM,h⟩
  |_=>exact b4 h
 |_=>exact b4 h
inductive eI where
 |none
 |a4 (o:Obj)
 |loc (k:Nat)
 |kY (x:Str)
 |own (i:Nat)
 |st (n:Nat)
 |cH (n:Nat)
 |ext
theorem bP{a b:eI}{cX:Prop}(h:a=b)(n:(a.ctorIdx==b.ctorIdx)=false):cX:=AM _ h n
theorem Ip{a b:Ę}{cX:Prop}(h:a=b)(n:(a.ctorIdx==b.ctorIdx)=false):cX:=AM _ h n
abbrev aY:=Addr->eI
def eI.kept:eI->Prop
 |.a4 _|.loc _|.kY _|.own _|.ext=>True
 |_=>False
def eI.ig:eI->Prop
 |.a4 _|.ext=>True
 |_=>False
def eI.free:eI->Prop
 |.loc _|.kY _|.own _|.ext=>True
 |_=>False
def eI.one:eI->Prop
 |.loc _|.kY _|.own _|.st _|.cH _=>True
 |_=>False
theorem eI.ig.kept{r:eI}(h:r.ig):r.kept:=by induction r<;>first|trivial|exact h.elim
noncomputable abbrev d9 (Vs:Array Ę) (n:Ĵ):Obj:=⟨.type "tuple",none,.seq Vs n,#[]⟩
noncomputable abbrev cw (Vs:Array Ę) (n:Ĵ):Obj:=⟨.type "list",none,.seq Vs n,#[]⟩
noncomputable abbrev ew (es:Array DictEntry) (n:Ĵ):Obj:=⟨.type "dict",none,.dict es n,#[]⟩
noncomputable abbrev kO (ai d:Addr):Obj:=⟨.ref ai,some d,.plain,#[]⟩
noncomputable abbrev oL (a b:ĵ) (t u v:Tok):Obj:=⟨.type "range",none,.fields #[.int a t,.int b u,.int 1 v],#[]⟩
mutual
def j3 (P:Params):B->ĵ
 |.int i=>hashInt i
 |.str l=>PyData.keyHash P ⟨l.toArray⟩
 |.tup l=>reduceHash<|Builtin.Tuple.tupleHashOf<|kS P l
 |_=>0
def kS (P:Params):Lm B->Lm ĵ
 |[]=>[]
 |v::r=>j3 P v::kS P r
end
mutual
inductive bz (P:Params) (C:aY):B->Value->Prop where
 |none:bz P C .none .none
 |bool (b:Bool):bz P C (.bool b) (.bool b)
 |int (i:Int) (t:Tok):bz P C (.int i) (.int i t)
 |str (l:List Nat) (t:Tok):l.length<=a3->bz P C (.str l) (.str ⟨l.toArray⟩ t)
 |tup {l:List B} {a:Addr} {Vs:List Value} {n:Nat}:C a=.a4 (d9 Vs.toArray n)->bB P C l Vs->l.length<=a3->bz P C (.tup l) (.ref a)
 |lst {l:List B} {a:Addr} {Vs:List Value} {n:Nat}:C a=.a4 (cw Vs.toArray n)->bB P C l Vs->l.length<=a3->bz P C (.lst l) (.ref a)
 |a9 {l:List (B×B)} {a:Addr} {es:List DictEntry} {n:Nat}:C a=.a4 (ew es.toArray n)->d8 P C l es->l.length<=a3->(l.map Prod.fst).Nodup->(a==sysModules)=false->bz P C (.a9 l) (.ref a)
 |ref {n:Nat} {a:Addr}:C a=.st n->bz P C (.ref n) (.ref a)
 |eA {a b:Int} {x:Addr} {t u v:Tok}:C x=.a4 (oL a b t u v)->small a=true->small b=true->(b-a).toNat<=a3->bz P C (.eA a b) (.ref x)
inductive bB (P:Params) (C:aY):List B->List Value->Prop where
 |nil:bB P C [] []
 |cons {v:B} {V:Value} {l:List B} {Vs:List Value}:bz P C v V->bB P C l Vs->bB P C (v::l) (V::Vs)
inductive d8 (P:Params) (C:aY):List (B×B)->List DictEntry->Prop where
 |nil:d8 P C [] []
 |cons {k v:B} {K V:Value} {l:List (B×B)} {es:List DictEntry}:bz P C k K->bz P C v V->d8 P C l es->d8 P C ((k,v)::l) (⟨j3 P k,K,V⟩::es)
end
theorem bB.ind{P:Params}{C:aY}{M:Lm B->Lm Ę->Prop}(n:M [] [])(c:∀{v V l Vs},bz P C v V->bB P C l Vs->M l Vs->M (v::l) (V::Vs)){l:Lm B}{Vs:Lm Ę}(h:bB P C l Vs):M l Vs:=bB.rec (motive_1:=λ_ _ _=>True) (motive_2:=λl Vs _=>M l Vs) (motive_3:=λ_ _ _=>True) trivial (λ_=>trivial) (λ_ _=>trivial) (λ_ _ _=>trivial) (λ_ _ _ _=>trivial) (λ_ _ _ _=>trivial) (λ_ _ _ _ _ _=>trivial) (λ_=>trivial) (λ_ _ _ _=>trivial) n (λa r _ m=>c a r m) trivial (λ_ _ _ _ _ _=>trivial) h
theorem d8.ind{P:Params}{C:aY}{M:Lm (B×B)->Lm DictEntry->Prop}(n:M [] [])(c:∀{k v K V l es},bz P C k K->bz P C v V->d8 P C l es->M l es->M ((k,v)::l) (⟨j3 P k,K,V⟩::es)){l:Lm (B×B)}{es:Lm DictEntry}(h:d8 P C l es):M l es:=d8.rec (motive_1:=λ_ _ _=>True) (motive_2:=λ_ _ _=>True) (motive_3:=λl es _=>M l es) trivial (λ_=>trivial) (λ_ _=>trivial) (λ_ _ _=>trivial) (λ_ _ _ _=>trivial) (λ_ _ _ _=>trivial) (λ_ _ _ _ _ _=>trivial) (λ_=>trivial) (λ_ _ _ _=>trivial) trivial (λ_ _ _ _=>trivial) n (λa b r _ _ m=>c a b r m) h
section
variable{P:Params}{C aP:aY}(G:∀a o,C a=.a4 o->aP a=.a4 o)(E:∀a n,C a=.st n->aP a=.st n)
include G E
theorem bz.mono{v:B}{V:Ę}(h:bz P C v V):bz P aP v V:=bz.rec (motive_1:=λv V _=>bz P aP v V) (motive_2:=λl Vs _=>bB P aP l Vs) (motive_3:=λl es _=>d8 P aP l es) .none .bool .int .str (λe _ c r=>.tup (G _ _ e) r c) (λe _ c r=>.lst (G _ _ e) r c) (λe _ c d f r=>.a9 (G _ _ e) r c d f) (λe=>.ref<|E _ _ e) (λe a b c=>.eA (G _ _ e) a b c) .nil (λ_ _ a r=>.cons a r) .nil (λ_ _ _ a b r=>.cons a b r) h
theorem bB.mono{l:Lm B}{Vs:Lm Ę}(h:bB P C l Vs):bB P aP l Vs:=bB.ind (M:=bB P aP) .nil (λa _ m=>.cons (a.mono G E) m) h
theorem d8.mono{l:Lm (B×B)}{es:Lm DictEntry}(h:d8 P C l es):d8 P aP l es:=d8.ind (M:=d8 P aP) .nil (λa b _ m=>.cons (a.mono G E) (b.mono G E) m) h
end
section
variable{P:Params}{C:aY}{l:Lm B}{Vs:Lm Ę}
def B2(P:Params)(C:aY)(v:B)(V:Ę):Prop:=match v with
 |.none=>V=.none
 |.bool b=>V=.bool b
 |.int i=>∃t,V=.int i t
 |.str l=>∃t,V=.str ⟨l.toArray⟩ t/\l.length<=a3
 |.tup l=>dD λa Vs n=>hP (V=.ref a) (C a=.a4 (d9 Vs.toArray n)) (bB P C l Vs)<|l.length<=a3
 |.lst l=>dD λa Vs n=>hP (V=.ref a) (C a=.a4 (cw Vs.toArray n)) (bB P C l Vs)<|l.length<=a3
 |.a9 l=>dD λa es n=>rx (V=.ref a) (C a=.a4 (ew es.toArray n)) (d8 P C l es) (l.length<=a3) (l.map Prod.fst).Nodup<|(a==sysModules)=false
 |.ref n=>∃a,V=.ref a/\C a=.st n
 |.eA a b=>gV λx t u w=>pZ (V=.ref x) (C x=.a4 (oL a b t u w)) (small a=true) (small b=true)<|(b-a).toNat<=a3
theorem bz.of{v:B}{V:Ę}(h:bz P C v V):B2 P C v V:=bz.casesOn (motive_1:=λv V _=>B2 P C v V) h rfl (λ_=>rfl) (λ_ t=>⟨t,rfl⟩) (λ_ t c=>⟨t,rfl,c⟩) (λa b c=>⟨_,_,_,rfl,a,b,c⟩) (λa b c=>⟨_,_,_,rfl,a,b,c⟩) (λa b c d e=>⟨_,_,_,rfl,a,b,c,d,e⟩) (λa=>⟨_,rfl,a⟩)<|λa b c d=>⟨_,_,_,_,rfl,a,b,c,d⟩
def Gq(P:Params)(C:aY)(l:Lm B)(Vs:Lm Ę):Prop:=match l with
 |[]=>Vs=[]
 |v::l=>ee λV bC=>dY (Vs=V::bC) (bz P C v V)<|bB P C l bC
theorem bB.of(h:bB P C l Vs):Gq P C l Vs:=bB.casesOn (motive_2:=λl Vs _=>Gq P C l Vs) h rfl λa r=>⟨_,_,rfl,a,r⟩
theorem bB.lz{v:B}(h:bB P C (v::l) Vs):ee λV bC=>dY (Vs=V::bC) (bz P C v V) (bB P C l bC):=h.of
theorem bB.length(h:bB P C l Vs):Vs.length=l.length:=bB.ind (M:=λl Vs=>Vs.length=l.length) rfl (λ_ _ m=>bX Nat.succ m) h
theorem bB.get(h:bB P C l Vs):∀{i:Ĵ} {v:B},l[i]?=some v->∃V,Vs[i]?=some V/\bz P C v V:=bB.ind (M:=λl Vs=>∀{i:Ĵ} {v:B},l[i]?=some v->∃V,Vs[i]?=some V/\bz P C v V) (λe=>b4 e) (λa _ m=>λ{i} _ e=>by
 induction i with
 |zero=>exact⟨_,rfl,cY e▸a⟩
 |succ i=>exact m (i:=i) e) h
theorem bB.append{m:Lm B}{bC:Lm Ę}(h:bB P C l Vs)(y:bB P C m bC):bB P C (l++m) (Vs++bC):=bB.ind (M:=λl Vs=>bB P C (l++m)<|Vs++bC) y (λa _ m=>.cons a m) h
theorem bB.drop(h:bB P C l Vs):∀n,bB P C (l.drop n) (Vs.drop n):=bB.ind (M:=λl Vs=>∀n,bB P C (l.drop n) (Vs.drop n)) (λn=>by induction n<;>exact .nil) (λa r m n=>by
 induction n with
 |zero=>exact .cons a r
 |succ n=>exact m n) h
theorem bB.take(h:bB P C l Vs):∀n,bB P C (l.take n) (Vs.take n):=bB.ind (M:=λl Vs=>∀n,bB P C (l.take n) (Vs.take n)) (λn=>by induction n<;>exact .nil) (λa r m n=>by
 induction n with
 |zero=>exact .nil
 |succ n=>exact .cons a (m n)) h
theorem bB.reverse(h:bB P C l Vs):bB P C l.reverse Vs.reverse:=bB.ind (M:=λl Vs=>bB P C l.reverse Vs.reverse) .nil (λa _ m=>by rw[EU,EU];exact bB.append m<|.cons a .nil) h
theorem bB.set{v:B}{V:Ę}(x:bz P C v V)(h:bB P C l Vs):∀i,bB P C (l.set i v) (Vs.set i V):=bB.ind (M:=λl Vs=>∀i,bB P C (l.set i v) (Vs.set i V)) (λ_=>.nil) (λa r m i=>by
 induction i with
 |zero=>exact .cons x r
 |succ i=>exact .cons a (m i)) h
end
inductive iF (P:Params) (C:aY) (an:Nat->Str):List (Nat×B)->List DictEntry->Prop where
 |nil:iF P C an [] []
 |cons {a:Nat} {v:B} {t:Tok} {V:Value} {l:List (Nat×B)} {es:List DictEntry}:bz P C v V->iF P C an l es->iF P C an ((a,v)::l) (⟨PyData.keyHash P (an a),.str (an a) t,V⟩::es)
theorem iF.mono{P:Params}{C aP:aY}{an:Ĵ->Str}(G:∀a o,C a=.a4 o->aP a=.a4 o)(E:∀a n,C a=.st n->aP a=.st n){l:Lm (Ĵ×B)}{es:Lm DictEntry}(h:iF P C an l es):iF P aP an l es:=iF.rec (motive:=λl es _=>iF P aP an l es) .nil (λa _ m=>.cons (a.mono G E) m) h
structure g1 where
 an:Nat->Str
 cl:Nat->Addr
inductive lM (P:Params) (N:g1) (C:aY) (h:Heap) (n:Nat):dd->Prop where
 |ls {l:List B} {a:Addr} {Vs:List Value} {k:Nat}:C a=.st n->h.get? a=some (cw Vs.toArray k)->bB P C l Vs->l.length<=a3->lM P N C h n (.ls l)
 |cN {l:List (B×B)} {a:Addr} {es:List DictEntry} {k:Nat}:C a=.st n->h.get? a=some (ew es.toArray k)->d8 P C l es->l.length<=a3->(l.map Prod.fst).Nodup->lM P N C h n (.cN l)
 |ins {c:Nat} {l:List (Nat×B)} {a d:Addr} {es:List DictEntry} {k:Nat}:C a=.st n->C d=.cH n->h.get? a=some (kO (N.cl c) d)->h.get? d=some (ew es.toArray k)->iF P C N.an l es->(l.map Prod.fst).Nodup->c<7->lM P N C h n (.ins c l)
def Ff(P:Params)(N:g1)(C:aY)(h:Heap)(n:Ĵ)(cp:dd):Prop:=match cp with
 |.ls l=>dD λa Vs k=>hP (C a=.st n) (h.get? a=some (cw Vs.toArray k)) (bB P C l Vs)<|l.length<=a3
 |.cN l=>dD λa es k=>pZ (C a=.st n) (h.get? a=some (ew es.toArray k)) (d8 P C l es) (l.length<=a3) (l.map Prod.fst).Nodup
 |.ins c l=>gV λa d es k=>Gd (C a=.st n) (C d=.cH n) (h.get? a=some (kO (N.cl c) d)) (h.get? d=some (ew es.toArray k)) (iF P C N.an l es) (l.map Prod.fst).Nodup<|c<7
theorem lM.of{P:Params}{N:g1}{C:aY}{h:Heap}{n:Ĵ}{cp:dd}(s:lM P N C h n cp):Ff P N C h n cp:=lM.casesOn (motive:=λcp _=>Ff P N C h n cp) s (λa b c d=>⟨_,_,_,a,b,c,d⟩) (λa b c d e=>⟨_,_,_,a,b,c,d,e⟩)<|λa b c d e f g=>⟨_,_,_,_,a,b,c,d,e,f,g⟩
structure Inv(P:Params)(N:g1)(H:Heap)(os:OsState)(C:aY)(J:St)(s:Shared):Prop where
 alloc:∀a,C a≠.none->(s.heap.get? a).isSome=true
 uniq:∀a b,C a=C b->(C a).one->a=b
 a4:∀a o,C a=.a4 o->s.heap.get? a=some o
 store:∀n cp,J[n]?=some cp->lM P N C s.heap n cp
 base:∀a o,H.get? a=some o->C a=.a4 o
 gens:s.gens=#[]
 hJ:s.os=os
 gD:∀a n,(C a=.st n\/C a=.cH n)->n<J.length
theorem Inv.fresh{P:Params}{N:g1}{H:Heap}{os:OsState}{C:aY}{J:St}{s:Qj}(I:Inv P N H os C J s){a:Addr}(h:s.heap.objs.size<=a):C a=.none:=by
 induction e:C a with
 |none=>rfl
 |_=>obtain⟨o,az⟩:=g2.mp (I.alloc a<|by rw[e];intro q;cases q);exact absurd (j_ az)<|rz.mpr h
structure bq(C:aY)(s:Shared)(aP:aY)(aq:Shared):Prop where
 kept:∀a o,s.heap.get? a=some o->(C a).kept->aq.heap.get? a=some o/\aP a=C a
 st:∀a n,C a=.st n->aP a=.st n
 cH:∀a n,C a=.cH n->aP a=.cH n
structure ey(C:aY)(s:Shared)(aP:aY)(aq:Shared):Prop where
 ig:∀a o,s.heap.get? a=some o->(C a).ig->aq.heap.get? a=some o/\aP a=C a
 st:∀a n,C a=.st n->aP a=.st n
 cH:∀a n,C a=.cH n->aP a=.cH n
theorem bq.refl(C:aY)(s:Qj):bq C s C s:=⟨λ_ _ e _=>⟨e,rfl⟩,λ_ _ e=>e,λ_ _ e=>e⟩
theorem ey.refl(C:aY)(s:Qj):ey C s C s:=⟨λ_ _ e _=>⟨e,rfl⟩,λ_ _ e=>e,λ_ _ e=>e⟩
theorem bq.trans{C bL cn:aY}{s bs b7:Qj}(x:bq C s bL bs)(y:bq bL bs cn b7):bq C s cn b7:=⟨λa o e k=>let⟨ag,hv⟩:=x.kept a o e k;let⟨a8,kv⟩:=y.kept a o ag (by rw[hv];exact k);⟨a8,kv.trans hv⟩,λa n e=>y.st a n<|x.st a n e,λa n e=>y.cH a n<|x.cH a n e⟩
theorem ey.trans{C bL cn:aY}{s bs b7:Qj}(x:ey C s bL bs)(y:ey bL bs cn b7):ey C s cn b7:=⟨λa o e k=>let⟨ag,hv⟩:=x.ig a o e k;let⟨a8,kv⟩:=y.ig a o ag (by rw[hv];exact k);⟨a8,kv.trans hv⟩,λa n e=>y.st a n<|x.st a n e,λa n e=>y.cH a n<|x.cH a n e⟩
theorem bq.zero{C aP:aY}{s aq:Qj}(x:bq C s aP aq):ey C s aP aq:=⟨λa o e k=>x.kept a o e k.kept,x.st,x.cH⟩
section
variable{P:Params}{N:g1}{H:Heap}{os:OsState}{C aP:aY}{J bE:St}{s aq:Qj}
theorem ey.oy(x:ey C s aP aq)(I:Inv P N H os C J s):∀a o,C a=.a4 o->aP a=.a4 o:=λa o e=>(x.ig a o (I.a4 a o e)<|by rw[e];trivial).2.trans e
theorem ey.hn(x:ey C s aP aq)(I:Inv P N H os C J s){v:B}{V:Ę}(h:bz P C v V):bz P aP v V:=h.mono (x.oy I) x.st
theorem ey.iQ(x:ey C s aP aq)(I:Inv P N H os C J s){v:Lm B}{V:Lm Ę}(h:bB P C v V):bB P aP v V:=h.mono (x.oy I) x.st
theorem bq.hn(x:bq C s aP aq)(I:Inv P N H os C J s){v:B}{V:Ę}(h:bz P C v V):bz P aP v V:=x.zero.hn I h
theorem bq.iQ(x:bq C s aP aq)(I:Inv P N H os C J s){v:Lm B}{V:Lm Ę}(h:bB P C v V):bB P aP v V:=x.zero.iQ I h
theorem Inv.toks(I:Inv P N H os C J s)(t:Ĵ):Inv P N H os C J {s with toks:=t}:=⟨I.alloc,I.uniq,I.a4,I.store,I.base,I.gens,I.hJ,I.gD⟩
theorem bq.toks(C:aY)(s:Qj)(t:Ĵ):bq C s C {s with toks:=t}:=⟨λ_ _ e _=>⟨e,rfl⟩,λ_ _ e=>e,λ_ _ e=>e⟩
end
def cD (C:aY) (a:Addr) (r:eI):aY:=λb=>if b=a then r else C b
theorem c3(C:aY)(a:Addr)(r:eI):cD C a r a=r:=bl rfl
theorem bV{C:aY}{a b:Addr}{r:eI}(h:b≠a):cD C a r b=C b:=bt h
theorem lM.mono{P:Params}{N:g1}{C aP:aY}{h aR:Heap}{n:Ĵ}{cp:dd}(G:∀a o,C a=.a4 o->aP a=.a4 o)(E:∀a n,C a=.st n->aP a=.st n)(aB:∀a n,C a=.cH n->aP a=.cH n)(k:∀a o,(C a=.st n\/C a=.cH n)->h.get? a=some o->aR.get? a=some o):lM P N C h n cp->lM P N aP aR n cp
 |.ls a b c d=>.ls (E _ _ a) (k _ _ (.inl a) b) (c.mono G E) d
 |.cN a b c d e=>.cN (E _ _ a) (k _ _ (.inl a) b) (c.mono G E) d e
 |.ins a b c d e f g=>.ins (E _ _ a) (aB _ _ b) (k _ _ (.inl a) c) (k _ _ (.inr b) d) (e.mono G E) f g
section
variable{P:Params}{N:g1}{H:Heap}{os:OsState}{C:aY}{J:St}{s:Qj}
theorem Inv.grow(I:Inv P N H os C J s){aR:Heap}(k:∀b o,s.heap.get? b=some o->aR.get? b=some o)(t:Ĵ):Inv P N H os C J {s with heap:=aR,toks:=t}:=⟨λa h=>by obtain⟨o,az⟩:=g2.mp<|I.alloc a h;rw[show({s with heap:=aR,toks:=t}:Qj).heap.get? a=some o from k a o az];rfl,I.uniq,λa o e=>k a o<|I.a4 a o e,λn cp e=>(I.store n cp e).mono (λ_ _ e=>e) (λ_ _ e=>e) (λ_ _ e=>e) λa o _ e=>k a o e,I.base,I.gens,I.hJ,I.gD⟩
theorem bq.grow(C:aY){s:Qj}{aR:Heap}(k:∀b o,s.heap.get? b=some o->aR.get? b=some o)(t:Ĵ):bq C s C {s with heap:=aR,toks:=t}:=⟨λa o e _=>⟨k a o e,rfl⟩,λ_ _ e=>e,λ_ _ e=>e⟩
end
section
variable{P:Params}{N:g1}{H:Heap}{os:OsState}{C:aY}{J:St}{s:Qj}
theorem Inv.push(I:Inv P N H os C J s)(o:Obj)(a7:o.isFreed=false)(r:eI)(bm:r=.a4 o\/r=.ext):Inv P N H os (cD C s.heap.objs.size r) J {s with heap:=s.heap.push o}:=by
 have e2:=I.fresh (a:=s.heap.objs.size)<|dy _;have ne:∀a,C a≠.none->a≠s.heap.objs.size:=λa h q=>h<|q▸e2;have Gg:¬r.one:=by rcases bm with rfl|rfl<;>exact id
 refine⟨λa h=>?_,λa b e h=>?_,λa cu e=>?_,λn cp e=>?_,λa cu e=>?_,I.gens,I.hJ,λa n e=>?_⟩
 .by_cases q:a=s.heap.objs.size
  .subst q;rw[show({s with heap:=s.heap.push o}:Qj).heap.get? s.heap.objs.size=some o from gO _ a7];rfl
  .rw[bV q]at h;obtain⟨cu,az⟩:=g2.mp<|I.alloc a h;rw[show({s with heap:=s.heap.push o}:Qj).heap.get? a=some cu from ih _ az];rfl
 .by_cases gd:a=s.heap.objs.size
  .subst gd;rw[c3]at h;exact absurd h Gg
  .rw[bV gd]at e h;by_cases fc:b=s.heap.objs.size
   .subst fc;rw[c3]at e;rw[e]at h;exact absurd h Gg
   .rw[bV fc]at e;exact I.uniq a b e h
 .by_cases q:a=s.heap.objs.size
  .subst q;rw[c3]at e;rcases bm with bm|bm<;>rw[bm]at e
   .cases e;exact gO _ a7
   .cases e
  .rw[bV q]at e;exact ih _<|I.a4 a cu e
 .refine(I.store n cp e).mono (λa cu e=>?_) (λa m e=>?_) (λa m e=>?_) λa cu _ e=>ih _ e;all_goals rw[bV<|ne a<|by rw[e];intro q;cases q];exact e
 .rw[bV<|ne a<|by rw[I.base a cu e];intro q;cases q];exact I.base a cu e
 .by_cases q:a=s.heap.objs.size
  .subst q;rw[c3]at e;rcases bm with rfl|rfl<;>rcases e with e|e<;>cases e
  .rw[bV q]at e;exact I.gD a n e
theorem bq.push(I:Inv P N H os C J s)(o:Obj)(r:eI):bq C s (cD C s.heap.objs.size r) {s with heap:=s.heap.push o}:=by
 have ne:∀a,C a≠.none->a≠s.heap.objs.size:=λa h q=>h<|q▸(I.fresh (a:=s.heap.objs.size)<|dy _);refine⟨λa cu e k=>⟨ih _ e,bV<|ne a ?_⟩,λa n e=>?_,λa n e=>?_⟩
 .intro q;rw[q]at k;exact k
 .rw[bV<|ne a<|by rw[e];intro q;cases q];exact e
 .rw[bV<|ne a<|by rw[e];intro q;cases q];exact e
end
section
variable{P:Params}{N:g1}{H:Heap}{os:OsState}{C dp:aY}{J:St}{s eO:Qj}
theorem Inv.upd(I:Inv P N H os C J s){d:Addr}(bg:(C d).free){aR:Heap}(k:∀b o,b≠d->s.heap.get? b=some o->aR.get? b=some o)(aA:(aR.get? d).isSome=true)(t:Ĵ):Inv P N H os C J {s with heap:=aR,toks:=t}:=by
 have ne:∀{a:Addr} {r:eI},C a=r->¬r.free->a≠d:=λe h q=>h<|e▸q▸bg;refine⟨λa h=>?_,I.uniq,λa o e=>k a o (ne e id)<|I.a4 a o e,λn cp e=>(I.store n cp e).mono (λ_ _ e=>e) (λ_ _ e=>e) (λ_ _ e=>e) λa o h e=>k a o ?_ e,I.base,I.gens,I.hJ,I.gD⟩
 .by_cases q:a=d
  .subst q;exact aA
  .obtain⟨o,az⟩:=g2.mp<|I.alloc a h;rw[show({s with heap:=aR,toks:=t}:Qj).heap.get? a=some o from k a o q az];rfl
 .rcases h with h|h<;>exact ne h id
theorem bq.upd(x:bq dp eO C s){d:Addr}(am:¬(dp d).kept){aR:Heap}(k:∀b o,b≠d->s.heap.get? b=some o->aR.get? b=some o)(t:Ĵ):bq dp eO C {s with heap:=aR,toks:=t}:=⟨λa o e en=>let⟨ag,a8⟩:=x.kept a o e en;⟨k a o (λq=>am<|q▸en) ag,a8⟩,x.st,x.cH⟩
theorem ey.upd(x:ey dp eO C s){d:Addr}(am:¬(dp d).ig){aR:Heap}(k:∀b o,b≠d->s.heap.get? b=some o->aR.get? b=some o)(t:Ĵ):ey dp eO C {s with heap:=aR,toks:=t}:=⟨λa o e en=>let⟨ag,a8⟩:=x.ig a o e en;⟨k a o (λq=>am<|q▸en) ag,a8⟩,x.st,x.cH⟩
theorem Inv.turn(I:Inv P N H os C J s){d:Addr}{o:Obj}(bg:(C d).free)(az:s.heap.get? d=some o):Inv P N H os (cD C d<|.a4 o) J s:=by
 have ne:∀{a:Addr} {r:eI},C a=r->¬r.free->a≠d:=λe h q=>h<|e▸q▸bg;refine⟨λa h=>?_,λa b e h=>?_,λa cu e=>?_,λn cp e=>(I.store n cp e).mono (λa o e=>?_) (λa m e=>?_) (λa m e=>?_) λa o _ e=>e,λa cu e=>?_,I.gens,I.hJ,λa n e=>?_⟩
 .by_cases q:a=d
  .subst q;rw[az];rfl
  .rw[bV q]at h;exact I.alloc a h
 .by_cases gd:a=d
  .subst gd;rw[c3]at h;exact h.elim
  .rw[bV gd]at e h;by_cases fc:b=d
   .subst fc;rw[c3]at e;rw[e]at h;exact h.elim
   .rw[bV fc]at e;exact I.uniq a b e h
 .by_cases q:a=d
  .subst q;rw[c3]at e;cases e;exact az
  .rw[bV q]at e;exact I.a4 a cu e
 .rw[bV<|ne e id];exact e
 .rw[bV<|ne e id];exact e
 .rw[bV<|ne e id];exact e
 .rw[bV<|ne (I.base a cu e) id];exact I.base a cu e
 .by_cases q:a=d
  .subst q;rw[c3]at e;rcases e with e|e<;>cases e
  .rw[bV q]at e;exact I.gD a n e
theorem bq.turn(x:bq dp eO C s){d:Addr}{r:eI}(am:¬(dp d).kept)(bg:C d=.ext):bq dp eO (cD C d r) s:=⟨λa o e en=>let⟨ag,a8⟩:=x.kept a o e en;⟨ag,(bV (b:=a) λ(q:a=d)=>am<|q▸en).trans a8⟩,λa n e=>(bV (b:=a) λ(q:a=d)=>by have:=x.st a n e;rw[q,bg]at this;cases this).trans<|x.st a n e,λa n e=>(bV (b:=a) λ(q:a=d)=>by have:=x.cH a n e;rw[q,bg]at this;cases this).trans<|x.cH a n e⟩
theorem Inv.S0(I:Inv P N H os C J s){l:Lm B}{Vs:Lm Ę}(af:bB P C l Vs)(ap:l.length<=a3):Inv P N H os (cD C s.heap.objs.size<|.st J.length) (J++[.ls l]) {s with heap:=s.heap.push (cw Vs.toArray 0)}:=by
 have e2:=I.fresh (a:=s.heap.objs.size)<|dy _;have ne:∀{a:Addr} {r:eI},C a=r->r≠.none->a≠s.heap.objs.size:=λe h q=>h<|e.symm.trans<|q▸e2;have G:∀a o,C a=.a4 o->cD C s.heap.objs.size (.st J.length) a=.a4 o:=λa o e=>(bV<|ne e<|λq=>nomatch q).trans e;have E:∀a n,C a=.st n->cD C s.heap.objs.size (.st J.length) a=.st n:=λa o e=>(bV<|ne e<|λq=>nomatch q).trans e;refine⟨λa h=>?_,λa b e h=>?_,λa cu e=>?_,λn cp e=>?_,λa cu e=>G _ _<|I.base a cu e,I.gens,I.hJ,λa n e=>?_⟩
 .by_cases q:a=s.heap.objs.size
  .subst q;rw[show({s with heap:=s.heap.push (cw Vs.toArray 0)}:Qj).heap.get? s.heap.objs.size=some (cw Vs.toArray 0)from gO _ rfl];rfl
  .rw[bV q]at h;obtain⟨cu,az⟩:=g2.mp<|I.alloc a h;rw[show({s with heap:=s.heap.push (cw Vs.toArray 0)}:Qj).heap.get? a=some cu from ih _ az];rfl
 .by_cases gd:a=s.heap.objs.size
  .by_cases fc:b=s.heap.objs.size
   .rw[gd,fc]
   .rw[gd,c3,bV fc]at e;exact absurd (I.gD b J.length<|.inl e.symm)<|jZ _
  .rw[bV gd]at e h;by_cases fc:b=s.heap.objs.size
   .rw[fc,c3]at e;exact absurd (I.gD a J.length<|.inl e)<|jZ _
   .rw[bV fc]at e;exact I.uniq a b e h
 .by_cases q:a=s.heap.objs.size
  .subst q;rw[c3]at e;cases e
  .rw[bV q]at e;exact ih _<|I.a4 a cu e
 .by_cases q:n<J.length
  .rw[o1 q]at e;exact(I.store n cp e).mono G E (λa o e=>(bV<|ne e<|λq=>nomatch q).trans e:∀a n,C a=.cH n->cD C s.heap.objs.size (.st J.length) a=.cH n) λa o _ e=>ih _ e
  .have am:n=J.length:=by have:=(hb.mp e).1;rw[c_,pe]at this;omega
   subst am;rw[pf<|dy _,ut]at e;cases e;exact .ls (c3 _ _ _) (gO _ rfl) (af.mono G E) ap
 .rw[c_,pe];by_cases q:a=s.heap.objs.size
  .subst q;rw[c3]at e;rcases e with e|e<;>cases e
   exact qD _
  .rw[bV q]at e;exact nA<|I.gD a n e
end
def gR(ac:Env)(h:Heap)(x:Str)(V:Ę):Prop:=(ac.kindOf x=some .local/\∃m,h.Ns ac.locals m/\m x=some V)\/((ac.kindOf x=some .cell\/ac.kindOf x=some .free)/\∃c,ac.cells.lookup x=some c/\h.IsCell c (some V))
inductive mF (P:Params) (C:aY) (ac:Env) (h:Heap) (i:Nat) (x:Str):cr->Prop where
 |un:mF P C ac h i x .un
 |val {v:B} {V:Value}:gR ac h x V->bz P C v V->mF P C ac h i x (.val v)
 |ol {l:List B} {a:Addr} {Vs:List Value} {n:Nat}:gR ac h x (.ref a)->C a=.own i->h.get? a=some (cw Vs.toArray n)->bB P C l Vs->l.length<=a3->mF P C ac h i x (.ol l)
 |od {l:List (B×B)} {a:Addr} {es:List DictEntry} {n:Nat}:gR ac h x (.ref a)->C a=.own i->h.get? a=some (ew es.toArray n)->d8 P C l es->l.length<=a3->(l.map Prod.fst).Nodup->mF P C ac h i x (.od l)
def EY(P:Params)(C:aY)(ac:Env)(h:Heap)(i:Ĵ)(x:Str)(aL:cr):Prop:=match aL with
 |.un=>True
 |.val v=>ee λV (_:Unit)=>gR ac h x V/\bz P C v V
 |.ol l=>dD λa Vs n=>pZ (gR ac h x<|.ref a) (C a=.own i) (h.get? a=some (cw Vs.toArray n)) (bB P C l Vs)<|l.length<=a3
 |.od l=>dD λa es n=>rx (gR ac h x<|.ref a) (C a=.own i) (h.get? a=some (ew es.toArray n)) (d8 P C l es) (l.length<=a3) (l.map Prod.fst).Nodup
theorem mF.of{P:Params}{C:aY}{ac:Env}{h:Heap}{i:Ĵ}{x:Str}{aL:cr}(s:mF P C ac h i x aL):EY P C ac h i x aL:=mF.casesOn (motive:=λaL _=>EY P C ac h i x aL) s trivial (λa b=>⟨_,(),a,b⟩) (λa b c d e=>⟨_,_,_,a,b,c,d,e⟩)<|λa b c d e f=>⟨_,_,_,a,b,c,d,e,f⟩
abbrev bH:=List<|Str×Ĵ
structure xe(P:Params)(C:aY)(ac:Env)(ns:bH)(r:aK)(h:Heap)(k:Nat):Prop where
 kind:ac.scope.kind=.function
 glob:ac.globals=mainGlobals
 lU:ac.builtins=builtinsNs
 loc:C ac.locals=.loc k
 l2:∃m,h.Ns ac.locals m
 cells:∀x,(ac.kindOf x=some .cell\/ac.kindOf x=some .free)->ee λc v=>dY (ac.cells.lookup x=some c) (C c=.kY x)<|h.IsCell c v
 slots:∀x i aL,ns.lookup x=some i->r[i]?=some aL->mF P C ac h i x aL
section
variable{P:Params}{N:g1}{H:Heap}{os:OsState}{C aP:aY}{J bE:St}{s aq:Qj}{ac:Env}{ns:bH}{r:aK}{k:Ĵ}
theorem xe.ext(F:xe P C ac ns r s.heap k)(I:Inv P N H os C J s)(x:bq C s aP aq):xe P aP ac ns r aq.heap k:=by
 have Hi:∀o,s.heap.get? ac.locals=some o->aq.heap.get? ac.locals=some o:=λo e=>(x.kept _ o e<|by rw[F.loc];trivial).1;have T0:∀y c o,ac.cells.lookup y=some c->(ac.kindOf y=some .cell\/ac.kindOf y=some .free)->s.heap.get? c=some o->aq.heap.get? c=some o:=λy c o ap aE e=>by obtain⟨iH,v,G,E,aB⟩:=F.cells y aE;rw[ap]at G;cases G;exact(x.kept _ o e<|by rw[E];trivial).1
 have i0:∀y V,gR ac s.heap y V->gR ac aq.heap y V:=λy V h=>by
  rcases h with⟨a,m,am,e⟩|⟨a,c,ap,o,az,bg⟩
  .exact .inl ⟨a,m,am.at Hi,e⟩
  .exact .inr ⟨a,c,ap,o,T0 y c o ap a az,bg⟩
 refine⟨F.kind,F.glob,F.lU,?_,let⟨m,am⟩:=F.l2;⟨m,am.at Hi⟩,λy aE=>?_,λy i aL G E=>?_⟩
 .obtain⟨m,o,es,re,az,-⟩:=F.l2;exact(x.kept _ o az<|by rw[F.loc];trivial).2.trans F.loc
 .obtain⟨c,v,G,E,o,az,bg⟩:=F.cells y aE;obtain⟨ag,a8⟩:=x.kept c o az (by rw[E];trivial);exact⟨c,v,G,a8.trans E,o,ag,bg⟩
 .induction F.slots y i aL G E with
  |un=>exact .un
  |val a b=>exact .val (i0 _ _ a)<|x.hn I b
  |ol a b c d f=>obtain⟨ag,a8⟩:=x.kept _ _ c (by rw[b];trivial);exact .ol (i0 _ _ a) (a8.trans b) ag (x.iQ I d) f
  |od a b c d f g=>obtain⟨ag,a8⟩:=x.kept _ _ c (by rw[b];trivial);exact .od (i0 _ _ a) (a8.trans b) ag (d.mono (x.zero.oy I) x.st) f g
end
set_option tactic.hygienic true
def attrOk (K:Frag) (ai:Addr) (name:Str):Ģ:=findIn K (.ref ai) "__getattribute__"==some (some<|.builtin "object.__getattribute__")&&findIn K (.ref ai) name==some none&&(match clsIn K ai with|some nQ=>nQ.hasDict|none=>false)
def storeOk (K:Frag) (ai:Addr) (name:Str):Ģ:=findIn K (.ref ai) "__setattr__"==some (some<|.builtin "object.__setattr__")&&plainOver K ai&&takerIn K ai name==some none&&(clsIn K ai).any (·.hasDict)
structure cb where
 prog:Program
 w:World
 N:g1
 H:Heap
 os:OsState
 aI:Around->Prop
 ns:bH
 cx:Str->Bool
 b5:Str->Bool
 kD:Str->Bool
 gY:Str->Option Value
 kh:Str->Option Value
 K:Frag
structure cb.Ok(c:cb):Prop where
 sys:∃o,c.H.get? sysModules=some o
 rA:c.H.Ns mainGlobals c.gY
 C8:c.H.Ns builtinsNs c.kh
 ab:c.K.In c.H
 inj:∀a b,c.N.an a=c.N.an b->a=b
 rg:∀x y i,c.ns.lookup x=some i->c.ns.lookup y=some i->x=y
 iO:∀be a,be<7->a<33->storeOk c.K (c.N.cl be) (c.N.an a)=true
 m1:∀be a,be<7->a<33->attrOk c.K (c.N.cl be) (c.N.an a)=true
noncomputable abbrev cb.M (c:cb):Model:=model c.prog c.w
noncomputable abbrev cb.P (c:cb):Params:=c.w.params
abbrev cb.I(c:cb)(C:aY)(J:St)(s:Qj):Prop:=Inv c.P c.N c.H c.os C J s
structure cb.F(c:cb)(C:aY)(ac:Env)(r:aK)(h:Heap)(k:Nat):Prop where
 bD:xe c.P C ac c.ns r h k
 gl:∀x,c.cx x=true->ac.kindOf x=some .globalImplicit
 st:∀x,c.b5 x=true->ac.kindOf x=some .local\/ac.kindOf x=some .cell
 cl:∀x,c.kD x=true->ac.kindOf x=some .cell
abbrev dm:=aK->St->(B->St->Prop)->Prop
abbrev nL:=aK->St->(Lm B->St->Prop)->Prop
abbrev hg:=aK->St->(Ģ->St->Prop)->Prop
def zy(c:cb)(C:aY)(s:Qj)(Q:Ę->Qj->Prop)(v:B)(bE:St):Prop:=∀V aP aq,c.I aP bE aq->bq C s aP aq->bz c.P aP v V->Q V aq
def õ(c:cb)(C:aY)(s:Qj)(Q:Lm Ę->Qj->Prop)(n:Ĵ)(vs:Lm B)(bE:St):Prop:=∀Vs aP aq,c.I aP bE aq->bq C s aP aq->bB c.P aP vs Vs->vs.length=n->Q Vs aq
def Y9(c:cb)(C:aY)(s:Qj)(Q:Ģ->Qj->Prop)(b:Ģ)(bE:St):Prop:=∀aP aq,c.I aP bE aq->bq C s aP aq->Q b aq
def kc(c:cb)(A:Around)(t:Env->Sem Ę)(w:dm):Prop:=∀O s ac C r J k (K:B->St->Prop) (Q:Ę->Qj->Prop),c.I C J s->c.F C ac r s.heap k->w r J K->(∀v bE,K v bE->zy c C s Q v bE)->wpAny c.M A (t ac) Q O s
abbrev Good(c:cb)(A:Around)(e:ĳ)(w:dm):Prop:=kc c A (eval e) w
def k0(c:cb)(A:Around)(es:Lm ĳ)(w:nL):Prop:=∀O s ac C r J k pos (K:Lm B->St->Prop) (Q:Lm Ę->Qj->Prop),c.I C J s->c.F C ac r s.heap k->w r J K->(∀vs bE,K vs bE->õ c C s Q es.length vs bE)->wpAny c.M A (spliced<|backTo pos<|starEach es ac) Q O s
def pV(c:cb)(A:Around)(t:Env->Sem Ģ)(w:hg):Prop:=∀O s ac C r J k (K:Ģ->St->Prop) (Q:Ģ->Qj->Prop),c.I C J s->c.F C ac r s.heap k->w r J K->(∀b bE,K b bE->Y9 c C s Q b bE)->wpAny c.M A (t ac) Q O s
abbrev j6(c:cb)(A:Around)(e:ĳ)(w:hg):Prop:=pV c A (λac=>isTrue e ac<|eval e ac) w
theorem cb.F.ext{c:cb}{C aP:aY}{ac:Env}{r:aK}{s aq:Qj}{J:St}{k:Ĵ}(F:c.F C ac r s.heap k)(I:c.I C J s)(x:bq C s aP aq):c.F aP ac r aq.heap k:=⟨F.bD.ext I x,F.gl,F.st,F.cl⟩
theorem bind_some{aC cC:Type}{x:Ĳ aC}{f:aC->Ĳ cC}{b:cC}(h:x.bind f=some b):∃a,x=some a/\f a=some b:=Gn.mp h
theorem map_some{aC cC:Type}{x:Ĳ aC}{f:aC->cC}{b:cC}(h:x.map f=some b):∃a,x=some a/\f a=b:=yY.mp h
theorem ax.dr{aC:Type}{o:Ĳ aC}{f:aC->Prop}{cX:Prop}(h:ax o f)(k:∀a,o=some a->f a->cX):cX:=by
 induction o with
 |none=>exact h.elim
 |some a=>exact k a rfl h
section
variable{c:cb}{A:Around}
section
variable{O:Ę->Qj->Prop}{s:Qj}{ac:Env}{C:aY}{r:aK}{J:St}{k:Ĵ}(I:c.I C J s)(F:c.F C ac r s.heap k)
include I F
theorem kc.use{t:Env->Sem Ę}{w:dm}{K:B->St->Prop}{Q:Ę->Qj->Prop}(g:kc c A t w)(e:w r J K)(h:∀v bE,K v bE->∀V aP aq,c.I aP bE aq->c.F aP ac r aq.heap k->bq C s aP aq->bz c.P aP v V->Q V aq):wpAny c.M A (t ac) Q O s:=g O s ac C r J k K Q I F e λv bE e V aP aq dk x af=>h v bE e V aP aq dk (F.ext I x) x af
theorem k0.use{es:Lm ĳ}{w:nL}{K:Lm B->St->Prop}{pos:Pos}{Q:Lm Ę->Qj->Prop}(g:k0 c A es w)(e:w r J K)(h:∀vs bE,K vs bE->∀Vs aP aq,c.I aP bE aq->c.F aP ac r aq.heap k->bq C s aP aq->bB c.P aP vs Vs->vs.length=es.length->Q Vs aq):wpAny c.M A (spliced<|backTo pos<|starEach es ac) Q O s:=g O s ac C r J k pos K Q I F e λv bE e V aP aq dk x af ah=>h v bE e V aP aq dk (F.ext I x) x af ah
theorem pV.use{t:Env->Sem Ģ}{w:hg}{K:Ģ->St->Prop}{Q:Ģ->Qj->Prop}(g:pV c A t w)(e:w r J K)(h:∀b bE,K b bE->∀aP aq,c.I aP bE aq->c.F aP ac r aq.heap k->bq C s aP aq->Q b aq):wpAny c.M A (t ac) Q O s:=g O s ac C r J k K Q I F e λb bE e aP aq dk x=>h b bE e aP aq dk (F.ext I x) x
end
theorem good_int{i:ĵ}{cL:Ĵ}{pos:Pos}:Good c A (.Constant (.int i) cL pos) λ_ J K=>K (.int i) J:=λO s ac C r J k K Q I F e h=>wpAny_Constant_int<|h _ _ e _ C _ (I.toks _) (bq.toks C s _)<|.int i _
theorem good_bool{b:Ģ}{cL:Ĵ}{pos:Pos}:Good c A (.Constant (.bool b) cL pos) λ_ J K=>K (.bool b) J:=λO s ac C r J k K Q I F e h=>wpAny_Constant_bool<|h _ _ e _ C _ I (bq.refl C s)<|.bool b
theorem good_none{cL:Ĵ}{pos:Pos}:Good c A (.Constant .none cL pos) λ_ J K=>K .none J:=λO s ac C r J k K Q I F e h=>wpAny_Constant_none<|h _ _ e _ C _ I (bq.refl C s) .none
theorem good_str{x:Str}{cL:Ĵ}{pos:Pos}(ay:x.cps.toList.length<=a3):Good c A (.Constant (.str x) cL pos) λ_ J K=>K (.str x.cps.toList) J:=by intro O s ac C r J k K Q I F e h;refine wpAny_Constant_str<|h _ _ e _ C _ (I.toks _) (bq.toks C s _) ?_;have:=bz.str (P:=c.P) (C:=C) x.cps.toList s.toks ay;rwa[show(⟨x.cps.toList.toArray⟩:Str)=x by induction x;simp]at this
theorem rK{ac:Env}{x:Str}{V:Ę}{O:Ę->Qj->Prop}{s:Qj}{Q:Ę->Qj->Prop}(aE:ac.scope.kind=.function)(af:gR ac s.heap x V)(am:(x==("__classdict__":Str))=false)(h:Q V s):wpAny c.M A (loadName ac x) Q O s:=by
 rcases af with⟨a,m,aN,e⟩|⟨a|a,be,ap,af⟩
 .exact wpAny_loadName_local aE a aN e h
 .exact wpAny_loadName_cell aE a ap af h
 .exact wpAny_loadName_free aE a ap af h am
theorem Qm{r:aK}{i:Ĵ}{v:B}(h:yk r i=some v):r[i]?=some (.val v):=by
 replace h:(match r[i]? with|some (.val v)=>some v|_=>none)=some v:=h;generalize r[i]?=o at h⊢;induction o with
 |none=>exact b4 h
 |some aL=>
  induction aL with
  |val w=>exact bX (λw=>some<|cr.val w)<|cY h
  |_=>exact b4 h
theorem Ü{x:Str}{i:Ĵ}{pos:Pos}(aA:c.ns.lookup x=some i)(bg:(x==("__debug__":Str))=false)(am:(x==("__classdict__":Str))=false):Good c A (.Name x pos) λr J K=>lQ (yk r i) K J:=by intro O s ac C r J k K Q I F e h;refine ax.dr e λv ag e=>?_;obtain⟨V,-,a,b⟩:=(F.bD.slots x i _ aA<|Qm ag).of;exact rn (rK F.bD.kind a am<|h _ _ e _ C s I (bq.refl C s) b) bg
theorem cb.I.lY{c:cb}{C:aY}{J:St}{s:Qj}(I:c.I C J s):∀a o,c.H.get? a=some o->s.heap.get? a=some o:=λa o e=>I.a4 a o<|I.base a o e
theorem FS{ac:Env}{x:Str}{pos:Pos}{V:Ę}{O:Ę->Qj->Prop}{s:Qj}{C:aY}{r:aK}{J:St}{k:Ĵ}{Q:Ę->Qj->Prop}(aX:c.Ok)(I:c.I C J s)(F:c.F C ac r s.heap k)(d5:c.cx x=true)(af:c.gY x=some V)(bg:(x==("__debug__":Str))=false)(h:Q V s):wpAny c.M A (eval (.Name x pos) ac) Q O s:=Name_function_global F.bD.kind (F.gl x d5) (loadGlobal_global (by rw[F.bD.glob];exact aX.rA.at λo e=>I.lY _ _ e) af h) bg
theorem wu{ac:Env}{x:Str}{pos:Pos}{V:Ę}{O:Ę->Qj->Prop}{s:Qj}{C:aY}{r:aK}{J:St}{k:Ĵ}{Q:Ę->Qj->Prop}(aX:c.Ok)(I:c.I C J s)(F:c.F C ac r s.heap k)(d5:c.cx x=true)(aN:c.gY x=none)(af:c.kh x=some V)(bg:(x==("__debug__":Str))=false)(h:Q V s):wpAny c.M A (eval (.Name x pos) ac) Q O s:=Name_function_global F.bD.kind (F.gl x d5) (loadGlobal_builtin (by rw[F.bD.glob];exact aX.rA.at λo e=>I.lY _ _ e) aN (by rw[F.bD.lU];exact aX.C8.at λo e=>I.lY _ _ e) af h) bg
def fw (H:Heap):aY:=λa=>match H.get? a with|some o=>.a4 o|none=>.none
theorem TP{C:aY}{J:St}{s:Qj}(I:c.I C J s){v:B}{V:Ę}(h:bz c.P (fw c.H) v V):bz c.P C v V:=by
 refine h.mono (λa o e=>?_) λa n e=>?_
 .unfold fw at e;split at e
  .rename_i cu az;cases e;exact I.base _ _ az
  .exact bP e rfl
 .unfold fw at e;split at e<;>exact bP e rfl
theorem T2{x:Str}{pos:Pos}{v:B}{V:Ę}(aX:c.Ok)(d5:c.cx x=true)(af:c.gY x=some V)(bg:(x==("__debug__":Str))=false)(bm:bz c.P (fw c.H) v V):Good c A (.Name x pos) λ_ J K=>K v J:=λO s ac C r J k K Q I F e h=>FS aX I F d5 af bg<|h _ _ e V C s I (bq.refl C s)<|TP I bm
def fF (e:ĳ):Ģ:=Nat.beq e.ctorIdx 22
def lB (e:ĳ):Ģ:=Nat.beq e.ctorIdx 16
theorem t9{e:ĳ}{a':Lm ĳ}{ac:Env}(h:fF e=false):starEach (e::a') ac=(false,eval e ac)::starEach a' ac:=by exact q7 (b:=fF e) (by induction e using PySem.Expr.casesOn<;>first|rfl|trivial) h
theorem Uw:k0 c A [] λ_ J K=>K [] J:=λO s ac C r J k pos K Q I F e h=>wpAny_items_nil<|h _ _ e [] C s I (bq.refl C s) .nil rfl
theorem RM{e:ĳ}{a':Lm ĳ}{w:dm}{ec:nL}(aM:fF e=false)(g:Good c A e w)(gl:k0 c A a' ec):k0 c A (e::a') λr J K=>w r J (hD ec r<|Kp K):=by intro O s ac C r J k pos K Q I F e h;exact wpAny_items_cons (g.use I F e λv db e V bL bs a0 bU bn af=>gl.use a0 bU e λvs dZ e Vs cn b7 cd eb bK jL ah=>h _ _ e _ cn b7 cd (bn.trans bK) (.cons (bK.hn a0 af) jL)<|bX Nat.succ ah)<|t9 aM
theorem Np{es:Lm ĳ}{cL:Ĵ}{pos:Pos}{ec:nL}(gl:k0 c A es ec)(ah:es.length<=a3):Good c A (.Tuple es cL pos) λr J K=>ec r J (La K):=by intro O s ac C r J k K Q I F e h;refine wpAny_Tuple<|gl.use I F e λvs db e Vs bL bs a0 bU bn af a6=>?_;rw[<-a6]at ah;have bK:=bq.push a0 (d9 Vs.toArray 0)<|.a4<|d9 Vs.toArray 0;exact⟨by rw[af.length];exact fK ah,h _ _ e _ _ _ (a0.push (d9 Vs.toArray 0) rfl _<|.inl rfl) (bn.trans bK)<|.tup (c3 _ _ _) (bK.iQ a0 af) ah⟩
theorem Oe{es:Lm ĳ}{pos:Pos}{ec:nL}(gl:k0 c A es ec)(ah:es.length<=a3):Good c A (.List es pos) λr J K=>ec r J (Cc K):=by intro O s ac C r J k K Q I F e h;refine wpAny_List<|gl.use I F e λvs db e Vs bL bs a0 bU bn af a6=>?_;rw[<-a6]at ah;have bK:=bq.push a0 (cw Vs.toArray 0)<|.a4<|cw Vs.toArray 0;exact⟨by rw[af.length];exact fK ah,h _ _ e _ _ _ (a0.push (cw Vs.toArray 0) rfl _<|.inl rfl) (bn.trans bK)<|.lst (c3 _ _ _) (bK.iQ a0 af) ah⟩
theorem Dn{n:Ĵ}(h:n<=a3):(n:ĵ)<2^63:=Int.lt_of_le_of_lt (ud.mpr h) (by decide)
theorem Inv.isTup{P:Params}{N:g1}{H:Heap}{os:OsState}{C:aY}{J:St}{s:Qj}(I:Inv P N H os C J s){a:Addr}{Vs:Array Ę}{n:Ĵ}(e:C a=.a4 (d9 Vs n)):IsTup s.heap a Vs:=⟨_,I.a4 a _ e,rfl,n,rfl⟩
theorem Inv.isList{P:Params}{N:g1}{H:Heap}{os:OsState}{C:aY}{J:St}{s:Qj}(I:Inv P N H os C J s){a:Addr}{Vs:Array Ę}{n:Ĵ}(e:C a=.a4 (cw Vs n)):s.heap.IsList a Vs:=⟨_,I.a4 a _ e,rfl,n,rfl⟩
theorem bB.isEmpty{P:Params}{C:aY}{l:Lm B}{Vs:Lm Ę}(h:bB P C l Vs):(!Vs.toArray.isEmpty)= !l.isEmpty:=bB.ind (M:=λl Vs=>(!Vs.toArray.isEmpty)= !l.isEmpty) rfl (λ_ _ _=>rfl) h
theorem yu{v:B}{V:Ę}{f:Ģ->Prop}{O:Ę->Qj->Prop}{s:Qj}{C:aY}{J:St}{Q:Ģ->Qj->Prop}(I:c.I C J s)(af:bz c.P C v V)(e:ax (jt v) f)(h:∀b t,f b->Q b {s with toks:=t}):wpAny c.M A (truthy V) Q O s:=by
 induction v using B.casesOn with
 |none=>cases af.of;exact PyProof.Rows.truthy_none<|h _ s.toks e
 |bool b=>cases af.of;exact rm<|h _ s.toks e
 |int i=>
  obtain⟨t,rfl⟩:=af.of;refine PySem.P.truthy_int ?_;have:=h _ s.toks e;by_cases q:i=0
  .subst q;simpa using this
  .rw[show(i !=0)=true by simpa using q];rw[show decide (i≠0)=true by simpa using q]at this;exact this
 |str l=>obtain⟨t,rfl,ah⟩:=af.of;refine PySem.P.truthy_str (by show¬((Str.length ⟨l.toArray⟩:ĵ)>=2^63);unfold Str.length;rw[eo];exact Int.not_le.mpr<|Dn ah) ?_;have:=h _ (s.toks+1+1) e;rw[show(((Str.length ⟨l.toArray⟩:Ĵ):ĵ) !=0)= !l.isEmpty by unfold Str.length;rw[eo];induction l<;>simp<;>omega];exact this
 |tup l=>obtain⟨a,Vs,n,rfl,ag,a8,c0⟩:=af.of;refine PyProof.Rows.truthy_tuple (I.isTup ag) (by rw[eo,a8.length];exact Dn c0) ?_;rw[a8.isEmpty];exact h _ (s.toks+1+1) e
 |lst l=>obtain⟨a,Vs,n,rfl,ag,a8,c0⟩:=af.of;refine wpAny_truthy_list (I.isList ag) (by rw[eo,a8.length];exact Dn c0) ?_;rw[a8.isEmpty];exact h _ (s.toks+1+1) e
 |_=>exact e.elim
def u9(w:dm):hg:=λr J K=>w r J λv J=>ax (jt v) λb=>K b J
def zz:ĳ->Ģ
 |.UnaryOp .Not _ _|.BoolOp _ _ _|.IfExp _ _ _ _|.Compare _ _ _ _=>false
 |_=>true
theorem Xi{e:ĳ}{ac:Env}{zv:Sem Ę}(h:zz e=true):isTrue e ac zv=(do let v<-zv;standAt e.pos;holding [v]<|truthy v):=by
 refine q7 (b:= !zz e) ?_ (by rw[h];rfl);induction e using PySem.Expr.casesOn with
 |UnaryOp gk _ _=>induction gk<;>first|rfl|trivial
 |_=>first|rfl|trivial
theorem QR{e:ĳ}{w:dm}(ae:zz e=true)(g:Good c A e w):j6 c A e (u9 w):=λO s ac C r J k K Q I F ag h=>wpAny_isTrue_value (g.use I F ag λv db e V bL bs a0 bU bn af=>yu a0 af e λb t e=>h _ _ e bL _ (a0.toks t)<|bn.trans<|bq.toks bL bs t)<|Xi ae
theorem SO{e:ĳ}{pos:Pos}{w:hg}(g:j6 c A e w):j6 c A (.UnaryOp .Not e pos) λr J K=>w r J λb=>K !b:=λO s ac C r J k K Q I F ag h=>wpAny_isTrue_Not<|g.use I F ag λb db e bL bs a0 bU bn=>h _ _ e bL bs a0 bn
theorem Tp{e:ĳ}{pos:Pos}{w:dm}(g:Good c A e w):Good c A (.UnaryOp .Not e pos) λr J K=>w r J (Ij K):=λO s ac C r J k K Q I F ag h=>wpAny_UnaryOp<|g.use I F ag λx db e V bL bs a0 bU bn af=>not_value<|yu a0 af e λb t e=>h _ _ e _ bL _ (a0.toks t) (bn.trans<|bq.toks bL bs t)<|.bool _
theorem YH{t b o:ĳ}{pos:Pos}{pE:hg}{ki e':dm}(gt:j6 c A t pE)(lm:Good c A b ki)(go:Good c A o e'):Good c A (.IfExp t b o pos) λr J K=>pE r J λq J=>k1 (ki r J K) (e' r J K) q:=by
 intro O s ac C r J k K Q I F ag h;refine wpAny_IfExp<|gt.use I F ag λq db e bL bs a0 bU bn=>?_;induction q with
 |true=>exact lm.use a0 bU e λv dZ e V cn b7 cd eb bK af=>h v dZ e V cn b7 cd (bn.trans bK) af
 |false=>exact go.use a0 bU e λv dZ e V cn b7 cd eb bK af=>h v dZ e V cn b7 cd (bn.trans bK) af
theorem Zt{t b o:ĳ}{pos:Pos}{pE ki e':hg}(gt:j6 c A t pE)(lm:j6 c A b ki)(go:j6 c A o e'):j6 c A (.IfExp t b o pos) λr J K=>pE r J λq J=>k1 (ki r J K) (e' r J K) q:=by
 intro O s ac C r J k K Q I F ag h;show wpAny c.M A (isTrue (.IfExp t b o pos) ac _) Q O s;rw[arm_isTrue_IfExp];refine bc<|gt.use I F ag λq db e bL bs a0 bU bn=>?_;induction q with
 |true=>exact lm.use a0 bU e λb dZ e cn b7 cd eb bK=>h b dZ e cn b7 cd<|bn.trans bK
 |false=>exact go.use a0 bU e λb dZ e cn b7 cd eb bK=>h b dZ e cn b7 cd<|bn.trans bK
set_option tactic.hygienic false
theorem Ï{o:lH}{J:St}{x y:B}(am:o≠.isin/\o≠.f5):hu o J x y=cmp o x y:=by induction o<;>first|rfl|exact absurd rfl am.1|exact absurd rfl am.2
inductive gr (P:Params) (C:aY) (h:Heap):B->Value->Prop where
 |val {v:B} {V:Value}:bz P C v V->gr P C h v V
 |lst {l:List B} {a:Addr} {Vs:List Value} {n i:Nat}:C a=.own i->h.get? a=some (cw Vs.toArray n)->bB P C l Vs->l.length<=a3->gr P C h (.lst l) (.ref a)
 |a9 {l:List (B×B)} {a:Addr} {es:List DictEntry} {n i:Nat}:C a=.own i->h.get? a=some (ew es.toArray n)->d8 P C l es->l.length<=a3->(l.map Prod.fst).Nodup->gr P C h (.a9 l) (.ref a)
def Eg(P:Params)(C:aY)(h:Heap)(v:B)(V:Ę):Prop:=match v with
 |.lst l=>dD λa Vs n=>hP (V=.ref a) ((C a=.a4 (cw Vs.toArray n))\/((∃i,C a=.own i)/\h.get? a=some (cw Vs.toArray n))) (bB P C l Vs)<|l.length<=a3
 |.a9 l=>dD λa es n=>pZ (V=.ref a) ((C a=.a4 (ew es.toArray n)/\(a==sysModules)=false)\/((∃i,C a=.own i)/\h.get? a=some (ew es.toArray n))) (d8 P C l es) (l.length<=a3) (l.map Prod.fst).Nodup
 |v=>B2 P C v V
theorem gr.of{P:Params}{C:aY}{h:Heap}{v:B}{V:Ę}(x:gr P C h v V):Eg P C h v V:=gr.casesOn (motive:=λv V _=>Eg P C h v V) x (λx=>bz.casesOn (motive_1:=λv V _=>Eg P C h v V) x rfl (λ_=>rfl) (λ_ t=>⟨t,rfl⟩) (λ_ t c=>⟨t,rfl,c⟩) (λa b c=>⟨_,_,_,rfl,a,b,c⟩) (λa b c=>⟨_,_,_,rfl,.inl a,b,c⟩) (λa b c d e=>⟨_,_,_,rfl,.inl ⟨a,e⟩,b,c,d⟩) (λa=>⟨_,rfl,a⟩)<|λa b c d=>⟨_,_,_,_,rfl,a,b,c,d⟩) (λa b d e=>⟨_,_,_,rfl,.inr ⟨⟨_,a⟩,b⟩,d,e⟩)<|λa b d e f=>⟨_,_,_,rfl,.inr ⟨⟨_,a⟩,b⟩,d,e,f⟩
theorem gr.ext{c:cb}{C aP:aY}{s aq:Qj}{J:St}{v:B}{V:Ę}(I:c.I C J s)(x:bq C s aP aq):gr c.P C s.heap v V->gr c.P aP aq.heap v V
 |.val h=>.val<|x.hn I h
 |.lst a b d e=>let⟨ag,a8⟩:=x.kept _ _ b (by rw[a];trivial);.lst (a8.trans a) ag (x.iQ I d) e
 |.a9 a b d e f=>let⟨ag,a8⟩:=x.kept _ _ b (by rw[a];trivial);.a9 (a8.trans a) ag (d.mono (x.zero.oy I) x.st) e f
def YK(c:cb)(C:aY)(s:Qj)(Q:Ę->Qj->Prop)(v:B)(bE:St):Prop:=∀V aP aq,c.I aP bE aq->bq C s aP aq->gr c.P aP aq.heap v V->Q V aq
def lc(c:cb)(A:Around)(e:ĳ)(w:dm):Prop:=∀O s ac C r J k (K:B->St->Prop) (Q:Ę->Qj->Prop),c.I C J s->c.F C ac r s.heap k->w r J K->(∀v bE,K v bE->YK c C s Q v bE)->wpAny c.M A (eval e ac) Q O s
def xG(bI:a1)(w:dm):dm:=λr J K=>p6 (peek r bI) J (w r J) K
theorem lc.use{e:ĳ}{w:dm}(g:lc c A e w){O:Ę->Qj->Prop}{s:Qj}{ac:Env}{C:aY}{r:aK}{J:St}{k:Ĵ}{K:B->St->Prop}{Q:Ę->Qj->Prop}(I:c.I C J s)(F:c.F C ac r s.heap k)(ag:w r J K)(h:∀v bE,K v bE->∀V aP aq,c.I aP bE aq->c.F aP ac r aq.heap k->bq C s aP aq->gr c.P aP aq.heap v V->Q V aq):wpAny c.M A (eval e ac) Q O s:=g O s ac C r J k K Q I F ag λv bE e V aP aq dk x af=>h v bE e V aP aq dk (F.ext I x) x af
theorem Ê{e:ĳ}{bI:a1}{w:dm}(g:Good c A e w)(h:∀r,peek r bI=none):lc c A e (xG bI w):=by intro O s ac C r J k K Q I F ag bb;unfold xG at ag;rw[h]at ag;exact g.use I F ag λv bE e V aP aq dk g8 x af=>bb v bE e V aP aq dk x<|.val af
theorem N0{x:Str}{i:Ĵ}{pos:Pos}(aA:c.ns.lookup x=some i)(bg:(x==("__debug__":Str))=false)(am:(x==("__classdict__":Str))=false):lc c A (.Name x pos) (xG (.v i) λr J K=>lQ (yk r i) K J):=by
 intro O s ac C r J k K Q I F ag bb;replace ag:p6 (match r[i]? with|some (.val v)=>some v|some (.ol l)=>some (.lst l)|some (.od l)=>some (.a9 l)|_=>none) J (lQ (match r[i]? with|some (.val v)=>some v|_=>none) · J) K:=ag;have aM:=F.bD.slots x i;generalize r[i]?=o at ag aM;induction o with
 |none=>exact False.elim ag
 |some aL=>
  have aM:=(aM aL aA rfl).of;induction aL with
  |un=>exact False.elim ag
  |val v=>obtain⟨V,-,a,b⟩:=aM;exact rn (rK F.bD.kind a am<|bb _ _ ag _ C s I (bq.refl C s)<|.val b) bg
  |ol l=>obtain⟨a,Vs,n,bY,br,dM,gL,ky⟩:=aM;exact rn (rK F.bD.kind bY am<|bb _ _ ag _ C s I (bq.refl C s)<|.lst br dM gL ky) bg
  |od l=>obtain⟨a,es,n,bY,br,dM,gL,ky,xa⟩:=aM;exact rn (rK F.bD.kind bY am<|bb _ _ ag _ C s I (bq.refl C s)<|.a9 br dM gL ky xa) bg
set_option backward.match.sparseCases true in
theorem L'{pos:Pos}{gk:BoolOp}{x y:Sem Ę}{a':Lm (Sem Ę)}:boolOp pos gk (x::y::a')=(do let v<-x;standAt pos;let t<-holding [v] (truthy v);match gk,t with|.And,false|.Or,true=>pure v|_,_=>boolOp pos gk<|y::a'):=rfl
theorem Ñ{e:ĳ}{pos:Pos}{w:dm}(g:Good c A e w):kc c A (λac=>boolOp pos .And<|evalEach [e] ac) w:=g
theorem X_{e:ĳ}{pos:Pos}{w:dm}(g:Good c A e w):kc c A (λac=>boolOp pos .Or<|evalEach [e] ac) w:=g
section
variable{e y:ĳ}{a':Lm ĳ}{pos:Pos}{w j7:dm}(g:Good c A e w)
include g
theorem R0(bf:kc c A (λac=>boolOp pos .And<|evalEach (y::a') ac) j7):kc c A (λac=>boolOp pos .And<|evalEach (e::y::a') ac) λr J K=>w r J (Le j7 r K):=by
 intro O s ac C r J k K Q I F ag h;show wpAny c.M A (boolOp pos .And<|eval e ac::eval y ac::evalEach a' ac) Q O s;rw[L'];refine bc<|g.use I F ag λv db e V bL bs a0 bU bn af=>bc<|pH<|bc<|gU<|yu a0 af e λb t e=>?_;have bK:=bn.trans<|bq.toks bL bs t;cases b with
 |false=>exact b1<|h _ _ e _ bL _ (a0.toks t) bK af
 |true=>exact bf.use (a0.toks t) (bU.ext a0<|bq.toks bL bs t) e λv dZ e W cn b7 cd eb fs bF=>h v dZ e W cn b7 cd (bK.trans fs) bF
theorem ZN(bf:kc c A (λac=>boolOp pos .Or<|evalEach (y::a') ac) j7):kc c A (λac=>boolOp pos .Or<|evalEach (e::y::a') ac) λr J K=>w r J (ID j7 r K):=by
 intro O s ac C r J k K Q I F ag h;show wpAny c.M A (boolOp pos .Or<|eval e ac::eval y ac::evalEach a' ac) Q O s;rw[L'];refine bc<|g.use I F ag λv db e V bL bs a0 bU bn af=>bc<|pH<|bc<|gU<|yu a0 af e λb t e=>?_;have bK:=bn.trans<|bq.toks bL bs t;cases b with
 |true=>exact b1<|h _ _ e _ bL _ (a0.toks t) bK af
 |false=>exact bf.use (a0.toks t) (bU.ext a0<|bq.toks bL bs t) e λv dZ e W cn b7 cd eb fs bF=>h v dZ e W cn b7 cd (bK.trans fs) bF
end
theorem Kc{gk:BoolOp}{es:Lm ĳ}{pos:Pos}{w:dm}(g:kc c A (λac=>boolOp pos gk<|evalEach es ac) w):Good c A (.BoolOp gk es pos) w:=g
abbrev pl(c:cb)(A:Around)(gk:BoolOp)(es:Lm ĳ)(w:hg):Prop:=pV c A (allTrue gk es) w
theorem Qu:pl c A .And [] λ_ J K=>K true J:=λO s ac C r J k K Q I F ag h=>wpAny_allTrue_And_nil<|h _ _ ag C s I<|bq.refl C s
theorem Wy:pl c A .Or [] λ_ J K=>K false J:=λO s ac C r J k K Q I F ag h=>wpAny_allTrue_Or_nil<|h _ _ ag C s I<|bq.refl C s
section
variable{e:ĳ}{a':Lm ĳ}{w j7:hg}(g:j6 c A e w)
include g
theorem Sv(bf:pl c A .And a' j7):pl c A .And (e::a') λr J K=>w r J λb J=>k1 (j7 r J K) (K false J) b:=by
 intro O s ac C r J k K Q I F ag h;refine wpAny_allTrue_And_cons<|g.use I F ag λb db e bL bs a0 bU bn=>?_;cases b with
 |true=>exact bf.use a0 bU e λb dZ e cn b7 cd eb bK=>h b dZ e cn b7 cd<|bn.trans bK
 |false=>exact h _ _ e bL bs a0 bn
theorem Ua(bf:pl c A .Or a' j7):pl c A .Or (e::a') λr J K=>w r J λb J=>k1 (K true J) (j7 r J K) b:=by
 intro O s ac C r J k K Q I F ag h;refine wpAny_allTrue_Or_cons<|g.use I F ag λb db e bL bs a0 bU bn=>?_;cases b with
 |true=>exact h _ _ e bL bs a0 bn
 |false=>exact bf.use a0 bU e λb dZ e cn b7 cd eb bK=>h b dZ e cn b7 cd<|bn.trans bK
end
theorem ME{gk:BoolOp}{es:Lm ĳ}{pos:Pos}{w:hg}(g:pl c A gk es w):j6 c A (.BoolOp gk es pos) w:=by intro O s ac C r J k K Q I F ag h;show wpAny c.M A (isTrue (.BoolOp gk es pos) ac _) Q O s;rw[arm_isTrue_BoolOp];exact g.use I F ag λb db e bL bs a0 bU bn=>h b db e bL bs a0 bn
def lA:lH->CmpOp
 |.eq=>.Eq|.ne=>.NotEq|.lt=>.Lt|.le=>.LtE|.gt=>.Gt|.ge=>.GtE|.isin=>.In|.f5=>.NotIn|.is=>.Is|.p_=>.IsNot
def lD(c:cb)(A:Around)(o:lH):Prop:=∀O s C J x y V W t (Q:Ę->Qj->Prop),c.I C J s->bz c.P C x V->gr c.P C s.heap y W->hu o J x y=some t->(∀k,Q (.bool t) {s with toks:=k})->wpAny c.M A (compareOp (lA o) V W) Q O s
section
variable{l e:ĳ}{o:lH}{pos:Pos}{ec fb:dm}(gl:Good c A l ec)(az:lD c A o)
include gl az
theorem U'(ge:lc c A e fb)(aN:behindInMarks (lA o) e=false):Good c A (.Compare l [lA o] [e] pos) λr J K=>ec r J λx J=>fb r J (CV o x K):=by intro O s ac C r J k K Q I F ag h;exact wpAny_Compare1 (gl.use I F ag λx db e V bL bs a0 bU bn af=>ge.use a0 bU e λy dZ e W cn b7 cd eb bK bF=>ax.dr e λb fv e=>az _ _ cn _ x y V W b _ cd (bK.hn a0 af) bF fv λt=>h _ _ e _ cn _ (cd.toks t) ((bn.trans bK).trans<|bq.toks cn b7 t)<|.bool b) aN
theorem Nw(ge:lc c A e fb)(aN:behindInMarks (lA o) e=false):j6 c A (.Compare l [lA o] [e] pos) λr J K=>ec r J λx J=>fb r J λy J=>ax (hu o J x y) λb=>K b J:=by intro O s ac C r J k K Q I F ag h;exact wpAny_isTrue_Compare1 (gl.use I F ag λx db e V bL bs a0 bU bn af=>ge.use a0 bU e λy dZ e W cn b7 cd eb bK bF=>ax.dr e λb fv e=>az _ _ cn _ x y V W _ _ cd (bK.hn a0 af) bF fv λt=>rm<|h _ _ e cn _ (cd.toks t)<|(bn.trans bK).trans<|bq.toks cn b7 t) aN
theorem S5{bx:ĳ}{cu:lH}{Ih:dm}(ge:Good c A e fb)(RI:lc c A bx Ih)(g7:lD c A cu)(am:o≠.isin/\o≠.f5)(aN:lastMarks [lA o,lA cu] [e,bx]=false):Good c A (.Compare l [lA o,lA cu] [e,bx] pos) λr J K=>ec r J λx J=>fb r J λy J=>bh (cmp o x y) (Ih r J<|CV cu y K) (K (.bool false) J):=by
 intro O s ac C r J k K Q I F ag h;refine Compare_chain (gl.use I F ag λx db e V bL bs a0 bU bn af=>chain_link<|ge.use a0 bU e λy dZ e W cn b7 cd eb bK bF=>ax.dr e λt fv e=>?_) aN;have MX:hu o dZ x y=some t:=(Ï am).trans fv;refine az _ _ cn _ x y V W t _ cd (bK.hn a0 af) (.val bF) MX λcJ=>rm ?_;have fR:=cd.toks cJ;have kL:=(bn.trans bK).trans<|bq.toks cn b7 cJ;induction t with
 |false=>exact h _ _ e _ cn _ fR kL<|.bool false
 |true=>exact chain_last<|RI.use fR (eb.ext cd<|bq.toks cn b7 cJ) e λz wI e Z xZ iE hG m4 hE hz=>ax.dr e λb N2 e=>g7 _ _ xZ _ y z W Z b _ hG (hE.hn fR bF) hz N2 λt=>h _ _ e _ xZ _ (hG.toks t) ((kL.trans hE).trans<|bq.toks xZ iE t)<|.bool b
end
def A6:qo->Operator
 |.add=>.Add|.sub=>.Sub|.mul=>.Mult|.fdiv=>.FloorDiv|.mod=>.Mod|.band=>.BitAnd
def qb(c:cb)(A:Around)(o:qo):Prop:=∀O s C J x y V W z (Q:Ę->Qj->Prop),c.I C J s->bz c.P C x V->bz c.P C y W->bin o x y=some z->zy c C s Q z J->wpAny c.M A (binaryOp (A6 o) V W) Q O s
theorem Ql{l e:ĳ}{o:qo}{pos:Pos}{ec fb:dm}(gl:Good c A l ec)(ge:Good c A e fb)(az:qb c A o):Good c A (.BinOp l (A6 o) e pos) λr J K=>ec r J (hD fb r<|Ir o K):=by intro O s ac C r J k K Q I F ag h;exact wpAny_BinOp<|gl.use I F ag λx db e V bL bs a0 bU bn af=>ge.use a0 bU e λy dZ e W cn b7 cd eb bK bF=>ax.dr e λz fv e=>az _ _ cn _ x y V W _ _ cd (bK.hn a0 af) bF fv λZ kk f' fR fs hz=>h _ _ e Z kk f' fR ((bn.trans bK).trans fs) hz
def bQ (v:B):Ģ:=Nat.ble 6 v.ctorIdx
mutual
inductive ci (h:Heap):B->Value->Prop where
 |none:ci h .none .none
 |bool (b:Bool):ci h (.bool b) (.bool b)
 |int (i:Int) (t:Tok):ci h (.int i) (.int i t)
 |str (l:List Nat) (t:Tok):ci h (.str l) (.str ⟨l.toArray⟩ t)
 |tup {l:List B} {a:Addr} {Vs:List Value} {n:Nat}:h.get? a=some (d9 Vs.toArray n)->d1 h l Vs->ci h (.tup l) (.ref a)
 |lst {l:List B} {a:Addr} {Vs:List Value} {n:Nat}:h.get? a=some (cw Vs.toArray n)->d1 h l Vs->ci h (.lst l) (.ref a)
 |vz {v:B} {V:Value}:bQ v=true->ci h v V
inductive d1 (h:Heap):List B->List Value->Prop where
 |nil:d1 h [] []
 |cons {v:B} {V:Value} {l:List B} {Vs:List Value}:ci h v V->d1 h l Vs->d1 h (v::l) (V::Vs)
end
section
variable{P:Params}{N:g1}{H:Heap}{os:OsState}{C:aY}{J:St}{s:Qj}
theorem bz.af(I:Inv P N H os C J s){v:B}{V:Ę}(h:bz P C v V):ci s.heap v V:=bz.rec (motive_1:=λv V _=>ci s.heap v V) (motive_2:=λl Vs _=>d1 s.heap l Vs) (motive_3:=λ_ _ _=>True) .none .bool .int (λl t _=>.str l t) (λe _ _ r=>.tup (I.a4 _ _ e) r) (λe _ _ r=>.lst (I.a4 _ _ e) r) (λ_ _ _ _ _ _=>.vz rfl) (λ_=>.vz rfl) (λ_ _ _ _=>.vz rfl) .nil (λ_ _ a r=>.cons a r) trivial (λ_ _ _ _ _ _=>trivial) h
theorem bB.af(I:Inv P N H os C J s){l:Lm B}{Vs:Lm Ę}(h:bB P C l Vs):d1 s.heap l Vs:=bB.ind (M:=d1 s.heap) .nil (λa _ m=>.cons (a.af I) m) h
theorem gr.af(I:Inv P N H os C J s){v:B}{V:Ę}(h:gr P C s.heap v V):ci s.heap v V:=by
 induction h with
 |val h=>exact h.af I
 |lst _ b d _=>exact .lst b<|d.af I
 |a9=>exact .vz rfl
end
def K8(h:Heap)(v:B)(V:Ę):Prop:=match v with
 |.none=>V=.none
 |.bool b=>V=.bool b
 |.int i=>∃t,V=.int i t
 |.str l=>∃t,V=.str ⟨l.toArray⟩ t
 |.tup l=>dD λa Vs n=>dY (V=.ref a) (h.get? a=some (d9 Vs.toArray n))<|d1 h l Vs
 |.lst l=>dD λa Vs n=>dY (V=.ref a) (h.get? a=some (cw Vs.toArray n))<|d1 h l Vs
 |_=>True
theorem ci.of{h:Heap}{v:B}{V:Ę}(x:ci h v V):K8 h v V:=ci.casesOn (motive_1:=λv V _=>K8 h v V) x rfl (λ_=>rfl) (λ_ t=>⟨t,rfl⟩) (λ_ t=>⟨t,rfl⟩) (λa b=>⟨_,_,_,rfl,a,b⟩) (λa b=>⟨_,_,_,rfl,a,b⟩) λ{v V} q=>by induction v using B.casesOn<;>first|trivial|exact cq q
theorem yp{g:Lm B->Lm B->Ĳ Ģ}{x y:B}{b:Ģ}(e:l0 g x y=some b):bQ x=false:=by induction x using B.casesOn<;>first|rfl|exact b4 e
theorem VJ{g:Lm B->Lm B->Ĳ Ģ}(x y:B):cond (bQ y) (l0 g x y=none) True:=by induction y using B.casesOn<;>first|trivial|(induction x using B.casesOn<;>rfl)
theorem V0{g:Lm B->Lm B->Ĳ Ģ}{x y:B}{b:Ģ}(e:l0 g x y=some b):bQ y=false:=by
 have h:=VJ (g:=g) x y;rw[e]at h;generalize bQ y=n at h⊢;induction n with
 |false=>rfl
 |true=>exact lh h
theorem Vm{h:Heap}{a:Addr}{Vs bC:Lm Ę}{n m:Ĵ}(g:h.get? a=some (d9 Vs.toArray n))(dV:h.get? a=some (d9 bC.toArray m)):Vs=bC:=by exact bX (λo:Obj=>match o.data with|.seq a _=>a.toList|_=>[])<|(cY<|g.symm.trans dV)
theorem Yi{h:Heap}{a:Addr}{Vs bC:Lm Ę}{n m:Ĵ}(g:h.get? a=some (cw Vs.toArray n))(dV:h.get? a=some (cw bC.toArray m)):Vs=bC:=by exact bX (λo:Obj=>match o.data with|.seq a _=>a.toList|_=>[])<|(cY<|g.symm.trans dV)
theorem Hr{h:Heap}{a:Addr}{Vs bC:Array Ę}{n m:Ĵ}(g:h.get? a=some (cw Vs n))(dV:h.get? a=some (d9 bC m)):False:=by exact absurd (show Value.type "list"=Value.type "tuple"from(bX Obj.cls<|cY<|g.symm.trans dV)) (by decide)
section
variable{h:Heap}{x:B}
def Ky(h:Heap)(x:B)(V:Ę):Prop:=match V with
 |.none=>x=.none
 |.bool b=>x=.bool b
 |.int i _=>x=.int i
 |.str s _=>x=.str s.cps.toList
 |.float _ _=>False
 |.ref a=>(dD λl Vs k=>dY (x=.tup l) (h.get? a=some (d9 Vs.toArray k))<|d1 h l Vs)\/dD λl Vs k=>dY (x=.lst l) (h.get? a=some (cw Vs.toArray k))<|d1 h l Vs
 |_=>True
theorem ci.o3{V:Ę}(v:ci h x V)(n:bQ x=false):Ky h x V:=ci.casesOn (motive_1:=λx V _=>bQ x=false->Ky h x V) v (λ_=>rfl) (λ_ _=>rfl) (λ_ _ _=>rfl) (λ_ _ _=>rfl) (λg r _=>.inl ⟨_,_,_,rfl,g,r⟩) (λg r _=>.inr ⟨_,_,_,rfl,g,r⟩) (λq n=>cq<|n.symm.trans q) n
theorem ci.Ia(v:ci h x .none)(n:bQ x=false):x=.none:=v.o3 n
theorem ci.HS{b:Ģ}(v:ci h x (.bool b))(n:bQ x=false):x=.bool b:=v.o3 n
theorem ci.D5{i:ĵ}{t:Tok}(v:ci h x (.int i t))(n:bQ x=false):x=.int i:=v.o3 n
theorem ci.z3{l:Lm Ĵ}{t:Tok}(v:ci h x (.str ⟨l.toArray⟩ t))(n:bQ x=false):x=.str l:=v.o3 n
theorem ci.WH{f:UInt64}{t:Tok}(v:ci h x (.float f t))(n:bQ x=false):False:=v.o3 n
theorem ci.J7{a:Addr}(v:ci h x (.ref a))(n:bQ x=false):(dD λl Vs k=>dY (x=.tup l) (h.get? a=some (d9 Vs.toArray k))<|d1 h l Vs)\/dD λl Vs k=>dY (x=.lst l) (h.get? a=some (cw Vs.toArray k)) (d1 h l Vs):=v.o3 n
theorem ci.EM{a:Addr}{Vs:Lm Ę}{k:Ĵ}(v:ci h x (.ref a))(g:h.get? a=some (d9 Vs.toArray k))(n:bQ x=false):∃l,x=.tup l/\d1 h l Vs:=by
 rcases v.J7 n with⟨l,bC,m,rfl,dV,r⟩|⟨l,bC,m,rfl,dV,r⟩
 .induction Vm g dV;exact⟨l,rfl,r⟩
 .exact(Hr dV g).elim
theorem ci.HF{a:Addr}{Vs:Lm Ę}{k:Ĵ}(v:ci h x (.ref a))(g:h.get? a=some (cw Vs.toArray k))(n:bQ x=false):∃l,x=.lst l/\d1 h l Vs:=by
 rcases v.J7 n with⟨l,bC,m,rfl,dV,r⟩|⟨l,bC,m,rfl,dV,r⟩
 .exact(Hr g dV).elim
 .induction Yi g dV;exact⟨l,rfl,r⟩
end
def KZ(h:Heap)(l:Lm B)(Vs:Lm Ę):Prop:=match Vs with
 |[]=>l=[]
 |V::Vs=>ee λv m=>dY (l=v::m) (ci h v V)<|d1 h m Vs
theorem d1.o3{h:Heap}{l:Lm B}{Vs:Lm Ę}(r:d1 h l Vs):KZ h l Vs:=d1.casesOn (motive_2:=λl Vs _=>KZ h l Vs) r rfl λa r=>⟨_,_,rfl,a,r⟩
theorem d1.o5{h:Heap}{l:Lm B}(r:d1 h l []):l=[]:=r.o3
theorem d1.lz{h:Heap}{l:Lm B}{V:Ę}{Vs:Lm Ę}(r:d1 h l (V::Vs)):ee λv m=>dY (l=v::m) (ci h v V) (d1 h m Vs):=r.o3
theorem Ac{f:B->B->Ĳ Ģ}{x y:B}{l m:Lm B}{b:Ģ}(e:hA f (x::l) (y::m)=some b):ee λt u=>dY (f x y=some t) (hA f l m=some u) (b=(t&&u)):=by obtain⟨t,ag,a8⟩:=bind_some<|show(f x y).bind _=some b from e;obtain⟨u,c0,cZ⟩:=map_some a8;clear a8;exact⟨t,u,ag,c0,cZ.symm⟩
theorem XG{f:B->B->Ĳ Ģ}{h:Heap}(ar:∀x y V b,ci h x V->ci h y V->f x y=some b->b=true):∀{Vs:Lm Ę} {l m:Lm B} {b:Ģ},d1 h l Vs->d1 h m Vs->hA f l m=some b->b=true:=by
 intro Vs;induction Vs with
 |nil=>intro l m b r b0 e;rw[r.o5,b0.o5]at e;exact(cY e).symm
 |cons V Vs vc=>intro l m b r b0 e;obtain⟨v,l,rfl,a,hv⟩:=r.lz;obtain⟨w,m,rfl,hi,kv⟩:=b0.lz;obtain⟨t,u,ag,a8,c0⟩:=Ac e;clear e;rw[c0,ar _ _ _ _ a hi ag,vc hv kv a8];rfl
theorem Iy{h:Heap}{g:Lm B->Lm B->Ĳ Ģ}(ar:∀{Vs:Lm Ę} {l m:Lm B} {b:Ģ},d1 h l Vs->d1 h m Vs->g l m=some b->b=true){x y:B}{V:Ę}{b:Ģ}(ay:ci h x V)(a2:ci h y V)(e:l0 g x y=some b):b=true:=by have n:=V0 e;exact ci.casesOn (motive_1:=λx V _=>ci h y V->l0 g x y=some b->b=true) ay (λa2 e=>by rw[a2.Ia n]at e;exact(cY e).symm) (λ_ a2 e=>by rw[a2.HS n]at e;exact(cY e).symm.trans<|jV _) (λ_ _ a2 e=>by rw[a2.D5 n]at e;exact(cY e).symm.trans<|dQ rfl) (λ_ _ a2 e=>by rw[a2.z3 n]at e;exact(cY e).symm.trans<|dQ rfl) (λq r a2 e=>by obtain⟨l,rfl,b0⟩:=a2.EM q n;exact ar r b0 e) (λq r a2 e=>by obtain⟨l,rfl,b0⟩:=a2.HF q n;exact ar r b0 e) (λq _ e=>cq<|(yp e).symm.trans q) a2 e
theorem MO{h:Heap}:∀(n:Ĵ) (x y:B) (V:Ę) (b:Ģ),ci h x V->ci h y V->g6 n x y=some b->b=true:=by
 intro n;induction n with
 |zero=>exact λx y V b ay a2 e=>Iy (λ_ _ e=>b4 e) ay a2 e
 |succ n ar=>exact λx y V b ay a2 e=>Iy (g:=hA<|g6 n) (XG ar) ay a2 e
theorem TL{f:B->B->Ĳ Ģ}{h:Heap}(ar:∀x ez y V b ev,ci h x V->ci h ez V->f x y=some b->f ez y=some ev->b=ev):∀{Vs:Lm Ę} {l dh m:Lm B} {b ev:Ģ},d1 h l Vs->d1 h dh Vs->hA f l m=some b->hA f dh m=some ev->b=ev:=by
 intro Vs;induction Vs with
 |nil=>intro l dh m b ev r b0 e bx;rw[r.o5]at e;rw[b0.o5]at bx;exact cY<|e.symm.trans bx
 |cons V Vs vc=>
  intro l dh m b ev r b0 e bx;obtain⟨v,l,rfl,a,hv⟩:=r.lz;obtain⟨oe,dh,rfl,hi,kv⟩:=b0.lz;induction m with
  |nil=>exact cY<|e.symm.trans bx
  |cons y m=>obtain⟨t,u,ag,a8,c0⟩:=Ac e;clear e;obtain⟨dK,ie,PU,WB,AG⟩:=Ac bx;clear bx;rw[c0,AG,ar _ _ _ _ _ _ a hi ag PU,vc hv kv a8 WB]
theorem K_{h:Heap}{g:Lm B->Lm B->Ĳ Ģ}(ar:∀{Vs:Lm Ę} {l dh m:Lm B} {b ev:Ģ},d1 h l Vs->d1 h dh Vs->g l m=some b->g dh m=some ev->b=ev){x ez y:B}{V:Ę}{b ev:Ģ}(ay:ci h x V)(g_:ci h ez V)(e:l0 g x y=some b)(bx:l0 g ez y=some ev):b=ev:=by
 have n:=yp bx;exact ci.casesOn (motive_1:=λx V _=>ci h ez V->l0 g x y=some b->b=ev) ay (λg_ e=>by rw[g_.Ia n]at bx;exact cY (e.symm.trans bx)) (λ_ g_ e=>by rw[g_.HS n]at bx;exact cY (e.symm.trans bx)) (λ_ _ g_ e=>by rw[g_.D5 n]at bx;exact cY (e.symm.trans bx)) (λ_ _ g_ e=>by rw[g_.z3 n]at bx;exact cY (e.symm.trans bx)) (λq r g_ e=>by
  obtain⟨l,rfl,b0⟩:=g_.EM q n;induction y using B.casesOn with
  |tup m=>exact ar r b0 e bx
  |none=>exact cY<|e.symm.trans bx
  |int=>exact cY<|e.symm.trans bx
  |str=>exact cY<|e.symm.trans bx
  |_=>exact b4 e)
  (λq r g_ e=>by
   obtain⟨l,rfl,b0⟩:=g_.HF q n;induction y using B.casesOn with
   |lst m=>exact ar r b0 e bx
   |_=>exact b4 e)
  (λq _ e=>cq<|(yp e).symm.trans q) g_ e
theorem Nk{h:Heap}:∀(n:Ĵ) (x ez y:B) (V:Ę) (b ev:Ģ),ci h x V->ci h ez V->g6 n x y=some b->g6 n ez y=some ev->b=ev:=by
 intro n;induction n with
 |zero=>exact λx ez y V b ev ay g_ e bx=>K_ (λ_ _ e _=>b4 e) ay g_ e bx
 |succ n ar=>exact λx ez y V b ev ay g_ e bx=>K_ (g:=hA<|g6 n) (TL ar) ay g_ e bx
def nI (f:B->B->Ĳ Ģ) (l m:Lm B) (j:Ĵ):Ģ:=match l[j]?,m[j]? with
 |some a,some b=>(f a b).getD false
 |_,_=>true
theorem PP(n:Ĵ)(f:Ĵ->Ģ):(List.range<|n+1).all f=(f 0&&(List.range n).all λj=>f<|j+1):=by rw[Bw,tG,oS];rfl
theorem uw{f:B->B->Ĳ Ģ}:∀{l m:Lm B} {b:Ģ},hA f l m=some b->b=((List.range<|min l.length m.length).all (nI f l m)&&l.length==m.length)
 |[],[],b,e=>by simpa[hA]using e.symm
 |[],_::_,b,e=>by simpa[hA]using e
 |_::_,[],b,e=>by simpa[hA]using e
 |x::l,y::m,b,e=>by
  simp only[hA]at e;obtain⟨t,ag,a8⟩:=bind_some e;clear e;obtain⟨u,c0,cZ⟩:=map_some a8;clear a8;rw[<-cZ,uw c0,mE,mE,Nat.add_min_add_right,PP];have aF:nI f (x::l) (y::m) 0=t:=by simp[nI,ag]
  have G:(λj=>nI f (x::l) (y::m)<|j+1)=nI f l m:=by funext j;simp[nI]
  rw[aF,G,Bool.and_assoc];simp
theorem Lj{f:B->B->Ĳ Ģ}:∀{l m:Lm B} {b:Ģ},hA f l m=some b->∀{j:Ĵ} {x y:B},l[j]?=some x->m[j]?=some y->f x y=some (nI f l m j)
 |_::_,[],_,_,j,_,_,_,h=>by simp at h
 |[],_,_,_,j,_,_,h,_=>by simp at h
 |x::l,y::m,b,e,0,ez,Dr,G,E=>by simp only[hA]at e;obtain⟨t,ag,a8⟩:=bind_some e;clear e;simp only[HG,DS]at G E;subst G E;simp[nI,ag]
 |x::l,y::m,b,e,j+1,ez,Dr,G,E=>by simp only[hA]at e;obtain⟨t,ag,a8⟩:=bind_some e;clear e;obtain⟨u,c0,cZ⟩:=map_some a8;clear a8;simp only[Gv]at G E;rw[Lj c0 G E];simp[nI]
theorem d1.get{h:Heap}{Vs:Lm Ę}:∀{l:Lm B},d1 h l Vs->∀{j:Ĵ} {V:Ę},Vs[j]?=some V->∃v,l[j]?=some v/\ci h v V:=by
 induction Vs with
 |nil=>intro l r j V e;exact b4 e
 |cons W Vs ar=>
  intro l r j V e;obtain⟨v,m,rfl,a,hv⟩:=r.lz;induction j with
  |zero=>cases e;exact⟨v,rfl,a⟩
  |succ j=>exact ar hv (j:=j) e
theorem d1.length{h:Heap}{Vs:Lm Ę}:∀{l:Lm B},d1 h l Vs->Vs.length=l.length:=by
 induction Vs with
 |nil=>intro l r;cases r.o5;rfl
 |cons W Vs ar=>intro l r;obtain⟨v,m,rfl,_,hv⟩:=r.lz;exact bX Nat.succ<|ar hv
theorem gv{s:Qj}{a:Addr}{Vs:Array Ę}{n:Ĵ}(h:s.heap.get? a=some (d9 Vs n)):s.heap.IsTuple a Vs:=⟨_,h,rfl,n,rfl⟩
theorem hW{s:Qj}{a:Addr}{Vs:Array Ę}{n:Ĵ}(h:s.heap.get? a=some (cw Vs n)):s.heap.IsList a Vs:=⟨_,h,rfl,n,rfl⟩
theorem zo{s:Qj}{A:Around}{n:Ĵ}(ar:∀x y V W b A,ci s.heap x V->ci s.heap y W->g6 n x y=some b->A.units+n<cLine->EqAt A s V W b){l m:Lm B}{Vs bC:Lm Ę}{b:Ģ}(ah:d1 s.heap l Vs)(aN:d1 s.heap m bC)(e:hA (g6 n) l m=some b)(a5:A.units+(n+1)<cLine):∀j (G:j<Vs.toArray.size) (E:j<bC.toArray.size),EqAt A.in1 s Vs.toArray[j] bC.toArray[j] (nI (g6 n) l m j):=by intro j G E;obtain⟨x,ex,ay⟩:=ah.get (j:=j) (V:=Vs.toArray[j]) (by simp at G⊢);obtain⟨y,S6,a2⟩:=aN.get (j:=j) (V:=bC.toArray[j]) (by simp at E⊢);exact ar x y _ _ _ A.in1 ay a2 (Lj e ex S6) (by show A.units+1+n<cLine;omega)
theorem QZ{a b:Lm Ĵ}:((⟨a.toArray⟩:Str)==⟨b.toArray⟩)=decide (a=b):=by rw[<-str_beq];by_cases h:a=b<;>simp[h]
theorem En{h:Heap}{R:Ę->Ę->Ģ->Prop}{g:Lm B->Lm B->Ĳ Ģ}(Bt:R .none .none true)(Qs:∀i t,R .none (.int i t) false)(ns:∀l t,R .none (.str l t) false)(fe:∀{a Vs n},h.get? a=some (d9 Vs n)->R .none (.ref a) false)(fi:∀a b,R (.bool a) (.bool b)<|a==b)(OF:∀i t,R (.int i t) .none false)(ZA:∀i t j u,R (.int i t) (.int j u)<|decide<|i=j)(is:∀i t l u,R (.int i t) (.str l u) false)(it:∀i t {a Vs n},h.get? a=some (d9 Vs n)->R (.int i t) (.ref a) false)(lh:∀l t,R (.str l t) .none false)(S4:∀l t i u,R (.str l t) (.int i u) false)(cR:∀l t m u,R (.str l t) (.str m u)<|l==m)(st:∀l t {a Vs n},h.get? a=some (d9 Vs n)->R (.str l t) (.ref a) false)(à:∀{a Vs n},h.get? a=some (d9 Vs n)->R (.ref a) .none false)(ww:∀i t {a Vs n},h.get? a=some (d9 Vs n)->R (.ref a) (.int i t) false)(aU:∀l t {a Vs n},h.get? a=some (d9 Vs n)->R (.ref a) (.str l t) false)(RK:∀{l m a c Vs bC n k b},h.get? a=some (d9 Vs.toArray n)->h.get? c=some (d9 bC.toArray k)->d1 h l Vs->d1 h m bC->g l m=some b->R (.ref a) (.ref c) b)(RY:∀{l m a c Vs bC n k b},h.get? a=some (cw Vs.toArray n)->h.get? c=some (cw bC.toArray k)->d1 h l Vs->d1 h m bC->g l m=some b->R (.ref a) (.ref c) b){x y:B}{V W:Ę}{b:Ģ}(ay:ci h x V)(a2:ci h y W)(e:l0 g x y=some b):R V W b:=by
 induction x using B.casesOn with
 |none=>
  obtain rfl:=ay.of;induction y using B.casesOn with
  |none=>obtain rfl:=a2.of;exact cY e▸Bt
  |int=>obtain⟨u,rfl⟩:=a2.of;exact cY e▸Qs _ _
  |str=>obtain⟨u,rfl⟩:=a2.of;exact cY e▸ns _ _
  |tup m=>obtain⟨c,bC,k,rfl,q,r⟩:=a2.of;exact cY e▸fe q
  |_=>exact b4 e
 |bool=>
  obtain rfl:=ay.of;induction y using B.casesOn with
  |bool=>obtain rfl:=a2.of;exact cY e▸fi _ _
  |_=>exact b4 e
 |int=>
  obtain⟨t,rfl⟩:=ay.of;cases y with
  |none=>obtain rfl:=a2.of;exact cY e▸OF _ _
  |int=>obtain⟨u,rfl⟩:=a2.of;exact cY e▸ZA _ _ _ _
  |str=>obtain⟨u,rfl⟩:=a2.of;exact cY e▸is _ _ _ _
  |tup m=>obtain⟨c,bC,k,rfl,q,r⟩:=a2.of;exact cY e▸it _ _ q
  |_=>exact b4 e
 |str=>
  obtain⟨t,rfl⟩:=ay.of;cases y with
  |none=>obtain rfl:=a2.of;exact cY e▸lh _ _
  |int=>obtain⟨u,rfl⟩:=a2.of;exact cY e▸S4 _ _ _ _
  |str=>obtain⟨u,rfl⟩:=a2.of;exact(QZ.trans<|cY e)▸cR _ _ _ _
  |tup m=>obtain⟨c,bC,k,rfl,q,r⟩:=a2.of;exact cY e▸st _ _ q
  |_=>exact b4 e
 |tup l=>
  obtain⟨a,Vs,n,rfl,q,r⟩:=ay.of;induction y using B.casesOn with
  |none=>obtain rfl:=a2.of;exact cY e▸à q
  |int=>obtain⟨u,rfl⟩:=a2.of;exact cY e▸ww _ _ q
  |str=>obtain⟨u,rfl⟩:=a2.of;exact cY e▸aU _ _ q
  |tup m=>obtain⟨c,bC,k,rfl,fd,b0⟩:=a2.of;exact RK q fd r b0 e
  |_=>exact b4 e
 |lst l=>
  obtain⟨a,Vs,n,rfl,q,r⟩:=ay.of;induction y using B.casesOn with
  |lst m=>obtain⟨c,bC,k,rfl,fd,b0⟩:=a2.of;exact RY q fd r b0 e
  |_=>exact b4 e
 |_=>exact b4 e
theorem IW{A:Around}{s:Qj}{x y:B}{V W:Ę}{b:Ģ}{n:Ĵ}(ay:ci s.heap x V)(a2:ci s.heap y W)(e:g6 n x y=some b)(h:RcAt A s V W b):EqAt A s V W b:=λprog w O Q bb=>by
 have cs:bQ x=false:=by induction n<;>exact yp e
 unfold eqBool;refine gU<|wpAny_ite_split (λsd=>?_)<|λ_=>?_
 .have av:b=true:=by have:=eE sd;subst this;exact MO n x y V b ay a2 e
  subst av;exact bc<|r9<|b1 bb
 .induction V with
  |float f t=>exact(ay.WH cs).elim
  |_=>exact bc<|h prog w O _<|rm bb
theorem N4{s:Qj}{A:Around}{n:Ĵ}(a5:A.units<cLine)(nX:A.units+(n+1)<cLine)(ar:∀x y V W b A,ci s.heap x V->ci s.heap y W->g6 n x y=some b->A.units+n<cLine->EqAt A s V W b):∀{x y:B} {V W:Ę} {b:Ģ},ci s.heap x V->ci s.heap y W->g6 (n+1) x y=some b->RcAt A s V W b:=En RcAt.none_none RcAt.none_int RcAt.none_str (λq=>RcAt.none_tuple (gv q) a5) RcAt.bool_bool RcAt.int_none RcAt.int_int RcAt.int_str (λ_ _ {_ _ _} q=>RcAt.int_tuple _ _ (gv q) a5) RcAt.str_none RcAt.str_int RcAt.str_str (λ_ _ {_ _ _} q=>RcAt.str_tuple _ _ (gv q) a5) (λq=>RcAt.tuple_none (gv q) a5) (λ_ _ {_ _ _} q=>RcAt.tuple_int _ _ (gv q) a5) (λ_ _ {_ _ _} q=>RcAt.tuple_str _ _ (gv q) a5) (λg dV r b0 e=>by have:=RcAt.tuples (gv g) (gv dV) a5 (zo (A:=A) ar r b0 e nX);rw[uw e];simpa only[eo,r.length,b0.length]using this) (λ{l m _ _ _ _ _ _ _} g dV r b0 e=>by
 rw[uw e];have mw:=r.length;have og:=b0.length;by_cases aM:l.length=m.length
 .have:=RcAt.lists (hW g) (hW dV) (by simpa using mw.trans (aM.trans og.symm)) a5<|zo (A:=A) ar r b0 e nX;rw[eo,mw]at this;rw[<-aM,Nat.min_self];simpa using this
 .have:=RcAt.lists_lengths (hW g) (hW dV) (by simp only[eo,Ao,ne_eq];rw[mw,og];exact aM) a5;rw[show(l.length==m.length)=false from lf.mpr aM,s0];exact this)
theorem HT{s:Qj}:∀(n:Ĵ) (x y:B) (V W:Ę) (b:Ģ) (A:Around),ci s.heap x V->ci s.heap y W->g6 n x y=some b->A.units+n<cLine->RcAt A s V W b:=by
 intro n;induction n with
 |zero=>intro x y V W b A ay a2 e a5;exact En RcAt.none_none RcAt.none_int RcAt.none_str (λq=>RcAt.none_tuple (gv q) a5) RcAt.bool_bool RcAt.int_none RcAt.int_int RcAt.int_str (λ_ _ {_ _ _} q=>RcAt.int_tuple _ _ (gv q) a5) RcAt.str_none RcAt.str_int RcAt.str_str (λ_ _ {_ _ _} q=>RcAt.str_tuple _ _ (gv q) a5) (λq=>RcAt.tuple_none (gv q) a5) (λ_ _ {_ _ _} q=>RcAt.tuple_int _ _ (gv q) a5) (λ_ _ {_ _ _} q=>RcAt.tuple_str _ _ (gv q) a5) (λ_ _ _ _ e=>b4 e) (λ_ _ _ _ e=>b4 e) ay a2 e
 |succ n ar=>exact λx y V W b A ay a2 e a5=>N4 (hN (mM _ _) a5) a5 (λx y V W b A ay a2 e a5=>IW ay a2 e<|ar x y V W b A ay a2 e a5) ay a2 e
theorem D6{s:Qj}{n:Ĵ}{x y:B}{V W:Ę}{b:Ģ}{A:Around}(ay:ci s.heap x V)(a2:ci s.heap y W)(e:g6 n x y=some b)(a5:A.units+n<cLine):EqAt A s V W b:=IW ay a2 e<|HT n x y V W b A ay a2 e a5
theorem ZB{s:Qj}{n:Ĵ}{x y:B}{V W:Ę}{b:Ģ}{A:Around}(ay:ci s.heap x V)(a2:ci s.heap y W)(e:g6 (n+1) x y=some b)(nX:A.units+(n+1)<cLine):RcNeAt A s V W !b:=by
 have a5:A.units<cLine:=hN (mM _ _) nX;have ar:∀(x y:B) (V W:Ę) (b:Ģ) (A:Around),ci s.heap x V->ci s.heap y W->g6 n x y=some b->A.units+n<cLine->EqAt A s V W b:=λx y V W b A ay a2 e a5=>D6 ay a2 e a5;exact En (R:=λV W b=>RcNeAt A s V W !b) RcNeAt.none_none RcNeAt.none_int RcNeAt.none_str (λq=>RcNeAt.none_tuple (gv q) a5) RcNeAt.bool_bool RcNeAt.int_none RcNeAt.int_int RcNeAt.int_str (λ_ _ {_ _ _} q=>RcNeAt.int_tuple _ _ (gv q) a5) RcNeAt.str_none RcNeAt.str_int RcNeAt.str_str (λ_ _ {_ _ _} q=>RcNeAt.str_tuple _ _ (gv q) a5) (λq=>RcNeAt.tuple_none (gv q) a5) (λ_ _ {_ _ _} q=>RcNeAt.tuple_int _ _ (gv q) a5) (λ_ _ {_ _ _} q=>RcNeAt.tuple_str _ _ (gv q) a5) (λg dV r b0 e=>by have:=RcNeAt.tuples (gv g) (gv dV) a5 (zo (A:=A) ar r b0 e nX);rw[uw e];simpa only[eo,r.length,b0.length]using this) (λ{l m _ _ _ _ _ _ _} g dV r b0 e=>by
  rw[uw e];have mw:=r.length;have og:=b0.length;by_cases aM:l.length=m.length
  .have:=RcNeAt.lists (hW g) (hW dV) (by simpa using mw.trans (aM.trans og.symm)) a5<|zo (A:=A) ar r b0 e nX;rw[eo,mw]at this;rw[<-aM,Nat.min_self];simpa using this
  .have:=RcNeAt.lists_lengths (hW g) (hW dV) (by simp only[eo,Ao,ne_eq];rw[mw,og];exact aM) a5;rw[show(l.length==m.length)=false from lf.mpr aM,s0];exact this) ay a2 e
theorem NU(a5:A.units+16<cLine):lD c A .eq:=by intro O s C J x y V W t Q I af bF e h;exact HT 16 x y V W t A (af.af I) (bF.af I) e a5 _ _ O Q<|h s.toks
theorem MI(a5:A.units+16<cLine):lD c A .ne:=by intro O s C J x y V W t Q I af bF e h;obtain⟨b,ag,a8⟩:=map_some<|show(fu x y).map (!·)=some t from e;subst a8;exact ZB (n:=15) (af.af I) (bF.af I) ag a5 _ _ O Q<|h s.toks
theorem zG{P:Params}{C:aY}{h:Heap}{i:ĵ}{W:Ę}(bF:gr P C h (.int i) W):∃t,W=.int i t:=by exact bF.of
theorem Ø:lD c A .lt:=by intro O s C J x y V W t Q I af bF e h;replace e:=fQ.of e;obtain⟨a,rfl,e⟩:=e;replace e:=fQ.of e;obtain⟨b,rfl,e⟩:=e;cases e;obtain⟨u,rfl⟩:=zG bF;obtain⟨w,rfl⟩:=af.of;exact PySem.P.lt_int<|h s.toks
theorem Y0:lD c A .gt:=by intro O s C J x y V W t Q I af bF e h;replace e:=fQ.of e;obtain⟨a,rfl,e⟩:=e;replace e:=fQ.of e;obtain⟨b,rfl,e⟩:=e;cases e;obtain⟨u,rfl⟩:=zG bF;obtain⟨w,rfl⟩:=af.of;exact PySem.P.gt_int<|h s.toks
theorem Q':lD c A .ge:=by intro O s C J x y V W t Q I af bF e h;replace e:=fQ.of e;obtain⟨a,rfl,e⟩:=e;replace e:=fQ.of e;obtain⟨b,rfl,e⟩:=e;cases e;obtain⟨u,rfl⟩:=zG bF;obtain⟨w,rfl⟩:=af.of;exact PySem.P.ge_int<|h s.toks
theorem xB:∀{a b:bv},gb a b=decide (a<b)
 |[],[]=>rfl
 |[],_::_=>by simp[gb]
 |_::_,[]=>by simp[gb]
 |x::a,y::b=>by
  rw[gb,xB];by_cases h:x<y
  .simp[h,A9]
  .by_cases E:x=y
   .subst E;simp[A9]
   .simp[h,E,A9]
theorem XT:lD c A .le:=by
 intro O s C J x y V W t Q I af bF e h;replace e:(if x.ctorIdx=2 then(fQ x λa=>fQ y λb=>some<|decide<|a<=b)else lZ x λa=>lZ y λb=>some<|!gb b a)=some t:=e;by_cases ay:x.ctorIdx=2
 .rw[bl ay]at e;replace e:=fQ.of e;obtain⟨a,rfl,e⟩:=e;replace e:=fQ.of e;obtain⟨b,rfl,e⟩:=e;cases e;obtain⟨u,rfl⟩:=zG bF;obtain⟨w,rfl⟩:=af.of;exact PySem.P.le_int<|h s.toks
 .rw[bt ay]at e;replace e:=lZ.of e;obtain⟨a,rfl,e⟩:=e;replace e:=lZ.of e;obtain⟨b,rfl,e⟩:=e;cases e;obtain⟨w,rfl,ah⟩:=af.of;obtain⟨u,rfl,aN⟩:=bF.of;refine PySem.P.le_str ?_;have:=h s.toks;rwa[xB]at this
theorem none_or{x:B}{V:Ę}{P:Params}{C:aY}(af:bz P C x V):(V=.none/\(x.ctorIdx==0)=true)\/dY (V=.none->False) ((x.ctorIdx==0)=false) (PySem.plainIs V Value.none=true):=bz.casesOn (motive_1:=λx V _=>(V=.none/\(x.ctorIdx==0)=true)\/dY (V=.none->False) ((x.ctorIdx==0)=false) (PySem.plainIs V Value.none=true)) af (.inl ⟨rfl,rfl⟩) (λ_=>.inr ⟨nofun,rfl,rfl⟩) (λ_ _=>.inr ⟨nofun,rfl,rfl⟩) (λ_ _ _=>.inr ⟨nofun,rfl,rfl⟩) (λ_ _ _=>.inr ⟨nofun,rfl,rfl⟩) (λ_ _ _=>.inr ⟨nofun,rfl,rfl⟩) (λ_ _ _ _ _=>.inr ⟨nofun,rfl,rfl⟩) (λ_=>.inr ⟨nofun,rfl,rfl⟩)<|λ_ _ _ _=>.inr ⟨nofun,rfl,rfl⟩
theorem Nf:lD c A .is:=by
 intro O s C J x y V W t Q I af bF e h;replace e:=tW.of e;obtain⟨rfl,e⟩:=e;cases e;obtain rfl:=bF.of;rcases none_or af with⟨rfl,q⟩|⟨n,q,sn⟩<;>rw[q]at h
 .exact wpAny_is_self rfl<|h s.toks
 .exact wpAny_is_other sn n<|h s.toks
theorem Tj:lD c A .p_:=by
 intro O s C J x y V W t Q I af bF e h;replace e:=tW.of e;obtain⟨rfl,e⟩:=e;cases e;obtain rfl:=bF.of;rcases none_or af with⟨rfl,q⟩|⟨n,q,sn⟩<;>rw[q]at h
 .exact wpAny_isNot_self rfl<|h s.toks
 .exact wpAny_isNot_other sn n<|h s.toks
def nk (h:Heap) (x:B) (cB:Ę):Ģ:=@decide (∃v,ci h v cB/\fu v x=some true)<|Classical.propDecidable _
theorem Be{h:Heap}{x v:B}{cB:Ę}{b:Ģ}(af:ci h v cB)(e:fu v x=some b):nk h x cB=b:=by
 unfold nk;induction b with
 |true=>exact @dQ _ (Classical.propDecidable _) ⟨v,af,e⟩
 |false=>exact @eC _ (Classical.propDecidable _) λ⟨oe,Ar,bx⟩=>absurd (Nk 16 _ _ _ _ _ _ Ar af bx e) (by decide)
theorem Oz{x y:B}{l:Lm B}{b:Ģ}(e:hO x (y::l)=some b):ee λt u=>dY (fu y x=some t) (hO x l=some u) (b=(t||u)):=by obtain⟨t,ag,a8⟩:=bind_some<|show(fu y x).bind _=some b from e;obtain⟨u,c0,cZ⟩:=map_some a8;clear a8;exact⟨t,u,ag,c0,cZ.symm⟩
theorem Du{s:Qj}{x:B}{X:Ę}(ay:ci s.heap x X)(a5:A.units+17<cLine){Vs:Lm Ę}:∀{l:Lm B} {b:Ģ},d1 s.heap l Vs->hO x l=some b->(∀cB∈Vs,EqAt A.in1 s cB X<|nk s.heap x cB)/\Vs.any (nk s.heap x)=b:=by
 induction Vs with
 |nil=>intro l b r e;rw[r.o5]at e;exact⟨λcB h=>(nomatch h),cY e⟩
 |cons V Vs ar=>
  intro l b r e;obtain⟨v,m,rfl,a,hv⟩:=r.lz;obtain⟨t,u,ag,c0,cZ⟩:=Oz e;clear e;obtain⟨G,E⟩:=ar hv c0;have ak:=Be a ag;refine⟨λcB jx=>?_,by rw[BG,ak,E,cZ]⟩;cases jx with
  |head=>rw[ak];exact D6 a ay ag (by show A.units+1+16<cLine;omega)
  |tail _ jx=>exact G cB jx
noncomputable instance:DecidableEq B:=λa b=>Classical.propDecidable _
mutual
def v6:B->Ĵ
 |.tup l=>mS l+1
 |_=>1
def mS:Lm B->Ĵ
 |[]=>0
 |v::r=>v6 v+mS r
end
theorem Uc(d:Ĵ)(k:B):cond (bQ k) (eS d k=false) True:=by induction k using B.casesOn<;>first|trivial|(induction d using Nat.casesOn<;>rfl)
theorem AC{d:Ĵ}{k:B}(h:eS d k=true):bQ k=false:=by
 have n:=Uc d k;rw[h]at n;generalize bQ k=b at n⊢;induction b with
 |false=>rfl
 |true=>exact hK n
theorem AL{h:Heap}{M:Ĵ->B->Ę->Prop}(aA:∀d i t,M d (.int i)<|.int i t)(aM:∀d l t,M d (.str l)<|.str ⟨l.toArray⟩ t)(dU:∀d l a Vs n,h.get? a=some (d9 Vs.toArray n)->d1 h l Vs->(∀v∈l,eS d v=true)->(∀v V,eS d v=true->ci h v V->M d v V)->M (d+1) (.tup l) (.ref a)):∀d k V,eS d k=true->ci h k V->M d k V:=by
 intro d;induction d with
 |zero=>
  intro k V aE af;induction k using B.casesOn with
  |int i=>obtain⟨t,rfl⟩:=af.of;exact aA 0 i t
  |str l=>obtain⟨t,rfl⟩:=af.of;exact aM 0 l t
  |_=>exact cq aE
 |succ d ar=>
  intro k V aE af;induction k using B.casesOn with
  |int i=>obtain⟨t,rfl⟩:=af.of;exact aA _ i t
  |str l=>obtain⟨t,rfl⟩:=af.of;exact aM _ l t
  |tup l=>obtain⟨a,Vs,n,rfl,g,r⟩:=af.of;exact dU d _ _ _ _ g r (DO aE) ar
  |_=>exact cq aE
theorem Fv{P:Params}:∀{a b:Lm B},kS P (a++b)=kS P a++kS P b
 |[],_=>rfl
 |v::r,b=>by simp only[EL,kS,Fv]
theorem Ma:∀{a b:Lm B},mS (a++b)=mS a+mS b
 |[],_=>by simp[mS]
 |v::r,b=>by simp only[EL,mS,Ma,rF]
section
variable{prog:Program}{w:World}
theorem C2{h:Heap}:∀{d:Ĵ} {k:B} {V:Ę},eS d k=true->ci h k V->∀{A:Around} {O:Ę->Qj->Prop} {s:Qj} {Q:ĵ->Qj->Prop},s.heap=h->A.units+d<cLine->Q (j3 w.params k) {s with toks:=s.toks+v6 k}->wpAny (model prog w) A (pyHash V) Q O s:=λ{d k V} aE af=>by
 refine AL (M:=λd k V=>∀{A:Around} {O:Ę->Qj->Prop} {s:Qj} {Q:ĵ->Qj->Prop},s.heap=h->A.units+d<cLine->Q (j3 w.params k) {s with toks:=s.toks+v6 k}->wpAny (model prog w) A (pyHash V) Q O s) (λ_ i t _ _ _ _ _ _ h=>wpAny_pyHash_int h) (λ_ l t _ _ _ _ _ _ h=>wpAny_pyHash_str h) ?_ d k V aE af;intro d l a Vs n az jL gf ar A O s Q aM a5 h;subst aM;have jf:s.TypeIs (.ref a) "tuple":=⟨_,az,rfl⟩;unfold pyHash;first|unfold pyHashByItsType|skip
 first|refine bc (wpAny_cRoomFor_or (.inr (hN (mM _ _) a5:A.units<cLine)) ?_)|skip
 refine bc<|zi jf yZ.lookup ?_;show wpAny _ _ (if(some (Value.builtin "tuple.__hash__")==some Value.none)=true then _ else _) Q O s;rw[bt<|by rw[beq_builtin_none];exact eM];refine bc<|zi jf yZ.lookup ?_;show wpAny _ _ (callSpecialIfBoundUnlessNone? (.ref a) "__hash__" _>>=_) Q O s;refine bc<|wpAny_callSpecialIfBoundUnlessNone?_slot jf yZ<|mH yZ jf F.entry_tuple_hash ?_<|F.args_tuple_hash_1 _;show wpAny _ _ (Builtin.Tuple.tupleItemsOf (.ref a)>>=_) _ _ s;refine bc<|wpAny_tupleItemsOf az rfl<|bc ?_;rw[<-LV];refine wpAny_forIn_list _ (λa' (b:Array ĵ) aq=>ee λdone left=>hP (l=done++left) (d1 s.heap left a') (b.toList=kS w.params done)<|aq={s with toks:=s.toks+mS done}) _ ?_ ?_ _ _ ⟨[],l,rfl,jL,rfl,rfl⟩
 .rintro x a' b aq⟨done,left,e,ah,av,rfl⟩;obtain⟨v,r,rfl,Ba,bm⟩:=ah.lz;have am:ee λzW ES=>hP (l=zW++ES) (d1 s.heap ES a') ((b.push<|j3 w.params v).toList=kS w.params zW) (({s with toks:=s.toks+mS done+v6 v}:Qj)={s with toks:=s.toks+mS zW}):=⟨done++[v],r,by rw[e,hS];rfl,bm,by rw[Array.toList_push,av,Fv];rfl,by rw[Ma,<-rF];rfl⟩;refine bc<|ar v x (gf v<|by rw[e];exact iA _<|.head _) Ba rfl (by show A.units+1+d<cLine;omega) ?_;first
   |exact b1 am
   |exact bc (b1 (b1 am))
 .rintro b aq⟨done,left,e,ah,av,rfl⟩;rw[ah.o5,gT]at e;subst e;show wpAny _ _ (retInt<|Builtin.Tuple.tupleHashOf b.toList) _ _ _;rw[av];refine wpAny_ret_mkInt ?_;show wpAny _ _ (if(decide (-(2:ĵ)^63<=Builtin.Tuple.tupleHashOf (kS w.params l))&&decide (Builtin.Tuple.tupleHashOf (kS w.params l)<2^63))=true then _ else _) Q O _;have h:Q (if(decide (-(2:ĵ)^63<=Builtin.Tuple.tupleHashOf (kS w.params l))&&decide (Builtin.Tuple.tupleHashOf (kS w.params l)<2^63))=true then _ else _) {s with toks:=s.toks+mS l+1}:=h;by_cases bm:(decide (-(2:ĵ)^63<=Builtin.Tuple.tupleHashOf (kS w.params l))&&decide (Builtin.Tuple.tupleHashOf (kS w.params l)<2^63))=true
  .rw[bl bm]at h⊢;exact b1 h
  .rw[bt bm]at h⊢;exact bc<|r9<|b1 h
theorem OW{h:Heap}:∀{d:Ĵ} {k:B} {V:Ę},eS d k=true->ci h k V->∀{A:Around} {O:Ę->Qj->Prop} {s:Qj} {Q:Ģ->Qj->Prop},s.heap=h->Q true s->wpAny (model prog w) A (eqIsQuiet (d+1) V) Q O s:=λ{d k V} aE af=>by
 refine AL (M:=λd k V=>∀{A:Around} {O:Ę->Qj->Prop} {s:Qj} {Q:Ģ->Qj->Prop},s.heap=h->Q true s->wpAny (model prog w) A (eqIsQuiet (d+1) V) Q O s) (λ_ i t _ _ _ _ _ h=>by rw[eqIsQuiet_byValue _ rfl];exact b1 h) (λ_ l t _ _ _ _ _ h=>by rw[eqIsQuiet_byValue _ rfl];exact b1 h) ?_ d k V aE af;intro d l a Vs n az jL gf ar A O s Q aM h;subst aM;have jf:s.TypeIs (.ref a) "tuple":=⟨_,az,rfl⟩;unfold eqIsQuiet;refine bc<|zi jf F.slot_tuple_eq.lookup ?_;show wpAny _ _ (isInstance (.ref a) (.type "tuple")>>=_) _ _ s;refine bc<|wpAny_isInstance jf isSubtype_tuple_tuple ?_;simp only[C3,rD,ri];refine bc<|wpAny_seqItems az rfl<|bc ?_;show wpAny _ _ (forIn Vs.toArray _ _) _ _ s;rw[<-LV];refine wpAny_forIn_list _ (λa' r aq=>dY (r.1=none) (s=aq) (∃left,d1 s.heap left a'/\∀v∈left,eS d v=true)) _ ?_ ?_ _ _ ⟨rfl,rfl,l,jL,gf⟩
 .rintro v a' r aq⟨bm,rfl,left,ah,gf⟩;obtain⟨oe,b0,rfl,Ba,Z8⟩:=ah.lz;refine bc<|ar oe v (gf oe<|.head _) Ba rfl ?_;simp only[C3,rD,ri];exact b1 ⟨rfl,rfl,b0,Z8,λu nX=>gf u<|.tail _ nX⟩
 .rintro⟨hv,kv⟩aq⟨bm,rfl,_⟩;subst bm;exact b1 h
theorem T1{h:Heap}:∀{d:Ĵ} {x:B} {V:Ę},eS d x=true->ci h x V->∀{y:B},eS d y=true->ci h y V->x=y:=λ{d x V} ay G=>by
 refine AL (M:=λd x V=>∀{y:B},eS d y=true->ci h y V->x=y) (λ_ i t _ a2 E=>(E.D5<|AC a2).symm) (λ_ l t _ a2 E=>(E.z3<|AC a2).symm) ?_ d x V ay G;intro d l a Vs n g r ah ar y a2 E;obtain⟨m,rfl,b0⟩:=E.EM g<|AC a2;have aN:=DO a2;clear a2 E g;refine bX B.tup ?_;induction Vs generalizing l m with
 |nil=>rw[r.o5,b0.o5]
 |cons V Vs vc=>obtain⟨v,l,rfl,e0,hv⟩:=r.lz;obtain⟨u,m,rfl,iz,kv⟩:=b0.lz;rw[ar v V (ah v<|.head _) e0 (aN u<|.head _) iz,vc l hv (λv af=>ah v<|.tail _ af) m kv λv af=>aN v<|.tail _ af]
theorem Gk(d:Ĵ){x y:B}(ay:eS d x=true)(a2:eS d y=true)(n:Ĵ)(am:d<=n):g6 n x y=some (decide<|x=y):=yI (DW ay) (DW a2) am
theorem Zs{d:Ĵ}{k:B}(h:eS d k=true):eS (d+1) k=true:=Ji (M:=λd k=>eS (d+1) k=true) (λ_ _=>rfl) (λ_ _=>rfl) (λ_ l ah ar=>d6.mpr λv af=>ar v<|ah v af) d k h
theorem ci.sameBut{h aR:Heap}{d:Addr}{es:Array DictEntry}{re:Ĵ}{o:Obj}(az:h.get? d=some o)(bg:o.data=.dict es re)(aM:Heap.SameBut d h aR){v:B}{V:Ę}(x:ci h v V):ci aR v V:=have k:∀{a Vs n q},h.get? a=some (Obj.mk q Option.none (.seq Vs n) #[])->aR.get? a=some (Obj.mk q Option.none (.seq Vs n) #[]):=λ{a Vs n q} g=>(aM.2 a<|by rintro rfl;rw[cY<|az.symm.trans g]at bg;exact Data.noConfusion bg).trans g;ci.rec (motive_1:=λv V _=>ci aR v V) (motive_2:=λl Vs _=>d1 aR l Vs) .none .bool .int .str (λg _ r=>.tup (k g) r) (λg _ r=>.lst (k g) r) .vz .nil (λ_ _ a r=>.cons a r) x
def vo (prog:Program) (w:World):HeapKind prog w B where
 is:=λh k a=>eS 6 k=true/\ci h k (.ref a)
 hash:=j3 w.params
 draws:=v6
 room:=λA=>A.units+6<cLine
 inj:=λay a2=>T1 ay.1 ay.2 a2.1 a2.2
 keeps:=λx az bg aM=>⟨x.1,x.2.sameBut az bg aM⟩
 pyHash:=λa5 aE h=>C2 aE.1 aE.2 rfl a5 h
 eqBool:=λa5 ay a2 h=>D6 ay.2 a2.2 (Gk 6 ay.1 a2.1 6<|dy _) a5 _ _ _ _ h
 quiet:=λaE h=>OW (Zs aE.1) aE.2 rfl h
end
def jc (k:B) (l:Lm (B×B)):Ĳ Ĵ:=l.findIdx? λe=>decide<|e.1=k
theorem Kq{x:B}(h:(eG x !=0)=true):eS 6 x=true:=by
 induction x using B.casesOn with
 |int=>rfl
 |str=>rfl
 |tup l=>
  by_cases q:eS 6 (.tup l)=true
  .exact q
  .rw[show eG (.tup l)=0 from bt q]at h;exact cq h
 |_=>exact cq h
theorem vT{k:B}{l:Lm (B×B)}(h:ej k l=true):eS 6 k=true/\∀e∈l,eS 6 e.1=true/\eG e.1=eG k:=by have h:=gQ.mp h;refine⟨Kq h.1,λe a6=>?_⟩;have ag:=eE<|d6.mp h.2 e a6;exact⟨Kq (by rw[ag];exact h.1),ag⟩
theorem XZ{x y:B}(G:eS 6 x=true)(E:eS 6 y=true):fu x y=some (decide<|x=y):=Gk 6 G E 16 (by decide)
theorem GD{k:B}{p:B×B}{l:Lm (B×B)}(h:ej k (p::l)=true):ej k l=true:=have h:=gQ.mp h;gQ.mpr ⟨h.1,(gQ.mp h.2).2⟩
theorem KG{k a b:B}{l:Lm (B×B)}(h:ej k ((a,b)::l)=true):fu a k=some (decide<|a=k):=XZ ((vT h).2 (a,b)<|.head _).1 (vT h).1
theorem BC{k a b:B}{l:Lm (B×B)}:jc k ((a,b)::l)=if decide (a=k)=true then some 0 else(jc k l).map (· +1):=wP
theorem UA{k:B}{l:Lm (B×B)}(h:ej k l=true):fh k l=some ((jc k l).bind λj=>(l[j]?).map (·.2)):=by
 induction l with
 |nil=>rfl
 |cons p r ar=>
  induction p with|mk a b=>
  show(match fu a k with|some true=>some (some b)|some false=>fh k r|none=>none)=_;rw[KG h,BC];induction decide (a=k)with
  |true=>rfl
  |false=>show fh k r=some (Option.bind (Option.map _<|jc k r) _);rw[ar<|GD h];induction jc k r<;>rfl
theorem LG{k v:B}{l:Lm (B×B)}(h:ej k l=true):hh k v l=some (match jc k l with|some j=>l.modify j λe=>(e.1,v)|none=>l++[(k,v)]):=by
 induction l with
 |nil=>rfl
 |cons p r ar=>
  induction p with|mk a b=>
  show(match fu a k with|some true=>some ((a,v)::r)|some false=>(hh k v r).map ((a,b)::·)|none=>none)=_;rw[KG h,BC];induction decide (a=k)with
  |true=>rfl
  |false=>show(hh k v r).map ((a,b)::·)=some (match Option.map (· +1) (jc k r)with|some j=>_|none=>_);rw[ar<|GD h];induction jc k r<;>rfl
section
variable{P:Params}{C:aY}{l:Lm (B×B)}{es:Lm DictEntry}
theorem d8.length(h:d8 P C l es):es.length=l.length:=d8.ind (M:=λl es=>es.length=l.length) rfl (λ_ _ _ m=>bX Nat.succ m) h
theorem d8.get(h:d8 P C l es):∀{j:Ĵ} {p:B×B},l[j]?=some p->ee λK V=>dY (es[j]?=some ⟨j3 P p.1,K,V⟩) (bz P C p.1 K) (bz P C p.2 V):=d8.ind (M:=λl es=>∀{j:Ĵ} {p:B×B},l[j]?=some p->ee λK V=>dY (es[j]?=some ⟨j3 P p.1,K,V⟩) (bz P C p.1 K) (bz P C p.2 V)) (λe=>b4 e) (λa b _ m=>λ{j} _ e=>by
 induction j with
 |zero=>cases e;exact⟨_,_,rfl,a,b⟩
 |succ j=>exact m (j:=j) e) h
theorem d8.modify{v:B}{V:Ę}(af:bz P C v V)(h:d8 P C l es):∀j,d8 P C (l.modify j λe=>(e.1,v)) (es.modify j λe=>{e with val:=V}):=d8.ind (M:=λl es=>∀j,d8 P C (l.modify j λe=>(e.1,v)) (es.modify j λe=>{e with val:=V})) (λj=>by induction j<;>exact .nil) (λa b r m j=>by
 induction j with
 |zero=>exact .cons a af r
 |succ j=>exact .cons a b (m j)) h
theorem d8.push{k v:B}{K V:Ę}(aE:bz P C k K)(af:bz P C v V)(h:d8 P C l es):d8 P C (l++[(k,v)]) (es++[⟨j3 P k,K,V⟩]):=d8.ind (M:=λl es=>d8 P C (l++[(k,v)])<|es++[(⟨j3 P k,K,V⟩:DictEntry)]) (.cons aE af .nil) (λa b _ m=>.cons a b m) h
end
theorem LN(l:Lm B):eG (.tup l)=3\/eG (.tup l)=0:=by
 by_cases q:eS 6 (.tup l)=true
 .exact .inl<|bl q
 .exact .inr<|bt q
theorem Fd{x:B}(h:eG x=1):∃a,x=.int a:=by
 induction x using B.casesOn with
 |int a=>exact⟨a,rfl⟩
 |tup l=>rcases LN l with e|e<;>exact absurd (e.symm.trans h) (wF rfl)
 |_=>exact absurd h<|wF rfl
theorem MB{x:B}(h:eG x=2):∃a,x=.str a:=by
 induction x using B.casesOn with
 |str a=>exact⟨a,rfl⟩
 |tup l=>rcases LN l with e|e<;>exact absurd (e.symm.trans h) (wF rfl)
 |_=>exact absurd h<|wF rfl
theorem P9{x:B}(h:eG x=3):∃a,x=.tup a:=by
 induction x using B.casesOn with
 |tup a=>exact⟨a,rfl⟩
 |_=>exact absurd h<|wF rfl
theorem R6{aC cC:Type}{f:aC->Ģ}{g:cC->Ģ}{l:Lm aC}:∀{m:Lm cC},l.length=m.length->(∀(j:Ĵ) (a:aC) (b:cC),l[j]?=some a->m[j]?=some b->f a=g b)->l.findIdx? f=m.findIdx? g:=by
 induction l with
 |nil=>intro m h _;induction m with
  |nil=>rfl
  |cons=>exact Nat.noConfusion h
 |cons a l ar=>
  intro m h k;induction m with
  |nil=>exact Nat.noConfusion h
  |cons b m=>rw[wP,wP,k 0 a b rfl rfl,ar (Nat.succ.inj h) λj a b ag a8=>k (j+1) a b ag a8]
theorem SR{k:B}{l:Lm (B×B)}(h:∀p∈l,p.1=k->False):jc k l=none:=KC.mpr λp ae=>eC<|h p ae
theorem VF{k:B}{l:Lm (B×B)}(am:(l.map Prod.fst).Nodup):∀{j:Ĵ} {v:B},l[j]?=some (k,v)->jc k l=some j:=by
 induction l with
 |nil=>exact λe=>b4 e
 |cons p r ar=>
  induction p with|mk a b=>
  have am:=hT.mp am;intro j v e;rw[BC];induction j with
  |zero=>cases e;exact bl<|dQ rfl
  |succ j=>have e:r[j]?=some (k,v):=e;rw[(eC λq=>am.1 (q▸dn.mpr ⟨_,ib e,rfl⟩):decide (a=k)=false),ar am.2 e];rfl
section
variable{c:cb}{A:Around}{O:Ę->Qj->Prop}{s:Qj}{C:aY}{J:St}
theorem Ii{oJ:Type}[DecidableEq oJ]{knd:PySem.KeyKind c.prog c.w oJ}{f:oJ->B}{cL:Ĵ}(cc:∀a,j3 c.P (f a)=knd.hash a)(view:∀x X,eG x=cL->bz c.P C x X->∃a,x=f a/\knd.is a X=true/\∀b,knd.is b X=decide (f a=f b)){d:Addr}{es:Lm DictEntry}{n:Ĵ}{l:Lm (B×B)}{k:oJ}{K:Ę}{Q:Ĳ Ĵ->Qj->Prop}(bg:s.heap.get? d=some (ew es.toArray n))(ah:d8 c.P C l es)(gf:∀e∈l,eG e.1=cL)(aE:knd.is k K=true)(h:Q (jc (f k) l) s):wpAny c.M A (dictFind d K<|knd.hash k) Q O s:=by
 have G4:∀{j:Ĵ} {e:DictEntry} {p:B×B},es[j]?=some e->l[j]?=some p->∃a,p.1=f a/\dY (knd.is a e.key=true) (∀b,knd.is b e.key=decide (f a=f b)) (e.hash=knd.hash a):=λ{j e p} ag a8=>by obtain⟨eH,CB,c0,r,_⟩:=ah.get a8;obtain⟨a,q,bY,br⟩:=view _ _ (gf p<|ib a8) r;obtain rfl:=cY<|ag.symm.trans c0;exact⟨a,q,bY,br,(bX _ q).trans<|cc a⟩
 refine wpAny_dictFind_of (knd:=knd) (k:=k) aE bg rfl (λe a6=>?_) ?_
 .obtain⟨j,b8⟩:=AJ.mp<|nn.mp a6;obtain⟨a,_,bY,_,dM⟩:=G4 b8<|fl<|ah.length▸(hb.mp b8).1;exact⟨a,bY,dM⟩
 .rw[List.findIdx?_toArray,R6 (g:=λe=>decide<|e.1=f k) ah.length λj e p ag a8=>by obtain⟨a,q,_,br,_⟩:=G4 ag a8;rw[br,q]];exact h
theorem Wx(I:c.I C J s){l:Lm (B×B)}{es:Lm DictEntry}(ah:d8 c.P C l es):(∀e∈l,eS 6 e.1=true/\eG e.1=3)->∃bM:Lm (B×Addr×Ę),dY (es=bM.map (entryOfKey<|vo c.prog c.w)) (bM.map (·.1)=l.map Prod.fst) (∀y∈bM,(vo c.prog c.w).is s.heap y.1 y.2.1):=by
 refine d8.ind (M:=λl es=>(∀e∈l,eS 6 e.1=true/\eG e.1=3)->∃bM:Lm (B×Addr×Ę),dY (es=bM.map (entryOfKey<|vo c.prog c.w)) (bM.map (·.1)=l.map Prod.fst) (∀y∈bM,(vo c.prog c.w).is s.heap y.1 y.2.1)) (λ_=>⟨[],rfl,rfl,λ_ h=>(nomatch h)⟩) (λ{k v K V l es} G _ _ ar gf=>?_) ah;obtain⟨bM,rfl,qO,B9⟩:=ar λe a6=>gf e<|.tail _ a6;obtain⟨d2,aB⟩:=gf (k,v)<|.head _;obtain⟨y,rfl⟩:=P9 aB;clear aB;obtain⟨b,bC,m,rfl,bY,br,dM⟩:=G.of;refine⟨(.tup y,b,V)::bM,rfl,bX (_::·) qO,λz hz=>?_⟩;rcases eJ.mp hz with e|hz
 .rw[e];exact⟨d2,G.af I⟩
 .exact B9 z hz
theorem GK{d:Addr}{es:Lm DictEntry}{n:Ĵ}{l:Lm (B×B)}{k:B}{K:Ę}{Q:Ĳ Ĵ->Qj->Prop}(a5:A.units+6<cLine)(I:c.I C J s)(bg:s.heap.get? d=some (ew es.toArray n))(ah:d8 c.P C l es)(am:(l.map Prod.fst).Nodup)(a7:ej k l=true)(aE:bz c.P C k K)(h:Q (jc k l) s):wpAny c.M A (dictFind d K<|j3 c.P k) Q O s:=by
 have i6:=vT a7;induction k using B.casesOn with
 |int i=>obtain⟨t,rfl⟩:=aE.of;refine Ii (knd:=PySem.intKind c.prog c.w) (f:=.int) (cL:=1) (λ_=>rfl) (λx X e r=>?_) bg ah (λe a6=>(i6.2 e a6).2) (jV i) h;obtain⟨a,rfl⟩:=Fd e;clear e;obtain⟨w,rfl⟩:=r.of;exact⟨a,rfl,jV a,λb=>v7.mpr ⟨bX _,B.int.inj⟩⟩
 |str x=>obtain⟨t,rfl,ap⟩:=aE.of;refine Ii (knd:=PySem.strKind c.prog c.w) (f:=λx=>.str x.cps.toList) (k:=⟨x.toArray⟩) (cL:=2) (λ_=>rfl) (λx X e r=>?_) bg ah (λe a6=>(i6.2 e a6).2) (jV (⟨x.toArray⟩:Str)) h;obtain⟨a,rfl⟩:=MB e;clear e;obtain⟨w,rfl,-⟩:=r.of;exact⟨⟨a.toArray⟩,rfl,jV (⟨a.toArray⟩:Str),λb=>Bool.eq_iff_iff.mpr<|(fN (a:=(⟨a.toArray⟩:Str)) (b:=b)).trans ⟨λq=>by rw[<-q];exact dQ rfl,λq=>by have:=B.str.inj<|fz q;induction b;exact bX Str.mk<|bX List.toArray this⟩⟩
 |tup x=>
  obtain⟨a,Vs,m,rfl,ag,a8,c0⟩:=aE.of;obtain⟨bM,ln,h',d3⟩:=Wx I ah λe a6=>⟨(i6.2 e a6).1,(i6.2 e a6).2.trans (bl i6.1:eG (.tup x)=3)⟩;have ay:∀(j:Ĵ),(bM[j]?).map (·.1)=(l[j]?).map Prod.fst:=λj=>by rw[<-gS,h',gS]
  refine wpAny_dictFind_heap (knd:=vo c.prog c.w) (k:=.tup x) a5 ⟨i6.1,(bz.tup ag a8 c0).af I⟩ bg rfl ln d3 (by rw[h'];exact am) (λDx=>?_) λj p b8=>?_
  .rw[SR λp ae q=>?_]at h
   .exact h
   .obtain⟨j,b8⟩:=AJ.mp ae;have e:=ay j;rw[b8]at e;obtain⟨z,hz,Ej⟩:=map_some e;clear e;exact Dx j z.2<|hz.trans<|bX some<|nE (Ej.trans q) rfl
  .have e:=ay j;rw[b8]at e;obtain⟨z,hz,Ej⟩:=map_some e.symm;rw[VF am<|hz.trans<|bX some (nE Ej rfl:z=(.tup x,z.2))]at h;exact h
 |_=>exact cq i6.1
end
section
variable{c:cb}{A:Around}{O:Ę->Qj->Prop}{s:Qj}{C:aY}{J:St}
structure iw(c:cb)(C:aY)(s:Shared)(d:Addr)(l:List (B×B))(es:List DictEntry)(n:Nat):Prop where
 at_:s.heap.get? d=some (ew es.toArray n)
 rel:d8 c.P C l es
 nodup:(l.map Prod.fst).Nodup
 a3:l.length<=a3
inductive vU (P:Params) (C:aY):Option B->Option Value->Prop where
 |none:vU P C none none
 |some {v:B} {V:Value}:bz P C v V->vU P C (some v) (some V)
theorem CH{d:Addr}{es:Lm DictEntry}{n:Ĵ}{l:Lm (B×B)}{k:B}{K:Ę}{r:Ĳ B}{Q:Ĳ Ę->Qj->Prop}(a5:A.units+6<cLine)(I:c.I C J s)(D:iw c C s d l es n)(a7:ej k l=true)(aE:bz c.P C k K)(e:fh k l=some r)(h:∀R t,vU c.P C r R->Q R {s with toks:=t}):wpAny c.M A (dictGet d K) Q O s:=by
 unfold dictGet;try with_reducible refine gU ?_
 refine bc<|C2 (vT a7).1 (aE.af I) rfl a5<|bc<|GK a5 (I.toks _) D.at_ D.rel D.nodup a7 aE ?_;rw[UA a7]at e;induction aA:jc k l with
 |none=>rw[aA]at e;cases e;exact b1<|h _ _ .none
 |some j=>
  rw[aA]at e;have b8:j<l.length:=by unfold jc at aA;exact(List.findIdx?_eq_some_iff_getElem.mp aA).1
  have ae:l[j]?=some l[j]:=fl b8;rw[Option.bind_some,ae]at e;cases e;obtain⟨eH,CB,ag,a8,c0⟩:=D.rel.get ae;clear ae;refine bc<|wpAny_dictEntries (s:={s with toks:=_}) D.at_ rfl ?_;rw[show es.toArray[j]?=some ⟨j3 c.P l[j].1,eH,CB⟩by simpa using ag];exact b1<|h _ _<|.some c0
theorem LQ{d:Addr}{es:Lm DictEntry}{n:Ĵ}{l dh:Lm (B×B)}{k v:B}{K V:Ę}{Q:Unit->Qj->Prop}(a5:A.units+6<cLine)(I:c.I C J s)(D:iw c C s d l es n)(a7:ej k l=true)(aE:bz c.P C k K)(af:bz c.P C v V)(e:hh k v l=some dh)(h:∀(aR:Heap) (t:Ĵ) (cA:Lm DictEntry) (n':Ĵ),aR.get? d=some (ew cA.toArray n')->d8 c.P C dh cA->(dh.map Prod.fst).Nodup->Heap.SameBut d s.heap aR->Q () {s with heap:=aR,toks:=t}):wpAny c.M A (dictSet d K V) Q O s:=by
 have oo:es.toArray.size<=sizeLine:=by have:=D.rel.length;have:=D.a3;rw[eo];unfold a3 at*;unfold sizeLine;omega
 unfold dictSet;try with_reducible refine gU ?_
 refine bc<|C2 (vT a7).1 (aE.af I) rfl a5 ?_;unfold dictSetHashed;try with_reducible refine gU ?_
 refine bc<|GK a5 (I.toks _) D.at_ D.rel D.nodup a7 aE ?_;rw[LG a7]at e;induction aA:jc k l with
 |some j=>
  rw[aA]at e;cases e;refine bc<|r9<|bc<|wpAny_updateDict (s:={s with toks:=_}) D.at_ rfl<|wpAny_point<|h _ _ (es.modify j λe=>{e with val:=V}) n (tp _ D.at_ rfl|>.trans ?_) (D.rel.modify af j) ?_ (vZ ..)
  .simp[Obj.mapDict,ew]
  .have:(l.modify j λe=>(e.1,v)).map Prod.fst=l.map Prod.fst:=by apply Bc;intro i;simp only[gS,List.getElem?_modify];by_cases q:j=i<;>induction l[i]?<;>simp[q]
   rw[this];exact D.nodup
 |none=>
  rw[aA]at e;cases e;refine bc<|r9<|wpAny_updateDictKeys (hz:=oo) (s:={s with toks:=_}) D.at_ rfl<|h _ _ (es++[⟨j3 c.P k,K,V⟩]) (n+1) (tp _ D.at_ rfl|>.trans ?_) (D.rel.push aE af) ?_ (vZ ..)
  .simp[Obj.mapDictKeys,ew]
  .rw[c4,nd];refine⟨D.nodup,by simp,λx ay y a2 q=>?_⟩;simp only[fx,A3,cV]at a2;subst a2 q;obtain⟨p,ae,gX⟩:=dn.mp ay;clear ay;unfold jc at aA;rw[KC]at aA;have:=aA p ae;simp[gX]at this
theorem iw.typeIs{d:Addr}{l:Lm (B×B)}{es:Lm DictEntry}{n:Ĵ}(D:iw c C s d l es n):s.TypeIs (.ref d) "dict":=⟨_,D.at_,rfl⟩
theorem IY{d:Addr}{es:Lm DictEntry}{n:Ĵ}{l:Lm (B×B)}{k:B}{K:Ę}{r:Ĳ B}{Q:Ģ->Qj->Prop}(a5:A.units+16<cLine)(I:c.I C J s)(D:iw c C s d l es n)(aM:(d==sysModules)=false)(a7:ej k l=true)(aE:bz c.P C k K)(e:fh k l=some r)(h:∀t,Q r.isSome {s with toks:=t}):wpAny c.M A (PySem.contains (.ref d) K) Q O s:=by
 unfold PySem.contains;try with_reducible refine gU ?_
 have ĭ:stdlibNamesSay? (.ref d) K=none:=rfl;refine bc<|zi D.typeIs AN.lookup ?_;show wpAny _ _ (if(some (Value.builtin "dict.__contains__")==some Value.none)=true then _ else _) _ O s;rw[bt<|by rw[beq_builtin_none];exact eM];refine bc<|wpAny_callSpecialUnlessNone?_slot (name:=Str.ofString "__contains__") D.typeIs AN<|mH AN D.typeIs entry_dict_contains ?_<|args_dict_contains _ _;show wpAny _ _ (dictGet d K>>=_) _ _ s;refine bc<|CH (iX a5:A.units+7<cLine) I D a7 aE e λR t az=>?_;induction az with
 |some af=>show wpAny _ _ (ret<|.bool true) _ _ _;exact b1 ⟨_,rfl,rm<|h t⟩
 |none=>show wpAny _ _ (Builtin.Dict.pendingKey? d K>>=_) _ _ _;exact bc<|wpAny_pendingKey_other aM<|b1 ⟨_,rfl,rm<|h t⟩
theorem Xo{d:Addr}{es:Lm DictEntry}{n:Ĵ}{l:Lm (B×B)}{k v:B}{K:Ę}{Q:Ę->Qj->Prop}(a5:A.units+16<cLine)(I:c.I C J s)(D:iw c C s d l es n)(a7:ej k l=true)(aE:bz c.P C k K)(e:fh k l=some (some v))(h:∀V t,bz c.P C v V->Q V {s with toks:=t}):wpAny c.M A (getItem (.ref d) K) Q O s:=by
 unfold getItem;try with_reducible refine gU ?_
 refine bc<|uU D.typeIs (by decide) ?_;refine bc<|sf (name:=Str.ofString "__getitem__") D.typeIs AW<|mH AW D.typeIs entry_dict_getitem ?_<|args_dict_getitem _ _;show wpAny _ _ (dictGet d K>>=_) _ _ s;refine bc<|CH (iX a5:A.units+7<cLine) I D a7 aE e λR t az=>?_;cases az with
 |some af=>exact b1 ⟨_,rfl,b1<|h _ _ af⟩
theorem FZ{d:Addr}{es:Lm DictEntry}{n:Ĵ}{l dh:Lm (B×B)}{k v:B}{K V:Ę}{Q:Unit->Qj->Prop}(a5:A.units+16<cLine)(I:c.I C J s)(D:iw c C s d l es n)(a7:ej k l=true)(aE:bz c.P C k K)(af:bz c.P C v V)(e:hh k v l=some dh)(h:∀(aR:Heap) (t:Ĵ) (cA:Lm DictEntry) (n':Ĵ),aR.get? d=some (ew cA.toArray n')->d8 c.P C dh cA->(dh.map Prod.fst).Nodup->Heap.SameBut d s.heap aR->Q () {s with heap:=aR,toks:=t}):wpAny c.M A (setItem (.ref d) K V) Q O s:=by
 unfold setItem;try with_reducible refine gU ?_
 refine bc<|uU D.typeIs (by decide) ?_;refine bc<|sf (name:=Str.ofString "__setitem__") D.typeIs slot_dict_setitem<|mH slot_dict_setitem D.typeIs entry_dict_setitem ?_<|args_dict_setitem _ _ _;show wpAny _ _ (Builtin.Dict.notOrdered "__setitem__" ⟨[.ref d,K,V],[]⟩>>=_) _ _ s;refine bc<|wpAny_notOrdered_dict D.typeIs ?_;show wpAny _ _ (dictSet d K V>>=_) _ _ s;exact bc<|LQ (iX a5:A.units+7<cLine) I D a7 aE af e λaR t cA n' a b iH nc=>b1 ⟨.none,rfl,b1<|h aR t cA n' a b iH nc⟩
theorem NL{d:Addr}{pos:Pos}{x y:Sem Ę}{Q:Ę->Qj->Prop}(a5:A.units+16<cLine)(aM:(d==sysModules)=false)(h:wpAny c.M A x (λK bs=>wpAny c.M A y (λD b7=>z8 λ(cn:aY) (dZ:St) (l:Lm (B×B)) (es:Lm DictEntry) (n:Ĵ) (k:B) (r:Ĳ B)=>rx (c.I cn dZ b7) (iw c cn b7 d l es n) (ej k l=true) (bz c.P cn k K) (fh k l=some r) (∀R t,vU c.P cn r R->Q (R.getD D) {b7 with toks:=t})) O bs) O s):wpAny c.M A (callWith pos (.builtin "dict.get") [.ref d] [(false,x),(false,y)] []) Q O s:=method2_meetsIn F.slot_dict_get F.entry_dict_get (lG h (λK _ lV=>lG lV (λD _ vi=>by
 obtain⟨cn,dZ,l,es,n,k,r,I,yP,a7,aE,e,bb⟩:=vi;refine⟨yP.typeIs,F.args_dict_get_3 _ _ _,(λA R s=>A.units+8<cLine/\z8 λ(cn:aY) (dZ:St) (l:Lm (B×B)) (es:Lm DictEntry) (n:Ĵ) (k:B) (r:Ĳ B)=>rx (c.I cn dZ s) (iw c cn s d l es n) (ej k l=true) (bz c.P cn k K) (fh k l=some r) (∀V t,vU c.P cn r V->R (.ok<|.ret<|V.getD D) {s with toks:=t})),.of_wp λA R s ⟨a5,cn,dZ,l,es,n,k,r,I,yP,a7,aE,e,bb⟩=>?_,iX ‹_›,cn,dZ,l,es,n,k,r,I,yP,a7,aE,e,λV t az=>bb V t az⟩;show wpAny _ _ (dictGet d K>>=_) _ _ s;refine bc<|CH (iX a5:A.units+7<cLine) I yP a7 aE e λV t az=>?_;have vV:=bb V t az;induction az with
 |some af=>exact b1 ⟨_,rfl,vV⟩
 |none=>show wpAny _ _ (Builtin.Dict.missed d K>>=_) _ _ _;exact bc (wpAny_missed_other aM (b1 ⟨_,rfl,vV⟩))) λ_ _ e=>e) λ_ _ e=>e)
end
theorem C'{i:ĵ}{n j:Ĵ}(h:jM i n=some j):seqIndex? i n=some j/\j<n/\-(n:ĵ)<=i/\i<n:=by
 induction i using Int.casesOn with
 |ofNat k=>obtain⟨G,e⟩:=hj<|show(if k<n then some k else none)=some j from(bl<|nt k).symm.trans h;obtain rfl:=cY e;have aE:(k:ĵ)<n:=iM.mpr G;exact⟨seqIndex_of (nt k) aE,G,wz (Int.neg_nonpos_of_nonneg<|nt n)<|nt k,aE⟩
 |negSucc k=>obtain⟨G,e⟩:=hj<|show(if k+1<=n then some (n-(k+1))else none)=some j from(bt<|Int.not_le.mpr<|ER k).symm.trans h;cases e;have am: -(n:ĵ)<=.negSucc k:=Int.neg_le_neg<|ud.mpr G;refine⟨(PySem.seqIndex_neg (ER k) am).trans<|bX some ?_,Nat.sub_lt (gI (oG k) G)<|oG k,am,Int.lt_of_lt_of_le (ER k)<|nt n⟩;rw[Int.add_comm];exact bX Int.toNat (Int.ofNat_sub G).symm
theorem z2{P:Params}{N:g1}{H:Heap}{os:OsState}{C:aY}{J:St}{s:Qj}(I:Inv P N H os C J s){n:Ĵ}{a b:Addr}(G:C a=.st n)(E:C b=.st n):a=b:=I.uniq a b (G.trans E.symm) (by rw[G];trivial)
section
variable{c:cb}{A:Around}{O:Ę->Qj->Prop}{s:Qj}{C:aY}{J:St}
theorem pF(I:c.I C J s){n:Ĵ}{aX:Ę}{l:Lm B}(dW:bz c.P C (.ref n) aX)(e:J[n]?=some (.ls l)):dD λa Vs k=>pZ (aX=.ref a) (C a=.st n) (s.heap.get? a=some (cw Vs.toArray k)) (bB c.P C l Vs) (l.length<=a3):=by obtain⟨a,rfl,r⟩:=dW.of;obtain⟨_,_,_,G,E,aB,ba⟩:=(I.store n _ e).of;obtain rfl:=z2 I G r;exact⟨_,_,_,rfl,G,E,aB,ba⟩
theorem CU(I:c.I C J s){n:Ĵ}{aX:Ę}{l:Lm (B×B)}(dW:bz c.P C (.ref n) aX)(e:J[n]?=some (.cN l)):dD λa es k=>dY (aX=.ref a) (C a=.st n) (iw c C s a l es k):=by obtain⟨a,rfl,r⟩:=dW.of;obtain⟨_,_,_,G,E,aB,ba,cO⟩:=(I.store n _ e).of;obtain rfl:=z2 I G r;exact⟨_,_,_,rfl,G,E,aB,cO,ba⟩
theorem gr.ref{h:Heap}{P:Params}{n:Ĵ}{V:Ę}(x:gr P C h (.ref n) V):bz P C (.ref n) V:=by obtain⟨a,rfl,e⟩:=x.of;exact .ref e
theorem AP(I:c.I C J s){aX:Ę}{l:Lm B}(dW:gr c.P C s.heap (.lst l) aX):dD λa Vs k=>hP (aX=.ref a) (s.heap.get? a=some (cw Vs.toArray k)) (bB c.P C l Vs) (l.length<=a3):=by obtain⟨a,Vs,n,rfl,e,b,d⟩:=dW.of;exact⟨_,_,_,rfl,e.elim (I.a4 _ _) w3,b,d⟩
theorem CO(I:c.I C J s)(e1:∃o,c.H.get? sysModules=some o){a:Addr}(h:(C a).one):(a==sysModules)=false:=by obtain⟨o,az⟩:=e1;rw[lf];rintro rfl;rw[I.base _ o az]at h;exact h
theorem sL(I:c.I C J s)(e1:∃o,c.H.get? sysModules=some o){aX:Ę}{l:Lm (B×B)}(dW:gr c.P C s.heap (.a9 l) aX):dD λa es k=>dY (aX=.ref a) (iw c C s a l es k) ((a==sysModules)=false):=by obtain⟨a,es,n,rfl,e,b,d,f⟩:=dW.of;exact⟨_,_,_,rfl,⟨e.elim (λe=>I.a4 _ _ e.1) w3,b,f,d⟩,e.elim w3 λ⟨⟨_,e⟩,_⟩=>CO I e1<|by rw[e];trivial⟩
theorem Z3(I:c.I C J s){aX:Ę}{l:Lm (B×B)}(dW:gr c.P C s.heap (.a9 l) aX):dD λa es k=>aX=.ref a/\iw c C s a l es k:=by obtain⟨a,es,n,rfl,e,b,d,f⟩:=dW.of;exact⟨_,_,_,rfl,e.elim (λe=>I.a4 _ _ e.1) w3,b,f,d⟩
theorem CK(I:c.I C J s){aX:Ę}{l:Lm B}(dW:gr c.P C s.heap (.tup l) aX):dD λa Vs k=>pZ (aX=.ref a) (C a=.a4 (d9 Vs.toArray k)) (s.heap.get? a=some (d9 Vs.toArray k)) (bB c.P C l Vs) (l.length<=a3):=by obtain⟨a,Vs,n,rfl,e,b,d⟩:=dW.of;exact⟨_,_,_,rfl,e,I.a4 _ _ e,b,d⟩
theorem z0{P:Params}{h:Heap}{aX:Ę}{l:bv}(dW:gr P C h (.str l) aX):∃t,aX=.str ⟨l.toArray⟩ t/\l.length<=a3:=dW.of
theorem xC{P:Params}{aX:Ę}{i:ĵ}(dW:bz P C (.int i) aX):∃t,aX=.int i t:=dW.of
theorem Xc{a:Addr}{Vs:Lm Ę}{n:Ĵ}{l:Lm B}{i:ĵ}{v:B}{t:Tok}{Q:Ę->Qj->Prop}(az:s.heap.get? a=some (cw Vs.toArray n))(af:bB c.P C l Vs)(ap:l.length<=a3)(e:((jM i l.length).bind λj=>l[j]?)=some v)(h:∀V t,bz c.P C v V->Q V {s with toks:=t}):wpAny c.M A (getItem (.ref a)<|.int i t) Q O s:=by
 obtain⟨j,ag,a8⟩:=bind_some e;clear e;obtain⟨G,E,aB,ba⟩:=C' ag;clear ag;obtain⟨V,c0,cZ⟩:=af.get a8;clear a8;have ah:=af.length;have eL:l.length<=16777216:=ap;by_cases aF:0<=i
 .refine wpAny_getItem_list (hW az) aF (by omega) ?_<|h V s.toks cZ;rw[seqIndex_of aF ba]at G;cases G;simpa using c0
 .refine wpAny_getItem_list_neg (hW az) (by omega) (by simp[ah];omega) (by omega) ?_<|h V s.toks cZ;rw[PySem.seqIndex_neg (by omega) aB]at G;cases G;simpa[ah]using c0
theorem RR{a:Addr}{Vs:Lm Ę}{n:Ĵ}{l:Lm B}{i:ĵ}{v:B}{t:Tok}{Q:Ę->Qj->Prop}(az:s.heap.get? a=some (d9 Vs.toArray n))(af:bB c.P C l Vs)(ap:l.length<=a3)(e:((jM i l.length).bind λj=>l[j]?)=some v)(h:∀V t,bz c.P C v V->Q V {s with toks:=t}):wpAny c.M A (getItem (.ref a)<|.int i t) Q O s:=by obtain⟨j,ag,a8⟩:=bind_some e;clear e;obtain⟨G,E,aB,ba⟩:=C' ag;clear ag;obtain⟨V,c0,cZ⟩:=af.get a8;clear a8;have ah:=af.length;have eL:l.length<=16777216:=ap;exact PyProof.Rows.getItem_tuple (j:=j) (x:=V) ⟨_,az,rfl,n,rfl⟩ (by omega) (by omega) (by simpa[ah]using G) (by simpa using c0)<|h V s.toks cZ
inductive cF (c:cb) (C:aY) (s:Shared) (k v:B):Value->Prop
 |lst (a:Addr) (Vs:List Value) (m:Nat) (l:List B):s.heap.get? a=some (cw Vs.toArray m)->bB c.P C l Vs->l.length<=a3->wE l k=some v->cF c C s k v (.ref a)
 |tup (a:Addr) (Vs:List Value) (m:Nat) (l:List B):s.heap.get? a=some (d9 Vs.toArray m)->bB c.P C l Vs->l.length<=a3->wE l k=some v->cF c C s k v (.ref a)
 |str (l:bv) (t:Tok):l.length<=a3->FT l k=some v->cF c C s k v (.str ⟨l.toArray⟩ t)
 |a9 (a:Addr) (es:List DictEntry) (m:Nat) (l:List (B×B)):iw c C s a l es m->CF l k=some v->cF c C s k v (.ref a)
theorem cF.of{o k v:B}{aX:Ę}(I:c.I C J s)(dW:gr c.P C s.heap o aX)(e:ho J o k=some v):cF c C s k v aX:=by
 induction o using B.casesOn with
 |ref n=>
  obtain⟨cp,aM,e⟩:=bind_some<|show(J[n]?).bind _=some v from e;induction cp using dd.casesOn with
  |ls l=>obtain⟨a,Vs,m,rfl,-,E,aB,ba⟩:=pF I dW.ref aM;exact .lst _ _ _ _ E aB ba e
  |cN l=>obtain⟨a,es,m,rfl,-,D⟩:=CU I dW.ref aM;exact .a9 _ _ _ _ D e
  |ins=>exact b4 e
 |tup l=>obtain⟨a,Vs,m,rfl,-,E,aB,ba⟩:=CK I dW;exact .tup _ _ _ _ E aB ba e
 |lst l=>obtain⟨a,Vs,m,rfl,E,aB,ba⟩:=AP I dW;exact .lst _ _ _ _ E aB ba e
 |str l=>obtain⟨t,rfl,ap⟩:=z0 dW;exact .str _ _ ap e
 |a9 l=>obtain⟨a,es,m,rfl,D⟩:=Z3 I dW;exact .a9 _ _ _ _ D e
 |_=>exact b4 e
theorem Sf{o k v:B}{aX K:Ę}{Q:Ę->Qj->Prop}(a5:A.units+16<cLine)(I:c.I C J s)(dW:gr c.P C s.heap o aX)(ab:bz c.P C k K)(e:ho J o k=some v)(h:∀V t,bz c.P C v V->Q V {s with toks:=t}):wpAny c.M A (getItem aX K) Q O s:=by
 induction cF.of I dW e with
 |lst a Vs m l E aB ba d=>obtain⟨i,rfl,d⟩:=fQ.of d;obtain⟨t,rfl⟩:=xC ab;exact Xc E aB ba d h
 |tup a Vs m l E aB ba d=>obtain⟨i,rfl,d⟩:=fQ.of d;obtain⟨t,rfl⟩:=xC ab;exact RR E aB ba d h
 |str l t ap d=>
  replace d:=fQ.of d;obtain⟨i,rfl,d⟩:=d;obtain⟨u,rfl⟩:=xC ab;clear ab;obtain⟨j,ag,a8⟩:=bind_some d;clear d;obtain⟨x,c0,cZ⟩:=map_some a8;clear a8;obtain⟨G,E,aB,ba⟩:=C' ag;clear ag;have eL:l.length<=16777216:=ap;subst cZ;refine PySem.P.getItem_str (c:=x) ?_ ?_ (h _ _<|.str [x] _<|by show 1<=a3;decide)
  .simp only[pR,ny];omega
  .show(seqIndex? i l.toArray.size).bind _=_;rw[eo,G];simpa using c0
 |a9 a es m l D e=>obtain⟨a7,e⟩:=hj e;obtain⟨r,ag,a8⟩:=bind_some e;clear e;replace a8:r=some v:=a8;subst a8;exact Xo a5 I D a7 ab ag h
theorem XX{o k v:B}{aX:Ę}(I:c.I C J s)(dW:gr c.P C s.heap o aX)(e:ho J o k=some v):ee λT id=>s.TypeIs aX T/\typeLookup (.type T) "__getitem__"=pure (some<|.builtin id):=by
 induction cF.of I dW e with
 |lst a Vs m l E=>exact⟨_,_,⟨_,E,rfl⟩,slot_list_getitem.lookup⟩
 |tup a Vs m l E=>exact⟨_,_,⟨_,E,rfl⟩,rv.lookup⟩
 |str=>exact⟨_,_,typeIs_str _ _ _,F.slot_str_getitem.lookup⟩
 |a9 a es m l D=>exact⟨_,_,D.typeIs,AW.lookup⟩
def y5 (e:ĳ):Ģ:= !Nat.beq e.ctorIdx 26
theorem Qp{qX:ĳ}(h:y5 qX=true)(o i:Ę):subscripted qX false o i=operate [o,i] (getItem o i):=q7 (b:= !y5 qX) (by induction qX using PySem.Expr.casesOn<;>first|exact @rfl _ (operate [o,i] (getItem o i))|trivial) (by rw[h];rfl)
theorem ZQ{e i:ĳ}{pos:Pos}{e' nw:dm}(a5:A.units+16<cLine)(ae:y5 i=true)(go:lc c A e e')(gF:Good c A i nw):Good c A (.Subscript e i pos) λr J K=>e' r J (hD nw r<|LP K):=by intro O s ac C r J k K Q I F ag h;refine Subscript_<|go.use I F ag λo db e aX bL bs a0 bU bn dW=>gF.use a0 bU e λbW dZ e V cn b7 cd eb bK ab=>ax.dr e λz fv e=>?_;have Lk:=dW.ext a0 bK;obtain⟨T,id,jf,ah⟩:=XX cd Lk fv;exact tail_any jf ah (Sf a5 cd Lk ab fv λV t co=>h _ _ e V cn _ (cd.toks t) ((bn.trans bK).trans<|bq.toks cn b7 t) co)<|Qp ae aX V
end
theorem IH{e:ĳ}{i:ĵ}{pos:Pos}(g:Good c A e λ_ J K=>K (.int i) J):Good c A (.UnaryOp .USub e pos) λ_ J K=>K (.int<|-i) J:=by intro O s ac C r J k K Q I F ag h;refine wpAny_UnaryOp<|g.use (K:=λv bE=>v=.int i/\K (.int<|-i) bE) I F ⟨rfl,ag⟩ λv db e V bL bs a0 bU bn af=>?_;rw[e.1]at af;obtain⟨t,rfl⟩:=af.of;exact PySem.P.neg_int<|h _ _ e.2 _ bL _ (a0.toks _) (bn.trans<|bq.toks bL bs _)<|.int _ _
inductive qA (c:cb) (A:Around):Option Expr->Option Int->Prop where
 |none:qA c A none none
 |some {e:Expr} {i:Int}:Good c A e (λ_ J K=>K (.int i) J)->qA c A (some e) (some i)
theorem qA.use{x:Ĳ ĳ}{p:Ĳ ĵ}(g:qA c A x p){O:Ę->Qj->Prop}{s:Qj}{ac:Env}{C:aY}{r:aK}{J:St}{k:Ĵ}{Q:Ę->Qj->Prop}(I:c.I C J s)(F:c.F C ac r s.heap k)(h:∀V aP aq,c.I aP J aq->c.F aP ac r aq.heap k->bq C s aP aq->IsPart V p->Q V aq):wpAny c.M A (evalPart x ac) Q O s:=by
 induction g with
 |none=>rw[evalPart_none];exact b1<|h _ C s I F (bq.refl C s) .none
 |@some _ i g=>rw[evalPart_some];exact g.use (K:=λv bE=>v=.int i/\bE=J) I F ⟨rfl,rfl⟩ λv bE e V aP aq dk g8 x af=>by rw[e.1]at af;rw[e.2]at dk;exact h V aP aq dk g8 x (by obtain⟨t,rfl⟩:=af.of;exact .int _ _)
theorem MQ{w:World}{prog:Program}{O:Ę->Qj->Prop}{s:Qj}{t aL:Addr}{Vs:Lm Ę}{n:Ĵ}{u:Tok}{Q:Ę->Qj->Prop}(dU:IsTup s.heap t Vs.toArray)(aM:s.heap.IsSliceOf aL .none (.int (-1) u) .none)(G:1<=Vs.length)(h:Q (.ref s.heap.objs.size) {s with heap:=s.heap.push (d9 Vs.dropLast.toArray 0)})(hsz:Vs.length<=sizeLine):wpAny (model prog w) A (getItem (.ref t)<|.ref aL) Q O s:=by
 have xE:sizeOk (.seq Vs.dropLast.toArray):=by show Vs.dropLast.toArray.size<=sizeLine;rw[eo,Jx];exact aJ (tn _ _) hsz
 obtain⟨os,sW,jg,jG⟩:=id aM;clear aM;unfold getItem;try with_reducible refine gU ?_
 first|refine bc (b1 ?_)|skip
 refine bc<|uU dU.typeIs (by decide) ?_;refine bc<|sf (name:=Str.ofString "__getitem__") dU.typeIs rv<|mH rv dU.typeIs entry_tuple_getitem ?_<|args_tuple_getitem _ _;show wpAny _ _ (Builtin.Tuple.tupleItemsOf (.ref t)>>=_) _ _ s;refine bc<|tupleItemsOf_ dU<|bc<|wpAny_typeOf (⟨os,sW,jg⟩:s.TypeIs (.ref aL) "slice") ?_;rw[bl<|by decide];have app:∀{bT:ĵ×ĵ×Ĵ->Qj->Prop} {uO:Ę->Qj->Prop},bT (0,1,Vs.length-1) s->wpAny (model prog w) A.in1 (Builtin.Slice.sliceApplied (.ref aL)<|pure ((Vs.toArray.size:Ĵ):ĵ)) bT uO s:=by
  intro bT uO aR;unfold Builtin.Slice.sliceApplied Builtin.Slice.sliceFields;refine bc<|bc<|wpAny_field sW jG (x:=.none) rfl<|bc<|wpAny_field sW jG (x:=.int (-1) u) rfl<|bc<|wpAny_field sW jG (x:=.none) rfl<|b1<|bc<|slicePart_none ?_;show wpAny _ _ (if((1:ĵ)==0)=true then _ else _) _ _ s;rw[bt<|by decide];refine bc<|slicePart_none<|bc<|slicePart_int<|bc<|b1 ?_;show wpAny _ _ (match Builtin.Slice.sliceAdjust none (some<|-1) 1 ((Vs.toArray.size:Ĵ):ĵ)with|(lo,aA)=>pure (lo,(1:ĵ),Builtin.Slice.slicePlaces lo aA 1)) _ _ s;have ag:Builtin.Slice.sliceAdjust none (some<|-1) 1 ((Vs.toArray.size:Ĵ):ĵ)=(0,((Vs.length-1:Ĵ):ĵ)):=by rw[eo];have oP:(-1:ĵ)+(Vs.length:ĵ)=((Vs.length-1:Ĵ):ĵ):=(Int.add_comm _ _).trans (Int.ofNat_sub G).symm;exact bX (Prod.mk (0:ĵ))<|(bX (λx:ĵ=>max x 0) oP).trans<|Int.max_eq_left<|nt _
  have a8:Builtin.Slice.slicePlaces 0 ((Vs.length-1:Ĵ):ĵ) 1=Vs.length-1:=by
   cases Vs.length-1 with
   |zero=>rfl
   |succ k=>show(if(0:ĵ)<((k+1:Ĵ):ĵ)then(((k+1:Ĵ):ĵ)-0-1)/1+1 else 0).toNat=k+1;rw[bl<|show(0:ĵ)<((k+1:Ĵ):ĵ)from iM.mpr<|oG k,Int.ediv_one,sb,Gb];rfl
  rw[ag];show wpAny _ _ (pure ((0:ĵ),(1:ĵ),Builtin.Slice.slicePlaces 0 ((Vs.length-1:Ĵ):ĵ) 1)) _ _ s;rw[a8];exact b1 aR
 refine bc<|app ?_;have Dx:¬(((0:ĵ)==0&&(1:ĵ)==1&&(Vs.length-1)==Vs.toArray.size)=true):=by
  have:(Vs.length-1==Vs.toArray.size)=false:=by rw[lf,eo];exact gG<|Nat.sub_lt G<|oG 0
  rw[this];simp
 show wpAny _ _ (if((0:ĵ)==0&&(1:ĵ)==1&&(Vs.length-1)==Vs.toArray.size)=true then _ else _) _ _ s;have k1:((List.range<|Vs.length-1).filterMap λ(k:Ĵ)=>Vs.toArray[((0:ĵ)+(k:ĵ)*1).toNat]?).toArray=Vs.dropLast.toArray:=by
  have e:(λ(k:Ĵ)=>Vs.toArray[((0:ĵ)+(k:ĵ)*1).toNat]?)=λk=>Vs.toArray[0+k]?:=by
   funext k;have:((0:ĵ)+(k:ĵ)*1).toNat=0+k:=by rw[Int.mul_one,Int.zero_add,iG];rfl
   rw[this]
  rw[e];have:=pick_run Vs.toArray 0<|Vs.length-1;rw[List.filterMap_map]at this;have a8:((λx=>Vs.toArray[x]?)∘λx=>0+x)=λk=>Vs.toArray[0+k]?:=rfl;rw[a8]at this;rw[this,BS];simp
 rw[bt Dx,k1];first
  |exact bc (m:=Builtin.Tuple.tupleExact _) (vd (b1 ⟨_,rfl,b1 h⟩) xE)
  |exact bc (m:=Builtin.Tuple.tupleExact _) (vd (bc (b1 (b1 ⟨_,rfl,b1 h⟩))) xE)
  |exact bc (bc (m:=Builtin.Tuple.tupleExact _) (vd (b1 (b1 ⟨_,rfl,b1 h⟩)) xE))
  |exact bc (bc (m:=Builtin.Tuple.tupleExact _) (vd (b1 ⟨_,rfl,b1 h⟩) xE))
theorem Og{w:World}{prog:Program}{O:Ę->Qj->Prop}{s:Qj}{t aL:Addr}{Vs:Lm Ę}{u:Tok}{Q:Ę->Qj->Prop}(dU:IsTup s.heap t Vs.toArray)(aM:s.heap.IsSliceOf aL (.int 0 u) .none .none)(h:Q (.ref t) s):wpAny (model prog w) A (getItem (.ref t)<|.ref aL) Q O s:=by
 obtain⟨os,sW,jg,jG⟩:=id aM;have SW:s.TypeIs (.ref aL) "slice":=⟨os,sW,jg⟩;unfold getItem;try with_reducible refine gU ?_
 first|refine bc (b1 ?_)|skip
 refine bc<|uU dU.typeIs (by decide) ?_;refine bc<|sf (name:=Str.ofString "__getitem__") dU.typeIs rv<|mH rv dU.typeIs entry_tuple_getitem ?_<|args_tuple_getitem _ _;show wpAny _ _ (Builtin.Tuple.tupleItemsOf (.ref t)>>=_) _ _ s;refine bc<|tupleItemsOf_ dU<|bc<|wpAny_typeOf SW ?_;rw[bl<|by decide];refine bc<|sliceApplied_from (a:=0) aM (f7 _) ?_;show wpAny _ _ (if(((0:Ĵ):ĵ)==0&&(1:ĵ)==1&&(Vs.toArray.size-0)==Vs.toArray.size)=true then _ else _) _ _ s;rw[bl<|by simp];refine bc (m:=Builtin.Tuple.tupleIsExact _) ?_;unfold Builtin.Tuple.tupleIsExact;refine bc<|wpAny_typeOf dU.typeIs<|b1 ?_;show wpAny _ _ (if(Value.type "tuple"==Value.type "tuple")=true then _ else _) _ _ s;rw[bl<|by decide];first
  |exact bc (r9 (b1 ⟨_,rfl,b1 h⟩))
  |exact bc (r9 (bc (b1 (b1 ⟨_,rfl,b1 h⟩))))
theorem V8{lo up st:Ĳ ĳ}{p:Pos}{o i:Ę}:∃ops,subscripted (.Slice lo up st p) false o i=operate ops (getItem o i):=by induction st<;>exact⟨_,rfl⟩
noncomputable abbrev zx (a b d:Ę):Obj:={cls:=.type "slice",data:=.fields #[a,b,d]}
theorem oH{P:Params}{C:aY}{l:Lm B}{aX:Ę}(h:bz P C (.tup l) aX):dD λa Vs n=>hP (aX=.ref a) (C a=.a4 (d9 Vs.toArray n)) (bB P C l Vs) (l.length<=a3):=h.of
theorem oT{P:Params}{C:aY}{l:Lm B}{aX:Ę}(h:bz P C (.lst l) aX):dD λa Vs n=>hP (aX=.ref a) (C a=.a4 (cw Vs.toArray n)) (bB P C l Vs) (l.length<=a3):=h.of
theorem bB.dropLast{P:Params}{C:aY}{l:Lm B}{Vs:Lm Ę}(h:bB P C l Vs):bB P C l.dropLast Vs.dropLast:=by rw[BS,BS,h.length];exact h.take _
def Made(c:cb)(C:aY)(J:St)(s:Qj)(v:B)(V:Ę)(aq:Qj):Prop:=∃aP,dY (c.I aP J aq) (bq C s aP aq)<|bz c.P aP v V
theorem R4{O:Ę->Qj->Prop}{s:Qj}{C:aY}{J:St}{o v:B}{aX mI vx t':Ę}{aL:Addr}{a b d:Ĳ ĵ}{Q:Ę->Qj->Prop}(I:c.I C J s)(dW:bz c.P C o aX)(aM:s.heap.IsSliceOf aL mI vx t')(s2:IsPart mI a)(tf:IsPart vx b)(pw:IsPart t' d)(e:qX o a b d=some v)(h:∀V aq,Made c C J s v V aq->Q V aq):ee λT id=>dY (s.TypeIs aX T) (typeLookup (.type T) "__getitem__"=pure (some<|.builtin id)) (wpAny c.M A (getItem aX<|.ref aL) Q O s):=by
 induction o using B.casesOn with
 |tup l=>
  obtain⟨t,Vs,m,rfl,G,E,aB⟩:=oH dW;clear dW;have ah:=E.length;have fV:IsTup s.heap t Vs.toArray:=⟨_,I.a4 _ _ G,rfl,m,rfl⟩;have fin:∀{bC:Lm Ę} {dh:Lm B},bB c.P C dh bC->dh.length<=a3->Made c C J s (.tup dh) (.ref s.heap.objs.size) {s with heap:=s.heap.push (d9 bC.toArray 0)}:=λ{bC dh} r q=>⟨_,I.push (d9 bC.toArray 0) rfl _<|.inl rfl,bq.push I (d9 bC.toArray 0)<|.a4<|d9 bC.toArray 0,.tup (c3 _ _ _) ((bq.push I (d9 bC.toArray 0)<|.a4<|d9 bC.toArray 0).iQ I r) q⟩;refine⟨_,_,⟨_,I.a4 _ _ G,rfl⟩,rv.lookup,?_⟩;induction d with
  |some=>exact b4 e
  |none=>
   cases pw;induction b with
   |none=>
    cases tf;induction a with
    |none=>exact b4 e
    |some i=>
     induction i with
     |negSucc=>exact b4 e
     |ofNat n=>obtain⟨am,e⟩:=hj<|show(if 1<=n/\n<=l.length then some (B.tup<|l.drop n)else none)=some v from e;cases e;cases s2 with|int _ u=>exact getItem_tuple_from (a:=n) (items:=Vs.toArray) fV aM am.1 (by rw[eo,ah];exact am.2) (h _ _<|fin (E.drop n)<|by rw[u1];exact aJ (tn _ _) aB) (by rw[eo,ah];exact aB)
   |some j=>
    induction a with
    |some=>exact b4 e
    |none=>
     induction j with
     |ofNat=>exact b4 e
     |negSucc n=>
      induction n with
      |succ=>exact b4 e
      |zero=>
       cases s2;induction l using List.casesOn with
       |nil=>exact b4 e
       |cons x l=>
        cases e;cases tf with|int _ u=>
        exact MQ (Vs:=Vs) (n:=0) fV aM (by rw[ah];exact oG _) (h _ _<|fin E.dropLast<|by rw[Jx];exact aJ (tn _ _) aB) (by rw[ah];exact aB)
 |lst l=>
  obtain⟨t,Vs,m,rfl,G,E,aB⟩:=oT dW;clear dW;have ah:=E.length;have fV:=hW<|I.a4 _ _ G;have fin:∀{bC:Lm Ę} {dh:Lm B},bB c.P C dh bC->dh.length<=a3->Made c C J s (.lst dh) (.ref s.heap.objs.size) {s with heap:=s.heap.push (cw bC.toArray 0)}:=λ{bC dh} r q=>⟨_,I.push (cw bC.toArray 0) rfl _<|.inl rfl,bq.push I (cw bC.toArray 0)<|.a4<|cw bC.toArray 0,.lst (c3 _ _ _) ((bq.push I (cw bC.toArray 0)<|.a4<|cw bC.toArray 0).iQ I r) q⟩;refine⟨_,_,⟨_,I.a4 _ _ G,rfl⟩,slot_list_getitem.lookup,?_⟩;induction a with
  |some=>exact b4 e
  |none=>
   induction d with
   |none=>
    induction b with
    |none=>exact b4 e
    |some i=>
     induction i with
     |negSucc=>exact b4 e
     |ofNat n=>
      cases e;refine KU fV aM s2 tf pw (by cases pw;exact λq=>nomatch q) ?_ (by rw[eo,ah];exact aB);rw[kms_pick_eq,show kms_pick Vs.toArray.toList none (some<|Int.ofNat n)=Vs.take n from ?_]
      .exact h _ _ (fin (E.take n)<|by rw[xI];exact aJ (Nat.min_le_right _ _) aB)
      .unfold kms_pick kms_lo kms_hi;simp only[bt<|show¬(Int.ofNat n<0)from Es.mpr<|nt n,AY,CZ];rw[show(Int.ofNat n).toNat=n from rfl];by_cases q:n<=Vs.length
       .rw[Nat.min_eq_left q]
       .rw[Nat.min_eq_right (by omega),List.take_length,sG<|by omega]
   |some j=>
    induction b with
    |some=>exact b4 e
    |none=>
     induction j with
     |ofNat=>exact b4 e
     |negSucc n=>
      induction n with
      |succ=>exact b4 e
      |zero=>cases e;refine KU fV aM s2 tf pw (λq=>nomatch q) ?_ (by rw[eo,ah];exact aB);rw[show(some<|Int.negSucc 0)=some (-1)from rfl,krv_pick];exact h _ _ (fin E.reverse<|by rw[JC];exact aB)
 |_=>exact b4 e
theorem V3{e:ĳ}{lo up st:Ĳ ĳ}{a b d:Ĳ ĵ}{p pos:Pos}{e':dm}(go:Good c A e e')(Yz:qA c A lo a)(lm:qA c A up b)(vQ:qA c A st d):Good c A (.Subscript e (.Slice lo up st p) pos) λr J K=>e' r J (Hs a b d K):=by intro O s ac C r J k K Q I F ag h;refine Subscript_<|go.use I F ag λo db e aX bL bs a0 bU bn dW=>ax.dr e λz fv e=>wpAny_Slice<|Yz.use a0 bU λmI cn b7 cd eb bK s2=>lm.use cd eb λvx kk f' fR jN fs tf=>vQ.use fR jN λt' xZ iE hG m4 kL pw=>?_;have K':=((bK.trans fs).trans kL).trans<|bq.push hG (zx mI vx t') .ext;obtain⟨ops,Û⟩:=V8 (lo:=lo) (up:=up) (st:=st) (p:=p) (o:=aX) (i:=.ref iE.heap.objs.size);obtain⟨T,id,jf,ah,d5⟩:=R4 (A:=A) (O:=O) (hG.push (zx mI vx t') rfl .ext<|.inr rfl) (K'.hn a0 dW) (A8 ..) s2 tf pw fv λV aq ⟨aP,dk,ez,co⟩=>h _ _ e V aP aq dk ((bn.trans K').trans ez) co;exact tail_any jf ah d5 Û
theorem qG.dr{o k:B}{f:B->Prop}{cX:Prop}(h:qG o k f)(q:∀l n,o=.tup l->k=.int (.ofNat n)->n<=l.length->f (.tup<|l.drop n)->cX):cX:=by
 induction o using B.casesOn with
 |tup l=>induction k using B.casesOn with
  |int i=>induction i with
   |ofNat n=>exact q l n rfl rfl h.1 h.2
   |negSucc=>exact False.elim h
  |_=>exact False.elim h
 |_=>exact False.elim h
theorem Xd{e i:ĳ}{p pos:Pos}{e' nw:dm}(go:Good c A e e')(gF:Good c A i nw):Good c A (.Subscript e (.Slice (some i) none none p) pos) λr J K=>e' r J (hD nw r<|LW K):=by
 intro O s ac C r J k K Q I F ag h;refine Subscript_<|go.use I F ag λo db e aX bL bs a0 bU bn dW=>wpAny_Slice ?_;rw[evalPart_some,evalPart_none];refine gF.use a0 bU e λbW dZ e V cn b7 cd eb bK ab=>b1<|b1<|qG.dr e λl n BJ yi am e=>?_;rw[yi]at ab;rw[BJ]at dW;obtain⟨u,rfl⟩:=ab.of;have lv:=cd.push (zx (.int (Int.ofNat n) u) .none .none) rfl .ext<|.inr rfl;have hE:=bK.trans<|bq.push cd (zx (.int (Int.ofNat n) u) .none .none) .ext;obtain⟨t,Vs,m,rfl,G,E,aB⟩:=oH<|hE.hn a0 dW;replace hE:=bn.trans hE;have ah:=E.length;have jf:IsTup _ t Vs.toArray:=⟨_,lv.a4 _ _ G,rfl,m,rfl⟩;refine tail_any (ops:=[.ref b7.heap.objs.size,.ref t]) (id:="tuple.__getitem__") jf.typeIs rv.lookup ?_ rfl;induction n with
 |zero=>exact Og jf (A8 ..)<|h _ _ e _ _ _ lv hE<|.tup G E aB
 |succ n=>refine getItem_tuple_from (a:=n+1) jf (A8 ..) (oG _) (by rw[eo,ah];exact am) ?_ (by rw[eo,ah];exact aB);have nT:=bq.push lv (d9 (Vs.drop<|n+1).toArray 0)<|.a4<|d9 (Vs.drop<|n+1).toArray 0;exact h _ _ e _ _ _ (lv.push (d9 (Vs.drop<|n+1).toArray 0) rfl _<|.inl rfl) (hE.trans nT) (.tup (c3 _ _ _) (nT.iQ lv<|E.drop<|n+1)<|by rw[u1];exact aJ (tn _ _) aB)
theorem r5{f:ĵ->ĵ->Ĳ B}{C:aY}{x y z:B}{V W:Ę}(af:bz c.P C x V)(bF:bz c.P C y W)(e:rE f x y=some z):gV λa b t u=>dY (V=.int a t) (W=.int b u) (f a b=some z):=by replace e:=fQ.of e;obtain⟨a,rfl,e⟩:=e;replace e:=fQ.of e;obtain⟨b,rfl,e⟩:=e;obtain⟨t,rfl⟩:=af.of;obtain⟨u,rfl⟩:=bF.of;exact⟨a,b,t,u,rfl,rfl,e⟩
theorem On:qb c A .add:=by
 intro O s C J x y V W z Q I af bF e h;replace e:=Db<|show(if x.ctorIdx=2 then _ else _)=some z from e;rcases e with e|e
 .obtain⟨a,b,t,u,rfl,rfl,e⟩:=r5 af bF e;cases e;exact PySem.P.add_int<|h _ C _ (I.toks _) (bq.toks C s _)<|.int _ _
 replace e:=Db e;rcases e with e|e
 .replace e:=ta.of e;obtain⟨k,rfl,e⟩:=e;replace e:=ta.of e;obtain⟨l,rfl,e⟩:=e;induction e_:k.isEmpty||l.isEmpty with
  |true=>rw[e_]at e;exact b4 e
  |false=>
   rw[e_]at e;obtain⟨ap,rfl⟩:=vk e;clear e;obtain⟨a,Vs,n,rfl,G,E,aB⟩:=oH af;clear af;obtain⟨b,bC,m,rfl,ba,cO,d2⟩:=oH bF;clear bF;replace e_:=pR.mp e_;have bK:=bq.push I (d9 (Vs++bC).toArray 0)<|.a4<|d9 (Vs++bC).toArray 0;have ne:∀{k:Lm B} {Vs:Lm Ę},bB c.P C k Vs->k.isEmpty=false->¬Vs.toArray.isEmpty=true:=λh aE q=>by have:=h.isEmpty;rw[aE,q]at this;exact cq this
   refine PySem.P.add_tuple (I.a4 _ _ G) (I.a4 _ _ ba) (ne E e_.1) (ne cO e_.2) ?_ ?_
   .rw[show Vs.toArray++bC.toArray=(Vs++bC).toArray by simp];exact h _ _ _ (I.push (d9 (Vs++bC).toArray 0) rfl _<|.inl rfl) bK (.tup (c3 _ _ _) (bK.iQ I<|E.append cO)<|by rw[c_];exact ap)
   .simp[E.length,cO.length];exact ap
 .replace e:=lI.of e;obtain⟨k,rfl,e⟩:=e;replace e:=lI.of e;obtain⟨l,rfl,e⟩:=e;obtain⟨ap,rfl⟩:=vk e;clear e;obtain⟨a,Vs,n,rfl,G,E,aB⟩:=oT af;clear af;obtain⟨b,bC,m,rfl,ba,cO,d2⟩:=oT bF;clear bF;have bK:=bq.push I (cw (Vs++bC).toArray 0)<|.a4<|cw (Vs++bC).toArray 0;refine PySem.P.add_list (I.a4 _ _ G) (I.a4 _ _ ba) ?_ ?_
  .rw[show Vs.toArray++bC.toArray=(Vs++bC).toArray by simp];exact h _ _ _ (I.push (cw (Vs++bC).toArray 0) rfl _<|.inl rfl) bK (.lst (c3 _ _ _) (bK.iQ I<|E.append cO)<|by rw[c_];exact ap)
  .simp[E.length,cO.length];exact ap
theorem Xz:qb c A .sub:=by intro O s C J x y V W z Q I af bF e h;obtain⟨a,b,t,u,rfl,rfl,e⟩:=r5 af bF e;cases e;exact PySem.P.sub_int<|h _ C _ (I.toks _) (bq.toks C s _)<|.int _ _
theorem v4{i:ĵ}:small i=true↔-536870912<=i/\i<=536870912:=by unfold small;simp
theorem Ds{i:ĵ}(h:small i=true):i.natAbs<=536870912:=by
 have h:=v4.mp h;induction i with
 |ofNat n=>exact ud.mp h.2
 |negSucc n=>have h:=Int.neg_le_neg h.1;rw[Int.neg_neg]at h;exact ud.mp h
theorem Us{i:ĵ}(h:small i=true):Builtin.Int.intBits i<=64:=by
 unfold Builtin.Int.intBits;split
 .exact aH rfl
 .rename_i q;have am:i.natAbs≠0:=λfd=>q (by rw[Int.natAbs_eq_zero.mp fd];rfl);exact aJ ((Nat.log2_lt am).mpr<|hN (Ds h) (jC rfl:536870912<2^31))<|aH rfl
theorem bB.mn{P:Params}{C:aY}{l:Lm B}{Vs:Lm Ę}(h:bB P C l Vs):∀n,bB P C (mn n l) (List.replicate n Vs).flatten
 |0=>.nil
 |n+1=>by rw[Hl,List.flatten_cons];exact h.append<|bB.mn h n
theorem GJ{l:Lm aC}:∀n,(mn n l).length=n*l.length
 |0=>by simp[mn]
 |n+1=>by rw[mn,c_,GJ n,Nat.succ_mul,qh]
theorem Sk:qb c A .mul:=by
 intro O s C J x y V W z Q I af bF e h;replace e:=Db<|show(if x.ctorIdx=2 then _ else _)=some z from e;rcases e with e|e
 .obtain⟨a,b,t,u,rfl,rfl,e⟩:=r5 af bF e;obtain⟨aM,e⟩:=hj e;rw[eW]at aM;cases e;exact PySem.P.mul_int (h _ C _ (I.toks _) (bq.toks C s _)<|.int _ _)<|IntMulOk.of_left<|Us aM.1
 .replace e:=lI.of e;obtain⟨l,rfl,e⟩:=e;replace e:=fQ.of e;obtain⟨x,rfl,e⟩:=e;obtain⟨Q6,e⟩:=hj e;have ğ:=v4.mp Q6;obtain⟨ap,rfl⟩:=vk e;clear e;obtain⟨a,Vs,n,rfl,G,E,aB⟩:=oT af;clear af;obtain⟨u,rfl⟩:=bF.of;have az:=I.a4 _ _ G;have hsz:Vs.toArray.size*x.toNat<=16777216:=by rw[eo,E.length,Nat.mul_comm];exact(ap:x.toNat*l.length<=16777216)
  have i6:Builtin.List.listFitsIndex x=true:=by
   by_cases q:0<=x
   .exact fitsIndex_of q (by omega)
   .exact fitsIndex_neg (by omega) (by omega)
  refine wpAny_binaryOp_repeat_ref (T:="list") (U:="int") (by decide:(Value.type "list"==Value.type "int")=false) ⟨_,az,rfl⟩ (λaq=>typeIs_int aq x u) noFill_list_mul F.fills_int_mul F.slot_int_rmul repeat_list F.slot_int_index.lookup<|call_meets F.slot_int_rmul (typeIs_int s x u) F.entry_int_rmul (F.args_int_rmul_2 _ _) (int___rmul___int_list x u a Vs.toArray n) ⟨az,rfl,⟨_,az,rfl⟩,call_meets F.slot_list_mul ⟨_,az,rfl⟩ F.entry_list_mul (F.args_list_mul_2 _ _) (AutoListH.list___mul___list_int_3 a Vs.toArray n x u (by rw[i6];decide) (rz.mpr<|aJ hsz<|by decide)<|λq=>absurd (fz q)<|rz.mpr<|show _<=sizeLine from hsz) ⟨az,?_⟩⟩;have bm:(List.foldl (λln h'=>ln++h') #[] (List.replicate (if Vs.toArray.isEmpty=true then 0 else x.toNat) Vs.toArray))=(List.replicate x.toNat Vs).flatten.toArray:=by rw[listMul_foldl];induction Vs<;>simp
  have bK:=bq.push I (cw (List.replicate x.toNat Vs).flatten.toArray 0)<|.a4<|cw (List.replicate x.toNat Vs).flatten.toArray 0;have:=h _ _ _ (I.push (cw (List.replicate x.toNat Vs).flatten.toArray 0) rfl _<|.inl rfl) bK (.lst (c3 _ _ _) (bK.iQ I<|E.mn x.toNat)<|by rw[GJ];exact ap);rw[<-bm]at this;exact this
theorem XH:qb c A .fdiv:=by intro O s C J x y V W z Q I af bF e h;obtain⟨a,b,t,u,rfl,rfl,e⟩:=r5 af bF e;obtain⟨aM,e⟩:=hj e;rw[eW]at aM;cases e;have av:=v4.mp aM.2.2;exact PyProof.Rows.floordiv_int aM.1 (h _ C _ (I.toks _) (bq.toks C s _)<|.int _ _)<|.inl<|PyProof.noPylong_small<|hN (Ds aM.2.2)<|jC rfl
theorem T5:qb c A .mod:=by
 intro O s C J x y V W z Q I af bF e h;obtain⟨a,b,t,u,rfl,rfl,e⟩:=r5 af bF e;replace e:(if b=0 then none else some (B.int<|Int.fmod a b))=some z:=e;by_cases aM:b=0
 .rw[bl aM]at e;exact b4 e
 .rw[bt aM]at e;cases e;exact PyProof.Rows.mod_int' aM<|h _ C _ (I.toks _) (bq.toks C s _)<|.int _ _
theorem Za:qb c A .band:=by
 intro O s C J x y V W z Q I af bF e h;obtain⟨a,b,t,u,rfl,rfl,e⟩:=r5 af bF e;induction a using Int.casesOn with
 |negSucc=>exact b4 e
 |ofNat a=>
  induction b using Int.casesOn with
  |negSucc=>exact b4 e
  |ofNat b=>
   cases e;refine PyProof.Rows.and_int ?_;have:Builtin.bitAnd (Int.ofNat a) (Int.ofNat b)=Int.ofNat (lb a b):=by unfold Builtin.bitAnd;simp[lb]
   rw[this];exact h _ C _ (I.toks _) (bq.toks C s _)<|.int _ _
def EQ(c:cb)(A:Around)(O:Ę->Qj->Prop)(s:Qj)(X cB:Ę)(t:Ģ):Prop:=(∀(Q:Ę->Qj->Prop),(∀k,Q (.bool t) {s with toks:=k})->wpAny c.M A (compareOp .In X cB) Q O s)/\(∀(Q:Ę->Qj->Prop),(∀k,Q (.bool !t) {s with toks:=k})->wpAny c.M A (compareOp .NotIn X cB) Q O s)
theorem FW(a5:A.units+40<cLine){O:Ę->Qj->Prop}{s:Qj}{C:aY}{J:St}{x:B}{X:Ę}{t:Ģ}(I:c.I C J s)(c8:bz c.P C x X){a:Addr}{l:Lm (B×B)}{es:Lm DictEntry}{n:Ĵ}(D:iw c C s a l es n)(aM:(a==sysModules)=false)(e:(if ej x l=true then(fh x l).map (·.isSome)else none)=some t):EQ c A O s X (.ref a) t:=by obtain⟨a7,e⟩:=hj e;obtain⟨r,ag,rfl⟩:=map_some e;exact⟨λQ h=>bc<|IY (iX ‹_›) I D aM a7 c8 ag λk=>b1<|h k,λQ h=>bc<|IY (iX ‹_›) I D aM a7 c8 ag λk=>b1<|h k⟩
theorem V7{O:Ę->Qj->Prop}{s:Qj}{P:Params}{C:aY}{x:B}{X:Ę}{l:bv}{u:Tok}{t:Ģ}(c8:bz P C x X)(e:Up.contains x (.str l)=some t):EQ c A O s X (.str ⟨l.toArray⟩ u) t:=by
 replace e:=lZ.of e;obtain⟨m,rfl,e⟩:=e;obtain⟨v,rfl,-⟩:=c8.of;induction m using List.casesOn with
 |nil=>exact b4 e
 |cons jB m=>
  induction m with
  |cons=>exact b4 e
  |nil=>
   cases e;have av:(!(Builtin.Str.occurrences ⟨l.toArray⟩ ⟨[jB].toArray⟩ 0 (Str.length ⟨l.toArray⟩) 1).isEmpty)=l.contains jB:=by refine(PySem.StrLaws.found_one ⟨l.toArray⟩ jB).trans ?_;simp[List.contains_eq_mem]
   exact⟨λQ h=>PySem.P.in_str (by rw[av];exact h s.toks),λQ h=>PySem.P.notIn_str<|by rw[av];exact h s.toks⟩
theorem KY(a5:A.units+40<cLine)(e1:∃o,c.H.get? sysModules=some o){O:Ę->Qj->Prop}{s:Qj}{C:aY}{J:St}{x y:B}{X cB:Ę}{t:Ģ}(I:c.I C J s)(c8:bz c.P C x X)(jx:gr c.P C s.heap y cB)(e:pT J x y=some t):EQ c A O s X cB t:=by
 induction y using B.casesOn with
 |ref n=>
  obtain⟨cp,aM,e⟩:=bind_some<|show(J[n]?).bind _=some t from e;induction cp using dd.casesOn with
  |cN l=>obtain⟨a,es,m,rfl,bm,D⟩:=CU I jx.ref aM;exact FW a5 I c8 D (CO I e1<|by rw[bm];trivial) e
  |_=>exact b4 e
 |a9 l=>obtain⟨a,es,m,rfl,D,aM⟩:=sL I e1 jx;exact FW a5 I c8 D aM e
 |tup l=>obtain⟨a,Vs,n,rfl,-,E,aB,-⟩:=CK I jx;obtain⟨dA,rfl⟩:=Du (A:=A) (c8.af I) (iX ‹_›) (aB.af I) e;exact⟨λQ h=>in_tupleAt (nk s.heap x) (gv E) (λcB h=>dA cB<|nn.mp h) (by simpa using h s.toks),λQ h=>notIn_tupleAt (nk s.heap x) (gv E) (λcB h=>dA cB<|nn.mp h)<|by simpa using h s.toks⟩
 |lst l=>obtain⟨a,Vs,n,rfl,E,aB,-⟩:=AP I jx;obtain⟨dA,rfl⟩:=Du (A:=A) (c8.af I) (iX ‹_›) (aB.af I) e;exact⟨λQ h=>in_listAt (nk s.heap x) (hW E) (λcB h=>dA cB<|nn.mp h) (by simpa using h s.toks),λQ h=>notIn_listAt (nk s.heap x) (hW E) (λcB h=>dA cB<|nn.mp h)<|by simpa using h s.toks⟩
 |str l=>obtain⟨u,rfl,ap⟩:=z0 jx;exact V7 c8 e
 |_=>exact b4 e
theorem Pj(a5:A.units+40<cLine)(e1:∃o,c.H.get? sysModules=some o):lD c A .isin:=by intro O s C J x y V W t Q I af bF e h;exact(KY a5 e1 I af bF e).1 Q h
theorem S9(a5:A.units+40<cLine)(e1:∃o,c.H.get? sysModules=some o):lD c A .f5:=by intro O s C J x y V W t Q I af bF e h;obtain⟨b,ag,a8⟩:=map_some<|show(pT J x y).map (!·)=some t from e;subst a8;exact(KY a5 e1 I af bF ag).2 Q h
theorem zD(a5:A.units+40<cLine)(e1:∃o,c.H.get? sysModules=some o)(o:lH):lD c A o:=by
 induction o with
 |eq=>exact NU<|iX ‹_›
 |ne=>exact MI<|iX ‹_›
 |lt=>exact Ø
 |le=>exact XT
 |gt=>exact Y0
 |ge=>exact Q'
 |isin=>exact Pj a5 e1
 |f5=>exact S9 a5 e1
 |is=>exact Nf
 |p_=>exact Tj
theorem XI(o:qo):qb c A o:=by
 induction o with
 |add=>exact On
 |sub=>exact Xz
 |mul=>exact Sk
 |fdiv=>exact XH
 |mod=>exact T5
 |band=>exact Za
def yo (n:String):Ģ:= !(["enumerate","zip","dict_itemiterator","dict_reverseitemiterator","odict_iterator","itertools.zip_longest","itertools.pairwise"].contains n)
structure nV(c:cb)(C:aY)(bM:List B)(X:Value)(I:Addr)(ga:List Addr)(P:Nat->Value->Prop)(St:Nat->Heap->Prop):Prop where
 W:∀A:Around,A.handled=none->Walks c.prog c.w A I ga [I] bM.length P St
 D9:∀b∈ga,b=I\/X=.ref b
 vals:∀i v,i<bM.length->P i v->∃x,bM[i]?=some x/\bz c.P C x v
 oR:∀i h,St i h->dD λo n vs=>hP (h.get? I=some o) (o.cls=.type n) (o.data=.fields vs)<|yo n=true
section
variable{c:cb}{A:Around}{O:Ę->Qj->Prop}{s:Qj}{C:aY}{J:St}
theorem bB.get'{P:Params}{C:aY}{l:Lm B}{Vs:Lm Ę}(h:bB P C l Vs){i:Ĵ}{V:Ę}(e:Vs[i]?=some V):∃v,l[i]?=some v/\bz P C v V:=by have aA:=(hb.mp e).1;obtain⟨CB,ag,a8⟩:=h.get (i:=i) (v:=l[i]'(by rw[<-h.length];exact aA))<|fl _;rw[e]at ag;cases ag;exact⟨_,fl _,a8⟩
theorem þ{a:Addr}{Vs:Lm Ę}{n:Ĵ}{l:Lm B}{Q:Ę->Qj->Prop}(az:s.heap.get? a=some (cw Vs.toArray n))(af:bB c.P C l Vs)(eP:∀o ga P St,nV c C l (.ref a) s.heap.objs.size ga P St->o.isFreed=false->St 0 (s.heap.push o)->Q (.ref s.heap.objs.size) {s with heap:=s.heap.push o}):wpAny c.M A (pyIter<|.ref a) Q O s:=by
 refine wpAny_pyIter_list (hW az)<|eP _ [s.heap.objs.size,a] (λi v=>Vs.toArray[i]?=some v) (λi h=>h.IsListIter s.heap.objs.size a i/\h.IsList a Vs.toArray) ⟨λjp eX=>?_,λb av=>?_,λi v aA ae=>af.get' (i:=i) (V:=v) ?_,λi h st=>?_⟩ rfl ?_
 .have:=Walks.list (prog:=c.prog) (w:=c.w) eX s.heap.objs.size a (gG<|j_ az) Vs.toArray;rwa[show Vs.toArray.size=l.length by rw[eo,af.length]]at this
 .simp at av;rcases av with rfl|rfl<;>simp
 .simpa using ae
 .obtain⟨⟨o,az,ap,bg⟩,-⟩:=st;exact⟨o,_,_,az,ap,bg,by decide⟩
 .exact⟨⟨_,gO _ rfl,rfl,rfl⟩,_,ih _ az,rfl,n,rfl⟩
theorem Ub{a:Addr}{Vs:Lm Ę}{n:Ĵ}{l:Lm B}{Q:Ę->Qj->Prop}(az:s.heap.get? a=some (d9 Vs.toArray n))(af:bB c.P C l Vs)(eP:∀o ga P St,nV c C l (.ref a) s.heap.objs.size ga P St->o.isFreed=false->St 0 (s.heap.push o)->Q (.ref s.heap.objs.size) {s with heap:=s.heap.push o}):wpAny c.M A (pyIter<|.ref a) Q O s:=by
 refine wpAny_pyIter_tuple (gv az)<|eP _ [s.heap.objs.size,a] (λi v=>Vs.toArray[i]?=some v) (λi h=>h.IsTupleIter s.heap.objs.size a i/\h.IsTuple a Vs.toArray) ⟨λjp eX=>?_,λb av=>?_,λi v aA ae=>af.get' (i:=i) (V:=v) ?_,λi h st=>?_⟩ rfl ?_
 .have:=Walks.tuple (prog:=c.prog) (w:=c.w) eX s.heap.objs.size a (gG<|j_ az) Vs.toArray;rwa[show Vs.toArray.size=l.length by rw[eo,af.length]]at this
 .simp at av;rcases av with rfl|rfl<;>simp
 .simpa using ae
 .obtain⟨⟨o,az,ap,bg⟩,-⟩:=st;exact⟨o,_,_,az,ap,bg,by decide⟩
 .exact⟨⟨_,gO _ rfl,rfl,rfl⟩,_,ih _ az,rfl,n,rfl⟩
theorem NM{l:bv}{t:Tok}{Q:Ę->Qj->Prop}(eP:∀o ga P St,nV c C (l.map λjB=>.str [jB]) (.str ⟨l.toArray⟩ t) s.heap.objs.size ga P St->o.isFreed=false->St 0 (s.heap.push o)->Q (.ref s.heap.objs.size) {s with heap:=s.heap.push o}):wpAny c.M A (pyIter<|.str ⟨l.toArray⟩ t) Q O s:=by
 have vals:∀i v,i<(l.map λjB=>B.str [jB]).length->SignAt ⟨l.toArray⟩ i v->∃x,(l.map λjB=>B.str [jB])[i]?=some x/\bz c.P C x v:=by rintro i v-⟨jB,u,G,rfl⟩;exact⟨.str [jB],by rw[gS];simp at G;rw[G];rfl,.str [jB] u<|by show 1<=a3;decide⟩
 induction ak:(⟨l.toArray⟩:Str).cps.all (· <128)
 .refine wpAny_pyIter_wide ak<|eP _ [s.heap.objs.size] (SignAt ⟨l.toArray⟩) (λi h=>h.IsStrIter s.heap.objs.size "str_iterator" ⟨l.toArray⟩ t i) ⟨λjp eX=>?_,λb av=>?_,vals,λi h st=>?_⟩ rfl ?_
  .have:=Walks.strWide (prog:=c.prog) (w:=c.w) eX s.heap.objs.size ⟨l.toArray⟩ t;rwa[show(⟨l.toArray⟩:Str).cps.size=(l.map λjB=>B.str [jB]).length by simp]at this
  .simp at av;exact .inl av
  .obtain⟨o,az,ap,bg⟩:=st;exact⟨o,_,_,az,ap,bg,by decide⟩
  .exact⟨_,gO _ rfl,rfl,rfl⟩
 .refine wpAny_pyIter_ascii ak<|eP _ [s.heap.objs.size] (SignAt ⟨l.toArray⟩) (λi h=>h.IsStrIter s.heap.objs.size "str_ascii_iterator" ⟨l.toArray⟩ t i) ⟨λjp eX=>?_,λb av=>?_,vals,λi h st=>?_⟩ rfl ?_
  .have:=Walks.strAscii (prog:=c.prog) (w:=c.w) eX s.heap.objs.size ⟨l.toArray⟩ t;rwa[show(⟨l.toArray⟩:Str).cps.size=(l.map λjB=>B.str [jB]).length by simp]at this
  .simp at av;exact .inl av
  .obtain⟨o,az,ap,bg⟩:=st;exact⟨o,_,_,az,ap,bg,by decide⟩
  .exact⟨_,gO _ rfl,rfl,rfl⟩
theorem ÿ{a b:ĵ}{x:Addr}{t u v:Tok}{Q:Ę->Qj->Prop}(az:s.heap.get? x=some (oL a b t u v))(ak:small a=true)(av:small b=true)(eP:∀o ga P St,nV c C ((List.range (b-a).toNat).map λ(i:Ĵ)=>B.int<|a+Int.ofNat i) (.ref x) s.heap.objs.size ga P St->o.isFreed=false->St 0 (s.heap.push o)->Q (.ref s.heap.objs.size) {s with heap:=s.heap.push o}):wpAny c.M A (pyIter<|.ref x) Q O s:=by
 have l8:=v4.mp ak;have l5:=v4.mp av;have hsz:Builtin.Range.rangeSize a b 1=((b-a).toNat:Ĵ):=by
  unfold Builtin.Range.rangeSize;by_cases q:a<b
  .rw[bl (show(1:ĵ)>0 from by decide),bl q,Int.ediv_one,Gb,Int.toNat_of_nonneg<|Int.sub_nonneg_of_le<|Eo q]
  .rw[bl (show(1:ĵ)>0 from by decide),bt q,Int.toNat_of_nonpos<|Int.sub_nonpos_of_le<|Es.mp q];rfl
 have m3:∀{z:ĵ},-4000000000<=z->z<=4000000000->Builtin.Range.rangeFitsLong z=true:=by intro z G E;unfold Builtin.Range.rangeFitsLong;rw[eW,jD,jD];omega
 have dx:∀{z:ĵ},-536870912<=z/\z<=536870912->-4000000000<=z/\z<=4000000000:=λh=>⟨wz (by decide) h.1,wz h.2<|by decide⟩;refine wpAny_pyIter_range (t:=t) (u:=u) (v:=v) az ?_<|eP _ [s.heap.objs.size] (λi v=>∃t,v=.int (a+i*1) t) (λi h=>IsRangeIter h s.heap.objs.size (a+(i:Ĵ)*1) (((b-a).toNat:ĵ)-(i:Ĵ)) 1) ⟨λjp eX=>?_,λb av=>?_,λi v aA ae=>?_,λi h st=>?_⟩ rfl ?_
 .unfold Builtin.Range.small;rw[m3 (dx l8).1 (dx l8).2,m3 (z:=b) (dx l5).1 (dx l5).2,show Builtin.Range.rangeFitsLong 1=true from rfl,hsz,m3 (z:=((b-a).toNat:Ĵ)) (by omega)<|by omega];simp only[Bool.and_self,DC,mx];right;rw[bl<|by decide];exact m3 (by omega) (by omega)
 .have:=Walks.range (prog:=c.prog) (w:=c.w) eX s.heap.objs.size a 1 (b-a).toNat;rwa[show((List.range (b-a).toNat).map λ(i:Ĵ)=>B.int<|a+Int.ofNat i).length=(b-a).toNat by simp]
 .simp at av;exact .inl av
 .obtain⟨t,rfl⟩:=ae;refine⟨.int<|a+Int.ofNat i,by rw[gS,LX (by simpa using aA:i<(b-a).toNat)];rfl,?_⟩;have:=bz.int (P:=c.P) (C:=C) (a+Int.ofNat i) t;rwa[show a+Int.ofNat i=a+(i:ĵ)*1 by simp]at this⊢
 .exact⟨_,_,_,st,rfl,rfl,by decide⟩
 .rw[hsz];show Heap.get? _ _=_;rw[gO _ rfl];simp[rawInt]
theorem F8{l:Lm (B×B)}{es:Lm DictEntry}:d8 c.P C l es->(∀e∈l,eG e.1=1)->∃eZ:Lm (ĵ×Ę),Pairs (PySem.intKind c.prog c.w) es eZ/\KeysOf (PySem.intKind c.prog c.w) es.toArray/\l.map (·.1)=eZ.map (λp=>.int p.1):=by
 refine d8.ind (M:=λl es=>(∀e∈l,eG e.1=1)->∃eZ:Lm (ĵ×Ę),Pairs (PySem.intKind c.prog c.w) es eZ/\KeysOf (PySem.intKind c.prog c.w) es.toArray/\l.map (·.1)=eZ.map (λp=>.int p.1)) (λ_=>⟨[],.nil,λe h=>(nomatch nn.mp h),rfl⟩) λ{k v K V l es} a b r ar h=>?_;obtain⟨eZ,G,E,aB⟩:=ar λe a6=>h e<|.tail _ a6;obtain⟨i,aA⟩:=Fd<|h _<|.head _;clear ar h b r;subst aA;cases a with|int _ t=>
 refine⟨(i,_)::eZ,.cons (jV i) rfl G,λe a6=>?_,bX (_::·) aB⟩;cases nn.mp a6 with
 |head=>exact⟨i,jV i,rfl⟩
 |tail _ a6=>exact E e<|nn.mpr a6
theorem Jf{l:Lm (B×B)}{es:Lm DictEntry}:d8 c.P C l es->(∀e∈l,eG e.1=2)->∃eZ:Lm (Str×Ę),Pairs (PySem.strKind c.prog c.w) es eZ/\KeysOf (PySem.strKind c.prog c.w) es.toArray/\l.map (·.1)=eZ.map (λp=>.str p.1.cps.toList)/\∀p∈eZ,p.1.cps.toList.length<=a3:=by
 refine d8.ind (M:=λl es=>(∀e∈l,eG e.1=2)->∃eZ:Lm (Str×Ę),Pairs (PySem.strKind c.prog c.w) es eZ/\KeysOf (PySem.strKind c.prog c.w) es.toArray/\l.map (·.1)=eZ.map (λp=>.str p.1.cps.toList)/\∀p∈eZ,p.1.cps.toList.length<=a3) (λ_=>⟨[],.nil,λe h=>(nomatch nn.mp h),rfl,λp h=>(nomatch h)⟩) λ{k v K V l es} a b r ar h=>?_;obtain⟨eZ,G,E,aB,ba⟩:=ar λe a6=>h e<|.tail _ a6;obtain⟨i,aA⟩:=MB<|h _<|.head _;clear ar h b r;subst aA;cases a with|str _ t ap=>
 refine⟨(⟨i.toArray⟩,_)::eZ,.cons (jV _) rfl G,λe a6=>?_,bX (_::·) aB,λp ae=>?_⟩
 .cases nn.mp a6 with
  |head=>exact⟨⟨i.toArray⟩,jV _,rfl⟩
  |tail _ a6=>exact E e<|nn.mpr a6
 .cases ae with
  |head=>exact ap
  |tail _ ae=>exact ba p ae
theorem zb{aC cC:Type}{f:aC->cC}{l:Lm aC}(h:(l.map f).Nodup):l.Nodup:=by
 induction l with
 |nil=>exact q1
 |cons a r ar=>rw[fx,hT]at h;rw[hT];exact⟨λaN=>h.1<|dn.mpr ⟨a,aN,rfl⟩,ar h.2⟩
theorem Si{d:Addr}{es:Lm DictEntry}{n:Ĵ}{l:Lm (B×B)}{Q:Ę->Qj->Prop}(D:iw c C s d l es n)(aM:(d==sysModules)=false)(aE:((l.all λe=>eG e.1==1)||(l.all λe=>eG e.1==2))=true)(eP:∀o ga P St,nV c C (l.map (·.1)) (.ref d) s.heap.objs.size ga P St->o.isFreed=false->St 0 (s.heap.push o)->Q (.ref s.heap.objs.size) {s with heap:=s.heap.push o}):wpAny c.M A (pyIter<|.ref d) Q O s:=by
 rw[mx]at aE;rcases aE with aE|aE
 .obtain⟨eZ,G,E,aB⟩:=F8 D.rel λe a6=>by simpa using d6.mp aE e a6
  have am:(eZ.map (·.1)).Nodup:=zb (f:=B.int) (by rw[f8];exact aB▸D.nodup);have b2:s.heap.DictAt (PySem.intKind c.prog c.w) d eZ n:=⟨_,_,D.at_,⟨rfl,rfl,rfl⟩,rfl,E,by simpa using G,am⟩;have dP:eZ.length=(l.map (·.1)).length:=by rw[aB,bR]
  refine wpAny_pyIter_dict aM b2<|eP _ [s.heap.objs.size,d] _ _ ⟨λjp eX=>dP▸Walks.dictKeys (knd:=PySem.intKind c.prog c.w) eX s.heap.objs.size d (gG b2.lt_size) eZ n,λb av=>?_,λi v aA ae=>?_,λi h st=>?_⟩ rfl ?_
  .simp at av;rcases av with rfl|rfl<;>simp
  .obtain⟨k,x,ay,i5⟩:=ae;refine⟨.int k,by rw[aB,gS,ay];rfl,?_⟩;obtain⟨t,rfl⟩:=Value.isInt_shape i5;clear i5;exact .int k t
  .obtain⟨⟨o,az,ap,bg⟩,-⟩:=st;exact⟨o,_,_,az,ap,bg,by decide⟩
  .rw[<-dP];exact⟨⟨_,gO _ rfl,rfl,rfl⟩,b2.push _⟩
 .obtain⟨eZ,G,E,aB,ba⟩:=Jf D.rel λe a6=>by simpa using d6.mp aE e a6
  have b2:s.heap.DictAt (PySem.strKind c.prog c.w) d eZ n:=⟨_,_,D.at_,⟨rfl,rfl,rfl⟩,rfl,E,by simpa using G,zb (f:=λx:Str=>B.str x.cps.toList)<|by rw[f8];exact aB▸D.nodup⟩;have dP:eZ.length=(l.map (·.1)).length:=by rw[aB,bR]
  refine wpAny_pyIter_dict aM b2<|eP _ [s.heap.objs.size,d] _ _ ⟨λjp eX=>dP▸Walks.dictKeys (knd:=PySem.strKind c.prog c.w) eX s.heap.objs.size d (gG b2.lt_size) eZ n,λb av=>?_,λi v aA ae=>?_,λi h st=>?_⟩ rfl ?_
  .simp at av;rcases av with rfl|rfl<;>simp
  .obtain⟨k,x,ay,i5⟩:=ae;refine⟨.str k.cps.toList,by rw[aB,gS,ay];rfl,?_⟩;obtain⟨t,rfl⟩:=Value.isStrOf_shape i5;clear i5;have:=bz.str (P:=c.P) (C:=C) k.cps.toList t<|ba (k,x)<|ib ay;rwa[show(⟨k.cps.toList.toArray⟩:Str)=k by induction k;simp]at this
  .obtain⟨⟨o,az,ap,bg⟩,-⟩:=st;exact⟨o,_,_,az,ap,bg,by decide⟩
  .rw[<-dP];exact⟨⟨_,gO _ rfl,rfl,rfl⟩,b2.push _⟩
theorem x9{x:B}{X:Ę}{bM:Lm B}{Q:Ę->Qj->Prop}(e1:∃o,c.H.get? sysModules=some o)(I:c.I C J s)(c8:gr c.P C s.heap x X)(e:items x=some bM)(eP:∀o ga P St,nV c C bM X s.heap.objs.size ga P St->o.isFreed=false->St 0 (s.heap.push o)->Q (.ref s.heap.objs.size) {s with heap:=s.heap.push o}):wpAny c.M A (pyIter X) Q O s:=by
 induction x using B.casesOn with
 |tup l=>cases e;obtain⟨a,Vs,n,rfl,-,E,aB,-⟩:=CK I c8;exact Ub E aB eP
 |lst l=>cases e;obtain⟨a,Vs,n,rfl,E,aB,-⟩:=AP I c8;exact þ E aB eP
 |str l=>cases e;obtain⟨t,rfl,-⟩:=z0 c8;clear c8;exact NM eP
 |a9 l=>obtain⟨aE,e⟩:=hj<|show(if((l.all λe=>eG e.1==1)||(l.all λe=>eG e.1==2))=true then some (l.map (·.1))else none)=some bM from e;cases e;obtain⟨a,es,n,rfl,D,aM⟩:=sL I e1 c8;exact Si D aM aE eP
 |eA a b=>cases e;obtain⟨x,t,u,w,rfl,G,E,aB,ba⟩:=c8.of;exact ÿ (I.a4 _ _ G) E aB eP
 |_=>exact b4 e
end
theorem nf{e:ĳ}{a':Lm ĳ}{ac:Env}{pos:Pos}(h:fF e=false):backTo pos (starEach (e::a') ac)=(false,eval e ac)::backTo pos (starEach a' ac):=by rw[t9 h];rfl
def oK(c:cb)(A:Around)(F:Ę)(f:St->B->Ĳ B):Prop:=∀O s C J v V z (Q:Ę->Qj->Prop),c.I C J s->bz c.P C v V->f J v=some z->zy c C s Q z J->wpAny c.M A (call F [V]) Q O s
theorem ZP{x:Str}{np pos:Pos}{e:ĳ}{w:dm}{f:St->B->Ĳ B}{F:Ę}(aX:c.Ok)(d5:c.cx x=true)(aN:c.gY x=none)(af:c.kh x=some F)(bg:(x==("__debug__":Str))=false)(aM:fF e=false)(g:Good c A e w)(kN:(∃id,F=.builtin id)\/∃T,F=.type T)(ap:oK c A F f):Good c A (.Call (.Name x np) [e] [] pos) λr J K=>w r J λv J=>lQ (f J v) K J:=by
 intro O s ac C r J k K Q I hr ag h;have fin:wpAny c.M A (eval e ac) (λV s=>wpAny c.M A (call F [V]) Q O s) O s:=g.use I hr ag λv db e V bL bs a0 bU bn af=>ax.dr e λz cZ e=>ap _ _ bL _ v V _ _ a0 af cZ λZ cn b7 cd bK hz=>h _ _ e Z cn b7 cd (bn.trans bK) hz;refine Call_name1 (by rw[t9 aM];rfl)<|wu aX I hr d5 aN af bg ?_;rcases kN with⟨id,rfl⟩|⟨T,rfl⟩
 .exact PySem.callWith_builtin1 fin
 .exact PySem.callWith_type1 fin
theorem Xe{O:Ę->Qj->Prop}{s:Qj}{C:aY}{d:Addr}{es:Lm DictEntry}{n:Ĵ}{l:Lm (B×B)}{Q:Ę->Qj->Prop}(bg:(d==sysModules)=false)(D:iw c C s d l es n)(h:Q (.int l.length<|s.toks+1) {s with toks:=s.toks+1+1}):wpAny c.M A (call (.builtin "len") [.ref d]) Q O s:=by
 have ah:=D.rel.length;have ap:l.length<=16777216:=D.a3;refine BE kind_len plain_len entry_len (args_len1 _) ?_;unfold Builtin.«len»;refine bc (m:=oneArg "len" _)<|b1 ?_;refine bc (m:=callSpecial? (.ref d)<|Str.ofString "__len__")<|sf (name:=Str.ofString "__len__") D.typeIs F.slot_dict_len<|mH F.slot_dict_len D.typeIs F.entry_dict_len ?_<|F.args_dict_len_1 _;show wpAny _ _ (dictSize d>>=_) _ _ s;unfold dictSize;refine bc<|bc<|wpAny_dictEntries D.at_ rfl<|b1 ?_;show wpAny _ _ (Builtin.Dict.pendingCount d>>=_) _ _ s;refine bc<|wpAny_pendingCount_other bg<|wpAny_ret_mkInt ?_;have a6:((es.toArray.size:Ĵ):ĵ)+((0:Ĵ):ĵ)=((l.length:Ĵ):ĵ):=by rw[eo,ah];simp
 rw[a6];refine bc<|gU<|b1<|bc<|wpAny_letGo ?_;show wpAny _ _ (if((l.length:Ĵ):ĵ)<0 then _ else _) _ _ _;rw[bt<|by omega];show wpAny _ _ (if((l.length:Ĵ):ĵ)>=2^63 then _ else _) _ _ _;rw[bt<|by omega];exact bc<|wpAny_mkInt<|b1 ⟨_,rfl,h⟩
theorem Rd(aX:c.Ok):oK c A (.builtin "len") (n3 .len):=by
 intro O s C J v V z Q I af e h;have len:∀{a:Addr} {l:Lm B} {Vs:Lm Ę} {m:Ĵ},s.heap.get? a=some (cw Vs.toArray m)->bB c.P C l Vs->l.length<=a3->z=.int l.length->wpAny c.M A (call (.builtin "len") [.ref a]) Q O s:=by rintro a l Vs m E aB ba rfl;have X6:l.length<=16777216:=ba;have ah:=aB.length;refine call_len_list (hW E) (by rw[eo,ah];omega) ?_;rw[eo,ah];exact h _ C _ (I.toks _) (bq.toks C s _)<|.int _ _
 replace e:LK J v=some z:=e;induction v using B.casesOn with
 |ref n=>
  obtain⟨cp,aM,e⟩:=bind_some<|show(J[n]?).bind _=some z from e;induction cp using dd.casesOn with
  |ls l=>obtain⟨a,Vs,m,rfl,-,E,aB,ba⟩:=pF I af aM;exact len E aB ba (cY e).symm
  |_=>exact b4 e
 |tup l=>cases e;obtain⟨a,Vs,m,rfl,E,aB,ba⟩:=oH af;clear af;have X6:l.length<=16777216:=ba;have ah:=aB.length;refine PySem.P.len_tuple (I.a4 _ _ E) (by rw[eo,ah];omega) ?_;rw[eo,ah];exact h _ C _ (I.toks _) (bq.toks C s _)<|.int _ _
 |lst l=>obtain⟨a,Vs,m,rfl,E,aB,ba⟩:=oT af;exact len (I.a4 _ _ E) aB ba (cY e).symm
 |a9 l=>cases e;obtain⟨a,es,m,rfl,D,aM⟩:=sL I aX.sys<|.val af;exact Xe aM D<|h _ C _ (I.toks _) (bq.toks C s _)<|.int _ _
 |str l=>
  cases e;obtain⟨t,rfl,ap⟩:=af.of;have eL:l.length<=16777216:=ap;have ag:Str.length ⟨l.toArray⟩=l.length:=by unfold Str.length;rw[eo]
  refine PySem.P.len_str (by rw[ag];omega) ?_;rw[ag];exact h _ C _ (I.toks _) (bq.toks C s _)<|.int _ _
 |_=>exact b4 e
theorem OY:oK c A (.type "tuple") (n3 .tuple):=by
 intro O s C J v V z Q I af e h;replace e:Lz v=some z:=e;induction v using B.casesOn with
 |tup l=>cases e;obtain⟨a,Vs,m,rfl,E,aB,ba⟩:=oH af;exact call_tuple_same (gv<|I.a4 _ _ E)<|h _ C s I (bq.refl C s) af
 |lst l=>cases e;obtain⟨a,Vs,m,rfl,E,aB,ba⟩:=oT af;clear af;refine call_tuple_list (hW<|I.a4 _ _ E) (λaR aE=>?_) (by rw[eo,aB.length];exact ba);have a0:=I.grow aE s.toks;have bn:=bq.grow C aE s.toks;have bK:=bq.push a0 (d9 Vs.toArray 0)<|.a4<|d9 Vs.toArray 0;exact h _ _ _ (a0.push (d9 Vs.toArray 0) rfl _<|.inl rfl) (bn.trans bK)<|.tup (c3 _ _ _) ((bn.trans bK).iQ I aB) ba
 |_=>exact b4 e
theorem F0{i:ĵ}:Str.ofString (toString i)=⟨(dq i).toArray⟩:=Str.ofString_eq_toList _
theorem S_:oK c A (.type "str") (n3 .str):=by
 intro O s C J v V z Q I af e h;replace e:=fQ.of e;obtain⟨i,rfl,e⟩:=e;obtain⟨aM,e⟩:=hj e;obtain⟨ap,rfl⟩:=vk e;obtain⟨t,rfl⟩:=af.of;refine PySem.P.str_of_int ?_ ?_
 .by_cases q:i.natAbs=0
  .rw[q];decide
  .exact gI ((Nat.log2_lt q).mpr<|hN (Ds aM) (jC rfl:536870912<2^31))<|aH rfl
 .rw[show((toString i:String):Str)=⟨(dq i).toArray⟩from F0];exact h _ C _ (I.toks _) (bq.toks C s _)<|.str _ _ ap
theorem Wr:oK c A (.type "int") (n3 .int):=by
 intro O s C J v V z Q I af e h;replace e:=lZ.of e;obtain⟨l,rfl,e⟩:=e;obtain⟨n,ag,a8⟩:=map_some e;clear e;subst a8;obtain⟨t,rfl,ap⟩:=af.of;have G:=r1 ag;rw[jD]at G;subst G;rw[<-F0];have aB:n<64:=by simpa using(ue ag)
 exact PySem.W.KIN.call_num (by simp) (by simp;omega)<|h _ C _ (I.toks _) (bq.toks C s _)<|.int _ _
theorem Fq{l:Lm B}:∀{ce:Lm Ģ},qf l=some ce->l=ce.map .bool:=by
 induction l with
 |nil=>intro ce e;cases e;rfl
 |cons v l ar=>
  intro ce e;induction v using B.casesOn with
  |bool b=>obtain⟨Ġ,ag,rfl⟩:=map_some<|show(qf l).map _=some ce from e;rw[ar ag];rfl
  |_=>exact b4 e
theorem EV{l:Lm B}{ce:Lm Ģ}(e:qf l=some ce):ce.length=l.length:=by rw[Fq e,bR]
theorem HC{C:aY}{J:St}{s:Qj}(I:c.I C J s){o:Obj}{aR:Heap}{cJ:Ĵ}(aE:∀b hx,b∉[s.heap.objs.size]->(s.heap.push o).get? b=some hx->aR.get? b=some hx):c.I C J {s with heap:=aR,toks:=cJ}/\bq C s C {s with heap:=aR,toks:=cJ}:=by have bW:∀b hx,s.heap.get? b=some hx->aR.get? b=some hx:=λb hx e=>aE b hx (by simp;exact gG<|j_ e)<|ih _ e;exact⟨I.grow bW cJ,bq.grow C bW cJ⟩
theorem Oi{l:Lm B}{ce:Lm Ģ}{i:Ĵ}{x:B}(e:qf l=some ce)(h:l[i]?=some x):x=.bool (ce.getD i false):=by rw[Fq e,gS]at h;obtain⟨b,G,rfl⟩:=map_some h;rw[lN,G];rfl
theorem nV.bounded{C:aY}{bM:Lm B}{X:Ę}{I:Addr}{ga:Lm Addr}{P:Ĵ->Ę->Prop}{St:Ĵ->Heap->Prop}(T:nV c C bM X I ga P St){jp:Around}(eX:jp.handled=none):Walks c.prog c.w jp I ga [I] bM.length (λi v=>i<bM.length/\P i v) St:=let W:=T.W jp eX;⟨W.sub,W.frame,λi s Q O aA st eP=>W.item i s Q O aA st λv aR cJ ae=>eP v aR cJ ⟨aA,ae⟩,W.done,W.self⟩
theorem JD{jp:Around}{C:aY}{X:Ę}{l:Lm B}{I:Addr}{ga:Lm Addr}{P:Ĵ->Ę->Prop}{St:Ĵ->Heap->Prop}{ce:Lm Ģ}(T:nV c C l X I ga P St)(av:qf l=some ce):TruthOf c.prog c.w jp (λi v=>i<l.length/\P i v) λi=>ce.getD i false:=by rintro i v s Q O⟨aA,ae⟩bb;obtain⟨x,G,E⟩:=T.vals i v aA ae;rw[Oi av G]at E;cases E;exact rm bb
theorem Hz:∀(ce:Lm Ģ),(List.range ce.length).any (λi=>ce.getD i false)=ce.any id
 |[]=>rfl
 |b::r=>by rw[mE,Bw,BG,List.any_map,BG,<-Hz r];rfl
theorem Ms:∀(ce:Lm Ģ),(List.range ce.length).all (λi=>ce.getD i false)=ce.all id
 |[]=>rfl
 |b::r=>by rw[mE,Bw,tG,oS,tG,<-Ms r];rfl
theorem Y5(aX:c.Ok)(eX:A.handled=none):oK c A (.builtin "any") (n3 .any):=by intro O s C J v V z Q I af e h;replace e:=lI.of e;obtain⟨l,rfl,e⟩:=e;obtain⟨ce,ag,a8⟩:=map_some e;clear e;subst a8;refine call_any_walk<|x9 aX.sys I (.val af) (show items (.lst l)=some l from rfl) λo ga P St T a7 st=>⟨_,ga,_,_,_,_,λi=>ce.getD i false,rfl,T.bounded eX,st,JD T ag,λaR cJ aE=>?_⟩;obtain⟨a0,bn⟩:=HC I (o:=o) (cJ:=cJ) aE;have:=h _ C _ a0 bn<|.bool _;rwa[<-Hz,EV ag]at this
theorem V1(aX:c.Ok)(eX:A.handled=none):oK c A (.builtin "all") (n3 .all):=by intro O s C J v V z Q I af e h;replace e:=lI.of e;obtain⟨l,rfl,e⟩:=e;obtain⟨ce,ag,a8⟩:=map_some e;clear e;subst a8;refine call_all_walk<|x9 aX.sys I (.val af) (show items (.lst l)=some l from rfl) λo ga P St T a7 st=>⟨_,ga,_,_,_,_,λi=>ce.getD i false,rfl,T.bounded eX,st,JD T ag,λaR cJ aE=>?_⟩;obtain⟨a0,bn⟩:=HC I (o:=o) (cJ:=cJ) aE;have:=h _ C _ a0 bn<|.bool _;rwa[<-Ms,EV ag]at this
theorem Qk{np sp pos:Pos}{e:ĳ}{w:dm}(aX:c.Ok)(d5:c.cx "isinstance"=true)(aN:c.gY "isinstance"=none)(af:c.kh "isinstance"=some (.builtin "isinstance"))(V9:c.cx "str"=true)(ed:c.gY "str"=none)(ZO:c.kh "str"=some (.type "str"))(aM:fF e=false)(g:Good c A e w):Good c A (.Call (.Name "isinstance" np) [e,.Name "str" sp] [] pos) λr J K=>w r J λv J=>lQ (n3 .ro J v) K J:=by
 intro O s ac C r J k K Q I hr ag h;refine z6<|wu aX I hr d5 aN af (by decide) ?_;rw[nf aM,nf (e:=.Name "str" sp) rfl];refine Calls.callWith_builtin rfl<|EF<|vR<|g.use I hr ag λv db e V bL bs a0 bU bn co=>vR<|wu aX a0 bU V9 ed ZO (by decide)<|EE ?_;induction v using B.casesOn with
 |str l=>obtain⟨t,rfl,-⟩:=co.of;exact PySem.IsiPair.str_str<|h _ _ e _ bL _ a0 bn<|.bool _
 |int i=>obtain⟨t,rfl⟩:=co.of;exact PySem.IsiPair.int_str<|h _ _ e _ bL _ (a0.toks _) (bn.trans<|bq.toks bL bs _)<|.bool _
 |_=>exact False.elim e
theorem kd.dr{v:B}{f:Lm B->Prop}(h:kd v f):∃l,v=.lst l/\f l:=by
 induction v using B.casesOn with
 |lst l=>exact⟨l,rfl,h⟩
 |_=>exact h.elim
theorem IS{v:B}{p:Prop}(h:ob .get v p):∃l,v=.a9 l/\p:=by
 induction v using B.casesOn with
 |a9 l=>exact⟨l,rfl,h⟩
 |_=>exact h.elim
theorem W3{h:Heap}{x:B}{l:Lm B}:∀{Vs:Lm Ę} {n:Ĵ} {z:B},d1 h l Vs->(hO x l).isSome=true->kC.go x l n=some z->∃j,z=.int (n+j:Ĵ)/\j<Vs.length/\(∀V,Vs[j]?=some V->nk h x V=true)/\∀m V,m<j->Vs[m]?=some V->nk h x V=false:=by
 induction l with
 |nil=>exact λ_ _ e=>b4 e
 |cons y r ar=>
  intro Vs n z af ae e;cases af with|cons a b=>
  obtain⟨fi,av⟩:=g2.mp ae;clear ae;obtain⟨t,ag,a8⟩:=bind_some<|show(fu y x).bind _=some fi from av;clear av;obtain⟨u,c0,cZ⟩:=map_some a8;clear a8;replace e:(match fu y x with|some true=>some (B.int n)|some false=>kC.go x r (n+1)|none=>none)=some z:=e;rw[ag]at e;induction t with
  |true=>cases e;exact⟨0,rfl,oG _,λV co=>cY co▸Be a ag,λm V aN=>absurd aN<|yM _⟩
  |false=>
   obtain⟨j,G,E,aB,ba⟩:=ar b (by rw[c0];rfl) e;refine⟨j+1,by rw[G,v9],u6 E,λV co=>aB V co,λm V aN co=>?_⟩;induction m using Nat.casesOn with
   |zero=>exact cY co▸Be a ag
   |succ m=>exact ba m V (GY aN) co
theorem wn{o:ĳ}{name:Str}{ac:Env}(h:lB o=false):attributeBase o name ac (eval o ac)=eval o ac:=by exact q7 (b:=lB o) (by induction o using PySem.Expr.casesOn<;>first|rfl|trivial) h
theorem SD{o e:ĳ}{h1 pos:Pos}{e' w:dm}(a5:A.units+40<cLine)(av:lB o=false)(la:(h1.endLine==pos.line)=true)(aM:fF e=false)(go:Good c A o e')(g:Good c A e w):Good c A (.Call (.Attribute o "index" h1) [e] [] pos) λr J K=>e' r J λv J=>kd v λ_=>w r J λx J=>lQ (Jz .index v x) K J:=by
 intro O s ac C r J k K Q I hr ag h;refine x5 (wn av) la (nf aM)<|go.use I hr ag λv db e V bL bs a0 bU bn co=>?_;obtain⟨l,rfl,e⟩:=kd.dr e;obtain⟨a,Vs,n,rfl,G,E,aB⟩:=oT co;clear co;have yS:l.length<=16777216:=aB;have az:=a0.a4 _ _ G;refine⟨"list","list.index",PySem.F.plainAttrs_list,PySem.F.slot_list_index,PySem.F.type_list_index,⟨_,az,rfl⟩,λb av=>?_,?_⟩
 .cases av;exact⟨_,az,rfl⟩
 refine method_meets PySem.F.slot_list_index PySem.F.entry_list_index rfl<|EF<|vR<|g.use a0 bU e λx dZ e X cn b7 cd eb bK c8=>EE<|ax.dr e λz fv e=>?_;replace fv:(if _ then _ else _)=some z:=fv;have l6:=bK.iQ a0 E;have LH:=cd.a4 _ _<|bK.zero.oy a0 _ _ G;obtain⟨ae,fv⟩:=hj fv;obtain⟨j,bY,br,dM,gL⟩:=W3 (n:=0) (l6.af cd) ae fv;obtain⟨fi,Kw⟩:=g2.mp ae;clear ae;obtain⟨dA,-⟩:=Du (A:=A) (c8.af cd) (iX ‹_›) (l6.af cd) Kw;clear Kw;have ah:=l6.length;refine⟨rfl,⟨_,LH,rfl⟩,PySem.F.args_list_index_2 _ _,_,list_indexAt a Vs.toArray n none #[] X (nk b7.heap x) j (by simpa using br) (by omega) ?_ ?_,LH,by simpa using dA,?_⟩
 .exact dM _ (by rw[Kb];exact fl _)
 .intro m aN PX;exact gL m _ PX (by rw[Kb];exact fl _)
 .rw[bY]at e;have:=h _ _ e _ cn _ (cd.toks<|b7.toks+1) ((bn.trans bK).trans<|bq.toks cn b7 _)<|.int _ b7.toks;simpa using this
theorem VN{o e d:ĳ}{h1 pos:Pos}{e' w u':dm}(aX:c.Ok)(a5:A.units+40<cLine)(av:lB o=false)(la:(h1.endLine==pos.line)=true)(aM:fF e=false)(md:fF d=false)(go:Good c A o e')(g:Good c A e w)(vQ:Good c A d u'):Good c A (.Call (.Attribute o "get" h1) [e,d] [] pos) λr J K=>e' r J λv J=>ob .get v (w r J λx J=>u' r J λy J=>lQ (Fc .get v x y) K J):=by
 intro O s ac C r J k K Q I hr ag h;refine wpAny_Call_method2_late (wn av) la (by rw[nf aM,nf md];rfl)<|go.use I hr ag λv db e V bL bs a0 bU bn co=>?_;obtain⟨l,rfl,e⟩:=IS e;obtain⟨a,es,n,rfl,D,SQ⟩:=sL a0 aX.sys<|.val co;refine⟨"dict","dict.get",PySem.F.plainAttrs_dict,PySem.F.slot_dict_get,PySem.F.type_dict_get,D.typeIs,λb av=>?_,?_⟩
 .cases av;exact⟨_,D.at_,rfl⟩
 refine NL (iX ‹_›) SQ<|g.use a0 bU e λx dZ e X cn b7 cd eb bK c8=>vQ.use cd eb e λy wI e cB kk f' fR jN fs jx=>ax.dr e λz kG e=>?_;replace kG:(if _ then _ else _)=some z:=kG;obtain⟨a7,kG⟩:=hj kG;obtain⟨Rf,bY,br⟩:=map_some kG;clear kG;subst br;obtain⟨hi,cA,n',l8,zs,-⟩:=sL fR aX.sys<|.val<|(bK.trans fs).hn a0 co;cases l8;refine⟨kk,_,l,cA,n',x,Rf,fR,zs,a7,fs.hn cd c8,bY,λR t az=>h _ _ e _ kk _ (fR.toks t) (((bn.trans bK).trans fs).trans<|bq.toks kk f' t) ?_⟩;induction az with
 |none=>exact jx
 |some af=>exact af
theorem MH{es:Lm ĳ}{pos:Pos}{ec:nL}(gl:k0 c A es ec)(ah:es.length<=a3):Good c A (.List es pos) λr J K=>ec r J λvs J=>K (.ref J.length) (J++[dd.ls vs]):=by intro O s ac C r J k K Q I F e h;refine wpAny_List<|gl.use I F e λvs db e Vs bL bs a0 bU bn af a6=>?_;rw[<-a6]at ah;exact⟨by rw[af.length];exact fK ah,h _ _ e _ _ _ (a0.S0 af ah) (bn.trans<|bq.push a0 (cw Vs.toArray 0)<|.st db.length)<|.ref<|c3 _ _ _⟩
theorem ps.dr{x y:B}{f:B->Prop}(h:ps x y f):ee λi j=>rx (x=.int i) (y=.int j) (small i=true) (small j=true) ((j-i).toNat<=a3) (f<|.eA i j):=by
 induction x using B.casesOn with
 |int i=>induction y using B.casesOn with
  |int j=>exact⟨i,j,rfl,rfl,h.1,h.2.1,h.2.2.1,h.2.2.2⟩
  |_=>exact h.elim
 |_=>exact h.elim
theorem Sp{np pos:Pos}{e:ĳ}{w:dm}(aX:c.Ok)(d5:c.cx "range"=true)(aN:c.gY "range"=none)(af:c.kh "range"=some (.type "range"))(aM:fF e=false)(g:Good c A e w):Good c A (.Call (.Name "range" np) [e] [] pos) λr J K=>w r J (Ay K<|.int 0):=by intro O s ac C r J k K Q I hr ag h;refine Call_name1 (by rw[t9 aM];rfl)<|wu aX I hr d5 aN af (by decide) ?_;refine PySem.callWith_type1<|g.use I hr ag λv db e V bL bs a0 bU bn co=>?_;obtain⟨i,j,q,rfl,-,b8,ap,e⟩:=ps.dr e;cases q;obtain⟨t,rfl⟩:=co.of;exact call_range_1<|h _ _ e _ _ _ ((a0.push (oL 0 j bs.toks t<|bs.toks+1) rfl _<|.inl rfl).toks<|bs.toks+1+1) ((bn.trans<|bq.push a0 (oL 0 j bs.toks t<|bs.toks+1)<|.a4<|oL 0 j bs.toks t<|bs.toks+1).trans<|bq.toks _ _ _)<|.eA (c3 _ _ _) (by decide) b8 ap
theorem NT{np pos:Pos}{d e:ĳ}{u' w:dm}(aX:c.Ok)(d5:c.cx "range"=true)(aN:c.gY "range"=none)(af:c.kh "range"=some (.type "range"))(aM:fF d=false)(md:fF e=false)(vQ:Good c A d u')(g:Good c A e w):Good c A (.Call (.Name "range" np) [d,e] [] pos) λr J K=>u' r J (hD w r<|Ay K):=by intro O s ac C r J k K Q I hr ag h;refine z6<|wu aX I hr d5 aN af (by decide) ?_;rw[nf aM,nf md];refine PySem.callWith_type rfl<|EF<|vR<|vQ.use I hr ag λu Cr e U dp eO ni lq tt lE=>vR<|g.use ni lq e λv db e V bL bs a0 bU bn co=>EE ?_;obtain⟨i,j,rfl,rfl,aA,b8,ap,mJ⟩:=ps.dr e;clear e;obtain⟨ww,rfl⟩:=lE.of;obtain⟨t,rfl⟩:=co.of;exact call_range_2<|h _ _ mJ _ _ _ ((a0.push (oL i j ww t bs.toks) rfl _<|.inl rfl).toks<|bs.toks+1) (((tt.trans bn).trans<|bq.push a0 (oL i j ww t bs.toks)<|.a4<|oL i j ww t bs.toks).trans<|bq.toks _ _ _)<|.eA (c3 _ _ _) aA b8 ap
inductive vm (P:Params) (C:aY):List (B×B)->List (Value×Value)->Prop where
 |nil:vm P C [] []
 |cons {k v:B} {K V:Value} {l:List (B×B)} {vs:List (Value×Value)}:bz P C k K->bz P C v V->vm P C l vs->vm P C ((k,v)::l) ((K,V)::vs)
abbrev BY:=aK->St->(Lm (B×B)->St->Prop)->Prop
def PC(c:cb)(C:aY)(s:Qj)(Q:Lm (Ę×Ę)->Qj->Prop)(n:Ĵ)(aj:Lm (B×B))(bE:St):Prop:=∀Vs aP aq,c.I aP bE aq->bq C s aP aq->vm c.P aP aj Vs->aj.length=n->Q Vs aq
def t_(c:cb)(A:Around)(ks:Lm (Ĳ ĳ))(vs:Lm ĳ)(w:BY):Prop:=∀O s ac C r J k pos (K:Lm (B×B)->St->Prop) (Q:Lm (Ę×Ę)->Qj->Prop),c.I C J s->c.F C ac r s.heap k->w r J K->(∀aj bE,K aj bE->PC c C s Q ks.length aj bE)->wpAny c.M A (evalPairs<|pairTrees ks vs ac pos) Q O s
theorem SF:t_ c A [] [] λ_ J K=>K [] J:=λO s ac C r J k pos K Q I F e h=>b1<|h _ _ e [] C s I (bq.refl C s) .nil rfl
theorem S3{k v:ĳ}{ks:Lm (Ĳ ĳ)}{vs:Lm ĳ}{nw w:dm}{j7:BY}(cx:Good c A k nw)(M0:Good c A v w)(bf:t_ c A ks vs j7):t_ c A (some k::ks) (v::vs) λr J K=>nw r J (hD w r λx=>hD j7 r<|Io K x):=by intro O s ac C r J bW pos K Q I F e h;exact bc<|cx.use I F e λx db e X bL bs a0 bU bn c8=>bc<|gU<|bc<|M0.use a0 bU e λy dZ e cB cn b7 cd eb bK jx=>bc<|pH<|b1<|bc<|gU<|bf O b7 ac cn r dZ bW pos _ _ cd eb e λaj wI e Vs kk f' fR fs us ah=>b1<|h _ _ e _ kk f' fR ((bn.trans bK).trans fs) (.cons ((bK.trans fs).hn a0 c8) (fs.hn cd jx) us)<|bX Nat.succ ah
theorem WG{k v:B}{l dh:Lm (B×B)}(a7:ej k l=true)(e:hh k v l=some dh):dh.length<=l.length+1:=by rw[LG a7]at e;induction h:jc k l using Option.casesOn<;>rw[h]at e<;>cases e<;>simp
theorem Uf(a5:A.units+16<cLine){O:Ę->Qj->Prop}{dp:aY}{eO:Qj}{d:Addr}(am:¬(dp d).kept){aj:Lm (B×B)}{vs:Lm (Ę×Ę)}{C:aY}{J:St}{dh:Lm (B×B)}{Q:PUnit->Qj->Prop}(bg:C d=.ext)(us:vm c.P C aj vs):∀{s:Qj} {l:Lm (B×B)} {es:Lm DictEntry} {n:Ĵ},c.I C J s->iw c C s d l es n->bq dp eO C s->l.length+aj.length<=a3->(aj.foldlM (λd (p:B×B)=>if ej p.1 d then hh p.1 p.2 d else none) l)=some dh->(∀aq cA n',c.I C J aq->iw c C aq d dh cA n'->bq dp eO C aq->Q ⟨⟩ aq)->wpAny c.M A (storeAll d vs) Q O s:=by
 unfold storeAll;induction us with
 |nil=>intro s l es n I D x ap e h;cases e;exact b1<|h s es n I D x
 |cons aE af bm ar=>intro s l es n I D x ap e h;rw[Bp];obtain⟨ē,ag,a8⟩:=bind_some e;clear e;obtain⟨a7,ag⟩:=hj ag;refine bc<|bc<|LQ (iX ‹_›) I D a7 aE af ag λaR t cA n' bY br dM gL=>b1 ?_;have bW:∀b o,b≠d->s.heap.get? b=some o->aR.get? b=some o:=λb o av e=>(gL.2 b av).trans e;have dP:=WG a7 ag;clear gL ag aE af;rw[mE]at ap;exact ar (I.upd (by rw[bg];trivial) bW (by rw[bY];rfl) t) ⟨bY,br,dM,by omega⟩ (x.upd am bW t) (by omega) a8 h
theorem Tz{ks:Lm (Ĳ ĳ)}{vs:Lm ĳ}{pos:Pos}{w:BY}(a5:A.units+16<cLine)(e1:∃o,c.H.get? sysModules=some o)(gf:ks.all (·.isSome)=true)(ah:ks.length=vs.length)(aF:ks≠[])(dP:ks.length<=15)(g:t_ c A ks vs w):Good c A (.Dict ks vs pos) λr J K=>w r J (FP K):=by
 intro O s ac C r J k K Q I F e h;have tt:=bq.push I (ew #[] 0) .ext;have sv:C s.heap.objs.size=.none:=I.fresh<|dy _;have am:¬(C s.heap.objs.size).kept:=by rw[sv];exact id
 refine wpAny_Dict_any gf ah aF dP<|g O _ ac _ r J k pos _ _ (I.push (ew #[] 0) rfl .ext<|.inr rfl) (F.ext I tt) e λaj db e Vs bL bs a0 bn us a6=>ax.dr e λl c0 e=>?_;have bg:=bn.kept s.heap.objs.size (ew #[] 0) (gO _ rfl) (by rw[c3];trivial);rw[c3]at bg;refine Uf a5 am bg.2 us (l:=[]) (es:=[]) (n:=0) a0 ⟨bg.1,.nil,q1,f7 _⟩ (tt.trans bn) (by rw[wB,iG,a6];exact aJ dP<|by decide) c0 λb7 es n cd D bK=>?_;refine h _ _ e _ _ b7 (cd.turn (by rw[bg.2];trivial) D.at_) (bK.turn am bg.2)<|.a9 (c3 _ _ _) (D.rel.mono (λa o e=>?_) λa m e=>?_) D.a3 D.nodup ?_
 .rw[bV<|by rintro rfl;rw[bg.2]at e;exact bP e rfl];exact e
 .rw[bV<|by rintro rfl;rw[bg.2]at e;exact bP e rfl];exact e
 .rw[lf];intro q;obtain⟨o,az⟩:=e1;have:=I.base _ o az;rw[<-q,sv]at this;exact bP this rfl
theorem Af{C:aY}{J:St}{s:Qj}(I:c.I C J s){n be:Ĵ}{aX:Ę}{l:Lm (Ĵ×B)}(dW:bz c.P C (.ref n) aX)(e:J[n]?=some (.ins be l)):gV λa d es k=>Hk (aX=.ref a) (C a=.st n) (C d=.cH n) (s.heap.get? a=some (kO (c.N.cl be) d)) (s.heap.get? d=some (ew es.toArray k)) (iF c.P C c.N.an l es) ((l.map Prod.fst).Nodup) (be<7):=by obtain⟨a,rfl,r⟩:=dW.of;obtain⟨_,_,_,_,G,E,aB,ba,cO,d2,fp⟩:=(I.store n _ e).of;obtain rfl:=z2 I G r;exact⟨_,_,_,_,rfl,G,E,aB,ba,cO,d2,fp⟩
theorem Yk{P:Params}{C:aY}{an:Ĵ->Str}(inj:∀a b,an a=an b->a=b){a:Ĵ}{v:B}{l:Lm (Ĵ×B)}{es:Lm DictEntry}(h:iF P C an l es):l.lookup a=some v->∃e,es.find? (·.key.isStr (an a))=some e/\bz P C v e.val:=by
 induction h with
 |nil=>exact λh=>b4 h
 |@cons b w cJ W _ _ af _ ar=>
  rw[List.find?_cons,kB];by_cases q:b=a
  .cases q;rw[jV,show(Value.str (an a) cJ).isStr (an a)=true from jV _];exact λh=>⟨_,rfl,cY h▸af⟩
  .rw[lf.mpr<|h5 q,show(Value.str (an b) cJ).isStr (an a)=false from lf.mpr λe=>q<|inj _ _ e];exact ar
theorem Ý{P:Params}{C:aY}{v:B}{V:Ę}(h:bz P C v V):handedIn V=true:=bz.casesOn (motive_1:=λ_ V _=>handedIn V=true) h rfl (λ_=>rfl) (λ_ _=>rfl) (λ_ _ _=>rfl) (λ_ _ _=>rfl) (λ_ _ _=>rfl) (λ_ _ _ _ _=>rfl) (λ_=>rfl) λ_ _ _ _=>rfl
theorem Qx(aX:c.Ok){O:Ę->Qj->Prop}{s:Qj}{C:aY}{J:St}{o v:B}{V:Ę}{a:Ĵ}{b:Ģ}{Q:Ę->Qj->Prop}(I:c.I C J s)(dW:bz c.P C o V)(ak:a<33)(e:oz J o a=some v)(h:∀W t,bz c.P C v W->Q W {s with toks:=t}):wpAny c.M A (getAttr V (c.N.an a) b) Q O s:=by
 replace e:=pa.of e;obtain⟨n,be,l,rfl,aM,e⟩:=e;obtain⟨x,d,es,k,rfl,G,E,aB,ba,cO,d2,fp⟩:=Af I dW aM;obtain⟨Bo,bY,br⟩:=Yk aX.inj cO e;have m1:=aX.m1 be a fp ak;unfold attrOk at m1;rw[eW,eW]at m1;obtain⟨⟨c5,bj⟩,cK⟩:=m1;induction ap:clsIn c.K (c.N.cl be)with
 |none=>rw[ap]at cK;exact cq cK
 |some nQ=>
  rw[ap]at cK;have a7:findObj c.K (c.N.cl be) (some<|ew es.toArray k) (c.N.an a)=some (.value Bo.val):=by unfold findObj;rw[ap,eE bj];simp only[Option.bind_some];unfold PySem.W.ownOf;simp only[cK,qv];unfold lookIn;simp only[ew];rw[bY];simp
  exact get_value (K:=c.K) (od:=some<|ew es.toArray k) (λb o e=>I.lY _ _<|aX.ab b o e) ⟨aB,rfl,rfl,ba⟩ (eE c5) a7 (Ý br)<|h _ _ br
theorem Õ{e:ĳ}{pos:Pos}{x:Str}{a:Ĵ}{w:dm}(aX:c.Ok)(av:lB e=false)(ak:a<33)(ay:c.N.an a=x)(g:Good c A e w):Good c A (.Attribute e x pos) λr J K=>w r J (HX a K):=by intro O s ac C r J k K Q I F ag h;subst ay;rw[arm_eval_Attribute,wn av];exact bc<|g.use I F ag λo db e V bL bs a0 bU bn co=>ax.dr e λz cZ e=>bc<|pH<|bc<|gU<|Qx aX a0 co ak cZ λW t R5=>bc<|wpAny_letTemporaryGo<|b1<|h _ _ e W bL _ (a0.toks t) (bn.trans<|bq.toks bL bs t) R5
structure Bound(c:cb)(C:aY)(ac:Env)(s:Shared)(x:Str)(V:Value)(aq:Shared):Prop where
 keep:∀a o,(∀k,C a≠.loc k)->(∀y,C a≠.kY y)->s.heap.get? a=some o->aq.heap.get? a=some o
 kept:∀a,(C a≠.none)->(aq.heap.get? a).isSome=true
 new:gR ac aq.heap x V
 old:∀y W,y≠x->gR ac s.heap y W->gR ac aq.heap y W
 ns:∃m,aq.heap.Ns ac.locals m
 cells:∀y,(ac.kindOf y=some .cell\/ac.kindOf y=some .free)->ee λbe v=>dY (ac.cells.lookup y=some be) (C be=.kY y)<|aq.heap.IsCell be v
 gens:aq.gens=s.gens
 hJ:aq.os=s.os
 Tr:ac.kindOf x=some .local->∀a o,a≠ac.locals->s.heap.get? a=some o->aq.heap.get? a=some o
theorem BV{ac:Env}{x:Str}{V:Ę}{O:Ę->Qj->Prop}{s:Qj}{C:aY}{r:aK}{J:St}{k:Ĵ}{Q:Unit->Qj->Prop}(I:c.I C J s)(F:c.F C ac r s.heap k)(ay:c.b5 x=true)(h:∀aq,Bound c C ac s x V aq->Q () aq):wpAny c.M A (storeName ac x V) Q O s:=by
 have ae:(ac.scope.kind==.class||(ac.scope.kind==.module&&ac.locals !=ac.globals))=false:=by rw[F.bD.kind];rfl
 rcases F.st x ay with aE|aE
 .obtain⟨m,aN⟩:=F.bD.l2;refine wpAny_storeName_local aE aN (λaR am aM=>h _ ⟨λa o G E e=>?_,λa ak=>?_,.inl ⟨aE,_,am,bl rfl⟩,λy W a2 af=>?_,⟨_,am⟩,λy a2=>?_,rfl,rfl,λ_ a o ak e=>(aM.2 a ak).trans e⟩) ae
  .exact(aM.2 a<|by rintro rfl;exact G _ F.bD.loc).trans e
  .by_cases q:a=ac.locals
   .subst q;obtain⟨o,es,re,az,-⟩:=am;rw[show({s with heap:=aR,toks:=s.toks+1}:Qj).heap.get? ac.locals=some o from az];rfl
   .obtain⟨o,az⟩:=g2.mp<|I.alloc a ak;rw[show({s with heap:=aR,toks:=s.toks+1}:Qj).heap.get? a=some o from(aM.2 a q).trans az];rfl
  .rcases af with⟨ah,iS,kA,e⟩|⟨ah,be,ap,o,az,bg⟩
   .refine .inl ⟨ah,_,am,?_⟩;rw[bt a2,aN.agree kA y];exact e
   .obtain⟨iH,oe,bY,br,dM⟩:=F.bD.cells y ah;rw[ap]at bY;cases bY;exact .inr ⟨ah,be,ap,o,(aM.2 be<|by rintro rfl;rw[F.bD.loc]at br;exact bP br rfl).trans az,bg⟩
  .obtain⟨be,v,bY,br,o,az,bg⟩:=F.bD.cells y a2;exact⟨be,v,bY,br,o,(aM.2 be<|by rintro rfl;rw[F.bD.loc]at br;exact bP br rfl).trans az,bg⟩
 .obtain⟨be,č,bY,br,dM⟩:=F.bD.cells x<|.inl aE;refine wpAny_storeName_cell F.bD.kind aE bY dM<|λaR am aM=>h _ ⟨λa o G E e=>?_,λa ak=>?_,.inr ⟨.inl aE,be,bY,am⟩,λy W a2 af=>?_,?_,λy a2=>?_,rfl,rfl,λah=>by rw[aE]at ah;cases ah⟩
  .exact(aM.2 a<|by rintro rfl;exact E _ br).trans e
  .by_cases q:a=be
   .subst q;obtain⟨o,az,-⟩:=am;rw[show({s with heap:=aR}:Qj).heap.get? a=some o from az];rfl
   .obtain⟨o,az⟩:=g2.mp<|I.alloc a ak;rw[show({s with heap:=aR}:Qj).heap.get? a=some o from(aM.2 a q).trans az];rfl
  .rcases af with⟨ah,iS,kA,e⟩|⟨ah,iH,eL,o,az,bg⟩
   .exact .inl ⟨ah,iS,kA.sameBut aM (by rintro rfl;rw[F.bD.loc]at br;exact bP br rfl),e⟩
   .obtain⟨ė,į,dA,er,f_⟩:=F.bD.cells y ah;rw[eL]at dA;cases dA;exact .inr ⟨ah,iH,eL,o,(aM.2 iH<|by rintro rfl;rw[br]at er;cases er;exact a2 rfl).trans az,bg⟩
  .obtain⟨m,aN⟩:=F.bD.l2;exact⟨m,aN.sameBut aM<|by rintro rfl;rw[F.bD.loc]at br;exact bP br rfl⟩
  .obtain⟨iH,oe,dA,er,f_⟩:=F.bD.cells y a2;by_cases q:iH=be
   .subst q;exact⟨iH,_,dA,er,am⟩
   .obtain⟨o,az,bg⟩:=f_;exact⟨iH,oe,dA,er,o,(aM.2 iH q).trans az,bg⟩
theorem Bound.I{C:aY}{ac:Env}{s aq:Qj}{x:Str}{V:Ę}{J:St}(aT:Bound c C ac s x V aq)(I:c.I C J s):c.I C J aq:=by
 have fH:∀a o,(¬∃k,C a=.loc k)->(¬∃y,C a=.kY y)->s.heap.get? a=some o->aq.heap.get? a=some o:=λa o G E e=>aT.keep a o (λk q=>G ⟨k,q⟩) (λy q=>E ⟨y,q⟩) e;refine⟨λa h=>aT.kept a h,I.uniq,λa o e=>?_,λn cp e=>(I.store n cp e).mono (λ_ _ e=>e) (λ_ _ e=>e) (λ_ _ e=>e) λa o h e=>?_,I.base,aT.gens.trans I.gens,aT.hJ.trans I.hJ,I.gD⟩
 .exact fH a o (by rintro⟨k,q⟩;rw[q]at e;exact bP e rfl) (by rintro⟨k,q⟩;rw[q]at e;exact bP e rfl)<|I.a4 a o e
 .rcases h with h|h;all_goals exact fH a o (by rintro⟨k,q⟩;rw[q]at h;exact bP h rfl) (by rintro⟨k,q⟩;rw[q]at h;exact bP h rfl) e
theorem Bound.ext{C:aY}{ac:Env}{s aq:Qj}{x:Str}{V:Ę}(aT:Bound c C ac s x V aq):ey C s C aq:=⟨λa o e cc=>⟨aT.keep a o (λk q=>by rw[q]at cc;exact cc) (λy q=>by rw[q]at cc;exact cc) e,rfl⟩,λ_ _ e=>e,λ_ _ e=>e⟩
theorem Bound.F{C:aY}{ac:Env}{s aq:Qj}{x:Str}{V:Ę}{r:aK}{k i:Ĵ}{aL:cr}(aX:c.Ok)(aT:Bound c C ac s x V aq)(F:c.F C ac r s.heap k)(aA:c.ns.lookup x=some i)(aM:mF c.P C ac aq.heap i x aL):c.F C ac (r.set i aL) aq.heap k:=by
 refine⟨⟨F.bD.kind,F.bD.glob,F.bD.lU,F.bD.loc,aT.ns,aT.cells,λy j q8 G E=>?_⟩,F.gl,F.st,F.cl⟩;by_cases q:j=i
 .subst q;obtain rfl:=aX.rg _ _ _ G aA;rw[q2]at E;split at E
  .split at E
   .cases E;exact aM
   .exact b4 E
  .exact absurd rfl ‹_›
 .have a2:y≠x:=by rintro rfl;rw[aA]at G;exact q (cY G).symm
  rw[nu<|h5 q]at E;induction F.bD.slots y j q8 G E with
  |un=>exact .un
  |val a b=>exact .val (aT.old y _ a2 a) b
  |ol a b d e f=>exact .ol (aT.old y _ a2 a) b (aT.keep _ _ (λk q=>by rw[b]at q;exact bP q rfl) (λz q=>by rw[b]at q;exact bP q rfl) d) e f
  |od a b d e f g=>exact .od (aT.old y _ a2 a) b (aT.keep _ _ (λk q=>by rw[b]at q;exact bP q rfl) (λz q=>by rw[b]at q;exact bP q rfl) d) e f g
inductive DU (P:Params) (C:aY):ck->Flow->Prop where
 |go:DU P C .go .next
 |ret {v:B} {V:Value}:bz P C v V->DU P C (.ret v) (.ret V)
abbrev ox:=aK->St->(ck->aK->St->Prop)->Prop
def xJ(c:cb)(C:aY)(s:Qj)(ac:Env)(k:Ĵ)(Q:Flow->Qj->Prop)(cM:ck)(b0:aK)(bE:St):Prop:=∀f aP aq,c.I aP bE aq->ey C s aP aq->c.F aP ac b0 aq.heap k->DU c.P aP cM f->Q f aq
def zu(c:cb)(A:Around)(t:Env->Sem Flow)(w:ox):Prop:=∀O s ac C r J k (K:ck->aK->St->Prop) (Q:Flow->Qj->Prop),c.I C J s->c.F C ac r s.heap k->w r J K->(∀cM b0 bE,K cM b0 bE->xJ c C s ac k Q cM b0 bE)->wpAny c.M A (t ac) Q O s
abbrev f6(c:cb)(A:Around)(st:Stmt)(w:ox):Prop:=zu c A (exec st) w
abbrev nb(c:cb)(A:Around)(cR:Lm Stmt)(w:ox):Prop:=zu c A (execs cR) w
theorem zu.use{t:Env->Sem Flow}{w:ox}(g:zu c A t w){O:Ę->Qj->Prop}{eO s:Qj}{ac:Env}{dp C:aY}{r:aK}{J:St}{k:Ĵ}{K:ck->aK->St->Prop}{Q:Flow->Qj->Prop}(I:c.I C J s)(F:c.F C ac r s.heap k)(x:ey dp eO C s)(e:w r J K)(h:∀cM b0 bE,K cM b0 bE->xJ c dp eO ac k Q cM b0 bE):wpAny c.M A (t ac) Q O s:=g O s ac C r J k K Q I F e λcM b0 bE e f aP aq dk ez=>h cM b0 bE e f aP aq dk<|x.trans ez
theorem N5:nb c A [] λr J K=>K .go r J:=λO s ac C r J k K Q I F e h=>wpAny_execs_nil<|h _ _ _ e _ C s I (ey.refl C s) F .go
theorem Op{st:Stmt}{a':Lm Stmt}{w j7:ox}(g:f6 c A st w)(bf:nb c A a' j7):nb c A (st::a') λr J K=>w r J (kP j7 K):=by
 intro O s ac C r J k K Q I F e h;refine wpAny_execs_cons<|g O s ac C r J k _ _ I F e λjW hv Ĭ e f bL bs a0 bn bU a7=>?_;induction a7 with
 |go=>exact bf.use a0 bU bn e h
 |ret af=>exact h _ _ _ e _ bL bs a0 bn bU<|.ret af
theorem Qa{e:ĳ}{pos:Pos}{w:dm}(g:Good c A e w):f6 c A (.Return (some e) pos) λr J K=>w r J (Gu r K):=λO s ac C r J k K Q I F ag h=>wpAny_Return_some<|g.use I F ag λv db e V bL bs a0 bU bn co=>h _ _ _ e _ bL bs a0 bn.zero bU<|.ret co
theorem Xy{pos:Pos}:f6 c A (.Return none pos) λr J K=>K (.ret .none) r J:=λO s ac C r J k K Q I F ag h=>wpAny_Return_none<|h _ _ _ ag _ C s I (ey.refl C s) F<|.ret .none
theorem Rk{t:ĳ}{b o:Lm Stmt}{pos:Pos}{pE:hg}{ki e':ox}(gt:j6 c A t pE)(lm:nb c A b ki)(go:nb c A o e'):f6 c A (.If t b o pos) λr J K=>pE r J λq J=>k1 (ki r J K) (e' r J K) q:=by
 intro O s ac C r J k K Q I F ag h;refine wpAny_If<|gt.use I F ag λq db e bL bs a0 bU bn=>?_;induction q with
 |true=>exact lm.use a0 bU bn.zero e h
 |false=>exact go.use a0 bU bn.zero e h
inductive oY (c:cb):List Expr->List Nat->Prop where
 |nil:oY c [] []
 |cons {x:Str} {eB:Pos} {i:Nat} {es:List Expr} {is:List Nat}:c.ns.lookup x=some i->c.b5 x=true->oY c es is->oY c (.Name x eB::es) (i::is)
inductive ms (c:cb):Bool->Expr->List Nat->Prop where
 |one {x:Str} {eB:Pos} {i:Nat}:c.ns.lookup x=some i->c.b5 x=true->ms c false (.Name x eB) [i]
 |tup {es:List Expr} {cL:Nat} {pos:Pos} {is:List Nat}:oY c es is->ms c true (.Tuple es cL pos) is
structure lp(c:cb)(C:aY)(ac:Env)(s aq:Shared):Prop where
 so:∀a o,(∀k,C a≠.loc k)->(∀y,C a≠.kY y)->s.heap.get? a=some o->aq.heap.get? a=some o
 loc:(∀x,c.b5 x=true->ac.kindOf x=some .local)->∀a o,a≠ac.locals->s.heap.get? a=some o->aq.heap.get? a=some o
theorem lp.refl(C:aY)(ac:Env)(s:Qj):lp c C ac s s:=⟨λ_ _ _ _ e=>e,λ_ _ _ _ e=>e⟩
theorem lp.trans{C:aY}{ac:Env}{s bs b7:Qj}(x:lp c C ac s bs)(y:lp c C ac bs b7):lp c C ac s b7:=⟨λa o G E e=>y.so a o G E<|x.so a o G E e,λh a o G e=>y.loc h a o G<|x.loc h a o G e⟩
theorem lp.ext{C:aY}{ac:Env}{s aq:Qj}(x:lp c C ac s aq):ey C s C aq:=⟨λa o e cc=>⟨x.so a o (λk q=>by rw[q]at cc;exact cc) (λy q=>by rw[q]at cc;exact cc) e,rfl⟩,λ_ _ e=>e,λ_ _ e=>e⟩
theorem q_(aX:c.Ok){ac:Env}{x:Str}{V:Ę}{v:B}{i:Ĵ}{O:Ę->Qj->Prop}{s:Qj}{C:aY}{r:aK}{J:St}{k:Ĵ}{Q:Unit->Qj->Prop}(I:c.I C J s)(F:c.F C ac r s.heap k)(aA:c.ns.lookup x=some i)(ay:c.b5 x=true)(co:bz c.P C v V)(h:∀aq,c.I C J aq->ey C s C aq->lp c C ac s aq->c.F C ac (r.set i<|.val v) aq.heap k->Q () aq):wpAny c.M A (storeName ac x V) Q O s:=BV I F ay λaq aT=>h aq (aT.I I) aT.ext ⟨aT.keep,λah=>aT.Tr<|ah x ay⟩<|aT.F aX F aA<|.val aT.new co
theorem Y'{es:Lm ĳ}{is:Lm Ĵ}(t:oY c es is)(ac:Env):(assignEach es ac).length=is.length:=by
 induction t with
 |nil=>rfl
 |cons _ _ _ ar=>show(_::assignEach _ ac).length=_;simp[ar]
theorem XW{es:Lm ĳ}{is:Lm Ĵ}(t:oY c es is)(ac:Env):(assignEach es ac).findIdx? (·.1)=none:=by
 induction t with
 |nil=>rfl
 |cons _ _ _ ar=>show((false,_)::assignEach _ ac).findIdx? (·.1)=none;rw[wP,ar];rfl
theorem Ny(aX:c.Ok){ac:Env}{O:Ę->Qj->Prop}{C:aY}{J:St}{k:Ĵ}{es:Lm ĳ}{is:Lm Ĵ}(t:oY c es is):∀{s:Qj} {r:aK} {l:Lm B} {Vs:Lm Ę} {Q:Unit->Qj->Prop},c.I C J s->c.F C ac r s.heap k->bB c.P C l Vs->l.length=is.length->(∀aq,c.I C J aq->lp c C ac s aq->c.F C ac ((is.zip l).foldl (λr p=>r.set p.1<|.val p.2) r) aq.heap k->Q () aq)->wpAny c.M A (assignInOrder ((assignEach es ac).map (·.2)) Vs) Q O s:=by
 induction t with
 |nil=>
  intro s r l Vs Q I F af ah h;induction l using List.casesOn with
  |nil=>obtain rfl:=af.of;exact b1<|h s I (lp.refl C ac s) F
  |cons=>cases ah
 |@cons x eB i es is aA ay _ ar=>
  intro s r l Vs Q I F af ah h;induction l using List.casesOn with
  |nil=>cases ah
  |cons v l=>obtain⟨V,bC,rfl,a,b⟩:=af.of;exact bc<|gU<|assign_Name<|q_ aX I F aA ay a λbs a0 bn z5 bU=>ar a0 bU b (by simpa using ah) λb7 cd ou eb=>h b7 cd (lp.trans z5 ou) eb
set_option tactic.hygienic true in
theorem yH(aX:c.Ok)(cc:A.handled=none){ac:Env}{bk:Ģ}{G1:ĳ}{aU:Lm Ĵ}(t:ms c bk G1 aU){O:Ę->Qj->Prop}{s:Qj}{C:aY}{r b0:aK}{J:St}{k:Ĵ}{v:B}{V:Ę}{Q:Unit->Qj->Prop}(I:c.I C J s)(F:c.F C ac r s.heap k)(co:bz c.P C v V)(e:h7 bk aU v r=some b0)(h:∀aq,c.I C J aq->lp c C ac s aq->c.F C ac b0 aq.heap k->Q () aq):wpAny c.M A (assign G1 ac V) Q O s:=by
 induction t with
 |one aA ay=>cases e;exact assign_Name<|q_ aX I F aA ay co λbs a0 bn z5 bU=>h bs a0 z5 bU
 |@tup es cL pos is hl=>
  induction v using B.casesOn<;>try(exact b4 e;done)
  rename_i l;simp only[h7]at e;split at e
  .rename_i ah;cases e;obtain⟨a,Vs,n,rfl,G,E,aB⟩:=oH co;clear co;refine wpAny_assign_Tuple cc (gv<|I.a4 _ _ G) (by rw[Y' hl,eo,E.length,ah]) (XW hl ac) λaR a6=>?_;have bW:∀b o,s.heap.get? b=some o->aR.get? b=some o:=λb o e=>a6 b o (gG<|j_ e) e;refine Ny aX hl (I.grow bW s.toks) (F.ext I<|bq.grow C bW s.toks) E ah λb7 cd ou eb=>h b7 cd ⟨λa o bY br e=>ou.so a o bY br<|bW a o e,λah a o q e=>ou.loc ah a o q<|bW a o e⟩ eb
  .exact b4 e
def iD (e:ĳ):Ģ:=Nat.beq e.ctorIdx 8||(Nat.beq e.ctorIdx 9||Nat.beq e.ctorIdx 10)
theorem rQ{value:ĳ}{t:Ĳ ĳ}{n:Ĵ}{ac:Env}(h:iD value=false):swapsWith value t n ac=pure false:=by exact q7 (b:=iD value) (by induction value using PySem.Expr.casesOn<;>first|exact @rfl _ (pure false)|trivial) h
theorem Pz{e:ĳ}{x:Str}{eB pos:Pos}{i:Ĵ}{w:dm}(aX:c.Ok)(ap:iD e=false)(aA:c.ns.lookup x=some i)(ay:c.b5 x=true)(g:Good c A e w):f6 c A (.Assign [.Name x eB] e pos) λr J K=>w r J (pL i r K):=λO s ac C r J k K Q I F ag h=>DR (g.use I F ag λv db e V bL bs a0 bU bn co=>q_ aX a0 bU aA ay co λb7 cd bK ou eb=>h _ _ _ e _ bL b7 cd (bn.zero.trans bK) eb .go)<|rQ ap
theorem P_{e:ĳ}{pos:Pos}{w:dm}(ap:iD e=false)(g:Good c A e w):f6 c A (.Expr e pos) λr J K=>w r J (Kr r K):=by
 intro O s ac C r J k K Q I F ag h;refine y1 (g.use I F ag λv db e V bL bs a0 bU bn co=>?_) (by unfold PySem.interactive;rw[F.bD.kind];rfl)<|rQ ap;have h:K .go r db->xJ c C s ac k Q .go r db:=h _ _ _;induction v using B.casesOn with
 |none=>obtain rfl:=co.of;exact h e _ bL bs a0 bn.zero bU .go
 |int i=>obtain⟨t,rfl⟩:=co.of;exact h e _ bL bs a0 bn.zero bU .go
 |_=>exact False.elim e
section
variable{P:Params}{N:g1}{H:Heap}{os:OsState}{C:aY}{J:St}{s:Qj}
theorem Inv.Kd(I:Inv P N H os C J s){n:Ĵ}{d:Addr}(bg:C d=.st n\/C d=.cH n){aR:Heap}(k:∀b o,b≠d->s.heap.get? b=some o->aR.get? b=some o)(aA:(aR.get? d).isSome=true){cp:dd}(aM:lM P N C aR n cp)(t:Ĵ):Inv P N H os C (J.set n cp) {s with heap:=aR,toks:=t}:=by
 refine⟨λa h=>?_,I.uniq,λa o e=>k a o (by rintro rfl;rcases bg with bg|bg<;>rw[bg]at e<;>exact bP e rfl)<|I.a4 a o e,λm Cm e=>?_,I.base,I.gens,I.hJ,λa m e=>by rw[List.length_set];exact I.gD a m e⟩
 .by_cases q:a=d
  .subst q;exact aA
  .obtain⟨o,az⟩:=g2.mp<|I.alloc a h;rw[show({s with heap:=aR,toks:=t}:Qj).heap.get? a=some o from k a o q az];rfl
 .by_cases q:m=n
  .subst q;rw[q2]at e;simp only[qv]at e;split at e
   .cases e;exact aM
   .exact b4 e
  .rw[nu<|h5 q]at e;refine(I.store m Cm e).mono (λ_ _ e=>e) (λ_ _ e=>e) (λ_ _ e=>e) λa o h e=>k a o ?_ e;rintro rfl;rcases bg with bg|bg<;>rw[bg]at h<;>rcases h with h|h<;>(first|exact bP h rfl|cases h)<;>exact q rfl
theorem ey.C9{d:Addr}(am:¬(C d).ig){aR:Heap}(k:∀b o,b≠d->s.heap.get? b=some o->aR.get? b=some o)(t:Ĵ):ey C s C {s with heap:=aR,toks:=t}:=(ey.refl C s).upd am k t
end
theorem cb.F.other{C:aY}{ac:Env}{r:aK}{h aR:Heap}{k:Ĵ}(F:c.F C ac r h k){d:Addr}(bg:¬(C d).free)(bW:∀b o,b≠d->h.get? b=some o->aR.get? b=some o):c.F C ac r aR k:=by
 have ne:∀{a:Addr} {q:eI},C a=q->q.free->a≠d:=λe h q=>bg<|q▸e▸h;have i0:∀y V,gR ac h y V->gR ac aR y V:=λy V af=>by
  rcases af with⟨a,m,aN,e⟩|⟨a,be,ap,o,az,k'⟩
  .exact .inl ⟨a,m,aN.at λo e=>bW _ _ (ne F.bD.loc trivial) e,e⟩
  .obtain⟨iH,oe,dA,er,f_⟩:=F.bD.cells y a;rw[ap]at dA;cases dA;exact .inr ⟨a,be,ap,o,bW _ _ (ne er trivial) az,k'⟩
 refine⟨⟨F.bD.kind,F.bD.glob,F.bD.lU,F.bD.loc,?_,λy a2=>?_,λy j aL G E=>?_⟩,F.gl,F.st,F.cl⟩
 .obtain⟨m,aN⟩:=F.bD.l2;exact⟨m,aN.at λo e=>bW _ _ (ne F.bD.loc trivial) e⟩
 .obtain⟨be,v,bY,br,o,az,k'⟩:=F.bD.cells y a2;exact⟨be,v,bY,br,o,bW _ _ (ne br trivial) az,k'⟩
 .induction F.bD.slots y j aL G E with
  |un=>exact .un
  |val a b=>exact .val (i0 _ _ a) b
  |ol a b d e f=>exact .ol (i0 _ _ a) b (bW _ _ (ne b trivial) d) e f
  |od a b d e f g=>exact .od (i0 _ _ a) b (bW _ _ (ne b trivial) d) e f g
theorem cb.F.SH{C:aY}{ac:Env}{r:aK}{h aR:Heap}{k i:Ĵ}{aL:cr}(uniq:∀a b,C a=C b->(C a).one->a=b)(F:c.F C ac r h k){d:Addr}(bg:C d=.own i)(bW:∀b o,b≠d->h.get? b=some o->aR.get? b=some o)(aM:∀x,c.ns.lookup x=some i->(∀V,gR ac h x V->gR ac aR x V)->mF c.P C ac aR i x aL):c.F C ac (r.set i aL) aR k:=by
 have va:ac.locals≠d:=by rintro q;have:=F.bD.loc;rw[q,bg]at this;exact bP this rfl
 have bQ:∀{a y},C a=.kY y->a≠d:=by rintro a y e rfl;rw[bg]at e;exact bP e rfl
 have i0:∀y V,gR ac h y V->gR ac aR y V:=λy V af=>by
  rcases af with⟨a,m,aN,e⟩|⟨a,be,ap,o,az,k'⟩
  .exact .inl ⟨a,m,aN.at λo e=>bW _ _ va e,e⟩
  .obtain⟨iH,oe,dA,er,f_⟩:=F.bD.cells y a;rw[ap]at dA;cases dA;exact .inr ⟨a,be,ap,o,bW _ _ (bQ er) az,k'⟩
 refine⟨⟨F.bD.kind,F.bD.glob,F.bD.lU,F.bD.loc,?_,λy a2=>?_,λy j q8 G E=>?_⟩,F.gl,F.st,F.cl⟩
 .obtain⟨m,aN⟩:=F.bD.l2;exact⟨m,aN.at λo e=>bW _ _ va e⟩
 .obtain⟨be,v,bY,br,o,az,k'⟩:=F.bD.cells y a2;exact⟨be,v,bY,br,o,bW _ _ (bQ br) az,k'⟩
 .by_cases q:j=i
  .subst q;rw[q2]at E;simp only[qv]at E;split at E
   .cases E;exact aM y G<|i0 y
   .exact b4 E
  .rw[nu<|h5 q]at E;have no:∀{a},C a=.own j->a≠d:=by rintro a e rfl;rw[bg]at e;cases e;exact q rfl
   induction F.bD.slots y j q8 G E with
   |un=>exact .un
   |val a b=>exact .val (i0 _ _ a) b
   |ol a b d e f=>exact .ol (i0 _ _ a) b (bW _ _ (no b) d) e f
   |od a b d e f g=>exact .od (i0 _ _ a) b (bW _ _ (no b) d) e f g
theorem A7{Vs bC:Lm Ę}{n:Ĵ}{f:Array Ę->Array Ę}(h:f Vs.toArray=bC.toArray):∃m,Obj.mapSeq f (cw Vs.toArray n)=cw bC.toArray m:=⟨if bC.toArray.size==Vs.toArray.size then n else n+1,by simp only[Obj.mapSeq,cw,h]⟩
theorem hY.dr{o:Ĳ cr}{f:Lm B->Prop}(h:hY o f):∃l,o=some (.ol l)/\f l:=by
 induction o with
 |none=>exact h.elim
 |some x=>induction x<;>first|exact⟨_,rfl,h⟩|exact h.elim
theorem hY.at{o:Ĳ cr}{l:Lm B}{f:Lm B->Prop}(q:o=some (.ol l))(h:hY o f):f l:=by rw[q]at h;exact h
theorem E7{C:aY}{ac:Env}{r:aK}{J:St}{s:Qj}{k i:Ĵ}{x:Str}{a:Addr}{aR:Heap}{aL:cr}(aX:c.Ok)(aA:c.ns.lookup x=some i)(I:c.I C J s)(F:c.F C ac r s.heap k)(jv:gR ac s.heap x (.ref a))(gC:C a=.own i)(bW:∀b o,b≠a->s.heap.get? b=some o->aR.get? b=some o){o:Obj}(ak:aR.get? a=some o)(aM:gR ac aR x (.ref a)->mF c.P C ac aR i x aL)(t:Ĵ):dY (c.I C J {s with heap:=aR,toks:=t}) (ey C s C {s with heap:=aR,toks:=t}) (c.F C ac (r.set i aL) aR k):=⟨I.upd (by rw[gC];trivial) bW (by rw[ak];rfl) t,ey.C9 (by rw[gC];exact id) bW t,F.SH I.uniq gC bW λy a2 i0=>by obtain rfl:=aX.rg _ _ _ a2 aA;exact aM<|i0 _ jv⟩
theorem E2{C:aY}{ac:Env}{r:aK}{J:St}{s:Qj}{k i:Ĵ}{x:Str}{a:Addr}{Vs bC:Lm Ę}{n:Ĵ}{dh:Lm B}{f:Array Ę->Array Ę}(aX:c.Ok)(aA:c.ns.lookup x=some i)(I:c.I C J s)(F:c.F C ac r s.heap k)(jv:gR ac s.heap x (.ref a))(gC:C a=.own i)(lT:s.heap.get? a=some (cw Vs.toArray n))(a7:f Vs.toArray=bC.toArray)(ba:bB c.P C dh bC)(ap:dh.length<=a3):dY (c.I C J {s with heap:=s.heap.update a (Obj.mapSeq f)}) (ey C s C {s with heap:=s.heap.update a (Obj.mapSeq f)}) (c.F C ac (r.set i<|.ol dh) (s.heap.update a<|Obj.mapSeq f) k):=by
 obtain⟨m,aN⟩:=A7 (n:=n) a7;have new:(s.heap.update a<|Obj.mapSeq f).get? a=some (cw bC.toArray m):=by rw[tp _ lT (by rw[aN];rfl),aN]
 exact E7 aX aA I F jv gC (λb o av e=>(Dc _ _<|h5 av).trans e) new (λv=>.ol v gC new ba ap) s.toks
theorem Vn{e:ĳ}{x:Str}{np h1 p9 pos:Pos}{i:Ĵ}{w:dm}(aA:c.ns.lookup x=some i)(bg:(x==("__debug__":Str))=false)(am:(x==("__classdict__":Str))=false)(la:(h1.endLine==p9.line)=true)(aM:fF e=false)(g:Good c A e w)(aX:c.Ok):f6 c A (.Expr (.Call (.Attribute (.Name x np) "append" h1) [e] [] p9) pos) λr J K=>hY r[i]? λ_=>w r J (KJ i r K):=by intro O s ac C r J k K Q I F ag h;obtain⟨l,bm,ag⟩:=hY.dr ag;obtain⟨a,Vs,n,bY,br,dM,gL,ky⟩:=(F.bD.slots x i _ aA bm).of;refine y1 (x5 rfl la (nf aM)<|rn (rK F.bD.kind bY am ?_) bg) (by unfold PySem.interactive;rw[F.bD.kind];rfl) rfl;refine⟨"list","list.append",PySem.F.plainAttrs_list,PySem.F.slot_list_append,PySem.F.type_list_append,⟨_,dM,rfl⟩,λb av=>by cases av;exact⟨_,dM,rfl⟩,?_⟩;refine PySem.P.append_list<|g.use I F ag λv db e V bL bs a0 bU bn co=>?_;have er:=(bn.kept a _ dM<|by rw[br];trivial).2.trans br;obtain⟨hi,Vs,n,jv,gC,lT,m7,B1⟩:=(bU.bD.slots x i _ aA bm).of;obtain rfl:=a0.uniq hi a (gC.trans er.symm) (by rw[gC];trivial);obtain⟨ap,e⟩:=hY.at bm e;have eL:l.length+1<=16777216:=ap;refine⟨Vs.toArray,n,by rw[eo,m7.length];unfold sizeLine;exact fK ‹_›,lT,?_⟩;obtain⟨dI,y,cX⟩:=E2 aX aA a0 bU jv gC lT (f:=λbM=>bM.push V) (bC:=Vs++[V]) (by simp) (m7.append<|.cons co .nil) (by rw[c_];exact ap);exact h _ _ _ e _ bL _ dI (bn.zero.trans y) cX .go
theorem gZ.dr{o:Ĳ dd}{f:Lm B->Prop}(h:gZ o f):∃l,o=some (.ls l)/\f l:=by
 induction o with
 |none=>exact h.elim
 |some x=>induction x<;>first|exact⟨_,rfl,h⟩|exact h.elim
theorem Vv{J:St}{x z:B}(e:Ck J x=some z):ee λn l=>x=.ref n/\J[n]?=some (.ls l):=by
 induction x using B.casesOn with
 |ref n=>
  obtain⟨cp,h,e⟩:=bind_some<|show(J[n]?).bind _=some z from e;induction cp with
  |ls l=>exact⟨n,l,rfl,h⟩
  |_=>exact b4 e
 |_=>exact b4 e
theorem Ed{C:aY}{ac:Env}{r:aK}{J:St}{s:Qj}{k n:Ĵ}{a:Addr}{aR:Heap}{cp:dd}(I:c.I C J s)(F:c.F C ac r s.heap k)(p:C a=.st n)(bW:∀b o,b≠a->s.heap.get? b=some o->aR.get? b=some o){o:Obj}(ak:aR.get? a=some o)(aM:lM c.P c.N C aR n cp)(t:Ĵ):dY (c.I C (J.set n cp) {s with heap:=aR,toks:=t}) (ey C s C {s with heap:=aR,toks:=t}) (c.F C ac r aR k):=⟨I.Kd (.inl p) bW (by rw[ak];rfl) aM t,ey.C9 (by rw[p];exact id) bW t,F.other (by rw[p];exact id) bW⟩
theorem Pn{e:ĳ}{x:Str}{np h1 p9 pos:Pos}{i:Ĵ}{w:dm}(aA:c.ns.lookup x=some i)(bg:(x==("__debug__":Str))=false)(am:(x==("__classdict__":Str))=false)(la:(h1.endLine==p9.line)=true)(aM:fF e=false)(g:Good c A e w)(aX:c.Ok):f6 c A (.Expr (.Call (.Attribute (.Name x np) "extend" h1) [e] [] p9) pos) λr J K=>hY r[i]? λ_=>w r J (Mr i r K):=by intro O s ac C r J k K Q I F ag h;obtain⟨l,bm,ag⟩:=hY.dr ag;obtain⟨a,Vs,n,bY,br,dM,gL,ky⟩:=(F.bD.slots x i _ aA bm).of;refine y1 (x5 rfl la (nf aM)<|rn (rK F.bD.kind bY am ?_) bg) (by unfold PySem.interactive;rw[F.bD.kind];rfl) rfl;refine⟨"list","list.extend",PySem.F.plainAttrs_list,PySem.F.slot_list_extend,PySem.F.type_list_extend,⟨_,dM,rfl⟩,λb av=>by cases av;exact⟨_,dM,rfl⟩,?_⟩;refine PySem.P.extend_list<|g.use I F ag λv db e V bL bs a0 bU bn co=>?_;have er:=(bn.kept a _ dM<|by rw[br];trivial).2.trans br;obtain⟨hi,Vs,n,jv,gC,lT,m7,B1⟩:=(bU.bD.slots x i _ aA bm).of;obtain rfl:=a0.uniq hi a (gC.trans er.symm) (by rw[gC];trivial);obtain⟨Ng,rfl,ap,e⟩:=kd.dr<|hY.at bm e;have ah:=m7.length;obtain⟨b,bC,Zr,rfl,iz,n2,pz⟩:=oT co;clear co;have I3:=n2.length;have eL:l.length+Ng.length<=16777216:=ap;refine⟨b,Vs.toArray,bC.toArray,n,Zr,by rw[eo,ah];unfold sizeLine;exact fK ‹_›,by rw[eo,eo,ah,I3];unfold sizeLine;exact iL ‹_›,extend_door (by rw[eo,eo,ah,I3];exact ap),rfl,lT,a0.a4 _ _ iz,?_⟩;obtain⟨dI,y,cX⟩:=E2 aX aA a0 bU jv gC lT (f:=λbM=>bM++bC.toArray) (bC:=Vs++bC) (by simp) (m7.append n2) (by rw[c_];exact ap);exact h _ _ _ e _ bL _ dI (bn.zero.trans y) cX .go
theorem Rb{o e:ĳ}{h1 p9 pos:Pos}{e' w:dm}(av:lB o=false)(la:(h1.endLine==p9.line)=true)(aM:fF e=false)(go:Good c A o e')(g:Good c A e w)(aX:c.Ok):f6 c A (.Expr (.Call (.Attribute o "append" h1) [e] [] p9) pos) λr J K=>e' r J (EW w r K):=by
 intro O s ac C r J k K Q I F ag h;refine y1 (x5 (wn av) la (nf aM)<|go.use I F ag λx Cr e X dp eO ni lq tt c8=>ax.dr e λz TD e=>?_) (by unfold PySem.interactive;rw[F.bD.kind];rfl) rfl;obtain⟨n,ı,rfl,Ut⟩:=Vv TD;obtain⟨a,Đ,U5,rfl,bY,br,-,-⟩:=pF ni c8 Ut;refine⟨"list","list.append",PySem.F.plainAttrs_list,PySem.F.slot_list_append,PySem.F.type_list_append,⟨_,br,rfl⟩,λb av=>by cases av;exact⟨_,br,rfl⟩,?_⟩;refine PySem.P.append_list<|g.use ni lq e λv db e V bL bs a0 bU bn co=>?_;obtain⟨l,bm,ap,e⟩:=gZ.dr e;obtain⟨hi,Vs,kn,l8,dA,er,f_,jE⟩:=pF a0 (bn.hn ni c8) bm;cases l8;have eL:l.length+1<=16777216:=ap;refine⟨Vs.toArray,kn,by rw[eo,f_.length];unfold sizeLine;exact fK ‹_›,er,?_⟩;obtain⟨m,aN⟩:=A7 (Vs:=Vs) (bC:=Vs++[V]) (n:=kn) (f:=λbM=>bM.push V) (by simp);have new:(bs.heap.update a<|Obj.mapSeq λbM=>bM.push V).get? a=some (cw (Vs++[V]).toArray m):=by rw[tp _ er rfl,aN]
 obtain⟨dI,y,cX⟩:=Ed a0 bU dA (λb o av e=>(Dc _ _<|h5 av).trans e) new (.ls dA new (f_.append<|.cons co .nil)<|by rw[c_];exact ap) bs.toks;exact h _ _ _ e _ bL _ dI ((tt.trans bn).zero.trans y) cX .go
theorem FV{ac:Env}{C:aY}{r:aK}{J:St}{s:Qj}{k i:Ĵ}{aL:cr}{a:Addr}{o:Obj}(I:c.I C J s)(F:c.F C ac r s.heap k)(ak:C a=.own i)(az:s.heap.get? a=some o)(t3:∀x,c.ns.lookup x=some i->mF c.P (cD C a<|.a4 o) ac s.heap i x aL):c.I (cD C a<|.a4 o) J s/\ey C s (cD C a<|.a4 o) s/\c.F (cD C a<|.a4 o) ac (r.set i aL) s.heap k:=by
 have Wn:∀{b cu},C b=.a4 cu->b≠a:=by rintro b cu e rfl;rw[ak]at e;exact bP e rfl
 have ZC:∀{b n},C b=.st n->b≠a:=by rintro b cu e rfl;rw[ak]at e;exact bP e rfl
 have W2:∀{b n},C b=.cH n->b≠a:=by rintro b cu e rfl;rw[ak]at e;exact bP e rfl
 have d7:∀b cu,C b=.a4 cu->cD C a (.a4 o) b=.a4 cu:=λb cu e=>(bV<|Wn e).trans e;have eU:∀b n,C b=.st n->cD C a (.a4 o) b=.st n:=λb cu e=>(bV<|ZC e).trans e;refine⟨I.turn (by rw[ak];trivial) az,⟨λb cu e cc=>⟨e,bV<|by rintro rfl;rw[ak]at cc;exact cc⟩,eU,λb n e=>(bV<|W2 e).trans e⟩,⟨⟨F.bD.kind,F.bD.glob,F.bD.lU,(bV (by intro q;have:=F.bD.loc;rw[q,ak]at this;exact bP this rfl)).trans F.bD.loc,F.bD.l2,λy a2=>?_,λy j q8 G E=>?_⟩,F.gl,F.st,F.cl⟩⟩
 .obtain⟨be,v,bY,br,dM⟩:=F.bD.cells y a2;exact⟨be,v,bY,(bV<|by rintro rfl;rw[ak]at br;exact bP br rfl).trans br,dM⟩
 .by_cases q:j=i
  .subst q;rw[q2]at E;simp only[qv]at E;split at E
   .cases E;exact t3 y G
   .exact b4 E
  .rw[nu<|h5 q]at E;have no:∀{b},C b=.own j->b≠a:=by rintro b e rfl;rw[ak]at e;cases e;exact q rfl
   induction F.bD.slots y j q8 G E with
   |un=>exact .un
   |val x y=>exact .val x<|y.mono d7 eU
   |ol x b d e f=>exact .ol x ((bV<|no b).trans b) d (e.mono d7 eU) f
   |od x b d e f g=>exact .od x ((bV<|no b).trans b) d (e.mono d7 eU) f g
theorem Vg{cR:Lm Stmt}{i:Ĵ}{w:ox}(aX:c.Ok)(ay:∃x,c.ns.lookup x=some i)(g:nb c A cR w):nb c A cR λr J K=>rO r[i]? (w r J K) λv=>w (r.set i<|.val v) J K:=by
 intro O s ac C r J k K Q I F e h;obtain⟨x,ay⟩:=ay;have bm:=F.bD.slots x i;generalize r[i]?=o at e bm;induction o with
 |none=>exact e.elim
 |some aL=>
  have bm:=(bm aL ay rfl).of;induction aL with
  |un=>exact g O s ac C r J k K Q I F e h
  |val v=>exact g O s ac C r J k K Q I F e h
  |ol l=>
   obtain⟨a,Vs,n,bY,br,dM,gL,ky⟩:=bm;obtain⟨a0,bn,bU⟩:=FV (aL:=.val<|.lst l) I F br dM λy a2=>by obtain rfl:=aX.rg _ _ _ a2 ay;exact .val bY<|.lst (c3 _ _ _) (gL.mono (λb o e=>(bV<|by rintro rfl;rw[br]at e;exact bP e rfl).trans e)<|λb o e=>(bV<|by rintro rfl;rw[br]at e;exact bP e rfl).trans e) ky
   exact g.use a0 bU bn e h
  |od l=>
   obtain⟨a,cA,n,bY,br,dM,gL,ky,xa⟩:=bm;obtain⟨a0,bn,bU⟩:=FV (aL:=.val<|.a9 l) I F br dM λy a2=>by obtain rfl:=aX.rg _ _ _ a2 ay;exact .val bY (.a9 (c3 _ _ _) (gL.mono (λb o e=>(bV<|by rintro rfl;rw[br]at e;exact bP e rfl).trans e)<|λb o e=>(bV<|by rintro rfl;rw[br]at e;exact bP e rfl).trans e) ky xa<|CO I aX.sys<|by rw[br];trivial)
   exact g.use a0 bU bn e h
theorem kJ.dr{o:Ĳ cr}{f:Lm (B×B)->Prop}(h:kJ o f):∃l,o=some (.od l)/\f l:=by
 induction o with
 |none=>exact h.elim
 |some x=>induction x<;>first|exact⟨_,rfl,h⟩|exact h.elim
theorem kJ.at{o:Ĳ cr}{l:Lm (B×B)}{f:Lm (B×B)->Prop}(q:o=some (.od l))(h:kJ o f):f l:=by rw[q]at h;exact h
theorem X4{wj e:ĳ}{x:Str}{np bk pos:Pos}{i:Ĵ}{nw w:dm}(a5:A.units+16<cLine)(aA:c.ns.lookup x=some i)(bg:(x==("__debug__":Str))=false)(am:(x==("__classdict__":Str))=false)(ap:iD e=false)(g:Good c A e w)(cx:Good c A wj nw)(aX:c.Ok):f6 c A (.Assign [.Subscript (.Name x np) wj bk] e pos) λr J K=>kJ r[i]? λ_=>w r J (hD nw r<|Fh i r K):=by intro O s ac C r J k K Q I F ag h;obtain⟨l,bm,ag⟩:=kJ.dr ag;refine wpAny_Assign_Subscript (g.use I F ag λv db e V bL bs a0 bU bn co=>?_)<|rQ ap;obtain⟨a,es,n,bY,br,dM,gL,ky,xa⟩:=(bU.bD.slots x i _ aA bm).of;refine rn (rK bU.bD.kind bY am<|cx.use a0 bU e λpy dZ e K cn b7 cd eb bK ab=>?_) bg;obtain⟨a7,e⟩:=kJ.at bm e;have er:=(bK.kept a _ dM<|by rw[br];trivial).2.trans br;obtain⟨hi,es,n,jv,gC,lT,m7,B1,YM⟩:=(eb.bD.slots x i _ aA bm).of;obtain rfl:=cd.uniq hi a (gC.trans er.symm) (by rw[gC];trivial);refine ax.dr e λdh fv e=>FZ a5 cd ⟨lT,m7,YM,B1⟩ a7 ab (bK.hn a0 co) fv λaR t cA n' LM W4 Z' ë=>?_;obtain⟨dI,y,cX⟩:=E7 aX aA cd eb jv gC (λb o av e=>(ë.2 b av).trans e) LM (λv=>.od v gC LM W4 e.1 Z') t;exact h _ _ _ e.2 _ cn _ dI ((bn.trans bK).zero.trans y) cX .go
theorem VK{prog:Program}{w:World}{O:Ę->Qj->Prop}{s:Qj}{a:Addr}{Vs:Lm Ę}{n j:Ĵ}{k:ĵ}(aE:k=Int.ofNat j){t:Tok}{V:Ę}{Q:Unit->Qj->Prop}(az:s.heap.get? a=some (cw Vs.toArray n))(b8:j<Vs.length)(hsz:Vs.length<=16777216)(eP:∀aR m,aR.get? a=some (cw (Vs.set j V).toArray m)->Heap.SameBut a s.heap aR->Q () {s with heap:=aR}):wpAny (model prog w) A (setItem (.ref a) (.int k t) V) Q O s:=by
 have aF:(0:ĵ)<=k:=by rw[aE];exact nt j
 have G:k<(2^63:ĵ):=by rw[aE];exact iM.mpr<|show j<2^63 from gI b8<|aJ hsz<|aH rfl
 have i6:=fitsIndex_of aF G;have ah:s.heap.IsList a Vs.toArray:=hW az;unfold setItem;try with_reducible refine gU ?_
 first|refine bc (b1 ?_)|skip
 refine bc<|uU ah.typeIs (by decide) ?_;refine bc<|sf (name:=Str.ofString "__setitem__") ah.typeIs slot_list_setitem<|mH slot_list_setitem ah.typeIs entry_list_setitem ?_<|args_list_setitem _ _ _;show wpAny _ _ (Builtin.List.listSubscript? (.int k t)>>=_) _ _ s;refine bc<|wpAny_listSubscript_int i6 ?_;clear i6 aF G;subst aE;have ZF:j<Vs.toArray.size:=by simpa using b8
 show wpAny _ _ ((seqItemAt a j>>=λr=>pure<|r.map (j,·))>>=_) _ _ s;refine bc<|bc<|wpAny_seqItemAt az rfl<|b1 ?_;rw[(Array.getElem?_eq_getElem ZF:Vs.toArray[j]?=some Vs.toArray[j])];show wpAny _ _ (setSeqItemAt a j V>>=_) _ _ s;have HU:Vs.toArray.setIfInBounds j V=(Vs.set j V).toArray:=by simp
 obtain⟨m,aN⟩:=A7 (Vs:=Vs) (bC:=Vs.set j V) (n:=n) (f:=(·.setIfInBounds j V)) HU;clear HU;have sy:(s.heap.update a<|Obj.mapSeq (·.setIfInBounds j V)).get? a=some (cw (Vs.set j V).toArray m):=by rw[tp _ az (by rw[aN];rfl),aN]
 refine bc<|wpAny_setSeqItemAt az rfl ?_;first
  |exact bc (b1 (b1 ⟨.none,rfl,b1 (eP _ m sy (vZ ..))⟩))
  |exact b1 ⟨.none,rfl,b1 (eP _ m sy (vZ ..))⟩
theorem PG{J bE:St}{x py v:B}(e:Fp J x py v=some bE):∃n,x=.ref n/\((∃l j,J[n]?=some (.ls l)/\dY (py=.int (.ofNat j)) (j<l.length) (bE=J.set n (.ls<|l.set j v)))\/∃l dh,J[n]?=some (.cN l)/\hP (ej py l=true) (hh py v l=some dh) (dh.length<=a3) (bE=J.set n (.cN dh))):=by
 induction x using B.casesOn with
 |ref n=>
  obtain⟨cp,bm,e⟩:=bind_some<|show(J[n]?).bind _=some bE from e;refine⟨n,rfl,?_⟩;induction cp with
  |ls l=>
   induction py using B.casesOn with
   |int i=>induction i with
    |ofNat j=>obtain⟨b8,e⟩:=hj<|show(if j<l.length then some (J.set n<|.ls<|l.set j v)else none)=some bE from e;exact .inl ⟨l,j,bm,rfl,b8,(cY e).symm⟩
    |negSucc=>exact b4 e
   |_=>exact b4 e
  |cN l=>obtain⟨a7,e⟩:=hj<|show(if ej py l=true then(hh py v l).bind λl=>i7 l.length (J.set n<|.cN l)else none)=some bE from e;obtain⟨dh,ag,e⟩:=bind_some e;obtain⟨ap,e⟩:=vk e;exact .inr ⟨l,dh,bm,a7,ag,ap,e.symm⟩
  |ins=>exact b4 e
 |_=>exact b4 e
theorem MM{dB t5 e:ĳ}{bk pos:Pos}{e' fG w:dm}(a5:A.units+16<cLine)(ap:iD e=false)(g:Good c A e w)(go:Good c A dB e')(gF:Good c A t5 fG)(aX:c.Ok):f6 c A (.Assign [.Subscript dB t5 bk] e pos) λr J K=>w r J (hD e' r λv=>hD fG r<|Ku r K v):=by
 intro O s ac C r J k K Q I F ag h;refine wpAny_Assign_Subscript (g.use I F ag λv db e V bL bs a0 bU bn co=>go.use a0 bU e λx dZ e X cn b7 cd eb bK c8=>gF.use cd eb e λpy wI e Ė kk f' fR jN fs ab=>ax.dr e λbE kF e=>?_)<|rQ ap;have LD:=(bK.trans fs).hn a0 co;have E0:=fs.hn cd c8;have kL:=((bn.trans bK).trans fs).zero;obtain⟨n,rfl,⟨l,j,bm,rfl,b8,rfl⟩|⟨l,dh,bm,a7,kG,g',rfl⟩⟩:=PG kF
 .obtain⟨a,Vs,Bt,rfl,dA,er,f_,jE⟩:=pF fR E0 bm;obtain⟨t,rfl⟩:=xC ab;clear ab;have ah:=f_.length;have Ğ:l.length<=16777216:=jE;refine VK rfl er (by omega) (by omega) λaR m new m7=>?_;obtain⟨dI,y,cX⟩:=Ed fR jN dA (λb o av e=>(m7.2 b av).trans e) new (.ls dA new (f_.set LD j)<|by rw[List.length_set];exact jE) f'.toks;exact h _ _ _ e _ kk _ dI (kL.trans y) cX .go
 .obtain⟨a,es,Bt,rfl,dA,D⟩:=CU fR E0 bm;refine FZ a5 fR D a7 ab LD kG λaR t cA n' jv gC lT m7=>?_;obtain⟨dI,y,cX⟩:=Ed fR jN dA (λb o av e=>(m7.2 b av).trans e) jv (.cN dA jv gC g' lT) t;exact h _ _ _ e _ kk _ dI (kL.trans y) cX .go
section
variable{prog:Program}{w:World}{A:Around}{s:Qj}{K:Frag}{x ai:Addr}{R:Result->Qj->Prop}
set_option tactic.hygienic true in
theorem YA{Aw od uT:Obj}{qe:Addr}{name:Str}{cJ:Tok}{v:Ę}{es:Lm DictEntry}{n:Ĵ}(D:s.heap.get? qe=some od)(X:K.In s.heap)(I:InstAt s.heap x Aw ai (some od))(bg:Aw.dict=some qe)(ae:plainOver K ai=true)(dU:takerIn K ai name=some none)(cc:(clsIn K ai).any (·.hasDict)=true)(ah:(lookIn name od).isSome=true)(e:Obj.putName name (PyData.keyHash w.params name) (.str name s.toks) v od=uT)(bx:uT.data=.dict es.toArray n)(hz:es.length<=1000)(h:∀aR,aR.get? qe=some uT->Heap.SameBut qe s.heap aR->R (.ok<|.ret .none) {s with heap:=aR,toks:=s.toks+1}):codeAny (model prog w) A (.call (.builtin "object.__setattr__") ⟨[.ref x,.str name cJ,v],[]⟩) R s:=by
 refine osa_open X I ae dU λb=>?_;obtain⟨nQ,ap,k'⟩:=PySem.W.any_some cc;clear cc;have zs:(s.heap.update qe<|Obj.putName name (PyData.keyHash w.params name) (.str name s.toks) v).get? qe=some uT:=by rw[tp _ D (by rw[e];obtain⟨_,_,ef,_⟩:=uT;subst bx;rfl),e]
 obtain⟨ay,eQ,am,-⟩:=I;obtain⟨ď,İ,Ĩ,Ħ⟩:=Aw;dsimp only at eQ bg;subst eQ bg;refine bc<|b1<|bc<|bc<|wpAny_loadPart ay<|bc<|(looks_clsIn X ap).here ?_;rw[k'];refine b1 (a:=some qe)<|bc<|b1<|bc ?_;unfold nsSet;refine bc<|bc<|wpAny_askSetting<|b1<|bc<|wpAny_mkText<|bc<|wpAny_loadPart D ?_;unfold lookIn at ah;split at ah
 .rename_i FG Ċ q;rw[q];dsimp only;have c:(!FG.any (·.key.isStr name)&&FG.any (·.refKey))=false:=by
   rw[<-Array.any_toList,<-Array.any_toList];split at ah
   .rename_i Bo a6;rw[rq.mpr ⟨Bo,ue a6,r1 a6⟩];rfl
   .split at ah
    .exact cq ah
    .rename_i z;rw[wS]at z;rw[z,s0]
  rw[aRefKeyMayBeTheName_at,c];refine wpAny_updatePart D ?_;refine bc<|wpAny_lookBehind zs (by rw[bx];exact pastItsLine_dict<|by rw[eo,kK];exact fK ‹_›) ?_;exact b1<|h _ zs (vZ ..)
 .exact cq ah
end
theorem HZ{P:Params}{C:aY}{an:Ĵ->Str}(inj:∀a b,an a=an b->a=b){a:Ĵ}{v:B}{V:Ę}{t:Tok}(af:bz P C v V){l:Lm (Ĵ×B)}{es:Lm DictEntry}(h:iF P C an l es):iF P C an (putAt a v l) (putL (an a) (PyData.keyHash P<|an a) (.str (an a) t) V es):=by
 induction h with
 |nil=>exact .cons af .nil
 |@cons b w cJ W l es bF r ar=>
  show iF P C an (if b=a then(b,v)::l else(b,w)::putAt a v l)<|if(Value.str (an b) cJ).isStr (an a)=true then _ else _;by_cases q:b=a
  .rw[bl q,bl<|show(Value.str (an b) cJ).isStr (an a)=true from fN.mpr<|bX an q];exact .cons af r
  .rw[bt q,bt<|show¬(Value.str (an b) cJ).isStr (an a)=true from λe=>q<|inj _ _<|fN.mp e];exact .cons bF ar
theorem Ze{P:Params}{C:aY}{an:Ĵ->Str}{l:Lm (Ĵ×B)}{es:Lm DictEntry}(h:iF P C an l es):es.length=l.length:=by
 induction h with
 |nil=>rfl
 |cons _ _ ar=>exact bX Nat.succ ar
theorem XK{a:Ĵ}{v:B}{l:Lm (Ĵ×B)}:(l.map Prod.fst).Nodup->((putAt a v l).map Prod.fst).Nodup/\∀x,x∈(putAt a v l).map Prod.fst->x=a\/x∈l.map Prod.fst:=by
 induction l with
 |nil=>exact λ_=>⟨hT.mpr ⟨λh=>(nomatch h),q1⟩,λx h=>.inl<|cV.mp h⟩
 |cons p l ar=>
  intro h;show((if p.1=a then(p.1,v)::l else p::putAt a v l).map Prod.fst).Nodup/\∀x,x∈(if p.1=a then(p.1,v)::l else p::putAt a v l).map Prod.fst->x=a\/x∈p.1::l.map Prod.fst;by_cases q:p.1=a
  .rw[bl q];exact⟨h,λ_ h=>.inr h⟩
  .rw[bt q];obtain⟨c5,bj⟩:=hT.mp h;clear h;obtain⟨G,E⟩:=ar bj;clear ar bj;refine⟨hT.mpr ⟨λaN=>(E _ aN).elim q c5,G⟩,λx ay=>?_⟩;cases ay with
   |head=>exact .inr<|.head _
   |tail _ ay=>exact(E x ay).imp id<|.tail _
theorem OZ{a:Ĵ}{v:B}{l:Lm (Ĵ×B)}:(putAt a v l).length<=l.length+1:=by
 induction l with
 |nil=>exact dy _
 |cons p l ar=>
  show(if p.1=a then(p.1,v)::l else p::putAt a v l).length<=_;by_cases q:p.1=a
  .rw[bl q];exact j5 _
  .rw[bt q];exact da ar
theorem Mh{P:Params}{C:aY}{an:Ĵ->Str}{l:Lm (Ĵ×B)}{es:Lm DictEntry}(h:iF P C an l es):es.any (·.refKey)=false:=by
 induction h with
 |nil=>rfl
 |cons _ _ ar=>exact ar
theorem Ë{P:Params}{C:aY}{an:Ĵ->Str}{l:Lm (Ĵ×B)}{es:Lm DictEntry}{n:Ĵ}{x:Str}(h:iF P C an l es):(lookIn x<|ew es.toArray n).isSome=true:=by
 unfold lookIn;simp only[ew];induction es.find? (·.key.isStr x)with
 |some e=>rfl
 |none=>simp only[Mh h,rD,ri];rfl
theorem Fs(aX:c.Ok){O:Ę->Qj->Prop}{s:Qj}{C:aY}{J bE:St}{o v:B}{X V:Ę}{a:Ĵ}{Q:Unit->Qj->Prop}(I:c.I C J s)(dW:bz c.P C o X)(co:bz c.P C v V)(ak:a<33)(e:oh J o a v=some bE)(h:∀aq d,¬(C d).free->¬(C d).ig->c.I C bE aq->ey C s C aq->(∀b o,b≠d->s.heap.get? b=some o->aq.heap.get? b=some o)->Q () aq):wpAny c.M A (setAttr X (c.N.an a) V) Q O s:=by
 replace e:=pa.of e;obtain⟨n,be,l,rfl,aM,e⟩:=e;obtain⟨dP,e⟩:=hj e;cases e;obtain⟨x,d,es,k,rfl,G,E,aB,ba,cO,d2,fp⟩:=Af I dW aM;have iO:=aX.iO be a fp ak;unfold storeOk at iO;rw[eW,eW,eW]at iO;obtain⟨⟨⟨c5,bj⟩,cK⟩,hU⟩:=iO;have IN:c.K.In s.heap:=λb o e=>I.lY _ _<|aX.ab b o e;have inst:InstAt s.heap x (kO (c.N.cl be) d) (c.N.cl be) (some<|ew es.toArray k):=⟨aB,rfl,rfl,ba⟩;refine set_plain (K:=c.K) IN inst (eE c5) ?_;have a0:=I.toks<|s.toks+1;refine YA (K:=c.K) (qe:=d) (od:=ew es.toArray k) (s:={s with toks:=s.toks+1}) ba IN inst rfl bj (eE cK) hU (Ë cO) (putName_dict _ _ _ _ _ _) rfl ?_ λaR jv gC=>?_
 .have qI:=Ze<|HZ (a:=a) (t:=s.toks+1) aX.inj co cO;have ei:=OZ (a:=a) (v:=v) (l:=l);exact aJ (fU qI) (by omega)
 .have bW:∀b o,b≠d->s.heap.get? b=some o->aR.get? b=some o:=λb o av e=>(gC.2 b av).trans e;have ay:aR.get? x=some (kO (c.N.cl be) d):=bW _ _ (by rintro rfl;rw[G]at E;exact bP E rfl) aB;exact h _ d (by rw[E];exact id) (by rw[E];exact id) (I.Kd (.inr E) bW (by rw[jv];rfl) (.ins G E ay jv (HZ (a:=a) (t:=s.toks+1) aX.inj co cO) (XK d2).1 fp)<|s.toks+1+1) (ey.C9 (by rw[E];exact id) bW _) bW
theorem MY{dB e:ĳ}{x:Str}{bk pos:Pos}{a:Ĵ}{e' w:dm}(aX:c.Ok)(ak:a<33)(ay:c.N.an a=x)(ap:iD e=false)(g:Good c A e w)(go:Good c A dB e'):f6 c A (.Assign [.Attribute dB x bk] e pos) λr J K=>w r J (hD e' r<|CN a r K):=by intro O s ac C r J k K Q I F ag h;subst ay;exact G2 (g.use I F ag λv db e V bL bs a0 bU bn co=>go.use a0 bU e λo dZ e X cn b7 cd eb bK c8=>ax.dr e λwI fv e=>Fs aX cd c8 (bK.hn a0 co) ak fv λaq d bY br fR fs bW=>h _ _ _ e _ cn aq fR ((bn.trans bK).zero.trans fs) (eb.other bY bW) .go)<|rQ ap
inductive o9 (c:cb) (C:aY) (s:Shared) (a:Addr):B->Prop where
 |lst {l:List B} {Vs:List Value} {n:Nat}:s.heap.get? a=some (cw Vs.toArray n)->bB c.P C l Vs->l.length<=a3->o9 c C s a (.lst l)
 |a9 {l:List (B×B)} {es:List DictEntry} {n:Nat}:iw c C s a l es n->(a==sysModules)=false->o9 c C s a (.a9 l)
def QB(c:cb)(C:aY)(s:Qj)(Q:Ę->Qj->Prop)(v:B)(bE:St):Prop:=∀a aP aq,c.I aP bE aq->bq C s aP aq->C a=.none->aP a=.ext->o9 c aP aq a v->Q (.ref a) aq
def p0(c:cb)(A:Around)(e:ĳ)(w:dm):Prop:=∀O s ac C r J k (K:B->St->Prop) (Q:Ę->Qj->Prop),c.I C J s->c.F C ac r s.heap k->w r J K->(∀v bE,K v bE->QB c C s Q v bE)->wpAny c.M A (eval e ac) Q O s
theorem Sg{es:Lm ĳ}{pos:Pos}{ec:nL}(gl:k0 c A es ec)(ah:es.length<=a3):p0 c A (.List es pos) λr J K=>ec r J (Cc K):=by
 intro O s ac C r J k K Q I F e h;refine wpAny_List<|gl.use I F e λvs db e Vs bL bs a0 bU bn af a6=>?_;rw[<-a6]at ah;refine⟨by rw[af.length];exact fK ah,?_⟩;have am:C bs.heap.objs.size=.none:=by
  induction q:C bs.heap.objs.size with
  |none=>rfl
  |_=>
   exfalso;obtain⟨o,az⟩:=g2.mp (I.alloc _<|by rw[q];intro z;exact bP z rfl);have:=a0.fresh (a:=bs.heap.objs.size)<|dy _;first
    |(have z:=(bn.kept _ o az<|by rw[q];trivial).2;rw[this,q]at z;exact bP z rfl)
    |(have z:=bn.st _ _ q;rw[this]at z;exact bP z rfl)
    |(have z:=bn.cH _ _ q;rw[this]at z;exact bP z rfl)
 have bK:=bq.push a0 (cw Vs.toArray 0) .ext;exact h _ _ e _ _ _ (a0.push (cw Vs.toArray 0) rfl .ext<|.inr rfl) (bn.trans bK) am (c3 _ _ _)<|.lst (gO _ rfl) (bK.iQ a0 af) ah
theorem J5{pos:Pos}(aX:c.Ok):p0 c A (.Dict [] [] pos) λ_ J K=>K (.a9 []) J:=by intro O s ac C r J k K Q I F e h;have am:=I.fresh (a:=s.heap.objs.size)<|dy _;refine wpAny_Dict_empty<|h _ _ e _ _ _ (I.push (ew #[] 0) rfl .ext<|.inr rfl) (bq.push I (ew #[] 0) .ext) am (c3 _ _ _)<|.a9 (es:=[]) ⟨gO _ rfl,.nil,q1,f7 _⟩ ?_;rw[lf];intro q;obtain⟨o,az⟩:=aX.sys;have:=I.base _ o az;rw[<-q,am]at this;exact bP this rfl
def hM (C:aY) (a:Addr) (i:Ĵ):aY:=λb=>if b=a then .own i else match C b with
 |.own j=>if j=i then .ext else .own j
 |r=>r
theorem sM(C:aY)(a:Addr)(i:Ĵ):hM C a i a=.own i:=bl rfl
theorem mq{C:aY}{a b:Addr}{i:Ĵ}{r:eI}(av:b≠a)(e:C b=r)(bm:∀j,r=.own j->j≠i):hM C a i b=r:=by
 unfold hM;rw[bt av,e];induction r with
 |own j=>simp only[bt<|bm j rfl]
 |_=>rfl
theorem qY{C:aY}{a b:Addr}{i:Ĵ}{r:eI}(av:b≠a)(e:hM C a i b=r)(bm:r≠.ext):C b=r:=by
 unfold hM at e;rw[bt av]at e;induction h:C b using eI.casesOn with
 |own j=>
  rw[h]at e;simp only at e;split at e
  .exact absurd e.symm bm
  .exact e
 |_=>rw[h]at e;exact e
section
variable{P:Params}{N:g1}{H:Heap}{os:OsState}{C:aY}{J:St}{s:Qj}
theorem Inv.hM(I:Inv P N H os C J s){a:Addr}{i:Ĵ}(ak:C a=.ext):Inv P N H os (hM C a i) J s:=by
 have keep:∀{b:Addr} {r:eI},C b=r->r≠.ext->(∀j,r≠.own j)->Up.hM C a i b=r:=λe G E=>mq ((λe h q=>h<|e.symm.trans<|q▸ak) e G) e λj q=>absurd q<|E j;refine⟨λb h=>?_,λb ev e h=>?_,λb o e=>?_,λn cp e=>(I.store n cp e).mono (λb o e=>keep e (λq=>(nomatch q)) λj q=>(nomatch q)) (λb m e=>keep e (λq=>(nomatch q)) λj q=>(nomatch q)) (λb m e=>keep e (λq=>(nomatch q)) λj q=>(nomatch q)) λb o _ e=>e,λb o e=>keep (I.base b o e) (λq=>(nomatch q)) λj q=>(nomatch q),I.gens,I.hJ,λb n e=>?_⟩
 .by_cases q:b=a
  .subst q;exact I.alloc b (by rw[ak];intro z;exact bP z rfl)
  .refine I.alloc b λz=>h ?_;rw[mq q z λj w=>(nomatch w)]
 .by_cases fc:b=a
  .by_cases nO:ev=a
   .rw[fc,nO]
   .rw[fc,sM]at e;have:=qY nO e.symm<|λz=>(nomatch z);have E:=mq (i:=i) (a:=a) nO this;exfalso;unfold Up.hM at e;rw[bt nO,this]at e;simp at e
  .by_cases nO:ev=a
   .rw[nO,sM]at e;have:=qY fc e<|λz=>(nomatch z);exfalso;unfold Up.hM at e;rw[bt fc,this]at e;simp at e
   .have e_:Up.hM C a i b≠.ext:=λz=>by rw[z]at h;exact h
    have ag:=qY fc rfl e_;exact I.uniq b ev (ag.trans (qY nO e.symm e_).symm) (by rw[ag];exact h)
 .by_cases q:b=a
  .subst q;rw[sM]at e;exact bP e rfl
  .exact I.a4 b o<|qY q e<|λz=>(nomatch z)
 .by_cases q:b=a
  .subst q;rw[sM]at e;rcases e with e|e<;>exact bP e rfl
  .rcases e with e|e
   .exact I.gD b n<|.inl<|qY q e<|λz=>(nomatch z)
   .exact I.gD b n<|.inr<|qY q e<|λz=>(nomatch z)
end
theorem G'{C:aY}{s:Qj}{a:Addr}{i:Ĵ}(dp:aY)(eO:Qj)(x:ey dp eO C s)(am:dp a=.none)(ak:C a=.ext):ey dp eO (hM C a i) s:=by
 refine⟨λb o e cc=>?_,(λb n e=>mq (by rintro rfl;rw[am]at e;exact bP e rfl) (x.st b n e) λj q=>(nomatch q):∀b n,dp b=.st n->hM C a i b=.st n),(λb n e=>mq (by rintro rfl;rw[am]at e;exact bP e rfl) (x.cH b n e) λj q=>(nomatch q):∀b n,dp b=.cH n->hM C a i b=.cH n)⟩;obtain⟨ag,a8⟩:=x.ig b o e cc;have av:b≠a:=by rintro rfl;rw[am]at cc;exact cc
 refine⟨ag,?_⟩;rw[mq av a8 λj q=>?_];rw[q]at cc;exact cc.elim
def MF:B->Ĳ cr
 |.lst l=>some<|.ol l
 |.a9 l=>some<|.od l
 |_=>none
theorem LL{C:aY}{ac:Env}{s aq:Qj}{x:Str}{r:aK}{k i:Ĵ}{a:Addr}{v:B}{aL:cr}{J:St}(aX:c.Ok)(I:c.I C J s)(aT:Bound c C ac s x (.ref a) aq)(F:c.F C ac r s.heap k)(aA:c.ns.lookup x=some i)(ak:C a=.ext)(af:o9 c C s a v)(aM:MF v=some aL):c.F (hM C a i) ac (r.set i aL) aq.heap k:=by
 have d7:∀b o,C b=.a4 o->hM C a i b=.a4 o:=λb o e=>mq (by rintro rfl;rw[ak]at e;exact bP e rfl) e λj q=>(nomatch q);have eU:∀b n,C b=.st n->hM C a i b=.st n:=λb n e=>mq (by rintro rfl;rw[ak]at e;exact bP e rfl) e λj q=>(nomatch q);have en:∀o,s.heap.get? a=some o->aq.heap.get? a=some o:=λo e=>aT.keep a o (λk q=>by rw[ak]at q;exact bP q rfl) (λy q=>by rw[ak]at q;exact bP q rfl) e;refine⟨⟨F.bD.kind,F.bD.glob,F.bD.lU,mq (by intro q;have:=F.bD.loc;rw[q,ak]at this;exact bP this rfl) F.bD.loc λj q=>(nomatch q),aT.ns,λy a2=>?_,λy j q8 G E=>?_⟩,F.gl,F.st,F.cl⟩
 .obtain⟨be,w,bY,br,dM⟩:=aT.cells y a2;exact⟨be,w,bY,mq (by rintro rfl;rw[ak]at br;exact bP br rfl) br λj q=>(nomatch q),dM⟩
 .by_cases q:j=i
  .subst q;obtain rfl:=aX.rg _ _ _ G aA;rw[q2]at E;simp only[qv]at E;split at E
   .cases E;induction af with
    |lst c5 bj cK=>cases aM;exact .ol aT.new (sM _ _ _) (en _ c5) (bj.mono d7 eU) cK
    |a9 D g=>cases aM;exact .od aT.new (sM _ _ _) (en _ D.at_) (D.rel.mono d7 eU) D.a3 D.nodup
   .exact b4 E
  .have a2:y≠x:=by rintro rfl;rw[aA]at G;exact q (cY G).symm
   rw[nu<|h5 q]at E;have xX:∀{b:Addr} {o:Obj},C b=.own j->s.heap.get? b=some o->aq.heap.get? b=some o:=λb e=>aT.keep _ _ (λk q=>by rw[b]at q;exact bP q rfl) (λz q=>by rw[b]at q;exact bP q rfl) e;have Ls:∀{b:Addr},C b=.own j->hM C a i b=.own j:=λe=>mq (by rintro rfl;rw[ak]at e;exact bP e rfl) e λve z=>by cases z;exact q
   induction F.bD.slots y j q8 G E with
   |un=>exact .un
   |val p b=>exact .val (aT.old y _ a2 p)<|b.mono d7 eU
   |ol p b d e f=>exact .ol (aT.old y _ a2 p) (Ls b) (xX b d) (e.mono d7 eU) f
   |od p b d e f g=>exact .od (aT.old y _ a2 p) (Ls b) (xX b d) (e.mono d7 eU) f g
theorem Mx{e:ĳ}{x:Str}{eB pos:Pos}{i:Ĵ}{w:dm}{O:Ę->Qj->Prop}{s:Qj}{ac:Env}{C:aY}{r:aK}{J:St}{k:Ĵ}{K:ck->aK->St->Prop}{Q:Flow->Qj->Prop}(aX:c.Ok)(av:swapsWith e (some<|.Name x eB) pos.line ac=pure false)(aA:c.ns.lookup x=some i)(ay:c.b5 x=true)(g:p0 c A e w)(I:c.I C J s)(F:c.F C ac r s.heap k)(ag:w r J (u5 i r K))(h:∀cM b0 bE,K cM b0 bE->xJ c C s ac k Q cM b0 bE):wpAny c.M A (exec (.Assign [.Name x eB] e pos) ac) Q O s:=by
 refine DR (g O s ac C r J k _ _ I F ag λv db e a bL bs a0 bn am ak af=>BV a0 (F.ext I bn) ay λaq aT=>?_) av;have key:∀aL,MF v=some aL->K .go (r.set i aL) db->Q .next aq:=λaL aM e=>h _ _ _ e _ _ aq ((aT.I a0).hM ak) (G' C s (bn.zero.trans aT.ext) am ak) (LL aX a0 aT (F.ext I bn) aA ak af aM) .go
 induction v using B.casesOn with
 |lst l=>exact key _ rfl e
 |a9 l=>exact key _ rfl e
 |_=>exact False.elim e
theorem ñ{e:ĳ}{x:Str}{eB pos:Pos}{i:Ĵ}{w:dm}(aX:c.Ok)(ap:iD e=false)(aA:c.ns.lookup x=some i)(ay:c.b5 x=true)(g:p0 c A e w):f6 c A (.Assign [.Name x eB] e pos) λr J K=>w r J (u5 i r K):=λO s ac C r J k K Q I F ag h=>Mx aX (rQ ap) aA ay g I F ag h
section
variable{P:Params}{N:g1}{H:Heap}{os:OsState}{C:aY}{J:St}{s:Qj}
theorem Inv.C0(I:Inv P N H os C J s){a:Addr}(ak:C a=.ext){cp:dd}(aM:∀aP,aP a=.st J.length->(∀b o,C b=.a4 o->aP b=.a4 o)->(∀b n,C b=.st n->aP b=.st n)->lM P N aP s.heap J.length cp):Inv P N H os (cD C a<|.st J.length) (J++[cp]) s:=by
 have ne:∀{b:Addr} {r:eI},C b=r->r≠.ext->b≠a:=λe h q=>h<|e.symm.trans<|q▸ak;have G:∀b o,C b=.a4 o->cD C a (.st J.length) b=.a4 o:=λb o e=>(bV<|ne e<|λq=>(nomatch q)).trans e;have E:∀b n,C b=.st n->cD C a (.st J.length) b=.st n:=λb o e=>(bV<|ne e<|λq=>(nomatch q)).trans e;refine⟨λb h=>?_,λb ev e h=>?_,λb o e=>?_,λn Cm e=>?_,λb o e=>G _ _<|I.base b o e,I.gens,I.hJ,λb n e=>?_⟩
 .by_cases q:b=a
  .subst q;exact I.alloc b (by rw[ak];intro z;exact bP z rfl)
  .rw[bV q]at h;exact I.alloc b h
 .by_cases gd:b=a
  .by_cases fc:ev=a
   .rw[gd,fc]
   .rw[gd,c3,bV fc]at e;exact absurd (I.gD ev J.length<|.inl e.symm)<|jZ _
  .rw[bV gd]at e h;by_cases fc:ev=a
   .rw[fc,c3]at e;exact absurd (I.gD b J.length<|.inl e)<|jZ _
   .rw[bV fc]at e;exact I.uniq b ev e h
 .by_cases q:b=a
  .subst q;rw[c3]at e;exact bP e rfl
  .rw[bV q]at e;exact I.a4 b o e
 .by_cases q:n<J.length
  .rw[o1 q]at e;exact(I.store n Cm e).mono G E (λb o e=>(bV<|ne e<|λq=>(nomatch q)).trans e:∀b n,C b=.cH n->cD C a (.st J.length) b=.cH n) λb o _ e=>e
  .have am:n=J.length:=by have:=(hb.mp e).1;rw[c_,pe]at this;omega
   subst am;rw[pf<|dy _,ut]at e;cases e;exact aM _ (c3 _ _ _) G E
 .rw[c_,pe];by_cases q:b=a
  .subst q;rw[c3]at e;rcases e with e|e<;>(first|exact bP e rfl|cases e)
   exact qD _
  .rw[bV q]at e;exact nA<|I.gD b n e
end
def Mg:B->Ĳ dd
 |.lst l=>some<|.ls l
 |.a9 l=>some<|.cN l
 |_=>none
theorem o9.C0{C:aY}{J:St}{s:Qj}{a:Addr}{v:B}{cp:dd}(I:c.I C J s)(ak:C a=.ext)(af:o9 c C s a v)(aM:Mg v=some cp):c.I (cD C a<|.st J.length) (J++[cp]) s:=by
 refine Inv.C0 I ak λaP G E aB=>?_;induction af with
 |lst c5 bj cK=>cases aM;exact .ls G c5 (bj.mono E aB) cK
 |a9 D g=>cases aM;exact .cN G D.at_ (D.rel.mono E aB) D.a3 D.nodup
theorem Uh{J bE:St}{v:B}(e:K3 J v=some bE):∃cp,Mg v=some cp/\bE=J++[cp]:=by
 induction v using B.casesOn with
 |lst l=>cases e;exact⟨_,rfl,rfl⟩
 |a9 l=>cases e;exact⟨_,rfl,rfl⟩
 |_=>exact b4 e
theorem SM{dB e:ĳ}{x:Str}{bk pos:Pos}{a:Ĵ}{e' w:dm}(aX:c.Ok)(ak:a<33)(ay:c.N.an a=x)(ap:iD e=false)(g:p0 c A e w)(go:Good c A dB e'):f6 c A (.Assign [.Attribute dB x bk] e pos) λr J K=>w r J (HL e' a r K):=by intro O s ac C r J k K Q I F ag h;subst ay;refine G2 (g O s ac C r J k _ _ I F ag λv db e ad bL bs a0 bn am IL af=>ax.dr e λČ cZ e=>?_)<|rQ ap;obtain⟨cp,NW,rfl⟩:=Uh cZ;have bK:bq C s (cD bL ad<|.st db.length) bs:=bn.turn (by rw[am];exact id) IL;exact go.use (af.C0 a0 IL NW) (F.ext I bK) e λo dZ e X kk f' fR jN fs c8=>ax.dr e λwI kG e=>Fs aX fR c8 (.ref<|fs.st _ _<|c3 _ _ _) ak kG λaq d bY br hG kL bW=>h _ _ _ e _ kk aq hG ((bK.trans fs).zero.trans kL) (jN.other bY bW) .go
def yh (e:ĳ):Ģ:=Nat.beq e.ctorIdx 25
theorem DD{value:ĳ}{sP:Lm ĳ}{cL:Ĵ}{bk:Pos}{n:Ĵ}{ac:Env}:swapsWithSole [.Tuple sP cL bk] value n ac=pure false:=by induction value using PySem.Expr.casesOn<;>exact @rfl _<|pure false
theorem TY{value:ĳ}{sP:Lm ĳ}{cL:Ĵ}{bk:Pos}{ac:Env}(h:yh value=false):swappedStores [.Tuple sP cL bk] value ac=pure none:=by exact q7 (b:=yh value) (by induction value using PySem.Expr.casesOn<;>first|exact @rfl _ (pure none)|trivial) h
theorem QV{aC:Type}{iz n2 pz CE DI:Ģ}{N U R aa:aC}(aB:pz=false->R=aa)(ba:CE=false)(cO:DI=false):(if iz=true then N else if n2=true then N else if pz=true then N else if CE=true then N else if DI=true then U else R)=N\/(if iz=true then N else if n2=true then N else if pz=true then N else if CE=true then N else if DI=true then U else R)=aa:=by
 subst ba;subst cO;induction iz with
 |true=>exact .inl rfl
 |false=>induction n2 with
  |true=>exact .inl rfl
  |false=>induction pz with
   |true=>exact .inl rfl
   |false=>exact .inr<|aB rfl
def vl (x y:Str) (ly kI:Ģ):Lm Str:=match(if ly=true then some x else none)with
 |none=>(match(if kI=true then some y else none)with|none=>[]|some b=>[b])
 |some a=>a::(match(if kI=true then some y else none)with|none=>[]|some b=>[b])
theorem WP{x y:Str}{f:Ĳ (Lm Str)->Sem (Option<|Lm Str)}:∀ly kI,((vl x y ly kI).length !=2||(vl x y ly kI).eraseDups.length !=(vl x y ly kI).length)=false->f (some<|vl x y ly kI)=f (some [x,y])
 |true,true,_=>rfl
 |true,false,h=>hK h
 |false,true,h=>hK h
 |false,false,h=>hK h
theorem S2{x y:Str}{eB ow bk qk:Pos}{cJ ql:Ĵ}{a b:ĳ}{ac:Env}(a7:ac.scope.kind=.function)(ak:fF a=false)(av:fF b=false)(Dk:(x==y)=false)(G:(foldedForSure 8 a&&foldedForSure 8 b)=false)(E:(constantsAlone 8 a&&constantsAlone 8 b)=false):swappedStores [.Tuple [.Name x eB,.Name y ow] cJ bk] (.Tuple [a,b] ql qk) ac=pure none\/swappedStores [.Tuple [.Name x eB,.Name y ow] cJ bk] (.Tuple [a,b] ql qk) ac=pure (some [x,y]):=by
 unfold swappedStores;refine QV (aa:=pure<|some [x,y]) (λh=>?_) ?_ ?_
 .have e:∀(g:ĳ->Ĳ Str) ly kI,g (.Name x eB)=(if ly=true then some x else none)->g (.Name y ow)=(if kI=true then some y else none)->[Expr.Name x eB,.Name y ow].filterMap g=vl x y ly kI:=λg ly kI bY br=>by rw[Eb,bY,Eb,br,List.filterMap_nil];induction ly<;>induction kI<;>rfl
  rw[e _ (ac.kindOf x==some .local&&eB.line==eB.line) (ac.kindOf y==some .local&&ow.line==eB.line) rfl rfl]at h⊢;exact WP (f:=pure) _ _ h
 .show(foldedForSure 8 a&&(foldedForSure 8 b&&true))=false;rw[CQ];exact G
 .show(constantsAlone 8 a&&(constantsAlone 8 b&&true))=false;rw[CQ];exact E
theorem Vk{e:ĳ}{sP:Lm ĳ}{cL:Ĵ}{bk pos:Pos}{l:Lm Ĵ}{w:dm}(aX:c.Ok)(cc:A.handled=none)(t:ms c true (.Tuple sP cL bk) l)(ap:yh e=false)(g:Good c A e w):f6 c A (.Assign [.Tuple sP cL bk] e pos) λr J K=>w r J (Bm l r K):=by intro O s ac C r J k K Q I F ag h;exact Assign_Tuple (g.use I F ag λv db e V bL bs a0 bU bn co=>ax.dr e λtr cZ e=>yH aX cc t a0 bU co cZ λb7 cd ou eb=>h _ _ _ e _ bL b7 cd (bn.zero.trans ou.ext) eb .go) DD<|TY ap
def qg (e:ĳ):Ģ:=Nat.beq e.ctorIdx 7
theorem x1{e:ĳ}{df:Env}(h:qg e=false)(x:Ę):foldedSetIterable e df x=pure x:=q7 (b:=qg e) (by induction e using PySem.Expr.casesOn<;>first|exact @rfl _ (pure x)|trivial) h
theorem F4{O:Ę->Qj->Prop}{target:ĳ}{I:Addr}{v:Ę}{Q:Unit->Qj->Prop}{s:Qj}(az:dD λo n vs=>hP (s.heap.get? I=some o) (o.cls=.type n) (o.data=.fields vs)<|yo n=true)(h:Q () s):wpAny c.M A (letOwnedTupleGo target (.ref I) v) Q O s:=by
 obtain⟨o,n,vs,az,ap,bg,ae⟩:=az;have gX:(["enumerate","zip","dict_itemiterator","dict_reverseitemiterator","odict_iterator","itertools.zip_longest","itertools.pairwise"].contains n)=false:=by unfold yo at ae;simpa using ae
 unfold letOwnedTupleGo;induction target using PySem.Expr.casesOn<;>first
  |exact b1 h
  |(induction v<;>first
   |exact b1 h
   |(refine bc (wpAny_load az ?_);rw[ap,bg];simp only[gX,Bool.false_and];exact b1 h))
theorem Oq{P:Params}{C:aY}{x:B}{X:Ę}{bM:Lm B}(h:bz P C x X)(e:items x=some bM):∀b,X=.ref b->∃o,C b=.a4 o:=have lJ:∀{a b o},C a=.a4 o->Value.ref a=.ref b->∃o,C b=.a4 o:=λh e=>⟨_,Value.ref.inj e▸h⟩;bz.casesOn (motive_1:=λx X _=>items x=some bM->∀b,X=.ref b->∃o,C b=.a4 o) h (λe=>b4 e) (λ_ e=>b4 e) (λ_ _ e=>b4 e) (λ_ _ _ _ b av=>Ip av rfl) (λh _ _ _ b av=>lJ h av) (λh _ _ _ b av=>lJ h av) (λh _ _ _ _ _ b av=>lJ h av) (λ_ e=>b4 e) (λh _ _ _ _ b av=>lJ h av) e
theorem cb.F.yO{C:aY}{ac:Env}{r:aK}{h aR:Heap}{k:Ĵ}(F:c.F C ac r h k){d:Addr}(bg:C d=.ext)(bW:∀b o,b≠d->h.get? b=some o->aR.get? b=some o):c.F C ac r aR k:=by
 have ne:∀{a:Addr} {q:eI},C a=q->q≠.ext->a≠d:=λe h q=>h<|e.symm.trans<|q▸bg;have i0:∀y V,gR ac h y V->gR ac aR y V:=λy V af=>by
  rcases af with⟨a,m,aN,e⟩|⟨a,be,ap,o,az,k'⟩
  .exact .inl ⟨a,m,aN.at λo e=>bW _ _ (ne F.bD.loc<|λz=>(nomatch z)) e,e⟩
  .obtain⟨iH,oe,dA,er,f_⟩:=F.bD.cells y a;rw[ap]at dA;cases dA;exact .inr ⟨a,be,ap,o,bW _ _ (ne er<|λz=>(nomatch z)) az,k'⟩
 refine⟨⟨F.bD.kind,F.bD.glob,F.bD.lU,F.bD.loc,?_,λy a2=>?_,λy j aL G E=>?_⟩,F.gl,F.st,F.cl⟩
 .obtain⟨m,aN⟩:=F.bD.l2;exact⟨m,aN.at λo e=>bW _ _ (ne F.bD.loc<|λz=>(nomatch z)) e⟩
 .obtain⟨be,v,bY,br,o,az,k'⟩:=F.bD.cells y a2;exact⟨be,v,bY,br,o,bW _ _ (ne br<|λz=>(nomatch z)) az,k'⟩
 .induction F.bD.slots y j aL G E with
  |un=>exact .un
  |val a b=>exact .val (i0 _ _ a) b
  |ol a b d e f=>exact .ol (i0 _ _ a) b (bW _ _ (ne b<|λz=>(nomatch z)) d) e f
  |od a b d e f g=>exact .od (i0 _ _ a) b (bW _ _ (ne b<|λz=>(nomatch z)) d) e f g
theorem uE{C:aY}{J:St}{s:Qj}{ac:Env}{r:aK}{k:Ĵ}(I:c.I C J s)(F:c.F C ac r s.heap k){d:Addr}(bg:C d=.ext){aR:Heap}(bW:∀b o,b≠d->s.heap.get? b=some o->aR.get? b=some o)(t:Ĵ):c.I (cD C d .none) J {s with heap:=aR,toks:=t}/\c.F (cD C d .none) ac r aR k:=by
 have ne:∀{a:Addr} {q:eI},C a=q->q≠.ext->a≠d:=λe h q=>h<|e.symm.trans<|q▸bg;have d7:∀b cu,C b=.a4 cu->cD C d .none b=.a4 cu:=λb cu e=>(bV<|ne e<|λz=>(nomatch z)).trans e;have eU:∀b n,C b=.st n->cD C d .none b=.st n:=λb cu e=>(bV<|ne e<|λz=>(nomatch z)).trans e;have g8:=F.yO bg bW;constructor
 .refine⟨λa h=>?_,λa b e h=>?_,λa o e=>?_,λn cp e=>(I.store n cp e).mono d7 eU (λb cu e=>(bV<|ne e<|λz=>(nomatch z)).trans e:∀b n,C b=.cH n->cD C d .none b=.cH n) λa o q e=>bW a o (by rcases q with q|q<;>exact ne q (λz=>(nomatch z))) e,λa o e=>d7 _ _<|I.base a o e,I.gens,I.hJ,λa n e=>?_⟩
  .by_cases q:a=d
   .subst q;rw[c3]at h;exact absurd rfl h
   .rw[bV q]at h;obtain⟨o,az⟩:=g2.mp<|I.alloc a h;rw[show({s with heap:=aR,toks:=t}:Qj).heap.get? a=some o from bW a o q az];rfl
  .by_cases gd:a=d
   .subst gd;rw[c3]at h;exact h.elim
   .rw[bV gd]at e h;by_cases fc:b=d
    .subst fc;rw[c3]at e;rw[e]at h;exact h.elim
    .rw[bV fc]at e;exact I.uniq a b e h
  .by_cases q:a=d
   .subst q;rw[c3]at e;exact bP e rfl
   .rw[bV q]at e;exact bW a o q<|I.a4 a o e
  .by_cases q:a=d
   .subst q;rw[c3]at e;rcases e with e|e<;>exact bP e rfl
   .rw[bV q]at e;exact I.gD a n e
 .refine⟨⟨g8.bD.kind,g8.bD.glob,g8.bD.lU,(bV<|ne g8.bD.loc<|λz=>(nomatch z)).trans g8.bD.loc,g8.bD.l2,λy a2=>?_,λy j aL G E=>?_⟩,F.gl,F.st,F.cl⟩
  .obtain⟨be,v,bY,br,dM⟩:=g8.bD.cells y a2;exact⟨be,v,bY,(bV<|ne br<|λz=>(nomatch z)).trans br,dM⟩
  .induction g8.bD.slots y j aL G E with
   |un=>exact .un
   |val x y=>exact .val x<|y.mono d7 eU
   |ol x b d e f=>exact .ol x ((bV<|ne b<|λz=>(nomatch z)).trans b) d (e.mono d7 eU) f
   |od x b d e f g=>exact .od x ((bV<|ne b<|λz=>(nomatch z)).trans b) d (e.mono d7 eU) f g
theorem ey.drop{dp C:aY}{eO s:Qj}(x:ey dp eO C s){d:Addr}(am:dp d=.none)(bg:C d=.ext){aR:Heap}(bW:∀b o,b≠d->s.heap.get? b=some o->aR.get? b=some o)(t:Ĵ):ey dp eO (cD C d .none) {s with heap:=aR,toks:=t}:=⟨λa o e en=>have e_:a≠d:=λq=>(by rw[q,am]at en;exact en);let⟨ag,a8⟩:=x.ig a o e en;⟨bW a o e_ ag,(bV e_).trans a8⟩,λa n e=>(bV<|λq=>by rw[q,am]at e;exact bP e rfl).trans<|x.st a n e,λa n e=>(bV<|λq=>by rw[q,am]at e;exact bP e rfl).trans<|x.cH a n e⟩
theorem PE{w:ox}{bk:Ģ}{aU:Lm Ĵ}{K:ck->aK->St->Prop}{bM:Lm B}{i:Ĵ}{v:B}{r:aK}{J:St}(h:bM[i]?=some v)(e:nN w bk aU K (bM.drop i) r J):ax (h7 bk aU v r) λr=>w r J (mZ (nN w bk aU K<|bM.drop<|i+1) K):=by have aA:=(hb.mp h).1;rw[xp aA]at e;rw[fl aA]at h;rw[<-cY h];exact e
inductive E5 (c:cb) (St:Nat->Heap->Prop) (cF:Addr) (ac:Env) (k:Nat) (bL:aY) (bs:Shared) (bM:List B) (dI:List B->aK->Up.St->Prop) (n:Nat) (aq:Shared):Prop
 |mk (i:Nat) (aP:aY) (tr:aK) (dZ:Up.St) (am:n=bM.length-i) (aA:i<=bM.length) (st:St i aq.heap) (I:c.I aP dZ aq) (x:ey bL bs aP aq) (fV:aP cF=.ext) (F:c.F aP ac tr aq.heap k) (e:dI (bM.drop i) tr dZ):E5 c St cF ac k bL bs bM dI n aq
theorem XY{bk:Ģ}{target iter:ĳ}{aU:Lm Ĵ}{body:Lm Stmt}{pos:Pos}{fG:dm}{ki:ox}(aX:c.Ok)(cc:A.handled=none)(t:ms c bk target aU)(aM:qg iter=false)(gF:Good c A iter fG)(lm:nb c A body ki):f6 c A (.For target iter body [] pos) λr J K=>fG r J (kFor ki bk aU r K):=by
 intro O s ac C r J k K Q I F ag h;refine wpAny_For (gF.use I F ag λx db e X bL bs a0 bU bn c8=>ax.dr e λbM cZ e=>x9 aX.sys a0 (.val c8) cZ λo ga P St T a7 st=>?_)<|x1 aM;have cd:=a0.push o a7 .ext<|.inr rfl;have bK:=bq.push a0 o .ext;have eb:=bU.ext a0 bK;have AV:cD bL bs.heap.objs.size .ext bs.heap.objs.size=.ext:=c3 _ _ _;have rR:bL bs.heap.objs.size=.none:=a0.fresh<|dy _;obtain⟨cF,Zm⟩:∃cF,cF=bs.heap.objs.size:=⟨_,rfl⟩;rw[<-Zm]at cd bK eb AV rR T⊢;obtain⟨cn,Qn⟩:∃cn,cn=cD bL cF .ext:=⟨_,rfl⟩;rw[<-Qn]at cd bK eb AV;obtain⟨b7,AZ⟩:∃b7:Qj,b7={bs with heap:=bs.heap.push o}:=⟨_,rfl⟩;rw[<-AZ]at cd bK⊢;have eb:c.F cn ac r b7.heap k:=by rw[AZ];exact eb
 have RT:St 0 b7.heap:=by rw[AZ];exact st
 refine codeAny_forLoop_any (A:=A) (E5 c St cF ac k bL bs bM<|nN ki bk aU K) ?_ bM.length ⟨0,cn,r,db,rfl,f7 _,RT,cd,bK.zero,AV,eb,e.of⟩;rintro n aq⟨i,aP,tr,dZ,rfl,aA,iO,dk,ez,fV,g8,bx⟩;by_cases cU:i<bM.length
 .refine(T.W A cc).item i aq _ _ cU iO λv aR cJ ae tg aE=>?_;obtain⟨aW,yz,co⟩:=T.vals i v cU ae;have bW:∀b hx,b≠cF->aq.heap.get? b=some hx->aR.get? b=some hx:=λb hx av e=>aE b hx (by simpa using av) e;have Al:(aR.get? cF).isSome=true:=by obtain⟨cu,_,_,g7,-⟩:=T.oR _ _ tg;rw[g7];rfl
  refine ax.dr (PE yz bx) λkv kG Pt=>F4 (T.oR _ _ tg) ?_;refine yH aX cc t (dk.upd (d:=cF) (by rw[fV];trivial) bW Al cJ) (g8.yO fV bW) (ez.hn a0 co) kG λiE hG rP m4=>?_;refine lm _ iE ac aP kv dZ k _ _ hG m4 Pt λjW V6 VZ kF f r' qV lv hE vh mc=>?_;obtain⟨zE,CW⟩:=(g2.mp (hG.alloc cF<|by rw[fV];intro z;exact bP z rfl):∃zE,iE.heap.get? cF=some zE);have Ks:=((ez.upd (d:=cF) (by rw[rR];exact id) bW cJ).trans rP.ext).trans hE;induction mc with
  |ret af=>exact h _ _ _ kF _ r' qV lv (bn.zero.trans Ks) vh<|.ret af
  |go=>
   refine⟨bM.length-(i+1),Ai _ _ cU,i+1,r',V6,VZ,rfl,cU,?_,lv,Ks,((hE.ig cF zE CW<|by rw[fV];trivial).2.trans fV:r' cF=.ext),vh,kF⟩;refine(T.W A cc).frame _ _ _ tg λb av hx ea=>?_;have bb:(∀k,aP b≠.loc k)/\(∀y,aP b≠.kY y)/\(aP b).ig:=by
    rcases T.D9 b av with rfl|av
    .rw[fV];exact⟨λ_ z=>(nomatch z),λ_ z=>(nomatch z),trivial⟩
    .obtain⟨cu,g7⟩:=(Oq c8 cZ) b av;rw[ez.oy a0 _ _ g7];exact⟨λ_ z=>(nomatch z),λ_ z=>(nomatch z),trivial⟩
   exact(hE.ig b hx (rP.so b hx bb.1 bb.2.1 ea) bb.2.2).1
 .have iP:i=bM.length:=vA aA<|q0 cU;subst iP;rw[List.drop_length]at bx;refine(T.W A cc).done aq _ _ iO λaR cJ aE=>wpAny_execs_nil ?_;have bW:∀b hx,b≠cF->aq.heap.get? b=some hx->aR.get? b=some hx:=λb hx av e=>aE b hx (by simpa using av) e;obtain⟨fR,jN⟩:=uE dk g8 fV bW cJ;exact h _ _ _ bx _ _ _ fR (bn.zero.trans<|ez.drop (d:=cF) rR fV bW cJ) jN .go
theorem YO{i j:Ĵ}{v:B}{r b0:aK}(e:h7 true [i,j] v r=some b0):ee λa b=>v=.tup [a,b]/\b0=(r.set i<|.val a).set j (.val b):=by
 induction v using B.casesOn with
 |tup l=>
  obtain⟨ah,e⟩:=hj<|show(if l.length=2 then some _ else none)=some b0 from e;induction l using List.casesOn with
  |nil=>cases ah
  |cons a l=>induction l using List.casesOn with
   |nil=>cases ah
   |cons b l=>induction l using List.casesOn with
    |nil=>exact⟨a,b,rfl,(cY e).symm⟩
    |cons=>cases ah
 |_=>exact b4 e
theorem Wi{a b:ĳ}{x y:Str}{eB ow bk qk pos:Pos}{cJ ql:Ĵ}{i j:Ĵ}{w:dm}(aX:c.Ok)(cc:A.handled=none)(aA:c.ns.lookup x=some i)(b8:c.ns.lookup y=some j)(ay:c.b5 x=true)(a2:c.b5 y=true)(ak:fF a=false)(av:fF b=false)(Dk:(x==y)=false)(G:(foldedForSure 8 a&&foldedForSure 8 b)=false)(E:(constantsAlone 8 a&&constantsAlone 8 b)=false)(g:Good c A (.Tuple [a,b] ql qk) w):f6 c A (.Assign [.Tuple [.Name x eB,.Name y ow] cJ bk] (.Tuple [a,b] ql qk) pos) λr J K=>w r J (Bm [i,j] r K):=by
 intro O s ac C r J k K Q I F ag h;rcases S2 (eB:=eB) (ow:=ow) (bk:=bk) (qk:=qk) (cJ:=cJ) (ql:=ql) F.bD.kind ak av Dk G E with bF|bF
 .exact Assign_Tuple (g.use I F ag λv db e V bL bs a0 bU bn co=>ax.dr e λtr cZ e=>yH aX cc (.tup<|.cons aA ay<|.cons b8 a2 .nil) a0 bU co cZ λb7 cd ou eb=>h _ _ _ e _ bL b7 cd (bn.zero.trans ou.ext) eb .go) DD bF
 .refine Assign_Tuple_swapped (g.use I F ag λv db e V bL bs a0 bU bn co=>ax.dr e λtr cZ e=>?_) DD bF;obtain⟨u,v,rfl,rfl⟩:=YO cZ;clear cZ;obtain⟨t,Vs,n,rfl,bY,br,dM⟩:=oH co;clear co;obtain⟨U,Ē,rfl,jv,gL⟩:=br.of;clear br;obtain⟨W,bC,rfl,gC,ky⟩:=gL.of;clear gL;obtain rfl:=ky.of;rw[show [x,y].length=[U,W].toArray.size from rfl];refine PyProof.Rows.unpackItems_tuple cc (gv<|a0.a4 _ _ bY) λaR a6=>?_;have bW:∀b o,bs.heap.get? b=some o->aR.get? b=some o:=λb o e=>a6 b o (gG<|j_ e) e;have bK:=bq.grow bL bW bs.toks;show wpAny _ _ (assignInOrder [bindName ac y,bindName ac x] [_,_]) _ _ _;refine bc<|gU<|wpAny_bindName<|q_ aX (a0.grow bW bs.toks) (bU.ext a0 bK) b8 a2 gC λf' fR fs IG jN=>bc<|gU<|wpAny_bindName<|q_ aX fR jN aA ay jv λiE hG kL rP m4=>b1<|h _ _ _ e _ bL iE hG ((bn.trans bK).zero.trans<|fs.trans kL) ?_ .go;have e_:j≠i:=λq=>by subst q;have:=aX.rg _ _ _ aA b8;subst this;simp at Dk
  rw[List.set_comm _ _<|h5 e_];exact m4
theorem CP{df:Env}(f:Str×NameKind->Lm (Str×Addr)->Sem (ForInStep<|List<|Str×Addr))(a7:∀name kind bZ,f (name,kind) bZ=if kind==.free then(do let a<-cellOf df name;pure<|.yield<|(name,a)::bZ)else pure (.yield bZ)):∀(names:Lm (Str×NameKind)) (eh:Lm (Str×Addr)),(∀p∈eh,df.cells.lookup p.1=some p.2)->(∀y∈names,y.2=.free->(df.cells.lookup y.1).isSome=true)->∃cl,forIn names eh f=pure cl/\(∀p∈cl,df.cells.lookup p.1=some p.2)/\(∀p∈eh,p∈cl)/\∀y∈names,y.2=.free->∃a,(y.1,a)∈cl
 |[],eh,ak,_=>⟨eh,by rw[List.forIn_nil],ak,λ_ h=>h,λy h=>by simp at h⟩
 |(n,k)::r,eh,ak,am=>by
  rw[Bp,a7];induction aE:k==NameKind.free with
  |false=>
   obtain⟨cl,G,E,aB,ba⟩:=CP f a7 r eh ak λy a2=>am y<|rM _ a2;refine⟨cl,by simp[G],E,aB,λy a2 e=>?_⟩;rcases eJ.mp a2 with rfl|a2
   .subst e;exact hK aE
   .exact ba y a2 e
  |true=>
   obtain⟨a,e6⟩:=g2.mp (am (n,k) t0 (by simpa using aE:k=.free));obtain⟨cl,G,E,aB,ba⟩:=CP f a7 r ((n,a)::eh) (λp ae=>by
    rcases eJ.mp ae with rfl|ae
    .exact e6
    .exact ak p ae) λy a2=>am y (rM _ a2)
   refine⟨cl,?_,E,λp ae=>aB p<|rM _ ae,λy a2 e=>?_⟩
   .unfold cellOf;simp only[show df.cells.lookup n=some a from e6];simp[G]
   .rcases eJ.mp a2 with rfl|a2
    .exact⟨a,aB _ t0⟩
    .exact ba y a2 e
theorem Gm{g:Str->Ĳ Addr}{n:Str}:∀{cl:Lm (Str×Addr)},(∀p∈cl,g p.1=some p.2)->(∃a,(n,a)∈cl)->cl.lookup n=g n
 |[],_,h=>by obtain⟨a,h⟩:=h;simp at h
 |(m,b)::r,h,aN=>by
  rw[kB];induction q:n==m with
  |true=>have:=h (m,b) t0;rw[fN.mp q];exact this.symm
  |false=>
   refine Gm (λp ae=>h p<|rM _ ae) ?_;obtain⟨a,aN⟩:=aN;rcases eJ.mp aN with e|aN
   .cases e;simp at q
   .exact⟨a,aN⟩
theorem NI{scope:Scope}{df:Env}(h:∀y∈scope.names,y.2=.free->(df.cells.lookup y.1).isSome=true):∃cl,closureFor scope df=pure cl/\∀y∈scope.names,y.2=.free->cl.lookup y.1=df.cells.lookup y.1:=by obtain⟨cl,G,E,-,ba⟩:=CP (df:=df) (λx r=>match x with|(name,kind)=>if kind==.free then(do let a<-cellOf df name;pure<|.yield<|(name,a)::r)else pure (.yield r)) (λ_ _ _=>rfl) scope.names [] (λp ae=>by simp at ae) h;refine⟨cl,?_,λy a2 e=>Gm (g:=λn=>df.cells.lookup n) E<|ba y a2 e⟩;unfold closureFor;exact(bX (λm=>m>>=λbZ=>pure bZ) G).trans<|pure_bind _ _
theorem vB{scope:Scope}{cl:Lm (Str×Addr)}{ai:Addr}{df:Env}{x:Str}:(compEnvC scope cl ai df).kindOf x=(scope.names.lookup x).map λk=>if(k==.free&&df.scope.kind==.function&&df.kindOf x==some .cell)=true then .cell else k:=by
 show(relabel scope df).names.lookup x=_;unfold relabel;simp only;induction scope.names with
 |nil=>rfl
 |cons p r ar=>
  obtain⟨n,k⟩:=p;rw[fx,kB];induction q:x==n with
  |true=>
   have:=fN.mp q;subst this;by_cases ap:(k==.free&&df.scope.kind==.function&&df.kindOf x==some .cell)=true
   .simp only[ap,qv,jV,kB,Option.map_some]
   .rw[wS]at ap;simp only[ap,rD,ri,jV,kB,Option.map_some]
  |false=>
   by_cases ap:(k==.free&&df.scope.kind==.function&&df.kindOf n==some .cell)=true
   .simp only[ap,qv,kB,q];exact ar
   .rw[wS]at ap;simp only[ap,rD,ri,kB,q];exact ar
def cb.comp (c:cb) (ns:bH) (cx b5:Str->Ģ):cb:={c with ns:=ns,cx:=cx,b5:=b5,kD:=λ_=>false}
structure pn(c:cb)(ns:bH)(cx b5:Str->Bool)(scope:Scope)(aU:List Nat):Prop where
 ok:(c.comp ns cx b5).Ok
 EO:∀y∈scope.names,y.2≠.cell
 kind:scope.kind=.function
 yV:∀y∈scope.names,y.2=.local->scope.names.lookup y.1=some .local
 free:∀y∈scope.names,y.2=.free->c.kD y.1=true
 vars:∀x i,ns.lookup x=some i->(scope.names.lookup x=some .local/\i∈aU)\/(scope.names.lookup x=some .free/\c.ns.lookup x=some i)
 gl:∀x,cx x=true->scope.names.lookup x=some .globalImplicit
 st:∀x,b5 x=true->scope.names.lookup x=some .local
def swap (C:aY) (aQ ai:Addr) (k:Ĵ):aY:=λb=>if b=ai then .loc k else if b=aQ then .ext else C b
theorem uh(C:aY)(aQ ai:Addr)(k:Ĵ):swap C aQ ai k ai=.loc k:=bl rfl
theorem sV{C:aY}{aQ ai:Addr}{k:Ĵ}(h:aQ≠ai):swap C aQ ai k aQ=.ext:=by unfold swap;rw[bt h,bl rfl]
theorem i1{C:aY}{aQ ai b:Addr}{k:Ĵ}(G:b≠ai)(E:b≠aQ):swap C aQ ai k b=C b:=by unfold swap;rw[bt G,bt E]
section
variable{P:Params}{N:g1}{H:Heap}{os:OsState}{C:aY}{J:St}{s:Qj}
theorem Inv.swap(I:Inv P N H os C J s){aQ ai:Addr}{k:Ĵ}(ct:C aQ=.loc k)(cf:C ai=.ext):Inv P N H os (swap C aQ ai k) J s:=by
 have pp:aQ≠ai:=by rintro rfl;rw[ct]at cf;exact bP cf rfl
 have ne:∀{b:Addr} {r:eI},C b=r->r≠.ext->(∀j,r≠.loc j)->Up.swap C aQ ai k b=r:=λ{b r} e G E=>(i1 (by rintro rfl;exact G<|e.symm.trans cf)<|by rintro rfl;exact E k<|e.symm.trans ct).trans e;have d7:∀b o,C b=.a4 o->Up.swap C aQ ai k b=.a4 o:=λb o e=>ne e (λz=>(nomatch z)) λj z=>(nomatch z);have kZ:∀{b:Addr} {r:eI},Up.swap C aQ ai k b=r->r≠.ext->(∀j,r≠.loc j)->C b=r:=λ{b r} e G E=>by
  by_cases q:b=ai
  .subst q;rw[uh]at e;exact absurd e.symm<|E k
  .by_cases fd:b=aQ
   .subst fd;rw[sV pp]at e;exact absurd e.symm G
   .rw[i1 q fd]at e;exact e
 refine⟨λb h=>?_,λa b e h=>?_,λb o e=>I.a4 b o<|kZ e (λz=>(nomatch z)) λj z=>(nomatch z),λn cp e=>(I.store n cp e).mono d7 (λb o e=>ne e (λz=>(nomatch z)) λj z=>(nomatch z):∀b o,C b=.st o->Up.swap C aQ ai k b=.st o) (λb o e=>ne e (λz=>(nomatch z)) λj z=>(nomatch z):∀b o,C b=.cH o->Up.swap C aQ ai k b=.cH o) λ_ _ _ e=>e,λb o e=>d7 _ _<|I.base b o e,I.gens,I.hJ,λb n e=>I.gD b n ?_⟩
 .by_cases q:b=ai
  .subst q;exact I.alloc b (by rw[cf];intro z;exact bP z rfl)
  .by_cases fd:b=aQ
   .subst fd;exact I.alloc b (by rw[ct];intro z;exact bP z rfl)
   .rw[i1 q fd]at h;exact I.alloc b h
 .have Hq:∀b,(∃j,Up.swap C aQ ai k b=.loc j)->Up.swap C aQ ai k b=.loc k->b=ai:=λb _ e=>by
   by_cases q:b=ai
   .exact q
   .by_cases fd:b=aQ
    .subst fd;rw[sV pp]at e;exact bP e rfl
    .rw[i1 q fd]at e;exact absurd (I.uniq b aQ (e.trans ct.symm)<|by rw[e];trivial) fd
  by_cases gd:a=ai
  .subst gd;rw[uh]at e;exact(Hq b ⟨k,e.symm⟩ e.symm).symm
  .by_cases fc:b=ai
   .subst fc;rw[uh]at e;exact Hq a ⟨k,e⟩ e
   .by_cases EX:a=aQ
    .subst EX;rw[sV pp]at h;exact h.elim
    .by_cases nO:b=aQ
     .subst nO;rw[sV pp]at e;rw[e]at h;exact h.elim
     .rw[i1 gd EX]at e h;rw[i1 fc nO]at e;exact I.uniq a b e h
 .rcases e with e|e
  .exact .inl<|kZ e (λz=>(nomatch z)) λj z=>(nomatch z)
  .exact .inr<|kZ e (λz=>(nomatch z)) λj z=>(nomatch z)
end
def mh (aU:Lm Ĵ) (r:aK):aK:=aU.foldl (λr i=>r.set i .un) r
theorem wi:∀(aU:Lm Ĵ) (r:aK) (i:Ĵ),i∉aU->(mh aU r)[i]?=r[i]?
 |[],r,i,_=>rfl
 |t::aU,r,i,h=>by simp only[eJ,not_or]at h;exact(wi aU (r.set t .un) i h.2).trans<|nu<|h5 h.1
theorem xF:∀(aU:Lm Ĵ) (r:aK) (i:Ĵ) (aL:cr),r[i]?=some .un\/i∈aU->(mh aU r)[i]?=some aL->aL=.un
 |[],r,i,aL,h,e=>by
  rcases h with h|h
  .rw[show mh [] r=r from rfl,h]at e;cases e;rfl
  .simp at h
 |t::aU,r,i,aL,h,e=>by
  have bx:(mh aU<|r.set t .un)[i]?=some aL:=e;by_cases q:i∈aU
  .exact xF aU _ i aL (.inr q) bx
  .rw[wi aU _ i q]at bx;by_cases rG:t=i
   .subst rG;rw[q2]at bx;simp only[qv]at bx;split at bx<;>(first|exact b4 bx|cases bx);rfl
   .rw[nu rG]at bx;rcases h with h|h
    .rw[h]at bx;cases bx;rfl
    .simp[q,h5 rG]at h
theorem ä{bk:Ģ}{aU:Lm Ĵ}{v:B}{r:aK}:h7 bk aU v (mh aU r)=h7 bk aU v r:=by
 have key:∀(fJ:Lm Ĵ) (l:Lm B) (a b:aK),l.length=fJ.length->a.length=b.length->(∀i,i∉fJ->a[i]?=b[i]?)->(fJ.zip l).foldl (λr p=>r.set p.1<|cr.val p.2) a=(fJ.zip l).foldl (λr p=>r.set p.1<|cr.val p.2) b:=by
  intro fJ;induction fJ with
  |nil=>intro l a b _ ah h;exact Bc λi=>h i (by simp)
  |cons u fJ ar=>
   intro l a b G ah h;induction l with
   |nil=>cases G
   |cons x l=>
    simp only[zj,List.foldl_cons];refine ar l _ _ (by simpa using G) (by simp[ah]) λi aA=>?_;by_cases q:u=i
    .subst q;simp[q2,ah]
    .rw[nu q,nu q];exact h i (by simp[aA,h5 q])
 have dP:∀(fJ:Lm Ĵ) (r:aK),(mh fJ r).length=r.length:=by
  intro fJ;induction fJ with
  |nil=>intro r;rfl
  |cons u fJ ar=>intro r;exact(ar<|r.set u .un).trans (by simp)
 induction bk with
 |false=>induction aU using List.casesOn with
  |nil=>rfl
  |cons i t=>induction t with
   |nil=>show some ((r.set i .un).set i<|.val v)=some (r.set i<|.val v);rw[List.set_set]
   |cons=>rfl
 |true=>induction v using B.casesOn with
  |tup l=>
   show(if l.length=aU.length then some _ else none)=(if l.length=aU.length then some _ else none);by_cases ah:l.length=aU.length
   .rw[bl ah,bl ah,key _ _ (mh aU r) r ah (dP _ _) λi aA=>?_];exact wi aU r i aA
   .rw[bt ah,bt ah]
  |_=>rfl
theorem Gh{bk:Ģ}{aU:Lm Ĵ}{v:B}{r b0:aK}(e:h7 bk aU v r=some b0):∀i,i∉aU->b0[i]?=r[i]?:=by
 have key:∀(fJ:Lm Ĵ) (l:Lm B) (a:aK) i,i∉fJ->((fJ.zip l).foldl (λr p=>r.set p.1<|cr.val p.2) a)[i]?=a[i]?:=by
  intro fJ;induction fJ with
  |nil=>intro l a i _;rfl
  |cons u fJ ar=>
   intro l a i aA;simp only[eJ,not_or]at aA;induction l with
   |nil=>rfl
   |cons x l=>exact(ar l _ i aA.2).trans<|nu<|h5 aA.1
 intro i aA;induction bk with
 |false=>induction aU using List.casesOn with
  |nil=>exact b4 e
  |cons j t=>induction t with
   |nil=>cases e;exact nu λq:j=i=>aA<|q▸.head _
   |cons=>exact b4 e
 |true=>induction v using B.casesOn with
  |tup l=>obtain⟨ah,e⟩:=hj<|show(if l.length=aU.length then some ((aU.zip l).foldl (λr p=>r.set p.1<|.val p.2) r)else none)=some b0 from e;cases e;exact key _ _ _ i aA
  |_=>exact b4 e
theorem Mm{C:aY}{ac:Env}{r b0:aK}{h:Heap}{k:Ĵ}{aU:Lm Ĵ}(F:c.F C ac b0 h k)(e:∀i,i∉aU->b0[i]?=r[i]?):c.F C ac (mh aU r) h k:=by
 refine⟨⟨F.bD.kind,F.bD.glob,F.bD.lU,F.bD.loc,F.bD.l2,F.bD.cells,λx i aL G E=>?_⟩,F.gl,F.st,F.cl⟩;by_cases q:i∈aU
 .rw[xF aU r i aL (.inr q) E];exact .un
 .rw[wi aU r i q,<-e i q]at E;exact F.bD.slots x i aL G E
theorem Un{ns:bH}{cx b5:Str->Ģ}{scope:Scope}{aU:Lm Ĵ}(K:pn c ns cx b5 scope aU){C:aY}{s:Qj}{ac:Env}{r:aK}{k:Ĵ}(F:c.F C ac r s.heap k){cl:Lm (Str×Addr)}(eQ:∀y∈scope.names,y.2=.free->cl.lookup y.1=ac.cells.lookup y.1){ai:Addr}{m:Str->Ĳ Ę}(cf:s.heap.Ns ai m)(Qr:C ai=.ext):(c.comp ns cx b5).F (swap C ac.locals ai k) (compEnvC scope cl ai ac) (mh aU r) s.heap k:=by
 have ne:∀{b:Addr} {q:eI},C b=q->q≠.ext->(∀j,q≠.loc j)->swap C ac.locals ai k b=q:=λ{b q} e G E=>(i1 (by rintro rfl;exact G<|e.symm.trans Qr)<|by rintro rfl;exact E k<|e.symm.trans F.bD.loc).trans e;have d7:∀b o,C b=.a4 o->swap C ac.locals ai k b=.a4 o:=λb o e=>ne e (λz=>(nomatch z)) λj z=>(nomatch z);have eU:∀b o,C b=.st o->swap C ac.locals ai k b=.st o:=λb o e=>ne e (λz=>(nomatch z)) λj z=>(nomatch z);have free:∀x,scope.names.lookup x=some .free->ac.kindOf x=some .cell/\(compEnvC scope cl ai ac).kindOf x=some .cell/\cl.lookup x=ac.cells.lookup x:=λx ay=>by have aN:=mem_of_lookup ay;have G:=F.cl x<|K.free _ aN rfl;refine⟨G,?_,eQ _ aN rfl⟩;rw[vB,ay,G,F.bD.kind];rfl
 have mI:∀x V,scope.names.lookup x=some .free->gR ac s.heap x V->gR (compEnvC scope cl ai ac) s.heap x V:=λx V ay af=>by
  obtain⟨G,E,aB⟩:=free x ay;rcases af with⟨a,-⟩|⟨-,be,ap,bg⟩
  .rw[G]at a;cases a
  .exact .inr ⟨.inl E,be,aB.trans ap,bg⟩
 refine⟨⟨K.kind,F.bD.glob,F.bD.lU,uh _ _ _ _,⟨m,cf⟩,λx ay=>?_,λx i aL G E=>?_⟩,λx ay=>?_,λx ay=>?_,λx ay=>?_⟩
 .rw[vB]at ay;induction ah:scope.names.lookup x with
  |none=>rw[ah]at ay;rcases ay with ay|ay<;>exact b4 ay
  |some bW=>
   have w0:bW=.free:=by rw[ah]at ay;induction bW<;>first|rfl|(exact absurd rfl (K.EO _ (mem_of_lookup ah)))|(rcases ay with ay|ay<;>cases ay)
   subst w0;obtain⟨G,E,aB⟩:=free x ah;obtain⟨be,v,bY,br,dM⟩:=F.bD.cells x<|.inl G;exact⟨be,v,aB.trans bY,ne br (λz=>(nomatch z)) λj z=>(nomatch z),dM⟩
 .rcases K.vars x i G with⟨ah,aA⟩|⟨ah,aA⟩
  .rw[xF aU r i aL (.inr aA) E];exact .un
  .by_cases q:i∈aU
   .rw[xF aU r i aL (.inr q) E];exact .un
   .rw[wi aU r i q]at E;induction F.bD.slots x i aL aA E with
    |un=>exact .un
    |val a b=>exact .val (mI _ _ ah a)<|b.mono d7 eU
    |ol a b d e f=>exact .ol (mI _ _ ah a) (ne b (λz=>(nomatch z)) λj z=>(nomatch z)) d (e.mono d7 eU) f
    |od a b d e f g=>exact .od (mI _ _ ah a) (ne b (λz=>(nomatch z)) λj z=>(nomatch z)) d (e.mono d7 eU) f g
 .rw[vB,K.gl x ay];rfl
 .rw[vB,K.st x ay];exact .inl rfl
 .exact cq ay
abbrev o7(c:cb)(A:Around)(ifs:Lm ĳ)(w:hg):Prop:=pV c A (λac=>forIn ifs true λc r=>if r=true then do let ok<-isTrue c ac (eval c ac);pure (ForInStep.yield ok)else pure (ForInStep.yield r)) w
theorem Y7:o7 c A [] λ_ J K=>K true J:=λO s ac C r J k K Q I F e h=>wpAny_tests_nil<|h _ _ e C s I<|bq.refl C s
theorem Zg{e:ĳ}{w:hg}(g:j6 c A e w):o7 c A [e] λr J K=>w r J λb J=>k1 (K true J) (K false J) b:=λO s ac C r J k K Q I F ag h=>wpAny_tests_one (g.use I F ag λb db e bL bs a0 bU bn=>by induction b<;>exact h _ _ e bL bs a0 bn)
theorem Í{gc target iter:ĳ}{ifs:Lm ĳ}{scope:Scope}{pos:Pos}{it eh:Ę}{df:Env}{R:Result->Qj->Prop}{s:Qj}(I:Ĵ->Qj->Prop)(turn:∀n s,I n s->∀O,wpAny c.M A (pyNext it) (λr bs=>match r with
 |none=>R (.ok .next) bs
 |some v=>wpAny c.M A (letOwnedTupleGo target it v) (λ_ eO=>wpAny c.M A (assign target df v) (λ_ b7=>
  wpAny c.M A (forIn ifs true λc r=>if r=true then do let ok<-isTrue c df (eval c df);pure (ForInStep.yield ok)else pure (ForInStep.yield r)) (λok f'=>if ok=true then wpAny c.M A (eval gc df) (λx iE=>
   wpAny c.M A (call (.builtin "list.append") [eh,x]) (λ_ qV=>∃m,m<n/\I m qV) O iE) O f'
   else∃m,m<n/\I m f') O b7) O eO) O bs) O s)
 (n:Ĵ) (h:I n s):codeAny c.M A (.compLoop (.ListComp gc [⟨target,iter,ifs,0⟩] scope pos) 0 it eh df) R s:=by
 refine codeAny_loop rfl I (λn s fV=>?_) n h
 show wpAny _ A ((compTurn (.ListComp gc [⟨target,iter,ifs,0⟩] scope pos) 0 it eh df).onRaise<|λx=>do noteFrame x df;theTreesLotGoes x) _ _ s
 refine wpAny_noted ?_
 rw[compTurn_list]
 refine bc<|pH<|bc<|lG (turn n s fV _) (λr bs lV=>?_) λ_ _ aR=>aR
 induction r with
 |none=>exact b1 lV
 |some v=>
  refine bc<|lG lV (λ_ eO UX=>bc<|lG UX (λ_ b7 vi=>bc<|lG vi (λNr f' K5=>?_) λ_ _ aR=>aR) λ_ _ aR=>aR) λ_ _ aR=>aR;induction Nr with
  |false=>exact b1 ⟨rfl,K5⟩
  |true=>exact bc<|bc<|lG K5 (λx iE VG=>bc<|lG VG (λ_ qV UQ=>b1<|b1 ⟨rfl,UQ⟩) λ_ _ aR=>aR) λ_ _ aR=>aR
abbrev ub:=B->St->(Lm B->St->Prop)->Prop
structure y2(c:cb)(A:Around)(cF D:Addr)(t:ub)(K:B->St->Prop)(N:Nat)(j8:Nat->List B->St->Prop)(Pos:Nat->aY->Shared->Prop):Prop where
 next:∀i C J s cg,Pos i C s->c.I C J s->j8 i cg J->(i<N/\∃x,t x J (λc7 J=>j8 (i+1) (cg++c7) J)/\∀(Q:Option Value->Shared->Prop) O,(∀v aR cJ,bz c.P C x v->(∀b o,b≠cF->s.heap.get? b=some o->aR.get? b=some o)->Pos (i+1) C {s with heap:=aR,toks:=cJ}->Q (some v) {s with heap:=aR,toks:=cJ})->wpAny c.M A (pyNext<|.ref cF) Q O s)\/(K (.lst cg) J/\∀(Q:Option Value->Shared->Prop) O,(∀aR cJ,(∀b o,b≠cF->s.heap.get? b=some o->aR.get? b=some o)->Q none {s with heap:=aR,toks:=cJ})->wpAny c.M A (pyNext<|.ref cF) Q O s)
 keep:∀i C s aP aq,Pos i C s->(∀a o,a≠D->s.heap.get? a=some o->(C a).kept->(∀k,C a≠.loc k)->aq.heap.get? a=some o/\aP a=C a)->(∀a n,C a=.st n->aP a=.st n)->(∀a o,C a=.a4 o->aP a=.a4 o)->Pos i aP aq
 self:∀i C s Q O,Pos i C s->Q (.ref cF) s->wpAny c.M A (pyIter<|.ref cF) Q O s
 oR:∀i C s,Pos i C s->dD λo n vs=>hP (s.heap.get? cF=some o) (o.cls=.type n) (o.data=.fields vs)<|yo n=true
theorem bq.drop{dp C:aY}{eO s:Qj}(x:bq dp eO C s){d:Addr}(am:dp d=.none)(bg:C d=.ext){aR:Heap}(bW:∀b o,b≠d->s.heap.get? b=some o->aR.get? b=some o)(t:Ĵ):bq dp eO (cD C d .none) {s with heap:=aR,toks:=t}:=⟨λa o e en=>have e_:a≠d:=λq=>(by rw[q,am]at en;exact en);let⟨ag,a8⟩:=x.kept a o e en;⟨bW a o e_ ag,(bV e_).trans a8⟩,λa n e=>(bV<|λq=>by rw[q,am]at e;exact bP e rfl).trans<|x.st a n e,λa n e=>(bV<|λq=>by rw[q,am]at e;exact bP e rfl).trans<|x.cH a n e⟩
inductive BA (c be:cb) (cF D:Addr) (jJ:Env) (b0:aK) (k:Nat) (ml:aY) (mT:Shared) (N:Nat) (j8:Nat->List B->St->Prop) (Pos:Nat->aY->Shared->Prop) (n:Nat) (aq:Shared):Prop
 |mk (i:Nat) (aP:aY) (dZ:St) (cg:List B) (bC:List Value) (m:Nat) (am:n=N-i) (p:Pos i aP aq) (I:c.I aP dZ aq) (x:bq ml mT aP aq) (fV:aP cF=.ext) (b2:aP D=.ext) (F:be.F aP jJ b0 aq.heap k) (ct:aq.heap.get? D=some (cw bC.toArray m)) (af:bB c.P aP cg bC) (aA:cg.length<=i) (AT:i<=N) (e:j8 i cg dZ):BA c be cF D jJ b0 k ml mT N j8 Pos n aq
theorem UJ{ns:bH}{cx b5:Str->Ģ}{scope:Scope}{aU:Lm Ĵ}(K:pn c ns cx b5 scope aU)(cc:A.handled=none){bk:Ģ}{target iter gc:ĳ}{ifs:Lm ĳ}{pos:Pos}(hl:ms (c.comp ns cx b5) bk target aU){fG:hg}{fb:dm}(gF:o7 (c.comp ns cx b5) A ifs fG)(ge:Good (c.comp ns cx b5) A gc fb){cF D ai:Addr}{r:aK}{KK:B->St->Prop}{N k:Ĵ}{j8:Ĵ->Lm B->St->Prop}{Pos:Ĵ->aY->Qj->Prop}(S:y2 c A cF D (k5 fb fG bk aU r) KK N j8 Pos)(c':N<=a3){jJ:Env}(jh:jJ.locals=ai)(qP:∀x,b5 x=true->jJ.kindOf x=some .local){ml:aY}{mT:Qj}(Yl:ml D=.none)(Wz:ml ai=.none)(H7:ml cF=.none)(vC:cF≠D){C:aY}{J:St}{s:Qj}{m:Ĵ}{R:Result->Qj->Prop}(I:c.I C J s)(F:(c.comp ns cx b5).F C jJ (mh aU r) s.heap k)(fV:C cF=.ext)(b2:C D=.ext)(ct:s.heap.get? D=some (cw [].toArray m))(x:bq ml mT C s)(p:Pos 0 C s)(e:j8 0 [] J)(UO:∀aP bE aq c7 bC m hL,KK (.lst c7) bE->c.I aP bE aq->bq ml mT aP aq->aP D=.ext->aP ai=.loc k->aq.heap.get? D=some (cw bC.toArray m)->bB c.P aP c7 bC->c7.length<=N->aq.heap.Ns ai hL->R (.ok .next) aq):codeAny c.M A (.compLoop (.ListComp gc [⟨target,iter,ifs,0⟩] scope pos) 0 (.ref cF) (.ref D) jJ) R s:=by
 refine Í (BA c (c.comp ns cx b5) cF D jJ (mh aU r) k ml mT N j8 Pos) ?_ N ⟨0,C,J,[],[],m,rfl,p,I,x,fV,b2,F,ct,.nil,dy _,f7 _,e⟩;rintro n aq⟨i,aP,dZ,cg,bC,m,rfl,et,dk,ez,nK,iJ,g8,kX,af,aA,AT,bx⟩O;rcases S.next i aP dZ aq _ et dk bx with⟨cU,aW,ag,am⟩|⟨ag,am⟩
 .refine am _ _ λv aR cJ co aE ae=>ax.dr ag λkv cZ fv=>?_;have fs:=ez.upd (d:=cF) (by rw[H7];exact id) aE cJ;have HD:∀a,(∀k,aP a≠.loc k)->a≠jJ.locals:=by rintro a h rfl;exact h k g8.bD.loc
  refine F4 (S.oR _ _ _ ae) ?_;refine yH K.ok cc hl (dk.upd (d:=cF) (by rw[nK];trivial) aE (by obtain⟨cu,_,_,g7,-⟩:=S.oR _ _ _ ae;rw[show aR.get? cF=some cu from g7];rfl) cJ) (g8.yO nK aE) co (ä.trans cZ) λiE hG rP m4=>?_;have kL:bq ml mT aP iE:=⟨λa o e6 en=>let⟨bY,br⟩:=fs.kept a o e6 en;⟨rP.loc qP a o (λq=>by rw[q,jh,Wz]at en;exact en) bY,br⟩,fs.st,fs.cH⟩;have OJ:iE.heap.get? D=some (cw bC.toArray m):=rP.loc qP D _ (HD D<|λj q=>by rw[iJ]at q;exact bP q rfl) (aE D _ (h5 vC) kX:aR.get? D=some (cw bC.toArray m));obtain⟨zE,CW⟩:=g2.mp (hG.alloc cF<|by rw[nK];intro z;exact bP z rfl);refine gF.use hG m4 fv λb Į kF r' qV lv vh hE=>?_;have Ju:Pos (i+1) r' qV:=S.keep _ _ _ _ _ (S.keep _ _ _ _ _ ae (λa o _ e6 _ bb=>⟨rP.loc qP a o (HD a bb) e6,rfl⟩) (λ_ _ e=>e) λ_ _ e=>e:Pos (i+1) aP iE) (λa o _ e6 en _=>hE.kept a o e6 en) hE.st<|hE.zero.oy hG;have vX:=hE.kept D _ OJ (by rw[iJ];trivial);have w8:=hE.kept cF _ CW (by rw[nK];trivial);induction b with
  |false=>show∃n',n'<N-i/\BA c (c.comp ns cx b5) cF D jJ (mh aU r) k ml mT N j8 Pos n' qV;exact⟨N-(i+1),Ai _ _ cU,i+1,r',_,cg,bC,m,rfl,Ju,lv,kL.trans hE,w8.2.trans nK,vX.2.trans iJ,Mm vh<|Gh cZ,vX.1,hE.iQ hG af,iL aA,cU,gT cg▸kF⟩
  |true=>
   refine ge.use lv vh kF λw Ě kG cB Am x6 Yx Z7 nT jx=>?_;have Iu:=nT.kept D _ vX.1 (by rw[vX.2,iJ];trivial);have Hw:=nT.iQ lv<|hE.iQ hG af;have CG:Am D=.ext:=Iu.2.trans<|vX.2.trans iJ;refine wpAny_list_append_plain (items:=bC.toArray) ⟨m,Iu.1⟩ (hsz:=by rw[eo,Hw.length,kK];exact aJ aA<|aJ AT c') λHd z' Ta=>?_;obtain⟨Gr,z'⟩:=z';have bW:∀b o,b≠D->x6.heap.get? b=some o->Hd.get? b=some o:=λb o av ea=>(Ta.2 b av).trans ea;have L4:Hd.get? D=some (cw (bC++[cB]).toArray Gr):=by rw[z'];simp[cw]
   refine⟨N-(i+1),Ai _ _ cU,i+1,Am,_,cg++[w],bC++[cB],Gr,rfl,?_,Yx.upd (d:=D) (by rw[CG];trivial) bW (by rw[L4];rfl) x6.toks,((kL.trans hE).trans nT).upd (d:=D) (by rw[Yl];exact id) bW x6.toks,(nT.kept cF _ w8.1<|by rw[w8.2,nK];trivial).2.trans<|w8.2.trans nK,CG,Mm (Z7.yO CG bW)<|Gh cZ,L4,Hw.append<|.cons jx .nil,by rw[c_];exact da aA,cU,kG⟩;exact S.keep _ _ _ _ _ (S.keep _ _ _ _ _ Ju (λa o _ e6 en _=>nT.kept a o e6 en) nT.st (nT.zero.oy lv):Pos (i+1) Am x6) (λa o ak e6 _ _=>⟨bW a o ak e6,rfl⟩) (λ_ _ e=>e) λ_ _ e=>e
 .refine am _ _ λaR cJ aE=>?_;obtain⟨fR,jN⟩:=uE (c:=c.comp ns cx b5) dk g8 nK aE cJ;obtain⟨hL,Nj⟩:=jN.bD.l2;have kn:∀{b b0},aP b=b0->b0≠.ext->b≠cF:=λe h q=>h<|e.symm.trans<|q▸nK;exact UO (cD aP cF .none) _ _ cg bC m hL ag fR (ez.drop H7 nK aE cJ) ((bV<|h5 vC).trans iJ) (jh▸jN.bD.loc) (aE D _ (h5 vC) kX) (af.mono (λb o e=>(bV<|kn e<|λz=>(nomatch z)).trans e) λb o e=>(bV<|kn e<|λz=>(nomatch z)).trans e) (aJ aA AT)<|jh▸Nj
theorem Q0(cc:A.handled=none){cF D:Addr}{t:ub}{K:B->St->Prop}{bL:aY}{bM:Lm B}{X:Ę}{ga:Lm Addr}{P:Ĵ->Ę->Prop}{Lc:Ĵ->Heap->Prop}(T:nV c bL bM X cF ga P Lc)(b2:D∉ga):y2 c A cF D t K bM.length (λi=>ku t K<|bM.drop i) (λi C s=>Lc i s.heap/\i<=bM.length/\(∀b∈ga,(C b).kept/\(∀k,C b≠.loc k)/\∃o,s.heap.get? b=some o)/\(∀a o,bL a=.a4 o->C a=.a4 o)/\(∀a n,bL a=.st n->C a=.st n))where
 next:=by
  rintro i C J s cg⟨iO,aA,av,d7,eU⟩I e;by_cases cU:i<bM.length
  .rw[xp cU]at e;refine .inl ⟨cU,bM[i],e,λQ O eP=>(T.W A cc).item i s Q O cU iO λv aR cJ ae tg aE=>?_⟩;obtain⟨x,G,E⟩:=T.vals i v cU ae;rw[fl cU]at G;cases G;refine eP v aR cJ (E.mono d7 eU) (λb o e_ ea=>aE b o (by simpa using e_) ea) ⟨tg,cU,λb iT=>?_,d7,eU⟩;obtain⟨bY,br,o,az⟩:=av b iT;refine⟨bY,br,?_⟩;by_cases fc:b=cF
   .subst fc;obtain⟨cu,_,_,g7,-⟩:=T.oR _ _ tg;exact⟨cu,g7⟩
   .exact⟨o,aE b o (by simpa using fc) az⟩
  .have iP:i=bM.length:=vA aA<|q0 cU;subst iP;rw[List.drop_length]at e;exact .inr ⟨e,λQ O eP=>(T.W A cc).done s Q O iO λaR cJ aE=>eP aR cJ λb o e_ ea=>aE b o (by simpa using e_) ea⟩
 keep:=by
  rintro i C s aP aq⟨iO,aA,av,d7,eU⟩aE aM a7;refine⟨(T.W A cc).frame _ _ _ iO λb iT o ea=>?_,aA,λb iT=>?_,λa o e=>a7 a o<|d7 a o e,λa n e=>aM a n<|eU a n e⟩
  .obtain⟨bY,br,-⟩:=av b iT;exact(aE b o (by rintro rfl;exact b2 iT) ea bY br).1
  .obtain⟨bY,br,o,az⟩:=av b iT;obtain⟨ag,a8⟩:=aE b o (by rintro rfl;exact b2 iT) az bY br;rw[a8];exact⟨bY,br,o,ag⟩
 self:=λi C s Q O p eP=>(T.W A cc).self i s Q O p.1 eP
 oR:=λi C s p=>T.oR i _ p.1
theorem Nc{t:ub}{K:B->St->Prop}{n m i:Ĵ}{cg:Lm B}{J:St}(q:m=0)(e:n0 t K n m i cg J):gZ J[n]? λl=>l.length=i/\K (.lst cg) J:=by subst q;exact e
theorem XQ{t:ub}{K:B->St->Prop}{n m iS i:Ĵ}{cg:Lm B}{J:St}(q:m=iS+1)(e:n0 t K n m i cg J):gZ J[n]? λl=>ax l[i]? λv=>t v J λc7 s=>n0 t K n iS (i+1) (cg++c7) s:=by subst q;exact e
theorem YF{n i:Ĵ}(h:i<n):n-i=(n-(i+1))+1:=(Nat.succ_pred_eq_of_pos<|Ly h).symm
theorem Po(cc:A.handled=none){cF D:Addr}{t:ub}{K:B->St->Prop}{n cnt:Ĵ}(vC:cF≠D):y2 c A cF D t K cnt (λi=>n0 t K n (cnt-i) i) (λi C s=>∃a,C a=.st n/\s.heap.IsListIter cF a i/\i<=cnt/\C cF=.ext)where
 next:=by
  rintro i C J s cg⟨a,ak,ya,aA,fV⟩I e;by_cases cU:i<cnt
  .obtain⟨l,ah,e⟩:=gZ.dr<|XQ (YF cU) e;obtain⟨hi,Vs,k,l8,bY,br,dM,gL⟩:=pF I (.ref ak) ah;cases l8;refine ax.dr e λv af e=>?_;obtain⟨V,co,Pk⟩:=dM.get af;clear af;exact .inl ⟨cU,v,e,λQ O eP=>wpAny_pyNext_list_item ya (hW br) (x:=V) (by simpa using co) λaR YJ md=>eP V aR s.toks Pk (λb o e_ ea=>md.extBut b o e_ ea) ⟨a,ak,YJ,cU,fV⟩⟩
  .obtain⟨l,ah,iP,e⟩:=gZ.dr<|Nc (J8<|q0 cU) e;obtain⟨hi,Vs,k,l8,bY,br,dM,gL⟩:=pF I (.ref ak) ah;cases l8;exact .inr ⟨e,λQ O eP=>wpAny_pyNext_list_end cc ya (hW br) (by simp[dM.length,iP]) λaR h9=>eP aR s.toks λb o e_ ea=>h9 b o e_ ea⟩
 keep:=by rintro i C s aP aq⟨a,ak,⟨o,az,ap,bg⟩,aA,fV⟩aE aM a7;obtain⟨ag,a8⟩:=aE cF o vC az (by rw[fV];trivial) (by rw[fV];intro k z;exact bP z rfl);exact⟨a,aM a n ak,⟨o,ag,ap,bg⟩,aA,a8.trans fV⟩
 self:=λi C s Q O p eP=>by obtain⟨a,-,ya,-⟩:=p;exact wpAny_pyIter_listiter ya eP
 oR:=λi C s p=>by obtain⟨a,-,⟨o,az,ap,bg⟩,-⟩:=p;exact⟨o,_,_,az,ap,bg,by decide⟩
def hide (C:aY) (aQ:Addr):aY:=λb=>if b=aQ then .ext else C b
theorem v0(C:aY)(aQ:Addr):hide C aQ aQ=.ext:=bl rfl
theorem nJ{C:aY}{aQ b:Addr}(h:b≠aQ):hide C aQ b=C b:=bt h
theorem bq.hide{dp C:aY}{eO s:Qj}(x:bq dp eO C s){aQ ai:Addr}{k:Ĵ}(ct:dp aQ=.loc k)(cf:dp ai=.none):bq (hide dp aQ) eO (swap C aQ ai k) s:=by
 have pp:aQ≠ai:=by rintro rfl;rw[ct]at cf;exact bP cf rfl
 have st:∀{a r},Up.hide dp aQ a=r->r≠.ext->a≠aQ:=λe h q=>h<|e.symm.trans<|q▸v0 _ _;have bQ:∀{a r},dp a=r->r≠.none->a≠ai:=λe h q=>h<|e.symm.trans<|q▸cf;refine⟨λa o e en=>?_,λa n e=>?_,λa n e=>?_⟩
 .by_cases q:a=aQ
  .subst q;exact⟨(x.kept a o e<|by rw[ct];trivial).1,(sV pp).trans (v0 _ _).symm⟩
  .rw[nJ q]at en⊢;obtain⟨ag,a8⟩:=x.kept a o e en;exact⟨ag,(i1 (by rintro rfl;rw[cf]at en;exact en) q).trans a8⟩
 .have q:=st e<|λz=>(nomatch z);rw[nJ q]at e;exact(i1 (bQ e<|λz=>(nomatch z)) q).trans<|x.st a n e
 .have q:=st e<|λz=>(nomatch z);rw[nJ q]at e;exact(i1 (bQ e<|λz=>(nomatch z)) q).trans<|x.cH a n e
theorem bq.M7{dp C:aY}{eO s:Qj}{aQ ai:Addr}{k:Ĵ}(x:bq (Up.hide dp aQ) eO C s)(ct:dp aQ=.loc k)(cf:dp ai=.none):bq dp eO (swap C ai aQ k) s:=by
 have bQ:∀{a r},dp a=r->r≠.none->a≠ai:=λe h q=>h<|e.symm.trans<|q▸cf;have va:∀{a r},dp a=r->(∀j,r≠.loc j)->a≠aQ:=λe h q=>h k<|e.symm.trans<|q▸ct;refine⟨λa o e en=>?_,λa n e=>?_,λa n e=>?_⟩
 .by_cases q:a=aQ
  .subst q;exact⟨(x.kept a o e<|by rw[v0];trivial).1,(uh _ _ _ _).trans ct.symm⟩
  .obtain⟨ag,a8⟩:=x.kept a o e (by rw[nJ q];exact en);rw[nJ q]at a8;exact⟨ag,(i1 q<|by rintro rfl;rw[cf]at en;exact en).trans a8⟩
 .have q:=va e<|λj z=>(nomatch z);exact(i1 q<|bQ e<|λz=>(nomatch z)).trans<|x.st a n<|(nJ q).trans e
 .have q:=va e<|λj z=>(nomatch z);exact(i1 q<|bQ e<|λz=>(nomatch z)).trans<|x.cH a n<|(nJ q).trans e
theorem xk{C:aY}{aQ ai:Addr}{k:Ĵ}(ct:C aQ=.loc k)(cf:C ai=.ext){b:Addr}{q:eI}(e:C b=q)(G:q≠.ext)(E:∀j,q≠.loc j):swap C aQ ai k b=q:=(i1 (by rintro rfl;exact G<|e.symm.trans cf)<|by rintro rfl;exact E k<|e.symm.trans ct).trans e
theorem E9{ns:bH}{cx b5:Str->Ģ}{scope:Scope}{aU:Lm Ĵ}(K:pn c ns cx b5 scope aU)(cc:A.handled=none){bk:Ģ}{target iter gc:ĳ}{ifs:Lm ĳ}{pos:Pos}(hl:ms (c.comp ns cx b5) bk target aU){fG:hg}{fb:dm}(gF:o7 (c.comp ns cx b5) A ifs fG)(ge:Good (c.comp ns cx b5) A gc fb){cF:Addr}{r:aK}{KK:B->St->Prop}{N k:Ĵ}{j8:Ĵ->Lm B->St->Prop}{Pos:Ĵ->aY->Qj->Prop}(c':N<=a3){ac:Env}{dp C:aY}{Cr J:St}{eO s:Qj}{n1:Ę->Addr->Result->Qj->Prop}{O:Ę->Qj->Prop}(S:y2 c A cF s.heap.objs.size (k5 fb fG bk aU r) KK N j8 Pos)(ni:c.I dp Cr eO)(lq:c.F dp ac r eO.heap k)(I:c.I C J s)(x:bq dp eO C s)(Lu:dp cF=.none)(fV:C cF=.ext)(hsz:eO.heap.objs.size<=s.heap.objs.size)(p:Pos 0 C s)(e:j8 0 [] J){cl:Lm (Str×Addr)}(eQ:∀y∈scope.names,y.2=.free->cl.lookup y.1=ac.cells.lookup y.1)(zH:∀D ai aP bE aq c7 bC m hL,KK (.lst c7) bE->c.I aP bE aq->bq dp eO aP aq->c.F aP ac r aq.heap k->dp D=.none->aP D=.ext->dp ai=.none->aP ai=.ext->ai≠D->aq.heap.get? D=some (cw bC.toArray m)->bB c.P aP c7 bC->c7.length<=N->aq.heap.Ns ai hL->n1 (.ref D) ai (.ok .next) aq):wpAny c.M A (newList []) (λeh f'=>wpAny c.M A (newFunctionEnv scope ac.globals cl [] ac.qual none .none (some ac)) (λjJ iE=>
 codeAny c.M A (.compStart (.ListComp gc [⟨target,iter,ifs,0⟩] scope pos) 0 (.ref cF) eh {jJ with scope:=relabel scope ac}) (n1 eh jJ.locals) iE) O f') O s:=by
 refine vd<|wpAny_newFunctionEnv K.EO (by intro y a2;simp at a2) (λlV KL Hc=>?_) K.kind;dsimp only at KL Hc⊢;obtain⟨D,b2⟩:∃D,D=s.heap.objs.size:=⟨_,rfl⟩;have BN:=I.push (cw [].toArray 0) rfl .ext<|.inr rfl;have ln:=bq.push I (cw [].toArray 0) .ext;rw[<-b2]at BN ln S⊢;have KA:cF≠D:=λq=>by have:=I.fresh (a:=cF) (by rw[q,<-b2];exact dy _);rw[fV]at this;exact bP this rfl
 obtain⟨ai,cf⟩:∃ai,ai=(s.heap.push (cw [].toArray 0)).objs.size:=⟨_,rfl⟩;have nl:ai=D+1:=by rw[cf,rl,b2]
 obtain⟨tT,KR⟩:∃m,lV.Ns ai m:=⟨_,by rw[cf];exact KL⟩;have Tu:Heap.SameBut ai ((s.heap.push<|cw [].toArray 0).push (⟨.type "dict",none,.dict #[] 0,#[]⟩:Obj)) lV:=by rw[cf];exact Hc
 have zR:D<=ai:=by rw[nl];exact j5 D
 have wr:D≠ai:=gG (by rw[nl];exact qD D);have bW:∀b o,b≠ai->((s.heap.push<|cw [].toArray 0).push (⟨.type "dict",none,.dict #[] 0,#[]⟩:Obj)).get? b=some o->lV.get? b=some o:=λb o av ea=>(Tu.2 b av).trans ea;have Xk:c.I (cD (cD C D .ext) ai .ext) J {s with heap:=(s.heap.push<|cw [].toArray 0).push (⟨.type "dict",none,.dict #[] 0,#[]⟩:Obj)}:=cf▸(BN.push (⟨.type "dict",none,.dict #[] 0,#[]⟩:Obj) rfl .ext<|.inr rfl);have Xa:bq (cD C D .ext) {s with heap:=s.heap.push (cw [].toArray 0)} (cD (cD C D .ext) ai .ext) {s with heap:=(s.heap.push<|cw [].toArray 0).push (⟨.type "dict",none,.dict #[] 0,#[]⟩:Obj)}:=cf▸(bq.push BN (⟨.type "dict",none,.dict #[] 0,#[]⟩:Obj) .ext);have Nd:∀{a:Addr},D<=a->C a=.none:=λh=>I.fresh (by rw[<-b2];exact h);have xt:∀{a b:Addr},C a≠.none->D<=b->a≠b:=λh av q=>h (by rw[q];exact Nd av);have Gy:cF≠ai:=xt (by rw[fV];exact λz=>bP z rfl) zR;have s9:dp ai=.none:=ni.fresh<|aJ hsz<|b2▸zR;have BZ:dp D=.none:=ni.fresh (by rw[b2];exact hsz);have xN:=Xk.upd (d:=ai) (by rw[c3];trivial) bW (by obtain⟨o,_,_,az,-⟩:=KR;rw[az];rfl) s.toks;have d3:=((x.trans ln).trans Xa).upd (d:=ai) (by rw[s9];exact id) bW s.toks;obtain⟨pj,vE⟩:∃pj,pj=cD (cD C D .ext) ai .ext:=⟨_,rfl⟩;have sQ:pj ai=.ext:=by rw[vE];exact c3 _ _ _
 have Zc:pj D=.ext:=by rw[vE,bV wr];exact c3 _ _ _
 have Zu:pj cF=.ext:=by rw[vE,bV Gy,bV KA];exact fV
 have EJ:∀a,(C a≠.none)->pj a=C a:=λa h=>by rw[vE,bV<|xt h zR,bV<|xt h<|dy _]
 rw[<-vE]at xN d3;obtain⟨l9,kx⟩:∃l9:Qj,l9={s with heap:=lV,toks:=s.toks}:=⟨_,rfl⟩;have xN:c.I pj J l9:=by rw[kx];exact xN
 have d3:bq dp eO pj l9:=by rw[kx];exact d3
 have ys:=lq.ext ni d3;have ZI:l9.heap.Ns ai tT:=by rw[kx];exact KR
 have pp:ac.locals≠ai:=by intro q;have:=lq.bD.loc;rw[q,s9]at this;exact bP this rfl
 have BP:ac.locals≠D:=by intro q;have:=lq.bD.loc;rw[q,BZ]at this;exact bP this rfl
 have Gx:ac.locals≠cF:=by intro q;have:=lq.bD.loc;rw[q,Lu]at this;exact bP this rfl
 have old:∀b o,s.heap.get? b=some o->l9.heap.get? b=some o:=λb o ea=>by rw[kx];exact bW b o (by rw[nl,b2];exact gG<|nA<|j_ ea)<|ih _<|ih _ ea
 have f_:Pos 0 (swap pj ac.locals ai k) l9:=S.keep 0 C s _ _ p (λa o e_ e6 en bb=>have aE:C a≠.none:=λz=>(by rw[z]at en;exact en);⟨old a o e6,(i1 (xt aE zR) λq=>bb k<|by rw[q];exact(lq.ext ni x).bD.loc).trans<|EJ a aE⟩) (λa n e6=>xk ys.bD.loc sQ ((EJ a<|by rw[e6];intro z;exact bP z rfl).trans e6) (λz=>(nomatch z)) λj z=>(nomatch z))<|λa n e6=>xk ys.bD.loc sQ ((EJ a<|by rw[e6];intro z;exact bP z rfl).trans e6) (λz=>(nomatch z)) λj z=>(nomatch z);have Xs:l9.heap.get? D=some (cw [].toArray 0):=by rw[kx];exact bW D _ wr (ih _<|by exact b2▸gO _ rfl)
 have F9:codeAny c.M A (.compLoop (.ListComp gc [⟨target,iter,ifs,0⟩] scope pos) 0 (.ref cF) (.ref D)<|compEnvC scope cl ai ac) (n1 (.ref D) ai) l9:=by refine UJ K cc hl gF ge S c' rfl (λy a2=>by rw[vB,K.st y a2];rfl) (ml:=Up.hide dp ac.locals) (mT:=eO) (by rw[nJ BP.symm];exact BZ) (by show Up.hide dp ac.locals ai=.none;rw[nJ pp.symm];exact s9) (by rw[nJ Gx.symm];exact Lu) KA (xN.swap ys.bD.loc sQ) (Un K ys eQ ZI sQ) (by rw[i1 Gy Gx.symm];exact Zu) (by rw[i1 wr BP.symm];exact Zc) Xs (d3.hide lq.bD.loc s9) f_ e λaP bE aq c7 bC m hL vt dk ez iJ ic ah af hz am=>?_;obtain⟨_,WQ,_,_,vv,-⟩:=lq.bD.l2;have kX:aP ac.locals=.ext:=(ez.kept ac.locals WQ vv<|by rw[v0];trivial).2.trans<|v0 _ _;have Fo:=ez.M7 (ai:=ai) lq.bD.loc s9;exact zH D ai _ _ aq c7 bC m hL vt (dk.swap ic kX) Fo (lq.ext ni Fo) BZ ((i1 BP.symm wr).trans iJ) s9 (sV pp.symm) wr.symm ah (af.mono (λb o ea=>xk ic kX ea (λz=>(nomatch z)) λj z=>(nomatch z)) λb o ea=>xk ic kX ea (λz=>(nomatch z)) λj z=>(nomatch z)) hz am
 have:=codeAny_compStart_list (R:=n1 (.ref D) ai) F9<|S.self 0 _ _ _ _ f_ F9;rw[kx,cf]at this;exact this
def yX(ec:dm)(fb:dm)(fG:hg)(bk:Ģ)(aU:Lm Ĵ):dm:=λr J K=>ec r J<|kj (k5 fb fG bk aU r) K
theorem Vi{C:aY}{J:St}{s:Qj}(I:c.I C J s){x:B}{X:Ę}{bM:Lm B}(h:gr c.P C s.heap x X)(e:items x=some bM):bM.length<=a3/\∀b,X=.ref b->(C b).kept/\(∀k,C b≠.loc k)/\∃o,s.heap.get? b=some o:=by
 have lJ:∀{b:Addr} {o:Obj},C b=.a4 o->(C b).kept/\(∀k,C b≠.loc k)/\∃o,s.heap.get? b=some o:=λe=>⟨by rw[e];trivial,λk=>(by rw[e];intro z;exact bP z rfl),_,I.a4 _ _ e⟩;have Jm:∀{b:Addr} {o:Obj},((C b=.a4 o)\/(∃i,C b=.own i)/\s.heap.get? b=some o)->(C b).kept/\(∀k,C b≠.loc k)/\∃o,s.heap.get? b=some o:=λe=>e.elim lJ λ⟨⟨_,e⟩,az⟩=>⟨by rw[e];trivial,λk=>(by rw[e];intro z;exact bP z rfl),_,az⟩;have y4:∀{a b:Addr},((C a).kept/\(∀k,C a≠.loc k)/\∃o,s.heap.get? a=some o)->Value.ref a=.ref b->(C b).kept/\(∀k,C b≠.loc k)/\∃o,s.heap.get? b=some o:=λh e=>Value.ref.inj e▸h;induction x using B.casesOn with
 |tup l=>obtain⟨a,Vs,n,rfl,ag,a8,c0⟩:=h.of;cases e;exact⟨c0,λb=>y4<|lJ ag⟩
 |lst l=>obtain⟨a,Vs,n,rfl,ag,a8,c0⟩:=h.of;cases e;exact⟨c0,λb=>y4<|Jm ag⟩
 |str l=>obtain⟨t,rfl,ah⟩:=h.of;cases e;exact⟨by rw[bR];exact ah,λb av=>by exact Ip av rfl⟩
 |a9 l=>obtain⟨a,es,n,rfl,ag,a8,c0,cZ⟩:=h.of;obtain⟨-,e⟩:=hj e;cases e;exact⟨by rw[bR];exact c0,λb=>y4<|Jm<|ag.imp And.left id⟩
 |eA a b=>obtain⟨a,t,u,w,rfl,ag,a8,c0,cZ⟩:=h.of;cases e;exact⟨by rw[bR,s3];exact cZ,λb=>y4<|lJ ag⟩
 |_=>exact b4 e
theorem D0{ns:bH}{cx b5:Str->Ģ}{scope:Scope}{aU:Lm Ĵ}(aX:c.Ok)(K:pn c ns cx b5 scope aU)(cc:A.handled=none){bk:Ģ}{target iter gc:ĳ}{ifs:Lm ĳ}{pos:Pos}(hl:ms (c.comp ns cx b5) bk target aU){fG:hg}{fb ec:dm}(gF:o7 (c.comp ns cx b5) A ifs fG)(ge:Good (c.comp ns cx b5) A gc fb)(gl:lc c A iter ec){O:Ę->Qj->Prop}{s:Qj}{ac:Env}{C:aY}{r:aK}{J:St}{k:Ĵ}{KK:B->St->Prop}{n1:Ę->Addr->Result->Qj->Prop}(I:c.I C J s)(F:c.F C ac r s.heap k)(e:yX ec fb fG bk aU r J KK){cl:Lm (Str×Addr)}(eQ:∀y∈scope.names,y.2=.free->cl.lookup y.1=ac.cells.lookup y.1)(zH:∀D ai aP bE aq c7 bC m hL,KK (.lst c7) bE->c.I aP bE aq->bq C s aP aq->c.F aP ac r aq.heap k->C D=.none->aP D=.ext->C ai=.none->aP ai=.ext->ai≠D->aq.heap.get? D=some (cw bC.toArray m)->bB c.P aP c7 bC->c7.length<=a3->aq.heap.Ns ai hL->n1 (.ref D) ai (.ok .next) aq):wpAny c.M A (eval iter ac) (λx bs=>wpAny c.M A (pyIter x) (λit b7=>wpAny c.M A (newList []) (λeh f'=>wpAny c.M A (newFunctionEnv scope ac.globals cl [] ac.qual none .none (some ac)) (λjJ iE=>
 codeAny c.M A (.compStart (.ListComp gc [⟨target,iter,ifs,0⟩] scope pos) 0 it eh {jJ with scope:=relabel scope ac}) (n1 eh jJ.locals) iE) O f') O b7) O bs) O s:=by
 refine gl.use I F e λx db a8 X bL bs a0 bU bn c8=>?_;have rR:bL bs.heap.objs.size=.none:=a0.fresh<|dy _;have kZ:∀{D:Addr},bL D=.none->C D=.none:=λ{D} h=>by
  induction q:C D with
  |none=>rfl
  |_=>
   exfalso;obtain⟨o,az⟩:=g2.mp (I.alloc D<|by rw[q];intro z;exact bP z rfl);first
    |(have z:=(bn.kept _ o az<|by rw[q];trivial).2;rw[h,q]at z;exact bP z rfl)
    |(have z:=bn.st _ _ q;rw[h]at z;exact bP z rfl)
    |(have z:=bn.cH _ _ q;rw[h]at z;exact bP z rfl)
 by_cases ay:∃n,x=.ref n
 .obtain⟨n,rfl⟩:=ay;obtain⟨l,aM,mJ⟩:=gZ.dr a8;cases c8 with|val c8=>obtain⟨a,Vs,m,rfl,bY,br,dM,gL⟩:=pF a0 c8 aM;refine wpAny_pyIter_list (hW br) ?_;refine E9 K cc hl gF ge (N:=l.length) (j8:=λi=>n0 (k5 fb fG bk aU r) KK n (l.length-i) i) gL (Po cc<|gG<|by rw[rl];exact qD _) a0 bU (a0.push ⟨.type "list_iterator",none,.fields #[.ref a,.int 0 0],#[]⟩ rfl .ext<|.inr rfl) (bq.push a0 ⟨.type "list_iterator",none,.fields #[.ref a,.int 0 0],#[]⟩ .ext) rR (c3 _ _ _) (by rw[rl];exact j5 _) ⟨a,(bV (gG (j_ br):a≠bs.heap.objs.size)).trans bY,⟨_,gO _ rfl,rfl,rfl⟩,f7 _,c3 _ _ _⟩ mJ eQ λD ai aP bE aq c7 bC m hL vt G E aB ba cO d2 fp qI ei sq sJ oQ=>?_;exact zH D ai aP bE aq c7 bC m hL vt G (bn.trans E) aB (kZ ba) cO (kZ d2) fp qI ei sq (aJ sJ gL) oQ
 .have c0:ax (items x) λbM=>ku (k5 fb fG bk aU r) KK bM [] db:=by induction x using B.casesOn<;>first|exact a8|exact absurd ⟨_,rfl⟩ ay
  refine ax.dr c0 λbM cZ fv=>?_;obtain⟨g',F3⟩:=Vi a0 c8 cZ;refine x9 aX.sys a0 c8 cZ λo ga P St T a7 st=>?_;have x':∀b∈ga,b<bs.heap.objs.size+1:=λb av=>by
   rcases T.D9 b av with rfl|av
   .exact qD _
   .obtain⟨-,-,cu,g7⟩:=F3 b av;exact nA<|j_ g7
  have d7:∀a,bL a≠.none->cD bL bs.heap.objs.size .ext a=bL a:=λa h=>bV (by rintro rfl;exact h rR);refine E9 K cc hl gF ge (N:=bM.length) (j8:=λi=>ku (k5 fb fG bk aU r) KK<|bM.drop i) g' (Q0 cc T<|λaN=>jZ _ (by have:=x' _ aN;rwa[rl]at this)) a0 bU (a0.push o a7 .ext<|.inr rfl) (bq.push a0 o .ext) rR (c3 _ _ _) (by rw[rl];exact j5 _) ⟨st,f7 _,λb av=>?_,λa o e=>(d7 a<|by rw[e];intro z;exact bP z rfl).trans e,λa o e=>(d7 a<|by rw[e];intro z;exact bP z rfl).trans e⟩ fv eQ λD ai aP bE aq c7 bC m hL vt G E aB ba cO d2 fp qI ei sq sJ oQ=>?_
  .rcases T.D9 b av with rfl|av
   .rw[c3];exact⟨trivial,λk z=>(nomatch z),o,gO _ a7⟩
   .obtain⟨dA,er,cu,g7⟩:=F3 b av;rw[d7 b<|by intro z;rw[z]at dA;exact dA];exact⟨dA,er,cu,ih _ g7⟩
  .exact zH D ai aP bE aq c7 bC m hL vt G (bn.trans E) aB (kZ ba) cO (kZ d2) fp qI ei sq (aJ sJ g') oQ
theorem CA{ns:bH}{cx b5:Str->Ģ}{scope:Scope}{aU:Lm Ĵ}(K:pn c ns cx b5 scope aU){C:aY}{ac:Env}{r:aK}{h:Heap}{k:Ĵ}(F:c.F C ac r h k):∃cl,closureFor scope ac=pure cl/\∀y∈scope.names,y.2=.free->cl.lookup y.1=ac.cells.lookup y.1:=NI λy a2 e=>by obtain⟨be,v,bY,-,-⟩:=F.bD.cells y.1<|.inl<|F.cl y.1<|K.free y a2 e;rw[bY];rfl
theorem A1{ns:bH}{cx b5:Str->Ģ}{scope:Scope}{aU:Lm Ĵ}(aX:c.Ok)(K:pn c ns cx b5 scope aU)(cc:A.handled=none){bk:Ģ}{target iter gc:ĳ}{ifs:Lm ĳ}{pos:Pos}(hl:ms (c.comp ns cx b5) bk target aU){fG:hg}{fb ec:dm}(gF:o7 (c.comp ns cx b5) A ifs fG)(ge:Good (c.comp ns cx b5) A gc fb)(gl:lc c A iter ec)(aM:qg iter=false):p0 c A (.ListComp gc [⟨target,iter,ifs,0⟩] scope pos) (λr J K=>jQ<|yX ec fb fG bk aU r J K):=by
 intro O s ac C r J k KK Q I F e h;obtain⟨cl,G,E⟩:=CA K F;rw[eval_ListComp];refine A' (use:=none) rfl (x1 aM) G K.kind K.yV<|D0 aX K cc hl gF ge gl (n1:=λeh ai=>compPost c.M A O none Q eh ai) I F e.of E λD ai aP bE aq c7 bC m hL af dk ez g8 b2 iJ cf ic nl ah jL hz am=>?_;have h:=h _ _ af;clear af;refine⟨hL,am,λsZ uv=>?_⟩;have bW:∀b o,b≠ai->aq.heap.get? b=some o->sZ.get? b=some o:=λb o av ea=>(uv.2 b av).trans ea;by_cases Al:(sZ.get? ai).isSome=true
 .exact h D aP _ (dk.upd (d:=ai) (by rw[ic];trivial) bW Al aq.toks) (ez.upd (d:=ai) (by rw[cf];exact id) bW aq.toks) b2 iJ<|.lst (bW D _ nl.symm ah) jL hz
 .have kn:∀{b b0},aP b=b0->b0≠.ext->b≠ai:=λe h q=>h<|e.symm.trans<|q▸ic;exact h D _ _ (uE dk g8 ic bW aq.toks).1 (ez.drop cf ic bW aq.toks) b2 ((bV nl.symm).trans iJ)<|.lst (bW D _ nl.symm ah) (jL.mono (λb o e=>(bV<|kn e<|λz=>(nomatch z)).trans e) λb o e=>(bV<|kn e<|λz=>(nomatch z)).trans e) hz
theorem o9.a4{C:aY}{J:St}{s:Qj}(aX:c.Ok)(I:c.I C J s){D:Addr}{v:B}(b2:C D=.ext)(h:o9 c C s D v):∃o,s.heap.get? D=some o/\bz c.P (cD C D<|.a4 o) v (.ref D):=by
 have kn:∀{b b0},C b=b0->b0≠.ext->b≠D:=λe h q=>h<|e.symm.trans<|q▸b2;induction h with
 |lst c5 bj cK=>exact⟨_,c5,.lst (c3 _ _ _) (bj.mono (λb o e=>(bV<|kn e<|λz=>(nomatch z)).trans e) λb o e=>(bV<|kn e<|λz=>(nomatch z)).trans e) cK⟩
 |a9 c5 bj=>exact⟨_,c5.at_,.a9 (c3 _ _ _) (c5.rel.mono (λb o e=>(bV<|kn e<|λz=>(nomatch z)).trans e) λb o e=>(bV<|kn e<|λz=>(nomatch z)).trans e) c5.a3 c5.nodup bj⟩
theorem z7{e:ĳ}{w:dm}(aX:c.Ok)(g:p0 c A e w):Good c A e w:=by intro O s ac C r J k K Q I F ag h;refine g O s ac C r J k K Q I F ag λv db e a aP aq dk ez am ak af=>?_;obtain⟨o,G,E⟩:=af.a4 aX dk ak;exact h _ _ e _ _ aq (dk.turn (by rw[ak];trivial) G) (ez.turn (by rw[am];exact id) ak) E
theorem QK{ns:bH}{cx b5:Str->Ģ}{scope:Scope}{aU:Lm Ĵ}(aX:c.Ok)(K:pn c ns cx b5 scope aU)(cc:A.handled=none){bk:Ģ}{target iter gc:ĳ}{ifs:Lm ĳ}{pos:Pos}(hl:ms (c.comp ns cx b5) bk target aU){fG:hg}{fb ec:dm}(gF:o7 (c.comp ns cx b5) A ifs fG)(ge:Good (c.comp ns cx b5) A gc fb)(gl:lc c A iter ec)(aM:qg iter=false){x:Str}{eB oO:Pos}{i:Ĵ}(aA:c.ns.lookup x=some i)(ay:c.b5 x=true):f6 c A (.Assign [.Name x eB] (.ListComp gc [⟨target,iter,ifs,0⟩] scope pos) oO) λr J KK=>jQ (yX ec fb fG bk aU r J<|pL i r KK):=by
 intro O s ac C r J k KK Q I F a8 h;obtain⟨b,av⟩:∃b,swapsWith (.ListComp gc [⟨target,iter,ifs,0⟩] scope pos) (some (.Name x eB)) oO.line ac=pure b:=⟨_,rfl⟩;cases b with
 |false=>exact DR ((z7 aX<|A1 aX K cc hl gF ge gl aM).use I F a8 λv db e V bL bs a0 bU bn co=>q_ aX a0 bU aA ay co λb7 cd bK ou eb=>h _ _ _ e _ bL b7 cd (bn.zero.trans bK) eb .go) av
 |true=>obtain⟨cl,G,E⟩:=CA K F;rw[exec_Assign_Name_used _ _ _ _ av];refine bc<|pH<|bc ?_;show wpAny _ A (do let _<-comprehension (.ListComp gc [⟨target,iter,ifs,0⟩] scope pos) scope ac _ (newList []) false (eval iter ac) (some<|assign (.Name x eB) ac)) _ _ s;refine bc<|lG (A' (use:=some<|assign (.Name x eB) ac) (Q:=λ_ aq=>Q .next aq) rfl (x1 aM) G K.kind K.yV<|D0 aX K cc hl gF ge gl (n1:=λeh ai=>compPost c.M A O (some<|assign (.Name x eB) ac) (λ_ aq=>Q .next aq) eh ai) I F a8.of E λD ai aP bE aq c7 bC m hL af dk ez g8 b2 iJ cf ic nl ah jL hz am=>?_) (λ_ aq bb=>b1<|b1 bb) λ_ _ e=>e;have h:=h _ _ _ af;clear af;obtain⟨o,c5,bj⟩:=(o9.lst ah jL hz).a4 aX dk iJ;have bK:=ez.turn (r:=.a4 o) (by rw[b2];exact id) iJ;have rV:cD aP D (.a4 o) ai=.ext:=(bV nl).trans ic;refine assign_Name<|q_ aX (dk.turn (d:=D) (by rw[iJ];trivial) c5) (F.ext I bK) aA ay bj λf' fR fs IG jN=>?_;have he:f'.heap.Ns ai hL:=am.at' λo e=>IG.so ai o (λk z=>by rw[rV]at z;exact bP z rfl) (λk z=>by rw[rV]at z;exact bP z rfl) e;refine⟨hL,he,λsZ uv=>?_⟩;have bW:∀b o,b≠ai->f'.heap.get? b=some o->sZ.get? b=some o:=λb o av ea=>(uv.2 b av).trans ea;obtain⟨hG,m4⟩:=uE fR jN rV bW f'.toks;exact h _ _ _ hG ((bK.zero.trans fs).drop cf rV bW f'.toks) m4 .go
theorem Uz{ns:bH}{cx b5:Str->Ģ}{scope:Scope}{aU:Lm Ĵ}(aX:c.Ok)(K:pn c ns cx b5 scope aU)(cc:A.handled=none){bk:Ģ}{target iter gc:ĳ}{ifs:Lm ĳ}{pos:Pos}(hl:ms (c.comp ns cx b5) bk target aU){fG:hg}{fb ec:dm}(gF:o7 (c.comp ns cx b5) A ifs fG)(ge:Good (c.comp ns cx b5) A gc fb)(gl:lc c A iter ec)(aM:qg iter=false){x:Str}{eB oO:Pos}{i:Ĵ}(aA:c.ns.lookup x=some i)(ay:c.b5 x=true):f6 c A (.Assign [.Name x eB] (.ListComp gc [⟨target,iter,ifs,0⟩] scope pos) oO) λr J KK=>jQ (yX ec fb fG bk aU r J<|u5 i r KK):=by
 intro O s ac C r J k KK Q I F a8 h;obtain⟨b,av⟩:∃b,swapsWith (.ListComp gc [⟨target,iter,ifs,0⟩] scope pos) (some (.Name x eB)) oO.line ac=pure b:=⟨_,rfl⟩;cases b with
 |false=>exact Mx aX av aA ay (A1 aX K cc hl gF ge gl aM) I F a8 h
 |true=>obtain⟨cl,G,E⟩:=CA K F;rw[exec_Assign_Name_used _ _ _ _ av];refine bc<|pH<|bc ?_;show wpAny _ A (do let _<-comprehension (.ListComp gc [⟨target,iter,ifs,0⟩] scope pos) scope ac _ (newList []) false (eval iter ac) (some<|assign (.Name x eB) ac)) _ _ s;refine bc<|lG (A' (use:=some<|assign (.Name x eB) ac) (Q:=λ_ aq=>Q .next aq) rfl (x1 aM) G K.kind K.yV<|D0 aX K cc hl gF ge gl (n1:=λeh ai=>compPost c.M A O (some<|assign (.Name x eB) ac) (λ_ aq=>Q .next aq) eh ai) I F a8.of E λD ai aP bE aq c7 bC m hL af dk ez g8 b2 iJ cf ic nl ah jL hz am=>?_) (λ_ aq bb=>b1<|b1 bb) λ_ _ e=>e;have h:=h _ _ _ af;clear af;refine assign_Name<|BV dk g8 ay λf' aT=>?_;have rV:hM aP D i ai=.ext:=mq nl ic λj q=>(nomatch q);refine⟨hL,(am.at' λo e=>aT.keep ai o (λk z=>by rw[ic]at z;exact bP z rfl) (λk z=>by rw[ic]at z;exact bP z rfl) e:f'.heap.Ns ai hL),λsZ uv=>?_⟩;have bW:∀b o,b≠ai->f'.heap.get? b=some o->sZ.get? b=some o:=λb o av ea=>(uv.2 b av).trans ea;obtain⟨hG,m4⟩:=uE ((aT.I dk).hM (i:=i) iJ) (LL (aL:=.ol c7) aX dk aT g8 aA iJ (.lst ah jL hz) rfl) rV bW f'.toks;exact h _ _ _ hG ((G' (i:=i) C s (ez.zero.trans aT.ext) b2 iJ).drop cf rV bW f'.toks) m4 .go
def eI.ha:eI->Ģ
 |.loc _|.kY _|.own _=>true
 |_=>false
def cover (C:aY):aY:=λb=>if(C b).ha then .ext else C b
def mix (C aP:aY):aY:=λb=>if(C b).ha then C b else if(aP b).ha then .ext else aP b
theorem pI{C:aY}{b:Addr}{r:eI}(e:C b=r)(h:r.ha=false):cover C b=r:=by unfold cover;rw[e,h];rfl
theorem Nl{C:aY}{b:Addr}(h:(C b).ha=true):cover C b=.ext:=by unfold cover;rw[h];rfl
theorem vF{C:aY}{b:Addr}{r:eI}(e:cover C b=r)(h:r≠.ext):C b=r/\r.ha=false:=by
 unfold cover at e;split at e
 .exact absurd e.symm h
 .rename_i q;exact⟨e,by rw[e]at q;simpa using q⟩
section
variable{P:Params}{N:g1}{H:Heap}{os:OsState}{C aP:aY}{J bE:St}{s aq:Qj}
theorem Inv.cover(I:Inv P N H os C J s):Inv P N H os (cover C) J s:=by
 have d7:∀b o,C b=.a4 o->Up.cover C b=.a4 o:=λb o e=>pI e rfl;refine⟨λb h=>I.alloc b λq=>h<|pI q rfl,λa b e h=>?_,λb o e=>I.a4 b o (vF e<|λz=>(nomatch z)).1,λn cp e=>(I.store n cp e).mono d7 (λb o e=>pI e rfl) (λb o e=>pI e rfl) λ_ _ _ e=>e,λb o e=>d7 _ _<|I.base b o e,I.gens,I.hJ,λb n e=>I.gD b n ?_⟩
 .have e_:Up.cover C a≠.ext:=λz=>by rw[z]at h;exact h
  have G:=vF rfl e_;exact I.uniq a b (G.1.trans (vF e.symm e_).1.symm) (by rw[G.1];exact h)
 .rcases e with e|e
  .exact .inl (vF e<|λz=>(nomatch z)).1
  .exact .inr (vF e<|λz=>(nomatch z)).1
theorem DY{a:Addr}{o:Obj}(ae:∀b,(C b).ha=true->aP b=.ext)(e:aP a=.a4 o):mix C aP a=.a4 o:=by
 unfold mix;by_cases q:(C a).ha=true
 .rw[ae a q]at e;exact bP e rfl
 .rw[bt q,e];rfl
theorem ED{a:Addr}{n:Ĵ}(ae:∀b,(C b).ha=true->aP b=.ext)(e:aP a=.st n):mix C aP a=.st n:=by
 unfold mix;by_cases q:(C a).ha=true
 .rw[ae a q]at e;exact bP e rfl
 .rw[bt q,e];rfl
theorem Kg{a:Addr}{n:Ĵ}(ae:∀b,(C b).ha=true->aP b=.ext)(e:aP a=.cH n):mix C aP a=.cH n:=by
 unfold mix;by_cases q:(C a).ha=true
 .rw[ae a q]at e;exact bP e rfl
 .rw[bt q,e];rfl
theorem uN{a:Addr}{r:eI}(e:mix C aP a=r)(h:r.ha=false)(E:r≠.ext):aP a=r:=by
 unfold mix at e;split at e
 .rename_i q;rw[e,h]at q;exact cq q
 .split at e
  .exact absurd e.symm E
  .exact e
theorem Inv.mix(I:Inv P N H os C J s)(dk:Inv P N H os aP bE aq)(ae:∀b,(C b).ha=true->aP b=.ext):Inv P N H os (mix C aP) bE aq:=by
 refine⟨λb h=>?_,λa b e h=>?_,λb o e=>dk.a4 b o<|uN e rfl<|λz=>(nomatch z),λn cp e=>(dk.store n cp e).mono (λb o e=>DY ae e) (λb n e=>ED ae e) (λb n e=>Kg ae e) λ_ _ _ e=>e,λb o e=>DY ae<|dk.base b o e,dk.gens,dk.hJ,λb n e=>dk.gD b n ?_⟩
 .by_cases q:(C b).ha=true
  .exact dk.alloc b (by rw[ae b q];intro z;exact bP z rfl)
  .refine dk.alloc b λz=>h ?_;unfold Up.mix;rw[bt q,z];rfl
 .by_cases gd:(C a).ha=true
  .have e6:Up.mix C aP a=C a:=by unfold Up.mix;rw[bl gd]
   by_cases fc:(C b).ha=true
   .have ea:Up.mix C aP b=C b:=by unfold Up.mix;rw[bl fc]
    exact I.uniq a b (by rw[<-e6,<-ea];exact e) (by rw[<-e6];exact h)
   .exfalso;have:(Up.mix C aP b).ha=false:=by
     unfold Up.mix;rw[bt fc];split
     .rfl
     .rename_i q;simpa using q
    rw[<-e,e6,gd]at this;exact hK this
  .have e_:Up.mix C aP a≠.ext:=λz=>by rw[z]at h;exact h
   have yz:(Up.mix C aP a).ha=false:=by
    unfold Up.mix;rw[bt gd];split
    .rfl
    .rename_i q;simpa using q
   have ag:=uN rfl yz e_;exact dk.uniq a b (ag.trans (uN e.symm yz e_).symm) (by rw[ag];exact h)
 .rcases e with e|e
  .exact .inl<|uN e rfl<|λz=>(nomatch z)
  .exact .inr<|uN e rfl<|λz=>(nomatch z)
theorem ey.mix(I:Inv P N H os C J s)(x:ey (Up.cover C) s aP aq):(∀b,(C b).ha=true->aP b=.ext)/\bq C s (mix C aP) aq:=by
 have ae:∀b,(C b).ha=true->aP b=.ext/\∀o,s.heap.get? b=some o->aq.heap.get? b=some o:=λb q=>by obtain⟨o,az⟩:=g2.mp (I.alloc b<|by intro z;rw[z]at q;exact cq q);have ap:=Nl q;refine⟨(x.ig b o az<|by rw[ap];trivial).2.trans ap,λcu g7=>(x.ig b cu g7<|by rw[ap];trivial).1⟩
 have gX:∀b,(C b).ha=true->aP b=.ext:=λb q=>(ae b q).1;refine⟨gX,λa o e en=>?_,λa n e=>ED gX<|x.st a n<|pI e rfl,λa n e=>Kg gX<|x.cH a n<|pI e rfl⟩;by_cases q:(C a).ha=true
 .exact⟨(ae a q).2 o e,by unfold Up.mix;rw[bl q]⟩
 .have ap:Up.cover C a=C a:=by unfold Up.cover;rw[bt q]
  have cc:(Up.cover C a).ig:=by rw[ap];revert q en;induction C a<;>intro en q<;>first|trivial|exact en|exact absurd rfl q
  obtain⟨ag,a8⟩:=x.ig a o e cc;refine⟨ag,?_⟩;unfold Up.mix;rw[bt q,a8,ap,bt q]
end
theorem Bb{names:Lm Str}{vals:Lm Ę}(am:names.Nodup){i:Ĵ}{n:Str}{v:Ę}(G:names[i]?=some n)(E:vals[i]?=some v):(names.zip vals).lookup n=some v:=by
 induction names generalizing vals i with
 |nil=>exact b4 G
 |cons m r ar=>
  induction vals using List.casesOn with
  |nil=>exact b4 E
  |cons w uq=>
   rw[zj,kB];have he:=hT.mp am;induction i with
   |zero=>cases G;cases E;rw[jV]
   |succ i=>have G:r[i]?=some n:=G;rw[lf.mpr λe:n=m=>he.1<|e▸ib G];exact ar he.2 G E
theorem Ą{names:Lm Str}{vals:Lm Ę}{n:Str}(h:n∉names.take vals.length):(names.zip vals).lookup n=none:=by
 induction names generalizing vals with
 |nil=>rfl
 |cons m r ar=>
  induction vals with
  |nil=>rfl
  |cons w uq=>rw[zj,kB];have h:n∉m::r.take uq.length:=h;rw[lf.mpr λe:n=m=>h<|e▸.head _];exact ar λq=>h<|.tail _ q
theorem OO{g:Str->Ĳ (Str×Ę)}{names:Lm Str}:∀{vals:Lm Ę},vals.length=names.length->(∀(i:Ĵ) n v,names[i]?=some n->vals[i]?=some v->g n=some (n,v))->names.filterMap g=names.zip vals:=by
 induction names with
 |nil=>intro vals _ _;rfl
 |cons m r ar=>
  intro vals h k;induction vals with
  |nil=>exact Nat.noConfusion h
  |cons w uq=>rw[zj,Eb,k 0 m w rfl rfl,ar (Nat.succ.inj h) λi n v G E=>k (i+1) n v G E]
theorem UG(f:Str×Ę->Lm (Str×Ę)->Sem (ForInStep<|List<|Str×Ę))(a7:∀x S,f x S=if(S.lookup x.1).isNone=true then pure (.yield<|S++[(x.1,x.2)])else pure (.yield S)){l:Lm (Str×Ę)}:∀{S:Lm (Str×Ę)} {m:Ĵ},(l.map (·.1)).Nodup->(∀(i:Ĵ) p,l[i]?=some p->i<m->(S.lookup p.1).isNone=false)->(∀(i:Ĵ) p,l[i]?=some p->m<=i->S.lookup p.1=none)->∀{M:Model} {A:Around} {O:Ę->Qj->Prop} {s:Qj} {Q:Lm (Str×Ę)->Qj->Prop},Q (S++l.drop m) s->wpAny M A (forIn l S f) Q O s:=by
 induction l with
 |nil=>intro S m _ _ _ M A O s Q q;rw[List.drop_nil,gT]at q;exact b1 q
 |cons p l ar=>
  intro S m am G E M A O s Q q;rw[Bp,a7];have am:=hT.mp am;refine bc ?_;induction m with
  |zero=>
   rw[bl<|by rw[E 0 p rfl<|dy _];rfl];refine b1<|ar (m:=0) am.2 (λi q _ aA=>absurd aA<|yM _) (λi q bb _=>?_) ?_
   .rw[CX,E (i+1) q bb<|f7 _,Option.none_or,kB,lf.mpr λe:q.1=p.1=>am.1<|dn.mpr ⟨q,ib bb,e⟩];rfl
   .rw[hS];exact q
  |succ m=>rw[bt<|by rw[G 0 p rfl<|oG _];exact eM];exact b1<|ar am.2 (λi q bb aA=>G (i+1) q bb<|u6 aA) (λi q bb aA=>E (i+1) q bb<|da aA) q
def C5 (p:Arguments):Ģ:=p.posonlyargs.isEmpty&&p.kwonlyargs.isEmpty&&p.vararg.isNone&&p.kwarg.isNone
def l4 (vals cP:Lm Ę) (np:Ĵ):Lm Ę:=vals++cP.drop (cP.length-(np-vals.length))
theorem GB{vals cP:Lm Ę}{n:Ĵ}(G:vals.length<=n)(E:n<=vals.length+cP.length):(l4 vals cP n).length=n:=by unfold l4;rw[c_,u1,Nat.sub_sub_self<|Jj (qh .. ▸E),Em G]
theorem Mu{c:Ģ}(h:c=false):decide (c=true)=false:=by rw[h];rfl
theorem Om{names:Lm Str}{vals cP:Lm Ę}{cX:Prop}(am:names.Nodup)(ah:vals.length<=names.length)(zt:names.length<=vals.length+cP.length)(jG:cP.length<=names.length)(k:(decide (vals.length>names.length)&&true)=false->(!(((names.take<|names.length-(cP.drop<|cP.length-names.length).length).filter λn=>((names.zip vals).lookup n).isNone).isEmpty))=false->((((names.drop<|names.length-(cP.drop<|cP.length-names.length).length).zip<|cP.drop<|cP.length-names.length).map (·.1)).Nodup)->(∀(i:Ĵ) p,((names.drop<|names.length-(cP.drop<|cP.length-names.length).length).zip<|cP.drop<|cP.length-names.length)[i]?=some p->i<vals.length-(names.length-cP.length)->((names.zip vals).lookup p.1).isNone=false)->(∀(i:Ĵ) p,((names.drop<|names.length-(cP.drop<|cP.length-names.length).length).zip<|cP.drop<|cP.length-names.length)[i]?=some p->vals.length-(names.length-cP.length)<=i->(names.zip vals).lookup p.1=none)->((names++[]).filterMap λn=>((names.zip vals++((names.drop<|names.length-(cP.drop<|cP.length-names.length).length).zip<|cP.drop<|cP.length-names.length).drop (vals.length-(names.length-cP.length))).lookup n).map (n,·))=names.zip (l4 vals cP names.length)->cX):cX:=by
 have cZ:cP.drop (cP.length-names.length)=cP:=by rw[J8 jG];rfl
 rw[cZ]at k;have aE:names.length-cP.length<=vals.length:=Jj zt;have at_:∀(i:Ĵ) p,((List.drop (names.length-cP.length) names).zip cP)[i]?=some p->names[names.length-cP.length+i]?=some p.1/\cP[i]?=some p.2:=λi p h=>by obtain⟨G,E⟩:=IK.mp h;rw[v1]at G;exact⟨G,E⟩
 have fresh:∀(j:Ĵ) n,names[j]?=some n->vals.length<=j->(names.zip vals).lookup n=none:=λj n b8 af=>by refine Ą λaN=>?_;obtain⟨i,aA,e⟩:=Gf.mp aN;clear aN;rw[xI]at aA;rw[Mz]at e;have iP:i<names.length:=gI aA<|Nat.min_le_right _ _;have:=(Mp iP am (j:=j)).mp (by rw[b8,fl iP,e]);exact absurd (gI aA<|Ec _ _)<|rz.mpr<|this▸af
 have Ib:∀(j:Ĵ) n,names[j]?=some n->j<vals.length->((names.zip vals).lookup n).isNone=false:=λj n b8 af=>by rw[Bb am b8<|fl af];rfl
 refine k (by rw[eC<|rz.mpr ah];rfl) ?_ ?_ (λi p h aA=>Ib _ _ (at_ i p h).1<|Ge aA) (λi p h aA=>fresh _ _ (at_ i p h).1<|Nat.sub_le_iff_le_add'.mp aA) ?_
 .rw[uB.mpr λn lF=>?_]
  .rfl
  .obtain⟨i,aA,e⟩:=Gf.mp lF;clear lF;rw[xI]at aA;rw[Mz]at e;rw[Ib i n (by rw[<-e];exact fl _)<|gI (gI aA<|Ec _ _) aE];exact eM
 .rw[List.map_fst_zip<|by rw[u1];exact fU<|Nat.sub_sub_self jG];exact am.sublist<|Fe _ _
 .have mc:=GB ah zt;have ap:vals.length-(names.length-cP.length)=cP.length-(names.length-vals.length):=by rw[F5 _ jG,F5 _ ah,qh]
  rw[gT];refine OO mc λi n v G E=>?_;rw[CX];unfold l4 at E;by_cases af:i<vals.length
  .rw[o1 af]at E;rw[Bb am G E];rfl
  .have af:=rz.mp af;rw[pf af,v1]at E;rw[fresh i n G af,Option.none_or,J',List.drop_zipWith,<-J',List.drop_drop];have iP:=(hb.mp G).1;rw[Bb (i:=i-vals.length) (v:=v) (am.sublist<|Fe _ _) (by rw[v1,Em aE,Em af];exact G)<|by rw[v1,ap];exact E];rfl
theorem Ux{s:Qj}{eF:FuncData}{names:Lm Str}{vals cP:Lm Ę}(ae:C5 eF.params=true)(ak:eF.params.args.map (·.arg)=names)(am:names.Nodup)(ah:vals.length<=names.length)(bg:(eF.defaults=.none/\cP=[])\/dD λT o k=>dY (eF.defaults=.ref T) (s.heap.get? T=some o)<|o.data=.seq cP.toArray k)(zt:names.length<=vals.length+cP.length)(jG:cP.length<=names.length):BindsTo s eF ⟨vals,[]⟩ (names.zip<|l4 vals cP names.length):=by
 obtain⟨k8,cL,ft,e⟩:dD λk8 cL ft=>eF.params=⟨[],k8,none,[],cL,none,ft⟩:=by have h:=gQ.mp ae;have G:=gQ.mp h.1;have E:=gQ.mp G.1;have dA:=fZ.mp E.1;have er:=fZ.mp E.2;have f_:=pU.mp G.2;have jE:=pU.mp h.2;clear h G E ae ak bg;generalize eF.params=p at*;obtain⟨Vu,k8,mI,xX,cL,en,ft⟩:=p;exact⟨k8,cL,ft,by rw[show Vu=[]from dA,show xX=[]from er,show mI=none from f_,show en=none from jE]⟩
 rw[e]at ak;obtain rfl:k8.map (·.arg)=names:=ak;intro M A O Q bb;unfold bindArgs;rw[e];obtain⟨wO,rfl,É⟩:∃wO:Ĳ (Array Ę),(wO.getD #[]).toList=cP/\∀bT,bT wO s->wpAny M A (seqItems? eF.defaults) bT O s:=by
  rcases bg with⟨G,E⟩|⟨T,o,k,G,E,aB⟩
  .refine⟨none,by rw[E];rfl,λbT h=>?_⟩;rw[G];exact b1 h
  .refine⟨some cP.toArray,rfl,λbT h=>?_⟩;rw[G];exact wpAny_seqItems E aB h
 refine Om am ah zt jG λag a8 c0 cZ mJ fv=>bc<|b1<|bc<|É _<|wpAny_ite_false (Mu ag)<|wpAny_ite_false (Mu a8)<|bc<|UG _ (λ_ _=>rfl) (m:=vals.length-((k8.map (·.arg)).length-(wO.getD #[]).toList.length)) c0 cZ mJ<|bc<|b1 ?_;show wpAny M A (pure _) Q O s;exact b1<|Eq.mpr (bX (λb=>Q b s) fv) bb
theorem t8{x:Str}:∀{names:Lm (Str×NameKind)} {n:Ĵ} {eh:Lm (Str×Addr)},((∃c,(x,c)∈eh)\/(x,NameKind.cell)∈names)->∃c,(x,c)∈cellsFrom n names eh
 |[],n,eh,h=>by
  rcases h with h|h
  .exact h
  .simp at h
 |(y,k)::r,n,eh,h=>by
  unfold cellsFrom;split
  .rename_i aE;refine t8 ?_;rcases h with⟨c,h⟩|h
   .exact .inl ⟨c,rM _ h⟩
   .rcases eJ.mp h with e|h
    .cases e;exact .inl ⟨n,t0⟩
    .exact .inr h
  .rename_i aE;refine t8 ?_;rcases h with h|h
   .exact .inl h
   .rcases eJ.mp h with e|h
    .cases e;exact absurd rfl aE
    .exact .inr h
theorem An{cC:Type}{x:Str}{l:Lm (Str×cC)}:(∃c,(x,c)∈l)->(l.lookup x).isSome=true:=by
 induction l with
 |nil=>exact λ⟨_,h⟩=>nomatch h
 |cons p r ar=>
  intro h;rw[kB];induction q:x==p.1 using Bool.casesOn with
  |true=>rfl
  |false=>
   refine ar ?_;obtain⟨c,h⟩:=h;cases h with
   |head=>exact absurd (jV x) (by rw[q];exact eM)
   |tail _ h=>exact⟨c,h⟩
theorem ML{cL:Str->Ĳ NameKind}{n:Str}{jk:Lm (Str×Ę)}:∀{m:Str->Ĳ Ę},(∀p∈jk,p.1≠n)->bindL cL jk m n=m n:=by
 induction jk with
 |nil=>exact λ_=>rfl
 |cons p r ar=>
  intro m h;unfold bindL;rw[ar λq bb=>h q<|.tail _ bb];by_cases aE:cL p.1=some .local
  .rw[bl aE];exact bt<|h5<|h p<|.head _
  .rw[bt aE]
theorem Pc{cL:Str->Ĳ NameKind}{n:Str}{jk:Lm (Str×Ę)}:∀{m:Str->Ĳ Ę},(∀p∈jk,p.1≠n)->bindC cL jk m n=m n:=by
 induction jk with
 |nil=>exact λ_=>rfl
 |cons p r ar=>
  intro m h;unfold bindC;rw[ar λq bb=>h q<|.tail _ bb];by_cases aE:cL p.1=some .local
  .rw[bl aE]
  .rw[bt aE];exact bt<|h5<|h p<|.head _
theorem FU{n:Str}{V:Ę}{r:Lm (Str×Ę)}(h:n∉r.map (·.1)):∀p∈r,p.1≠n:=λp ae q=>h<|q▸fy (f:=λx:Str×Ę=>x.1) ae
theorem QO{cL:Str->Ĳ NameKind}{n:Str}{V:Ę}(aE:cL n=some .local){jk:Lm (Str×Ę)}:∀{m:Str->Ĳ Ę},(jk.map (·.1)).Nodup->(n,V)∈jk->bindL cL jk m n=some V:=by
 induction jk with
 |nil=>exact λ_ h=>nomatch h
 |cons p r ar=>
  intro m am h;have am:=hT.mp am;cases h with
  |head=>unfold bindL;rw[ML<|FU (V:=V) am.1,bl aE];exact bl rfl
  |tail _ h=>unfold bindL;exact ar am.2 h
theorem UF{cL:Str->Ĳ NameKind}{n:Str}{V:Ę}(aE:¬cL n=some .local){jk:Lm (Str×Ę)}:∀{m:Str->Ĳ Ę},(jk.map (·.1)).Nodup->(n,V)∈jk->bindC cL jk m n=some V:=by
 induction jk with
 |nil=>exact λ_ h=>nomatch h
 |cons p r ar=>
  intro m am h;have am:=hT.mp am;cases h with
  |head=>unfold bindC;rw[Pc<|FU (V:=V) am.1,bt aE];exact bl rfl
  |tail _ h=>unfold bindC;exact ar am.2 h
def jq (C:aY) (aQ:Addr) (bZ:Lm (Str×Addr)):aY:=λb=>if b=aQ then .loc 0 else match bZ.find? (λp=>p.2==b&&bZ.lookup p.1==some b)with
 |some p=>.kY p.1
 |none=>cover C b
theorem PY(C:aY)(aQ:Addr)(bZ:Lm (Str×Addr)):jq C aQ bZ aQ=.loc 0:=bl rfl
theorem ì{C:aY}{aQ:Addr}{bZ:Lm (Str×Addr)}(im:bZ.Pairwise λx y=>x.2≠y.2)(mm:∀n c,(n,c)∈bZ->aQ<c){x:Str}{b:Addr}(h:bZ.lookup x=some b):jq C aQ bZ b=.kY x:=by
 have aN:=mem_of_lookup h;unfold jq;rw[bt<|x_<|mm x b aN];induction a7:bZ.find? (λp=>p.2==b&&bZ.lookup p.1==some b)with
 |none=>have:=List.find?_eq_none.mp a7 (x,b) aN;simp[h]at this
 |some p=>have G:=r1 a7;have E:=ue a7;simp only[eW,fN]at G;have:p.1=x:=name_of_addr im (n:=p.1) (n':=x) (c:=b) (by rw[<-G.1];exact E) aN;simp[this]
theorem vP{C:aY}{aQ:Addr}{bZ:Lm (Str×Addr)}{b:Addr}{r:eI}(e:jq C aQ bZ b=r):(b=aQ/\r=.loc 0)\/(∃x,bZ.lookup x=some b/\r=.kY x)\/cover C b=r:=by
 unfold jq at e;split at e
 .rename_i q;exact .inl ⟨q,e.symm⟩
 .split at e
  .rename_i p a7;have G:=r1 a7;simp only[eW,fN]at G;exact .inr<|.inl ⟨p.1,G.2,e.symm⟩
  .exact .inr<|.inr e
theorem O2{C:aY}{aQ:Addr}{bZ:Lm (Str×Addr)}(mm:∀n c,(n,c)∈bZ->aQ<c){b:Addr}(h:b<aQ):jq C aQ bZ b=cover C b:=by
 unfold jq;rw[bt<|gG h];induction a7:bZ.find? (λp=>p.2==b&&bZ.lookup p.1==some b)with
 |none=>rfl
 |some p=>have G:=r1 a7;have E:=ue a7;simp only[eW,fN]at G;have:=mm p.1 p.2 E;rw[G.1]at this;exact absurd this<|De h
theorem Inv.frame{P:Params}{N:g1}{H:Heap}{os:OsState}{C:aY}{J:St}{s bs:Qj}(I:Inv P N H os C J s){bZ:Lm (Str×Addr)}{m uz:Str->Ĳ Ę}(x:InCallC s s.heap.objs.size m bZ uz bs):Inv P N H os (jq C s.heap.objs.size bZ) J bs/\ey (Up.cover C) s (jq C s.heap.objs.size bZ) bs:=by
 have keep:=x.toInCall.keep;obtain⟨lV,cJ,G3⟩:=x.toInCall.same;have qi:=I.cover;have px:∀{b:Addr} {r:eI},Up.cover C b=r->r≠.none->jq C s.heap.objs.size bZ b=r:=λ{b r} e h=>by
  have av:b<s.heap.objs.size:=by
   induction zU b s.heap.objs.size with
   |inl h=>exact h
   |inr aR=>exact absurd (e.symm.trans<|qi.fresh aR) h
  rw[O2 x.above av];exact e
 have d7:∀b o,Up.cover C b=.a4 o->jq C s.heap.objs.size bZ b=.a4 o:=λb o e=>px e<|λz=>(nomatch z);have eU:∀b o,Up.cover C b=.st o->jq C s.heap.objs.size bZ b=.st o:=λb o e=>px e<|λz=>(nomatch z);have p2:∀b o,Up.cover C b=.cH o->jq C s.heap.objs.size bZ b=.cH o:=λb o e=>px e<|λz=>(nomatch z);have np:∀b,(Up.cover C b).ha=false:=λb=>by
  unfold Up.cover;split
  .rfl
  .rename_i q;simpa using q
 refine⟨⟨λb h=>?_,λa b e h=>?_,λb o e=>?_,λn cp e=>(qi.store n cp e).mono d7 eU p2 λa o _ e=>keep a o e,λb o e=>d7 _ _<|qi.base b o e,by rw[G3];exact I.gens,by rw[G3];exact I.hJ,λb n e=>?_⟩,λa o e cc=>⟨keep a o e,px rfl<|λz=>by rw[z]at cc;exact cc⟩,eU,p2⟩
 .rcases vP (r:=jq C s.heap.objs.size bZ b) rfl with⟨rfl,-⟩|⟨y,a2,-⟩|ap
  .obtain⟨o,_,_,az,-⟩:=x.toInCall.ns;rw[az];rfl
  .obtain⟨o,az,-⟩:=x.cell y b a2;rw[az];rfl
  .obtain⟨o,az⟩:=g2.mp (qi.alloc b<|by rw[ap];exact h);rw[keep b o az];rfl
 .have ak:=vP (r:=jq C s.heap.objs.size bZ a) rfl;have av:=vP (r:=jq C s.heap.objs.size bZ b) rfl;rw[<-e]at av;rcases ak with⟨ak,ra⟩|⟨y,a2,ra⟩|oZ
  .rw[ra]at av;rcases av with⟨av,-⟩|⟨z,-,jm⟩|gB
   .rw[ak,av]
   .exact bP jm rfl
   .have:=np b;rw[gB]at this;exact hK this
  .rw[ra]at av;rcases av with⟨-,jm⟩|⟨z,hz,jm⟩|gB
   .exact bP jm rfl
   .cases jm;rw[a2]at hz;cases hz;rfl
   .have:=np b;rw[gB]at this;exact hK this
  .rcases av with⟨-,jm⟩|⟨z,-,jm⟩|gB
   .have:=np a;rw[oZ,jm]at this;exact hK this
   .have:=np a;rw[oZ,jm]at this;exact hK this
   .exact qi.uniq a b (oZ.trans gB.symm) (by rw[oZ];exact h)
 .rcases vP e with⟨-,r⟩|⟨z,-,r⟩|c
  .exact bP r rfl
  .exact bP r rfl
  .exact keep b o<|qi.a4 b o c
 .rcases e with e|e<;>rcases vP e with⟨-,r⟩|⟨z,-,r⟩|c
  .exact bP r rfl
  .exact bP r rfl
  .exact qi.gD b n<|.inl c
  .exact bP r rfl
  .exact bP r rfl
  .exact qi.gD b n<|.inr c
structure Kj(c:cb)(yN:Addr)(eF:FuncData)(body:List Stmt)(names:List Str)(lg:Nat)(dflt:List B)(cP:List Value):Prop where
 obj:∃o,c.H.get? yN=some o/\o.data=.func eF
 glob:eF.globals=mainGlobals
 lU:eF.builtins=builtinsNs
 Zd:eF.closure=[]
 OU:eF.body=.stmts body
 kind:eF.scope.kind=.function
 Xn:eF.scope.isCoroutine=false
 ngen:eF.scope.isGenerator=false
 lim:c.H.NoLimit
 code:c.H.CodeRec eF.code eF.qualname
 plain:C5 eF.params=true
 Y2:eF.params.args.map (·.arg)=names
 nodup:names.Nodup
 Pw:(eF.defaults=.none/\cP=[])\/dD λT o k=>dY (eF.defaults=.ref T) (c.H.get? T=some o)<|o.data=.seq cP.toArray k
 L1:bB c.P (fw c.H) dflt cP
 XB:cP.length<=names.length
 par:∀n∈names,eF.scope.names.lookup n=some .local\/eF.scope.names.lookup n=some .cell
 Qe:∀y∈eF.scope.names,y.2≠.free
 vars:∀x i,c.ns.lookup x=some i->(i<names.length->names[i]?=some x)/\i<lg
 gl:∀x,c.cx x=true->eF.scope.names.lookup x=some .globalImplicit
 st:∀x,c.b5 x=true->eF.scope.names.lookup x=some .local\/eF.scope.names.lookup x=some .cell
 kD:∀x,c.kD x=true->eF.scope.names.lookup x=some .cell
theorem Qz{yN:Addr}{eF:FuncData}{body:Lm Stmt}{names:Lm Str}{lg:Ĵ}{dflt:Lm B}{cP:Lm Ę}(aX:c.Ok)(D:Kj c yN eF body names lg dflt cP)(Wc:A.depth<recursionLimit){ki:ox}(lm:∀df,nb c (A.deeper df) body ki){í:Lm dS}{vs:Lm B}{r:aK}{J:St}{KK:B->St->Prop}(ag:r2 ⟨names.length,lg,dflt,í⟩ vs=some r)(a8:ki r J λcM _ s=>KK cM.val s){s:Qj}{C:aY}{Vs:Lm Ę}{R:Result->Qj->Prop}(I:c.I C J s)(af:bB c.P C vs Vs)(h:∀v bE,KK v bE->∀V aP aq,c.I aP bE aq->bq C s aP aq->bz c.P aP v V->R (.ok<|.ret V) aq):codeAny c.M A (.call (.ref yN) ⟨Vs,[]⟩) R s:=by
 unfold r2 at ag;split at ag
 .rename_i tU;simp only at tU ag;cases ag;have dP:=af.length;have o8:=D.L1.length;obtain⟨o,az,Ts⟩:=D.obj;have g7:=I.lY _ _ az;have LS:Vs.length<=names.length:=aJ (fU dP) tU.1;have lF:names.length<=Vs.length+cP.length:=by rw[dP,o8];exact tU.2
  have TW:BindsTo s eF ⟨Vs,[]⟩ (names.zip<|l4 Vs cP names.length):=by
   refine Ux D.plain D.Y2 D.nodup LS ?_ lF D.XB;rcases D.Pw with h|⟨T,hx,k,G,E,aB⟩
   .exact .inl h
   .exact .inr ⟨T,hx,k,G,I.lY _ _ E,aB⟩
  have mc:(l4 Vs cP names.length).length=names.length:=GB LS lF;have Ee:∀x∈names.zip (l4 Vs cP names.length),eF.scope.names.lookup x.1=some .local\/(eF.scope.names.lookup x.1=some .cell/\((cellsFrom (s.heap.objs.size+1) eF.scope.names []).lookup x.1).isSome=true):=λx ay=>by
   rcases D.par x.1 (List.of_mem_zip ay).1 with h|h
   .exact .inl h
   .exact .inr ⟨h,An<|t8<|.inr<|mem_of_lookup h⟩
  refine codeAny_call_function Wc g7 Ts D.Xn D.ngen D.OU (D.code.keeps λb o e=>I.lY b o e)<|TW _ _ _ _ ?_;rw[D.Zd];refine wpAny_newFunctionEnv_cells D.kind Ee λdf a6 bs x=>⟨(D.lim.keeps λb o e=>I.lY b o e).keeps x.toInCall.keep,codeAny_func ?_⟩;have qP:df.locals=s.heap.objs.size:=by rw[a6];rfl
  have jg:df.cells=cellsFrom (s.heap.objs.size+1) eF.scope.names []:=by rw[a6];rfl
  have pY:∀y,df.kindOf y=eF.scope.names.lookup y:=λy=>by rw[a6];rfl
  have Rz:df.scope=eF.scope:=by rw[a6];rfl
  rw[qP]at x;obtain⟨a0,bn⟩:=I.frame x;have kH:((names.zip<|l4 Vs cP names.length).map (·.1)).Nodup:=by rw[List.map_fst_zip<|fU mc.symm];exact D.nodup
  have M':bB c.P C (vs++dflt.drop (dflt.length-(names.length-vs.length))) (l4 Vs cP names.length):=by
   unfold l4;rw[o8,dP];refine af.append (bB.drop ?_ _);exact D.L1.mono (λa o e=>by
    unfold fw at e;split at e
    .rename_i cu g7;cases e;exact I.base _ _ g7
    .exact bP e rfl) (λa n e=>by unfold fw at e;split at e<;>exact bP e rfl)
  have bU:c.F (jq C s.heap.objs.size df.cells) df (((vs++dflt.drop (dflt.length-(names.length-vs.length))).map .val)++List.replicate (lg-names.length) .un) bs.heap 0:=by
   refine⟨⟨by rw[Rz];exact D.kind,by rw[a6];exact D.glob,by rw[a6];exact D.lU,by rw[qP];exact PY _ _ _,⟨_,by rw[qP];exact x.toInCall.ns⟩,λy a2=>?_,λy i aL G E=>?_⟩,λy a2=>by rw[pY];exact D.gl y a2,λy a2=>by rw[pY];exact D.st y a2,λy a2=>by rw[pY];exact D.kD y a2⟩
   .have ap:eF.scope.names.lookup y=some .cell:=by
     rw[pY]at a2;rcases a2 with a2|a2
     .exact a2
     .exact absurd rfl<|D.Qe _<|mem_of_lookup a2
    obtain⟨be,jA⟩:=g2.mp (An (x:=y) (l:=df.cells)<|by rw[jg];exact t8<|.inr<|mem_of_lookup ap);exact⟨be,_,jA,(λh=>ì x.apart x.above h) jA,x.cell y be jA⟩
   .by_cases aA:i<(vs++dflt.drop (dflt.length-(names.length-vs.length))).length
    .rw[o1 (by simpa using aA),gS]at E;obtain⟨v,Ar,e⟩:=yY.mp E;subst e;obtain⟨V,co,bm⟩:=M'.get Ar;have iP:i<names.length:=by have:=(hb.mp co).1;omega
     have a2:=(D.vars y i G).1 iP;have jR:(y,V)∈names.zip (l4 Vs cP names.length):=ib (i:=i) (by rw[IK];exact⟨a2,co⟩);refine .val ?_<|(λbm=>(bm.mono (λa o e=>pI e rfl) λa n e=>pI e rfl).mono (bn.oy I.cover) bn.st) bm;rcases D.par y (ib a2)with aE|aE
     .exact .inl ⟨by rw[pY];exact aE,_,by rw[qP];exact x.toInCall.ns,QO (by rw[pY];exact aE) kH jR⟩
     .obtain⟨be,jA⟩:=g2.mp (An (x:=y) (l:=df.cells)<|by rw[jg];exact t8<|.inr<|mem_of_lookup aE);refine .inr ⟨.inl (by rw[pY];exact aE),be,jA,?_⟩;have:=x.cell y be jA;rwa[UF (by rw[pY,aE];intro z;cases z) kH jR]at this
    .rw[pf<|by simpa using aA]at E;have:=ib E;rw[F6]at this;rw[this.2];exact .un
  refine lm df _ bs df _ _ J 0 _ _ a0 bU a8 λcM b0 bE e f cn b7 cd bK eb a7=>?_;obtain⟨ae,fs⟩:=ey.mix I<|bn.trans bK;refine h _ _ e _ (mix C cn) b7 (I.mix cd ae) fs ?_;induction a7 with
  |go=>exact .none
  |ret co=>exact co.mono (λa o e=>DY ae e) λa n e=>ED ae e
 .exact b4 ag
abbrev q3:=Lm B->St->(B->St->Prop)->Prop
def n_(c:cb)(A:Around)(F:Ę)(gB:q3):Prop:=∀s C J vs Vs (K:B->St->Prop) (R:Result->Qj->Prop),c.I C J s->bB c.P C vs Vs->gB vs J K->(∀v bE,K v bE->zy c C s (λV aq=>R (.ok<|.ret V) aq) v bE)->codeAny c.M A (.call F ⟨Vs,[]⟩) R s
def ju (es:Lm ĳ):Ģ:=es.all λe=> !fF e
theorem CY{pos:Pos}{ac:Env}:∀{es:Lm ĳ},ju es=true->(backTo pos<|starEach es ac).any (·.1)=false
 |[],_=>rfl
 |e::r,h=>by unfold ju at h;rw[tG,eW,j2]at h;rw[nf h.1];show(false||(backTo pos<|starEach r ac).any (·.1))=false;rw[CY h.2];rfl
theorem Je{F:Ę}{GR:Lm Ę}{args:Lm ĳ}{pos:Pos}{ec:nL}(aX:c.Ok)(aM:ju args=true)(aE:keepIn c.K F=true)(gl:k0 c A args ec)(aF:args=[]->∀r J K,ec r J K->K [] J){O:Ę->Qj->Prop}{s:Qj}{ac:Env}{C:aY}{r:aK}{J:St}{k:Ĵ}{K:Lm B->St->Prop}{Q:Ę->Qj->Prop}(I:c.I C J s)(hr:c.F C ac r s.heap k)(e:ec r J K)(h:∀vs bE,K vs bE->∀Vs aP aq,c.I aP bE aq->bq C s aP aq->bB c.P aP vs Vs->wpAny c.M A (call F<|GR++Vs) Q O aq):wpAny c.M A (callWith pos F GR (backTo pos<|starEach args ac) []) Q O s:=by
 have rk:∀{C J s},c.I C J s->c.K.In s.heap:=λI b o e=>I.lY _ _<|aX.ab b o e;induction args with
 |nil=>exact callWith_K0 (rk I) aE<|h _ _ (aF rfl _ _ _ e) [] C s I (bq.refl C s) .nil
 |cons a a'=>unfold ju at aM;rw[tG,eW,j2]at aM;exact callWith_K (h₀:=s.heap) (rk I) aE (gl O s ac C r J k pos _ _ I hr e λvs bE e Vs aP aq dk x af _=>⟨rk dk,h vs bE e Vs aP aq dk x af⟩) (t9 aM.1)<|CY aM.2
theorem Hv{x:Str}{np pos:Pos}{args:Lm ĳ}{F:Ę}{ec:nL}{gB:q3}(aX:c.Ok)(d5:c.cx x=true)(af:c.gY x=some F)(bg:(x==("__debug__":Str))=false)(aM:ju args=true)(aE:keepIn c.K F=true)(gl:k0 c A args ec)(aF:args=[]->∀r J K,ec r J K->K [] J)(ap:n_ c A F gB):Good c A (.Call (.Name x np) args [] pos) λr J K=>ec r J λvs J=>gB vs J K:=by intro O s ac C r J k K Q I hr e h;refine z6<|FS aX I hr d5 af bg<|Je aX aM aE gl aF I hr e λvs db e Vs bL bs a0 bn jL=>?_;rw[List.nil_append];exact wpAny_call<|ap bs bL db vs Vs K _ a0 jL e λv bE e V cn b7 cd bK co=>h v bE e V cn b7 cd (bn.trans bK) co
theorem PT{P:Params}{C:aY}{an:Ĵ->Str}{name:Str}(am:∀a,an a≠name){l:Lm (Ĵ×B)}{es:Lm DictEntry}(h:iF P C an l es):es.find? (·.key.isStr name)=none/\es.any (·.refKey)=false:=by
 refine⟨?_,Mh h⟩;induction h with
 |nil=>rfl
 |@cons b _ cJ _ _ _ _ _ ar=>rw[List.find?_cons,show(Value.str (an b) cJ).isStr name=false from lf.mpr<|am b];exact ar
theorem method_call{o:ĳ}{name:Str}{h1 pos:Pos}{args:Lm ĳ}{ac:Env}{O:Ę->Qj->Prop}{s:Qj}{Q:Ę->Qj->Prop}(av:lB o=false)(aM:ju args=true)(dP:args.length<30)(la:(h1.endLine==pos.line)=true)(h:∀sn,wpAny c.M A (eval o ac) (λhy bs=>wpAny c.M A (getMethod hy name sn) (λBF b7=>wpAny c.M A (callWith pos BF.1 BF.2 (backTo pos<|starEach args ac) []) Q O b7) O bs) O s):wpAny c.M A (eval (.Call (.Attribute o name h1) args [] pos) ac) Q O s:=by
 rw[arm_eval_Call,wn av];have CC:methodCallForm (args.length+([]:Lm Keyword).length) (backTo pos<|starEach args ac) (backToKw pos<|keywordEach [] ac)=true:=by
  unfold methodCallForm;have G:(backTo pos<|starEach args ac).all (λx=> !x.1)=true:=by have:=CY (pos:=pos) (ac:=ac) aM;rw[List.any_eq_false]at this;rw[d6];intro x ay;simpa using this x ay
  rw[G];simp only[wB,Nat.add_zero,DC];show(true&&decide (args.length+0<30))=true;simpa using dP
 have YC:methodCallPos true o ac h1 pos=pure pos:=by unfold methodCallPos;simp[la]
 refine bc<|lG (h<|do return(<-importBound o ac).getD true) (λhy bs lV=>bc<|pH ?_) λ_ _ e=>e;unfold methodCall;rw[CC];exact bc<|gU<|lG lV (λBF b7 vi=>bc<|wpAny_of_eq YC vi) λ_ _ e=>e
theorem OA{dB:ĳ}{name:Str}{h1 pos:Pos}{args:Lm ĳ}{e':dm}{ec:nL}{cQ:Ĵ->Ĳ Ĵ}{gB:Ĵ->q3}(aX:c.Ok)(av:lB dB=false)(dP:args.length<30)(la:(h1.endLine==pos.line)=true)(aM:ju args=true)(am:∀a,c.N.an a≠name)(go:Good c A dB e')(gl:k0 c A args ec)(aF:args=[]->∀r J K,ec r J K->K [] J)(ap:∀be f,cQ be=some f->∃F,keepIn c.K (.ref F)=true/\findIn c.K (.ref<|c.N.cl be) "__getattribute__"=some (some<|.builtin "object.__getattribute__")/\findIn c.K (.ref<|c.N.cl be) "__getattr__"=some none/\findIn c.K (.ref<|c.N.cl be) name=some (some<|.ref F)/\typeIn c.K (.ref F)=some (.type "function")/\n_ c A (.ref F) (gB f)):Good c A (.Call (.Attribute dB name h1) args [] pos) λr J K=>e' r J λx J=>ax ((Cp J x).bind cQ) λf=>ec r J λvs J=>gB f (x::vs) J K:=by
 intro O s ac C r J k K Q I hr e h;refine method_call av aM dP la λsn=>go.use I hr e λx db e X bL bs a0 bU bn c8=>ax.dr e λf cZ e=>?_;obtain⟨be,c0,mJ⟩:=bind_some cZ;clear cZ;obtain⟨F,fH,gy,ke,D3,Ew,Ag⟩:=ap be f mJ;replace c0:=pa.of c0;obtain⟨n,iH,l,rfl,Th,c0⟩:=c0;cases c0;obtain⟨a,d,es,bW,rfl,G,E,aB,ba,cO,d2,fp⟩:=Af a0 c8 Th;obtain⟨d7,eU⟩:=PT am cO;refine method_fn (λb o e=>a0.lY _ _ (aX.ab b o e):c.K.In bs.heap) (od:=some<|ew es.toArray bW) ⟨aB,rfl,rfl,ba⟩ gy ke D3 Ew ?_ ?_
 .show(lookIn name<|ew es.toArray bW).map _=_;unfold lookIn;simp only[ew];rw[d7];simp[eU]
 .refine Je aX aM fH gl aF a0 bU e λvs dZ e Vs cn b7 cd bK jL=>?_;show wpAny c.M A (call (.ref F)<|.ref a::Vs) Q O b7;exact wpAny_call<|Ag b7 cn dZ (.ref n::vs) (.ref a::Vs) K _ cd (.cons (bK.hn a0 c8) jL) e λv bE e V kk f' fR fs co=>h v bE e V kk f' fR ((bn.trans bK).trans fs) co
section
variable{P:Params}{N:g1}{H:Heap}{os:OsState}{C:aY}{J:St}{s:Qj}
theorem Inv.Qw(I:Inv P N H os C J s){be:Ĵ}(jA:be<7):Inv P N H os (cD (cD C s.heap.objs.size<|.cH J.length) (s.heap.objs.size+1)<|.st J.length) (J++[.ins be []]) {s with heap:=(s.heap.push<|ew #[] 0).push (kO (N.cl be) s.heap.objs.size)}/\bq C s (cD (cD C s.heap.objs.size<|.cH J.length) (s.heap.objs.size+1)<|.st J.length) {s with heap:=(s.heap.push<|ew #[] 0).push (kO (N.cl be) s.heap.objs.size)}:=by
 obtain⟨d,bg⟩:∃d,d=s.heap.objs.size:=⟨_,rfl⟩;rw[<-bg];have e2:∀{a:Addr},d<=a->C a=.none:=λh=>I.fresh (by rw[<-bg];exact h);have keep:∀b o,s.heap.get? b=some o->((s.heap.push<|ew #[] 0).push<|kO (N.cl be) d).get? b=some o:=λb o e=>ih _<|ih _ e;have ay:((s.heap.push<|ew #[] 0).push<|kO (N.cl be) d).get? (d+1)=some (kO (N.cl be) d):=by rw[show d+1=(s.heap.push<|ew #[] 0).objs.size by rw[rl,bg]];exact gO _ rfl
 have r6:((s.heap.push<|ew #[] 0).push<|kO (N.cl be) d).get? d=some (ew #[] 0):=ih _ (by rw[bg];exact gO _ rfl);have px:∀{b:Addr} {r:eI},C b=r->r≠.none->cD (cD C d<|.cH J.length) (d+1) (.st J.length) b=r:=λ{b r} e h=>by
  have G:b≠d+1:=by rintro rfl;exact h<|e.symm.trans<|e2<|j5 _
  have E:b≠d:=by rintro rfl;exact h<|e.symm.trans<|e2<|dy _
  rw[bV G,bV E];exact e
 have d7:∀b o,C b=.a4 o->cD (cD C d<|.cH J.length) (d+1) (.st J.length) b=.a4 o:=λb o e=>px e<|λz=>(nomatch z);have eU:∀b o,C b=.st o->cD (cD C d<|.cH J.length) (d+1) (.st J.length) b=.st o:=λb o e=>px e<|λz=>(nomatch z);have p2:∀b o,C b=.cH o->cD (cD C d<|.cH J.length) (d+1) (.st J.length) b=.cH o:=λb o e=>px e<|λz=>(nomatch z);have kZ:∀{b:Addr} {r:eI},cD (cD C d<|.cH J.length) (d+1) (.st J.length) b=r->(b=d+1/\r=.st J.length)\/(b=d/\r=.cH J.length)\/C b=r:=λ{b r} e=>by
  by_cases G:b=d+1
  .rw[G,c3]at e;exact .inl ⟨G,e.symm⟩
  .rw[bV G]at e;by_cases E:b=d
   .rw[E,c3]at e;exact .inr<|.inl ⟨E,e.symm⟩
   .rw[bV E]at e;exact .inr<|.inr e
 have pw:cD (cD C d<|.cH J.length) (d+1) (.st J.length) d=.cH J.length:=by rw[bV (gG (qD _):d≠d+1)];exact c3 _ _ _
 refine⟨⟨λb h=>?_,λa b e h=>?_,λb o e=>?_,λn cp e=>?_,λb o e=>d7 _ _<|I.base b o e,I.gens,I.hJ,λb n e=>?_⟩,λa o e k=>⟨keep a o e,px rfl<|λz=>by rw[z]at k;exact k⟩,eU,p2⟩
 .rcases kZ (r:=cD (cD C d<|.cH J.length) (d+1) (.st J.length) b) rfl with⟨rfl,-⟩|⟨G,-⟩|G
  .rw[show({s with heap:=(s.heap.push<|ew #[] 0).push (kO (N.cl be) d)}:Qj).heap.get? (d+1)=_ from ay];rfl
  .rw[G,show({s with heap:=(s.heap.push<|ew #[] 0).push (kO (N.cl be) d)}:Qj).heap.get? d=_ from r6];rfl
  .obtain⟨o,az⟩:=g2.mp (I.alloc b<|by rw[G];exact h);rw[show({s with heap:=(s.heap.push<|ew #[] 0).push (kO (N.cl be) d)}:Qj).heap.get? b=_ from keep b o az];rfl
 .have ak:=kZ (r:=cD (cD C d<|.cH J.length) (d+1) (.st J.length) a) rfl;have av:=kZ (r:=cD (cD C d<|.cH J.length) (d+1) (.st J.length) b) rfl;rw[<-e]at av;have L3:∀b,C b≠.st J.length:=λb z=>jZ _<|I.gD b _<|.inl z;have FE:∀b,C b≠.cH J.length:=λb z=>jZ _<|I.gD b _<|.inr z;rcases ak with⟨ak,ra⟩|⟨ak,ra⟩|oZ
  .rw[ra]at av;rcases av with⟨av,-⟩|⟨-,jm⟩|gB
   .rw[ak,av]
   .exact bP jm rfl
   .exact absurd gB<|L3 b
  .rw[ra]at av;rcases av with⟨-,jm⟩|⟨av,-⟩|gB
   .exact bP jm rfl
   .rw[ak,av]
   .exact absurd gB<|FE b
  .rcases av with⟨-,jm⟩|⟨-,jm⟩|gB
   .exact absurd (oZ.trans jm)<|L3 a
   .exact absurd (oZ.trans jm)<|FE a
   .exact I.uniq a b (oZ.trans gB.symm) (by rw[oZ];exact h)
 .rcases kZ e with⟨-,r⟩|⟨-,r⟩|c
  .exact bP r rfl
  .exact bP r rfl
  .exact keep b o<|I.a4 b o c
 .by_cases q:n<J.length
  .rw[o1 q]at e;exact(I.store n cp e).mono d7 eU p2 λa o _ e=>keep a o e
  .have am:n=J.length:=by have:=(hb.mp e).1;rw[c_,pe]at this;omega
   subst am;rw[pf<|dy _,ut]at e;cases e;exact .ins (es:=[]) (c3 _ _ _:cD (cD C d<|.cH J.length) (d+1) (.st J.length) (d+1)=.st J.length) pw ay r6 .nil q1 jA
 .rw[c_,pe];rcases e with e|e<;>rcases kZ e with⟨-,r⟩|⟨-,r⟩|c
  .cases r;exact qD _
  .exact bP r rfl
  .exact nA<|I.gD b n<|.inl c
  .exact bP r rfl
  .cases r;exact qD _
  .exact nA<|I.gD b n<|.inr c
end
def IM(be:Ĵ)(gB:q3):q3:=λvs J K=>gB (.ref J.length::vs) (J++[.ins be []])<|LC (.ref J.length) K
theorem O8{be:Ĵ}{z1:Addr}{gB:q3}(aX:c.Ok)(jA:be<7)(aN:makesIn c.K (c.N.cl be)=true)(aA:findIn c.K (.ref<|c.N.cl be) "__init__"=some (some<|.ref z1))(a7:typeIn c.K (.ref z1)=some (.type "function"))(Ag:∀args,n_ c (A.under<|.builtin "type.__call__" args) (.ref z1) gB):n_ c A (.ref<|c.N.cl be) (IM be gB):=by intro s C J vs Vs K R I af e h;have rk:c.K.In s.heap:=λb o e=>I.lY _ _<|aX.ab b o e;obtain⟨a0,bn⟩:=I.Qw jA;clear jA;obtain⟨cc,g,d,t,os⟩:=s;refine make_core (makes_of rk aN) (looks_findIn rk aA) (λself=>bind_fn rk self a7) (.inl rfl)<|Ag _ _ _ _ (.ref J.length::vs) (.ref (cc.objs.size+1)::Vs) _ _ a0 (.cons (.ref<|c3 _ _ _)<|bn.iQ I af) e λw db e V cn b7 cd bK co=>?_;obtain⟨rfl,e⟩:=e;obtain rfl:=co.of;exact⟨rfl,h _ _ e _ cn b7 cd (bn.trans bK)<|.ref<|bK.st _ _<|c3 _ _ _⟩
theorem GS{C:aY}{J:St}{s:Qj}(I:c.I C J s){aR:Heap}{cJ:Ĵ}(aE:∀b o,s.heap.get? b=some o->aR.get? b=some o){a:Addr}(ak:s.heap.get? a=none){o:Obj}(az:aR.get? a=some o):c.I (cD C a<|.a4 o) J {s with heap:=aR,toks:=cJ}/\bq C s (cD C a<|.a4 o) {s with heap:=aR,toks:=cJ}:=by
 have am:C a=.none:=by
  induction q:C a with
  |none=>rfl
  |_=>obtain⟨cu,g7⟩:=g2.mp (I.alloc a<|by rw[q];intro z;exact bP z rfl);rw[ak]at g7;exact b4 g7
 have a0:=I.grow aE cJ;have ne:∀{b r},C b=r->r≠.none->b≠a:=λe h q=>h<|e.symm.trans<|q▸am;have d7:∀b cu,C b=.a4 cu->cD C a (.a4 o) b=.a4 cu:=λb cu e=>(bV<|ne e<|λz=>(nomatch z)).trans e;have eU:∀b n,C b=.st n->cD C a (.a4 o) b=.st n:=λb cu e=>(bV<|ne e<|λz=>(nomatch z)).trans e;have p2:∀b n,C b=.cH n->cD C a (.a4 o) b=.cH n:=λb cu e=>(bV<|ne e<|λz=>(nomatch z)).trans e;refine⟨⟨λb h=>?_,λb ev e h=>?_,λb cu e=>?_,λn cp e=>(a0.store n cp e).mono d7 eU p2 λ_ _ _ e=>e,λb cu e=>d7 _ _<|I.base b cu e,I.gens,I.hJ,λb n e=>?_⟩,λb cu e k=>⟨aE b cu e,bV<|by rintro rfl;rw[am]at k;exact k⟩,eU,p2⟩
 .by_cases q:b=a
  .subst q;rw[show({s with heap:=aR,toks:=cJ}:Qj).heap.get? b=some o from az];rfl
  .rw[bV q]at h;exact a0.alloc b h
 .by_cases gd:b=a
  .subst gd;rw[c3]at h;exact h.elim
  .rw[bV gd]at e h;by_cases fc:ev=a
   .subst fc;rw[c3]at e;rw[e]at h;exact h.elim
   .rw[bV fc]at e;exact I.uniq b ev e h
 .by_cases q:b=a
  .subst q;rw[c3]at e;cases e;exact az
  .rw[bV q]at e;exact a0.a4 b cu e
 .by_cases q:b=a
  .subst q;rw[c3]at e;rcases e with e|e<;>exact bP e rfl
  .rw[bV q]at e;exact I.gD b n e
theorem ZR{l:Lm ĵ}{c7:Lm B}(h:iU (l.map .int)=some c7):∃dh:Lm ĵ,c7=dh.map .int/\dh.Perm l/\dh.Pairwise (· <=·):=by obtain⟨cR,e,G,E⟩:=uL (f:=B.int) (b:=λx y=>decide<|x<y) (ne:=λ_ _=>True) (R:=(· <=·)) (λ_ _ _=>rfl) (λ_ _ h=>Eo<|fz h) (λ_ _ _ h=>Es.mp<|v2 h) (λ_ _ _ a b=>wz (Eo<|fz a) b)<|Ja λ_ _=>trivial;exact⟨cR,cY<|h.symm.trans e,E,G⟩
theorem GN{a b:bv}(G:¬b<a)(E:¬a<b):a=b:=List.le_antisymm (uc.mp G)<|uc.mp E
theorem Zf{l:Lm bv}{c7:Lm B}(h:iU (l.map .str)=some c7):∃dh:Lm bv,c7=dh.map .str/\dh.Perm l/\dh.Pairwise (λa b=>¬b<a):=by obtain⟨cR,e,G,E⟩:=uL (f:=B.str) (b:=λx y=>decide<|x<y) (ne:=λ_ _=>True) (R:=λa b=>¬b<a) (λx y _=>bX some xB) (λ_ _ h q=>Dj _<|wT (fz h) q) (λ_ _ _ h=>v2 h) (λ_ _ _ a b q=>b<|wT q<|fz a)<|Ja λ_ _=>trivial;exact⟨cR,cY<|h.symm.trans e,E,G⟩
theorem intsAre_of{P:Ĵ->Ę->Prop}:∀{vs:Lm Ę} {ns:Lm ĵ},vs.length=ns.length->(∀(j:Ĵ) v,vs[j]?=some v->ee λn t=>ns[j]?=some n/\v=.int n t)->IntsAre vs ns
 |[],[],_,_=>.nil
 |[],_::_,h,_=>by cases h
 |_::_,[],h,_=>by cases h
 |v::vs,n::ns,h,k=>by obtain⟨m,t,G,E⟩:=k 0 v rfl;simp at G;subst G E;exact .cons _ t (intsAre_of (P:=P) (by simpa using h) λj v b8=>by simpa using k (j+1) v (by simpa using b8))
theorem E_:∀{vs:Lm Ę} {ns:Lm Str},vs.length=ns.length->(∀(j:Ĵ) v,vs[j]?=some v->ee λn t=>ns[j]?=some n/\v=.str n t)->StrsAre vs ns
 |[],[],_,_=>.nil
 |[],_::_,h,_=>by cases h
 |_::_,[],h,_=>by cases h
 |v::vs,n::ns,h,k=>by obtain⟨m,t,G,E⟩:=k 0 v rfl;simp at G;subst G E;exact .cons _ t (E_ (by simpa using h) λj v b8=>by simpa using k (j+1) v (by simpa using b8))
theorem Uv{P:Params}{C:aY}{vs:Lm Ę}{ns:Lm ĵ}(h:IntsAre vs ns):bB P C (ns.map .int) vs:=by
 induction h with
 |nil=>exact .nil
 |cons n t _ ar=>exact .cons (.int n t) ar
theorem ZG{P:Params}{C:aY}{vs:Lm Ę}{ns:Lm Str}(h:StrsAre vs ns):(∀x∈ns,x.cps.toList.length<=a3)->bB P C (ns.map λx=>.str x.cps.toList) vs:=by
 induction h with
 |nil=>exact λ_=>.nil
 |cons y t _ ar=>exact λh=>.cons (bz.str y.cps.toList t<|h y<|.head _)<|ar λx ay=>h x<|.tail _ ay
theorem JR:∀{l:Lm Str},sortedS l=true->l.Pairwise (λa b=>¬b.cps.toList<a.cps.toList)
 |[],_=>.nil
 |[x],_=>by simp
 |x::y::r,h=>by
  have aR:(!ltCps y.cps.toList x.cps.toList&&risingS y r)=true:=h;rw[eW,j2,ltCps_eq,ny]at aR;have ar:=JR (l:=y::r) aR.2;rw[tF];refine⟨λz hz=>?_,ar⟩;rcases eJ.mp hz with rfl|hz
  .exact aR.1
  .have:=(tF.mp ar).1 z hz;exact uc.mpr<|List.le_trans (uc.mp aR.1)<|uc.mp this
theorem Z1(aX:c.Ok)(eX:A.handled=none){O:Ę->Qj->Prop}{s:Qj}{C:aY}{J:St}{l:Lm (B×B)}{V:Ę}{z:B}{Q:Ę->Qj->Prop}(I:c.I C J s)(af:bz c.P C (.a9 l) V)(e:kC .sorted [.a9 l]=some z)(h:∀Z aP aq,c.I aP J aq->bq C s aP aq->bz c.P aP z Z->Q Z aq):wpAny c.M A (call (.builtin "sorted") [V]) Q O s:=by
 replace e:((items<|.a9 l).bind λl=>if l.length<64 then iU l else none).map B.lst=some z:=e;obtain⟨c7,ag,a8⟩:=map_some e;clear e;subst a8;obtain⟨ks,c0,cZ⟩:=bind_some ag;clear ag;split at cZ
 .rename_i y8;obtain⟨d,es,n,rfl,D,lo⟩:=sL I aX.sys<|.val af;have g':l.length<=16777216:=D.a3;obtain⟨aE,c0⟩:=hj<|show(if((l.all λe=>eG e.1==1)||(l.all λe=>eG e.1==2))=true then some (l.map (·.1))else none)=some ks from c0;cases c0;have fin:∀{aR:Heap} {cJ:Ĵ} {eh:Array Ę} {out:Array Ę},(∀b o,s.heap.get? b=some o->aR.get? b=some o)->(∀aP,bB c.P aP c7 out.toList)->c7.length<=a3->Q (.ref aR.objs.size) {s with heap:=sortedHeap (aR.push<|seqObj "list" eh.toList.toArray 0) aR.objs.size eh.toList out,toks:=cJ}:=λ{aR cJ eh out} i5 hz ap=>by
   obtain⟨re,sy⟩:=sortedHeap_at (out:=out) (vs:=eh.toList) (n:=0)<|gO aR (o:=seqObj "list" eh.toList.toArray 0) rfl;have old:∀b o,s.heap.get? b=some o->(sortedHeap (aR.push<|seqObj "list" eh.toList.toArray 0) aR.objs.size eh.toList out).get? b=some o:=λb o ea=>by have G:=i5 b o ea;have cU:=j_ G;rw[sortedHeap_old (gG cU)<|by rw[rl];exact nA cU];exact ih _ G
   have sv:s.heap.get? aR.objs.size=none:=by
    induction q:s.heap.get? aR.objs.size with
    |none=>rfl
    |some o=>exact absurd (j_<|i5 _ _ q)<|jZ _
   obtain⟨dk,ez⟩:=GS (cJ:=cJ) I old sv sy;exact h _ _ _ dk ez<|.lst (Vs:=out.toList) (n:=re) (by rw[c3]) (hz _) ap
  refine BE kind_sorted plain_sorted entry_sorted (args_sorted1 _) ?_;unfold Builtin.«sorted»;refine bc (m:=checkCount "sorted" 1 1 _)<|b1 ?_;rw[mx]at aE;rcases aE with aE|aE
  .obtain⟨eZ,G,E,aB⟩:=F8 D.rel λe a6=>by simpa using d6.mp aE e a6
   have am:(eZ.map (·.1)).Nodup:=zb (f:=B.int) (by rw[f8];exact aB▸D.nodup);have b2:s.heap.DictAt (PySem.intKind c.prog c.w) d eZ n:=⟨_,_,D.at_,⟨rfl,rfl,rfl⟩,rfl,E,by simpa using G,am⟩;have dP:eZ.length=l.length:=by have:=bX List.length aB;simpa using this.symm
   have yS:l.map (·.1)=(eZ.map (·.1)).map B.int:=by rw[aB,f8];rfl
   rw[yS]at cZ;obtain⟨Cd,rfl,ae,aM⟩:=ZR cZ;clear cZ;refine bc<|kdu_collect (A:=A.in1) (kdl_dict (knd:=PySem.intKind c.prog c.w) lo) eX b2 (by rw[kK];omega) λaR cJ eh i5 vK=>?_;have k2:eh.toList.length=eZ.length:=by rw[Go];exact vK.1
   refine bc (uG ?_<|by rw[k2,dP,kK];exact g');have fV:IntsAre eh.toList (eZ.map (·.1)):=intsAre_of (P:=λ_ _=>True) (by rw[k2,bR]) λj v b8=>by obtain⟨k,x,ay,i5⟩:=vK.2 j v (by rw[<-Gj];exact b8);obtain⟨t,rfl⟩:=Value.isInt_shape i5;clear i5;exact⟨k,t,by rw[gS,ay];rfl,rfl⟩
   refine bc<|gU<|mH slot_list_sort ⟨_,gO aR (o:=seqObj "list" eh.toList.toArray 0) rfl,rfl⟩ entry_list_sort (list_sort_tree (gO aR (o:=seqObj "list" eh.toList.toArray 0) rfl) fV (by rw[k2,dP];simpa using y8) λout QH bY br dM=>⟨_,rfl,?_⟩)<|args_list_sort _;refine b1 ⟨_,rfl,?_⟩;have Av:QH=Cd:=(br.trans ae.symm).eq_of_pairwise (λa b _ _ G E=>Int.le_antisymm G E) dM aM;subst Av;exact fin i5 (λaP=>Uv bY) (by rw[bR,ae.length_eq,bR,dP];exact D.a3)
  .obtain⟨eZ,G,E,aB,ba⟩:=Jf D.rel λe a6=>by simpa using d6.mp aE e a6
   have b2:s.heap.DictAt (PySem.strKind c.prog c.w) d eZ n:=⟨_,_,D.at_,⟨rfl,rfl,rfl⟩,rfl,E,by simpa using G,zb (f:=λx:Str=>B.str x.cps.toList)<|by rw[f8];exact aB▸D.nodup⟩;have dP:eZ.length=l.length:=by have:=bX List.length aB;simpa using this.symm
   have yS:l.map (·.1)=(eZ.map<|λp=>p.1.cps.toList).map B.str:=by rw[aB,f8];rfl
   rw[yS]at cZ;obtain⟨Cd,rfl,ae,aM⟩:=Zf cZ;clear cZ;refine bc<|kdu_collect (A:=A.in1) (kdl_dict (knd:=PySem.strKind c.prog c.w) lo) eX b2 (by rw[kK];omega) λaR cJ eh i5 vK=>?_;have k2:eh.toList.length=eZ.length:=by rw[Go];exact vK.1
   refine bc (uG ?_<|by rw[k2,dP,kK];exact g');have e1:StrsAre eh.toList (eZ.map (·.1)):=E_ (by rw[k2,bR]) λj v b8=>by obtain⟨k,x,ay,i5⟩:=vK.2 j v (by rw[<-Gj];exact b8);obtain⟨t,rfl⟩:=Value.isStrOf_shape i5;clear i5;exact⟨k,t,by rw[gS,ay];rfl,rfl⟩
   refine bc<|gU<|mH slot_list_sort ⟨_,gO aR (o:=seqObj "list" eh.toList.toArray 0) rfl,rfl⟩ entry_list_sort (list_sort_treeK strKind_oneLt (gO aR (o:=seqObj "list" eh.toList.toArray 0) rfl) e1.keysOf (λć đ a' e=>keyKind_strs<|by rw[<-e];exact e1) (by rw[k2,dP];simpa using y8) λuR dA er=>⟨_,rfl,?_⟩)<|args_list_sort _;refine b1 ⟨_,rfl,?_⟩;obtain⟨NP,bY,br,dM⟩:=sorted_out_str e1 dA er;have Av:NP.map (λx=>x.cps.toList)=Cd:=by
    refine Iq (le:=λa b=>¬b<a) (λa b _ _ G E=>GN G E) ?_ aM ?_
    .rw[zN];exact JR dM
    .refine(br.map _).trans ?_;rw[f8];exact ae.symm
   subst Av;refine fin i5 (λaP=>?_) (by rw[bR,bR,br.length_eq,bR,dP];exact D.a3);have:=ZG (P:=c.P) (C:=aP) bY λx ay=>by obtain⟨p,gX,rfl⟩:=dn.mp<|br.mem_iff.mp ay;exact ba p gX
   rwa[f8]
 .exact b4 cZ
def n7 {aC:Type} (n:Ĵ) (lt:Ĵ->Ĵ->Ģ):KasT aC->Ĳ aC
 |.ret a=>some a
 |.ask i j k=>if i≠j/\i<n/\j<n then n7 n lt (k<|lt i j)else none
def mD (lt:Ĵ->Ĵ->Ģ) (x:Ĵ):Lm Ĵ->Lm Ĵ
 |[]=>[x]
 |y::r=>if lt x y then x::y::r else y::mD lt x r
def kT (lt:Ĵ->Ĵ->Ģ):Lm Ĵ->Lm Ĵ
 |[]=>[]
 |x::r=>mD lt x<|kT lt r
def rU (b:Lm Ģ) (i j:Ĵ):Ģ:=if i<j then b.getD (i*(7-i)/2+(j-i-1)) false else if j<i then !(b.getD (j*(7-j)/2+(i-j-1)) false)else false
def Aa (n:Ĵ) (lt:Ĵ->Ĵ->Ģ):Ģ:=(List.range n).all λi=>(List.range n).all λj=>(List.range n).all λk=> !(lt i j&&lt j k)||lt i k
def G5 (n:Ĵ) (lt:Ĵ->Ĵ->Ģ):Ģ:= !Aa n lt||n7 n lt (kas_sort n)==some (kT lt<|List.range n).toArray
theorem XD:∀n:Fin 5,2<=n.val->∀a b c d e f:Ģ,G5 n.val (rU [a,b,c,d,e,f])=true:=by decide+kernel
theorem Zx{aC:Type}{n:Ĵ}{lt lt':Ĵ->Ĵ->Ģ}(h:∀i j,i<n->j<n->i≠j->lt i j=lt' i j)(t:KasT aC):n7 n lt t=n7 n lt' t:=by
 induction t with
 |ret a=>rfl
 |ask i j k ar=>
  show(if i≠j/\i<n/\j<n then n7 n lt (k<|lt i j)else none)=if i≠j/\i<n/\j<n then n7 n lt' (k<|lt' i j)else none;by_cases q:i≠j/\i<n/\j<n
  .rw[bl q,bl q,h i j q.2.1 q.2.2 q.1];exact ar _
  .rw[bt q,bt q]
theorem Zy{lt:Ĵ->Ĵ->Ģ}{x:Ĵ}{l:Lm Ĵ}:(mD lt x l).Perm (x::l):=by
 induction l with
 |nil=>exact .refl _
 |cons y r ar=>
  show(if lt x y=true then x::y::r else y::mD lt x r).Perm _;induction lt x y with
  |true=>exact .refl _
  |false=>exact(ar.cons y).trans<|.swap x y r
theorem Fk{lt:Ĵ->Ĵ->Ģ}{l:Lm Ĵ}:(kT lt l).Perm l:=by
 induction l with
 |nil=>exact .refl _
 |cons x r ar=>exact Zy.trans<|ar.cons x
theorem Bl{lt:Ĵ->Ĵ->Ģ}{z:Ĵ}{l:Lm Ĵ}:z∈kT lt l↔z∈l:=Fk.mem_iff
theorem Re{lt lt':Ĵ->Ĵ->Ģ}{x:Ĵ}{l:Lm Ĵ}:(∀y∈l,lt x y=lt' x y)->mD lt x l=mD lt' x l:=by
 induction l with
 |nil=>exact λ_=>rfl
 |cons y r ar=>intro h;show(if lt x y=true then x::y::r else y::mD lt x r)=if lt' x y=true then x::y::r else y::mD lt' x r;rw[h y<|.head _,ar λz hz=>h z<|.tail _ hz]
theorem Px{lt lt':Ĵ->Ĵ->Ģ}{l:Lm Ĵ}(am:l.Pairwise λx y=>lt x y=lt' x y):kT lt l=kT lt' l:=by
 induction am with
 |nil=>rfl
 |@cons x r h _ ar=>show mD lt x (kT lt r)=mD lt' x (kT lt' r);rw[ar];exact Re λy a2=>h y<|Bl.mp a2
theorem Î{v:Ĵ}(h:v<2):v=0\/v=1:=(by decide:∀v,v<2->v=0\/v=1) v h
theorem Uu{lt:Ĵ->Ĵ->Ģ}{n:Ĵ}(h:n<2):kT lt (List.range n)=List.range n:=by rcases Î h with rfl|rfl<;>rfl
theorem UC{f:Ĵ->B}{lt:Ĵ->Ĵ->Ģ}{x:Ĵ}{l:Lm Ĵ}:(∀y∈l,qz (f x) (f y)=some (lt x y))->qm (f x) (l.map f)=some ((mD lt x l).map f):=by
 induction l with
 |nil=>exact λ_=>rfl
 |cons y r ar=>intro h;show(match qz (f x) (f y)with|some true=>some (f x::f y::r.map f)|some false=>(qm (f x)<|r.map f).map (f y::·)|none=>none)=some ((if lt x y=true then x::y::r else y::mD lt x r).map f);rw[h y<|.head _,ar λz hz=>h z<|.tail _ hz];induction lt x y<;>rfl
theorem V2{f:Ĵ->B}{lt:Ĵ->Ĵ->Ģ}{l:Lm Ĵ}(am:l.Pairwise λx y=>qz (f x) (f y)=some (lt x y)):iU (l.map f)=some ((kT lt l).map f):=by
 induction am with
 |nil=>rfl
 |@cons x r h _ ar=>show(iU<|r.map f).bind (qm<|f x)=_;rw[ar];exact UC λy a2=>h y<|Bl.mp a2
theorem ZJ{n:Ĵ}(E:2<=n)(ba:n<=4){lt:Ĵ->Ĵ->Ģ}(U2:∀i j,i<n->j<n->i≠j->lt j i= !lt i j)(UI:∀i j k,i<n->j<n->k<n->lt i j=true->lt j k=true->lt i k=true)(TH:∀i,i<n->lt i i=false):n7 n lt (kas_sort n)=some (kT lt<|List.range n).toArray:=by
 have up:∀i j,i<j->j<n->lt i j=rU [lt 0 1,lt 0 2,lt 0 3,lt 1 2,lt 1 3,lt 2 3] i j:=λi j k9 b8=>by rcases(by decide:∀j<4,∀i<j,(i=0/\j=1)\/(i=0/\j=2)\/(i=0/\j=3)\/(i=1/\j=2)\/(i=1/\j=3)\/(i=2/\j=3)) j (gI b8 ba) i k9 with e|e|e|e|e|e<;>rw[e.1,e.2]<;>rfl
 have key:∀i j,i<n->j<n->lt i j=rU [lt 0 1,lt 0 2,lt 0 3,lt 1 2,lt 1 3,lt 2 3] i j:=λi j aA b8=>by
  rcases Gz i j with h|h|h
  .exact up i j h b8
  .rw[h,TH j b8,rU,bt<|jZ _,bt<|jZ _]
  .rw[U2 j i b8 aA<|gG h,up j i h aA,rU,bl h,rU,bt<|De h,bl h]
 have a7:=XD ⟨n,zM ba⟩ E (lt 0 1) (lt 0 2) (lt 0 3) (lt 1 2) (lt 1 3)<|lt 2 3;simp only[G5,mx,j2,fN]at a7;rw[Zx<|λi j aA b8 _=>key i j aA b8,Px<|List.nodup_range.imp_of_mem λaA b8 _=>key _ _ (lL.mp aA)<|lL.mp b8];rcases a7 with a7|a7
 .exfalso;have:Aa n (rU [lt 0 1,lt 0 2,lt 0 3,lt 1 2,lt 1 3,lt 2 3])=true:=by
   unfold Aa;rw[d6];intro i aA;rw[d6];intro j b8;rw[d6];intro k aE;rw[lL]at aA b8 aE;rw[<-key i j aA b8,<-key j k b8 aE,<-key i k aA aE];cases G:lt i j with
   |false=>rfl
   |true=>
    cases E:lt j k with
    |false=>rfl
    |true=>exact UI i j k aA b8 aE G E
  rw[this]at a7;exact hK a7
 .exact a7
section
variable{prog:Program}{w:World}{A:Around}{O:Ę->Qj->Prop}{s:Qj}
theorem U9{a:Addr}{vs:Lm Ę}{n:Ĵ}{P:PySem.Fin->Qj->Prop}(az:s.heap.get? a=some (seqObj "list" vs.toArray n))(E:vs.length<2)(h:P (.done<|.ret .none) {s with heap:=sortedHeap s.heap a vs vs.toArray}):wpAny (model prog w) A (Builtin.«list.sort» ⟨[.ref a],[]⟩) P O s:=by
 rw[list_sort_plain];have ak:a<s.heap.objs.size:=j_ az;refine bc<|listItems_at az rfl ?_;refine bc<|yG az rfl ?_ (by rw[eo,kK];exact pq ‹_›)<|f7 _;obtain⟨ag,uJ⟩:∃ag,(s.heap.update a (Obj.mapSeq λ_=>#[])).get? a=some (seqObj "list" #[] ag):=⟨_,get?_update_seq az<|λ_=>#[]⟩;refine bc<|seqEpoch_at uJ rfl ?_;refine bc (wpAny_newTuple ?_<|by show vs.length<=_;rw[kK];exact pq ‹_›);refine bc<|uG (gU ?_)<|f7 _;have w2:(((s.heap.update a<|Obj.mapSeq λ_=>#[]).push<|seqObj "tuple" vs.toArray 0).push<|seqObj "list" #[] 0).get? a=some (seqObj "list" #[] ag):=by rw[tD _ _ _ (by rw[size_push',vg];exact gG<|nA ak),tD _ _ _<|by rw[vg];exact gG ak];exact uJ
 show wpAny (model prog w) A _ P O {s with heap:=((s.heap.update a<|Obj.mapSeq λ_=>#[]).push<|seqObj "tuple" vs.toArray 0).push (seqObj "list" #[] 0)};dsimp only;have l6:vs.toArray.size<2:=by simpa using E
 rw[bl l6,bl l6];refine bc<|b1 ?_;rw[StateT.run_pure];refine bc<|b1 ?_;dsimp only;have hz:((vs.toArray.zip vs.toArray).map λp:Ę×Ę=>p.2)=vs.toArray:=by apply Array.toList_inj.mp;rw[Array.toList_map,Array.toList_zip];exact List.map_snd_zip<|dy _
 refine bc<|seqEpoch_at w2 rfl ?_;refine bc<|yG w2 rfl ?_ (hsz2:=by show(((vs.toArray.zip vs.toArray).map λp:Ę×Ę=>p.2)).size<=_;rw[hz,kK];exact pq ‹_›);simp only[It,rD,ri];have:wpAny (model prog w) A (pure (.done<|.ret .none):Sem PySem.Fin) P O {s with heap:=(((s.heap.update a<|Obj.mapSeq λ_=>#[]).push<|seqObj "tuple" vs.toArray 0).push<|seqObj "list" #[] 0).update a (Obj.mapSeq λ_=>(vs.toArray.zip vs.toArray).map λp:Ę×Ę=>p.2)}:=by rw[hz];exact b1 h
 exact this
theorem Ç{aC:Type}{n:Ĵ}{lt:Ĵ->Ĵ->Ģ}{ask:Ĵ->Ĵ->(Ģ->Qj->Prop)->Qj->Prop}{h₀:Heap}(ak:∀i j,i<n->j<n->i≠j->∀ai (s:Qj),s.heap=h₀->ai (lt i j) s->ask i j ai s):∀(t:KasT aC) {a:aC} {Q:aC->Qj->Prop} {s:Qj},s.heap=h₀->n7 n lt t=some a->Q a s->t.kasWp ask Q s:=λt=>by
 induction t with
 |ret a=>exact λaM e h=>by rw[cY e];exact h
 |ask i j k ar=>
  intro b Q s aM e h;replace e:(if i≠j/\i<n/\j<n then n7 n lt (k<|lt i j)else none)=some b:=e;by_cases q:i≠j/\i<n/\j<n
  .rw[bl q]at e;exact ak i j q.2.1 q.2.2 q.1 _ s aM<|ar (lt i j) aM e h
  .rw[bt q]at e;exact b4 e
theorem QP{a:Addr}{vs:Lm Ę}{n:Ĵ}{P:PySem.Fin->Qj->Prop}{oJ:SortKind}{lt:Ĵ->Ĵ->Ģ}{p:Lm Ĵ}(az:s.heap.get? a=some (seqObj "list" vs.toArray n))(E:2<=vs.length)(y8:vs.length<64)(aE:∀(uO:Ę->Qj->Prop) (Q:SortKind->Qj->Prop) (aq:Qj),(∀b o,b≠a->s.heap.get? b=some o->aq.heap.get? b=some o)->Q oJ aq->wpAny (model prog w) A (keyKind' vs.toArray) Q uO aq)(ç:∀i j,i<vs.length->j<vs.length->i≠j->∀ai (aq:Qj),(∀b o,b≠a->s.heap.get? b=some o->aq.heap.get? b=some o)->ai (lt i j) aq->kas_ask prog w A oJ vs i j ai aq)(bm:n7 vs.length lt (kas_sort vs.length)=some p.toArray)(h:P (.done<|.ret .none) {s with heap:=sortedHeap s.heap a vs (p.map λi=>vs.getD i Value.none).toArray}):wpAny (model prog w) A (Builtin.«list.sort» ⟨[.ref a],[]⟩) P O s:=by
 rw[list_sort_plain];have ak:a<s.heap.objs.size:=j_ az;refine bc<|listItems_at az rfl ?_;refine bc<|yG az rfl ?_ (by rw[eo,kK];exact pq ‹_›)<|f7 _;obtain⟨ag,uJ⟩:∃ag,(s.heap.update a (Obj.mapSeq λ_=>#[])).get? a=some (seqObj "list" #[] ag):=⟨_,get?_update_seq az<|λ_=>#[]⟩;refine bc<|seqEpoch_at uJ rfl ?_;refine bc (wpAny_newTuple ?_<|by show vs.length<=_;rw[kK];exact pq ‹_›);refine bc<|uG (gU ?_)<|f7 _;have w2:(((s.heap.update a<|Obj.mapSeq λ_=>#[]).push<|seqObj "tuple" vs.toArray 0).push<|seqObj "list" #[] 0).get? a=some (seqObj "list" #[] ag):=by rw[tD _ _ _ (by rw[size_push',vg];exact gG<|nA ak),tD _ _ _<|by rw[vg];exact gG ak];exact uJ
 have keep:∀b o,b≠a->s.heap.get? b=some o->(((s.heap.update a<|Obj.mapSeq λ_=>#[]).push<|seqObj "tuple" vs.toArray 0).push<|seqObj "list" #[] 0).get? b=some o:=λb o av ea=>ih _<|ih _<|(Dc _ _<|h5 av).trans ea;show wpAny (model prog w) A _ P O {s with heap:=((s.heap.update a<|Obj.mapSeq λ_=>#[]).push<|seqObj "tuple" vs.toArray 0).push (seqObj "list" #[] 0)};dsimp only;have lF:¬vs.toArray.size<2:=by rw[eo];omega
 rw[bt lF,bt lF];refine bc<|aE _ _ _ keep ?_;obtain⟨k7,n9⟩:∃k7:Qj,k7={s with heap:=((s.heap.update a<|Obj.mapSeq λ_=>#[]).push<|seqObj "tuple" vs.toArray 0).push (seqObj "list" #[] 0)}:=⟨_,rfl⟩;refine bc<|lG (kat_run (ks:=vs) (Q:=λuR aq=>∃q:Array Ĵ,q.size=vs.length/\arrOf uR=q.map (kas_item<|vs.toArray.zip vs.toArray)/\failedOf uR=none/\q=p.toArray/\aq=k7) rfl E y8 (λet uR aq e0 fS kM km=>⟨et,e0,fS,kM,km⟩)<|by rw[<-n9];exact(Ç (ask:=kas_ask prog w A oJ vs) (h₀:=k7.heap) (λi j aA b8 k9 ai aq md ap=>ç i j aA b8 k9 ai aq (λb o av ea=>by rw[md,n9];exact keep b o av ea) ap) (kas_sort vs.length) (Q:=λq Sc=>q=p.toArray/\Sc=k7) (s:=k7) rfl bm ⟨rfl,rfl⟩)) ?_ λ_ _ e=>e;rintro⟨⟨⟩,uR⟩aq⟨q,bb,Rp,a7,rfl,rfl⟩;dsimp only;have hsz:(List.toArray<|p.map λi=>vs.getD i Value.none).size=vs.length:=by rw[eo,bR];simpa using bb
 have I5:aq.heap.get? a=some (seqObj "list" #[] ag):=by rw[n9];exact w2
 rw[kat_snds rfl Rp];refine bc<|seqEpoch_at I5 rfl ?_;refine bc (yG I5 rfl ?_ (f7 _)<|aJ (fU hsz)<|by rw[kK];exact pq ‹_›);rw[a7];simp only[It,rD,ri];subst n9;exact b1 h
end
theorem AE{v:B}{k:bv}(e:je v=some k):∃r,v=.tup (.str k::r):=by
 induction v using B.casesOn with
 |tup l=>induction l with
  |nil=>exact b4 e
  |cons x l=>induction x using B.casesOn with
   |str a=>cases e;exact⟨l,rfl⟩
   |_=>exact b4 e
 |_=>exact b4 e
theorem ý{C:aY}{v:B}{V:Ę}{k:bv}(h:bz c.P C v V)(e:je v=some k):gV λt u bC n=>V=.ref t/\C t=.a4 (d9 (Value.str ⟨k.toArray⟩ u::bC).toArray n):=by obtain⟨r,rfl⟩:=AE e;obtain⟨a,Vs,n,rfl,G,E,-⟩:=oH h;obtain⟨V,bC,rfl,aB,-⟩:=E.lz;obtain⟨u,rfl,-⟩:=aB.of;exact⟨a,u,bC,n,rfl,G⟩
theorem QN{a b:B}{k iB:bv}(G:je a=some k)(E:je b=some iB)(e_:k≠iB):qz a b=some (decide<|k<iB):=by obtain⟨r,rfl⟩:=AE G;obtain⟨b0,rfl⟩:=AE E;show(if(k==iB)=true then none else some (gb k iB))=_;rw[bt (by simpa using e_),xB]
theorem Jv{P:Params}{C:aY}{l:Lm B}{Vs:Lm Ę}(h:bB P C l Vs){i:Ĵ}(aA:i<l.length):bz P C (l.getD i .none) (Vs.getD i .none):=by obtain⟨V,G,E⟩:=h.get (i:=i) (v:=l[i])<|fl aA;rw[lN,lN,G,fl aA];exact E
theorem J0{P:Params}{C:aY}{l:Lm B}{Vs:Lm Ę}(h:bB P C l Vs):∀{p:Lm Ĵ},(∀i∈p,i<l.length)->bB P C (p.map λi=>l.getD i .none) (p.map λi=>Vs.getD i .none)
 |[],_=>.nil
 |i::p,ae=>.cons (Jv h<|ae i t0)<|J0 h λj b8=>ae j<|rM _ b8
theorem B6{aC:Type}(d:aC):∀(l:Lm aC),(List.range l.length).map (λi=>l.getD i d)=l:=by
 intro l;apply Bc;intro i;rw[gS];by_cases h:i<l.length
 .rw[LX h,fl h];simp[h]
 .rw[C1 (by simpa using h),C1<|by simpa using h];rfl
theorem Tg(aX:c.Ok){O:Ę->Qj->Prop}{s:Qj}{C:aY}{J:St}{l:Lm B}{V:Ę}{z:B}{Q:Ę->Qj->Prop}(I:c.I C J s)(af:bz c.P C (.lst l) V)(e:kC .sorted [.lst l]=some z)(h:∀Z aP aq,c.I aP J aq->bq C s aP aq->bz c.P aP z Z->Q Z aq):wpAny c.M A (call (.builtin "sorted") [V]) Q O s:=by
 replace e:(if l.length<=4/\(l.all λx=>(je x).isSome)=true/\(l.map je).Nodup then(iU l).map B.lst else none)=some z:=e;split at e
 .rename_i ap;obtain⟨ba,gf,kH⟩:=ap;obtain⟨c7,ag,a8⟩:=map_some e;clear e;subst a8;obtain⟨iW,Vs,U5,rfl,bY,br,dM⟩:=oT af;clear af;have dP:=br.length;have Bf:Vs.length<=4:=aJ (fU dP) ba;have Ee:∀i,i<l.length->∃k,je (l.getD i .none)=some k:=λi aA=>by have:=d6.mp gf l[i]<|w_ aA;rw[lN,fl aA];exact g2.mp this
  obtain⟨key,aE⟩:∃key:Ĵ->bv,∀i,i<l.length->je (l.getD i .none)=some (key i):=⟨λi=>(je<|l.getD i .none).getD [],λi aA=>by obtain⟨k,e⟩:=Ee i aA;show _=some ((je<|l.getD i .none).getD []);rw[e];rfl⟩;have e_:∀i j,i<l.length->j<l.length->i≠j->key i≠key j:=λi j aA b8 k9 yi=>by
   refine k9<|(Mp (l:=l.map je) (by simpa using aA) kH (j:=j)).mp ?_;have g:∀i,i<l.length->(l.map je)[i]?=some (some<|key i):=λi aA=>by have:=aE i aA;rw[lN,fl aA]at this;rw[gS,fl aA];exact bX some this
   rw[g i aA,g j b8,yi]
  obtain⟨lt,cU⟩:∃lt:Ĵ->Ĵ->Ģ,lt=λi j=>decide (key i<key j):=⟨_,rfl⟩;have Er:c7=(kT lt<|List.range l.length).map λi=>l.getD i .none:=by have:=V2 (f:=λi=>l.getD i .none) (lt:=lt) (l:=List.range l.length)<|List.Pairwise.imp_of_mem (λ{i j} aA b8 k9=>by rw[lL]at aA b8;rw[QN (aE i aA) (aE j b8)<|e_ i j aA b8 k9,cU]) List.nodup_range;rw[B6]at this;rw[this]at ag;cases ag;rfl
  have fin:∀{out:Array Ę},(∀aP,(∀a o,C a=.a4 o->aP a=.a4 o)->(∀a n,C a=.st n->aP a=.st n)->bB c.P aP c7 out.toList)->Q (.ref<|s.heap.objs.size+1) {s with heap:=sortedAll s.heap Vs out}:=λ{out} hz=>by
   obtain⟨re,sy⟩:=sortedAll_at s.heap Vs out;have sv:s.heap.get? (s.heap.objs.size+1)=none:=by
    induction q:s.heap.get? (s.heap.objs.size+1)with
    |none=>rfl
    |some o=>exact absurd (j_ q)<|rz.mpr<|j5 _
   obtain⟨dk,ez⟩:=GS (cJ:=s.toks) I (λb o ea=>sortedAll_old ea) sv sy;refine h _ _ _ dk ez<|.lst (Vs:=out.toList) (n:=re) (by rw[c3]) (hz _ (ez.zero.oy I) ez.st) ?_;rw[Er,bR,Fk.length_eq,s3];exact aJ ba (by decide)
  refine BE kind_sorted plain_sorted entry_sorted (args_sorted1 _) ?_;unfold Builtin.«sorted»;refine bc (m:=checkCount "sorted" 1 1 _)<|b1 ?_;refine bc (collect_list (hW (I.a4 _ _ bY):s.heap.IsList iW Vs.toArray) ?_<|by rw[kK];exact aJ Bf<|aH rfl);refine bc (uG ?_<|by rw[kK];exact aJ Bf<|aH rfl);have hsz:((s.heap.push<|seqObj "list" #[] 0).update s.heap.objs.size<|Obj.mapSeq (· ++Vs.toArray)).objs.size=s.heap.objs.size+1:=by rw[vg,size_push']
  have vv:(((s.heap.push<|seqObj "list" #[] 0).update s.heap.objs.size<|Obj.mapSeq (· ++Vs.toArray)).push<|seqObj "list" Vs.toArray 0).get? (s.heap.objs.size+1)=some (seqObj "list" Vs.toArray 0):=by rw[<-hsz];exact gO _ rfl
  have keep:∀b o,s.heap.get? b=some o->(((s.heap.push<|seqObj "list" #[] 0).update s.heap.objs.size<|Obj.mapSeq (· ++Vs.toArray)).push<|seqObj "list" Vs.toArray 0).get? b=some o/\b≠s.heap.objs.size+1:=λb o q=>by have cU:b<s.heap.objs.size:=j_ q;refine⟨?_,gG<|nA cU⟩;rw[tD _ _ _ (by rw[hsz];exact gG<|nA cU),Heap.get?_update_ne _ _ _ _<|gG cU,tD _ _ _<|gG cU];exact q
  show wpAny _ _ _ _ _ {s with heap:=((s.heap.push<|seqObj "list" #[] 0).update s.heap.objs.size<|Obj.mapSeq (· ++Vs.toArray)).push (seqObj "list" Vs.toArray 0)};rw[hsz];refine bc<|gU<|mH slot_list_sort ⟨_,vv,rfl⟩ entry_list_sort ?_<|args_list_sort _;by_cases E:Vs.length<2
  .refine U9 vv E ⟨_,rfl,b1 ⟨_,rfl,fin (out:=Vs.toArray) λaP d7 eU=>?_⟩⟩;have:c7=l:=by rw[Er,Uu<|hN (fU dP.symm) E,B6]
   rw[this];simpa using br.mono d7 eU
  .have cJ:∀i,i<l.length->gV λt u bC n=>Vs.getD i .none=.ref t/\s.heap.get? t=some (d9 (Value.str ⟨(key i).toArray⟩ u::bC).toArray n):=λi aA=>by obtain⟨t,u,bC,n,e,bm⟩:=ý (Jv br aA)<|aE i aA;exact⟨t,u,bC,n,e,I.a4 _ _ bm⟩
   have Ö:=ZJ (n:=l.length) (lt:=lt) (aJ (q0 E) (fU dP)) ba (λi j aA b8 k9=>by
    rw[cU];simp only;by_cases q:key i<key j
    .simp only[q,decide_true,C3,ny];exact λfd=>Dj _<|wT q fd
    .simp only[q,decide_false,Bool.not_false,jD];induction Mj:decide (key j<key i)with
     |true=>exact fz Mj
     |false=>exact absurd (GN (v2 Mj) q) (e_ i j aA b8 k9))
    (λi j k _ _ _ G E=>by rw[cU]at G E⊢;simp only[jD]at G E⊢;exact wT G E) (λi _=>by rw[cU];simp only[ny];exact Dj _)
   refine QP (oJ:=tuples'<|Value.type "str" !=Value.type "tuple") (lt:=lt) (p:=kT lt<|List.range l.length) vv (q0 E) (hN Bf<|jC rfl) (λuO bT aq md bb=>?_) (λi j aA b8 k9 ai aq md jA=>?_) (by rw[dP];exact Ö) ⟨_,rfl,b1 ⟨_,rfl,fin λaP d7 eU=>?_⟩⟩
   .have YR:∀(is:Lm Ĵ),(∀i∈is,i<l.length)->∃sT,sT.length=is.length/\KatTups aq.heap (is.map λi=>Vs.getD i .none) sT/\∀v∈sT,Looks c.M aq.heap (typeOf v) (.type "str"):=by
     intro is;induction is with
     |nil=>intro _;exact⟨[],rfl,trivial,λv af=>by simp at af⟩
     |cons i is ar=>
      intro aA;obtain⟨sT,jW,xO,AD⟩:=ar λj b8=>aA j<|rM _ b8;obtain⟨t,u,bC,n,qC,az⟩:=cJ i<|aA i t0;refine⟨.str ⟨(key i).toArray⟩ u::sT,by simp[jW],?_,λv af=>?_⟩
      .rw[fx,qC];obtain⟨fH,gy⟩:=keep _ _ az;exact KatTups.cons (md _ _ gy fH) rfl rfl (by simp) xO
      .rcases eJ.mp af with rfl|af
       .exact Looks.of_pure rfl
       .exact AD v af
    obtain⟨sT,jW,xO,AD⟩:=YR (List.range l.length) λi aA=>lL.mp aA;rw[show(List.range l.length).map (λi=>Vs.getD i Value.none)=Vs by rw[<-dP];exact B6 _ _]at xO;exact kat_kind xO (by rw[jW,s3];omega) AD (by decide) bb
   .rw[dP]at aA b8;obtain⟨t,u,bC,n,qC,az⟩:=cJ i aA;obtain⟨dK,ie,VI,n',PM,g7⟩:=cJ j b8;obtain⟨fH,gy⟩:=keep _ _ az;obtain⟨UK,UP⟩:=keep _ _ g7;unfold kas_ask;rw[qC,PM];refine kat_lt (md _ _ gy fH) rfl (md _ _ UP UK) rfl ?_;show KatLex _ _ _ _ _ _ ((Value.str ⟨(key i).toArray⟩ u,Value.str ⟨(key j).toArray⟩ ie)::bC.zip VI) 0 aq;refine kat_cons<|eqBool_str ?_;rw[show((⟨(key i).toArray⟩:Str)==⟨(key j).toArray⟩)=false by rw[lf];intro q;refine e_ i j aA b8 k9 ?_;have:=bX (λx:Str=>x.cps.toList) q;simpa using this];refine kat_no ?_;show wpAny c.M _ (oneLt' true _ _) ai _ aq;refine oneLt_str ?_;rw[cU]at jA;simpa using jA
   .rw[Er];simpa using(J0 (p:=kT lt<|List.range l.length) br λi aA=>lL.mp<|Bl.mp aA).mono d7 eU
 .exact b4 e
theorem NG(aX:c.Ok)(eX:A.handled=none):oK c A (.builtin "sorted") (n3 .sorted):=by
 intro O s C J v V z Q I af e h;replace e:Im v=some z:=e;induction v using B.casesOn with
 |lst l=>exact Tg aX I af e h
 |a9 l=>exact Z1 aX eX I af e h
 |_=>exact b4 e
theorem f4{c:Prop}[Decidable c]{f:c->Ģ}(h:(if h:c then f h else false)=true):∃aF,f aF=true:=by
 by_cases cy:c
 .rw[dif_pos cy]at h;exact⟨cy,h⟩
 .rw[dif_neg cy]at h;exact absurd h eM
def zh (e:B) (k:Ģ->Ģ):Ģ:=if h:e.ctorIdx=1 then B.bool.elim (motive_1:=λ_=>Ģ) e h k else false
theorem zh.of{e:B}{k:Ģ->Ģ}(h:zh e k=true):∃a,e=.bool a/\k a=true:=by obtain⟨aF,h⟩:=f4 h;exact B.bool.elim (motive_1:=λe=>∀aF,B.bool.elim (motive_1:=λ_=>Ģ) e aF k=true->∃a,e=.bool a/\k a=true) e aF (λa _ h=>⟨a,rfl,h⟩) aF h
def x8 (e:B) (k:ĵ->Ģ):Ģ:=if h:e.ctorIdx=2 then B.int.elim (motive_1:=λ_=>Ģ) e h k else false
theorem x8.of{e:B}{k:ĵ->Ģ}(h:x8 e k=true):∃a,e=.int a/\k a=true:=by obtain⟨aF,h⟩:=f4 h;exact B.int.elim (motive_1:=λe=>∀aF,B.int.elim (motive_1:=λ_=>Ģ) e aF k=true->∃a,e=.int a/\k a=true) e aF (λa _ h=>⟨a,rfl,h⟩) aF h
def zl (e:B) (k:bv->Ģ):Ģ:=if h:e.ctorIdx=3 then B.str.elim (motive_1:=λ_=>Ģ) e h k else false
theorem zl.of{e:B}{k:bv->Ģ}(h:zl e k=true):∃a,e=.str a/\k a=true:=by obtain⟨aF,h⟩:=f4 h;exact B.str.elim (motive_1:=λe=>∀aF,B.str.elim (motive_1:=λ_=>Ģ) e aF k=true->∃a,e=.str a/\k a=true) e aF (λa _ h=>⟨a,rfl,h⟩) aF h
def yE (e:B) (k:Lm B->Ģ):Ģ:=if h:e.ctorIdx=4 then B.tup.elim (motive_1:=λ_=>Ģ) e h k else false
theorem yE.of{e:B}{k:Lm B->Ģ}(h:yE e k=true):∃a,e=.tup a/\k a=true:=by obtain⟨aF,h⟩:=f4 h;exact B.tup.elim (motive_1:=λe=>∀aF,B.tup.elim (motive_1:=λ_=>Ģ) e aF k=true->∃a,e=.tup a/\k a=true) e aF (λa _ h=>⟨a,rfl,h⟩) aF h
def zp (e:B) (k:Lm (B×B)->Ģ):Ģ:=if h:e.ctorIdx=6 then B.a9.elim (motive_1:=λ_=>Ģ) e h k else false
theorem zp.of{e:B}{k:Lm (B×B)->Ģ}(h:zp e k=true):∃a,e=.a9 a/\k a=true:=by obtain⟨aF,h⟩:=f4 h;exact B.a9.elim (motive_1:=λe=>∀aF,B.a9.elim (motive_1:=λ_=>Ģ) e aF k=true->∃a,e=.a9 a/\k a=true) e aF (λa _ h=>⟨a,rfl,h⟩) aF h
def vu (e:a1) (k:Ĵ->Ģ):Ģ:=if h:e.ctorIdx=1 then a1.v.elim (motive_1:=λ_=>Ģ) e h k else false
theorem vu.of{e:a1}{k:Ĵ->Ģ}(h:vu e k=true):∃a,e=.v a/\k a=true:=by obtain⟨aF,h⟩:=f4 h;exact a1.v.elim (motive_1:=λe=>∀aF,a1.v.elim (motive_1:=λ_=>Ģ) e aF k=true->∃a,e=.v a/\k a=true) e aF (λa _ h=>⟨a,rfl,h⟩) aF h
def sR (e:a1) (k:B->Ģ):Ģ:=if h:e.ctorIdx=0 then a1.k.elim (motive_1:=λ_=>Ģ) e h k else false
theorem sR.of{e:a1}{k:B->Ģ}(h:sR e k=true):∃a,e=.k a/\k a=true:=by obtain⟨aF,h⟩:=f4 h;exact a1.k.elim (motive_1:=λe=>∀aF,a1.k.elim (motive_1:=λ_=>Ģ) e aF k=true->∃a,e=.k a/\k a=true) e aF (λa _ h=>⟨a,rfl,h⟩) aF h
def sk (e:a1) (k:Lm a1->Ģ):Ģ:=if h:e.ctorIdx=8 then a1.lst.elim (motive_1:=λ_=>Ģ) e h k else false
theorem sk.of{e:a1}{k:Lm a1->Ģ}(h:sk e k=true):∃a,e=.lst a/\k a=true:=by obtain⟨aF,h⟩:=f4 h;exact a1.lst.elim (motive_1:=λe=>∀aF,a1.lst.elim (motive_1:=λ_=>Ģ) e aF k=true->∃a,e=.lst a/\k a=true) e aF (λa _ h=>⟨a,rfl,h⟩) aF h
def zQ (e:a1) (k:Lm (a1×a1)->Ģ):Ģ:=if h:e.ctorIdx=9 then a1.a9.elim (motive_1:=λ_=>Ģ) e h k else false
theorem zQ.of{e:a1}{k:Lm (a1×a1)->Ģ}(h:zQ e k=true):∃a,e=.a9 a/\k a=true:=by obtain⟨aF,h⟩:=f4 h;exact a1.a9.elim (motive_1:=λe=>∀aF,a1.a9.elim (motive_1:=λ_=>Ģ) e aF k=true->∃a,e=.a9 a/\k a=true) e aF (λa _ h=>⟨a,rfl,h⟩) aF h
def xc (e:a1) (k:a1->Ģ->Lm Ĵ->a1->Lm a1->Ģ):Ģ:=if h:e.ctorIdx=21 then a1.comp.elim (motive_1:=λ_=>Ģ) e h k else false
theorem xc.of{e:a1}{k:a1->Ģ->Lm Ĵ->a1->Lm a1->Ģ}(h:xc e k=true):rT λa b c d g=>e=.comp a b c d g/\k a b c d g=true:=by obtain⟨aF,h⟩:=f4 h;exact a1.comp.elim (motive_1:=λe=>∀aF,a1.comp.elim (motive_1:=λ_=>Ģ) e aF k=true->rT λa b c d g=>e=.comp a b c d g/\k a b c d g=true) e aF (λa b c d g _ h=>⟨a,b,c,d,g,rfl,h⟩) aF h
def e9 (e:ĳ) (k:Str->Pos->Ģ):Ģ:=if h:e.ctorIdx=23 then Expr.Name.elim (motive_1:=λ_=>Ģ) e h k else false
theorem e9.of{e:ĳ}{k:Str->Pos->Ģ}(h:e9 e k=true):ee λa b=>e=.Name a b/\k a b=true:=by obtain⟨aF,h⟩:=f4 h;exact Expr.Name.elim (motive_1:=λe=>∀aF,Expr.Name.elim (motive_1:=λ_=>Ģ) e aF k=true->ee λa b=>e=.Name a b/\k a b=true) e aF (λa b _ h=>⟨a,b,rfl,h⟩) aF h
def jY (e:ĳ) (k:ĳ->Str->Pos->Ģ):Ģ:=if h:e.ctorIdx=20 then Expr.Attribute.elim (motive_1:=λ_=>Ģ) e h k else false
theorem jY.of{e:ĳ}{k:ĳ->Str->Pos->Ģ}(h:jY e k=true):dD λa b c=>e=.Attribute a b c/\k a b c=true:=by obtain⟨aF,h⟩:=f4 h;exact Expr.Attribute.elim (motive_1:=λe=>∀aF,Expr.Attribute.elim (motive_1:=λ_=>Ģ) e aF k=true->dD λa b c=>e=.Attribute a b c/\k a b c=true) e aF (λa b c _ h=>⟨a,b,c,rfl,h⟩) aF h
def mr (e:ĳ) (k:ĳ->ĳ->Pos->Ģ):Ģ:=if h:e.ctorIdx=21 then Expr.Subscript.elim (motive_1:=λ_=>Ģ) e h k else false
theorem mr.of{e:ĳ}{k:ĳ->ĳ->Pos->Ģ}(h:mr e k=true):dD λa b c=>e=.Subscript a b c/\k a b c=true:=by obtain⟨aF,h⟩:=f4 h;exact Expr.Subscript.elim (motive_1:=λe=>∀aF,Expr.Subscript.elim (motive_1:=λ_=>Ģ) e aF k=true->dD λa b c=>e=.Subscript a b c/\k a b c=true) e aF (λa b c _ h=>⟨a,b,c,rfl,h⟩) aF h
def tw (e:ĳ) (k:Ĳ ĳ->Ĳ ĳ->Ĳ ĳ->Pos->Ģ):Ģ:=if h:e.ctorIdx=26 then Expr.Slice.elim (motive_1:=λ_=>Ģ) e h k else false
theorem tw.of{e:ĳ}{k:Ĳ ĳ->Ĳ ĳ->Ĳ ĳ->Pos->Ģ}(h:tw e k=true):gV λa b c d=>e=.Slice a b c d/\k a b c d=true:=by obtain⟨aF,h⟩:=f4 h;exact Expr.Slice.elim (motive_1:=λe=>∀aF,Expr.Slice.elim (motive_1:=λ_=>Ģ) e aF k=true->gV λa b c d=>e=.Slice a b c d/\k a b c d=true) e aF (λa b c d _ h=>⟨a,b,c,d,rfl,h⟩) aF h
def pN (e:ĳ) (k:Lm ĳ->Pos->Ģ):Ģ:=if h:e.ctorIdx=24 then Expr.List.elim (motive_1:=λ_=>Ģ) e h k else false
theorem pN.of{e:ĳ}{k:Lm ĳ->Pos->Ģ}(h:pN e k=true):ee λa b=>e=.List a b/\k a b=true:=by obtain⟨aF,h⟩:=f4 h;exact Expr.List.elim (motive_1:=λe=>∀aF,Expr.List.elim (motive_1:=λ_=>Ģ) e aF k=true->ee λa b=>e=.List a b/\k a b=true) e aF (λa b _ h=>⟨a,b,rfl,h⟩) aF h
def oc (e:ĳ) (k:Lm ĳ->Ĵ->Pos->Ģ):Ģ:=if h:e.ctorIdx=25 then Expr.Tuple.elim (motive_1:=λ_=>Ģ) e h k else false
theorem oc.of{e:ĳ}{k:Lm ĳ->Ĵ->Pos->Ģ}(h:oc e k=true):dD λa b c=>e=.Tuple a b c/\k a b c=true:=by obtain⟨aF,h⟩:=f4 h;exact Expr.Tuple.elim (motive_1:=λe=>∀aF,Expr.Tuple.elim (motive_1:=λ_=>Ģ) e aF k=true->dD λa b c=>e=.Tuple a b c/\k a b c=true) e aF (λa b c _ h=>⟨a,b,c,rfl,h⟩) aF h
def s7 (e:ĳ) (k:Lm (Ĳ ĳ)->Lm ĳ->Pos->Ģ):Ģ:=if h:e.ctorIdx=6 then Expr.Dict.elim (motive_1:=λ_=>Ģ) e h k else false
theorem s7.of{e:ĳ}{k:Lm (Ĳ ĳ)->Lm ĳ->Pos->Ģ}(h:s7 e k=true):dD λa b c=>e=.Dict a b c/\k a b c=true:=by obtain⟨aF,h⟩:=f4 h;exact Expr.Dict.elim (motive_1:=λe=>∀aF,Expr.Dict.elim (motive_1:=λ_=>Ģ) e aF k=true->dD λa b c=>e=.Dict a b c/\k a b c=true) e aF (λa b c _ h=>⟨a,b,c,rfl,h⟩) aF h
def wU (e:ĳ) (k:ĳ->Operator->ĳ->Pos->Ģ):Ģ:=if h:e.ctorIdx=2 then Expr.BinOp.elim (motive_1:=λ_=>Ģ) e h k else false
theorem wU.of{e:ĳ}{k:ĳ->Operator->ĳ->Pos->Ģ}(h:wU e k=true):gV λa b c d=>e=.BinOp a b c d/\k a b c d=true:=by obtain⟨aF,h⟩:=f4 h;exact Expr.BinOp.elim (motive_1:=λe=>∀aF,Expr.BinOp.elim (motive_1:=λ_=>Ģ) e aF k=true->gV λa b c d=>e=.BinOp a b c d/\k a b c d=true) e aF (λa b c d _ h=>⟨a,b,c,d,rfl,h⟩) aF h
def p5 (e:ĳ) (k:UnaryOp->ĳ->Pos->Ģ):Ģ:=if h:e.ctorIdx=3 then Expr.UnaryOp.elim (motive_1:=λ_=>Ģ) e h k else false
theorem p5.of{e:ĳ}{k:UnaryOp->ĳ->Pos->Ģ}(h:p5 e k=true):dD λa b c=>e=.UnaryOp a b c/\k a b c=true:=by obtain⟨aF,h⟩:=f4 h;exact Expr.UnaryOp.elim (motive_1:=λe=>∀aF,Expr.UnaryOp.elim (motive_1:=λ_=>Ģ) e aF k=true->dD λa b c=>e=.UnaryOp a b c/\k a b c=true) e aF (λa b c _ h=>⟨a,b,c,rfl,h⟩) aF h
def ss (e:ĳ) (k:ĳ->Lm CmpOp->Lm ĳ->Pos->Ģ):Ģ:=if h:e.ctorIdx=15 then Expr.Compare.elim (motive_1:=λ_=>Ģ) e h k else false
theorem ss.of{e:ĳ}{k:ĳ->Lm CmpOp->Lm ĳ->Pos->Ģ}(h:ss e k=true):gV λa b c d=>e=.Compare a b c d/\k a b c d=true:=by obtain⟨aF,h⟩:=f4 h;exact Expr.Compare.elim (motive_1:=λe=>∀aF,Expr.Compare.elim (motive_1:=λ_=>Ģ) e aF k=true->gV λa b c d=>e=.Compare a b c d/\k a b c d=true) e aF (λa b c d _ h=>⟨a,b,c,d,rfl,h⟩) aF h
def nW (e:ĳ) (k:BoolOp->Lm ĳ->Pos->Ģ):Ģ:=if h:e.ctorIdx=0 then Expr.BoolOp.elim (motive_1:=λ_=>Ģ) e h k else false
theorem nW.of{e:ĳ}{k:BoolOp->Lm ĳ->Pos->Ģ}(h:nW e k=true):dD λa b c=>e=.BoolOp a b c/\k a b c=true:=by obtain⟨aF,h⟩:=f4 h;exact Expr.BoolOp.elim (motive_1:=λe=>∀aF,Expr.BoolOp.elim (motive_1:=λ_=>Ģ) e aF k=true->dD λa b c=>e=.BoolOp a b c/\k a b c=true) e aF (λa b c _ h=>⟨a,b,c,rfl,h⟩) aF h
def tN (e:ĳ) (k:ĳ->ĳ->ĳ->Pos->Ģ):Ģ:=if h:e.ctorIdx=5 then Expr.IfExp.elim (motive_1:=λ_=>Ģ) e h k else false
theorem tN.of{e:ĳ}{k:ĳ->ĳ->ĳ->Pos->Ģ}(h:tN e k=true):gV λa b c d=>e=.IfExp a b c d/\k a b c d=true:=by obtain⟨aF,h⟩:=f4 h;exact Expr.IfExp.elim (motive_1:=λe=>∀aF,Expr.IfExp.elim (motive_1:=λ_=>Ģ) e aF k=true->gV λa b c d=>e=.IfExp a b c d/\k a b c d=true) e aF (λa b c d _ h=>⟨a,b,c,d,rfl,h⟩) aF h
def kV (e:ĳ) (k:ĳ->Lm ĳ->Lm Keyword->Pos->Ģ):Ģ:=if h:e.ctorIdx=16 then Expr.Call.elim (motive_1:=λ_=>Ģ) e h k else false
theorem kV.of{e:ĳ}{k:ĳ->Lm ĳ->Lm Keyword->Pos->Ģ}(h:kV e k=true):gV λa b c d=>e=.Call a b c d/\k a b c d=true:=by obtain⟨aF,h⟩:=f4 h;exact Expr.Call.elim (motive_1:=λe=>∀aF,Expr.Call.elim (motive_1:=λ_=>Ģ) e aF k=true->gV λa b c d=>e=.Call a b c d/\k a b c d=true) e aF (λa b c d _ h=>⟨a,b,c,d,rfl,h⟩) aF h
def yl (e:ĳ) (k:ĳ->Lm Comprehension->Scope->Pos->Ģ):Ģ:=if h:e.ctorIdx=8 then Expr.ListComp.elim (motive_1:=λ_=>Ģ) e h k else false
theorem yl.of{e:ĳ}{k:ĳ->Lm Comprehension->Scope->Pos->Ģ}(h:yl e k=true):gV λa b c d=>e=.ListComp a b c d/\k a b c d=true:=by obtain⟨aF,h⟩:=f4 h;exact Expr.ListComp.elim (motive_1:=λe=>∀aF,Expr.ListComp.elim (motive_1:=λ_=>Ģ) e aF k=true->gV λa b c d=>e=.ListComp a b c d/\k a b c d=true) e aF (λa b c d _ h=>⟨a,b,c,d,rfl,h⟩) aF h
def tJ (e:ĳ) (k:Const->Ĵ->Pos->Ģ):Ģ:=if h:e.ctorIdx=19 then Expr.Constant.elim (motive_1:=λ_=>Ģ) e h k else false
theorem tJ.of{e:ĳ}{k:Const->Ĵ->Pos->Ģ}(h:tJ e k=true):dD λa b c=>e=.Constant a b c/\k a b c=true:=by obtain⟨aF,h⟩:=f4 h;exact Expr.Constant.elim (motive_1:=λe=>∀aF,Expr.Constant.elim (motive_1:=λ_=>Ģ) e aF k=true->dD λa b c=>e=.Constant a b c/\k a b c=true) e aF (λa b c _ h=>⟨a,b,c,rfl,h⟩) aF h
def w7 (e:Stmt) (k:Lm ĳ->ĳ->Pos->Ģ):Ģ:=if h:e.ctorIdx=5 then Stmt.Assign.elim (motive_2:=λ_=>Ģ) e h k else false
theorem w7.of{e:Stmt}{k:Lm ĳ->ĳ->Pos->Ģ}(h:w7 e k=true):dD λa b c=>e=.Assign a b c/\k a b c=true:=by obtain⟨aF,h⟩:=f4 h;exact Stmt.Assign.elim (motive_2:=λe=>∀aF,Stmt.Assign.elim (motive_2:=λ_=>Ģ) e aF k=true->dD λa b c=>e=.Assign a b c/\k a b c=true) e aF (λa b c _ h=>⟨a,b,c,rfl,h⟩) aF h
def sB (e:Stmt) (k:ĳ->Pos->Ģ):Ģ:=if h:e.ctorIdx=24 then Stmt.Expr.elim (motive_2:=λ_=>Ģ) e h k else false
theorem sB.of{e:Stmt}{k:ĳ->Pos->Ģ}(h:sB e k=true):ee λa b=>e=.Expr a b/\k a b=true:=by obtain⟨aF,h⟩:=f4 h;exact Stmt.Expr.elim (motive_2:=λe=>∀aF,Stmt.Expr.elim (motive_2:=λ_=>Ģ) e aF k=true->ee λa b=>e=.Expr a b/\k a b=true) e aF (λa b _ h=>⟨a,b,rfl,h⟩) aF h
def zc (e:Stmt) (k:ĳ->Lm Stmt->Lm Stmt->Pos->Ģ):Ģ:=if h:e.ctorIdx=12 then Stmt.If.elim (motive_2:=λ_=>Ģ) e h k else false
theorem zc.of{e:Stmt}{k:ĳ->Lm Stmt->Lm Stmt->Pos->Ģ}(h:zc e k=true):gV λa b c d=>e=.If a b c d/\k a b c d=true:=by obtain⟨aF,h⟩:=f4 h;exact Stmt.If.elim (motive_2:=λe=>∀aF,Stmt.If.elim (motive_2:=λ_=>Ģ) e aF k=true->gV λa b c d=>e=.If a b c d/\k a b c d=true) e aF (λa b c d _ h=>⟨a,b,c,d,rfl,h⟩) aF h
def xl (e:Stmt) (k:ĳ->ĳ->Lm Stmt->Lm Stmt->Pos->Ģ):Ģ:=if h:e.ctorIdx=9 then Stmt.For.elim (motive_2:=λ_=>Ģ) e h k else false
theorem xl.of{e:Stmt}{k:ĳ->ĳ->Lm Stmt->Lm Stmt->Pos->Ģ}(h:xl e k=true):rT λa b c d g=>e=.For a b c d g/\k a b c d g=true:=by obtain⟨aF,h⟩:=f4 h;exact Stmt.For.elim (motive_2:=λe=>∀aF,Stmt.For.elim (motive_2:=λ_=>Ģ) e aF k=true->rT λa b c d g=>e=.For a b c d g/\k a b c d g=true) e aF (λa b c d g _ h=>⟨a,b,c,d,g,rfl,h⟩) aF h
def wY (e:Stmt) (k:Ĳ ĳ->Pos->Ģ):Ģ:=if h:e.ctorIdx=3 then Stmt.Return.elim (motive_2:=λ_=>Ģ) e h k else false
theorem wY.of{e:Stmt}{k:Ĳ ĳ->Pos->Ģ}(h:wY e k=true):ee λa b=>e=.Return a b/\k a b=true:=by obtain⟨aF,h⟩:=f4 h;exact Stmt.Return.elim (motive_2:=λe=>∀aF,Stmt.Return.elim (motive_2:=λ_=>Ģ) e aF k=true->ee λa b=>e=.Return a b/\k a b=true) e aF (λa b _ h=>⟨a,b,rfl,h⟩) aF h
def fm {aC:Type} (l:Lm aC) (k:aC->Ģ):Ģ:=match l with|[]=>false|a::l=>l.isEmpty&&k a
theorem fm.of{aC:Type}{l:Lm aC}{k:aC->Ģ}(h:fm l k=true):∃a,l=[a]/\k a=true:=by
 induction l with
 |nil=>exact cq h
 |cons a l=>have h:=(gQ.mp h);exact⟨a,by rw[fZ.mp h.1],h.2⟩
def ij {aC:Type} (l:Lm aC) (k:aC->aC->Ģ):Ģ:=match l with|[]=>false|a::l=>fm l<|k a
theorem ij.of{aC:Type}{l:Lm aC}{k:aC->aC->Ģ}(h:ij l k=true):ee λa b=>l=[a,b]/\k a b=true:=by
 induction l using List.casesOn with
 |nil=>exact cq h
 |cons a l=>obtain⟨b,rfl,h⟩:=fm.of (k:=k a) h;exact⟨a,b,rfl,h⟩
def y_ {aC:Type} (l:Lm aC) (k:aC->aC->aC->Ģ):Ģ:=match l with|[]=>false|a::l=>ij l<|k a
theorem y_.of{aC:Type}{l:Lm aC}{k:aC->aC->aC->Ģ}(h:y_ l k=true):dD λa b c=>l=[a,b,c]/\k a b c=true:=by
 induction l using List.casesOn with
 |nil=>exact cq h
 |cons a l=>obtain⟨b,c,rfl,h⟩:=ij.of (k:=k a) h;exact⟨a,b,c,rfl,h⟩
def mX {aC:Type} (o:Ĳ aC) (k:aC->Ģ):Ģ:=match o with|none=>false|some a=>k a
theorem mX.of{aC:Type}{o:Ĳ aC}{k:aC->Ģ}(h:mX o k=true):∃a,o=some a/\k a=true:=by
 induction o with
 |none=>exact cq h
 |some a=>exact⟨a,rfl,h⟩
theorem fa{a b c:Ģ}(h:(a&&b&&c)=true):dY (a=true) (b=true) (c=true):=by induction a<;>induction b<;>induction c<;>first|(exact cq h;done)|exact⟨rfl,rfl,rfl⟩
theorem ch{a b:Ģ}(h:(a&&b)=true):a=true/\b=true:=gQ.mp h
theorem fe{a:Ģ}(h:(!a)=true):a=false:=by induction a<;>first|rfl|exact cq h
theorem n5{a b:Ģ}(h:(a||b)=true):a=true\/b=true:=Bool.or_eq_true_iff.mp h
mutual
def ll:B->B->Ģ
 |.none,b=>b.ctorIdx==0
 |.bool x,b=>zh b λy=>x==y
 |.int x,b=>x8 b λy=>x==y
 |.str x,b=>zl b λy=>x==y
 |.tup l,b=>yE b λm=>yb l m
 |.a9 l,b=>zp b λm=>yT l m
 |.lst _,_=>false
 |.ref _,_=>false
 |.eA _ _,_=>false
def yb:Lm B->Lm B->Ģ
 |[],m=>m.isEmpty
 |a::r,m=>match m with|[]=>false|b::t=>ll a b&&yb r t
def yT:Lm (B×B)->Lm (B×B)->Ģ
 |[],m=>m.isEmpty
 |(a,c)::r,m=>match m with|[]=>false|(b,d)::t=>ll a b&&(ll c d&&yT r t)
end
mutual
theorem nz:∀{a b:B},ll a b=true->a=b
 |.none,b,h=>B.none.elim (motive_1:=λb=>B.none=b) b (eE h) rfl
 |.bool x,b,h=>by obtain⟨y,rfl,h⟩:=zh.of (k:=λy=>x==y) h;rw[eE h]
 |.int x,b,h=>by obtain⟨y,rfl,h⟩:=x8.of (k:=λy=>x==y) h;rw[eE h]
 |.str x,b,h=>by obtain⟨y,rfl,h⟩:=zl.of (k:=λy=>x==y) h;rw[eE h]
 |.tup l,b,h=>by obtain⟨m,rfl,h⟩:=yE.of (k:=λm=>yb l m) h;rw[Hy h]
 |.a9 l,b,h=>by obtain⟨m,rfl,h⟩:=zp.of (k:=λm=>yT l m) h;rw[GZ h]
 |.lst _,_,h=>absurd h eM
 |.ref _,_,h=>absurd h eM
 |.eA _ _,_,h=>absurd h eM
theorem Hy:∀{a b:Lm B},yb a b=true->a=b
 |[],m,h=>(fZ.mp h).symm
 |a::r,[],h=>absurd h eM
 |a::r,b::t,h=>by have h:=ch h;rw[nz h.1,Hy h.2]
theorem GZ:∀{a b:Lm (B×B)},yT a b=true->a=b
 |[],m,h=>(fZ.mp h).symm
 |(a,c)::r,[],h=>absurd h eM
 |(a,c)::r,(b,d)::t,h=>by have h:=ch h;have E:=ch h.2;rw[nz h.1,nz E.1,GZ E.2]
end
structure fr where
 ns:bH
 kinds:List (Str×NameKind)
 fn:Bool
def fr.cx (sp:fr) (x:Str):Ģ:=sp.kinds.lookup x==some .globalImplicit
def fr.b5 (sp:fr) (x:Str):Ģ:=sp.kinds.lookup x==some .local||(sp.fn&&sp.kinds.lookup x==some .cell)
def fr.kD (sp:fr) (x:Str):Ģ:=sp.fn&&sp.kinds.lookup x==some .cell
structure kW where
 pv:List (Str×Nat)
 ph:List (Str×B)
 gl:List (Str×Nat)
 qd:List Str
 an:Nat->Str
def all2 (f:ĳ->a1->Ģ):Lm ĳ->Lm a1->Ģ
 |[],l=>l.isEmpty
 |a::r,l=>match l with|[]=>false|b::t=>f a b&&all2 f r t
def vY (x:Str):Ģ:=x==("__debug__":Str)||x==("__classdict__":Str)
def p8 (sp:fr) (x:Str) (i:Ĵ):Ģ:=sp.ns.lookup x==some i&& !vY x
def HB (v:B):Const->Ģ
 |.int i=>ll v<|.int i
 |.bool b=>ll v<|.bool b
 |.none=>ll v .none
 |.str x=>decide (x.cps.toList.length<=1000)&&ll v (.str x.cps.toList)
 |.float _=>false
 |.complex _ _=>false
 |.bytes _=>false
 |.ellipsis=>false
def HA (k:ĵ->Ģ):Const->Ģ
 |.int i=>k i
 |.bool _=>false
 |.none=>false
 |.str _=>false
 |.float _=>false
 |.complex _ _=>false
 |.bytes _=>false
 |.ellipsis=>false
def vInt (e:ĳ) (k:ĵ->Ģ):Ģ:=tJ e λc _ _=>HA k c
def qS (e:ĳ) (k:ĵ->Ģ):Ģ:=p5 e λo e _=>o==.USub&&vInt e k
def KE (T:kW) (sp:fr) (e:ĳ) (v:B):Ģ:=tJ e (λc _ _=>HB v c)||qS e (λi=>ll v<|.int<|-i)||e9 e λx _=>sp.cx x&& !vY x&&mX (T.ph.lookup x) λw=>ll w v
abbrev j9:=Ģ->fr->ĳ->a1->Ģ
def II (c:a1):Ģ:=vu c λ_=>true
def s6 (f:j9) (sp:fr) (e:ĳ) (bI:a1):Ģ:=vu bI (λi=>e9 e λx _=>p8 sp x i)||(!II bI&&f false sp e bI)
def wV (x:Ĳ ĳ) (i:Ĳ ĵ):Ģ:=match x with
 |none=>i.isNone
 |some e=>mX i λj=>vInt e (λi=>i==j)||qS e λi=> -i==j
def yf (f:j9) (sp:fr):Lm (Ĳ ĳ)->Lm ĳ->Lm (a1×a1)->Ģ
 |[],vs,l=>vs.isEmpty&&l.isEmpty
 |k::ks,vs,l=>match vs with
  |[]=>false
  |v::vs=>(match l with|[]=>false|(a,b)::l=>mX k λk=>f false sp k a&&(f false sp v b&&yf f sp ks vs l))
def pO:hR->Ĳ Str
 |.len=>some "len"|.sorted=>some "sorted"|.tuple=>some "tuple"|.any=>some "any"|.all=>some "all"|.str=>some "str"|.int=>some "int"
 |.ro=>none|.index=>none|.get=>none
def L8 (f:j9) (sp:fr) (b:hR) (l:Lm a1) (e:ĳ):Ģ:=kV e λg args jo pos=>jo.isEmpty&&(match b with
 |.ro=>fm l λc=>ij args λag t=>e9 g λx _=>e9 t λy _=>(x=="isinstance"&&y=="str")&&(sp.cx x&&sp.cx y)&&(!fF ag&&f false sp ag c)
 |.index=>ij l λo c=>fm args λag=>jY g λdB x im=>x=="index"&& !lB dB&&(im.endLine==pos.line)&&(!fF ag&&f false sp dB o&&f false sp ag c)
 |.get=>y_ l λo c d=>ij args λag a8=>jY g λdB x im=>(x=="get"&& !lB dB&&(im.endLine==pos.line))&&(!fF ag&& !fF a8)&&(f false sp dB o&&f false sp ag c&&f false sp a8 d)
 |b=>fm l λc=>fm args λag=>e9 g λx _=>(pO b==some x&&sp.cx x)&&(!fF ag&&f false sp ag c))
def Jh:Lm ĳ->Lm Str
 |[]=>[]
 |e::r=>if h:e.ctorIdx=23 then Expr.Name.elim (motive_1:=λ_=>Lm Str) e h λx _=>x::Jh r else []
def ui (sp:fr):Lm ĳ->Lm Ĵ->Ģ
 |[],l=>l.isEmpty
 |e::r,l=>match l with|[]=>false|i::is=>e9 e λx _=>(sp.ns.lookup x==some i&&sp.b5 x)&&ui sp r is
def Di (sp:fr) (bk:Ģ) (e:ĳ) (aU:Lm Ĵ):Ģ:=match bk with
 |false=>e9 e λx _=>fm aU λi=>sp.ns.lookup x==some i&&sp.b5 x
 |true=>oc e λes _ _=>ui sp es aU
def Z5 (e:ĳ):Lm Str:=if h:e.ctorIdx=23 then Expr.Name.elim (motive_1:=λ_=>Lm Str) e h λx _=>[x]else if h:e.ctorIdx=25 then Expr.Tuple.elim (motive_1:=λ_=>Lm Str) e h λes _ _=>Jh es else []
def j1 (sp:fr) (target:ĳ) (aU:Lm Ĵ) (scope:Scope):fr:=⟨(Z5 target).zip aU++scope.names.filterMap (λp=>if p.2==.free then(sp.ns.lookup p.1).map (p.1,·)else none),scope.names,false⟩
def FX (sp:fr) (bZ:fr) (aU:Lm Ĵ) (scope:Scope):Ģ:=scope.names.all (λy=>y.2 !=.cell)&&(scope.kind==.function)&&scope.names.all (λy=>y.2 !=.local||scope.names.lookup y.1==some .local)&&scope.names.all (λy=>y.2 !=.free||sp.kD y.1)&&bZ.ns.all (λp=>(scope.names.lookup p.1==some .local&&aU.contains p.2)||(scope.names.lookup p.1==some .free&&sp.ns.lookup p.1==some p.2))&&decide ((bZ.ns.map (·.2)).Nodup)
def ym (f:j9) (sp:fr) (e:ĳ) (bI:a1):Ģ:=yl e λgc gens scope _=>xc bI λc bk aU it wb=>fm gens λg=>
 g.is_async==0&&(FX sp (j1 sp g.target aU scope) aU scope&&Di (j1 sp g.target aU scope) bk g.target aU)&&(!qg g.iter&&s6 f sp g.iter it&&f false (j1 sp g.target aU scope) gc c)&&(match g.ifs with
  |[]=>wb.isEmpty
  |i::l=>l.isEmpty&&fm wb λB4=>f true (j1 sp g.target aU scope) i B4)
def sl (es:Lm ĳ):Ģ:=decide<|es.length<=1000
def kf (T:kW) (f:j9) (sp:fr) (e:ĳ) (bI:a1):Ģ:=match bI with
 |.k v=>KE T sp e v
 |.v i=>e9 e λx _=>p8 sp x i
 |.at c a=>jY e λo x _=>(!lB o&&T.an a==x)&&(decide (a<33)&&f false sp o c)
 |.ao c i=>mr e λo s _=>y5 s&&s6 f sp o c&&f false sp s i
 |.aL c a b d=>mr e λo s _=>tw s λlo up st _=>(f false sp o c&&wV lo a)&&(wV up b&&wV st d)
 |.sh c i=>mr e λo s _=>tw s λlo up st _=>mX lo λs=>(up.isNone&&st.isNone)&&(f false sp o c&&f false sp s i)
 |.box c=>sk c λl=>pN e λes _=>all2 (f false sp) es l&&ju es&&sl es
 |.tup l=>oc e λes _ _=>all2 (f false sp) es l&&ju es&&sl es
 |.lst l=>pN e λes _=>all2 (f false sp) es l&&ju es&&sl es
 |.a9 l=>s7 e λks vs _=>(ks.isEmpty&&vs.isEmpty&&l.isEmpty)||(!ks.isEmpty&&yf f sp ks vs l&&decide (ks.length<=15))
 |.bin o a b=>wU e λl gk r _=>gk==A6 o&&f false sp l a&&f false sp r b
 |.not c=>p5 e λo e _=>o==.Not&&f false sp e c
 |.cmp a l=>ss e λle ops mU _=>match l with
  |[]=>false
  |(o,b)::l=>(match l with
   |[]=>fm ops λgk=>fm mU λr=>(gk==lA o&&f false sp le a)&&(s6 f sp r b&& !behindInMarks gk r)
   |(cu,ev)::l=>l.isEmpty&&ij ops λgk Cs=>ij mU λr b0=>((gk==lA o&&Cs==lA cu)&&(f false sp le a&&f false sp r b&&s6 f sp b0 ev))&&(!(o==.isin)&& !(o==.f5)&& !lastMarks [gk,Cs] [r,b0]))
 |.an l=>nW e λo es _=>o==.And&& !es.isEmpty&&all2 (f false sp) es l
 |.or l=>nW e λo es _=>o==.Or&& !es.isEmpty&&all2 (f false sp) es l
 |.ite c t o=>tN e λa b d _=>f true sp a c&&f false sp b t&&f false sp d o
 |.call g l=>kV e λh args jo _=>e9 h λx _=>(jo.isEmpty&&sp.cx x&& !vY x)&&(T.pv.lookup x==some g&&ju args&&all2 (f false sp) args l)
 |.new c l=>kV e λh args jo _=>e9 h λx _=>(jo.isEmpty&&sp.cx x&& !vY x)&&(T.gl.lookup x==some c&&ju args&&all2 (f false sp) args l)
 |.cQ o m l=>kV e λh args jo pos=>jY h λdB x im=>((jo.isEmpty&& !lB dB&&(im.endLine==pos.line))&&(decide (args.length<30)&&ju args&&T.qd[m]?==some x))&&(f false sp dB o&&all2 (f false sp) args l)
 |.bi b l=>L8 f sp b l e
 |.eA a b=>kV e λh args jo _=>e9 h λx _=>(jo.isEmpty&&x=="range"&&sp.cx x)&&(fm args (λag=>(!fF ag&&sR a λv=>ll v<|.int 0)&&f false sp ag b)||ij args λag a8=>(!fF ag&& !fF a8)&&(f false sp ag a&&f false sp a8 b))
 |.comp c bk aU it ifs=>ym f sp e<|.comp c bk aU it ifs
 |.bad=>true
def TU (f:j9) (sp:fr) (e:ĳ) (bI:a1):Ģ:=zz e&&f false sp e bI
def KS (T:kW) (f:j9) (sp:fr) (e:ĳ) (bI:a1):Ģ:=TU f sp e bI||match bI with
 |.bad=>true
 |.not c=>p5 e λo e _=>o==.Not&&f true sp e c
 |.an l=>nW e λo es _=>o==.And&& !es.isEmpty&&all2 (f true sp) es l
 |.or l=>nW e λo es _=>o==.Or&& !es.isEmpty&&all2 (f true sp) es l
 |.ite c t o=>tN e λa b d _=>f true sp a c&&f true sp b t&&f true sp d o
 |.cmp a l=>fm l λp=>ss e λle ops mU _=>fm ops λgk=>fm mU λr=>(gk==lA p.1&&f false sp le a)&&(s6 f sp r p.2&& !behindInMarks gk r)
 |_=>false
def zO (T:kW):Ĵ->j9
 |0=>λ_ _ _ _=>false
 |n+1=>λm sp e bI=>if m then KS T (zO T n) sp e bI else kf T (zO T n) sp e bI
def Ei (f:j9) (sp:fr) (e:ĳ) (bI:a1):Ģ:=sk bI (λl=>pN e λes _=>all2 (f false sp) es l&&ju es&&sl es)||zQ bI λl=>s7 e λks vs _=>ks.isEmpty&&vs.isEmpty&&l.isEmpty
abbrev zq:=fr->Lm Stmt->Lm dS->Ģ
def k3 (st:Stmt) (k:ĳ->ĳ->Ģ):Ģ:=w7 st λaU e _=>fm aU λt=>k t e
def tZ (sp:fr) (st:Stmt) (i:Ĵ) (k:ĳ->Ģ):Ģ:=k3 st λt e=>e9 t λx _=>(sp.ns.lookup x==some i&&sp.b5 x)&&k e
def p1 (st:Stmt) (m:Str) (k:ĳ->ĳ->Ģ):Ģ:=sB st λc _=>kV c λg args jo pm=>jY g λdB x im=>fm args λe=>(jo.isEmpty&&x==m&&(im.endLine==pm.line))&&(!fF e&&k dB e)
def oa (T:kW) (f:j9) (g:zq) (sp:fr) (st:Stmt) (bZ:dS):Ģ:=match bZ with
 |.set i bI=>tZ sp st i λe=>if iD e then ym f sp e bI else f false sp e bI
 |.own i bI=>tZ sp st i λe=>if iD e then ym f sp e bI else Ei f sp e bI
 |.hs l bI=>k3 st λt e=>oc t λes _ _=>ui sp es l&&((!yh e&&f false sp e bI)||oc e λvs _ _=>ij vs λa b=>ij es λx y=>e9 x λx _=>e9 y λy _=>(!fF a&& !fF b&& !(x==y))&&(!(foldedForSure 8 a&&foldedForSure 8 b)&& !(constantsAlone 8 a&&constantsAlone 8 b)&&f false sp e bI))
 |.fX o a bI=>k3 st λt e=>jY t λdB x _=>(T.an a==x&&decide (a<33)&& !iD e)&&(f false sp e bI&&f false sp dB o)
 |.jr o a bI=>k3 st λt e=>jY t λdB x _=>(T.an a==x&&decide (a<33)&& !iD e)&&(Ei f sp e bI&&f false sp dB o)
 |.mW o i bI=>k3 st λt e=>mr t λdB t5 _=>(!iD e&&f false sp e bI)&&(f false sp dB o&&f false sp t5 i)
 |.jS i k bI=>k3 st λt e=>mr t λdB wj _=>e9 dB λx _=>(p8 sp x i&& !iD e)&&(f false sp e bI&&f false sp wj k)
 |.app i bI=>p1 st "append" λdB e=>e9 dB λx _=>p8 sp x i&&f false sp e bI
 |.ext i bI=>p1 st "extend" λdB e=>e9 dB λx _=>p8 sp x i&&f false sp e bI
 |.m5 o bI=>p1 st "append" λdB e=> !lB dB&&f false sp dB o&&f false sp e bI
 |.ex bI=>sB st λe _=> !iD e&&f false sp e bI
 |.iff c t o=>zc st λa b d _=>f true sp a c&&g sp b t&&g sp d o
 |.for bk aU it b=>xl st λtarget iter body G8 _=>(G8.isEmpty&&Di sp bk target aU&& !qg iter)&&(f false sp iter it&&g sp body b)
 |.ret bI=>wY st λo _=>match o with
  |some e=>f false sp e bI
  |none=>sR bI λv=>ll v .none
 |.a4 _=>false
 |.bad=>true
def lJ (c:dS) (k:Ĵ->Ģ):Ģ:=if h:c.ctorIdx=14 then dS.a4.elim (motive_1:=λ_=>Ģ) c h k else false
theorem lJ.of{c:dS}{k:Ĵ->Ģ}(h:lJ c k=true):∃i,c=.a4 i/\k i=true:=by obtain⟨aF,h⟩:=f4 h;exact dS.a4.elim (motive_1:=λe=>∀aF,dS.a4.elim (motive_1:=λ_=>Ģ) e aF k=true->∃i,e=.a4 i/\k i=true) c aF (λa _ h=>⟨a,rfl,h⟩) aF h
def ts (T:kW):Ĵ->zq
 |0=>λ_ _ _=>false
 |n+1=>λsp cR bZ=>match bZ with
  |[]=>cR.isEmpty
  |c::bZ=>lJ c (λi=>sp.ns.any (λp=>sp.ns.lookup p.1==some i)&&ts T n sp cR bZ)||(match cR with
   |[]=>false
   |st::cR=>oa T (zO T n) (ts T n) sp st c&&ts T n sp cR bZ)
set_option tactic.hygienic true
noncomputable abbrev cb.at (b:cb) (sp:fr):cb:={b with ns:=sp.ns,cx:=sp.cx,b5:=sp.b5,kD:=sp.kD}
def tA:hR->Ę
 |.len=>.builtin "len"|.sorted=>.builtin "sorted"|.tuple=>.type "tuple"|.any=>.builtin "any"|.all=>.builtin "all"|.str=>.type "str"|.int=>.type "int"
 |.ro=>.none|.index=>.none|.get=>.none
structure mC(b:cb)(T:kW)(A:Around)(ai:jK):Prop where
 mo:tv ai
 eX:A.handled=none
 a5:A.units+40<cLine
 ok:b.Ok
 an:T.an=b.N.an
 pv:∀x g,T.pv.lookup x=some g->∃a,b.gY x=some (.ref a)/\keepIn b.K (.ref a)=true/\n_ b A (.ref a) (ai g)
 ph:∀x v,T.ph.lookup x=some v->∃V,b.gY x=some V/\bz b.P (fw b.H) v V
 gl:∀x be,T.gl.lookup x=some be->b.gY x=some (.ref<|b.N.cl be)/\keepIn b.K (.ref<|b.N.cl be)=true/\∀f,mi.z4 be=some f->n_ b A (.ref<|b.N.cl be) (IM be<|ai f)
 qd:∀m name,T.qd[m]?=some name->(∀a,b.N.an a≠name)/\∀be f,mi.meths be m=some f->∃F,keepIn b.K (.ref F)=true/\findIn b.K (.ref<|b.N.cl be) "__getattribute__"=some (some<|.builtin "object.__getattribute__")/\findIn b.K (.ref<|b.N.cl be) "__getattr__"=some none/\findIn b.K (.ref<|b.N.cl be) name=some (some<|.ref F)/\typeIn b.K (.ref F)=some (.type "function")/\n_ b A (.ref F) (ai f)
 bi:∀fi nm,pO fi=some nm->b.gY nm=none/\b.kh nm=some (tA fi)
 inst:b.gY "isinstance"=none/\b.kh "isinstance"=some (.builtin "isinstance")
 eA:b.gY "range"=none/\b.kh "range"=some (.type "range")
theorem GH:∀{l:bH} {x y:Str} {i:Ĵ},(l.map (·.2)).Nodup->l.lookup x=some i->l.lookup y=some i->x=y
 |[],_,_,_,_,h,_=>by simp at h
 |(n,j)::r,x,y,i,am,G,E=>by
  rw[fx,hT]at am;rw[kB]at G E;have out:∀z,r.lookup z=some i->i≠j:=λz hz q=>am.1 (by have:=fy (f:=λx:Str×Ĵ=>x.2)<|mem_of_lookup hz;rwa[q]at this);induction bY:x==n with
  |true=>
   rw[bY]at G;cases G;induction br:y==n with
   |true=>rw[fN.mp bY,fN.mp br]
   |false=>rw[br]at E;exact absurd rfl<|out y E
  |false=>
   rw[bY]at G;induction br:y==n with
   |true=>rw[br]at E;cases E;exact absurd rfl<|out x G
   |false=>rw[br]at E;exact GH am.2 G E
theorem cb.Ok.at{b:cb}(aX:b.Ok){sp:fr}(h:(sp.ns.map (·.2)).Nodup):(b.at sp).Ok:=⟨aX.sys,aX.rA,aX.C8,aX.ab,aX.inj,λx y i G E=>GH h G E,aX.iO,aX.m1⟩
def i2(b:cb)(A:Around)(ai:jK)(f:j9):Prop:=∀sp e bI,(sp.ns.map (·.2)).Nodup->(f false sp e bI=true->Good (b.at sp) A e (cj ai bI))/\(f true sp e bI=true->j6 (b.at sp) A e (u9<|cj ai bI))
section
variable{b:cb}{T:kW}{A:Around}{ai:jK}{f:j9}{sp:fr}
theorem uK{x:Str}{i:Ĵ}{pos:Pos}(h:p8 sp x i=true):dY (sp.ns.lookup x=some i) ((x==("__debug__":Str))=false) ((x==("__classdict__":Str))=false):=by replace h:=ch h;have E:=pR.mp<|fe h.2;exact⟨eE h.1,E.1,E.2⟩
theorem vInt.of{e:ĳ}{k:ĵ->Ģ}(h:vInt e k=true):dD λi a p=>e=.Constant (.int i) a p/\k i=true:=by
 replace h:=tJ.of (k:=λc _ _=>HA k c) h;obtain⟨c,a,p,rfl,h⟩:=h;induction c with
 |int i=>exact⟨i,a,p,rfl,h⟩
 |_=>exact absurd h eM
theorem qS.of{e:ĳ}{k:ĵ->Ģ}(h:qS e k=true):gV λi a p q=>e=.UnaryOp .USub (.Constant (.int i) a p) q/\k i=true:=by replace h:=p5.of (k:=λo e _=>o==.USub&&vInt e k) h;obtain⟨o,e,q,rfl,h⟩:=h;replace h:=ch h;obtain⟨i,a,p,rfl,E⟩:=vInt.of h.2;rw[eE h.1];exact⟨i,a,p,q,rfl,E⟩
theorem ZT(F:mC b T A ai)(am:(sp.ns.map (·.2)).Nodup){e:ĳ}{v:B}(h:KE T sp e v=true):Good (b.at sp) A e λ_ J K=>K v J:=by
 replace h:=n5 h;rcases h with h|h
 .replace h:=n5 h;rcases h with h|h
  .replace h:=tJ.of (k:=λc _ _=>HB v c) h;obtain⟨c,a,p,rfl,h⟩:=h;induction c with
   |int i=>rw[nz h];exact good_int
   |bool i=>rw[nz h];exact good_bool
   |none=>rw[nz h];exact good_none
   |str x=>have h:=ch h;rw[nz h.2];exact good_str (aJ (fz h.1)<|by decide)
   |_=>exact absurd h eM
  .replace h:=qS.of h;obtain⟨i,a,p,q,rfl,h⟩:=h;rw[nz h];exact IH good_int
 .replace h:=e9.of (k:=λx _=>sp.cx x&& !vY x&&mX (T.ph.lookup x) λw=>ll w v) h;obtain⟨x,p,rfl,h⟩:=h;replace h:=fa h;obtain⟨G,E,aB⟩:=h;replace aB:=mX.of aB;obtain⟨w,bF,aB⟩:=aB;obtain⟨V,bY,br⟩:=F.ph _ _ bF;exact T2 (F.ok.at am) G bY (pR.mp<|fe E).1<|nz aB▸br
theorem Zo{bI:a1}(h:II bI=false)(r:aK):Up.peek r bI=none:=by induction bI using a1.casesOn<;>first|rfl|exact hK h
theorem wo(H:i2 b A ai f)(am:(sp.ns.map (·.2)).Nodup){e:ĳ}{bI:a1}(h:s6 f sp e bI=true):lc (b.at sp) A e (xG bI<|cj ai bI):=by
 replace h:=n5 h;rcases h with h|h
 .replace h:=vu.of (k:=λi=>e9 e λx _=>p8 sp x i) h;obtain⟨i,rfl,h⟩:=h;replace h:=e9.of (k:=λx _=>p8 sp x i) h;obtain⟨x,p,rfl,h⟩:=h;obtain⟨G,E,aB⟩:=uK (pos:=⟨0,0,0,0⟩) h;clear h;exact N0 G E aB
 .replace h:=ch h;exact Ê ((H sp _ _ am).1 h.2) λr=>Zo (fe h.1) r
theorem w1(H:i2 b A ai f)(am:(sp.ns.map (·.2)).Nodup){es:Lm ĳ}:∀{l:Lm a1},ju es=true->all2 (f false sp) es l=true->k0 (b.at sp) A es (k_ ai l)/\(es=[]->∀r J K,k_ ai l r J K->K [] J):=by
 induction es with
 |nil=>intro l _ h;obtain rfl:=fZ.mp h;exact⟨Uw,λ_ _ _ _ e=>e⟩
 |cons e es ar=>
  intro l aM h;unfold ju at aM;rw[tG,eW,j2]at aM;induction l using List.casesOn with
  |nil=>exact absurd h eM
  |cons c l=>have h:=ch h;exact⟨RM aM.1 ((H sp _ _ am).1 h.1) (ar aM.2 h.2).1,λq=>nomatch q⟩
theorem RF{es:Lm ĳ}(h:sl es=true):es.length<=a3:=aJ (fz h) (by decide)
theorem Cu{x:Ĳ ĳ}{i:Ĳ ĵ}{c:cb}(h:wV x i=true):qA c A x i:=by
 induction x with
 |none=>
  induction i with
  |none=>exact .none
  |some i=>exact absurd h eM
 |some e=>
  replace h:=mX.of (k:=λj=>vInt e (λi=>i==j)||qS e λi=> -i==j) h;obtain⟨j,rfl,h⟩:=h;replace h:=n5 h;rcases h with h|h
  .replace h:=vInt.of h;obtain⟨i,a,p,rfl,h⟩:=h;rw[<-eE h];exact .some good_int
  .replace h:=qS.of h;obtain⟨i,a,p,q,rfl,h⟩:=h;rw[<-eE h];exact .some<|IH good_int
theorem Ou(H:i2 b A ai f)(am:(sp.ns.map (·.2)).Nodup){ks:Lm (Ĳ ĳ)}:∀{vs:Lm ĳ} {l:Lm (a1×a1)},yf f sp ks vs l=true->dY (t_ (b.at sp) A ks vs<|za ai l) (ks.all (·.isSome)=true) (ks.length=vs.length):=by
 induction ks with
 |nil=>intro vs l h;have h:=ch h;obtain rfl:=fZ.mp h.1;obtain rfl:=fZ.mp h.2;exact⟨SF,rfl,rfl⟩
 |cons k ks ar=>
  intro vs l h;induction vs using List.casesOn with
  |nil=>exact absurd h eM
  |cons v vs=>induction l using List.casesOn with
   |nil=>exact absurd h eM
   |cons p l=>obtain⟨k,rfl,h⟩:=mX.of (k:=λk=>f false sp k p.1&&(f false sp v p.2&&yf f sp ks vs l)) h;have h:=ch h;have aR:=ch h.2;obtain⟨g,G,E⟩:=ar aR.2;exact⟨S3 ((H sp _ _ am).1 h.1) ((H sp _ _ am).1 aR.1) g,G,bX Nat.succ E⟩
end
set_option tactic.hygienic false
section
variable{b:cb}{T:kW}{A:Around}{ai:jK}{f:j9}{sp:fr}
theorem ob.any{fi:hR}{v:B}{p:Prop}(h:ob fi v p):p:=by
 induction fi with
 |index=>exact(kd.dr h).choose_spec.2
 |get=>exact(IS h).choose_spec.2
 |_=>exact h
theorem kc.weak{c:cb}{t:Env->Sem Ę}{w qW:dm}(g:kc c A t w)(h:∀r J K,qW r J K->w r J K):kc c A t qW:=λO s ac C r J k K Q I F e bb=>g O s ac C r J k K Q I F (h _ _ _ e) bb
theorem Yd(fi:hR):(match pO fi with|some nm=>(nm==("__debug__":Str))|none=>false)=false:=by induction fi using hR.casesOn<;>rfl
theorem NH{c:cb}(aX:c.Ok)(eX:A.handled=none)(fi:hR):cond (pO fi).isNone True (((∃id,tA fi=.builtin id)\/∃T,tA fi=.type T)/\oK c A (tA fi) (n3 fi)):=by
 induction fi using hR.casesOn with
 |len=>exact⟨.inl ⟨_,rfl⟩,Rd aX⟩
 |sorted=>exact⟨.inl ⟨_,rfl⟩,NG aX eX⟩
 |tuple=>exact⟨.inr ⟨_,rfl⟩,OY⟩
 |any=>exact⟨.inl ⟨_,rfl⟩,Y5 aX eX⟩
 |all=>exact⟨.inl ⟨_,rfl⟩,V1 aX eX⟩
 |str=>exact⟨.inr ⟨_,rfl⟩,S_⟩
 |int=>exact⟨.inr ⟨_,rfl⟩,Wr⟩
 |_=>trivial
theorem Ps(F:mC b T A ai)(H:i2 b A ai f)(am:(sp.ns.map (·.2)).Nodup){g:ĳ}{args:Lm ĳ}{pos:Pos}{fi:hR}{l:Lm a1}(h:(fm l λc=>fm args λag=>e9 g λx _=>(pO fi==some x&&sp.cx x)&&(!fF ag&&f false sp ag c))=true):Good (b.at sp) A (.Call g args [] pos) (cj ai<|.bi fi l):=by have aX:=F.ok.at am;replace h:=fm.of (l:=l) h;obtain⟨bI,rfl,h⟩:=h;replace h:=fm.of (l:=args) h;obtain⟨ag,rfl,h⟩:=h;replace h:=e9.of (k:=λx _=>(pO fi==some x&&sp.cx x)&&(!fF ag&&f false sp ag bI)) h;obtain⟨x,p,rfl,h⟩:=h;replace h:=ch h;have a:=ch h.1;have c:=ch h.2;have aF:=eE a.1;obtain⟨k7,pS⟩:=F.bi _ _ aF;have bg:=Yd fi;have ok:=NH aX F.eX fi;rw[aF]at bg ok;exact(ZP aX a.2 k7 pS bg (fe c.1) ((H sp _ _ am).1 c.2) ok.1 ok.2).weak λr J K h=>gE F.mo bI r J _ _ (λv J h=>ob.any h)<|show cj ai bI r J (Mw fi (k_ ai []) r K)from h
theorem RL(F:mC b T A ai)(H:i2 b A ai f)(am:(sp.ns.map (·.2)).Nodup){e:ĳ}{fi:hR}{l:Lm a1}(h:L8 f sp fi l e=true):Good (b.at sp) A e (cj ai<|.bi fi l):=by
 have aX:=F.ok.at am;replace h:=kV.of h;obtain⟨g,args,jo,pos,rfl,h⟩:=h;replace h:=ch h;cases fZ.mp h.1;replace h:=h.2;induction fi with
 |ro=>
  replace h:=fm.of (l:=l) h;obtain⟨c,rfl,h⟩:=h;replace h:=ij.of (l:=args) h;obtain⟨ag,t,rfl,h⟩:=h;replace h:=e9.of (e:=g) h;obtain⟨x,p,rfl,h⟩:=h;replace h:=e9.of (e:=t) h;obtain⟨y,q,rfl,h⟩:=h;replace h:=fa h;obtain⟨G,E,aB⟩:=h;have a:=ch G;have c:=ch E;have d:=ch aB;rcases eE a.1 with rfl;rcases eE a.2 with rfl
  obtain⟨k7,pS⟩:=F.bi .str _ rfl;exact(Qk aX c.1 F.inst.1 F.inst.2 c.2 k7 pS (fe d.1)<|(H sp _ _ am).1 d.2)
 |index=>
  replace h:=ij.of (l:=l) h;obtain⟨o,c,rfl,h⟩:=h;replace h:=fm.of (l:=args) h;obtain⟨ag,rfl,h⟩:=h;replace h:=jY.of (e:=g) h;obtain⟨dB,x,im,rfl,h⟩:=h;replace h:=ch h;obtain⟨G,E,aB⟩:=fa h.1;obtain⟨ba,cO,d2⟩:=fa h.2;rcases eE G with rfl
  exact(SD F.a5 (fe E) (by simpa using aB) (fe ba) ((H sp _ _ am).1 cO)<|(H sp _ _ am).1 d2)
 |get=>
  replace h:=y_.of (l:=l) h;obtain⟨o,c,d,rfl,h⟩:=h;replace h:=ij.of (l:=args) h;obtain⟨ag,a8,rfl,h⟩:=h;replace h:=jY.of (e:=g) h;obtain⟨dB,x,im,rfl,h⟩:=h;replace h:=fa h;obtain⟨e0,fS,kM⟩:=h;obtain⟨G,E,aB⟩:=fa e0;clear e0;have cT:=ch fS;obtain⟨ba,cO,d2⟩:=fa kM;clear kM;rcases eE G with rfl
  exact(VN aX F.a5 (fe E) (by simpa using aB) (fe cT.1) (fe cT.2) ((H sp _ _ am).1 ba) ((H sp _ _ am).1 cO)<|(H sp _ _ am).1 d2)
 |_=>exact Ps F H am h
theorem xd{c:cb}(wt:c.ns=sp.ns)(wL:c.b5=sp.b5):∀{es:Lm ĳ} {is:Lm Ĵ},ui sp es is=true->oY c es is
 |[],[],_=>.nil
 |[],_::_,h=>absurd h eM
 |e::es,[],h=>absurd h eM
 |e::es,i::is,h=>by replace h:=e9.of (k:=λx _=>(sp.ns.lookup x==some i&&sp.b5 x)&&ui sp es is) h;obtain⟨x,p,rfl,h⟩:=h;replace h:=ch h;have a:=ch h.1;exact .cons (by rw[wt];exact eE a.1) (by rw[wL];exact a.2)<|xd wt wL h.2
theorem JU{c:cb}(wt:c.ns=sp.ns)(wL:c.b5=sp.b5){bk:Ģ}{e:ĳ}{aU:Lm Ĵ}(h:Di sp bk e aU=true):ms c bk e aU:=by
 induction bk with
 |false=>replace h:=e9.of (e:=e) h;obtain⟨x,p,rfl,h⟩:=h;replace h:=fm.of (l:=aU) h;obtain⟨i,rfl,h⟩:=h;replace h:=ch h;exact .one (by rw[wt];exact eE h.1) (by rw[wL];exact h.2)
 |true=>replace h:=oc.of (e:=e) h;obtain⟨es,k,p,rfl,h⟩:=h;exact .tup<|xd wt wL h
structure À(c:cb)(A:Around)(e:Expr)(w:dm):Prop where
 good:Good c A e w
 Qh:∀{x:Str} {eB oO:Pos} {i:Nat},c.ns.lookup x=some i->c.b5 x=true->f6 c A (.Assign [.Name x eB] e oO) λr J K=>w r J<|pL i r K
 PJ:∀{x:Str} {eB oO:Pos} {i:Nat},c.ns.lookup x=some i->c.b5 x=true->f6 c A (.Assign [.Name x eB] e oO) λr J K=>w r J<|u5 i r K
theorem Dy(F:mC b T A ai)(H:i2 b A ai f)(am:(sp.ns.map (·.2)).Nodup){e:ĳ}{bI:a1}(h:ym f sp e bI=true):À (b.at sp) A e (cj ai bI):=by
 replace h:=yl.of (e:=e) h;obtain⟨gc,gens,scope,pos,rfl,h⟩:=h;replace h:=xc.of (e:=bI) h;obtain⟨c,bk,aU,it,wb,rfl,h⟩:=h;replace h:=fm.of (l:=gens) h;obtain⟨⟨target,iter,ifs,as⟩,rfl,h⟩:=h;replace h:=ch h;have d2:=h.2;obtain⟨aF,G,aB⟩:=fa h.1;replace G:=ch G;have E:=G.2;replace G:=G.1;replace aB:=fa aB;obtain⟨aB,ba,cO⟩:=aB;replace aB:=fe aB;rcases eE aF with rfl
 unfold FX at G;simp only[eW,fN,jD,d6,Ao,mx,ne_eq]at G;obtain⟨⟨⟨⟨⟨fH,gy⟩,ke⟩,D3⟩,Ew⟩,Ak⟩:=G;have gF:o7 ((b.at sp).comp (j1 sp target aU scope).ns (j1 sp target aU scope).cx (j1 sp target aU scope).b5) A ifs (sA ai wb):=by
  induction ifs using List.casesOn with
  |nil=>cases fZ.mp d2;exact Y7
  |cons i l=>replace d2:=ch d2;cases fZ.mp d2.1;obtain⟨B4,rfl,fp⟩:=fm.of (l:=wb) d2.2;exact Zg<|(H (j1 sp target aU scope) i B4 Ak).2 fp
 have K:pn (b.at sp) (j1 sp target aU scope).ns (j1 sp target aU scope).cx (j1 sp target aU scope).b5 scope aU:={ok:=F.ok.at (sp:=⟨(j1 sp target aU scope).ns,_,_⟩) Ak,EO:=λy a2=>fH y a2,kind:=gy,yV:=λy a2 e=>(ke y a2).elim (λh=>absurd e h) λh=>h,free:=λy a2 e=>(D3 y a2).elim (λh=>absurd e h) λh=>h,vars:=λx i ay=>(Ew (x,i)<|mem_of_lookup ay).imp (λh=>⟨h.1,by simpa using h.2⟩) id,gl:=λx ay=>(by have g_:(scope.names.lookup x==some .globalImplicit)=true:=ay;simpa using g_),st:=λx ay=>(by have g_:(scope.names.lookup x==some .local||(false&&scope.names.lookup x==some .cell))=true:=ay;simpa using g_)};have hl:=JU (c:=(b.at sp).comp (j1 sp target aU scope).ns (j1 sp target aU scope).cx (j1 sp target aU scope).b5) rfl rfl E;have ge:=(H _ _ _ Ak).1 cO;have gl:=wo H am ba;have aX:=F.ok.at am;exact⟨z7 aX<|A1 aX K F.eX hl gF ge gl aB,QK aX K F.eX hl gF ge gl aB,Uz aX K F.eX hl gF ge gl aB⟩
end
section
variable{b:cb}{T:kW}{A:Around}{ai:jK}{f:j9}{sp:fr}
theorem VT(H:i2 b A ai f)(am:(sp.ns.map (·.2)).Nodup){pos:Pos}{es:Lm ĳ}:∀{l:Lm a1},es≠[]->all2 (f false sp) es l=true->kc (b.at sp) A (λac=>boolOp pos .And<|evalEach es ac) (qJ ai l):=by
 induction es with
 |nil=>exact λh _=>absurd rfl h
 |cons e es ar=>
  intro l _ h;cases l with
  |nil=>exact absurd h eM
  |cons c l=>
   have h:=ch h;have g:=(H sp _ _ am).1 h.1;cases es with
   |nil=>obtain rfl:=fZ.mp h.2;exact Ñ g
   |cons y es=>cases l with
    |nil=>exact absurd h.2 eM
    |cons d l=>exact R0 g<|ar (List.cons_ne_nil _ _) h.2
theorem X2(H:i2 b A ai f)(am:(sp.ns.map (·.2)).Nodup){pos:Pos}{es:Lm ĳ}:∀{l:Lm a1},es≠[]->all2 (f false sp) es l=true->kc (b.at sp) A (λac=>boolOp pos .Or<|evalEach es ac) (qF ai l):=by
 induction es with
 |nil=>exact λh _=>absurd rfl h
 |cons e es ar=>
  intro l _ h;cases l with
  |nil=>exact absurd h eM
  |cons c l=>
   have h:=ch h;have g:=(H sp _ _ am).1 h.1;cases es with
   |nil=>obtain rfl:=fZ.mp h.2;exact X_ g
   |cons y es=>cases l with
    |nil=>exact absurd h.2 eM
    |cons d l=>exact ZN g<|ar (List.cons_ne_nil _ _) h.2
theorem xy{es:Lm ĳ}{l:Lm a1}(H:i2 b A ai f)(am:(sp.ns.map (·.2)).Nodup)(h:(all2 (f false sp) es l&&ju es&&sl es)=true):k0 (b.at sp) A es (k_ ai l)/\es.length<=a3:=by obtain⟨G,E,aB⟩:=fa h;exact⟨(w1 H am E G).1,RF aB⟩
theorem RB{F:Ę}{o:Ĳ Ĵ}{g:Ĵ->q3}(h:∀f,o=some f->n_ b A F (g f)):n_ b A F λvs J K=>ax o λf=>g f vs J K:=λs C J vs Vs K R I af e k=>ax.dr e λf q e=>h f q s C J vs Vs K R I af e k
section
variable(F:mC b T A ai)(H:i2 b A ai f)(am:(sp.ns.map (·.2)).Nodup)
include F H am
theorem WT{e:ĳ}{c:a1}{a:Ĵ}(h:kf T f sp e (.at c a)=true):Good (b.at sp) A e (cj ai<|.at c a):=by replace h:=jY.of (e:=e) h;obtain⟨o,x,p,rfl,h⟩:=h;replace h:=ch h;obtain⟨G,E⟩:=h;replace G:=ch G;replace E:=ch E;exact Õ (F.ok.at am) (fe G.1) (fz E.1) (by show b.N.an _=_;rw[<-F.an];exact eE G.2)<|(H sp _ _ am).1 E.2
theorem WI{e:ĳ}{c i:a1}(h:kf T f sp e (.ao c i)=true):Good (b.at sp) A e (cj ai<|.ao c i):=by replace h:=mr.of (e:=e) h;obtain⟨o,s,p,rfl,h⟩:=h;obtain⟨G,E,aB⟩:=fa h;clear h;exact ZQ (by have:=F.a5;exact iX ‹_›) G (wo H am E)<|(H sp _ _ am).1 aB
theorem RZ{e:ĳ}{c:a1}{x y z:Ĳ ĵ}(h:kf T f sp e (.aL c x y z)=true):Good (b.at sp) A e (cj ai<|.aL c x y z):=by replace h:=mr.of (e:=e) h;obtain⟨o,s,p,rfl,h⟩:=h;replace h:=tw.of (e:=s) h;obtain⟨lo,up,st,q,rfl,h⟩:=h;replace h:=ch h;obtain⟨G,E⟩:=h;replace G:=ch G;replace E:=ch E;exact V3 ((H sp _ _ am).1 G.1) (Cu G.2) (Cu E.1)<|Cu E.2
theorem Xl{e:ĳ}{c i:a1}(h:kf T f sp e (.sh c i)=true):Good (b.at sp) A e (cj ai<|.sh c i):=by replace h:=mr.of (e:=e) h;obtain⟨o,s,p,rfl,h⟩:=h;replace h:=tw.of (e:=s) h;obtain⟨lo,up,st,q,rfl,h⟩:=h;replace h:=mX.of (o:=lo) h;obtain⟨s,rfl,h⟩:=h;replace h:=ch h;obtain⟨G,E⟩:=h;replace G:=ch G;replace E:=ch E;cases pU.mp G.1;cases pU.mp G.2;exact Xd ((H sp _ _ am).1 E.1)<|(H sp _ _ am).1 E.2
theorem PZ{e:ĳ}{c:a1}(h:kf T f sp e (.box c)=true):Good (b.at sp) A e (cj ai<|.box c):=by replace h:=sk.of (e:=c) h;obtain⟨l,rfl,h⟩:=h;replace h:=pN.of (e:=e) h;obtain⟨es,p,rfl,h⟩:=h;obtain⟨g,ah⟩:=xy H am h;exact MH g ah
theorem Vo{e:ĳ}{l:Lm (a1×a1)}(h:kf T f sp e (.a9 l)=true):Good (b.at sp) A e (cj ai<|.a9 l):=by
 replace h:=s7.of (e:=e) h;obtain⟨ks,vs,p,rfl,h⟩:=h;replace h:=n5 h;rcases h with h|h
 .obtain⟨G,E,aB⟩:=fa h;clear h;cases fZ.mp G;cases fZ.mp E;cases fZ.mp aB;exact z7 (F.ok.at am)<|J5<|F.ok.at am
 .obtain⟨fH,gy,ke⟩:=fa h;clear h;obtain⟨g,G,E⟩:=Ou H am gy;exact Tz (by have:=F.a5;exact iX ‹_›) (F.ok.at am).sys G E (by rintro rfl;exact cq fH) (fz ke) g
theorem Nb{e:ĳ}{o:qo}{x y:a1}(h:kf T f sp e (.bin o x y)=true):Good (b.at sp) A e (cj ai<|.bin o x y):=by
 replace h:=wU.of (e:=e) h;obtain⟨l,gk,r,p,rfl,h⟩:=h;obtain⟨aF,G,E⟩:=fa h;clear h;rcases eE aF with rfl
 exact Ql ((H sp _ _ am).1 G) ((H sp _ _ am).1 E)<|XI _
theorem R3{e:ĳ}{c:a1}{l:Lm (lH×a1)}(h:kf T f sp e (.cmp c l)=true):Good (b.at sp) A e (cj ai<|.cmp c l):=by
 replace h:=ss.of (e:=e) h;obtain⟨le,ops,mU,p,rfl,h⟩:=h;induction l using List.casesOn with
 |nil=>exact absurd h eM
 |cons p l=>
 obtain⟨o,d⟩:=p;induction l using List.casesOn with
 |nil=>
  replace h:=fm.of (l:=ops) h;obtain⟨gk,rfl,h⟩:=h;replace h:=fm.of (l:=mU) h;obtain⟨r,rfl,h⟩:=h;replace h:=ch h;obtain⟨G,E⟩:=h;replace G:=ch G;replace E:=ch E;rcases eE G.1 with rfl
  exact U' ((H sp _ _ am).1 G.2) (zD F.a5 (F.ok.at am).sys _) (wo H am E.1)<|fe E.2
 |cons p l=>obtain⟨cu,nc⟩:=p;replace h:=ch h;cases fZ.mp h.1;replace h:=h.2;replace h:=ij.of (l:=ops) h;obtain⟨gk,Cs,rfl,h⟩:=h;replace h:=ij.of (l:=mU) h;obtain⟨r,b0,rfl,h⟩:=h;replace h:=ch h;obtain⟨G,E⟩:=h;replace G:=ch G;obtain⟨aF,G⟩:=G;replace aF:=ch aF;obtain⟨fH,gy,ke⟩:=fa G;clear G;obtain⟨ba,cO,d2⟩:=fa E;clear E;rcases eE aF.1 with rfl;rcases eE aF.2 with rfl;exact S5 ((H sp _ _ am).1 fH) (zD F.a5 (F.ok.at am).sys _) ((H sp _ _ am).1 gy) (wo H am ke) (zD F.a5 (F.ok.at am).sys _) ⟨(by rintro rfl;exact cq ba),(by rintro rfl;exact cq cO)⟩<|fe d2
theorem Ù{e:ĳ}{c x y:a1}(h:kf T f sp e (.ite c x y)=true):Good (b.at sp) A e (cj ai<|.ite c x y):=by replace h:=tN.of (e:=e) h;obtain⟨u,v,w,p,rfl,h⟩:=h;obtain⟨G,E,aB⟩:=fa h;clear h;exact YH ((H sp _ _ am).2 G) ((H sp _ _ am).1 E)<|(H sp _ _ am).1 aB
theorem Ul{e:ĳ}{g:Ĵ}{l:Lm a1}(h:kf T f sp e (.call g l)=true):Good (b.at sp) A e (cj ai<|.call g l):=by replace h:=kV.of (e:=e) h;obtain⟨c,args,jo,p,rfl,h⟩:=h;replace h:=e9.of (e:=c) h;obtain⟨x,q,rfl,h⟩:=h;replace h:=ch h;obtain⟨G,E⟩:=h;replace G:=fa G;obtain⟨aF,G,mu⟩:=G;obtain⟨aB,ba,cO⟩:=fa E;clear E;cases fZ.mp aF;obtain⟨a,bY,br,dM⟩:=F.pv _ _<|eE aB;obtain⟨g,ah⟩:=w1 H am ba cO;exact Hv (F.ok.at am) G bY (pR.mp<|fe mu).1 ba br g (ah) dM
theorem MW{e:ĳ}{c:Ĵ}{l:Lm a1}(h:kf T f sp e (.new c l)=true):Good (b.at sp) A e (cj ai<|.new c l):=by replace h:=kV.of (e:=e) h;obtain⟨d,args,jo,p,rfl,h⟩:=h;replace h:=e9.of (e:=d) h;obtain⟨x,q,rfl,h⟩:=h;replace h:=ch h;obtain⟨G,E⟩:=h;replace G:=fa G;obtain⟨aF,G,mu⟩:=G;obtain⟨aB,ba,cO⟩:=fa E;clear E;cases fZ.mp aF;obtain⟨bY,br,dM⟩:=F.gl _ _<|eE aB;obtain⟨g,ah⟩:=w1 H am ba cO;exact Hv (F.ok.at am) G bY (pR.mp<|fe mu).1 ba br g ah<|RB dM
theorem Sw{e:ĳ}{o:a1}{m:Ĵ}{l:Lm a1}(h:kf T f sp e (.cQ o m l)=true):Good (b.at sp) A e (cj ai<|.cQ o m l):=by replace h:=kV.of (e:=e) h;obtain⟨d,args,jo,p,rfl,h⟩:=h;replace h:=jY.of (e:=d) h;obtain⟨dB,x,im,rfl,h⟩:=h;replace h:=ch h;obtain⟨G,E⟩:=h;replace G:=ch G;obtain⟨aF,G⟩:=G;obtain⟨Ef,fH,gy⟩:=fa aF;clear aF;obtain⟨aB,ba,cO⟩:=fa G;clear G;replace E:=ch E;cases fZ.mp Ef;obtain⟨bY,br⟩:=F.qd _ _<|eE cO;obtain⟨g,ah⟩:=w1 H am ba E.2;exact OA (cQ:=λbe=>mi.meths be _) (gB:=ai) (F.ok.at am) (fe fH) (fz aB) (by simpa using gy) ba bY ((H sp _ _ am).1 E.1) g (ah) br
theorem W1{e:ĳ}{x y:a1}(h:kf T f sp e (.eA x y)=true):Good (b.at sp) A e (cj ai<|.eA x y):=by
 replace h:=kV.of (e:=e) h;obtain⟨d,args,jo,p,rfl,h⟩:=h;replace h:=e9.of (e:=d) h;obtain⟨z,q,rfl,h⟩:=h;replace h:=ch h;obtain⟨G,E⟩:=h;replace G:=fa G;obtain⟨aF,aB,ba⟩:=G;cases fZ.mp aF;rcases eE aB with rfl
 replace E:=n5 E;rcases E with h|h
 .replace h:=fm.of (l:=args) h;obtain⟨ag,rfl,h⟩:=h;replace h:=ch h;obtain⟨G,E⟩:=h;replace G:=ch G;obtain⟨G,aB⟩:=G;replace aB:=sR.of (e:=x) aB;obtain⟨v,rfl,aB⟩:=aB;rcases nz aB with rfl
  exact Sp (F.ok.at am) ba F.eA.1 F.eA.2 (fe G)<|(H sp _ _ am).1 E
 .replace h:=ij.of (l:=args) h;obtain⟨ag,a8,rfl,h⟩:=h;replace h:=ch h;obtain⟨G,E⟩:=h;replace G:=ch G;replace E:=ch E;exact NT (F.ok.at am) ba F.eA.1 F.eA.2 (fe G.1) (fe G.2) ((H sp _ _ am).1 E.1)<|(H sp _ _ am).1 E.2
end
theorem TV(F:mC b T A ai)(H:i2 b A ai f)(am:(sp.ns.map (·.2)).Nodup){e:ĳ}{bI:a1}(h:kf T f sp e bI=true):Good (b.at sp) A e (cj ai bI):=by
 induction bI using a1.casesOn with
 |k v=>exact ZT F am h
 |v i=>replace h:=e9.of (e:=e) h;obtain⟨x,p,rfl,h⟩:=h;obtain⟨G,E,aB⟩:=uK (pos:=⟨0,0,0,0⟩) h;clear h;exact Ü G E aB
 |«at» c a=>exact WT F H am h
 |ao=>exact WI F H am h
 |aL=>exact RZ F H am h
 |sh=>exact Xl F H am h
 |box=>exact PZ F H am h
 |tup l=>replace h:=oc.of (e:=e) h;obtain⟨es,k,p,rfl,h⟩:=h;obtain⟨g,ah⟩:=xy H am h;exact Np g ah
 |lst l=>replace h:=pN.of (e:=e) h;obtain⟨es,p,rfl,h⟩:=h;obtain⟨g,ah⟩:=xy H am h;exact Oe g ah
 |a9=>exact Vo F H am h
 |bin=>exact Nb F H am h
 |not c=>
  replace h:=p5.of (e:=e) h;obtain⟨o,e,p,rfl,h⟩:=h;replace h:=ch h;rcases eE h.1 with rfl
  exact Tp<|(H sp _ _ am).1 h.2
 |cmp=>exact R3 F H am h
 |an l=>replace h:=nW.of (e:=e) h;obtain⟨o,es,p,rfl,h⟩:=h;obtain⟨aF,G,E⟩:=fa h;clear h;cases eE aF;exact Kc<|VT H am (by rintro rfl;exact cq G) E
 |or l=>replace h:=nW.of (e:=e) h;obtain⟨o,es,p,rfl,h⟩:=h;obtain⟨aF,G,E⟩:=fa h;clear h;cases eE aF;exact Kc<|X2 H am (by rintro rfl;exact cq G) E
 |ite=>exact Ù F H am h
 |call=>exact Ul F H am h
 |new=>exact MW F H am h
 |cQ=>exact Sw F H am h
 |bi=>exact RL F H am h
 |eA=>exact W1 F H am h
 |comp=>exact(Dy F H am h).good
 |bad=>exact λO s ac C r J k K Q I F e h=>e.elim
def Bq(ai:jK):Lm a1->hg
 |[]=>λ_ J K=>K true J
 |c::l=>λr J K=>u9 (cj ai c) r J λb J=>k1 (Bq ai l r J K) (K false J) b
def EI(ai:jK):Lm a1->hg
 |[]=>λ_ J K=>K false J
 |c::l=>λr J K=>u9 (cj ai c) r J λb J=>k1 (K true J) (EI ai l r J K) b
theorem H2{o:Ĳ Ģ}{p q:Prop}{k:Ģ->Prop}(dU:k true->p)(a7:k false->q)(h:ax o k):ax o λb=>k1 p q b:=by
 induction o with
 |none=>exact h
 |some b=>induction b using Bool.casesOn;exact a7 h;exact dU h
theorem N'{o:Ĳ Ģ}{p et:Prop}{k:Ģ->Prop}(f:p->et)(h:bh o p (ax o k)):ax o λb=>k1 et (k false) b:=by
 induction o with
 |none=>exact h
 |some b=>induction b using Bool.casesOn;exact h;exact f h
theorem ï{o:Ĳ Ģ}{p et:Prop}{k:Ģ->Prop}(f:p->et)(h:bh o (ax o k) p):ax o λb=>k1 (k true) et b:=by
 induction o with
 |none=>exact h
 |some b=>induction b using Bool.casesOn;exact f h;exact h
theorem PF(cf:tv ai){l:Lm a1}:∀{r:aK} {J:St} {K:Ģ->St->Prop},qJ ai l r J (λv J=>ax (jt v) λb=>K b J)->Bq ai l r J K:=by
 induction l with
 |nil=>exact λh=>h.elim
 |cons c l ar=>
  intro r J K h;induction l using List.casesOn with
  |nil=>exact gE cf c _ _ _ _ (λv J h=>H2 id id h) h
  |cons d l=>exact gE cf c _ _ _ _ (λv J h=>N' ar h) h
theorem NK(cf:tv ai){l:Lm a1}:∀{r:aK} {J:St} {K:Ģ->St->Prop},qF ai l r J (λv J=>ax (jt v) λb=>K b J)->EI ai l r J K:=by
 induction l with
 |nil=>exact λh=>h.elim
 |cons c l ar=>
  intro r J K h;induction l using List.casesOn with
  |nil=>exact gE cf c _ _ _ _ (λv J h=>H2 id id h) h
  |cons d l=>exact gE cf c _ _ _ _ (λv J h=>ï ar h) h
theorem N9(H:i2 b A ai f)(am:(sp.ns.map (·.2)).Nodup){es:Lm ĳ}:∀{l:Lm a1},all2 (f true sp) es l=true->pl (b.at sp) A .And es (Bq ai l):=by
 induction es with
 |nil=>intro l h;obtain rfl:=fZ.mp h;exact Qu
 |cons e es ar=>
  intro l h;cases l with
  |nil=>exact absurd h eM
  |cons c l=>have h:=ch h;exact Sv ((H sp _ _ am).2 h.1)<|ar h.2
theorem X3(H:i2 b A ai f)(am:(sp.ns.map (·.2)).Nodup){es:Lm ĳ}:∀{l:Lm a1},all2 (f true sp) es l=true->pl (b.at sp) A .Or es (EI ai l):=by
 induction es with
 |nil=>intro l h;obtain rfl:=fZ.mp h;exact Wy
 |cons e es ar=>
  intro l h;cases l with
  |nil=>exact absurd h eM
  |cons c l=>have h:=ch h;exact Ua ((H sp _ _ am).2 h.1)<|ar h.2
theorem pV.weak{c:cb}{t:Env->Sem Ģ}{w qW:hg}(g:pV c A t w)(h:∀r J K,qW r J K->w r J K):pV c A t qW:=λO s ac C r J k K Q I F e bb=>g O s ac C r J k K Q I F (h _ _ _ e) bb
theorem Ry(F:mC b T A ai)(H:i2 b A ai f)(am:(sp.ns.map (·.2)).Nodup){e:ĳ}{bI:a1}(h:KS T f sp e bI=true):j6 (b.at sp) A e (u9<|cj ai bI):=by
 replace h:=n5 h;rcases h with h|h
 .replace h:=ch h;exact QR h.1<|(H sp _ _ am).1 h.2
 induction bI using a1.casesOn with
 |bad=>exact λO s ac C r J k K Q I F e h=>e.elim
 |not c=>
  replace h:=p5.of (e:=e) h;obtain⟨o,e,p,rfl,h⟩:=h;replace h:=ch h;obtain⟨aF,h⟩:=h;rcases eE aF with rfl
  exact SO<|(H sp _ _ am).2 h
 |an l=>
  replace h:=nW.of (e:=e) h;obtain⟨o,es,p,rfl,h⟩:=h;obtain⟨aF,G,E⟩:=fa h;clear h;rcases eE aF with rfl
  exact(ME<|N9 H am E).weak λr J K e=>PF F.mo e
 |or l=>
  replace h:=nW.of (e:=e) h;obtain⟨o,es,p,rfl,h⟩:=h;obtain⟨aF,G,E⟩:=fa h;clear h;rcases eE aF with rfl
  exact(ME<|X3 H am E).weak λr J K e=>NK F.mo e
 |ite c x y=>replace h:=tN.of (e:=e) h;obtain⟨u,v,w,p,rfl,h⟩:=h;obtain⟨G,E,aB⟩:=fa h;clear h;exact Zt ((H sp _ _ am).2 G) ((H sp _ _ am).2 E)<|(H sp _ _ am).2 aB
 |cmp c l=>
  replace h:=fm.of (l:=l) h;obtain⟨⟨o,d⟩,rfl,h⟩:=h;replace h:=ss.of (e:=e) h;obtain⟨le,ops,mU,p,rfl,h⟩:=h;replace h:=fm.of (l:=ops) h;obtain⟨gk,rfl,h⟩:=h;replace h:=fm.of (l:=mU) h;obtain⟨r,rfl,h⟩:=h;replace h:=ch h;obtain⟨G,E⟩:=h;replace G:=ch G;replace E:=ch E;rcases eE G.1 with rfl
  exact Nw ((H sp _ _ am).1 G.2) (zD F.a5 (F.ok.at am).sys _) (wo H am E.1)<|fe E.2
 |_=>exact absurd h eM
theorem At(F:mC b T A ai):∀n,i2 b A ai<|zO T n
 |0=>λsp e bI am=>⟨λh=>absurd h eM,λh=>absurd h eM⟩
 |n+1=>λsp e bI am=>⟨λh=>TV F (At F n) am h,λh=>Ry F (At F n) am h⟩
end
set_option tactic.hygienic true
def L5(b:cb)(A:Around)(ai:jK)(g:zq):Prop:=∀sp cR bZ,(sp.ns.map (·.2)).Nodup->g sp cR bZ=true->nb (b.at sp) A cR (kl ai bZ)
section
variable{b:cb}{T:kW}{A:Around}{ai:jK}{f:j9}{g:zq}{sp:fr}
theorem Hm(F:mC b T A ai)(H:i2 b A ai f)(am:(sp.ns.map (·.2)).Nodup){e:ĳ}{bI:a1}(h:Ei f sp e bI=true):p0 (b.at sp) A e (cj ai bI)/\iD e=false:=by
 replace h:=n5 h;rcases h with h|h
 .replace h:=sk.of (e:=bI) h;obtain⟨l,rfl,h⟩:=h;replace h:=pN.of (e:=e) h;obtain⟨es,p,rfl,h⟩:=h;obtain⟨g,ah⟩:=xy H am h;exact⟨Sg g ah,rfl⟩
 .replace h:=zQ.of (e:=bI) h;obtain⟨l,rfl,h⟩:=h;replace h:=s7.of (e:=e) h;obtain⟨ks,vs,p,rfl,h⟩:=h;obtain⟨G,E,aB⟩:=fa h;clear h;cases fZ.mp G;cases fZ.mp E;cases fZ.mp aB;exact⟨J5<|F.ok.at am,rfl⟩
theorem k3.of{st:Stmt}{k:ĳ->ĳ->Ģ}(h:k3 st k=true):dD λt e p=>st=.Assign [t] e p/\k t e=true:=by replace h:=w7.of (e:=st) h;obtain⟨aU,e,p,rfl,h⟩:=h;replace h:=fm.of (l:=aU) h;obtain⟨t,rfl,h⟩:=h;exact⟨t,e,p,rfl,h⟩
theorem tZ.of{st:Stmt}{i:Ĵ}{k:ĳ->Ģ}(h:tZ sp st i k=true):gV λx q e p=>hP (st=.Assign [.Name x q] e p) (sp.ns.lookup x=some i) (sp.b5 x=true) (k e=true):=by replace h:=k3.of (st:=st) h;obtain⟨t,e,p,rfl,h⟩:=h;replace h:=e9.of (e:=t) h;obtain⟨x,q,rfl,h⟩:=h;replace h:=ch h;obtain⟨G,E⟩:=h;replace G:=ch G;exact⟨x,q,e,p,rfl,eE G.1,G.2,E⟩
theorem p1.of{st:Stmt}{m:Str}{k:ĳ->ĳ->Ģ}(h:p1 st m k=true):rT λdB e im pm p=>hP (st=.Expr (.Call (.Attribute dB m im) [e] [] pm) p) ((im.endLine==pm.line)=true) (fF e=false) (k dB e=true):=by replace h:=sB.of (e:=st) h;obtain⟨c,p,rfl,h⟩:=h;replace h:=kV.of (e:=c) h;obtain⟨g,args,jo,pm,rfl,h⟩:=h;replace h:=jY.of (e:=g) h;obtain⟨dB,x,im,rfl,h⟩:=h;replace h:=fm.of (l:=args) h;obtain⟨e,rfl,h⟩:=h;replace h:=ch h;obtain⟨G,E⟩:=h;replace G:=fa G;obtain⟨aF,G,aB⟩:=G;replace E:=ch E;cases fZ.mp aF;induction eE G;exact⟨dB,e,im,pm,p,rfl,aB,fe E.1,E.2⟩
section
variable(F:mC b T A ai)(H:i2 b A ai f)(am:(sp.ns.map (·.2)).Nodup)
include F H am
theorem VA{st:Stmt}{l:Lm Ĵ}{bI:a1}(h:oa T f g sp st (.hs l bI)=true):f6 (b.at sp) A st (lO ai<|.hs l bI):=by
 replace h:=k3.of (st:=st) h;obtain⟨t,e,p,rfl,h⟩:=h;replace h:=oc.of (e:=t) h;obtain⟨es,k,q,rfl,h⟩:=h;replace h:=ch h;obtain⟨aF,h⟩:=h;replace h:=n5 h;rcases h with h|h
 .replace h:=ch h;exact Vk (F.ok.at am) F.eX (.tup<|xd (c:=b.at sp) rfl rfl aF) (fe h.1)<|(H sp _ _ am).1 h.2
 .replace h:=oc.of (e:=e) h;obtain⟨vs,ql,qk,rfl,h⟩:=h;replace h:=ij.of (l:=vs) h;obtain⟨v,w,rfl,h⟩:=h;replace h:=ij.of (l:=es) h;obtain⟨x,y,rfl,h⟩:=h;replace h:=e9.of (e:=x) h;obtain⟨x,eB,rfl,h⟩:=h;replace h:=e9.of (e:=y) h;obtain⟨y,ow,rfl,h⟩:=h;replace h:=ch h;obtain⟨G,E⟩:=h;replace G:=fa G;obtain⟨G,aB,ba⟩:=G;replace E:=fa E;obtain⟨cO,d2,fp⟩:=E;have dU:oY (b.at sp) _ _:=xd (c:=b.at sp) rfl rfl aF;cases dU with|cons e0 fS kI=>
  cases kI with|cons kM km wq=>
  cases wq with|nil=>
  exact Wi (F.ok.at am) F.eX e0 kM fS km (fe G) (fe aB) (fe ba) (fe cO) (fe d2)<|(H sp _ _ am).1 fp
theorem Nv{st:Stmt}{o:a1}{a:Ĵ}{bI:a1}(h:oa T f g sp st (.fX o a bI)=true):f6 (b.at sp) A st (lO ai<|.fX o a bI):=by replace h:=k3.of (st:=st) h;obtain⟨t,e,p,rfl,h⟩:=h;replace h:=jY.of (e:=t) h;obtain⟨dB,x,q,rfl,h⟩:=h;replace h:=ch h;obtain⟨G,E⟩:=h;obtain⟨fH,gy,ke⟩:=fa G;clear G;replace E:=ch E;exact MY (F.ok.at am) (fz gy) (by show b.N.an _=_;rw[<-F.an];exact eE fH) (fe ke) ((H sp _ _ am).1 E.1)<|(H sp _ _ am).1 E.2
theorem Sl{st:Stmt}{o:a1}{a:Ĵ}{bI:a1}(h:oa T f g sp st (.jr o a bI)=true):f6 (b.at sp) A st (lO ai<|.jr o a bI):=by replace h:=k3.of (st:=st) h;obtain⟨t,e,p,rfl,h⟩:=h;replace h:=jY.of (e:=t) h;obtain⟨dB,x,q,rfl,h⟩:=h;replace h:=ch h;obtain⟨G,E⟩:=h;obtain⟨fH,gy,ke⟩:=fa G;clear G;replace E:=ch E;exact SM (F.ok.at am) (fz gy) (by show b.N.an _=_;rw[<-F.an];exact eE fH) (fe ke) (Hm F H am E.1).1<|(H sp _ _ am).1 E.2
theorem R'{st:Stmt}{o i bI:a1}(h:oa T f g sp st (.mW o i bI)=true):f6 (b.at sp) A st (lO ai<|.mW o i bI):=by replace h:=k3.of (st:=st) h;obtain⟨t,e,p,rfl,h⟩:=h;replace h:=mr.of (e:=t) h;obtain⟨dB,t5,q,rfl,h⟩:=h;replace h:=ch h;obtain⟨G,E⟩:=h;replace G:=ch G;replace E:=ch E;exact MM (by have:=F.a5;exact iX ‹_›) (fe G.1) ((H sp _ _ am).1 G.2) ((H sp _ _ am).1 E.1) ((H sp _ _ am).1 E.2)<|F.ok.at am
theorem M1{st:Stmt}{i:Ĵ}{k bI:a1}(h:oa T f g sp st (.jS i k bI)=true):f6 (b.at sp) A st (lO ai<|.jS i k bI):=by replace h:=k3.of (st:=st) h;obtain⟨t,e,p,rfl,h⟩:=h;replace h:=mr.of (e:=t) h;obtain⟨dB,wj,q,rfl,h⟩:=h;replace h:=e9.of (e:=dB) h;obtain⟨x,eB,rfl,h⟩:=h;replace h:=ch h;obtain⟨G,E⟩:=h;replace G:=ch G;replace E:=ch E;obtain⟨fH,gy,ke⟩:=uK (pos:=⟨0,0,0,0⟩) G.1;exact X4 (by have:=F.a5;exact iX ‹_›) fH gy ke (fe G.2) ((H sp _ _ am).1 E.1) ((H sp _ _ am).1 E.2)<|F.ok.at am
theorem TQ{st:Stmt}{i:Ĵ}{bI:a1}(h:oa T f g sp st (.app i bI)=true):f6 (b.at sp) A st (lO ai<|.app i bI):=by replace h:=p1.of (st:=st) h;obtain⟨dB,e,im,pm,p,rfl,ba,cO,h⟩:=h;replace h:=e9.of (e:=dB) h;obtain⟨x,eB,rfl,h⟩:=h;replace h:=ch h;obtain⟨G,E,aB⟩:=uK (pos:=⟨0,0,0,0⟩) h.1;exact Vn G E aB (by simpa using ba) cO ((H sp _ _ am).1 h.2)<|F.ok.at am
theorem X7{st:Stmt}{i:Ĵ}{bI:a1}(h:oa T f g sp st (.ext i bI)=true):f6 (b.at sp) A st (lO ai<|.ext i bI):=by replace h:=p1.of (st:=st) h;obtain⟨dB,e,im,pm,p,rfl,ba,cO,h⟩:=h;replace h:=e9.of (e:=dB) h;obtain⟨x,eB,rfl,h⟩:=h;replace h:=ch h;obtain⟨G,E,aB⟩:=uK (pos:=⟨0,0,0,0⟩) h.1;exact Pn G E aB (by simpa using ba) cO ((H sp _ _ am).1 h.2)<|F.ok.at am
theorem RW{st:Stmt}{o bI:a1}(h:oa T f g sp st (.m5 o bI)=true):f6 (b.at sp) A st (lO ai<|.m5 o bI):=by replace h:=p1.of (st:=st) h;obtain⟨dB,e,im,pm,p,rfl,ba,cO,h⟩:=h;replace h:=fa h;obtain⟨G,E,aB⟩:=h;exact Rb (fe G) (by simpa using ba) cO ((H sp _ _ am).1 E) ((H sp _ _ am).1 aB)<|F.ok.at am
end
theorem NJ(F:mC b T A ai)(H:i2 b A ai f)(cX:L5 b A ai g)(am:(sp.ns.map (·.2)).Nodup){st:Stmt}{bZ:dS}(h:oa T f g sp st bZ=true):f6 (b.at sp) A st (lO ai bZ):=by
 induction bZ using dS.casesOn with
 |set i bI=>
  replace h:=tZ.of (st:=st) h;obtain⟨x,q,e,p,rfl,G,E,aB⟩:=h;induction ap:iD e using Bool.casesOn with
  |true=>rw[ap]at aB;exact(Dy F H am aB).Qh G E
  |false=>rw[ap]at aB;exact Pz (F.ok.at am) ap G E<|(H sp _ _ am).1 aB
 |own i bI=>
  replace h:=tZ.of (st:=st) h;obtain⟨x,q,e,p,rfl,G,E,aB⟩:=h;cases ap:iD e with
  |true=>rw[ap]at aB;exact(Dy F H am aB).PJ G E
  |false=>rw[ap]at aB;obtain⟨fH,gy⟩:=Hm F H am aB;exact ñ (F.ok.at am) gy G E fH
 |hs=>exact VA F H am h
 |fX=>exact Nv F H am h
 |jr=>exact Sl F H am h
 |mW=>exact R' F H am h
 |jS=>exact M1 F H am h
 |app=>exact TQ F H am h
 |ext=>exact X7 F H am h
 |m5=>exact RW F H am h
 |ex bI=>replace h:=sB.of (e:=st) h;obtain⟨e,p,rfl,h⟩:=h;replace h:=ch h;exact P_ (fe h.1)<|(H sp _ _ am).1 h.2
 |iff c x y=>replace h:=zc.of (e:=st) h;obtain⟨u,v,w,p,rfl,h⟩:=h;obtain⟨G,E,aB⟩:=fa h;clear h;exact Rk ((H sp _ _ am).2 G) (cX sp _ _ am E)<|cX sp _ _ am aB
 |«for» bk aU it qj=>replace h:=xl.of (e:=st) h;obtain⟨hl,iter,body,G8,p,rfl,h⟩:=h;replace h:=ch h;obtain⟨G,E⟩:=h;obtain⟨fH,gy,ke⟩:=fa G;clear G;replace E:=ch E;cases fZ.mp fH;exact XY (F.ok.at am) F.eX (JU (c:=b.at sp) rfl rfl gy) (fe ke) ((H sp _ _ am).1 E.1)<|cX sp _ _ am E.2
 |ret bI=>
  replace h:=wY.of (e:=st) h;obtain⟨o,p,rfl,h⟩:=h;induction o with
  |some e=>exact Qa<|(H sp _ _ am).1 h
  |none=>
   replace h:=sR.of (e:=bI) h;obtain⟨v,rfl,h⟩:=h;rcases nz h with rfl
   exact Xy
 |a4=>exact absurd h eM
 |bad=>exact λO s ac C r J k K Q I hr e bb=>e.elim
theorem J4(F:mC b T A ai):∀n,L5 b A ai<|ts T n
 |0=>λsp cR bZ am h=>absurd h eM
 |n+1=>λsp cR bZ am h=>by
  have ar:=J4 F n;induction bZ using List.casesOn with
  |nil=>cases fZ.mp h;exact N5
  |cons c bZ=>
   replace h:=n5 h;rcases h with h|h
   .replace h:=lJ.of (c:=c) h;obtain⟨i,rfl,h⟩:=h;replace h:=ch h;obtain⟨G,E⟩:=h;obtain⟨p,ae,aA⟩:=rq.mp G;clear G;exact Vg (F.ok.at am) ⟨p.1,eE aA⟩<|ar sp _ _ am E
   .induction cR with
    |nil=>exact absurd h eM
    |cons st cR=>replace h:=ch h;exact Op (NJ F (At F n) ar am h.1)<|ar sp _ _ am h.2
end
set_option tactic.hygienic false
structure Md(b:cb)(T:kW)(fI:Nat->Addr)(sp:Nat->fr):Prop where
 ok:b.Ok
 an:T.an=b.N.an
 defs:∀f hQ,mi.fns f=some hQ->gV λeF body names cP=>hP (Kj (b.at<|sp f) (fI f) eF body names hQ.lg hQ.dflt cP) (names.length=hQ.np) (ts T 200 (sp f) body hQ.body=true)<|((sp f).ns.map (·.2)).Nodup
 pv:∀x g,T.pv.lookup x=some g->b.gY x=some (.ref<|fI g)/\keepIn b.K (.ref<|fI g)=true
 ph:∀x v,T.ph.lookup x=some v->∃V,b.gY x=some V/\bz b.P (fw b.H) v V
 gl:∀x be,T.gl.lookup x=some be->b.gY x=some (.ref<|b.N.cl be)/\keepIn b.K (.ref<|b.N.cl be)=true/\∀f,mi.z4 be=some f->be<7/\makesIn b.K (b.N.cl be)=true/\findIn b.K (.ref<|b.N.cl be) "__init__"=some (some<|.ref<|fI f)/\typeIn b.K (.ref<|fI f)=some (.type "function")
 qd:∀m name,T.qd[m]?=some name->(∀a,b.N.an a≠name)/\∀be f,mi.meths be m=some f->keepIn b.K (.ref<|fI f)=true/\findIn b.K (.ref<|b.N.cl be) "__getattribute__"=some (some<|.builtin "object.__getattribute__")/\findIn b.K (.ref<|b.N.cl be) "__getattr__"=some none/\findIn b.K (.ref<|b.N.cl be) name=some (some<|.ref<|fI f)/\typeIn b.K (.ref<|fI f)=some (.type "function")
 bi:∀fi nm,pO fi=some nm->b.gY nm=none/\b.kh nm=some (tA fi)
 inst:b.gY "isinstance"=none/\b.kh "isinstance"=some (.builtin "isinstance")
 eA:b.gY "range"=none/\b.kh "range"=some (.type "range")
structure s5(A:Around)(n:Nat):Prop where
 eX:A.handled=none
 depth:A.depth+3*n<=990
 units:A.units+10*n<=9800
theorem s5.of{A jp:Around}{n:Ĵ}(R:s5 A (n+1))(G:jp.handled=A.handled)(E:jp.depth<=A.depth+3)(aB:jp.units<=A.units+10):s5 jp n:=⟨G.trans R.eX,aJ (fO E _) (by rw[rF,qh 3];exact R.depth),aJ (fO aB _)<|by rw[rF,qh 10];exact R.units⟩
theorem Ru(A:Around)(args:Args):(A.under<|.builtin "type.__call__" args).handled=A.handled/\(A.under<|.builtin "type.__call__" args).depth<=A.depth+1/\(A.under<|.builtin "type.__call__" args).units<=A.units+1:=by
 have a7:(Code.builtin "type.__call__" args).frames=0:=by rfl
 have d5:(Code.builtin "type.__call__" args).isGuard=false:=by show guardIds.contains "type.__call__"=false;decide
 refine⟨rfl,?_,?_⟩
 .show A.depth+(Code.builtin "type.__call__" args).weight<=A.depth+1;unfold Code.weight;rw[a7,d5,(by rfl:(Code.builtin "type.__call__" args).isCaller=false)];split<;>simp
 .show A.units+(Code.builtin "type.__call__" args).cUnits<=A.units+1;have:(Code.builtin "type.__call__" args).cUnits=1+3*(Code.builtin "type.__call__" args).frames:=rfl;rw[this,a7];exact dy _
section
variable{b:cb}{T:kW}{fI:Ĵ->Addr}{sp:Ĵ->fr}
theorem OB(W:Md b T fI sp):∀n A,s5 A n->∀f,n_ b A (.ref<|fI f) (bd n f):=by
 intro n;induction n with
 |zero=>exact λA R f s C J vs Vs K Q I af e h=>False.elim (by have e:=e.of;with_unfolding_all exact e)
 |succ n ar=>
  intro A R f s C J vs Vs K Q I af e h;refine ax.dr (xj▸e.of) λhQ ag e=>ax.dr e λr c0 mJ=>?_;obtain⟨eF,body,names,cP,D,Q1,Na,kH⟩:=W.defs f hQ ag;have lm:∀df,nb (b.at<|sp f) (A.deeper df) body (kl (bd n) hQ.body):=λdf=>by
   have aa:s5 (A.deeper df) n:=R.of rfl (gp (aH rfl:1<=3) _)<|gp (aH rfl:3<=10) _;refine J4 (b:=b) (T:=T) (A:=A.deeper df) (ai:=bd n) ⟨bd.m n,R.eX,hN (fO (aJ (mM _ _) R.units) 43)<|jC rfl,W.ok,W.an,λx g ay=>⟨fI g,(W.pv x g ay).1,(W.pv x g ay).2,ar _ aa g⟩,W.ph,λx be ay=>?_,λm name aN=>?_,W.bi,W.inst,W.eA⟩ 200 (sp f) body hQ.body kH Na
   .obtain⟨G,E,aB⟩:=W.gl x be ay;refine⟨G,E,λsg jX=>?_⟩;obtain⟨h8,bY,br,dM⟩:=aB sg jX;refine O8 W.ok h8 bY br dM λargs=>?_;obtain⟨Oj,BK,MN⟩:=Ru (A.deeper df) args;exact ar _ (R.of Oj (aJ BK<|gp (aH rfl:2<=3) _)<|aJ MN<|gp (aH rfl:4<=10) _) sg
   .obtain⟨G,E⟩:=W.qd m name aN;refine⟨G,λbe sg jX=>?_⟩;obtain⟨bY,br,dM,gL,ky⟩:=E be sg jX;exact⟨fI sg,bY,br,dM,gL,ky,ar _ aa sg⟩
  have AG:r2 ⟨names.length,hQ.lg,hQ.dflt,hQ.body⟩ vs=some r:=by rw[Q1];exact c0
  exact Qz (c:=b.at<|sp f) (W.ok.at kH) D (hN (aJ (mM _ _) R.depth)<|jC rfl) lm AG mJ I af h
end
noncomputable abbrev q (s:String):Str:=Str.ofString s
def FA:Lm (Str×Ĵ):=[(q "str_type",3),(q "array_type",4),(q "last_mark",5),(q "needed_to_last",6),(q "one_rest",7),(q "tuple_type",8),(q "sorted_props",9),(q "obj_type",10),(q "func_type",11),(q "new_param",12),(q "new_decl",13),(q "parts_of",14),(q "whole_of_row",15),(q "regular_twin",16),(q "join_bools",17),(q "stays_beside",18),(q "top_of",19),(q "union",20),(q "without",21),(q "add_undef",22),(q "common_family",23),(q "meet_family",24),(q "family",25),(q "plain_shape",26),(q "told_places",29),(q "find_prop",30),(q "is_digits",31),(q "prop_row",32),(q "read_type",33),(q "is_open",34),(q "unit_word",35),(q "key_text",36),(q "is_public",37),(q "is_late_alias",42),(q "undefless",43),(q "optional_form",44),(q "readonly_after",45),(q "template_at",46),(q "member_opt",47),(q "member_kind",48),(q "kindmap_member_flags",49),(q "names_for",50),(q "put_member",52),(q "build_members",53),(q "shape_entries",54),(q "map_array",55),(q "spare_elem",56),(q "map_elem",57),(q "is_primitive",58),(q "known_part",59),(q "bound_tuple",60),(q "lists_have",61),(q "put_each",62),(q "put_cell",63),(q "put_shape",64),(q "put_late",65),(q "plain_put",66),(q "table_read",67),(q "put_name",68),(q "_law_take",73),(q "_law_kind",74),(q "_law_type",75),(q "_law_atom",76),(q "_law_back",77),(q "_law_back_one",78),(q "_law_plan",79),(q "_law_at",80),(q "_law_template",81),(q "_law_object",82),(q "_law_list",83),(q "_law_lone",84),(q "_law_slot",85),(q "_law_told",86),(q "_law_told_list",87),(q "_law_choices",88),(q "_law_rows",89),(q "_law_numbered",90),(q "_law_own",91),(q "_law_free",92),(q "_law_after",93),(q "_law_digits",94),(q "_law_held",95),(q "_law_lies",96),(q "_law_rooms",97),(q "_law_sound",98),(q "_law_round",99),(q "law",100)]
def LJ:Lm (Str×B):=[((q "Y_KEY"),((.int 1):B)),((q "Y_BOOL"),((.int 2):B)),((q "Y_STR"),((.int 3):B)),((q "Y_NUM"),((.int 4):B)),((q "Y_ENUM"),((.int 5):B)),((q "Y_UNION"),((.int 6):B)),((q "Y_INTER"),((.int 7):B)),((q "Y_OBJ"),((.int 8):B)),((q "Y_REF"),((.int 9):B)),((q "Y_PARAM"),((.int 10):B)),((q "Y_ARRAY"),((.int 11):B)),((q "Y_TUPLE"),((.int 12):B)),((q "Y_SIG"),((.int 13):B)),((q "Y_KEYOF"),((.int 14):B)),((q "Y_INDEX"),((.int 15):B)),((q "Y_COND"),((.int 16):B)),((q "Y_MAPPED"),((.int 17):B)),((q "Y_TPL"),((.int 18):B)),((q "Y_ALIAS"),((.int 19):B)),((q "ANY"),((.int 0):B)),((q "UNKNOWN"),((.int 1):B)),((q "NEVER"),((.int 2):B)),((q "VOID"),((.int 3):B)),((q "UNDEF"),((.int 4):B)),((q "NULLT"),((.int 5):B)),((q "STRING"),((.int 6):B)),((q "NUMBER"),((.int 7):B)),((q "FALSE_T"),((.int 8):B)),((q "TRUE_T"),((.int 9):B)),((q "OBJECTT"),((.int 10):B)),((q "EMPTY"),((.int 11):B)),((q "BOOLEAN"),((.int 12):B)),((q "ERR"),((.int 13):B)),((q "FRESH_F"),((.int 14):B)),((q "FRESH_T"),((.int 15):B)),((q "P_OPT"),((.int 1):B)),((q "P_READONLY"),((.int 2):B)),((q "P_METHOD"),((.int 4):B)),((q "P_PRIVATE"),((.int 8):B)),((q "P_PROTECTED"),((.int 16):B)),((q "P_GETONLY"),((.int 32):B)),((q "P_ACCESS"),((.int 64):B)),((q "E_NEED"),((.int 0):B)),((q "E_OPT"),((.int 1):B)),((q "E_REST"),((.int 2):B)),((q "E_SPREAD"),((.int 3):B)),((q "D_INTERFACE"),((.int 2):B)),((q "FAM_OTHER"),((.int 0):B)),((q "FAM_STR"),((.int 1):B)),((q "FAM_NUM"),((.int 2):B)),((q "FAM_BOOL"),((.int 3):B)),((q "FAM_OBJ"),((.int 7):B)),((q "MAX_UNION"),((.int 400):B)),((q "FIRST_ROWS"),((.tup [.tup [.int 1,.str [97,110,121]],.tup [.int 1,.str [117,110,107,110,111,119,110]],.tup [.int 1,.str [110,101,118,101,114]],.tup [.int 1,.str [118,111,105,100]],.tup [.int 1,.str [117,110,100,101,102,105,110,101,100]],.tup [.int 1,.str [110,117,108,108]],.tup [.int 1,.str [115,116,114,105,110,103]],.tup [.int 1,.str [110,117,109,98,101,114]],.tup [.int 2,.int 0,.int 0],.tup [.int 2,.int 1,.int 0],.tup [.int 1,.str [111,98,106,101,99,116]],.tup [.int 8,.tup [],.tup [],.tup [],.tup [],.tup [],.int 0],.tup [.int 6,.tup [.int 8,.int 9]],.tup [.int 1,.str [101,114,114,111,114]],.tup [.int 2,.int 0,.int 1],.tup [.int 2,.int 1,.int 1]]):B)),((q "MARKED_ROWS"),((.tup [.int 2,.int 3,.int 4,.int 5,.int 8]):B)),((q "OBJECT_ROWS"),((.tup [.int 8,.int 9,.int 11,.int 12,.int 13]):B)),((q "KEY_FAMILIES"),((.a9 [((.int 3),(.int 6)),((.int 4),(.int 5)),((.int 5),(.int 4)),((.int 6),(.int 1)),((.int 7),(.int 2)),((.int 10),(.int 7))]):B)),((q "MOST_PLAIN"),((.int 40):B)),((q "PLAIN_ROWS"),((.tup [.int 1,.int 2,.int 3,.int 4,.int 5]):B)),((q "OPEN_KINDS"),((.tup [.int 10,.int 14,.int 15,.int 16,.int 17,.int 19]):B)),((q "_law_undef"),((.tup [.str [119],.str [117]]):B)),((q "_law_texts"),((.tup [.str [119],.str [83]]):B)),((q "_law_numbers"),((.tup [.str [119],.str [78]]):B))]
def GW:Lm (Str×Ĵ):=[((q "TypeTable"),0),((q "Decl"),1),((q "Thin"),2),((q "RefHost"),3),((q "NameHost"),4),((q "Made"),5),((q "Keyed"),6)]
def r0:Lm Str:=[q "put",q "list_prop",q "shape",q "add",q "add_index",q "done",q "force",q "put_deferred",q "put_in",q "put_cond"]
def nH:Lm Str:=[q "rows",q "index",q "decls",q "bounds",q "defaults",q "names",q "origins",q "renamed",q "shaping",q "putting",q "did",q "kind",q "name",q "params",q "body",q "bases",q "static",q "extends_class",q "abstract",q "members",q "variances",q "busy",q "at",q "file",q "nid",q "tab",q "sindex",q "nindex",q "key",q "prop",q "deep",q "most_rounds",q "most_deep"]
def I_:Lm (Stmt×bH):=[(dx 66 0,([(q "self",0),(q "row",1)]:bH)),(dx 66 2,([(q "self",0),(q "row",1),(q "t",2)]:bH)),(dx 67 0,([(q "self",0),(q "did",1),(q "kind",2),(q "name",3)]:bH)),(aL 69,([(q "tab",0),(q "text",1),(q "fresh",2)]:bH)),(aL 70,([(q "tab",0),(q "elem",1),(q "ro",2)]:bH)),(aL 71,([(q "elems",0),(q "marks",1),(q "found",2),(q "place",3)]:bH)),(aL 72,([(q "tab",0),(q "elems",1),(q "last",2),(q "out",3),(q "place",4),(q "given",5),(q "mark",6)]:bH)),(aL 73,([(q "tab",0),(q "elems",1),(q "last",2),(q "first",3),(q "place",4),(q "held",5),(q "given",6),(q "mark",7)]:bH)),(aL 74,([(q "tab",0),(q "elems",1),(q "ro",2),(q "rows",3),(q "last",4)]:bH)),(aL 75,([(q "props",0),(q "found",1),(q "prop",2)]:bH)),(aL 76,([(q "tab",0),(q "props",1),(q "calls",2),(q "ctors",3),(q "sindex",4),(q "nindex",5),(q "fresh",6)]:bH)),(aL 78,([(q "tab",0),(q "sig",1)]:bH)),(aL 79,([(q "tab",0),(q "name",1),(q "bound",2),(q "default",3),(q "pid",4)]:bH)),(aL 80,([(q "tab",0),(q "kind",1),(q "name",2),(q "decl",3)]:bH)),(aL 81,([(q "tab",0),(q "t",1),(q "row",2)]:bH)),(aL 82,([(q "row",0),(q "kind",1)]:bH)),(aL 83,([(q "tab",0),(q "t",1),(q "row",2)]:bH)),(aL 84,([(q "got",0)]:bH)),(aL 85,([(q "tab",0),(q "got",1),(q "t",2)]:bH)),(aL 86,([(q "got",0),(q "t",1)]:bH)),(aL 87,([(q "tab",0),(q "parts",1),(q "got",2),(q "t",3),(q "part",4),(q "top",5),(q "kept",6)]:bH)),(aL 88,([(q "tab",0),(q "t",1),(q "gone",2)]:bH)),(aL 89,([(q "tab",0),(q "t",1)]:bH)),(aL 90,([(q "tab",0),(q "parts",1),(q "found",2),(q "same",3)]:bH)),(aL 91,([(q "tab",0),(q "parts",1),(q "found",2),(q "part",3),(q "fam",4)]:bH)),(aL 92,([(q "tab",0),(q "t",1),(q "row",2),(q "kind",3),(q "whole",4)]:bH)),(aL 96,([(q "tab",0),(q "t",1),(q "turn",2),(q "row",3)]:bH)),(dx 100 15,([(q "self",0),(q "t",1),(q "name",2)]:bH)),(dx 101 0,([(q "self",0),(q "t",1)]:bH)),(aL 102,([(q "row",0),(q "place",1)]:bH)),(aL 103,([(q "row",0),(q "name",1),(q "prop",2)]:bH)),(aL 104,([(q "name",0),(q "digits",1)]:bH)),(aL 105,([(q "host",0),(q "t",1),(q "name",2),(q "row",3),(q "prop",4)]:bH)),(aL 106,([(q "tab",0),(q "prop",1)]:bH)),(aL 110,([(q "tab",0),(q "t",1),(q "row",2),(q "part",3),(q "elem",4),(q "hole",5)]:bH)),(aL 111,([(q "tab",0),(q "t",1),(q "row",2)]:bH)),(aL 112,([(q "tab",0),(q "t",1)]:bH)),(aL 119,([(q "prop",0)]:bH)),(dx 121 0,([(q "self",0)]:bH)),(dx 121 1,([(q "self",0),(q "tab",1),(q "name",2),(q "t",3),(q "flags",4),(q "old",5),(q "parts",6)]:bH)),(dx 121 2,([(q "self",0),(q "tab",1),(q "number",2),(q "t",3),(q "ro",4),(q "old",5),(q "fresh",6)]:bH)),(dx 121 3,([(q "self",0),(q "tab",1),(q "props",2)]:bH)),(aL 122,([(q "tab",0),(q "t",1),(q "late",2),(q "part",3),(q "row",4),(q "asked",5)]:bH)),(aL 123,([(q "host",0),(q "t",1),(q "tab",2)]:bH)),(aL 124,([(q "tab",0),(q "t",1)]:bH)),(aL 125,([(q "romod",0),(q "ro",1)]:bH)),(aL 126,([(q "host",0),(q "row",1),(q "key",2)]:bH)),(aL 127,([(q "row",0),(q "was",1)]:bH)),(aL 128,([(q "host",0),(q "row",1),(q "key",2),(q "own",3),(q "was",4),(q "tab",5),(q "t",6)]:bH)),(aL 129,([(q "row",0),(q "prop",1),(q "plain",2),(q "was",3),(q "flags",4),(q "ro",5)]:bH)),(aL 130,([(q "host",0),(q "row",1),(q "key",2),(q "name",3)]:bH)),(dx 131 0,([(q "self",0),(q "key",1),(q "prop",2),(q "index",3)]:bH)),(aL 132,([(q "host",0),(q "row",1),(q "made",2),(q "keyed",3),(q "target",4),(q "plain",5),(q "tab",6),(q "text",7),(q "own",8),(q "was",9),(q "kept",10),(q "t",11),(q "ro",12)]:bH)),(aL 133,([(q "host",0),(q "row",1),(q "entries",2),(q "plain",3),(q "made",4),(q "keyed",5),(q "targets",6),(q "target",7)]:bH)),(aL 134,([(q "host",0),(q "t",1),(q "tab",2),(q "entries",3),(q "shape",4),(q "prop",5)]:bH)),(aL 135,([(q "host",0),(q "row",1),(q "t",2),(q "plain",3),(q "tab",4),(q "source",5),(q "elem",6)]:bH)),(aL 136,([(q "host",0),(q "row",1),(q "elem",2)]:bH)),(aL 137,([(q "host",0),(q "row",1),(q "place",2),(q "elem",3),(q "plain",4),(q "key",5),(q "own",6),(q "kind",7),(q "was",8),(q "mark",9)]:bH)),(aL 138,([(q "tab",0),(q "t",1)]:bH)),(aL 140,([(q "host",0),(q "row",1),(q "t",2),(q "source",3),(q "entries",4)]:bH)),(aL 141,([(q "host",0),(q "row",1),(q "source",2),(q "elems",3),(q "places",4),(q "place",5),(q "elem",6),(q "t",7)]:bH)),(aL 142,([(q "host",0),(q "keyed",1),(q "name",2),(q "t",3)]:bH)),(aL 144,([(q "host",0),(q "many",1),(q "mapping",2)]:bH)),(aL 145,([(q "host",0),(q "cell",1),(q "mapping",2)]:bH)),(aL 146,([(q "host",0),(q "row",1),(q "mapping",2),(q "props",3),(q "calls",4),(q "ctors",5),(q "sindex",6)]:bH)),(aL 150,([(q "host",0),(q "t",1),(q "row",2),(q "mapping",3),(q "rest",4)]:bH)),(aL 151,([(q "host",0),(q "t",1),(q "mapping",2),(q "row",3)]:bH)),(aL 153,([(q "tab",0),(q "row",1),(q "other",2),(q "prop",3),(q "cell",4)]:bH)),(aL 154,([(q "host",0),(q "row",1)]:bH)),(dx 155 0,([(q "self",0),(q "tab",1)]:bH)),(dx 155 1,([(q "self",0),(q "t",1),(q "row",2)]:bH)),(dx 155 2,([(q "self",0),(q "row",1)]:bH)),(dx 155 3,([(q "self",0),(q "t",1),(q "mapping",2)]:bH)),(aL 160,([(q "d",0),(q "n",1),(q "at",2)]:bH)),(aL 161,([(q "d",0),(q "atoms",1),(q "got",2),(q "go",3),(q "one",4)]:bH)),(aL 162,([(q "tab",0),(q "over",1),(q "kind",2)]:bH)),(aL 163,([(q "tab",0),(q "over",1),(q "one",2),(q "sort",3),(q "what",4)]:bH)),(aL 164,([(q "tab",0),(q "t",1),(q "row",2)]:bH)),(aL 165,([(q "tab",0),(q "t",1),(q "row",2)]:bH)),(aL 166,([(q "d",0),(q "base",1),(q "coat",2),(q "fixed",3),(q "table",4)]:bH)),(aL 167,([(q "plan",0),(q "key",1),(q "base",2),(q "coat",3),(q "fixed",4),(q "table",5),(q "kind",6)]:bH)),(aL 168,([(q "tab",0),(q "over",1),(q "key",2),(q "plan",3),(q "base",4),(q "coat",5),(q "fixed",6),(q "table",7),(q "x",8),(q "props",9)]:bH)),(aL 169,([(q "d",0),(q "tab",1),(q "names",2),(q "way",3),(q "members",4),(q "go",5),(q "name",6),(q "sign",7),(q "kind",8),(q "which",9),(q "firm",10),(q "cells",11),(q "props",12),(q "opt",13),(q "ro",14),(q "what",15),(q "hid",16),(q "flags",17),(q "calls",18),(q "told",19),(q "t",20),(q "turned",21),(q "decl",22)]:bH)),(aL 170,([(q "d",0),(q "tab",1),(q "ro",2),(q "form",3),(q "marks",4),(q "elems",5),(q "t",6)]:bH)),(aL 171,([(q "d",0),(q "tab",1),(q "n",2),(q "sig",3),(q "t",4)]:bH)),(aL 172,([(q "kind",0),(q "opt",1),(q "was",2),(q "rest",3)]:bH)),(aL 173,([(q "tab",0),(q "over",1),(q "plan",2),(q "mods",3),(q "bound",4),(q "opt",5),(q "ro",6),(q "rows",7),(q "name",8),(q "kind",9),(q "was",10),(q "shut",11),(q "what",12),(q "hid",13),(q "given",14),(q "sign",15),(q "told",16),(q "place",17),(q "cell",18)]:bH)),(aL 174,([(q "tab",0),(q "over",1),(q "plan",2),(q "mods",3),(q "bound",4),(q "opt",5),(q "ro",6),(q "shut",7),(q "spare",8),(q "marks",9),(q "front",10),(q "out",11),(q "place",12),(q "kind",13),(q "sign",14)]:bH)),(aL 175,([(q "bound",0),(q "whole",1),(q "firm",2),(q "short",3),(q "lets",4),(q "zero",5),(q "needs",6),(q "name",7),(q "kind",8),(q "opt",9),(q "ro",10),(q "what",11),(q "hid",12),(q "out",13)]:bH)),(aL 176,([(q "elems",0),(q "out",1),(q "way",2),(q "row",3),(q "kind",4),(q "sign",5)]:bH)),(aL 177,([(q "row",0),(q "slots",1),(q "place",2)]:bH)),(aL 178,([(q "slots",0),(q "key",1),(q "names",2),(q "out",3),(q "name",4),(q "kind",5),(q "opt",6)]:bH)),(aL 179,([(q "kind",0),(q "slots",1),(q "out",2),(q "sort",3),(q "what",4)]:bH)),(aL 180,([(q "plan",0),(q "opt",1),(q "slots",2),(q "sort",3),(q "name",4),(q "kind",5),(q "was",6),(q "given",7),(q "sign",8)]:bH)),(aL 181,([(q "name",0)]:bH)),(aL 182,([(q "one",0),(q "room",1),(q "sort",2),(q "what",3)]:bH)),(aL 183,([(q "kind",0),(q "room",1)]:bH)),(aL 184,([(q "tab",0),(q "row",1),(q "name",2),(q "marks",3),(q "front",4),(q "place",5),(q "out",6),(q "t",7),(q "sign",8)]:bH)),(aL 185,([(q "tab",0),(q "row",1),(q "plan",2),(q "opt",3),(q "choices",4),(q "slots",5),(q "sort",6),(q "names",7),(q "marks",8),(q "front",9),(q "name",10),(q "read",11),(q "room",12)]:bH)),(aL 186,([(q "d",0),(q "tab",1),(q "host",2),(q "over",3),(q "key",4),(q "plan",5),(q "mods",6),(q "naming",7),(q "sort",8),(q "bound",9),(q "template",10),(q "keys",11),(q "row",12),(q "said",13),(q "told",14),(q "prop",15)]:bH)),(aL 187,([(q "script",0),(q "nums",1)]:bH))]
def me (a:Ĵ):Str:=if a<33 then nH.getD a Str.empty else⟨#[0,a]⟩
def x4:kW:=⟨FA,LJ,GW,r0,me⟩
def pQ (f:Ĵ):Stmt:=(I_.getD f (.Pass ⟨0,0,0,0⟩,[])).1
def B7 (f:Ĵ):bH:=(I_.getD f (.Pass ⟨0,0,0,0⟩,[])).2
def spT (f:Ĵ):fr:=⟨B7 f,(b9<|pQ f).names,true⟩
def zg (f:Ĵ):bS:=um.getD f ⟨0,0,[],[]⟩
def DX:Lm Ĵ:=[122,136,157,179,187,194,201,208,214,219,231,247,255,262,269,276,283,290,297,304,309,314,321,326,333,340,348,467,509,535,542,547,554,561,569,576,583,623,637,644,651,656,668,675,682,689,696,703,710,717,724,738,752,759,766,773,780,787,794,799,806,813,818,825,830,854,861,868,875,889,896,903,910,925,932,937,944,949,956,963,970,975,980,985,992,997,1004,1009,1014,1019,1026,1031,1038,1045,1050,1055,1060,1065,1070,1077,1082]
def oq:Lm Ĵ:=[139,160,491,526,913,659,741]
def N_ (f:Ĵ):Ę:=([(3,172),(4,180),(8,209),(10,224),(12,248)].lookup f).elim N λa=>R a
def é (f:Ĵ):Ę:=if f<26 then ed else if f<27 then L7 else if f<34 then fg else if f<37 then po else if f<38 then Au else if f<59 then f1 else if f<62 then xg else if f<67 then op else if f<73 then nh else fD
def W0:Lm String:=["TypeTable.__init__","TypeTable.put","Decl.__init__","str_type","array_type","last_mark","needed_to_last","one_rest","tuple_type","sorted_props","obj_type","func_type","new_param","new_decl","parts_of","whole_of_row","regular_twin","join_bools","stays_beside","top_of","union","without","add_undef","common_family","meet_family","family","plain_shape","Thin.list_prop","RefHost.shape","told_places","find_prop","is_digits","prop_row","read_type","is_open","unit_word","key_text","is_public","Made.__init__","Made.add","Made.add_index","Made.done","is_late_alias","undefless","optional_form","readonly_after","template_at","member_opt","member_kind","kindmap_member_flags","names_for","Keyed.__init__","put_member","build_members","shape_entries","map_array","spare_elem","map_elem","is_primitive","known_part","bound_tuple","lists_have","put_each","put_cell","put_shape","put_late","plain_put","table_read","put_name","NameHost.__init__","NameHost.force","NameHost.put_deferred","NameHost.put_in","_law_take","_law_kind","_law_type","_law_atom","_law_back","_law_back_one","_law_plan","_law_at","_law_template","_law_object","_law_list","_law_lone","_law_slot","_law_told","_law_told_list","_law_choices","_law_rows","_law_numbered","_law_own","_law_free","_law_after","_law_digits","_law_held","_law_lies","_law_rooms","_law_sound","_law_round","law"]
def fI (f:Ĵ):Addr:=DX.getD f 0
def Kv:Lm (String×Ę×Ę×Ę):=(List.range 101).map λf=>(W0.getD f "",N_ f,R<|fI f-1,é f)
def ZL:Params:={strHash:=λ_=>0,shareClass:=λ_=>0,mergeTok:=λt=>t,idOf:=λ_=>0,idOfShared:=λ_ _=>0,followText:=λ_=>false,idOfImm:=λ_=>0}
def LZ (P:Params) (a:Ĵ):Ĵ×Obj:=(a,(Bh P).getD a hz)
def È:Frag:=[105,83,84,85,86,87,88,89,90,91,92,93,99,94,95,96,97,98,101,100,102,103,104,106,107,108,341,562,917,916,918,172,180,209,224,220,221,222,223,248,121,135,156,178,186,193,200,207,213,218,230,246,254,261,268,275,282,289,296,303,308,313,320,325,332,339,347,466,508,534,541,546,553,560,568,575,582,622,636,643,650,655,667,674,681,688,695,702,709,716,723,737,751,758,765,772,779,786,793,798,805,812,817,824,829,853,860,867,874,888,895,902,909,924,931,936,943,948,955,962,969,974,979,984,991,996,1003,1008,1013,1018,1025,1030,1037,1044,1049,1054,1059,1064,1069,1076,1081].map<|LZ ZL
def OE (P:Params):Frag:=[139,160,491,526,913,659,741,138,159,490,525,912,658,740].map<|LZ P
def u8 (f:Ĵ):Obj:=match Kv.getD f ("",N,N,N)with|(q,ov,c,xu)=>Bg (pQ f) q ov xu c
def KF:Frag:=(List.range 101).map λf=>(fI f,u8 f)
def rX:Frag:=KF++È
def na (P:Params):Frag:=rX++OE P
def Dd (o:Obj):Lm DictEntry:=match o.data with|.dict es _=>es.toList|_=>[]
def Kk (P:Params):Lm DictEntry:=Dd<|hk P fD 177 186
def AX (P:Params):Lm DictEntry:=Dd<|PySem.W.boot_o_0 P
def oE (P:Params) (x:Str):Ĳ Ę:=((Kk P).find? λe=>e.key.isStr x).map (·.val)
def u7 (P:Params) (x:Str):Ĳ Ę:=((AX P).find? λe=>e.key.isStr x).map (·.val)
theorem W9(w:World):(na w.params).map (λp=>(i' w.params).get? p.1)=(na w.params).map λp=>some p.2:=by kernel_rfl
theorem Cf{w:World}{h:Heap}(cB:∀b o,(i' w.params).get? b=some o->h.get? b=some o):(na w.params).In h:=Frag.In.keeps (Frag.in_of (as:=(na w.params).map (·.1)) rfl<|by rw[f8];exact W9 w) cB
def Pm:Ę->Ģ|.str _ _=>true|_=>false
def E6 (l:Lm DictEntry):Ģ:=l.all λe=>Pm e.key
theorem M4{l:Lm DictEntry}(h:E6 l=true):StrKeys l.toArray:=by intro e a6;have:=d6.mp h e (by simpa using a6);cases aE:e.key<;>rw[aE]at this<;>first|exact⟨_,_,rfl⟩|cases this
theorem AR{h:Heap}{a:Addr}{o:Obj}{l:Lm DictEntry}{n:Ĵ}(G:h.get? a=some o)(E:o.data=.dict l.toArray n)(aB:E6 l=true):h.Ns a λx=>(l.find? λe=>e.key.isStr x).map (·.val):=⟨o,_,n,G,E,M4 aB,λx=>by show((l.toArray).find? _).map _=_;rw[List.find?_toArray]⟩
theorem U0(P:Params):(i' P).get? 3=some (hk P fD 177 186):=by kernel_rfl
theorem Yh(P:Params):(i' P).get? 0=some (PySem.W.boot_o_0 P):=by kernel_rfl
theorem Zz(P:Params):(i' P).get? 2=some (EN P):=by kernel_rfl
theorem Iv(P:Params):(i' P).Ns mainGlobals (oE P):=AR (U0 P) (l:=Kk P) (n:=186) (by kernel_rfl) (by kernel_rfl)
def Nz (o:Obj):Ĵ:=match o.data with|.dict _ n=>n|_=>0
theorem Pe(P:Params):(PySem.W.boot_o_0 P).data=.dict (AX P).toArray (Nz<|PySem.W.boot_o_0 P):=by kernel_rfl
theorem Qq(P:Params):(i' P).Ns builtinsNs (u7 P):=by exact AR (Yh P) (l:=AX P) (Pe P) (by kernel_rfl)
theorem lim(P:Params):(i' P).NoLimit:=⟨_,AR (Zz P) (l:=Dd<|EN P) (n:=2) (by kernel_rfl) (by kernel_rfl),by kernel_rfl⟩
theorem DG{n:Ĵ}(h:n<=1000):n<=a3:=by unfold a3;omega
def Jw (n:String) (v:Ę):Ģ:=match v with|.type m=>m==n|_=>false
theorem P5{n:String}{v:Ę}(h:Jw n v=true):v=.type n:=by
 cases v with
 |type m=>exact bX _<|fN.mp h
 |_=>exact cq h
def vj (n:String) (o:Obj):Ģ:=Jw n o.cls&&(o.dict.isNone&&o.slots.isEmpty)
theorem E4{n:String}{o:Obj}(h:vj n o=true):o=⟨.type n,none,o.data,#[]⟩:=by
 have h:=gQ.mp h;have E:=gQ.mp h.2;cases o with|mk a b d e=>
 obtain rfl:a=.type n:=P5 h.1;obtain rfl:b=none:=pU.mp E.1;obtain rfl:e=#[]:=Array.isEmpty_iff.mp E.2;rfl
theorem CR{b:Ģ}(h:(!b)=true):b=false:=by cases b<;>first|rfl|exact cq h
def mO {aC:Type} (o:Ĳ aC) (f:aC->Ģ):Ģ:=match o with|some a=>f a|none=>false
theorem sY{aC:Type}{o:Ĳ aC}{f:aC->Ģ}(h:mO o f=true):∃a,o=some a/\f a=true:=by
 cases o with
 |some a=>exact⟨a,rfl,h⟩
 |none=>exact cq h
def YD (n:String) (o:Obj):Ĳ (Lm Ę×Ĵ):=match o.data with
 |.seq vs k=>if vj n o=true then some (vs.toList,k)else none
 |_=>none
def ur (K:Frag) (n:String) (a:Addr):Ĳ (Lm Ę×Ĵ):=(K.lookup a).bind<|YD n
theorem K7{K:Frag}{n:String}{a:Addr}{l:Lm Ę}{k:Ĵ}(h:ur K n a=some (l,k)):K.lookup a=some ⟨.type n,none,.seq l.toArray k,#[]⟩:=by
 obtain⟨o,ag,a8⟩:=bind_some h;clear h;rw[ag];cases o with|mk x b d e=>cases d with
 |seq vs j=>obtain⟨G,E⟩:=hj<|show(if vj n ⟨x,b,.seq vs j,e⟩=true then some (vs.toList,j)else none)=some (l,k)from a8;cases E;exact bX some<|E4 G
 |_=>exact b4 a8
def ws:B->Ĳ ĵ|.int i=>some i|_=>none
def SV (p:B×B) (e:DictEntry):Ģ:=match p.1 with
 |.int i=>(match p.2 with
  |.int j=>(match e.key with
   |.int qH _=>(match e.val with|.int ve _=>e.hash==hashInt i&&(i==qH&&j==ve)|_=>false)
   |_=>false)
  |_=>false)
 |_=>false
def Ep:Lm (B×B)->Lm DictEntry->Ģ
 |[]=>λes=>es.isEmpty
 |a::r=>λes=>match es with|[]=>false|b::t=>SV a b&&Ep r t
def MT (K:Frag) (l:Lm (B×B)) (a:Addr):Ģ:=mO (K.lookup a) λo=>match o.data with
 |.dict es k=>vj "dict" o&&(Ep l es.toList&&(decide (l.length<=1000)&&(!(a==sysModules)&&decide ((l.map λx=>ws x.1).Nodup))))
 |_=>false
mutual
def mb (K:Frag):B->Ę->Ģ
 |.none=>λV=>match V with|.none=>true|_=>false
 |.bool a=>λV=>match V with|.bool b=>a==b|_=>false
 |.int i=>λV=>match V with|.int j _=>i==j|_=>false
 |.str l=>λV=>match V with|.str s _=>decide (l.length<=1000)&&s.cps.toList==l|_=>false
 |.tup l=>λV=>match V with|.ref a=>mO (ur K "tuple" a) λx=>decide (l.length<=1000)&&oV K l x.1|_=>false
 |.a9 l=>λV=>match V with|.ref a=>MT K l a|_=>false
 |.lst _=>λ_=>false
 |.ref _=>λ_=>false
 |.eA _ _=>λ_=>false
def oV (K:Frag):Lm B->Lm Ę->Ģ
 |[]=>λVs=>Vs.isEmpty
 |a::r=>λVs=>match Vs with|[]=>false|b::t=>mb K a b&&oV K r t
end
theorem Um{P:Params}{C:aY}{l:Lm (B×B)}:∀{es:Lm DictEntry},Ep l es=true->d8 P C l es:=by
 induction l with
 |nil=>intro es h;rw[fZ.mp h];exact .nil
 |cons p r ar=>
  intro es h;cases es with
  |nil=>exact cq h
  |cons e t=>
   have h:=gQ.mp h;have E:=ar h.2;have G:=h.1;clear ar h;cases p with|mk a b=>
   cases a with
   |int i=>cases b with
    |int j=>cases e with|mk cc K V=>
     cases K with
     |int qH t=>cases V with
      |int ve u=>have G:=gQ.mp<|show(cc==hashInt i&&(i==qH&&j==ve))=true from G;have aB:=gQ.mp G.2;obtain rfl:cc=hashInt i:=fN.mp G.1;obtain rfl:i=qH:=fN.mp aB.1;obtain rfl:j=ve:=fN.mp aB.2;exact .cons (.int _ _) (.int _ _) E
      |_=>exact cq G
     |_=>exact cq G
    |_=>exact cq G
   |_=>exact cq G
theorem Gw{K:Frag}{H:Heap}(X:K.In H){a:Addr}{o:Obj}(h:K.lookup a=some o):fw H a=.a4 o:=by unfold fw;rw[X _ _ h]
theorem Ww{l:Lm (B×B)}(h:(l.map λx=>ws x.1).Nodup):(l.map Prod.fst).Nodup:=by
 have:l.map (λx=>ws x.1)=(l.map Prod.fst).map ws:=by rw[f8];rfl
 rw[this]at h;exact List.Pairwise.of_map ws (λa b n e=>n<|by rw[e]) h
section
variable{P:Params}{K:Frag}{H:Heap}(X:K.In H)
include X
theorem YB{l:Lm B}(ar:∀Vs,oV K l Vs=true->bB P (fw H) l Vs)(V:Ę)(h:mb K (.tup l) V=true):bz P (fw H) (.tup l) V:=by
 cases V with
 |ref a=>obtain⟨x,e,h⟩:=sY<|show mO (ur K "tuple" a) _=true from h;have h:=gQ.mp h;exact .tup (Gw X<|K7 e) (ar _ h.2)<|DG<|fz h.1
 |_=>exact cq h
theorem TZ(l:Lm (B×B))(V:Ę)(h:mb K (.a9 l) V=true):bz P (fw H) (.a9 l) V:=by
 cases V with
 |ref a=>
  obtain⟨o,e,h⟩:=sY<|show mO (K.lookup a) _=true from h;cases o with|mk x b d s=>cases d with
  |dict es k=>have h:=gQ.mp<|show(vj "dict" ⟨x,b,.dict es k,s⟩&&_)=true from h;rw[E4 h.1]at e;have E:=gQ.mp h.2;have aB:=gQ.mp E.2;have ba:=gQ.mp aB.2;exact .a9 (Gw X e) (Um E.1) (DG<|fz aB.1) (Ww<|fz ba.2)<|CR ba.1
  |_=>exact cq h
 |_=>exact cq h
theorem VV:∀V,mb K .none V=true->bz P (fw H) .none V:=λV h=>by
 cases V with
 |none=>exact .none
 |_=>exact cq h
theorem Qd(b:Ģ)(V:Ę)(h:mb K (.bool b) V=true):bz P (fw H) (.bool b) V:=by
 cases V with
 |bool c=>rw[fN.mp<|show(b==c)=true from h];exact .bool c
 |_=>exact cq h
theorem Rh(i:ĵ)(V:Ę)(h:mb K (.int i) V=true):bz P (fw H) (.int i) V:=by
 cases V with
 |int j t=>rw[fN.mp<|show(i==j)=true from h];exact .int j t
 |_=>exact cq h
theorem Qi(l:bv)(V:Ę)(h:mb K (.str l) V=true):bz P (fw H) (.str l) V:=by
 cases V with
 |str s t=>have h:=gQ.mp<|show(decide (l.length<=1000)&&s.cps.toList==l)=true from h;obtain rfl:s.cps.toList=l:=fN.mp h.2;exact .str _ t<|DG<|fz h.1
 |_=>exact cq h
theorem Lq{v:B}{l:Lm B}(u3:∀V,mb K v V=true->bz P (fw H) v V)(qO:∀Vs,oV K l Vs=true->bB P (fw H) l Vs)(Vs:Lm Ę)(h:oV K (v::l) Vs=true):bB P (fw H) (v::l) Vs:=by
 cases Vs with
 |nil=>exact cq h
 |cons V t=>have h:=gQ.mp<|show(mb K v V&&oV K l t)=true from h;exact .cons (u3 _ h.1)<|qO _ h.2
theorem ET{v:B}{V:Ę}:mb K v V=true->bz P (fw H) v V:=B.rec (motive_1:=λv=>∀V,mb K v V=true->bz P (fw H) v V) (motive_2:=λl=>∀Vs,oV K l Vs=true->bB P (fw H) l Vs) (motive_3:=λ_=>True) (motive_4:=λ_=>True) (VV X) (Qd X) (Rh X) (Qi X) (λ_ ar=>YB X ar) (λ_ _ _ h=>cq h) (λl _=>TZ X l) (λ_ _ h=>cq h) (λ_ _ _ h=>cq h) (λVs h=>by rw[fZ.mp h];exact .nil) (λ_ _ u3 qO=>Lq X u3 qO) trivial (λ_ _ _ _=>trivial) (λ_ _ _ _=>trivial) v V
theorem WA{l:Lm B}:∀{Vs:Lm Ę},oV K l Vs=true->bB P (fw H) l Vs:=by
 induction l with
 |nil=>intro Vs h;rw[fZ.mp h];exact .nil
 |cons v l ar=>exact λh=>Lq X (λ_=>ET X) (λ_=>ar) _ h
end
def Fu (x:Str) (v:Ę):Ģ:=match v with|.str y _=>y==x|_=>false
def Lb (K:Frag) (nQ:Ę) (x:Str):Ģ:=match nQ with
 |.ref c=>mO (K.lookup c) λo=>match o.data with
  |.fields vs=>mO vs[1]? (Fu x)
  |_=>false
 |_=>false
theorem WL{K:Frag}{H:Heap}(X:K.In H){nQ:Ę}{x:Str}(h:Lb K nQ x=true):H.CodeRec nQ x:=by
 cases nQ with
 |ref c=>
  obtain⟨o,e,h⟩:=sY<|show mO (K.lookup c) _=true from h;cases o with|mk a b d s=>cases d with
  |fields vs=>
   obtain⟨y,a8,h⟩:=sY<|show mO vs[1]? (Fu x)=true from h;cases y with
   |str y t=>exact⟨c,_,vs,t,rfl,X _ _ e,rfl,by rw[a8,fN.mp<|show(y==x)=true from h]⟩
   |_=>exact cq h
  |_=>exact cq h
 |_=>exact cq h
def YV (K:Frag) (ov:Ę):Ĳ (Lm Ę):=match ov with
 |.none=>some []
 |.ref T=>(ur K "tuple" T).map (·.1)
 |_=>none
def tz (f:Ĵ):String×Ę×Ę×Ę:=Kv.getD f ("",N,N,N)
def wc (l:Lm (Str×NameKind)) (x:Str):Ģ:=l.lookup x==some .local||l.lookup x==some .cell
def OH (f:Ĵ):Ģ:=let st:=pQ f;let Ig:=(b9 st).names;let aj:Lm Str:=(k8 st).args.map (·.arg);let hQ:=zg f;(b9 st).kind==.function&&(!(b9 st).isCoroutine&&(!(b9 st).isGenerator&&(Lb rX (tz f).2.2.1 (Str.ofString (tz f).1)&&(C5 (k8 st)&&(decide aj.Nodup&&(aj.all (wc Ig)&&(Ig.all (λy=> !(y.2==.free))&&((B7 f).all (λy=>(decide<|y.2<aj.length->aj[y.2]?=some y.1)&&decide (y.2<hQ.lg))&&(decide (aj.length=hQ.np)&&(decide ((B7 f).map (·.2)).Nodup&&mO (YV rX (tz f).2.1) λcP=>decide (cP.length<=aj.length)&&oV rX hQ.dflt cP))))))))))
theorem VU:(List.range 101).all OH=true:=by kernel_rfl
def ù (f:Ĵ):Ģ:=ts x4 200 (spT f) (qj<|pQ f) (zg f).body
theorem Zv:(List.range 101).all ù=true:=by kernel_rfl
def PS (P:Frag) (be a:Ĵ):Ģ:=storeOk P (oq.getD be 0) (me a)&&attrOk P (oq.getD be 0) (me a)
theorem He(P:Params):((List.range 7).all λbe=>(List.range 33).all λa=>PS (na P) be a)=true:=by kernel_rfl
theorem WF(P:Params):(FA.all λx=>oE P x.1==some (.ref<|fI x.2)&&keepIn (na P) (.ref<|fI x.2))=true:=by kernel_rfl
theorem SU(P:Params):(LJ.all λx=>mO (oE P x.1)<|mb rX x.2)=true:=by kernel_rfl
def Fy (P:Frag) (be:Ĵ):Ģ:=match zV be with
 |some f=>decide (be<7)&&makesIn P (oq.getD be 0)&&findIn P (.ref<|oq.getD be 0) "__init__"==some (some<|.ref<|fI f)&&typeIn P (.ref<|fI f)==some (.type "function")
 |none=>true
theorem QU(P:Params):(GW.all λx=>oE P x.1==some (.ref<|oq.getD x.2 0)&&keepIn (na P) (.ref<|oq.getD x.2 0)&&Fy (na P) x.2)=true:=by kernel_rfl
def Jn (P:Frag) (name:Str) (be f:Ĵ):Ģ:=keepIn P (.ref<|fI f)&&findIn P (.ref<|oq.getD be 0) "__getattribute__"==some (some<|.builtin "object.__getattribute__")&&findIn P (.ref<|oq.getD be 0) "__getattr__"==some none&&findIn P (.ref<|oq.getD be 0) name==some (some<|.ref<|fI f)&&typeIn P (.ref<|fI f)==some (.type "function")
def Q4 (P:Frag) (m:Ĵ) (name:Str):Ģ:=(List.range 7).all λbe=>match Az be m with|some f=>Jn P name be f|none=>true
theorem P4(P:Params):((List.range 10).all λm=>Q4 (na P) m<|r0.getD m Str.empty)=true:=by kernel_rfl
def By (x:Str):Ģ:= !(x.cps.toList.head?==some 0)
theorem P2:(r0.all λx=>By x&& !nH.contains x)=true:=by kernel_rfl
theorem EH:(decide nH.Nodup&&nH.all By&&decide (nH.length=33))=true:=by kernel_rfl
theorem Sb(P:Params):([hR.len,.sorted,.tuple,.any,.all,.str,.int].all λb=>match pO b with|some nm=>(oE P nm).isNone&&u7 P nm==some (tA b)|none=>true)=true:=by kernel_rfl
theorem Kf(P:Params):((oE P "isinstance").isNone&&u7 P "isinstance"==some (.builtin "isinstance")&&((oE P "range").isNone&&u7 P "range"==some (.type "range")))=true:=by kernel_rfl
theorem k6{a b:Ģ}(h:(a&&b)=true):a=true/\b=true:=gQ.mp h
theorem IJ{aC cC:Type}[BEq aC][LawfulBEq aC]{x:aC}{y:cC}:∀{l:Lm (aC×cC)},l.lookup x=some y->(x,y)∈l
 |[],h=>by cases h
 |(a,b)::r,h=>by
  rw[kB]at h;split at h
  .rename_i q;cases h;rw[fN.mp q];exact .head _
  .exact .tail _<|IJ h
theorem DQ{aC cC:Type}[BEq aC][LawfulBEq aC]{l:Lm (aC×cC)}{p:aC×cC->Ģ}(h:l.all p=true){x:aC}{y:cC}(e:l.lookup x=some y):p (x,y)=true:=d6.mp h _<|IJ e
theorem qy{n:Ĵ}{p:Ĵ->Ģ}(h:(List.range n).all p=true){i:Ĵ}(aA:i<n):p i=true:=d6.mp h _<|lL.mpr aA
theorem EA{K aQ:Frag}{a:Addr}{o:Obj}(h:K.lookup a=some o):(K++aQ).lookup a=some o:=by rw[CX,h];rfl
theorem zJ{P:Params}{h:Heap}(X:(na P).In h):rX.In h:=λa o e=>X a o<|EA e
theorem Aq{a:Ĵ}(h:a<33):me a=nH.getD a Str.empty:=by unfold me;rw[bl h]
theorem vb{a:Ĵ}(h:¬a<33):me a=⟨#[0,a]⟩:=by unfold me;rw[bt h]
theorem XV:nH.Nodup:=by have:=EH;simp only[eW,jD]at this;exact this.1.1
theorem Ke:∀x∈nH,By x=true:=by have:=EH;simp only[eW,jD]at this;exact d6.mp this.1.2
theorem Eu:nH.length=33:=by have:=EH;simp only[eW,jD]at this;exact this.2
theorem A_{a:Ĵ}(h:a<33):me a∈nH:=by rw[Aq h,lN,fl<|by rw[Eu];exact h];exact w_ _
theorem UT(a b:Ĵ)(h:me a=me b):a=b:=by
 by_cases ak:a<33<;>by_cases av:b<33
 .rw[Aq ak,Aq av,lN,lN,fl (by rw[Eu];exact ak),fl<|by rw[Eu];exact av]at h;exact(Co XV).mp h
 .have:=Ke _<|A_ ak;rw[h,vb av]at this;cases this
 .have:=Ke _<|A_ av;rw[<-h,vb ak]at this;cases this
 .rw[vb ak,vb av]at h;cases h;rfl
theorem Yg{x:Str}(h:x∈r0)(a:Ĵ):me a≠x:=by
 have:=d6.mp P2 x h;simp only[eW,j2]at this;obtain⟨G,E⟩:=this;intro e;by_cases ak:a<33
 .have:=A_ ak;rw[e]at this;rw[zY.mpr this]at E;cases E
 .rw[vb ak]at e;rw[<-e]at G;cases G
noncomputable abbrev base (w:World) (H:Heap) (os:OsState) (aI:Around->Prop):cb:={prog:=fk,w:=w,N:=⟨me,λi=>oq.getD i 0⟩,H:=H,os:=os,aI:=aI,ns:=[],cx:=λ_=>false,b5:=λ_=>false,kD:=λ_=>false,gY:=oE w.params,kh:=u7 w.params,K:=na w.params}
section
variable{w:World}{H:Heap}{os:OsState}{aI:Around->Prop}
noncomputable abbrev Jo (w:World) (h:Heap):Prop:=∀b o,(i' w.params).get? b=some o->h.get? b=some o
theorem Pl(cB:Jo w H):(base w H os aI).Ok where
 sys:=by obtain⟨o,h⟩:=g2.mp (show((i' w.params).get? sysModules).isSome=true by kernel_rfl);exact⟨o,cB _ _ h⟩
 rA:=(Iv w.params).keeps cB
 C8:=(Qq w.params).keeps cB
 ab:=Cf cB
 inj:=UT
 rg:=λx y i h=>by cases h
 iO:=λbe a G E=>by have:=qy (qy (He w.params) G) E;exact(gQ.mp this).1
 m1:=λbe a G E=>by have:=qy (qy (He w.params) G) E;exact(gQ.mp this).2
theorem RN{f:Ĵ}{hQ:bS}(h:mi.fns f=some hQ):f<101/\zg f=hQ:=by
 have aR:um[f]?=some hQ:=h;have ah:um.length=101:=by decide+kernel
 have:f<um.length:=(hb.mp aR).1;exact⟨uQ ‹_›,by unfold zg;rw[lN,aR];rfl⟩
theorem Il{l:Lm (Str×NameKind)}{x:Str}(h:wc l x=true):l.lookup x=some .local\/l.lookup x=some .cell:=by simpa[wc]using h
theorem Rw:∀{f:Ĵ},f<101->KF.lookup (fI f)=some (u8 f):=by
 intro f a7;have b6:(DX.length=101/\DX.Nodup):=by decide+kernel
 unfold KF;have inj:∀i j,i<101->j<101->fI i=fI j->i=j:=λi j aA b8 e=>by unfold fI at e;rw[lN,lN,fl<|uQ ‹_›,fl<|uQ ‹_›]at e;exact(Co b6.2).mp e
 have m6:∀l:Lm Ĵ,(∀i∈l,i<101)->f∈l->(l.map λg=>(fI g,u8 g)).lookup (fI f)=some (u8 f):=by
  intro l;induction l with
  |nil=>intro _ h;cases h
  |cons g r ar=>
   intro ah aN;rw[fx,kB];cases q:(fI f==fI g)with
   |true=>rw[inj f g a7 (ah g<|.head _)<|fN.mp q]
   |false=>
    rcases eJ.mp aN with rfl|aN
    .simp at q
    .exact ar (λi aA=>ah i<|.tail _ aA) aN
 exact m6 _ (λi aA=>lL.mp aA)<|lL.mpr a7
theorem NY(cB:Jo w H):Md (base w H os aI) x4 fI spT where
 ok:=Pl cB
 an:=rfl
 defs:=λf hQ e=>by
  obtain⟨a7,rfl⟩:=RN e;have h:=qy VU a7;have ap:=qy Zv a7;have h:=k6 h;have G:=fN.mp h.1;have h:=k6 h.2;have E:=CR h.1;have h:=k6 h.2;have aB:=CR h.1;have h:=k6 h.2;have ba:=h.1;have h:=k6 h.2;have cO:=h.1;have h:=k6 h.2;have d2:=fz h.1;have h:=k6 h.2;have fp:=h.1;have h:=k6 h.2;have qI:=h.1;have h:=k6 h.2;have ei:=h.1;have h:=k6 h.2;have sq:=fz h.1;have h:=k6 h.2;have sJ:=fz h.1;obtain⟨cP,jG,oQ⟩:=sY h.2;clear h;have oQ:=k6 oQ;have X:=Cf cB;refine⟨_,qj<|pQ f,(k8<|pQ f).args.map (·.arg),cP,⟨⟨u8 f,X _ _<|EA<|EA<|Rw a7,rfl⟩,rfl,rfl,rfl,rfl,G,E,aB,(lim w.params).keeps cB,WL (zJ X) ba,cO,rfl,d2,?_,WA (zJ X) oQ.2,fz oQ.1,?_,?_,?_,?_,?_,?_⟩,sq,ap,sJ⟩
  .show((tz f).2.1=.none/\cP=[])\/dD λT o k=>dY ((tz f).2.1=.ref T) _ _;revert jG;cases(tz f).2.1 with
   |none=>intro jG;cases jG;exact .inl ⟨rfl,rfl⟩
   |ref T=>intro jG;obtain⟨⟨l,k⟩,br,rfl⟩:=yY.mp<|show(ur rX "tuple" T).map (·.1)=some cP from jG;exact .inr ⟨T,_,k,rfl,zJ X _ _<|K7 br,rfl⟩
   |_=>exact λh=>b4 h
  .exact λn am=>Il<|d6.mp fp n am
  .intro y a2 q;have:=d6.mp qI y a2;rw[q]at this;cases this
  .intro x i ay;have:=k6<|d6.mp ei _<|mem_of_lookup ay;exact⟨fz this.1,fz this.2⟩
  .intro x ay;exact fN.mp ay
  .intro x ay;have:wc (b9<|pQ f).names x=true:=by unfold wc;simpa[fr.b5,spT]using ay
   exact Il this
  .intro x ay;have:(true&&(b9<|pQ f).names.lookup x==some .cell)=true:=ay;simpa using this
 pv:=λx g e=>by have:=DQ (WF w.params) e;simp only[eW,fN]at this;exact this
 ph:=λx v e=>by obtain⟨V,q,h⟩:=sY<|DQ (SU w.params) e;exact⟨V,q,ET (zJ<|Cf cB) h⟩
 gl:=λx be e=>by have:=DQ (QU w.params) e;simp only[eW,fN]at this;obtain⟨⟨G,E⟩,aB⟩:=this;refine⟨G,E,λf a7=>?_⟩;have jX:zV be=some f:=a7;unfold Fy at aB;rw[jX]at aB;simp only[eW,fN,jD]at aB;exact⟨aB.1.1.1,aB.1.1.2,aB.1.2,aB.2⟩
 qd:=λm name e=>by
  have bx:r0[m]?=some name:=e;have aN:m<10:=(hb.mp bx).1;have jR:name∈r0:=ib bx;refine⟨λa=>Yg jR a,λbe f a7=>?_⟩;have jX:Az be m=some f:=a7;have jA:be<7:=by obtain⟨x,G,E⟩:=yY.mp jX;clear jX;have aB:=d6.mp (rfl:(Jb.all λx=>Nat.blt x.1 7)=true) x<|ue G;have ba:(Nat.beq x.1 be&&Nat.beq x.2.1 m)=true:=r1 (p:=λx:Ĵ×Ĵ×Ĵ=>Nat.beq x.1 be&&Nat.beq x.2.1 m) G;rw[<-Nat.eq_of_beq_eq_true (k6 ba).1];exact iK aB
  have:=qy (qy (P4 w.params) aN) jA;rw[jX]at this;have q:r0.getD m Str.empty=name:=by rw[lN,bx];rfl
  rw[q]at this;unfold Jn at this;simp only[eW,fN]at this;exact⟨this.1.1.1.1,this.1.1.1.2,this.1.1.2,this.1.2,this.2⟩
 bi:=λfi nm e=>by have h:=d6.mp (Sb w.params) fi (by cases fi<;>first|decide|cases e);rw[e]at h;simp only[eW,fN,pU]at h;exact h
 inst:=by have h:=Kf w.params;simp only[eW,fN,pU]at h;exact h.1
 eA:=by have h:=Kf w.params;simp only[eW,fN,pU]at h;exact h.2
end
def Answers:Prop:=∀l:Lm ĵ,bd 100 100 [.lst<|l.map .int] [] λv _=>v=.bool true
set_option tactic.hygienic true in
theorem Lv{H:Heap}{a:Addr}{o:Obj}(h:fw H a=.a4 o):H.get? a=some o:=by
 unfold fw at h;split at h
 .rename_i cu e;cases h;exact e
 .cases h
theorem D4(H:Heap)(a:Addr):fw H a=.none\/∃o,fw H a=.a4 o:=by
 unfold fw;split
 .exact .inr ⟨_,rfl⟩
 .exact .inl rfl
theorem XA(P:Params)(N:g1)(s:Qj)(d5:s.gens=#[]):Inv P N s.heap s.os (fw s.heap) [] s where
 alloc:=λa h=>by
  rcases D4 s.heap a with e|⟨o,e⟩
  .exact absurd e h
  .rw[Lv e];rfl
 uniq:=λa b e h=>by rcases D4 s.heap a with q|⟨o,q⟩<;>rw[q]at h<;>cases h
 a4:=λa o e=>Lv e
 store:=λn cp h=>by cases h
 base:=λa o e=>by unfold fw;rw[e]
 gens:=d5
 hJ:=rfl
 gD:=λa n h=>by rcases D4 s.heap a with q|⟨o,q⟩<;>rw[q]at h<;>rcases h with h|h<;>cases h
theorem SP{P:Params}{h:Heap}{l:Lm ĵ}:∀{vs:Lm Ę},WellAll P h vs (l.map .int)->bB P (fw h) (l.map .int) vs:=by
 induction l with
 |nil=>intro vs h;cases h;exact .nil
 |cons i l ar=>intro vs h;cases h with|cons a r=>cases a;exact .cons (.int i _)<|ar r
theorem ú:PySem.W.same (.bool true) (.bool true)=true:=by decide+kernel
theorem ó:s5 callerA 100:=⟨rfl,by decide,by decide⟩
theorem ZM(w:World):oE w.params "law"=some (.ref<|fI 100):=by kernel_rfl
theorem NB(Dg:Answers):WalkO nM loose (λ_ _=>True) Kept iR.row.toRowW oN [] (λf vs=>PySem.call f vs):=by
 intro w eO bs gY kh cX cB a o xu nQ doc ĥ ĉ az bg ą ī rA RS args vals as Ga Ď ħ UY ĕ;obtain⟨sF,ae⟩:=pre_splitW Ga;clear Ga;obtain⟨d,r,rfl,Fj,bm⟩:=hasAllW_cons sF;clear sF;obtain rfl:=hasAllW_nil bm;obtain⟨bM,rfl,wJ⟩:=hasW_list Fj;clear Fj;obtain⟨l,rfl⟩:=items_int wJ;clear wJ;have ah:l.length<=63:=by
  have gX:WTm.holds iR.row.records (.and (.not (.lt (.lit<|.int 63)<|.len<|.arg 0))<|.lit<|.bool true) {args:=[WData.list<|l.map .int]}=true:=ae;have e:WTm.value iR.row.records (.lt (.lit<|.int 63)<|.len<|.arg 0) {args:=[WData.list<|l.map .int]}=some (.bool<|decide<|(63:ĵ)<((l.map WData.int).length:ĵ)):=rfl;unfold WTm.holds at gX;by_cases q:(63:ĵ)<((l.map WData.int).length:ĵ)
  .rw[dQ q]at e;have a8:WTm.value iR.row.records (.not (.lt (.lit<|.int 63)<|.len<|.arg 0)) {args:=[WData.list<|l.map .int]}=some (.bool false):=by rw[WTm.value,e];rfl
   rw[WTm.value,a8]at gX;cases gX
  .rw[bR]at q;omega
 have YU:gY=oE w.params:=by funext x;exact Heap.Ns.agree cX.T.g ((Iv w.params).keeps cB) x
 have ak:a=fI 100:=by rw[YU]at rA;have E:=ZM w;have aB:=rA.symm.trans E;cases aB;rfl
 subst ak;cases UY with
 |cons G E=>
  cases E;cases G with
  |list m1 iP=>
   refine wpAny_call ?_;have W:=NY (w:=w) (H:=bs.heap) (os:=bs.os) (aI:=λ_=>True) cB;have g':(l.map B.int).length<=a3:=by rw[bR];unfold a3;exact fK ‹_›
   refine OB W 100 callerA ó 100 bs (fw bs.heap) [] [.lst<|l.map .int] _ _ _ (XA _ _ bs RS) (.cons (.lst (by unfold fw;rw[m1]) (SP iP) g') .nil) (Dg l) λv bE af V aP aq dk x co=>?_;subst af;cases co;refine GoodW.toG ⟨.inl ⟨_,.bool true,[],rfl,raisesW_false allW_false_nil,.bool _,?_,λ_=>⟨.nil,λ_ h=>by cases h⟩⟩,λb o h=>dk.a4 b o<|dk.base b o h,dk.hJ,dk.gens⟩;exact postW_of (r:=iR.row.toRowW) (X:=true) rfl (by show WTm.value _ (.eq .res<|.lit<|.bool true) _=_;rw[WTm.value,WTm.value,WTm.value];simp only[ú]) rfl
theorem promised:iR.row.toRowW.promised:=⟨[.list []],by decide+kernel,by decide+kernel⟩
theorem VB(Dg:Answers):iR.Holds:=head promised<|NB Dg
theorem fin:iR.Holds:=VB Rm
end
end Up
theorem PySem.Challenge.cw_up0039_01_holds : PySem.Challenge.rw_up0039_01.Holds :=
  Up.fin
