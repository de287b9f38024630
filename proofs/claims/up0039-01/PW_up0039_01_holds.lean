import PyProof.Rows.All
import Wide.All
import OpenK.AllK
import Wide.FinOn
import Lean
import PySem.Challenge.RW_up0039_01
set_option Elab.async false
set_option maxRecDepth 100000
set_option maxHeartbeats 0
set_option linter.unusedVariables false
set_option linter.unusedSectionVars false
set_option linter.unusedSimpArgs false
set_option compiler.extract_closed false
set_option hygiene false
noncomputable section
namespace Up.Internal
local macro_rules |`(def $i:declId $s:optDeclSig $v:declVal)=>`(noncomputable def $i:declId $s:optDeclSig $v:declVal)
abbrev IF:=List
abbrev Nd:=PySem.Shared
abbrev Ĉ:=PySem.Value
abbrev ĉ:=Bool
abbrev Ċ:=Option
abbrev ċ:=PySem.Expr
abbrev Č:=Nat
abbrev č:=Int
abbrev aI:=@Nat.le_trans
abbrev bd:=@PySem.wpAny_bind
abbrev bl:=@if_pos
abbrev bm:=@if_neg
abbrev bH:=@congrArg
abbrev bV:=@List.length_map
abbrev b4:=@PySem.wpAny_pure
abbrev cV:=@Option.some.inj
abbrev cU:=@List.mem_singleton
abbrev cZ:=@List.map_append
abbrev da:=@List.length_append
abbrev c':=@Nat.succ_le_succ
abbrev dq:=@List.mem_map
abbrev dA:=@Nat.le_refl
abbrev dK:=@decide_eq_true
abbrev dT:=@Bool.false_ne_true
abbrev d':=@List.all_eq_true
abbrev eC:=@decide_eq_false
abbrev eD:=@List.mem_cons
abbrev eI:=@List.size_toArray
abbrev eF:=@LawfulBEq.eq_of_beq
abbrev e2:=@Bool.and_eq_true
abbrev fe:=@of_decide_eq_true
abbrev fq:=@List.getElem?_eq_getElem
abbrev fx:=@List.mem_map_of_mem
abbrev fL:=@Nat.add_le_add_right
abbrev fM:=@beq_iff_eq
abbrev fQ:=@Nat.le_of_eq
abbrev fW:=@List.isEmpty_iff
abbrev f2:=@List.map_map
abbrev f_:=@Nat.zero_le
abbrev gf:=@List.map_cons
abbrev gh:=@List.mem_append
abbrev gu:=@Nat.add_le_add_left
abbrev gC:=@List.mem_filter
abbrev gA:=@Bool.and_eq_true_iff
abbrev gH:=@Nat.lt_of_lt_of_le
abbrev gG:=@Nat.add_le_add
abbrev gK:=@Nat.ne_of_lt
abbrev gN:=@List.append_nil
abbrev gX:=@List.getElem?_map
abbrev gZ:=@PySem.Heap.get?_push_size
abbrev gY:=@PySem.wpAny_holding
abbrev g0:=@List.getElem?_eq_some_iff
abbrev ha:=@Option.isSome_iff_exists
abbrev hh:=@Nat.mul_le_mul_left
abbrev hH:=@Nat.lt_of_le_of_lt
abbrev hF:=@List.append_assoc
abbrev hQ:=@List.filter_cons
abbrev hK:=@List.nodup_cons
abbrev h4:=@Nat.le_of_ble_eq_true
abbrev io:=@Ne.symm
abbrev h':=@List.mem_of_getElem?
abbrev ik:=@PySem.Heap.get?_push_of_some
abbrev iG:=@Int.ofNat_lt
abbrev iJ:=@Nat.zero_add
abbrev iP:=@Nat.le_succ_of_le
abbrev iC:=@List.mem_append_right
abbrev jP:=@beq_self_eq_true
abbrev jS:=@List.mem_flatMap
abbrev jL:=@decide_eq_true_eq
abbrev kp:=@Nat.le_of_lt
abbrev kk:=@Bool.not_eq_true'
abbrev kc:=@Nat.le_succ
abbrev kl:=@congrFun
abbrev j5:=@PySem.Heap.lt_size
abbrev kz:=@List.mem_append_left
abbrev kO:=@List.lookup_cons
abbrev kG:=@PySem.sizeLine_eq
abbrev lj:=@Nat.le_of_succ_le
abbrev lC:=@List.mem_range
abbrev lH:=@List.getD_eq_getElem?_getD
abbrev lI:=@beq_eq_false_iff_ne
abbrev ln:=@PySem.wpAny_mono
abbrev l7:=@List.filter_append
abbrev mB:=@List.length_filter_le
abbrev l0:=@Bool.or_eq_true
abbrev nw:=@Int.natCast_nonneg
abbrev m4:=@List.nodup_append
abbrev nv:=@Nat.le_add_right
abbrev mH:=@decide_eq_false_iff_not
abbrev nl:=@List.length_cons
abbrev m9:=@Prod.ext
abbrev m7:=@Nat.lt_irrefl
abbrev m6:=@Nat.lt_succ_of_lt
abbrev nf:=@PySem.wpAny_call_entry
abbrev nz:=@List.mem_toArray
abbrev nn:=@List.getElem?_set_ne
abbrev nV:=@Nat.succ_pos
abbrev px:=@List.getElem?_append_left
abbrev oY:=@List.length_singleton
abbrev pa:=@List.all_map
abbrev o7:=@List.getElem?_append_right
abbrev o_:=@Int.ofNat_eq_zero
abbrev qm:=@List.flatMap_cons
abbrev qb:=@Nat.add_comm
abbrev qt:=@Bool.or_eq_false_iff
abbrev pF:=@Nat.lt_succ_self
abbrev pV:=@PySem.wpAny_standAt
abbrev qr:=@Option.isNone_iff_eq_none
abbrev qT:=@Nat.add_assoc
abbrev rn:=@Nat.succ_add_eq_add_succ
abbrev rH:=@Nat.le_of_not_lt
abbrev rq:=@of_decide_eq_false
abbrev rb:=@Nat.lt_trans
abbrev qU:=@List.nodup_nil
abbrev rk:=@Nat.not_lt
abbrev ri:=@PySem.wpAny_Name
abbrev qN:=@PySem.wpAny_truthy_bool
abbrev rg:=@PyProof.Rows.slot_tuple_getitem
abbrev qX:=@List.getElem?_set
abbrev rG:=@if_true
abbrev qV:=@List.mem_cons_of_mem
abbrev rT:=@PySem.Heap.size_push
abbrev s0:=@List.cons.inj
abbrev tJ:=@List.pairwise_cons
abbrev t1:=@List.flatMap_append
abbrev tp:=@List.flatMap_singleton
abbrev sx:=@List.cons.injEq
abbrev t3:=@List.length_range
abbrev rZ:=@Int.sub_zero
abbrev su:=@Int.toNat_natCast
abbrev r8:=@List.take_of_length_le
abbrev sg:=@Nat.mod_lt
abbrev sE:=@List.any_eq_true
abbrev r':=@Nat.sub_le
abbrev t2:=@Bool.and_false
abbrev t0:=@List.all_cons
abbrev tf:=@PySem.wpAny_rule
abbrev tA:=@Bool.false_eq_true
abbrev sB:=@if_false
abbrev tm:=@PySem.Heap.get?_update_self
abbrev so:=@PySem.wpAny_callSpecial?_slot
abbrev tk:=@List.mem_cons_self
abbrev sj:=@PySem.Heap.get?_push_ne
abbrev wg:=@Nat.le_of_succ_le_succ
abbrev uI:=@List.filter_eq_nil_iff
abbrev we:=@Nat.sub_self
abbrev uS:=@List.length_take_of_le
abbrev vw:=@Nat.le_antisymm
abbrev uO:=@Int.le_trans
abbrev v_:=@Int.ofNat_le
abbrev uc:=@List.lt_trans
abbrev u2:=@decide_eq_decide
abbrev t9:=@List.length_replicate
abbrev wE:=@Nat.succ_lt_succ
abbrev uZ:=@List.length_drop
abbrev vA:=@List.getElem?_drop
abbrev uX:=@Nat.ne_of_beq_eq_false
abbrev uW:=@PySem.Heap.SameBut.update
abbrev wI:=@PySem.wpAny_sequenceKey
abbrev vy:=@PySem.wpAny_newObj_type
abbrev ua:=@List.find?_some
abbrev vJ:=@PySem.Calls.spliced_cons
abbrev vV:=@List.not_lt
abbrev wi:=@PySem.wpAny_newList
abbrev wv:=@PySem.Heap.size_update
abbrev wX:=@Nat.le_of_lt_succ
abbrev xb:=@Nat.mul_add
abbrev w8:=@List.getElem_mem
abbrev x':=@List.not_mem_nil
abbrev xu:=@List.length_nil
abbrev zE:=@Nat.lt_succ_of_le
abbrev xz:=@List.drop_eq_getElem_cons
abbrev zy:=@Nat.add_right_comm
abbrev zt:=@List.take_add_one
abbrev xd:=@Nat.not_lt_zero
abbrev ze:=@Nat.ne_of_gt
abbrev xC:=@Int.eq_ofNat_of_zero_le
abbrev y4:=@List.lt_irrefl
abbrev x7:=@Bool.or_true
abbrev w_:=@List.pairwise_map
abbrev w1:=@List.map_replicate
abbrev zU:=@Nat.add_lt_add
abbrev zV:=@List.length_eq_zero_iff
abbrev zw:=@List.length_take
abbrev x_:=@Option.map_eq_some_iff
abbrev ye:=@PySem.wpAny_specialOf
abbrev zv:=@PySem.F.slot_tuple_hash
abbrev w2:=@List.findIdx?_cons
abbrev xP:=@List.mem_of_find?_eq_some
abbrev yP:=@PySem.wpAny_Call_method1_late
abbrev y':=@List.zip_cons_cons
abbrev Bj:=@List.getElem_inj
abbrev D5:=@List.flatMap_map
abbrev Em:=@Nat.add_sub_cancel_left
abbrev A4:=@List.filter_sublist
abbrev Cn:=@List.mem_reverse
abbrev DI:=@List.contains_iff_mem
abbrev Bf:=@Bool.not_eq_true
abbrev CW:=@List.getElem?_eq_none
abbrev Cm:=@List.mem_iff_getElem?
abbrev A6:=@List.mem_of_mem_take
abbrev BQ:=@Nat.min_le_left
abbrev AK:=@List.range_succ_eq_map
abbrev Aa:=@List.ext_getElem?
abbrev CI:=@PySem.slot_dict_contains
abbrev Cf:=@Int.negSucc_lt_zero
abbrev DV:=@List.dropLast_eq_take
abbrev z':=@PySem.Heap.IsSliceOf.new
abbrev A8:=@PySem.Calls.call_function_entry
abbrev CX:=@PySem.Calls.evalArgs_plain
abbrev DL:=@List.forIn_cons
abbrev Dj:=@PySem.Heap.get?_update_other
abbrev BZ:=@List.filterMap_cons
abbrev AL:=@Nat.sub_succ_lt_self
abbrev Ch:=@PySem.wpAny_comprehension_free
abbrev Ef:=@List.lookup_append
abbrev Db:=@Nat.add_sub_cancel'
set_option backward.match.sparseCases false
set_option genInjectivity false
set_option genSizeOf false
set_option genCtorIdx false
theorem rF{b:ĉ}{p:Prop}(h:cond b True p)(e:b=false):p:=by rw[e]at h;exact h
theorem aG{a b:Č}(e:Nat.ble a b=true):a<=b:=h4 e
theorem jN{a b:Č}(e:Nat.ble (a+1) b=true):a<b:=h4 e
theorem hb{a k l c:Č}(h:a+k<=c)(e:Nat.ble l k=true:=by rfl):a+l<=c:=aI (gu (aG e) _) h
theorem iY{a k l c:Č}(h:a+k<c)(e:Nat.ble l k=true:=by rfl):a+l<c:=hH (gu (aG e) _) h
theorem fY{a k l:Č}(h:a<=k)(e:Nat.ble k l=true:=by rfl):a<=l:=aI h<|aG e
theorem vD{a k l:Č}(h:a<k)(e:Nat.ble k l=true:=by rfl):a<l:=gH h<|aG e
theorem pu{a k l:Č}(h:a<k)(e:Nat.ble k (l+1)=true:=by rfl):a<=l:=wX<|gH h<|aG e
theorem Ac{a k l:Č}(h:a<=k)(e:Nat.ble (k+1) l=true:=by rfl):a<l:=hH h<|aG e
theorem æ{v n:Č}(h:(v:č)<(OfNat.ofNat n:č)):v<n:=iG.mp h
theorem b0{av:Type _}{z:av}{cR:Prop}(h:none=some z):cR:=Option.noConfusion rfl<|heq_of_eq h
theorem ly{av:Type _}{z:av}{cR:Prop}(h:some z=none):cR:=b0 h.symm
theorem cH{cR:Prop}(h:false=true):cR:=Bool.noConfusion h
theorem ig{cR:Prop}(h:true=false):cR:=Bool.noConfusion h
theorem DP{av:Type _}(f:av->Č){a b:av}{cR:Prop}(h:a=b)(n:(f a==f b)=false):cR:=by subst h;rw[jP]at n;cases n
inductive dX {il ii:Type} (P:il->ii->Prop):Prop|mk (a:il) (b:ii) (h:P a b):dX P
inductive dI {il ii ji:Type} (P:il->ii->ji->Prop):Prop|mk (a:il) (b:ii) (c:ji) (h:P a b c):dI P
inductive gV {il ii ji kK:Type} (P:il->ii->ji->kK->Prop):Prop|mk (a:il) (b:ii) (c:ji) (d:kK) (h:P a b c d):gV P
inductive tK {il ii ji kK mO:Type} (P:il->ii->ji->kK->mO->Prop):Prop|mk (a:il) (b:ii) (c:ji) (d:kK) (e:mO) (h:P a b c d e):tK P
inductive Qc {il ii ji kK mO p6:Type} (P:il->ii->ji->kK->mO->p6->Prop):Prop|mk (a:il) (b:ii) (c:ji) (d:kK) (e:mO) (f:p6) (h:P a b c d e f):Qc P
inductive Cc {il ii ji kK mO p6 wa:Type} (P:il->ii->ji->kK->mO->p6->wa->Prop):Prop|mk (a:il) (b:ii) (c:ji) (d:kK) (e:mO) (f:p6) (g:wa) (h:P a b c d e f g):Cc P
inductive ES {il ii ji kK mO p6 wa EH Fa JT Fx Fl:Type} (P:il->ii->ji->kK->mO->p6->wa->EH->Fa->JT->Fx->Fl->Prop):Prop|mk (a:il) (b:ii) (c:ji) (d:kK) (e:mO) (f:p6) (g:wa) (h:EH) (i:Fa) (j:JT) (k:Fx) (l:Fl) (h:P a b c d e f g h i j k l):ES P
inductive dJ (iK dp eh:Prop):Prop|mk (a:iK) (b:dp) (c:eh):dJ iK dp eh
inductive hU (iK dp eh fR:Prop):Prop|mk (a:iK) (b:dp) (c:eh) (d:fR):hU iK dp eh fR
structure qG(iK dp eh fR iv:Prop):Prop where mk::(a:iK) (b:dp) (c:eh) (d:fR) (e:iv)
inductive rN (iK dp eh fR iv mT:Prop):Prop|mk (a:iK) (b:dp) (c:eh) (d:fR) (e:iv) (f:mT):rN iK dp eh fR iv mT
inductive G2 (iK dp eh fR iv mT qj:Prop):Prop|mk (a:iK) (b:dp) (c:eh) (d:fR) (e:iv) (f:mT) (g:qj):G2 iK dp eh fR iv mT qj
inductive Kz (iK dp eh fR iv mT qj vW:Prop):Prop|mk (a:iK) (b:dp) (c:eh) (d:fR) (e:iv) (f:mT) (g:qj) (h:vW):Kz iK dp eh fR iv mT qj vW
inductive GN (iK dp eh fR iv mT qj vW FE GY Jx HE:Prop):Prop|mk (a:iK) (b:dp) (c:eh) (d:fR) (e:iv) (f:mT) (g:qj) (h:vW) (i:FE) (j:GY) (k:Jx) (l:HE):GN iK dp eh fR iv mT qj vW FE GY Jx HE
abbrev bx:=IF Č
set_option genInjectivity true in
inductive B where
 |none
 |bool (b:Bool)
 |int (i:Int)
 |str (s:bx)
 |tup (l:List B)
 |lst (l:List B)
 |bb (l:List (B×B))
 |ref (n:Nat)
 |ez (a b:Int)
def B.ctorIdx (x:B):Č:=B.casesOn (motive_1:=λ_=>Č) x 0 (λ_=>1) (λ_=>2) (λ_=>3) (λ_=>4) (λ_=>5) (λ_=>6) (λ_=>7)<|λ_ _=>8
theorem B.GL{b:B}(h:b.ctorIdx=0):b=.none:=by induction b using B.casesOn<;>first|rfl|cases h
theorem lW{a b:B}{cR:Prop}(h:a=b)(n:(a.ctorIdx==b.ctorIdx)=false):cR:=DP _ h n
mutual
inductive kq where
 |add|sub|mul|fdiv|mod|band
inductive hP where
 |eq|ne|lt|le|gt|ge|isin|f3|is|pC
inductive f7 where
 |len|sorted|tuple|any|all|qf|str|int|index|get
end
def D6 {T:Type} (f:T->Č) (l:IF T) (e:∀a,l[f a]?=some a):DecidableEq T:=λa b=>if h:f a=f b then isTrue (cV<|(e a).symm.trans<|h▸e b)else isFalse λq=>h<|q▸rfl
def kq.ctorIdx (x:kq):Č:=kq.casesOn x 0 1 2 3 4 5
noncomputable instance:DecidableEq kq:=D6 kq.ctorIdx [.add,.sub,.mul,.fdiv,.mod,.band] λa=>kq.casesOn a rfl rfl rfl rfl rfl rfl
def hP.ctorIdx (x:hP):Č:=hP.casesOn x 0 1 2 3 4 5 6 7 8 9
noncomputable instance:DecidableEq hP:=D6 hP.ctorIdx [.eq,.ne,.lt,.le,.gt,.ge,.isin,.f3,.is,.pC] λa=>hP.casesOn a rfl rfl rfl rfl rfl rfl rfl rfl rfl rfl
def f7.ctorIdx (x:f7):Č:=f7.casesOn x 0 1 2 3 4 5 6 7 8 9
noncomputable instance:DecidableEq f7:=D6 f7.ctorIdx [.len,.sorted,.tuple,.any,.all,.qf,.str,.int,.index,.get] λa=>f7.casesOn a rfl rfl rfl rfl rfl rfl rfl rfl rfl rfl
inductive a2 where
 |k (v:B)
 |v (i:Nat)
 |at(e:a2) (a:Nat)
 |ao (e i:a2)
 |aL (e:a2) (lo aB st:Option Int)
 |tU (e i:a2)
 |box (e:a2)
 |tup (l:List a2)
 |lst (l:List a2)
 |bb (l:List (a2×a2))
 |bin (o:kq) (a b:a2)
 |not (e:a2)
 |cmp (a:a2) (l:List (hP×a2))
 |an (l:List a2)
 |or (l:List a2)
 |ite (c t e:a2)
 |call (f:Nat) (l:List a2)
 |new (c:Nat) (l:List a2)
 |cQ (o:a2) (m:Nat) (l:List a2)
 |bi (b:f7) (l:List a2)
 |ez (a b:a2)
 |comp (f6:a2) (bk:Bool) (aS:List Nat) (it:a2) (ifs:List a2)
 |bad
def a2.ctorIdx (x:a2):Č:=a2.casesOn (motive_1:=λ_=>Č) x (λ_=>0) (λ_=>1) (λ_ _=>2) (λ_ _=>3) (λ_ _ _ _=>4) (λ_ _=>5) (λ_=>6) (λ_=>7) (λ_=>8) (λ_=>9) (λ_ _ _=>10) (λ_=>11) (λ_ _=>12) (λ_=>13) (λ_=>14) (λ_ _ _=>15) (λ_ _=>16) (λ_ _=>17) (λ_ _ _=>18) (λ_ _=>19) (λ_ _=>20) (λ_ _ _ _ _=>21) 22
inductive dF where
 |set (i:Nat) (e:a2)
 |own (i:Nat) (e:a2)
 |ho (l:List Nat) (e:a2)
 |fX (o:a2) (a:Nat) (e:a2)
 |jo (o:a2) (a:Nat) (e:a2)
 |nu (o i e:a2)
 |jA (i:Nat) (k e:a2)
 |app (i:Nat) (e:a2)
 |ext (i:Nat) (e:a2)
 |nj (o:a2) (e:a2)
 |ex (e:a2)
 |iff (c:a2) (t e:List dF)
 |for (bk:Bool) (aS:List Nat) (it:a2) (b:List dF)
 |ret (e:a2)
 |a5 (i:Nat)
 |bad
def dF.ctorIdx (x:dF):Č:=dF.casesOn (motive_1:=λ_=>Č) x (λ_ _=>0) (λ_ _=>1) (λ_ _=>2) (λ_ _ _=>3) (λ_ _ _=>4) (λ_ _ _=>5) (λ_ _ _=>6) (λ_ _=>7) (λ_ _=>8) (λ_ _=>9) (λ_=>10) (λ_ _ _=>11) (λ_ _ _ _=>12) (λ_=>13) (λ_=>14) 15
inductive co where
 |un
 |val (v:B)
 |ol (l:List B)
 |od (l:List (B×B))
def co.ctorIdx (x:co):Č:=co.casesOn x 0 (λ_=>1) (λ_=>2)<|λ_=>3
inductive c5 where
 |ins (c:Nat) (a:List (Nat×B))
 |ls (l:List B)
 |cP (l:List (B×B))
def c5.ctorIdx (x:c5):Č:=c5.casesOn x (λ_ _=>0) (λ_=>1)<|λ_=>2
abbrev St:=IF c5
abbrev aJ:=IF co
structure bS where
 np:Nat
 lO:Nat
 dflt:List B
 body:List dF
structure WR where
 fns:Nat->Option bS
 meths:Nat->Nat->Option Nat
 A7:Nat->Option Nat
def jH (f:B->B->Ċ ĉ):IF B->IF B->Ċ ĉ
 |[],[]=>some true
 |[],_::_=>some false
 |_::_,[]=>some false
 |a::r,b::t=>(f a b).bind λx=>(jH f r t).map λy=>x&&y
def ml (g:IF B->IF B->Ċ ĉ) (x y:B):Ċ ĉ:=match x with
 |.none=>(match y with|.none=>some true|.int _=>some false|.str _=>some false|.tup _=>some false|_=>none)
 |.bool a=>(match y with|.bool b=>some (a==b)|_=>none)
 |.int a=>(match y with|.int b=>some (decide<|a=b)|.none=>some false|.str _=>some false|.tup _=>some false|_=>none)
 |.str a=>(match y with|.str b=>some (decide<|a=b)|.none=>some false|.int _=>some false|.tup _=>some false|_=>none)
 |.tup a=>(match y with|.tup b=>g a b|.none=>some false|.int _=>some false|.str _=>some false|_=>none)
 |.lst a=>(match y with|.lst b=>g a b|_=>none)
 |_=>none
def g7:Č->B->B->Ċ ĉ
 |0=>ml λ_ _=>none
 |n+1=>ml<|jH<|g7 n
noncomputable abbrev fj:B->B->Ċ ĉ:=g7 16
def js:B->Ċ ĉ
 |.none=>some false
 |.bool b=>some b
 |.int i=>some<|decide<|i≠0
 |.str s=>some<|!s.isEmpty
 |.tup l=>some<|!l.isEmpty
 |.lst l=>some<|!l.isEmpty
 |_=>none
def hN (x:B):IF B->Ċ ĉ
 |[]=>some false
 |y::r=>(fj y x).bind λa=>(hN x r).map λb=>a||b
def fv (k:B):IF (B×B)->Ċ (Ċ B)
 |[]=>some none
 |(a,b)::r=>match fj a k with
  |some true=>some<|some b
  |some false=>fv k r
  |none=>none
def gU (k v:B):IF (B×B)->Ċ (List<|B×B)
 |[]=>some [(k,v)]
 |(a,b)::r=>match fj a k with
  |some true=>some<|(a,v)::r
  |some false=>(gU k v r).map ((a,b)::·)
  |none=>none
def eW:Č->B->ĉ
 |0=>λv=>match v with|.int _=>true|.str _=>true|_=>false
 |n+1=>λv=>match v with|.int _=>true|.str _=>true|.tup l=>l.all (eW n)|_=>false
def eH (k:B):Č:=match k with
 |.int _=>1
 |.str _=>2
 |.tup _=>if eW 6 k then 3 else 0
 |_=>0
def ep (k:B) (l:IF (B×B)):ĉ:=eH k !=0&&l.all λe=>eH e.1==eH k
def fE {dB:Type} (y:B) (k:č->Ċ dB):Ċ dB:=B.casesOn (motive_1:=λ_=>Ċ dB) y none (λ_=>none) k (λ_=>none) (λ_=>none) (λ_=>none) (λ_=>none) (λ_=>none)<|λ_ _=>none
def l2 {dB:Type} (y:B) (k:bx->Ċ dB):Ċ dB:=B.casesOn (motive_1:=λ_=>Ċ dB) y none (λ_=>none) (λ_=>none) k (λ_=>none) (λ_=>none) (λ_=>none) (λ_=>none)<|λ_ _=>none
def ta {dB:Type} (y:B) (k:IF B->Ċ dB):Ċ dB:=B.casesOn (motive_1:=λ_=>Ċ dB) y none (λ_=>none) (λ_=>none) (λ_=>none) k (λ_=>none) (λ_=>none) (λ_=>none)<|λ_ _=>none
def k8 {dB:Type} (y:B) (k:IF B->Ċ dB):Ċ dB:=B.casesOn (motive_1:=λ_=>Ċ dB) y none (λ_=>none) (λ_=>none) (λ_=>none) (λ_=>none) k (λ_=>none) (λ_=>none)<|λ_ _=>none
def sU {dB:Type} (y:B) (k:Ċ dB):Ċ dB:=if y.ctorIdx=0 then k else none
def contains (x:B) (c:B):Ċ ĉ:=match c with
 |.tup l=>hN x l
 |.lst l=>hN x l
 |.bb l=>if ep x l then(fv x l).map (·.isSome)else none
 |.str s=>l2 x λl=>(match l with|c::t=>(match t with|[]=>some (s.contains c)|_::_=>none)|[]=>none)
 |_=>none
def jX (i:č) (n:Č):Ċ Č:=if 0<=i then(if i.toNat<n then some i.toNat else none)else(if(-i).toNat<=n then some (n-(-i).toNat)else none)
def uL (l:IF B) (k:B):Ċ B:=fE k λi=>(jX i l.length).bind λj=>l[j]?
def Lu (l:bx) (k:B):Ċ B:=fE k λi=>(jX i l.length).bind λj=>(l[j]?).map λc=>.str [c]
def Cq (l:IF (B×B)) (k:B):Ċ B:=if ep k l then(fv k l).bind id else none
def Yx (l:IF B) (a b:Ċ č):Ċ B:=match b with
 |none=>(match a with|some i=>(match i with|.ofNat a=>if 1<=a/\a<=l.length then some (.tup<|l.drop a)else none|.negSucc _=>none)|none=>none)
 |some j=>(match a with|none=>(match j with|.negSucc n=>(match n with|0=>if l.isEmpty then none else some (.tup l.dropLast)|_+1=>none)|.ofNat _=>none)|some _=>none)
def T0 (l:IF B) (b d:Ċ č):Ċ B:=match d with
 |none=>(match b with|some i=>(match i with|.ofNat b=>some (.lst<|l.take b)|.negSucc _=>none)|none=>none)
 |some j=>(match b with|none=>(match j with|.negSucc n=>(match n with|0=>some (.lst l.reverse)|_+1=>none)|.ofNat _=>none)|some _=>none)
def rL (o:B) (a b d:Ċ č):Ċ B:=match o with
 |.tup l=>(match d with|none=>Yx l a b|some _=>none)
 |.lst l=>(match a with|none=>T0 l b d|some _=>none)
 |_=>none
def nK (n:Č) (l:IF av):IF av:=match n with
 |0=>[]
 |n+1=>l++nK n l
def lr (a b:Č):Č:=a&&&b
def a3:Č:=16777216
def i7 (n:Č) (x:av):Ċ av:=if n<=a3 then some x else none
def small (i:č):ĉ:=decide (-536870912<=i)&&decide (i<=536870912)
def rh (f:č->č->Ċ B) (x y:B):Ċ B:=fE x λa=>fE y<|f a
def bin (o:kq) (x y:B):Ċ B:=match o with
 |.add=>if x.ctorIdx=2 then rh (λa b=>some<|.int<|a+b) x y else if x.ctorIdx=4 then(ta x λa=>ta y λb=>if a.isEmpty||b.isEmpty then none else i7 (a.length+b.length) (.tup<|a++b))else k8 x λa=>k8 y λb=>i7 (a.length+b.length)<|.lst<|a++b
 |.sub=>rh (λa b=>some<|.int<|a-b) x y
 |.mul=>if x.ctorIdx=2 then rh (λa b=>if small a&&small b then some (.int<|a*b)else none) x y else k8 x λa=>fE y λn=>if small n then i7 (n.toNat*a.length) (.lst<|nK n.toNat a)else none
 |.fdiv=>rh (λa b=>if b≠0/\(small a&&small b)=true then some (.int<|Int.fdiv a b)else none) x y
 |.mod=>rh (λa b=>if b=0 then none else some (.int<|Int.fmod a b)) x y
 |.band=>rh (λa b=>match a with|.ofNat a=>(match b with|.ofNat b=>some (.int<|.ofNat<|lr a b)|.negSucc _=>none)|.negSucc _=>none) x y
def jj (a b:bx):ĉ:=decide<|a<b
def cmp (o:hP) (x y:B):Ċ ĉ:=match o with
 |.eq=>fj x y
 |.ne=>(fj x y).map (!·)
 |.lt=>fE x λa=>fE y λb=>some<|decide<|a<b
 |.le=>if x.ctorIdx=2 then(fE x λa=>fE y λb=>some<|decide<|a<=b)else l2 x λa=>l2 y λb=>some<|!jj b a
 |.gt=>fE x λa=>fE y λb=>some<|decide<|a>b
 |.ge=>fE x λa=>fE y λb=>some<|decide<|a>=b
 |.isin=>contains x y
 |.f3=>(contains x y).map (!·)
 |.is=>sU y<|some<|x.ctorIdx==0
 |.pC=>sU y<|some<|!(x.ctorIdx==0)
def items:B->Ċ (IF B)
 |.tup l=>some l
 |.lst l=>some l
 |.bb l=>if(l.all λe=>eH e.1==1)||(l.all λe=>eH e.1==2)then some (l.map (·.1))else none
 |.str s=>some<|s.map λc=>.str [c]
 |.ez a b=>some<|(List.range (b-a).toNat).map λ(i:Č)=>B.int<|a+Int.ofNat i
 |_=>none
def Ak (l:IF B):Ċ bx:=match l with|[]=>none|x::_=>(match x with|.str a=>some a|_=>none)
def pR (x y:B):Ċ ĉ:=match x with
 |.int a=>(match y with|.int b=>some (decide<|a<b)|_=>none)
 |.str a=>(match y with|.str b=>some (jj a b)|_=>none)
 |.tup l=>(match y with|.tup m=>(Ak l).bind λa=>(Ak m).bind λb=>if a==b then none else some (jj a b)|_=>none)
 |_=>none
def p' (x:B):IF B->Ċ (IF B)
 |[]=>some [x]
 |y::r=>match pR x y with
  |some true=>some<|x::y::r
  |some false=>(p' x r).map (y::·)
  |none=>none
def i8:IF B->Ċ (IF B)
 |[]=>some []
 |x::r=>(i8 r).bind<|p' x
def jv (v:B):Ċ bx:=match v with
 |.tup l=>Ak l
 |_=>none
def dn (i:č):bx:=(toString i).toList.map Char.toNat
def Ds (l:bx):Ċ Č:=(List.range 64).find? λn=>decide<|dn (Int.ofNat n)=l
def qJ:IF B->Ċ (IF ĉ)
 |[]=>some []
 |.bool b::r=>(qJ r).map (b::·)
 |_=>none
def k6.go (x:B):IF B->Č->Ċ B
 |[],_=>none
 |y::r,n=>match fj y x with
  |some true=>some<|.int n
  |some false=>k6.go x r<|n+1
  |none=>none
def qu (r:aJ) (i:Č):Ċ B:=match r[i]? with
 |some (.val v)=>some v
 |_=>none
def peek (r:aJ):a2->Ċ B
 |.v i=>match r[i]? with
  |some (.val v)=>some v
  |some (.ol l)=>some<|.lst l
  |some (.od l)=>some<|.bb l
  |_=>none
 |_=>none
def iO (bk:ĉ) (aS:IF Č) (v:B) (r:aJ):Ċ aJ:=match bk with
 |false=>(match aS with|[]=>none|i::t=>(match t with|[]=>some (r.set i<|.val v)|_::_=>none))
 |true=>(match v with|.tup l=>if l.length=aS.length then some ((aS.zip l).foldl (λr p=>r.set p.1<|.val p.2) r)else none|_=>none)
def hn (s:St) (o k:B):Ċ B:=match o with
 |.ref n=>(s[n]?).bind λy=>(match y with|.ls l=>uL l k|.cP l=>Cq l k|.ins _ _=>none)
 |.tup l=>uL l k
 |.lst l=>uL l k
 |.str l=>Lu l k
 |.bb l=>Cq l k
 |_=>none
def CP (s:St) (o:B):Ċ B:=match o with
 |.ref n=>(s[n]?).bind λy=>match y with|.ls l=>some (.int l.length)|_=>none
 |_=>none
def M' {dB:Type} (y:B) (k:IF (B×B)->Ċ dB):Ċ dB:=match y with|.bb l=>k l|_=>none
def HC (s:St) (v:B):Ċ B:=match v with
 |.ref n=>CP s<|.ref n
 |.tup l=>some<|.int l.length
 |.lst l=>some<|.int l.length
 |.bb l=>some<|.int l.length
 |.str l=>some<|.int l.length
 |_=>none
def H3 (v:B):Ċ B:=match v with
 |.lst l=>some<|.tup l
 |.tup l=>some<|.tup l
 |_=>none
def SY (v:B):Ċ B:=match v with
 |.str _=>some<|.bool true
 |.int _=>some<|.bool false
 |_=>none
def Jj (v:B):Ċ B:=match v with
 |.bb l=>((items<|.bb l).bind λl=>if l.length<64 then i8 l else none).map .lst
 |.lst l=>if l.length<=4/\(l.all λx=>(jv x).isSome)=true/\(l.map jv).Nodup then(i8 l).map .lst else none
 |_=>none
def ow (b:f7) (s:St) (v:B):Ċ B:=match b with
 |.len=>HC s v
 |.sorted=>Jj v
 |.tuple=>H3 v
 |.any=>k8 v λl=>(qJ l).map λch=>.bool<|ch.any id
 |.all=>k8 v λl=>(qJ l).map λch=>.bool<|ch.all id
 |.qf=>SY v
 |.str=>fE v λi=>if small i then i7 (dn i).length (.str<|dn i)else none
 |.int=>l2 v λl=>(Ds l).map λn=>.int<|Int.ofNat n
 |.index=>none
 |.get=>none
def Hm (b:f7) (v x:B):Ċ B:=match b with
 |.index=>k8 v λl=>if(hN x l).isSome then k6.go x l 0 else none
 |_=>none
def Jz (b:f7) (v x y:B):Ċ B:=match b with
 |.get=>M' v λl=>if ep x l then(fv x l).map λo=>o.getD y else none
 |_=>none
def oZ (b:f7) (s:St) (vs:IF B):Ċ B:=match vs with
 |[]=>none
 |v::r=>match r with
  |[]=>ow b s v
  |x::r=>match r with
   |[]=>Hm b v x
   |y::r=>match r with
    |[]=>Jz b v x y
    |_::_=>none
def k6 (b:f7) (vs:IF B):Ċ B:=oZ b [] vs
def qw (s:St) (x c:B):Ċ ĉ:=match c with
 |.ref n=>(s[n]?).bind λy=>match y with|.cP l=>if ep x l then(fv x l).map (·.isSome)else none|_=>none
 |_=>contains x c
def oO {dB:Type} (s:St) (o:B) (k:Č->Č->IF (Č×B)->Ċ dB):Ċ dB:=match o with
 |.ref n=>(s[n]?).bind λy=>match y with|.ins c l=>k n c l|_=>none
 |_=>none
def n1 (s:St) (o:B) (a:Č):Ċ B:=oO s o λ_ _ l=>l.lookup a
def DA (s:St) (o:B):Ċ Č:=oO s o λ_ c _=>some c
def putAt (a:Č) (v:B):IF (Č×B)->IF (Č×B)
 |[]=>[(a,v)]
 |(b,w)::r=>if b=a then(b,v)::r else(b,w)::putAt a v r
def nP (s:St) (o:B) (a:Č) (v:B):Ċ St:=oO s o λn c l=>if l.length<=900 then some (s.set n<|.ins c<|putAt a v l)else none
inductive cj where
 |go
 |ret (v:B)
def cj.ctorIdx (x:cj):Č:=cj.casesOn x 0<|λ_=>1
def sd (f:bS) (vs:IF B):Ċ aJ:=if vs.length<=f.np/\f.np<=vs.length+f.dflt.length then some (((vs++f.dflt.drop (f.dflt.length-(f.np-vs.length))).map .val)++List.replicate (f.lO-f.np) .un)else none
def cP (p:Prop):ĉ:=@decide p<|Classical.propDecidable p
theorem uN{p:Prop}(h:p):cP p=true:=@dK p (Classical.propDecidable p) h
theorem rP{p:Prop}(h:p->False):cP p=false:=@eC p (Classical.propDecidable p) h
theorem qZ{p q:Prop}(h:p↔q):cP p=cP q:=bH cP<|propext h
theorem u7(p:Prop):(p/\cP p=true)\/((p->False)/\cP p=false):=(Classical.em p).imp (λh=>⟨h,uN h⟩) λh=>⟨h,rP h⟩
theorem Ry{p q:Prop}:(cP p&&cP q)=cP (p/\q):=by
 rcases u7 p with⟨h,e⟩|⟨h,e⟩<;>rw[e]
 .exact qZ ⟨λx=>⟨h,x⟩,λx=>x.2⟩
 .exact(rP λx=>h x.1).symm
theorem Sr{p q:Prop}:(cP p||cP q)=cP (p\/q):=by
 rcases u7 p with⟨h,e⟩|⟨h,e⟩<;>rw[e]
 .exact(uN<|.inl h).symm
 .exact qZ ⟨.inr,λx=>x.resolve_left h⟩
theorem FF{av:Type}[DecidableEq av](a b:av):decide (a=b)=cP (a=b):=by
 rcases u7 (a=b)with⟨h,e⟩|⟨h,e⟩<;>rw[e]
 .exact dK h
 .exact eC h
def fy:Č->B->ĉ
 |0=>λv=>match v with|.none=>true|.int _=>true|.str _=>true|_=>false
 |n+1=>λv=>match v with|.none=>true|.int _=>true|.str _=>true|.tup l=>l.all (fy n)|_=>false
theorem DC{d:Č}{l:IF B}(h:eW (d+1) (.tup l)=true):∀v∈l,eW d v=true:=d'.mp h
theorem I1{M:Č->B->Prop}(aB:∀d i,M d<|.int i)(aK:∀d l,M d<|.str l)(dV:∀d l,(∀v∈l,eW d v=true)->(∀v,eW d v=true->M d v)->M (d+1) (.tup l)):∀d k,eW d k=true->M d k:=by
 intro d;induction d with
 |zero=>
  intro k aE;induction k using B.casesOn with
  |int i=>exact aB 0 i
  |str l=>exact aK 0 l
  |_=>exact cH aE
 |succ d ap=>
  intro k aE;induction k using B.casesOn with
  |int i=>exact aB _ i
  |str l=>exact aK _ l
  |tup l=>exact dV d l (DC aE) ap
  |_=>exact cH aE
theorem BK{d:Č}{l:IF B}(h:fy (d+1) (.tup l)=true):∀v∈l,fy d v=true:=d'.mp h
theorem Eo{d:Č}{k:B}(h:eW d k=true):fy d k=true:=I1 (M:=λd k=>fy d k=true) (λd _=>by induction d using Nat.casesOn<;>rfl) (λd _=>by induction d using Nat.casesOn<;>rfl) (λ_ _ aj ap=>d'.mpr λv af=>ap v<|aj v af) d k h
theorem AF{d n:Č}{k:B}(h:fy d k=true)(am:d<=n):fy n k=true:=by
 induction n generalizing d k with
 |zero=>cases Nat.le_zero.mp am;exact h
 |succ n ap=>
  induction d using Nat.casesOn with
  |zero=>induction k using B.casesOn<;>first|rfl|exact cH h
  |succ d=>induction k using B.casesOn with
   |tup l=>exact d'.mpr λv af=>ap (BK h v af)<|wg am
   |none=>rfl
   |int=>rfl
   |str=>rfl
   |_=>exact cH h
theorem P_{f:B->B->Ċ ĉ}:∀{l m:IF B},(∀v∈l,∀u∈m,f v u=some (cP<|v=u))->jH f l m=some (cP<|l=m):=by
 intro l;induction l with
 |nil=>
  intro m _;induction m using List.casesOn with
  |nil=>exact bH some (uN rfl).symm
  |cons=>exact bH some (rP λe=>(nomatch e)).symm
 |cons v r ap=>
  intro m h;induction m using List.casesOn with
  |nil=>exact bH some (rP λe=>(nomatch e)).symm
  |cons u t=>show((f v u).bind λx=>(jH f r t).map λy=>x&&y)=_;rw[h v (.head _) u<|.head _,ap λv af u a4=>h v (.tail _ af) u<|.tail _ a4];exact bH some<|Ry.trans<|qZ ⟨λh=>by rw[h.1,h.2],s0⟩
theorem lZ{a b:B}(h:a=b->False):some false=some (cP<|a=b):=bH some (rP h).symm
def bY (v:B):ĉ:=match v with|.none=>true|.int _=>true|.str _=>true|.tup _=>true|_=>false
theorem zd{n:Č}{v:B}(h:fy n v=true):bY v=true:=by induction v using B.casesOn<;>first|rfl|(induction n using Nat.casesOn<;>exact cH h)
theorem ED{g:IF B->IF B->Ċ ĉ}{x y:B}(az:bY x=true)(a1:bY y=true):ml g x y=some (cP<|x=y)\/∃l m,x=.tup l/\y=.tup m:=by
 induction x using B.casesOn with
 |none=>induction y using B.casesOn with
  |none=>exact .inl<|bH some (uN rfl).symm
  |int=>exact .inl<|lZ λe=>lW e rfl
  |str=>exact .inl<|lZ λe=>lW e rfl
  |tup=>exact .inl<|lZ λe=>lW e rfl
  |_=>exact cH a1
 |int=>induction y using B.casesOn with
  |int=>exact .inl<|bH some<|(FF _ _).trans<|qZ ⟨bH _,B.int.inj⟩
  |none=>exact .inl<|lZ λe=>lW e rfl
  |str=>exact .inl<|lZ λe=>lW e rfl
  |tup=>exact .inl<|lZ λe=>lW e rfl
  |_=>exact cH a1
 |str=>induction y using B.casesOn with
  |str=>exact .inl<|bH some<|(FF _ _).trans<|qZ ⟨bH _,B.str.inj⟩
  |int=>exact .inl<|lZ λe=>lW e rfl
  |none=>exact .inl<|lZ λe=>lW e rfl
  |tup=>exact .inl<|lZ λe=>lW e rfl
  |_=>exact cH a1
 |tup=>induction y using B.casesOn with
  |tup=>exact .inr ⟨_,_,rfl,rfl⟩
  |int=>exact .inl<|lZ λe=>lW e rfl
  |str=>exact .inl<|lZ λe=>lW e rfl
  |none=>exact .inl<|lZ λe=>lW e rfl
  |_=>exact cH a1
 |_=>exact cH az
theorem xn{n d:Č}{x y:B}(az:fy d x=true)(a1:fy d y=true)(am:d<=n):g7 n x y=some (cP<|x=y):=by
 replace az:=AF az am;replace a1:=AF a1 am;clear am;induction n generalizing x y with
 |zero=>
  rcases ED (zd az) (zd a1)with e|⟨l,m,rfl,rfl⟩
  .exact e
  .exact cH az
 |succ n ap=>
  rcases ED (zd az) (zd a1)with e|⟨l,m,rfl,rfl⟩
  .exact e
  .exact(P_ λv af u a4=>ap (BK az v af)<|BK a1 u a4).trans<|bH some<|qZ ⟨bH _,B.tup.inj⟩
theorem Kg{x:B}(az:fy 16 x=true){l:IF B}(h:∀a∈l,fy 16 a=true):hN x l=some (cP<|x∈l):=by
 induction l with
 |nil=>exact bH some (rP λe=>(nomatch e)).symm
 |cons y r ap=>show(g7 16 y x).bind _=_;rw[xn (h y<|.head _) az<|dA _,ap λa ak=>h a<|.tail _ ak];exact bH some (Sr.trans<|qZ<|by rw[eD,eq_comm])
section
variable{av:Type}{f:av->B}{b:av->av->ĉ}{ne R:av->av->Prop}(aE:∀x y,ne x y->pR (f x) (f y)=some (b x y))(G:∀x y,b x y=true->R x y)(E:∀x y,ne x y->b x y=false->R y x)(aC:∀x y z,b x y=true->R y z->R x z)
include aE G E aC
theorem Pl(x:av){cg:IF av}(h:cg.Pairwise R)(m:∀y∈cg,ne x y):∃c9:IF av,p' (f x) (cg.map f)=some (c9.map f)/\c9.Pairwise R/\c9.Perm (x::cg):=by
 induction cg with
 |nil=>exact⟨[x],rfl,List.pairwise_singleton _ _,.refl _⟩
 |cons y r ap=>
  obtain⟨c3,bh⟩:=tJ.mp h;show∃c9:IF av,(match pR (f x) (f y)with|some true=>some (f x::f y::r.map f)|some false=>(p' (f x)<|r.map f).map (f y::·)|none=>none)=some (c9.map f)/\_;rw[aE x y<|m y<|.head _];induction c:b x y using Bool.casesOn with
  |true=>
   refine⟨x::y::r,rfl,tJ.mpr ⟨λz hz=>?_,h⟩,.refl _⟩;cases hz with
   |head=>exact G x y c
   |tail _ hz=>exact aC x y z c<|c3 z hz
  |false=>
   obtain⟨c9,e,ae,aN⟩:=ap bh λz hz=>m z<|.tail _ hz;rw[e];refine⟨y::c9,rfl,tJ.mpr ⟨λz hz=>?_,ae⟩,(aN.cons y).trans<|.swap x y r⟩;cases aN.mem_iff.mp hz with
   |head=>exact E x y (m y<|.head _) c
   |tail _ hz=>exact c3 z hz
theorem vo{bJ:IF av}(h:bJ.Pairwise ne):∃cS:IF av,i8 (bJ.map f)=some (cS.map f)/\cS.Pairwise R/\cS.Perm bJ:=by
 induction h with
 |nil=>exact⟨[],rfl,.nil,.refl _⟩
 |cons h _ ap=>obtain⟨cS,e,ae,aN⟩:=ap;obtain⟨c9,bz,hI,kQ⟩:=Pl aE G E aC _ ae λy a1=>h y<|aN.mem_iff.mp a1;exact⟨c9,(bH (Option.bind · (p'<|f _)) e).trans bz,hI,kQ.trans<|aN.cons _⟩
end
theorem ID{av:Type}{R:av->av->Prop}{a b:IF av}(no:∀x y,R x y->R y x->False)(ak:a.Pairwise R)(aw:b.Pairwise R)(h:∀p,p∈a↔p∈b):a=b:=have b7:∀{x y:av},R x y->x≠y:=λr e=>(by subst e;exact no _ _ r r);List.Perm.eq_of_pairwise (λx y _ _ p q=>(no x y p q).elim) ak aw<|(List.perm_ext_iff_of_nodup (ak.imp b7)<|aw.imp b7).mpr h
noncomputable abbrev L (n:č):a2:=.k<|.int n
noncomputable abbrev aD:a2:=.v 0
noncomputable abbrev aQ:a2:=.v 1
noncomputable abbrev aZ:a2:=.v 2
noncomputable abbrev bq:a2:=.v 3
noncomputable abbrev bN:a2:=.v 4
noncomputable abbrev c4:a2:=.v 5
noncomputable abbrev dP:a2:=.v 6
noncomputable abbrev ft:a2:=.v 7
noncomputable abbrev f5:a2:=.v 8
noncomputable abbrev gs:a2:=.v 9
noncomputable abbrev na:a2:=.v 10
noncomputable abbrev m3:a2:=.v 11
noncomputable abbrev kV:a2:=.v 12
noncomputable abbrev nS:a2:=.v 13
noncomputable abbrev oG:a2:=.v 14
noncomputable abbrev pn:a2:=.v 15
noncomputable abbrev qY:a2:=.v 16
noncomputable abbrev wl:a2:=.v 17
noncomputable abbrev uT:a2:=.v 18
noncomputable abbrev wP:a2:=.v 19
noncomputable abbrev Ht:a2:=.v 20
noncomputable abbrev YQ:a2:=.v 21
noncomputable abbrev EF:a2:=.v 22
noncomputable abbrev Rz:a2:=.v 23
noncomputable abbrev zS:a2:=.v 24
noncomputable abbrev L5:a2:=.v 25
noncomputable abbrev Ao:a2:=.v 26
noncomputable abbrev bp (l:IF Č):a2:=.k<|.str l
def ym:bS:=⟨1,2,[],[.jo aD 0<|.lst [],.jo aD 1<|.bb [],.jo aD 2<|.lst [.k .none],.jo aD 3<|.lst [],.jo aD 4<|.lst [],.jo aD 5<|.lst [],.jo aD 6<|.bb [],.jo aD 7<|.bb [],.fX aD 8<|L 0,.fX aD 9<|L 0,.for false [1] (.k<|.tup [.tup [.int 1,.str [97,110,121]],.tup [.int 1,.str [117,110,107,110,111,119,110]],.tup [.int 1,.str [110,101,118,101,114]],.tup [.int 1,.str [118,111,105,100]],.tup [.int 1,.str [117,110,100,101,102,105,110,101,100]],.tup [.int 1,.str [110,117,108,108]],.tup [.int 1,.str [115,116,114,105,110,103]],.tup [.int 1,.str [110,117,109,98,101,114]],.tup [.int 2,.int 0,.int 0],.tup [.int 2,.int 1,.int 0],.tup [.int 1,.str [111,98,106,101,99,116]],.tup [.int 8,.tup [],.tup [],.tup [],.tup [],.tup [],.int 0],.tup [.int 6,.tup [.int 8,.int 9]],.tup [.int 1,.str [101,114,114,111,114]],.tup [.int 2,.int 0,.int 1],.tup [.int 2,.int 1,.int 1]]) [.ex<|.cQ aD 0 [aQ]]]⟩
def Ö:bS:=⟨2,3,[],[.iff (.cmp aQ [(.isin,(.at aD 1))]) [.ret<|.ao (.at aD 1) aQ] [],.set 2<|.bi .len [.at aD 0],.nj (.at aD 0) aQ,.nu (.at aD 1) aQ aZ,.ret aZ]⟩
def PB:bS:=⟨4,4,[],[.fX aD 10 aQ,.fX aD 11 aZ,.fX aD 12 bq,.fX aD 13<|.tup [],.fX aD 14<|.k<|.int<|-1,.fX aD 15<|.tup [],.fX aD 16<|.k<|.int<|-1,.fX aD 17<|L 0,.fX aD 18<|.k<|.bool false,.jo aD 19<|.lst [],.jo aD 20<|.lst [],.fX aD 21<|L 0,.fX aD 22<|L 0,.fX aD 23<|bp [],.fX aD 24<|L 0]⟩
def PO:bS:=⟨3,3,[.int 0],[.ret<|.cQ aD 0 [.tup [L 3,aQ,aZ]]]⟩
def Tu:bS:=⟨3,3,[.int 0],[.ret<|.cQ aD 0 [.tup [L 11,aQ,aZ]]]⟩
def R9:bS:=⟨2,4,[],[.set 2<|.k<|.int<|-1,.for false [3] (.ez (L 0)<|.bi .len [aD]) [.iff (.cmp (.ao (.ao aD bq)<|L 1) [(.isin,aQ)]) [.set 2 bq] []],.ret aZ]⟩
def X6:bS:=⟨2,7,[],[.set 2<|.call 5 [aQ,.tup [L 0]],.own 3<|.lst [],.for false [4] (.ez (L 0)<|.bi .len [aQ]) [.ho [5,6]<|.ao aQ bN,.iff (.an [.cmp dP [(.eq,L 1)],.cmp bN [(.lt,aZ)]]) [.app 3<|.tup [.call 22 [aD,c4],L 0]] [.app 3<|.tup [c4,dP]]],.a5 3,.ret bq]⟩
def WO:bS:=⟨3,8,[],[.set 3<|.k<|.int<|-1,.for false [4] (.ez (L 0)<|.bi .len [aQ]) [.iff (.an [.cmp bq [(.lt,L 0)],.cmp (.ao (.ao aQ bN)<|L 1) [(.eq,L 2)]]) [.set 3 bN] []],.iff (.or [.cmp bq [(.lt,L 0)],.cmp aZ [(.le,bq)]]) [.ret aQ] [],.own 5<|.lst [],.for true [6,7] .bad [.app 5<|.ite (.cmp ft [(.eq,L 1)]) (.call 22 [aD,dP]) dP],.a5 5,.ret<|.bin .add (.bin .add .bad<|.lst [.tup [.call 20 [aD,c4],L 2]]) .bad]⟩
def TS:bS:=⟨3,7,[.int 0],[.set 3<|.comp (.tup [c4,dP]) true [5,6] aQ [],.iff (.cmp (.call 5 [bq,.tup [L 3]]) [(.lt,L 0)]) [.set 4<|.call 5 [bq,.tup [L 2,L 1]],.set 3<|.call 7 [aD,.call 6 [aD,bq],bN],.iff (.an [.cmp (.bi .len [bq]) [(.eq,L 1)],.cmp (.ao (.ao bq<|L 0)<|L 1) [(.eq,L 2)]]) [.ret<|.call 4 [aD,.ao (.ao bq<|L 0)<|L 0,aZ]] []] [],.ret<|.cQ aD 0 [.tup [L 12,.bi .tuple [bq],aZ]]]⟩
def SO:bS:=⟨1,4,[],[.own 1<|.bb [],.for false [2] aD [.jA 1 (.ao aZ<|L 0) aZ],.a5 1,.ret<|.bi .tuple [.comp (.ao aQ bq) false [3] (.bi .sorted [aQ]) []]]⟩
def N4:bS:=⟨7,7,[.tup [],.tup [],.tup [],.tup [],.int 0],[.ret<|.cQ aD 0 [.tup [L 8,.call 9 [aQ],.bi .tuple [aZ],.bi .tuple [bq],bN,c4,dP]]]⟩
def Z3:bS:=⟨2,2,[],[.ret<|.cQ aD 0 [.tup [L 8,.tup [],.tup [aQ],.tup [],.tup [],.tup [],L 0]]]⟩
def Sc:bS:=⟨4,5,[.int<|-1,.int<|-1],[.set 4<|.bi .len [.at aD 3],.nj (.at aD 3) aZ,.nj (.at aD 4) bq,.nj (.at aD 5) aQ,.ret<|.cQ aD 0 [.tup [L 10,bN]]]⟩
def No:bS:=⟨3,4,[],[.set 3<|.new 1 [.bi .len [.at aD 2],aQ,aZ],.nj (.at aD 2) bq,.ret bq]⟩
def OC:bS:=⟨2,3,[],[.iff (.cmp aQ [(.eq,L 2)]) [.ret<|.tup []] [],.set 2<|.ao (.at aD 0) aQ,.iff (.cmp (.ao aZ<|L 0) [(.eq,L 6)]) [.ret<|.ao aZ<|L 1] [],.ret<|.tup [aQ]]⟩
def SR:bS:=⟨1,2,[],[.set 1<|.ao aD<|L 0,.iff (.or [.cmp aQ [(.eq,L 3)],.cmp aQ [(.eq,L 18)]]) [.ret<|L 6] [],.iff (.cmp aQ [(.eq,L 4)]) [.ret<|L 7] [],.iff (.cmp aQ [(.eq,L 5)]) [.ret<|.ite (.bi .qf [.ao aD<|L 3]) (L 6)<|L 7] [],.ret<|.k<|.int<|-1]⟩
def Vn:bS:=⟨2,3,[],[.set 2<|.ao (.at aD 0) aQ,.iff (.an [.cmp (.ao aZ<|L 0) [(.isin,(.k<|.tup [.int 2,.int 3,.int 4,.int 5,.int 8]))],.cmp (.ao aZ<|.k<|.int<|-1) [(.eq,L 1)]]) [.ret<|.bi .get [.at aD 1,.bin .add (.aL aZ none (some<|-1) none)<|.tup [L 0],.k<|.int<|-1]] [],.ret<|.k<|.int<|-1]⟩
def MR:bS:=⟨1,1,[],[.iff (.an [.or [.cmp (L 8) [(.isin,aD)],.cmp (L 14) [(.isin,aD)]],.or [.cmp (L 9) [(.isin,aD)],.cmp (L 15) [(.isin,aD)]]]) [.nu aD (L 8)<|L 1,.nu aD (L 9)<|L 1] []]⟩
def X5:bS:=⟨3,3,[],[.iff (.cmp (.call 16 [aD,aZ]) [(.isin,aQ)]) [.ret<|.k<|.bool false] [],.ret<|.cmp (.call 15 [.ao (.at aD 0) aZ]) [(.f3,aQ)]]⟩
def M8:bS:=⟨1,2,[],[.for false [1] (.tup [L 0,L 13,L 1]) [.iff (.cmp aQ [(.isin,aD)]) [.ret aQ] []],.ret<|.k<|.int<|-1]⟩
def YK:bS:=⟨2,8,[],[.own 2<|.bb [],.for false [3] aQ [.for false [4] (.call 14 [aD,bq]) [.jA 2 bN<|L 1]],.a5 2,.set 5<|.call 19 [aZ],.iff (.cmp c4 [(.ge,L 0)]) [.ret c4] [],.a5 2,.ex<|.call 17 [aZ],.a5 2,.set 6<|.comp ft false [7] (.bi .sorted [aZ]) [.call 18 [aD,aZ,ft]],.iff (.not dP) [.ret<|L 2] [],.iff (.cmp (.bi .len [dP]) [(.eq,L 1)]) [.ret<|.ao dP<|L 0] [],.iff (.cmp (.bi .len [dP]) [(.gt,L 400)]) [.bad] [],.ret<|.cQ aD 0 [.tup [L 6,.bi .tuple [dP]]]]⟩
def Nc:bS:=⟨3,4,[],[.ret<|.call 20 [aD,.comp bq false [3] (.call 14 [aD,aQ]) [.cmp bq [(.f3,aZ)]]]]⟩
def Ul:bS:=⟨2,2,[],[.ret<|.call 20 [aD,.tup [aQ,L 4]]]⟩
def PF:bS:=⟨2,5,[],[.set 2<|.call 25 [aD,.ao aQ<|L 0],.set 3<|.bi .all [.comp (.cmp (.call 25 [aD,bN]) [(.eq,aZ)]) false [4] aQ []],.ret<|.ite bq aZ<|L 0]⟩
def L0:bS:=⟨2,5,[],[.set 2<|L 0,.for false [3] aQ [.set 4<|.call 25 [aD,bq],.iff (.an [.cmp bN [(.ne,L 0)],.cmp bN [(.ne,L 7)]]) [.ret bN] [],.iff (.an [.cmp bN [(.eq,L 7)],.cmp bq [(.ne,L 11)]]) [.set 2<|L 7] []],.ret aZ]⟩
def QK:bS:=⟨2,5,[],[.set 2<|.ao (.at aD 0) aQ,.set 3<|.ao aZ<|L 0,.iff (.cmp bq [(.eq,L 1)]) [.ret<|.bi .get [.k<|.bb [((.int 3),(.int 6)),((.int 4),(.int 5)),((.int 5),(.int 4)),((.int 6),(.int 1)),((.int 7),(.int 2)),((.int 10),(.int 7))],aQ,L 0]] [],.iff (.cmp bq [(.eq,L 2)]) [.ret<|L 3] [],.iff (.cmp bq [(.isin,(.k<|.tup [.int 8,.int 9,.int 11,.int 12,.int 13]))]) [.ret<|L 7] [],.iff (.cmp bq [(.eq,L 6)]) [.ret<|.call 23 [aD,.ao aZ<|L 1]] [],.iff (.cmp bq [(.eq,L 7)]) [.ret<|.call 24 [aD,.ao aZ<|L 1]] [],.set 4<|.call 15 [aZ],.iff (.cmp bN [(.lt,L 0)]) [.ret<|L 0] [],.ret<|.ite (.cmp bN [(.eq,L 6)]) (L 1)<|L 2]⟩
def MZ:bS:=⟨2,4,[],[.for false [2] (.ez (L 0)<|L 40) [.iff (.cmp aQ [(.lt,L 0)]) [.bad] [],.set 3<|.ao (.at aD 0) aQ,.iff (.cmp (.ao bq<|L 0) [(.eq,L 8)]) [.ret aQ] [],.iff (.cmp (.ao bq<|L 0) [(.eq,L 13)]) [.ret<|.call 11 [aD,aQ]] [],.iff (.cmp (.ao bq<|L 0) [(.isin,(.k<|.tup [.int 1,.int 2,.int 3,.int 4,.int 5]))]) [.ret<|L 11] [],.iff (.or [.cmp (.ao bq<|L 0) [(.ne,L 9)],.ao bq<|L 2,.at (.ao (.at aD 2)<|.ao bq<|L 1) 15]) [.bad] [],.set 1<|.at (.ao (.at aD 2)<|.ao bq<|L 1) 14],.bad]⟩
def Rf:bS:=⟨3,3,[],[.ret<|.k .none]⟩
def WD:bS:=⟨2,2,[],[.ret<|.call 26 [.at aD 25,aQ]]⟩
def Yc:bS:=⟨1,2,[],[.iff (.cmp (.ao aD<|L 0) [(.eq,L 11)]) [.ret<|L 0] [],.for false [1] (.ez (L 0)<|.bi .len [.ao aD<|L 1]) [.iff (.cmp (.ao (.ao (.ao aD<|L 1) aQ)<|L 1) [(.isin,(.tup [L 2,L 3]))]) [.ret aQ] []],.ret<|.bi .len [.ao aD<|L 1]]⟩
def YG:bS:=⟨2,3,[],[.for false [2] (.ao aD<|L 1) [.iff (.cmp (.ao aZ<|L 0) [(.eq,aQ)]) [.ret aZ] []],.ret<|.k .none]⟩
def TN:bS:=⟨1,3,[],[.set 1<|.bi .all [.comp (.cmp (bp [48]) [(.le,aZ),(.le,bp [57])]) false [2] aD []],.ret<|.or [.cmp aD [(.eq,bp [48])],.an [.cmp aD [(.ne,bp [])],.cmp (.ao aD<|L 0) [(.ne,bp [48])],aQ]]]⟩
def QQ:bS:=⟨3,5,[],[.set 1<|.cQ aD 6 [aQ],.set 3<|.ao (.at (.at aD 25) 0) aQ,.iff (.or [.cmp (.ao bq<|L 0) [(.eq,L 11)],.cmp (.ao bq<|L 0) [(.eq,L 12)]]) [.set 4<|.cQ aD 1 [aQ,aZ]] [.set 4<|.call 30 [.ao (.at (.at aD 25) 0)<|.cQ aD 2 [aQ],aZ]],.ret<|.ite (.cmp bN [(.is,(.k .none))]) (.k .none)<|.tup [aZ,.cQ aD 6 [.ao bN<|L 1],.ao bN<|L 2,.ao bN<|L 3]]⟩
def Yq:bS:=⟨2,2,[],[.ret<|.ite (.bin .band (.ao aQ<|L 2)<|L 1) (.call 22 [aD,.ao aQ<|L 1])<|.ao aQ<|L 1]⟩
def XO:bS:=⟨2,6,[],[.set 2<|.ao (.at aD 0) aQ,.iff (.cmp (.ao aZ<|L 0) [(.isin,(.k<|.tup [.int 10,.int 14,.int 15,.int 16,.int 17,.int 19]))]) [.ret<|.k<|.bool true] [],.iff (.or [.cmp (.ao aZ<|L 0) [(.eq,L 6)],.cmp (.ao aZ<|L 0) [(.eq,L 7)]]) [.for false [3] (.ao aZ<|L 1) [.iff (.call 34 [aD,bq]) [.ret<|.k<|.bool true] []]] [],.iff (.cmp (.ao aZ<|L 0) [(.eq,L 12)]) [.for false [4] (.ao aZ<|L 1) [.iff (.cmp (.ao bN<|L 1) [(.eq,L 3)]) [.ret<|.k<|.bool true] []]] [],.iff (.cmp (.ao aZ<|L 0) [(.eq,L 18)]) [.for false [5] (.ao aZ<|L 2) [.iff (.call 34 [aD,c4]) [.ret<|.k<|.bool true] []]] [],.ret<|.k<|.bool false]⟩
def Xb:bS:=⟨2,3,[],[.set 2<|.ao (.at aD 0) aQ,.iff (.cmp (.ao aZ<|L 0) [(.eq,L 3)]) [.ret<|.ao aZ<|L 1] [],.iff (.cmp (.ao aZ<|L 0) [(.eq,L 4)]) [.ret<|.bi .str [.ao aZ<|L 1]] [],.iff (.cmp (.ao aZ<|L 0) [(.eq,L 5)]) [.ret<|.bi .str [.ao aZ<|L 3]] [],.iff (.cmp (.ao aZ<|L 0) [(.eq,L 2)]) [.ret<|.ite (.cmp (.ao aZ<|L 1) [(.eq,L 1)]) (bp [116,114,117,101])<|bp [102,97,108,115,101]] [],.iff (.cmp aQ [(.eq,L 5)]) [.ret<|bp [110,117,108,108]] [],.iff (.cmp aQ [(.eq,L 4)]) [.ret<|bp [117,110,100,101,102,105,110,101,100]] [],.ret<|.k .none]⟩
def YM:bS:=⟨2,2,[],[.iff (.cmp (.ao (.ao (.at aD 0) aQ)<|L 0) [(.isin,(.tup [L 3,L 4,L 5]))]) [.ret<|.call 35 [aD,aQ]] [],.ret<|.k .none]⟩
def Yp:bS:=⟨1,1,[],[.ret<|.cmp (.bin .band (.ao aD<|L 2)<|.bin .add (L 8)<|L 16) [(.eq,L 0)]]⟩
def V4:bS:=⟨1,1,[],[.jo aD 0<|.bb [],.jo aD 5<|.lst [],.fX aD 26<|.tup [],.fX aD 27<|.tup []]⟩
def Ss:bS:=⟨5,7,[],[.iff (.cmp aZ [(.f3,(.at aD 0))]) [.nj (.at aD 5) aZ,.nu (.at aD 0) aZ<|.tup [bq,bN],.ret<|.k .none] [],.set 5<|.ao (.at aD 0) aZ,.own 6<|.lst [.ao c4<|L 0,bq],.iff (.an [.cmp (.bin .band bN<|L 1) [(.ne,L 0)],.cmp (.bin .band (.ao c4<|L 1)<|L 1) [(.eq,L 0)]]) [.app 6<|L 4] [],.a5 6,.nu (.at aD 0) aZ<|.tup [.call 20 [aQ,dP],.ao c4<|L 1]]⟩
def YC:bS:=⟨5,7,[],[.set 5<|.ite aZ (.at aD 27)<|.at aD 26,.set 6<|.tup [bq,bN],.iff (.cmp c4 [(.ne,(.tup []))]) [.set 6<|.tup [.call 20 [aQ,.lst [.ao c4<|L 0,bq]],.ite (.or [.cmp (.ao c4<|L 1) [(.eq,L 1)],.cmp bN [(.eq,L 1)]]) (L 1)<|L 0]] [],.iff aZ [.fX aD 27 dP] [.fX aD 26 dP]]⟩
def NF:bS:=⟨2,4,[],[.set 2<|.comp (.tup [bq,.ao (.ao (.at aD 0) bq)<|L 0,.ao (.ao (.at aD 0) bq)<|L 1,L 0]) false [3] (.at aD 5) [],.ret<|.call 10 [aQ,aZ,.tup [],.tup [],.at aD 26,.at aD 27,L 0]]⟩
def UF:bS:=⟨2,7,[],[.set 2<|.k<|.bool false,.for false [3] (.call 14 [aD,aQ]) [.set 4<|.ao (.at aD 0) bq,.set 5<|.ite (.cmp (.ao bN<|L 0) [(.eq,L 19)]) (.ao bN<|L 2)<|.tup [bq],.iff (.bi .any [.comp (.call 34 [aD,dP]) false [6] c4 []]) [.ret<|.k<|.bool false] [],.set 2<|.or [aZ,.cmp (.ao bN<|L 0) [(.eq,L 19)]]],.ret aZ]⟩
def RU:bS:=⟨2,3,[],[.set 2<|.at aD 25,.iff (.call 42 [aZ,aQ]) [.ret<|.cQ aZ 0 [.tup [L 7,.tup [aQ,.call 20 [aZ,.lst [L 11,L 5]]]]]] [],.set 1<|.cQ aD 6 [aQ],.ret<|.ite (.cmp aQ [(.eq,L 4)]) (L 2)<|.call 21 [aZ,aQ,.lst [L 4]]]⟩
def Um:bS:=⟨2,2,[],[.iff (.cmp aQ [(.eq,L 4)]) [.ret aQ] [],.ret<|.call 21 [aD,aQ,.lst [L 4]]]⟩
def Q4:bS:=⟨2,2,[],[.iff (.cmp aD [(.eq,L 1)]) [.ret<|L 1] [],.iff (.cmp aD [(.eq,L 2)]) [.ret<|L 0] [],.ret aQ]⟩
def PI:bS:=⟨3,3,[],[.ret<|.cQ aD 8 [.ao aQ<|L 4,.bb [((.ao aQ<|L 1),aZ)]]]⟩
def Zq:bS:=⟨2,2,[],[.ret<|.or [.cmp (.ao aD<|L 5) [(.eq,L 1)],.an [.cmp (.ao aD<|L 5) [(.eq,L 0)],aQ]]]⟩
def XU:bS:=⟨5,7,[],[.set 5<|.at aD 25,.set 6<|.ite (.cmp bq [(.ge,L 0)]) bq<|.call 46 [aD,aQ,aZ],.iff (.call 47 [aQ,bN]) [.iff (.an [.cmp bq [(.ge,L 0)],bN]) [.ret dP] [],.ret<|.call 44 [c4,dP]] [],.iff bN [.ret<|.call 43 [aD,dP]] [],.ret dP]⟩
def Å:bS:=⟨3,6,[],[.set 3<|.ite (.cmp aQ [(.is,(.k .none))]) (L 0)<|.ao aQ<|L 2,.set 4<|L 0,.iff (.call 47 [aD,.cmp (.bin .band bq<|L 1) [(.ne,L 0)]]) [.set 4<|L 1] [],.set 5<|.ite (.cmp (.bin .band bq<|L 2) [(.ne,L 0)]) (L 1)<|L 0,.iff (.cmp (.call 45 [.ao aD<|L 6,c4]) [(.eq,L 1)]) [.set 4<|.bin .add bN<|L 2] [],.ret<|.ite aZ (.bin .add bN<|.bin .band bq<|L 4) bN]⟩
def Vr:bS:=⟨3,4,[],[.iff (.cmp (.ao aQ<|L 3) [(.eq,(.k<|.int<|-1))]) [.ret<|.tup [aZ]] [],.set 3<|.cQ aD 6 [.cQ aD 8 [.ao aQ<|L 3,.bb [((.ao aQ<|L 1),aZ)]]],.iff (.call 34 [.at aD 25,bq]) [.ret<|.k .none] [],.ret<|.call 14 [.at aD 25,bq]]⟩
def TO:bS:=⟨4,4,[],[.fX aD 28 aQ,.fX aD 29 aZ,.fX aD 1 bq]⟩
def Mj:bS:=⟨6,13,[],[.set 6<|.at aD 25,.set 7<|.call 36 [dP,bN],.set 8<|.k<|.int<|-1,.set 9<|.k<|.bool false,.iff (.cmp (.at bq 29) [(.pC,(.k .none))]) [.set 9<|.cmp (.bin .band (.ao (.at bq 29)<|L 2)<|L 1) [(.ne,L 0)],.set 8<|.ite c4 (.ao (.at bq 29)<|L 1)<|.k<|.int<|-1] [.iff (.cmp (.at bq 1) [(.ne,(.tup []))]) [.set 8<|.ite c4 (.ao (.at bq 1)<|L 0)<|.k<|.int<|-1] []],.iff (.cmp ft [(.pC,(.k .none))]) [.set 10<|.call 48 [aD,aQ,.at bq 28,f5,gs],.ex<|.cQ aZ 3 [dP,ft,na,.call 49 [aQ,.at bq 29,c4]],.ret<|.k .none] [],.iff (.an [.cmp bN [(.f3,(.tup [L 6,L 7,L 0]))],.cmp .bad [(.ne,L 18)]]) [.ret<|.k .none] [],.set 11<|.ite (.cmp f5 [(.ge,L 0)]) f5<|.call 46 [aD,aQ,.at bq 28],.iff (.or [.cmp (.ao aQ<|L 5) [(.eq,L 1)],.an [.cmp f5 [(.ge,L 0)],gs]]) [.set 11<|.call 20 [dP,.lst [m3,L 4]]] [],.set 12<|.ite (.cmp (.at bq 1) [(.ne,(.tup []))]) (.ao (.at bq 1)<|L 1)<|L 0,.ex<|.cQ aZ 4 [dP,.cmp bN [(.eq,L 7)],m3,.call 45 [.ao aQ<|L 6,kV]]]⟩
def P':bS:=⟨4,8,[],[.set 4<|.new 5 [],.for false [5] aZ [.set 6<|.call 50 [aD,aQ,.at c4 28],.iff (.cmp dP [(.is,(.k .none))]) [.ret<|.cQ (.at aD 25) 0 [aQ]] [],.for false [7] dP [.ex<|.call 52 [aD,aQ,bN,c4,ft,bq]]],.ret<|.cQ bN 5 [.at aD 25]]⟩
def Z1:bS:=⟨2,6,[],[.set 2<|.at aD 25,.own 3<|.lst [],.set 4<|.ao (.at aZ 0)<|.cQ aD 2 [aQ],.for false [5] (.ao bN<|L 1) [.iff (.call 37 [c4]) [.app 3<|.new 6 [.call 3 [aZ,.ao c4<|L 0],c4,.tup []]] []],.iff (.cmp (.ao bN<|L 4) [(.ne,(.tup []))]) [.app 3<|.new 6 [L 6,.k .none,.ao bN<|L 4]] [],.iff (.cmp (.ao bN<|L 5) [(.ne,(.tup []))]) [.app 3<|.new 6 [L 7,.k .none,.ao bN<|L 5]] [],.a5 3,.ret bq]⟩
def Qg:bS:=⟨4,7,[],[.set 4<|.at aD 25,.set 5<|.ao (.at bN 0) aZ,.set 6<|.ite bq (.ao c4<|L 1)<|.call 46 [aD,aQ,L 7],.ret<|.call 4 [bN,.call 56 [aD,aQ,dP],.call 45 [.ao aQ<|L 6,.ao c4<|L 2]]]⟩
def PW:bS:=⟨3,3,[],[.iff (.cmp (.ao aQ<|L 5) [(.eq,L 1)]) [.ret<|.call 20 [.at aD 25,.lst [aZ,L 4]]] [],.iff (.cmp (.ao aQ<|L 5) [(.eq,L 2)]) [.ret<|.call 43 [aD,aZ]] [],.ret aZ]⟩
def Y0:bS:=⟨5,10,[],[.set 5<|.call 3 [.at aD 25,.bi .str [aZ]],.set 6<|.ite bN (.ao bq<|L 0)<|.k<|.int<|-1,.iff (.cmp (.ao bq<|L 1) [(.eq,L 2)]) [.set 7<|.ite bN dP<|.call 46 [aD,aQ,c4],.ret<|.tup [.call 56 [aD,aQ,ft],L 2]] [],.set 8<|.cmp (.ao bq<|L 1) [(.eq,L 1)],.set 9<|.ite (.call 47 [aQ,f5]) (L 1)<|L 0,.ret<|.tup [.call 48 [aD,aQ,c4,dP,f5],gs]]⟩
def QJ:bS:=⟨2,2,[],[.ret<|.cmp (.call 25 [aD,aQ]) [(.f3,(.tup [L 7,L 0]))]]⟩
def É:bS:=⟨3,6,[],[.set 3<|.ao (.at (.at aD 25) 0) aZ,.iff (.call 58 [.at aD 25,aZ]) [.ret aZ] [],.iff (.cmp (.ao aQ<|L 3) [(.ne,(.k<|.int<|-1))]) [.ret<|L 11] [],.iff (.cmp (.ao bq<|L 0) [(.eq,L 11)]) [.ret<|.call 55 [aD,aQ,aZ,.k<|.bool false]] [],.iff (.cmp (.ao bq<|L 0) [(.eq,L 12)]) [.ret<|.call 60 [aD,aQ,bq]] [],.set 4<|.comp c4 false [5] (.call 54 [aD,aZ]) [.not (.call 61 [aD,c4])],.ret<|.call 53 [aD,aQ,bN,.k<|.bool false]]⟩
def Yt:bS:=⟨3,8,[],[.own 3<|.lst [],.set 4<|.call 29 [aZ],.for false [5] (.ez (L 0)<|.bi .len [.ao aZ<|L 1]) [.set 6<|.ao (.ao aZ<|L 1) c4,.iff (.cmp c4 [(.lt,bN)]) [.app 3<|.call 57 [aD,aQ,c4,dP,.k<|.bool false]] [.set 7<|.call 56 [aD,aQ,.call 46 [aD,aQ,L 7]],.app 3<|.tup [ft,.ite (.cmp (.ao dP<|L 1) [(.eq,L 2)]) (L 2)<|L 0]]],.a5 3,.ret<|.call 8 [.at aD 25,.bi .tuple [bq],.call 45 [.ao aQ<|L 6,.ao aZ<|L 2]]]⟩
def R0:bS:=⟨2,4,[],[.iff (.cmp (.at aQ 29) [(.is,(.k .none))]) [.ret<|.k<|.bool false] [],.set 2<|.ao (.at aQ 29)<|L 0,.iff (.or [.cmp aZ [(.eq,bp [108,101,110,103,116,104])],.call 31 [aZ]]) [.ret<|.k<|.bool true] [],.for false [3] (.tup [.call 4 [.at aD 25,L 0,L 0],L 6,L 7]) [.iff (.cmp (.call 32 [aD,bq,aZ]) [(.pC,(.k .none))]) [.ret<|.k<|.bool true] []],.ret<|.k<|.bool false]⟩
def Rx:bS:=⟨3,4,[],[.ret<|.bi .tuple [.comp (.call 66 [aD,bq,aZ]) false [3] aQ []]]⟩
def W9:bS:=⟨3,3,[],[.ret<|.ite (.cmp aQ [(.eq,(.tup []))]) (.tup [])<|.tup [.call 66 [aD,.ao aQ<|L 0,aZ],.ao aQ<|L 1]]⟩
def WJ:bS:=⟨3,8,[],[.set 3<|.bi .tuple [.comp (.tup [.ao ft<|L 0,.call 66 [aD,.ao ft<|L 1,aZ],.ao ft<|L 2,.ao ft<|L 3]) false [7] (.ao aQ<|L 1) []],.set 4<|.call 62 [aD,.ao aQ<|L 2,aZ],.set 5<|.call 62 [aD,.ao aQ<|L 3,aZ],.set 6<|.call 63 [aD,.ao aQ<|L 4,aZ],.ret<|.cQ (.at aD 25) 0 [.tup [L 8,bq,bN,c4,dP,.call 63 [aD,.ao aQ<|L 5,aZ],.ao aQ<|L 6]]]⟩
def Ti:bS:=⟨4,5,[],[.iff (.cmp (.ao aZ<|L 0) [(.eq,L 15)]) [.ret<|.cQ aD 7 [.bin .add (.tup [L 15])<|.call 62 [aD,.aL aZ (some 1) none none,bq]]] [],.iff (.cmp (.ao aZ<|L 0) [(.eq,L 14)]) [.ret<|.cQ aD 7 [.tup [L 14,.call 66 [aD,.ao aZ<|L 1,bq]]]] [],.iff (.cmp (.ao aZ<|L 0) [(.eq,L 18)]) [.ret<|.cQ aD 7 [.tup [L 18,.ao aZ<|L 1,.call 62 [aD,.ao aZ<|L 2,bq]]]] [],.iff (.cmp (.ao aZ<|L 0) [(.eq,L 9)]) [.ret<|.cQ (.at aD 25) 0 [.tup [L 9,.ao aZ<|L 1,.call 62 [aD,.ao aZ<|L 2,bq]]]] [],.iff (.cmp (.ao aZ<|L 0) [(.eq,L 19)]) [.ret<|.cQ aD 7 [.tup [L 19,.ao aZ<|L 1,.call 62 [aD,.ao aZ<|L 2,bq]]]] [],.iff (.cmp (.ao aZ<|L 0) [(.eq,L 16)]) [.set 4 .bad,.ret<|.ite (.cmp (.bi .len [bN]) [(.gt,L 0)]) (.cQ aD 9 [aZ,bN]) aQ] [],.ret aQ]⟩
def N_:bS:=⟨3,4,[],[.iff (.or [.cmp aQ [(.lt,L 0)],.cmp (.bi .len [aZ]) [(.eq,L 0)]]) [.ret aQ] [],.set 3<|.ao (.at (.at aD 25) 0) aQ,.iff (.cmp (.ao bq<|L 0) [(.eq,L 10)]) [.ret<|.bi .get [aZ,.ao bq<|L 1,aQ]] [],.iff (.cmp (.ao bq<|L 0) [(.eq,L 6)]) [.ret<|.call 20 [.at aD 25,.call 62 [aD,.ao bq<|L 1,aZ]]] [],.iff (.cmp (.ao bq<|L 0) [(.eq,L 11)]) [.ret<|.call 4 [.at aD 25,.call 66 [aD,.ao bq<|L 1,aZ],.ao bq<|L 2]] [],.iff (.cmp (.ao bq<|L 0) [(.eq,L 12)]) [.ret .bad] [],.iff (.cmp (.ao bq<|L 0) [(.eq,L 8)]) [.ret<|.call 64 [aD,bq,aZ]] [],.iff (.cmp (.ao bq<|L 0) [(.eq,L 13)]) [.ret .bad] [],.ret<|.call 65 [aD,aQ,bq,aZ]]⟩
def X4:bS:=⟨2,5,[],[.set 2<|.ao (.at aD 0)<|.ao aQ<|L 1,.iff (.cmp (.ao aQ<|L 1) [(.eq,L 0)]) [.ret<|L 0] [],.iff (.cmp (.ao aZ<|L 0) [(.ne,L 8)]) [.ret<|.cQ aD 0 [aQ]] [],.set 3<|.call 30 [aZ,.call 36 [aD,.ao aQ<|L 2]],.iff (.cmp bq [(.pC,(.k .none))]) [.ret<|.call 33 [aD,bq]] [],.set 4<|.ite (.an [.cmp (.ao aQ<|L 2) [(.eq,L 7)],.cmp (.ao aZ<|L 5) [(.ne,(.tup []))]]) (.ao aZ<|L 5)<|.ao aZ<|L 4,.ret<|.ite (.cmp bN [(.eq,(.tup []))]) (L 13)<|.ao bN<|L 0]⟩
def Zj:bS:=⟨2,2,[],[.iff (.cmp (.ao aQ<|L 0) [(.eq,L 15)]) [.ret<|.call 67 [.at aD 25,aQ]] [],.iff (.cmp (.ao aQ<|L 0) [(.eq,L 18)]) [.ret .bad] [],.ret<|.cQ (.at aD 25) 0 [aQ]]⟩
def YW:bS:=⟨2,2,[],[.fX aD 25 aQ,.fX aD 30<|L 0,.fX aD 31<|L 200,.fX aD 32<|L 40]⟩
def O0:bS:=⟨2,3,[],[.set 2<|.ao (.at (.at aD 25) 0) aQ,.ret<|.ite (.or [.cmp (.ao aZ<|L 0) [(.eq,L 15)],.cmp (.ao aZ<|L 0) [(.eq,L 18)]]) (.call 68 [aD,aZ]) aQ]⟩
def Ws:bS:=⟨2,2,[],[.ret<|.call 68 [aD,aQ]]⟩
def Xm:bS:=⟨3,3,[],[.ret<|.call 66 [aD,aQ,aZ]]⟩
def Nj:bS:=⟨2,3,[],[.set 2<|.ao aD<|L 0,.nu aD (L 0)<|.bin .add aZ<|L 1,.ret<|.bin .mod (.bin .add (.ao (.ao aD<|L 1)<|.bin .mod aZ<|.bi .len [.ao aD<|L 1])<|.bin .mul (L 7)<|.bin .fdiv aZ<|.bi .len [.ao aD<|L 1]) aQ]⟩
def TG:bS:=⟨1,5,[],[.set 1<|.lst [.tup [bp [116],bp [97]],.k<|.tup [.str [119],.str [83]],.k<|.tup [.str [119],.str [117]],.tup [bp [35],L 0],.k<|.tup [.str [119],.str [78]],.tup [bp [119],bp [110]],.tup [bp [116],bp [98]],.tup [bp [35],L 1]],.own 2<|.lst [],.for false [3] (.ez (L 0)<|.ao (.lst [L 1,L 2,L 3,L 1,L 2,L 0])<|.call 73 [aD,L 6]) [.set 4<|.ao aQ<|.call 73 [aD,L 8],.iff (.cmp bN [(.f3,aZ)]) [.app 2 bN] []],.a5 2,.ret aZ]⟩
def MI:bS:=⟨3,4,[],[.ret<|.call 20 [aD,.comp (.call 76 [aD,aQ,bq]) false [3] aZ []]]⟩
def L4:bS:=⟨3,5,[],[.ho [3,4] aZ,.iff (.cmp bq [(.eq,bp [116])]) [.ret<|.cQ aD 0 [.tup [L 3,bN,L 0]]] [],.iff (.cmp bq [(.eq,bp [35])]) [.ret<|.cQ aD 0 [.tup [L 4,bN,L 0]]] [],.iff (.cmp bq [(.eq,bp [91])]) [.ret<|.cQ aD 0 [.tup [L 11,.call 75 [aD,aQ,bN],L 0]]] [],.iff (.cmp bq [(.eq,bp [84])]) [.ret<|.cQ aD 0 [.tup [L 15,aQ,.call 76 [aD,aQ,bN]]]] [],.ret<|.ao (.bb [((bp [117]),(L 4)),((bp [110]),(L 5)),((bp [83]),(L 6)),((bp [78]),(L 7))]) bN]⟩
def SX:bS:=⟨2,4,[],[.set 2<|.ao (.at aD 0) aQ,.iff (.cmp aQ [(.eq,L 2)]) [.ret<|.lst []] [],.ret<|.comp (.call 78 [aD,bq]) false [3] (.ite (.cmp (.ao aZ<|L 0) [(.eq,L 6)]) (.ao aZ<|L 1)<|.tup [aQ]) []]⟩
def N0:bS:=⟨2,3,[],[.set 2<|.ao (.at aD 0) aQ,.iff (.cmp (.ao aZ<|L 0) [(.eq,L 3)]) [.ret<|.tup [bp [116],.ao aZ<|L 1]] [],.iff (.cmp (.ao aZ<|L 0) [(.eq,L 4)]) [.ret<|.tup [bp [35],.ao aZ<|L 1]] [],.iff (.cmp (.ao aZ<|L 0) [(.eq,L 11)]) [.ret<|.tup [bp [91],.bi .tuple [.call 77 [aD,.ao aZ<|L 1]]]] [],.iff (.cmp (.ao aZ<|L 0) [(.eq,L 15)]) [.ret<|.tup [bp [84],.call 78 [aD,.ao aZ<|L 2]]] [],.ret<|.tup [bp [119],.bi .get [.bb [((L 4),(bp [117])),((L 5),(bp [110])),((L 6),(bp [83])),((L 7),(bp [78]))],aQ,bp [63]]]]⟩
def Â:bS:=⟨1,5,[],[.set 1<|.call 73 [aD,L 4],.set 2<|.call 73 [aD,L 4],.set 3<|.ite (.cmp aQ [(.eq,L 2)]) (.call 74 [aD])<|.lst [],.own 4<|.bb [],.iff (.cmp aQ [(.eq,L 3)]) [.jA 4 (bp [48])<|.call 74 [aD],.jA 4 (bp [97])<|.call 74 [aD],.jA 4 (bp [42])<|.bin .add (.bin .add (.call 74 [aD])<|.ao bN<|bp [48])<|.ao bN<|bp [97]] [],.a5 4,.ret<|.tup [aQ,aZ,bq,bN]]⟩
def Dd:bS:=⟨2,7,[],[.ho [2,3,4,5] aD,.set 6 bN,.iff (.cmp aZ [(.eq,L 0)]) [.set 6<|.lst [.tup [bp [84],aQ]]] [],.iff (.cmp aZ [(.eq,L 1)]) [.set 6<|.lst [aQ]] [],.iff (.cmp aZ [(.eq,L 3)]) [.set 6<|.ite (.an [.cmp (.ao aQ<|L 0) [(.eq,bp [116])],.cmp (.ao aQ<|L 1) [(.isin,c4)]]) (.ao c4<|.ao aQ<|L 1)<|.ao c4<|bp [42]] [],.iff (.cmp (.bin .mod bq<|L 2) [(.eq,L 1)]) [.set 6<|.lst [.tup [bp [91],.bi .tuple [dP]]]] [],.ret<|.ite (.cmp bq [(.gt,L 1)]) (.bin .add dP<|.lst [.k<|.tup [.str [119],.str [117]]]) dP]⟩
def SK:bS:=⟨4,11,[],[.ho [4,5,6,7] bq,.set 8 aZ,.iff (.cmp bN [(.eq,L 0)]) [.set 8<|.cQ aD 0 [.tup [L 15,aQ,aZ]]] [],.iff (.cmp bN [(.eq,L 2)]) [.set 8<|.call 75 [aD,aQ,dP]] [],.iff (.cmp bN [(.eq,L 3)]) [.set 9<|.bi .tuple [.comp (.tup [na,.call 75 [aD,aQ,.ao ft na],L 0,L 0]) false [10] (.tup [bp [48],bp [97]]) []],.set 8<|.cQ aD 0 [.tup [L 15,.cQ aD 0 [.tup [L 8,gs,.tup [],.tup [],.tup [.call 75 [aD,aQ,.ao ft<|bp [42]],L 0],.tup [],L 0]],aZ]]] [],.iff (.cmp (.bin .mod c4<|L 2) [(.eq,L 1)]) [.set 8<|.cQ aD 0 [.tup [L 11,f5,L 0]]] [],.ret<|.ite (.cmp c4 [(.gt,L 1)]) (.call 20 [aD,.tup [f5,L 4]]) f5]⟩
def W8:bS:=⟨2,27,[],[.set 2<|.lst [bp [97],bp [108,101,110,103,116,104],bp [98],bp [48],bp [49,50],bp [48,49],bp [45,49]],.set 3<|.call 73 [aD,L 3],.own 4<|.lst [],.for false [5] (.ez (L 0)<|.ao (.lst [L 2,L 0,L 1,L 3,L 4])<|.call 73 [aD,L 5]) [.set 6<|.ao aZ<|.bin .mod (.bin .add (.call 73 [aD,L 7]) c4)<|L 7,.set 7<|.call 73 [aD,L 60],.set 8<|.call 74 [aD],.iff (.cmp dP [(.f3,(.comp (.ao Rz<|L 0) false [23] bN []))]) [.app 4<|.tup [dP,f5,.bin .mod ft<|L 2,.bin .mod (.bin .fdiv ft<|L 2)<|L 2,.bin .mod (.bin .fdiv ft<|L 4)<|L 3,.ao (.lst [L 0,L 0,L 0,L 1,L 2])<|.bin .fdiv ft<|L 12]] []],.set 9<|.call 73 [aD,L 5],.set 10<|.comp zS false [24] bN [.or [.cmp (.ao zS<|L 5) [(.gt,L 0)],.an [.cmp (.ao zS<|L 2) [(.eq,L 0)],.cmp (.ao zS<|L 0) [(.f3,(.tup [bp [108,101,110,103,116,104],bp [48],bp [49,50]]))]]]],.iff (.an [.cmp gs [(.eq,L 2)],.cmp bq [(.ne,L 1)],.cmp (.bi .len [na]) [(.eq,L 0)]]) [.set 9<|L 1] [],.set 11<|.comp (.ite (.cmp gs [(.isin,L5)]) (.tup [.call 74 [aD],.call 73 [aD,L 2]])<|.tup []) false [25] (.tup [.tup [L 1,L 3],.tup [L 2,L 3]]) [],.a5 4,.set 4<|.bi .sorted [bN],.own 12<|.lst [],.a5 4,.for true [6,8,13,14,15,16] bN [.set 17<|.bin .add (.bin .add (.bin .add (.bin .mul nS<|L 1)<|.bin .mul oG<|L 2)<|.ao (.lst [L 0,L 4,.bin .add (L 32)<|L 64]) pn)<|.ao (.lst [L 0,L 8,L 16]) qY,.app 12<|.tup [dP,.call 75 [aQ,.k<|.int<|-1,f5],wl,.ite (.cmp qY [(.gt,L 0)]) (L 1)<|L 0]],.set 18<|.ite (.cmp bq [(.eq,L 1)]) (.tup [.cQ aQ 0 [.tup [L 13,.tup [],.tup [],L 3,.tup [],L 0]]])<|.tup [],.set 19<|.comp (.ite (.cmp Ao [(.eq,(.tup []))]) (.tup [])<|.tup [.call 75 [aQ,.k<|.int<|-1,.ao Ao<|L 0],.ao Ao<|L 1]) false [26] m3 [],.a5 12,.set 20<|.cQ aQ 0 [.tup [L 8,.bi .tuple [kV],uT,.tup [],.ao wP<|L 0,.ao wP<|L 1,.bin .mod bq<|L 2]],.a5 12,.set 21<|.cQ aQ 0 [.tup [L 8,.bi .tuple [.aL kV none none<|some<|-1],uT,.tup [],.ao wP<|L 0,.ao wP<|L 1,.bin .mod bq<|L 2]],.iff (.cmp bq [(.eq,L 2)]) [.set 22<|.call 13 [aQ,L 2,bp [73]],.fX EF 14 Ht,.set 20<|.cQ aQ 0 [.tup [L 9,.at EF 10,.tup []]]] [],.a5 4,.a5 12,.ret<|.bb [((bp [115,111,114,116]),(bp [123])),((bp [116]),Ht),((bp [116,117,114,110,101,100]),YQ),((bp [109,101,109,98,101,114,115]),bN),((bp [112,114,111,112,115]),kV),((bp [99,101,108,108,115]),m3),((bp [119,97,121]),bq)]]⟩
def WX:bS:=⟨2,10,[],[.set 2<|.call 73 [aD,L 2],.set 3<|.call 73 [aD,L 4],.set 4<|.bin .mul (.lst [L 0])<|.call 73 [aD,L 3],.iff (.cmp bq [(.eq,L 0)]) [.set 4<|.bin .add bN<|.bin .mul (.lst [L 1])<|.call 73 [aD,L 3]] [],.iff (.cmp bq [(.eq,L 1)]) [.set 4<|.bin .add (.bin .add bN<|.bin .mul (.lst [L 1])<|.call 73 [aD,L 3])<|.lst [L 2]] [],.iff (.cmp bq [(.eq,L 2)]) [.set 4<|.bin .add (.bin .add bN<|.lst [L 2])<|.bin .mul (.lst [L 0])<|.bin .add (L 1)<|.call 73 [aD,L 2]] [],.iff (.cmp bq [(.eq,L 3)]) [.set 4<|.lst [L 2]] [],.set 5<|.comp (.tup [.call 74 [aD],ft]) false [7] bN [],.iff (.cmp bN [(.eq,(.lst [L 2]))]) [.set 6<|.cQ aQ 0 [.tup [L 11,.call 75 [aQ,.k<|.int<|-1,.ao (.ao c4<|L 0)<|L 0],aZ]]] [.set 6<|.cQ aQ 0 [.tup [L 12,.bi .tuple [.comp (.tup [.call 75 [aQ,.k<|.int<|-1,f5],gs]) true [8,9] c4 []],aZ]]],.ret<|.bb [((bp [115,111,114,116]),(bp [91])),((bp [116]),dP),((bp [101,108,101,109,115]),c4),((bp [114,111]),aZ),((bp [111,112,101,110]),(.cmp bN [(.eq,(.lst [L 2]))]))]]⟩
def WV:bS:=⟨2,5,[],[.set 2<|.call 73 [aD,L 11],.set 3<|.cQ aQ 0 [.tup [L 13,.tup [],.tup [],L 3,.tup [],L 0]],.iff (.cmp aZ [(.lt,L 6)]) [.set 4<|.ao (.lst [L 6,L 3,L 5,L 12,.cQ aQ 0 [.tup [L 3,bp [97],L 0]],.cQ aQ 0 [.tup [L 4,L 3,L 1]]]) aZ] [.iff (.cmp aZ [(.lt,L 8)]) [.set 4<|.ite (.cmp aZ [(.eq,L 6)]) (.cQ aQ 0 [.tup [L 18,.tup [bp [120],bp []],.tup [L 7]]])<|.cQ aQ 0 [.tup [L 5,L 1,bp [65],L 0,L 0]]] [.iff (.cmp aZ [(.eq,L 8)]) [.set 4<|.cQ aQ 0 [.tup [L 7,.tup [L 6,.cQ aQ 0 [.tup [L 8,.tup [.tup [bp [98,114,97,110,100],L 7,L 0,L 0]],.tup [],.tup [],.tup [],.tup [],L 0]]]]]] [.set 4<|.ite (.cmp aZ [(.eq,L 9)]) (L 10)<|L 1,.iff (.an [.cmp aZ [(.eq,L 9)],.cmp (.call 73 [aD,L 2]) [(.eq,L 1)]]) [.set 4 bq] []]]],.ret<|.bb [((bp [115,111,114,116]),(bp [112])),((bp [116]),bN),((bp [115,116,97,121,115]),(.cmp aZ [(.lt,L 9)]))]]⟩
def Vj:bS:=⟨3,5,[],[.set 3<|.comp bN false [4] aD [.cmp bN [(.ne,(.k<|.tup [.str [119],.str [117]]))]],.iff (.or [.cmp aQ [(.eq,L 1)],.an [.cmp aQ [(.eq,L 0)],.cmp aZ [(.eq,L 1)]]]) [.ret<|.tup [.ite (.cmp (.bi .len [bq]) [(.eq,L 0)]) aD bq,L 1]] [],.ret<|.tup [.ite (.cmp aZ [(.eq,L 1)]) bq aD,L 0]]⟩
def Z4:bS:=⟨5,19,[],[.ho [5,6] bq,.iff (.cmp (.ao bN<|bp [115,111,114,116]) [(.eq,bp [91])]) [.ret<|.call 87 [aD,aQ,aZ,bq,bN]] [],.own 7<|.lst [],.for true [8,9,10,11,12,13] (.ao bN<|bp [109,101,109,98,101,114,115]) [.iff (.an [.cmp nS [(.eq,L 0)],.cmp f5 [(.f3,(.tup [bp [108,101,110,103,116,104],bp [48],bp [49,50]]))]]) [.ho [14,15]<|.call 85 [.call 80 [aZ,.tup [bp [116],f5]],c4,na],.app 7<|.tup [f5,.call 75 [aD,aQ,oG],.bin .add (.bin .mul pn<|L 1)<|.bin .mul (.ao (.lst [m3,L 1,L 0]) dP)<|L 2,L 0]] []],.own 16<|.lst [],.for false [17] (.ez (L 0)<|L 2) [.set 18<|.ao (.ao bN<|bp [99,101,108,108,115]) wl,.iff (.cmp uT [(.ne,(.tup []))]) [.set 14<|.bin .add (.call 80 [aZ,.ao (.lst [.k<|.tup [.str [119],.str [83]],.k<|.tup [.str [119],.str [78]]]) wl])<|.ite (.cmp c4 [(.eq,L 1)]) (.lst [.k<|.tup [.str [119],.str [117]]])<|.lst [],.set 18<|.tup [.call 75 [aD,aQ,oG],.ao (.lst [.ao uT<|L 1,L 1,L 0]) dP]] [],.app 16 uT],.a5 7,.ret<|.cQ aD 0 [.tup [L 8,.bi .tuple [ft],.tup [],.tup [],.ao qY<|L 0,.ao qY<|L 1,L 0]]]⟩
def M5:bS:=⟨5,18,[],[.ho [5,6] bq,.set 7<|.ao (.lst [.ao bN<|bp [114,111],L 1,L 0]) dP,.set 8<|.call 80 [aZ,.k<|.tup [.str [119],.str [78]]],.iff (.cmp c4 [(.eq,L 1)]) [.set 8<|.bin .add f5<|.lst [.k<|.tup [.str [119],.str [117]]]] [],.iff (.cmp c4 [(.eq,L 2)]) [.set 8<|.comp pn false [15] f5 [.cmp pn [(.ne,(.k<|.tup [.str [119],.str [117]]))]]] [],.iff (.ao bN<|bp [111,112,101,110]) [.ret<|.cQ aD 0 [.tup [L 11,.call 75 [aD,aQ,f5],ft]]] [],.set 9<|.comp wl true [16,17] (.ao bN<|bp [101,108,101,109,115]) [],.set 10<|.ite (.cmp (L 2) [(.isin,gs)]) (.bi .index [gs,L 2])<|.bi .len [gs],.own 11<|.lst [],.for false [12] (.ez (L 0)<|.bi .len [gs]) [.ho [13,14]<|.tup [f5,.ao gs kV],.iff (.cmp kV [(.lt,na)]) [.ho [13,14]<|.call 85 [.call 80 [aZ,.tup [bp [116],.bi .str [kV]]],c4,.ao gs kV]] [],.iff (.an [.cmp oG [(.eq,L 1)],.cmp na [(.lt,(.bin .sub (.bi .len [gs])<|L 1))]]) [.ho [13,14]<|.tup [.bin .add nS<|.lst [.k<|.tup [.str [119],.str [117]]],L 0]] [],.app 11<|.tup [.call 75 [aD,aQ,nS],oG]],.a5 11,.ret<|.cQ aD 0 [.tup [L 12,.bi .tuple [m3],ft]]]⟩
def Vg:bS:=⟨1,17,[],[.iff (.cmp (.ao aD<|bp [115,111,114,116]) [(.eq,bp [91])]) [.ret<|.comp (.tup [.call 90 [oG],bp [91]]) false [14] (.call 89 [.ao aD<|bp [101,108,101,109,115]]) []] [],.own 1<|.bb [],.own 2<|.bb [],.own 3<|.bb [],.set 4<|.an [.cmp (.ao aD<|bp [119,97,121]) [(.ne,L 1)],.cmp (.ao aD<|bp [99,101,108,108,115]) [(.eq,(.lst [.tup [],.tup []]))]],.set 5<|.lst [.tup [bp [116],bp [97]]],.own 6<|.lst [],.for true [7,8,9,10,11,12] (.ao aD<|bp [109,101,109,98,101,114,115]) [.iff (.cmp kV [(.eq,L 0)]) [.jA 1 ft<|.tup [f5,gs],.jA 2 ft<|.tup [f5,L 0],.iff (.cmp gs [(.eq,L 0)]) [.jA 3 ft<|.tup [f5,L 0],.app 6 ft] []] [],.set 4<|.an [bN,.cmp kV [(.eq,L 0)],.or [.cmp ft [(.ne,bp [108,101,110,103,116,104])],.cmp (.k<|.tup [.str [119],.str [78]]) [(.isin,f5)]]],.set 5<|.ite (.cmp ft [(.eq,bp [48])]) f5 c4],.jA 2 (bp [122])<|.tup [.lst [.tup [bp [116],bp [97]]],L 0],.jA 3 (bp [55])<|.tup [.lst [.tup [bp [35],L 1]],L 0],.a5 2,.a5 3,.a5 1,.own 13<|.lst [.tup [aQ,bp [123]],.tup [aZ,bp [123]],.tup [bq,bp [123]]],.iff (.an [bN,.cmp (.bi .len [.comp pn false [15] dP [.cmp pn [(.ne,bp [108,101,110,103,116,104])]]]) [(.eq,L 0)]]) [.app 13<|.tup [.bb [],bp [116,101,120,116]]] [],.iff (.an [bN,.cmp (.bi .len [.comp qY false [16] dP [.cmp qY [(.f3,(.tup [bp [108,101,110,103,116,104],bp [48]]))]]]) [(.eq,L 0)]]) [.app 13<|.tup [.bb [((bp [48]),(.tup [c4,L 0]))],bp [91]]] [],.a5 13,.ret nS]⟩
def NU:bS:=⟨1,8,[],[.own 1<|.lst [.comp (.tup [dP,L 0]) true [6,7] aD [.cmp ft [(.eq,L 0)]]],.for false [2] (.ez (L 0)<|L 3) [.own 3<|.lst [],.for true [4,5] aD [.iff (.cmp c4 [(.eq,L 2)]) [.ext 3<|.bin .mul (.lst [.tup [bN,L 0]]) aZ] [.app 3<|.tup [bN,.ite (.an [.cmp c4 [(.eq,L 1)],.cmp aZ [(.eq,L 0)]]) (L 1)<|L 0]]],.a5 3,.app 1 bq],.a5 1,.ret aQ]⟩
def Ml:bS:=⟨1,3,[],[.own 1<|.bb [],.for false [2] (.ez (L 0)<|.bi .len [aD]) [.jA 1 (.bi .str [aZ])<|.ao aD aZ],.a5 1,.ret aQ]⟩
def ZH:bS:=⟨2,8,[],[.set 2<|.comp ft false [7] aD [],.iff (.cmp (.ao aQ<|L 0) [(.eq,bp [116])]) [.iff (.cmp (.ao aQ<|L 1) [(.f3,aD)]) [.ret<|.lst [.k<|.tup [.str [119],.str [117]]]] [],.set 2<|.lst [.ao aQ<|L 1]] [],.own 3<|.lst [],.for false [4] aZ [.ho [5,6]<|.ao aD bN,.ext 3<|.bin .add c4<|.bin .mul (.lst [.k<|.tup [.str [119],.str [117]]]) dP],.a5 3,.ret bq]⟩
def S':bS:=⟨2,5,[],[.own 2<|.lst [],.for true [3,4] aD [.iff (.cmp bq [(.eq,bp [84])]) [.ext 2<|.call 91 [aQ,bN]] [.iff (.cmp bq [(.eq,bp [91])]) [.app 2<|.tup [bq,.bi .tuple [.call 92 [bN,aQ]]]] [.app 2<|.tup [bq,bN]]]],.a5 2,.ret aZ]⟩
def Xs:bS:=⟨5,9,[],[.iff (.an [.cmp bN [(.eq,bp [108,101,110,103,116,104])],.cmp bq [(.ne,bp [123])]]) [.ret<|.lst [.k<|.tup [.str [119],.str [78]]]] [],.iff (.cmp bN [(.f3,aZ)]) [.ret<|.lst [.k<|.tup [.str [119],.str [117]]]] [],.ho [5,6]<|.ao aZ bN,.ho [7,8]<|.call 85 [.call 92 [.call 80 [aD,.tup [bp [116],bN]],aZ],aQ,dP],.ret<|.bin .add ft<|.bin .mul (.lst [.k<|.tup [.str [119],.str [117]]]) f5]⟩
def XY:bS:=⟨1,2,[],[.ret<|.an [.cmp aD [(.ne,bp [])],.cmp (.bi .len [.comp aQ false [1] aD [.cmp aQ [(.f3,bp [48,49,50,51,52,53,54,55,56,57])]]]) [(.eq,L 0)]]]⟩
def Xk:bS:=⟨2,5,[],[.ho [2,3] aD,.iff (.cmp aD [(.isin,aQ)]) [.ret<|.k<|.bool true] [],.iff (.cmp aZ [(.eq,bp [116])]) [.ret<|.or [.cmp (.k<|.tup [.str [119],.str [83]]) [(.isin,aQ)],.an [.cmp (.k<|.tup [.str [119],.str [78]]) [(.isin,aQ)],.call 94 [bq]]]] [],.iff (.cmp aZ [(.eq,bp [35])]) [.ret<|.cmp (.k<|.tup [.str [119],.str [78]]) [(.isin,aQ)]] [],.ret<|.an [.cmp aZ [(.eq,bp [91])],.cmp (.bi .len [.comp bN false [4] aQ [.an [.cmp (.ao bN<|L 0) [(.eq,bp [91])],.call 96 [bq,.ao bN<|L 1]]]]) [(.gt,L 0)]]]⟩
def Ut:bS:=⟨2,3,[],[.ret<|.cmp (.bi .len [.comp aZ false [2] aD [.not (.call 95 [aZ,aQ])]]) [(.eq,L 0)]]⟩
def Y_:bS:=⟨3,12,[],[.iff (.cmp (.ao aQ<|L 0) [(.eq,L 11)]) [.ret<|.lst [.call 77 [aD,.ao aQ<|L 1]]] [],.iff (.cmp (.ao aQ<|L 0) [(.eq,L 12)]) [.set 3<|.comp na true [9,10] (.ao aQ<|L 1) [],.set 4<|.ite (.cmp (L 2) [(.isin,bq)]) (.bi .index [bq,L 2])<|.bi .len [bq],.set 5<|.bi .int [aZ],.iff (.cmp c4 [(.lt,bN)]) [.ret<|.lst [.bin .add (.call 77 [aD,.ao (.ao (.ao aQ<|L 1) c4)<|L 0])<|.bin .mul (.lst [.k<|.tup [.str [119],.str [117]]])<|.ao bq c4]] [],.own 6<|.lst [],.for true [7,8] (.tU (.ao aQ<|L 1) bN) [.ext 6<|.call 77 [aD,ft]],.a5 6,.ret<|.lst [dP]] [],.own 6<|.comp (.bin .add (.call 77 [aD,.ao m3<|L 1])<|.bin .mul (.lst [.k<|.tup [.str [119],.str [117]]])<|.bin .mod (.ao m3<|L 2)<|L 2) false [11] (.ao aQ<|L 1) [.cmp (.ao m3<|L 0) [(.eq,aZ)]],.iff (.cmp (.ao aQ<|L 4) [(.ne,(.tup []))]) [.app 6<|.bin .add (.call 77 [aD,.ao (.ao aQ<|L 4)<|L 0])<|.lst [.k<|.tup [.str [119],.str [117]]]] [],.iff (.an [.cmp (.ao aQ<|L 5) [(.ne,(.tup []))],.call 94 [aZ]]) [.app 6<|.bin .add (.call 77 [aD,.ao (.ao aQ<|L 5)<|L 0])<|.lst [.k<|.tup [.str [119],.str [117]]]] [],.a5 6,.ret dP]⟩
def RC:bS:=⟨5,18,[],[.for true [5,6] bN [.own 7<|.comp nS false [13] c4 [],.iff (.cmp (.ao aQ<|L 0) [(.eq,L 8)]) [.ext 7<|.comp (.ao oG<|L 0) false [14] (.ao aQ<|L 1) [.cmp (.ao oG<|L 0) [(.f3,c4)]]] [],.iff (.cmp (.ao aQ<|L 0) [(.eq,L 12)]) [.set 8<|.comp qY true [15,16] (.ao aQ<|L 1) [],.set 9<|.ite (.cmp (L 2) [(.isin,f5)]) (.bi .index [f5,L 2])<|.bi .len [f5],.ext 7<|.comp (.bi .str [wl]) false [17] (.ez (.bi .len [c4]) gs) []] [],.a5 7,.for false [10] ft [.set 11<|.call 93 [aZ,bq,c4,dP,na],.for false [12] (.call 97 [aD,aQ,na]) [.iff (.not (.call 96 [m3,.bin .add (.call 92 [kV,c4])<|.bin .mul (.lst [.k<|.tup [.str [119],.str [117]]])<|.bin .fdiv bq<|L 2])) [.ret<|.k<|.bool false] []]]],.ret<|.k<|.bool true]⟩
def zq:bS:=⟨1,16,[],[.set 1<|.new 0 [],.set 2<|.new 4 [aQ],.set 3<|.call 12 [aQ,bp [84]],.set 4<|.call 12 [aQ,bp [80]],.set 5<|.call 79 [aD],.set 6<|.tup [.call 73 [aD,L 3],.call 73 [aD,L 3]],.set 7<|.cmp (.call 73 [aD,L 5]) [(.eq,L 4)],.set 8<|.call 73 [aD,L 8],.set 9<|.ite (.cmp f5 [(.lt,L 4)]) (.call 82 [aD,aQ])<|.ite (.cmp f5 [(.lt,L 7)]) (.call 83 [aD,aQ])<|.call 84 [aD,aQ],.set 10<|.call 81 [aQ,bq,bN,c4],.set 11<|.cQ aQ 0 [.tup [L 14,bq]],.set 12<|.tup [L 17,.ao (.ao (.at aQ 0) bN)<|L 1,m3,.ite ft bN<|.k<|.int<|-1,na,.ao dP<|L 0,.ao dP<|L 1],.set 13<|.call 59 [aZ,kV,.ao gs<|bp [116]],.iff (.cmp (.ao gs<|bp [115,111,114,116]) [(.eq,bp [112])]) [.ret<|.cmp nS [(.eq,(.ite (.ao gs<|bp [115,116,97,121,115]) (.ao gs<|bp [116])<|L 11))]] [],.set 14<|.call 86 [aQ,bq,c4,dP,gs],.iff (.cmp nS [(.ne,(.ite ft (L 11) oG))]) [.ret<|.k<|.bool false] [],.iff (.cmp (.ao gs<|bp [115,111,114,116]) [(.eq,bp [91])]) [.iff (.an [.not (.ao gs<|bp [111,112,101,110]),.cmp (.call 60 [aZ,kV,.ao (.at aQ 0)<|.ao gs<|bp [116]]) [(.ne,oG)]]) [.ret<|.k<|.bool false] []] [.iff (.cmp (.call 59 [aZ,kV,.ao gs<|bp [116,117,114,110,101,100]]) [(.ne,nS)]) [.ret<|.k<|.bool false] [],.for false [15] (.ao gs<|bp [112,114,111,112,115]) [.iff (.cmp (.call 61 [aZ,.new 6 [.cQ aQ 0 [.tup [L 3,.ao pn<|L 0,L 0]],pn,.tup []]]) [(.ne,(.cmp (.ao pn<|L 0) [(.isin,(.tup [bp [108,101,110,103,116,104],bp [48],bp [49,50]]))]))]) [.ret<|.k<|.bool false] []],.iff (.call 61 [aZ,.new 6 [.ao (.lst [L 6,L 7])<|.bin .mod f5<|L 2,.k .none,.tup [L 6,L 0]]]) [.ret<|.k<|.bool false] []],.ret<|.or [ft,.call 98 [aQ,.ao (.at aQ 0) nS,c4,.ao dP<|L 0,.call 88 [gs]]]]⟩
def SV:bS:=⟨1,3,[],[.set 1<|.comp (.bin .mod aZ<|L 99991) false [2] (.aL aD none (some 48) none) [],.iff (.cmp (.bi .len [aQ]) [(.eq,L 0)]) [.set 1<|.lst [L 0,L 2,L 0,L 1,L 0,L 0,L 0,L 0,L 0,L 5,L 1,L 2,L 1,L 0,L 0,L 4,L 5,L 38,L 1,L 0,L 3,L 1]] [],.ret<|.call 99 [.box<|.lst [L 0,aQ]]]⟩
def uJ:IF bS:=[ym,Ö,PB,PO,Tu,R9,X6,WO,TS,SO,N4,Z3,Sc,No,OC,SR,Vn,MR,X5,M8,YK,Nc,Ul,PF,L0,QK,MZ,Rf,WD,Yc,YG,TN,QQ,Yq,XO,Xb,YM,Yp,V4,Ss,YC,NF,UF,RU,Um,Q4,PI,Zq,XU,Å,Vr,TO,Mj,P',Z1,Qg,PW,Y0,QJ,É,Yt,R0,Rx,W9,WJ,Ti,N_,X4,Zj,YW,O0,Ws,Xm,Nj,TG,MI,L4,SX,N0,Â,Dd,SK,W8,WX,WV,Vj,Z4,M5,Vg,NU,Ml,ZH,S',Xs,XY,Xk,Ut,Y_,RC,zq,SV]
def J2:IF (Č×Č×Č):=[(0,0,1),(4,1,27),(4,2,28),(4,6,70),(4,7,71),(4,8,72),(5,3,39),(5,4,40),(5,5,41)]
def Ba (c m:Č):Ċ Č:=(J2.find? λx=>Nat.beq x.1 c&&Nat.beq x.2.1 m).map (·.2.2)
def AI:Č->Ċ Č
 |0=>some 0
 |1=>some 2
 |4=>some 69
 |5=>some 38
 |6=>some 51
 |_=>none
def lV:WR:=⟨λi=>uJ[i]?,Ba,AI⟩
def ax{av:Type}(o:Ċ av)(Q:av->Prop):Prop:=match o with|some a=>Q a|none=>False
def kH(p q:Prop)(b:ĉ):Prop:=match b with|true=>p|false=>q
def bj(o:Ċ ĉ)(p q:Prop):Prop:=ax o<|kH p q
structure j0(p:Prop):Prop where
 of:p
abbrev jD:=Č->IF B->St->(B->St->Prop)->Prop
def pU(o:Ċ B)(s:St)(f:(B->St->Prop)->Prop)(K:B->St->Prop):Prop:=match o with|some v=>K v s|none=>f K
def O' (ai:IF (B×B)):Ċ (List<|B×B):=ai.foldlM (λd (p:B×B)=>if ep p.1 d then gU p.1 p.2 d else none) []
def hD (o:hP) (s:St) (x y:B):Ċ ĉ:=match o with|.isin=>qw s x y|.f3=>(qw s x y).map (!·)|o=>Internal.cmp o x y
def qI(o k:B)(Q:B->Prop):Prop:=match o with
 |.tup l=>(match k with|.int i=>(match i with|.ofNat j=>j<=l.length/\Q (.tup<|l.drop j)|.negSucc _=>False)|_=>False)
 |_=>False
def kj(o:B)(Q:IF B->Prop):Prop:=match o with|.lst l=>Q l|_=>False
def pv(x y:B)(Q:B->Prop):Prop:=match x with
 |.int i=>(match y with|.int j=>small i=true/\small j=true/\(j-i).toNat<=a3/\Q (.ez i j)|_=>False)
 |_=>False
def r_(v:B)(f:co->Prop):Prop:=match v with|.lst l=>f (.ol l)|.bb l=>f (.od l)|_=>False
def hV(o:Ċ co)(f:IF B->Prop):Prop:=match o with|some x=>(match x with|.ol l=>f l|_=>False)|_=>False
def kT(o:Ċ co)(f:IF (B×B)->Prop):Prop:=match o with|some x=>(match x with|.od l=>f l|_=>False)|_=>False
def t'(v:B)(p:Prop):Prop:=match v with|.none=>p|.int _=>p|_=>False
def rp(o:Ċ co)(p:Prop)(f:B->Prop):Prop:=match o with|some x=>(match x with|.ol l=>f (.lst l)|.od l=>f (.bb l)|_=>p)|none=>False
def u3(x:B)(f:Č->Prop):Prop:=match x with|.ref n=>f n|_=>False
def gS(o:Ċ c5)(f:IF B->Prop):Prop:=match o with|some y=>(match y with|.ls l=>f l|_=>False)|none=>False
def H1 (s:St):B->Ċ St
 |.lst l=>some<|s++[c5.ls l]
 |.bb l=>some<|s++[c5.cP l]
 |_=>none
def FG (s:St) (x k v:B):Ċ St:=match x with
 |.ref n=>(s[n]?).bind λy=>match y with
  |.ls l=>(match k with|.int i=>(match i with|.ofNat j=>if j<l.length then some (s.set n<|.ls<|l.set j v)else none|_=>none)|_=>none)
  |.cP l=>if ep k l then(gU k v l).bind λl=>i7 l.length (s.set n<|.cP l)else none
  |_=>none
 |_=>none
def lb(o:Ċ B)(Q:B->St->Prop)(s:St):Prop:=ax o λa=>Q a s
def hA{av b9:Type}(w:aJ->St->b9->Prop)(r:aJ)(K:av->b9)(x:av)(s:St):Prop:=w r s<|K x
def EK(a:Č)(Q:B->St->Prop)(o:B)(s:St):Prop:=lb (n1 s o a) Q s
def HX(Q:B->St->Prop)(o k:B)(s:St):Prop:=lb (hn s o k) Q s
def JH(a b c:Ċ č)(Q:B->St->Prop)(o:B)(s:St):Prop:=lb (rL o a b c) Q s
def Ia(Q:B->St->Prop)(o k:B)(s:St):Prop:=qI o k λv=>Q v s
def Uj(Q:B->St->Prop)(o:B)(s:St):Prop:=kj o λl=>Q (.ref s.length)<|s++[c5.ls l]
def Kr(Q:B->St->Prop)(l:IF B)(s:St):Prop:=Q (.tup l) s
def Eu(Q:B->St->Prop)(l:IF B)(s:St):Prop:=Q (.lst l) s
def Jb(Q:B->St->Prop)(l:IF (B×B))(s:St):Prop:=ax (O' l) λd=>Q (.bb d) s
def Fi(o:kq)(Q:B->St->Prop)(x y:B)(s:St):Prop:=lb (Internal.bin o x y) Q s
def I'(Q:B->St->Prop)(x:B)(s:St):Prop:=ax (js x) λb=>Q (.bool !b) s
def GI(o:B)(Q:B->St->Prop)(v:B)(s:St):Prop:=v=.none/\Q o s
def om(b:f7)(v:B)(p:Prop):Prop:=match b with|.index=>kj v λ_=>p|.get=>(match v with|.bb _=>p|_=>False)|_=>p
def PJ(b:f7)(v:B)(Q:B->St->Prop)(l:IF B)(s:St):Prop:=lb (oZ b s<|v::l) Q s
def Fd(b:f7)(w:aJ->St->(IF B->St->Prop)->Prop)(r:aJ)(Q:B->St->Prop)(v:B)(s:St):Prop:=om b v<|w r s<|PJ b v Q
def Bz(Q:B->St->Prop)(x y:B)(s:St):Prop:=pv x y λv=>Q v s
def B4(o:hP)(x:B)(Q:B->St->Prop)(y:B)(s:St):Prop:=ax (hD o s x y) λt=>Q (.bool t) s
def JN(Q:IF B->St->Prop)(v:B)(l:IF B)(s:St):Prop:=Q (v::l) s
def KD(Q:IF (B×B)->St->Prop)(x y:B)(l:IF (B×B))(s:St):Prop:=Q ((x,y)::l) s
def OF(w:B->aJ->St->(B->St->Prop)->Prop)(r:aJ)(Q:B->St->Prop)(x:B)(s:St):Prop:=w x r s Q
def Fq{dB:Type}(w rD:aJ->St->dB->Prop)(r:aJ)(Q:dB)(v:B)(s:St):Prop:=bj (js v) (w r s Q)<|rD r s Q
def Kn(w:aJ->St->(B->St->Prop)->Prop)(r:aJ)(Q:B->St->Prop)(v:B)(s:St):Prop:=bj (js v) (w r s Q)<|Q v s
def Kk(w:aJ->St->(B->St->Prop)->Prop)(r:aJ)(Q:B->St->Prop)(v:B)(s:St):Prop:=bj (js v) (Q v s)<|w r s Q
def Po(w:aJ->St->(ĉ->St->Prop)->Prop)(r:aJ)(Q:ĉ->St->Prop)(v:B)(s:St):Prop:=bj (js v) (w r s Q)<|Q false s
def Na(o:hP)(x:B)(w:B->aJ->St->(B->St->Prop)->Prop)(r:aJ)(Q:B->St->Prop)(y:B)(s:St):Prop:=bj (Internal.cmp o x y) (w y r s Q)<|Q (.bool false) s
def kE(fb:aJ->St->(B->St->Prop)->Prop)(fF:aJ->St->(ĉ->St->Prop)->Prop)(bk:ĉ)(aS:IF Č)(r:aJ)(v:B)(s:St)(Q:IF B->St->Prop):Prop:=ax (iO bk aS v r) λb2=>fF b2 s λb s=>bj (some b) (fb b2 s λy s=>Q [y] s)<|Q [] s
def j6(t:B->St->(IF B->St->Prop)->Prop)(Q:B->St->Prop):IF B->IF B->St->Prop
 |[],cg,s=>Q (.lst cg) s
 |v::l,cg,s=>t v s λc9 s=>j6 t Q l (cg++c9) s
def nN(t:B->St->(IF B->St->Prop)->Prop)(Q:B->St->Prop)(m:Č):Č->Č->IF B->St->Prop
 |0,i,cg,s=>gS s[m]? λl=>l.length=i/\Q (.lst cg) s
 |n+1,i,cg,s=>gS s[m]? λl=>ax l[i]? λv=>t v s λc9 s=>nN t Q m n (i+1) (cg++c9) s
def kh(t:B->St->(IF B->St->Prop)->Prop)(Q:B->St->Prop)(x:B)(s:St):Prop:=match x with
 |.ref m=>gS s[m]? λl=>nN t Q m l.length 0 [] s
 |x=>ax (items x) λbP=>j6 t Q bP [] s
section
variable(ah:jD)
def R_(f:Č)(Q:B->St->Prop)(l:IF B)(s:St):Prop:=ah f l s Q
def WQ(c:Č)(Q:B->St->Prop)(l:IF B)(s:St):Prop:=ax (lV.A7 c) λf=>ah f (.ref s.length::l) (s++[.ins c []])<|GI (.ref s.length) Q
def Sa(f:Č)(x:B)(Q:B->St->Prop)(l:IF B)(s:St):Prop:=ah f (x::l) s Q
def PH(m:Č)(w:aJ->St->(IF B->St->Prop)->Prop)(r:aJ)(Q:B->St->Prop)(x:B)(s:St):Prop:=ax ((DA s x).bind λc=>lV.meths c m) λf=>w r s<|Sa ah f x Q
mutual
noncomputable def cm:a2->aJ->St->(B->St->Prop)->Prop
 |.k v,_,s,Q=>Q v s
 |.v i,r,s,Q=>lb (qu r i) Q s
 |.at e a,r,s,Q=>cm e r s<|EK a Q
 |.ao e i,r,s,Q=>pU (peek r e) s (cm e r s)<|hA (cm i) r<|HX Q
 |.aL e a b c,r,s,Q=>cm e r s<|JH a b c Q
 |.tU e i,r,s,Q=>cm e r s<|hA (cm i) r<|Ia Q
 |.box e,r,s,Q=>cm e r s<|Uj Q
 |.tup l,r,s,Q=>lR l r s<|Kr Q
 |.lst l,r,s,Q=>lR l r s<|Eu Q
 |.bb l,r,s,Q=>xy l r s<|Jb Q
 |.bin o a b,r,s,Q=>cm a r s<|hA (cm b) r<|Fi o Q
 |.not e,r,s,Q=>cm e r s<|I' Q
 |.cmp a l,r,s,Q=>cm a r s<|OF (vt l) r Q
 |.an l,r,s,Q=>qo l r s Q
 |.or l,r,s,Q=>pT l r s Q
 |.ite c t e,r,s,Q=>cm c r s<|Fq (cm t) (cm e) r Q
 |.call f l,r,s,Q=>lR l r s<|R_ ah f Q
 |.new c l,r,s,Q=>lR l r s<|WQ ah c Q
 |.cQ o m l,r,s,Q=>cm o r s<|PH ah m (lR l) r Q
 |.bi b l,r,s,Q=>match l with|[]=>False|a::l=>cm a r s<|Fd b (lR l) r Q
 |.ez a b,r,s,Q=>cm a r s<|hA (cm b) r<|Bz Q
 |.comp e bk aS it ifs,r,s,Q=>j0<|pU (peek r it) s (cm it r s)<|kh (kE (cm e) (s' ifs) bk aS r) Q
 |.bad,_,_,_=>False
noncomputable def lR:IF a2->aJ->St->(IF B->St->Prop)->Prop
 |[],_,s,Q=>Q [] s
 |e::l,r,s,Q=>cm e r s<|hA (lR l) r<|JN Q
noncomputable def xy:IF (a2×a2)->aJ->St->(IF (B×B)->St->Prop)->Prop
 |[],_,s,Q=>Q [] s
 |(a,b)::l,r,s,Q=>cm a r s<|hA (cm b) r λx=>hA (xy l) r<|KD Q x
noncomputable def vt:IF (hP×a2)->B->aJ->St->(B->St->Prop)->Prop
 |[],_,_,_,_=>False
 |(o,b)::l,x,r,s,Q=>match l with
  |[]=>pU (peek r b) s (cm b r s)<|B4 o x Q
  |_::_=>cm b r s<|Na o x (vt l) r Q
noncomputable def qo:IF a2->aJ->St->(B->St->Prop)->Prop
 |[],_,_,_=>False
 |e::l,r,s,Q=>match l with
  |[]=>cm e r s Q
  |_::_=>cm e r s<|Kn (qo l) r Q
noncomputable def pT:IF a2->aJ->St->(B->St->Prop)->Prop
 |[],_,_,_=>False
 |e::l,r,s,Q=>match l with
  |[]=>cm e r s Q
  |_::_=>cm e r s<|Kk (pT l) r Q
noncomputable def s':IF a2->aJ->St->(ĉ->St->Prop)->Prop
 |[],_,s,Q=>Q true s
 |e::l,r,s,Q=>cm e r s<|Po (s' l) r Q
end
end
def kD(w:aJ->St->(cj->aJ->St->Prop)->Prop)(Q:cj->aJ->St->Prop)(f:cj)(r:aJ)(s:St):Prop:=match f with|.go=>w r s Q|.ret v=>Q (.ret v) r s
def nb(dz:aJ->St->Prop)(Q:cj->aJ->St->Prop)(f:cj)(r:aJ)(s:St):Prop:=match f with|.go=>dz r s|.ret v=>Q (.ret v) r s
def qa(i:Č)(r:aJ)(Q:cj->aJ->St->Prop)(v:B)(s:St):Prop:=Q .go (r.set i<|.val v) s
def uU(i:Č)(r:aJ)(Q:cj->aJ->St->Prop)(v:B)(s:St):Prop:=r_ v λx=>Q .go (r.set i x) s
def AP(l:IF Č)(r:aJ)(Q:cj->aJ->St->Prop)(v:B)(s:St):Prop:=ax (iO true l v r) λr=>Q .go r s
def Ej(a:Č)(r:aJ)(Q:cj->aJ->St->Prop)(v x:B)(s:St):Prop:=ax (nP s x a v) λs=>Q .go r s
def H6(r:aJ)(Q:cj->aJ->St->Prop)(v x k:B)(s:St):Prop:=ax (FG s x k v) λs=>Q .go r s
def K4(i:Č)(r:aJ)(Q:cj->aJ->St->Prop)(v x:B)(s:St):Prop:=kT r[i]? λl=>ep x l=true/\ax (gU x v l) λdh=>dh.length<=a3/\Q .go (r.set i<|.od dh) s
def KQ(i:Č)(r:aJ)(Q:cj->aJ->St->Prop)(v:B)(s:St):Prop:=hV r[i]? λl=>l.length+1<=a3/\Q .go (r.set i<|.ol<|l++[v]) s
def Iy(i:Č)(r:aJ)(Q:cj->aJ->St->Prop)(v:B)(s:St):Prop:=hV r[i]? λl=>kj v λm=>l.length+m.length<=a3/\Q .go (r.set i<|.ol<|l++m) s
def O_(x:B)(r:aJ)(Q:cj->aJ->St->Prop)(v:B)(s:St):Prop:=u3 x λm=>gS s[m]? λl=>l.length+1<=a3/\Q .go r (s.set m<|.ls<|l++[v])
def G1(w:aJ->St->(B->St->Prop)->Prop)(r:aJ)(Q:cj->aJ->St->Prop)(x:B)(s:St):Prop:=ax (CP s x) λ_=>w r s<|O_ x r Q
def Ly(w:aJ->St->(B->St->Prop)->Prop)(a:Č)(r:aJ)(Q:cj->aJ->St->Prop)(v:B)(s:St):Prop:=ax (H1 s v) λpO=>w r pO<|Ej a r Q<|.ref s.length
def Kf(r:aJ)(Q:cj->aJ->St->Prop)(v:B)(s:St):Prop:=t' v<|Q .go r s
def FA(r:aJ)(Q:cj->aJ->St->Prop)(v:B)(s:St):Prop:=Q (.ret v) r s
def nJ(w:aJ->St->(cj->aJ->St->Prop)->Prop)(bk:ĉ)(aS:IF Č)(Q:cj->aJ->St->Prop):IF B->aJ->St->Prop
 |[],r,s=>Q .go r s
 |v::l,r,s=>ax (iO bk aS v r) λr=>w r s<|nb (nJ w bk aS Q l) Q
def kFor(w:aJ->St->(cj->aJ->St->Prop)->Prop)(bk:ĉ)(aS:IF Č)(r:aJ)(Q:cj->aJ->St->Prop)(x:B)(s:St):Prop:=ax (items x) λbP=>j0<|nJ w bk aS Q bP r s
section
variable(ah:jD)
mutual
noncomputable def k_:dF->aJ->St->(cj->aJ->St->Prop)->Prop
 |.set i e,r,s,Q=>cm ah e r s<|qa i r Q
 |.own i e,r,s,Q=>cm ah e r s<|uU i r Q
 |.ho l e,r,s,Q=>cm ah e r s<|AP l r Q
 |.fX o a e,r,s,Q=>cm ah e r s<|hA (cm ah o) r<|Ej a r Q
 |.jo o a e,r,s,Q=>cm ah e r s<|Ly (cm ah o) a r Q
 |.nu o i e,r,s,Q=>cm ah e r s<|hA (cm ah o) r λv=>hA (cm ah i) r<|H6 r Q v
 |.jA i k e,r,s,Q=>kT r[i]? λ_=>cm ah e r s<|hA (cm ah k) r<|K4 i r Q
 |.app i e,r,s,Q=>hV r[i]? λ_=>cm ah e r s<|KQ i r Q
 |.ext i e,r,s,Q=>hV r[i]? λ_=>cm ah e r s<|Iy i r Q
 |.nj o e,r,s,Q=>cm ah o r s<|G1 (cm ah e) r Q
 |.ex e,r,s,Q=>cm ah e r s<|Kf r Q
 |.iff c t e,r,s,Q=>cm ah c r s<|Fq (j8 t) (j8 e) r Q
 |.for bk aS it b,r,s,Q=>cm ah it r s<|kFor (j8 b) bk aS r Q
 |.ret e,r,s,Q=>cm ah e r s<|FA r Q
 |.a5 i,r,s,Q=>rp r[i]? (Q .go r s) λv=>Q .go (r.set i<|.val v) s
 |.bad,_,_,_=>False
noncomputable def j8:IF dF->aJ->St->(cj->aJ->St->Prop)->Prop
 |[],r,s,Q=>Q .go r s
 |c::l,r,s,Q=>k_ c r s<|kD (j8 l) Q
end
end
def cj.val:cj->B|.ret v=>v|.go=>.none
@[irreducible] noncomputable def Du:Č->jD
 |0=>λ_ _ _ _=>False
 |n+1=>λf vs s Q=>ax (lV.fns f) λc=>ax (sd c vs) λr=>j8 (λf vs s Q=>j0<|Du n f vs s Q) c.body r s λcM _ s=>Q cM.val s
abbrev bc(n:Č):jD:=λf vs s Q=>j0<|Du n f vs s Q
theorem x2{n f:Č}{vs:IF B}{s:St}{Q:B->St->Prop}:Du (n+1) f vs s Q=ax (lV.fns f) λc=>ax (sd c vs) λr=>j8 (bc n) c.body r s λcM _ s=>Q cM.val s:=by with_unfolding_all rfl
abbrev dj(n:Č):=cm<|bc n
abbrev sM(n:Č):=s'<|bc n
abbrev wS(n:Č):=k_<|bc n
abbrev bw(n:Č):=j8<|bc n
abbrev cE(n:Č)(bk:ĉ)(aS:IF Č)(b:IF dF)(bP:IF B)(r:aJ)(s:St)(Q:cj->aJ->St->Prop):Prop:=j0<|nJ (bw n b) bk aS Q bP r s
abbrev eR(n:Č)(e:a2)(bk:ĉ)(aS:IF Č)(ifs:IF a2)(v:B)(r:aJ)(s:St)(Q:IF B->St->Prop):Prop:=kE (dj n e) (sM n ifs) bk aS r v s Q
abbrev ff(x:B)(r:aJ)(s:St)(n:Č)(e:a2)(bk:ĉ)(aS:IF Č)(ifs:IF a2)(Q:B->St->Prop):Prop:=kh (kE (dj n e) (sM n ifs) bk aS r) Q x s
abbrev DO(n:Č)(e:a2)(bk:ĉ)(aS:IF Č)(it:a2)(ifs:IF a2)(r:aJ)(s:St)(Q:B->St->Prop):Prop:=j0<|pU (peek r it) s (dj n it r s)<|kh (kE (dj n e) (sM n ifs) bk aS r) Q
def tO(ah:jD):Prop:=∀f vs s Q bT,(∀v s,Q v s->bT v s)->ah f vs s Q->ah f vs s bT
def gJ{av:Type}(w:aJ->St->(av->St->Prop)->Prop):Prop:=∀r s Q bT,(∀a s,Q a s->bT a s)->w r s Q->w r s bT
theorem j0.imp{p q:Prop}(f:p->q)(h:j0 p):j0 q:=⟨f h.of⟩
theorem ax.imp{av:Type}{o:Ċ av}{Q bT:av->Prop}(k:∀a,Q a->bT a)(h:ax o Q):ax o bT:=by
 induction o with
 |none=>exact h.elim
 |some a=>exact k a h
theorem bj.q5{o:Ċ ĉ}{p q et fg:Prop}(f:p->et)(g:q->fg)(h:bj o p q):bj o et fg:=by
 induction o with
 |none=>exact h.elim
 |some b=>induction b with
  |true=>exact f h
  |false=>exact g h
theorem B8{o:Ċ B}{s:St}{f:(B->St->Prop)->Prop}{K eN:B->St->Prop}(a7:(∀a s,K a s->eN a s)->f K->f eN)(k:∀a s,K a s->eN a s)(h:pU o s f K):pU o s f eN:=by
 induction o with
 |none=>exact a7 k h
 |some v=>exact k _ _ h
theorem gS.imp{o:Ċ c5}{f g:IF B->Prop}(k:∀l,f l->g l)(h:gS o f):gS o g:=by
 induction o with
 |none=>exact h.elim
 |some y=>induction y with
  |ls l=>exact k l h
  |_=>exact h.elim
theorem kj.imp{o:B}{f g:IF B->Prop}(k:∀l,f l->g l)(h:kj o f):kj o g:=by
 induction o using B.casesOn with
 |lst l=>exact k l h
 |_=>exact h.elim
theorem om.imp{b:f7}{v:B}{p q:Prop}(k:p->q)(h:om b v p):om b v q:=by induction b using f7.casesOn<;>first|exact k h|exact kj.imp (λ_=>k) h|(induction v using B.casesOn<;>first|exact k h|exact h.elim)
theorem qI.imp{o x:B}{f g:B->Prop}(k:∀l,f l->g l)(h:qI o x f):qI o x g:=by
 induction o using B.casesOn with
 |tup l=>induction x using B.casesOn with
  |int i=>induction i with
   |ofNat j=>exact⟨h.1,k _ h.2⟩
   |negSucc=>exact h.elim
  |_=>exact h.elim
 |_=>exact h.elim
theorem pv.imp{x y:B}{f g:B->Prop}(k:∀l,f l->g l)(h:pv x y f):pv x y g:=by
 induction x using B.casesOn with
 |int i=>induction y using B.casesOn with
  |int j=>exact⟨h.1,h.2.1,h.2.2.1,k _ h.2.2.2⟩
  |_=>exact h.elim
 |_=>exact h.elim
theorem kh.mo{t:B->St->(IF B->St->Prop)->Prop}(dV:∀v s Q bT,(∀a s,Q a s->bT a s)->t v s Q->t v s bT){Q bT:B->St->Prop}(k:∀v s,Q v s->bT v s)(x:B)(s:St)(h:kh t Q x s):kh t bT x s:=by
 have HT:∀bP cg s,j6 t Q bP cg s->j6 t bT bP cg s:=λbP=>by
  induction bP with
  |nil=>exact λ_ _ h=>k _ _ h
  |cons v l ap=>exact λcg s h=>dV v s _ _ (λc9 s h=>ap _ _ h) h
 induction x using B.casesOn with
 |ref m=>
  have N8:∀n i cg s,nN t Q m n i cg s->nN t bT m n i cg s:=λn=>by
   induction n with
   |zero=>exact λ_ _ _ h=>gS.imp (λ_ h=>⟨h.1,k _ _ h.2⟩) h
   |succ n ap=>exact λi cg s h=>gS.imp (λ_ h=>ax.imp (λv h=>dV v s _ _ (λc9 s h=>ap _ _ _ h) h) h) h
  exact gS.imp (λ_ h=>N8 _ _ _ _ h) h
 |bb l=>exact ax.imp (λ_ h=>HT _ _ _ h) h
 |_=>first|exact HT _ _ _ h|exact h.elim
section
variable{ah:jD}(b3:tO ah)
include b3
omit b3 in
theorem TP{fb:aJ->St->(B->St->Prop)->Prop}{fF:aJ->St->(ĉ->St->Prop)->Prop}{bk:ĉ}{aS:IF Č}{r:aJ}(a6:gJ fb)(aB:gJ fF):∀v s Q bT,(∀a s,Q a s->bT a s)->kE fb fF bk aS r v s Q->kE fb fF bk aS r v s bT:=λv s Q bT k h=>ax.imp (λb2 h=>aB b2 s _ _ (λb s=>bj.q5 (λh=>a6 _ _ _ _ (λ_ _=>k _ _) h)<|k _ _) h) h
theorem gy(e:a2):gJ (cm ah e):=a2.rec (motive_1:=λe=>gJ<|cm ah e) (motive_2:=λl=>qG (gJ<|lR ah l) (gJ<|qo ah l) (gJ<|pT ah l) (gJ<|s' ah l) (∀b,gJ<|cm ah<|.bi b l)) (motive_3:=λl=>gJ<|xy ah l) (motive_4:=λl=>∀x,gJ<|vt ah l x) (motive_5:=λp=>gJ (cm ah p.1)/\gJ (cm ah p.2)) (motive_6:=λp=>gJ<|cm ah p.2) (λ_ _ _ _ _ k h=>k _ _ h) (λ_ _ _ _ _ k h=>ax.imp (λ_=>k _ _) h) (λ_ _ m _ _ _ _ k h=>m _ _ _ _ (λ_ _=>ax.imp λ_=>k _ _) h) (λ_ _ m n _ _ _ _ k h=>B8 (m _ _ _ _) (λ_ _=>n _ _ _ _ λ_ _=>ax.imp λ_=>k _ _) h) (λ_ _ _ _ m _ _ _ _ k h=>m _ _ _ _ (λ_ _=>ax.imp λ_=>k _ _) h) (λ_ _ m n _ _ _ _ k h=>m _ _ _ _ (λ_ _=>n _ _ _ _ λ_ _=>qI.imp λ_=>k _ _) h) (λ_ m _ _ _ _ k h=>m _ _ _ _ (λ_ _=>kj.imp λ_=>k _ _) h) (λ_ m _ _ _ _ k h=>m.a _ _ _ _ (λ_ _=>k _ _) h) (λ_ m _ _ _ _ k h=>m.a _ _ _ _ (λ_ _=>k _ _) h) (λ_ m _ _ _ _ k h=>m _ _ _ _ (λ_ _=>ax.imp λ_=>k _ _) h) (λ_ _ _ m n _ _ _ _ k h=>m _ _ _ _ (λ_ _=>n _ _ _ _ λ_ _=>ax.imp λ_=>k _ _) h) (λ_ m _ _ _ _ k h=>m _ _ _ _ (λ_ _=>ax.imp λ_=>k _ _) h) (λ_ _ m n _ _ _ _ k h=>m _ _ _ _ (λ_ _=>n _ _ _ _ _ k) h) (λ_ m _ _ _ _ k h=>m.b _ _ _ _ k h) (λ_ m _ _ _ _ k h=>m.c _ _ _ _ k h) (λ_ _ _ m n o _ _ _ _ k h=>m _ _ _ _ (λ_ _=>bj.q5 (n _ _ _ _ k)<|o _ _ _ _ k) h) (λ_ _ m _ _ _ _ k h=>m.a _ _ _ _ (λ_ _=>b3 _ _ _ _ _ k) h) (λ_ _ m _ _ _ _ k h=>m.a _ _ _ _ (λ_ _=>ax.imp λ_=>b3 _ _ _ _ _ λ_ _ h=>⟨h.1,k _ _ h.2⟩) h) (λ_ _ _ m n _ _ _ _ k h=>m _ _ _ _ (λ_ _=>ax.imp λ_=>n.a _ _ _ _ λ_ _=>b3 _ _ _ _ _ k) h) (λb l m=>List.casesOn (motive:=λl=>qG (gJ<|lR ah l) (gJ<|qo ah l) (gJ<|pT ah l) (gJ<|s' ah l) (∀b,gJ<|cm ah<|.bi b l)->gJ (cm ah<|.bi b l)) l (λm=>m.e b) (λ_ _ m=>m.e b) m) (λ_ _ m n _ _ _ _ k h=>m _ _ _ _ (λ_ _=>n _ _ _ _ λ_ _=>pv.imp λ_=>k _ _) h) (λ_ _ _ _ _ m n o _ _ _ _ k h=>j0.imp (B8 (n _ _ _ _)<|kh.mo (TP m o.d) k) h) (λ_ _ _ _ _ h=>h.elim) ⟨λ_ _ _ _ k h=>k _ _ h,λ_ _ _ _ _ h=>h.elim,λ_ _ _ _ _ h=>h.elim,λ_ _ _ _ k h=>k _ _ h,λ_ _ _ _ _ _ h=>h.elim⟩ (λ_ l m n=>⟨λ_ _ _ _ k h=>m _ _ _ _ (λ_ _=>n.a _ _ _ _ λ_ _=>k _ _) h,List.casesOn (motive:=λl=>gJ (qo ah l)->gJ (qo ah<|_::l)) l (λ_=>m) (λ_ _ n _ _ _ _ k h=>m _ _ _ _ (λ_ _=>bj.q5 (n _ _ _ _ k)<|k _ _) h) n.b,List.casesOn (motive:=λl=>gJ (pT ah l)->gJ (pT ah<|_::l)) l (λ_=>m) (λ_ _ n _ _ _ _ k h=>m _ _ _ _ (λ_ _=>bj.q5 (k _ _)<|n _ _ _ _ k) h) n.c,λ_ _ _ _ k h=>m _ _ _ _ (λ_ _=>bj.q5 (n.d _ _ _ _ k)<|k _ _) h,λ_ _ _ _ _ k h=>m _ _ _ _ (λ_ _=>om.imp<|n.a _ _ _ _ λ_ _=>ax.imp λ_=>k _ _) h⟩) (λ_ _ _ _ k h=>k _ _ h) (λ_ _ m n _ _ _ _ k h=>m.1 _ _ _ _ (λ_ _=>m.2 _ _ _ _ λ_ _=>n _ _ _ _ λ_ _=>k _ _) h) (λ_ _ _ _ _ _ h=>h.elim) (λp l m n x=>List.casesOn (motive:=λl=>(∀x,gJ<|vt ah l x)->gJ (vt ah (p::l) x)) l (λ_ _ _ _ _ k h=>B8 (m _ _ _ _) (λ_ _=>ax.imp λ_=>k _ _) h) (λ_ _ n _ _ _ _ k h=>m _ _ _ _ (λ_ _=>bj.q5 (n _ _ _ _ _ k)<|k _ _) h) n) (λ_ _ m n=>⟨m,n⟩) (λ_ _ m=>m) e
omit b3 in
theorem r_.imp{v:B}{f g:co->Prop}(k:∀l,f l->g l)(h:r_ v f):r_ v g:=by induction v using B.casesOn<;>first|exact k _ h|exact h.elim
omit b3 in
theorem hV.imp{o:Ċ co}{f g:IF B->Prop}(k:∀l,f l->g l)(h:hV o f):hV o g:=by
 induction o with
 |none=>exact h.elim
 |some x=>induction x<;>first|exact k _ h|exact h.elim
omit b3 in
theorem kT.imp{o:Ċ co}{f g:IF (B×B)->Prop}(k:∀l,f l->g l)(h:kT o f):kT o g:=by
 induction o with
 |none=>exact h.elim
 |some x=>induction x<;>first|exact k _ h|exact h.elim
omit b3 in
theorem u3.imp{x:B}{f g:Č->Prop}(k:∀l,f l->g l)(h:u3 x f):u3 x g:=by induction x using B.casesOn<;>first|exact k _ h|exact h.elim
omit b3 in
theorem t'.imp{x:B}{f g:Prop}(k:f->g)(h:t' x f):t' x g:=by induction x using B.casesOn<;>first|exact k h|exact h.elim
omit b3 in
theorem rp.imp{o:Ċ co}{p et:Prop}{f g:B->Prop}(G:p->et)(k:∀l,f l->g l)(h:rp o p f):rp o et g:=by
 induction o with
 |none=>exact h.elim
 |some x=>induction x<;>first|exact k _ h|exact G h
def q3(w:aJ->St->(cj->aJ->St->Prop)->Prop):Prop:=∀r s Q bT,(∀f r s,Q f r s->bT f r s)->w r s Q->w r s bT
omit b3 in
theorem Iu{w:aJ->St->(cj->aJ->St->Prop)->Prop}(bF:q3 w){Q bT:cj->aJ->St->Prop}(k:∀f r s,Q f r s->bT f r s)(f:cj)(r:aJ)(s:St)(h:kD w Q f r s):kD w bT f r s:=by
 induction f with
 |go=>exact bF _ _ _ _ k h
 |ret=>exact k _ _ _ h
omit b3 in
theorem QA{w:aJ->St->(cj->aJ->St->Prop)->Prop}{bk:ĉ}{aS:IF Č}(bF:q3 w){Q bT:cj->aJ->St->Prop}(k:∀f r s,Q f r s->bT f r s)(l:IF B):∀r s,nJ w bk aS Q l r s->nJ w bk aS bT l r s:=by
 induction l with
 |nil=>exact λ_ _ h=>k _ _ _ h
 |cons v l ap=>exact λr s h=>ax.imp (λr h=>bF _ _ _ _ (λf r s h=>by
  induction f with
  |go=>exact ap _ _ h
  |ret=>exact k _ _ _ h) h) h
theorem Eh(c:dF):q3 (k_ ah c):=dF.rec (motive_1:=λc=>q3<|k_ ah c) (motive_2:=λl=>q3<|j8 ah l) (λ_ e _ _ _ _ k h=>gy b3 e _ _ _ _ (λ_ _=>k _ _ _) h) (λ_ e _ _ _ _ k h=>gy b3 e _ _ _ _ (λ_ _=>r_.imp λ_=>k _ _ _) h) (λ_ e _ _ _ _ k h=>gy b3 e _ _ _ _ (λ_ _=>ax.imp λ_=>k _ _ _) h) (λo _ e _ _ _ _ k h=>gy b3 e _ _ _ _ (λ_ _=>gy b3 o _ _ _ _ λ_ _=>ax.imp λ_=>k _ _ _) h) (λo _ e _ _ _ _ k h=>gy b3 e _ _ _ _ (λ_ _=>ax.imp λ_=>gy b3 o _ _ _ _ λ_ _=>ax.imp λ_=>k _ _ _) h) (λo i e _ _ _ _ k h=>gy b3 e _ _ _ _ (λ_ _=>gy b3 o _ _ _ _ λ_ _=>gy b3 i _ _ _ _ λ_ _=>ax.imp λ_=>k _ _ _) h) (λ_ j e _ _ _ _ k h=>kT.imp (λ_ h=>gy b3 e _ _ _ _ (λ_ _=>gy b3 j _ _ _ _ λ_ _=>kT.imp λ_ h=>⟨h.1,ax.imp (λ_ h=>⟨h.1,k _ _ _ h.2⟩) h.2⟩) h) h) (λ_ e _ _ _ _ k h=>hV.imp (λ_ h=>gy b3 e _ _ _ _ (λ_ _=>hV.imp λ_ h=>⟨h.1,k _ _ _ h.2⟩) h) h) (λ_ e _ _ _ _ k h=>hV.imp (λ_ h=>gy b3 e _ _ _ _ (λ_ _=>hV.imp λ_=>kj.imp λ_ h=>⟨h.1,k _ _ _ h.2⟩) h) h) (λo e _ _ _ _ k h=>gy b3 o _ _ _ _ (λ_ _=>ax.imp λ_=>gy b3 e _ _ _ _ λ_ _=>u3.imp λ_=>gS.imp λ_ h=>⟨h.1,k _ _ _ h.2⟩) h) (λe _ _ _ _ k h=>gy b3 e _ _ _ _ (λ_ _=>t'.imp<|k _ _ _) h) (λe _ _ m n _ _ _ _ k h=>gy b3 e _ _ _ _ (λ_ _=>bj.q5 (m _ _ _ _ k)<|n _ _ _ _ k) h) (λ_ _ e _ m _ _ _ _ k h=>gy b3 e _ _ _ _ (λ_ _=>ax.imp λ_=>j0.imp<|QA m k _ _ _) h) (λe _ _ _ _ k h=>gy b3 e _ _ _ _ (λ_ _=>k _ _ _) h) (λi r s Q bT k=>rp.imp (k .go r s) λv=>k .go (r.set i<|.val v) s) (λ_ _ _ _ _ h=>h.elim) (λ_ _ _ _ k h=>k _ _ _ h) (λ_ _ m n _ _ _ _ k h=>m _ _ _ _ (Iu n k) h) c
theorem LA(l:IF dF):q3 (j8 ah l):=List.rec (motive:=λl=>q3<|j8 ah l) (λ_ _ _ _ k h=>k _ _ _ h) (λc _ n _ _ _ _ k h=>Eh b3 c _ _ _ _ (Iu n k) h) l
end
theorem bc.m(n:Č):tO (bc n):=by
 induction n with
 |zero=>exact λ_ _ _ _ _ _ h=>j0.imp (by with_unfolding_all exact False.elim) h
 |succ n ap=>exact λ_ _ _ _ _ k h=>j0.imp (by rw[x2,x2];exact ax.imp λ_=>ax.imp λ_=>LA ap _ _ _ _ _ λ_ _ _=>k _ _) h
theorem ax.of{av:Type}{o:Ċ av}{a:av}{Q:av->Prop}(h:o=some a)(q:Q a):ax o Q:=by rw[h];exact q
theorem bj.d{c:Prop}[Decidable c]{p q:Prop}(G:c->p)(E:¬c->q):bj (some<|decide c) p q:=by
 by_cases h:c
 .rw[dK h];exact G h
 .rw[eC h];exact E h
theorem gS.of{o:Ċ c5}{l:IF B}{f:IF B->Prop}(h:o=some (.ls l))(q:f l):gS o f:=by rw[h];exact q
section
variable{n:Č}{r:aJ}{s:St}
theorem bc.fn{f:Č}{vs:IF B}{np lO:Č}{d:IF B}{b:IF dF}{r:aJ}{Q:B->St->Prop}(a7:lV.fns f=some ⟨np,lO,d,b⟩)(ak:sd ⟨np,lO,d,b⟩ vs=some r)(h:bw n b r s λcM _ ar=>Q cM.val ar):bc (n+1) f vs s Q:=⟨by rw[x2];exact ax.of a7<|ax.of ak h⟩
theorem bc.mono{f:Č}{vs:IF B}{Q bT:B->St->Prop}(h:bc n f vs s bT)(k:∀v s,bT v s->Q v s):bc n f vs s Q:=bc.m n _ _ _ _ _ k h
theorem wS.mono{c:dF}{Q bT:cj->aJ->St->Prop}(h:wS n c r s bT)(k:∀f r s,bT f r s->Q f r s):wS n c r s Q:=Eh (bc.m n) c _ _ _ _ k h
theorem bw.mono{l:IF dF}{Q bT:cj->aJ->St->Prop}(h:bw n l r s bT)(k:∀f r s,bT f r s->Q f r s):bw n l r s Q:=LA (bc.m n) l _ _ _ _ k h
variable{Q:cj->aJ->St->Prop}{bk:ĉ}{aS:IF Č}{b:IF dF}
theorem bw.skip{l:IF dF}(h:bw n l r s Q):bw n [] r s (kD (bw n l) Q):=h
theorem cE.nil(h:Q .go r s):cE n bk aS b [] r s Q:=⟨h⟩
theorem cE.cons{v:B}{l:IF B}(h:ax (iO bk aS v r) λr=>bw n b r s (nb (λr s=>cE n bk aS b l r s Q) Q)):cE n bk aS b (v::l) r s Q:=⟨ax.imp (λ_ h=>bw.mono h λf r s h=>by
 induction f with
 |go=>exact h.of
 |ret=>exact h) h⟩
def p7{av b9:Type}(dz K:av->b9->Prop):Prop:=∀a b,dz a b->K a b
theorem p7.go{av b9:Type}{dz K:av->b9->Prop}{a:av}{b:b9}(h:p7 dz K)(j:dz a b):K a b:=h a b j
def wO(dz:aJ->St->Prop)(Z:B->aJ->St->Prop)(f:cj)(r:aJ)(s:St):Prop:=match f with|.go=>dz r s|.ret v=>Z v r s
def rJ(Q:cj->aJ->St->Prop)(Z:B->aJ->St->Prop):Prop:=∀v r s,Q (.ret v) r s->Z v r s
theorem rJ.go{Q:cj->aJ->St->Prop}{Z:B->aJ->St->Prop}{v:B}{r:aJ}{s:St}(h:rJ Q Z)(q:Q (.ret v) r s):Z v r s:=h v r s q
theorem cE.inv(dz:IF B->aJ->St->Prop)(ba:∀v l r s (K:aJ->St->Prop),p7 (dz l) K->∀Z,rJ Q Z->dz (v::l) r s->ax (iO bk aS v r) λr=>bw n b r s<|wO K Z)(cN:∀r s,dz [] r s->Q .go r s){bP:IF B}{r:aJ}{s:St}(h:dz bP r s):cE n bk aS b bP r s Q:=by
 induction bP generalizing r s with
 |nil=>exact cE.nil<|cN r s h
 |cons v l ap=>
  refine cE.cons<|ax.imp (λr G=>bw.mono G λf r s h=>?_)<|ba v l r s _ (λ_ _ h=>h) _ (λ_ _ _ h=>h) h;induction f with
  |go=>exact ap h
  |ret w=>exact h
theorem cE.map{av:Type}{f:av->B}{bP:IF B}{all:IF av}{r:aJ}{s:St}(az:bP=all.map f)(dz:IF av->aJ->St->Prop)(ba:∀done a a',all=done++a::a'->∀r s (K:aJ->St->Prop),p7 (dz<|done++[a]) K->∀Z,rJ Q Z->dz done r s->ax (iO bk aS (f a) r) λr=>bw n b r s<|wO K Z)(cN:∀r s,dz all r s->Q .go r s)(h:dz [] r s):cE n bk aS b bP r s Q:=by
 subst az;have key:∀(a' done:IF av) r s,all=done++a'->dz done r s->cE n bk aS b (a'.map f) r s Q:=by
  intro a';induction a' with
  |nil=>intro done r s e h;rw[gN]at e;exact cE.nil<|cN r s<|e▸h
  |cons a a' ap=>
   intro done r s e h;refine cE.cons<|ax.imp (λr G=>bw.mono G λf r s h=>?_)<|ba done a a' e r s _ (λ_ _ h=>h) _ (λ_ _ _ h=>h) h;induction f with
   |go=>exact ap (done++[a]) r s (by rw[e,hF];rfl) h
   |ret w=>exact h
 exact key all [] r s rfl h
theorem cE.mp{av:Type}{f:av->B}{bP:IF B}{all:IF av}(az:bP=all.map f)(fw:IF av->(aJ->St->Prop)->Prop)(ba:∀done a a',all=done++a::a'->∀K:aJ->St->Prop,fw (done++[a]) K->fw done λr s=>ax (iO bk aS (f a) r) λr=>bw n b r s<|nb K Q)(cN:fw all (Q .go)){r:aJ}{s:St}(h:∀K:aJ->St->Prop,fw [] K->K r s):cE n bk aS b bP r s Q:=by
 have key:∀a' done:IF av,all=done++a'->fw done (nJ (bw n b) bk aS Q<|a'.map f):=by
  intro a';induction a' with
  |nil=>intro done e;rw[gN]at e;exact e▸cN
  |cons a a' ap=>exact λdone e=>ba done a a' e _ (ap _<|by rw[e,hF];rfl)
 rw[az];exact⟨h _<|key all [] rfl⟩
end
theorem bw.rU{n:Č}{s:St}{i:Č}{e:a2}{l:IF dF}{r:aJ}{Q:cj->aJ->St->Prop}(fw:(B->St->Prop)->Prop)(G:∀K:B->St->Prop,fw K->dj n e r s K)(E:fw λv s=>bw n l (r.set i<|.val v) s Q):bw n (.set i e::l) r s Q:=G _ E
theorem bw.fV{n:Č}{s:St}{c:dF}{l:IF dF}{r:aJ}{Q:cj->aJ->St->Prop}(fw:(aJ->St->Prop)->Prop)(G:∀K:cj->aJ->St->Prop,fw (K .go)->wS n c r s K)(E:fw λr s=>bw n l r s Q):bw n (c::l) r s Q:=G _ E
section
variable{n:Č}{r:aJ}{s:St}{Q:B->St->Prop}{e it:a2}{bk:ĉ}{aS:IF Č}{ifs:IF a2}
theorem dj.comp{x:B}(p:Internal.peek r it=some x)(h:ff x r s n e bk aS ifs Q):DO n e bk aS it ifs r s Q:=⟨by rw[p];exact h⟩
theorem dj.nB(p:Internal.peek r it=none)(h:dj n it r s λx s=>ff x r s n e bk aS ifs Q):DO n e bk aS it ifs r s Q:=⟨by rw[p];exact h⟩
theorem dj.oR{x:B}(p:Internal.peek r it=none)(af:∀Q:B->St->Prop,Q x s->dj n it r s Q)(h:ff x r s n e bk aS ifs Q):DO n e bk aS it ifs r s Q:=dj.nB p<|af _ h
theorem eR.mk{v:B}{Q:IF B->St->Prop}(h:ax (iO bk aS v r) λb2=>sM n ifs b2 s λb s=>bj (some b) (dj n e b2 s λy s=>Q [y] s)<|Q [] s):eR n e bk aS ifs v r s Q:=h
variable{t:B->St->(IF B->St->Prop)->Prop}
theorem ff.un{x:B}{bP:IF B}(G:items x=some bP)(h:j6 t Q bP [] s):kh t Q x s:=by
 induction x using B.casesOn with
 |bb=>exact ax.of (Q:=λbP=>j6 t Q bP [] s) G h
 |_=>first|exact b0 G|(cases G;exact h)
theorem ff.map{av:Type}{f:av->B}{x:B}{all:IF av}(G:items x=some (all.map f))(dz:IF av->IF B->St->Prop)(ba:∀done a a',all=done++a::a'->∀cg s (K:IF B->St->Prop),p7 (λc9 s=>dz (done++[a]) (cg++c9) s) K->dz done cg s->t (f a) s K)(cN:∀cg s,dz all cg s->Q (.lst cg) s)(h:dz [] [] s):kh t Q x s:=by
 refine ff.un G ?_;have key:∀(a' done:IF av) cg s,all=done++a'->dz done cg s->j6 t Q (a'.map f) cg s:=by
  intro a';induction a' with
  |nil=>intro done cg s e h;rw[gN]at e;exact cN cg s<|e▸h
  |cons a a' ap=>intro done cg s e h;exact ba done a a' e cg s _ (λc9 s h=>ap (done++[a]) (cg++c9) s (by rw[e,hF];rfl) h) h
 exact key all [] [] s rfl h
theorem ff.mp{av:Type}{f:av->B}{x:B}{all:IF av}(G:items x=some (all.map f))(fw:IF av->(IF B->St->Prop)->Prop)(ba:∀done a a',all=done++a::a'->∀K:IF B->St->Prop,fw (done++[a]) K->fw done λcg s=>t (f a) s λc9 s=>K (cg++c9) s)(cN:fw all λcg=>Q<|.lst cg)(h:∀K:IF B->St->Prop,fw [] K->K [] s):kh t Q x s:=by
 have key:∀a' done:IF av,all=done++a'->fw done (j6 t Q<|a'.map f):=by
  intro a';induction a' with
  |nil=>intro done e;rw[gN]at e;exact e▸cN
  |cons a a' ap=>exact λdone e=>ba done a a' e _ (ap _<|by rw[e,hF];rfl)
 exact ff.un G<|h _<|key all [] rfl
theorem pd{x:B}{bP:IF B}{f:B->IF B}(G:items x=some bP)(h:∀v∈bP,∀bT:IF B->St->Prop,bT (f v) s->t v s bT)(q:Q (.lst<|bP.flatMap f) s):kh t Q x s:=by
 refine ff.un G ?_;have key:∀(l cg:IF B),(∀v∈l,∀bT:IF B->St->Prop,bT (f v) s->t v s bT)->Q (.lst<|cg++l.flatMap f) s->j6 t Q l cg s:=by
  intro l;induction l with
  |nil=>intro cg _ q;rw[List.flatMap_nil,gN]at q;exact q
  |cons v l ap=>intro cg h q;exact h v (.head _) _ (ap _ (λw bF=>h w<|.tail _ bF)<|by rw[hF,<-qm];exact q)
 exact key bP [] h q
theorem Qj{av:Type}{f g:av->B}{m:Č}{all:IF av}(aN:s[m]?=some (.ls<|all.map f))(h:∀a∈all,∀bT:IF B->St->Prop,bT [g a] s->t (f a) s bT)(q:Q (.lst<|all.map g) s):kh t Q (.ref m) s:=by
 refine gS.of aN ?_;rw[bV];have key:∀l done:IF av,all=done++l->nN t Q m l.length done.length (done.map g) s:=by
  intro l;induction l with
  |nil=>intro done e;rw[gN]at e;exact gS.of aN ⟨by rw[e,bV],e▸q⟩
  |cons v l ap=>intro done e;refine gS.of aN<|ax.of (a:=f v) (by rw[e,gX];simp)<|h v (by rw[e];simp) _ ?_;have:=ap (done++[v]) (by rw[e,hF];rfl);rwa[da,cZ]at this
 exact key all [] rfl
end
theorem Xo(a b:B)(ak:fy 16 a=true)(aw:fy 16 b=true):(a=b/\fj a b=some true)\/(a≠b/\fj a b=some false):=by have e:=xn (n:=16) ak aw<|dA _;exact(u7<|a=b).imp (λh=>⟨h.1,e.trans<|bH some h.2⟩) λh=>⟨h.1,e.trans<|bH some h.2⟩
theorem Sp{a b:B}(ak:fy 16 a=true)(aw:fy 16 b=true)(ne:a≠b):fj a b=some false:=(xn ak aw<|dA _).trans<|bH some<|rP ne
theorem DS{x:B}(az:fy 16 x=true){l:IF B}(h:∀a∈l,fy 16 a=true):(x∈l/\hN x l=some true)\/(x∉l/\hN x l=some false):=by rw[Kg az h];exact(u7<|x∈l).imp (λh=>⟨h.1,bH some h.2⟩) λh=>⟨h.1,bH some h.2⟩
def sH(l:IF (B×B)):Prop:=∀p∈l,fy 16 p.1=true
theorem LB{k a b:B}{r:IF (B×B)}(e:fj a k=some true):fv k ((a,b)::r)=some (some b):=by show(match fj a k with|some true=>some (some b)|some false=>fv k r|none=>none)=_;rw[e]
theorem HP{k a b:B}{r:IF (B×B)}(e:fj a k=some false):fv k ((a,b)::r)=fv k r:=by show(match fj a k with|some true=>some (some b)|some false=>fv k r|none=>none)=_;rw[e]
theorem VN{k v a b:B}{r:IF (B×B)}(e:fj a k=some true):gU k v ((a,b)::r)=some ((a,v)::r):=by show(match fj a k with|some true=>some ((a,v)::r)|some false=>(gU k v r).map ((a,b)::·)|none=>none)=_;rw[e]
theorem G4{k v a b:B}{r:IF (B×B)}(e:fj a k=some false):gU k v ((a,b)::r)=(gU k v r).map ((a,b)::·):=by show(match fj a k with|some true=>some ((a,v)::r)|some false=>(gU k v r).map ((a,b)::·)|none=>none)=_;rw[e]
theorem yp{k:B}(aE:fy 16 k=true){l:IF (B×B)}(h:sH l):(∃v,(k,v)∈l/\fv k l=some (some v))\/(k∉l.map (·.1)/\fv k l=some none):=by
 induction l with
 |nil=>exact .inr ⟨λh=>(nomatch h),rfl⟩
 |cons p r ap=>
  induction p with|mk a b=>
  rcases Xo a k (h _ (.head _)) aE with⟨rfl,e⟩|⟨ne,e⟩
  .exact .inl ⟨b,.head _,LB e⟩
  .rw[HP e];exact(ap λp ae=>h p<|.tail _ ae).imp (λ⟨v,m,bz⟩=>⟨v,.tail _ m,bz⟩) λ⟨m,bz⟩=>⟨λq=>(eD.mp q).elim (λq=>ne q.symm) m,bz⟩
theorem x6{k v:B}(aE:fy 16 k=true){l:IF (B×B)}(h:sH l)(m:k∉l.map (·.1)):gU k v l=some (l++[(k,v)]):=by
 induction l with
 |nil=>rfl
 |cons p r ap=>
  induction p with|mk a b=>
  rw[gf,eD]at m;rw[G4<|Sp (h _<|.head _) aE λq=>m<|.inl q.symm,ap (λp ae=>h p<|.tail _ ae) λq=>m<|.inr q];rfl
set_option tactic.hygienic false
def gE:Č->IF B->IF (B×B)
 |_,[]=>[]
 |k,r::t=>(r,.int k)::gE (k+1) t
def pB:IF (Č×B):=[(0,.ref 2),(1,.ref 3),(2,.ref 4),(3,.ref 5),(4,.ref 6),(5,.ref 7),(6,.ref 8),(7,.ref 9),(8,.int 0),(9,.int 0)]
def Dx:IF (Č×B):=[(25,.ref 1),(30,.int 0),(31,.int 200),(32,.int 40)]
structure dy where
 d:Nat
 nums:List B
 R:List B
 D:List B
 X:List c5
def dy.st (S:dy):St:=.ls [.int S.d,.lst S.nums]::.ins 0 pB::.ls S.R::.cP (gE 0 S.R)::.ls S.D::.ls [.int<|-1,.int<|-1]::.ls [.int<|-1,.int<|-1]::.ls [.str [84],.str [80]]::.cP []::.cP []::.ins 4 Dx::S.X
noncomputable abbrev dy.w (S:dy) (R:IF B):dy:={S with R:=R}
section
variable{n:Č}{S:dy}{s:St}{Q:B->St->Prop}{k:Č}
def im (v:B):ĉ:=match v with|.tup l=>eW 6 (.tup l)|_=>false
theorem Xx{v:B}(h:im v=true):eW 6 v=true:=by
 induction v using B.casesOn with
 |tup l=>exact h
 |_=>exact cH h
theorem wY{v:B}(h:im v=true):fy 16 v=true:=AF (Eo<|Xx h) (by decide)
theorem J_{v:B}(h:im v=true):eH v=3:=by
 induction v using B.casesOn with
 |tup l=>exact bl h
 |_=>exact cH h
theorem lh{a b:ĉ}(h:a=true)(k:b=true):(a&&b)=true:=by rw[h,k];rfl
theorem w7{av:Type}{d:Č}{f:av->B}{l:IF av}(h:∀a,eW d (f a)=true):eW (d+1) (.tup<|l.map f)=true:=d'.mpr λv af=>by obtain⟨a,_,rfl⟩:=dq.mp af;clear af;exact h a
def hl:IF B:=[.tup [.int 1,.str [97,110,121]],.tup [.int 1,.str [117,110,107,110,111,119,110]],.tup [.int 1,.str [110,101,118,101,114]],.tup [.int 1,.str [118,111,105,100]],.tup [.int 1,.str [117,110,100,101,102,105,110,101,100]],.tup [.int 1,.str [110,117,108,108]],.tup [.int 1,.str [115,116,114,105,110,103]],.tup [.int 1,.str [110,117,109,98,101,114]],.tup [.int 2,.int 0,.int 0],.tup [.int 2,.int 1,.int 0],.tup [.int 1,.str [111,98,106,101,99,116]],.tup [.int 8,.tup [],.tup [],.tup [],.tup [],.tup [],.int 0],.tup [.int 6,.tup [.int 8,.int 9]],.tup [.int 1,.str [101,114,114,111,114]],.tup [.int 2,.int 0,.int 1],.tup [.int 2,.int 1,.int 1],.tup [.int 10,.int 0],.tup [.int 10,.int 1]]
structure Rows(R:List B):Prop where
 base:∃e,R=hl++e
 b7:R.Nodup
 row:∀v∈R,im v=true
structure a9(R aa:List B)(c:Nat):Prop where
 ok:Rows aa
 ext:∃e,aa=R++e/\e.length<=c
theorem a9.refl{R:IF B}(h:Rows R){c:Č}:a9 R R c:=⟨h,[],by simp,by simp⟩
theorem a9.trans{R aa iT:IF B}{a b:Č}(x:a9 R aa a)(y:a9 aa iT b):a9 R iT (a+b):=by obtain⟨_,e,rfl,h⟩:=x;obtain⟨o,f,rfl,aR⟩:=y;exact⟨o,e++f,by simp,by rw[da];lia⟩
theorem a9.le{R aa:IF B}{a b:Č}(x:a9 R aa a)(h:a<=b):a9 R aa b:=by obtain⟨o,e,rfl,aR⟩:=x;exact⟨o,e,rfl,by lia⟩
theorem a9.len{R aa:IF B}{a:Č}(x:a9 R aa a):aa.length<=R.length+a:=by obtain⟨o,e,rfl,aR⟩:=x;rw[da];lia
theorem a9.at{R aa:IF B}{a t:Č}{v:B}(x:a9 R aa a)(h:R[t]?=some v):aa[t]?=some v:=by obtain⟨o,e,rfl,aR⟩:=x;rw[px (g0.mp h).1];exact h
theorem a9.room{R aa:IF B}{x b k:Č}(g:a9 R aa x)(aq:R.length+b<=a3)(h:x+k<=b):aa.length+k<=a3:=aI (fL g.len k) (by rw[qT];exact aI (gu h _) aq)
theorem tt{av:Type}{all done a':IF av}{a:av}{N:Č}(c:Č)(e:all=done++a::a')(h:all.length<=N):c*done.length+c<=c*N:=hh c<|aI (by rw[e,da];exact gu (c'<|f_ _) _) h
theorem a9.step{av:Type}{R aa bu:IF B}{c d:Č}{done:IF av}{a:av}(g:a9 R aa (c*done.length))(bh:a9 aa bu d)(h:d<=c):a9 R bu (c*(done++[a]).length):=(g.trans bh).le (by rw[da,oY,xb,Nat.mul_one];exact gu h _)
theorem a9.turn{av:Type}{R aa:IF B}{c N b k:Č}{all done a':IF av}{a:av}(g:a9 R aa (c*done.length))(e:all=done++a::a')(aj:all.length<=N)(aq:R.length+b<=a3)(G:Nat.ble k c=true:=by rfl)(E:Nat.ble (c*N) b=true:=by rfl):aa.length+k<=a3:=g.room aq<|aI (gu (aG G) _)<|aI (tt c e aj)<|aG E
theorem oq{av:Type}{all done a':IF av}{a:av}{N:Č}(e:all=done++a::a')(h:all.length<=N):done.length+1<=N:=aI (by rw[e,da];exact gu (c'<|f_ _) _) h
theorem XB{av:Type}{c x y:Č}{done:IF av}{a:av}(h:x<=c*done.length)(k:y<=c):x+y<=c*(done++[a]).length:=by rw[da,oY,xb,Nat.mul_one];exact gG h k
theorem y1{av b9:Type}{f:av->b9}{a b:IF av}{k:Č}(h:a.length+b.length<=k)(e:Nat.ble k 1000=true:=by rfl):(a.map f).length+(b.map f).length<=1000:=by rw[bV,bV];exact aI h<|aG e
theorem v9{av b9:Type}{f:av->b9}{l:IF av}{k:Č}(h:l.length+1<=k)(e:Nat.ble k a3=true:=by rfl):(l.map f).length+1<=a3:=by rw[bV];exact aI h<|aG e
theorem Rows.inj{R:IF B}(h:Rows R){s t:Č}{v:B}(G:R[s]?=some v)(E:R[t]?=some v):s=t:=by obtain⟨a,ag⟩:=g0.mp G;obtain⟨b,a8⟩:=g0.mp E;exact(Bj h.b7).mp<|ag.trans a8.symm
theorem Rows.at{R:IF B}(h:Rows R){t:Č}{v:B}(e:hl[t]?=some v):R[t]?=some v:=by obtain⟨f,rfl⟩:=h.base;rw[px (g0.mp e).1];exact e
theorem qL{t n:Č}(h:t<n):jX (t:č) n=some t:=by unfold jX;rw[bl<|nw t];simp[h]
theorem yB{dB:Type}{s:St}{n c:Č}{l:IF (Č×B)}{k:Č->Č->IF (Č×B)->Ċ dB}(h:s[n]?=some (.ins c l)):oO s (.ref n) k=k n c l:=by show(s[n]?).bind _=_;rw[h];rfl
theorem zO{s:St}{n c a:Č}{l:IF (Č×B)}{v:B}(h:s[n]?=some (.ins c l))(aj:l.length<=900):nP s (.ref n) a v=some (s.set n<|.ins c<|putAt a v l):=(yB h).trans<|bl aj
theorem uz{av:Type}{f:av->B}{l:IF av}{v:Č}(h:v<l.length):∃a∈l,∀s,hn s (.lst<|l.map f) (.int (v:Č))=some (f a):=⟨l[v],w8 h,λs=>by show(jX (v:č) (l.map f).length).bind _=_;rw[qL<|by rw[bV];exact h];show(l.map f)[v]?=_;rw[gX,fq h];rfl⟩
theorem gO{v n:Č}(h:(v:č)<(n:č)):v<n:=iG.mp h
theorem tI{v:Č}(h:v<2):v=0\/v=1:=(by decide:∀v,v<2->v=0\/v=1) v h
theorem Zf{v:Č}(h:v<3):v=0\/v=1\/v=2:=(by decide:∀v,v<3->v=0\/v=1\/v=2) v h
theorem yg{v:Č}(h:v<4):v=0\/v=1\/v=2\/v=3:=(by decide:∀v,v<4->v=0\/v=1\/v=2\/v=3) v h
theorem qh{S:dy}{t:Č}{v:B}(h:S.R[t]?=some v):hn S.st (.ref 2) (.int t)=some v:=by show(jX (t:č) S.R.length).bind _=_;rw[qL (g0.mp h).1];exact h
theorem ax.row{S:dy}{t:Č}{v:B}{Q:B->Prop}(h:S.R[t]?=some v)(q:Q v):ax (hn S.st (.ref 2)<|.int t) Q:=ax.of (qh h) q
local macro_rules |`(tactic|k_go)=>`(tactic|(refine bc.fn rfl rfl ?_;dsimp only[List.map_cons,List.map_nil,List.cons_append,List.nil_append,List.append_nil,List.length_cons,List.length_nil,List.drop_nil,List.drop_succ_cons,List.drop_zero,List.replicate_succ,List.replicate_zero,Nat.reduceAdd,Nat.reduceSub,Nat.zero_add]))
local macro_rules |`(tactic|lk)=>`(tactic|((conv=>whnf);(repeat'((first|with_reducible apply cE.cons|with_reducible apply cE.nil|refine ax.row (by assumption) ?_);(conv=>whnf)));try first|refine p7.go (by with_reducible assumption) ?_|(refine rJ.go (by with_reducible assumption) ?_;conv=>whnf)))
theorem Ó{R:IF B}:∀{k:Č} {v w:B},(v,w)∈gE k R->∃i,R[i]?=some v/\w=.int ((k+i:Č):č):=by
 induction R with
 |nil=>exact λh=>nomatch h
 |cons r t ap=>
  intro k v w h;rcases eD.mp h with e|h
  .cases e;exact⟨0,rfl,rfl⟩
  .obtain⟨i,G,E⟩:=ap h;exact⟨i+1,G,E.trans<|bH (λn:Č=>B.int n)<|rn k i⟩
theorem zI(R:IF B):∀k:Č,(gE k R).map (·.1)=R:=by
 induction R with
 |nil=>exact λ_=>rfl
 |cons r t ap=>exact λk=>bH (List.cons r)<|ap<|k+1
theorem M9(R:IF B):∀(k:Č) (v:B),gE k (R++[v])=gE k R++[(v,.int ((k+R.length:Č):č))]:=by
 induction R with
 |nil=>exact λ_ _=>rfl
 |cons r t ap=>exact λk v=>(bH (List.cons _)<|ap (k+1) v).trans<|bH (λn:Č=>(r,B.int k)::(gE (k+1) t++[(v,B.int n)]))<|rn k t.length
theorem U6(R:IF B)(k:Č):(gE k R).length=R.length:=by have:=bH List.length<|zI R k;rwa[bV]at this
theorem Qt{R:IF B}(h:∀v∈R,im v=true){v:B}(af:im v=true):ep v (gE 0 R)=true:=by unfold ep;rw[J_ af];exact lh rfl (d'.mpr λp ae=>fM.mpr<|J_<|h _<|by rw[<-zI R 0];exact fx ae)
theorem H5{R:IF B}(h:∀v∈R,im v=true):sH (gE 0 R):=λp ae=>wY (h _<|by rw[<-zI R 0];exact fx ae)
theorem yO{n:Č}{x:c5}{R:IF B}{iV:St}{row:B}{Q:B->St->Prop}(T:∀v∈R,im v=true)(bn:im row=true)(aq:R.length+1<=a3)(G:∀i:Č,R[i]?=some row->Q (.int i) (x::.ins 0 pB::.ls R::.cP (gE 0 R)::iV))(E:row∉R->Q (.int R.length) (x::.ins 0 pB::.ls (R++[row])::.cP (gE 0<|R++[row])::iV)):bc (n+1) 1 [.ref 1,row] (x::.ins 0 pB::.ls R::.cP (gE 0 R)::iV) Q:=by
 k_go;have x1:=Qt T bn;rcases yp (wY bn) (H5 T)with⟨v,m,e⟩|⟨m,e⟩
 .obtain⟨i,aB,rfl⟩:=Ó m;clear m;refine ax.of (a:=true) (by show(if ep row (gE 0 R)then(fv row<|gE 0 R).map (·.isSome)else none)=_;rw[x1,e];rfl) ?_;refine ax.of (a:=.int ((0+i:Č):č)) (by show(if ep row (gE 0 R)then(fv row<|gE 0 R).bind id else none)=_;rw[x1,e];rfl) ?_;rw[iJ];exact G i aB
 .refine ax.of (a:=false) (by show(if ep row (gE 0 R)then(fv row<|gE 0 R).map (·.isSome)else none)=_;rw[x1,e];rfl) ?_;refine⟨aq,ax.of (a:=x::.ins 0 pB::.ls (R++[row])::.cP (gE 0<|R++[row])::iV) ?_<|E<|by rwa[zI]at m⟩;show(if ep row (gE 0 R)then(gU row (.int R.length)<|gE 0 R).bind λl=>i7 l.length (x::c5.ins 0 pB::.ls (R++[row])::.cP l::iV)else none)=_;rw[x1,x6 (wY bn) (H5 T) m,M9,iJ];have aj:(gE 0 R++[(row,B.int R.length)]).length<=a3:=by rw[da,U6];exact aq
  exact bl aj
theorem e6{n:Č}{S:dy}{row:B}{Q:B->St->Prop}(T:Rows S.R)(bn:im row=true)(aq:S.R.length+1<=a3)(h:∀(t:Č) aa,a9 S.R aa 1->aa[t]?=some row->Q (.int t) (S.w aa).st):bc (n+1) 1 [.ref 1,row] S.st Q:=yO T.row bn aq (λi e=>h i S.R (a9.refl T) e) λno=>h S.R.length _ ⟨⟨let⟨e,a6⟩:=T.base;⟨e++[row],by rw[a6,hF]⟩,m4.mpr ⟨T.b7,by simp,λa ak b aw q=>no<|by rw[cU]at aw;rw[<-aw,<-q];exact ak⟩,λv af=>(gh.mp af).elim (T.row v) λaf=>cU.mp af▸bn⟩,[row],rfl,dA _⟩ (by simp)
noncomputable abbrev au (n:Č):B:=.int (n:č)
theorem YE{a b:Č}(h:a≠b):¬((a:č)=(b:č)):=by lia
theorem HK(a b:Č):fj (au a) (au b)=some (decide<|a=b):=by
 show some (decide<|(a:č)=(b:č))=_;congr 1;by_cases h:a=b
 .simp[h]
 .rw[eC h,eC<|YE h]
def dl (bJ:IF Č):IF (B×B):=bJ.map λp=>(au p,.int 1)
theorem uu{av:Type}{k:B}{f:av->B×B}{l:IF av}(aU:(eH k !=0)=true)(h:∀a,(eH (f a).1==eH k)=true):ep k (l.map f)=true:=by show(eH k !=0&&(l.map f).all _)=true;rw[aU,pa];exact d'.mpr λa _=>h a
theorem RD(p:Č)(bJ:IF Č):ep (au p) (dl bJ)=true:=uu rfl λ_=>rfl
theorem YN(p:č)(bJ:IF Č):ep (.int p) (dl bJ)=true:=uu rfl λ_=>rfl
theorem Wy(p:Č)(bJ:IF Č):gU (au p) (.int 1) (dl bJ)=some (dl<|if p∈bJ then bJ else bJ++[p]):=by
 induction bJ with
 |nil=>rfl
 |cons g r ap=>
  by_cases h:g=p
  .subst h;exact(VN<|(HK g g).trans<|bH some<|dK rfl).trans (by rw[bl<|.head _];rfl)
  .refine(G4<|(HK g p).trans<|bH some<|eC h).trans ?_;show(gU _ _<|dl r).map _=_;rw[ap];by_cases m:p∈r
   .rw[bl m,bl<|.tail _ m];rfl
   .rw[bm m,bm λq=>(eD.mp q).elim (λq=>h q.symm) m];rfl
theorem RT(p:č)(bJ:IF Č):fv (.int p) (dl bJ)=some (if(∃g∈bJ,(g:č)=p)then some (.int 1)else none):=by
 induction bJ with
 |nil=>rw[bm λ⟨_,h,_⟩=>nomatch h];rfl
 |cons g r ap=>
  by_cases h:(g:č)=p
  .exact(LB<|show fj (au g) (.int p)=_ from bH some<|dK h).trans (by rw[bl ⟨g,.head _,h⟩])
  .refine(HP<|show fj (au g) (.int p)=_ from bH some<|eC h).trans<|ap.trans ?_;by_cases m:∃g∈r,(g:č)=p
   .rw[bl m,bl<|m.elim λg h=>⟨g,.tail _ h.1,h.2⟩]
   .rw[bm m,bm λ⟨x,q,e⟩=>(eD.mp q).elim (λq=>h<|q▸e) λq=>m ⟨x,q,e⟩]
theorem rB(p:č)(bJ:IF Č):contains (.int p) (.bb<|dl bJ)=some (decide (∃g∈bJ,(g:č)=p)):=by
 show(if ep (.int p) (dl bJ)then(fv (.int p)<|dl bJ).map (·.isSome)else none)=_;rw[YN,RT,bl rfl];by_cases h:∃g∈bJ,(g:č)=p
 .rw[bl h,dK h];rfl
 .rw[bm h,eC h];rfl
theorem Zb(bJ:IF Č)(h:bJ.Nodup):∃cS:IF Č,i8 (bJ.map au)=some (cS.map au)/\cS.Pairwise (· <·)/\(∀p,p∈cS↔p∈bJ)/\cS.length=bJ.length:=by obtain⟨cS,e,G,E⟩:=vo (f:=au) (b:=λ(x y:Č)=>decide<|(x:č)<(y:č)) (R:=(· <·)) (λ_ _ _=>rfl) (λ_ _ h=>iG.mp<|fe h) (λ_ _ n h=>Nat.lt_of_le_of_ne (rH λq=>rq h<|iG.mpr q)<|io n) (λ_ _ _ a b=>rb (iG.mp<|fe a) b) h;exact⟨cS,e,G,λ_=>E.mem_iff,E.length_eq⟩
theorem Z'{bJ:IF Č}(h:bJ.Nodup)(aj:bJ.length<64):∃cS:IF Č,k6 .sorted [.bb<|dl bJ]=some (.lst<|cS.map au)/\cS.Pairwise (· <·)/\(∀p,p∈cS↔p∈bJ)/\cS.length=bJ.length:=by
 obtain⟨cS,e,G,E,aC⟩:=Zb bJ h;refine⟨cS,?_,G,E,aC⟩;have aB:items (.bb<|dl bJ)=some (bJ.map au):=by
  have:((dl bJ).all λe=>eH e.1==1)=true:=by unfold dl;rw[pa];exact d'.mpr λ_ _=>rfl
  show(if(((dl bJ).all λe=>eH e.1==1)||((dl bJ).all λe=>eH e.1==2))=true then some ((dl bJ).map (·.1))else none)=_;rw[this,Bool.true_or,bl rfl];unfold dl;rw[f2];rfl
 show((items<|.bb<|dl bJ).bind λl=>if l.length<64 then i8 l else none).map B.lst=_;rw[aB];show(if(bJ.map au).length<64 then i8 (bJ.map au)else none).map B.lst=_;rw[bV,bl aj,e];rfl
inductive n0:List B->Int->Prop
 |txt (x:bx):n0 [.int 3,.str x,.int 0] 6
 |num (i:Int):n0 [.int 4,.int i,.int 0] 7
 |key (x:bx):n0 [.int 1,.str x] (-1)
 |arr (e aV:Int):n0 [.int 11,.int e,.int aV] (-1)
 |idx (a b:Int):n0 [.int 15,.int a,.int b] (-1)
 |par (i:Int):n0 [.int 10,.int i] (-1)
structure gj(R:List B)(p:Nat)(w:Int):Prop where
 row:∃l,R[p]?=some (.tup l)/\n0 l w
 odd:p≠2/\p≠0/\p≠1/\p≠13/\p≠8/\p≠9/\p≠14/\p≠15
theorem gj.bf{R aa:IF B}{c p:Č}{w:č}(h:gj R p w)(x:a9 R aa c):gj aa p w:=by obtain⟨⟨l,G,E⟩,aC⟩:=h;exact⟨⟨l,x.at G,E⟩,aC⟩
structure ek(R:List B)(t:Nat)(ai:List Nat):Prop where
 fB:ai.Pairwise (· <·)
 pt:∀p∈ai,∃w,gj R p w/\∀q∈ai,(q:Int)≠w
 is:(ai=[]/\t=2)\/ai=[t]\/(2<=ai.length/\t≠2/\R[t]?=some (.tup [.int 6,.tup<|ai.map au]))
theorem ek.bf{R aa:IF B}{c t:Č}{ai:IF Č}(h:ek R t ai)(x:a9 R aa c):ek aa t ai:=⟨h.fB,λp ae=>(h.pt p ae).imp λw bF=>⟨bF.1.bf x,bF.2⟩,h.is.imp id<|Or.imp id λ⟨a,b,c⟩=>⟨a,b,x.at c⟩⟩
theorem uG{a b:IF Č}:a.Pairwise (· <·)->b.Pairwise (· <·)->(∀p,p∈a↔p∈b)->a=b:=ID λ_ _ p q=>Nat.lt_asymm p q
theorem ek.inj{R:IF B}(T:Rows R){s t:Č}{ai:IF Č}(G:ek R s ai)(E:ek R t ai):s=t:=by
 rcases G.is with⟨rfl,e⟩|rfl|⟨a,_,e⟩
 .rcases E.is with⟨_,bz⟩|bz|⟨a,_⟩
  .rw[e,bz]
  .cases bz
  .simp at a
 .rcases E.is with⟨bz,_⟩|bz|⟨a,_⟩
  .cases bz
  .cases bz;rfl
  .simp at a
 .rcases E.is with⟨rfl,_⟩|rfl|⟨hm,_,bz⟩
  .simp at a
  .simp at a
  .exact T.inj e bz
theorem bj.fp{c:Prop}[Decidable c]{p q:Prop}(h:¬c)(x:q):bj (js<|.bool<|decide c) p q:=by rw[eC h];exact x
theorem bj.pK{c:Prop}[Decidable c]{p q:Prop}(h:c)(x:p):bj (js<|.bool<|decide c) p q:=by rw[dK h];exact x
theorem bj.el{c:Prop}[Decidable c]{p q:Prop}(G:c->p)(E:¬c->q):bj (js<|.bool<|decide c) p q:=bj.d G E
theorem bj.ir{b:ĉ}{p q:Prop}(h:b=false)(x:q):bj (js<|.bool b) p q:=by rw[h];exact x
theorem bj.mh{b:ĉ}{p q:Prop}(h:b=true)(x:p):bj (js<|.bool b) p q:=by rw[h];exact x
theorem z5{t:Č}{ai:IF Č}(h:ek S.R t ai)(q:Q (.tup<|ai.map au) S.st):bc (n+1) 14 [.ref 1,au t] S.st Q:=by
 k_go;rcases h.is with⟨rfl,rfl⟩|rfl|⟨a,b,e⟩
 .lk;exact q
 .obtain⟨w,⟨⟨l,G,E⟩,aC⟩,_⟩:=h.pt t<|.head _;lk;refine bj.fp (by lia) ?_;induction E<;>(lk;exact q)
 .lk;refine bj.fp (by lia) ?_;lk;exact q
theorem Wq{l:IF B}{w:č}(h:n0 l w)(q:Q (.int w) s):bc (n+1) 15 [.tup l] s Q:=by k_go;induction h<;>(exact q)
theorem Yb{t:Č}{w:č}(h:gj S.R t w)(q:Q (.int<|-1) S.st):bc (n+1) 16 [.ref 1,au t] S.st Q:=by k_go;obtain⟨⟨l,G,E⟩,aC⟩:=h;induction E<;>(lk;exact q)
def z7(bJ:IF Č):Prop:=∀g∈bJ,g≠2/\g≠0/\g≠1/\g≠13/\g≠8/\g≠9/\g≠14/\g≠15
theorem Xj{bJ:IF Č}(h:z7 bJ)(q:Q (.int<|-1) s):bc (n+1) 19 [.bb<|dl bJ] s Q:=by have no:∀k:Č,(∀g∈bJ,g≠k)->¬∃g∈bJ,(g:č)=k:=λk aE ⟨g,d_,e⟩=>aE g d_<|Int.ofNat_inj.mp e;k_go;lk;refine ax.of (rB _ bJ)<|bj.fp (no 0 λg d_=>(h g d_).2.1) ?_;lk;refine ax.of (rB _ bJ)<|bj.fp (no 13 λg d_=>(h g d_).2.2.2.1) ?_;lk;refine ax.of (rB _ bJ)<|bj.fp (no 1 λg d_=>(h g d_).2.2.1) ?_;lk;exact q
theorem Vu{bJ:IF Č}(h:z7 bJ)(q:Q .none s):bc (n+1) 17 [.bb<|dl bJ] s Q:=by have no:∀k:Č,(∀g∈bJ,g≠k)->¬∃g∈bJ,(g:č)=k:=λk aE ⟨g,d_,e⟩=>aE g d_<|Int.ofNat_inj.mp e;k_go;exact ax.of (rB _ bJ)<|bj.fp (no 8 λg d_=>(h g d_).2.2.2.2.1)<|ax.of (rB _ bJ)<|bj.fp (no 14 λg d_=>(h g d_).2.2.2.2.2.2.1)<|bj.fp (no 14 λg d_=>(h g d_).2.2.2.2.2.2.1) q
theorem VH{bJ:IF Č}{t:Č}{w:č}(h:gj S.R t w)(q:Q (.bool<|!decide (∃g∈bJ,(g:č)=w)) S.st):bc (n+2) 18 [.ref 1,.bb<|dl bJ,au t] S.st Q:=by k_go;refine Yb h<|ax.of (rB _ bJ)<|bj.fp (λ⟨g,_,e⟩=>by lia) ?_;obtain⟨⟨l,G,E⟩,aC⟩:=h;lk;refine Wq E ?_;refine ax.of (show hD .f3 S.st (.int w) (.bb<|dl bJ)=_ from by show(contains (.int w)<|.bb<|dl bJ).map (!·)=_;rw[rB];rfl) ?_;exact q
def rE (R:IF B) (p:Č):č:=match R[p]? with
 |some (.tup (.int 3::_))=>6
 |some (.tup (.int 4::_))=>7
 |_=> -1
theorem gj.w{R:IF B}{p:Č}{w:č}(h:gj R p w):rE R p=w:=by obtain⟨⟨l,G,E⟩,_⟩:=h;unfold rE;rw[G];induction E<;>rfl
def rd(R:IF B)(aP:IF Č)(p:Č):Prop:=p∈aP/\∀q∈aP,(q:č)≠rE R p
def jl (bJ l:IF Č):IF Č:=l.foldl (λbJ p=>if p∈bJ then bJ else bJ++[p]) bJ
theorem F2(l:IF Č):∀bJ,bJ.Nodup->(jl bJ l).Nodup/\(∀p,p∈jl bJ l↔p∈bJ\/p∈l)/\(jl bJ l).length<=bJ.length+l.length:=by
 induction l with
 |nil=>exact λbJ h=>⟨h,λp=>(or_iff_left x').symm,dA _⟩
 |cons a l ap=>
  intro bJ h;by_cases c:a∈bJ
  .obtain⟨G,E,aC⟩:=ap bJ h;rw[show jl bJ (a::l)=jl bJ l by show jl (if a∈bJ then bJ else bJ++[a]) l=_;rw[bl c]];exact⟨G,λp=>(E p).trans ⟨λh=>h.imp id<|.tail _,λh=>h.elim .inl λh=>(eD.mp h).elim (λe=>.inl<|e▸c) .inr⟩,iP aC⟩
  .obtain⟨G,E,aC⟩:=ap (bJ++[a])<|m4.mpr ⟨h,by simp,λx az y a1 e=>c<|cU.mp a1▸e▸az⟩;rw[show jl bJ (a::l)=jl (bJ++[a]) l by show jl (if a∈bJ then bJ else bJ++[a]) l=_;rw[bm c]];refine⟨G,λp=>(E p).trans ?_,?_⟩
   .rw[gh,cU,eD,or_assoc]
   .rw[da,oY,qT,qb 1]at aC;exact aC
theorem YX(ai:IF Č):im (.tup [.int 6,.tup<|ai.map au])=true:=lh (w7 λ_=>rfl) rfl
theorem xj{av:Type}{f:av->B}{p:av->ĉ}{N:IF av}{x:B}{t:B->St->(IF B->St->Prop)->Prop}(G:items x=some (N.map f))(h:∀a∈N,∀K:IF B->St->Prop,K (if p a=true then [f a]else []) s->t (f a) s K)(q:Q (.lst<|(N.filter p).map f) s):kh t Q x s:=by
 refine ff.mp (all:=N) (f:=f) G (λdone K=>K ((done.filter p).map f) s) (λdone a a' ag K ab=>h a (by rw[ag];exact iC _<|.head _) _ ?_) q λK ab=>ab;rw[l7,cZ,hQ]at ab;induction ae:p a using Bool.casesOn with
 |true=>rw[ae]at ab;exact ab
 |false=>rw[ae]at ab;exact ab
def Ik (arg:B) (bJ:IF Č) (x y:co):aJ:=[.val<|.ref 1,.val arg,.od<|dl bJ,x,y,.un,.un,.un]
theorem um{aS:IF (Č×IF Č)}{arg:B}(T:Rows S.R)(ak:items arg=some (aS.map λu=>au u.1))(a4:∀u∈aS,ek S.R u.1 u.2)(aj:(aS.flatMap Prod.snd).length<64)(aq:S.R.length+1<=a3)(q:∀t ai aa,a9 S.R aa 1->ek aa t ai->(∀p,p∈ai↔rd S.R (aS.flatMap Prod.snd) p)->Q (au t) (S.w aa).st):bc (n+3) 20 [.ref 1,arg] S.st Q:=by
 have Dt:∀p∈aS.flatMap Prod.snd,∃w,gj S.R p w:=λp ae=>by obtain⟨t,dV,ae⟩:=jS.mp ae;exact((a4 t dV).pt p ae).imp λw bF=>bF.1
 have g':∀l m,aS.flatMap Prod.snd=l++m->(dl<|jl [] l).length<=a3:=λl m e=>by unfold dl;rw[bV];rw[e,da]at aj;exact aI (F2 l [] qU).2.2<|aI (kp<|hH (by rw[xu,iJ];exact nv _ _) aj)<|aG rfl
 k_go;refine ax.of ak<|cE.mp (all:=aS) (f:=λu=>au u.1) rfl (λdone K=>∀x y,K (Ik arg (jl []<|done.flatMap Prod.snd) x y) S.st) (λdone t a' ag K ab x y=>?_) (λx y=>?_) λK ab=>ab _ _
 .refine z5 (a4 t<|by rw[ag];exact iC _<|.head _) ?_;lk;refine cE.mp (all:=t.2) (f:=au) rfl (λs2 K=>∀y,K (Ik arg (jl []<|done.flatMap Prod.snd++s2) (.val<|au t.1) y) S.st) (λs2 p PX a8 K ab y=>?_) (λy=>?_) λK ab=>by rw[gN]at ab;exact ab _
  .have e':jl [] (done.flatMap Prod.snd++(s2++[p]))=if p∈jl [] (done.flatMap Prod.snd++s2)then jl [] (done.flatMap Prod.snd++s2)else jl [] (done.flatMap Prod.snd++s2)++[p]:=by rw[<-hF];exact List.foldl_append
   lk;refine⟨RD p _,ax.of (Wy p _) ?_⟩;rw[<-e'];refine⟨g' _ (PX++a'.flatMap Prod.snd) (by rw[ag,t1,qm,a8];simp),?_⟩;lk;exact ab _
  .rw[t1,tp]at ab;lk;exact ab _ _
 .obtain⟨b7,d_,sT⟩:=F2 (aS.flatMap Prod.snd) [] qU;generalize jl [] (aS.flatMap Prod.snd)=bJ at b7 d_ sT⊢;replace d_:∀p,p∈bJ↔p∈aS.flatMap Prod.snd:=λp=>(d_ p).trans<|or_iff_right<|x';have Lm:z7 bJ:=λg NQ=>by obtain⟨w,h⟩:=Dt g<|(d_ g).mp NQ;exact h.odd
  rw[xu,iJ]at sT;obtain⟨cS,op,t4,k3,tu⟩:=Z' b7<|hH sT aj;refine Xj Lm<|Vu Lm<|dj.nB rfl<|ax.of (show oZ .sorted S.st [.bb<|dl bJ]=_ from op)<|xj (N:=cS) (f:=au) (p:=λp=> !decide (∃g∈bJ,(g:č)=rE S.R p)) rfl (λp ae K ab=>?_) ?_
  .obtain⟨w,h⟩:=Dt p<|(d_ p).mp<|(k3 p).mp ae;refine eR.mk<|VH h ?_;rw[<-h.w];induction c:(!decide (∃g∈bJ,(g:č)=rE S.R p))using Bool.casesOn with
   |true=>rw[c]at ab;exact bj.mh rfl ab
   |false=>rw[c]at ab;exact bj.ir rfl ab
  generalize v0:(cS.filter λp=> !decide (∃g∈bJ,(g:č)=rE S.R p))=ai;have jM:∀p,p∈ai↔rd S.R (aS.flatMap Prod.snd) p:=by
   intro p;rw[<-v0,gC,k3,d_];unfold rd;constructor
   .rintro⟨G,E⟩;refine⟨G,λz hz e=>?_⟩;simp only[kk,mH]at E;exact E ⟨z,(d_ z).mpr hz,e⟩
   .rintro⟨G,E⟩;refine⟨G,?_⟩;simp only[kk,mH];rintro⟨z,hz,e⟩;exact E z ((d_ z).mp hz) e
  have H8:ai.Pairwise (· <·):=by rw[<-v0];exact t4.filter _
  have sm:∀p∈ai,∃w,gj S.R p w/\∀z∈ai,(z:č)≠w:=λp ae=>by obtain⟨G,E⟩:=(jM p).mp ae;obtain⟨w,h⟩:=Dt p G;refine⟨w,h,λz hz=>?_⟩;rw[<-h.w];exact E z ((jM z).mp hz).1
  have sQ:ai.length<64:=by
   have:ai.length<=cS.length:=by rw[<-v0];exact mB _ _
   lia
  induction ai using List.casesOn with
  |nil=>exact q 2 [] S.R (a9.refl T) ⟨.nil,sm,.inl ⟨rfl,rfl⟩⟩ jM
  |cons a r=>
  induction r with
  |nil=>exact q a [a] S.R (a9.refl T) ⟨H8,sm,.inr<|.inl rfl⟩ jM
  |cons b r=>
  refine bj.fp (by simp only[bV,nl]at sQ⊢;lia) ?_;refine e6 T (YX<|a::b::r) aq λt aa g e=>q t (a::b::r) aa g ⟨H8,λp ae=>(sm p ae).imp λw bF=>⟨bF.1.bf g,bF.2⟩,.inr<|.inr ⟨by simp,λE=>?_,e⟩⟩ jM;subst E;have:=g.ok.at (t:=2) rfl;rw[e]at this;cases this
theorem ek.one{R:IF B}{t p:Č}{ai:IF Č}(h:ek R t ai)(ae:p∈ai):ek R p [p]:=by obtain⟨w,G,E⟩:=h.pt p ae;refine⟨by simp,λq a_=>?_,.inr<|.inl rfl⟩;rw[cU]at a_;subst a_;exact⟨w,G,λz hz=>by rw[cU]at hz;subst hz;exact E z ae⟩
theorem gj.key{R:IF B}(T:Rows R){p:Č}(h:p=4\/p=5\/p=6\/p=7):gj R p (-1):=by rcases h with e|e|e|e<;>rw[e]<;>exact⟨⟨_,T.at rfl,.key _⟩,by decide⟩
theorem ek.key{R:IF B}(T:Rows R){p:Č}(h:p=4\/p=5\/p=6\/p=7):ek R p [p]:=⟨by simp,λq a_=>by rw[cU]at a_;subst a_;exact⟨-1,gj.key T h,λz _=>by lia⟩,.inr<|.inl rfl⟩
theorem ek.four{R:IF B}(T:Rows R){ai:IF Č}(h:ek R 4 ai):ai=[4]:=by
 rcases h.is with⟨_,e⟩|e|⟨_,_,e⟩
 .cases e
 .exact e
 .have:=T.at (t:=4) rfl;rw[e]at this;cases this
theorem PY{R:IF B}(T:Rows R){t:Č}{ai:IF Č}(h:ek R t ai)(p:Č):rd R (ai++[4]) p↔p∈ai\/p=4:=by
 unfold rd;rw[gh,cU];refine⟨λh=>h.1,λae=>⟨ae,λz hz=>?_⟩⟩;have bF:∃w,gj R p w/\∀q∈ai,(q:č)≠w:=by
  rcases ae with ae|rfl
  .exact h.pt p ae
  .exact⟨-1,gj.key T<|.inl rfl,λz _=>by lia⟩
 obtain⟨w,G,E⟩:=bF;rw[G.w];rcases gh.mp hz with hz|hz
 .exact E z hz
 .rw[cU]at hz;subst hz;obtain⟨⟨l,_,aj⟩,_⟩:=G;induction aj<;>decide
theorem Kw{R:IF B}{t:Č}{ai:IF Č}(h:ek R t ai){aP:IF Č}(cr:∀p∈aP,p∈ai)(p:Č):rd R aP p↔p∈aP:=by refine⟨λh=>h.1,λae=>⟨ae,λz hz=>?_⟩⟩;obtain⟨w,G,E⟩:=h.pt p<|cr p ae;rw[G.w];exact E z<|cr z hz
theorem zo{t:Č}{ai:IF Č}{arg:B}(T:Rows S.R)(a4:ek S.R t ai)(ak:items arg=some [au t,au 4])(aj:ai.length<63)(aq:S.R.length+1<=a3)(q:∀dM dO aa,a9 S.R aa 1->ek aa dM dO->(∀p,p∈dO↔p∈ai\/p=4)->Q (au dM) (S.w aa).st):bc (n+3) 20 [.ref 1,arg] S.st Q:=by
 refine um (aS:=[(t,ai),(4,[4])]) T ak ?_ (by simp;lia) aq λdM dO aa g u m=>?_
 .intro u aN;rcases eD.mp aN with rfl|aN
  .exact a4
  .rw[cU]at aN;subst aN;exact ek.key T<|.inl rfl
 .refine q dM dO aa g u λp=>?_;rw[m p,<-PY T a4 p];simp
theorem U7{t:Č}{ai:IF Č}(T:Rows S.R)(a4:ek S.R t ai)(aj:ai.length<63)(aq:S.R.length+1<=a3)(q:∀dM dO aa,a9 S.R aa 1->ek aa dM dO->(∀p,p∈dO↔p∈ai\/p=4)->Q (au dM) (S.w aa).st):bc (n+4) 22 [.ref 1,au t] S.st Q:=by k_go;exact zo T a4 rfl aj aq λdM dO aa g u m=>q dM dO aa g u m
def eU (v:B):IF B:=(fE v λp=>some<|if(!decide (p.toNat=4))=true then [v]else []).getD []
theorem Kx{t:Č}{ai:IF Č}(T:Rows S.R)(a4:ek S.R t ai)(aj:ai.length<64)(aq:S.R.length+1<=a3)(q:∀dM aa,a9 S.R aa 1->ek aa dM (ai.filter λp=> !decide (p=4))->Q (au dM) (S.w aa).st):bc (n+4) 21 [.ref 1,au t,.lst [.int 4]] S.st Q:=by
 k_go;refine dj.nB rfl<|z5 a4 ?_;have Dq:∀l:IF Č,(l.map au).flatMap eU=((l.filter λp=> !decide (p=4)).map λp=>(p,[p])).map λu=>au u.1:=by
  intro l;induction l with
  |nil=>rfl
  |cons a l ap=>rw[gf,qm,ap,hQ];show(if(!decide (a=4))=true then [au a]else [])++_=_;induction decide (a=4)<;>rfl
 refine pd (f:=eU) rfl ?_ ?_
 .intro v af bT a_;obtain⟨p,ae,rfl⟩:=dq.mp af;clear af;replace a_:bT (if(!decide (p=4))=true then [au p]else []) S.st:=a_;refine eR.mk ?_;by_cases c:p=4
  .rw[bm<|by simp[c]]at a_;refine bj.ir (by subst c;rfl) ?_;exact a_
  .rw[bl<|by simp[c]]at a_;refine bj.mh (by simp;lia) ?_;exact a_
 .have cr:((ai.filter λp=> !decide (p=4)).map λp=>(p,[p])).flatMap Prod.snd=ai.filter λp=> !decide (p=4):=by rw[D5];simp
  refine um (aS:=(ai.filter λp=> !decide (p=4)).map λp=>(p,[p])) T (bH some<|Dq ai) ?_ ?_ aq λdM dO aa g u m=>?_
  .intro u aN;obtain⟨p,ae,rfl⟩:=dq.mp aN;clear aN;exact a4.one (gC.mp ae).1
  .rw[cr];exact hH (mB _ _) aj
  .rw[cr]at m;refine q dM aa g ?_;rw[<-uG u.fB (a4.fB.filter _) λp=>by rw[m p];exact Kw a4 (λp ae=>(gC.mp ae).1) p];exact u
def Cl(R:IF B)(ai:IF Č):Prop:=∀p∈ai,∀a b:č,R[p]?=some (.tup [.int 15,.int a,.int b])->a=16
theorem ek.two{R:IF B}{t:Č}{ai:IF Č}(h:ek R t ai)(e:t=2):ai=[]:=by
 rcases h.is with⟨e,_⟩|rfl|⟨_,bz,_⟩
 .exact e
 .obtain⟨w,G,_⟩:=h.pt t<|.head _;exact absurd e G.odd.1
 .exact absurd e bz
theorem Lo{row:B}{t:Č}(T:Rows S.R)(h:S.R[t]?=some row)(aq:S.R.length+1<=a3)(q:∀aa,a9 S.R aa 1->Q (au t) (S.w aa).st):bc (n+1) 1 [.ref 1,row] S.st Q:=by refine e6 T (T.row _<|h' h) aq λdM aa g e=>?_;rw[g.ok.inj e<|g.at h];exact q aa g
theorem WI{p:Č}{w:č}(h:gj S.R p w)(q:∀b,Q (.bool b) S.st):bc (n+1) 34 [.ref 1,au p] S.st Q:=by obtain⟨⟨l,G,E⟩,aC⟩:=h;k_go;induction E<;>(lk;exact q _)
theorem Uo{t:Č}{ai:IF Č}(h:ek S.R t ai)(q:Q (.bool false) S.st):bc (n+2) 42 [.ref 1,au t] S.st Q:=by
 k_go;lk;refine z5 h ?_;lk;refine cE.inv (λl r s=>s=S.st/\tK λ(a':IF Č) (d8 eV c1 dg:co)=>dJ (l=a'.map au) (r=[.val<|.ref 1,.val<|au t,.val<|.bool false,d8,eV,c1,dg]) (∀p∈a',p∈ai)) ?_ ?_ ⟨rfl,ai,_,_,_,_,rfl,rfl,λ_ h=>h⟩
 .rintro v l r s _ _ _ _⟨rfl,a',d8,eV,c1,dg,ag,rfl,bn⟩;induction a' using List.casesOn with
  |nil=>cases ag
  |cons p a'=>
  rw[gf,sx]at ag;obtain⟨rfl,rfl⟩:=ag;obtain⟨w,ae,_⟩:=h.pt p<|bn p<|.head _;obtain⟨⟨l,G,E⟩,aC⟩:=id ae;have key:∀(a b c d e f:co) (bT:B->St->Prop),(∀b,bT (.lst [.bool b]) S.st)->ff (.tup [au p]) [.val<|.ref 1,a,b,c,d,e,f] S.st (n+1) (.call 34 [.v 0,.v 6]) false [6] [] bT:=by intro a b c d e f bT fg;refine ff.un rfl<|eR.mk ?_;lk;exact WI ae λb=>fg b
  induction E<;>(
   lk;refine dj.comp rfl<|key _ _ _ _ _ _ _ λb=>?_;lk;induction b
   .lk;exact⟨rfl,a',_,_,_,_,rfl,rfl,λp ae=>bn p<|.tail _ ae⟩
   .lk;exact q)
 .rintro r s⟨rfl,a',d8,eV,c1,dg,ag,rfl,bn⟩;lk;exact q
theorem Ta{t:Č}{ai:IF Č}(T:Rows S.R)(a4:ek S.R t ai)(eQ:Cl S.R ai)(aq:S.R.length+1<=a3)(q:∀aa,a9 S.R aa 1->Q (au t) (S.w aa).st):bc (n+4) 70 [.ref 10,au t] S.st Q:=by
 k_go;rcases a4.is with⟨rfl,rfl⟩|rfl|⟨a,b,e⟩
 .have E:=T.at (t:=2) rfl;lk;exact q S.R<|a9.refl T
 .obtain⟨w,⟨⟨l,G,E⟩,aC⟩,_⟩:=a4.pt t<|.head _;induction E with
  |idx a b=>have ak:a=16:=eQ t (.head _) a b G;subst ak;lk;k_go;lk;k_go;lk;refine ax.of (qh (S:=S) (t:=16)<|T.at rfl) ?_;lk;exact Lo T G aq q
  |_=>lk;exact q S.R<|a9.refl T
 .lk;exact q S.R<|a9.refl T
theorem TJ{t:Č}{ai:IF Č}(T:Rows S.R)(a4:ek S.R t ai)(aj:ai.length<64)(aq:S.R.length+1<=a3)(q:∀dM dO aa,a9 S.R aa 1->ek aa dM dO->dO=(if ai=[4]then [4]else ai.filter λp=> !decide (p=4))->Q (au dM) (S.w aa).st):bc (n+5) 44 [.ref 1,au t] S.st Q:=by
 k_go;refine bj.el (λh=>?_) λh=>?_
 .have aR:t=4:=by lia
  subst aR;have:=a4.four T;subst this;exact q 4 [4] S.R (a9.refl T) a4 (by simp)
 .refine Kx T a4 aj aq λdM aa g u=>q dM _ aa g u ?_;rw[bm];rintro rfl;rcases a4.is with⟨e,_⟩|e|⟨e,_⟩
  .cases e
  .cases e;exact h rfl
  .simp at e
theorem O9{t:Č}{ai:IF Č}(T:Rows S.R)(a4:ek S.R t ai)(eQ:Cl S.R ai)(aj:ai.length<64)(aq:S.R.length+2<=a3)(q:∀dM aa,a9 S.R aa 2->ek aa dM (ai.filter λp=> !decide (p=4))->Q (au dM) (S.w aa).st):bc (n+5) 43 [.ref 10,au t] S.st Q:=by
 k_go;refine Uo a4<|Ta T a4 eQ (hb ‹_›) λaa g=>bj.el (λh=>?_) λh=>?_
 .have aR:t=4:=by lia
  subst aR;have:=a4.four T;subst this;exact q 2 aa (g.le<|aG rfl) ⟨by simp,λp ae=>by simp at ae,.inl ⟨by simp,rfl⟩⟩
 .have:=g.len;refine Kx (S:=S.w aa) g.ok (a4.bf g) aj (by show aa.length+1<=a3;lia) λdM iT dW u=>?_;exact q dM iT (g.trans dW) u
inductive bv|txt (x:bx)|S|N
inductive aM|txt (x:bx)|num (i:Int)|bB|nul|S|N|ao (k:bv)
set_option genInjectivity true in
inductive aF|b (a:aM)|arr (K:List aM)
def bv.ctorIdx (x:bv):Č:=x.casesOn (λ_=>0) 1 2
def aM.ctorIdx (x:aM):Č:=x.casesOn (λ_=>0) (λ_=>1) 2 3 4 5 λ_=>6
def aF.ctorIdx (x:aF):Č:=x.casesOn (λ_=>0) λ_=>1
def AY {T U:Type} [DecidableEq U] (f:T->U) (g:U->T) (e:∀a,g (f a)=a):DecidableEq T:=λa b=>if h:f a=f b then isTrue ((e a).symm.trans<|(bH g h).trans<|e b)else isFalse λq=>h<|q▸rfl
def bv.code (k:bv):Č×bx:=k.casesOn (λx=>(0,x)) (1,[]) (2,[])
def bv.qu (u:Č×bx):bv:=[.txt u.2,.S].getD u.1 .N
theorem bv.Sf(k:bv):bv.qu k.code=k:=k.casesOn (λ_=>rfl) rfl rfl
noncomputable instance:DecidableEq bv:=AY bv.code bv.qu bv.Sf
def aM.code (a:aM):Č×č×bx:=a.casesOn (λx=>(0,0,x)) (λi=>(1,i,[])) (2,0,[]) (3,0,[]) (4,0,[]) (5,0,[]) λk=>(6+k.code.1,0,k.code.2)
noncomputable instance:DecidableEq aM:=AY aM.code (λu=>[.txt u.2.2,.num u.2.1,.bB,.nul,.S,.N].getD u.1<|.ao<|bv.qu (u.1-6,u.2.2)) λa=>a.casesOn (λ_=>rfl) (λ_=>rfl) rfl rfl rfl rfl λk=>k.casesOn (λ_=>rfl) rfl rfl
def aF.code (a:aF):ĉ×IF aM:=a.casesOn (λa=>(true,[a])) λK=>(false,K)
noncomputable instance:DecidableEq aF:=AY aF.code (λu=>if u.1=true then .b (u.2.headD .S)else .arr u.2) λa=>a.casesOn (λ_=>rfl) λ_=>rfl
structure dd(av:Type)where
 gn:List B->Nat->av->Prop
 h8:av->Int
 pY:av
 ly:av
 bB:av
 bf:∀{R aa c p a},gn R p a->a9 R aa c->gn aa p a
 pt:∀{R p a},Rows R->gn R p a->gj R p (h8 a)
 fn:∀{R p q a},Rows R->gn R p a->gn R q a->p=q
 sq:∀{R p a},Rows R->gn R p a->(p=6↔a=pY)
 sC:∀{R p a},Rows R->gn R p a->(p=7↔a=ly)
 sl:∀{R p a},Rows R->gn R p a->(p=4↔a=bB)
 four:∀{R},Rows R->gn R 4 bB
 vd:h8 pY= -1
 vS:h8 ly= -1
 wW:h8 bB= -1
section
variable{av:Type}(Z:dd av)
def dd.iA(K:IF av)(a:av):Prop:=(Z.h8 a=6->Z.pY∉K)/\(Z.h8 a=7->Z.ly∉K)
structure dd.Is(R:List B)(K:List av)(ai:List Nat):Prop where
 to:∀p∈ai,∃a∈K,Z.gn R p a/\Z.iA K a
 of:∀a∈K,Z.iA K a->∃p∈ai,Z.gn R p a
def dd.Ty(R:IF B)(t:Č)(K:IF av):Prop:=∃ai,ek R t ai/\Z.Is R K ai
variable{Z}{R aa:IF B}{t:Č}{K:IF av}{c:Č}
theorem dd.Is.bf{ai:IF Č}(h:Z.Is R K ai)(g:a9 R aa c):Z.Is aa K ai:=⟨λp ae=>(h.to p ae).imp λa x=>⟨x.1,Z.bf x.2.1 g,x.2.2⟩,λa ak s=>(h.of a ak s).imp λp x=>⟨x.1,Z.bf x.2 g⟩⟩
theorem dd.Ty.bf(h:Z.Ty R t K)(g:a9 R aa c):Z.Ty aa t K:=by obtain⟨ai,u,i⟩:=h;exact⟨ai,u.bf g,i.bf g⟩
theorem dd.IG{K eN:IF av}(h:∀a,a∈K↔a∈eN)(a:av):Z.iA K a↔Z.iA eN a:=by unfold dd.iA;rw[h,h]
theorem dd.Is.congr{eN:IF av}{ai:IF Č}(h:∀a,a∈K↔a∈eN)(x:Z.Is R K ai):Z.Is R eN ai:=⟨λp ae=>(x.to p ae).imp λa y=>⟨(h a).mp y.1,y.2.1,(dd.IG h a).mp y.2.2⟩,λa ak s=>x.of a ((h a).mpr ak)<|(dd.IG h a).mpr s⟩
theorem dd.Ty.inj(T:Rows R){s t:Č}(G:Z.Ty R s K)(E:Z.Ty R t K):s=t:=by
 obtain⟨ai,u,i⟩:=G;obtain⟨cd,v,j⟩:=E;have e:ai=cd:=uG u.fB v.fB λp=>by
  constructor
  .intro ae;obtain⟨a,ak,am,aK⟩:=i.to p ae;obtain⟨q,a_,hd⟩:=j.of a ak aK;rwa[Z.fn T am hd]
  .intro ae;obtain⟨a,ak,am,aK⟩:=j.to p ae;obtain⟨q,a_,hd⟩:=i.of a ak aK;rwa[Z.fn T am hd]
 subst e;exact u.inj T v
theorem dd.Is.union(T:Rows R){fJ:IF (IF Č×IF av)}(h:∀u∈fJ,Z.Is R u.2 u.1){ai:IF Č}(m:∀p,p∈ai↔rd R (fJ.flatMap Prod.fst) p):Z.Is R (fJ.flatMap Prod.snd) ai:=by
 have Ku:∀k:Č,∀s:av,Z.h8 s= -1->(∀p a,Z.gn R p a->(p=k↔a=s))->(k∈fJ.flatMap Prod.fst↔s∈fJ.flatMap Prod.snd):=by
  intro k s aK aE;rw[jS,jS];constructor
  .rintro⟨u,a4,ae⟩;obtain⟨a,ak,am,_⟩:=(h u a4).to k ae;rw[<-(aE k a am).mp rfl];exact⟨u,a4,ak⟩
  .rintro⟨u,a4,ak⟩;obtain⟨p,ae,am⟩:=(h u a4).of s ak ⟨λq=>by rw[aK]at q;lia,λq=>by rw[aK]at q;lia⟩;rw[<-(aE p s am).mpr rfl];exact⟨u,a4,ae⟩
 have du:=Ku 6 Z.pY Z.vd λp a am=>Z.sq T am;have dv:=Ku 7 Z.ly Z.vS λp a am=>Z.sC T am;have key:∀p a,Z.gn R p a->((∀q∈fJ.flatMap Prod.fst,(q:č)≠rE R p)↔Z.iA (fJ.flatMap Prod.snd) a):=by
  intro p a am;have ae:=Z.pt T am;rw[ae.w];constructor
  .intro x;exact⟨λe aK=>x 6 (du.mpr aK) (by rw[e];rfl),λe aK=>x 7 (dv.mpr aK)<|by rw[e];rfl⟩
  .rintro⟨dg,cY⟩q a_ e;obtain⟨⟨l,_,aj⟩,_⟩:=ae;generalize bF:Z.h8 a=w at*;induction aj
   .exact dg rfl (du.mp<|by rw[<-show q=6 by lia];exact a_)
   .exact cY rfl (dv.mp<|by rw[<-show q=7 by lia];exact a_)
   all_goals lia
 constructor
 .intro p ae;obtain⟨cr,aE⟩:=(m p).mp ae;obtain⟨u,a4,Nm⟩:=jS.mp cr;clear cr;obtain⟨a,ak,am,_⟩:=(h u a4).to p Nm;exact⟨a,jS.mpr ⟨u,a4,ak⟩,am,(key p a am).mp aE⟩
 .intro a ak aK;obtain⟨u,a4,N3⟩:=jS.mp ak;clear ak;obtain⟨p,ae,am⟩:=(h u a4).of a N3 (⟨λe q=>aK.1 e<|jS.mpr ⟨u,a4,q⟩,λe q=>aK.2 e<|jS.mpr ⟨u,a4,q⟩⟩:Z.iA u.2 a);exact⟨p,(m p).mpr ⟨jS.mpr ⟨u,a4,ae⟩,(key p a am).mpr aK⟩,am⟩
theorem dd.Is.bB(T:Rows R){ai dO:IF Č}(h:Z.Is R K ai)(m:∀p,p∈dO↔p∈ai\/p=4):Z.Is R (K++[Z.bB]) dO:=by
 have st:∀a,Z.iA (K++[Z.bB]) a↔Z.iA K a:=by
  intro a;have d7:Z.pY≠Z.bB:=λe=>by have:=(Z.sq T<|Z.four T).mpr e.symm;lia
  have fm:Z.ly≠Z.bB:=λe=>by have:=(Z.sC T<|Z.four T).mpr e.symm;lia
  unfold dd.iA;simp[d7,fm]
 constructor
 .intro p ae;rcases(m p).mp ae with ae|rfl
  .obtain⟨a,ak,am,aK⟩:=h.to p ae;exact⟨a,kz _ ak,am,(st a).mpr aK⟩
  .exact⟨Z.bB,by simp,Z.four T,(st _).mpr ⟨λe=>by rw[Z.wW]at e;lia,λe=>by rw[Z.wW]at e;lia⟩⟩
 .intro a ak aK;rcases gh.mp ak with ak|ak
  .obtain⟨p,ae,am⟩:=h.of a ak<|(st a).mp aK;exact⟨p,(m p).mpr<|.inl ae,am⟩
  .rw[cU]at ak;subst ak;exact⟨4,(m 4).mpr<|.inr rfl,Z.four T⟩
theorem dd.Is.less[DecidableEq av](T:Rows R){ai:IF Č}(h:Z.Is R K ai):Z.Is R (K.filter λa=> !decide (a=Z.bB)) (ai.filter λp=> !decide (p=4)):=by
 have st:∀a,Z.iA (K.filter λa=> !decide (a=Z.bB)) a↔Z.iA K a:=by
  intro a;have d7:Z.pY≠Z.bB:=λe=>by have:=(Z.sq T<|Z.four T).mpr e.symm;lia
  have fm:Z.ly≠Z.bB:=λe=>by have:=(Z.sC T<|Z.four T).mpr e.symm;lia
  unfold dd.iA;simp[gC,d7,fm]
 constructor
 .intro p ae;obtain⟨ae,ba⟩:=gC.mp ae;obtain⟨a,ak,am,aK⟩:=h.to p ae;refine⟨a,gC.mpr ⟨ak,?_⟩,am,(st a).mpr aK⟩;simp only[kk,mH]at ba⊢;exact λe=>ba<|(Z.sl T am).mpr e
 .intro a ak aK;obtain⟨ak,ba⟩:=gC.mp ak;obtain⟨p,ae,am⟩:=h.of a ak<|(st a).mp aK;refine⟨p,gC.mpr ⟨ae,?_⟩,am⟩;simp only[kk,mH]at ba⊢;exact λe=>ba<|(Z.sl T am).mp e
end
def nD (v:B):Č:=match v with|.tup l=>(match l with|x::_=>(match x with|.int i=>i.toNat|_=>0)|[]=>0)|_=>0
theorem rY{R:IF B}(T:Rows R){p:Č}{v:B}(h:R[p]?=some v)(af:Nat.ble 3 (nD v)=true):p≠2/\p≠0/\p≠1/\p≠13/\p≠8/\p≠9/\p≠14/\p≠15:=by
 have key:∀t sI,hl[t]?=some sI->Nat.ble 3 (nD sI)=false->p≠t:=λt sI e n q=>by have e:=T.at e;rw[<-q,h]at e;rw[<-cV e,af]at n;exact ig n
 exact⟨key 2 _ rfl rfl,key 0 _ rfl rfl,key 1 _ rfl rfl,key 13 _ rfl rfl,key 8 _ rfl rfl,key 9 _ rfl rfl,key 14 _ rfl rfl,key 15 _ rfl rfl⟩
noncomputable abbrev r5 (x:bx):B:=.tup [.int 3,.str x,.int 0]
noncomputable abbrev BM (i:č):B:=.tup [.int 4,.int i,.int 0]
noncomputable abbrev oT (a b:č):B:=.tup [.int 15,.int a,.int b]
noncomputable abbrev hX (e:Č) (aV:č):B:=.tup [.int 11,au e,.int aV]
def gF(R:IF B)(s:Č):bv->Prop
 |.txt x=>R[s]?=some (r5 x)
 |.S=>s=6
 |.N=>s=7
def eT(R:IF B)(p:Č):aM->Prop
 |.txt x=>R[p]?=some (r5 x)
 |.num i=>R[p]?=some (BM i)
 |.bB=>p=4
 |.nul=>p=5
 |.S=>p=6
 |.N=>p=7
 |.ao k=>∃s,gF R s k/\R[p]?=some (oT 16 s)
def aM.h8:aM->č
 |.txt _=>6
 |.num _=>7
 |_=> -1
theorem gF.bf{R aa:IF B}{c s:Č}{k:bv}(h:gF R s k)(g:a9 R aa c):gF aa s k:=by induction k<;>first|exact g.at h|exact h
theorem gF.fn{R:IF B}(T:Rows R){s t:Č}{k:bv}(h:gF R s k)(aR:gF R t k):s=t:=by
 induction k
 .exact T.inj h aR
 .exact h.trans aR.symm
 .exact h.trans aR.symm
theorem pj{R:IF B}(T:Rows R){p t:Č}{v w:B}(h:R[p]?=some v)(aU:hl[t]?=some w)(ne:v≠w):p≠t:=by rintro rfl;have:=T.at aU;rw[h]at this;cases this;exact ne rfl
theorem eT.pt{R:IF B}(T:Rows R){p:Č}{a:aM}(h:eT R p a):gj R p a.h8:=by
 induction a with
 |txt x=>exact⟨⟨_,h,.txt x⟩,rY T h rfl⟩
 |num i=>exact⟨⟨_,h,.num i⟩,rY T h rfl⟩
 |ao k=>obtain⟨s,_,h⟩:=h;exact⟨⟨_,h,.idx _ _⟩,rY T h rfl⟩
 |bB=>exact gj.key T<|.inl h
 |nul=>exact gj.key T<|.inr<|.inl h
 |S=>exact gj.key T<|.inr<|.inr<|.inl h
 |N=>exact gj.key T<|.inr<|.inr<|.inr h
def sv:aM->Č|.bB=>4|.nul=>5|.S=>6|.N=>7|_=>0
def vY (k:Č):aM:=if k=4 then .bB else if k=5 then .nul else if k=6 then .S else .N
theorem yC{R:IF B}(T:Rows R){p:Č}{v:B}(h:R[p]?=some v)(n:Nat.ble 3 (nD v)=true):p≠4/\p≠6/\p≠7:=by
 have af:∀x,v≠.tup [.int 1,.str x]:=by rintro x rfl;exact cH n
 exact⟨pj T h rfl<|af _,pj T h rfl<|af _,pj T h rfl<|af _⟩
theorem eT.sv{R:IF B}(T:Rows R){p:Č}{a:aM}(h:eT R p a):(Internal.sv a=p/\vY p=a)\/(Internal.sv a=0/\p≠4/\p≠6/\p≠7):=by
 induction a with
 |txt x=>exact .inr ⟨rfl,yC T h rfl⟩
 |num i=>exact .inr ⟨rfl,yC T h rfl⟩
 |ao k=>obtain⟨_,_,h⟩:=h;exact .inr ⟨rfl,yC T h rfl⟩
 |bB=>obtain rfl:p=4:=h;exact .inl ⟨rfl,rfl⟩
 |nul=>obtain rfl:p=5:=h;exact .inl ⟨rfl,rfl⟩
 |S=>obtain rfl:p=6:=h;exact .inl ⟨rfl,rfl⟩
 |N=>obtain rfl:p=7:=h;exact .inl ⟨rfl,rfl⟩
theorem Dn{p k:Č}{cR:Prop}(aE:k=4\/k=6\/k=7)(e:p=k)(n:p≠4/\p≠6/\p≠7):cR:=aE.elim (λq=>absurd (e.trans q) n.1) λaE=>aE.elim (λq=>absurd (e.trans q) n.2.1) λq=>absurd (e.trans q) n.2.2
theorem eT.num{R:IF B}(T:Rows R){p k:Č}{a:aM}(aE:k=4\/k=6\/k=7)(h:eT R p a):p=k↔a=vY k:=by
 have xm:Internal.sv (vY k)=k:=by rcases aE with e|e|e<;>rw[e]<;>rfl
 rcases h.sv T with⟨ag,a8⟩|⟨ag,n⟩
 .exact⟨λe=>a8.symm.trans<|bH vY e,λe=>ag.symm.trans<|(bH Internal.sv e).trans xm⟩
 .exact⟨λe=>Dn aE e n,λe=>by rw[e,xm]at ag;exact Dn aE ag.symm<|by decide⟩
def h0:dd aM where
 gn:=eT
 h8:=aM.h8
 pY:=.S
 ly:=.N
 bB:=.bB
 bf:=λ{R aa c p a} h g=>by induction a<;>first|exact g.at h|exact h|(obtain⟨s,G,E⟩:=h;exact⟨s,G.bf g,g.at E⟩)
 pt:=λT h=>eT.pt T h
 fn:=λ{R p q a} T h aR=>by
  induction a with
  |txt x=>exact T.inj h aR
  |num x=>exact T.inj h aR
  |ao k=>obtain⟨s,G,E⟩:=h;obtain⟨t,aC,ba⟩:=aR;have:=G.fn T aC;subst this;exact T.inj E ba
  |_=>exact Eq.trans h<|Eq.symm aR
 sq:=λT h=>eT.num T (.inr<|.inl rfl) h
 sC:=λT h=>eT.num T (.inr<|.inr rfl) h
 sl:=λT h=>eT.num T (.inl rfl) h
 four:=λ_=>rfl
 vd:=rfl
 vS:=rfl
 wW:=rfl
def mQ(R:IF B)(p:Č):aF->Prop
 |.b a=>eT R p a
 |.arr K=>∃e,R[p]?=some (hX e 0)/\h0.Ty R e K
def aF.h8:aF->č
 |.b a=>a.h8
 |.arr _=> -1
theorem mQ.num{R:IF B}(T:Rows R){p k:Č}{a:aF}(aE:k=4\/k=6\/k=7)(h:mQ R p a):p=k↔a=.b (vY k):=by
 induction a with
 |b a=>exact(eT.num T aE h).trans ⟨bH _,λe=>by cases e;rfl⟩
 |arr K=>obtain⟨e,h,_⟩:=h;exact⟨λe=>Dn aE e<|yC T h rfl,λe=>by cases e⟩
def d3:dd aF where
 gn:=mQ
 h8:=aF.h8
 pY:=.b .S
 ly:=.b .N
 bB:=.b .bB
 bf:=λ{R aa c p a} h g=>by
  induction a with
  |b a=>exact h0.bf (a:=a) (show h0.gn R p a from h) g
  |arr K=>obtain⟨e,G,E⟩:=h;exact⟨e,g.at G,E.bf g⟩
 pt:=λ{R p a} T h=>by
  induction a with
  |b a=>exact eT.pt T h
  |arr K=>obtain⟨e,h,_⟩:=h;exact⟨⟨_,h,.arr _ _⟩,rY T h rfl⟩
 fn:=λ{R p q a} T h aR=>by
  induction a with
  |b a=>exact h0.fn (a:=a) T (show h0.gn R p a from h) aR
  |arr K=>obtain⟨e,G,E⟩:=h;obtain⟨f,aC,ba⟩:=aR;have:=E.inj T ba;subst this;exact T.inj G aC
 sq:=λT h=>mQ.num T (.inr<|.inl rfl) h
 sC:=λT h=>mQ.num T (.inr<|.inr rfl) h
 sl:=λT h=>mQ.num T (.inl rfl) h
 four:=λ_=>rfl
 vd:=rfl
 vS:=rfl
 wW:=rfl
def bv.aW:bv->B
 |.txt x=>.tup [.str [116],.str x]
 |.S=>.tup [.str [119],.str [83]]
 |.N=>.tup [.str [119],.str [78]]
def aM.aW:aM->B
 |.txt x=>.tup [.str [116],.str x]
 |.num i=>.tup [.str [35],.int i]
 |.bB=>.tup [.str [119],.str [117]]
 |.nul=>.tup [.str [119],.str [110]]
 |.S=>.tup [.str [119],.str [83]]
 |.N=>.tup [.str [119],.str [78]]
 |.ao k=>.tup [.str [84],k.aW]
def aF.aW:aF->B
 |.b a=>a.aW
 |.arr K=>.tup [.str [91],.tup<|K.map aM.aW]
section
variable{av:Type}{Z:dd av}{R:IF B}
theorem dd.Rh(a:av):Z.iA [a] a:=⟨λe h=>by rw[cU]at h;rw[<-h,Z.vd]at e;lia,λe h=>by rw[cU]at h;rw[<-h,Z.vS]at e;lia⟩
theorem dd.Ky(T:Rows R){p:Č}{a:av}(h:Z.gn R p a):ek R p [p]:=by
 refine⟨by simp,λq a_=>?_,.inr<|.inl rfl⟩;rw[cU]at a_;subst a_;refine⟨_,Z.pt T h,λz hz=>?_⟩;rw[cU]at hz;subst hz;intro e;have ae:=Z.pt T h;obtain⟨⟨l,_,aj⟩,_⟩:=id ae;clear ae;generalize bF:Z.h8 a=w at*;induction aj
 .have:=(Z.sq T h).mp (by lia);subst this;rw[Z.vd]at bF;lia
 .have:=(Z.sC T h).mp (by lia);subst this;rw[Z.vS]at bF;lia
 all_goals lia
theorem dd.Ad(T:Rows R){p:Č}{a:av}(h:Z.gn R p a):Z.Is R [a] [p]:=⟨λq a_=>⟨a,.head _,by rw[cU]at a_;rw[a_];exact h,dd.Rh a⟩,λb aw _=>⟨p,.head _,by rw[cU]at aw;rw[aw];exact h⟩⟩
end
inductive bW {av b9:Type} (P:av->b9->Prop):List av->List b9->Prop
 |nil:bW P [] []
 |cons {a b l m}:P a b->bW P l m->bW P (a::l) (b::m)
theorem bW.snoc{av b9:Type}{P:av->b9->Prop}{a:av}{b:b9}(h:P a b){l:IF av}{m:IF b9}(x:bW P l m):bW P (l++[a]) (m++[b]):=bW.rec (motive:=λl m _=>bW P (l++[a])<|m++[b]) (.cons h .nil) (λx _ ap=>.cons x ap) x
theorem bW.imp{av b9:Type}{P r9:av->b9->Prop}(h:∀a b,P a b->r9 a b){l:IF av}{m:IF b9}(x:bW P l m):bW r9 l m:=bW.rec (motive:=λl m _=>bW r9 l m) .nil (λx _ ap=>.cons (h _ _ x) ap) x
theorem bW.len{av b9:Type}{P:av->b9->Prop}{l:IF av}{m:IF b9}(x:bW P l m):l.length=m.length:=bW.rec (motive:=λ(l:IF av) (m:IF b9) (_:bW P l m)=>l.length=m.length) rfl (λ_ _ ap=>bH Nat.succ ap) x
theorem bW.of{av b9:Type}{P:av->b9->Prop}{l:IF av}{k:IF b9}(h:bW P l k):List.casesOn (motive:=λ_=>Prop) k (l=[]) λb m=>dX λx t=>dJ (l=x::t) (P x b) (bW P t m):=bW.casesOn (motive:=λl k _=>List.casesOn (motive:=λ_=>Prop) k (l=[]) λb m=>dX λx t=>dJ (l=x::t) (P x b)<|bW P t m) h rfl λp t=>⟨_,_,rfl,p,t⟩
theorem bW.un{av b9:Type}{P:av->b9->Prop}{l:IF av}{b:b9}{m:IF b9}(h:bW P l (b::m)):dX λx t=>dJ (l=x::t) (P x b) (bW P t m):=h.of
section
variable{av:Type}{Z:dd av}{n:Č}{S:dy}{s:St}{Q:B->St->Prop}
theorem Kq{R:IF B}(T:Rows R):∀{ai:IF Č} {K:IF av},bW (λp a=>Z.gn R p a) ai K->∃fJ:IF (IF Č×IF av),(∀u∈fJ,Z.Is R u.2 u.1)/\fJ.flatMap Prod.fst=ai/\fJ.flatMap Prod.snd=K
 |_,_,.nil=>⟨[],by simp,rfl,rfl⟩
 |_,_,.cons (a:=p) (b:=a) h r=>by
  obtain⟨fJ,G,E,aC⟩:=Kq T r;refine⟨([p],[a])::fJ,λu a4=>?_,by simp[E],by simp[aC]⟩;rcases eD.mp a4 with rfl|a4
  .exact dd.Ad T h
  .exact G u a4
theorem LC{aW:av->B}{hE arg:B}{g m:Č}{K:IF av}(T:Rows S.R)(aj:K.length<=m)(aN:Nat.ble m 63=true)(aq:S.R.length+(g*m+1)<=a3)(aB:items arg=some (K.map aW))(nc:∀a∈K,∀(cp:dy) (bT:B->St->Prop),Rows cp.R->cp.R.length+g<=a3->(∀p aa,a9 cp.R aa g->Z.gn aa p a->bT (au p) (cp.w aa).st)->bc (n+4) 76 [.ref 1,hE,aW a] cp.st bT)(q:∀t aa,a9 S.R aa (g*m+1)->Z.Ty aa t K->Q (au t) (S.w aa).st):bc (n+5) 75 [.ref 1,hE,arg] S.st Q:=by
 have d_:=c'<|hh g aj;k_go;refine dj.comp rfl<|ff.mp aB (λdone K=>∀aa ai,a9 S.R aa (g*done.length)->bW (λp a=>Z.gn aa p a) ai done->K (ai.map au) (S.w aa).st) (λdone a a' a8 K ab aa ai bf al=>?_) (λaa ai bf al=>?_) λK ab=>ab S.R [] (a9.refl T) .nil
 .refine eR.mk ?_;lk;refine nc a (by rw[a8];simp) (S.w aa) _ bf.ok (bf.room aq<|iP<|tt g a8 aj) λp bu bh Ô=>?_;have:=ab bu (ai++[p]) (bf.step bh<|dA _)<|(al.imp λp b h=>Z.bf h bh).snoc Ô;rwa[cZ]at this
 .obtain⟨fJ,G,E,aC⟩:=Kq bf.ok al;have a7:(ai.map λp=>(p,[p])).flatMap Prod.snd=ai:=by rw[D5];simp
  have kQ:∀{l:IF Č} {m:IF av},bW (λp a=>Z.gn aa p a) l m->∀p∈l,∃a,Z.gn aa p a:=by
   intro l m x;induction x with
   |nil=>intro p ae;cases ae
   |cons x _ ap=>
    intro p ae;rcases eD.mp ae with rfl|ae
    .exact⟨_,x⟩
    .exact ap p ae
  refine um (S:=S.w aa) (aS:=ai.map λp=>(p,[p])) bf.ok (by show some _=_;rw[f2];rfl) (λu a4=>?_) (by rw[a7,al.len];exact zE<|aI aj<|aG aN) (bf.room aq d_) λt dO bu bh u m=>?_
  .obtain⟨p,ae,rfl⟩:=dq.mp a4;clear a4;obtain⟨a,h⟩:=kQ al p ae;exact dd.Ky bf.ok h
  .rw[a7]at m;exact q t bu ((bf.trans bh).le d_) ⟨dO,u,aC▸(dd.Is.union (Z:=Z) bf.ok G (ai:=dO)<|by rw[E];exact m).bf bh⟩
theorem Z5{k:bv}{hE:B}(T:Rows S.R)(aq:S.R.length+1<=a3)(q:∀p aa,a9 S.R aa 1->gF aa p k->Q (au p) (S.w aa).st):bc (n+2) 76 [.ref 1,hE,k.aW] S.st Q:=by
 k_go;induction k with
 |txt x=>exact e6 T rfl aq λt aa g e=>q t aa g e
 |S=>exact q 6 S.R (a9.refl T) rfl
 |N=>exact q 7 S.R (a9.refl T) rfl
theorem EV{a:aM}{hE:B}(T:Rows S.R)(aq:S.R.length+2<=a3)(tL:∀k,a=.ao k->hE=.int 16)(q:∀p aa,a9 S.R aa 2->eT aa p a->Q (au p) (S.w aa).st):bc (n+3) 76 [.ref 1,hE,a.aW] S.st Q:=by
 k_go;induction a with
 |txt x=>exact e6 T rfl (hb ‹_›) λt aa g e=>q t aa (g.le<|aG rfl) e
 |num x=>exact e6 T rfl (hb ‹_›) λt aa g e=>q t aa (g.le<|aG rfl) e
 |bB=>exact q 4 S.R (a9.refl T) rfl
 |nul=>exact q 5 S.R (a9.refl T) rfl
 |S=>exact q 6 S.R (a9.refl T) rfl
 |N=>exact q 7 S.R (a9.refl T) rfl
 |ao k=>obtain rfl:=tL k rfl;exact Z5 T (hb ‹_›) λp aa g aE=>e6 (S:=S.w aa) g.ok rfl (g.room aq<|aG rfl) λt bu dW e=>q t bu (g.trans dW) ⟨p,aE.bf dW,e⟩
theorem ss{K:IF aM}{hE arg:B}{m:Č}(T:Rows S.R)(aj:K.length<=m)(aN:Nat.ble m 63=true)(aq:S.R.length+(2*m+1)<=a3)(aB:items arg=some (K.map aM.aW))(tL:∀k,aM.ao k∈K->hE=.int 16)(q:∀t aa,a9 S.R aa (2*m+1)->h0.Ty aa t K->Q (au t) (S.w aa).st):bc (n+5) 75 [.ref 1,hE,arg] S.st Q:=LC (Z:=h0) T aj aN aq aB (λa ak cp bT r0 eM fg=>EV r0 eM (λk e=>tL k<|e▸ak) λp aa g h=>fg p aa g h) q
def aF.fits:aF->Prop
 |.b _=>True
 |.arr K=>K.length<=12
theorem UV{a:aF}{hE:B}(T:Rows S.R)(aq:S.R.length+26<=a3)(a7:a.fits)(tL:hE=.int 16\/∃b,a=.b b/\∀k,b≠.ao k)(q:∀p aa,a9 S.R aa 26->mQ aa p a->Q (au p) (S.w aa).st):bc (n+6) 76 [.ref 1,hE,a.aW] S.st Q:=by
 induction a with
 |b a=>
  refine EV T (hb ‹_›) (λk e=>?_) λp aa g h=>q p aa (g.le<|aG rfl) h;rcases tL with h|⟨b,ag,a8⟩
  .exact h
  .cases ag;exact absurd e<|a8 k
 |arr K=>
  obtain rfl:hE=.int 16:=by
   rcases tL with h|⟨b,ag,_⟩
   .exact h
   .cases ag
  k_go;show bw _ _ [_,_,.val<|.tup [.str [91],.tup<|K.map aM.aW],_,_] _ _;exact ss T a7 rfl (hb ‹_›) rfl (λ_ _=>rfl) λt aa g h=>e6 (S:=S.w aa) g.ok rfl (g.room aq<|aG rfl) λp bu dW e=>q p bu (g.trans dW) ⟨t,e,h.bf dW⟩
theorem yN{K:IF aF}{arg:B}{m:Č}(T:Rows S.R)(aj:K.length<=m)(aN:Nat.ble m 63=true)(aq:S.R.length+(26*m+1)<=a3)(aB:items arg=some (K.map aF.aW))(a7:∀a∈K,a.fits)(q:∀t aa,a9 S.R aa (26*m+1)->d3.Ty aa t K->Q (au t) (S.w aa).st):bc (n+7) 75 [.ref 1,.int 16,arg] S.st Q:=LC (Z:=d3) T aj aN aq aB (λa ak cp bT r0 eM fg=>UV r0 eM (a7 a ak) (.inl rfl) λp aa g h=>fg p aa g h) q
end
noncomputable abbrev mp (k:Č):B:=.bb [(.int 1,au k)]
inductive sh:List B->Prop
 |txt (x:bx):sh [.int 3,.str x,.int 0]
 |num (i:Int):sh [.int 4,.int i,.int 0]
 |key (x:bx):sh [.int 1,.str x]
def DB(R:IF B)(ai:IF Č):Prop:=∀p∈ai,∃l,R[p]?=some (.tup l)/\sh l
theorem zG{p:Č}{l:IF B}(h:S.R[p]?=some (.tup l))(aj:sh l)(q:Q (au p) S.st):bc (n+2) 66 [.ref 10,au p,mp k] S.st Q:=by k_go;induction aj<;>(lk;k_go;lk;exact q)
theorem BE{ai:IF Č}(h:DB S.R ai)(q:Q (.tup<|ai.map au) S.st):bc (n+3) 62 [.ref 10,.tup<|ai.map au,mp k] S.st Q:=by
 k_go;refine dj.comp rfl<|pd (f:=λv=>[v]) rfl ?_ ?_
 .intro v af bT a_;obtain⟨p,ae,rfl⟩:=dq.mp af;clear af;obtain⟨l,G,E⟩:=h p ae;exact eR.mk<|zG G E a_
 .rw[show(ai.map au).flatMap (λv=>[v])=ai.map au by simp];exact q
theorem Nv{t:Č}{ai:IF Č}(T:Rows S.R)(a4:ek S.R t ai)(h:DB S.R ai)(aj:ai.length<64)(aq:S.R.length+1<=a3)(q:∀aa,a9 S.R aa 1->Q (au t) (S.w aa).st):bc (n+4) 66 [.ref 10,au t,mp k] S.st Q:=by
 rcases a4.is with⟨_,rfl⟩|rfl|⟨a,b,e⟩
 .exact zG (T.at rfl) (.key _)<|q S.R<|a9.refl T
 .obtain⟨l,G,E⟩:=h t<|.head _;exact zG G E<|q S.R<|a9.refl T
 .k_go;lk;refine BE h ?_;have a7:(ai.map λp=>(p,[p])).flatMap Prod.snd=ai:=by rw[D5];simp
  refine um (aS:=ai.map λp=>(p,[p])) T (by show some _=_;rw[f2];rfl) (λu aN=>?_) (by rw[a7];exact aj) aq λdM dO aa g u m=>?_
  .obtain⟨p,ae,rfl⟩:=dq.mp aN;clear aN;exact a4.one ae
  .rw[a7]at m;have bz:dO=ai:=uG u.fB a4.fB λp=>by rw[m p];exact Kw a4 (λ_ h=>h) p
   subst bz;rw[u.inj g.ok<|a4.bf g];exact q aa g
theorem AU(T:Rows S.R)(q:Q (au k) S.st):bc (n+1) 66 [.ref 10,.int 17,mp k] S.st Q:=by k_go;exact ax.of (qh (S:=S) (t:=17)<|T.at rfl) q
theorem X2(T:Rows S.R)(q:Q (.int 16) S.st):bc (n+1) 66 [.ref 10,.int 16,mp k] S.st Q:=by k_go;exact ax.of (qh (S:=S) (t:=16)<|T.at rfl) q
theorem SA{x:Č}{key:bv}(T:Rows S.R)(h:S.R[x]?=some (oT 16 17))(aE:gF S.R k key)(aq:S.R.length+1<=a3)(q:∀p aa,a9 S.R aa 1->eT aa p (.ao key)->Q (au p) (S.w aa).st):bc (n+7) 66 [.ref 10,au x,mp k] S.st Q:=by k_go;lk;k_go;k_go;refine dj.comp rfl<|ff.un rfl<|eR.mk<|X2 T ?_;lk;refine AU T ?_;lk;k_go;k_go;k_go;exact ax.of (qh (S:=S) (t:=16)<|T.at rfl)<|e6 T rfl aq λp aa g e=>q p aa g ⟨k,aE.bf g,e⟩
noncomputable abbrev vu (ia ib aS:Č):B:=.tup [.int 8,.tup [.tup [.str [48],au ia,.int 0,.int 0],.tup [.str [97],au ib,.int 0,.int 0]],.tup [],.tup [],.tup [au aS,.int 0],.tup [],.int 0]
def xZ(K:IF aM):Prop:=∀k,aM.ao k∉K
theorem eT.Tz{R:IF B}(T:Rows R){p:Č}{a:aM}(h:eT R p a)(ak:∀k,a≠.ao k):∃l,R[p]?=some (.tup l)/\sh l:=by
 induction a with
 |txt x=>exact⟨_,h,.txt x⟩
 |num i=>exact⟨_,h,.num i⟩
 |bB=>rcases(show p=4 from h)with rfl;exact⟨_,T.at rfl,.key _⟩
 |nul=>rcases(show p=5 from h)with rfl;exact⟨_,T.at rfl,.key _⟩
 |S=>rcases(show p=6 from h)with rfl;exact⟨_,T.at rfl,.key _⟩
 |N=>rcases(show p=7 from h)with rfl;exact⟨_,T.at rfl,.key _⟩
 |ao k=>exact absurd rfl<|ak k
structure iR(R:List B)(t:Nat)(K:List aM):Prop where
 ty:h0.Ty R t K
 no:xZ K
 len:K.length<=12
theorem iR.bf{R aa:IF B}{t c:Č}{K:IF aM}(h:iR R t K)(g:a9 R aa c):iR aa t K:=⟨h.ty.bf g,h.no,h.len⟩
theorem dd.Is.len{av:Type}{Z:dd av}{R:IF B}(T:Rows R):∀{ai:IF Č} {K:IF av},ai.Pairwise (· <·)->(∀p∈ai,∃a∈K,Z.gn R p a)->ai.length<=K.length:=by
 intro ai K aK h;have:∀(K:IF av) (ai:IF Č),ai.Nodup->(∀p∈ai,∃a∈K,Z.gn R p a)->ai.length<=K.length:=by
  intro K;induction K with
  |nil=>intro ai _ h;induction ai with|nil=>simp|cons p r=>obtain⟨a,ak,_⟩:=h p<|.head _;cases ak
  |cons a K ap=>
   intro ai b7 h;by_cases c:∃p∈ai,Z.gn R p a
   .obtain⟨p,ae,am⟩:=c;have:=ap (ai.erase p) (b7.erase p) λq a_=>by
     have wf:=(b7.mem_erase_iff).mp a_;obtain⟨b,aw,vC⟩:=h q wf.2;rcases eD.mp aw with rfl|aw
     .exact absurd (Z.fn T vC am) wf.1
     .exact⟨b,aw,vC⟩
    rw[List.length_erase_of_mem ae]at this;exact Nat.le_succ_of_pred_le this
   .have:=ap ai b7 λq a_=>by
     obtain⟨b,aw,vC⟩:=h q a_;rcases eD.mp aw with rfl|aw
     .exact absurd ⟨q,a_,vC⟩ c
     .exact⟨b,aw,vC⟩
    simp only[nl];exact iP ‹_›
 exact this K ai (aK.imp λh=>gK h) h
theorem iR.un{R:IF B}(T:Rows R){t:Č}{K:IF aM}(h:iR R t K):∃ai,ek R t ai/\DB R ai/\ai.length<64:=by
 obtain⟨⟨ai,u,i⟩,no,l⟩:=h;refine⟨ai,u,λp ae=>?_,?_⟩
 .obtain⟨a,ak,am,_⟩:=i.to p ae;exact eT.Tz T am λk e=>no k<|e▸ak
 .have:=dd.Is.len T u.fB λp ae=>(i.to p ae).imp λa x=>⟨x.1,x.2.1⟩;lia
theorem y7{t:Č}{K:IF aM}(T:Rows S.R)(h:iR S.R t K)(aq:S.R.length+1<=a3)(q:∀aa,a9 S.R aa 1->Q (au t) (S.w aa).st):bc (n+4) 66 [.ref 10,au t,mp k] S.st Q:=by obtain⟨ai,u,L9,l⟩:=h.un T;exact Nv T u L9 l aq q
theorem M_{aX ia ib aS:Č}{d1 ey d0:IF aM}(T:Rows S.R)(d2:S.R[aX]?=some (vu ia ib aS))(aU:iR S.R ia d1)(ak:iR S.R ib ey)(aK:iR S.R aS d0)(aq:S.R.length+4<=a3)(q:∀aa,a9 S.R aa 4->Q (au aX) (S.w aa).st):bc (n+7) 66 [.ref 10,au aX,mp k] S.st Q:=by k_go;lk;k_go;lk;refine dj.nB rfl ?_;lk;refine y7 T aU (hb ‹_›) λgp c3=>?_;lk;refine y7 (S:=S.w gp) c3.ok (ak.bf c3) (c3.room aq<|aG rfl) λbu bh=>?_;replace bh:=c3.trans bh;lk;refine BE (S:=S.w bu) (ai:=[]) (λp ae=>by cases ae) ?_;lk;refine BE (S:=S.w bu) (ai:=[]) (λp ae=>by cases ae) ?_;lk;k_go;lk;refine y7 (S:=S.w bu) bh.ok (aK.bf bh) (bh.room aq<|aG rfl) λdZ cL=>?_;replace cL:=bh.trans cL;lk;k_go;lk;exact Lo (S:=S.w dZ) cL.ok (cL.at d2) (cL.room aq<|aG rfl) λrt hT=>q rt<|cL.trans hT
def nh {av:Type} (d1 ey d0:av):bv->av
 |.txt x=>if [48]=x then d1 else if [97]=x then ey else d0
 |_=>d0
theorem G9{av b9:Type}{d1 ey d0:av}{yu yT zW:b9}{M:av->b9->Prop}(aU:M d1 yu)(ak:M ey yT)(aK:M d0 zW)(k:bv):M (nh d1 ey d0 k) (nh yu yT zW k):=by
 induction k with
 |txt x=>
  show M (if [48]=x then d1 else if [97]=x then ey else d0)<|if [48]=x then yu else if [97]=x then yT else zW;by_cases p:[48]=x
  .rw[bl p,bl p];exact aU
  .rw[bm p,bm p];by_cases q:[97]=x
   .rw[bl q,bl q];exact ak
   .rw[bm q,bm q];exact aK
 |_=>exact aK
theorem J4{av:Type}{d1 ey d0:av}{M:av->Prop}(aU:M d1)(ak:M ey)(aK:M d0)(k:bv):M (nh d1 ey d0 k):=G9 (M:=λK (_:Unit)=>M K) (yu:=()) (yT:=()) (zW:=()) aU ak aK k
theorem CH{key:bv}(T:Rows S.R)(aE:gF S.R k key)(q:Q (match key with|.txt x=>.str x|_=>.none) S.st):bc (n+2) 36 [.ref 1,au k] S.st Q:=by
 k_go;induction key with
 |txt x=>have h:S.R[k]?=some (r5 x):=aE;lk;k_go;lk;exact q
 |S=>obtain rfl:k=6:=aE;have h:=T.at (t:=6) rfl;lk;exact q
 |N=>obtain rfl:k=7:=aE;have h:=T.at (t:=7) rfl;lk;exact q
theorem V9{aX ia ib aS:Č}{key:bv}(T:Rows S.R)(d2:S.R[aX]?=some (vu ia ib aS))(aE:gF S.R k key)(q:Q (au<|nh ia ib aS key) S.st):bc (n+4) 68 [.ref 10,oT aX k] S.st Q:=by
 k_go;k_go;lk;have ë:aX≠0:=pj T d2 rfl (λe=>by cases e);refine bj.fp (by lia)<|CH T aE ?_;k_go;induction key with
 |txt x=>
  lk;by_cases aU:[48]=x
  .refine bj.pK aU ?_;rw[show nh ia ib aS (.txt x)=ia from bl aU]at q;k_go;lk;exact q
  .refine bj.fp aU ?_;lk;by_cases ak:[97]=x
   .refine bj.pK ak ?_;rw[show nh ia ib aS (.txt x)=ib from(bm aU).trans<|bl ak]at q;k_go;lk;exact q
   .refine bj.fp ak ?_;rw[show nh ia ib aS (.txt x)=aS from(bm aU).trans<|bm ak]at q;lk;refine bj.el (λfm=>?_) λfm=>?_
    .exact q
    .exact bj.fp fm q
 |S=>obtain rfl:k=6:=aE;lk;exact q
 |N=>obtain rfl:k=7:=aE;lk;exact q
theorem Zh{x aX ia ib aS:Č}{d1 ey d0:IF aM}{key:bv}(T:Rows S.R)(az:S.R[x]?=some (oT aX 17))(d2:S.R[aX]?=some (vu ia ib aS))(aU:iR S.R ia d1)(ak:iR S.R ib ey)(aK:iR S.R aS d0)(aE:gF S.R k key)(aq:S.R.length+4<=a3)(q:∀aa,a9 S.R aa 4->Q (au<|nh ia ib aS key) (S.w aa).st):bc (n+10) 66 [.ref 10,au x,mp k] S.st Q:=by k_go;lk;k_go;k_go;refine dj.comp rfl<|ff.un rfl<|eR.mk<|M_ T d2 aU ak aK ‹_› λaa g=>?_;lk;refine AU (S:=S.w aa) g.ok ?_;lk;k_go;exact V9 (S:=S.w aa) g.ok (g.at d2) (aE.bf g)<|q aa g
def bv.tv:bv->aM
 |.txt x=>.txt x
 |.S=>.S
 |.N=>.N
theorem gF.tv{R:IF B}{k:Č}{key:bv}(h:gF R k key):eT R k key.tv:=by induction key<;>exact h
theorem dd.Ty.one{av:Type}{Z:dd av}{R:IF B}(T:Rows R){p:Č}{a:av}(h:Z.gn R p a):Z.Ty R p [a]:=⟨[p],dd.Ky T h,dd.Ad T h⟩
theorem NI{R:IF B}{t:Č}{K:IF aM}(h:h0.Ty R t K):d3.Ty R t (K.map .b):=by
 obtain⟨ai,u,i⟩:=h;have st:∀a,d3.iA (K.map .b) (.b a)↔h0.iA K a:=by intro a;show(_->aF.b aM.S∉_)/\(_->aF.b aM.N∉_)↔(_->aM.S∉K)/\(_->aM.N∉K);simp only[dq,aF.b.injEq,exists_eq_right];rfl
 refine⟨ai,u,λp ae=>?_,λa ak aK=>?_⟩
 .obtain⟨a,ak,am,aK⟩:=i.to p ae;exact⟨.b a,fx ak,am,(st a).mpr aK⟩
 .obtain⟨b,aw,rfl⟩:=dq.mp ak;clear ak;exact i.of b aw<|(st b).mp aK
inductive kI (R:List B):Nat->(bv->List aM)->Prop
 |own {x:Nat}:R[x]?=some (oT 16 17)->kI R x λk=>[.ao k]
 |key:kI R 17 λk=>[k.tv]
 |fix {x:Nat} {K:List aM}:iR R x K->kI R x λ_=>K
 |tab {x aX ia ib aS:Nat} {d1 ey d0:List aM}:R[x]?=some (oT aX 17)->R[aX]?=some (vu ia ib aS)->iR R ia d1->iR R ib ey->iR R aS d0->kI R x (nh d1 ey d0)
theorem kI.bf{R aa:IF B}{x c:Č}{F:bv->IF aM}(h:kI R x F)(g:a9 R aa c):kI aa x F:=by
 induction h with
 |own h=>exact .own<|g.at h
 |key=>exact .key
 |fix h=>exact .fix<|h.bf g
 |tab a b c d e=>exact .tab (g.at a) (g.at b) (c.bf g) (d.bf g)<|e.bf g
theorem kI.len{R:IF B}{x:Č}{F:bv->IF aM}(h:kI R x F)(key:bv):(F key).length<=12:=by
 induction h with
 |own h=>exact h4 rfl
 |key=>exact h4 rfl
 |fix h=>exact h.len
 |tab a b c d e=>exact J4 (M:=λK:IF aM=>K.length<=12) c.len d.len e.len key
inductive n2 (R:List B):Nat->(bv->List aF)->Prop
 |base {x:Nat} {F:bv->List aM}:kI R x F->n2 R x λk=>(F k).map .b
 |arr {x p:Nat} {F:bv->List aM}:kI R x F->R[p]?=some (hX x 0)->n2 R p λk=>[.arr<|F k]
theorem n2.bf{R aa:IF B}{t c:Č}{F:bv->IF aF}(h:n2 R t F)(g:a9 R aa c):n2 aa t F:=by
 induction h with
 |base h=>exact .base<|h.bf g
 |arr h e=>exact .arr (h.bf g)<|g.at e
theorem n2.len{R:IF B}{x:Č}{F:bv->IF aF}(h:n2 R x F)(key:bv):(F key).length<=12:=by
 induction h with
 |base h=>rw[bV];exact h.len key
 |arr h e=>exact h4 rfl
inductive gb (R:List B):Nat->(bv->List aF)->Prop
 |one {t:Nat} {F:bv->List aF}:n2 R t F->gb R t F
 |bB {t p:Nat} {F:bv->List aF}:n2 R p F->gj R p (-1)->4<p->ek R t [4,p]->gb R t λk=>F k++[.b .bB]
theorem gb.bf{R aa:IF B}{t c:Č}{F:bv->IF aF}(h:gb R t F)(g:a9 R aa c):gb aa t F:=by
 induction h with
 |one h=>exact .one<|h.bf g
 |bB h ae l e=>exact .bB (h.bf g) (ae.bf g) l<|e.bf g
theorem gb.len{R:IF B}{x:Č}{F:bv->IF aF}(h:gb R x F)(key:bv):(F key).length<=13:=by
 induction h with
 |one h=>exact iP<|h.len key
 |bB h _ _ _=>rw[da];exact c'<|h.len key
theorem dd.Ty.s7{R:IF B}{t:Č}{av:Type}{Z:dd av}{K:IF av}(T:Rows R)(h:Z.Ty R t K):∃ai,ek R t ai/\Z.Is R K ai/\ai.length<=K.length:=by obtain⟨ai,u,i⟩:=h;exact⟨ai,u,i,dd.Is.len T u.fB λp ae=>(i.to p ae).imp λa x=>⟨x.1,x.2.1⟩⟩
theorem IA{x:Č}{F:bv->IF aM}{key:bv}(T:Rows S.R)(h:kI S.R x F)(aE:gF S.R k key)(aq:S.R.length+4<=a3)(q:∀t aa,a9 S.R aa 4->h0.Ty aa t (F key)->Q (au t) (S.w aa).st):bc (n+10) 66 [.ref 10,au x,mp k] S.st Q:=by
 cases h with
 |own h=>exact SA T h aE (hb ‹_›) λp aa g e=>q p aa (g.le<|aG rfl)<|dd.Ty.one (Z:=h0) g.ok e
 |key=>exact AU T<|q k S.R (a9.refl T)<|dd.Ty.one (Z:=h0) T aE.tv
 |fix h=>exact y7 T h (hb ‹_›) λaa g=>q x aa (g.le<|aG rfl)<|h.ty.bf g
 |tab a b c d e=>refine Zh T a b c d e aE aq λaa g=>q _ aa g ?_;exact G9 (M:=λt K=>h0.Ty aa t K) (c.ty.bf g) (d.ty.bf g) (e.ty.bf g) key
theorem Kl{t:Č}{F:bv->IF aF}{key:bv}(T:Rows S.R)(h:n2 S.R t F)(aE:gF S.R k key)(aq:S.R.length+5<=a3)(q:∀u aa,a9 S.R aa 5->d3.Ty aa u (F key)->Q (au u) (S.w aa).st):bc (n+11) 66 [.ref 10,au t,mp k] S.st Q:=by
 induction h with
 |base h=>exact IA T h aE (hb ‹_›) λu aa g ty=>q u aa (g.le<|aG rfl)<|NI ty
 |arr h e=>k_go;lk;refine IA T h aE (hb ‹_›) λu aa g ty=>?_;have:=g.len;k_go;refine e6 (S:=S.w aa) g.ok rfl (by show aa.length+1<=a3;lia) λp iT dW bz=>?_;exact q p iT (g.trans dW)<|dd.Ty.one (Z:=d3) dW.ok ⟨u,bz,ty.bf dW⟩
set_option tactic.hygienic true in
theorem QF{t:Č}{F:bv->IF aF}{key:bv}(T:Rows S.R)(h:gb S.R t F)(aE:gF S.R k key)(aq:S.R.length+6<=a3)(q:∀u aa,a9 S.R aa 6->d3.Ty aa u (F key)->Q (au u) (S.w aa).st):bc (n+13) 66 [.ref 10,au t,mp k] S.st Q:=by
 induction h with
 |one h=>exact Kl T h aE (hb ‹_›) λu aa g ty=>q u aa (g.le<|aG rfl) ty
 |bB h ae l u=>
  rename_i p F;rcases u.is with⟨e,_⟩|e|⟨_,_,e⟩
  .cases e
  .cases e
  .k_go;lk;k_go;refine dj.comp rfl<|ff.un rfl<|eR.mk<|zG (p:=4) (T.at rfl) (.key _) ?_;lk;refine Kl T h aE (hb ‹_›) λu aa g ty=>?_;lk;have:=g.len;have kW:=h.len key;obtain⟨ai,a4,aB,aj⟩:=ty.s7 g.ok;refine um (S:=S.w aa) (aS:=[(4,[4]),(u,ai)]) g.ok rfl (λx az=>?_) (by show(ai++[]).length+1<64;rw[gN];exact hH (c'<|aI aj kW)<|by decide) (g.room aq<|aG rfl) λdM dO iT dW iu m=>?_
   .rcases eD.mp az with rfl|az
    .exact ek.key g.ok<|.inl rfl
    .rw[cU]at az;subst az;exact a4
   .refine q dM iT (g.trans dW) ⟨dO,iu,?_⟩;have:=dd.Is.union (Z:=d3) g.ok (fJ:=[([4],[.b .bB]),(ai,F key)]) (λx az=>by
     rcases eD.mp az with rfl|az
     .exact dd.Ad (Z:=d3) (a:=aF.b aM.bB) g.ok<|show mQ aa 4 (.b .bB)from rfl
     .rw[cU]at az;subst az;exact aB) (ai:=dO) (by intro p;rw[m p];simp)
    refine(this.congr λa=>?_).bf dW;simp[or_comm]
noncomputable abbrev fT (cD nm d5 Y aV:č):B:=.tup [.int 17,.int 1,.int cD,.int nm,.int d5,.int Y,.int aV]
theorem wM{t:Č}{F:bv->IF aF}{key:bv}{cD nm Y aV:č}(T:Rows S.R)(h:gb S.R t F)(aE:gF S.R k key)(aq:S.R.length+6<=a3)(q:∀u aa,a9 S.R aa 6->d3.Ty aa u (F key)->Q (au u) (S.w aa).st):bc (n+15) 46 [.ref 10,fT cD nm t Y aV,au k] S.st Q:=by k_go;k_go;exact QF T h aE aq q
theorem dd.ni{av:Type}{Z:dd av}{K:IF av}{a:av}(h:Z.h8 a= -1):Z.iA K a:=⟨λe=>(by rw[h]at e;lia),λe=>(by rw[h]at e;lia)⟩
def a' (K:IF aF):IF aF:=K.filter λa=> !decide (a=.b .bB)
def fN (Y:č) (fO:ĉ):ĉ:=decide (Y=1)||(decide (Y=0)&&fO)
def fC (Y:č) (fO:ĉ) (K:IF aF):IF aF:=if fN Y fO=true then(if a' K=[]then K else a' K)else if fO=true then a' K else K
def fK (Y:č) (K:IF aF):IF aF:=if Y=1 then K++[.b .bB]else if Y=2 then a' K else K
theorem PN{R:IF B}(T:Rows R){K:IF aF}{ai:IF Č}(h:d3.Is R K ai):Cl R ai:=by
 intro p ae x y e;obtain⟨a,_,am,_⟩:=h.to p ae;induction a with
 |arr K=>obtain⟨_,h,_⟩:=(show mQ R p (.arr K)from am);rw[h]at e;cases e
 |b a=>
  have hd:eT R p a:=am;induction a with
  |txt x=>rw[show R[p]?=some (r5 x)from hd]at e;cases e
  |num x=>rw[show R[p]?=some (BM x)from hd]at e;cases e
  |ao k=>obtain⟨s,_,h⟩:=hd;rw[h]at e;cases e;rfl
  |bB=>rcases(show p=4 from hd)with rfl;rw[T.at (t:=4) rfl]at e;cases e
  |nul=>rcases(show p=5 from hd)with rfl;rw[T.at (t:=5) rfl]at e;cases e
  |S=>rcases(show p=6 from hd)with rfl;rw[T.at (t:=6) rfl]at e;cases e
  |N=>rcases(show p=7 from hd)with rfl;rw[T.at (t:=7) rfl]at e;cases e
theorem Pk{R:IF B}(T:Rows R){K:IF aF}{ai:IF Č}(aK:ai.Pairwise (· <·))(h:d3.Is R K ai):d3.Is R (if a' K=[]then K else a' K) (if ai=[4]then [4]else ai.filter λp=> !decide (p=4)):=by
 have KV:d3.Is R (a' K) (ai.filter λp=> !decide (p=4)):=dd.Is.less (Z:=d3) T h;by_cases ba:ai=[4]
 .subst ba;have:a' K=[]:=by
   rw[a',uI];intro a ak;simp only[kk,Bool.not_eq_false,jL];have e9:aF.b aM.S∉K:=λq=>by obtain⟨p,ae,am⟩:=h.of _ q<|dd.ni rfl;rw[cU]at ae;subst ae;cases(show(4:Č)=6 from am)
   have dc:aF.b aM.N∉K:=λq=>by obtain⟨p,ae,am⟩:=h.of _ q<|dd.ni rfl;rw[cU]at ae;subst ae;cases(show(4:Č)=7 from am)
   obtain⟨p,ae,am⟩:=h.of a ak ⟨λ_=>e9,λ_=>dc⟩;rw[cU]at ae;subst ae;exact(d3.sl T am).mp rfl
  rw[bl rfl,bl this];exact h
 .rw[bm ba];split
  .rename_i bn;have ab:K=[]:=by
    induction aE:K with
    |nil=>rfl
    |cons a r=>
     exfalso;have all:∀b∈K,b=.b .bB:=λb aw=>by have:=(uI.mp bn) b aw;simpa using this
     have c7:∀p∈ai,p=4:=λp ae=>by obtain⟨b,aw,am,_⟩:=h.to p ae;exact(d3.sl T am).mpr<|all b aw
     have aN:4∈ai:=by obtain⟨p,ae,am⟩:=h.of a (by rw[aE];exact .head _) (dd.ni<|by rw[all a<|by rw[aE];exact .head _];rfl);rw[c7 p ae]at ae;exact ae
     refine ba<|uG aK (by simp) λp=>?_;rw[cU];exact⟨c7 p,λe=>e▸aN⟩
   subst ab;exact KV
  .exact KV
theorem w4{cD nm d5 Y aV:č}{fO:ĉ}(aA:Y=0\/Y=1\/Y=2)(q:Q (.bool<|fN Y fO) s):bc (n+1) 47 [fT cD nm d5 Y aV,.bool fO] s Q:=by
 k_go;rcases aA with rfl|rfl|rfl
 .exact q
 .exact q
 .exact q
theorem yR{aH aV:č}(aA:aH=0\/aH=1\/aH=2)(q:Q (.int<|if aH=1 then 1 else if aH=2 then 0 else aV) s):bc (n+1) 45 [.int aH,.int aV] s Q:=by
 k_go;rcases aA with rfl|rfl|rfl
 .exact q
 .exact q
 .exact q
theorem HN{t:Č}{K:IF aF}(T:Rows S.R)(h:d3.Ty S.R t K)(aj:K.length<63)(aq:S.R.length+2<=a3)(q:∀dM aa,a9 S.R aa 2->d3.Ty aa dM (a' K)->Q (au dM) (S.w aa).st):bc (n+5) 43 [.ref 10,au t] S.st Q:=by obtain⟨ai,u,i,l⟩:=h.s7 T;exact O9 T u (PN T i) (by lia) aq λdM aa g iu=>q dM aa g ⟨_,iu,(dd.Is.less (Z:=d3) T i).bf g⟩
theorem ER{t:Č}{K:IF aF}{arg:B}(T:Rows S.R)(h:d3.Ty S.R t K)(ak:items arg=some [au t,au 4])(aj:K.length<63)(aq:S.R.length+1<=a3)(q:∀dM aa,a9 S.R aa 1->d3.Ty aa dM (K++[.b .bB])->Q (au dM) (S.w aa).st):bc (n+3) 20 [.ref 1,arg] S.st Q:=by obtain⟨ai,u,i,l⟩:=h.s7 T;exact zo T u ak (by lia) aq λdM dO aa g iu m=>q dM aa g ⟨_,iu,(dd.Is.bB (Z:=d3) T i m).bf g⟩
theorem v4{t:Č}{F:bv->IF aF}{key:bv}{cD nm Y aV:č}{fO:ĉ}(T:Rows S.R)(h:gb S.R t F)(aE:gF S.R k key)(aA:Y=0\/Y=1\/Y=2)(aq:S.R.length+8<=a3)(q:∀u aa,a9 S.R aa 8->d3.Ty aa u (fC Y fO<|F key)->Q (au u) (S.w aa).st):bc (n+16) 48 [.ref 10,fT cD nm t Y aV,au k,.int<|-1,.bool fO] S.st Q:=by
 have aj:=h.len key;k_go;refine wM T h aE (hb ‹_›) λu aa g ty=>?_;have:=g.len;refine w4 aA ?_;induction aK:fN Y fO with
 |true=>obtain⟨ai,a4,aB,sQ⟩:=ty.s7 g.ok;refine TJ (S:=S.w aa) g.ok a4 (by lia) (by show aa.length+1<=a3;lia) λdM dO iT dW iu e=>?_;refine q dM iT ((g.trans dW).le<|aG rfl) ⟨dO,iu,?_⟩;unfold fC;rw[bl aK,e];exact(Pk g.ok a4.fB aB).bf dW
 |false=>
  induction fO with
  |true=>refine HN (S:=S.w aa) g.ok ty (Ac ‹_›) (by show aa.length+2<=a3;lia) λdM iT dW vO=>?_;refine q dM iT (g.trans dW) ?_;unfold fC;rw[bm (by rw[aK];decide),bl rfl];exact vO
  |false=>refine q u aa (g.le<|aG rfl) ?_;unfold fC;rw[bm (by rw[aK];decide),bm<|by decide];exact ty
theorem CN{t:Č}{K:IF aF}{cD nm d5 Y aV:č}(T:Rows S.R)(h:d3.Ty S.R t K)(aA:Y=0\/Y=1\/Y=2)(aj:K.length<63)(aq:S.R.length+2<=a3)(q:∀u aa,a9 S.R aa 2->d3.Ty aa u (fK Y K)->Q (au u) (S.w aa).st):bc (n+6) 56 [.ref 10,fT cD nm d5 Y aV,au t] S.st Q:=by
 k_go;rcases aA with rfl|rfl|rfl
 .exact q t S.R (a9.refl T) h
 .exact ER T h rfl aj (hb ‹_›) λu aa g ty=>q u aa (g.le<|aG rfl) ty
 .exact HN T h aj aq λu aa g ty=>q u aa g ty
theorem JR{x:bx}(T:Rows S.R)(aq:S.R.length+1<=a3)(q:∀p aa,a9 S.R aa 1->gF aa p (.txt x)->Q (au p) (S.w aa).st):bc (n+2) 3 [.ref 1,.str x] S.st Q:=by k_go;exact e6 T rfl aq λp aa g e=>q p aa g e
theorem OO{t:Č}{F:bv->IF aF}{cD nm Y aV:č}{mc:Č}{dt p1:č}(T:Rows S.R)(h:gb S.R t F)(aA:Y=0\/Y=1\/Y=2)(aN:p1=0\/p1=1\/p1=2)(ae:small (mc:č)=true)(az:(dn mc).length<=a3)(aq:S.R.length+9<=a3)(q:∀u aa,a9 S.R aa 9->d3.Ty aa u (if p1=2 then fK Y (F<|.txt<|dn mc)else fC Y (decide<|p1=1) (F<|.txt<|dn mc))->Q (.tup [au u,.int<|if p1=2 then 2 else if fN Y (decide<|p1=1)=true then 1 else 0]) (S.w aa).st):bc (n+17) 57 [.ref 10,fT cD nm t Y aV,au mc,.tup [.int dt,.int p1],.bool false] S.st Q:=by
 have vf:oZ .str S.st [au mc]=some (.str<|dn mc):=by show(if small (mc:č)then i7 (dn mc).length (B.str<|dn mc)else none)=_;rw[ae];unfold i7;rw[bl az];rfl
 have aj:=h.len<|.txt<|dn mc;k_go;refine ax.of vf<|JR T (hb ‹_›) λk gp c3 aE=>?_;have:=c3.len;rcases aN with rfl|rfl|rfl
 .refine w4 aA ?_;induction aK:fN Y false with
  |true=>refine bj.mh aK ?_;refine v4 (S:=S.w gp) c3.ok (h.bf c3) aE aA (by show gp.length+8<=a3;lia) λu bu bh ty=>?_;have:=q u bu ((c3.trans bh).le<|aG rfl) ty;simp[aK]at this;exact this
  |false=>refine bj.ir aK ?_;refine v4 (S:=S.w gp) c3.ok (h.bf c3) aE aA (by show gp.length+8<=a3;lia) λu bu bh ty=>?_;have:=q u bu ((c3.trans bh).le<|aG rfl) ty;simp[aK]at this;exact this
 .refine w4 aA ?_;induction aK:fN Y true with
  |true=>refine bj.mh aK ?_;refine v4 (S:=S.w gp) c3.ok (h.bf c3) aE aA (by show gp.length+8<=a3;lia) λu bu bh ty=>?_;have:=q u bu ((c3.trans bh).le<|aG rfl) ty;simp[aK]at this;exact this
  |false=>refine bj.ir aK ?_;refine v4 (S:=S.w gp) c3.ok (h.bf c3) aE aA (by show gp.length+8<=a3;lia) λu bu bh ty=>?_;have:=q u bu ((c3.trans bh).le<|aG rfl) ty;simp[aK]at this;exact this
 .refine wM (S:=S.w gp) c3.ok (h.bf c3) aE (by show gp.length+6<=a3;lia) λu bu bh ty=>?_;have:=bh.len;have e:(S.w gp).R.length=gp.length:=rfl;refine CN (S:=S.w bu) bh.ok ty aA (Ac ‹_›) (by show bu.length+2<=a3;lia) λv dZ cL vO=>?_;exact q v dZ (((c3.trans bh).trans cL).le<|aG rfl) vO
theorem cE.nat{bk:ĉ}{aS:IF Č}{b:IF dF}{r:aJ}{Q:cj->aJ->St->Prop}{len:Č}(dz:Č->aJ->St->Prop)(aU:dz 0 r s)(ba:∀i,i<len->∀r s (K:aJ->St->Prop),p7 (dz<|i+1) K->∀Z,rJ Q Z->dz i r s->ax (iO bk aS (au i) r) λr=>bw n b r s<|wO K Z)(cN:∀r s,dz len r s->Q .go r s):cE n bk aS b ((List.range len).map au) r s Q:=by
 refine cE.inv (λl r s=>∃i,i<=len/\l=((List.range len).drop i).map au/\dz i r s) ?_ ?_ ⟨0,f_ _,by rw[List.drop_zero],aU⟩
 .rintro v l r s K ab Z Mi⟨i,aB,e,b'⟩;have wb:i<len:=by
   rcases Nat.lt_or_ge i len with h|h
   .exact h
   .rw[List.drop_of_length_le<|by simpa using h]at e;cases e
  rw[xz (by simpa using wb),gf,sx,List.getElem_range]at e;obtain⟨rfl,rfl⟩:=e;exact ba i wb r s K (λr s h=>ab _ _ ⟨i+1,wb,rfl,h⟩) Z Mi b'
 .rintro r s⟨i,aB,e,b'⟩;have:i=len:=by
   rcases Nat.lt_or_ge i len with h|h
   .rw[xz<|by simpa using h]at e;cases e
   .lia
  subst this;exact cN r s b'
theorem cE.ez{bk:ĉ}{aS:IF Č}{b:IF dF}{r:aJ}{Q:cj->aJ->St->Prop}{x:B}{len:Č}(dz:Č->aJ->St->Prop)(az:items x=some ((List.range len).map au))(aU:dz 0 r s)(ba:∀i,i<len->∀r s (K:aJ->St->Prop),p7 (dz<|i+1) K->∀Z,rJ Q Z->dz i r s->ax (iO bk aS (au i) r) λr=>bw n b r s<|wO K Z)(cN:∀r s,dz len r s->Q .go r s):ax (items x) λbP=>cE n bk aS b bP r s Q:=ax.of az<|cE.nat dz aU ba cN
theorem Mp{len:Č}{done a':IF Č}{a:Č}(e:List.range len=done++a::a'):a=done.length/\done.length<len:=by have h:=bH (λl:IF Č=>l[done.length]?) e;simp only[o7<|dA _,we,List.getElem?_cons_zero]at h;obtain⟨G,E⟩:=g0.mp h;rw[List.getElem_range]at E;exact⟨E.symm,by simpa using G⟩
theorem cE.pf{bk:ĉ}{aS:IF Č}{b:IF dF}{r:aJ}{Q:cj->aJ->St->Prop}{x:B}{len:Č}(az:items x=some ((List.range len).map au))(fw:Č->(aJ->St->Prop)->Prop)(ba:∀i,i<len->∀K:aJ->St->Prop,fw (i+1) K->fw i λr s=>ax (iO bk aS (au i) r) λr=>bw n b r s<|nb K Q)(cN:fw len (Q .go))(h:∀K:aJ->St->Prop,fw 0 K->K r s):ax (items x) λbP=>cE n bk aS b bP r s Q:=ax.of az<|cE.mp rfl (λdone=>fw done.length) (λdone a a' e K ab=>by obtain⟨rfl,aB⟩:=Mp e;rw[da]at ab;exact ba _ aB K ab) (by rw[t3];exact cN) h
theorem km(len:Č):items (.ez 0 (len:č))=some ((List.range len).map au):=by show some _=some _;congr 1;rw[show((len:č)-0).toNat=len by lia];apply List.map_congr_left;intro i _;show B.int (0+Int.ofNat i)=B.int (i:č);rw[Int.zero_add];rfl
def df (es:IF (Č×č)):IF B:=es.map λe=>.tup [au e.1,.int e.2]
def vz (v:B):IF B:=match v with|.tup [_,m]=>[m]|_=>[]
theorem mg(es:IF (Č×č)):(df es).length=es.length:=by unfold df;rw[bV]
theorem Dm{es:IF (Č×č)}{i:Č}{e:Č×č}(h:es[i]?=some e):∀{s:St},hn s (.lst<|df es) (au i)=some (.tup [au e.1,.int e.2]):=by intro s;show(jX (i:č) (df es).length).bind (λj=>(df es)[j]?)=_;rw[mg,qL (g0.mp h).1];show(es.map _)[i]?=_;rw[gX,h];rfl
theorem B0{es:IF (Č×č)}{i:Č}{e:Č×č}(h:es[i]?=some e):∀{s:St},hn s (.tup<|df es) (au i)=some (.tup [au e.1,.int e.2]):=by intro s;show(jX (i:č) (df es).length).bind (λj=>(df es)[j]?)=_;rw[mg,qL (g0.mp h).1];show(es.map _)[i]?=_;rw[gX,h];rfl
theorem tD(m:č):∀ay:IF č,hN (.int m) (ay.map .int)=some (decide<|m∈ay)
 |[]=>rfl
 |a::r=>by
  show((fj (.int a)<|.int m).bind λx=>(hN (.int m)<|r.map .int).map λb=>x||b)=_;rw[tD m r];show some (decide (a=m)||decide (m∈r))=_;congr 1;by_cases h:a=m
  .simp[h]
  .have:¬m=a:=λe=>h e.symm;simp[h,this]
def iH (p:č->ĉ) (l:IF č):Č->č
 |0=> -1
 |i+1=>(l[i]?).elim (iH p l i) λe=>if p e=true then(i:č)else iH p l i
theorem ih{n:Č}(h:n<=1000):small (n:č)=true:=by unfold small;simp;lia
theorem xQ{n k:Č}(h:n<=k)(e:Nat.ble k a3=true:=by rfl):((n:č)-0).toNat<=a3:=by rw[rZ,su];exact aI h<|aG e
theorem AS{es:IF (Č×č)}{ay:IF č}(aj:es.length<=1000)(q:Q (.int<|iH (λm=>decide<|m∈ay) (es.map (·.2)) es.length) s):bc (n+1) 5 [.lst<|df es,.tup<|ay.map .int] s Q:=by
 k_go;lk;rw[mg];refine⟨rfl,ih aj,xQ aj,cE.pf (len:=es.length) (km _) (λi K=>∀x,K [.val<|.lst<|df es,.val<|.tup<|ay.map .int,.val<|.int<|iH (λm=>decide<|m∈ay) (es.map (·.2)) i,x] s) (λi aB K ab x=>?_) (λx=>by exact q) λK ab=>ab _⟩;have a6:=fq aB;have az:iH (λm=>decide<|m∈ay) (es.map (·.2)) (i+1)=if decide (es[i].2∈ay)=true then(i:č)else iH (λm=>decide<|m∈ay) (es.map (·.2)) i:=by show((es.map (·.2))[i]?).elim _ _=_;rw[gX,a6];rfl
 rw[az]at ab;lk;refine ax.of (Dm a6)<|ax.of (show hD .isin s (.int es[i].2) (.tup<|ay.map .int)=_ from tD _ ay)<|bj.el (λh=>?_) λh=>?_
 .rw[bl<|dK h]at ab;exact ab _
 .rw[bm<|by rw[eC h];exact dT]at ab;exact ab _
abbrev g9:=IF aF×č
def hf(b:Č)(R:IF B)(es:IF (Č×č))(ah:IF g9):Prop:=bW (λe c=>e.2=c.2/\d3.Ty R e.1 c.1/\c.1.length<=b) es ah
theorem hf.bf{b:Č}{R aa:IF B}{c:Č}{es:IF (Č×č)}{ah:IF g9}(h:hf b R es ah)(g:a9 R aa c):hf b aa es ah:=bW.imp (λe c x=>⟨x.1,x.2.1.bf g,x.2.2⟩) h
theorem bW.at{av b9:Type}{P:av->b9->Prop}{l:IF av}{m:IF b9}(x:bW P l m):∀{i:Č} {a:av},l[i]?=some a->∃b,m[i]?=some b/\P a b:=bW.rec (motive:=λl m _=>∀{i:Č} {a:av},l[i]?=some a->∃b,m[i]?=some b/\P a b) (λh=>b0 h) (λx _ ap=>λ{i} _ h=>by
 induction i with
 |zero=>cases h;exact⟨_,rfl,x⟩
 |succ i=>exact ap (i:=i) h) x
def conv (dQ:č) (i:Č) (c:g9):g9:=if c.2=1/\(i:č)<dQ then(c.1++[.b .bB],0)else c
def jt (dQ:č):Č->IF g9->IF g9
 |_,[]=>[]
 |i,c::r=>conv dQ i c::jt dQ (i+1) r
theorem uP(dQ:č)(l:IF g9):∀j:Č,(jt dQ j l).length=l.length:=by
 induction l with
 |nil=>exact λ_=>rfl
 |cons c r ap=>exact λj=>bH Nat.succ<|ap<|j+1
theorem V3(dQ:č)(c:g9)(l:IF g9):∀j:Č,jt dQ j (l++[c])=jt dQ j l++[conv dQ (j+l.length) c]:=by
 induction l with
 |nil=>exact λ_=>rfl
 |cons a r ap=>
  intro j;show conv dQ j a::jt dQ (j+1) (r++[c])=conv dQ j a::(jt dQ (j+1) r++[conv dQ (j+(r.length+1)) c])
  rw[ap,zy,qT]
theorem hf.marks{R:IF B}{b:Č}{es:IF (Č×č)}{ah:IF g9}(h:hf b R es ah):es.map (·.2)=ah.map (·.2):=by
 induction h with
 |nil=>rfl
 |cons x _ ap=>rw[gf,gf,ap,x.1]
theorem tF(es:IF (Č×č))(a:Č)(m:č):df es++[.tup [au a,.int m]]=df (es++[(a,m)]):=by unfold df;simp
def Ea (es:IF (Č×č)) (dQ:č) (l:IF B) (x y z:co):aJ:=[.val<|.ref 1,.val<|.lst<|df es,.val<|.int dQ,.ol l,x,y,z]
theorem Ò{b:Č}{es:IF (Č×č)}{ah:IF g9}(T:Rows S.R)(cf:hf b S.R es ah)(aw:b<=60)(aj:es.length<=100)(aq:S.R.length+es.length<=a3)(q:∀cz aa,a9 S.R aa es.length->hf (b+1) aa cz (jt (iH (λm=>decide<|m∈[(0:č)]) (es.map (·.2)) es.length) 0 ah)->Q (.lst<|df cz) (S.w aa).st):bc (n+6) 6 [.ref 1,.lst<|df es] S.st Q:=by
 generalize VP:iH (λm=>decide<|m∈[(0:č)]) (es.map (·.2)) es.length=dQ at q;k_go;refine AS (ay:=[0]) (aI aj<|aG rfl) ?_;rw[VP];lk;rw[mg];refine⟨rfl,ih<|aI aj<|aG rfl,xQ aj,cE.pf (len:=es.length) (km _) (λi K=>∀aa cz x y z,a9 S.R aa i->hf (b+1) aa cz (jt dQ 0<|ah.take i)->K (Ea es dQ (df cz) x y z) (S.w aa).st) (λi aB K ab aa cz x y z g eM=>?_) (λaa cz x y z g eM=>?_) λK ab=>ab S.R [] _ _ _ (a9.refl T) .nil⟩
 .have a6:=fq aB;obtain⟨c,sc,aN,ty,aE⟩:=cf.at a6;have i':cz.length=i:=by rw[eM.len,uP];exact uS (by rw[<-cf.len];exact kp aB)
  have g':(df cz).length+1<=a3:=by rw[mg,i'];exact aI (c'<|aI (kp aB) aj)<|aG rfl
  obtain⟨ai,a4,wb,sQ⟩:=(ty.bf g).s7 g.ok;have ab:∀bu (t m:č) (dM:Č) a x y z,t=dM->a9 aa bu 1->(a.2=m/\d3.Ty bu dM a.1/\a.1.length<=b+1)->conv dQ i c=a->K (Ea es dQ (df cz++[.tup [.int t,.int m]]) x y z) (S.w bu).st:=λbu t m dM a x y z qM bh h e=>by rw[qM,tF];refine ab bu _ x y z (g.trans bh) ?_;rw[zt,sc];show hf _ _ _<|jt dQ 0<|ah.take i++[c];rw[V3,iJ,uS (by rw[<-cf.len];exact kp aB),e];exact bW.snoc ⟨h.1.symm,h.2⟩<|eM.bf bh
  have keep:∀x y z,¬(c.2=1/\(i:č)<dQ)->K (Ea es dQ (df cz++[.tup [au es[i].1,.int es[i].2]]) x y z) (S.w aa).st:=λx y z h=>ab aa _ _ _ c x y z rfl (a9.refl g.ok) ⟨aN.symm,ty.bf g,iP aE⟩<|bm h;lk;refine ax.of (Dm a6)<|bj.el (λG=>bj.el (λE=>?_) λE=>?_) λG=>bj.fp G ?_
  .refine U7 (S:=S.w aa) g.ok a4 (by lia) (aI (c' g.len)<|aI (gu aB S.R.length) aq) λdM dO iT dW iu m=>⟨g',?_⟩;exact ab iT _ 0 dM (c.1++[.b .bB],0) _ _ _ rfl dW ⟨rfl,⟨dO,iu,(dd.Is.bB (Z:=d3) g.ok wb m).bf dW⟩,by rw[da];exact c' aE⟩ (by unfold conv;rw[bl ⟨aN▸G,E⟩])
  .exact⟨g',keep _ _ _ λh=>E h.2⟩
  .exact⟨g',keep _ _ _ λh=>G<|by rw[aN];exact h.1⟩
 .rw[r8<|fQ cf.len.symm]at eM;exact q cz aa g eM
def kn (l:IF č):Č->č
 |0=> -1
 |i+1=>(l[i]?).elim (kn l i) λm=>if kn l i<0/\m=2 then(i:č)else kn l i
theorem Rl{p:č->ĉ}{l:IF č}(h:∀m∈l,p m=false)(i:Č):iH p l i= -1:=by
 induction i with
 |zero=>rfl
 |succ i ap=>
  show(l[i]?).elim _ _=_;induction aN:l[i]? using Option.casesOn with
  |none=>exact ap
  |some m=>exact(bm<|by rw[h m<|h' aN];exact dT).trans ap
theorem C1(aV:č)(es:IF (Č×č)):im (.tup [.int 12,.tup<|df es,.int aV])=true:=lh (w7 λ_=>rfl) rfl
theorem Wf{es:IF (Č×č)}{dQ:č}(aj:es.length<=100)(h:kn (es.map (·.2)) es.length<0\/dQ<=kn (es.map (·.2)) es.length)(q:Q (.lst<|df es) s):bc (n+1) 7 [.ref 1,.lst<|df es,.int dQ] s Q:=by
 k_go;lk;rw[mg];refine⟨rfl,ih<|aI aj<|aG rfl,xQ aj,cE.pf (len:=es.length) (km _) (λi K=>∀x,K [.val<|.ref 1,.val<|.lst<|df es,.val<|.int dQ,.val<|.int<|kn (es.map (·.2)) i,x,.un,.un,.un] s) (λi aB K ab x=>?_) (λx=>?_) λK ab=>ab _⟩
 .have a6:=fq aB;have az:kn (es.map (·.2)) (i+1)=if kn (es.map (·.2)) i<0/\es[i].2=2 then(i:č)else kn (es.map (·.2)) i:=by show((es.map (·.2))[i]?).elim _ _=_;rw[gX,a6];rfl
  rw[az]at ab;refine bj.el (λG=>ax.of (Dm a6)<|bj.el (λE=>?_) λE=>?_) λG=>bj.fp G ?_
  .rw[bl ⟨G,E⟩]at ab;exact ab _
  .rw[bm λh=>E h.2]at ab;exact ab _
  .rw[bm λh=>G h.1]at ab;exact ab _
 .exact bj.el (λG=>bj.pK G q) λG=>bj.pK (h.resolve_left G) q
theorem Sx{b:Č}{es:IF (Č×č)}{ah:IF g9}{aV:č}{M:IF č}(T:Rows S.R)(cf:hf b S.R es ah)(aw:b<=60)(aj:es.length<=100)(aq:S.R.length+es.length+1<=a3)(aC:∀m∈es.map (·.2),m≠3)(eO:M=(jt (iH (λm=>decide<|m∈[(0:č)]) (es.map (·.2)) es.length) 0 ah).map (·.2))(E:M≠[2])(bn:kn M es.length<0\/iH (λm=>decide<|m∈[(2:č),1]) (es.map (·.2)) es.length<=kn M es.length)(q:∀t cz aa,a9 S.R aa (es.length+1)->hf (b+1) aa cz (jt (iH (λm=>decide<|m∈[(0:č)]) (es.map (·.2)) es.length) 0 ah)->aa[t]?=some (.tup [.int 12,.tup<|df cz,.int aV])->Q (au t) (S.w aa).st):bc (n+7) 8 [.ref 1,.tup<|df es,.int aV] S.st Q:=by
 k_go;refine dj.comp rfl<|ff.mp (all:=es) (f:=λe=>.tup [au e.1,.int e.2]) rfl (λdone K=>K (df done) S.st) (λdone e a' ag K ab=>eR.mk<|by rw[<-tF]at ab;exact ab) ?_ λK ab=>ab;refine AS (ay:=[3]) (aI aj<|aG rfl) ?_;rw[Rl<|λm aN=>eC λh=>aC m aN<|cU.mp h];refine AS (ay:=[2,1]) (aI aj<|aG rfl)<|Ò T cf aw aj (lj aq) λcz aa g h5=>?_;have yL:cz.length=es.length:=by rw[h5.len,uP,cf.len]
 rw[eO,<-h5.marks,<-yL]at bn;rw[eO,<-h5.marks]at E;refine Wf (aI (fQ yL) aj) (yL▸bn) ?_;have fin:bc (n+6) 1 [.ref 1,.tup [.int 12,.tup<|df cz,.int aV]] (S.w aa).st Q:=e6 (S:=S.w aa) g.ok (C1 aV cz) (aI (c' g.len) aq) λt iT dW e=>q t cz iT (g.trans dW) (h5.bf dW) e;clear bn eO cf h5 yL q g aC;induction cz using List.casesOn with
 |nil=>exact fin
 |cons a r=>induction r using List.casesOn with
  |nil=>exact bj.fp (λh=>E<|by rw[gf,show a.2=2 from h];rfl) fin
  |cons c r=>exact fin
def cb:IF č->Č
 |[]=>0
 |m::r=>if m=2 then 0 else cb r+1
theorem Av{l:IF č}:∀{i:Č} {m:č},l[i]?=some m->i<cb l->m≠2:=by
 induction l with
 |nil=>exact λh=>nomatch h
 |cons a r ap=>
  intro i m h aj;replace aj:i<(if a=2 then 0 else cb r+1):=aj;by_cases c:a=2
  .rw[bl c]at aj;exact absurd aj<|xd _
  .rw[bm c]at aj;induction i using Nat.casesOn with
   |zero=>exact cV h▸c
   |succ i=>exact ap (i:=i) h<|Nat.lt_of_succ_lt_succ aj
theorem Y5{l:IF č}:∀{i:Č},l[i]?=some 2->i<=cb l->cb l=i:=by
 induction l with
 |nil=>exact λh=>nomatch h
 |cons a r ap=>
  intro i h aj;induction i using Nat.casesOn with
  |zero=>exact bl<|cV h
  |succ i=>
   replace aj:i+1<=(if a=2 then 0 else cb r+1):=aj;show(if a=2 then 0 else cb r+1)=i+1;by_cases c:a=2
   .rw[bl c]at aj;exact absurd aj<|Nat.not_succ_le_zero _
   .rw[bm c]at aj⊢;exact bH Nat.succ<|ap (i:=i) h<|wg aj
theorem XC{l:IF č}:∀{i:Č} {m:č},l[i]?=some m->m≠2->i<=cb l->i+1<=cb l:=by
 induction l with
 |nil=>exact λh=>nomatch h
 |cons a r ap=>
  intro i m h n aj;show i+1<=(if a=2 then 0 else cb r+1);induction i using Nat.casesOn with
  |zero=>rw[bm<|cV h▸n];exact c'<|f_ _
  |succ i=>
   replace aj:i+1<=(if a=2 then 0 else cb r+1):=aj;by_cases c:a=2
   .rw[bl c]at aj;exact absurd aj<|Nat.not_succ_le_zero _
   .rw[bm c]at aj⊢;exact c'<|ap (i:=i) h n<|wg aj
theorem w5(l:IF č):cb l<=l.length:=by
 induction l with
 |nil=>exact dA _
 |cons m r ap=>
  show(if m=2 then 0 else cb r+1)<=r.length+1;by_cases c:m=2
  .rw[bl c];exact f_ _
  .rw[bm c];exact c' ap
theorem yq:∀i,i<100->(dn<|Int.ofNat i).length<=10:=by decide+kernel
def kM (Y:č) (F:bv->IF aF) (eB i:Č) (m:č):g9:=if i<eB then(fC Y (decide<|m=1)<|F<|.txt<|dn i,if fN Y (decide<|m=1)=true then 1 else 0)else(fK Y<|F .N,if m=2 then 2 else 0)
def mx (Y:č) (F:bv->IF aF) (eB:Č):Č->IF č->IF g9
 |_,[]=>[]
 |i,m::r=>kM Y F eB i m::mx Y F eB (i+1) r
theorem FC(Y:č)(F:bv->IF aF)(eB:Č)(m:č)(l:IF č):∀j:Č,mx Y F eB j (l++[m])=mx Y F eB j l++[kM Y F eB (j+l.length) m]:=by
 induction l with
 |nil=>exact λ_=>rfl
 |cons a r ap=>exact λj=>(bH (List.cons _)<|ap<|j+1).trans (by rw[nl,rn];rfl)
theorem vG(Y:č)(F:bv->IF aF)(eB:Č)(l:IF č):∀j:Č,(mx Y F eB j l).length=l.length:=by
 induction l with
 |nil=>exact λ_=>rfl
 |cons a r ap=>exact λj=>bH Nat.succ<|ap<|j+1
theorem Tf(Y:č)(F:bv->IF aF)(eB:Č)(l:IF č):∀j:Č,∀m∈(mx Y F eB j l).map (·.2),m≠3:=by
 have two:∀{p:Prop} [Decidable p] {x y:č},x≠3->y≠3->(if p then x else y)≠3:=λ{p} _ x y az a1=>by
  by_cases h:p
  .rw[bl h];exact az
  .rw[bm h];exact a1
 induction l with
 |nil=>exact λ_ _ h=>nomatch h
 |cons a r ap=>
  intro j m h;cases h with
  |head=>
   show(kM Y F eB j a).2≠3;unfold kM;by_cases h:j<eB
   .rw[bl h];exact two (by decide) (by decide)
   .rw[bm h];exact two (by decide) (by decide)
  |tail _ h=>exact ap _ m h
theorem ww(Y:č)(fO:ĉ)(K:IF aF):(fC Y fO K).length<=K.length:=by
 have:=mB (λa=> !decide (a=aF.b aM.bB)) K;unfold fC a';split
 .split
  .exact dA _
  .exact this
 .split
  .exact this
  .exact dA _
theorem CQ(Y:č)(K:IF aF):(fK Y K).length<=K.length+1:=by
 have:=mB (λa=> !decide (a=aF.b aM.bB)) K;unfold fK a';split
 .simp
 .split
  .exact iP ‹_›
  .exact kc _
def Ms (es:IF (Č×č)) (aV:č) (x:co):aJ:=[.val<|.tup [.int 12,.tup<|df es,.int aV],x]
theorem Tj{es:IF (Č×č)}{aV:č}(aj:es.length<=100)(aN:∀m∈es.map (·.2),m=0\/m=1\/m=2)(q:Q (au<|cb<|es.map (·.2)) s):bc (n+1) 29 [.tup [.int 12,.tup<|df es,.int aV]] s Q:=by
 k_go;lk;rw[mg];refine⟨rfl,ih<|fY ‹_›,(by rw[rZ,su];exact aI aj<|aG rfl),?_⟩;refine cE.pf (len:=es.length) (km _) (λi K=>i<=cb (es.map (·.2))->∀x,K (Ms es aV x) s) (λi aB K ab a7 x=>?_) (λa7 x=>?_) λK ab=>ab (f_ _) _
 .have a6:es[i]?=some es[i]:=fq aB;have n9:(es.map (·.2))[i]?=some es[i].2:=by rw[gX,a6];rfl
  lk;refine ax.of (B0 a6) ?_;by_cases E:es[i].2=2
  .refine bj.mh (by show(decide (2=es[i].2)||_)=true;rw[dK E.symm];rfl) ?_;rw[E]at n9;rw[Y5 n9 a7]at q;lk;exact q
  .have aC:¬3=es[i].2:=λq=>by rcases aN _ (h' n9)with h|h|h<;>rw[h]at q<;>exact absurd q (by decide)
   refine bj.ir (by show(decide (2=es[i].2)||(decide (3=es[i].2)||false))=false;rw[eC λq=>E q.symm,eC aC];rfl) ?_;lk;exact ab (XC n9 E a7) _
 .have:=w5<|es.map (·.2);rw[bV]at this;rw[vw this a7]at q;lk;rw[mg];exact q
def Gm (row:B) (ch:IF (Č×č)) (aV:č) (es:IF B) (x y z:co):aJ:=[.val<|.ref 10,.val row,.val<|.tup [.int 12,.tup<|df ch,.int aV],.ol es,.val<|au<|cb<|ch.map (·.2),x,y,z]
theorem V0{t:Č}{F:bv->IF aF}{cD nm Y aH aV:č}{ch:IF (Č×č)}{aT:IF g9}{M:IF č}(T:Rows S.R)(h:gb S.R t F)(aA:Y=0\/Y=1\/Y=2)(di:aH=0\/aH=1\/aH=2)(aj:ch.length<=20)(aN:∀m∈ch.map (·.2),m=0\/m=1\/m=2)(aq:S.R.length+250<=a3)(e1:aT=mx Y F (cb<|ch.map (·.2)) 0 (ch.map (·.2)))(eO:M=(jt (iH (λm=>decide<|m∈[(0:č)]) (aT.map (·.2)) ch.length) 0 aT).map (·.2))(E:M≠[2])(bn:kn M ch.length<0\/iH (λm=>decide<|m∈[(2:č),1]) (aT.map (·.2)) ch.length<=kn M ch.length)(q:∀u cz aa,a9 S.R aa 250->hf 15 aa cz (jt (iH (λm=>decide<|m∈[(0:č)]) (aT.map (·.2)) ch.length) 0 aT)->aa[u]?=some (.tup [.int 12,.tup<|df cz,.int<|if aH=1 then 1 else if aH=2 then 0 else aV])->Q (au u) (S.w aa).st):bc (n+19) 60 [.ref 10,fT cD nm t Y aH,.tup [.int 12,.tup<|df ch,.int aV]] S.st Q:=by
 have kW:=λkey=>h.len key;have fm:=T.at (t:=7) rfl;k_go;refine Tj (aI aj<|aG rfl) aN ?_;lk;rw[mg];refine⟨rfl,ih<|fY ‹_›,(by rw[rZ,su];exact aI aj<|aG rfl),?_⟩;refine cE.pf (len:=ch.length) (km _) (λi K=>∀aa cz x y z,a9 S.R aa (9*i)->hf 14 aa cz (mx Y F (cb<|ch.map (·.2)) 0<|(ch.map (·.2)).take i)->K (Gm (fT cD nm t Y aH) ch aV (df cz) x y z) (S.w aa).st) (λi aB K ab aa cz x y z g eM=>?_) (λaa cz x y z g eM=>?_) λK ab=>ab S.R [] _ _ _ (a9.refl T) .nil
 .have a6:ch[i]?=some ch[i]:=fq aB;have n9:(ch.map (·.2))[i]?=some ch[i].2:=by rw[gX,a6];rfl
  have oI:(ch.map (·.2)).take (i+1)=(ch.map (·.2)).take i++[ch[i].2]:=by rw[zt,n9];rfl
  have Df:((ch.map (·.2)).take i).length=i:=uS (by rw[bV];exact kp aB);have pW:=aI (kp aB) aj;have i':cz.length=i:=by have:=eM.len;rw[vG,Df]at this;exact this
  have g':(df cz).length+1<=a3:=by rw[mg,i'];exact aI (c' pW)<|aG rfl
  have sa:a9 S.R aa 180:=g.le<|hh 9 pW;lk;refine ax.of (B0 a6)<|bj.el (λG=>?_) λG=>?_
  .have l4:i<cb (ch.map (·.2)):=iG.mp G;have lq:=Av n9 l4;lk;refine OO (S:=S.w aa) (mc:=i) g.ok (h.bf g) aA (aN ch[i].2<|h' n9) (ih<|aI pW<|aG rfl) (aI (yq i<|hH pW<|aG rfl)<|aG rfl) (sa.room aq<|aG rfl) λu iT dW ty=>?_;rw[bm lq]at ty;refine⟨g',?_⟩;have ab:=ab iT (cz++[(u,if fN Y (decide<|ch[i].2=1)=true then 1 else 0)]) (.val<|au i) (.val<|.tup [au ch[i].1,.int ch[i].2]) z (by rw[xb];exact g.trans dW) (by rw[oI,FC,iJ,Df];refine bW.snoc ?_<|eM.bf dW;unfold kM;rw[bl l4];exact⟨rfl,ty,aI (ww _ _ _)<|aI (kW _)<|aG rfl⟩);rw[<-tF]at ab;lk;rw[bm lq];exact ab
  .have l4:¬i<cb (ch.map (·.2)):=λx=>G<|iG.mpr x;refine wM (S:=S.w aa) (k:=7) (key:=.N) g.ok (h.bf g) rfl (sa.room aq<|aG rfl) λu bu bh ty=>CN (S:=S.w bu) bh.ok ty aA (hH (kW _)<|jN rfl) ((sa.trans bh).room aq<|aG rfl) λv dZ cL vO=>?_;have ab:∀iW:č,iW=(if ch[i].2=2 then 2 else 0)->K (Gm (fT cD nm t Y aH) ch aV (df cz++[.tup [au v,.int iW]]) (.val<|au i) (.val<|.tup [au ch[i].1,.int ch[i].2])<|.val<|au v) (S.w dZ).st:=λiW kQ=>by rw[tF];refine ab dZ _ _ _ _ (by rw[xb];exact(((g.trans bh).trans cL).le<|by show 9*i+8<=9*i+9;exact kc _)) ?_;rw[oI,FC,iJ,Df];refine bW.snoc ?_<|(eM.bf bh).bf cL;unfold kM;rw[bm l4];exact⟨kQ,vO,aI (CQ _ _)<|c'<|kW _⟩
   refine bj.el (λE=>?_) λE=>?_
   .refine⟨g',?_⟩;lk;exact ab 2 (by rw[bl E])
   .refine⟨g',?_⟩;lk;exact ab 0 (by rw[bm E])
 .rw[r8<|by rw[bV];exact dA _]at eM;have sa:a9 S.R aa 180:=g.le<|hh 9 aj;rw[<-e1]at eM;have KY:=eM.marks;have i':cz.length=ch.length:=by rw[eM.len,e1,vG,bV]
  have z9:=aI (fQ i') aj;rw[<-KY,<-i']at eO bn q;refine yR di<|Sx (S:=S.w aa) g.ok eM (aG rfl) (aI z9<|aG rfl) (aI (fL (gG sa.len z9) 1)<|aI (fQ<|by rfl)<|aI (gu (aG rfl:201<=250) _) aq) (by rw[KY,e1];exact Tf _ _ _ _ _) eO E bn λu LI bu bh sk a8=>?_;exact q u LI bu ((sa.trans bh).le<|aI (gu (c' z9) _)<|aG rfl) sk a8
inductive hR
 |own
 |key
 |fix (K:List aM)
 |tab (d1 ey d0:List aM)
def hR.ctorIdx (x:hR):Č:=hR.casesOn x 0 1 (λ_=>2)<|λ_ _ _=>3
structure cJ where
 iq:hR
 e4:Nat
def hR.num:hR->č
 |.own=>0
 |.key=>1
 |.fix _=>2
 |.tab _ _ _=>3
def hR.at:hR->bv->IF aM
 |.own,k=>[.ao k]
 |.key,k=>[k.tv]
 |.fix K,_=>K
 |.tab d1 ey d0,k=>nh d1 ey d0 k
def gL (e4:Č) (K:IF aM):IF aF:=(if e4%2=1 then [.arr K]else K.map .b)++(if 1<e4 then [.b .bB]else [])
def cJ.at (p:cJ) (k:bv):IF aF:=gL p.e4<|p.iq.at k
def hR.fixed:hR->IF B
 |.fix K=>K.map aM.aW
 |_=>[]
def hR.table:hR->IF (B×B)
 |.tab d1 ey d0=>[(.str [48],.lst<|d1.map aM.aW),(.str [97],.lst<|ey.map aM.aW),(.str [42],.lst<|d0.map aM.aW)]
 |_=>[]
def cJ.aW (p:cJ):B:=.tup [.int p.iq.num,.int p.e4,.lst p.iq.fixed,.bb p.iq.table]
structure cJ.ok(p:cJ):Prop where
 e4:p.e4<4
 len:∀k,(p.iq.at k).length<=12
theorem bv.M0(k:bv):k.tv.aW=k.aW:=by induction k<;>rfl
theorem lg{a b:IF B}(h:a.length+b.length<=1000):Internal.bin .add (.lst a) (.lst b)=some (.lst<|a++b):=by show i7 (a.length+b.length) (B.lst<|a++b)=_;unfold i7;rw[bl<|by unfold a3;exact fY ‹_›]
theorem H2{av:Type}(x:av):∀n,nK n [x]=List.replicate n x
 |0=>rfl
 |n+1=>by show x::nK n [x]=_;rw[H2 x n];rfl
theorem BP{o:Č}(h:o<=1000)(x:B):Internal.bin .mul (.lst [x]) (au o)=some (.lst<|List.replicate o x):=by show(if small (o:č)then i7 (Int.toNat (o:č)*1) (B.lst<|nK (Int.toNat (o:č)) [x])else none)=_;rw[ih h,su,H2];unfold i7;rw[bl (by rfl),bl<|by unfold a3;lia]
theorem Y9{t src:Č}{F:bv->IF aF}{cD nm Y aH:č}{e:Č}{aV:č}(T:Rows S.R)(h:gb S.R t F)(aA:Y=0\/Y=1\/Y=2)(di:aH=0\/aH=1\/aH=2)(aK:S.R[src]?=some (hX e aV))(aq:S.R.length+9<=a3)(q:∀u x aa,a9 S.R aa 9->d3.Ty aa x (fK Y<|F .N)->aa[u]?=some (hX x<|if aH=1 then 1 else if aH=2 then 0 else aV)->Q (au u) (S.w aa).st):bc (n+17) 55 [.ref 10,fT cD nm t Y aH,au src,.bool false] S.st Q:=by have kW:=h.len .N;k_go;lk;refine wM (k:=7) (key:=.N) T h rfl (hb ‹_›) λu aa g ty=>?_;have:=g.len;refine CN (S:=S.w aa) g.ok ty aA (Ac ‹_›) (by show aa.length+2<=a3;lia) λx bu bh D_=>?_;have:=bh.len;have c0:(S.w aa).R.length=aa.length:=rfl;refine yR di ?_;k_go;refine e6 (S:=S.w bu) bh.ok rfl (by show bu.length+1<=a3;lia) λv dZ cL c7=>?_;exact q v x dZ ((g.trans bh).trans cL) (D_.bf cL) c7
theorem QM(x:bx)(d1 ey d0:IF aM):hD .isin s (.str x) (.bb<|hR.table<|.tab d1 ey d0)=some (decide ([48]=x)||(decide ([97]=x)||decide ([42]=x))):=by
 show(if ep (.str x) (hR.table<|.tab d1 ey d0)then(fv (.str x)<|hR.table<|.tab d1 ey d0).map (·.isSome)else none)=_;rw[show ep (.str x) (hR.table<|.tab d1 ey d0)=true from rfl,bl rfl];show(match(some (decide<|[48]=x):Ċ ĉ)with|some true=>some (some<|B.lst<|d1.map aM.aW)|some false=>(match(some (decide<|[97]=x):Ċ ĉ)with|some true=>some (some<|B.lst<|ey.map aM.aW)|some false=>(match(some (decide<|[42]=x):Ċ ĉ)with|some true=>some (some<|B.lst<|d0.map aM.aW)|some false=>some none|none=>none)|none=>none)|none=>none:Ċ (Ċ B)).map Option.isSome=_;cases decide ([48]=x)with
 |true=>rfl
 |false=>
  cases decide ([97]=x)with
  |true=>rfl
  |false=>cases decide ([42]=x)<;>rfl
theorem Ra(K:IF aM):(gL 0 K).map aF.aW=K.map aM.aW/\(gL 1 K).map aF.aW=[.tup [.str [91],.tup<|K.map aM.aW]]/\(gL 2 K).map aF.aW=K.map aM.aW++[.tup [.str [119],.str [117]]]/\(gL 3 K).map aF.aW=[.tup [.str [91],.tup<|K.map aM.aW]]++[.tup [.str [119],.str [117]]]:=by
 have Ih:∀K:IF aM,(K.map aF.b).map aF.aW=K.map aM.aW:=λK=>by rw[f2];rfl
 refine⟨?_,rfl,?_,rfl⟩
 .show(K.map aF.b++[]).map aF.aW=_;rw[gN,Ih]
 .show(K.map aF.b++[aF.b .bB]).map aF.aW=_;rw[cZ,Ih];rfl
theorem RW{K:IF aM}{aP:IF B}{e4 m:Č}{i1 eZ fP kv oH:co}(aq:e4<4)(aj:K.length<=12)(cr:aP=K.map aM.aW)(q:Q (.lst<|(gL e4 K).map aF.aW) s):bw m (Dd.body.drop 5) [i1,eZ,fP,.val<|.int e4,kv,oH,.val<|.lst aP] s (λcM _ ar=>Q cM.val ar):=by
 obtain⟨cw,cW,MU,LN⟩:=Ra K;rw[cr];rcases yg aq with e|e|e|e<;>rw[e]at q⊢
 .rw[cw]at q;exact q
 .rw[cW]at q;exact q
 .rw[MU]at q;exact ax.of (lg<|aI (c'<|aI (fQ (bV ..)) aj)<|aG rfl) q
 .rw[LN]at q;exact q
theorem wh{p:cJ}{k:bv}(ae:p.ok)(q:Q (.lst<|(p.at k).map aF.aW) s):bc (n+1) 80 [p.aW,k.aW] s Q:=by
 obtain⟨iq,e4⟩:=p;have step:∀{aP:IF B} {K:IF aM} {m:Č} {i1 eZ fP kv oH:co},K=iq.at k->aP=K.map aM.aW->bw m (Dd.body.drop 5) [i1,eZ,fP,.val<|.int e4,kv,oH,.val<|.lst aP] s (λcM _ ar=>Q cM.val ar):=λe cr=>RW ae.e4 (ae.len k) (by rw[cr,e]) q;clear q ae;k_go;induction iq with
 |own=>exact step rfl rfl
 |key=>exact step rfl<|bH (λv=>[v]) k.M0.symm
 |fix K=>exact step rfl rfl
 |tab d1 ey d0=>
  induction k with
  |S=>exact step (K:=d0) rfl rfl
  |N=>exact step (K:=d0) rfl rfl
  |txt x=>
   by_cases G:[48]=x
   .subst G;exact step (K:=d1) rfl rfl
   .by_cases E:[97]=x
    .subst E;exact step (K:=ey) rfl rfl
    .have ab:d0=(hR.tab d1 ey d0).at (.txt x):=((bm G).trans<|bm E).symm;by_cases aC:[42]=x
     .subst aC;exact step ab rfl
     .exact ax.of (QM x d1 ey d0)<|bj.ir (by rw[eC G,eC E,eC aC];rfl)<|step ab rfl
noncomputable abbrev nd:B:=.tup [.str [119],.str [117]]
theorem vE(a:aF):fj a.aW nd=some (decide<|a=.b .bB):=by
 induction a with
 |arr K=>show some (decide ([91]=[119])&&(false&&true))=_;simp
 |b a=>
  induction a with
  |txt x=>show some (decide (([116]:bx)=[119])&&(decide (x=[117])&&true))=_;simp
  |num i=>show some (decide (([35]:bx)=[119])&&(false&&true))=_;simp
  |ao k=>induction k<;>(show some (decide (([84]:bx)=[119])&&(false&&true))=_;simp)
  |_=>rfl
theorem K0(a:aF):hD .ne s a.aW nd=some (!decide (a=.b .bB)):=by show(fj a.aW nd).map (!·)=_;rw[vE];rfl
theorem Hs(K:IF aF):(K.map aF.aW).flatMap (λv=>if(fj v nd)=some true then []else [v])=(a' K).map aF.aW:=by
 induction K with
 |nil=>rfl
 |cons a K ap=>
  rw[gf,qm,ap,vE];unfold a';rw[hQ];by_cases h:a=.b .bB
  .simp[h]
  .simp[h]
theorem C0{K:IF aF}{Y:č}{fO:ĉ}(aA:Y=0\/Y=1\/Y=2)(q:Q (.tup [.lst<|(fC Y fO K).map aF.aW,.int<|if fN Y fO=true then 1 else 0]) s):bc (n+1) 85 [.lst<|K.map aF.aW,.int Y,.int<|if fO=true then 1 else 0] s Q:=by
 k_go;refine dj.comp rfl<|pd (f:=λv=>if(fj v nd)=some true then []else [v]) rfl ?_ ?_
 .intro v af bT a_;obtain⟨a,ak,rfl⟩:=dq.mp af;clear af;refine eR.mk ?_;lk;refine ax.of (K0 a) ?_;by_cases h:a=.b .bB
  .rw[bl<|by rw[vE,dK h]]at a_;exact bj.ir (by simp[h]) a_
  .rw[bm<|by rw[vE,eC h];simp]at a_;exact bj.mh (by simp[h]) a_
 .rw[Hs];have fin:∀(We:ĉ),We=fO->True:=λ_ _=>trivial;rcases aA with rfl|rfl|rfl<;>induction fO
  .have e:fC 0 false K=K:=rfl;rw[e]at q;exact q
  .induction bn:a' K with
   |nil=>
    have e:fC 0 true K=K:=by show(if a' K=[]then K else a' K)=K;rw[bl bn]
    rw[e]at q;exact q
   |cons a r=>
    have e:fC 0 true K=a::r:=by show(if a' K=[]then K else a' K)=_;rw[bm (by rw[bn];simp),bn]
    rw[e]at q;exact q
  .induction bn:a' K with
   |nil=>
    have e:fC 1 false K=K:=by show(if a' K=[]then K else a' K)=K;rw[bl bn]
    rw[e]at q;exact q
   |cons a r=>
    have e:fC 1 false K=a::r:=by show(if a' K=[]then K else a' K)=_;rw[bm (by rw[bn];simp),bn]
    rw[e]at q;exact q
  .induction bn:a' K with
   |nil=>
    have e:fC 1 true K=K:=by show(if a' K=[]then K else a' K)=K;rw[bl bn]
    rw[e]at q;exact q
   |cons a r=>
    have e:fC 1 true K=a::r:=by show(if a' K=[]then K else a' K)=_;rw[bm (by rw[bn];simp),bn]
    rw[e]at q;exact q
  .have e:fC 2 false K=K:=rfl;rw[e]at q;exact q
  .have e:fC 2 true K=a' K:=rfl;rw[e]at q;exact q
noncomputable abbrev dy.go (S:dy) (d:Č):dy:={S with d:=d}
structure oE(l:List B):Prop where
 ne:l≠[]
 int:∀v∈l,∃i,v=.int i
 len:l.length<=1000
theorem Hy{n:Č}(h:n<=536870912):small (n:č)=true:=lh (dK<|uO (by decide)<|nw n)<|dK<|v_.mpr h
theorem hx{m:č}(dc:oE S.nums)(bg:S.d<=100000)(aN:0<m)(q:∀v:Č,(v:č)<m->Q (au v) (S.go<|S.d+1).st):bc (n+1) 73 [.ref 0,.int m] S.st Q:=by
 have aj:0<S.nums.length:=List.length_pos_iff.mpr dc.ne;have cT:=sg S.d aj;obtain⟨i,aB⟩:=dc.int _<|w8 cT;have oS:S.d/S.nums.length<=S.d:=Nat.div_le_self _ _;k_go;refine ax.of (show Internal.bin .mod (.int S.d) (.int (S.nums.length:č))=some (.int ((S.d%S.nums.length:Č):č))from ?_) ?_
 .show(if(S.nums.length:č)=0 then none else some (B.int<|Int.fmod S.d S.nums.length))=_;rw[bm<|Int.ofNat_ne_zero.mpr<|ze aj,(Int.ofNat_fmod _ _).symm]
 refine ax.of (show hn (S.go<|S.d+1).st (.lst S.nums) (au<|S.d%S.nums.length)=some (.int i)from ?_) ?_
 .show(jX _ S.nums.length).bind (λj=>S.nums[j]?)=_;rw[qL cT];show S.nums[S.d%S.nums.length]?=_;rw[fq cT,aB]
 refine ax.of (show Internal.bin .fdiv (.int S.d) (.int (S.nums.length:č))=some (.int ((S.d/S.nums.length:Č):č))from ?_) ?_
 .show(if(S.nums.length:č)≠0/\(small S.d&&small S.nums.length)=true then some (B.int<|Int.fdiv S.d S.nums.length)else none)=_;rw[bl ⟨Int.ofNat_ne_zero.mpr<|ze aj,lh (Hy<|aI bg<|aG rfl)<|Hy<|aI dc.len<|aG rfl⟩,(Int.ofNat_fdiv _ _).symm]
 refine ax.of (show Internal.bin .mul (.int 7) (.int ((S.d/S.nums.length:Č):č))=some (.int<|7*((S.d/S.nums.length:Č):č))from ?_) ?_
 .show(if(small 7&&small _)=true then some (B.int<|7*((S.d/S.nums.length:Č):č))else none)=_;rw[bl];generalize S.d/S.nums.length=z at*;unfold small;simp only[e2,jL];lia
 refine ax.of (show Internal.bin .mod (.int<|i+7*((S.d/S.nums.length:Č):č)) (.int m)=some (.int<|Int.fmod (i+7*((S.d/S.nums.length:Č):č)) m)from ?_) ?_
 .show(if m=0 then none else some _)=_;rw[bm<|by lia]
 have aU:=Int.fmod_nonneg_of_pos (i+7*((S.d/S.nums.length:Č):č)) aN;obtain⟨v,af⟩:=xC aU;clear aU;have:=q v (by rw[<-af];exact(Int.fmod_lt_of_pos (i+7*((S.d/S.nums.length:Č):č)) aN));rw[<-show(B.int<|Int.fmod (i+7*((S.d/S.nums.length:Č):č)) m)=au v from bH B.int af]at this;exact this
def q1:IF aM:=[.txt [97],.S,.bB,.num 0,.N,.nul,.txt [98],.num 1]
theorem aM.fy(a:aM):Internal.fy 16 a.aW=true:=by
 induction a with
 |ao k=>induction k<;>rfl
 |_=>rfl
theorem T3(a:aM)(K:IF aM):∃b,hN a.aW (K.map aM.aW)=some b:=by
 rcases DS a.fy (l:=K.map aM.aW) (λx az=>by obtain⟨b,_,rfl⟩:=dq.mp az;clear az;exact b.fy)with⟨_,e⟩|⟨_,e⟩
 .exact⟨true,e⟩
 .exact⟨false,e⟩
structure Drawn(K:List aM):Prop where
 len:K.length<=3
 oL:∀a∈K,a∈q1
theorem rV(dc:oE S.nums)(bg:S.d<=90000)(q:∀K d,S.d<=d->d<=S.d+4->Drawn K->Q (.lst<|K.map aM.aW) (S.go d).st):bc (n+2) 74 [.ref 0] S.st Q:=by
 k_go;refine hx dc (fY ‹_›) (by lia) λv af=>?_;obtain⟨c,JZ,aq⟩:=uz (f:=au) (l:=[1,2,3,1,2,0])<|gO af;replace JZ:c<=3:=(by decide:∀c∈[1,2,3,1,2,0],c<=3) c JZ;refine ax.of (aq _)<|⟨rfl,ih<|fY ‹_›,?_,?_⟩
 .rw[show((c:č)-0).toNat=c by lia];unfold a3;exact fY ‹_›
 .refine cE.ez (len:=c) (λi r ar=>gV λK d x y=>rN (ar=(S.go d).st) (S.d<=d) (d<=S.d+1+i) (r=[.val<|.ref 0,.val<|.lst<|q1.map aM.aW,.ol<|(K:IF aM).map aM.aW,x,y]) (K.length<=i) (∀a∈K,a∈q1)) (km _) ⟨[],S.d+1,_,_,rfl,kc _,dA _,rfl,by simp,by simp⟩ ?_ ?_
  .rintro i aB r ar _ _ _ _⟨K,d,x,y,rfl,aU,G,rfl,E,aC⟩;refine hx (S:=S.go d) dc (by show d<=100000;lia) (by lia) λv af=>?_;obtain⟨a,ak,Sn⟩:=uz (f:=aM.aW) (l:=q1)<|gO af;refine ax.of (Sn _) ?_;obtain⟨b,aw⟩:=T3 a K;refine ax.of (show hD .f3 _ a.aW (.lst<|K.map aM.aW)=some (!b)from by show(hN a.aW<|K.map aM.aW).map (!·)=_;rw[aw];rfl) ?_;induction b with
   |true=>lk;exact⟨K,d+1,_,_,rfl,by lia,by lia,rfl,iP ‹_›,aC⟩
   |false=>
    lk;refine⟨by rw[bV];unfold a3;lia,?_⟩;lk;refine⟨K++[a],d+1,_,_,rfl,by lia,by lia,by rw[cZ];rfl,by simp;lia,?_⟩;intro z hz;rcases gh.mp hz with hz|hz
    .exact aC z hz
    .rw[cU.mp hz];exact ak
  .rintro r ar⟨K,d,x,y,rfl,aU,G,rfl,E,aC⟩;exact q K d aU (by lia) ⟨by lia,aC⟩
theorem uq{t:Č}{cK:č}{l:IF B}(h:S.R[t]?=some (.tup<|.int cK::l))(aE:cK=8\/cK=9\/cK=11\/cK=12\/cK=13)(q:Q (.bool false) S.st):bc (n+2) 58 [.ref 1,au t] S.st Q:=by k_go;lk;k_go;rcases aE with rfl|rfl|rfl|rfl|rfl<;>(lk;exact q)
theorem WH{t src:Č}{F:bv->IF aF}{cD Y aH:č}{e:Č}{aV:č}(T:Rows S.R)(h:gb S.R t F)(aA:Y=0\/Y=1\/Y=2)(di:aH=0\/aH=1\/aH=2)(aK:S.R[src]?=some (hX e aV))(aq:S.R.length+9<=a3)(q:∀u x aa,a9 S.R aa 9->d3.Ty aa x (fK Y<|F .N)->aa[u]?=some (hX x<|if aH=1 then 1 else if aH=2 then 0 else aV)->Q (au u) (S.w aa).st):bc (n+18) 59 [.ref 10,fT cD (-1) t Y aH,au src] S.st Q:=by k_go;lk;exact uq aK (by lia)<|Y9 T h aA di aK aq q
theorem Bi{t src nm:Č}{cK:č}{l:IF B}{cD Y aH:č}(aK:S.R[src]?=some (.tup<|.int cK::l))(aE:cK=8\/cK=9\/cK=11\/cK=12\/cK=13)(q:Q (.int 11) S.st):bc (n+3) 59 [.ref 10,fT cD nm t Y aH,au src] S.st Q:=by k_go;lk;exact uq aK aE q
theorem AT(a:bx):jj a a=false:=eC<|y4 a
theorem C3{a b c:bx}(h:jj a b=true)(k:jj b c=true):jj a c=true:=dK<|uc (fe h)<|fe k
noncomputable abbrev eo (x:bx):B:=.str x
abbrev n5(a b:bx):Prop:=jj a b=true
theorem K8{x y:bx}(n:x≠y)(h:jj x y=false):n5 y x:=dK<|Decidable.byContradiction λq=>n<|List.le_antisymm q<|rq h
theorem Q6(bJ:IF bx)(h:bJ.Nodup):∃cS:IF bx,i8 (bJ.map eo)=some (cS.map eo)/\cS.Pairwise n5/\(∀p,p∈cS↔p∈bJ)/\cS.length=bJ.length:=by obtain⟨cS,e,G,E⟩:=vo (f:=eo) (b:=jj) (R:=n5) (λ_ _ _=>rfl) (λ_ _ h=>h) (λ_ _ n h=>K8 n h) (λ_ _ _ a b=>C3 a b) h;exact⟨cS,e,G,λ_=>E.mem_iff,E.length_eq⟩
theorem YS{a b:IF bx}:a.Pairwise n5->b.Pairwise n5->(∀p,p∈a↔p∈b)->a=b:=ID λ_ _ p q=>ig<|(C3 p q).symm.trans<|AT _
def pN (Y:č) (eB i:Č) (m:č):č:=if i<eB then(if fN Y (decide<|m=1)=true then 1 else 0)else(if m=2 then 2 else 0)
def wK (Y:č) (eB:Č):Č->IF č->IF č
 |_,[]=>[]
 |i,m::r=>pN Y eB i m::wK Y eB (i+1) r
def ul (dQ:č) (i:Č) (m:č):č:=if m=1/\(i:č)<dQ then 0 else m
def xF (dQ:č):Č->IF č->IF č
 |_,[]=>[]
 |i,m::r=>ul dQ i m::xF dQ (i+1) r
theorem CB(Y:č)(F:bv->IF aF)(eB:Č)(l:IF č):∀j:Č,(mx Y F eB j l).map (·.2)=wK Y eB j l:=by
 induction l with
 |nil=>exact λ_=>rfl
 |cons m r ap=>intro j;show(kM Y F eB j m).2::(mx Y F eB (j+1) r).map (·.2)=pN Y eB j m::_;rw[ap];unfold kM pN;split<;>rfl
theorem MN(dQ:č)(ah:IF g9):∀j:Č,(jt dQ j ah).map (·.2)=xF dQ j (ah.map (·.2)):=by
 induction ah with
 |nil=>exact λ_=>rfl
 |cons c r ap=>
  intro j;show(conv dQ j c).2::(jt dQ (j+1) r).map (·.2)=ul dQ j c.2::_;rw[ap];unfold conv ul
  split<;>rfl
def he:IF (IF č):=(List.range 3).flatMap λi=>((List.range 3).flatMap λj=>[List.replicate i 0++List.replicate j 1,List.replicate i 0++List.replicate j 1++[2]])++[List.replicate i 0++[2]++[0],List.replicate i 0++[2]++[0,0]]
def x3 (Y:č) (ay:IF č):ĉ:=let b:=wK Y (cb ay) 0 ay;let c:=xF (iH (λm=>decide<|m∈[(0:č)]) b ay.length) 0 b;decide (kn c ay.length<0)||decide (iH (λm=>decide<|m∈[(2:č),1]) b ay.length<=kn c ay.length)
theorem LL:(he.all λay=>x3 0 ay&&(x3 1 ay&&x3 2 ay))=true:=by decide+kernel
theorem Mu{Y:č}{ay:IF č}(aA:Y=0\/Y=1\/Y=2)(ae:ay∈he):x3 Y ay=true:=by have h:=(e2 _ _).mp<|d'.mp LL ay ae;have E:=(e2 _ _).mp h.2;exact aA.elim (· ▸h.1) λaA=>aA.elim (· ▸E.1) (· ▸E.2)
abbrev c6:=bx×Č×č×č
def fh (p:c6):B:=.tup [.str p.1,au p.2.1,.int p.2.2.1,.int p.2.2.2]
def hu (ai:IF c6):IF (B×B):=ai.map λp=>(eo p.1,fh p)
theorem Lr(x:bx)(ai:IF c6):ep (.str x) (hu ai)=true:=uu rfl λ_=>rfl
theorem FJ(ai:IF c6):sH (hu ai):=λp ae=>by obtain⟨m,_,rfl⟩:=dq.mp ae;clear ae;rfl
theorem BV{ai:IF c6}(b7:(ai.map (·.1)).Nodup){p:c6}(ae:p∈ai):∀{s:St},hn s (.bb<|hu ai) (.str p.1)=some (fh p):=by
 intro s;show(if ep (.str p.1) (hu ai)then(fv (.str p.1)<|hu ai).bind id else none)=_;rw[Lr,bl rfl];rcases yp (k:=.str p.1) rfl (FJ ai)with⟨v,m,e⟩|⟨m,e⟩
 .rw[e];obtain⟨z,hz,a8⟩:=dq.mp m;clear m;have G:z.1=p.1:=by have:=bH Prod.fst a8;exact B.str.inj this
  have E:v=fh z:=(bH Prod.snd a8).symm;have:z=p:=by
   have nx:∀(l:IF c6),(l.map (·.1)).Nodup->z∈l->p∈l->z=p:=by
    intro l;induction l with
    |nil=>intro _ h;cases h
    |cons a r ap=>
     intro b7 hz ae;rw[gf,hK]at b7;rcases eD.mp hz with ag|wJ<;>rcases eD.mp ae with a8|vX
     .rw[ag,a8]
     .exact absurd (fx (f:=λx:c6=>x.1) vX) (by rw[<-G,ag];exact b7.1)
     .exact absurd (fx (f:=λx:c6=>x.1) wJ) (by rw[G,a8];exact b7.1)
     .exact ap b7.2 wJ vX
   exact nx ai b7 hz ae
  rw[E,this];rfl
 .exact absurd (by unfold hu;rw[f2];exact fx (f:=(λx:B×B=>x.1)∘λp:c6=>(eo p.1,fh p)) ae) m
theorem U_{ai:IF c6}{arg:B}(ak:items arg=some (ai.map fh))(b7:(ai.map (·.1)).Nodup)(aj:ai.length<64)(q:∀dO:IF c6,(dO.map (·.1)).Pairwise n5->(∀p,p∈dO↔p∈ai)->dO.length=ai.length->Q (.tup<|dO.map fh) s):bc (n+1) 9 [arg] s Q:=by
 k_go;refine ax.of ak<|cE.map rfl (λdone r ar=>ar=s/\∃x:co,r=[.val arg,.od<|hu done,x,.un]) ?_ ?_ ⟨rfl,_,rfl⟩
 .rintro done p a' ag r ar _ _ _ _⟨rfl,x,rfl⟩;have sw:B.str p.1∉(hu done).map (·.1):=by intro h;obtain⟨z,hz,e⟩:=dq.mp h;clear h;obtain⟨y,a1,rfl⟩:=dq.mp hz;clear hz;rw[ag,cZ,m4]at b7;exact b7.2.2 _ (fx (f:=λx:c6=>x.1) a1) p.1 (by simp)<|B.str.inj e
  have dU:(hu done++[(eo p.1,fh p)]).length<=a3:=by have:=bH List.length ag;rw[da,nl]at this;rw[da];unfold hu;rw[bV];unfold a3;simp;lia
  refine⟨Lr _ _,ax.of (x6 rfl (FJ _) sw) ⟨dU,?_⟩⟩;lk;exact⟨rfl,_,by unfold hu;rw[cZ];rfl⟩
 .rintro r ar⟨rfl,x,rfl⟩;obtain⟨cS,op,t4,k3,tu⟩:=Q6 _ b7;have aB:k6 .sorted [.bb<|hu ai]=some (.lst<|cS.map eo):=by
   show((if(((hu ai).all λe=>eH e.1==1)||((hu ai).all λe=>eH e.1==2))=true then some ((hu ai).map (·.1))else none).bind λl=>if l.length<64 then i8 l else none).map B.lst=_;have E:((hu ai).all λe=>eH e.1==2)=true:=by unfold hu;rw[pa];exact d'.mpr λ_ _=>rfl
   rw[E,x7,bl rfl];have aC:(hu ai).map (·.1)=(ai.map (·.1)).map eo:=by unfold hu;simp
   show((if((hu ai).map (·.1)).length<64 then i8 ((hu ai).map (·.1))else none).map B.lst)=_;rw[aC,bl (by simpa using aj),op];rfl
  have pp:∀l:IF bx,(∀x∈l,x∈ai.map (·.1))->∃ay:IF c6,ay.map (·.1)=l/\∀p∈ay,p∈ai:=by
   intro l;induction l with
   |nil=>intro _;exact⟨[],rfl,λ_ h=>by cases h⟩
   |cons x r ap=>intro h;obtain⟨ay,ag,a8⟩:=ap λy a1=>h y<|.tail _ a1;obtain⟨p,ae,e⟩:=dq.mp<|h x<|.head _;exact⟨p::ay,by rw[gf,ag,e],λz hz=>(eD.mp hz).elim (λq=>q▸ae)<|a8 z⟩
  obtain⟨ay,gg,ef⟩:=pp cS λx az=>(k3 x).mp az;refine dj.nB rfl<|ax.of (show oZ .sorted ar [.bb<|hu ai]=_ from aB) ?_;refine(ff.map (f:=λp:c6=>eo p.1) (all:=ay) (by rw[<-gg,f2];rfl) (λdone cg s=>s=ar/\cg=done.map fh) ?_ ?_ ⟨rfl,rfl⟩)
  .rintro done p a' ag cg s _ _⟨rfl,rfl⟩;refine eR.mk ?_;lk;refine ax.of (BV b7<|ef p<|by rw[ag];simp) ?_;lk;exact⟨rfl,by rw[cZ];rfl⟩
  .rintro cg s⟨rfl,rfl⟩;refine q ay (by rw[gg];exact t4) (λp=>⟨ef p,λae=>?_⟩) (by have:=bH List.length gg;rw[bV]at this;rw[this,tu,bV]);have:p.1∈ay.map (·.1):=by rw[gg];exact(k3 _).mpr<|fx (f:=λx:c6=>x.1) ae
   obtain⟨z,hz,e⟩:=dq.mp this;clear this;have c3:=BV b7 (ef z hz) (s:=s);rw[e,BV b7 ae (s:=s)]at c3;have:fh p=fh z:=cV c3;unfold fh at this;simp only[B.tup.injEq,sx,B.int.injEq,Int.natCast_inj,and_true]at this;have:p=z:=m9 e.symm<|m9 this.2.1<|m9 this.2.2.1 this.2.2.2;rw[this];exact hz
theorem CD{t:Č}{x:bx}(h:S.R[t]?=some (.tup [.int 1,.str x]))(q:Q (.int 11) S.st):bc (n+1) 26 [.ref 1,au t] S.st Q:=by
 k_go;refine⟨rfl,rfl,by decide,ax.of (km 40)<|cE.inv (λl r s=>s=S.st/\l≠[]/\r=[.val<|.ref 1,.val<|au t,.un,.un]) ?_ ?_ ⟨rfl,by simp,rfl⟩⟩
 .rintro v l r s _ _ _ _⟨rfl,_,rfl⟩;lk;exact q
 .rintro r s⟨_,h,_⟩;exact absurd rfl h
theorem U9{t:Č}{l:IF B}(h:S.R[t]?=some (.tup<|.int 8::l))(q:Q (au t) S.st):bc (n+1) 26 [.ref 1,au t] S.st Q:=by
 k_go;refine⟨rfl,rfl,by decide,ax.of (km 40)<|cE.inv (λl r s=>s=S.st/\l≠[]/\r=[.val<|.ref 1,.val<|au t,.un,.un]) ?_ ?_ ⟨rfl,by simp,rfl⟩⟩
 .rintro v l r s _ _ _ _⟨rfl,_,rfl⟩;lk;exact q
 .rintro r s⟨_,h,_⟩;exact absurd rfl h
theorem KE{t:Č}{x y:bx}(T:Rows S.R)(h:S.R[t]?=some (.tup [.int 1,.str y]))(q:Q .none S.st):bc (n+4) 32 [.ref 10,au t,.str x] S.st Q:=by have s1:=T.at (t:=11) rfl;k_go;k_go;lk;k_go;refine CD h ?_;lk;k_go;lk;exact q
theorem X1{t e:Č}{x:bx}{aV:č}(T:Rows S.R)(h:S.R[t]?=some (hX e aV))(q:Q .none S.st):bc (n+4) 32 [.ref 10,au t,.str x] S.st Q:=by k_go;k_go;lk;k_go;exact q
def iQ:IF bx:=[[97],[108,101,110,103,116,104],[98],[48],[49,50],[48,49],[45,49]]
def xN (x:bx):ĉ:=decide (x=[48])||decide (x=[49,50])
theorem Rw{x:bx}(az:x∈iQ)(q:Q (.bool<|xN x) s):bc (n+1) 31 [.str x] s Q:=by unfold iQ at az;simp only[eD,x',or_false]at az;rcases az with rfl|rfl|rfl|rfl|rfl|rfl|rfl<;>(k_go;exact dj.comp rfl q)
def h7 (x:bx):ĉ:=decide (x=[108,101,110,103,116,104])||xN x
theorem Pp{m:Č}{p:c6}(T:Rows S.R)(az:p.1∈iQ)(aE:∀R,n1 (S.w R).st (.ref m) 29=some (fh p))(aq:S.R.length+1<=a3)(q:∀aa,a9 S.R aa 1->Q (.bool<|h7 p.1) (S.w aa).st):bc (n+7) 61 [.ref 10,.ref m] S.st Q:=by
 have EG:=aE S.R;k_go;refine ax.of EG<|ax.of EG<|bj.el (λG=>?_) λG=>?_
 .refine bj.pK G ?_;have:=q S.R<|a9.refl T;rw[show h7 p.1=true by unfold h7;rw[dK G];rfl]at this;exact this
 .refine Rw az ?_;induction bg:xN p.1 with
  |true=>have:=q S.R<|a9.refl T;rw[show h7 p.1=true by unfold h7;rw[bg,x7]]at this;exact this
  |false=>
   have aj:h7 p.1=false:=by unfold h7;rw[bg,eC G];rfl
   k_go;refine e6 T rfl aq λt aa g e=>?_;lk;refine X1 (S:=S.w aa) g.ok e ?_;lk;refine KE (S:=S.w aa) (t:=6) g.ok (g.at<|T.at (t:=6) rfl) ?_;lk;refine KE (S:=S.w aa) (t:=7) g.ok (g.at<|T.at (t:=7) rfl) ?_;lk;have:=q aa g;rw[aj]at this;exact this
noncomputable abbrev dy.x (S:dy) (X:IF c5):dy:={S with X:=X}
theorem Pf{s:St}{o cB:c5}:(s++[o]).set s.length cB=s++[cB]:=by simp
theorem Ke{s:St}{o:c5}:(s++[o])[s.length]?=some o:=by simp
theorem Ct{s:St}{c:Č}{a:IF (Č×B)}{k:Č}{v:B}(h:a.length<=900):nP (s++[.ins c a]) (.ref s.length) k v=some (s++[.ins c<|putAt k v a]):=by rw[zO Ke h,Pf]
inductive gr
 |mem (k:Nat) (p:c6)
 |idx (k:Nat) (c:B)
def gr.ctorIdx (x:gr):Č:=gr.casesOn x (λ_ _=>0)<|λ_ _=>1
def gr.ct:gr->c5
 |.mem k p=>.ins 6 [(28,au k),(29,fh p),(1,.tup [])]
 |.idx k c=>.ins 6 [(28,au k),(29,.none),(1,c)]
def f1(X:IF c5)(v:B)(e:gr):Prop:=∃i,v=.ref (i+11)/\X[i]?=some e.ct
theorem f1.app{X cx:IF c5}{v:B}{e:gr}(h:f1 X v e):f1 (X++cx) v e:=by obtain⟨i,G,E⟩:=h;exact⟨i,G,by rw[px (g0.mp E).1];exact E⟩
theorem Ed(S:dy):S.st.length=S.X.length+11:=rfl
theorem f1.new{S:dy}{e:gr}:f1 (S.X++[e.ct]) (.ref S.st.length) e:=⟨S.X.length,by rw[Ed],by simp⟩
theorem yb{a b c:B}{s:St}(q:Q .none (s++[.ins 6 [(28,a),(29,b),(1,c)]])):bc (n+1) 51 [.ref s.length,a,b,c] (s++[.ins 6 []]) Q:=by k_go;exact ax.of (Ct<|h4 rfl)<|ax.of (Ct<|h4 rfl)<|ax.of (Ct<|h4 rfl) q
def nT (f:č):ĉ:=decide<|(lr f.toNat 24:č)=0
theorem NZ{p:c6}(a7:0<=p.2.2.1)(q:Q (.bool<|nT p.2.2.1) s):bc (n+1) 37 [fh p] s Q:=by
 obtain⟨f,jE⟩:=xC a7;clear a7;have fg:Q (.bool<|decide<|(lr f 24:č)=0) s:=by
  have e:nT p.2.2.1=decide ((lr f 24:č)=0):=by unfold nT;rw[jE];rfl
  rw[e]at q;exact q
 obtain⟨nm,t,cM,d⟩:=p;obtain rfl:cM=(f:č):=jE;k_go;exact fg
def gm:Ċ (Č×č)->B
 |none=>.tup []
 |some (t,aV)=>.tup [au t,.int aV]
noncomputable abbrev hJ (ai:IF c6) (eG:B) (b8 bQ:Ċ (Č×č)) (fd:č):B:=.tup [.int 8,.tup<|ai.map fh,eG,.tup [],gm b8,gm bQ,.int fd]
def kU (k:Č):Ċ (Č×č)->IF gr
 |none=>[]
 |some c=>[.idx k<|gm<|some c]
def pb(R:IF B)(e:gr)(p:c6):Prop:=∃k,e=.mem k p/\gF R k (.txt p.1)
theorem pb.bf{R aa:IF B}{c:Č}{e:gr}{p:c6}(h:pb R e p)(g:a9 R aa c):pb aa e p:=by obtain⟨k,G,E⟩:=h;exact⟨k,G,E.bf g⟩
theorem Fk{X:IF c5}{aP:IF B}{es:IF gr}{e:gr}(a:bW (f1 X) aP es):bW (f1<|X++[e.ct]) (aP++[.ref<|X.length+11]) (es++[e]):=bW.snoc ⟨_,rfl,Ke⟩<|a.imp λ_ _ h=>h.app
def vb (t:Č) (row:B) (aP:IF B) (x:co):aJ:=[.val<|.ref 10,.val<|au t,.val<|.ref 1,.ol aP,.val row,x]
theorem IR{t i:Č}{row:B}{aa:IF B}{es:IF gr}{eg:IF c5}{aP:IF B}{c:Ċ (Č×č)}{x:co}{K:cj->aJ->St->Prop}(a:bW (f1<|S.X++eg) aP es)(cr:aP.length+1<=a3)(aB:∀s,hn s row (au i)=some (gm c))(ab:∀eg fc,bW (f1<|S.X++eg) fc (es++kU k c)->fc.length<=aP.length+1->K .go (vb t row fc x) ((S.w aa).x<|S.X++eg).st):wS (n+1) (.iff (.cmp (.ao (.v 4)<|.k<|au i) [(.ne,.tup [])]) [.app 3<|.new 6 [.k<|au k,.k .none,.ao (.v 4)<|.k<|au i]] []) (vb t row aP x) ((S.w aa).x<|S.X++eg).st K:=by
 refine ax.of (aB _) ?_;cases c with
 |none=>exact ab eg aP (by show bW _ aP<|es++[];rw[gN];exact a)<|kc _
 |some c=>refine ax.of (aB _)<|yb (s:=((S.w aa).x<|S.X++eg).st) ⟨rfl,cr,?_⟩;have ab:=ab (eg++[gr.ct<|.idx k<|gm<|some c]) (aP++[.ref<|(S.X++eg).length+11]) (by rw[<-hF];exact Fk a) (fQ<|by rw[da];rfl);rw[<-hF]at ab;exact ab
theorem W3{t o:Č}{ai:IF c6}{eG:B}{b8 bQ:Ċ (Č×č)}{fd:č}(T:Rows S.R)(sL:∀bT,bT (au o) S.st->bc (n+3) 28 [.ref 10,au t] S.st bT)(aA:S.R[o]?=some (hJ ai eG b8 bQ fd))(a7:∀p∈ai,0<=p.2.2.1)(aj:ai.length<=100)(aq:S.R.length+ai.length<=a3)(q:∀aa eg aP ay,a9 S.R aa ai.length->bW (f1<|S.X++eg) aP (ay++(kU 6 b8++kU 7 bQ))->bW (pb aa) ay (ai.filter λp=>nT p.2.2.1)->Q (.lst aP) ((S.w aa).x<|S.X++eg).st):bc (n+4) 54 [.ref 10,au t] S.st Q:=by
 k_go;refine sL _<|ax.of (qh aA) (cE.mp (all:=ai) (f:=fh) rfl (λdone K=>∀aa eg aP ay x,a9 S.R aa done.length->bW (f1<|S.X++eg) aP ay->bW (pb aa) ay (done.filter λp=>nT p.2.2.1)->aP.length<=done.length->K (vb t (hJ ai eG b8 bQ fd) aP x) ((S.w aa).x<|S.X++eg).st) (λdone p a' ag K ab aa eg aP ay x g eZ fP cr=>?_) (λaa eg aP ay x g eZ fP cr=>?_) λK ab=>by have ab:=ab S.R [] [] [] .un (a9.refl T) .nil .nil<|dA _;rw[gN]at ab;exact ab)
 .have bg:=oq ag<|dA _;refine NZ (a7 p<|by rw[ag];exact iC _<|.head _) ?_;rw[l7,hQ,da]at ab;cases ae:nT p.2.2.1 with
  |true=>rw[ae]at ab;lk;refine JR (S:=(S.w aa).x<|S.X++eg) g.ok (g.room aq bg) λk bu bh aE=>?_;lk;refine yb (s:=(((S.w aa).x<|S.X++eg).w bu).st) ⟨rfl,aI (c' cr)<|aI bg<|aI aj<|aG rfl,?_⟩;have ab:=ab bu (eg++[gr.ct<|.mem k p]) (aP++[.ref<|(S.X++eg).length+11]) (ay++[.mem k p]) (.val<|fh p) (g.trans bh) (by rw[<-hF];exact Fk eZ) (bW.snoc ⟨k,rfl,aE⟩<|fP.imp λa b h=>h.bf bh) (by rw[da];exact c' cr);rw[<-hF]at ab;exact ab
  |false=>rw[ae]at ab;exact ab aa eg aP ay _ (g.le<|kc _) eZ (by show bW _ _<|_++[];rw[gN];exact fP)<|iP cr
 .have KN:=aI cr aj;refine bw.fV (λK=>∀eg fc,bW (f1<|S.X++eg) fc (ay++kU 6 b8)->fc.length<=aP.length+1->K (vb t (hJ ai eG b8 bQ fd) fc x) ((S.w aa).x<|S.X++eg).st) (λK ab=>IR (i:=4) (k:=6) eZ (aI (c' KN)<|aG rfl) (λ_=>rfl) ab) λeg fc eZ k5=>?_;refine bw.fV (λK=>∀eg fc,bW (f1<|S.X++eg) fc (ay++kU 6 b8++kU 7 bQ)->K (vb t (hJ ai eG b8 bQ fd) fc x) ((S.w aa).x<|S.X++eg).st) (λK ab=>IR (i:=5) (k:=7) eZ (aI (c'<|aI k5<|c' KN)<|aG rfl) (λ_=>rfl) λeg fc a _=>ab eg fc a) λeg fc eZ=>?_;rw[hF]at eZ;exact q aa eg fc ay g eZ fP
theorem B'{s t:St}{o cB:c5}:(s++o::t).set s.length cB=s++cB::t:=by simp
theorem uV{s t:St}{o:c5}:(s++o::t)[s.length]?=some o:=by simp
theorem ud{s t:St}{c:Č}{a:IF (Č×B)}{k:Č}{v:B}(h:a.length<=900):nP (s++.ins c a::t) (.ref s.length) k v=some (s++.ins c (putAt k v a)::t):=by rw[zO uV h,B']
abbrev fZ:=bx×Č×č
def iI (d:IF fZ):IF (B×B):=d.map λm=>(eo m.1,.tup [au m.2.1,.int m.2.2])
def nA (d:IF fZ):IF B:=d.map λm=>eo m.1
def ds (X:IF c5) (d:IF fZ) (cA cs:B):IF c5:=X++[.ins 5 [(0,.ref<|X.length+12),(5,.ref<|X.length+13),(26,cA),(27,cs)],.cP<|iI d,.ls<|nA d]
theorem xx{S:dy}{v:B}{e:gr}(h:f1 S.X v e):∃m,v=.ref m/\∃l,e.ct=.ins 6 l/\∀R a,n1 (S.w R).st (.ref m) a=l.lookup a:=by
 obtain⟨i,rfl,h⟩:=h;refine⟨_,rfl,?_⟩;induction e with
 |mem k p=>refine⟨_,rfl,λR a=>?_⟩;show(S.X[i]?).bind _=_;rw[h];rfl
 |idx k c=>refine⟨_,rfl,λR a=>?_⟩;show(S.X[i]?).bind _=_;rw[h];rfl
def oz:gr->ĉ
 |.mem _ p=> !h7 p.1
 |.idx _ _=>true
theorem MO{m:Č}(aE:n1 s (.ref m) 29=some .none)(q:Q (.bool false) s):bc (n+1) 61 [.ref 10,.ref m] s Q:=by k_go;exact ax.of aE q
theorem Au{v:B}{e:gr}(T:Rows S.R)(h:f1 S.X v e)(az:∀k p,e=.mem k p->p.1∈iQ)(aq:S.R.length+1<=a3)(q:∀aa,a9 S.R aa 1->Q (.bool<|!oz e) (S.w aa).st):bc (n+7) 61 [.ref 10,v] S.st Q:=by
 obtain⟨m,rfl,l,G,E⟩:=xx h;clear h;induction e with
 |mem k p=>cases G;refine Pp T (az k p rfl) (λR=>E R 29) aq λaa g=>?_;exact Bool.not_not (h7 p.1)▸q aa g
 |idx k c=>cases G;exact MO (E S.R 29)<|q S.R<|a9.refl T
set_option tactic.hygienic true in
theorem X9{aP:IF B}{es:IF gr}{x:B}{i1 eZ fP k2 kv oH:co}{N:Č}(T:Rows S.R)(h:bW (f1 S.X) aP es)(az:∀e∈es,∀k p,e=.mem k p->p.1∈iQ)(aq:S.R.length+es.length<=a3)(q:∀aa fc,a9 S.R aa es.length->bW (f1 S.X) fc (es.filter oz)->Q (.lst fc) (S.w aa).st):ff (.lst aP) [.val<|.ref 10,eZ,fP,k2,kv,oH] S.st (n+7) (.v 5) false [5] [.not (.call 61 [.v 0,.v 5])] Q:=by
 refine ff.un rfl ?_;have key:∀{aP:IF B} {es:IF gr},bW (f1 S.X) aP es->(∀e∈es,∀k p,e=.mem k p->p.1∈iQ)->∀aa cg,Rows aa->aa.length+es.length<=a3->∀K:B->St->Prop,(∀bu fc,a9 aa bu es.length->bW (f1 S.X) fc (es.filter oz)->K (.lst<|cg++fc) (S.w bu).st)->
  j6 (kE (dj (n+7)<|.v 5) (sM (n+7) [.not (.call 61 [.v 0,.v 5])]) false [5] [.val<|.ref 10,i1,eZ,fP,k2,kv]) K aP cg (S.w aa).st:=by
  intro aP es h
  induction h with
  |nil=>intro _ aa cg T _ K q;have:=q aa [] (a9.refl T) .nil;rwa[gN]at this
  |@cons v e l es af al ap=>
   intro az aa cg T aq K q;refine eR.mk ?_;lk;refine Au (S:=S.w aa) T af (az e<|.head _) (aI (gu (c'<|f_ _) _) aq) λbu g=>?_;have go:∀c9,(∀fc,bW (f1 S.X) fc (es.filter oz)->bW (f1 S.X) (c9++fc) ((e::es).filter oz))->j6 (kE (dj (n+7)<|.v 5) (sM (n+7) [.not (.call 61 [.v 0,.v 5])]) false [5] [.val<|.ref 10,i1,eZ,fP,k2,kv]) K l (cg++c9) (S.w bu).st:=λc9 hz=>ap (λe h=>az e<|.tail _ h) bu _ g.ok (by have:=g.len;have:aa.length+(es.length+1)<=a3:=aq;lia) K λdZ fc cL a=>by rw[hF];exact q dZ _ ((g.trans cL).le<|fQ<|qb _ _)<|hz fc a
   lk;induction aE:oz e with
   |true=>exact go [v] λfc a=>by rw[hQ,bl aE];exact .cons af a
   |false=>exact go [] λfc a=>by rw[hQ,bm<|by rw[aE];exact dT];exact a
 exact key h az S.R [] T aq Q q
theorem OZ(q:Q .none (S.x<|ds S.X [] (.tup [])<|.tup []).st):bc (n+1) 38 [.ref S.st.length] (S.st++[.ins 5 []]) Q:=by
 k_go;refine ax.of (show nP ((S.st++[c5.ins 5 []])++[.cP []]) (.ref S.st.length) 0 (.ref (S.st++[c5.ins 5 []]).length)=some (S.st++c5.ins 5 [(0,.ref<|S.X.length+12)]::[.cP []])from ?_) ?_
 .rw[hF,show [c5.ins 5 []]++[c5.cP []]=c5.ins 5 []::[.cP []]from rfl,ud<|h4 rfl];rw[da,Ed];rfl
 refine ax.of (show nP ((S.st++c5.ins 5 [(0,.ref<|S.X.length+12)]::[.cP []])++[.ls []]) (.ref S.st.length) 5 (.ref (S.st++c5.ins 5 [(0,.ref<|S.X.length+12)]::[.cP []]).length)=some (S.st++c5.ins 5 [(0,.ref<|S.X.length+12),(5,.ref<|S.X.length+13)]::[.cP [],.ls []])from ?_) ?_
 .rw[hF,show(c5.ins 5 [(0,.ref<|S.X.length+12)]::[.cP []])++[c5.ls []]=c5.ins 5 [(0,.ref<|S.X.length+12)]::[.cP [],.ls []]from rfl,ud<|h4 rfl];rw[da,Ed];rfl
 exact ax.of (ud<|h4 rfl)<|ax.of (ud<|h4 rfl) q
set_option tactic.hygienic true
def q2 (f:č):ĉ:= !decide ((lr f.toNat 1:č)=0)
def ts (f:č):č:=if !decide ((lr f.toNat 2:č)=0)then 1 else 0
def gW (aH aV:č):č:=if aH=1 then 1 else if aH=2 then 0 else aV
def qv (Y aH f:č):č:=(if fN Y (q2 f)=true then 1 else 0)+(if gW aH (ts f)=1 then 2 else 0)
def je (Y:č) (K:IF aF):IF aF:=if Y=1 then K++[.b .bB]else K
theorem Cz(x:bx)(d:IF fZ):ep (.str x) (iI d)=true:=uu rfl λ_=>rfl
theorem z3(d:IF fZ):sH (iI d):=λp ae=>by obtain⟨m,_,rfl⟩:=dq.mp ae;clear ae;rfl
theorem Lc(d:IF fZ):(iI d).map (·.1)=(d.map (·.1)).map eo:=by unfold iI;simp
theorem V2{p:c6}{cD nm d5 Y aH:č}(aA:Y=0\/Y=1\/Y=2)(di:aH=0\/aH=1\/aH=2)(a7:0<=p.2.2.1)(q:Q (.int<|qv Y aH p.2.2.1) s):bc (n+2) 49 [fT cD nm d5 Y aH,fh p,.bool false] s Q:=by
 obtain⟨f,jE⟩:=xC a7;clear a7;obtain⟨x,t,cM,d⟩:=p;obtain rfl:cM=(f:č):=jE;have fg:∀a b:č,a=(if fN Y (!decide (Int.ofNat (lr f 1)=0))=true then 1 else 0)->b=(if gW aH (ts f)=1 then 2 else 0)->∀c,c=a+b->Q (.int c) s:=by rintro a b rfl rfl c rfl;exact q
 have bn:∀b:ĉ,b=decide (Int.ofNat (lr f 2)=0)->ts f=if(!b)=true then 1 else 0:=by rintro b rfl;rfl
 clear q;k_go;refine w4 aA ?_;have fin:∀a:č,a=(if fN Y (!decide (Int.ofNat (lr f 1)=0))=true then 1 else 0)->bw (n+1) [dF.set 5 (.ite (.cmp (.bin .band (.v 3) (.k (.int 2))) [(.ne,.k (.int 0))]) (.k (.int 1)) (.k (.int 0))),
  .iff (.cmp (.call 45 [.ao (.v 0) (.k (.int 6)),.v 5]) [(.eq,.k (.int 1))]) [.set 4 (.bin .add (.v 4) (.k (.int 2)))] [],.ret (.ite (.v 2) (.bin .add (.v 4) (.bin .band (.v 3) (.k (.int 4)))) (.v 4))]
  [co.val<|fT cD nm d5 Y aH,.val<|fh (x,t,↑f,d),.val<|.bool false,.val<|.int f,.val<|.int a,.un] s (λcM x ar=>Q cM.val ar):=by
  intro a ak
  have dQ:∀b:č,b=ts f->bw (n+1) [.iff (.cmp (.call 45 [.ao (.v 0)<|.k<|.int 6,.v 5]) [(.eq,.k<|.int 1)]) [.set 4<|.bin .add (.v 4)<|.k<|.int 2] [],.ret<|.ite (.v 2) (.bin .add (.v 4)<|.bin .band (.v 3)<|.k<|.int 4)<|.v 4] [co.val<|fT cD nm d5 Y aH,.val<|fh (x,t,↑f,d),.val<|.bool false,.val<|.int f,.val<|.int a,.val<|.int b] s (λcM x ar=>Q cM.val ar):=by
   rintro b rfl;refine yR di<|bj.el (λh=>?_) λh=>?_
   .exact fg a 2 ak (bl h).symm _ rfl
   .lk;exact fg a 0 ak (bm h).symm _ (by lia)
  lk
  induction aw:decide (Int.ofNat (lr f 2)=0)with
  |true=>lk;have:=dQ 0 (by rw[bn true aw.symm];rfl);lk;exact this
  |false=>lk;have:=dQ 1 (by rw[bn false aw.symm];rfl);lk;exact this
 induction aK:fN Y (!decide (Int.ofNat (lr f 1)=0))with
 |true=>have:=fin 1 (by rw[aK];rfl);exact this
 |false=>have:=fin 0 (by rw[aK];rfl);exact this
theorem AW{av:Type}{X cx:IF av}{j:Č}:(X++cx)[X.length+j]?=cx[j]?:=by rw[o7<|nv _ _,Em]
theorem G7{av:Type}{X cx:IF av}{j:Č}{x:av}:(X++cx).set (X.length+j) x=X++cx.set j x:=by rw[List.set_append_right _ _<|nv _ _,Em]
def sO (S:dy) (a:IF (B×B)) (b:IF B) (cA cs:B):St:=[.ins 5 [(0,.ref<|S.X.length+12),(5,.ref<|S.X.length+13),(26,cA),(27,cs)],.cP a,.ls b]
theorem S1{d:IF fZ}{cA cs:B}{x:bx}{t:Č}{f:č}(bg:x∉d.map (·.1))(aj:d.length<=1000)(q:Q .none (S.x<|ds S.X (d++[(x,t,f)]) cA cs).st):bc (n+1) 39 [.ref<|S.X.length+11,.ref 1,.str x,au t,.int f] (S.x<|ds S.X d cA cs).st Q:=by
 have uH:∀j:Č,(S.x<|ds S.X d cA cs).st[S.X.length+j+11]?=(sO S (iI d) (nA d) cA cs)[j]?:=λj=>AW (X:=S.X);have i1:n1 (S.x<|ds S.X d cA cs).st (.ref<|S.X.length+11) 0=some (.ref<|S.X.length+12):=by show((S.x<|ds S.X d cA cs).st[S.X.length+0+11]?).bind _=_;rw[uH 0];rfl
 have oH:n1 (S.x<|ds S.X d cA cs).st (.ref<|S.X.length+11) 5=some (.ref<|S.X.length+13):=by show((S.x<|ds S.X d cA cs).st[S.X.length+0+11]?).bind _=_;rw[uH 0];rfl
 have sw:B.str x∉(iI d).map (·.1):=by rw[Lc];intro h;obtain⟨y,a1,e⟩:=dq.mp h;cases e;exact bg a1
 have T1:fv (.str x) (iI d)=some none:=by
  rcases yp (k:=.str x) rfl (z3 d)with⟨v,m,e⟩|⟨m,e⟩
  .exact absurd (fx m) sw
  .exact e
 k_go;refine ax.of i1<|ax.of (show hD .f3 (S.x<|ds S.X d cA cs).st (.str x) (.ref<|S.X.length+12)=some true from ?_)<|ax.of oH<|ax.of (a:=.int (nA d).length) ?_ ?_
 .show(((S.x<|ds S.X d cA cs).st[S.X.length+1+11]?).bind _).map _=_;rw[uH 1];show(if ep (.str x) (iI d)then(fv (.str x)<|iI d).map (·.isSome)else none).map (!·)=_;rw[Cz,T1];rfl
 .show((S.x<|ds S.X d cA cs).st[S.X.length+2+11]?).bind _=_;rw[uH 2];rfl
 refine gS.of (l:=nA d) (uH 2) ⟨aI (c'<|aI (fQ (bV ..)) aj)<|aG rfl,?_⟩;have ag:(S.x<|ds S.X d cA cs).st.set (S.X.length+13) (.ls<|nA d++[.str x])=(S.x<|S.X++sO S (iI d) (nA d++[.str x]) cA cs).st:=bH (λX=>(S.x X).st)<|G7 (X:=S.X) (j:=2);rw[ag];refine ax.of (a:=.ref<|S.X.length+12) ?_<|ax.of (a:=(S.x<|ds S.X (d++[(x,t,f)]) cA cs).st) ?_ q
 .show((S.X++sO S (iI d) (nA d++[.str x]) cA cs)[S.X.length+0]?).bind _=_;rw[AW];rfl
 .show((S.X++sO S (iI d) (nA d++[.str x]) cA cs)[S.X.length+1]?).bind _=_;rw[AW];show(if ep (.str x) (iI d)then(gU (.str x) (.tup [au t,.int f])<|iI d).bind λl=>i7 l.length ((S.x<|S.X++sO S (iI d) (nA d++[.str x]) cA cs).st.set (S.X.length+12)<|.cP l)else none)=_;rw[Cz,x6 rfl (z3 d) sw,bl rfl];refine(bl<|by rw[da];exact(aI (c'<|aI (fQ (bV ..)) aj)<|aG rfl)).trans<|bH some<|(bH (λX=>(S.x X).st)<|G7 (X:=S.X) (j:=1)).trans ?_;unfold ds sO iI nA;rw[cZ,cZ];rfl
set_option tactic.hygienic false
theorem BI(S:dy)(d:IF fZ)(cA cs:B):(S.x<|ds S.X d cA cs).st[S.X.length+11]?=some (.ins 5 [(0,.ref<|S.X.length+12),(5,.ref<|S.X.length+13),(26,cA),(27,cs)]):=by show(ds S.X d cA cs)[S.X.length]?=_;exact uV
theorem rs(S:dy)(d:IF fZ)(cA cs:B)(a:Č):n1 (S.x<|ds S.X d cA cs).st (.ref<|S.X.length+11) a=List.lookup a [(0,.ref<|S.X.length+12),(5,.ref<|S.X.length+13),(26,cA),(27,cs)]:=yB<|BI S d cA cs
theorem Ca(S:dy)(d:IF fZ)(cA cs:B):DA (S.x<|ds S.X d cA cs).st (.ref<|S.X.length+11)=some 5:=yB<|BI S d cA cs
theorem EX(S:dy)(d:IF fZ)(cA cs v:B)(a:Č){y2 zr:B}(h:putAt a v [(0,.ref<|S.X.length+12),(5,.ref<|S.X.length+13),(26,cA),(27,cs)]=[(0,.ref<|S.X.length+12),(5,.ref<|S.X.length+13),(26,y2),(27,zr)]):nP (S.x<|ds S.X d cA cs).st (.ref<|S.X.length+11) a v=some (S.x<|ds S.X d y2 zr).st:=by
 rw[zO (BI S d cA cs)<|aG rfl,h];have:(ds S.X d cA cs).set S.X.length (.ins 5 [(0,.ref<|S.X.length+12),(5,.ref<|S.X.length+13),(26,y2),(27,zr)])=ds S.X d y2 zr:=by unfold ds;rw[B']
 rw[<-this];rfl
theorem Ts{d:IF fZ}{cs:B}{t:Č}{aV:č}(q:Q .none (S.x<|ds S.X d (.tup [au t,.int aV]) cs).st):bc (n+1) 40 [.ref<|S.X.length+11,.ref 1,.bool false,au t,.int aV] (S.x<|ds S.X d (.tup []) cs).st Q:=by k_go;exact ax.of ((rs S d _ _ 26).trans rfl)<|ax.of (EX S d _ _ _ 26 rfl) q
theorem UK{d:IF fZ}{cA:B}{t:Č}{aV:č}(q:Q .none (S.x<|ds S.X d cA<|.tup [au t,.int aV]).st):bc (n+1) 40 [.ref<|S.X.length+11,.ref 1,.bool true,au t,.int aV] (S.x<|ds S.X d cA<|.tup []).st Q:=by k_go;exact ax.of ((rs S d _ _ 27).trans rfl)<|ax.of (EX S d _ _ _ 27 rfl) q
theorem VT{d:IF fZ}{cA cs:B}{t:Č}{aV:č}(aE:(k=6/\cA=.tup [])\/(k=7/\cs=.tup []))(q:Q .none (S.x<|ds S.X d (if k=6 then .tup [au t,.int aV]else cA)<|if k=7 then .tup [au t,.int aV]else cs).st):bc (n+1) 40 [.ref<|S.X.length+11,.ref 1,.bool<|decide<|(k:č)=7,au t,.int aV] (S.x<|ds S.X d cA cs).st Q:=by
 rcases aE with⟨rfl,rfl⟩|⟨rfl,rfl⟩
 .exact Ts q
 .exact UK q
theorem Op{t:Č}{F:bv->IF aF}{cD nm Y aH:č}{v:B}{p:c6}{d:IF fZ}{cA cs:B}(T:Rows S.R)(h:gb S.R t F)(aA:Y=0\/Y=1\/Y=2)(di:aH=0\/aH=1\/aH=2)(BS:f1 S.X v (.mem k p))(aE:gF S.R k (.txt p.1))(a7:0<=p.2.2.1)(bg:p.1∉d.map (·.1))(aj:d.length<=1000)(aq:S.R.length+8<=a3)(q:∀u aa,a9 S.R aa 8->d3.Ty aa u (fC Y (q2 p.2.2.1)<|F<|.txt p.1)->Q .none ((S.w aa).x<|ds S.X (d++[(p.1,u,qv Y aH p.2.2.1)]) cA cs).st):bc (n+18) 52 [.ref 10,fT cD nm t Y aH,.ref<|S.X.length+11,v,au k,.bool false] (S.x<|ds S.X d cA cs).st Q:=by obtain⟨m,rfl,l,G,E⟩:=xx (S:=S.x<|ds S.X d cA cs) (BS.app:f1 (S.X++_) v (.mem k p));cases G;have l3:=E S.R;obtain⟨f,jE⟩:=xC a7;obtain⟨x,pt,cM,oW⟩:=p;obtain rfl:cM=(f:č):=jE;k_go;refine CH (S:=S.x<|ds S.X d cA cs) T aE<|ax.of (l3 29)<|ax.of (l3 29)<|ax.of (l3 28)<|v4 (S:=S.x<|ds S.X d cA cs) T h aE aA aq λu aa g ty=>?_;rw[(rfl:(((S.x<|ds S.X d cA cs).w aa).st)=((S.w aa).x<|ds (S.w aa).X d cA cs).st)];refine ax.of (a:=39) (by rw[Ca<|S.w aa];rfl) ?_;exact ax.of (E aa 29)<|(@V2<|n+15) aA di a7<|S1 (S:=S.w aa) bg aj<|q u aa g ty
theorem T6{t:Č}{F:bv->IF aF}{key:bv}{cD nm Y aH:č}{v:B}{c:Č}{aV:č}{d:IF fZ}{cA cs:B}(T:Rows S.R)(h:gb S.R t F)(aA:Y=0\/Y=1\/Y=2)(di:aH=0\/aH=1\/aH=2)(aE:(k=6/\key=.S/\cA=.tup [])\/(k=7/\key=.N/\cs=.tup []))(BS:f1 S.X v (.idx k<|gm<|some (c,aV)))(aq:S.R.length+7<=a3)(q:∀u aa,a9 S.R aa 7->d3.Ty aa u (je Y<|F key)->Q .none ((S.w aa).x<|ds S.X d (if k=6 then .tup [au u,.int<|gW aH aV]else cA)<|if k=7 then .tup [au u,.int<|gW aH aV]else cs).st):bc (n+16) 52 [.ref 10,fT cD nm t Y aH,.ref<|S.X.length+11,v,au k,.bool false] (S.x<|ds S.X d cA cs).st Q:=by
 obtain⟨m,rfl,l,G,E⟩:=xx (S:=S.x<|ds S.X d cA cs) (BS.app:f1 (S.X++_) v (.idx k _));cases G;have l3:=E S.R;have yr:(k=6/\cA=.tup [])\/(k=7/\cs=.tup []):=aE.imp (λh=>⟨h.1,h.2.2⟩) λh=>⟨h.1,h.2.2⟩;have ab:gF S.R k key:=by rcases aE with⟨e,a8,_⟩|⟨e,a8,_⟩<;>rw[e,a8]<;>rfl
 have dV:∀x,key≠.txt x:=λx e=>by rcases aE with h|h<;>exact nomatch h.2.1.symm.trans e
 have Gk:(!(decide ((6:č)=k)||(decide ((7:č)=k)||(decide ((0:č)=k)||false))))=false:=by rcases aE with h|h<;>rw[h.1]<;>rfl
 clear aE;have fin:∀u (bu:IF B),a9 S.R bu 7->d3.Ty bu u (je Y<|F key)->∀(i1 po Ge tb yh KS:co),bw (n+15) [.set 12<|.ite (.cmp (.at (.v 3) 1) [(.ne,.tup [])]) (.ao (.at (.v 3) 1)<|.k<|.int 1)<|.k<|.int 0,.ex<|.cQ (.v 2) 4 [.v 6,.cmp (.v 4) [(.eq,.k<|.int 7)],.v 11,.call 45 [.ao (.v 1)<|.k<|.int 6,.v 12]]] [i1,.val<|fT cD nm t Y aH,.val<|.ref<|S.X.length+11,.val<|.ref m,.val<|au k,.val<|.bool false,.val<|.ref 1,po,Ge,tb,yh,.val<|au u,KS] ((S.w bu).x<|ds S.X d cA cs).st (λcM _ ar=>Q cM.val ar):=λu bu g ty i1 po Ge tb yh KS=>ax.of (E bu 1)<|ax.of (E bu 1)<|ax.of (a:=40) (by rw[Ca<|S.w bu];rfl)<|yR di<|VT (S:=S.w bu) yr<|q u bu g ty;clear yr di q;k_go;refine CH (S:=S.x<|ds S.X d cA cs) T ab ?_;induction key using bv.casesOn with
 |txt x=>exact absurd rfl<|dV x
 |_=>
  refine ax.of (l3 29)<|ax.of (l3 1)<|bj.ir Gk<|bj.ir Gk<|ax.of (l3 28)<|wM (S:=S.x<|ds S.X d cA cs) T h ab (lj aq) λu aa g ty=>bj.el (λG=>bj.pK G ?_) λG=>?_
  .refine ER (S:=(S.x<|ds S.X d cA cs).w aa) g.ok ty rfl (hH (h.len _)<|jN rfl) (g.room aq<|aG rfl) λCJ bu bh D_=>?_;exact fin CJ bu (g.trans bh) (by unfold je;rw[bl G];exact D_) _ _ _ _ _ _
  .exact fin u aa (g.le<|aG rfl) (by unfold je;rw[bm G];exact ty) _ _ _ _ _ _
theorem IB(ai:IF c6)(b8 bQ:Ċ (Č×č)):im (hJ ai (.tup []) b8 bQ 0)=true:=by induction b8<;>induction bQ<;>exact lh (w7 λ_=>rfl) rfl
def uf (d:IF fZ):IF c6:=d.map λm=>(m.1,m.2.1,m.2.2,0)
theorem cE.app{bk:ĉ}{aS:IF Č}{b:IF dF}{cg bP:IF B}{Q:cj->aJ->St->Prop}{r:aJ}{s:St}(h:cE n bk aS b bP r s (nb (λr s=>cE n bk aS b cg r s Q) Q)):cE n bk aS b (bP++cg) r s Q:=by
 constructor;replace h:=h.of;induction bP generalizing r s with
 |nil=>exact h.of
 |cons v l ap=>
  refine ax.imp (λr h=>bw.mono h λf r s h=>?_) h;induction f with
  |ret=>exact h
  |go=>exact ap h
theorem HL{cD d5 Y aH:č}{v:B}(q:Q (.tup [v]) s):bc (n+1) 50 [.ref 10,fT cD (-1) d5 Y aH,v] s Q:=by k_go;exact q
theorem V_{ai:IF c6}{b8 bQ:Ċ (Č×č)}{arg:B}(T:Rows S.R)(ak:items arg=some (ai.map fh))(b7:(ai.map (·.1)).Nodup)(aj:ai.length<64)(aq:S.R.length+1<=a3)(q:∀t dO aa,a9 S.R aa 1->(dO.map (·.1)).Pairwise n5->(∀p,p∈dO↔p∈ai)->aa[t]?=some (hJ dO (.tup []) b8 bQ 0)->Q (au t) (S.w aa).st):bc (n+2) 10 [.ref 1,arg,.tup [],.tup [],gm b8,gm bQ,.int 0] S.st Q:=by k_go;exact U_ ak b7 aj λdO G E aC=>e6 T (IB dO b8 bQ) aq λt aa g e=>q t dO aa g G E e
theorem P9{d:IF fZ}(b7:(d.map (·.1)).Nodup){m:fZ}(aN:m∈d):fv (.str m.1) (iI d)=some (some<|.tup [au m.2.1,.int m.2.2]):=by
 rcases yp (k:=.str m.1) rfl (z3 d)with⟨v,af,e⟩|⟨af,e⟩
 .rw[e];obtain⟨z,hz,a8⟩:=dq.mp af;clear af;have G:z.1=m.1:=B.str.inj<|bH Prod.fst a8;have:z=m:=by
   have nx:∀(l:IF fZ),(l.map (·.1)).Nodup->z∈l->m∈l->z=m:=by
    intro l;induction l with
    |nil=>intro _ h;cases h
    |cons a r ap=>
     intro b7 hz ae;rw[gf,hK]at b7;rcases eD.mp hz with ag|wJ<;>rcases eD.mp ae with a8|vX
     .rw[ag,a8]
     .exact absurd (fx (f:=λx:fZ=>x.1) vX) (by rw[<-G,ag];exact b7.1)
     .exact absurd (fx (f:=λx:fZ=>x.1) wJ) (by rw[G,a8];exact b7.1)
     .exact ap b7.2 wJ vX
   exact nx d b7 hz aN
  rw[<-this];exact bH (λx:B×B=>some<|some x.2) a8.symm
 .exfalso;apply af;rw[Lc];exact fx<|fx (f:=λx:fZ=>x.1) aN
theorem Rv(S:dy)(d:IF fZ)(cA cs:B):(S.x<|ds S.X d cA cs).st[S.X.length+13]?=some (.ls<|nA d):=by show(ds S.X d cA cs)[S.X.length+2]?=_;unfold ds;rw[o7<|nv _ _,Em];rfl
theorem OM(S:dy)(d:IF fZ)(cA cs:B):(S.x<|ds S.X d cA cs).st[S.X.length+12]?=some (.cP<|iI d):=by show(ds S.X d cA cs)[S.X.length+1]?=_;unfold ds;rw[o7<|kc _,show S.X.length+1-S.X.length=1 by lia];rfl
theorem Px{d:IF fZ}{b8 bQ:Ċ (Č×č)}(T:Rows S.R)(b7:(d.map (·.1)).Nodup)(aj:d.length<64)(aq:S.R.length+1<=a3)(q:∀t dO aa,a9 S.R aa 1->(dO.map (·.1)).Pairwise n5->(∀p,p∈dO↔p∈uf d)->aa[t]?=some (hJ dO (.tup []) b8 bQ 0)->Q (au t) ((S.w aa).x<|ds S.X d (gm b8)<|gm bQ).st):bc (n+3) 41 [.ref<|S.X.length+11,.ref 1] (S.x<|ds S.X d (gm b8)<|gm bQ).st Q:=by
 have IQ:∀m∈d,hn (S.x<|ds S.X d (gm b8)<|gm bQ).st (.ref<|S.X.length+12) (.str m.1)=some (.tup [au m.2.1,.int m.2.2]):=by intro m aN;show(_:Ċ c5).bind _=_;rw[OM];show(if _ then _ else _)=_;rw[Cz,P9 b7 aN];rfl
 k_go;refine dj.nB rfl<|ax.of ((rs S d _ _ 5).trans rfl)<|Qj (f:=λm:fZ=>eo m.1) (g:=λm=>fh (m.1,m.2.1,m.2.2,0)) (Rv S d _ _) (λm aN bT a_=>?_) ?_
 .refine eR.mk ?_;lk;exact ax.of ((rs S d _ _ 0).trans rfl)<|ax.of (IQ m aN)<|ax.of ((rs S d _ _ 0).trans rfl)<|ax.of (IQ m aN) a_
 .refine ax.of ((rs S d _ _ 26).trans rfl)<|ax.of ((rs S d _ _ 27).trans rfl) ?_;refine V_ (S:=S.x<|ds S.X d (gm b8)<|gm bQ) (ai:=uf d) T (by unfold uf;rw[f2];rfl) (by unfold uf;rw[f2];exact b7) (by unfold uf;simpa using aj) aq λt dO aa g G E aC=>?_;exact q t dO aa g G E aC
abbrev Tm:=bx×č
def qK(R:IF B)(F:bv->IF aF)(Y aH:č)(m:fZ)(p:Tm):Prop:=m.1=p.1/\m.2.2=qv Y aH p.2/\d3.Ty R m.2.1 (fC Y (q2 p.2)<|F<|.txt p.1)
theorem qK.bf{R aa:IF B}{F:bv->IF aF}{Y aH:č}{m:fZ}{p:Tm}{c:Č}(h:qK R F Y aH m p)(g:a9 R aa c):qK aa F Y aH m p:=⟨h.1,h.2.1,h.2.2.bf g⟩
def lS(R:IF B)(Y aH:č)(K:IF aF):Ċ (Č×č)->Ċ (Č×č)->Prop
 |none,c=>c=none
 |some (_,aV),c=>∃u,c=some (u,gW aH aV)/\d3.Ty R u (je Y K)
theorem lS.bf{R aa:IF B}{Y aH:č}{K:IF aF}{a b:Ċ (Č×č)}{c:Č}(h:lS R Y aH K a b)(g:a9 R aa c):lS aa Y aH K a b:=by
 rcases a with _|⟨t,aV⟩
 .exact h
 .obtain⟨u,G,E⟩:=h;exact⟨u,G,E.bf g⟩
structure jp(R:List B)(F:bv->List aF)(Y aH:Int)(ay:List Tm)(b8 bQ:Option (Nat×Int))(t:Nat)(ai:List c6)(du dv:Option (Nat×Int)):Prop where
 row:R[t]?=some (hJ ai (.tup []) du dv 0)
 fB:(ai.map (·.1)).Pairwise n5
 to:∀p∈ai,p.2.2.2=0/\∃m∈ay,qK R F Y aH (p.1,p.2.1,p.2.2.1) m
 of:∀m∈ay,∃p∈ai,qK R F Y aH (p.1,p.2.1,p.2.2.1) m
 six:lS R Y aH (F .S) b8 du
 sV:lS R Y aH (F .N) bQ dv
theorem jp.bf{R aa:IF B}{F:bv->IF aF}{Y aH:č}{ay:IF Tm}{b8 bQ:Ċ (Č×č)}{t:Č}{ai:IF c6}{du dv:Ċ (Č×č)}{c:Č}(h:jp R F Y aH ay b8 bQ t ai du dv)(g:a9 R aa c):jp aa F Y aH ay b8 bQ t ai du dv:=⟨g.at h.row,h.fB,λp ae=>⟨(h.to p ae).1,(h.to p ae).2.imp λm x=>⟨x.1,x.2.bf g⟩⟩,λm aN=>(h.of m aN).imp λp x=>⟨x.1,x.2.bf g⟩,h.six.bf g,h.sV.bf g⟩
theorem bW.mem{av b9:Type}{P:av->b9->Prop}{l:IF av}{m:IF b9}(x:bW P l m):∀b∈m,∃a∈l,P a b:=by
 induction x with
 |nil=>exact λb h=>nomatch h
 |cons x y ap=>
  intro b h;cases h with
  |head=>exact⟨_,.head _,x⟩
  |tail _ h=>obtain⟨a,G,E⟩:=ap b h;exact⟨a,.tail _ G,E⟩
theorem bW.wd{av b9:Type}{P:av->b9->Prop}{l:IF av}{m:IF b9}(x:bW P l m):∀a∈l,∃b∈m,P a b:=by
 induction x with
 |nil=>exact λb h=>nomatch h
 |cons x y ap=>
  intro b h;cases h with
  |head=>exact⟨_,.head _,x⟩
  |tail _ h=>obtain⟨a,G,E⟩:=ap b h;exact⟨a,.tail _ G,E⟩
theorem bW.map{av b9 dB:Type}{P:av->b9->Prop}{f:av->dB}{g:b9->dB}{l:IF av}{m:IF b9}(x:bW P l m)(h:∀a b,P a b->f a=g b):l.map f=m.map g:=bW.rec (motive:=λl m _=>l.map f=m.map g) rfl (λx _ ap=>List.cons_eq_cons.mpr ⟨h _ _ x,ap⟩) x
theorem bW.names{R:IF B}{F:bv->IF aF}{Y aH:č}{d:IF fZ}{l:IF Tm}(x:bW (qK R F Y aH) d l):d.map (·.1)=l.map (·.1):=x.map λ_ _ h=>h.1
def yn (p:c6):Tm:=(p.1,p.2.2.1)
theorem cE.al{av:Type}{P:B->av->Prop}{bk:ĉ}{aS:IF Č}{b:IF dF}{Q:cj->aJ->St->Prop}{bP:IF B}{all:IF av}(al:bW P bP all)(fw:IF av->(aJ->St->Prop)->Prop)(ba:∀done v a a',all=done++a::a'->P v a->∀K:aJ->St->Prop,fw (done++[a]) K->fw done λr s=>ax (iO bk aS v r) λr=>bw n b r s<|nb K Q)(cN:fw all (Q .go)){r:aJ}{s:St}(h:∀K:aJ->St->Prop,fw [] K->K r s):cE n bk aS b bP r s Q:=by
 have key:∀(a' done:IF av) (l:IF B),all=done++a'->bW P l a'->fw done (nJ (bw n b) bk aS Q l):=by
  intro a';induction a' with
  |nil=>intro done l e al;obtain rfl:l=[]:=al.of;rw[gN]at e;exact e▸cN
  |cons a a' ap=>intro done l e al;obtain⟨_,l,rfl,x,y⟩:=al.un;exact ba done _ a a' e x _<|ap _ _ (by rw[e,hF];rfl) y
 exact⟨h _<|key all [] bP rfl al⟩
theorem bW.comp{av b9 dB:Type}{P:av->b9->Prop}{r9:b9->dB->Prop}{l:IF av}{m:IF b9}(x:bW P l m):∀{k:IF dB},bW r9 m k->bW (λa c=>∃b,P a b/\r9 b c) l k:=by
 induction x with
 |nil=>intro k y;cases y;exact .nil
 |cons x _ ap=>intro k y;cases y with|cons y J3=>exact .cons ⟨_,x,y⟩<|ap J3
theorem bW.parts{av b9:Type}{P:av->b9->Prop}{a b:IF b9}:∀{l:IF av},bW P l (a++b)->dX λmw nI=>dJ (l=mw++nI) (bW P mw a) (bW P nI b):=by
 induction a with
 |nil=>exact λh=>⟨[],_,rfl,.nil,h⟩
 |cons e a ap=>intro l h;obtain⟨_,l,rfl,x,y⟩:=bW.un h;obtain⟨mw,nI,rfl,G,E⟩:=ap y;exact⟨_::mw,nI,rfl,.cons x G,E⟩
theorem Lk{v:B}{e:gr}{d:IF fZ}{cA cs:B}{R:IF B}{l:IF (Č×B)}(af:f1 S.X v e)(a6:e.ct=.ins 6 ((28,au k)::l)):n1 ((S.w R).x<|ds S.X d cA cs).st v 28=some (au k):=by obtain⟨m,rfl,dh,G,E⟩:=xx (S:=S.x<|ds S.X d cA cs) (af.app:f1 (S.X++_) v e);rw[G]at a6;have:=E R 28;injection a6 with _ a6;rw[a6]at this;exact this
def Ce (S:dy) (row:B) (aP:IF B) (c1 dg cY:co):aJ:=[.val<|.ref 10,.val row,.val<|.lst aP,.val<|.bool false,.val<|.ref<|S.X.length+11,c1,dg,cY]
noncomputable abbrev X7:IF dF:=[.set 6<|.call 50 [.v 0,.v 1,.at (.v 5) 28],.iff (.cmp (.v 6) [(.is,.k .none)]) [.ret<|.cQ (.at (.v 0) 25) 0 [.v 1]] [],.for false [7] (.v 6) [.ex<|.call 52 [.v 0,.v 1,.v 4,.v 5,.v 7,.v 3]]]
theorem E9{t:Č}{F:bv->IF aF}{key:bv}{cD Y aH:č}{aP ph:IF B}{c:Ċ (Č×č)}{d:IF fZ}{cA cs:B}{c1 dg cY:co}{Q:cj->aJ->St->Prop}(T:Rows S.R)(h:gb S.R t F)(aA:Y=0\/Y=1\/Y=2)(di:aH=0\/aH=1\/aH=2)(aE:(k=6/\key=.S/\cA=.tup [])\/(k=7/\key=.N/\cs=.tup []))(al:bW (f1 S.X) ph (kU k c))(aq:S.R.length+7<=a3)(q:∀iL aa c1 dg cY,a9 S.R aa 7->lS aa Y aH (F key) c iL->Q .go (Ce S (fT cD (-1) t Y aH) aP c1 dg cY) ((S.w aa).x<|ds S.X d (if k=6 then gm iL else cA)<|if k=7 then gm iL else cs).st):cE (n+18) false [5] X7 ph (Ce S (fT cD (-1) t Y aH) aP c1 dg cY) (S.x<|ds S.X d cA cs).st Q:=by
 induction c with
 |none=>
  have e:(if k=6 then gm none else cA)=cA/\(if k=7 then gm none else cs)=cs:=by rcases aE with⟨rfl,-,rfl⟩|⟨rfl,-,rfl⟩<;>exact⟨rfl,rfl⟩
  have q:=q none S.R c1 dg cY (a9.refl T) rfl;rw[e.1,e.2]at q;cases al;exact⟨q⟩
 |some c=>obtain⟨c,aV⟩:=c;cases al with|@cons v _ _ _ af al=>cases al;lk;refine ax.of (Lk (R:=S.R) af rfl)<|HL ?_;lk;refine T6 T h aA di aE af aq λu dZ cL ty=>?_;lk;exact(q (some (u,gW aH aV)) dZ (.val v) (.val<|.tup [au k]) (.val<|au k) cL ⟨u,rfl,ty⟩)
theorem Ji{t:Č}{F:bv->IF aF}{cD Y aH:č}{aP:IF B}{ay:IF gr}{ai:IF c6}{b8 bQ:Ċ (Č×č)}(T:Rows S.R)(h:gb S.R t F)(aA:Y=0\/Y=1\/Y=2)(di:aH=0\/aH=1\/aH=2)(cr:bW (f1 S.X) aP (ay++(kU 6 b8++kU 7 bQ)))(ms:bW (pb S.R) ay ai)(a7:∀p∈ai,0<=p.2.2.1)(b7:(ai.map (·.1)).Nodup)(aj:ai.length<=40)(aq:S.R.length+400<=a3)(q:∀u cd du dv aa eg,a9 S.R aa 400->jp aa F Y aH (ai.map yn) b8 bQ u cd du dv->Q (au u) ((S.w aa).x<|S.X++eg).st):bc (n+19) 53 [.ref 10,fT cD (-1) t Y aH,.lst aP,.bool false] S.st Q:=by
 obtain⟨ML,fc,rfl,eZ,hm⟩:=cr.parts;clear cr;obtain⟨ph,vP,rfl,fP,k2⟩:=hm.parts;clear hm;k_go;refine OZ ⟨rfl,cE.app<|cE.al (eZ.comp ms) (λdone K=>∀aa d c1 dg cY,a9 S.R aa (8*done.length)->bW (qK aa F Y aH) d (done.map yn)->K (Ce S (fT cD (-1) t Y aH) (ML++(ph++vP)) c1 dg cY) ((S.w aa).x<|ds S.X d (gm none)<|gm none).st) (λdone v p a' ag af K ab aa d c1 dg cY g lU=>?_) (λaa d c1 dg cY g lU=>?_) λK ab=>ab S.R [] _ _ _ (a9.refl T) .nil⟩
 .obtain⟨e,af,aN⟩:=af;obtain⟨k,rfl,aE⟩:=aN;have oS:d.length<=1000:=by rw[lU.len,bV];exact aI (lj<|oq ag aj)<|aG rfl
  lk;refine ax.of (Lk (R:=aa) af rfl) ?_;lk;refine HL ?_;lk;refine Op (S:=S.w aa) g.ok (h.bf g) aA di af (aE.bf g) (a7 p<|by rw[ag];exact iC _<|.head _) ?_ oS (g.turn ag aj aq) λu bu bh ty=>?_
  .rw[lU.names,f2];intro jM;rw[ag,cZ,m4]at b7;exact b7.2.2 p.1 jM p.1 (.head _) rfl
  .have ab:=ab bu (d++[(p.1,u,qv Y aH p.2.2.1)]) (.val v) (.val<|.tup [au k]) (.val<|au k) (g.step bh<|dA _) (by rw[cZ];exact(lU.imp λa b h=>h.bf bh).snoc ⟨rfl,rfl,ty⟩);lk;exact ab
 .have HO:a9 S.R aa 320:=g.le<|hh 8 aj;have AJ:=lU.names;have oS:d.length<64:=by rw[lU.len,bV];exact hH aj<|aG rfl
  have PU:(d.map (·.1)).Nodup:=by rw[AJ,f2];exact b7
  refine cE.app<|E9 (S:=S.w aa) (k:=6) (key:=.S) (c:=b8) g.ok (h.bf g) aA di (.inl ⟨rfl,rfl,rfl⟩) fP (HO.room aq<|aG rfl) λdu bu c1 dg cY bh d7=>?_;have cL:=HO.trans bh;refine E9 (S:=S.w bu) (k:=7) (key:=.N) (c:=bQ) bh.ok ((h.bf g).bf bh) aA di (.inr ⟨rfl,rfl,rfl⟩) k2 (cL.room aq<|aG rfl) λdv dZ c1 dg cY hT fm=>?_;have li:=cL.trans hT;refine ax.of (a:=41) (by rw[Ca<|S.w dZ];rfl) ?_;refine Px (S:=S.w dZ) li.ok PU oS (li.room aq<|aG rfl) λu cd rt mz wt qx CO=>q u cd du dv rt _ ((li.trans mz).le<|aG rfl) ⟨CO,wt,λp ae=>?_,λm aN=>?_,(d7.bf hT).bf mz,fm.bf mz⟩
  .obtain⟨z,hz,rfl⟩:=dq.mp<|(qx p).mp ae;obtain⟨b,aw,e1⟩:=lU.wd z hz;exact⟨rfl,b,aw,((e1.bf bh).bf hT).bf mz⟩
  .obtain⟨z,hz,e1⟩:=lU.mem m aN;exact⟨_,(qx _).mpr<|fx hz,((e1.bf bh).bf hT).bf mz⟩
theorem GV{av b9:Type}(f:av->b9):∀{l dh:IF av},l.map f=dh.map f->(∀p∈l,∀et∈dh,f p=f et->p=et)->l=dh
 |[],[],_,_=>rfl
 |[],_::_,h,_=>by cases h
 |_::_,[],h,_=>by cases h
 |a::l,b::dh,h,k=>by rw[gf,gf,sx]at h;rw[k a (.head _) b (.head _) h.1,GV f h.2 λp ae et hI=>k p (.tail _ ae) et<|.tail _ hI]
theorem lS.inj{R:IF B}(T:Rows R){Y aH:č}{K:IF aF}{a hm b eA:Ċ (Č×č)}(h:lS R Y aH K a b)(aR:lS R Y aH K hm eA)(e:a.map (·.2)=hm.map (·.2)):b=eA:=by
 rcases a with _|⟨t,aV⟩<;>rcases hm with _|⟨dM,é⟩
 .rw[show b=none from h,show eA=none from aR]
 .exact b0 e
 .exact ly e
 .cases e;obtain⟨u,rfl,E⟩:=h;obtain⟨iu,rfl,l1⟩:=aR;rw[E.inj T l1]
theorem jp.inj{R:IF B}(T:Rows R){F:bv->IF aF}{Y aH:č}{ay Jg:IF Tm}{b8 bQ u5 v7:Ċ (Č×č)}{t dM:Č}{ai dO:IF c6}{du dv Tg Zc:Ċ (Č×č)}(h:jp R F Y aH ay b8 bQ t ai du dv)(aR:jp R F Y aH Jg u5 v7 dM dO Tg Zc)(aN:∀m,m∈ay↔m∈Jg)(fn:∀m∈ay,∀iW∈ay,m.1=iW.1->m=iW)(fz:b8.map (·.2)=u5.map (·.2))(kZ:bQ.map (·.2)=v7.map (·.2)):t=dM:=by
 have v0:ai=dO:=by
  refine GV (λp=>p.1) (YS h.fB aR.fB λx=>?_) λp ae et hI e=>?_
  .constructor
   .intro az;obtain⟨p,ae,rfl⟩:=dq.mp az;clear az;obtain⟨m,gg,aw⟩:=(h.to p ae).2;obtain⟨et,hI,mi⟩:=aR.of m<|(aN m).mp gg;rw[show p.1=et.1 from aw.1.trans mi.1.symm];exact fx (f:=λx:c6=>x.1) hI
   .intro az;obtain⟨p,ae,rfl⟩:=dq.mp az;clear az;obtain⟨m,gg,aw⟩:=(aR.to p ae).2;obtain⟨et,hI,mi⟩:=h.of m<|(aN m).mpr gg;rw[show p.1=et.1 from aw.1.trans mi.1.symm];exact fx (f:=λx:c6=>x.1) hI
  .obtain⟨c7,m,gg,kg,jO,ll⟩:=h.to p ae;obtain⟨Wm,iW,Se,Qf,Tv,OR⟩:=aR.to et hI;have:m=iW:=fn m gg iW ((aN iW).mpr Se)<|kg.symm.trans<|(show p.1=et.1 from e).trans Qf;subst this;exact m9 e<|m9 (ll.inj T OR)<|m9 (jO.trans Tv.symm)<|c7.trans Wm.symm
 have r:=h.row;rw[v0,h.six.inj T aR.six fz,h.sV.inj T aR.sV kZ]at r;exact T.inj r aR.row
theorem bW.Y6{R:IF B}{ay:IF gr}{ai:IF c6}(x:bW (pb R) ay ai):bW (pb R) (ay.filter oz) (ai.filter λp=> !h7 p.1):=by
 induction x with
 |nil=>exact .nil
 |@cons e p _ _ x y ap=>
  obtain⟨k,rfl,aE⟩:=id x;rw[hQ,hQ];show bW _ (if(!h7 p.1)=true then _ else _) _;induction h7 p.1 with
  |false=>exact .cons x ap
  |true=>exact ap
def rW (ai:IF c6):IF Tm:=((ai.filter λp=>nT p.2.2.1).filter λp=> !h7 p.1).map yn
theorem M7{t src o:Č}{F:bv->IF aF}{cD Y aH cK fd:č}{l:IF B}{ai:IF c6}{eG:B}{b8 bQ:Ċ (Č×č)}(T:Rows S.R)(h:gb S.R t F)(aA:Y=0\/Y=1\/Y=2)(di:aH=0\/aH=1\/aH=2)(aK:S.R[src]?=some (.tup<|.int cK::l))(aE:cK=8\/cK=9)(sL:∀m bT,bT (au o) S.st->bc (m+4) 28 [.ref 10,au src] S.st bT)(bn:S.R[o]?=some (hJ ai eG b8 bQ fd))(az:∀p∈ai,p.1∈iQ)(a7:∀p∈ai,0<=p.2.2.1)(b7:(ai.map (·.1)).Nodup)(aj:ai.length<=7)(aq:S.R.length+500<=a3)(q:∀u cd du dv aa eg,a9 S.R aa 500->jp aa F Y aH (rW ai) b8 bQ u cd du dv->Q (au u) ((S.w aa).x<|S.X++eg).st):bc (n+21) 59 [.ref 10,fT cD (-1) t Y aH,au src] S.st Q:=by
 have fG:cK≠11:=by rcases aE with e|e<;>rw[e]<;>decide
 have gz:cK≠12:=by rcases aE with e|e<;>rw[e]<;>decide
 k_go;lk;refine uq aK (aE.imp id .inl)<|bj.fp fG<|bj.fp gz<|dj.nB rfl<|W3 T (λbT a_=>sL _ bT a_) bn a7 (aI aj<|aG rfl) (aI (gu (aI aj<|aG rfl) _) aq) λaa eg aP ay g eZ fP=>?_;replace g:=g.le aj;have sc:∀k c,(kU k c).length<=1:=by rintro k(_|c)<;>exact aG rfl
 have on:(ay++(kU 6 b8++kU 7 bQ)).length<=9:=by rw[da,da];exact gG (aI (fQ fP.len)<|aI (mB _ _) aj)<|gG (sc 6 b8)<|sc 7 bQ
 have IM:∀k c,(kU k c).filter oz=kU k c:=by rintro k(_|c)<;>rfl
 refine X9 (S:=(S.w aa).x<|S.X++eg) (i1:=.un) (x:=.none) (N:=0) g.ok eZ (λe a6 k p P7=>?_) (aI (gu on _)<|g.room aq<|aG rfl) λbu ph bh iF=>?_
 .rw[P7]at a6;rcases gh.mp a6 with a6|a6
  .obtain⟨et,hI,iw,ag,_⟩:=fP.wd _ a6;cases ag;exact az p (gC.mp hI).1
  .rcases gh.mp a6 with a6|a6
   .rcases b8 with _|c
    .exact nomatch a6
    .exact nomatch cU.mp a6
   .rcases bQ with _|c
    .exact nomatch a6
    .exact nomatch cU.mp a6
 .replace bh:=bh.le on;rw[l7,l7,IM,IM]at iF;have cL:=g.trans bh;refine Ji (S:=((S.w aa).x<|S.X++eg).w bu) bh.ok (h.bf cL) aA di iF ((fP.imp λa b h=>h.bf bh).Y6:bW (pb bu) (ay.filter oz) (((ai.filter λp=>nT p.2.2.1).filter λp=> !h7 p.1))) (λp ae=>a7 p (gC.mp (gC.mp ae).1).1) (((A4.trans A4).map _).nodup b7) (aI (mB _ _)<|aI (mB _ _)<|aI aj<|aG rfl) (cL.room aq<|aG rfl) λu cd du dv dZ Xz hT to=>?_;have q:=q u cd du dv dZ (eg++Xz) ((cL.trans hT).le<|aG rfl) to;rw[<-hF]at q;exact q
def hR.good:hR->Prop
 |.fix K=>Drawn K
 |.tab d1 ey d0=>Drawn d1/\Drawn ey/\(∀a∈d0,a∈q1)/\d0.length<=9/\(∀a∈d1,a∈d0)/\∀a∈ey,a∈d0
 |_=>True
structure cJ.good(p:cJ):Prop where
 e4:p.e4<4
 iq:p.iq.good
theorem cJ.good.ok{p:cJ}(h:p.good):p.ok:=by
 refine⟨h.e4,λk=>?_⟩;have aw:=h.iq;induction e:p.iq with
 |own=>exact h4 rfl
 |key=>exact h4 rfl
 |fix K=>rw[e]at aw;have:=Drawn.len aw;show K.length<=12;exact fY ‹_›
 |tab d1 ey d0=>rw[e]at aw;obtain⟨aU,ak,_,aK,_,_⟩:=aw;exact J4 (M:=λK:IF aM=>K.length<=12) (aI aU.len<|aG rfl) (aI ak.len<|aG rfl) (aI aK<|aG rfl) k
theorem rC{K:IF aM}(h:∀a∈K,a∈q1):xZ K:=λk aE=>by have:=h _ aE;simp[q1]at this
theorem yJ{K:IF aM}{hE:B}(ab:Drawn K)(T:Rows S.R)(aq:S.R.length+8<=a3)(q:∀t aa,a9 S.R aa 7->h0.Ty aa t K->Q (au t) (S.w aa).st):bc (n+5) 75 [.ref 1,hE,.lst<|K.map aM.aW] S.st Q:=ss T ab.len rfl (hb ‹_›) rfl (λk aE=>absurd aE<|rC ab.oL k) q
theorem Qn(dc:oE S.nums)(bg:S.d<=80000)(q:∀(p:cJ) d,p.good->d<=S.d+14->Q p.aW (S.go d).st):bc (n+3) 79 [.ref 0] S.st Q:=by
 k_go;refine hx dc (aI bg<|aG rfl) (by decide) λbase aw=>?_;refine hx (S:=S.go<|S.d+1) dc (aI (c' bg)<|aG rfl) (by decide) λe4 qn=>?_;have xh:e4<4:=gO qn;have xW:∀{a b:Č},Nat.ble b 14=true->a<=S.d+b->a<=S.d+14:=λe h=>aI h<|gu (aG e) _;have yH:∀{a b:Č},Nat.ble b 14=true->a<=S.d+b->a<=90000:=λe h=>aI (xW e h)<|aI (fL bg 14)<|aG rfl;rcases yg (gO aw)with er|er|er|er<;>rw[er]
 .exact q ⟨.own,e4⟩ (S.d+1+1) ⟨xh,trivial⟩<|xW (b:=2) rfl<|dA _
 .exact q ⟨.key,e4⟩ (S.d+1+1) ⟨xh,trivial⟩<|xW (b:=2) rfl<|dA _
 .exact rV (S:=S.go<|S.d+1+1) dc (yH (b:=2) rfl<|dA _) λK d _ E ab=>q ⟨.fix K,e4⟩ d ⟨xh,ab⟩<|xW (b:=6) rfl E
 .refine rV (S:=S.go<|S.d+1+1) dc (yH (b:=2) rfl<|dA _) λd1 IC _ E tw=>?_;replace E:IC<=S.d+6:=E;refine⟨rfl,ax.of rfl ⟨h4 rfl,?_⟩⟩;refine rV (S:=S.go IC) dc (yH rfl E) λey t_ _ ba zJ=>?_;replace ba:t_<=S.d+10:=aI ba<|fL E 4;refine⟨rfl,ax.of rfl ⟨h4 rfl,?_⟩⟩;refine rV (S:=S.go t_) dc (yH rfl ba) λd0 xM _ d7 o1=>?_;have aC:∀{a b:IF aM},a.length<=3->b.length<=3->(a.map aM.aW).length+(b.map aM.aW).length<=6:=λak aw=>by rw[bV,bV];exact gG ak aw
  refine ax.of (lg<|aI (aC o1.len tw.len)<|aG rfl) ?_;refine ax.of (lg<|aI (by rw[da];exact gG (aC o1.len tw.len) (aI (fQ<|bV _) zJ.len):_<=9)<|aG rfl) ?_;refine⟨rfl,ax.of rfl ⟨h4 rfl,?_⟩⟩;have q:=q ⟨.tab d1 ey<|d0++d1++ey,e4⟩ xM ⟨xh,tw,zJ,λa ak=>(gh.mp ak).elim (λak=>(gh.mp ak).elim (o1.oL a)<|tw.oL a)<|zJ.oL a,by rw[da,da];exact gG (gG o1.len tw.len) zJ.len,λa h=>kz _<|iC _ h,λa h=>iC _ h⟩<|aI d7<|fL ba 4;rw[<-cZ,<-cZ];exact q
theorem JI{R:IF B}(T:Rows R){p:Č}{v:B}(h:R[p]?=some v)(af:∀x,v≠.tup [.int 1,.str x]):4<p:=by exact Nat.lt_of_not_le λq=>((by decide:∀p≤4,p=0\/p=1\/p=2\/p=3\/p=4) p q).elim (pj T h (t:=0) rfl<|af _) λq=>q.elim (pj T h (t:=1) rfl<|af _) λq=>q.elim (pj T h (t:=2) rfl<|af _) λq=>q.elim (pj T h (t:=3) rfl<|af _)<|pj T h (t:=4) rfl<|af _
theorem gj.un{R:IF B}{p:Č}(h:gj R p (-1)):ek R p [p]:=⟨by simp,λq a_=>⟨-1,by rw[cU]at a_;subst a_;exact h,λz _=>by lia⟩,.inr<|.inl rfl⟩
theorem K'{p:Č}{arg:B}(T:Rows S.R)(h:gj S.R p (-1))(ba:4<p)(ak:items arg=some [au p,au 4])(aq:S.R.length+1<=a3)(q:∀t aa,a9 S.R aa 1->ek aa t [4,p]->Q (au t) (S.w aa).st):bc (n+3) 20 [.ref 1,arg] S.st Q:=by
 refine zo T h.un ak (by simp) aq λt ai aa g u m=>q t aa g ?_;have:ai=[4,p]:=uG u.fB (tJ.mpr ⟨λx az=>by rw[cU.mp az];exact ba,List.pairwise_singleton _ _⟩) λz=>(m z).trans ⟨λh=>h.elim (λh=>.tail _ h) λe=>by rw[e];exact .head _,λh=>by
  cases h with
  |head=>exact .inr rfl
  |tail _ h=>exact .inl h⟩
 rw[<-this];exact u
theorem zz{e4 x:Č}{F:bv->IF aM}{i1 eZ fP k2 kv DD po tb yh:co}{Q:cj->aJ->St->Prop}(T:Rows S.R)(qn:e4<4)(e1:kI S.R x F)(az:(gj S.R x (-1)/\4<x)\/∃K,K.length<=11/\iR S.R x K/\F=λ_=>K)(aq:S.R.length+2<=a3)(q:∀t aa r,a9 S.R aa 2->gb aa t (λk=>gL e4<|F k)->Q (.ret<|au t) r (S.w aa).st):bw (n+5) [.iff (.cmp (.bin .mod (.v 5)<|.k<|.int 2) [(.eq,.k<|.int 1)]) [.set 8<|.cQ (.v 0) 0 [.tup [.k<|.int 11,.v 8,.k<|.int 0]]] [],.ret<|.ite (.cmp (.v 5) [(.gt,.k<|.int 1)]) (.call 20 [.v 0,.tup [.v 8,.k<|.int 4]])<|.v 8] [.val<|.ref 1,eZ,fP,k2,kv,.val<|.int e4,DD,po,.val<|au x,tb,yh] S.st Q:=by
 have VF:∀{R:IF B} {p:Č},Rows R->R[p]?=some (hX x 0)->gj R p (-1)/\4<p:=λT h=>⟨⟨⟨_,h,.arr _ _⟩,rY T h rfl⟩,JI T h λx q=>by cases q⟩;rcases(yg qn)with rfl|rfl|rfl|rfl
 .refine q x S.R _ (a9.refl T) ?_;rw[(funext λk=>by simp[gL]:(λk=>gL 0<|F k)=λk=>(F k).map .b)];exact .one<|.base e1
 .refine e6 T rfl (lj aq) λp aa g e=>q p aa _ (g.le<|aG rfl) ?_;rw[(funext λk=>rfl:(λk=>gL 1<|F k)=λk=>[.arr<|F k])];exact .one<|.arr (e1.bf g) e
 .rcases az with⟨ae,ba⟩|⟨K,ab,kW,rfl⟩
  .refine K' T ae ba rfl (lj aq) λt aa g u=>q t aa _ (g.le<|aG rfl) ?_;rw[(funext λk=>rfl:(λk=>gL 2<|F k)=λk=>(F k).map .b++[.b .bB])];exact .bB (.base<|e1.bf g) (ae.bf g) ba u
  .obtain⟨ai,u,i,aj⟩:=kW.ty.s7 T;refine zo T u rfl (hH (aI aj ab)<|jN rfl) (lj aq) λt dO aa g iu m=>q t aa _ (g.le<|aG rfl) ?_;rw[(funext λk=>by simp[gL]:(λ_:bv=>gL 2 K)=λ_=>(K++[aM.bB]).map .b)];have no:xZ (K++[aM.bB]):=λk aE=>by
    rcases gh.mp aE with aE|aE
    .exact kW.no k aE
    .rw[cU]at aE;cases aE
   exact .one<|.base<|.fix ⟨⟨dO,iu,(dd.Is.bB (Z:=h0) T i m).bf g⟩,no,by rw[da];exact c' ab⟩
 .refine e6 T rfl (lj aq) λp aa g e=>?_;obtain⟨ae,ba⟩:=VF g.ok e;have sT:=g.len;refine K' (S:=S.w aa) g.ok ae ba rfl (g.room aq<|aG rfl) λt bu bh u=>?_;refine q t bu _ (g.trans bh) ?_;rw[(funext λk=>rfl:(λk=>gL 3<|F k)=λk=>[.arr<|F k]++[.b .bB])];exact .bB (.arr ((e1.bf g).bf bh)<|bh.at e) (ae.bf bh) ba u
theorem Lj{R:IF B}(T:Rows R){p:Č}{a b:č}(h:R[p]?=some (oT a b)):gj R p (-1)/\4<p:=⟨⟨⟨_,h,.idx _ _⟩,rY T h rfl⟩,JI T h λx q=>by cases q⟩
theorem RG{p:cJ}(T:Rows S.R)(ae:p.good)(aq:S.R.length+100<=a3)(q:∀t aa,a9 S.R aa 100->gb aa t p.at->Q (au t) (S.w aa).st):bc (n+7) 81 [.ref 1,.int 16,.int 17,p.aW] S.st Q:=by
 obtain⟨iq,e4⟩:=p;obtain⟨qn,aw⟩:=ae;k_go;induction iq with
 |own=>lk;refine e6 T rfl (hb ‹_›) λx aa g e=>?_;have sT:=g.len;have bz:aa[x]?=some (oT 16 17):=e;lk;exact(@zz (n+1) (S.w aa) e4 x _ (.val<|.ref 1) (.val<|.int 16) (.val<|.int 17) (.val<|cJ.aW ⟨.own,e4⟩) (.val<|.int 0) (.val<|.lst []) (.val<|.bb []) .un .un (λcM _ ar=>Q cM.val ar) g.ok qn (.own bz) (.inl<|Lj g.ok bz) (by show aa.length+2<=a3;lia) λt bu r bh bk=>q t bu ((g.trans bh).le<|aG rfl) bk)
 |key=>lk;exact(@zz (n+1) S e4 17 _ (.val<|.ref 1) (.val<|.int 16) (.val<|.int 17) (.val<|cJ.aW ⟨.key,e4⟩) (.val<|.int 1) (.val<|.lst []) (.val<|.bb []) .un .un (λcM _ ar=>Q cM.val ar) T qn .key (.inl ⟨⟨⟨_,T.at rfl,.par _⟩,by decide⟩,by decide⟩) (hb ‹_›) λt bu r bh bk=>q t bu (bh.le<|aG rfl) bk)
 |fix K=>have ab:Drawn K:=aw;have q6:=ab.len;lk;refine ss T q6 rfl (hb ‹_›) rfl (λ_ _=>rfl) λx aa g ty=>?_;have sT:=g.len;have kW:iR aa x K:=⟨ty,rC ab.oL,by lia⟩;lk;exact(@zz (n+1) (S.w aa) e4 x _ (.val<|.ref 1) (.val<|.int 16) (.val<|.int 17) (.val<|cJ.aW ⟨.fix K,e4⟩) (.val<|.int 2) (.val<|.lst<|K.map aM.aW) (.val<|.bb []) .un .un (λcM _ ar=>Q cM.val ar) g.ok qn (.fix kW) (.inr ⟨K,fY ‹_›,kW,rfl⟩) (by show aa.length+2<=a3;lia) λt bu r bh bk=>q t bu ((g.trans bh).le<|by lia) bk)
 |tab d1 ey d0=>obtain⟨aU,ak,aK,te,JK,Iz⟩:=aw;have ø:=aU.len;have Ć:=ak.len;lk;refine dj.nB rfl ?_;lk;refine ss T aU.len rfl (hb ‹_›) rfl (λ_ _=>rfl) λia gp g Og=>?_;lk;refine ss (S:=S.w gp) g.ok ak.len rfl (g.room aq<|aG rfl) rfl (λ_ _=>rfl) λib bu bh Tr=>?_;replace g:=g.trans bh;lk;refine ss (S:=S.w bu) g.ok te rfl (g.room aq<|aG rfl) rfl (λ_ _=>rfl) λaS dZ cL YJ=>?_;replace g:=g.trans cL;lk;refine e6 (S:=S.w dZ) (row:=vu ia ib aS) g.ok rfl (g.room aq<|aG rfl) λaX rt hT L_=>?_;replace g:=g.trans hT;lk;refine e6 (S:=S.w rt) (row:=oT aX 17) g.ok rfl (g.room aq<|aG rfl) λx oc li ex=>?_;replace g:=g.trans li;have y6:kI oc x (nh d1 ey d0):=.tab ex (li.at L_) ⟨(((Og.bf bh).bf cL).bf hT).bf li,rC aU.oL,by have:=aU.len;lia⟩ ⟨((Tr.bf cL).bf hT).bf li,rC ak.oL,by have:=ak.len;lia⟩ ⟨(YJ.bf hT).bf li,rC aK,fY ‹_›⟩;lk;exact(λtb=>@zz (n+1) (S.w oc) e4 x _ (.val<|.ref 1) (.val<|.int 16) (.val<|.int 17) (.val<|cJ.aW ⟨.tab d1 ey d0,e4⟩) (.val<|.int 3) (.val<|.lst []) (.val<|.bb<|hR.table<|.tab d1 ey d0) tb .un (λcM _ ar=>Q cM.val ar) g.ok qn y6 (.inl<|Lj g.ok ex) (g.room aq<|aG rfl) λt DY r mz bk=>q t DY ((g.trans mz).le<|aG rfl) bk) _
theorem DT{a b:Č}(aw:0<b)(ak:a<=1000)(mi:b<=1000):Internal.bin .fdiv (au a) (au b)=some (au<|a/b):=by show(if(b:č)≠0/\(small a&&small b)=true then some (B.int<|Int.fdiv a b)else none)=_;rw[bl ⟨by lia,by rw[ih ak,ih mi];rfl⟩,<-Int.ofNat_fdiv]
theorem F9{a b:Č}(ak:a<=1000)(aw:b<=1000):Internal.bin .mul (au a) (au b)=some (au<|a*b):=by show(if(small a&&small b)=true then some (B.int<|(a:č)*b)else none)=_;rw[bl<|by rw[ih ak,ih aw];rfl];rfl
theorem bw.seq{n:Č}{c:dF}{l:IF dF}{r:aJ}{s:St}{Q:cj->aJ->St->Prop}(i:Č)(K:co->St->Prop)(G:wS n c r s λf b2 ar=>f=.go/\∃v,b2=r.set i v/\K v ar)(E:∀v ar,K v ar->bw n l (r.set i v) ar Q):bw n (c::l) r s Q:=by exact wS.mono G λf b2 ar h=>by obtain⟨rfl,v,rfl,aE⟩:=h;exact E v ar aE
theorem bw.to{n:Č}{c:dF}{l:IF dF}{r:aJ}{s:St}{Q:cj->aJ->St->Prop}(b2:aJ)(ar:St)(G:∀K:cj->aJ->St->Prop,K .go b2 ar->wS n c r s K)(E:bw n l b2 ar Q):bw n (c::l) r s Q:=G _ E
theorem bw.zQ{n:Č}{c:dF}{l:IF dF}{r:aJ}{s:St}{Q:cj->aJ->St->Prop}(i:Č)(fw:(co->St->Prop)->Prop)(G:∀K:co->St->Prop,fw K->wS n c r s λf b2 ar=>f=.go/\∃v,b2=r.set i v/\K v ar)(E:fw λv ar=>bw n l (r.set i v) ar Q):bw n (c::l) r s Q:=bw.seq i _ (G _ E) λ_ _ h=>h
theorem bw.Rm{n:Č}{c:a2}{t l:IF dF}{r:aJ}{s:St}{Q:cj->aJ->St->Prop}(h:dj n c r s λv ar=>js v=some false/\ar=s)(k:bw n l r s Q):bw n (.iff c t []::l) r s Q:=gy (bc.m n) c _ _ _ _ (λv ar h=>by show bj (js v) _ _;rw[h.1,h.2];exact k) h
theorem bw.DH{n i:Č}{l:IF dF}{r:aJ}{s:St}{Q:cj->aJ->St->Prop}(k:bw n l (r.set i<|.od []) s Q):bw n (.own i (.bb [])::l) r s Q:=k
theorem kD.go{n:Č}{l:IF dF}{r:aJ}{s:St}{Q:cj->aJ->St->Prop}(k:bw n l r s Q):kD (bw n l) Q .go r s:=k
theorem bw.C2{n i:Č}{l:IF dF}{r:aJ}{s:St}{d:IF (B×B)}{Q:cj->aJ->St->Prop}(e:r[i]?=some (.od d))(k:bw n l (r.set i<|.val<|.bb d) s Q):bw n (.a5 i::l) r s Q:=by show rp r[i]? (kD (bw n l) Q .go r s) λv=>kD (bw n l) Q .go (r.set i<|.val v) s;rw[e];exact k
theorem bw.XR{n i:Č}{e:a2}{aP:IF B}{l:IF dF}{r:aJ}{s:St}{Q:cj->aJ->St->Prop}(h:dj n e r s λv ar=>v=.lst aP/\ar=s)(k:bw n l (r.set i<|.ol aP) s Q):bw n (.own i e::l) r s Q:=gy (bc.m n) e _ _ _ _ (λv ar h=>by show r_ v _;rw[h.1,h.2];exact k) h
structure bO where
 nm:bx
 K:List aM
 o:Nat
 aV:Nat
 w:Nat
 h:Nat
def bO.aW (m:bO):B:=.tup [.str m.nm,.lst<|m.K.map aM.aW,au m.o,au m.aV,au m.w,au m.h]
structure bO.ok(m:bO):Prop where
 nm:m.nm∈iQ
 K:Drawn m.K
 o:m.o<2
 aV:m.aV<2
 w:m.w<3
 h:m.h<3
theorem Q0(v:Č)(af:v<7):∃x∈iQ,∀s,hn s (.lst<|iQ.map eo) (au v)=some (.str x):=uz af
theorem NB(x:bx)(l:IF bx):hN (.str x) (l.map eo)=some (decide<|x∈l):=by
 rcases DS (x:=.str x) rfl (l:=l.map eo) (λa ak=>by obtain⟨y,_,rfl⟩:=dq.mp ak;clear ak;rfl)with⟨h,e⟩|⟨h,e⟩
 .rw[e,dK];obtain⟨y,a1,e⟩:=dq.mp h;clear h;cases e;exact a1
 .rw[e,eC λq=>h<|fx q]
def A1 (dE:B) (l:IF B) (c1 dg cY cv:co):aJ:=[.val<|.ref 0,.val<|.ref 1,.val<|.lst<|iQ.map eo,.val dE,.ol l,c1,dg,cY,cv,.un,.un,.un,.un,.un,.un,.un,.un,.un,.un,.un,.un,.un,.un,.un,.un,.un,.un]
theorem zb(a b:Č):(a:č).fmod (b:Č)=((a%b:Č):č):=(Int.ofNat_fmod a b).symm
theorem Xy{Q:cj->aJ->St->Prop}{dE:B}{c:Č}(dc:oE S.nums)(bg:S.d<=70000)(aq:c<=4)(q:∀(M:IF bO) d c1 dg cY cv,d<=S.d+24->(∀m∈M,m.ok)->(M.map (·.nm)).Nodup->M.length<=4->Q .go (A1 dE (M.map bO.aW) c1 dg cY cv) (S.go d).st):cE (n+3) false [5] [.set 6<|.ao (.v 2)<|.bin .mod (.bin .add (.call 73 [.v 0,.k<|.int 7])<|.v 5)<|.k<|.int 7,.set 7<|.call 73 [.v 0,.k<|.int 60],.set 8<|.call 74 [.v 0],.iff (.cmp (.v 6) [(.f3,.comp (.ao (.v 23)<|.k<|.int 0) false [23] (.v 4) [])]) [.app 4<|.tup [.v 6,.v 8,.bin .mod (.v 7)<|.k<|.int 2,.bin .mod (.bin .fdiv (.v 7)<|.k<|.int 2)<|.k<|.int 2,.bin .mod (.bin .fdiv (.v 7)<|.k<|.int 4)<|.k<|.int 3,.ao (.lst [.k<|.int 0,.k<|.int 0,.k<|.int 0,.k<|.int 1,.k<|.int 2])<|.bin .fdiv (.v 7)<|.k<|.int 12]] []] ((List.range c).map au) (A1 dE [] .un .un .un .un) S.st Q:=by
 have aj:(List.range c).length<=4:=aI (fQ t3) aq;refine cE.mp (all:=List.range c) (f:=au) rfl (λdone K=>∀(M:IF bO) d c1 dg cY cv,d<=S.d+6*done.length->(∀m∈M,m.ok)->(M.map (·.nm)).Nodup->M.length<=done.length->K (A1 dE (M.map bO.aW) c1 dg cY cv) (S.go d).st) (λdone i a' ag K ab M d c1 dg cY cv E eO kX u1=>?_) (λM d c1 dg cY cv E eO kX u1=>q M d c1 dg cY cv (aI E<|gu (hh 6 aj) _) eO kX<|aI u1 aj) λK ab=>ab [] S.d _ _ _ _ (dA _) (λ_ h=>nomatch h) .nil<|dA _;have aB:=oq ag aj;have Bl:d<=70024:=aI E<|gG bg<|hh 6<|lj aB;rw[da]at ab;refine hx (S:=S.go d) dc (aI Bl<|aG rfl) (by decide) λv af=>?_;obtain⟨x,az,T4⟩:=Q0 ((v+i)%7)<|sg _<|jN rfl;refine ax.of (a:=.str x) (by rw[show((v:č)+(i:č)).fmod 7=(((v+i)%7:Č):č)from zb (v+i) 7];exact T4 _) ?_;refine hx (S:=S.go<|d+1) dc (aI (fL Bl 1)<|aG rfl) (by decide) λfV Rr=>?_;have Jn:fV<=59:=wX<|gO Rr;have Ai:=aI Jn (aG rfl:59<=1000);refine rV (S:=S.go<|d+1+1) dc (aI (fL Bl 2)<|aG rfl) λeN mE _ ba uE=>?_;have yD:mE<=S.d+6*(done.length+1):=aI ba<|fL E 6;refine dj.comp rfl<|ff.mp (all:=M) (f:=bO.aW) rfl (λdone K=>K ((done.map (·.nm)).map eo) (S.go mE).st) (λdone m a' _ K ab=>eR.mk<|by rw[cZ,cZ]at ab;exact ab) ?_ λK ab=>ab;refine ax.of (show hD .f3 _ (.str x) (.lst<|(M.map (·.nm)).map eo)=some (!decide (x∈M.map (·.nm)))from by show(hN _ _).map (!·)=_;rw[NB];rfl) ?_;by_cases jM:x∈M.map (·.nm)
 .exact bj.ir (by rw[dK jM];rfl)<|ab M mE _ _ _ _ yD eO kX<|iP u1
 .refine bj.mh (by rw[eC jM];rfl) ?_;obtain⟨h,ca,a6⟩:=uz (f:=au) (l:=[0,0,0,1,2]) (v:=fV/12) (Nat.div_lt_of_lt_mul (zE Jn));replace ca:h<3:=(by decide:∀c∈[0,0,0,1,2],c<3) h ca;have ab:=ab (M++[⟨x,eN,fV%2,fV/2%2,fV/4%3,h⟩]) mE (.val (au i)) (.val (.str x)) (.val (au fV)) (.val (.lst (eN.map aM.aW))) yD (λm aN=>(gh.mp aN).elim (eO m) λaN=>by
   rw[cU.mp aN];exact⟨az,uE,sg _ (jN rfl),sg _ (jN rfl),sg _ (jN rfl),ca⟩) (by
   rw[cZ,m4];refine⟨kX,hK.mpr ⟨λq=>(nomatch q),.nil⟩,λa ak b aw e=>jM ?_⟩;rw[<-show b=x from cU.mp aw,<-e];exact ak) (by rw[da];exact c' u1)
  rw[cZ]at ab;lk;refine ax.of (DT (a:=fV) (b:=2) (jN rfl) Ai<|aG rfl) ?_;lk;refine ax.of (DT (a:=fV) (b:=4) (jN rfl) Ai<|aG rfl) ?_;lk;refine ax.of (DT (a:=fV) (b:=12) (jN rfl) Ai<|aG rfl) ?_;refine ax.of (a6 _) ⟨by rw[bV];exact aI (c' u1)<|aI aB<|aG rfl,?_⟩;rw[show(fV:č).fmod 2=((fV%2:Č):č)from zb fV 2,show((fV/2:Č):č).fmod 2=((fV/2%2:Č):č)from zb (fV/2) 2,show((fV/4:Č):č).fmod 3=((fV/4%3:Č):č)from zb (fV/4) 3];exact ab
theorem Pw(x y:bO)(h:x.nm≠y.nm):pR x.aW y.aW=some (jj x.nm y.nm):=by show(if(x.nm==y.nm)=true then none else some (jj x.nm y.nm))=_;rw[bm<|by simpa using h]
abbrev wr(a b:bO):Prop:=n5 a.nm b.nm
theorem Pz(bJ:IF bO)(h:(bJ.map (·.nm)).Nodup):∃cS:IF bO,i8 (bJ.map bO.aW)=some (cS.map bO.aW)/\cS.Pairwise wr/\(∀p,p∈cS↔p∈bJ)/\cS.length=bJ.length:=by obtain⟨cS,e,G,E⟩:=vo (f:=bO.aW) (b:=λx y=>jj x.nm y.nm) (R:=wr) Pw (λ_ _ h=>h) (λ_ _ n h=>K8 n h) (λ_ _ _ a b=>C3 a b)<|w_.mp h;exact⟨cS,e,G,λ_=>E.mem_iff,E.length_eq⟩
theorem Ud{M:IF bO}(h:(M.map (·.nm)).Nodup)(aj:M.length<=4):∃cS:IF bO,k6 .sorted [.lst<|M.map bO.aW]=some (.lst<|cS.map bO.aW)/\cS.Pairwise wr/\(∀p,p∈cS↔p∈M)/\cS.length=M.length:=by
 obtain⟨cS,e,G,E,aC⟩:=Pz M h;refine⟨cS,?_,G,E,aC⟩;show(if(M.map bO.aW).length<=4/\((M.map bO.aW).all λx=>(jv x).isSome)=true/\((M.map bO.aW).map jv).Nodup then(i8<|M.map bO.aW).map B.lst else none)=_;rw[bl,e];rfl;refine⟨by rw[bV];exact aj,?_,?_⟩
 .rw[pa,d'];intro x _;rfl
 .rw[f2];have:(jv∘bO.aW)=some∘(λm:bO=>m.nm):=rfl;rw[this,<-f2];exact List.Pairwise.map _ (λa b h e=>h<|cV e) h
def kd (m:bO):Č:=m.o*1+m.aV*2+(if m.w=0 then 0 else if m.w=1 then 4 else 96)+(if m.h=0 then 0 else if m.h=1 then 8 else 16)
abbrev hw:=Option<|IF aM×Č
def jC:hw->B
 |none=>.tup []
 |some (K,aV)=>.tup [.lst<|K.map aM.aW,au aV]
def hw.ok:hw->Prop
 |none=>True
 |some (K,aV)=>Drawn K/\aV<2
def xJ(p:c6)(m:bO):Prop:=p.1=m.nm/\p.2.2.1=(kd m:č)/\p.2.2.2=(if 0<m.h then 1 else 0)
theorem UG{m:bO}{Q:B->St->Prop}{yS lK h6 d8 eV c1 dg cY cv dH dL dS dw:co}{iV:IF co}(aN:m.ok)(q:Q (au<|kd m) s):dj n (.bin .add (.bin .add (.bin .add (.bin .mul (.v 13)<|.k<|.int 1)<|.bin .mul (.v 14)<|.k<|.int 2)<|.ao (.lst [.k<|.int 0,.k<|.int 4,.bin .add (.k<|.int 32)<|.k<|.int 64])<|.v 15)<|.ao (.lst [.k<|.int 0,.k<|.int 8,.k<|.int 16])<|.v 16) (yS::lK::h6::d8::eV::c1::dg::cY::cv::dH::dL::dS::dw::.val (au m.o)::.val (au m.aV)::.val (au m.w)::.val (au m.h)::iV) s Q:=by
 obtain⟨_,_,aA,bn,bF,ca⟩:=aN;obtain⟨nm,K,o,aV,w,h⟩:=m;have ao:∀{a b c:č} {i:Č} (f:Č->č),f 0=a->f 1=b->f 2=c->i<3->∀s,hn s (.lst [.int a,.int b,.int c]) (au i)=some (.int<|f i):=by
  intro a b c i f oP ag a8 aB s;rcases Zf aB with e|e|e<;>rw[e]
  .rw[oP];rfl
  .rw[ag];rfl
  .rw[a8];rfl
 exact ax.of (F9 (a:=o) (b:=1) (aI (kp aA)<|aG rfl)<|aG rfl)<|ax.of (F9 (a:=aV) (b:=2) (aI (kp bn)<|aG rfl)<|aG rfl)<|ax.of (ao (λw=>((if w=0 then 0 else if w=1 then 4 else 96:Č):č)) rfl rfl rfl bF _)<|ax.of (ao (λh=>((if h=0 then 0 else if h=1 then 8 else 16:Č):č)) rfl rfl rfl ca _) q
theorem RL{cw cW:hw}{Q:B->St->Prop}{yS h6 d8 eV c1 dg cY cv dH dL dS dw dR dY c_ gv e5 mI Kp II Kh J' JS HM Ip Io:co}{iV:IF co}(T:Rows S.R)(aU:cw.ok)(G:cW.ok)(aq:S.R.length+20<=a3)(q:∀(a b:Ċ (Č×č)) aa,a9 S.R aa 20->a.map (·.2)=cw.map (λc=>(c.2:č))->b.map (·.2)=cW.map (λc=>(c.2:č))->Q (.lst [gm a,gm b]) (S.w aa).st):ff (.lst [jC cw,jC cW]) (yS::.val (.ref 1)::h6::d8::eV::c1::dg::cY::cv::dH::dL::dS::dw::dR::dY::c_::gv::e5::mI::Kp::II::Kh::J'::JS::HM::Ip::Io::iV) S.st (n+6) (.ite (.cmp (.v 26) [(.eq,.tup [])]) (.tup [])<|.tup [.call 75 [.v 1,.k<|.int<|-1,.ao (.v 26)<|.k<|.int 0],.ao (.v 26)<|.k<|.int 1]) false [26] [] Q:=by
 have one:∀(c:hw) (cp:dy) (bT:IF B->St->Prop),c.ok->Rows cp.R->cp.R.length+8<=a3->(∀(a:Ċ (Č×č)) aa,a9 cp.R aa 7->a.map (·.2)=c.map (λc=>(c.2:č))->bT [gm a] (cp.w aa).st)->eR (n+6) (.ite (.cmp (.v 26) [(.eq,.tup [])]) (.tup [])<|.tup [.call 75 [.v 1,.k<|.int<|-1,.ao (.v 26)<|.k<|.int 0],.ao (.v 26)<|.k<|.int 1]) false [26] [] (jC c) (yS::.val (.ref 1)::h6::d8::eV::c1::dg::cY::cv::dH::dL::dS::dw::dR::dY::c_::gv::e5::mI::Kp::II::Kh::J'::JS::HM::Ip::Io::iV) cp.st bT:=by
  intro c cp bT eM r0 g' a_;refine eR.mk ?_;lk;rcases c with _|⟨K,aV⟩
  .exact a_ none cp.R (a9.refl r0) rfl
  .exact yJ eM.1 r0 g' λt aa g ty=>a_ (some (t,aV)) aa g rfl
 refine ff.un rfl<|one cw S _ aU T (aI (gu (aG rfl) _) aq) λa aa g e'=>one cW (S.w aa) _ G g.ok (g.room aq<|aG rfl) λb bu bh eb=>q a b bu ((g.trans bh).le<|aG rfl) e' eb
def lw (Uh a b p2 hq ko:B):IF (Č×B):=[(10,Uh),(11,a),(12,b),(13,.tup []),(14,p2),(15,.tup []),(16,.int<|-1),(17,.int 0),(18,.bool false),(19,hq),(20,ko),(21,.int 0),(22,.int 0),(23,.str []),(24,.int 0)]
noncomputable abbrev dy.y (S:dy) (D:IF B) (X:IF c5):dy:={S with D:=D,X:=X}
inductive oy (S:dy):Nat->Nat->Prop
 |obj {t:Nat} {l:List B}:S.R[t]?=some (.tup (.int 8::l))->oy S t t
 |ref {t o i:Nat} {l:List B} {a:List (Nat×B)}:S.R[t]?=some (.tup [.int 9,.int 1,.tup []])->S.D[1]?=some (.ref (i+11))->S.X[i]?=some (.ins 1 a)->a.lookup 15=some (.tup [])->a.lookup 14=some (au o)->S.R[o]?=some (.tup (.int 8::l))->oy S t o
theorem oy.cK{S:dy}{t o:Č}(h:oy S t o):dX λ(cK:č) (l:IF B)=>S.R[t]?=some (.tup<|.int cK::l)/\(cK=8\/cK=9):=by
 induction h with
 |obj h=>exact⟨8,_,h,.inl rfl⟩
 |ref h=>exact⟨9,_,h,.inr rfl⟩
theorem R'{s:St}{a b c:B}(q:Q .none (s++.ins 1 (lw a b c (.int<|-1) (.ref<|s.length+1)<|.ref<|s.length+2)::[.ls [],.ls []])):bc (n+1) 2 [.ref s.length,a,b,c] (s++[.ins 1 []]) Q:=by
 generalize b3:lw a b c (.int<|-1) (.ref<|s.length+1) (.ref<|s.length+2)=D at q;have aj:D.length=15:=by rw[<-b3];rfl
 have b6:∀(k:Č) (t:St) {key:Č} {v:B},putAt key v (D.take k)=D.take (k+1)->nP (s++.ins 1 (D.take k)::t) (.ref s.length) key v=some (s++.ins 1 (D.take<|k+1)::t):=λk t key v h=>by rw[ud<|aI (List.length_take_le' _ _)<|aI (fQ aj)<|aG rfl,h]
 k_go;rw[show s++[c5.ins 1 []]=s++c5.ins 1 (D.take 0)::[]from rfl];refine ax.of (b6 0 []<|by rw[<-b3];rfl) ?_;refine ax.of (b6 1 []<|by rw[<-b3];rfl) ?_;refine ax.of (b6 2 []<|by rw[<-b3];rfl) ?_;refine ax.of (b6 3 []<|by rw[<-b3];rfl) ?_;refine ax.of (b6 4 []<|by rw[<-b3];rfl) ?_;refine ax.of (b6 5 []<|by rw[<-b3];rfl) ?_;refine ax.of (b6 6 []<|by rw[<-b3];rfl) ?_;refine ax.of (b6 7 []<|by rw[<-b3];rfl) ?_;refine ax.of (b6 8 []<|by rw[<-b3];rfl) ?_;lk;rw[(λa=>by simp:∀a:IF (Č×B),(s++c5.ins 1 a::[])++[.ls []]=s++c5.ins 1 a::[.ls []]),(λa=>by simp:∀a:IF (Č×B),(s++c5.ins 1 a::[]).length=s.length+1)];refine ax.of (b6 9 [.ls []]<|by rw[<-b3];rfl) ?_;lk;rw[(λa=>by simp:∀a:IF (Č×B),(s++c5.ins 1 a::[.ls []])++[.ls []]=s++c5.ins 1 a::[.ls [],.ls []]),(λa=>by simp:∀a:IF (Č×B),(s++c5.ins 1 a::[.ls []]).length=s.length+2)];refine ax.of (b6 10 [.ls [],.ls []]<|by rw[<-b3];rfl) ?_;refine ax.of (b6 11 [.ls [],.ls []]<|by rw[<-b3];rfl) ?_;refine ax.of (b6 12 [.ls [],.ls []]<|by rw[<-b3];rfl) ?_;refine ax.of (b6 13 [.ls [],.ls []]<|by rw[<-b3];rfl) ?_;refine ax.of (b6 14 [.ls [],.ls []]<|by rw[<-b3];rfl) ?_;rw[show D.take 15=D from r8<|by lia];exact q
theorem Nu{a b:B}(b3:S.D=[.none])(q:Q (.ref<|S.X.length+11) (S.y [.none,.ref<|S.X.length+11]<|S.X++.ins 1 (lw (.int 1) a b (.int<|-1) (.ref<|S.X.length+12)<|.ref<|S.X.length+13)::[.ls [],.ls []]).st):bc (n+2) 13 [.ref 1,a,b] S.st Q:=by obtain⟨d,nums,R,D,X⟩:=S;obtain rfl:D=[.none]:=b3;k_go;exact R' (s:=dy.st ⟨d,nums,R,[.none],X⟩)<|⟨rfl,⟨h4 rfl,q⟩⟩
set_option tactic.hygienic true in
theorem ZS{t o:Č}(T:Rows S.R)(h:oy S t o)(q:Q (au o) S.st):bc (n+2) 28 [.ref 10,au t] S.st Q:=by
 k_go;induction h with
 |obj h=>exact U9 h q
 |ref G E aC ba cN d7=>
  rename_i i l a;have Ig:∀k,n1 S.st (.ref<|i+11) k=a.lookup k:=λk=>by exact yB aC
  have FY:hn S.st (.ref 4) (.int 1)=some (.ref<|i+11):=by show(jX 1 S.D.length).bind (λj=>S.D[j]?)=_;rw[show jX 1 S.D.length=some 1 from qL (g0.mp E).1];exact E
  k_go;refine⟨rfl,rfl,by decide,ax.of (km 40) ?_⟩;rw[show List.range 40=0::1::(List.range 38).map (· +2)from by decide];show cE _ _ _ _ (au 0::au 1::((List.range 38).map (· +2)).map au) _ _ _;lk;refine ax.of FY<|ax.of ((Ig 15).trans ba)<|ax.of FY<|ax.of ((Ig 14).trans cN) ?_;lk;exact q
set_option tactic.hygienic true
theorem FO{ai:IF c6}{eG:B}(b8 bQ:Ċ (Č×č)){fd:č}(h:eW 5 eG=true):im (hJ ai eG b8 bQ fd)=true:=by induction b8<;>induction bQ<;>exact lh (w7 λ_=>rfl)<|lh h rfl
def mY (t fo:Č) (M:IF bO) (ai:IF c6) (cw cW:hw) (dE:Č):IF (B×B):=[(.str [115,111,114,116],.str [123]),(.str [116],au t),(.str [116,117,114,110,101,100],au fo),(.str [109,101,109,98,101,114,115],.lst<|M.map bO.aW),(.str [112,114,111,112,115],.lst<|ai.map fh),(.str [99,101,108,108,115],.lst [jC cw,jC cW]),(.str [119,97,121],au dE)]
structure qz(S:dy)(t o fo:Nat)(M:List bO)(ai:List c6)(cw cW:hw)(dE:Nat)(eG:B)(b8 bQ:Option (Nat×Int))(fd:Int):Prop where
 ok:∀m∈M,m.ok
 fB:M.Pairwise wr
 len:M.length<=4
 A3:hw.ok cw
 fG:hw.ok cW
 dE:dE<3
 props:bW xJ ai M
 src:oy S t o
 row:S.R[o]?=some (hJ ai eG b8 bQ fd)
 zk:S.R[fo]?=some (hJ ai.reverse eG b8 bQ fd)
 oP:b8.map (·.2)=cw.map (λc=>(c.2:Int))
 ag:bQ.map (·.2)=cW.map (λc=>(c.2:Int))
theorem bj.both{b:ĉ}{p q:Prop}(G:p)(E:q):bj (js<|.bool b) p q:=by
 induction b
 .exact E
 .exact G
theorem Wd:im (.tup [.int 13,.tup [],.tup [],.int 3,.tup [],.int 0])=true:=rfl
theorem Ui{ah:jD}(cf:tO ah)(k:Č):∀(l:IF dF) (r:aJ) (s:St) (Q:cj->aJ->St->Prop),j8 ah (l.take k) r s (kD (j8 ah<|l.drop k) Q)->j8 ah l r s Q:=by
 induction k with
 |zero=>exact λ_ _ _ _ h=>h
 |succ k ap=>
  intro l;induction l using List.casesOn with
  |nil=>exact λ_ _ _ h=>h
  |cons c l=>exact λr s Q h=>Eh cf c _ _ _ _ (λf r s h=>by
   induction f with
   |go=>exact ap l r s Q h
   |ret=>exact h) h
theorem bw.cut(k:Č){l:IF dF}{r:aJ}{Q:cj->aJ->St->Prop}(fw:(aJ->St->Prop)->Prop)(G:∀K:cj->aJ->St->Prop,fw (K .go)->bw n (l.take k) r s K)(E:fw λr s=>bw n (l.drop k) r s Q):bw n l r s Q:=Ui (bc.m n) k l r s Q<|G _ E
theorem qa.to{i:Č}{v:B}{l:IF dF}{r:aJ}{Q:cj->aJ->St->Prop}(h:bw n l (r.set i<|.val v) s Q):qa i r (kD (bw n l) Q) v s:=h
theorem WA{t:B->St->(IF B->St->Prop)->Prop}{d:Č}(one:∀(i:č) e (K:IF B->St->Prop),e<=d+6->(∀(c:hw) bz,c.ok->bz<=e+5->K [jC c] (S.go bz).st)->t (.tup [.int i,.int 3]) (S.go e).st K)(q:∀(cw cW:hw) e,cw.ok->cW.ok->e<=d+11->Q (.lst [jC cw,jC cW]) (S.go e).st):j6 t Q [.tup [.int 1,.int 3],.tup [.int 2,.int 3]] [] (S.go<|d+1).st:=one 1 (d+1) _ (gu (aG rfl) d) λcw e aU a6=>one 2 e _ a6 λcW bz G h9=>q cw cW bz aU G<|aI h9<|fL a6 5
def P1 (dE:Č) (ut:IF bO) (c1 dg cY cv:co) (w:Č) (cM:IF B):aJ:=[.val<|.ref 0,.val<|.ref 1,.val<|.lst<|iQ.map eo,.val<|au dE,.ol<|ut.map bO.aW,c1,dg,cY,cv,.val<|au w,.val<|.lst cM,.un,.un,.un,.un,.un,.un,.un,.un,.un,.un,.un,.un,.un,.un,.un,.un]
def D7 (dE:Č) (M:IF bO) (c1 dg cY cv:co) (w:Č) (cM:IF B) (cw cW:hw) (ai:IF c6) (dR dY c_ gv e5:co):aJ:=[.val<|.ref 0,.val<|.ref 1,.val<|.lst<|iQ.map eo,.val<|au dE,.val<|.lst<|M.map bO.aW,c1,dg,cY,cv,.val<|au w,.val<|.lst cM,.val<|.lst [jC cw,jC cW],.ol<|ai.map fh,dR,dY,c_,gv,e5,.un,.un,.un,.un,.un,.un,.un,.un,.un]
theorem Wl(T:Rows S.R)(dc:oE S.nums)(bg:S.d<=60000)(b3:S.D=[.none])(aq:S.R.length+200<=a3)(q:∀cp t o fo M ai cw cW dE eG b8 bQ fd,qz cp t o fo M ai cw cW dE eG b8 bQ fd->a9 S.R cp.R 200->cp.nums=S.nums->Q (.bb<|mY t fo M ai cw cW dE) cp.st):bc (n+9) 82 [.ref 0,.ref 1] S.st Q:=by
 k_go;lk;refine hx dc (aI bg<|aG rfl) (by decide) λdE Si=>?_;have E_:dE<3:=gO Si;lk;refine hx (S:=S.go<|S.d+1) dc (aI (c' bg)<|aG rfl) (by decide) λv af=>?_;obtain⟨c,wj,sc⟩:=uz (f:=au) (l:=[2,0,1,3,4])<|gO af;replace wj:c<=4:=(by decide:∀c∈[2,0,1,3,4],c<=4) c wj;refine ax.of (sc _) ⟨rfl,ih<|aI wj<|aG rfl,(by rw[rZ,su];exact aI wj<|aG rfl),ax.of (km c) ?_⟩;refine Xy (S:=S.go<|S.d+1+1) (dE:=au dE) dc (aI (fL bg 2)<|aG rfl) wj λut d c1 dg cY cv yD CV kX dU=>?_;obtain⟨M,op,t4,k3,tu⟩:=Ud kX dU;have tl:d<=60026:=aI yD<|fL bg 26;have vH:M.length<=4:=aI (fQ tu) dU;have B6:∀m∈M,m.ok:=λm aN=>CV m<|(k3 m).mp aN;lk;refine hx (S:=S.go d) dc (aI tl<|aG rfl) (by decide) λw bF=>dj.comp rfl<|ff.mp (f:=bO.aW) (all:=ut) rfl (λ_ K=>∀cg,K cg (S.go<|d+1).st) (λdone m a' _ K ab cg=>?_) (λcM=>?_) λK ab=>ab []
 .refine eR.mk ?_;repeat'(lk;refine bj.both ?_ ?_)
  all_goals exact ab _
 refine qa.to<|bw.fV (λK=>∀w:Č,K (P1 dE ut c1 dg cY cv w cM) (S.go<|d+1).st) (λK ab=>?_) λw=>bw.rU (λK=>∀(cw cW:hw) e,cw.ok->cW.ok->e<=d+11->K (.lst [jC cw,jC cW]) (S.go e).st) (λK ab=>?_) λcw cW e aU G a6=>?_
 .repeat'(lk;refine bj.both ?_ ?_)
  all_goals lk
  all_goals first|exact ab 1|exact ab w
 .refine dj.oR (x:=.tup [.tup [.int 1,.int 3],.tup [.int 2,.int 3]]) rfl (λ_ h=>h)<|ff.un rfl<|WA (λi e K a6 ab=>eR.mk ?_) ab;lk;refine bj.both ?_ ?_
  .lk;refine rV (S:=S.go e) dc (aI a6<|aI (fL tl 6)<|aG rfl) λK bz aC ba uE=>?_;lk;refine hx (S:=S.go bz) dc (aI ba<|aI (fL (aI a6<|fL tl 6) 4)<|aG rfl) (by decide) λaV ou=>?_;lk;exact ab (some (K,aV)) (bz+1) ⟨uE,gO ou⟩<|c' ba
  .lk;exact ab none e trivial<|nv _ 5
 refine ax.of (show oZ .sorted _ [.lst<|ut.map bO.aW]=_ from op)<|cE.mp (all:=M) (f:=bO.aW) rfl (λdone K=>∀aa ai dg cv dR dY c_ gv e5,a9 S.R aa (7*done.length)->bW xJ ai done->K (D7 dE M c1 dg cY cv w cM cw cW ai dR dY c_ gv e5) ((S.go e).w aa).st) (λdone m a' ag K ab aa ai dg cv dR dY c_ gv e5 g al=>?_) (λaa ai dg cv dR dY c_ gv e5 g al=>?_) λK ab=>ab S.R [] _ _ _ _ _ _ _ (a9.refl T) .nil
 .have aN:m.ok:=B6 m (by rw[ag];exact iC _<|.head _);have sQ:(ai.map fh).length+1<=a3:=by rw[bV,al.len];exact aI (oq ag vH)<|aG rfl
  refine UG aN<|yJ (S:=(S.go e).w aa) aN.K g.ok (g.room aq<|aI (c'<|tt 7 ag vH)<|aG rfl) λt bu bh ty=>bj.el (λh=>?_) λh=>?_
  .lk;refine⟨sQ,?_⟩;have ab:=ab bu (ai++[(m.nm,t,(kd m:č),1)]) (.val<|.str m.nm) (.val<|.lst<|m.K.map aM.aW) (.val<|au m.o) (.val<|au m.aV) (.val<|au m.w) (.val<|au m.h) (.val<|au<|kd m) (g.step bh<|dA _)<|al.snoc ⟨rfl,rfl,by rw[bl<|by lia]⟩;unfold D7 at ab;rw[cZ]at ab;lk;exact ab
  .lk;refine⟨sQ,?_⟩;have ab:=ab bu (ai++[(m.nm,t,(kd m:č),0)]) (.val<|.str m.nm) (.val<|.lst<|m.K.map aM.aW) (.val<|au m.o) (.val<|au m.aV) (.val<|au m.w) (.val<|au m.h) (.val<|au<|kd m) (g.step bh<|dA _)<|al.snoc ⟨rfl,rfl,by rw[bm<|by lia]⟩;unfold D7 at ab;rw[cZ]at ab;lk;exact ab
 .have J7:a9 S.R aa 28:=g.le<|hh 7 vH;refine bw.rU (λK=>∀eG bu,eW 5 eG=true->a9 aa bu 1->K eG ((S.go e).w bu).st) (λK ab=>?_) λeG bu IU bh=>?_
  .refine bj.el (λh=>?_) λh=>?_
   .exact e6 (S:=(S.go e).w aa) g.ok Wd (J7.room aq<|aG rfl) λt bu bh qM=>ab _ bu rfl bh
   .exact ab _ aa rfl<|a9.refl g.ok
  have bh:=J7.trans bh;refine dj.comp rfl<|RL (S:=(S.go e).w bu) bh.ok aU G (bh.room aq<|aG rfl) λa b dZ cL e' eb=>?_;have cL:=bh.trans cL;lk;refine e6 (S:=(S.go e).w dZ) (row:=hJ ai eG a b<|Int.fmod dE 2) cL.ok (FO a b IU) (cL.room aq<|aG rfl) λo rt hT AX=>?_;have hT:=cL.trans hT;lk;rw[show(ai.map fh).reverse=ai.reverse.map fh from List.map_reverse.symm];refine e6 (S:=(S.go e).w rt) (row:=hJ ai.reverse eG a b<|Int.fmod dE 2) hT.ok (FO a b IU) (hT.room aq<|aG rfl) λfo oc li I4=>?_;have BU:=hT.trans li;have xe:=li.at AX;lk;refine bj.el (λs6=>?_) λs6=>?_
  .lk;refine Nu (S:=(S.go e).w oc) b3 ?_;lk;refine ax.of (a:=(((S.go e).w oc).y [.none,.ref<|S.X.length+11]<|S.X++.ins 1 (lw (.int 1) (.int 2) (.str [73]) (au o) (.ref<|S.X.length+12)<|.ref<|S.X.length+13)::[.ls [],.ls []]).st) ?_ ?_
   .have g:(((S.go e).w oc).y [.none,.ref<|S.X.length+11]<|S.X++.ins 1 (lw (.int 1) (.int 2) (.str [73]) (.int<|-1) (.ref<|S.X.length+12)<|.ref<|S.X.length+13)::[.ls [],.ls []]).st[S.X.length+11]?=some (.ins 1<|lw (.int 1) (.int 2) (.str [73]) (.int<|-1) (.ref<|S.X.length+12)<|.ref<|S.X.length+13):=by show(S.X++_::_)[S.X.length]?=_;exact uV
    show nP (((S.go e).w oc).y [.none,.ref<|S.X.length+11]<|S.X++.ins 1 (lw (.int 1) (.int 2) (.str [73]) (.int<|-1) (.ref<|S.X.length+12)<|.ref<|S.X.length+13)::[.ls [],.ls []]).st (.ref<|S.X.length+11) 14 (au o)=_;rw[zO g<|aG rfl];have E:(S.X++c5.ins 1 (lw (.int 1) (.int 2) (.str [73]) (.int<|-1) (.ref<|S.X.length+12)<|.ref<|S.X.length+13)::[c5.ls [],.ls []]).set S.X.length (.ins 1<|putAt 14 (au o)<|lw (.int 1) (.int 2) (.str [73]) (.int<|-1) (.ref<|S.X.length+12)<|.ref<|S.X.length+13)=S.X++.ins 1 (lw (.int 1) (.int 2) (.str [73]) (au o) (.ref<|S.X.length+12)<|.ref<|S.X.length+13)::[.ls [],.ls []]:=by rw[B'];rfl
    rw[<-E];rfl
   lk;refine ax.of (a:=.int 1) ?_ ?_
   .show((S.X++.ins 1 (lw (.int 1) (.int 2) (.str [73]) (au o) (.ref<|S.X.length+12)<|.ref<|S.X.length+13)::[.ls [],.ls []])[S.X.length]?).bind _=_;rw[uV];rfl
   lk;refine e6 (n:=n+7) (S:=((S.go e).w oc).y [.none,.ref<|S.X.length+11]<|S.X++.ins 1 (lw (.int 1) (.int 2) (.str [73]) (au o) (.ref<|S.X.length+12)<|.ref<|S.X.length+13)::[.ls [],.ls []]) li.ok (row:=.tup [.int 9,.int 1,.tup []]) rfl (BU.room aq<|aG rfl) λt DY mz qM=>?_;lk;refine q ((((S.go e).w oc).y [.none,.ref<|S.X.length+11]<|S.X++.ins 1 (lw (.int 1) (.int 2) (.str [73]) (au o) (.ref<|S.X.length+12)<|.ref<|S.X.length+13)::[.ls [],.ls []]).w DY) t o fo M ai cw cW dE eG a b (Int.fmod dE 2) ⟨B6,t4,vH,aU,G,E_,al,.ref (i:=S.X.length) qM rfl uV rfl rfl<|mz.at xe,mz.at xe,mz.at I4,e',eb⟩ ((BU.trans mz).le<|aG rfl) rfl
  .lk;exact q ((S.go e).w oc) o o fo M ai cw cW dE eG a b (Int.fmod dE 2) ⟨B6,t4,vH,aU,G,E_,al,.obj xe,xe,I4,e',eb⟩ (BU.le<|aG rfl) rfl
set_option tactic.hygienic false
theorem Zm(N:Č)(a:IF č):∀b:IF č,jH (g7 N) (a.map .int) (b.map .int)=some (decide<|a=b):=by
 induction a with
 |nil=>intro b;induction b using List.casesOn<;>rfl
 |cons x a ap=>
  intro b;induction b using List.casesOn with
  |nil=>rfl
  |cons y b=>show((g7 N (.int x)<|.int y).bind λz=>(jH (g7 N) (a.map .int)<|b.map .int).map λw=>z&&w)=_;rw[ap b,show g7 N (.int x) (.int y)=some (decide<|x=y)by induction N<;>rfl];show some (decide (x=y)&&decide (a=b))=_;rw[<-Bool.decide_and];exact bH some<|u2.mpr ⟨λh=>by rw[h.1,h.2],λh=>s0 h⟩
theorem Q'{s:St}(a b:IF č):hD .eq s (.lst<|a.map .int) (.lst<|b.map .int)=some (decide<|a=b):=Zm 15 a b
abbrev hp:=List<|IF aM×č
def qF (es:hp):IF B:=es.map λe=>.tup [.lst<|e.1.map aM.aW,.int e.2]
def kx (t:Č) (es:hp) (aV:Č):IF (B×B):=[(.str [115,111,114,116],.str [91]),(.str [116],au t),(.str [101,108,101,109,115],.lst<|qF es),(.str [114,111],au aV),(.str [111,112,101,110],.bool<|decide<|es.map (·.2)=[2])]
structure q7(R:List B)(t:Nat)(es:hp)(aV:Nat):Prop where
 uv:∀e∈es,Drawn e.1
 pat:es.map (·.2)∈he
 ou:aV<2
 arr:es.map (·.2)=[2]->∃e,R[t]?=some (hX e aV)
 tup:es.map (·.2)≠[2]->∃ch,ch.map (·.2)=es.map (·.2)/\R[t]?=some (.tup [.int 12,.tup<|df ch,.int aV])
theorem q7.bf{R aa:IF B}{t aV c:Č}{es:hp}(h:q7 R t es aV)(g:a9 R aa c):q7 aa t es aV:=⟨h.uv,h.pat,h.ou,λe=>(h.arr e).imp λ_ x=>g.at x,λe=>(h.tup e).imp λ_ x=>⟨x.1,g.at x.2⟩⟩
theorem uB:∀ay∈he,ay.length<=5:=by decide
def XM (aV:Č) (ay:IF č) (d8 c1:co):aJ:=[.val<|.ref 0,.val<|.ref 1,.val<|au aV,d8,.val<|.lst<|ay.map .int,c1,.un,.un,.un,.un]
theorem Qp(T:Rows S.R)(dc:oE S.nums)(bg:S.d<=60000)(aq:S.R.length+200<=a3)(q:∀t es aV aa d,q7 aa t es aV->a9 S.R aa 200->Q (.bb<|kx t es aV) ((S.go d).w aa).st):bc (n+9) 83 [.ref 0,.ref 1] S.st Q:=by
 have aN:∀(x:č) {j:Č},j<3->Internal.bin .mul (.lst [.int x]) (au j)=some (.lst<|(List.replicate j x).map .int):=λx j h=>by rw[w1];exact BP (aI (kp h)<|aG rfl) _
 have ak:∀{a b:IF č} {c d:Č},a.length=c->b.length=d->c+d<10->Internal.bin .add (.lst<|a.map .int) (.lst<|b.map .int)=some (.lst<|(a++b).map .int):=by rintro a b _ _ rfl rfl h;rw[cZ];exact lg (by rw[bV,bV];exact aI (kp h)<|aG rfl)
 have bn:∀(x:č) {j:Č},(List.replicate j x).length=j:=λ_ _=>t9;have uv:∀{k:Č},k<=1000->S.d+k<=90000:=λh=>aI (gG bg h)<|aG rfl;have tx:∀{k:Č},k<=1000->S.d+k<=100000:=λh=>aI (uv h)<|aG rfl;k_go;refine hx (m:=2) dc (tx (aG rfl:0<=1000)) (by decide) λaV ou=>hx (S:=S.go<|S.d+1) dc (tx<|aG rfl) (by decide) λô DN=>hx (S:=S.go<|S.d+1+1) dc (tx (aG rfl:2<=1000)) (by decide) λi aB=>?_;replace aB:i<3:=gO aB;refine ax.of (aN 0 aB)<|qa.to<|bw.cut 4 (λK=>∀ay∈he,∀d8 e,e<=S.d+4->K (XM aV ay d8 .un) (S.go e).st) (λK ab=>?_) λay ms d8 e n9=>?_
 .rcases yg (gO DN)with e|e|e|e<;>subst e
  .exact hx (S:=S.go<|S.d+3) dc (tx<|aG rfl) (by decide) λj b'=>ax.of (aN 1<|gO b')<|ax.of (ak (bn _) (bn _)<|rb (zU aB<|gO b')<|by decide)<|ab _ ((by decide:∀i,i<3->∀j,j<3->List.replicate i 0++List.replicate j 1∈he) i aB j<|gO b') _ (S.d+3+1)<|dA _
  .exact hx (S:=S.go<|S.d+3) dc (tx<|aG rfl) (by decide) λj b'=>ax.of (aN 1<|gO b')<|ax.of (ak (bn _) (bn _)<|rb (zU aB<|gO b')<|by decide)<|ax.of (ak (b:=[2]) (da.trans<|congr (bH _<|bn _)<|bn _) rfl<|rb (wE<|zU aB<|gO b')<|by decide)<|ab _ ((by decide:∀i,i<3->∀j,j<3->List.replicate i 0++List.replicate j 1++[2]∈he) i aB j<|gO b') _ (S.d+3+1)<|dA _
  .exact ax.of (ak (b:=[2]) (bn _) rfl<|rb (wE aB)<|by decide)<|hx (S:=S.go<|S.d+3) dc (tx<|aG rfl) (by decide) λj b'=>ax.of (aN 0 (j:=1+j)<|Nat.add_lt_add_left (gO b') 1)<|ax.of (ak (da.trans<|bH (· +1)<|bn _) (bn _)<|rb (zU (wE aB)<|Nat.add_lt_add_left (gO b') 1)<|by decide)<|ab _ ((by decide:∀i,i<3->∀j,j<2->List.replicate i 0++[2]++List.replicate (1+j) 0∈he) i aB j<|gO b') _ (S.d+3+1)<|dA _
  .exact ab [2] (fe rfl) _ (S.d+3)<|kc _
 have mU:=uB ay ms;refine dj.comp rfl<|ff.mp (f:=B.int) (all:=ay) rfl (λdone K=>∀(es:hp) (bz:Č),es.map (·.2)=done->(∀x∈es,Drawn x.1)->bz<=e+4*done.length->K (qF es) (S.go bz).st) (λdone m a' ag K ab es bz c0 r4 E=>?_) (λes bz on r4 E=>?_) λK ab=>ab [] e rfl (λ_ h=>nomatch h)<|dA _
 .have tu:bz<=S.d+24:=aI E<|aI (gG n9<|aI (nv _ 4)<|tt 4 ag mU)<|dA _;refine eR.mk ?_;lk;refine rV (S:=S.go bz) dc (aI tu<|uv<|aG rfl) λV5 Wk aC ba uE=>?_;have ab:=ab (es++[(V5,m)]) Wk (by rw[cZ,c0];rfl) (λx az=>(gh.mp az).elim (r4 x) λh=>by rw[cU.mp h];exact uE) (by rw[da];exact aI ba<|fL E 4);unfold qF at ab;rw[cZ]at ab;lk;exact ab
 have i':es.length<=5:=by rw[<-bV (f:=λx:IF aM×č=>x.2),on];exact mU
 subst on;have G0:∀s,hD .eq s (.lst<|(es.map (·.2)).map .int) (.lst [.int 2])=some (decide<|es.map (·.2)=[2]):=λs=>Q' _ [2];refine ax.of (G0 _)<|bj.el (λaA=>?_) λaA=>?_
 .obtain⟨K,rfl⟩:∃K,es=[(K,2)]:=by
   induction es using List.casesOn with
   |nil=>exact nomatch aA
   |cons x es=>induction es using List.casesOn with
    |nil=>obtain⟨K,m⟩:=x;obtain rfl:m=2:=(s0 aA).1;exact⟨K,rfl⟩
    |cons=>exact nomatch (s0 aA).2
  exact yJ (S:=S.go bz) (K:=K) (r4 _<|.head _) T (aI (gu (aG rfl) _) aq) λt aa g ty=>e6 (S:=(S.go bz).w aa) g.ok rfl (g.room aq<|aG rfl) λu bu bh iD=>q u [(K,2)] aV bu bz ⟨r4,ms,gO ou,λ_=>⟨t,iD⟩,λh=>absurd aA h⟩<|(g.trans bh).le<|aG rfl
 .refine dj.comp rfl<|ff.mp (f:=λe:IF aM×č=>.tup [.lst<|e.1.map aM.aW,.int e.2]) (all:=es) rfl (λdone K=>∀(ch:IF (Č×č)) aa,ch.map (·.2)=done.map (·.2)->a9 S.R aa (7*done.length)->K (df ch) ((S.go bz).w aa).st) (λdone m a' ag K ab ch aa c0 g=>?_) (λch aa c0 g=>?_) λK ab=>ab [] S.R rfl<|a9.refl T
  .refine eR.mk ?_;lk;refine yJ (S:=(S.go bz).w aa) (r4 m<|by rw[ag];exact iC _<|.head _) g.ok (g.room aq<|aI (c'<|tt 7 ag i')<|aG rfl) λt bu bh ty=>?_;have ab:=ab (ch++[(t,m.2)]) bu (by rw[cZ,cZ,c0];rfl)<|g.step bh<|dA _;rw[<-tF]at ab;lk;exact ab
  .have g:=g.le<|hh 7 i';exact e6 (S:=(S.go bz).w aa) g.ok (C1 _ _) (g.room aq<|aG rfl) λu bu bh iD=>ax.of (G0 _)<|q u es aV bu bz ⟨r4,ms,gO ou,λh=>absurd h aA,λ_=>⟨ch,c0,iD⟩⟩<|(g.trans bh).le<|aG rfl
noncomputable abbrev yA:B:=.tup [.int 13,.tup [],.tup [],.int 3,.tup [],.int 0]
inductive lF (R:List B):Nat->Prop
 |s:lF R 6
 |v:lF R 3
 |n:lF R 5
 |b:lF R 12
 |t {t:Nat}:R[t]?=some (.tup [.int 3,.str [97],.int 0])->lF R t
 |m {t:Nat}:R[t]?=some (.tup [.int 4,.int 3,.int 1])->lF R t
 |x {t:Nat}:R[t]?=some (.tup [.int 18,.tup [.str [120],.str []],.tup [.int 7]])->lF R t
 |e {t:Nat}:R[t]?=some (.tup [.int 5,.int 1,.str [65],.int 0,.int 0])->lF R t
 |i {t o:Nat}:R[t]?=some (.tup [.int 7,.tup [.int 6,au o]])->lF R t
def tR(R:IF B)(t:Č)(st:ĉ):Prop:=(st=true/\lF R t)\/(st=false/\(t=10\/t=1\/R[t]?=some yA))
theorem tR.bf{R aa:IF B}{t c:Č}{st:ĉ}(h:tR R t st)(g:a9 R aa c):tR aa t st:=by
 rcases h with⟨e,h⟩|⟨e,h|h|h⟩
 .refine .inl ⟨e,?_⟩;induction h with
  |s=>exact .s
  |v=>exact .v
  |n=>exact .n
  |b=>exact .b
  |t h=>exact .t<|g.at h
  |m h=>exact .m<|g.at h
  |x h=>exact .x<|g.at h
  |e h=>exact .e<|g.at h
  |i h=>exact .i<|g.at h
 .exact .inr ⟨e,.inl h⟩
 .exact .inr ⟨e,.inr<|.inl h⟩
 .exact .inr ⟨e,.inr<|.inr<|g.at h⟩
def xp (t:Č) (st:ĉ):IF (B×B):=[(.str [115,111,114,116],.str [112]),(.str [116],au t),(.str [115,116,97,121,115],.bool st)]
theorem Ow{t:Č}(T:Rows S.R)(h:lF S.R t)(q:Q (.bool true) S.st):bc (n+6) 58 [.ref 1,au t] S.st Q:=by
 have aC:=T.at (t:=3) rfl;have cN:=T.at (t:=5) rfl;have d7:=T.at (t:=6) rfl;have qA:=T.at (t:=8) rfl;have er:=T.at (t:=9) rfl;have mD:=T.at (t:=12) rfl;k_go;k_go;induction h with
 |s=>lk;exact q
 |v=>lk;exact q
 |n=>lk;exact q
 |b=>lk;k_go;k_go;lk;refine dj.comp rfl<|ff.un (bP:=[.int 8,.int 9]) rfl<|eR.mk ?_;k_go;lk;k_go;lk;exact q
 |t h=>lk;k_go;exact q
 |m h=>lk;k_go;exact q
 |x h=>lk;k_go;exact q
 |e h=>lk;k_go;exact q
 |i h=>lk;k_go;lk;k_go;lk;exact q
theorem Zp{t d5:Č}{cD nm Y aH:č}(T:Rows S.R)(h:lF S.R t)(q:Q (au t) S.st):bc (n+7) 59 [.ref 10,fT cD nm d5 Y aH,au t] S.st Q:=by
 have ro:∃v,S.R[t]?=some v:=by
  induction h with
  |s=>exact⟨_,T.at rfl⟩
  |v=>exact⟨_,T.at rfl⟩
  |n=>exact⟨_,T.at rfl⟩
  |b=>exact⟨_,T.at rfl⟩
  |t h=>exact⟨_,h⟩
  |m h=>exact⟨_,h⟩
  |x h=>exact⟨_,h⟩
  |e h=>exact⟨_,h⟩
  |i h=>exact⟨_,h⟩
 obtain⟨v,af⟩:=ro;k_go;lk;exact Ow T h q
theorem RJ(T:Rows S.R)(dc:oE S.nums)(bg:S.d<=60000)(aq:S.R.length+20<=a3)(q:∀t st aa d,tR aa t st->a9 S.R aa 20->Q (.bb<|xp t st) ((S.go d).w aa).st):bc (n+4) 84 [.ref 0,.ref 1] S.st Q:=by
 k_go;refine hx dc (aI bg<|aG rfl) (by decide) λv af=>e6 (S:=S.go<|S.d+1) T rfl (aI (gu (aG rfl) _) aq) λfV gp c3 es=>?_;replace c3:a9 S.R gp 1:=c3;refine bj.el (λd7=>?_) λd7=>?_
 .refine e6 (S:=(S.go<|S.d+1).w gp) c3.ok rfl (c3.room aq<|aG rfl) λZZ bu bh c7=>?_;replace bh:=c3.trans bh;refine e6 (S:=((S.go<|S.d+1).w gp).w bu) bh.ok rfl (bh.room aq<|aG rfl) λZI dZ cL m8=>?_;have fin:∀t,lF dZ t->Q (.bb<|xp t true) ((S.go<|S.d+1).w dZ).st:=λt dV=>q t true dZ (S.d+1) (.inl ⟨rfl,dV⟩)<|(bh.trans cL).le<|aG rfl;clear q;rcases(by decide:∀v<6,v=0\/v=1\/v=2\/v=3\/v=4\/v=5) v (gO d7)with er|er|er|er|er|er<;>rw[er]
  .exact fin 6 .s
  .exact fin 3 .v
  .exact fin 5 .n
  .exact fin 12 .b
  .exact fin ZZ<|.t<|cL.at c7
  .exact fin ZI<|.m m8
 .rcases(by decide:∀v<11,¬v<6->v=6\/v=7\/v=8\/v=9\/v=10) v (gO af) (λh=>d7<|iG.mpr h)with er|er|er|er|er<;>rw[er]<;>clear er d7 af
  .exact e6 (S:=(S.go<|S.d+1).w gp) c3.ok rfl (c3.room aq<|aG rfl) λt bu bh e=>q t true bu (S.d+1) (.inl ⟨rfl,.x e⟩)<|(c3.trans bh).le<|aG rfl
  .exact e6 (S:=(S.go<|S.d+1).w gp) c3.ok rfl (c3.room aq<|aG rfl) λt bu bh e=>q t true bu (S.d+1) (.inl ⟨rfl,.e e⟩)<|(c3.trans bh).le<|aG rfl
  .exact e6 (S:=(S.go<|S.d+1).w gp) c3.ok rfl (c3.room aq<|aG rfl) λo bu bh e=>e6 (S:=((S.go<|S.d+1).w gp).w bu) bh.ok (row:=.tup [.int 7,.tup [.int 6,au o]]) rfl ((c3.trans bh).room aq<|aG rfl) λt dZ cL c0=>q t true dZ (S.d+1) (.inl ⟨rfl,.i c0⟩)<|((c3.trans bh).trans cL).le<|aG rfl
  .refine hx (S:=(S.go<|S.d+1).w gp) dc (aI (c' bg)<|aG rfl) (by decide) λw bF=>?_;rcases tI (gO bF)with er|er<;>rw[er]
   .exact q 10 false gp (S.d+2) (.inr ⟨rfl,.inl rfl⟩)<|c3.le<|aG rfl
   .exact q fV false gp (S.d+2) (.inr ⟨rfl,.inr<|.inr es⟩)<|c3.le<|aG rfl
  .exact q 1 false gp (S.d+1) (.inr ⟨rfl,.inr<|.inl rfl⟩)<|c3.le<|aG rfl
theorem X_{t:Č}(T:Rows S.R)(h:t=10\/t=1\/S.R[t]?=some yA)(aq:S.R.length+1<=a3)(q:∀o aa eG,a9 S.R aa 1->aa[o]?=some (hJ [] eG none none 0)->Q (au o) (S.w aa).st):bc (n+4) 28 [.ref 10,au t] S.st Q:=by
 k_go;rcases h with rfl|rfl|h
 .exact CD (T.at (t:=10) rfl)<|q 11 S.R _ (a9.refl T)<|T.at rfl
 .exact CD (T.at (t:=1) rfl)<|q 11 S.R _ (a9.refl T)<|T.at rfl
 .k_go;refine⟨rfl,rfl,by decide,ax.of (km 40) ?_⟩;rw[show List.range 40=0::(List.range 39).map (· +1)from by decide];show cE _ _ _ _ (au 0::((List.range 39).map (· +1)).map au) _ _ _;lk;k_go;exact e6 T rfl aq λo aa g e=>q o aa _ g e
theorem F0{t:Č}(T:Rows S.R)(h:t=10\/t=1\/S.R[t]?=some yA)(q:Q (.bool false) S.st):bc (n+4) 58 [.ref 1,au t] S.st Q:=by
 have G:=T.at (t:=1) rfl;have sf:=T.at (t:=10) rfl;rcases h with rfl|rfl|h
 .k_go;k_go;lk;exact q
 .k_go;k_go;lk;exact q
 .exact uq h (.inr<|.inr<|.inr<|.inr rfl) q
theorem Un{t:Č}{d5:Č}{F:bv->IF aF}{cD nm Y aH:č}(T:Rows S.R)(jc:gb S.R d5 F)(aA:Y=0\/Y=1\/Y=2)(di:aH=0\/aH=1\/aH=2)(AJ:nm= -1\/nm=17)(h:t=10\/t=1\/S.R[t]?=some yA)(aq:S.R.length+500<=a3)(q:∀aa eg,a9 S.R aa 500->Q (.int 11) ((S.w aa).x eg).st):bc (n+21) 59 [.ref 10,fT cD nm d5 Y aH,au t] S.st Q:=by
 have a':∀d8,bw (n+20) [.set 4<|.comp (.v 5) false [5] (.call 54 [.v 0,.v 2]) [.not (.call 61 [.v 0,.v 5])],.ret<|.call 53 [.v 0,.v 1,.v 4,.k<|.bool false]] [.val<|.ref 10,.val<|fT cD (-1) d5 Y aH,.val<|au t,d8,.un,.un] S.st (λcM _ ar=>Q cM.val ar):=by
  intro d8;refine dj.nB rfl ?_;k_go;refine X_ T h (aI (gu (aG rfl) _) aq) λo aa eG g e=>ax.of (qh e) ?_;lk;refine cE.nil ?_;lk;refine Ji (S:=S.w aa) (ay:=[]) (ai:=[]) (b8:=none) (bQ:=none) g.ok (jc.bf g) aA di .nil .nil (λ_ h=>nomatch h) .nil (aG rfl) (g.room aq<|aG rfl) λu cd du dv bu Ā bh to=>?_;have a_:cd=[]:=by
   induction cd using List.casesOn with
   |nil=>rfl
   |cons p r=>obtain⟨m,aN,_⟩:=(to.to p<|.head _).2;exact nomatch aN
  have a4:u=11:=by have:=to.row;rw[to.six,to.sV,a_]at this;exact bh.ok.inj this<|bh.ok.at rfl
  subst a4;exact q bu _<|(g.trans bh).le<|aG rfl
 obtain⟨cK,l,aK,fG,gz⟩:dX λ(cK:č) (l:IF B)=>dJ (S.R[t]?=some (.tup<|.int cK::l)) (cK≠11) (cK≠12):=by
  rcases h with e|e|e
  .exact⟨_,_,by rw[e];exact T.at rfl,by decide,by decide⟩
  .exact⟨_,_,by rw[e];exact T.at rfl,by decide,by decide⟩
  .exact⟨_,_,e,by decide,by decide⟩
 rcases AJ with er|er<;>rw[er]
 .k_go;lk;exact F0 T h<|bj.fp fG<|bj.fp gz<|a' _
 .k_go;lk;exact F0 T h<|q S.R S.X<|a9.refl T
theorem UY:∀o<2,∀aV<2,∀w<3,∀h<3,q2 ((o*1+aV*2+(if w=0 then 0 else if w=1 then 4 else 96)+(if h=0 then 0 else if h=1 then 8 else 16):Č):č)=decide (o=1)/\ts ((o*1+aV*2+(if w=0 then 0 else if w=1 then 4 else 96)+(if h=0 then 0 else if h=1 then 8 else 16):Č):č)=(aV:č)/\nT ((o*1+aV*2+(if w=0 then 0 else if w=1 then 4 else 96)+(if h=0 then 0 else if h=1 then 8 else 16):Č):č)=decide (h=0):=by decide+kernel
theorem D2(m:bO)(h:m.ok):q2 (kd m)=decide (m.o=1)/\ts (kd m)=(m.aV:č)/\nT (kd m)=decide (m.h=0):=UY m.o h.o m.aV h.aV m.w h.w m.h h.h
def my (m:bO):ĉ:=decide (m.h=0)&& !h7 m.nm
def iS (M:IF bO):IF Tm:=(M.filter my).map λm=>(m.nm,(kd m:č))
theorem XI{av b9 dB:Type}{P:av->b9->Prop}{p:av->ĉ}{q:b9->ĉ}{f:av->dB}{g:b9->dB}{l:IF av}{m:IF b9}(x:bW P l m):(∀a b,P a b->b∈m->p a=q b/\f a=g b)->(l.filter p).map f=(m.filter q).map g:=by
 induction x with
 |nil=>exact λ_=>rfl
 |@cons a b l m x y ap=>
  intro h;obtain⟨G,E⟩:=h _ _ x<|.head _;replace ap:=ap λa b x aw=>h a b x<|.tail _ aw;rw[hQ,hQ,G];clear G;cases q _ with
  |true=>exact congr (bH List.cons E) ap
  |false=>exact ap
theorem RO{ai:IF c6}{M:IF bO}(x:bW xJ ai M)(h:∀m∈M,m.ok):rW ai=iS M:=by
 unfold rW iS;rw[List.filter_filter];refine XI x λp m x aN=>⟨?_,?_⟩
 .rw[x.1,x.2.1,(D2 m<|h m aN).2.2,Bool.and_comm];rfl
 .unfold yn;rw[x.1,x.2.1]
theorem Ve(ai:IF c6)(m:Tm):m∈rW ai.reverse↔m∈rW ai:=by unfold rW;simp only[dq,gC,Cn]
def be (c:hw):Ċ (Č×č):=c.map λc=>(0,(c.2:č))
theorem EB(c:hw):(be c).map (·.2)=c.map (λc=>(c.2:č)):=by rcases c with _|c<;>rfl
theorem D0(a b:bx):decide (a=b)=decide (b=a):=u2.mpr eq_comm
theorem DW(x:bx):(!(decide ([108,101,110,103,116,104]=x)||(decide ([48]=x)||(decide ([49,50]=x)||false))))= !h7 x:=by unfold h7 xN;rw[D0 _ x,D0 _ x,D0 _ x,Bool.or_false]
theorem cJ.fits{p:cJ}(h:p.ok)(k:bv):∀a∈p.at k,a.fits:=by
 intro a ak;unfold cJ.at gL at ak;rcases gh.mp ak with ak|ak
 .split at ak
  .rw[cU]at ak;subst ak;exact(h.len k)
  .obtain⟨b,_,rfl⟩:=dq.mp ak;clear ak;trivial
 .split at ak
  .rw[cU]at ak;subst ak;trivial
  .cases ak
theorem cJ.q8{p:cJ}(h:p.ok)(k:bv):(p.at k).length<=13:=by
 have aj:=h.len k;unfold cJ.at gL;rw[da];have eZ:(if p.e4%2=1 then [aF.arr<|p.iq.at k]else(p.iq.at k).map .b).length<=12:=by
  split
  .simp
  .rw[bV];exact aj
 have fP:(if 1<p.e4 then [aF.b aM.bB]else []).length<=1:=by split<;>simp
 exact gG eZ fP
theorem uo{Y:č}{fO:ĉ}{K:IF aF}:∀a∈fC Y fO K,a∈K:=by
 intro a ak;have bn:∀a∈a' K,a∈K:=λa h=>(gC.mp h).1;unfold fC at ak;split at ak
 .split at ak
  .exact ak
  .exact bn a ak
 .split at ak
  .exact bn a ak
  .exact ak
def v6(R:IF B)(F:bv->IF aF)(Y aH:č)(a:c6)(b:Tm):Prop:=a.2.2.2=0/\qK R F Y aH (a.1,a.2.1,a.2.2.1) b
theorem v6.bf{R aa:IF B}{F:bv->IF aF}{Y aH:č}{c:Č}{l:IF c6}{m:IF Tm}(h:bW (v6 R F Y aH) l m)(g:a9 R aa c):bW (v6 aa F Y aH) l m:=h.imp λ_ _ h=>⟨h.1,h.2.bf g⟩
theorem bW.pair{av b9:Type}{P:av->b9->Prop}{l:IF av}{a b:b9}(h:bW P l [a,b]):dX λx y=>dJ (l=[x,y]) (P x a) (P y b):=by obtain⟨_,_,rfl,p,t⟩:=h.un;obtain⟨_,l,rfl,q,jV⟩:=t.un;obtain rfl:l=[]:=jV.of;exact⟨_,_,rfl,p,q⟩
theorem Y2{M:IF bO}{m:bO}:iS (M++[m])=iS M++if my m=true then [(m.nm,(kd m:č))]else []:=by unfold iS;rw[l7,cZ,hQ];split<;>rfl
theorem Cx{aH:č}(di:aH=0\/aH=1\/aH=2)(m:č)(s:St):hn s (.lst [.int m,.int 1,.int 0]) (.int aH)=some (.int<|gW aH m):=by rcases di with er|er|er<;>rw[er]<;>rfl
theorem FQ{Y:č}{K:IF aF}(h:K.length<=13):(je Y K).length<=14:=by
 unfold je;split
 .rw[da];exact c' h
 .exact iP h
theorem EI{Y:č}{K:IF aF}(h:∀a∈K,a.fits):∀a∈je Y K,a.fits:=λa ak=>by
 unfold je at ak;split at ak
 .rcases gh.mp ak with ak|ak
  .exact h a ak
  .rw[cU]at ak;subst ak;trivial
 .exact h a ak
def s8 (p:cJ) (Y aH:č) (D:B) (l cv dH dL dS dw dR dY c_ gv e5 mI:co):aJ:=[.val<|.ref 1,.val<|.int 16,.val p.aW,.val<|.tup [.int Y,.int aH],.val D,.val<|.int Y,.val<|.int aH,l,cv,dH,dL,dS,dw,dR,dY,c_,gv,e5,mI]
theorem PD{p:cJ}{Y aH:č}{t fo dE:Č}{M:IF bO}{ai:IF c6}{cw cW:hw}(T:Rows S.R)(ae:p.ok)(aA:Y=0\/Y=1\/Y=2)(di:aH=0\/aH=1\/aH=2)(eO:∀m∈M,m.ok)(aK:M.Pairwise wr)(aj:M.length<=4)(aU:cw.ok)(G:cW.ok)(aq:S.R.length+3000<=a3)(q:∀u cd du dv aa,a9 S.R aa 3000->jp aa p.at Y aH (iS M) (be cw) (be cW) u cd du dv->Q (au u) (S.w aa).st):bc (n+9) 86 [.ref 1,.int 16,p.aW,.tup [.int Y,.int aH],.bb<|mY t fo M ai cw cW dE] S.st Q:=by
 k_go;let D:B:=.bb<|mY t fo M ai cw cW dE;refine cE.mp rfl (λdone K=>∀aa cd cv dH dL dS dw dR dY c_,a9 S.R aa (400*done.length)->bW (v6 aa p.at Y aH) cd (iS done)->cd.length<=done.length->K (s8 p Y aH D (.ol<|cd.map fh) cv dH dL dS dw dR dY c_ .un .un .un) (S.w aa).st) (λdone m a' ag K ab aa cd cv dH dL dS dw dR dY c_ g al nk=>?_) (λaa cd cv dH dL dS dw dR dY c_ g al nk=>?_) λK ab=>ab S.R [] _ _ _ _ _ _ _ _ (a9.refl T) .nil<|dA _
 .have aN:m.ok:=eO m (by rw[ag];simp);have aw:=D2 m aN;rw[Y2,da]at ab;have skip:my m=false->∀cv dH dL dS dw dR dY c_,K (s8 p Y aH D (.ol<|cd.map fh) cv dH dL dS dw dR dY c_ .un .un .un) (S.w aa).st:=λdV cv dH dL dS dw dR dY c_=>ab aa cd _ _ _ _ _ _ _ _ (g.le<|hh _<|kc _) (by rw[dV];simpa using al)<|iP nk;refine bj.el (λca=>?_) λca=>?_
  .have LF:=DW m.nm;induction t5:h7 m.nm with
   |true=>exact bj.ir (LF.trans<|by rw[t5];rfl)<|skip (by unfold my;rw[t5];simp) _ _ _ _ _ _ _ _
   |false=>
    refine bj.mh (LF.trans<|by rw[t5];rfl) ?_;have bF:au m.o=.int (if decide (m.o=1)=true then 1 else 0):=by rcases tI aN.o with e|e<;>rw[e]<;>rfl
    refine wh (k:=.txt m.nm) ae ?_;rw[bF];refine C0 aA<|yN (m:=13) (S:=S.w aa) g.ok (aI (ww Y (decide<|m.o=1)<|p.at<|.txt m.nm)<|cJ.q8 ae _) rfl (g.turn ag aj aq) rfl (λa ak=>cJ.fits ae _ a<|uo a ak) λu bu bh ty=>?_;have Sh:∀a:č,a=(if fN Y (decide<|m.o=1)=true then 1 else 0)->Internal.bin .mul (.int a) (.int 1)=some (.int a):=by rintro a rfl;split<;>rfl
    have L':Internal.bin .mul (.int<|gW aH (m.aV:č)) (.int 2)=some (.int<|if gW aH (m.aV:č)=1 then 2 else 0):=by rcases tI aN.aV with e|e<;>rw[e]<;>rcases di with h|h|h<;>rw[h]<;>rfl
    refine ax.of (Sh _ rfl)<|ax.of (Cx di _ _)<|ax.of L'<|⟨v9<|aI (c' nk)<|oq ag aj,?_⟩;have go:∀l,l=(cd++[(m.nm,u,qv Y aH<|kd m,0)]).map fh->∀cv dH dL dS dw dR dY c_,K (s8 p Y aH D (.ol l) cv dH dL dS dw dR dY c_ .un .un .un) (S.w bu).st:=by rintro l rfl cv dH dL dS dw dR dY c_;refine ab bu _ _ _ _ _ _ _ _ _ ((g.trans bh).le<|gu (aG rfl)<|400*done.length) ?_ (by rw[da];exact c' nk);rw[show my m=true by unfold my;rw[t5,show m.h=0 from Int.ofNat_inj.mp ca];rfl,bl rfl];refine bW.snoc ⟨rfl,rfl,rfl,?_⟩<|v6.bf al bh;show d3.Ty bu u<|fC Y (q2<|kd m)<|p.at<|.txt m.nm;rw[aw.1];exact ty
    exact go _ (by rw[cZ];unfold qv;rw[aw.1,aw.2.1];rfl) _ _ _ _ _ _ _ _
  .exact bj.fp ca<|skip (by unfold my;rw[show decide (m.h=0)=false from eC λe=>ca<|by rw[e];rfl];rfl) _ _ _ _ _ _ _ _
 .replace g:a9 S.R aa 1600:=g.le<|hh 400 aj;refine⟨rfl,rfl,by decide,cE.pf (len:=2) (km 2) (λi K=>∀bu (aP:IF (Option<|Č×č)) qk e5 mI,a9 aa bu (400*i)->bW (λa (kL:Ċ (Č×č)×bv)=>lS bu Y aH (p.at kL.2) kL.1 a) aP ([(be cw,bv.S),(be cW,bv.N)].take i)->K (s8 p Y aH D (.ol<|cd.map fh) cv dH dL dS dw dR qk c_ (.ol<|aP.map gm) e5 mI) (S.w bu).st) (λi aB K ab bu aP qk e5 mI tM yz=>?_) (λbu aP qk e5 mI tM yz=>?_) λK ab=>ab aa [] _ _ _ (a9.refl g.ok) .nil⟩
  .obtain⟨c,key,eM,Pq,yr,oI⟩:dX λ(c:hw) (key:bv)=>hU c.ok ((∀s,hn s (.lst [jC cw,jC cW]) (au i)=some (jC c))) ((∀s,hn s (.lst [.tup [.str [119],.str [83]],.tup [.str [119],.str [78]]]) (au i)=some key.aW)) ([(be cw,bv.S),(be cW,bv.N)].take (i+1)=[(be cw,bv.S),(be cW,bv.N)].take i++[(be c,key)]):=by
    rcases tI aB with rfl|rfl
    .exact⟨cw,.S,aU,λ_=>rfl,λ_=>rfl,rfl⟩
    .exact⟨cW,.N,G,λ_=>rfl,λ_=>rfl,rfl⟩
   rw[oI]at ab;have cr:aP.length+1<=3:=c'<|aI (by rw[yz.len];exact List.length_take_le _ _)<|kp aB;have bh:=g.trans tM;have add:∀a dZ l,a9 bu dZ 400->lS dZ Y aH (p.at key) (be c) a->l=(aP++[a]).map gm->∀qk e5 mI,K (s8 p Y aH D (.ol<|cd.map fh) cv dH dL dS dw dR qk c_ (.ol l) e5 mI) (S.w dZ).st:=by rintro a dZ l cL ak rfl qk e5 mI;refine ab dZ _ _ _ _ (tM.trans cL)<|bW.snoc ?_<|yz.imp λa b h=>h.bf cL;exact ak
   lk;refine ax.of (Pq _) ?_;rcases c with _|⟨d1,aV⟩
   .refine⟨v9 cr,?_⟩;exact add none bu _ (a9.refl bh.ok) rfl (by rw[cZ];rfl) _ _ _
   .have k1:=cJ.q8 ae key;have step:∀cR,cR=je Y (p.at key)->∀(qk e5:co) (Z:cj->aJ->St->Prop),bw (n+8) [.set 18<|.tup [.call 75 [.v 0,.v 1,.v 14],.ao (.lst [.ao (.v 18)<|.k<|.int 1,.k<|.int 1,.k<|.int 0])<|.v 6]] (s8 p Y aH D (.ol<|cd.map fh) cv dH dL dS dw dR (.val<|.lst<|cR.map aF.aW) c_ (.ol<|aP.map gm) e5<|.val<|jC<|some (d1,aV)) (S.w bu).st (kD (bw (n+8) [.app 16<|.v 18])<|nb K Z):=by rintro cR rfl qk e5 Z;refine yN (m:=14) (S:=S.w bu) bh.ok (FQ k1) rfl (bh.room aq<|aI (fL (gu (hh 400<|wX aB) 1600) _)<|aG rfl) rfl (EI<|cJ.fits ae _) λu dZ cL ty=>ax.of (Cx di _ _)<|⟨v9 cr,?_⟩;exact add (some (u,gW aH aV)) dZ _ (cL.le<|aG rfl) ⟨u,rfl,ty⟩ (by rw[cZ];rfl) _ _ _
    refine ax.of (yr _)<|wh ae<|bj.el (λh=>?_) λh=>?_
    .refine ax.of (lg<|by rw[bV];exact aI (fL k1 _)<|aG rfl) ?_;have jO:=step (p.at key++[.b .bB]) (by unfold je;rw[bl h]);rw[cZ]at jO;exact jO .un _ _
    .refine ax.of (lg<|by rw[bV];exact aI (fL k1 _)<|aG rfl) ?_;rw[gN];exact step (p.at key) (by unfold je;rw[bm h]) .un _ _
  .obtain⟨_,_,rfl,ak,aw⟩:=bW.pair yz;have bh:=g.trans tM;refine e6 (S:=S.w bu) bh.ok (IB _ _ _) (bh.room aq<|aG rfl) λu dZ cL iD=>q u cd _ _ dZ ((bh.trans cL).le<|aG rfl) ⟨iD,?_,λx az=>?_,λm aN=>?_,ak.bf cL,aw.bf cL⟩
   .have lq:cd.map (·.1)=(iS M).map (·.1):=al.map λ_ _ h=>h.2.1;rw[lq];unfold iS;rw[f2,w_];exact aK.filter _
   .obtain⟨eA,mi,ag,a8⟩:=al.wd x az;exact⟨ag,eA,mi,(a8.bf tM).bf cL⟩
   .obtain⟨hm,mn,ag,a8⟩:=al.mem m aN;exact⟨hm,mn,(a8.bf tM).bf cL⟩
def ij (Y:č) (F:bv->IF aF) (eB len i:Č) (m:č):g9:=let c:g9:=if i<eB then(fC Y (decide<|m=1)<|F<|.txt<|dn i,if fN Y (decide<|m=1)=true then 1 else 0)else(fK Y<|F .N,m);if c.2=1/\eB+1<len then(c.1++[.b .bB],0)else c
def pc (Y:č) (ay:IF č):č:=iH (λm=>decide<|m∈[(0:č)]) (wK Y (cb ay) 0 ay) ay.length
def yU (Y:č) (ay:IF č):ĉ:=(List.range ay.length).all λi=>(ay[i]?).elim true λm=>(decide (i<cb ay)||decide ((if m=2 then 2 else 0)=m))&&(!decide (pN Y (cb ay) i m=1)||(decide ((i:č)<pc Y ay)==decide (cb ay+1<ay.length)))
theorem Qb:(he.all λay=>yU 0 ay&&(yU 1 ay&&yU 2 ay))=true:=by decide+kernel
theorem Kv{Y:č}{F:bv->IF aF}{ay:IF č}(aA:Y=0\/Y=1\/Y=2)(ae:ay∈he){i:Č}{m:č}(aN:ay[i]?=some m):ij Y F (cb ay) ay.length i m=conv (pc Y ay) i (kM Y F (cb ay) i m):=by
 have aw:yU Y ay=true:=by have h:=(e2 _ _).mp<|d'.mp Qb ay ae;have E:=(e2 _ _).mp h.2;exact aA.elim (· ▸h.1) λaA=>aA.elim (· ▸E.1) (· ▸E.2)
 have h:=d'.mp aw i<|lC.mpr (g0.mp aN).1;rw[aN]at h;replace h:((decide (i<cb ay)||decide ((if m=2 then 2 else 0)=m))&&(!decide (pN Y (cb ay) i m=1)||(decide ((i:č)<pc Y ay)==decide (cb ay+1<ay.length))))=true:=h;simp only[e2,l0,jL,kk,mH,fM,u2]at h;obtain⟨G,E⟩:=h;have e:(if i<cb ay then((fC Y (decide<|m=1)<|F<|.txt<|dn i,if fN Y (decide<|m=1)=true then 1 else 0):g9)else(fK Y<|F .N,m))=kM Y F (cb ay) i m:=by
  unfold kM;split
  .rfl
  .rename_i aB;rw[G.resolve_left aB]
 have a8:(kM Y F (cb ay) i m).2=pN Y (cb ay) i m:=by unfold kM pN;split<;>rfl
 unfold ij conv
 dsimp only;rw[e,a8];by_cases c:pN Y (cb ay) i m=1
 .have:=E.resolve_left<|λn=>n c;by_cases d:(i:č)<pc Y ay
  .rw[bl ⟨c,this.mp d⟩,bl ⟨c,d⟩]
  .rw[bm λx=>d<|this.mpr x.2,bm λx=>d x.2]
 .rw[bm λx=>c x.1,bm λx=>c x.1]
theorem Gn(Y:č)(F:bv->IF aF)(eB:Č)(l:IF č):∀(j i:Č) {m:č},l[i]?=some m->(mx Y F eB j l)[i]?=some (kM Y F eB (j+i) m):=by
 induction l with
 |nil=>exact λ_ _ _ h=>nomatch h
 |cons a r ap=>
  intro j i m h;induction i using Nat.casesOn with
  |zero=>rw[<-cV h];rfl
  |succ i=>exact(ap (j+1) i h).trans (by rw[zy];rfl)
theorem La(dQ:č)(l:IF g9):∀(j i:Č) {c:g9},l[i]?=some c->(jt dQ j l)[i]?=some (conv dQ (j+i) c):=by
 induction l with
 |nil=>exact λ_ _ _ h=>nomatch h
 |cons a r ap=>
  intro j i m h;induction i using Nat.casesOn with
  |zero=>rw[<-cV h];rfl
  |succ i=>exact(ap (j+1) i h).trans (by rw[zy];rfl)
def jT (Y:č) (F:bv->IF aF) (ay:IF č):IF g9:=jt (pc Y ay) 0<|mx Y F (cb ay) 0 ay
theorem Sj{Y:č}{F:bv->IF aF}{ay:IF č}(aA:Y=0\/Y=1\/Y=2)(ae:ay∈he){i:Č}{m:č}(aN:ay[i]?=some m):(jT Y F ay).take (i+1)=(jT Y F ay).take i++[ij Y F (cb ay) ay.length i m]:=by rw[zt,Kv aA ae aN];unfold jT;rw[La (pc Y ay) _ 0 i<|Gn Y F (cb ay) ay 0 i aN,iJ];rfl
theorem Zk(ay:IF č):∀n:Č,2∈ay->k6.go (.int 2) (ay.map .int) n=some (au<|n+cb ay):=by
 induction ay with
 |nil=>exact λ_ h=>nomatch h
 |cons m r ap=>
  intro n h;show(match some (decide<|m=2)with|some true=>some (B.int n)|some false=>k6.go (.int 2) (r.map .int) (n+1)|none=>none)=some (au<|n+if m=2 then 0 else cb r+1);by_cases c:m=2
  .rw[dK c,bl c];rfl
  .rw[eC c,bm c];exact(ap (n+1)<|(eD.mp h).resolve_left λe=>c e.symm).trans (by rw[zy];rfl)
theorem Bc(ay:IF č):2∉ay->cb ay=ay.length:=by
 induction ay with
 |nil=>exact λ_=>rfl
 |cons m r ap=>exact λh=>(bm λe=>h<|by rw[e];exact .head _).trans<|bH Nat.succ<|ap λq=>h<|.tail _ q
theorem Cu{ay:IF č}(h:2∈ay):k6 .index [.lst<|ay.map .int,.int 2]=some (au<|cb ay):=by show(if(hN (.int 2)<|ay.map .int).isSome then k6.go (.int 2) (ay.map .int) 0 else none)=_;rw[tD,bl (by rfl),Zk ay 0 h,iJ]
theorem Hx:∀ay∈he,∀m∈ay,m=0\/m=1\/m=2:=by decide
theorem aF.Er{K:IF aF}(h:∀a∈K,a.fits):∀a∈K++[aF.b .bB],a.fits:=by
 intro a ak;rcases gh.mp ak with ak|ak
 .exact h a ak
 .rw[cU]at ak;subst ak;trivial
theorem xv{Y:č}{K:IF aF}(h:∀a∈K,a.fits):∀a∈fK Y K,a.fits:=by
 unfold fK;split
 .exact aF.Er h
 .split
  .exact λa ak=>h a (gC.mp ak).1
  .exact h
def rf (p:cJ) (Y aH:č) (D:B) (TB:č) (cv dH dL l dw dR dY:co):aJ:=[.val<|.ref 1,.val<|.int 16,.val p.aW,.val<|.tup [.int Y,.int aH],.val D,.val<|.int Y,.val<|.int aH,.val<|.int TB,cv,dH,dL,l,dw,dR,dY,.un,.un,.un]
theorem L2{es:hp}{ay:IF č}(h:es.map (·.2)=ay):(qF es).flatMap vz=ay.map .int:=by
 rw[<-h];unfold qF;clear h;induction es with
 |nil=>rfl
 |cons e es ap=>rw[gf,qm,ap];rfl
theorem DZ{ay:IF č}{i:Č}{m:č}(aN:ay[i]?=some m)(s:St):hn s (.lst<|ay.map .int) (au i)=some (.int m):=by show(jX (i:č) (ay.map B.int).length).bind (λj=>(ay.map B.int)[j]?)=_;rw[bV,qL (g0.mp aN).1];show(ay.map B.int)[i]?=_;rw[gX,aN];rfl
theorem Y8{p:cJ}{Y aH:č}{t aV:Č}{es:hp}(T:Rows S.R)(ae:p.ok)(aA:Y=0\/Y=1\/Y=2)(di:aH=0\/aH=1\/aH=2)(nQ:es.map (·.2)∈he)(ou:aV<2)(aq:S.R.length+4000<=a3)(f':es.map (·.2)=[2]->∀u x aa,a9 S.R aa 4000->d3.Ty aa x (fK Y<|p.at .N)->aa[u]?=some (hX x<|gW aH aV)->Q (au u) (S.w aa).st)(q':es.map (·.2)≠[2]->∀u cz aa,a9 S.R aa 4000->hf 15 aa cz (jT Y p.at<|es.map (·.2))->aa[u]?=some (.tup [.int 12,.tup<|df cz,.int<|gW aH aV])->Q (au u) (S.w aa).st):bc (n+9) 87 [.ref 1,.int 16,p.aW,.tup [.int Y,.int aH],.bb<|kx t es aV] S.st Q:=by
 have i9:=cJ.fits ae;have md:=cJ.q8 ae;have te:(fK Y<|p.at .N).length<=14:=aI (CQ _ _)<|c'<|md .N;generalize ms:es.map (·.2)=ay at*;have mU:=uB ay nQ;k_go;refine ax.of (Cx di _ _)<|wh (k:=.N) ae<|bw.to (rf p Y aH (.bb<|kx t es aV) (gW aH aV) (.val<|.lst<|(if Y=1 then p.at .N++[.b .bB]else p.at .N).map aF.aW) .un .un .un .un .un .un) S.st (λK ab=>?_) ?_
 .refine bj.el (λh=>?_) λh=>?_
  .rw[bl h,cZ]at ab;exact ax.of (lg<|by rw[bV];exact aI (fL (md .N) _)<|aG rfl) ab
  .rw[bm h]at ab;exact ab
 refine bw.to (rf p Y aH (.bb<|kx t es aV) (gW aH aV) (.val<|.lst<|(fK Y<|p.at .N).map aF.aW) .un .un .un .un .un .un) S.st (λK ab=>?_) ?_
 .refine bj.el (λh=>?_) λh=>?_
  .have G:¬Y=1:=by rw[h];decide
   rw[show fK Y (p.at .N)=a' (p.at .N)by unfold fK;rw[bm G,bl h]]at ab;rw[bm G];refine dj.comp (x:=.lst<|(p.at .N).map aF.aW) rfl<|pd (f:=λv=>if(fj v nd)=some true then []else [v]) rfl ?_ ?_
   .intro v af bT a_;obtain⟨a,ak,rfl⟩:=dq.mp af;clear af;refine eR.mk ?_;lk;refine ax.of (K0 a) ?_;rw[vE]at a_;by_cases h:a=.b .bB
    .rw[dK h]at a_⊢;exact a_
    .rw[eC h]at a_⊢;exact a_
   .rw[Hs];exact ab
  .rw[show fK Y (p.at .N)=if Y=1 then p.at .N++[.b .bB]else p.at .N by unfold fK;rw[bm h]]at ab;exact ab
 refine bj.el (λvx=>?_) λvx=>?_
 .rw[ms]at vx;exact yN (m:=14) T te rfl (hb ‹_›) rfl (xv<|i9 .N) λx aa g ty=>e6 (S:=S.w aa) g.ok rfl (g.room aq<|aG rfl) λu bu bh e=>f' vx u x bu ((g.trans bh).le<|aG rfl) (ty.bf bh) e
 .rw[ms]at vx;refine bw.skip<|bw.to (rf p Y aH (.bb<|kx t es aV) (gW aH aV) (.val<|.lst<|(fK Y<|p.at .N).map aF.aW) (.val<|.lst<|ay.map .int) .un .un .un .un .un) S.st (λK ab=>?_) ?_
  .refine dj.oR (x:=.lst<|qF es) rfl (λ_ h=>h)<|pd (f:=vz) rfl ?_ ?_
   .intro v af bT a_;obtain⟨e,a6,rfl⟩:=dq.mp af;clear af;exact eR.mk a_
   .rw[L2 ms];exact ab
  refine bw.to (rf p Y aH (.bb<|kx t es aV) (gW aH aV) (.val<|.lst<|(fK Y<|p.at .N).map aF.aW) (.val<|.lst<|ay.map .int) (.val<|au<|cb ay) .un .un .un .un) S.st (λK ab=>?_) ?_
  .refine ax.of (show hD .isin S.st (.int 2) (.lst<|ay.map .int)=_ from tD 2 ay)<|bj.el (λh=>?_) λh=>?_
   .exact ax.of (Cu h) ab
   .rw[Bc ay h,<-bV (f:=B.int)]at ab;exact ab
  lk;rw[bV];refine⟨rfl,ih<|aI mU<|aG rfl,xQ mU,cE.pf (len:=ay.length) (km _) (λi K=>∀aa cz dw dR dY,a9 S.R aa (500*i)->hf 15 aa cz ((jT Y p.at ay).take i)->K (rf p Y aH (.bb<|kx t es aV) (gW aH aV) (.val<|.lst<|(fK Y<|p.at .N).map aF.aW) (.val<|.lst<|ay.map .int) (.val<|au<|cb ay) (.ol<|df cz) dw dR dY) (S.w aa).st) (λi aB K ab aa cz dw dR dY g cf=>?_) (λaa cz dw dR dY g cf=>?_) λK ab=>ab S.R [] _ _ _ (a9.refl T) .nil⟩
  .have aN:ay[i]?=some ay[i]:=fq aB;generalize ay[i]=m at aN;rw[Sj (F:=p.at) aA nQ aN]at ab;have xi:i<5:=gH aB mU;have dQ:∀(eN:IF aF) (Dl:č) (dw:co) (Z:cj->aJ->St->Prop),(∀a∈eN,a.fits)->eN.length<=15->ij Y p.at (cb ay) ay.length i m=(eN,Dl)->bw (n+8) [.app 11<|.tup [.call 75 [.v 0,.v 1,.v 13],.v 14]] (rf p Y aH (.bb<|kx t es aV) (gW aH aV) (.val<|.lst<|(fK Y<|p.at .N).map aF.aW) (.val<|.lst<|ay.map .int) (.val<|au<|cb ay) (.ol<|df cz) dw (.val<|.lst<|eN.map aF.aW)<|.val<|.int Dl) (S.w aa).st (nb K Z):=by intro eN Dl dw Z On JC Od;rw[Od]at ab;refine yN (m:=15) (S:=S.w aa) g.ok JC rfl (g.room aq<|aI (fL (hh 500<|kp xi) _)<|aG rfl) rfl On λu bu bh ty=>?_;refine⟨by rw[mg];exact aI (c'<|aI (by rw[cf.len];exact List.length_take_le _ _)<|kp xi)<|aG rfl,?_⟩;rw[tF];exact ab bu _ _ _ _ ((g.trans bh).le<|gu (aG rfl)<|500*i)<|bW.snoc ⟨rfl,ty,JC⟩<|cf.bf bh
   have fin:∀(K:IF aF) (fV:č) (Z:cj->aJ->St->Prop),(∀a∈K,a.fits)->K.length<=14->ij Y p.at (cb ay) ay.length i m=(if fV=1/\cb ay+1<ay.length then(K++[.b .bB],0)else(K,fV))->bw (n+8) [.iff (.an [.cmp (.v 14) [(.eq,.k<|.int 1)],.cmp (.v 10) [(.lt,.bin .sub (.bi .len [.v 9])<|.k<|.int 1)]]) [.ho [13,14]<|.tup [.bin .add (.v 13)<|.lst [.k<|.tup [.str [119],.str [117]]],.k<|.int 0]] [],.app 11<|.tup [.call 75 [.v 0,.v 1,.v 13],.v 14]] (rf p Y aH (.bb<|kx t es aV) (gW aH aV) (.val<|.lst<|(fK Y<|p.at .N).map aF.aW) (.val<|.lst<|ay.map .int) (.val<|au<|cb ay) (.ol<|df cz) (.val<|au i) (.val<|.lst<|K.map aF.aW)<|.val<|.int fV) (S.w aa).st (nb ‹aJ->St->Prop› Z):=by
    intro K fV Z ab q6 eQ;by_cases G:fV=1
    .refine bj.pK G ?_;lk;rw[bV];by_cases E:cb ay+1<ay.length
     .rw[bl ⟨G,E⟩]at eQ;have jO:=dQ _ _ (.val<|au i) Z (aF.Er ab) (by rw[da];exact c' q6) eQ;rw[cZ]at jO;refine bj.pK (Int.lt_sub_right_of_add_lt<|iG.mpr E) ?_;exact ax.of (lg<|by rw[bV];exact aI (fL q6 _)<|aG rfl) jO
     .rw[bm λx=>E x.2]at eQ;exact bj.fp (λh=>E<|iG.mp<|Int.add_lt_of_lt_sub_right h)<|dQ _ _ _ _ ab (iP q6) eQ
    .rw[bm λx=>G x.1]at eQ;exact bj.fp G<|bj.fp G<|dQ _ _ _ _ ab (iP q6) eQ
   lk;refine ax.of (DZ aN _)<|bj.el (λcT=>?_) λcT=>?_
   .replace cT:i<cb ay:=iG.mp cT;have V8:B.int m=.int (if decide (m=1)=true then 1 else 0):=by
     rcases Hx ay nQ m (h' aN)with h|h|h
     .rw[h];rfl
     .rw[h];rfl
     .exact absurd h<|Av aN cT
    have vf:oZ .str (S.w aa).st [au i]=some (.str<|dn i):=by show(if small (i:č)then i7 (dn i).length (B.str<|dn i)else none)=_;rw[ih<|pu xi,bl<|by rfl];exact bl<|aI (yq i<|vD xi)<|aG rfl
    refine ax.of vf<|wh (k:=.txt<|dn i) ae<|ax.of (DZ aN _) ?_;rw[V8];refine C0 aA ?_;exact fin (fC Y (decide<|m=1)<|p.at<|.txt<|dn i) (if fN Y (decide<|m=1)=true then 1 else 0) _ (λa ak=>i9 _ a<|uo a ak) (aI (ww _ _ _)<|iP<|md _) (by unfold ij;rw[bl cT])
   .exact fin (fK Y<|p.at .N) m _ (xv<|i9 .N) te (by unfold ij;rw[bm λh=>cT<|iG.mpr h])
  .rw[r8<|by unfold jT;rw[uP,vG];exact dA _]at cf;exact e6 (S:=S.w aa) g.ok (C1 _ _) (g.room aq<|aI (fL (hh 500 mU) _)<|aG rfl) λu bu bh e=>q' vx u cz bu ((g.trans bh).le<|aI (fL (hh 500 mU) _)<|aG rfl) (cf.bf bh) e
abbrev cX:=List<|bx×IF aM×Č
def jJ (e:bx×IF aM×Č):IF aM:=e.2.1++List.replicate e.2.2 .bB
def ed (x:bx):cX->Ċ (bx×IF aM×Č)
 |[]=>none
 |e::r=>if e.1=x then some e else ed x r
def qe (z:cX):bv->IF aM
 |.txt x=>match ed x z with
  |none=>[.bB]
  |some e=>jJ e
 |_=>z.flatMap jJ
def l' (z:cX):aM->IF aM
 |.ao k=>qe z k
 |a=>[a]
def mK (z:cX) (K:IF aM):IF aM:=K.flatMap<|l' z
def vj (z:cX):aF->IF aF
 |.b a=>(l' z a).map .b
 |.arr K=>[.arr<|mK z K]
def iX (z:cX) (K:IF aF):IF aF:=K.flatMap<|vj z
def lD (x:bx):ĉ:= !x.isEmpty&&x.all λc=>decide<|c∈[48,49,50,51,52,53,54,55,56,57]
def qB (p:aM->ĉ):aM->ĉ
 |.txt x=>p .S||(p .N&&lD x)
 |.num _=>p .N
 |_=>false
def ug (a:aM) (room:IF aM):ĉ:=decide (a∈room)||qB (λb=>decide<|b∈room) a
def q_ (K room:IF aM):ĉ:=K.all λa=>ug a room
def B7 (K:IF aM):aF->ĉ
 |.arr aP=>q_ K aP
 |.b _=>false
def W' (room:IF aF):aF->ĉ
 |.b a=>qB (λb=>decide<|aF.b b∈room) a
 |.arr K=>room.any<|B7 K
def jI (a:aF) (room:IF aF):ĉ:=decide (a∈room)||W' room a
def j_ (K room:IF aF):ĉ:=K.all λa=>jI a room
def MQ(z:cX)(K:IF aM):aM->Prop
 |.ao k=>∃iw,.ao iw∈K/\∀u∈qe z k,u∈qe z iw
 |a=>a∈K\/(match a with|.txt x=>aM.S∈K\/(aM.N∈K/\lD x=true)|.num _=>aM.N∈K|_=>False)
def ki(z:cX)(aP K:IF aM):Prop:=∀a∈aP,MQ z K a
def m5(z:cX)(aP K:IF aF):Prop:=∀a∈aP,a≠.b .bB->match a with
 |.b (.ao k)=>∃iw,.b (.ao iw)∈K/\∀u∈qe z k,u∈qe z iw
 |.b a=>.b a∈K\/(match a with|.txt x=>aF.b .S∈K\/(aF.b .N∈K/\lD x=true)|.num _=>aF.b .N∈K|_=>False)
 |.arr fc=>∃eN,.arr eN∈K/\ki z fc eN
def ry(K aT:IF aM):Prop:=∀a∈K,h0.iA K a->a∈aT
def i2(K aT:IF aF):Prop:=∀a∈K,d3.iA K a->match a with
 |.b a=>.b a∈aT
 |.arr eN=>∃sX,.arr sX∈aT/\ry eN sX
theorem XN{a:aM}{room:IF aM}(h:a∈room):ug a room=true:=by unfold ug;rw[dK h];rfl
theorem tV{a:aF}{room:IF aF}(h:a∈room):jI a room=true:=by unfold jI;rw[dK h];rfl
theorem FK{z:cX}{K:IF aM}{a b:aM}(h:a∈K)(aR:b∈l' z a):b∈mK z K:=jS.mpr ⟨a,h,aR⟩
theorem tG{z:cX}{K:IF aF}{a b:aF}(h:a∈K)(aR:b∈vj z a):b∈iX z K:=jS.mpr ⟨a,h,aR⟩
theorem ry.aS{K aT:IF aM}(h:ry K aT)(m:aM.S∈K):aM.S∈aT:=h _ m<|dd.ni rfl
theorem ry.N{K aT:IF aM}(h:ry K aT)(m:aM.N∈K):aM.N∈aT:=h _ m<|dd.ni rfl
theorem i2.aS{K aT:IF aF}(h:i2 K aT)(m:aF.b .S∈K):aF.b .S∈aT:=h _ m<|dd.ni rfl
theorem i2.N{K aT:IF aF}(h:i2 K aT)(m:aF.b .N∈K):aF.b .N∈aT:=h _ m<|dd.ni rfl
theorem i2.U{K aT:IF aF}(h:i2 K aT)(m:aF.b .bB∈K):aF.b .bB∈aT:=h _ m<|dd.ni rfl
theorem q0{a b:ĉ}(h:a=true):(a||b)=true:=by rw[h];rfl
theorem oV{a b:ĉ}(h:b=true):(a||b)=true:=by rw[h,x7]
theorem Le{a b:ĉ}(h:(a||b)=true):a=true\/b=true:=(l0 _ _).mp h
def Ab(q:aM->Prop):aM->Prop
 |.txt x=>q .S\/(q .N/\lD x=true)
 |.num _=>q .N
 |_=>False
theorem LD{a:aM}{q:aM->Prop}{p:aM->ĉ}(e9:q .S->p .S=true)(dc:q .N->p .N=true)(iB:q a->(h0.h8 a=6->¬q .S)/\(h0.h8 a=7->¬q .N)->p a=true)(G:q a\/Ab q a):(p a||qB p a)=true:=by
 induction a using aM.casesOn with
 |txt x=>
  rcases G with m|m|⟨m,d⟩
  .by_cases c:q .S
   .exact oV<|q0<|e9 c
   .exact q0<|iB m ⟨λ_=>c,λe=>(nomatch e)⟩
  .exact oV<|q0<|e9 m
  .exact oV<|oV<|lh (dc m) d
 |num i=>
  rcases G with m|m
  .by_cases c:q .N
   .exact oV<|dc c
   .exact q0<|iB m ⟨λe=>(nomatch e),λ_=>c⟩
  .exact oV<|dc m
 |_=>exact q0<|iB (G.resolve_right id) ⟨λe=>(nomatch e),λe=>(nomatch e)⟩
theorem UM{z:cX}{aP K aT:IF aM}(h:ki z aP K)(s:ry K aT):q_ (mK z aP) (mK z aT)=true:=by
 unfold q_;rw[d'];intro b aw;obtain⟨a,ak,aw⟩:=jS.mp aw;have G:=h a ak;have mem:∀{a:aM},a∈aT->l' z a=[a]->decide (a∈mK z aT)=true:=λm e=>dK (FK m<|by rw[e];exact .head _);have go:(l' z a=[a])->(a∈K\/Ab (λb=>b∈K) a)->ug b (mK z aT)=true:=λe G=>by rw[e]at aw;rw[cU.mp aw];exact LD (q:=λb=>b∈K) (p:=λb=>decide<|b∈mK z aT) (λm=>mem (s.aS m) rfl) (λm=>mem (s.N m) rfl) (λm k=>mem (s _ m k) e) G
 induction a using aM.casesOn with
 |ao k=>obtain⟨iw,aE,pp⟩:=G;exact XN<|FK (s _ aE<|dd.ni rfl)<|pp b aw
 |_=>exact go rfl G
theorem Ps{a:aM}{p et:aM->ĉ}(h:∀b,p b=true->et b=true)(e:qB p a=true):qB et a=true:=by
 induction a using aM.casesOn with
 |txt x=>exact(Le e).elim (λe=>q0<|h _ e) λe=>oV<|lh (h _ ((e2 _ _).mp e).1) ((e2 _ _).mp e).2
 |num i=>exact h _ e
 |_=>exact e
theorem YI{a:aF}{r b2:IF aF}(h:∀x∈r,x∈b2)(q:jI a r=true):jI a b2=true:=by
 refine(Le q).elim (λq=>q0<|dK<|h _<|fe q) λq=>oV ?_;induction a using aF.casesOn with
 |b a=>exact Ps (λb e=>dK<|h _<|fe e) q
 |arr K=>obtain⟨m,aN,q⟩:=sE.mp q;exact sE.mpr ⟨m,h _ aN,q⟩
theorem Xq{z:cX}{aP K aT:IF aF}(h:m5 z aP K)(s:i2 K aT):∀b∈iX z aP,(b=.b .bB/\.b .bB∈aP)\/jI b (iX z aT)=true:=by
 intro b aw;obtain⟨a,ak,aw⟩:=jS.mp aw;by_cases a4:a=.b .bB
 .rw[a4]at aw ak;exact .inl ⟨cU.mp aw,ak⟩
 have G:=h a ak a4;refine .inr ?_;induction a using aF.casesOn with
 |arr fc=>rw[show b=.arr (mK z fc)from cU.mp aw];obtain⟨eN,aE,pp⟩:=G;obtain⟨sX,e1,aK⟩:=s _ aE<|dd.ni rfl;exact oV<|sE.mpr ⟨_,tG e1<|cU.mpr rfl,UM pp aK⟩
 |b a=>
  have mem:∀{a:aM},aF.b a∈aT->l' z a=[a]->decide (aF.b a∈iX z aT)=true:=λ{a} m e=>dK (tG m<|by show _∈(l' z a).map aF.b;rw[e];exact .head _);have go:(l' z a=[a])->(aF.b a∈K\/Ab (λb=>aF.b b∈K) a)->jI b (iX z aT)=true:=λe G=>by rw[show vj z (.b a)=[.b a]from bH (List.map aF.b) e]at aw;rw[cU.mp aw];exact LD (q:=λb=>aF.b b∈K) (p:=λb=>decide<|aF.b b∈iX z aT) (λm=>mem (s.aS m) rfl) (λm=>mem (s.N m) rfl) (λm k=>mem (s _ m k) e) G
  induction a using aM.casesOn with
  |ao k=>obtain⟨iw,aE,pp⟩:=G;obtain⟨u,a4,e⟩:=dq.mp aw;rw[<-e];exact tV<|tG (s _ aE<|dd.ni rfl)<|fx<|pp u a4
  |_=>exact go rfl G
def sK (z:cX) (Y:č) (fO:ĉ) (aP:IF aF):IF aF:=fC Y fO (iX z aP)++if fN Y fO=true then [.b .bB]else []
def m1 (z:cX) (Y:č) (aT:IF aF) (U:ĉ):IF aF:=iX z (aT++if U=true then [.b .bB]else [])++if Y=2 then [.b .bB]else []
theorem AC{z:cX}{Y:č}{K aT:IF aF}{U:ĉ}(s:i2 K aT)(h:U=true\/.b .bB∈K\/Y=2):aF.b .bB∈m1 z Y aT U:=by
 unfold m1;rw[gh];rcases h with rfl|h|rfl
 .exact .inl<|tG (iC _<|by rw[bl rfl];exact .head _)<|cU.mpr rfl
 .exact .inl<|tG (kz _<|s.U h)<|cU.mpr rfl
 .exact .inr (by rw[bl rfl];exact .head _)
theorem xc{z:cX}{Y:č}{fO U:ĉ}{aP K aT:IF aF}(aA:Y=0\/Y=1\/Y=2)(h:m5 z aP K)(s:i2 K aT)(G:fN Y fO=true->U=true\/.b .bB∈K\/Y=2)(E:Y=0->fO=false->.b .bB∈aP->U=true\/.b .bB∈K):j_ (sK z Y fO aP) (m1 z Y aT U)=true:=by
 have sub:∀x∈iX z aT,x∈m1 z Y aT U:=λx az=>by obtain⟨a,ak,az⟩:=jS.mp az;exact kz _<|tG (kz _ ak) az
 unfold j_;rw[d'];intro b aw;unfold sK at aw;rcases gh.mp aw with aw|aw
 .rcases Xq h s b (uo b aw)with⟨rfl,cr⟩|ca
  .refine tV<|AC s ?_;induction aK:fN Y fO with
   |true=>exact G aK
   |false=>
    rcases aA with rfl|rfl|rfl
    .induction fO with
     |true=>exact ig aK
     |false=>exact(E rfl rfl cr).imp id .inl
    .exact ig aK
    .exact .inr<|.inr rfl
  .exact YI sub ca
 .split at aw
  .rename_i aK;rw[cU]at aw;subst aw;exact tV<|AC s<|G aK
  .cases aw
theorem Am{z:cX}{Y:č}{U:ĉ}{K aT:IF aF}(s:i2 K aT)(G:U=true\/.b .bB∈K\/Y=2):j_ [.b .bB] (m1 z Y aT U)=true:=by unfold j_;rw[d'];intro b aw;rw[cU]at aw;subst aw;exact tV<|AC s G
def bv.un (l:IF B):bv:=match l with
 |x::_=>(match x with|.str t=>if t=[116]then .txt (match l with|[_,.str x]=>x|_=>[])else(match l with|[_,.str x]=>if x=[83]then .S else .N|_=>.N)|_=>.N)
 |_=>.N
def aM.un (v:B):aM:=match v with
 |.tup l=>(match l with
  |x::l=>(match x with
   |.str t=>(match l with
    |y::_=>if t=[116]then(match y with|.str x=>.txt x|_=>.N)else if t=[35]then(match y with|.int i=>.num i|_=>.N)else if t=[119]then(match y with|.str x=>if x=[117]then .bB else if x=[110]then .nul else if x=[83]then .S else .N|_=>.N)else(match y with|.tup m=>.ao (bv.un m)|_=>.N)
    |[]=>.N)
   |_=>.N)
  |[]=>.N)
 |_=>.N
theorem aM.Js(a:aM):aM.un a.aW=a:=by
 induction a with
 |ao k=>induction k<;>rfl
 |_=>rfl
theorem aM.inj{a b:aM}(h:a.aW=b.aW):a=b:=a.Js.symm.trans<|(bH aM.un h).trans b.Js
def tq (v:B):ĉ:=match v with
 |.tup (.str t::_)=>decide<|t=[91]
 |_=>false
theorem aM.tq(a:aM):Internal.tq a.aW=false:=by induction a<;>rfl
theorem aF.inj{a b:aF}(h:a.aW=b.aW):a=b:=by
 induction a with
 |b a=>
  induction b with
  |b b=>exact bH _<|aM.inj h
  |arr K=>exact cH<|a.tq.symm.trans<|bH Internal.tq h
 |arr K=>
  induction b with
  |b b=>exact cH ((bH Internal.tq h).trans b.tq).symm
  |arr eN=>have h:B.tup (K.map aM.aW)=B.tup (eN.map aM.aW):=(s0 (s0<|B.tup.inj h).2).1;exact bH _<|(List.map_inj_right λa b h=>aM.inj h).mp<|B.tup.inj h
theorem bv.zP(k:bv)(n:Č):Internal.fy (n+1) k.aW=true:=by induction k<;>induction n<;>rfl
theorem aM.zP(a:aM)(n:Č):Internal.fy (n+2) a.aW=true:=by
 induction a with
 |ao k=>show(true&&(Internal.fy (n+1) k.aW&&true))=true;rw[bv.zP];rfl
 |_=>rfl
theorem aF.fy(a:aF):Internal.fy 16 a.aW=true:=by
 induction a with
 |b a=>exact a.zP 14
 |arr K=>show(true&&((K.map aM.aW).all (Internal.fy 14)&&true))=true;rw[Bool.true_and,Bool.and_true,pa,d'];exact λa _=>a.zP 12
theorem EA(a:aF)(aT:IF aF):hN a.aW (aT.map aF.aW)=some (decide<|a∈aT):=by
 rcases DS a.fy (l:=aT.map aF.aW) (λx az=>by obtain⟨b,_,rfl⟩:=dq.mp az;clear az;exact b.fy)with⟨m,e⟩|⟨m,e⟩
 .rw[e,dK];obtain⟨b,aw,e⟩:=dq.mp m;clear m;rwa[aF.inj e]at aw
 .rw[e,eC λh=>m<|fx h]
def dD (z:cX):IF (B×B):=z.map λe=>(.str e.1,.tup [.lst<|e.2.1.map aM.aW,au e.2.2])
structure ja(z:cX):Prop where
 b7:(z.map (·.1)).Nodup
 len:z.length<=10
 k:∀e∈z,e.2.1.length<=3/\e.2.2<=1
theorem IP(z:cX):items (.bb<|dD z)=some ((z.map (·.1)).map eo):=by
 have E:((dD z).all λe=>eH e.1==2)=true:=by unfold dD;rw[pa];exact d'.mpr λ_ _=>rfl
 show(if(((dD z).all λe=>eH e.1==1)||((dD z).all λe=>eH e.1==2))=true then some ((dD z).map (·.1))else none)=_;rw[E,x7,bl rfl];unfold dD;rw[f2,f2];rfl
theorem pS(x:bx)(z:cX):ep (.str x) (dD z)=true:=uu rfl λ_=>rfl
theorem Gz(x:bx)(z:cX):fv (.str x) (dD z)=some ((ed x z).map λe=>.tup [.lst<|e.2.1.map aM.aW,au e.2.2]):=by
 induction z with
 |nil=>rfl
 |cons e r ap=>
  show(match some (decide<|e.1=x)with|some true=>some (some<|B.tup [.lst<|e.2.1.map aM.aW,au e.2.2])|some false=>fv (.str x) (dD r)|none=>none)=some ((if e.1=x then some e else ed x r).map _);by_cases h:e.1=x
  .rw[dK h,bl h];rfl
  .rw[eC h,bm h];exact ap
theorem Af{s:St}(x:bx)(z:cX):qw s (.str x) (.bb<|dD z)=some (ed x z).isSome:=by show(if ep (.str x) (dD z)then(fv (.str x)<|dD z).map (·.isSome)else none)=_;rw[pS,Gz,bl rfl];induction ed x z<;>rfl
theorem HA{s:St}{x:bx}{z:cX}{e:bx×IF aM×Č}(h:ed x z=some e):hn s (.bb<|dD z) (.str x)=some (.tup [.lst<|e.2.1.map aM.aW,au e.2.2]):=by show(if ep (.str x) (dD z)then(fv (.str x)<|dD z).bind id else none)=_;rw[pS,Gz,h];rfl
theorem MC{z:cX}:(z.map (·.1)).Nodup->∀e∈z,ed e.1 z=some e:=by
 induction z with
 |nil=>exact λ_ _ h=>nomatch h
 |cons a r ap=>
  intro h e m;have h:=hK.mp h;cases m with
  |head=>exact bl rfl
  |tail _ m=>exact(bm λq:a.1=e.1=>h.1<|by show a.1∈_;rw[q];exact fx (f:=λx:bx×IF aM×Č=>x.1) m).trans<|ap h.2 e m
theorem rx{z:cX}{x:bx}{e:bx×IF aM×Č}:ed x z=some e->e∈z/\e.1=x:=by
 induction z with
 |nil=>exact λh=>nomatch h
 |cons a r ap=>
  intro h;replace h:(if a.1=x then some a else ed x r)=some e:=h;by_cases c:a.1=x
  .rw[bl c]at h;rw[<-cV h];exact⟨.head _,c⟩
  .rw[bm c]at h;exact⟨.tail _ (ap h).1,(ap h).2⟩
theorem BL{z:cX}(h:ja z):∀e∈z,(jJ e).length<=4:=λe a6=>by unfold jJ;rw[da,t9];exact gG (h.k e a6).1 (h.k e a6).2
theorem ti{av b9:Type}(f:av->IF b9)(b:Č){l:IF av}:(∀x∈l,(f x).length<=b)->(l.flatMap f).length<=b*l.length:=by
 induction l with
 |nil=>exact λ_=>f_ _
 |cons a l ap=>intro h;rw[qm,da,qb];exact gG (ap λx az=>h x<|.tail _ az)<|h a<|.head _
theorem GG{z:cX}(h:ja z)(k:bv):(qe z k).length<=40:=by
 have gc:(z.flatMap jJ).length<=40:=by exact aI (ti jJ 4<|BL h)<|hh 4 h.len
 induction k with
 |txt x=>
  show(match ed x z with|none=>[aM.bB]|some e=>jJ e).length<=40;induction e:ed x z with
  |none=>simp
  |some bz=>exact aI (BL h bz (rx e).1)<|aG rfl
 |S=>exact gc
 |N=>exact gc
theorem FD{z:cX}(h:ja z)(a:aM):(l' z a).length<=40:=by
 induction a with
 |ao k=>exact GG h k
 |_=>exact h4 rfl
section
variable{n:Č}{s:St}{z:cX}
def JO (z:cX) (eZ fP:co) (l:IF B) (eV c1 dg po:co):aJ:=[.val<|.bb<|dD z,eZ,fP,.ol l,eV,c1,dg,po]
theorem DU{Q:B->St->Prop}{es:cX}{eZ fP kv oH DD po:co}(h:ja z)(on:∀e∈es,ed e.1 z=some e)(aj:es.length<=10)(q:Q (.lst<|(es.flatMap jJ).map aM.aW) s):cE n false [4] [.ho [5,6]<|.ao (.v 0)<|.v 4,.ext 3<|.bin .add (.v 5)<|.bin .mul (.lst [.k<|.tup [.str [119],.str [117]]])<|.v 6] ((es.map (·.1)).map eo) (JO z eZ fP [] kv oH DD po) s (kD (bw n [.a5 3,.ret<|.v 3]) λcM _ ar=>Q cM.val ar):=by
 refine cE.mp (f:=λe:bx×IF aM×Č=>eo e.1) (all:=es) f2 (λdone K=>∀eV c1 dg,K (JO z eZ fP ((done.flatMap jJ).map aM.aW) eV c1 dg po) s) (λdone e a' ag K ab eV c1 dg=>?_) (λ_ _ _=>q) λK ab=>ab _ _ _;have a6:=on e (by rw[ag];exact iC _<|.head _);have aE:=h.k e (rx a6).1;have bn:(e.2.1.map aM.aW).length+(List.replicate e.2.2 nd).length<=4:=by rw[bV,t9];exact gG aE.1 aE.2
 rw[t1,cZ,tp,jJ,cZ,w1]at ab;lk;refine ax.of (HA a6) ?_;lk;exact ax.of (BP (aI aE.2<|aG rfl) _)<|ax.of (lg<|aI bn<|aG rfl) ⟨by rw[bV,da];exact aI (gG (aI (ti jJ 4 λx az=>BL h x (rx<|on x<|by rw[ag];exact kz _ az).1)<|hh 4<|lj<|oq ag aj) bn)<|aG rfl,ab _ _ _⟩
theorem MA{Q:B->St->Prop}{key:bv}(h:ja z)(q:Q (.lst<|(qe z key).map aM.aW) s):bc (n+1) 91 [.bb<|dD z,key.aW] s Q:=by
 have gc:=MC h.b7;k_go;refine dj.comp rfl<|ff.mp (f:=eo) (IP z) (λdone K=>K (done.map eo) s) (λdone x a' ag K ab=>eR.mk<|by rw[cZ]at ab;exact ab) ?_ λK ab=>ab;induction key with
 |txt x=>
  refine ax.of (show hD .f3 s (.str x) (.bb<|dD z)=some (!(ed x z).isSome)from by show(qw s (.str x)<|.bb<|dD z).map (!·)=_;rw[Af];rfl) ?_;replace q:Q (.lst<|(match ed x z with|none=>[aM.bB]|some e=>jJ e).map aM.aW) s:=q;induction a7:ed x z with
  |none=>rw[a7]at q;exact q
  |some e=>rw[a7]at q;have a6:=(rx a7).2;rw[<-a6];exact DU h (λx az=>by rw[cU.mp az,a6];exact a7) (aG rfl) (by rw[tp];exact q)
 |S=>exact DU h gc h.len q
 |N=>exact DU h gc h.len q
noncomputable abbrev Zo:IF dF:=[.iff (.cmp (.v 3) [(.eq,.k<|.str [84])]) [.ext 2<|.call 91 [.v 1,.v 4]] [.iff (.cmp (.v 3) [(.eq,.k<|.str [91])]) [.app 2<|.tup [.v 3,.bi .tuple [.call 92 [.v 4,.v 1]]]] [.app 2<|.tup [.v 3,.v 4]]]]
theorem IT{a:aM}{aP:IF B}{i1 d8 eV:co}{Q:cj->aJ->St->Prop}(h:ja z)(aj:aP.length<=4000)(q:∀d8 eV,Q .go [i1,.val<|.bb<|dD z,.ol<|aP++(l' z a).map aM.aW,d8,eV] s):ax (iO true [3,4] a.aW [i1,.val<|.bb<|dD z,.ol aP,d8,eV]) λr=>bw (n+1) Zo r s Q:=by
 induction a with
 |ao k=>exact MA h ⟨aI (gG aj<|aI (fQ (bV ..))<|GG h k)<|aG rfl,q _ _⟩
 |_=>exact⟨aI (c' aj)<|aG rfl,q _ _⟩
theorem JW{av b9:Type}{f:av->IF b9}{K done a':IF av}{a:av}(e:K=done++a::a')(aj:K.length<=100)(h:∀a,(f a).length<=40){g:b9->B}:((done.flatMap f).map g).length<=4000:=aI (fQ (bV ..))<|aI (ti f 40 λx _=>h x)<|hh 40<|lj<|oq e aj
theorem S_{Q:B->St->Prop}{arg:B}{K:IF aM}(h:ja z)(ak:items arg=some (K.map aM.aW))(aj:K.length<=100)(q:Q (.lst<|(mK z K).map aM.aW) s):bc (n+2) 92 [arg,.bb<|dD z] s Q:=by k_go;lk;refine ax.of ak<|cE.mp (all:=K) (f:=aM.aW) rfl (λdone K=>∀d8 eV,K [.val arg,.val<|.bb<|dD z,.ol<|(mK z done).map aM.aW,d8,eV] s) (λdone a a' ag K ab d8 eV=>?_) (λ_ _=>q) λK ab=>ab _ _;unfold mK at ab⊢;rw[t1,cZ,tp]at ab;exact IT h (JW ag aj<|FD h) ab
theorem DQ(h:ja z)(a:aF):(vj z a).length<=40:=by
 induction a with
 |b a=>show((l' z a).map aF.b).length<=40;rw[bV];exact FD h a
 |arr K=>exact aG rfl
theorem KA{Q:B->St->Prop}{arg:B}{K:IF aF}(h:ja z)(ak:items arg=some (K.map aF.aW))(aj:K.length<=100)(aE:∀aP,aF.arr aP∈K->aP.length<=100)(q:Q (.lst<|(iX z K).map aF.aW) s):bc (n+3) 92 [arg,.bb<|dD z] s Q:=by
 k_go;refine ax.of ak<|cE.mp (all:=K) (f:=aF.aW) rfl (λdone K=>∀d8 eV,K [.val arg,.val<|.bb<|dD z,.ol<|(iX z done).map aF.aW,d8,eV] s) (λdone a a' ag K ab d8 eV=>?_) (λ_ _=>q) λK ab=>ab _ _;unfold iX at ab⊢;rw[t1,cZ,tp]at ab;have aq:=JW ag aj (DQ h) (g:=aF.aW);induction a with
 |b a=>rw[show(vj z<|.b a).map aF.aW=(l' z a).map aM.aW from f2]at ab;exact IT (a:=a) h aq ab
 |arr eN=>exact S_ h rfl (aE eN<|by rw[ag];exact iC _<|.head _) ⟨aI (c' aq)<|aG rfl,ab _ _⟩
end
noncomputable abbrev xB:IF Č:=[48,49,50,51,52,53,54,55,56,57]
theorem O1(a:aM)(R:IF aM):jI (.b a) (R.map .b)=ug a R:=by have m:(λb:aM=>decide<|aF.b b∈R.map aF.b)=λb=>decide (b∈R):=funext λb=>u2.mpr ⟨λh=>by obtain⟨c,aq,e⟩:=dq.mp h;cases e;exact aq,λh=>fx h⟩;show(decide (aF.b a∈R.map aF.b)||qB (λb:aM=>decide<|aF.b b∈R.map aF.b) a)=(decide (a∈R)||qB _ a);rw[m,show decide (aF.b a∈R.map aF.b)=decide (a∈R)from kl m a]
theorem TV(K R:IF aM):j_ (K.map .b) (R.map .b)=q_ K R:=by unfold j_ q_;rw[pa];congr 1;funext a;exact O1 a R
theorem AE(K:IF aM):(K.map aF.b).map aF.aW=K.map aM.aW:=by rw[f2];rfl
def rc(aH:B)(aT:IF aF):Prop:=aH=.lst (aT.map aF.aW)\/aH=.tup (aT.map aF.aW)
section
variable{n:Č}{s:St}{z:cX}{Q:B->St->Prop}
theorem rc.isin{aH:B}{aT:IF aF}(h:rc aH aT)(a:aF):hD .isin s a.aW aH=some (decide<|a∈aT):=by
 rcases h with er|er<;>rw[er]
 .exact EA a aT
 .exact EA a aT
theorem rc.it{aH:B}{aT:IF aF}(h:rc aH aT):items aH=some (aT.map aF.aW):=by rcases h with er|er<;>rw[er]<;>rfl
theorem FI{av:Type}{f:av->B}{p:av->ĉ}{l:IF av}:decide (((((l.filter λa=> !p a).map f).length:Č):č)=0)=l.all p:=by
 rw[bV];induction aw:l.all p using Bool.casesOn with
 |true=>exact dK (bH Int.ofNat<|zV.mpr<|uI.mpr λa ak=>by rw[d'.mp aw a ak];exact dT)
 |false=>
  refine eC λh=>?_;have h:=uI.mp<|zV.mp<|o_.mp h;refine cH<|aw.symm.trans<|d'.mpr λa ak=>?_;induction ae:p a using Bool.casesOn with
  |true=>rfl
  |false=>exact absurd (by rw[ae];rfl)<|h a ak
theorem Sq{av:Type}{f:av->B}{p:av->ĉ}{l:IF av}:decide (((((l.filter p).map f).length:Č):č)>0)=l.any p:=by
 rw[bV];induction aw:l.any p using Bool.casesOn with
 |true=>obtain⟨a,ak,ae⟩:=sE.mp aw;exact dK<|iG.mpr<|List.length_pos_of_mem<|gC.mpr ⟨ak,ae⟩
 |false=>refine eC λh=>?_;obtain⟨a,ak⟩:=List.exists_mem_of_length_pos<|iG.mp h;exact cH<|aw.symm.trans<|sE.mpr ⟨a,gC.mp ak⟩
theorem E1{x:bx}(q:Q (.bool<|lD x) s):bc (n+1) 94 [.str x] s Q:=by
 k_go;induction x using List.casesOn with
 |nil=>exact q
 |cons cw l=>
  refine dj.comp rfl<|xj (N:=cw::l) (f:=λc=>.str [c]) (p:=λc=> !decide (c∈xB)) rfl (λc _ K ab=>?_) ?_
  .refine eR.mk ?_;induction aq:decide (c∈xB)using Bool.casesOn with
   |true=>rw[aq]at ab;exact bj.ir (by rw[DI.mpr<|fe aq];rfl) ab
   |false=>rw[aq]at ab;exact bj.mh (by rw[show xB.contains c=false by rw[<-Bf,DI];exact rq aq];rfl) ab
  .have fg:Q (.bool<|(cw::l).all λc=>decide<|c∈xB) s:=q;rw[<-FI (f:=λc=>B.str [c])]at fg;exact fg
theorem E4{a:aM}{aH:B}{aT:IF aF}(h:rc aH aT)(q:Q (.bool<|jI (.b a) aT) s):bc (n+2) 95 [a.aW,aH] s Q:=by
 have iE:=h.isin (s:=s)<|.b a;have e9:=h.isin (s:=s)<|.b .S;have dc:=h.isin (s:=s)<|.b .N;have bZ:aF.b a∈aT->Q (.bool true) s:=λm=>by rw[tV m]at q;exact q
 have bs:aF.b a∉aT->Q (.bool<|qB (λb=>decide<|aF.b b∈aT) a) s:=λm=>by unfold jI at q;rw[eC m,Bool.false_or]at q;exact q
 clear q h;k_go;induction a with
 |txt x=>
  refine ax.of iE<|bj.el bZ λm=>?_;replace bs:Q (.bool<|decide (aF.b .S∈aT)||(decide (aF.b .N∈aT)&&lD x)) s:=bs m;refine ax.of e9<|bj.el (λyw=>?_) λyw=>ax.of dc<|bj.el (λtN=>E1 ?_) λtN=>?_
  .rw[dK yw]at bs⊢;exact bs
  .rw[eC yw,dK tN]at bs;exact bs
  .rw[eC yw,eC tN]at bs;rw[eC tN];exact bs
 |num x=>exact ax.of iE<|bj.el bZ λm=>ax.of dc<|bs m
 |_=>exact ax.of iE<|bj.el bZ bs
theorem Gc{arg aH:B}{A aT:IF aF}(aB:items arg=some (A.map aF.aW))(ca:∀a∈A,∀bT:B->St->Prop,bT (.bool<|jI a aT) s->bc n 95 [a.aW,aH] s bT)(q:Q (.bool<|j_ A aT) s):bc (n+1) 96 [arg,aH] s Q:=by
 k_go;refine dj.comp rfl<|xj (N:=A) (p:=λa=> !jI a aT) aB (λa ak K ab=>eR.mk<|ca a ak _ ?_) ?_
 .induction aw:jI a aT using Bool.casesOn with
  |true=>rw[aw]at ab;exact ab
  |false=>rw[aw]at ab;exact ab
 .unfold j_ at q;rw[<-FI (f:=aF.aW)]at q;exact q
theorem TH{a:aF}{aH:B}{aT:IF aF}(h:rc aH aT)(q:Q (.bool<|jI a aT) s):bc (n+5) 95 [a.aW,aH] s Q:=by
 induction a with
 |b a=>exact E4 h q
 |arr K=>
  k_go;show bw _ _ [.val<|.tup [.str [91],.tup<|K.map aM.aW],_,_,_,_] _ _;lk;refine ax.of (h.isin (s:=s)<|.arr K)<|bj.el (λm=>?_) λm=>?_
  .lk;rw[tV m]at q;exact q
  .lk;have af:jI (.arr K) aT=aT.any (B7 K):=by unfold jI;rw[eC m,Bool.false_or];rfl
   rw[af,<-Sq (f:=aF.aW)]at q;refine dj.comp rfl<|xj (N:=aT) (p:=B7 K) h.it (λa _ eN ab=>eR.mk ?_) ?_
   .induction a with
    |b a=>induction a<;>exact ab
    |arr aP=>
     lk;refine Gc (A:=K.map .b) (aT:=aP.map .b) (by rw[AE];rfl) (λa ak bT a_=>?_) ?_
     .obtain⟨b,_,rfl⟩:=dq.mp ak;clear ak;exact E4 (.inr<|by rw[AE]) a_
     .rw[TV];replace ab:eN (if q_ K aP=true then [aF.aW<|.arr aP]else []) s:=ab;induction aw:q_ K aP using Bool.casesOn with
      |false=>rw[aw]at ab;exact ab
      |true=>rw[aw]at ab;exact ab
   .exact q
theorem Rc{arg aH:B}{A aT:IF aF}(aB:items arg=some (A.map aF.aW))(h:rc aH aT)(q:Q (.bool<|j_ A aT) s):bc (n+6) 96 [arg,aH] s Q:=Gc aB (λa _ bT a_=>TH h a_) q
def jw (z:cX) (p:cJ) (Y:č) (x:bx):IF aF:=match ed x z with
 |none=>[.b .bB]
 |some e=>sK z Y (decide<|e.2.2=1)<|p.at<|.txt x
theorem Ç{p:cJ}{Y:č}{fB x:bx}(ae:p.ok)(h:ja z)(aA:Y=0\/Y=1\/Y=2)(az:x=[108,101,110,103,116,104]->fB=[123])(q:Q (.lst<|(jw z p Y x).map aF.aW) s):bc (n+5) 93 [p.aW,.int Y,.bb<|dD z,.str fB,.str x] s Q:=by
 have main:bw (n+4) [.iff (.cmp (.v 4) [(.f3,.v 2)]) [.ret<|.lst [.k<|.tup [.str [119],.str [117]]]] [],.ho [5,6]<|.ao (.v 2)<|.v 4,.ho [7,8]<|.call 85 [.call 92 [.call 80 [.v 0,.tup [.k<|.str [116],.v 4]],.v 2],.v 1,.v 6],.ret<|.bin .add (.v 7)<|.bin .mul (.lst [.k<|.tup [.str [119],.str [117]]])<|.v 8]
  [.val p.aW,.val<|.int Y,.val<|.bb<|dD z,.val<|.str fB,.val<|.str x,.un,.un,.un,.un] s (λcM _ ar=>Q cM.val ar):=by
  refine ax.of (show hD .f3 s (.str x) (.bb<|dD z)=some (!(ed x z).isSome)from by show(qw s (.str x)<|.bb<|dD z).map (!·)=_;rw[Af];rfl) ?_
  induction a7:ed x z with
  |none=>
   have:jw z p Y x=[.b .bB]:=by unfold jw;rw[a7]
   rw[this]at q;exact q
  |some e=>
   have SS:jw z p Y x=sK z Y (decide<|e.2.2=1) (p.at<|.txt x):=by unfold jw;rw[a7]
   rw[SS]at q;have bF:au e.2.2=.int (if decide (e.2.2=1)=true then 1 else 0):=by rcases tI (zE (h.k e (rx a7).1).2)with e|e<;>rw[e]<;>rfl
   have k1:=aI (cJ.q8 ae<|.txt x) (aG rfl:13<=20);refine ax.of (HA a7)<|wh (k:=.txt x) ae<|KA h rfl (aI k1<|aG rfl) (λaP cr=>aI (show aP.length<=12 from cJ.fits ae (.txt x) _ cr)<|aG rfl) ?_;rw[bF];refine C0 aA ?_;lk;refine ax.of (a:=.lst<|(if fN Y (decide<|e.2.2=1)=true then [aF.b .bB]else []).map aF.aW) ?_<|ax.of (lg ?_) ?_
   .induction fN Y (decide<|e.2.2=1)using Bool.casesOn<;>rfl
   .rw[bV,bV];refine aI (gG (aI (ww _ _ _)<|aI (ti _ 40 λa _=>DQ h a)<|hh 40 k1) (?_:_<=1))<|aG rfl;induction fN Y (decide<|e.2.2=1)using Bool.casesOn<;>exact aG rfl
   unfold sK at q;rw[cZ]at q;exact q
 by_cases dU:x=[108,101,110,103,116,104]
 .have aK:=az dU;clear az h ae aA q;subst aK dU;k_go;exact main
 .k_go;exact bj.fp dU<|bj.fp dU main
end
def dt (v:B) (i:Č):B:=match v with|.tup l=>l.getD i .none|_=>.none
def z1 (v:B):bx:=match v with|.str x=>x|_=>[]
def Hg (v:B):č:=match v with|.int i=>i|_=>0
def C9 (R:IF B) (s:Č):bv:=if nD (R.getD s .none)=3 then .txt (z1<|dt (R.getD s .none) 1)else if s=6 then .S else .N
def Vl (R:IF B) (p:Č) (v:B):aM:=if nD v=3 then .txt (z1<|dt v 1)else if nD v=4 then .num (Hg<|dt v 1)else if nD v=15 then .ao (C9 R (Hg<|dt v 2).toNat)else if p=4 then .bB else if p=5 then .nul else if p=6 then .S else .N
theorem gF.dec{R:IF B}(T:Rows R){s:Č}{k:bv}(h:gF R s k):k=C9 R s:=by
 have key:∀v,R[s]?=some v->k=(if nD v=3 then .txt (z1<|dt v 1)else if s=6 then .S else .N)->k=C9 R s:=λv e h=>by rw[<-show R.getD s .none=v from(lH ..).trans<|bH (Option.getD · _) e]at h;exact h
 induction k with
 |txt x=>exact key _ h rfl
 |S=>obtain rfl:s=6:=h;exact key _ (T.at rfl) rfl
 |N=>obtain rfl:s=7:=h;exact key _ (T.at rfl) rfl
theorem eT.dec{R:IF B}(T:Rows R){p:Č}{a:aM}(h:eT R p a):∃v,R[p]?=some v/\a=Vl R p v/\Nat.beq (nD v) 11=false:=by
 induction a with
 |txt x=>exact⟨_,h,rfl,rfl⟩
 |num x=>exact⟨_,h,rfl,rfl⟩
 |ao k=>obtain⟨s,G,E⟩:=h;exact⟨_,E,bH aM.ao<|G.dec T,rfl⟩
 |bB=>obtain rfl:p=4:=h;exact⟨_,T.at rfl,rfl,rfl⟩
 |nul=>obtain rfl:p=5:=h;exact⟨_,T.at rfl,rfl,rfl⟩
 |S=>obtain rfl:p=6:=h;exact⟨_,T.at rfl,rfl,rfl⟩
 |N=>obtain rfl:p=7:=h;exact⟨_,T.at rfl,rfl,rfl⟩
theorem eT.HV{R:IF B}(T:Rows R){p:Č}{a:aM}{v:B}{cR:Prop}(h:eT R p a)(e:R[p]?=some v)(n:Nat.beq (nD v) 11=true):cR:=by obtain⟨w,ag,-,a8⟩:=h.dec T;rw[cV<|e.symm.trans ag]at n;exact ig<|n.symm.trans a8
theorem eT.inj{R:IF B}(T:Rows R){p:Č}{a b:aM}(h:eT R p a)(aR:eT R p b):a=b:=by obtain⟨v,ag,e,-⟩:=h.dec T;obtain⟨w,a8,bz,-⟩:=aR.dec T;rw[e,bz,cV<|ag.symm.trans a8]
theorem n0.Mn{l:IF B}{w:č}(h:n0 l w):Nat.beq (nD<|.tup l) 6=false:=by induction h<;>rfl
theorem ek.det{R:IF B}{t:Č}{ai cd:IF Č}(h:ek R t ai)(aR:ek R t cd):ai=cd:=by
 have no:∀{ai cd:IF Č},ek R t ai->R[t]?=some (.tup [.int 6,.tup<|cd.map au])->ai≠[t]:=by rintro ai cd h e rfl;obtain⟨w,⟨⟨l,G,E⟩,-⟩,-⟩:=h.pt t<|.head _;have E:=E.Mn;rw[<-cV (e.symm.trans G)]at E;exact ig E
 rcases h.is with⟨rfl,e⟩|e|⟨_,ne,e⟩
 .exact(aR.two e).symm
 .rcases aR.is with⟨rfl,bz⟩|bz|⟨_,_,bz⟩
  .exact h.two bz
  .rw[e,bz]
  .exact absurd e<|no h bz
 .rcases aR.is with⟨rfl,bz⟩|bz|⟨_,_,bz⟩
  .exact absurd bz ne
  .exact absurd bz<|no aR e
  .rw[e]at bz;simp only[Option.some.injEq,B.tup.injEq,sx,and_true,true_and]at bz;exact(List.map_inj_right λa b h=>by have:(a:č)=b:=B.int.inj h;lia).mp bz
def tS(R:IF B)(t:Č)(aT:IF aM):Prop:=∀K,h0.Ty R t K->ry K aT
def qq(R:IF B)(t:Č)(aT:IF aF):Prop:=∀K,d3.Ty R t K->i2 K aT
structure ra(R:List B)(t:Nat):Prop where
 ex:∃K,d3.Ty R t K/\K.length<=16/\∀a∈K,a.fits
theorem I2{t:Č}{ai:IF Č}{P:Č->B->Prop}(T:Rows S.R)(a4:ek S.R t ai)(a7:∀p∈ai,∀bT:B->St->Prop,(∀v,P p v->bT v S.st)->bc n 78 [.ref 1,au p] S.st bT)(q:∀vs,bW P ai vs->Q (.lst vs) S.st):bc (n+1) 77 [.ref 1,au t] S.st Q:=by
 have hE:∀(lK h6 d8:co) (x:B),items x=some (ai.map au)->ff x [.val<|.ref 1,lK,h6,d8] S.st n (.call 78 [.v 0,.v 3]) false [3] [] Q:=by intro lK h6 d8 x aB;refine ff.mp aB (λdone K=>∀cg,bW P done cg->K cg S.st) (λdone p a' ag K ab cg al=>eR.mk ?_) (λcg al=>q cg al) λK ab=>ab [] .nil;lk;exact a7 p (by rw[ag];simp) _ λv af=>ab _<|al.snoc af
 k_go;rcases a4.is with⟨rfl,rfl⟩|rfl|⟨a,b,e⟩
 .have E:=T.at (t:=2) rfl;lk;exact q [] .nil
 .obtain⟨w,⟨⟨l,G,E⟩,aC⟩,_⟩:=a4.pt t<|.head _;lk;refine bj.fp (by lia) ?_;induction E<;>exact dj.oR (x:=.tup [au t]) rfl (λ_ h=>h)<|hE _ _ _ _ rfl
 .lk;exact bj.fp (by lia)<|dj.oR (x:=.tup<|ai.map au) rfl (λ_ h=>h)<|hE _ _ _ _ rfl
theorem Oy{s:Č}{key:bv}(T:Rows S.R)(h:gF S.R s key)(q:Q key.aW S.st):bc (n+1) 78 [.ref 1,au s] S.st Q:=by
 have d7:=T.at (t:=6) rfl;have fm:=T.at (t:=7) rfl;k_go;induction key with
 |txt x=>have h:S.R[s]?=some (r5 x):=h;lk;exact q
 |S=>obtain rfl:s=6:=h;lk;exact q
 |N=>obtain rfl:s=7:=h;lk;exact q
theorem Gr{p:Č}{a:aM}(T:Rows S.R)(h:eT S.R p a)(q:Q a.aW S.st):bc (n+2) 78 [.ref 1,au p] S.st Q:=by
 have ba:=T.at (t:=4) rfl;have cN:=T.at (t:=5) rfl;have d7:=T.at (t:=6) rfl;have fm:=T.at (t:=7) rfl;k_go;induction a with
 |txt x=>have h:S.R[p]?=some (r5 x):=h;lk;exact q
 |num x=>have h:S.R[p]?=some (BM x):=h;lk;exact q
 |bB=>obtain rfl:p=4:=h;lk;exact q
 |nul=>obtain rfl:p=5:=h;lk;exact q
 |S=>obtain rfl:p=6:=h;lk;exact q
 |N=>obtain rfl:p=7:=h;lk;exact q
 |ao k=>obtain⟨s,aE,h⟩:=h;lk;exact Oy T aE q
theorem TZ{t:Č}{d1:IF aM}(T:Rows S.R)(h:h0.Ty S.R t d1)(q:∀aT,tS S.R t aT->aT.length<=d1.length->Q (.lst<|aT.map aM.aW) S.st):bc (n+3) 77 [.ref 1,au t] S.st Q:=by
 obtain⟨ai,u,i⟩:=id h;clear h;have dU:=dd.Is.len T u.fB λp ae=>(i.to p ae).imp λa x=>⟨x.1,x.2.1⟩;refine I2 (P:=λp v=>∃a,v=a.aW/\eT S.R p a) T u (λp ae bT a_=>?_) λvs al=>?_
 .obtain⟨a,_,hd,_⟩:=i.to p ae;exact Gr T hd<|a_ _ ⟨a,rfl,hd⟩
 .have nx:∀{ai:IF Č} {vs:IF B},bW (λp v=>∃a,v=a.aW/\eT S.R p a) ai vs->∃aT:IF aM,vs=aT.map aM.aW/\aT.length=ai.length/\∀p∈ai,∃a∈aT,eT S.R p a:=by
   intro ai vs al;induction al with
   |nil=>exact⟨[],rfl,rfl,by simp⟩
   |cons x _ ap=>
    obtain⟨a,rfl,ak⟩:=x;obtain⟨aT,rfl,E,aC⟩:=ap;refine⟨a::aT,rfl,by simp[E],λp ae=>?_⟩;rcases eD.mp ae with rfl|ae
    .exact⟨a,.head _,ak⟩
    .obtain⟨b,aw,mi⟩:=aC p ae;exact⟨b,.tail _ aw,mi⟩
  obtain⟨aT,rfl,E,aC⟩:=nx al;clear al;refine q aT (λK ab a ak st=>?_) (by lia);obtain⟨dO,iu,p4⟩:=ab;obtain rfl:=u.det iu;obtain⟨p,ae,r3⟩:=p4.of a ak st;obtain⟨b,aw,xV⟩:=aC p ae;rwa[eT.inj T r3 xV]
theorem sY{t:Č}(T:Rows S.R)(h:ra S.R t)(q:∀aT,qq S.R t aT->aT.length<=16->(∀aP,aF.arr aP∈aT->aP.length<=12)->Q (.lst<|aT.map aF.aW) S.st):bc (n+5) 77 [.ref 1,au t] S.st Q:=by
 obtain⟨d1,⟨ai,u,i⟩,tw,i9⟩:=h.ex;have dU:=dd.Is.len T u.fB λp ae=>(i.to p ae).imp λa x=>⟨x.1,x.2.1⟩;refine I2 (P:=λp v=>(∃a,v=a.aW/\eT S.R p a)\/(dX λe aT=>hU (v=(aF.arr aT).aW) (S.R[p]?=some (hX e 0)) (tS S.R e aT)<|aT.length<=12)) T u (λp ae bT a_=>?_) λvs al=>?_
 .obtain⟨a,ak,hd,_⟩:=i.to p ae;induction a with
  |b a=>exact Gr T hd<|a_ _<|.inl ⟨a,rfl,hd⟩
  |arr K=>obtain⟨e,a6,mV⟩:=hd;have q6:K.length<=12:=i9 _ ak;k_go;lk;exact TZ T mV λaT e1 aj=>a_ _<|.inr ⟨e,aT,rfl,a6,e1,by lia⟩
 .have nx:∀{ai:IF Č} {vs:IF B},bW (λp v=>(∃a,v=a.aW/\eT S.R p a)\/(dX λe aT=>hU (v=(aF.arr aT).aW) (S.R[p]?=some (hX e 0)) (tS S.R e aT)<|aT.length<=12)) ai vs->
   ∃aT:IF aF,vs=aT.map aF.aW/\aT.length=ai.length/\(∀aP,aF.arr aP∈aT->aP.length<=12)/\∀p∈ai,(∃a,.b a∈aT/\eT S.R p a)\/(dX λe aP=>dJ (.arr aP∈aT) (S.R[p]?=some (hX e 0))<|tS S.R e aP):=by
   intro ai vs al
   induction al with
   |nil=>exact⟨[],rfl,rfl,by simp,by simp⟩
   |cons x _ ap=>
    obtain⟨aT,rfl,E,ba,aC⟩:=ap;have old:∀(c:aF) (p:Č),((∃a,.b a∈aT/\eT S.R p a)\/(dX λe aP=>dJ (.arr aP∈aT) (S.R[p]?=some (hX e 0))<|tS S.R e aP))->((∃a,.b a∈c::aT/\eT S.R p a)\/(dX λe aP=>dJ (.arr aP∈c::aT) (S.R[p]?=some (hX e 0))<|tS S.R e aP)):=by
     rintro c p(⟨a,ak,h⟩|⟨e,aP,ak,h,g⟩)
     .exact .inl ⟨a,.tail _ ak,h⟩
     .exact .inr ⟨e,aP,.tail _ ak,h,g⟩
    rcases x with⟨a,rfl,ak⟩|⟨e,aP,rfl,a6,cr,aj⟩
    .refine⟨.b a::aT,rfl,by simp[E],λaP cr=>?_,λp ae=>?_⟩
     .rcases eD.mp cr with e|cr
      .cases e
      .exact ba aP cr
     .rcases eD.mp ae with rfl|ae
      .exact .inl ⟨a,.head _,ak⟩
      .exact old _ p<|aC p ae
    .refine⟨.arr aP::aT,rfl,by simp[E],λfc k5=>?_,λp ae=>?_⟩
     .rcases eD.mp k5 with e|k5
      .cases e;exact aj
      .exact ba fc k5
     .rcases eD.mp ae with rfl|ae
      .exact .inr ⟨e,aP,.head _,a6,cr⟩
      .exact old _ p<|aC p ae
  obtain⟨aT,rfl,E,ba,aC⟩:=nx al;clear al;refine q aT (λK ab a ak st=>?_) (by lia) ba;obtain⟨dO,iu,p4⟩:=ab;obtain rfl:=u.det iu;obtain⟨p,ae,r3⟩:=p4.of a ak st;rcases aC p ae with⟨b,aw,xV⟩|⟨e,aP,cr,a6,Uw⟩
  .induction a with
   |b a=>show aF.b a∈aT;rwa[eT.inj T (show eT S.R p a from r3) xV]
   |arr eN=>obtain⟨e,a6,_⟩:=(show mQ S.R p (.arr eN)from r3);exact xV.HV T a6 rfl
  .induction a with
   |b a=>exact(show eT S.R p a from r3).HV T a6 rfl
   |arr eN=>
    obtain⟨bz,h9,mV⟩:=(show mQ S.R p (.arr eN)from r3);rw[a6]at h9;have:e=bz:=by simp only[Option.some.injEq,B.tup.injEq,sx,B.int.injEq,Int.natCast_inj,and_true,true_and]at h9;exact h9
    subst this;exact⟨aP,cr,Uw eN mV⟩
theorem MG:∀i<20,Ds (dn (i:Č))=some i:=by decide+kernel
structure i5(ah:List aF):Prop where
 len:ah.length<=90
 arr:∀aP,aF.arr aP∈ah->aP.length<=12
theorem i5.bB{ah:IF aF}(h:i5 ah)(aj:ah.length<=89)(U:ĉ):i5 (ah++if U=true then [.b .bB]else []):=by
 refine⟨?_,λaP cr=>?_⟩
 .rw[da];exact(gG aj (by cases U<;>exact aG rfl):ah.length+(if U=true then [aF.b .bB]else []).length<=89+1)
 .rcases gh.mp cr with cr|cr
  .exact h.arr aP cr
  .split at cr
   .rw[cU]at cr;cases cr
   .cases cr
noncomputable abbrev n7 (ah:IF aF):B:=.lst<|ah.map aF.aW
def vI (f:č):ĉ:=decide (f=1)||decide (f=3)
def sD(R:IF B)(cd:IF c6)(du dv:Ċ (Č×č))(x:bx)(ah:IF aF):Prop:=dX λaT U=>ah=aT++(if U=true then [.b .bB]else [])/\((∃p∈cd,p.1=x/\qq R p.2.1 aT/\U=vI p.2.2.1)\/(U=true/\dX λu aV=>du=some (u,aV)/\qq R u aT)\/(U=true/\lD x=true/\dX λu aV=>dv=some (u,aV)/\qq R u aT))
def Ez (row x:B) (d8 eV c1 dg cY cv dH dL dS:co):aJ:=[.val<|.ref 1,.val row,.val x,d8,eV,c1,dg,cY,cv,dH,dL,dS]
theorem FL{es:IF (Č×č)}{ay:IF č}(h:es.map (·.2)=ay):(df es).flatMap vz=ay.map .int:=by
 rw[<-h];unfold df;clear h;induction es with
 |nil=>rfl
 |cons e es ap=>rw[gf,qm,ap];rfl
theorem IE(U:ĉ):(if U=true then [aF.b .bB]else []).length<=1:=by induction U<;>decide
theorem Mq{e:Č}{aV:č}{x:bx}(T:Rows S.R)(h:ra S.R e)(q:∀aT,qq S.R e aT->i5 aT->Q (.lst [n7 aT]) S.st):bc (n+6) 97 [.ref 1,hX e aV,.str x] S.st Q:=by k_go;exact sY T h λaT e1 G E=>q aT e1 ⟨fY ‹_›,E⟩
theorem À{es:IF (Č×č)}{aV:č}{i:Č}(T:Rows S.R)(mV:∀e∈es,ra S.R e.1)(aN:∀m∈es.map (·.2),m=0\/m=1\/m=2)(aj:es.length<=5)(aB:i<20)(bZ:∀e aT,i<cb (es.map (·.2))->es[i]?=some e->qq S.R e.1 aT->i5 (aT++if decide (e.2=1)=true then [.b .bB]else [])->Q (.lst [n7<|aT++if decide (e.2=1)=true then [.b .bB]else []]) S.st)(bs:∀ah,¬i<cb (es.map (·.2))->i5 ah->(∀e∈es.drop (cb<|es.map (·.2)),∃aT,qq S.R e.1 aT/\∀a∈aT,a∈ah)->Q (.lst [n7 ah]) S.st):bc (n+6) 97 [.ref 1,.tup [.int 12,.tup<|df es,.int aV],.str<|dn i] S.st Q:=by
 have jz:=w5<|es.map (·.2);rw[bV]at jz;generalize ms:es.map (·.2)=ay at*;k_go;refine dj.oR (x:=.tup<|df es) rfl (λ_ h=>h)<|pd (f:=vz) rfl ?_ ?_
 .intro v af bT a_;obtain⟨e,a6,rfl⟩:=dq.mp af;clear af;exact eR.mk a_
 rw[FL ms];refine bw.to (Ez (.tup [.int 12,.tup<|df es,.int aV]) (.str<|dn i) (.val<|.lst<|ay.map .int) (.val<|au<|cb ay) .un .un .un .un .un .un .un) S.st (λK ab=>?_) ?_
 .refine ax.of (show hD .isin S.st (.int 2) (.lst<|ay.map .int)=_ from tD 2 ay)<|bj.el (λh=>?_) λh=>?_
  .exact ax.of (Cu h) ab
  .rw[Bc ay h,<-bV (f:=B.int)]at ab;exact ab
 refine ax.of (show oZ .int S.st [.str<|dn i]=some (au i)from by show(Ds<|dn i).map _=_;rw[MG i aB];rfl) ?_;refine bj.el (λcT=>?_) λcT=>?_
 .replace cT:i<cb ay:=iG.mp cT;obtain⟨e,a6⟩:∃e,es[i]?=some e:=⟨_,fq<|gH cT jz⟩;have gg:ay[i]?=some e.2:=by rw[<-ms,gX,a6];rfl
  have Cs:Internal.bin .mul (.lst [nd]) (.int e.2)=some (.lst<|(if decide (e.2=1)=true then [aF.b .bB]else []).map aF.aW):=by
   rcases aN e.2 (h' gg)with h|h|h
   .rw[h];rfl
   .rw[h];rfl
   .exact absurd h<|Av gg cT
  refine ax.of (B0 a6)<|sY T (mV e<|h' a6) λaT e1 G E=>ax.of (DZ gg _)<|ax.of Cs<|ax.of (lg<|y1<|gG G<|IE _) ?_;have:=bZ e aT cT a6 e1<|i5.bB ⟨fY ‹_›,E⟩ (fY ‹_›) _;unfold n7 at this;rw[cZ]at this;exact this
 .replace cT:¬i<cb ay:=λh=>cT<|iG.mpr h;refine⟨by rw[mg];exact jz,?_⟩;rw[show(df es).drop (cb ay)=df (es.drop<|cb ay)by unfold df;rw[List.map_drop]];have oS:(es.drop<|cb ay).length<=5:=by rw[uZ];exact aI (r' _ _) aj
  refine cE.mp rfl (λdone K=>∀ah cY cv,i5 ah->ah.length<=16*done.length->(∀e∈done,∃aT,qq S.R e.1 aT/\∀a∈aT,a∈ah)->K (Ez (.tup [.int 12,.tup<|df es,.int aV]) (.str<|dn i) (.val<|.lst<|ay.map .int) (.val<|au<|cb ay) (.val<|au i) (.ol<|ah.map aF.aW) cY cv .un .un .un) S.st) (λdone e a' ag K ab ah cY cv cf jf aw=>?_) (λah cY cv cf _ aw=>bs ah cT cf aw) λK ab=>ab [] _ _ ⟨by simp,by simp⟩ (f_ _) (by simp);lk;refine sY T (mV e<|List.mem_of_mem_drop<|by rw[ag];simp) λaT e1 G E=>?_;have sP:=aI (gG jf G)<|tt 16 ag oS;refine⟨aI (y1 sP)<|aG rfl,?_⟩;rw[<-cZ];refine ab _ _ _ ⟨by rw[da];exact aI sP<|aG rfl,λaP cr=>(gh.mp cr).elim (cf.arr aP)<|E aP⟩ (by rw[da];exact XB jf G) λbz h9=>?_;rcases gh.mp h9 with h9|h9
  .exact(aw bz h9).imp λsX h=>⟨h.1,λa ak=>kz _<|h.2 a ak⟩
  .rw[cU]at h9;rw[h9];exact⟨aT,e1,λa ak=>iC _ ak⟩
theorem S3{cd:IF c6}{du dv:Ċ (Č×č)}{x:bx}(T:Rows S.R)(mV:∀p∈cd,ra S.R p.2.1)(d7:∀u aV,du=some (u,aV)->ra S.R u)(fm:∀u aV,dv=some (u,aV)->ra S.R u)(a7:∀p∈cd,p.2.2.1=0\/p.2.2.1=1\/p.2.2.1=2\/p.2.2.1=3)(aj:cd.length<=10)(q:∀gi:IF (IF aF),(∀ah∈gi,i5 ah/\sD S.R cd du dv x ah)->Q (.lst<|gi.map n7) S.st):bc (n+6) 97 [.ref 1,hJ cd (.tup []) du dv 0,.str x] S.st Q:=by
 have add:∀{gi:IF (IF aF)} {ah},(∀ah∈gi,i5 ah/\sD S.R cd du dv x ah)->i5 ah/\sD S.R cd du dv x ah->∀D∈gi++[ah],i5 D/\sD S.R cd du dv x D:=λh aR D b3=>(gh.mp b3).elim (h D) λb3=>cU.mp b3▸aR;have H_:∀(aT:IF aF),aT.length<=16->Internal.bin .add (.lst<|aT.map aF.aW) (.lst [nd])=some (n7<|aT++[.b .bB]):=λaT e1=>(lg<|y1 (f:=aF.aW) (b:=[.b .bB])<|c' e1).trans<|bH (λl=>some<|B.lst l) cZ.symm;have dQ:∀(gi:IF (IF aF)) (cY cv dH dL dS d8 eV c1:co),gi.length<=12->(∀ah∈gi,i5 ah/\sD S.R cd du dv x ah)->bw (n+5) [.iff (.an [.cmp (.ao (.v 1)<|.k<|.int 5) [(.ne,.tup [])],.call 94 [.v 2]]) [.app 6<|.bin .add (.call 77 [.v 0,.ao (.ao (.v 1)<|.k<|.int 5)<|.k<|.int 0])<|.lst [.k<|.tup [.str [119],.str [117]]]] [],.a5 6,.ret<|.v 6] (Ez (hJ cd (.tup []) du dv 0) (.str x) d8 eV c1 (.ol<|gi.map n7) cY cv dH dL dS) S.st (λcM _ ar=>Q cM.val ar):=by
  intro gi cY cv dH dL dS d8 eV c1 jf cf;rcases dv with _|⟨u,aV⟩
  .exact q gi cf
  .refine E1 ?_;induction bg:lD x with
   |false=>exact q gi cf
   |true=>refine sY T (fm u aV rfl) λaT e1 G E=>ax.of (H_ aT G)<|⟨v9<|c' jf,?_⟩;have:=q (gi++[aT++[.b .bB]])<|add cf ⟨i5.bB (U:=true) ⟨fY ‹_›,E⟩<|fY ‹_›,aT,true,rfl,.inr<|.inr ⟨rfl,bg,u,aV,rfl,e1⟩⟩;rw[cZ]at this;exact this
 k_go;refine dj.oR (x:=.tup<|cd.map fh) rfl (λ_ h=>h) (ff.mp rfl (λdone K=>∀gi:IF (IF aF),gi.length<=done.length->(∀ah∈gi,i5 ah/\sD S.R cd du dv x ah)->K (gi.map n7) S.st) (λdone p a' ag K ab gi jf cf=>?_) (λgi jf cf=>?_) λK ab=>ab [] (dA _)<|by simp)
 .have ae:p∈cd:=by rw[ag];simp
  rw[da]at ab;refine eR.mk<|bj.el (λaz=>?_) λaz=>?_
  .refine sY T (mV p ae) λaT e1 G E=>?_;have Cs:Internal.bin .mul (.lst [nd]) (.int<|Int.fmod p.2.2.1 2)=some (.lst<|(if vI p.2.2.1=true then [aF.b .bB]else []).map aF.aW):=by rcases a7 p ae with h|h|h|h<;>rw[h]<;>rfl
   lk;refine ax.of Cs<|ax.of (lg<|y1<|gG G<|IE _) ?_;have:=ab (gi++[aT++if vI p.2.2.1=true then [.b .bB]else []]) (by rw[da];exact c' jf)<|add cf ⟨i5.bB ⟨fY ‹_›,E⟩ (fY ‹_›) _,aT,_,rfl,.inl ⟨p,ae,az,e1,rfl⟩⟩;rw[cZ,List.map_singleton]at this;unfold n7 at this⊢;rw[cZ]at this;exact this
  .show K (_++[]) _;rw[gN];exact ab gi (iP jf) cf
 .replace jf:=aI jf aj;rcases du with _|⟨u,aV⟩
  .exact dQ gi _ _ _ _ _ .un .un .un (aI jf<|aG rfl) cf
  .refine sY T (d7 u aV rfl) λaT e1 G E=>ax.of (H_ aT G)<|⟨v9<|c' jf,?_⟩;have jO:=λcY cv dH dL dS d8 eV c1=>dQ (gi++[aT++[.b .bB]]) cY cv dH dL dS d8 eV c1 (by rw[da];exact aI (c' jf)<|aG rfl)<|add cf ⟨i5.bB (U:=true) ⟨fY ‹_›,E⟩<|fY ‹_›,aT,true,rfl,.inr<|.inl ⟨rfl,u,aV,rfl,e1⟩⟩;rw[cZ]at jO;exact jO _ _ _ _ _ _ _ _
abbrev hC:=List<|IF aM×Č
def hY (r:hC):IF B:=r.map λe=>.tup [.lst<|e.1.map aM.aW,au e.2]
def j4 (w:Č) (es:hp):hC:=es.flatMap λe=>if e.2=2 then List.replicate w (e.1,0)else [(e.1,if e.2=1/\w=0 then 1 else 0)]
def kC (es:hp):IF hC:=[(es.filter λe=>decide<|e.2=0).map λe=>(e.1,0),j4 0 es,j4 1 es,j4 2 es]
def uj (w:Č) (ay:IF č):IF Č:=ay.flatMap λm=>if m=2 then List.replicate w 0 else [if m=1/\w=0 then 1 else 0]
def vQ (ay:IF č):IF (IF Č):=[(ay.filter λm=>decide<|m=0).map λ_=>0,uj 0 ay,uj 1 ay,uj 2 ay]
theorem Ni(w:Č)(es:hp):(j4 w es).map (·.2)=uj w (es.map (·.2)):=by
 induction es with
 |nil=>rfl
 |cons e es ap=>
  show((if e.2=2 then List.replicate w (e.1,0)else [(e.1,if e.2=1/\w=0 then 1 else 0)])++j4 w es).map (λx:IF aM×Č=>x.2)=(if e.2=2 then List.replicate w 0 else [if e.2=1/\w=0 then 1 else 0])++uj w (es.map λx:IF aM×č=>x.2);rw[cZ,ap];by_cases h:e.2=2
  .rw[bl h,bl h,w1]
  .rw[bm h,bm h];rfl
theorem XV(es:hp):(kC es).map (λr=>r.map (·.2))=vQ (es.map (·.2)):=by
 unfold kC vQ;have aU:((es.filter λe=>decide<|e.2=0).map λe=>((e.1,0):IF aM×Č)).map (·.2)=((es.map (·.2)).filter λm=>decide<|m=0).map λ_=>0:=by
  induction es with
  |nil=>rfl
  |cons e es ap=>
   rw[hQ,gf,hQ];split
   .rw[gf,gf,ap];rfl
   .exact ap
 simp only[gf,List.map_nil,Ni,aU]
theorem L6(es:hp):∀r∈kC es,∀e∈r,∃x∈es,e.1=x.1:=by
 have bF:∀w,∀e∈j4 w es,∃x∈es,e.1=x.1:=by
  intro w e a6;obtain⟨x,az,a6⟩:=jS.mp a6;refine⟨x,az,?_⟩;split at a6
  .rw[(List.mem_replicate.mp a6).2]
  .rw[cU.mp a6]
 intro r bn e a6;unfold kC at bn;simp only[eD,x',or_false]at bn;rcases bn with rfl|rfl|rfl|rfl
 .obtain⟨x,az,rfl⟩:=dq.mp a6;clear a6;exact⟨x,(gC.mp az).1,rfl⟩
 .exact bF _ e a6
 .exact bF _ e a6
 .exact bF _ e a6
def E2 (ay:IF č) (w:IF Č):ĉ:=decide (w.length<=8)&&(w.all λx=>decide<|x<=1)&&(List.range 12).all λi=>if i<cb ay then(if i<w.length then !decide (w[i]?=some 1)||decide (ay[i]?=some 1)else decide (ay[i]?=some 1))else !decide (w[i]?=some 1)&&(!decide (i<w.length)||decide (cb ay<ay.length))
theorem X':(he.all λay=>(vQ ay).all<|E2 ay)=true:=by decide+kernel
def gd:Č->hC->cX
 |_,[]=>[]
 |i,e::r=>(dn (i:Č),e.1,e.2)::gd (i+1) r
theorem Dk:∀i<20,∀j<20,dn (i:Č)=dn (j:Č)->i=j:=by decide+kernel
theorem Ga(r:hC):∀i:Č,(gd i r).length=r.length:=by
 induction r with
 |nil=>exact λ_=>rfl
 |cons e r ap=>exact λi=>bH Nat.succ<|ap<|i+1
theorem Zw(e:IF aM×Č)(r:hC):∀i:Č,gd i (r++[e])=gd i r++[(dn ((i+r.length:Č):č),e.1,e.2)]:=by
 induction r with
 |nil=>exact λ_=>rfl
 |cons a r ap=>exact λi=>(bH (List.cons _)<|ap<|i+1).trans (by rw[nl,rn];rfl)
theorem Ls{i n:Č}(h:i+(n+1)<=20):i<20/\i+1+n<=20:=⟨gH (Nat.lt_add_of_pos_right<|nV _) h,aI (fQ<|rn _ _) h⟩
theorem He(r:hC):∀i j:Č,i+r.length<=20->i<=j->j<20->ed (dn (j:Č)) (gd i r)=(r[j-i]?).map λe=>(dn (j:Č),e.1,e.2):=by
 induction r with
 |nil=>exact λ_ _ _ _ _=>rfl
 |cons e r ap=>
  intro i j h la b';have h:=Ls h;show(if dn (i:Č)=dn (j:Č)then some (dn (i:Č),e.1,e.2)else ed (dn (j:Č)) (gd (i+1) r))=_;by_cases c:i=j
  .rw[c,bl rfl,we];rfl
  .have cT:=Nat.lt_of_le_of_ne la c;rw[bm λq=>c<|Dk i h.1 j b' q,ap (i+1) j h.2 cT b',(Nat.sub_add_cancel (Nat.sub_pos_of_lt cT):j-(i+1)+1=j-i).symm,List.getElem?_cons_succ];rfl
theorem xI(r:hC):∀(i:Č) (x:bx),x∈(gd i r).map (·.1)->∃j:Č,i<=j/\j<i+r.length/\x=dn (j:Č):=by
 induction r with
 |nil=>exact λ_ _ h=>nomatch h
 |cons e r ap=>
  intro i x h;cases h with
  |head=>exact⟨i,dA _,Nat.lt_add_of_pos_right<|nV _,rfl⟩
  |tail _ h=>obtain⟨j,G,E,aC⟩:=ap (i+1) x h;exact⟨j,lj G,Nat.lt_of_lt_of_eq E<|rn _ _,aC⟩
theorem Q_(r:hC):∀i:Č,i+r.length<=20->((gd i r).map (·.1)).Nodup:=by
 induction r with
 |nil=>exact λ_ _=>.nil
 |cons e r ap=>intro i h;have h:=Ls h;refine hK.mpr ⟨λq=>?_,ap (i+1) h.2⟩;obtain⟨j,G,E,aC⟩:=xI r (i+1) _ q;exact absurd (Dk i h.1 j (gH E h.2) aC)<|gK G
theorem Pj(r:hC):∀i:Č,∀e∈gd i r,∃x∈r,e.2=x:=by
 induction r with
 |nil=>exact λ_ _ h=>nomatch h
 |cons a r ap=>
  intro i e h;cases h with
  |head=>exact⟨a,.head _,rfl⟩
  |tail _ h=>obtain⟨x,G,E⟩:=ap (i+1) e h;exact⟨x,.tail _ G,E⟩
theorem Tb(z:cX)(e:bx×IF aM×Č):dD (z++[e])=dD z++[(.str e.1,.tup [.lst<|e.2.1.map aM.aW,au e.2.2])]:=by unfold dD;rw[cZ];rfl
theorem WB(z:cX):sH (dD z):=λp ae=>by obtain⟨m,_,rfl⟩:=dq.mp ae;clear ae;rfl
theorem zx{z:cX}{e:bx×IF aM×Č}(h:e.1∉z.map (·.1)):gU (.str e.1) (.tup [.lst<|e.2.1.map aM.aW,au e.2.2]) (dD z)=some (dD<|z++[e]):=by rw[Tb];refine x6 rfl (WB z) λq=>?_;unfold dD at q;rw[f2]at q;obtain⟨a,ak,e'⟩:=dq.mp q;clear q;have:a.1=e.1:=B.str.inj e';exact h<|this▸fx (f:=λx:bx×IF aM×Č=>x.1) ak
def MW (r:hC) (z:cX) (x:co):aJ:=[.val<|.lst<|hY r,.od<|dD z,x]
theorem NK{r:hC}(aj:r.length<=10)(q:Q (.bb<|dD<|gd 0 r) s):bc (n+1) 90 [.lst<|hY r] s Q:=by
 have K2:(hY r).length=r.length:=bV ..;k_go;lk;rw[K2];refine⟨rfl,ih<|fY ‹_›,(by rw[rZ,su];exact aI aj<|aG rfl),?_⟩;refine cE.pf (len:=r.length) (km _) (λi K=>∀x,K (MW r (gd 0<|r.take i) x) s) (λi aB K ab x=>?_) (λx=>?_) λK ab=>ab _
 .have a6:r[i]?=some r[i]:=fq aB;have VS:hn s (.lst<|hY r) (au i)=some (.tup [.lst<|r[i].1.map aM.aW,au r[i].2]):=by show(jX (i:č) (hY r).length).bind (λj=>(hY r)[j]?)=_;rw[K2,qL aB];show(r.map _)[i]?=_;rw[gX,a6];rfl
  have l3:i<20:=gH aB<|aI aj<|aG rfl;have vf:oZ .str s [au i]=some (.str<|dn i):=by show(if small (i:č)then i7 (dn i).length (B.str<|dn i)else none)=_;rw[ih<|aI (kp l3)<|aG rfl];exact bl<|aI (yq i<|gH l3<|aG rfl)<|aG rfl
  have EM:(r.take i).length=i:=uS<|kp aB;have oI:gd 0 (r.take<|i+1)=gd 0 (r.take i)++[(dn (i:Č),r[i].1,r[i].2)]:=by rw[zt,a6];show gd 0 (r.take i++[r[i]])=_;rw[Zw,EM,iJ]
  have sw:dn (i:Č)∉(gd 0<|r.take i).map (·.1):=λq=>by obtain⟨j,G,E,aC⟩:=xI _ _ _ q;rw[EM,iJ]at E;exact absurd (Dk i l3 j (rb E l3) aC)<|ze E
  lk;refine ax.of VS<|ax.of vf ⟨pS _ _,ax.of (zx (e:=(dn (i:Č),r[i].1,r[i].2)) sw) ⟨?_,?_⟩⟩
  .rw[<-oI];show(List.map _ _).length<=_;rw[bV,Ga,uS aB];exact aI (aI aB aj)<|aG rfl
  .lk;rw[<-oI];exact ab _
 .rw[r8<|dA _];exact q
theorem KU{w:Č}{es:hp}(bF:w<=2):(j4 w es).length<=2*es.length:=ti _ 2 λx _=>by
 by_cases h:x.2=2
 .rw[bl h,t9];exact bF
 .rw[bm h];exact aG rfl
def yy (es:hp):hC:=(es.filter λe=>decide<|e.2=0).map λe=>(e.1,0)
theorem Ny{es:hp}{e:IF aM×č}:hY (yy<|es++[e])=hY (yy es)++(if e.2=0 then [.tup [.lst<|e.1.map aM.aW,.int 0]]else []):=by
 unfold yy hY;rw[l7,cZ,cZ];by_cases h:e.2=0
 .rw[bl h,hQ,bl<|dK h];rfl
 .rw[bm h,hQ,bm<|by rw[eC h];exact dT];rfl
theorem OS{w:Č}{es:hp}{e:IF aM×č}:hY (j4 w<|es++[e])=hY (j4 w es)++hY (if e.2=2 then List.replicate w (e.1,0)else [(e.1,if e.2=1/\w=0 then 1 else 0)]):=by unfold j4 hY;rw[t1,cZ,tp]
def Aw (es:hp) (m0:IF hC) (h6 d8 eV c1 dg cY:co):aJ:=[.val<|.lst<|qF es,.ol<|m0.map λr=>.lst<|hY r,h6,d8,eV,c1,dg,cY]
theorem Yl{es:hp}(aj:es.length<=5)(q:Q (.lst<|(kC es).map λr=>.lst<|hY r) s):bc (n+1) 89 [.lst<|qF es] s Q:=by
 k_go;refine dj.comp rfl<|ff.mp (all:=es) (f:=λe=>.tup [.lst<|e.1.map aM.aW,.int e.2]) rfl (λdone K=>K (hY<|yy done) s) (λdone e a' ag K ab=>?_) ?_ λK ab=>ab
 .rw[Ny]at ab;refine eR.mk<|bj.el (λh=>?_) λh=>?_
  .rw[bl h]at ab;exact ab
  .rw[bm h]at ab;exact ab
 .refine⟨rfl,rfl,by decide,cE.pf (len:=3) (km 3) (λi K=>∀h6 d8 eV c1 dg cY,K (Aw es ((kC es).take<|i+1) h6 d8 eV c1 dg cY) s) (λw bF K ab h6 d8 eV c1 dg cY=>?_) (λh6 d8 eV c1 dg cY=>q) λK ab=>ab _ _ _ _ _ _⟩;have s6:=wX bF;have oI:(kC es).take (w+1+1)=(kC es).take (w+1)++[j4 w es]:=by
   induction w using Nat.casesOn with
   |zero=>rfl
   |succ w=>induction w using Nat.casesOn with
    |zero=>rfl
    |succ w=>rw[Nat.le_zero.mp<|wg<|wg s6];rfl
  refine cE.mp (all:=es) rfl (λdone K=>∀eV c1,K (Aw es ((kC es).take<|w+1) (.val<|au w) (.ol<|hY<|j4 w done) eV c1 dg cY) s) (λdone e a' ag K ab eV c1=>?_) (λeV c1=>?_) λK ab=>ab _ _
  .have dU:(hY<|j4 w done).length<=10:=by show(List.map _ _).length<=_;rw[bV];exact aI (KU s6)<|hh 2<|lj<|oq ag aj
   have De:(hY<|j4 w done).length+1<=a3:=aI (c' dU)<|aG rfl;rw[OS]at ab;refine bj.el (λE=>?_) λE=>?_
   .rw[bl E]at ab;refine ax.of (BP (o:=w) (aI s6<|aG rfl) _) ⟨by rw[t9];exact aI (gG dU s6)<|aG rfl,?_⟩;lk;unfold hY at ab⊢;rw[w1]at ab;exact ab _ _
   .rw[bm E]at ab;refine bj.el (λG=>?_) λG=>?_
    .refine bj.el (λaU=>?_) λaU=>?_
     .rw[bl ⟨G,o_.mp aU⟩]at ab;refine⟨De,?_⟩;lk;exact ab _ _
     .rw[bm λx=>aU<|o_.mpr x.2]at ab;refine⟨De,?_⟩;lk;exact ab _ _
    .rw[bm λx=>G x.1]at ab;refine bj.fp G ⟨De,?_⟩;lk;exact ab _ _
  .refine⟨by rw[bV];exact aI (c' (List.length_take_le' ..))<|aG rfl,?_⟩;lk;rw[oI]at ab;unfold Aw at ab;rw[cZ]at ab;exact ab _ _ _ _ _ _
abbrev ku:=cX×bx
def oQ (c:ku):B:=.tup [.bb<|dD c.1,.str c.2]
theorem Q1{es:hp}(aj:es.length<=5):∀r∈kC es,r.length<=10:=by
 have bF:∀w≤2,(j4 w es).length<=10:=λw bF=>aI (KU bF)<|hh 2 aj;intro r bn;cases bn with
 |head=>rw[bV];exact aI (mB _ _)<|aI aj<|aG rfl
 |tail _ bn=>cases bn with
  |head=>exact bF 0<|aG rfl
  |tail _ bn=>cases bn with
   |head=>exact bF 1<|aG rfl
   |tail _ bn=>cases bn with
    |head=>exact bF 2<|aG rfl
    |tail _ bn=>exact nomatch bn
theorem MV{t aV:Č}{es:hp}(aj:es.length<=5)(q:Q (.lst<|((kC es).map λr=>((gd 0 r,[91]):ku)).map oQ) s):bc (n+2) 88 [.bb<|kx t es aV] s Q:=by k_go;refine dj.nB rfl<|Yl aj<|ff.mp (all:=kC es) (f:=λr=>.lst<|hY r) rfl (λdone K=>K ((done.map λr=>((gd 0 r,[91]):ku)).map oQ) s) (λdone r a' ag K ab=>?_) q λK ab=>ab;rw[cZ,cZ]at ab;exact eR.mk<|NK (Q1 aj r<|by rw[ag];exact iC _<|.head _) ab
def gT (P:bO->ĉ) (f:bO->Č) (M:IF bO):cX:=(M.filter P).map λm=>(m.nm,m.K,f m)
def zA (m:bO):ĉ:=decide<|m.h=0
def nL (m:bO):ĉ:=decide (m.h=0)&&decide (m.o=0)
noncomputable abbrev tr:=gT zA bO.o
noncomputable abbrev rl:=gT zA λ_=>0
noncomputable abbrev o4:=gT nL λ_=>0
def lQ (M:IF bO):IF bx:=(M.filter nL).map bO.nm
theorem Î{P:bO->ĉ}{f:bO->Č}{M:IF bO}{m:bO}(h:P m=true):gT P f (M++[m])=gT P f M++[(m.nm,m.K,f m)]:=by unfold gT;rw[l7,cZ,hQ,bl h];rfl
theorem yQ{P:bO->ĉ}{f:bO->Č}{M:IF bO}{m:bO}(h:P m=false):gT P f (M++[m])=gT P f M:=by unfold gT;rw[l7,hQ,bm (by rw[h];exact dT),List.filter_nil,gN]
theorem L8{M:IF bO}{m:bO}(h:nL m=true):(lQ<|M++[m]).map eo=(lQ M).map eo++[eo m.nm]:=by unfold lQ;rw[l7,cZ,hQ,bl h,cZ];rfl
theorem Ks{M:IF bO}{m:bO}(h:nL m=false):lQ (M++[m])=lQ M:=by unfold lQ;rw[l7,hQ,bm (by rw[h];exact dT),List.filter_nil,gN]
theorem x0{P:bO->ĉ}{f:bO->Č}{M:IF bO}:(gT P f M).length<=M.length:=by unfold gT;rw[bV];exact mB _ _
structure rj(M:List bO)(c:ku):Prop where
 ok:ja c.1
 told:∀m∈M,my m=true->(∃e,ed m.nm c.1=some e/\(e.2.2=1->m.o=1))\/(ed m.nm c.1=none/\m.o=1)
 len:c.2=[123]\/∀e∈c.1,e.1≠[108,101,110,103,116,104]
theorem Yg{x:bx}{l:cX}:x∉l.map (·.1)->ed x l=none:=by
 induction l with
 |nil=>exact λ_=>rfl
 |cons e l ap=>exact λh=>(bm λq=>h<|by rw[<-q];exact .head _).trans<|ap λq=>h<|.tail _ q
theorem Ec{P:bO->ĉ}{f:bO->Č}{M:IF bO}{x:bx}{m:bO}(az:m.nm=x):(M.map (·.nm)).Nodup->m∈M->ed x (gT P f M)=if P m=true then some (m.nm,m.K,f m)else none:=by
 induction M with
 |nil=>exact λ_ h=>nomatch h
 |cons a M ap=>
  intro b7 aN;have b7:=hK.mp b7;have Fe:P a=false->gT P f (a::M)=gT P f M:=λh=>bH (List.map _) (List.filter_cons_of_neg<|by rw[h];exact dT);have GC:P a=true->gT P f (a::M)=(a.nm,a.K,f a)::gT P f M:=λh=>bH (List.map _)<|List.filter_cons_of_pos h;cases aN with
  |head=>
   induction ae:P m using Bool.casesOn with
   |true=>rw[GC ae,bl rfl];exact bl az
   |false=>rw[Fe ae,bm dT];refine Yg λq=>b7.1 ?_;obtain⟨e,a6,G⟩:=dq.mp q;obtain⟨y,a1,E⟩:=dq.mp a6;show m.nm∈_;rw[az,<-G,<-E];exact fx (f:=λm:bO=>m.nm) (gC.mp a1).1
  |tail _ aN=>
   rw[<-ap b7.2 aN];induction ae:P a using Bool.casesOn with
   |true=>rw[GC ae];exact bm (λe=>b7.1 (by show a.nm∈_;rw[e,<-az];exact fx (f:=λm:bO=>m.nm) aN):¬a.nm=x)
   |false=>rw[Fe ae]
theorem IW{x:bx}{e:bx×IF aM×Č}(h:x≠e.1){z:cX}:ed x (z++[e])=ed x z:=by
 induction z with
 |nil=>exact bm λq=>h q.symm
 |cons a z ap=>exact bH (λy=>if a.1=x then some a else y) ap
theorem wV{P:bO->ĉ}{f:bO->Č}{M:IF bO}{x:bx}(h:x∈(gT P f M).map (·.1)):∃m∈M,m.nm=x:=by obtain⟨e,a6,G⟩:=dq.mp h;obtain⟨y,a1,E⟩:=dq.mp a6;exact⟨y,(gC.mp a1).1,by rw[<-G,<-E]⟩
theorem FS{P:bO->ĉ}{f:bO->Č}{M:IF bO}(b7:(M.map (·.nm)).Nodup)(aj:M.length<=4)(eO:∀m∈M,m.ok)(a7:∀m∈M,f m<=1):ja (gT P f M):=by
 refine⟨?_,aI x0<|aI aj<|aG rfl,λx az=>?_⟩
 .unfold gT;rw[f2];exact(A4.map _).nodup b7
 .obtain⟨m,aN,rfl⟩:=dq.mp az;have kQ:=(gC.mp aN).1;exact⟨(eO m kQ).K.len,a7 m kQ⟩
theorem Lx{P:bO->ĉ}{f:bO->Č}{M:IF bO}(b7:(M.map (·.nm)).Nodup)(aj:M.length<=4)(eO:∀m∈M,m.ok)(a7:∀m∈M,f m<=1){e:bx×IF aM×Č}(a6:e.1∉iQ)(aE:e.2.1.length<=3/\e.2.2<=1):ja (gT P f M++[e]):=by
 have h:=FS (P:=P) b7 aj eO a7;refine⟨?_,?_,λx az=>?_⟩
 .rw[cZ,m4];refine⟨h.b7,hK.mpr ⟨λq=>(nomatch q),.nil⟩,λa ak c aq q=>?_⟩;obtain⟨m,aN,ag⟩:=wV ak;refine a6 ?_;rw[<-show c=e.1 from cU.mp aq,<-q,<-ag];exact(eO m aN).nm
 .rw[da];exact c'<|aI x0<|aI aj<|aG rfl
 .rcases gh.mp az with az|az
  .exact h.k x az
  .rw[cU.mp az];exact aE
theorem tE{m:bO}(h:my m=true):m.h=0/\h7 m.nm=false:=by unfold my at h;simpa using h
theorem Cp(z:cX):(dD z).length=z.length:=bV ..
theorem bw.HZ{i:Č}{e:a2}{l:IF dF}{r:aJ}{s:St}{Q:cj->aJ->St->Prop}(G:∀K:B->St->Prop,(∀b,K (.bool b) s)->dj n e r s K)(E:∀b,bw n l (r.set i<|.val<|.bool b) s Q):bw n (.set i e::l) r s Q:=G _ E
theorem KL{p:bx->ĉ}{N:IF bx}(h:((((N.filter λx=> !p x).map eo).length:Č):č)=0):∀x∈N,p x=true:=λx az=>by
 have h:=o_.mp h;rw[bV,zV]at h;induction ae:p x using Bool.casesOn with
 |true=>rfl
 |false=>exact nomatch (h▸gC.mpr ⟨az,by rw[ae];rfl⟩:x∈([]:IF bx))
theorem EQ{p:bx->ĉ}{N:IF bx}{t:B->St->(IF B->St->Prop)->Prop}(h:∀x (K:IF B->St->Prop),K (if p x=true then []else [eo x]) s->t (eo x) s K)(q:Q (.lst<|(N.filter λx=> !p x).map eo) s):kh t Q (.lst<|N.map eo) s:=by
 refine ff.mp (all:=N) (f:=eo) rfl (λdone K=>K ((done.filter λx=> !p x).map eo) s) (λdone x a' ag K ab=>h x _ ?_) q λK ab=>ab;rw[l7,cZ,hQ]at ab;induction ae:p x using Bool.casesOn with
 |true=>rw[ae]at ab;exact ab
 |false=>rw[ae]at ab;exact ab
noncomputable abbrev va (M:IF bO):IF ku:=[(tr M,[123]),(rl M++[([122],[.txt [97]],0)],[123]),(o4 M++[([55],[.num 1],0)],[123])]
def Bq (x:bx):ĉ:=decide<|x=[108,101,110,103,116,104]
def yI (x:bx):ĉ:=decide (([108,101,110,103,116,104]:bx)=x)||(decide (([48]:bx)=x)||false)
section
variable{M:IF bO}(eO:∀m∈M,m.ok)
include eO
theorem Cw:∀m∈M,m.o<=1:=λm aN=>by have:=(eO m aN).o;exact pu ‹_›
theorem IK{p:bx->ĉ}(ae:∀x,h7 x=false->p x=false)(gc:∀x∈lQ M,p x=true):∀m∈M,my m=true->m.o=1:=by
 intro m aN dV;obtain⟨aU,t5⟩:=tE dV;by_cases aA:m.o=0
 .have:=gc _<|fx (f:=bO.nm)<|gC.mpr ⟨aN,lh (dK aU)<|dK aA⟩;rw[ae _ t5]at this;exact cH this
 .exact vw (Cw eO m aN)<|Nat.pos_of_ne_zero aA
theorem Tn(gc:∀x∈lQ M,Bq x=true):rj M ([],[116,101,120,116]):=⟨⟨.nil,f_ _,λ_ h=>nomatch h⟩,λm aN dV=>.inr ⟨rfl,IK eO (λx az=>(qt.mp az).1) gc m aN dV⟩,.inr λe a6=>nomatch a6⟩
theorem RS{jZ:IF aM}(ui:jZ.length<=3)(gc:∀x∈lQ M,yI x=true):rj M ([([48],jZ,0)],[91]):=by
 refine⟨⟨hK.mpr ⟨λq=>(nomatch q),.nil⟩,aG rfl,λe a6=>by rw[cU.mp a6];exact⟨ui,f_ _⟩⟩,λm aN dV=>.inr ⟨?_,IK eO (λx az=>?_) gc m aN dV⟩,.inr λe a6 q=>?_⟩
 .refine bm λe=>?_;have:=(tE dV).2;rw[<-e]at this;exact ig this
 .have:=DW x;rw[az]at this;simp only[Bool.not_false,kk,qt]at this;unfold yI;rw[this.1,this.2.1];rfl
 .rw[cU.mp a6]at q;cases q
variable(b7:(M.map (·.nm)).Nodup)(aj:M.length<=4)
include b7 aj
theorem Ng:∀c∈va M,rj M c:=by
 have hz:([122]:bx)∉iQ:=by decide
 have fm:([55]:bx)∉iQ:=by decide
 intro c aq;cases aq with
 |head=>exact⟨FS b7 aj eO<|Cw eO,λm aN dV=>.inl ⟨_,(Ec rfl b7 aN).trans<|bl<|dK (tE dV).1,id⟩,.inl rfl⟩
 |tail _ aq=>cases aq with
  |head=>exact⟨Lx b7 aj eO (λ_ _=>f_ _) hz ⟨aG rfl,f_ _⟩,λm aN dV=>.inl ⟨(m.nm,m.K,0),(IW (e:=([122],[.txt [97]],0)) λe=>hz<|by rw[<-show m.nm=[122]from e];exact(eO m aN).nm).trans<|(Ec rfl b7 aN).trans<|bl<|dK (tE dV).1,λe=>nomatch e⟩,.inl rfl⟩
  |tail _ aq=>
   rw[cU.mp aq];refine⟨Lx b7 aj eO (λ_ _=>f_ _) fm ⟨aG rfl,f_ _⟩,λm aN dV=>?_,.inl rfl⟩;have yG:=(IW (z:=o4 M) (e:=([55],[.num 1],0)) λe=>fm<|by rw[<-show m.nm=[55]from e];exact(eO m aN).nm).trans<|Ec rfl b7 aN;by_cases aU:m.o=0
   .exact .inl ⟨(m.nm,m.K,0),yG.trans<|bl<|lh (dK (tE dV).1)<|dK aU,λe=>nomatch e⟩
   .exact .inr ⟨yG.trans (bm<|by unfold nL;rw[eC aU,t2];exact dT),vw (Cw eO m aN)<|Nat.pos_of_ne_zero aU⟩
end
def G5 (o:IF (B×B)) (W F H:cX) (N:IF B) (b:ĉ) (jZ:IF aM) (cY cv dH dL dS dw:co) (b1:IF B):aJ:=[.val<|.bb o,.val<|.bb<|dD W,.val<|.bb<|dD F,.val<|.bb<|dD H,.val<|.bool b,.val<|.lst<|jZ.map aM.aW,.ol N,cY,cv,dH,dL,dS,dw,.ol b1,.un,.un,.un]
theorem bw.F_{E0:Type}{c:dF}{l:IF dF}{r:aJ}{s:St}{Q:cj->aJ->St->Prop}(p:E0->Prop)(f:E0->aJ)(G:∀K:cj->aJ->St->Prop,(∀i,p i->K .go (f i) s)->wS n c r s K)(E:∀i,p i->bw n l (f i) s Q):bw n (c::l) r s Q:=G _ E
def JY (o:IF (B×B)) (W F H:cX) (N:IF B) (b:ĉ) (jZ:IF aM) (cY cv dH dL dS dw:co):aJ:=[.val<|.bb o,.od<|dD W,.od<|dD F,.od<|dD H,.val<|.bool b,.val<|.lst<|jZ.map aM.aW,.ol N,cY,cv,dH,dL,dS,dw,.un,.un,.un,.un]
theorem M4{t fo dE:Č}{M:IF bO}{ai:IF c6}{cw cW:hw}(eO:∀m∈M,m.ok)(b7:(M.map (·.nm)).Nodup)(aj:M.length<=4)(q:∀b1:IF ku,(∀c∈b1,rj M c)->Q (.lst<|b1.map oQ) s):bc (n+1) 88 [.bb<|mY t fo M ai cw cW dE] s Q:=by
 k_go;refine bw.Rm (by exact⟨rfl,rfl⟩)<|bw.DH<|bw.DH<|bw.DH<|bw.HZ (λK ab=>?_) λXp=>?_
 .rcases cw with _|⟨d1,ì⟩<;>rcases cW with _|⟨Go,hq⟩<;>(repeat'(refine bj.both ?_ ?_));all_goals exact ab _
 refine cE.mp (all:=M) (f:=bO.aW) rfl (λdone K=>∀b (jZ:IF aM) cY cv dH dL dS dw,jZ.length<=3->K (JY (mY t fo M ai cw cW dE) (tr done) (rl done) (o4 done) ((lQ done).map eo) b jZ cY cv dH dL dS dw) s) (λdone m a' ag K ab b jZ cY cv dH dL dS dw ui=>?_) (λb jZ cY cv dH dL dS dw ui=>?_) λK ab=>ab Xp [.txt [97]] _ _ _ _ _ _<|aG rfl
 .have aN:m.ok:=eO m (by rw[ag];exact iC _<|.head _);have KR:=oq ag aj;have new:∀{P f},m.nm∉(gT P f done).map (·.1):=λh=>by obtain⟨y,a1,e⟩:=wV h;rw[ag,cZ,m4]at b7;exact b7.2.2 _ (fx (f:=λm:bO=>m.nm) a1) m.nm (.head _) e
  have cC:∀{P:bO->ĉ} {f:bO->Č},P m=true->gU (.str m.nm) (.tup [.lst<|m.K.map aM.aW,au<|f m]) (dD<|gT P f done)=some (dD<|gT P f<|done++[m]):=λh=>by rw[Î h];exact zx (e:=(m.nm,m.K,_)) new
  have mL:∀{P:bO->ĉ} {f:bO->Č},(dD<|gT P f<|done++[m]).length<=a3:=λ{P f}=>(λh=>aI (fQ<|Cp _)<|aI h<|aG rfl) (aI x0<|by rw[da];exact KR);refine bw.to (JY (mY t fo M ai cw cW dE) (tr<|done++[m]) (rl<|done++[m]) (o4<|done++[m]) ((lQ<|done++[m]).map eo) b jZ (.val<|.str m.nm) (.val<|.lst<|m.K.map aM.aW) (.val<|au m.o) (.val<|au m.aV) (.val<|au m.w)<|.val<|au m.h) s (λK ab=>?_)<|bw.HZ (λK ab=>?_) λeA=>?_
  .refine bj.el (λca=>?_) λca=>?_
   .have aU:zA m=true:=dK<|o_.mp ca;refine⟨pS _ _,ax.of (cC (f:=bO.o) aU) ⟨mL,⟨pS _ _,ax.of (cC (f:=λ_=>0) aU) ⟨mL,bj.el (λaA=>?_) λaA=>?_⟩⟩⟩⟩
    .have G:nL m=true:=lh aU<|dK<|o_.mp aA;rw[L8 G]at ab;exact⟨pS _ _,ax.of (cC (f:=λ_=>0) G) ⟨mL,⟨aI (c'<|aI (fQ (bV ..))<|aI (fQ (bV ..))<|mB _ _)<|aI KR<|aG rfl,ab⟩⟩⟩
    .have G:nL m=false:=by unfold nL;rw[eC λx=>aA<|o_.mpr x,t2]
     rw[o4,yQ G,Ks G]at ab;exact ab
   .have aU:zA m=false:=eC λx=>ca<|o_.mpr x;have G:nL m=false:=by unfold nL;rw[show decide (m.h=0)=false from aU,Bool.false_and]
    rw[tr,rl,o4,yQ aU,yQ aU,yQ G,Ks G]at ab;exact ab
  .have iE:hD .isin s (.tup [.str [119],.str [78]]) (.lst<|m.K.map aM.aW)=some (decide<|aF.b .N∈m.K.map aF.b):=by have:=EA (.b .N)<|m.K.map aF.b;rw[AE]at this;exact this
   induction b with
   |false=>exact ab _
   |true=>exact bj.both (bj.both (ab _)<|ax.of iE<|ab _)<|ab _
  .refine bj.both ?_ ?_
   .exact ab eA m.K _ _ _ _ _ _ aN.K.len
   .exact ab eA jZ _ _ _ _ _ _ ui
 .have gB:([122]:bx)∉(rl M).map (·.1):=λh=>by obtain⟨m,aN,e⟩:=wV h;exact absurd (eO m aN).nm (by rw[e];decide)
  have lu:([55]:bx)∉(o4 M).map (·.1):=λh=>by obtain⟨m,aN,e⟩:=wV h;exact absurd (eO m aN).nm (by rw[e];decide)
  have mL:∀{P:bO->ĉ} {f:bO->Č} {e},(dD<|gT P f M++[e]).length<=a3:=λ{P f e}=>by rw[Cp,da];exact aI (c'<|aI x0 aj)<|aG rfl
  refine⟨pS _ _,ax.of (zx (e:=([122],[.txt [97]],0)) gB) ⟨mL,⟨pS _ _,ax.of (zx (e:=([55],[.num 1],0)) lu) ⟨mL,kD.go<|bw.C2 rfl<|bw.C2 rfl<|bw.C2 rfl<|bw.XR (by exact⟨rfl,rfl⟩)<|bw.F_ (λb1:IF ku=>b1.length<=4/\∀c∈b1,rj M c) (λb1=>G5 (mY t fo M ai cw cW dE) (tr M) (rl M++[([122],[.txt [97]],0)]) (o4 M++[([55],[.num 1],0)]) ((lQ M).map eo) b jZ cY cv dH dL dS dw<|b1.map oQ) (λK ab=>?_) λb1 jm=>bw.F_ (λb1:IF ku=>∀c∈b1,rj M c) (λb1=>G5 (mY t fo M ai cw cW dE) (tr M) (rl M++[([122],[.txt [97]],0)]) (o4 M++[([55],[.num 1],0)]) ((lQ M).map eo) b jZ cY cv dH dL dS dw<|b1.map oQ) (λK ab=>?_) q⟩⟩⟩⟩
  .have EC:=Ng eO b7 aj;have I0:=ab (va M) ⟨aG rfl,EC⟩;induction b with
   |false=>exact I0
   |true=>
    refine dj.comp rfl<|EQ (p:=Bq) (λx K ab=>eR.mk ?_) ?_
    .induction az:Bq x with
     |true=>rw[az]at ab;exact bj.ir (bH not az) ab
     |false=>rw[az]at ab;exact bj.mh (bH not az) ab
    .refine bj.el (λhz=>?_) λhz=>I0;exact⟨aG rfl,ab (va M++[([],[116,101,120,116])]) ⟨aG rfl,λc aq=>(gh.mp aq).elim (EC c) λh=>by rw[cU.mp h];exact Tn eO<|KL hz⟩⟩
  .have o1:=ab b1 jm.2;induction b with
   |false=>exact o1
   |true=>
    refine dj.comp rfl<|EQ (p:=yI) (λx K ab=>eR.mk ?_) ?_
    .induction az:yI x with
     |true=>rw[az]at ab;exact bj.ir (bH not az) ab
     |false=>rw[az]at ab;exact bj.mh (bH not az) ab
    .refine bj.el (λhz=>?_) λhz=>o1;refine⟨by rw[bV];exact aI (c' jm.1)<|aG rfl,?_⟩;have ab:=ab (b1++[([([48],jZ,0)],[91])]) λc aq=>(gh.mp aq).elim (jm.2 c) λh=>by rw[cU.mp h];exact RS eO ui<|KL hz
     rw[cZ]at ab;exact ab
def o8 (Y:č):IF aF:=if Y=2 then [.b .bB]else []
def pL(S:dy)(n:Č)(row:B)(p:cJ)(Y:č)(z:cX)(fB x:bx):Prop:=(x=[108,101,110,103,116,104]->fB=[123])/\∀bT:B->St->Prop,(∀gi:IF (IF aF),(∀ah∈gi,i5 ah/\j_ (jw z p Y x) (iX z ah++o8 Y)=true)->bT (.lst<|gi.map n7) S.st)->bc n 97 [.ref 1,row,.str x] S.st bT
def xU (cd:IF c6) (z:cX):IF bx:=z.map (·.1)++(cd.map (·.1)).filter λx=> !(ed x z).isSome
def tP (eB:Č) (z:cX):IF bx:=z.map (·.1)++(List.range<|eB-z.length).map λi=>dn ((z.length+i:Č):č)
def Dz (row:B) (p:cJ) (Y:č) (b1:IF ku) (c1 dg cY cv dH dL dS dw dR dY c_ gv e5:co):aJ:=[.val<|.ref 1,.val row,.val p.aW,.val<|.int Y,.val<|.lst<|b1.map oQ,c1,dg,cY,cv,dH,dL,dS,dw,dR,dY,c_,gv,e5]
def zH (row:B) (p:cJ) (Y:č) (b1:IF ku) (z:cX) (fB:bx) (aP:IF bx) (cv dH dL dS dw dR dY c_ gv e5:co):aJ:=Dz row p Y b1 (.val<|.bb<|dD z) (.val<|.str fB) (.val<|.lst<|aP.map eo) cv dH dL dS dw dR dY c_ gv e5
theorem Me{Y:č}:(o8 Y).length<=1:=by unfold o8;split<;>decide
theorem PR{row:B}{p:cJ}{Y:č}{b1:IF ku}{z:cX}{fB:bx}{aP:IF bx}{K:aJ->St->Prop}{Z:cj->aJ->St->Prop}(ae:p.ok)(aA:Y=0\/Y=1\/Y=2)(hz:ja z)(cr:∀x∈aP,pL S (n+7) row p Y z fB x)(ab:∀cv dH dL dS dw dR dY c_ gv e5,K (zH row p Y b1 z fB aP cv dH dL dS dw dR dY c_ gv e5) S.st)(cv dH dL dS dw dR dY c_ gv e5:co):bw (n+7) [.for false [10] (.v 7) [.set 11<|.call 93 [.v 2,.v 3,.v 5,.v 6,.v 10],.for false [12] (.call 97 [.v 0,.v 1,.v 10]) [.iff (.not (.call 96 [.v 11,.bin .add (.call 92 [.v 12,.v 5])<|.bin .mul (.lst [.k<|.tup [.str [119],.str [117]]])<|.bin .fdiv (.v 3)<|.k<|.int 2])) [.ret<|.k<|.bool false] []]]] (zH row p Y b1 z fB aP cv dH dL dS dw dR dY c_ gv e5) S.st (nb K Z):=by refine cE.mp rfl (λ_ K=>∀cv dH dL dS dw dR dY c_ gv e5,K (zH row p Y b1 z fB aP cv dH dL dS dw dR dY c_ gv e5) S.st) (λdone x a' ag K ab cv dH dL dS dw dR dY c_ gv e5=>?_) ab λK h=>h _ _ _ _ _ _ _ _ _ _;obtain⟨LW,OP⟩:=cr x (by rw[ag];simp);refine Ç ae hz aA LW<|OP _ λgi y9=>cE.mp rfl (λ_ K=>∀dw,K (zH row p Y b1 z fB aP cv dH (.val<|.str x) (.val<|.lst<|(jw z p Y x).map aF.aW) dw dR dY c_ gv e5) S.st) (λdone ah a' a8 K ab dw=>?_) (λ_=>ab _ _ _ _ _ _ _ _ _ _) λK h=>h _;obtain⟨cf,TD⟩:=y9 ah (by rw[a8];simp);refine KA hz rfl (aI cf.len<|aG rfl) (λfc k5=>aI (cf.arr fc k5)<|aG rfl) ?_;refine ax.of (show Internal.bin .fdiv (.int Y) (.int 2)=some (.int<|Int.fdiv Y 2)from by rcases aA with h|h|h<;>rw[h]<;>rfl) ?_;refine ax.of (show Internal.bin .mul (.lst [nd]) (.int<|Int.fdiv Y 2)=some (.lst<|(o8 Y).map aF.aW)from by rcases aA with h|h|h<;>rw[h]<;>rfl) ?_;refine ax.of (a:=.lst<|(iX z ah++o8 Y).map aF.aW) (by rw[cZ];exact bl<|by rw[bV,bV];exact aI (gG (aI (ti _ 40 λa _=>DQ hz a:(iX z ah).length<=40*ah.length)<|hh 40 cf.len) Me)<|aG rfl) ?_;refine Rc (A:=jw z p Y x) (aT:=iX z ah++o8 Y) rfl (.inl rfl) ?_;rw[TD];exact ab _
theorem OJ{row:B}{p:cJ}{Y:č}{b1:IF ku}{N:cX->IF bx}(T:Rows S.R)(ae:p.ok)(aA:Y=0\/Y=1\/Y=2)(ro:(dX λe aV=>row=hX e aV/\∀z,N z=z.map (·.1))\/(dX λes aV=>dJ (row=.tup [.int 12,.tup<|df es,.int aV]) ((N=tP (cb<|es.map (·.2))))<|es.length<=5)\/(dI λcd du dv=>dJ (row=hJ cd (.tup []) du dv 0) (N=xU cd)<|cd.length<=10))(jm:∀c∈b1,ja c.1/\∀x∈N c.1,pL S (n+7) row p Y c.1 c.2 x)(q:Q (.bool true) S.st):bc (n+8) 98 [.ref 1,row,p.aW,.int Y,.lst<|b1.map oQ] S.st Q:=by
 k_go;refine cE.mp rfl (λ_ K=>∀c1 dg cY cv dH dL dS dw dR dY c_ gv e5,K (Dz row p Y b1 c1 dg cY cv dH dL dS dw dR dY c_ gv e5) S.st) (λdone c a' ag K ab c1 dg cY cv dH dL dS dw dR dY c_ gv e5=>?_) (λ_ _ _ _ _ _ _ _ _ _ _ _ _=>q) λK h=>h _ _ _ _ _ _ _ _ _ _ _ _ _;obtain⟨hz,dc⟩:=jm c (by rw[ag];simp);have D8:=hz.len;have go:=λcv dH dL dS dw dR dY c_ gv e5 Z=>PR (b1:=b1) (K:=K) (Z:=Z) ae aA hz dc (ab _ _ _) cv dH dL dS dw dR dY c_ gv e5;refine dj.comp rfl<|pd (f:=λv=>[v]) (IP c.1) (λv af í Xu=>eR.mk Xu) ?_;rw[show((c.1.map (·.1)).map eo).flatMap (λv=>[v])=(c.1.map (·.1)).map eo by simp];rcases ro with⟨e,aV,rfl,u4⟩|⟨es,aV,rfl,u4,i'⟩|⟨cd,du,dv,rfl,u4,nk⟩
 .rw[u4]at go;exact go _ _ _ _ _ _ _ _ _ _ _
 .have jz:cb (es.map (·.2))<=5:=aI (w5 _) (by rw[bV];exact i');rw[u4]at go;unfold tP at go;refine dj.oR (x:=.tup<|df es) rfl (λ_ h=>h)<|pd (f:=vz) rfl ?_ ?_
  .intro v af bT a_;obtain⟨e,a6,rfl⟩:=dq.mp af;clear af;exact eR.mk a_
  rw[FL rfl];generalize es.map (·.2)=ay at*;refine bw.to (Dz (.tup [.int 12,.tup<|df es,.int aV]) p Y b1 (.val<|.bb<|dD c.1) (.val<|.str c.2) (.ol<|(c.1.map (·.1)).map eo) (.val<|.lst<|ay.map .int) (.val<|au<|cb ay) dL dS dw dR dY c_ gv e5) S.st (λK ab=>?_) ?_
  .refine ax.of (show hD .isin S.st (.int 2) (.lst<|ay.map .int)=_ from tD 2 ay)<|bj.el (λh=>?_) λh=>?_
   .exact ax.of (Cu h) ab
   .rw[Bc ay h,<-bV (f:=B.int)]at ab;exact ab
  refine dj.nB rfl ?_;lk;rw[Cp];have CA:cb ay-c.1.length<=5:=aI (r' _ _) jz;refine⟨ih<|fY ‹_›,ih<|fY ‹_›,by rw[Int.toNat_sub];exact aI CA<|aG rfl,?_⟩;refine pd (bP:=(List.range<|cb ay-c.1.length).map λi=>au<|c.1.length+i) (f:=λv=>match v with|.int i=>[.str<|dn i]|_=>[]) (by show some _=some _;rw[Int.toNat_sub];rfl) ?_ ?_
  .intro v af bT a_;obtain⟨i,Xf,rfl⟩:=dq.mp af;clear af;have aB:c.1.length+i<15:=Nat.add_lt_add_of_le_of_lt D8<|gH (lC.mp Xf) CA;refine eR.mk ?_;lk;refine ax.of (a:=.str<|dn ((c.1.length+i:Č):č)) ?_ a_;show(if small ((c.1.length+i:Č):č)then i7 (dn ((c.1.length+i:Č):č)).length (B.str<|dn ((c.1.length+i:Č):č))else none)=_;rw[ih<|pu aB,bl<|by rfl];exact bl<|aI (yq _<|vD aB)<|aG rfl
  .have Dq:((List.range<|cb ay-c.1.length).map λi=>au<|c.1.length+i).flatMap (λv=>match v with|.int i=>[B.str<|dn i]|_=>[])=((List.range<|cb ay-c.1.length).map λi=>dn ((c.1.length+i:Č):č)).map eo:=by
    generalize List.range (cb ay-c.1.length)=l;induction l with
    |nil=>rfl
    |cons a l ap=>rw[gf,qm,ap];rfl
   rw[Dq];refine⟨by rw[bV,bV,bV,bV,t3];exact aI (gG D8 CA)<|aG rfl,?_⟩;rw[<-cZ];exact go _ _ _ _ _ _ _ _ _ _ _
 .rw[u4]at go;unfold xU at go;refine dj.oR (x:=.tup<|cd.map fh) rfl (λ_ h=>h)<|ff.mp rfl (λdone K=>K (((done.map (·.1)).filter λx=> !(ed x c.1).isSome).map eo) S.st) (λdone m a' ag K ab=>?_) ?_ λK h=>h
  .rw[cZ,l7,cZ,List.map_singleton,hQ]at ab;refine eR.mk ?_;lk;refine ax.of (show hD .f3 S.st (.str m.1) (.bb<|dD c.1)=some (!(ed m.1 c.1).isSome)from by show(qw S.st (.str m.1)<|.bb<|dD c.1).map (!·)=_;rw[Af];rfl) ?_;generalize(ed m.1 c.1).isSome=b at ab;induction b with
   |true=>exact ab
   |false=>exact ab
  .have md:=mB (λx=> !(ed x c.1).isSome)<|cd.map (·.1);rw[bV]at md;refine⟨by rw[bV,bV,bV];exact aI (gG D8<|aI md nk)<|aG rfl,?_⟩;rw[<-cZ];exact go _ _ _ _ _ _ _ _ _ _ _
theorem ki.refl(z:cX)(K:IF aM):ki z K K:=λa ak=>by
 induction a with
 |ao k=>exact⟨k,ak,λ_ h=>h⟩
 |_=>exact .inl ak
theorem ki.of{z:cX}{aP K:IF aM}(h:∀a∈aP,a∈K)(no:xZ aP):ki z aP K:=λa ak=>by
 induction a with
 |ao k=>exact absurd ak<|no k
 |_=>exact .inl<|h _ ak
theorem F3{p:cJ}(ae:p.good){z:cX}{x:bx}{e:bx×IF aM×Č}(a7:ed x z=some e){k:bv}(aE:k=.S\/(k=.N/\lD x=true)):ki z (p.iq.at<|.txt x) (p.iq.at k):=by
 have aw:=ae.iq;obtain⟨a6,ü⟩:=rx a7;induction Re:p.iq with
 |own=>
  intro a ak;obtain rfl:a=.ao (.txt x):=cU.mp ak;refine⟨k,cU.mpr rfl,λu a4=>?_⟩;have nH:u∈jJ e:=by
   have:qe z (.txt x)=jJ e:=by show(match ed x z with|none=>[aM.bB]|some e=>jJ e)=_;rw[a7]
   rw[this]at a4;exact a4
  have:u∈z.flatMap jJ:=jS.mpr ⟨e,a6,nH⟩;rcases aE with rfl|⟨rfl,_⟩<;>exact this
 |key=>
  intro a ak;obtain rfl:a=.txt x:=cU.mp ak;rcases aE with rfl|⟨rfl,bg⟩
  .exact .inr<|.inl<|cU.mpr rfl
  .exact .inr<|.inr ⟨cU.mpr rfl,bg⟩
 |fix K=>exact ki.refl z K
 |tab d1 ey d0=>
  rw[Re]at aw;obtain⟨aU,ak,aK,_,JK,Iz⟩:=aw;have o1:(hR.tab d1 ey d0).at k=d0:=by rcases aE with rfl|⟨rfl,_⟩<;>rfl
  rw[o1];show ki z (if [48]=x then d1 else if [97]=x then ey else d0) d0;split
  .exact ki.of JK<|rC aU.oL
  .split
   .exact ki.of Iz<|rC ak.oL
   .exact ki.refl z d0
theorem FP{z:cX}{aP K:IF aM}(h:ki z aP K)(c:Č):m5 z (gL c aP) (gL c K):=by
 have e9:c%2=0->∀b∈K,aF.b b∈gL c K:=λaq b aw=>by unfold gL;rw[bm<|by lia];exact kz _<|fx aw
 intro a ak a4;unfold gL at ak;rcases gh.mp ak with ak|ak
 .split at ak
  .rename_i aq;rw[cU]at ak;subst ak;exact⟨K,by unfold gL;rw[bl aq];exact .head _,h⟩
  .rename_i aq;obtain⟨b,aw,rfl⟩:=dq.mp ak;clear ak;have G:=h b aw;have eM:c%2=0:=by lia
   induction b with
   |ao k=>obtain⟨iw,E,aC⟩:=G;exact⟨iw,e9 eM _ E,aC⟩
   |txt x=>exact G.imp (e9 eM _) λy=>y.imp (e9 eM _) λw=>⟨e9 eM _ w.1,w.2⟩
   |num i=>exact G.imp (e9 eM _)<|e9 eM _
   |bB=>exact absurd rfl a4
   |nul=>exact .inl<|e9 eM _<|G.resolve_right id
   |S=>exact .inl<|e9 eM _<|G.resolve_right id
   |N=>exact .inl<|e9 eM _<|G.resolve_right id
 .split at ak
  .rw[cU]at ak;exact absurd ak a4
  .cases ak
theorem UP{z:cX}{aP K:IF aM}(h:ki z aP K)(c:Č)(m:aF.b .bB∈gL c aP):aF.b .bB∈gL c K:=by
 unfold gL at m⊢;rcases gh.mp m with m|m
 .split at m
  .rw[cU]at m;cases m
  .rename_i aq;obtain⟨b,aw,e⟩:=dq.mp m;clear m;cases e;rw[bm aq];exact kz _<|fx<|(h _ aw).resolve_right id
 .exact iC _ m
theorem m5.mono{z:cX}{aP K eN:IF aF}(h:m5 z aP K)(m:∀a∈K,a≠.b .bB->a∈eN):m5 z aP eN:=by
 intro a ak a4;have G:=h a ak a4;induction a with
 |arr fc=>obtain⟨Go,E,aC⟩:=G;exact⟨Go,m _ E (λe=>by cases e),aC⟩
 |b a=>
  induction a with
  |ao k=>obtain⟨iw,E,aC⟩:=G;exact⟨iw,m _ E (λe=>by cases e),aC⟩
  |txt x=>exact G.imp (λy=>m _ y a4) λy=>y.imp (λy=>m _ y<|λe=>by cases e) λw=>⟨m _ w.1 (λe=>by cases e),w.2⟩
  |num i=>exact G.imp (λy=>m _ y a4) (λy=>m _ y<|λe=>by cases e)
  |bB=>exact absurd rfl a4
  |nul=>exact .inl<|m _ (G.resolve_right id) a4
  |S=>exact .inl<|m _ (G.resolve_right id) a4
  |N=>exact .inl<|m _ (G.resolve_right id) a4
theorem Gi{p:cJ}(ae:p.good){z:cX}{x:bx}{e:bx×IF aM×Č}(a7:ed x z=some e){k:bv}(aE:k=.S\/(k=.N/\lD x=true)):m5 z (p.at<|.txt x) (p.at k)/\(aF.b .bB∈p.at (.txt x)->aF.b .bB∈p.at k):=⟨FP (F3 ae a7 aE) _,UP (F3 ae a7 aE) _⟩
theorem m5.refl(z:cX)(p:cJ)(k:bv):m5 z (p.at k) (p.at k):=FP (ki.refl z _) _
theorem Jp{K:IF aF}:∀a∈K,a≠.b .bB->a∈a' K:=λa ak a4=>gC.mpr ⟨ak,by simp[a4]⟩
theorem Jf{Y:č}{fO:ĉ}{K:IF aF}:∀a∈K,a≠.b .bB->a∈fC Y fO K:=by
 intro a ak a4;have bn:=Jp a ak a4;unfold fC;split
 .split
  .exact ak
  .exact bn
 .split
  .exact bn
  .exact ak
theorem VY{Y:č}{K:IF aF}:∀a∈K,a≠.b .bB->a∈fK Y K:=by
 intro a ak a4;unfold fK;split
 .exact kz _ ak
 .split
  .exact Jp a ak a4
  .exact ak
theorem QV{Y:č}{K:IF aF}:∀a∈K,a≠.b .bB->a∈je Y K:=by
 intro a ak a4;unfold je;split
 .exact kz _ ak
 .exact ak
theorem A':∀i<20,lD (dn (i:Č))=true:=by decide+kernel
theorem yE{z:cX}{p:cJ}{Y:č}{x:bx}{e:bx×IF aM×Č}(h:ed x z=some e):jw z p Y x=sK z Y (decide<|e.2.2=1) (p.at<|.txt x):=by unfold jw;rw[h]
theorem CS{z:cX}{p:cJ}{Y:č}{x:bx}(h:ed x z=none):jw z p Y x=[.b .bB]:=by unfold jw;rw[h]
theorem XK{z:cX}{x:bx}(h:x∈z.map (·.1)):∃e,ed x z=some e:=by
 induction z with
 |nil=>exact nomatch h
 |cons a z ap=>
  show∃e,(if a.1=x then some a else ed x z)=some e;by_cases c:a.1=x
  .exact⟨a,bl c⟩
  .rw[bm c];exact ap<|(eD.mp h).resolve_left λq=>c q.symm
theorem EY{Y:č}(h:fN Y false=true):Y=1:=fe (((l0 _ _).mp h).elim id λh=>by rw[t2]at h;exact cH h)
theorem F8{Y:č}{a b:ĉ}(h:fN Y a=true)(k:a=true->b=true):fN Y b=true:=by
 induction a with
 |true=>rw[k rfl];exact h
 |false=>exact(l0 _ _).mpr<|.inl<|dK<|EY h
theorem J9{Y:č}(aA:Y=0\/Y=1\/Y=2):fN Y true=true\/Y=2:=by
 rcases aA with rfl|rfl|rfl
 .exact .inl rfl
 .exact .inl rfl
 .exact .inr rfl
theorem Qk{b:ĉ}{p:Prop}[Decidable p]{f:č}(e:f=(if b=true then 1 else 0)+if p then 2 else 0):(f=0\/f=1\/f=2\/f=3)/\vI f=b:=by
 rw[e];by_cases h:p
 .rw[bl h];induction b with
  |true=>exact⟨.inr<|.inr<|.inr rfl,rfl⟩
  |false=>exact⟨.inr<|.inr<|.inl rfl,rfl⟩
 .rw[bm h];induction b with
  |true=>exact⟨.inr<|.inl rfl,rfl⟩
  |false=>exact⟨.inl rfl,rfl⟩
def UW(R:IF B)(p:cJ)(Y:č)(M:IF bO)(q:c6):Prop:=∃m∈M,hU (my m=true) (q.1=m.nm) ((q.2.2.1=0\/q.2.2.1=1\/q.2.2.1=2\/q.2.2.1=3)/\vI q.2.2.1=fN Y (decide<|m.o=1))<|d3.Ty R q.2.1<|fC Y (decide<|m.o=1)<|p.at<|.txt q.1
theorem jp.prop{R:IF B}{p:cJ}{Y aH:č}{M:IF bO}{b8 bQ du dv:Ċ (Č×č)}{t:Č}{cd:IF c6}(to:jp R p.at Y aH (iS M) b8 bQ t cd du dv)(eO:∀m∈M,m.ok):∀q∈cd,UW R p Y M q:=λq a_=>by
 obtain⟨_,b,aw,G,E,aC⟩:=to.to q a_;obtain⟨m,aN,e⟩:=dq.mp aw;obtain⟨aN,dV⟩:=gC.mp aN;rw[<-e]at G E aC;replace E:q.2.2.1=qv Y aH (kd m):=E;replace aC:d3.Ty R q.2.1 (fC Y (q2<|kd m)<|p.at<|.txt q.1):=by rw[show q.1=m.nm from G];exact aC
 unfold qv at E;rw[(D2 m<|eO m aN).1]at E aC;exact⟨m,aN,dV,G,Qk E,aC⟩
theorem lS.ty{R:IF B}{Y aH:č}{K:IF aF}{a b:Ċ (Č×č)}{u:Č}{aV:č}(h:lS R Y aH K a b)(e:b=some (u,aV)):d3.Ty R u (je Y K):=by
 induction a using Option.casesOn with
 |none=>exact b0<|(show b=none from h).symm.trans e
 |some a=>obtain⟨v,G,E⟩:=h;rw[<-(Prod.mk.inj<|cV<|G.symm.trans e).1];exact E
theorem Ll{R:IF B}{p:cJ}{Y:č}{k:bv}{u:Č}(ae:p.ok)(h:d3.Ty R u (je Y<|p.at k)):ra R u:=⟨_,h,aI (FQ<|cJ.q8 ae k)<|aG rfl,EI<|cJ.fits ae k⟩
section
variable{z:cX}{p:cJ}{Y:č}{x:bx}{aT:IF aF}{U:ĉ}(aA:Y=0\/Y=1\/Y=2)
include aA
theorem LX{m:bO}(told:(∃e,ed x z=some e/\(e.2.2=1->m.o=1))\/(ed x z=none/\m.o=1))(tZ:i2 (fC Y (decide<|m.o=1)<|p.at<|.txt x) aT)(lP:U=fN Y (decide<|m.o=1)):j_ (jw z p Y x) (m1 z Y aT U)=true:=by
 rw[lP];rcases told with⟨e,a6,bF⟩|⟨a6,bF⟩
 .rw[yE a6];refine xc aA ((m5.refl z p<|.txt x).mono Jf) tZ (λaK=>.inl<|F8 aK λh=>dK<|bF<|fe h) λaU Qm cr=>?_;rw[aU];induction bg:decide (m.o=1)with
  |true=>exact .inl rfl
  |false=>exact .inr cr
 .rw[CS a6,dK bF];rw[dK bF]at tZ;exact Am tZ<|(J9 aA).imp id .inr
theorem GS{k:bv}(ae:p.good)(aE:k=.S\/(k=.N/\lD x=true))(q9:(∃e,ed x z=some e)\/ed x z=none)(tZ:i2 (je Y<|p.at k) aT)(lP:U=true):j_ (jw z p Y x) (m1 z Y aT U)=true:=by
 rcases q9 with⟨e,a6⟩|a6
 .rw[yE a6];exact xc aA ((Gi ae a6 aE).1.mono QV) tZ (λ_=>.inl lP)<|λ_ _ _=>.inl lP
 .rw[CS a6];exact Am tZ<|.inl lP
end
theorem XW{n:Č}{S:dy}{p:cJ}{Y aH:č}{M:IF bO}{cw cW:hw}{t:Č}{cd:IF c6}{du dv:Ċ (Č×č)}{c:ku}(T:Rows S.R)(ae:p.good)(aA:Y=0\/Y=1\/Y=2)(eO:∀m∈M,m.ok)(nk:cd.length<=10)(to:jp S.R p.at Y aH (iS M) (be cw) (be cW) t cd du dv)(aq:rj M c):∀x∈xU cd c.1,pL S (n+6) (hJ cd (.tup []) du dv 0) p Y c.1 c.2 x:=by
 have y0:=to.prop eO;intro x az;have q9:(∃e,ed x c.1=some e)\/(ed x c.1=none/\∃q∈cd,q.1=x):=(gh.mp az).imp XK λaz=>by
  obtain⟨G,E⟩:=gC.mp az;refine⟨?_,dq.mp G⟩;induction a7:ed x c.1 using Option.casesOn with
  |none=>rfl
  |some e=>rw[a7]at E;exact cH E
 refine⟨λdU=>?_,λbT eP=>S3 T (λq a_=>?_) (λu aV e=>Ll ae.ok<|to.six.ty e) (λu aV e=>Ll ae.ok<|to.sV.ty e) (λq a_=>?_) nk λgi y9=>eP gi λah cf=>⟨(y9 ah cf).1,?_⟩⟩
 .rcases q9 with⟨e,a6⟩|⟨_,q,a_,e⟩
  .obtain⟨G,E⟩:=rx a6;exact aq.len.elim id λh=>absurd (E.trans dU)<|h e G
  .obtain⟨m,aN,dV,G,_⟩:=y0 q a_;have:=(tE dV).2;rw[<-G,e,dU]at this;exact ig this
 .obtain⟨m,aN,dV,G,E,aC⟩:=y0 q a_;exact⟨_,aC,aI (ww _ _ _)<|aI (cJ.q8 ae.ok _)<|aG rfl,λa ak=>cJ.fits ae.ok _ a<|uo a ak⟩
 .obtain⟨m,aN,dV,G,E,aC⟩:=y0 q a_;exact E.1
 .obtain⟨aT,U,e,e1⟩:=(y9 ah cf).2;rw[e];show j_ (jw c.1 p Y x) (m1 c.1 Y aT U)=true;rcases e1 with⟨q,a_,JU,aw,lP⟩|e1
  .obtain⟨m,aN,dV,G,E,aC⟩:=y0 q a_;have told:=aq.told m aN dV;rw[<-G,JU]at told;rw[JU]at aC;exact LX aA told (aw _ aC)<|lP.trans E.2
  .replace q9:=q9.imp id And.left;rcases e1 with⟨lP,u,aV,e,aw⟩|⟨lP,bg,u,aV,e,aw⟩
   .exact GS aA ae (.inl rfl) q9 (aw _<|to.six.ty e) lP
   .exact GS aA ae (.inr ⟨rfl,bg⟩) q9 (aw _<|to.sV.ty e) lP
def nU (Y:č) (ay:IF č):IF č:=xF (pc Y ay) 0<|wK Y (cb ay) 0 ay
def wH (Y:č) (ay:IF č):ĉ:=decide (cb (nU Y ay)=cb ay)&&(nU Y ay).all (λm=>decide (m=0)||(decide (m=1)||decide (m=2)))&&(decide (ay=[2])|| !decide (nU Y ay=[2]))
theorem Xg:(he.all λay=>wH 0 ay&&(wH 1 ay&&wH 2 ay))=true:=by decide+kernel
theorem Hw{Y:č}{ay:IF č}(aA:Y=0\/Y=1\/Y=2)(ae:ay∈he):cb (nU Y ay)=cb ay/\(∀m∈nU Y ay,m=0\/m=1\/m=2)/\(ay≠[2]->nU Y ay≠[2]):=by
 have aw:wH Y ay=true:=by
  have:=d'.mp Xg ay ae;simp only[e2]at this;rcases aA with er|er|er<;>rw[er]
  .exact this.1
  .exact this.2.1
  .exact this.2.2
 unfold wH at aw;simp only[e2,l0,kk,jL,mH,d']at aw;exact⟨aw.1.1,aw.1.2,λh=>aw.2.resolve_left h⟩
theorem Ff(Y:č)(F:bv->IF aF)(ay:IF č):(jT Y F ay).map (·.2)=nU Y ay:=by unfold jT nU;rw[MN,CB]
theorem AB{ay:IF č}(ae:ay∈he){w:IF Č}(bF:w∈vQ ay):w.length<=8/\(∀x∈w,x<=1)/\∀i<12,(i<cb ay->(i<w.length->w[i]?=some 1->ay[i]?=some 1)/\(¬i<w.length->ay[i]?=some 1))/\(¬i<cb ay->w[i]?≠some 1/\(i<w.length->cb ay<ay.length)):=by
 have aw:=d'.mp (d'.mp X' ay ae) w bF;unfold E2 at aw;simp only[e2,jL,d',lC]at aw;refine⟨aw.1.1,aw.1.2,λi aB=>?_⟩;have h:=aw.2 i aB;constructor
 .intro a7;rw[bl a7]at h;constructor
  .intro aj G;rw[bl aj]at h;simpa[G]using h
  .intro aj;rw[bm aj]at h;simpa using h
 .intro a7;rw[bm a7]at h;simp only[e2,l0,kk,mH,jL]at h;exact⟨h.1,λaj=>h.2.resolve_left λx=>x aj⟩
structure u8(ay:List Int)(r:hC):Prop where
 k:∀e∈r,e.1.length<=3
 m:r.map (·.2)∈vQ ay
theorem u8.slt{ay:IF č}{r:hC}(h:u8 ay r)(ae:ay∈he):ja (gd 0 r):=by obtain⟨G,E,_⟩:=AB ae h.m;rw[bV]at G;refine⟨Q_ r 0 (by lia),by rw[Ga];exact fY ‹_›,λe a6=>?_⟩;obtain⟨x,az,a8⟩:=Pj r 0 e a6;rw[a8];exact⟨h.k x az,E _<|fx (f:=λe:IF aM×Č=>e.2) az⟩
theorem H4{i:Č}(aB:i<20):dn (i:Č)≠[108,101,110,103,116,104]:=λe=>by have:=A' i aB;rw[e]at this;exact cH this
def p8 (Y:č) (F:bv->IF aF) (eB i:Č) (m:č):g9:=if i<eB then(fC Y (decide<|m=1)<|F<|.txt<|dn i,if fN Y (decide<|m=1)=true then 1 else 0)else(fK Y<|F .N,m)
theorem BW(Y:č)(F:bv->IF aF)(eB len i:Č)(m:č):ij Y F eB len i m=((p8 Y F eB i m).1++[.b .bB],0)\/ij Y F eB len i m=p8 Y F eB i m:=by
 show(if(p8 Y F eB i m).2=1/\eB+1<len then _ else _)=_\/(if(p8 Y F eB i m).2=1/\eB+1<len then _ else _)=_;split
 .exact .inl rfl
 .exact .inr rfl
theorem Uu(z:cX)(Y:č)(ah:IF aF):iX z ah++o8 Y=m1 z Y ah false:=by unfold m1 o8;simp
theorem Ap{av:Type}{P:av->Prop}{a:av}(h:P a):∀x∈[a],P x:=λx az=>by rw[cU.mp az];exact h
theorem zZ{r:hC}(aj:r.length<=8){i:Č}(aB:i<r.length):∃bz,ed (dn (i:Č)) (gd 0 r)=some bz/\(r.map (·.2))[i]?=some bz.2.2:=⟨_,(He r 0 i (aI (fQ<|iJ _)<|aI aj<|aG rfl) (f_ _)<|gH aB<|aI aj<|aG rfl).trans (by rw[Nat.sub_zero,fq aB];rfl),by rw[gX,fq aB];rfl⟩
theorem YV{K:IF aF}:aF.b .bB∈fK 1 K:=iC _<|.head _
theorem i2.up{K aT ah:IF aF}(s:i2 K aT)(h:∀a∈aT,a∈ah):i2 K ah:=λa ak aK=>by
 have:=s a ak aK;induction a using aF.casesOn with
 |b a=>exact h _ this
 |arr K=>obtain⟨sX,lK,h6⟩:=this;exact⟨sX,h _ lK,h6⟩
theorem Fu{z:cX}{p:cJ}{Y:č}{x:bx}{e:bx×IF aM×Č}{K ah:IF aF}(ae:p.good)(aA:Y=0\/Y=1\/Y=2)(a6:ed x z=some e)(bF:e.2.2≠1)(az:lD x=true)(ab:∀a∈fK Y (p.at .N),a∈K)(s:i2 K ah):j_ (jw z p Y x) (iX z ah++o8 Y)=true:=by have aK:=Gi ae a6 (k:=.N)<|.inr ⟨rfl,az⟩;rw[Uu,yE a6,eC bF];exact xc aA (aK.1.mono λa ak a4=>ab a<|VY a ak a4) s (λh=>.inr<|.inl<|ab _<|by rw[EY h];exact YV) λaU _ cr=>.inr (ab _<|by rw[aU];exact aK.2 cr)
theorem Rq{p:cJ}{Y aV:č}{e:Č}{r:hC}(T:Rows S.R)(ae:p.good)(aA:Y=0\/Y=1\/Y=2)(mV:d3.Ty S.R e (fK Y<|p.at .N))(bn:u8 [2] r):∀x∈(gd 0 r).map (·.1),pL S (n+6) (hX e aV) p Y (gd 0 r) [91] x:=by obtain⟨aj,_,e1⟩:=AB (ay:=[2]) (by decide) bn.m;rw[bV]at aj;intro x az;obtain⟨i,_,aB,rfl⟩:=xI r 0 x az;rw[iJ]at aB;have z_:=gH aB aj;obtain⟨bz,h9,bF⟩:=zZ aj aB;exact⟨λh=>absurd h<|H4<|gH z_<|aG rfl,λbT eP=>Mq T ⟨_,mV,aI (CQ Y<|p.at .N)<|c'<|aI (cJ.q8 ae.ok .N)<|aG rfl,xv<|cJ.fits ae.ok .N⟩ λaT Vw di=>eP [aT]<|Ap ⟨di,Fu ae aA h9 (λh=>((e1 i<|gH z_<|aG rfl).2<|xd i).1<|by rw[bF,h]) (A' i<|gH z_<|aG rfl) (λ_ h=>h)<|Vw _ mV⟩⟩
theorem OX{Y:č}{F:bv->IF aF}{ay:IF č}(aA:Y=0\/Y=1\/Y=2)(ae:ay∈he){i:Č}{m:č}(aN:ay[i]?=some m):(jT Y F ay)[i]?=some (ij Y F (cb ay) ay.length i m):=by have h:=La (pc Y ay) _ 0 i<|Gn Y F (cb ay) ay 0 i aN;rw[iJ]at h;rw[Kv aA ae aN];exact h
theorem N2{Y:č}{F:bv->IF aF}{f l i:Č}{m:č}(a7:∀k,∀a∈F k,a.fits):∀a∈(ij Y F f l i m).1,a.fits:=by
 have aU:∀a∈(p8 Y F f i m).1,a.fits:=by
  unfold p8;split
  .exact λa ak=>a7 _ a<|uo a ak
  .exact xv<|a7 .N
 rcases BW Y F f l i m with e|e<;>rw[e]
 .exact aF.Er aU
 .exact aU
theorem XS{Y:č}{F:bv->IF aF}{f l i:Č}{m:č}(cT:i<f):(∀a∈fC Y (decide<|m=1) (F<|.txt<|dn i),a∈(ij Y F f l i m).1)/\(fN Y (decide<|m=1)=true->decide ((ij Y F f l i m).2=1)=true\/.b .bB∈(ij Y F f l i m).1):=by
 have oP:p8 Y F f i m=(fC Y (decide<|m=1)<|F<|.txt<|dn i,if fN Y (decide<|m=1)=true then 1 else 0):=bl cT;rcases BW Y F f l i m with e|e<;>rw[e,oP]
 .exact⟨λa ak=>kz _ ak,λ_=>.inr<|iC _<|.head _⟩
 .exact⟨λa ak=>ak,λh=>.inl<|dK<|bl h⟩
theorem LO{Y:č}{F:bv->IF aF}{f l:Č}{m:č}:∀a∈fK Y (F .N),a∈(ij Y F f l f m).1:=by
 have oP:p8 Y F f f m=(fK Y<|F .N,m):=bm<|m7 _;rcases BW Y F f l f m with e|e<;>rw[e,oP]
 .exact λa ak=>kz _ ak
 .exact λa ak=>ak
theorem R3{p:cJ}{Y:č}{r:hC}{i f l:Č}{m:č}{aT:IF aF}(aA:Y=0\/Y=1\/Y=2)(aj:r.length<=8)(uM:i<12)(cT:i<f)(iF:i<r.length->(r.map (·.2))[i]?=some 1->m=1)(oh:¬i<r.length->m=1)(s:i2 (ij Y p.at f l i m).1 aT):j_ (jw (gd 0 r) p Y<|dn i) (m1 (gd 0 r) Y aT<|decide<|(ij Y p.at f l i m).2=1)=true:=by
 obtain⟨ab,E⟩:=XS (Y:=Y) (F:=p.at) (l:=l) (m:=m) cT;by_cases aB:i<r.length
 .obtain⟨bz,h9,bF⟩:=zZ aj aB;rw[yE h9];refine xc aA ((m5.refl _ p _).mono λa ak a4=>ab a<|Jf a ak a4) s (λaK=>(E<|F8 aK λh=>dK<|iF aB<|by rw[bF,fe h]).imp id .inl) λaU Qm cr=>?_;induction bg:decide (m=1)using Bool.casesOn with
  |true=>exact E (by rw[bg,aU];rfl)
  |false=>exact .inr (ab _<|by rw[bg,aU];exact cr)
 .rw[CS<|(He r 0 i (aI (fQ<|iJ _)<|aI aj<|aG rfl) (f_ _)<|gH uM<|aG rfl).trans<|by rw[Nat.sub_zero,CW<|rH aB];rfl];refine Am s<|(J9 aA).elim (λh=>(E ?_).imp id .inl) λh=>.inr<|.inr h;rw[dK<|oh aB];exact h
theorem NE{x:bx}{f:Č}{r:hC}(h:x∈tP f (gd 0 r)):∃i:Č,x=dn (i:Č)/\(i<r.length\/i<f):=by
 rcases gh.mp h with h|h
 .obtain⟨i,_,aB,e⟩:=xI r 0 x h;exact⟨i,e,.inl<|by rw[iJ]at aB;exact aB⟩
 .obtain⟨j,b',e⟩:=dq.mp h;have b':=lC.mp b';exact⟨(gd 0 r).length+j,e.symm,.inr<|Nat.add_lt_of_lt_sub' b'⟩
theorem QH{p:cJ}{Y aV:č}{es:IF (Č×č)}{ay:IF č}{r:hC}(T:Rows S.R)(ae:p.good)(aA:Y=0\/Y=1\/Y=2)(nQ:ay∈he)(cf:hf 15 S.R es (jT Y p.at ay))(bn:u8 ay r):∀x∈tP (cb<|es.map (·.2)) (gd 0 r),pL S (n+6) (.tup [.int 12,.tup<|df es,.int aV]) p Y (gd 0 r) [91] x:=by
 obtain⟨aj,_,e1⟩:=AB nQ bn.m;rw[bV]at aj e1;have mU:=uB ay nQ;obtain⟨w9,Fz,_⟩:=Hw aA nQ;have uK:es.map (·.2)=nU Y ay:=cf.marks.trans (Ff ..);rw[<-uK]at w9 Fz;have i':es.length=ay.length:=by rw[cf.len,jT,uP,vG]
 have cell:∀{i:Č} {e:Č×č},es[i]?=some e->∃m,dJ (ay[i]?=some m) (e.2=(ij Y p.at (cb ay) ay.length i m).2) (d3.Ty S.R e.1 (ij Y p.at (cb ay) ay.length i m).1/\(ij Y p.at (cb ay) ay.length i m).1.length<=15):=λ{i e} a6=>by have aB:=(g0.mp a6).1;have aN:=fq<|i'▸aB;obtain⟨c,aq,G,E,aC⟩:=cf.at a6;rw[OX aA nQ aN]at aq;cases aq;exact⟨_,aN,G,E,aC⟩
 intro x az;rw[w9]at az;obtain⟨i,rfl,LH⟩:=NE az;clear az;have uM:i<12:=LH.elim (λh=>gH h<|aI aj<|aG rfl) λh=>gH h<|aI (w5 ay)<|aI mU<|aG rfl;have pW:=gH uM (aG rfl:12<=20);obtain⟨iF,oh⟩:=e1 i uM;refine⟨λh=>absurd h<|H4 pW,λbT eP=>À T (λe a6=>?_) Fz (aI (fQ i') mU) pW (λe aT cT a6 aw di=>eP [_]<|Ap ⟨di,?_⟩) λah Dc di gc=>?_⟩
 .obtain⟨i,Py⟩:=Cm.mp a6;obtain⟨m,aN,G,E,aC⟩:=cell Py;exact⟨_,E,iP aC,N2<|cJ.fits ae.ok⟩
 .rw[w9]at cT;obtain⟨m,aN,G,E,aC⟩:=cell a6;rw[aN]at iF;obtain⟨iF,oK⟩:=iF cT;rw[G];exact R3 aA aj uM cT (λh k=>cV<|iF h k) (λh=>cV<|oK h)<|aw _ E
 .rw[w9]at Dc gc;obtain⟨iF,oK⟩:=oh Dc;have aB:i<r.length:=LH.resolve_right Dc;have J1:=fq (i'.symm▸oK aB:cb ay<es.length);obtain⟨bz,h9,bF⟩:=zZ aj aB;obtain⟨aT,aw,pp⟩:=gc _<|h'<|(vA (j:=0)).trans J1;obtain⟨m,aN,G,E,_⟩:=cell J1;exact eP [ah]<|Ap ⟨di,Fu ae aA h9 (λh=>iF<|by rw[bF,h]) (A' i pW) LO<|(aw _ E).up pp⟩
def C_:IF B->ĉ
 |[]=>true
 |v::l=>(match hN v l with|some b=> !b|none=>false)&&C_ l
theorem Wx{l:IF B}(aE:∀v∈l,fy 16 v=true)(h:C_ l=true):l.Nodup:=by
 induction l with
 |nil=>exact .nil
 |cons v l ap=>have h:((match hN v l with|some b=> !b|none=>false)&&C_ l)=true:=h;rw[Kg (aE v<|.head _) λa ak=>aE a<|.tail _ ak]at h;have h:=gA.mp h;refine hK.mpr ⟨λq=>?_,ap (λv af=>aE v<|.tail _ af) h.2⟩;have G:(!cP (v∈l))=true:=h.1;rw[uN q]at G;exact cH G
theorem rm:Rows hl where
 base:=⟨[],(gN _).symm⟩
 b7:=Wx (λv af=>wY<|d'.mp (rfl:hl.all im=true) v af) rfl
 row:=λv af=>d'.mp (rfl:hl.all im=true) v af
def mm (nums:IF B):dy:=⟨0,nums,hl,[.none],[]⟩
def kJ (nums:IF B):St:=[.ls [.int 0,.lst nums],.ins 0 pB,.ls<|hl.take 16,.cP<|gE 0<|hl.take 16,.ls [.none],.ls [],.ls [],.ls [],.cP [],.cP []]
def pO (nums:IF B):St:=kJ nums++[.ins 4 Dx]
def ma (nums:IF B):St:=[.ls [.int 0,.lst nums],.ins 0 pB,.ls<|hl.take 17,.cP<|gE 0<|hl.take 17,.ls [.none],.ls [.int<|-1],.ls [.int<|-1],.ls [.str [84]],.cP [],.cP [],.ins 4 Dx]
def I5 (nums R:IF B):St:=[.ls [.int 0,.lst nums],.ins 0 pB,.ls R,.cP<|gE 0 R,.ls [.none],.ls [],.ls [],.ls [],.cP [],.cP []]
theorem Pt{nums:IF B}{m:Č}{Q:cj->aJ->St->Prop}:bw (m+2) ym.body [.val<|.ref 1,.un] ([.ls [.int 0,.lst nums]]++[.ins 0 []]) Q=bw (m+2) (ym.body.drop 10) [.val<|.ref 1,.un] (I5 nums []) Q:=by kernel_rfl
theorem NV{nums:IF B}{m:Č}{Q:B->St->Prop}(q:Q (.none) (kJ nums)):bc (m+3) 0 [.ref 1] ([.ls [.int 0,.lst nums]]++[.ins 0 []]) Q:=by
 have T:∀{done a':IF B} {a},hl.take 16=done++a::a'->a∉done/\im a=true/\(∀v∈done,im v=true)/\done.length<=16:=λ{done a' a} e=>by have h:∀v∈done++a::a',im v=true:=λv af=>rm.row v<|A6<|e▸af;have b7:=(rm.b7.sublist<|List.take_sublist 16 hl);rw[e,m4]at b7;exact⟨λh=>b7.2.2 a h a (.head _) rfl,h a (by simp),λv af=>h v<|kz _ af,aI (kc _)<|oq e<|dA 16⟩
 refine bc.fn (b:=ym.body) (r:=[.val<|.ref 1,.un]) rfl rfl ?_;rw[Pt];refine cE.mp (f:=id) (all:=hl.take 16) rfl (λdone K=>∀x,K [.val<|.ref 1,x]<|I5 nums done) (λdone a a' e K ab x=>?_) (λx=>q) λK h=>h _;obtain⟨G,E,aC,ba⟩:=T e;refine yO aC E (aI (c' ba)<|aG rfl) (λi aB=>absurd (h' aB) G) λ_=>ab _
theorem Q8{nums:IF B}{m:Č}{Q:B->St->Prop}(q:Q (.none) (pO nums)):bc (m+3) 69 [.ref 10,.ref 1] (kJ nums++[.ins 4 []]) Q:=by k_go;exact q
theorem Ue{nums:IF B}{m:Č}{Q:B->St->Prop}(q:Q (.int 16) (ma nums)):bc (m+3) 12 [.ref 1,.str [84]] (pO nums) Q:=by k_go;refine⟨aG rfl,aG rfl,aG rfl,?_⟩;exact yO (R:=hl.take 16) (λv af=>rm.row v<|A6 af) rfl (aG rfl) (λi aB=>absurd (h' aB) λh=>by have b7:=rm.b7.sublist<|List.take_sublist 17 hl;rw[show hl.take 17=hl.take 16++[.tup [.int 10,.int 0]]from rfl,m4]at b7;exact b7.2.2 _ h _ (.head _) rfl) λ_=>q
theorem Td{nums:IF B}{m:Č}{Q:B->St->Prop}(q:Q (.int 17) ((mm nums).st)):bc (m+3) 12 [.ref 1,.str [80]] (ma nums) Q:=by k_go;refine⟨aG rfl,aG rfl,aG rfl,?_⟩;exact yO (R:=hl.take 17) (λv af=>rm.row v<|A6 af) rfl (aG rfl) (λi aB=>absurd (h' aB) λh=>by have b7:=rm.b7;rw[show hl=hl.take 17++[.tup [.int 10,.int 1]]from rfl,m4]at b7;exact b7.2.2 _ h _ (.head _) rfl) λ_=>q
theorem oy.ex{S cp:dy}{c t o:Č}(h:oy S t o)(g:a9 S.R cp.R c)(b3:cp.D=S.D)(c8:∃cx,cp.X=S.X++cx):oy cp t o:=by
 obtain⟨cx,c8⟩:=c8;induction h with
 |obj h=>exact .obj<|g.at h
 |ref G E aC ba cN d7=>refine .ref (g.at G) (by rw[b3];exact E) ?_ ba cN<|g.at d7;rw[c8,px (g0.mp aC).1];exact aC
theorem qz.ex{S cp:dy}{t o fo dE:Č}{M:IF bO}{ai:IF c6}{cw cW:hw}{eG:B}{b8 bQ:Ċ (Č×č)}{fd:č}{c:Č}(h:qz S t o fo M ai cw cW dE eG b8 bQ fd)(g:a9 S.R cp.R c)(b3:cp.D=S.D)(c8:∃cx,cp.X=S.X++cx):qz cp t o fo M ai cw cW dE eG b8 bQ fd:={h with src:=h.src.ex g b3 c8,row:=g.at h.row,zk:=g.at h.zk}
structure fI(S cp:dy)(c:Nat):Prop where
 g:a9 S.R cp.R c
 D:cp.D=S.D
 X:∃cx,cp.X=S.X++cx
theorem fI.trans{S cp JQ:dy}{a b:Č}(h:fI S cp a)(k:fI cp JQ b):fI S JQ (a+b):=by obtain⟨cx,jr⟩:=h.X;obtain⟨Vq,Qs⟩:=k.X;exact⟨h.g.trans k.g,k.D.trans h.D,cx++Vq,by rw[Qs,jr,hF]⟩
theorem fI.le{S cp:dy}{a b:Č}(h:fI S cp a)(aj:a<=b):fI S cp b:=⟨h.g.le aj,h.D,h.X⟩
theorem fI.refl{S:dy}(T:Rows S.R){c:Č}:fI S S c:=⟨a9.refl T,rfl,[],(gN _).symm⟩
theorem fI.w{S:dy}{aa:IF B}{c:Č}(g:a9 S.R aa c):fI S (S.w aa) c:=⟨g,rfl,[],(gN _).symm⟩
theorem fI.QO{S:dy}{aa:IF B}{eg:IF c5}{c:Č}(g:a9 S.R aa c):fI S ((S.w aa).x<|S.X++eg) c:=⟨g,rfl,eg,rfl⟩
theorem K5:∀{ai:IF c6} {M:IF bO},bW xJ ai M->ai.map (·.1)=M.map (·.nm)
 |_,_,.nil=>rfl
 |_,_,.cons x y=>by rw[gf,gf,K5 y,x.1]
structure VG(M:List bO)(ai:List c6):Prop where
 x:∀p∈ai,p.1∈iQ
 f:∀p∈ai,0<=p.2.2.1
 b7:(ai.map (·.1)).Nodup
 l:ai.length<=4
 tY:(M.map (·.nm)).Nodup
theorem qz.f{S:dy}{t o fo dE:Č}{M:IF bO}{ai:IF c6}{cw cW:hw}{eG:B}{b8 bQ:Ċ (Č×č)}{fd:č}(h:qz S t o fo M ai cw cW dE eG b8 bQ fd):VG M ai:=by
 have tY:(M.map (·.nm)).Nodup:=by rw[List.Nodup,w_];refine h.fB.imp λ{a b} tX e=>?_;have:jj a.nm b.nm=true:=tX;rw[e,AT]at this;exact cH this
 refine⟨λp ae=>?_,λp ae=>?_,(K5 h.props)▸tY,by rw[h.props.len];exact h.len,tY⟩
 .obtain⟨m,aN,G,_⟩:=h.props.wd p ae;rw[G];exact(h.ok m aN).nm
 .obtain⟨m,aN,_,E,_⟩:=h.props.wd p ae;rw[E];exact nw _
def yo (dG:ĉ):č:=cond dG 17<|-1
def mF (p:cJ) (Y aH:Č) (dG:ĉ) (g2:Č) (b:B) (d5 cD:Č) (dR dY c_:co):aJ:=[.val<|.ref 0,.val<|.ref 1,.val<|.ref 10,.val<|.int 16,.val<|.int 17,.val p.aW,.val<|.tup [au Y,au aH],.val<|.bool dG,.val<|au g2,.val b,.val<|au d5,.val<|au cD,.val<|fT cD (yo dG) d5 Y aH,dR,dY,c_]
def qy(dG:ĉ)(R:IF B)(F:bv->IF aF)(Y aH:č)(aP:IF Tm)(b8 bQ:Ċ (Č×č))(u:Č):Prop:=cond dG (u=11)<|dI λcd du dv=>jp R F Y aH aP b8 bQ u cd du dv
theorem Gl{dG:ĉ}{d5 t o:Č}{F:bv->IF aF}{cD Y aH fd:č}{ai:IF c6}{eG:B}{b8 bQ:Ċ (Č×č)}(T:Rows S.R)(h:gb S.R d5 F)(aA:Y=0\/Y=1\/Y=2)(di:aH=0\/aH=1\/aH=2)(aK:oy S t o)(bn:S.R[o]?=some (hJ ai eG b8 bQ fd))(az:∀p∈ai,p.1∈iQ)(a7:∀p∈ai,0<=p.2.2.1)(b7:(ai.map (·.1)).Nodup)(aj:ai.length<=4)(aq:S.R.length+500<=a3)(q:∀u cp,fI S cp 500->qy dG cp.R F Y aH (rW ai) b8 bQ u->Q (au u) cp.st):bc (n+21) 59 [.ref 10,fT cD (yo dG) d5 Y aH,au t] S.st Q:=by
 obtain⟨cK,l,G,E⟩:=aK.cK;induction dG using Bool.casesOn with
 |true=>exact Bi (nm:=17) G (E.imp id .inl)<|q 11 S (.refl T) rfl
 |false=>exact M7 T h aA di G E (λm bT a_=>ZS T aK a_) bn az a7 b7 (aI aj<|aG rfl) aq λu cd du dv aa eg g to=>q u _ (.QO g) ⟨cd,du,dv,to⟩
theorem BF(a:č):(!decide (a=a))=false:=by rw[dK rfl];rfl
theorem V1(b:ĉ):(!(b==b))=false:=by induction b using Bool.casesOn<;>rfl
theorem fI.step{av:Type}{S cp vg:dy}{c d:Č}{done:IF av}{a:av}(aP:fI S cp (c*done.length))(ph:fI cp vg d)(h:d<=c):fI S vg (c*(done++[a]).length):=⟨aP.g.step ph.g h,(aP.trans ph).D,(aP.trans ph).X⟩
theorem OL{p:cJ}{Y aH g2 d5 cD:Č}{dG:ĉ}{b:B}{dR dY c_:co}{ai:IF c6}{cM:cj->aJ->St->Prop}(T:Rows S.R)(az:∀p∈ai,p.1∈iQ)(aj:ai.length<=4)(aq:S.R.length+8<=a3)(q:∀cp c_,fI S cp 8->cM .go (mF p Y aH dG g2 b d5 cD dR dY c_) cp.st):cE (n+9) false [15] [.iff (.cmp (.call 61 [.v 2,.new 6 [.cQ (.v 1) 0 [.tup [.k<|.int 3,.ao (.v 15)<|.k<|.int 0,.k<|.int 0]],.v 15,.tup []]]) [(.ne,.cmp (.ao (.v 15)<|.k<|.int 0) [(.isin,.tup [.k<|.str [108,101,110,103,116,104],.k<|.str [48],.k<|.str [49,50]])])]) [.ret<|.k<|.bool false] []] (ai.map fh) (mF p Y aH dG g2 b d5 cD dR dY c_) S.st cM:=by refine cE.mp (all:=ai) (f:=fh) rfl (λdone K=>∀cp c_,fI S cp (2*done.length)->K (mF p Y aH dG g2 b d5 cD dR dY c_) cp.st) (λdone m a' ag K ab cp c_ aP=>?_) (λcp c_ aP=>q cp c_<|aP.le<|hh 2 aj) λK ab=>ab S _<|fI.refl T;have room:cp.R.length+1+1<=a3:=aP.g.turn (k:=2) ag aj aq;refine e6 (S:=cp) aP.g.ok rfl (lj room) λk bu bh zK=>yb (s:=(cp.w bu).st) ⟨rfl,Au (S:=(cp.w bu).x<|cp.X++[gr.ct<|.mem k m]) (e:=.mem k m) bh.ok (f1.new (S:=cp.w bu)) (λiw et e=>by cases e;exact az m<|by rw[ag];exact iC _<|.head _) (aI (c' bh.len) room) λdZ cL=>?_⟩;rw[show(!oz (.mem k m))=(decide ([108,101,110,103,116,104]=m.1)||(decide ([48]=m.1)||(decide ([49,50]=m.1)||false)))from(bH Bool.not (DW m.1).symm).trans<|Bool.not_not _];lk;exact bj.ir (V1 _)<|ab _ _<|aP.step (⟨bh.trans cL,rfl,_,rfl⟩:fI cp (((cp.w bu).x<|cp.X++[gr.ct<|.mem k m]).w dZ) 2)<|dA _
def wz(S:dy)(v:B):Prop:=(ES λt o fo M ai cw cW dE eG b8 bQ fd=>v=.bb (mY t fo M ai cw cW dE)/\qz S t o fo M ai cw cW dE eG b8 bQ fd)\/(dI λt es aV=>v=.bb (kx t es aV)/\q7 S.R t es aV)\/(dX λt st=>v=.bb (xp t st)/\tR S.R t st)
theorem wz.ex{S cp:dy}{v:B}{c:Č}(h:wz S v)(aP:fI S cp c):wz cp v:=by
 rcases h with⟨t,o,fo,M,ai,cw,cW,dE,eG,b8,bQ,fd,e,h⟩|⟨t,es,aV,e,h⟩|⟨t,st,e,h⟩
 .exact .inl ⟨t,o,fo,M,ai,cw,cW,dE,eG,b8,bQ,fd,e,h.ex aP.g aP.D aP.X⟩
 .exact .inr<|.inl ⟨t,es,aV,e,h.bf aP.g⟩
 .exact .inr<|.inr ⟨t,st,e,h.bf aP.g⟩
theorem Lp{av b9:Type}(f:av->b9):∀{l:IF av},(l.map f).Nodup->∀a∈l,∀b∈l,f a=f b->a=b
 |c::l,h,a,ak,b,aw,e=>by
  rw[gf,hK]at h;rcases eD.mp ak with e'|yd<;>rcases eD.mp aw with eb|G_
  .rw[e',eb]
  .exact absurd (by rw[<-e',e];exact fx (f:=f) G_) h.1
  .exact absurd (by rw[<-eb,<-e];exact fx (f:=f) yd) h.1
  .exact Lp f h.2 a yd b G_ e
theorem KH:∀(m l:IF bx),l.Nodup->(∀x∈l,x∈m)->l.length<=m.length
 |[],l,_,h=>by
  induction l with
  |nil=>exact dA _
  |cons a r=>cases h a (.head _)
 |a::m,l,b7,h=>by
  have E:=KH m (l.erase a) (b7.erase a) λx az=>by have g1:=(b7.mem_erase_iff).mp az;exact(eD.mp<|h x g1.2).resolve_left g1.1
  by_cases c:a∈l
  .rw[List.length_erase_of_mem c]at E;exact Nat.le_succ_of_pred_le E
  .rw[List.erase_of_not_mem c]at E;simp only[nl];exact iP ‹_›
theorem Fm{v:Č}(h:(v:č)<3):(v:č)=0\/(v:č)=1\/(v:č)=2:=by lia
theorem Zz{n:Č}{nums:IF B}{b:IF dF}{iV:IF co}{Q:cj->aJ->St->Prop}(q:bw (n+4) b ([.val<|.ref 0,.val<|.ref 1,.val<|.ref 10,.val<|.int 16,.val<|.int 17]++iV) (mm nums).st Q):bw (n+4) (.set 1 (.new 0 [])::.set 2 (.new 4 [.v 1])::.set 3 (.call 12 [.v 1,.k<|.str [84]])::.set 4 (.call 12 [.v 1,.k<|.str [80]])::b) ([.val<|.ref 0,.un,.un,.un,.un]++iV) [.ls [.int 0,.lst nums]] Q:=by exact NV ⟨rfl,Q8 ⟨rfl,Ue<|Td q⟩⟩
theorem qy.eq{dG:ĉ}{R:IF B}{F:bv->IF aF}{Y aH:č}{aP:IF Tm}{M:IF bO}{b8 bQ u5 v7 du dv:Ċ (Č×č)}{u w:Č}{cd:IF c6}(T:Rows R)(b7:(M.map (·.nm)).Nodup)(h:qy dG R F Y aH aP b8 bQ u)(to:jp R F Y aH (iS M) u5 v7 w cd du dv)(cr:∀m,m∈aP↔m∈iS M)(fz:b8.map (·.2)=u5.map (·.2))(kZ:bQ.map (·.2)=v7.map (·.2)):u=cond dG 11 w:=by
 induction dG using Bool.casesOn with
 |true=>exact h
 |false=>obtain⟨_,_,_,h⟩:=h;refine h.inj T to cr (λm aN iW kQ e=>?_) fz kZ;obtain⟨a,ak,e'⟩:=dq.mp<|(cr m).mp aN;obtain⟨b,aw,eb⟩:=dq.mp<|(cr iW).mp kQ;rw[<-e',<-eb]at e⊢;rw[Lp (λm:bO=>m.nm) b7 a (gC.mp ak).1 b (gC.mp aw).1 e]
theorem qy.bf{dG:ĉ}{R aa:IF B}{F:bv->IF aF}{Y aH:č}{aP:IF Tm}{b8 bQ:Ċ (Č×č)}{u c:Č}(h:qy dG R F Y aH aP b8 bQ u)(g:a9 R aa c):qy dG aa F Y aH aP b8 bQ u:=by
 induction dG using Bool.casesOn with
 |true=>exact h
 |false=>obtain⟨a,b,c,h⟩:=h;exact⟨a,b,c,h.bf g⟩
theorem jp.le{R:IF B}{F:bv->IF aF}{Y aH:č}{M:IF bO}{b8 bQ du dv:Ċ (Č×č)}{u:Č}{cd:IF c6}(to:jp R F Y aH (iS M) b8 bQ u cd du dv):cd.length<=M.length:=by
 have h:=KH ((iS M).map (·.1)) (cd.map (·.1)) (List.Pairwise.imp (S:=λa b=>a≠b) (λ{a b} (tX:jj a b=true) e=>by rw[e]at tX;exact cH<|(AT b).symm.trans tX) to.fB) λx az=>by obtain⟨y,a1,e⟩:=dq.mp az;obtain⟨_,m,aN,aw⟩:=to.to y a1;rw[<-e,show y.1=m.1 from aw.1];exact fx (f:=λm:Tm=>m.1) aN
 rw[bV,bV]at h;exact aI h (by unfold iS;rw[bV];exact mB _ _)
def Su(row:B)(N:cX->IF bx):Prop:=(dX λe aV=>row=hX e aV/\∀z,N z=z.map (·.1))\/(dX λes aV=>dJ (row=.tup [.int 12,.tup<|df es,.int aV]) ((N=tP (cb<|es.map (·.2))))<|es.length<=5)\/(dI λcd du dv=>dJ (row=hJ cd (.tup []) du dv 0) (N=xU cd)<|cd.length<=10)
section
variable{n:Č}{Q:B->St->Prop}{p:cJ}{Y aH g2 d5 cD:Č}{dG:ĉ}{b:B}{dY c_:co}{s:St}
theorem GF{u w:Č}{K:cj->aJ->St->Prop}(h:u=cond dG 11 w)(ab:K .go (mF p Y aH dG g2 b d5 cD (.val<|au u) (.val<|au w) c_) s):wS n (.iff (.cmp (.v 13) [(.ne,.ite (.v 7) (.k<|.int 11)<|.v 14)]) [.ret<|.k<|.bool false] []) (mF p Y aH dG g2 b d5 cD (.val<|au u) (.val<|au w) c_) s K:=by
 subst h;induction dG using Bool.casesOn with
 |true=>exact ab
 |false=>exact bj.ir (BF _) ab
theorem Il{S:dy}{u:Č}(T:Rows S.R)(ae:p.ok)(aA:(Y:č)=0\/(Y:č)=1\/(Y:č)=2)(q:∀s,Q (.bool true) s)(h:dG=false->dX λrow N=>dJ (S.R[u]?=some row) (Su row N) (∀K:B->St->Prop,(∀b1:IF ku,(∀c∈b1,ja c.1/\∀x∈N c.1,pL S (n+38) row p Y c.1 c.2 x)->K (.lst<|b1.map oQ) S.st)->bc (n+39) 88 [b] S.st K)):bw (n+39) [.ret<|.or [.v 7,.call 98 [.v 1,.ao (.at (.v 1) 0)<|.v 13,.v 5,.ao (.v 6)<|.k<|.int 0,.call 88 [.v 9]]]] (mF p Y aH dG g2 b d5 cD (.val<|au u) dY c_) S.st (λcM _ ar=>Q cM.val ar):=by
 induction dG using Bool.casesOn with
 |true=>exact q _
 |false=>obtain⟨row,N,G,E,aC⟩:=h rfl;exact ax.of (qh G)<|aC _ λb1 jm=>OJ (n:=n+31) T ae aA E jm<|q _
theorem Uf(g2:Č):∃k:Č,∀s,hn s (.lst [.int 6,.int 7]) (.int<|Int.fmod g2 2)=some (au k):=by
 rw[show(g2:č).fmod 2=((g2%2:Č):č)from(Int.ofNat_fmod g2 2).symm];rcases tI (sg g2 (aG rfl))with e|e<;>rw[e]
 .exact⟨6,λ_=>rfl⟩
 .exact⟨7,λ_=>rfl⟩
theorem Mb{g8:dy}{t o fo dE:Č}{M:IF bO}{ai:IF c6}{cw cW:hw}{eG:B}{b8 bQ:Ċ (Č×č)}{fd:č}(mA:Rows g8.R)(ae:p.good)(aA:(Y:č)=0\/(Y:č)=1\/(Y:č)=2)(di:(aH:č)=0\/(aH:č)=1\/(aH:č)=2)(py:g8.R.length<=500)(mP:gb g8.R d5 p.at)(hG:qz g8 t o fo M ai cw cW dE eG b8 bQ fd)(q:∀s,Q (.bool true) s):bw (n+40) (zq.body.drop 12) (mF p Y aH dG g2 (.bb<|mY t fo M ai cw cW dE) d5 cD .un .un .un) g8.st (λcM _ ar=>Q cM.val ar):=by
 have a7:=hG.f;have KG:=RO hG.props hG.ok;have room:∀{cp k c},fI g8 cp c->Nat.ble (500+c+k) a3=true->cp.R.length+k<=a3:=λaP h=>aI (fL (aI aP.g.len<|fL py _) _)<|aG h;have fz:=hG.oP.trans (EB cw).symm;have kZ:=hG.ag.trans (EB cW).symm;refine bw.rU (λK=>∀u jY,fI g8 jY 500->qy dG jY.R p.at Y aH (iS M) b8 bQ u->K (au u) jY.st) (λK ab=>Gl mA mP aA di hG.src hG.row a7.x a7.f a7.b7 a7.l (room (.refl mA (c:=0)) rfl) λu cp aP cF=>ab u cp aP<|KG▸cF) λu jY q4 cF=>bw.to _ _ (λK h=>h)<|bw.rU (λK=>∀w jx cd du dv,fI jY jx 3000->jp jx.R p.at Y aH (iS M) (be cw) (be cW) w cd du dv->K (au w) jx.st) (λK ab=>PD (S:=jY) q4.g.ok ae.ok aA di hG.ok hG.fB hG.len hG.A3 hG.fG (room q4 rfl) λw cd du dv aa g to=>ab w _ cd du dv (.w g) to) λw jx cd du dv oB to=>?_;have nt:=q4.trans oB;have GW:=hG.ex nt.g nt.D nt.X;have iD:u=cond dG 11 w:=qy.eq (dG:=dG) oB.g.ok a7.tY (cF.bf oB.g) to (λ_=>Iff.rfl) fz kZ;refine bw.to _ _ (λK h=>GF iD h)<|bw.fV (λK=>∀s4 c_,fI jx s4 600->K (mF p Y aH dG g2 (.bb<|mY t fo M ai cw cW dE) d5 cD (.val<|au u) (.val<|au w) c_) s4.st) (λK ab=>?_) λs4 c_ DX=>?_
 .refine Gl (S:=jx) (o:=fo) (ai:=ai.reverse) oB.g.ok (mP.bf nt.g) aA di (.obj GW.zk) GW.zk (λp ae=>a7.x p<|Cn.mp ae) (λp ae=>a7.f p<|Cn.mp ae) (by rw[List.map_reverse,List.Nodup,List.pairwise_reverse];exact a7.b7.imp λh e=>h e.symm) (aI (fQ List.length_reverse) a7.l) (room nt rfl) λiu mq m' XH=>?_;refine bj.ir (by rw[XH.eq m'.g.ok a7.tY (to.bf m'.g) (λm=>by rw[Ve,KG]) fz kZ,<-iD];exact BF _)<|OL (S:=mq) m'.g.ok a7.x a7.l (room (nt.trans m') rfl) λnr c_ CL=>?_;obtain⟨k,aE⟩:=Uf g2;exact ax.of (aE _)<|yb (s:=nr.st) ⟨rfl,Au (S:=nr.x<|nr.X++[gr.ct<|.idx k<|.tup [.int 6,.int 0]]) CL.g.ok (f1.new (S:=nr)) (λ_ _ e=>nomatch e) (show nr.R.length+1<=a3 from room ((nt.trans m').trans CL) rfl) λPT MF=>ab _ _<|((m'.trans CL).trans (⟨MF,rfl,_,rfl⟩:fI nr ((nr.x<|nr.X++[gr.ct<|.idx k<|.tup [.int 6,.int 0]]).w PT) 1)).le<|aG rfl⟩
 .have Ek:=to.bf DX.g;have nk:=aI Ek.le<|aI hG.len (aG rfl:4<=10);exact Il (n:=n+1) DX.g.ok ae.ok aA q λh=>⟨_,_,by rw[iD,h];exact Ek.row,.inr<|.inr ⟨cd,du,dv,rfl,rfl,nk⟩,λK ab=>M4 hG.ok a7.tY hG.len λb1 jm=>ab b1 λc aq=>⟨(jm c aq).ok,XW DX.g.ok ae aA hG.ok nk Ek<|jm c aq⟩⟩
end
theorem hf.inj{R:IF B}(T:Rows R){b eA:Č}{ah:IF g9}{es:IF (Č×č)}(h:hf b R es ah):∀{cz:IF (Č×č)},hf eA R cz ah->es=cz:=by
 induction h with
 |nil=>exact λh=>by cases h;rfl
 |cons x _ ap=>exact λh=>by cases h with|cons y h=>rw[ap h,m9 (x.2.1.inj T y.2.1)<|x.1.trans y.1.symm]
theorem Ld{t:Č}{F:bv->IF aF}{cD nm Y aH aV:č}{ch:IF (Č×č)}{ay:IF č}(T:Rows S.R)(h:gb S.R t F)(aA:Y=0\/Y=1\/Y=2)(di:aH=0\/aH=1\/aH=2)(aw:ch.map (·.2)=ay)(ae:ay∈he)(E:ay≠[2])(aq:S.R.length+250<=a3)(q:∀u es aa,a9 S.R aa 250->hf 15 aa es (jT Y F ay)->aa[u]?=some (.tup [.int 12,.tup<|df es,.int<|gW aH aV])->Q (au u) (S.w aa).st):bc (n+19) 60 [.ref 10,fT cD nm t Y aH,.tup [.int 12,.tup<|df ch,.int aV]] S.st Q:=by
 have aj:ch.length=ay.length:=by rw[<-aw,bV]
 have ag:iH (λm=>decide<|m∈[(0:č)]) ((mx Y F (cb ay) 0 ay).map (·.2)) ch.length=pc Y ay:=by rw[CB,aj];rfl
 refine V0 (M:=nU Y ay) T h aA di (aI (fQ aj)<|aI (uB ay ae)<|aG rfl) (by rw[aw];exact Hx ay ae) aq (by rw[aw]) (by rw[ag];exact(Ff Y F ay).symm) ((Hw aA ae).2.2 E) (by rw[CB,aj];exact((l0 _ _).mp<|Mu aA ae).imp fe fe) ?_;rw[ag];exact q
theorem Mw{t src:Č}{F:bv->IF aF}{cD Y aH aV:č}{ch:IF (Č×č)}{ay:IF č}(T:Rows S.R)(h:gb S.R t F)(aA:Y=0\/Y=1\/Y=2)(di:aH=0\/aH=1\/aH=2)(aK:S.R[src]?=some (.tup [.int 12,.tup<|df ch,.int aV]))(aw:ch.map (·.2)=ay)(ae:ay∈he)(E:ay≠[2])(aq:S.R.length+250<=a3)(q:∀u es aa,a9 S.R aa 250->hf 15 aa es (jT Y F ay)->aa[u]?=some (.tup [.int 12,.tup<|df es,.int<|gW aH aV])->Q (au u) (S.w aa).st):bc (n+20) 59 [.ref 10,fT cD (-1) t Y aH,au src] S.st Q:=by k_go;lk;exact uq aK (.inr<|.inr<|.inr<|.inl rfl)<|Ld T h aA di aw ae E aq q
theorem QU{p:cJ}{Y aH:č}{t aV:Č}{es:hp}(T:Rows S.R)(ae:p.ok)(aA:Y=0\/Y=1\/Y=2)(di:aH=0\/aH=1\/aH=2)(nQ:es.map (·.2)∈he)(ou:aV<2)(aq:S.R.length+4000<=a3)(f':es.map (·.2)=[2]->∀u x aa,a9 S.R aa 4000->d3.Ty aa x (fK Y<|p.at .N)->aa[u]?=some (hX x<|gW aH aV)->Q (au u) (S.w aa).st)(q':es.map (·.2)≠[2]->∀u cz aa,a9 S.R aa 4000->hf 15 aa cz (jT Y p.at<|es.map (·.2))->aa[u]?=some (.tup [.int 12,.tup<|df cz,.int<|gW aH aV])->Q (au u) (S.w aa).st):bc (n+10) 86 [.ref 1,.int 16,p.aW,.tup [.int Y,.int aH],.bb<|kx t es aV] S.st Q:=by k_go;exact Y8 T ae aA di nQ ou aq f' q'
def ox(R:IF B)(p:cJ)(Y aH:č)(aV:Č)(ay:IF č)(u:Č):Prop:=(ay=[2]/\∃x,d3.Ty R x (fK Y<|p.at .N)/\R[u]?=some (hX x<|gW aH aV))\/(ay≠[2]/\∃es,hf 15 R es (jT Y p.at ay)/\R[u]?=some (.tup [.int 12,.tup<|df es,.int<|gW aH aV]))
theorem ox.bf{R aa:IF B}{p:cJ}{Y aH:č}{aV:Č}{ay:IF č}{u c:Č}(h:ox R p Y aH aV ay u)(g:a9 R aa c):ox aa p Y aH aV ay u:=by
 rcases h with⟨e,x,G,E⟩|⟨e,es,G,E⟩
 .exact .inl ⟨e,x,G.bf g,g.at E⟩
 .exact .inr ⟨e,es,G.bf g,g.at E⟩
theorem ox.inj{R:IF B}(T:Rows R){p:cJ}{Y aH:č}{aV:Č}{ay:IF č}{u w:Č}(h:ox R p Y aH aV ay u)(aR:ox R p Y aH aV ay w):u=w:=by
 rcases h with⟨e,x,G,E⟩|⟨e,es,G,E⟩<;>rcases aR with⟨bz,eJ,l4,l1⟩|⟨bz,cz,l4,l1⟩
 .rw[G.inj T l4]at E;exact T.inj E l1
 .exact absurd e bz
 .exact absurd bz e
 .rw[G.inj T l4]at E;exact T.inj E l1
theorem V6{es:hp}(bg:∀e∈es,Drawn e.1):∀r∈kC es,u8 (es.map (·.2)) r:=λr bn=>⟨λe a6=>by obtain⟨x,az,h⟩:=L6 es r bn e a6;rw[h];exact(bg x az).len,by rw[<-XV];exact fx (f:=λr:hC=>r.map (·.2)) bn⟩
def JA(dG:ĉ)(R:IF B)(p:cJ)(Y aH:č)(aV:Č)(ay:IF č)(u:Č):Prop:=cond dG (u=11)<|ox R p Y aH aV ay u
section
variable{n:Č}{Q:B->St->Prop}{p:cJ}{Y aH g2 d5 cD t aV:Č}{dG:ĉ}{es:hp}
theorem Qh{S:dy}{dG:ĉ}(T:Rows S.R)(bk:gb S.R d5 p.at)(aA:(Y:č)=0\/(Y:č)=1\/(Y:č)=2)(di:(aH:č)=0\/(aH:č)=1\/(aH:č)=2)(h:q7 S.R t es aV)(aq:S.R.length+250<=a3)(q:∀u cp,fI S cp 250->JA dG cp.R p Y aH aV (es.map (·.2)) u->Q (au u) cp.st):bc (n+20) 59 [.ref 10,fT cD (yo dG) d5 Y aH,au t] S.st Q:=by
 by_cases c:es.map (·.2)=[2]
 .obtain⟨e,a6⟩:=h.arr c;induction dG using Bool.casesOn with
  |true=>exact Bi (nm:=17) a6 (.inr<|.inr<|.inl rfl)<|q 11 S (.refl T) rfl
  |false=>exact WH T bk aA di a6 (aI (gu (aG rfl) _) aq) λu x aa g ty iD=>q u _ (.w<|g.le<|aG rfl)<|.inl ⟨c,x,ty,iD⟩
 .obtain⟨ch,aw,a6⟩:=h.tup c;induction dG using Bool.casesOn with
  |true=>exact Bi (nm:=17) a6 (.inr<|.inr<|.inr<|.inl rfl)<|q 11 S (.refl T) rfl
  |false=>exact Mw T bk aA di a6 aw h.pat c aq λu cz aa g cf iD=>q u _ (.w g)<|.inr ⟨c,cz,cf,iD⟩
theorem Ï{g8:dy}(mA:Rows g8.R)(ae:p.good)(aA:(Y:č)=0\/(Y:č)=1\/(Y:č)=2)(di:(aH:č)=0\/(aH:č)=1\/(aH:č)=2)(py:g8.R.length<=500)(mP:gb g8.R d5 p.at)(lE:q7 g8.R t es aV)(q:∀s,Q (.bool true) s):bw (n+40) (zq.body.drop 12) (mF p Y aH dG g2 (.bb<|kx t es aV) d5 cD .un .un .un) g8.st (λcM _ ar=>Q cM.val ar):=by
 have i':es.length<=5:=by have:=uB _ lE.pat;rw[bV]at this;exact this
 have room:∀{cp k c},fI g8 cp c->Nat.ble (500+c+k) a3=true->cp.R.length+k<=a3:=λaP h=>aI (fL (aI aP.g.len<|fL py _) _)<|aG h;refine bw.rU (λK=>∀u jY,fI g8 jY 250->JA dG jY.R p Y aH aV (es.map (·.2)) u->K (au u) jY.st) (λK ab=>Qh mA mP aA di lE (room (.refl mA (c:=0)) rfl) ab) λu jY q4 cF=>bw.to _ _ (λK h=>h)<|bw.rU (λK=>∀w jx,fI jY jx 4000->ox jx.R p Y aH aV (es.map (·.2)) w->K (au w) jx.st) (λK ab=>QU (S:=jY) q4.g.ok ae.ok aA di lE.pat lE.ou (room q4 rfl) (λc w x aa g ty e=>ab w _ (.w g)<|.inl ⟨c,x,ty,e⟩) λc w cz aa g cf e=>ab w _ (.w g)<|.inr ⟨c,cz,cf,e⟩) λw jx oB iV=>?_;have nt:=q4.trans oB;have iD:u=cond dG 11 w:=by
  induction dG using Bool.casesOn with
  |true=>exact cF
  |false=>exact(ox.bf cF oB.g).inj oB.g.ok iV
 refine bw.to _ _ (λK h=>GF iD h)<|bw.fV (λK=>∀mq c_,fI jx mq 250->K (mF p Y aH dG g2 (.bb<|kx t es aV) d5 cD (.val<|au u) (.val<|au w) c_) mq.st) (λK ab=>?_) λmq c_ m'=>?_
 .by_cases c:es.map (·.2)=[2]
  .have aw:(!decide (es.map (·.2)=[2]))=false:=by rw[dK c];rfl
   exact bj.ir aw<|bj.ir aw<|ab jx _<|.refl oB.g.ok
  .obtain⟨ch,aw,a6⟩:=(lE.bf nt.g).tup c;refine bj.mh (by rw[eC c];rfl) ?_;lk;exact Ld (S:=jx) oB.g.ok (mP.bf nt.g) aA di aw lE.pat c (room nt rfl) λv cz aa g cf e=>bj.ir (by rw[ox.inj g.ok (.inr ⟨c,cz,cf,e⟩)<|iV.bf g];exact BF _)<|ab _ _<|.w g
 .refine Il (n:=n+1) m'.g.ok ae.ok aA q λh=>?_;replace iD:u=w:=by rw[iD,h];rfl
  have Dp:=V6 lE.uv;have b1:∀{N:cX->IF bx} {row:B},(∀r∈kC es,∀x∈N (gd 0 r),pL mq (n+39) row p Y (gd 0 r) [91] x)->∀K:B->St->Prop,(∀b1:IF ku,(∀c∈b1,ja c.1/\∀x∈N c.1,pL mq (n+39) row p Y c.1 c.2 x)->K (.lst<|b1.map oQ) mq.st)->bc (n+40) 88 [.bb<|kx t es aV] mq.st K:=λ{N row} dc K ab=>MV (n:=n+38) i' (ab _ λc aq=>by obtain⟨r,bn,e⟩:=dq.mp aq;rw[<-e];exact⟨(Dp r bn).slt lE.pat,dc r bn⟩);rcases iV.bf m'.g with⟨c,x,ty,ro⟩|⟨c,cz,cf,ro⟩
  .exact⟨_,λz=>z.map (·.1),iD▸ro,.inl ⟨x,_,rfl,λ_=>rfl⟩,b1 λr bn=>Rq m'.g.ok ae aA ty<|c▸Dp r bn⟩
  .exact⟨_,tP<|cb<|cz.map (·.2),iD▸ro,.inr<|.inl ⟨cz,_,rfl,rfl,by rw[cf.len,jT,uP,vG,bV];exact i'⟩,b1 λr bn=>QH m'.g.ok ae aA lE.pat cf<|Dp r bn⟩
end
theorem LU{n:Č}{Q:B->St->Prop}{g8:dy}{p:cJ}{Y aH g2 d5 cD:Č}{dG:ĉ}{t:Č}{st:ĉ}(mA:Rows g8.R)(ae:p.good)(aA:(Y:č)=0\/(Y:č)=1\/(Y:č)=2)(di:(aH:č)=0\/(aH:č)=1\/(aH:č)=2)(py:g8.R.length<=500)(mP:gb g8.R d5 p.at)(A0:tR g8.R t st)(q:∀s,Q (.bool true) s):bw (n+40) (zq.body.drop 12) (mF p Y aH dG g2 (.bb<|xp t st) d5 cD .un .un .un) g8.st (λcM _ ar=>Q cM.val ar):=by
 refine bw.rU (λK=>∀s,K (.int<|if st=true then(t:č)else 11) s) (λK ab=>?_) λs=>?_
 .rcases A0 with⟨rfl,h⟩|⟨rfl,h⟩
  .exact Zp mA h<|ab _
  .exact Un mA mP aA di (by induction dG using Bool.casesOn with|true=>exact .inr rfl|false=>exact .inl rfl) h (aI (fL py _)<|aG rfl) λaa eg g=>ab _
 .induction st using Bool.casesOn with
  |true=>have fg:=q s;rw[<-show decide ((t:č)=t)=true from dK rfl]at fg;exact fg
  |false=>exact q s
theorem SE{n:Č}{nums:IF B}{Q:B->St->Prop}(dc:oE nums)(q:∀s,Q (.bool true) s):bc (n+41) 99 [.ref 0] [.ls [.int 0,.lst nums]] Q:=by
 have Bk:=rm;k_go;refine Zz (iV:=List.replicate 11 .un)<|Qn (S:=mm nums) dc (aG rfl) λp d ae (bg:d<=14)=>?_;have t_:d+1<=15:=c' bg;have xM:d+2<=16:=c' t_;have Jm:d+3<=17:=c' xM;have D3:d+4<=18:=c' Jm;refine hx (S:=(mm nums).go d) dc (aI bg<|aG rfl) (by decide) λY NR=>hx (S:=(mm nums).go<|d+1) dc (aI t_<|aG rfl) (by decide) λaH WU=>hx (S:=(mm nums).go<|d+2) dc (aI xM<|aG rfl) (by decide) λv _=>hx (S:=(mm nums).go<|d+3) dc (aI Jm<|aG rfl) (by decide) λg2 õ=>?_;have aA:=Fm NR;have di:=Fm WU;refine bw.zQ 9 (λK=>∀(S:dy) w,wz S w->Rows S.R->S.R.length<=300->K (.val w) S.st) (λK ab=>?_)<|λj2 TU IZ Gh Jd=>?_
 .have g':hl.length+200<=a3:=aG rfl;refine bj.el (λba=>?_) λba=>?_
  .exact Wl (S:=(mm nums).go<|d+4) Bk dc (aI D3<|aG rfl) rfl g' λcp t o fo M ai cw cW dE eG b8 bQ fd hG g ù=>⟨rfl,_,rfl,ab cp _ (.inl ⟨t,o,fo,M,ai,cw,cW,dE,eG,b8,bQ,fd,rfl,hG⟩) g.ok<|aI g.len<|aG rfl⟩
  .refine bj.el (λfm=>?_) λfm=>?_
   .exact Qp (S:=(mm nums).go<|d+4) Bk dc (aI D3<|aG rfl) g' λt es aV aa mE lE g=>⟨rfl,_,rfl,ab ((((mm nums).go<|d+4).go mE).w aa) _ (.inr<|.inl ⟨t,es,aV,rfl,lE⟩) g.ok<|aI g.len<|aG rfl⟩
   .exact RJ (S:=(mm nums).go<|d+4) Bk dc (aI D3<|aG rfl) (aG rfl) λt st aa mE cr g=>⟨rfl,_,rfl,ab ((((mm nums).go<|d+4).go mE).w aa) _ (.inr<|.inr ⟨t,st,rfl,cr⟩) g.ok<|aI g.len<|aG rfl⟩
 have room:∀{k},Nat.ble (300+k) a3=true->j2.R.length+k<=a3:=λ{k} e=>aI (fL Jd k)<|aG e;refine bw.zQ 10 (λK=>∀d5 bu,a9 j2.R bu 100->gb bu d5 p.at->K (.val<|au d5) (j2.w bu).st) (λK ab=>RG (S:=j2) Gh ae (room rfl) λd5 bu bh CT=>⟨rfl,_,rfl,ab d5 bu bh CT⟩) λd5 bu bh CT=>bw.zQ 11 (λK=>∀(k:Č) dZ,a9 bu dZ 1->K (.val<|au k) (j2.w dZ).st) (λK ab=>e6 (S:=j2.w bu) bh.ok rfl (bh.room (room (k:=200) rfl)<|aG rfl) λcD dZ cL _=>⟨rfl,_,rfl,ab cD dZ cL⟩) λcD dZ cL=>?_;have vP:fI j2 (j2.w dZ) 101:=.w<|bh.trans cL;have mA:Rows (j2.w dZ).R:=cL.ok;have py:(j2.w dZ).R.length<=500:=aI vP.g.len<|aI (fL Jd 101)<|aG rfl;have mP:=CT.bf cL;have ZY:wz (j2.w dZ) TU:=IZ.ex vP;have ú:dZ[17]?=some (.tup [.int 10,.int 1]):=cL.ok.at rfl;generalize decide ((v:č)=4)=dG;refine bw.zQ 12 (λK=>K (.val<|fT cD (yo dG) d5 Y aH) (j2.w dZ).st) (λK ab=>?_) ?_
 .induction dG with
  |true=>lk;exact⟨rfl,_,rfl,ab⟩
  |false=>lk;exact⟨rfl,_,rfl,ab⟩
 clear IZ vP Gh;rcases ZY with⟨t,o,fo,M,ai,cw,cW,dE,eG,b8,bQ,fd,rfl,hG⟩|⟨t,es,aV,rfl,lE⟩|⟨t,st,rfl,A0⟩
 .exact Mb mA ae aA di py mP hG q
 .exact Ï mA ae aA di py mP lE q
 .exact LU mA ae aA di py mP A0 q
theorem NW{n:Č}{l:IF č}{Q:B->St->Prop}(q:∀s,Q (.bool true) s):bc (n+43) 100 [.lst<|l.map .int] [] Q:=by
 have fin:∀(nums:IF B),oE nums->∀sI Hz,bw (n+42) [.ret<|.call 99 [.box<|.lst [.k<|.int 0,.v 1]]] [sI,.val<|.lst nums,Hz] [] (λcM _ ar=>Q cM.val ar):=λnums dc sI Hz=>SE dc q;have Fo:∀k:IF č,k≠[]->k.length<=48->oE (k.map .int):=λk G E=>⟨λe=>G<|List.map_eq_nil_iff.mp e,λv af=>by obtain⟨i,_,rfl⟩:=dq.mp af;clear af;exact⟨i,rfl⟩,by rw[bV];exact fY ‹_›⟩;k_go;refine dj.oR (x:=.lst<|(l.take 48).map .int) rfl (λ_ h=>by rw[List.map_take]at h;exact h)<|ff.mp (f:=.int) (all:=l.take 48) rfl (λdone K=>K (done.map λi=>B.int<|Int.fmod i 99991) []) (λdone i a' e K ab=>?_) ?_ λK h=>h
 .rw[cZ]at ab;exact eR.mk ab
 have e:(l.take 48).map (λi=>B.int<|Int.fmod i 99991)=((l.take 48).map λi=>Int.fmod i 99991).map .int:=by rw[f2];rfl
 rw[e];have aN:((l.take 48).map λi=>Int.fmod i 99991).length<=48:=by rw[bV,zw];exact BQ _ _
 generalize(l.take 48).map (λi=>Int.fmod i 99991)=m at aN;by_cases aU:m=[]
 .subst aU;exact fin ([0,2,0,1,0,0,0,0,0,5,1,2,1,0,0,4,5,38,1,0,3,1].map .int) (Fo _ (by simp)<|by simp) _ _
 .lk;rw[bV];exact bj.fp (λe=>aU<|zV.mp<|o_.mp e)<|fin (m.map .int) (Fo m aU aN) _ _
theorem R8(l:IF č):bc 100 100 [.lst<|l.map .int] [] λv s=>v=.bool true:=NW (n:=57) λ_=>rfl
end
open PySem PySem.W PyProof.Rows PySem.Calls PySem.SeqAt PySem.Spec
set_option tactic.hygienic true
noncomputable abbrev eE:Program:=PySem.Challenge.pw_up0039_01
def body:IF Stmt:=eE.main.body
def aL (i:Č):Stmt:=(body.drop i).headD<|.Pass ⟨0,0,0,0⟩
def gD:Stmt->IF Stmt
 |.ClassDef _ _ _ b _ _ _ _ _ _ _=>b
 |_=>[]
def dx (i j:Č):Stmt:=((gD<|aL i).drop j).headD<|.Pass ⟨0,0,0,0⟩
def nm:Stmt->Str
 |.FunctionDef n _ _ _ _ _ _ _ _ _=>n
 |_=>Str.empty
def lx:Stmt->Arguments
 |.FunctionDef _ a _ _ _ _ _ _ _ _=>a
 |_=>⟨[],[],none,[],[],none,[]⟩
def p2:Stmt->IF Stmt
 |.FunctionDef _ _ b _ _ _ _ _ _ _=>b
 |_=>[]
def b8:Stmt->Scope
 |.FunctionDef _ _ _ _ _ _ s _ _ _=>s
 |_=>eE.main.scope
def g6 (a n:Č):IF Stmt:=(body.drop a).take n
noncomputable abbrev N:Ĉ:=.none
noncomputable abbrev TT:Ĉ:=.bool true
noncomputable abbrev Qa:Ĉ:=.bool false
noncomputable abbrev I (i t:Č):Ĉ:=.int (Int.ofNat i) t
noncomputable abbrev dz (i t:Č):Ĉ:=.int (Int.negSucc i) t
noncomputable abbrev S (s:String) (t:Č):Ĉ:=.str (Str.ofString s) t
noncomputable abbrev ah (t:Č):Ĉ:=.str (Str.ofString "/claim/cut.py") t
noncomputable abbrev T (n:String):Ĉ:=.type n
noncomputable abbrev U (n:String):Ĉ:=.builtin n
noncomputable abbrev R (a:Č):Ĉ:=.ref a
noncomputable abbrev O (P:Params) (x:String) (t:Č) (v:Ĉ):DictEntry:=⟨PyData.keyHash P<|Str.ofString x,.str (Str.ofString x) t,v⟩
noncomputable abbrev Q (c:Ĉ) (l:IF Ĉ):Obj:=⟨c,none,.seq ⟨l⟩ 0,#[]⟩
noncomputable abbrev cR (c:Ĉ) (l:IF Ĉ):Obj:=⟨c,none,.fields ⟨l⟩,#[]⟩
noncomputable abbrev Ck (x:Stmt) (a_:String) (nO yc c:Ĉ):Obj:=⟨.type "function",none,.func {name:=nm x,qualname:=Str.ofString a_,params:=lx x,body:=.stmts<|p2 x,scope:=b8 x,globals:=3,closure:=[],defaults:=nO,kwdefaults:=.none,doc:=.none,pyModule:=yc,annotations:=none,code:=c,closureTuple:=.none,builtins:=0},#[]⟩
noncomputable abbrev Fn (x:Stmt) (a_:String):Obj:=⟨.none,none,.func {name:=nm x,qualname:=Str.ofString a_,params:=lx x,body:=.stmts<|p2 x,scope:=b8 x,globals:=0,closure:=[],defaults:=.none,kwdefaults:=.none,doc:=.none,pyModule:=.none,annotations:=none,code:=.none,closureTuple:=.none,builtins:=0},#[]⟩
def hz:Obj:=Q (T "tuple") []
noncomputable abbrev a_ (l:IF Ĉ):Obj:=Q (T "tuple") l
def iZ:Obj:=cR (T "builtin_function_or_method") [U "type.__prepare__",T "type"]
noncomputable abbrev nG (r:Ĉ):Obj:=cR (T "builtin_function_or_method") [U "object.__init_subclass__",r]
noncomputable abbrev mR (l:IF Ĉ):Obj:=cR (T "getset_descriptor") l
noncomputable abbrev oj (r:Č):Obj:=cR (T "super") [R r,R r,R r]
noncomputable abbrev jz (a b:Č) (m:Ĉ):Obj:=⟨T "frame",none,.plain,#[some<|R a,some<|R 3,some<|R b,none,some m,none,some<|R 0]⟩
noncomputable abbrev hM (l:IF DictEntry) (n:Č):Obj:=⟨T "dict",none,.dict ⟨l⟩ n,#[]⟩
noncomputable abbrev eQ (n:String) (b m:IF Ĉ) (ns:Č) (mX:IF Ĉ) (l:IF (Ċ Ĉ)):Obj:=⟨T "type",none,.cls {name:=n,bases:=b,mro:=m,ns:=ns,qualname:=n,hasDict:=true,slotNames:=[],subclasses:=mX,abstract:=false,collection:=none,hasDel:=false},⟨l⟩⟩
def vh:Č->IF String->IF Ĉ
 |_,[]=>[]
 |t,s::r=>S s t::vh (t+1) r
noncomputable abbrev c8 (t:Č) (l:IF String):Obj:=Q (T "tuple")<|vh t l
noncomputable abbrev DJ (n a_:String) (t l a f r:Č) (b x y hz:Ĉ) (u:Č):Obj:=cR (T "code") [S n t,S a_<|t+1,ah<|t+2,I l 0,I a 0,I 0 0,I 0 0,I f 0,R r,b,I 181 0,R<|r+1,N,x,y,hz,I u 0,I l 0,ah<|u+1]
noncomputable abbrev m2 (n:String) (t l r u:Č):Obj:=DJ n n t l 0 0 r Qa N N N u
def e0 (r:Č) (x:Stmt) (p n:String) (t l a:Č) (vs:IF String) (nO m:Ĉ):IF Obj:=
 match vs with
 |[]=>[hz,cR N [],Fn x p,DJ n p t l a 3 r TT N N (R<|r+2)<|t+3,Ck x p nO m<|R<|r+3]
 |v::w=>[hz,cR N [],c8 (t+3)<|v::w,hz,Fn x p,DJ n p t l a 3 r TT (R<|r+2) (R<|r+3) (R<|r+4)<|t+3+(v::w).length,Ck x p nO m<|R<|r+5]
noncomputable abbrev b5 (r:Č) (x:Stmt) (n:String) (t l a:Č) (vs:IF String) (nO m:Ĉ):IF Obj:=e0 r x n n t l a vs nO m
noncomputable abbrev Hq:Ĉ:=S "__main__" 164
noncomputable abbrev gg:Ĉ:=S "kindkeep.diags" 194
noncomputable abbrev ef:Ĉ:=S "kindkeep.types" 283
noncomputable abbrev Lq:Ĉ:=S "kindkeep.shapes" 764
noncomputable abbrev fi:Ĉ:=S "kindkeep.hosts" 779
noncomputable abbrev pE:Ĉ:=S "kindkeep.kindtpl" 1055
noncomputable abbrev Do:Ĉ:=S "kindkeep.kindkeys" 1140
noncomputable abbrev f4:Ĉ:=S "kindkeep.kindmap" 1149
noncomputable abbrev yf:Ĉ:=S "kindkeep.kinds" 1421
noncomputable abbrev oA:Ĉ:=S "kindkeep.plainput" 1453
noncomputable abbrev nF:Ĉ:=S "kindkeep.keyhost" 1519
noncomputable abbrev fA:Ĉ:=S "law_up0039_01" 1594
def Wr (P:Params):IF DictEntry:=[O P "_wall" 193<|R 21,O P "KeepError" 226<|R 39,O P "TooDeep" 255<|R 60,O P "HostFault" 282<|R 80,O P "Y_KEY" 286<|I 1 285,O P "Y_BOOL" 288<|I 2 287,O P "Y_STR" 290<|I 3 289,O P "Y_NUM" 292<|I 4 291,O P "Y_ENUM" 294<|I 5 293,O P "Y_UNION" 296<|I 6 295,O P "Y_INTER" 298<|I 7 297,O P "Y_OBJ" 300<|I 8 299,O P "Y_REF" 302<|I 9 301,O P "Y_PARAM" 304<|I 10 303,O P "Y_ARRAY" 306<|I 11 305,O P "Y_TUPLE" 308<|I 12 307,O P "Y_SIG" 310<|I 13 309,O P "Y_KEYOF" 312<|I 14 311,O P "Y_INDEX" 314<|I 15 313,O P "Y_COND" 316<|I 16 315,O P "Y_MAPPED" 318<|I 17 317,O P "Y_TPL" 320<|I 18 319,O P "Y_ALIAS" 322<|I 19 321,O P "ANY" 324<|I 0 323,O P "UNKNOWN" 326<|I 1 325,O P "NEVER" 328<|I 2 327,O P "VOID" 330<|I 3 329,O P "UNDEF" 332<|I 4 331,O P "NULLT" 334<|I 5 333,O P "STRING" 336<|I 6 335,O P "NUMBER" 338<|I 7 337,O P "FALSE_T" 340<|I 8 339,O P "TRUE_T" 342<|I 9 341,O P "OBJECTT" 344<|I 10 343,O P "EMPTY" 346<|I 11 345,O P "BOOLEAN" 348<|I 12 347,O P "ERR" 350<|I 13 349,O P "FRESH_F" 352<|I 14 351,O P "FRESH_T" 354<|I 15 353,O P "P_OPT" 356<|I 1 355,O P "P_READONLY" 358<|I 2 357,O P "P_METHOD" 360<|I 4 359,O P "P_PRIVATE" 362<|I 8 361,O P "P_PROTECTED" 364<|I 16 363,O P "P_GETONLY" 366<|I 32 365,O P "P_ACCESS" 368<|I 64 367,O P "E_NEED" 370<|I 0 369,O P "E_OPT" 372<|I 1 371,O P "E_REST" 374<|I 2 373,O P "E_SPREAD" 376<|I 3 375,O P "D_INTERFACE" 378<|I 2 377,O P "FAM_OTHER" 380<|I 0 379,O P "FAM_STR" 382<|I 1 381,O P "FAM_NUM" 384<|I 2 383,O P "FAM_BOOL" 386<|I 3 385,O P "FAM_NULL" 388<|I 4 387,O P "FAM_UNDEF" 390<|I 5 389,O P "FAM_VOID" 392<|I 6 391,O P "FAM_OBJ" 394<|I 7 393,O P "MAX_UNION" 396<|I 400 395,O P "FIRST_ROWS" 418<|R 105,O P "MARKED_ROWS" 419<|R 106,O P "OBJECT_ROWS" 420<|R 107,O P "KEY_FAMILIES" 427<|R 108,O P "TypeTable" 482<|R 139,O P "Decl" 527<|R 160,O P "kind_of" 535<|R 171,O P "str_type" 545<|R 179,O P "array_type" 555<|R 187,O P "last_mark" 565<|R 194,O P "needed_to_last" 578<|R 201,O P "one_rest" 592<|R 208,O P "tuple_type" 599<|R 214,O P "sorted_props" 605<|R 219,O P "obj_type" 619<|R 231,O P "sig_type" 632<|R 240,O P "func_type" 640<|R 247,O P "new_param" 655<|R 255,O P "new_decl" 665<|R 262,O P "parts_of" 674<|R 269,O P "whole_of_row" 682<|R 276,O P "regular_twin" 691<|R 283,O P "join_bools" 698<|R 290,O P "stays_beside" 707<|R 297,O P "top_of" 715<|R 304,O P "union" 721<|R 309,O P "without" 727<|R 314,O P "add_undef" 735<|R 321,O P "common_family" 741<|R 326,O P "meet_family" 752<|R 333,O P "family" 763<|R 340,O P "MOST_PLAIN" 767<|I 40 766,O P "PLAIN_ROWS" 768<|R 341,O P "plain_shape" 778<|R 348,O P "MOST_ROUNDS" 782<|I 200 781,O P "MOST_SHAPES" 784<|I 40 783,O P "Thin" 970<|R 491,O P "RefHost" 1012<|R 526,O P "told_places" 1020<|R 535,O P "find_prop" 1029<|R 542,O P "is_digits" 1035<|R 547,O P "prop_row" 1046<|R 554,O P "read_type" 1054<|R 561,O P "MOST_CROSSED" 1058<|I 200 1057,O P "OPEN_KINDS" 1059<|R 562,O P "is_open" 1071<|R 569,O P "unit_word" 1080<|R 576,O P "key_text" 1088<|R 583,O P "glue" 1096<|R 590,O P "hole_pieces" 1109<|R 597,O P "cross_holes" 1115<|R 602,O P "one_template" 1127<|R 609,O P "tpl_kind" 1139<|R 616,O P "is_public" 1148<|R 623,O P "Made" 1213<|R 659,O P "is_late_alias" 1219<|R 668,O P "undefless" 1228<|R 675,O P "optional_form" 1236<|R 682,O P "readonly_after" 1244<|R 689,O P "template_at" 1253<|R 696,O P "member_opt" 1261<|R 703,O P "member_kind" 1274<|R 710,O P "kindmap_member_flags" 1286<|R 717,O P "names_for" 1296<|R 724,O P "Keyed" 1329<|R 741,O P "put_member" 1348<|R 752,O P "build_members" 1362<|R 759,O P "shape_entries" 1374<|R 766,O P "map_array" 1387<|R 773,O P "spare_elem" 1396<|R 780,O P "map_elem" 1412<|R 787,O P "is_primitive" 1420<|R 794,O P "known_part" 1428<|R 799,O P "bound_tuple" 1442<|R 806,O P "lists_have" 1452<|R 813,O P "put_each" 1460<|R 818,O P "put_cell" 1469<|R 825,O P "put_shape" 1475<|R 830,O P "plainput_put_elems" 1481<|R 835,O P "put_call" 1487<|R 840,O P "without_own" 1497<|R 847,O P "put_late" 1508<|R 854,O P "plain_put" 1518<|R 861,O P "table_read" 1531<|R 868,O P "put_name" 1539<|R 875,O P "NameHost" 1593<|R 913,O P "_law_undef" 1598<|R 916,O P "_law_texts" 1601<|R 917,O P "_law_numbers" 1604<|R 918,O P "_law_take" 1613<|R 925,O P "_law_kind" 1624<|R 932,O P "_law_type" 1630<|R 937,O P "_law_atom" 1641<|R 944,O P "_law_back" 1647<|R 949,O P "_law_back_one" 1656<|R 956,O P "_law_plan" 1667<|R 963,O P "_law_at" 1680<|R 970,O P "_law_template" 1686<|R 975,O P "_law_object" 1692<|R 980,O P "_law_list" 1698<|R 985,O P "_law_lone" 1709<|R 992,O P "_law_slot" 1715<|R 997,O P "_law_told" 1740<|R 1004,O P "_law_told_list" 1746<|R 1009,O P "_law_choices" 1752<|R 1014,O P "_law_rows" 1758<|R 1019,O P "_law_numbered" 1767<|R 1026,O P "_law_own" 1773<|R 1031,O P "_law_free" 1784<|R 1038,O P "_law_after" 1799<|R 1045,O P "_law_digits" 1805<|R 1050,O P "_law_held" 1811<|R 1055,O P "_law_lies" 1817<|R 1060,O P "_law_rooms" 1823<|R 1065,O P "_law_sound" 1829<|R 1070,O P "_law_round" 1851<|R 1077,O P "law" 1857<|R 1082]
def WW:IF Ĉ:=[I 1 0,I 0 0,R 20,I 5 0,I 0 0,R 27,I 10 0,I 0 0,R 48,I 15 0,I 0 0,R 68,I 81 0,I 0 0,R 114,I 107 0,I 0 0,R 149,I 125 0,I 0 0,R 170,I 127 0,I 0 0,R 178,I 129 0,I 0 0,R 186,I 131 0,I 0 0,R 193,I 137 0,I 0 0,R 200,I 147 0,I 0 0,R 207,I 158 0,I 0 0,R 213,I 166 0,I 0 0,R 218,I 171 0,I 0 0,R 230,I 173 0,I 0 0,R 239,I 175 0,I 0 0,R 246,I 177 0,I 0 0,R 254,I 183 0,I 0 0,R 261,I 187 0,I 0 0,R 268,I 194 0,I 0 0,R 275,I 203 0,I 0 0,R 282,I 208 0,I 0 0,R 289,I 212 0,I 0 0,R 296,I 216 0,I 0 0,R 303,I 221 0,I 0 0,R 308,I 238 0,I 0 0,R 313,I 240 0,I 0 0,R 320,I 242 0,I 0 0,R 325,I 246 0,I 0 0,R 332,I 255 0,I 0 0,R 339,I 275 0,I 0 0,R 347,I 293 0,I 0 0,R 354,I 355 0,I 0 0,R 501,I 365 0,I 0 0,R 534,I 372 0,I 0 0,R 541,I 377 0,I 0 0,R 546,I 380 0,I 0 0,R 553,I 388 0,I 0 0,R 560,I 393 0,I 0 0,R 568,I 410 0,I 0 0,R 575,I 425 0,I 0 0,R 582,I 429 0,I 0 0,R 589,I 431 0,I 0 0,R 596,I 446 0,I 0 0,R 601,I 463 0,I 0 0,R 608,I 474 0,I 0 0,R 615,I 481 0,I 0 0,R 622,I 484 0,I 0 0,R 629,I 516 0,I 0 0,R 667,I 525 0,I 0 0,R 674,I 531 0,I 0 0,R 681,I 535 0,I 0 0,R 688,I 541 0,I 0 0,R 695,I 543 0,I 0 0,R 702,I 545 0,I 0 0,R 709,I 555 0,I 0 0,R 716,I 564 0,I 0 0,R 723,I 571 0,I 0 0,R 730,I 577 0,I 0 0,R 751,I 598 0,I 0 0,R 758,I 607 0,I 0 0,R 765,I 619 0,I 0 0,R 772,I 624 0,I 0 0,R 779,I 630 0,I 0 0,R 786,I 639 0,I 0 0,R 793,I 642 0,I 0 0,R 798,I 654 0,I 0 0,R 805,I 665 0,I 0 0,R 812,I 676 0,I 0 0,R 817,I 678 0,I 0 0,R 824,I 680 0,I 0 0,R 829,I 686 0,I 0 0,R 834,I 692 0,I 0 0,R 839,I 697 0,I 0 0,R 846,I 703 0,I 0 0,R 853,I 718 0,I 0 0,R 860,I 736 0,I 0 0,R 867,I 747 0,I 0 0,R 874,I 753 0,I 0 0,R 881,I 774 0,I 0 0,R 924,I 778 0,I 0 0,R 931,I 786 0,I 0 0,R 936,I 788 0,I 0 0,R 943,I 799 0,I 0 0,R 948,I 804 0,I 0 0,R 955,I 815 0,I 0 0,R 962,I 825 0,I 0 0,R 969,I 837 0,I 0 0,R 974,I 850 0,I 0 0,R 979,I 879 0,I 0 0,R 984,I 897 0,I 0 0,R 991,I 911 0,I 0 0,R 996,I 916 0,I 0 0,R 1003,I 933 0,I 0 0,R 1008,I 954 0,I 0 0,R 1013,I 980 0,I 0 0,R 1018,I 991 0,I 0 0,R 1025,I 996 0,I 0 0,R 1030,I 1007 0,I 0 0,R 1037,I 1017 0,I 0 0,R 1044,I 1025 0,I 0 0,R 1049,I 1027 0,I 0 0,R 1054,I 1036 0,I 0 0,R 1059,I 1038 0,I 0 0,R 1064,I 1057 0,I 0 0,R 1069,I 1072 0,I 0 0,R 1076,I 1103 0,I 0 0,R 1081]
def hk (P:Params) (m:Ĉ) (k n:Č):Obj:=⟨T "dict",none,.dict ⟨[O P "__name__" 165 m,O P "__doc__" 166 N,O P "__package__" 167 N,O P "__loader__" 168<|U "__main__.__loader__#opaque",O P "__spec__" 169 N,O P "__annotations__" 170<|R 6,O P "__builtins__" 171<|R 4,O P "__file__" 173<|ah 172,O P "__cached__" 174 N]++(Wr P).take k⟩ n,#[]⟩
def hv (k:Č):Obj:=⟨N,none,.fields ⟨WW.take k⟩,#[]⟩
def D1 (P:Params):Obj:=⟨N,none,.dict ⟨[O P "type.__subclasses__.Exception.0" 223<|I 39 0,O P "type.__subclasses__.Exception.n" 224<|I 1 0]⟩ 2,#[]⟩
def T2 (P:Params):IF Obj:=[PySem.W.boot_o_0 P,PySem.W.boot_o_1 P,D1 P,hk P fA 177 186,PySem.W.boot_o_4 P,PySem.W.boot_o_5 P,PySem.W.boot_o_6 P,PySem.W.boot_o_7 P,PySem.W.boot_o_8 P,PySem.W.boot_o_9 P,PySem.W.boot_o_10 P,hz,hv 324,m2 "<module>" 182 1 11 185,jz 13 3 Hq]++(b5 15 (aL 0) "_wall" 187 1 1 ["k"] N Hq++([a_ [T "Exception"],iZ,hM [O P "__module__" 203 gg,O P "__qualname__" 205<|S "KeepError" 204,O P "__firstlineno__" 207<|I 5 206,O P "__init__" 216<|R 36,O P "__static_attributes__" 219<|R 37] 5,hz,cR N [I 7 0,I 4 0,R 35],m2 "KeepError" 198 5 25 201,jz 27 24 gg,a_ [S "" 208]]++(e0 30 (dx 2 0) "KeepError.__init__" "__init__" 209 7 2 ["self","text"] (R 29) gg++([c8 217 ["number","text"],hM [O P "__module__" 203 gg,O P "__firstlineno__" 207<|I 5 206,O P "__init__" 216<|R 36,O P "__static_attributes__" 219<|R 37,O P "__weakref__" 221<|R 40,O P "__doc__" 222 N] 3,eQ "KeepError" [T "Exception"] [R 39,T "Exception",T "BaseException",T "object"] 38 [R 60,R 80] [some<|R 22,none,some<|S "KeepError" 196,some<|S "KeepError" 204,some<|U "Exception.__new__",some TT],mR [S "__weakref__" 220,R 39,U "ExceptionGroup.__weakref__",N],oj 39,nG<|R 39,a_ [R 39],iZ,hM [O P "__module__" 234 gg,O P "__qualname__" 236<|S "TooDeep" 235,O P "__firstlineno__" 238<|I 10 237,O P "__init__" 249<|R 57,O P "__static_attributes__" 252<|R 58] 5,hz,cR N [I 12 0,I 4 0,R 56],m2 "TooDeep" 229 10 46 232,jz 48 45 gg,a_ [I 2589 239,S "" 240]]++(e0 51 (dx 3 0) "TooDeep.__init__" "__init__" 241 12 3 ["self","number","text"] (R 50) gg++([c8 250 ["number","text"],hM [O P "__module__" 234 gg,O P "__firstlineno__" 238<|I 10 237,O P "__init__" 249<|R 57,O P "__static_attributes__" 252<|R 58,O P "__doc__" 253 N] 2,eQ "TooDeep" [R 39] [R 60,R 39,T "Exception",T "BaseException",T "object"] 59 [] [some<|R 43,none,some<|S "TooDeep" 227,some<|S "TooDeep" 235,some<|U "Exception.__new__",some TT],oj 60,nG<|R 60,a_ [R 39],iZ,hM [O P "__module__" 263 gg,O P "__qualname__" 265<|S "HostFault" 264,O P "__firstlineno__" 267<|I 15 266,O P "__init__" 276<|R 77,O P "__static_attributes__" 279<|R 78] 5,hz,cR N [I 17 0,I 4 0,R 76],m2 "HostFault" 258 15 66 261,jz 68 65 gg,a_ [S "" 268]]++(e0 71 (dx 4 0) "HostFault.__init__" "__init__" 269 17 2 ["self","text"] (R 70) gg++([c8 277 ["number","text"],hM [O P "__module__" 263 gg,O P "__firstlineno__" 267<|I 15 266,O P "__init__" 276<|R 77,O P "__static_attributes__" 279<|R 78,O P "__doc__" 280 N] 2,eQ "HostFault" [R 39] [R 80,R 39,T "Exception",T "BaseException",T "object"] 79 [] [some<|R 63,none,some<|S "HostFault" 256,some<|S "HostFault" 264,some<|U "Exception.__new__",some TT],oj 80,nG<|R 80,a_ [I 1 285,S "any" 397],a_ [I 1 285,S "unknown" 398],a_ [I 1 285,S "never" 399],a_ [I 1 285,S "void" 400],a_ [I 1 285,S "undefined" 401],a_ [I 1 285,S "null" 402],a_ [I 1 285,S "string" 403],a_ [I 1 285,S "number" 404],a_ [I 2 287,I 0 405,I 0 406],a_ [I 2 287,I 1 407,I 0 408],a_ [I 1 285,S "object" 409],hz,hz,hz,hz,hz,a_ [I 8 299,R 94,R 95,R 96,R 97,R 98,I 0 410],a_ [I 8 411,I 9 412],a_ [I 6 295,R 100],a_ [I 1 285,S "error" 413],a_ [I 2 287,I 0 414,I 1 415],a_ [I 2 287,I 1 416,I 1 417],a_ [R 83,R 84,R 85,R 86,R 87,R 88,R 89,R 90,R 91,R 92,R 93,R 99,R 101,R 102,R 103,R 104],a_ [I 2 287,I 3 289,I 4 291,I 5 293,I 8 299],a_ [I 8 299,I 9 301,I 11 305,I 12 307,I 13 309],hM [⟨3,I 3 329,I 6 391⟩,⟨4,I 4 331,I 5 389⟩,⟨5,I 5 333,I 4 387⟩,⟨6,I 6 335,I 1 381⟩,⟨7,I 7 337,I 2 383⟩,⟨10,I 10 343,I 7 393⟩] 6,hz,iZ,hM [O P "__module__" 435 ef,O P "__qualname__" 437<|S "TypeTable" 436,O P "__firstlineno__" 439<|I 81 438,O P "__init__" 447<|R 122,O P "row" 455<|R 129,O P "put" 464<|R 136,O P "__static_attributes__" 475<|R 137] 7,hz,cR N [I 83 0,I 4 0,R 121,I 97 0,I 4 0,R 128,I 100 0,I 4 0,R 135],m2 "TypeTable" 430 81 112 433,jz 114 111 ef]++(e0 116 (dx 66 0) "TypeTable.__init__" "__init__" 440 83 1 ["self","row"] N ef++(e0 123 (dx 66 1) "TypeTable.row" "row" 448 97 2 ["self","t"] N ef++(e0 130 (dx 66 2) "TypeTable.put" "put" 456 100 2 ["self","row","t"] N ef++([c8 465 ["bounds","decls","defaults","index","names","origins","putting","renamed","rows","shaping"],hM [O P "__module__" 435 ef,O P "__firstlineno__" 439<|I 81 438,O P "__init__" 447<|R 122,O P "row" 455<|R 129,O P "put" 464<|R 136,O P "__static_attributes__" 475<|R 137,O P "__dict__" 477<|R 140,O P "__weakref__" 479<|R 141,O P "__doc__" 480 N] 4,eQ "TypeTable" [T "object"] [R 139,T "object"] 138 [] [none,none,some<|S "TypeTable" 428,some<|S "TypeTable" 436,some<|U "object.__new__",some TT],mR [S "__dict__" 476,R 139,U "function.__dict__",U "function.__dict__#set"],mR [S "__weakref__" 478,R 139,U "ExceptionGroup.__weakref__",N],oj 139,nG<|R 139,hz,iZ,hM [O P "__module__" 490 ef,O P "__qualname__" 492<|S "Decl" 491,O P "__firstlineno__" 494<|I 107 493,O P "__init__" 504<|R 157,O P "__static_attributes__" 520<|R 158] 5,hz,cR N [I 109 0,I 4 0,R 156],m2 "Decl" 485 107 147 488,jz 149 146 ef]++(e0 151 (dx 67 0) "Decl.__init__" "__init__" 495 109 4 ["self","did","kind","name"] N ef++([c8 505 ["abstract","at","bases","body","busy","did","extends_class","file","kind","members","name","nid","params","static","variances"],hM [O P "__module__" 490 ef,O P "__firstlineno__" 494<|I 107 493,O P "__init__" 504<|R 157,O P "__static_attributes__" 520<|R 158,O P "__dict__" 522<|R 161,O P "__weakref__" 524<|R 162,O P "__doc__" 525 N] 4,eQ "Decl" [T "object"] [R 160,T "object"] 159 [] [none,none,some<|S "Decl" 483,some<|S "Decl" 491,some<|U "object.__new__",some TT],mR [S "__dict__" 521,R 160,U "function.__dict__",U "function.__dict__#set"],mR [S "__weakref__" 523,R 160,U "ExceptionGroup.__weakref__",N],oj 160,nG<|R 160]))))))))))))))
def yd (P:Params):IF Obj:=b5 165 (aL 68) "kind_of" 528 125 2 ["tab","t"] N ef++([a_ [I 0 536]]++(b5 173 (aL 69) "str_type" 537 127 3 ["tab","text","fresh"] (R 172) ef++([a_ [I 0 546]]++(b5 181 (aL 70) "array_type" 547 129 3 ["tab","elem","ro"] (R 180) ef++(b5 188 (aL 71) "last_mark" 556 131 2 ["elems","marks","found","place"] N ef++(b5 195 (aL 72) "needed_to_last" 566 137 2 ["tab","elems","last","out","place","given","mark"] N ef++(b5 202 (aL 73) "one_rest" 579 147 3 ["tab","elems","last","first","place","held","given","mark"] N ef++([a_ [I 0 593]]++(b5 210 (aL 74) "tuple_type" 594 158 3 [] (R 209) ef++(b5 215 (aL 75) "sorted_props" 600 166 1 [] N ef++([hz,hz,hz,hz,a_ [R 220,R 221,R 222,R 223,I 0 606]]++(b5 225 (aL 76) "obj_type" 607 171 7 ["tab","props","calls","ctors","sindex","nindex","fresh"] (R 224) ef++([hz,a_ [R 232,I 0 620]]++(b5 234 (aL 77) "sig_type" 621 173 6 ["tab","tparams","params","ret","pred","flags"] (R 233) ef++(b5 241 (aL 78) "func_type" 633 175 2 ["tab","sig"] N ef++([a_ [dz 0 642,dz 0 644]]++(b5 249 (aL 79) "new_param" 645 177 4 ["tab","name","bound","default","pid"] (R 248) ef++(b5 256 (aL 80) "new_decl" 656 183 3 ["tab","kind","name","decl"] N ef++(b5 263 (aL 81) "parts_of" 666 187 2 ["tab","t","row"] N ef++(b5 270 (aL 82) "whole_of_row" 675 194 1 ["row","kind"] N ef++(b5 277 (aL 83) "regular_twin" 683 203 2 ["tab","t","row"] N ef++(b5 284 (aL 84) "join_bools" 692 208 1 ["got"] N ef++(b5 291 (aL 85) "stays_beside" 699 212 3 ["tab","got","t"] N ef++(b5 298 (aL 86) "top_of" 708 216 1 ["got","t"] N ef++(b5 305 (aL 87) "union" 716 221 2 [] N ef++(b5 310 (aL 88) "without" 722 238 3 [] N ef++(b5 315 (aL 89) "add_undef" 728 240 2 ["tab","t"] N ef++(b5 322 (aL 90) "common_family" 736 242 2 [] N ef++(b5 327 (aL 91) "meet_family" 742 246 2 ["tab","parts","found","part","fam"] N ef++(b5 334 (aL 92) "family" 753 255 2 ["tab","t","row","kind","whole"] N ef++([a_ [I 1 285,I 2 287,I 3 289,I 4 291,I 5 293]]++(b5 342 (aL 96) "plain_shape" 769 275 2 ["tab","t","turn","row"] N Lq++([hz,iZ,hM [O P "__module__" 792 fi,O P "__qualname__" 794<|S "Thin" 793,O P "__firstlineno__" 796<|I 293 795,O P "__init__" 804<|R 362,O P "force" 812<|R 369,O P "put_deferred" 820<|R 376,O P "put_cond" 829<|R 383,O P "lay_row" 838<|R 390,O P "bound" 846<|R 397,O P "shape" 854<|R 404,O P "fits" 863<|R 411,O P "lies" 872<|R 418,O P "infers" 882<|R 425,O P "tpl_fits" 891<|R 432,O P "shape_fits" 900<|R 439,O P "put_in" 909<|R 446,O P "own_sig" 918<|R 453,O P "forget" 925<|R 460,O P "list_prop" 934<|R 467,O P "list_index" 942<|R 474,O P "elem_met" 950<|R 481,O P "error_class" 957<|R 488,O P "__static_attributes__" 963<|R 489] 23,hz,cR N [I 295 0,I 4 0,R 361,I 302 0,I 4 0,R 368,I 305 0,I 4 0,R 375,I 308 0,I 4 0,R 382,I 311 0,I 4 0,R 389,I 314 0,I 4 0,R 396,I 317 0,I 4 0,R 403,I 320 0,I 4 0,R 410,I 323 0,I 4 0,R 417,I 326 0,I 4 0,R 424,I 329 0,I 4 0,R 431,I 332 0,I 4 0,R 438,I 335 0,I 4 0,R 445,I 338 0,I 4 0,R 452,I 341 0,I 4 0,R 459,I 344 0,I 4 0,R 466,I 347 0,I 4 0,R 473,I 350 0,I 4 0,R 480,I 353 0,I 4 0,R 487],m2 "Thin" 787 293 352 790,jz 354 351 fi]++(e0 356 (dx 100 0) "Thin.__init__" "__init__" 797 295 2 ["self","tab"] N fi++(e0 363 (dx 100 1) "Thin.force" "force" 805 302 2 ["self","t"] N fi++(e0 370 (dx 100 2) "Thin.put_deferred" "put_deferred" 813 305 2 ["self","row"] N fi++(e0 377 (dx 100 3) "Thin.put_cond" "put_cond" 821 308 3 ["self","row","mapping"] N fi++(e0 384 (dx 100 4) "Thin.lay_row" "lay_row" 830 311 3 ["self","row","mapping"] N fi++(e0 391 (dx 100 5) "Thin.bound" "bound" 839 314 2 ["self","t"] N fi++(e0 398 (dx 100 6) "Thin.shape" "shape" 847 317 2 ["self","t"] N fi++(e0 405 (dx 100 7) "Thin.fits" "fits" 855 320 3 ["self","s","t"] N fi++(e0 412 (dx 100 8) "Thin.lies" "lies" 864 323 3 ["self","s","t"] N fi++(e0 419 (dx 100 9) "Thin.infers" "infers" 873 326 4 ["self","pids","check","ext"] N fi++(e0 426 (dx 100 10) "Thin.tpl_fits" "tpl_fits" 883 329 3 ["self","s","t"] N fi++(e0 433 (dx 100 11) "Thin.shape_fits" "shape_fits" 892 332 3 ["self","s","t"] N fi++(e0 440 (dx 100 12) "Thin.put_in" "put_in" 901 335 3 ["self","t","mapping"] N fi++(e0 447 (dx 100 13) "Thin.own_sig" "own_sig" 910 338 3 ["self","s","erased"] N fi++(e0 454 (dx 100 14) "Thin.forget" "forget" 919 341 1 ["self"] N fi++(e0 461 (dx 100 15) "Thin.list_prop" "list_prop" 926 344 3 ["self","t","name"] N fi++(e0 468 (dx 100 16) "Thin.list_index" "list_index" 935 347 2 ["self","t"] N fi++(e0 475 (dx 100 17) "Thin.elem_met" "elem_met" 943 350 2 ["self","kinds"] N fi++(e0 482 (dx 100 18) "Thin.error_class" "error_class" 951 353 1 ["self"] N fi++([c8 958 ["deep","lib","most_deep","most_rounds","tab"],hM [O P "__module__" 792 fi,O P "__firstlineno__" 796<|I 293 795,O P "__init__" 804<|R 362,O P "force" 812<|R 369,O P "put_deferred" 820<|R 376,O P "put_cond" 829<|R 383,O P "lay_row" 838<|R 390,O P "bound" 846<|R 397,O P "shape" 854<|R 404,O P "fits" 863<|R 411,O P "lies" 872<|R 418,O P "infers" 882<|R 425,O P "tpl_fits" 891<|R 432,O P "shape_fits" 900<|R 439,O P "put_in" 909<|R 446,O P "own_sig" 918<|R 453,O P "forget" 925<|R 460,O P "list_prop" 934<|R 467,O P "list_index" 942<|R 474,O P "elem_met" 950<|R 481,O P "error_class" 957<|R 488,O P "__static_attributes__" 963<|R 489,O P "__dict__" 965<|R 492,O P "__weakref__" 967<|R 493,O P "__doc__" 968 N] 4,eQ "Thin" [T "object"] [R 491,T "object"] 490 [R 526] [none,none,some<|S "Thin" 785,some<|S "Thin" 793,some<|U "object.__new__",some TT],mR [S "__dict__" 964,R 491,U "function.__dict__",U "function.__dict__#set"],mR [S "__weakref__" 966,R 491,U "ExceptionGroup.__weakref__",N],oj 491,nG<|R 491,a_ [R 491],iZ,hM [O P "__module__" 978 fi,O P "__qualname__" 980<|S "RefHost" 979,O P "__firstlineno__" 982<|I 355 981,O P "shape" 990<|R 509,O P "fits" 999<|R 516,O P "lies" 1008<|R 523,O P "__static_attributes__" 1009<|R 524] 7,hz,cR N [I 357 0,I 4 0,R 508,I 360 0,I 4 0,R 515,I 363 0,I 4 0,R 522],m2 "RefHost" 973 355 499 976,jz 501 498 fi])))))))))))))))))))))))))))))))))))))))))))))))))))))
def NH (P:Params):IF Obj:=e0 503 (dx 101 0) "RefHost.shape" "shape" 983 357 2 ["self","t"] N fi++(e0 510 (dx 101 1) "RefHost.fits" "fits" 991 360 3 ["self","s","t"] N fi++(e0 517 (dx 101 2) "RefHost.lies" "lies" 1000 363 3 ["self","s","t"] N fi++([hz,hM [O P "__module__" 978 fi,O P "__firstlineno__" 982<|I 355 981,O P "shape" 990<|R 509,O P "fits" 999<|R 516,O P "lies" 1008<|R 523,O P "__static_attributes__" 1009<|R 524,O P "__doc__" 1010 N] 2,eQ "RefHost" [R 491] [R 526,R 491,T "object"] 525 [R 913] [some<|R 496,none,some<|S "RefHost" 971,some<|S "RefHost" 979,some<|U "object.__new__",some TT],oj 526,nG<|R 526]++(b5 529 (aL 102) "told_places" 1013 365 1 ["row","place"] N fi++(b5 536 (aL 103) "find_prop" 1021 372 2 ["row","name","prop"] N fi++(b5 543 (aL 104) "is_digits" 1030 377 1 [] N fi++(b5 548 (aL 105) "prop_row" 1036 380 3 ["host","t","name","row","prop"] N fi++(b5 555 (aL 106) "read_type" 1047 388 2 ["tab","prop"] N fi++([a_ [I 10 303,I 14 311,I 15 313,I 16 315,I 17 317,I 19 321]]++(b5 563 (aL 110) "is_open" 1060 393 2 ["tab","t","row","part","elem","hole"] N pE++(b5 570 (aL 111) "unit_word" 1072 410 2 ["tab","t","row"] N pE++(b5 577 (aL 112) "key_text" 1081 425 2 ["tab","t"] N pE++(b5 584 (aL 113) "glue" 1089 429 2 ["left","right"] N pE++(b5 591 (aL 114) "hole_pieces" 1097 431 2 ["host","t","tab","pieces","part","word","row"] N pE++(b5 598 (aL 115) "cross_holes" 1110 446 3 [] N pE++(b5 603 (aL 116) "one_template" 1116 463 3 ["tab","texts","types","plain","text","t"] N pE++(b5 610 (aL 117) "tpl_kind" 1128 474 3 ["host","texts","types","tab","made","joining"] N pE++(b5 617 (aL 119) "is_public" 1142 481 1 ["prop"] N Do++([hz,iZ,hM [O P "__module__" 1158 f4,O P "__qualname__" 1160<|S "Made" 1159,O P "__firstlineno__" 1162<|I 484 1161,O P "__init__" 1169<|R 637,O P "add" 1182<|R 644,O P "add_index" 1195<|R 651,O P "done" 1201<|R 656,O P "__static_attributes__" 1206<|R 657] 8,hz,cR N [I 486 0,I 4 0,R 636,I 492 0,I 4 0,R 643,I 503 0,I 4 0,R 650,I 513 0,I 4 0,R 655],m2 "Made" 1153 484 627 1156,jz 629 626 f4]++(e0 631 (dx 121 0) "Made.__init__" "__init__" 1163 486 1 ["self"] N f4++(e0 638 (dx 121 1) "Made.add" "add" 1170 492 5 ["self","tab","name","t","flags","old","parts"] N f4++(e0 645 (dx 121 2) "Made.add_index" "add_index" 1183 503 5 ["self","tab","number","t","ro","old","fresh"] N f4++(e0 652 (dx 121 3) "Made.done" "done" 1196 513 2 [] N f4++([c8 1202 ["names","nindex","rows","sindex"],hM [O P "__module__" 1158 f4,O P "__firstlineno__" 1162<|I 484 1161,O P "__init__" 1169<|R 637,O P "add" 1182<|R 644,O P "add_index" 1195<|R 651,O P "done" 1201<|R 656,O P "__static_attributes__" 1206<|R 657,O P "__dict__" 1208<|R 660,O P "__weakref__" 1210<|R 661,O P "__doc__" 1211 N] 4,eQ "Made" [T "object"] [R 659,T "object"] 658 [] [none,none,some<|S "Made" 1151,some<|S "Made" 1159,some<|U "object.__new__",some TT],mR [S "__dict__" 1207,R 659,U "function.__dict__",U "function.__dict__#set"],mR [S "__weakref__" 1209,R 659,U "ExceptionGroup.__weakref__",N],oj 659,nG<|R 659]++(b5 664 (aL 122) "is_late_alias" 1214 516 2 [] N f4++(b5 669 (aL 123) "undefless" 1220 525 2 ["host","t","tab"] N f4++(b5 676 (aL 124) "optional_form" 1229 531 2 ["tab","t"] N f4++(b5 683 (aL 125) "readonly_after" 1237 535 2 ["romod","ro"] N f4++(b5 690 (aL 126) "template_at" 1245 541 3 ["host","row","key"] N f4++(b5 697 (aL 127) "member_opt" 1254 543 2 ["row","was"] N f4++(b5 704 (aL 128) "member_kind" 1262 545 5 ["host","row","key","own","was","tab","t"] N f4++(b5 711 (aL 129) "kindmap_member_flags" 1275 555 3 ["row","prop","plain","was","flags","ro"] N f4++(b5 718 (aL 130) "names_for" 1287 564 3 ["host","row","key","name"] N f4++([hz,iZ,hM [O P "__module__" 1304 f4,O P "__qualname__" 1306<|S "Keyed" 1305,O P "__firstlineno__" 1308<|I 571 1307,O P "__init__" 1318<|R 738,O P "__static_attributes__" 1322<|R 739] 5,hz,cR N [I 573 0,I 4 0,R 737],m2 "Keyed" 1299 571 728 1302,jz 730 727 f4]++(e0 732 (dx 131 0) "Keyed.__init__" "__init__" 1309 573 4 ["self","key","prop","index"] N f4++([c8 1319 ["index","key","prop"],hM [O P "__module__" 1304 f4,O P "__firstlineno__" 1308<|I 571 1307,O P "__init__" 1318<|R 738,O P "__static_attributes__" 1322<|R 739,O P "__dict__" 1324<|R 742,O P "__weakref__" 1326<|R 743,O P "__doc__" 1327 N] 4,eQ "Keyed" [T "object"] [R 741,T "object"] 740 [] [none,none,some<|S "Keyed" 1297,some<|S "Keyed" 1305,some<|U "object.__new__",some TT],mR [S "__dict__" 1323,R 741,U "function.__dict__",U "function.__dict__#set"],mR [S "__weakref__" 1325,R 741,U "ExceptionGroup.__weakref__",N],oj 741,nG<|R 741]++(b5 746 (aL 132) "put_member" 1330 577 6 ["host","row","made","keyed","target","plain","tab","text","own","was","kept","t","ro"] N f4++(b5 753 (aL 133) "build_members" 1349 598 4 ["host","row","entries","plain","made","keyed","targets","target"] N f4++(b5 760 (aL 134) "shape_entries" 1363 607 2 ["host","t","tab","entries","shape","prop"] N f4++(b5 767 (aL 135) "map_array" 1375 619 4 ["host","row","t","plain","tab","source","elem"] N f4++(b5 774 (aL 136) "spare_elem" 1388 624 3 ["host","row","elem"] N f4++(b5 781 (aL 137) "map_elem" 1397 630 5 ["host","row","place","elem","plain","key","own","kind","was","mark"] N f4++(b5 788 (aL 138) "is_primitive" 1413 639 2 ["tab","t"] N f4++(b5 795 (aL 140) "known_part" 1423 642 3 [] N yf++(b5 800 (aL 141) "bound_tuple" 1429 654 3 ["host","row","source","elems","places","place","elem","t"] N yf++(b5 807 (aL 142) "lists_have" 1443 665 2 ["host","keyed","name","t"] N yf++(b5 814 (aL 144) "put_each" 1455 676 3 [] N oA++(b5 819 (aL 145) "put_cell" 1461 678 3 ["host","cell","mapping"] N oA++(b5 826 (aL 146) "put_shape" 1470 680 3 [] N oA++(b5 831 (aL 147) "plainput_put_elems" 1476 686 3 [] N oA++(b5 836 (aL 148) "put_call" 1482 692 4 [] N oA++(b5 841 (aL 149) "without_own" 1488 697 2 ["mapping","pids","rest","pid"] N oA))))))))))))))))))))))))))))))))))))))))))))))))))))
def NJ (P:Params):IF Obj:=b5 848 (aL 150) "put_late" 1498 703 4 ["host","t","row","mapping","rest"] N oA++(b5 855 (aL 151) "plain_put" 1509 718 3 ["host","t","mapping","row"] N oA++(b5 862 (aL 153) "table_read" 1521 736 2 ["tab","row","other","prop","cell"] N nF++(b5 869 (aL 154) "put_name" 1532 747 2 ["host","row"] N nF++([a_ [R 526],iZ,hM [O P "__module__" 1547 nF,O P "__qualname__" 1549<|S "NameHost" 1548,O P "__firstlineno__" 1551<|I 753 1550,O P "__init__" 1559<|R 889,O P "force" 1568<|R 896,O P "put_deferred" 1576<|R 903,O P "put_in" 1585<|R 910,O P "__static_attributes__" 1590<|R 911] 8,hz,cR N [I 755 0,I 4 0,R 888,I 761 0,I 4 0,R 895,I 765 0,I 4 0,R 902,I 768 0,I 4 0,R 909],m2 "NameHost" 1542 753 879 1545,jz 881 878 nF]++(e0 883 (dx 155 0) "NameHost.__init__" "__init__" 1552 755 2 ["self","tab"] N nF++(e0 890 (dx 155 1) "NameHost.force" "force" 1560 761 2 ["self","t","row"] N nF++(e0 897 (dx 155 2) "NameHost.put_deferred" "put_deferred" 1569 765 2 ["self","row"] N nF++(e0 904 (dx 155 3) "NameHost.put_in" "put_in" 1577 768 3 ["self","t","mapping"] N nF++([c8 1586 ["deep","most_deep","most_rounds","tab"],hM [O P "__module__" 1547 nF,O P "__firstlineno__" 1551<|I 753 1550,O P "__init__" 1559<|R 889,O P "force" 1568<|R 896,O P "put_deferred" 1576<|R 903,O P "put_in" 1585<|R 910,O P "__static_attributes__" 1590<|R 911,O P "__doc__" 1591 N] 2,eQ "NameHost" [R 526] [R 913,R 526,R 491,T "object"] 912 [] [some<|R 876,none,some<|S "NameHost" 1540,some<|S "NameHost" 1548,some<|U "object.__new__",some TT],oj 913,nG<|R 913,c8 1596 ["w","u"],c8 1599 ["w","S"],c8 1602 ["w","N"]]++(b5 919 (aL 160) "_law_take" 1605 774 2 ["d","n","at"] N fA++(b5 926 (aL 161) "_law_kind" 1614 778 1 ["d","atoms","got","go","one"] N fA++(b5 933 (aL 162) "_law_type" 1625 786 3 [] N fA++(b5 938 (aL 163) "_law_atom" 1631 788 3 ["tab","over","one","sort","what"] N fA++(b5 945 (aL 164) "_law_back" 1642 799 2 [] N fA++(b5 950 (aL 165) "_law_back_one" 1648 804 2 ["tab","t","row"] N fA++(b5 957 (aL 166) "_law_plan" 1657 815 1 ["d","base","coat","fixed","table"] N fA++(b5 964 (aL 167) "_law_at" 1668 825 2 ["plan","key","base","coat","fixed","table","kind"] N fA++(b5 971 (aL 168) "_law_template" 1681 837 4 [] N fA++(b5 976 (aL 169) "_law_object" 1687 850 2 [] N fA++(b5 981 (aL 170) "_law_list" 1693 879 2 [] N fA++(b5 986 (aL 171) "_law_lone" 1699 897 2 ["d","tab","n","sig","t"] N fA++(b5 993 (aL 172) "_law_slot" 1710 911 3 [] N fA++(b5 998 (aL 173) "_law_told" 1716 916 5 ["tab","over","plan","mods","bound","opt","ro","rows","name","kind","was","shut","what","hid","given","sign","told","place","cell"] N fA++(b5 1005 (aL 174) "_law_told_list" 1741 933 5 [] N fA++(b5 1010 (aL 175) "_law_choices" 1747 954 1 [] N fA++(b5 1015 (aL 176) "_law_rows" 1753 980 1 [] N fA++(b5 1020 (aL 177) "_law_numbered" 1759 991 1 ["row","slots","place"] N fA++(b5 1027 (aL 178) "_law_own" 1768 996 2 [] N fA++(b5 1032 (aL 179) "_law_free" 1774 1007 2 ["kind","slots","out","sort","what"] N fA++(b5 1039 (aL 180) "_law_after" 1785 1017 5 ["plan","opt","slots","sort","name","kind","was","given","sign"] N fA++(b5 1046 (aL 181) "_law_digits" 1800 1025 1 [] N fA++(b5 1051 (aL 182) "_law_held" 1806 1027 2 [] N fA++(b5 1056 (aL 183) "_law_lies" 1812 1036 2 [] N fA++(b5 1061 (aL 184) "_law_rooms" 1818 1038 3 [] N fA++(b5 1066 (aL 185) "_law_sound" 1824 1057 5 [] N fA++(b5 1071 (aL 186) "_law_round" 1830 1072 1 ["d","tab","host","over","key","plan","mods","naming","sort","bound","template","keys","row","said","told","prop"] N fA++(b5 1078 (aL 187) "law" 1852 1103 1 [] N fA)))))))))))))))))))))))))))))))))))))
def z0 (P:Params):IF Obj:=T2 P++(yd P++(NH P++(NJ P)))
def sm:IF Obj->IF (Č×Obj)->IF Obj
 |l,[]=>l
 |l,(a,o)::r=>sm (l.set a o) r
def Az:IF Obj->IF Obj
 |a::_::r=>a::Az r
 |l=>l
def uK:Č->IF Obj->BT
 |_,[]=>.nil
 |0,_=>.nil
 |n+1,o::r=>.node o (uK n<|Az r)<|uK n<|Az r.tail
noncomputable abbrev ht (n k:Č) (d:Params->IF (Č×Obj)) (w:World) (os:OsState):SharedT:=⟨uK 12<|sm ((z0 w.params).take n)<|d w.params,n,{},⟨[]⟩,{},k,os⟩
def pH:World->OsState->SharedT:=ht 15 187 λP=>[(3,PySem.W.boot_o_3 P),(12,hv 0),(2,PySem.W.boot_o_2 P)]
def j2:World->OsState->SharedT:=ht 43 227 λP=>[(3,hk P gg 2 11),(12,hv 6),(39,eQ "KeepError" [T "Exception"] [R 39,T "Exception",T "BaseException",T "object"] 38 [] [some<|R 22,none,some<|S "KeepError" 196,some<|S "KeepError" 204,some<|U "Exception.__new__",some TT])]
def vg:World->OsState->SharedT:=ht 63 256 λP=>[(3,hk P gg 3 12),(12,hv 9),(39,eQ "KeepError" [T "Exception"] [R 39,T "Exception",T "BaseException",T "object"] 38 [R 60] [some<|R 22,none,some<|S "KeepError" 196,some<|S "KeepError" 204,some<|U "Exception.__new__",some TT])]
def g8:World->OsState->SharedT:=ht 83 315 λP=>[(3,hk P ef 19 28),(12,hv 12)]
def jY:World->OsState->SharedT:=ht 83 397 λP=>[(3,hk P ef 60 69),(12,hv 12)]
def jx:World->OsState->SharedT:=ht 109 428 λP=>[(3,hk P ef 64 73),(12,hv 12)]
def mq:World->OsState->SharedT:=ht 144 483 λP=>[(3,hk P ef 65 74),(12,hv 15)]
def nr:World->OsState->SharedT:=ht 195 566 λP=>[(3,hk P ef 70 79),(12,hv 30)]
def s4:World->OsState->SharedT:=ht 277 683 λP=>[(3,hk P ef 81 90),(12,hv 63)]
def Gv:World->OsState->SharedT:=ht 349 785 λP=>[(3,hk P fi 96 105),(12,hv 96)]
def Hk:World->OsState->SharedT:=ht 496 971 λP=>[(3,hk P fi 97 106),(12,hv 99),(491,eQ "Thin" [T "object"] [R 491,T "object"] 490 [] [none,none,some<|S "Thin" 785,some<|S "Thin" 793,some<|U "object.__new__",some TT])]
def Jo:World->OsState->SharedT:=ht 548 1036 λP=>[(3,hk P fi 101 110),(12,hv 111),(526,eQ "RefHost" [R 491] [R 526,R 491,T "object"] 525 [] [some<|R 496,none,some<|S "RefHost" 971,some<|S "RefHost" 979,some<|U "object.__new__",some TT])]
def IH:World->OsState->SharedT:=ht 624 1149 λP=>[(3,hk P Do 114 123),(12,hv 144),(526,eQ "RefHost" [R 491] [R 526,R 491,T "object"] 525 [] [some<|R 496,none,some<|S "RefHost" 971,some<|S "RefHost" 979,some<|U "object.__new__",some TT])]
def H':World->OsState->SharedT:=ht 676 1229 λP=>[(3,hk P f4 117 126),(12,hv 153),(526,eQ "RefHost" [R 491] [R 526,R 491,T "object"] 525 [] [some<|R 496,none,some<|S "RefHost" 971,some<|S "RefHost" 979,some<|U "object.__new__",some TT])]
def EJ:World->OsState->SharedT:=ht 725 1297 λP=>[(3,hk P f4 124 133),(12,hv 174),(526,eQ "RefHost" [R 491] [R 526,R 491,T "object"] 525 [] [some<|R 496,none,some<|S "RefHost" 971,some<|S "RefHost" 979,some<|U "object.__new__",some TT])]
def KZ:World->OsState->SharedT:=ht 774 1388 λP=>[(3,hk P f4 129 138),(12,hv 189),(526,eQ "RefHost" [R 491] [R 526,R 491,T "object"] 525 [] [some<|R 496,none,some<|S "RefHost" 971,some<|S "RefHost" 979,some<|U "object.__new__",some TT])]
def H0:World->OsState->SharedT:=ht 848 1498 λP=>[(3,hk P oA 141 150),(12,hv 225),(526,eQ "RefHost" [R 491] [R 526,R 491,T "object"] 525 [] [some<|R 496,none,some<|S "RefHost" 971,some<|S "RefHost" 979,some<|U "object.__new__",some TT])]
def Ki:World->OsState->SharedT:=ht 876 1540 λP=>[(3,hk P nF 145 154),(12,hv 237),(526,eQ "RefHost" [R 491] [R 526,R 491,T "object"] 525 [] [some<|R 496,none,some<|S "RefHost" 971,some<|S "RefHost" 979,some<|U "object.__new__",some TT])]
def HG:World->OsState->SharedT:=ht 918 1602 λP=>[(3,hk P fA 148 157),(12,hv 240)]
def Ko:World->OsState->SharedT:=ht 998 1716 λP=>[(3,hk P fA 162 171),(12,hv 279)]
def Ln:World->OsState->SharedT:=ht 1071 1830 λP=>[(3,hk P fA 175 184),(12,hv 318)]
def Be:World->OsState->SharedT:=ht 1083 1858 λP=>[]
noncomputable abbrev h_:Pos:=⟨0,0,0,0⟩
noncomputable abbrev de:Env:={scope:=eE.main.scope,locals:=mainNs,globals:=mainNs,cells:=[],code:=.ref 13,frame:=some 14}
noncomputable abbrev code:Code:=.body (behindTheImports eE) de
abbrev gR(n:Č)(X cx:World->OsState->SharedT)(l:IF Stmt)(p et:Pos):Prop:=∀(w:World) (os:OsState),segRunT treeTable eE w 11 (some<|.ref 6) 1 n (X w os) (piecesOf l de code p [topFrame h_])=some (.next,cx w os,code,et)
theorem ic{n:Č}{X cx:World->OsState->SharedT}{l:IF Stmt}{p et:Pos}(h:(λw os=>PySem.W.Fast.tw10110043849684766642 PySem.W.Fast.tw14364793385576792824 eE w 11 (some<|.ref 6) 1 n (X w os)<|piecesOf l de code p [topFrame h_])=λw os=>some (Flow.next,cx w os,code,et)):gR n X cx l p et:=λw os=>by rw[PySem.W.Fast.te10110043849684766642,PySem.W.Fast.te14364793385576792824];exact kl (kl h w) os
theorem RA{n:Č}{X cx:World->OsState->SharedT}{l:IF Stmt}{p et:Pos}(h:(λ(w:World) os=>PySem.W.Fast.tw10110043849684766642 PySem.W.Fast.tw14364793385576792824 eE (w.withFollow "special-get-raises" false) 11 (some<|.ref 6) 1 n (X (w.withFollow "special-get-raises" false) os)<|piecesOf l de code p [topFrame h_])=λ(w:World) os=>some (Flow.next,cx (w.withFollow "special-get-raises" false) os,code,et))(aR:(λ(w:World) os=>PySem.W.Fast.tw10110043849684766642 PySem.W.Fast.tw14364793385576792824 eE (w.withFollow "special-get-raises" true) 11 (some<|.ref 6) 1 n (X (w.withFollow "special-get-raises" true) os)<|piecesOf l de code p [topFrame h_])=λ(w:World) os=>some (Flow.next,cx (w.withFollow "special-get-raises" true) os,code,et)):gR n X cx l p et:=λw os=>by rw[PySem.W.Fast.te10110043849684766642,PySem.W.Fast.te14364793385576792824];exact byRow2 "special-get-raises" (P:=λw=>PySem.W.Fast.tw10110043849684766642 PySem.W.Fast.tw14364793385576792824 eE w 11 (some<|.ref 6) 1 n (X w os) (piecesOf l de code p [topFrame h_])=some (.next,cx w os,code,et)) (λw=>kl (kl h w) os) (λw=>kl (kl aR w) os) w
theorem Nf:gR 270 pH j2 (g6 0 3) ⟨0,0,0,0⟩ ⟨5,0,9,24⟩:=ic (by kernel_rfl)
theorem P6:gR 251 j2 vg (g6 3 1) ⟨5,0,9,24⟩ ⟨10,0,14,24⟩:=ic (by kernel_rfl)
theorem UH:gR 393 vg g8 (g6 4 17) ⟨10,0,14,24⟩ ⟨35,0,35,7⟩:=ic (by kernel_rfl)
theorem Mf:gR 370 g8 jY (g6 21 41) ⟨35,0,35,7⟩ ⟨76,0,76,9⟩:=ic (by kernel_rfl)
theorem My:gR 248 jY jx (g6 62 4) ⟨76,0,76,9⟩ ⟨80,0,80,12⟩:=RA (by kernel_rfl) (by kernel_rfl)
theorem QY:gR 297 jx mq (g6 66 1) ⟨80,0,80,12⟩ ⟨81,0,106,16⟩:=ic (by kernel_rfl)
theorem Wn:gR 367 mq nr (g6 67 5) ⟨81,0,106,16⟩ ⟨131,0,136,16⟩:=ic (by kernel_rfl)
theorem Ru:gR 378 nr s4 (g6 72 11) ⟨131,0,136,16⟩ ⟨194,0,202,13⟩:=ic (by kernel_rfl)
theorem O4:gR 393 s4 Gv (g6 83 17) ⟨194,0,202,13⟩ ⟨292,0,292,11⟩:=ic (by kernel_rfl)
theorem Nl:gR 812 Gv Hk (g6 100 1) ⟨292,0,292,11⟩ ⟨293,0,354,17⟩:=ic (by kernel_rfl)
theorem Nx:gR 398 Hk Jo (g6 101 4) ⟨293,0,354,17⟩ ⟨377,0,379,68⟩:=ic (by kernel_rfl)
theorem Ñ:gR 396 Jo IH (g6 105 15) ⟨377,0,379,68⟩ ⟨481,0,482,49⟩:=ic (by kernel_rfl)
theorem Yh:gR 393 IH H' (g6 120 4) ⟨481,0,482,49⟩ ⟨525,0,530,60⟩:=ic (by kernel_rfl)
theorem Pd:gR 223 H' EJ (g6 124 7) ⟨525,0,530,60⟩ ⟨564,0,570,35⟩:=ic (by kernel_rfl)
theorem RY:gR 373 EJ KZ (g6 131 5) ⟨564,0,570,35⟩ ⟨619,0,623,90⟩:=ic (by kernel_rfl)
theorem Ma:gR 379 KZ H0 (g6 136 14) ⟨619,0,623,90⟩ ⟨697,0,702,15⟩:=ic (by kernel_rfl)
theorem ZJ:gR 138 H0 Ki (g6 150 5) ⟨697,0,702,15⟩ ⟨747,0,752,28⟩:=ic (by kernel_rfl)
theorem Oz:gR 394 Ki HG (g6 155 4) ⟨747,0,752,28⟩ ⟨772,0,772,10⟩:=ic (by kernel_rfl)
theorem Ou:gR 398 HG Ko (g6 159 14) ⟨772,0,772,10⟩ ⟨911,0,915,42⟩:=ic (by kernel_rfl)
theorem Tk:gR 383 Ko Ln (g6 173 13) ⟨911,0,915,42⟩ ⟨1057,0,1071,15⟩:=ic (by kernel_rfl)
theorem PA:gR 71 Ln Be (g6 186 2) ⟨1057,0,1071,15⟩ ⟨1103,0,1107,32⟩:=ic (by kernel_rfl)
def iU (P:Params):Heap:=⟨⟨z0 P⟩,{}⟩
noncomputable abbrev wc (w:World) (os:OsState):Nd:=⟨iU w.params,⟨[]⟩,{},1858,os⟩
theorem Xd{n:Č}{X cx:World->OsState->Nd}{t:Thread}(h:(λw os=>PySem.W.Fast.tw14082659384304107361 PySem.W.Fast.tw14364793385576792824 eE w 11 (some<|.ref 6) n (X w os) t)=λw os=>some<|cx w os):∀(w:World) (os:OsState),topRun treeTable eE w 11 (some<|.ref 6) n (X w os) t=some (cx w os):=λw os=>by rw[PySem.W.Fast.te14082659384304107361,PySem.W.Fast.te14364793385576792824];exact kl (kl h w) os
theorem Vc(e:Env)(c:Code)(p:Pos)(aT:IF Frame):(⟨doneF .next,c,p,aT⟩:Thread)=restOf (body.drop 188) e c p aT:=by kernel_rfl
theorem Yi(a n:Č):body.drop a=g6 a n++body.drop (a+n):=by unfold g6;rw[<-List.drop_drop,List.take_append_drop]
theorem Tw:behindTheImports eE=body.drop 0:=by kernel_rfl
theorem OU:∀(w:World) (os:OsState),topGo treeTable eE w 11 (some<|.ref 6) 12 ⟨boot_heap w.params,⟨[]⟩,boot_drawn,boot_toks,os⟩ (topStub eE)=some ((pH w os).abs,⟨denote treeTable code,code,h_,[topFrame h_]⟩):=by rw[PySem.W.Fast.te15667345088766844465,PySem.W.Fast.te14364793385576792824,PySem.W.Fast.te11892475500146522536];exact λw os=>kl (kl (f:=λw os=>PySem.W.Fast.tw15667345088766844465 PySem.W.Fast.tw14364793385576792824 eE w 11 (some<|.ref 6) 12 ⟨boot_heap w.params,⟨[]⟩,boot_drawn,boot_toks,os⟩<|topStub eE) (g:=λw os=>some ((pH w os).abs,⟨PySem.W.Fast.tw11892475500146522536 PySem.W.Fast.tw14364793385576792824 code,code,h_,[topFrame h_]⟩)) (by kernel_rfl) w) os
theorem Vo:∀(w:World) (os:OsState),segRun treeTable eE w 11 (some<|.ref 6) 1 1 (pH w os).abs (blockOf (behindTheImports eE) de code h_ [topFrame h_])=some (.next,(pH w os).abs,code,h_):=by rw[PySem.W.Fast.te14374325043358763698,PySem.W.Fast.te14364793385576792824];exact λw os=>kl (kl (f:=λw os=>PySem.W.Fast.tw14374325043358763698 PySem.W.Fast.tw14364793385576792824 eE w 11 (some<|.ref 6) 1 1 (pH w os).abs<|blockOf (behindTheImports eE) de code h_ [topFrame h_]) (g:=λw os=>some (.next,(pH w os).abs,code,h_)) (by kernel_rfl) w) os
theorem W4:∀(w:World) (os:OsState),topRun treeTable eE w 11 (some<|.ref 6) 2 (Be w os).abs ⟨doneF .next,code,⟨1103,0,1107,32⟩,[topFrame h_]⟩=some (wc w os):=Xd (by kernel_rfl)
abbrev Run(n:Č)(X:World->OsState->SharedT)(a:Č)(p:Pos):Prop:=∀(w:World) (os:OsState),topRun treeTable eE w 11 (some<|.ref 6) n (X w os).abs (restOf (body.drop a) de code p [topFrame h_])=some (wc w os)
theorem gR.step{n N a k:Č}{X cx:World->OsState->SharedT}{p et:Pos}(h:gR n X cx (g6 a k) p et)(g:Run N cx (a+k) et):Run (n+N) X a p:=λw os=>by rw[Yi a k];exact piece_app (n:=n) (N:=N) (segRun_of<|h w os)<|g w os
theorem ND:Run 2 Be 188 ⟨1103,0,1107,32⟩:=λw os=>(Vc de code ⟨1103,0,1107,32⟩ [topFrame h_])▸W4 w os
theorem Ð:Run 7327 pH 0 ⟨0,0,0,0⟩:=by have h:=Nf.step<|P6.step<|UH.step<|Mf.step<|My.step<|QY.step<|Wn.step<|Ru.step<|O4.step<|Nl.step<|Nx.step<|Ñ.step<|Yh.step<|Pd.step<|RY.step<|Ma.step<|ZJ.step<|Oz.step<|Ou.step<|Tk.step<|PA.step ND;exact h
def loose:IF Str:=["_wall","KeepError","TooDeep","HostFault","Y_KEY","Y_BOOL","Y_STR","Y_NUM","Y_ENUM","Y_UNION","Y_INTER","Y_OBJ","Y_REF","Y_PARAM","Y_ARRAY","Y_TUPLE","Y_SIG","Y_KEYOF","Y_INDEX","Y_COND","Y_MAPPED","Y_TPL","Y_ALIAS","ANY","UNKNOWN","NEVER","VOID","UNDEF","NULLT","STRING","NUMBER","FALSE_T","TRUE_T","OBJECTT","EMPTY","BOOLEAN","ERR","FRESH_F","FRESH_T","P_OPT","P_READONLY","P_METHOD","P_PRIVATE","P_PROTECTED","P_GETONLY","P_ACCESS","E_NEED","E_OPT","E_REST","E_SPREAD","D_INTERFACE","FAM_OTHER","FAM_STR","FAM_NUM","FAM_BOOL","FAM_NULL","FAM_UNDEF","FAM_VOID","FAM_OBJ","MAX_UNION","FIRST_ROWS","MARKED_ROWS","OBJECT_ROWS","KEY_FAMILIES","TypeTable","Decl","kind_of","str_type","array_type","last_mark","needed_to_last","one_rest","tuple_type","sorted_props","obj_type","sig_type","func_type","new_param","new_decl","parts_of","whole_of_row","regular_twin","join_bools","stays_beside","top_of","union","without","add_undef","common_family","meet_family","family","MOST_PLAIN","PLAIN_ROWS","plain_shape","MOST_ROUNDS","MOST_SHAPES","Thin","RefHost","told_places","find_prop","is_digits","prop_row","read_type","MOST_CROSSED","OPEN_KINDS","is_open","unit_word","key_text","glue","hole_pieces","cross_holes","one_template","tpl_kind","is_public","Made","is_late_alias","undefless","optional_form","readonly_after","template_at","member_opt","member_kind","kindmap_member_flags","names_for","Keyed","put_member","build_members","shape_entries","map_array","spare_elem","map_elem","is_primitive","known_part","bound_tuple","lists_have","put_each","put_cell","put_shape","plainput_put_elems","put_call","without_own","put_late","plain_put","table_read","put_name","NameHost","_law_undef","_law_texts","_law_numbers","_law_take","_law_kind","_law_type","_law_atom","_law_back","_law_back_one","_law_plan","_law_at","_law_template","_law_object","_law_list","_law_lone","_law_slot","_law_told","_law_told_list","_law_choices","_law_rows","_law_numbered","_law_own","_law_free","_law_after","_law_digits","_law_held","_law_lies","_law_rooms","_law_sound","_law_round"].map Str.ofString
noncomputable abbrev jk:OpenLaw:=PySem.Challenge.rw_up0039_01
theorem ur:jk.wellSaid=true:=by
 unfold OpenLaw.wellSaid OpenRow.wellSaid OpenRow.partSaid looksOpen;repeat'(with_reducible refine look_both ?_ ?_)
 all_goals((try rw[PySem.W.Fast.te8326940854005059898]);(try rw[PySem.W.Fast.te8377067652309620493]);(try rw[PySem.W.Fast.te17119622794617984870]);(try rw[PySem.W.Fast.te8179353310426384613]);(try rw[PySem.W.Fast.te797321630700447069]);(try rw[PySem.W.Fast.te6984425678791042302]);(try rw[PySem.W.Fast.te10792542408131684335]);(try rw[PySem.W.Fast.te16286561074155671207]);(try rw[PySem.W.Fast.te9558739934217749035]);(try rw[PySem.W.Fast.te10501279942588096481]);(try rw[PySem.W.Fast.named_eq]);(try rw[PySem.W.Fast.te18344453789297297638]);(try rw[PySem.W.Fast.te5923862056798008813]);(try rw[PySem.W.Fast.te13343964577679436407]);(try rw[PySem.W.Fast.te17868728402115742887]);(try rw[PySem.W.Fast.te12879404354523853263]);(try rw[PySem.W.Fast.te482687673346738481]);(try rw[PySem.W.Fast.te14412699480532031325]);(try rw[PySem.W.Fast.te3471404346716756564]);decide+kernel)
theorem xf{av:Type}{f:av->ĉ}{l:IF av}(n:Č)(a:(l.take n).all f=true)(b:(l.drop n).all f=true):l.all f=true:=by rw[<-List.take_append_drop n l,List.all_append,a,b];rfl
theorem UQ{HU:Scope}{Jc:TablesWhole.Ctx}{b8:Scope}{l:IF Stmt}(h:l.all (TablesWhole.wS TablesWhole.holds HU Jc b8)=true):TablesWhole.wSs TablesWhole.holds HU Jc b8 l=true:=by
 induction l with
 |nil=>rfl
 |cons s r ap=>have h:=gA.mp h;exact gA.mpr ⟨h.1,ap h.2⟩
theorem told:TablesWhole.wSs TablesWhole.gather eE.main.scope ⟨eE.main.scope,[],[],[],none⟩ eE.main.scope body=[]:=by kernel_rfl
noncomputable abbrev vT (l:IF Stmt):Prop:=l.all (TablesWhole.wS TablesWhole.holds eE.main.scope ⟨eE.main.scope,[],[],[],none⟩ eE.main.scope)=true
theorem Pg:vT (body.take 80):=by kernel_rfl
theorem O8:vT ((body.drop 80).take 40):=by kernel_rfl
theorem Ä:vT (((body.drop 80).drop 40).take 25):=by kernel_rfl
theorem ZK:vT ((((body.drop 80).drop 40).drop 25).take 20):=by kernel_rfl
theorem UT:vT ((((body.drop 80).drop 40).drop 25).drop 20):=by kernel_rfl
theorem W7{p:Program}(aN:p.modules=[])(ae:p.parses=[])(ca:p.harvested=[])(n:TablesWhole.noTwice p.main.scope=true)(t:TablesWhole.wSs TablesWhole.gather p.main.scope ⟨p.main.scope,[],[],[],none⟩ p.main.scope p.main.body=[])(b:TablesWhole.wSs TablesWhole.holds p.main.scope ⟨p.main.scope,[],[],[],none⟩ p.main.scope p.main.body=true):p.tablesWhole=true:=by show TablesWhole.wProgram _ p=true;unfold TablesWhole.wProgram TablesWhole.wModule;rw[aN,ae,ca,t];show(true&&(TablesWhole.noTwice p.main.scope&&(TablesWhole.wSs TablesWhole.holds p.main.scope ⟨p.main.scope,[],[],[],none⟩ p.main.scope p.main.body&&true))&&(true&&(true&&(true&&true))))=true;rw[n,b];rfl
theorem OQ:TablesWhole.noTwice eE.main.scope=true:=by kernel_rfl
theorem yM:eE.tablesWhole=true:=W7 rfl rfl rfl OQ told<|UQ<|xf 80 Pg<|xf 40 O8<|xf 25 Ä<|xf 20 ZK UT
theorem Qo(w:World)(os:OsState):topRun treeTable eE w 11 (some<|.ref 6) 7340 ⟨boot_heap w.params,⟨[]⟩,boot_drawn,boot_toks,os⟩ (topStub eE)=some (wc w os):=go_top (n:=12) (N:=7328) (OU w os) (piece_block (n:=1) (N:=7327) (b:=behindTheImports eE) (Vo w os)<|by rw[Tw];exact Ð w os)
def oi:Program:=view eE [187]
theorem WT:opening eE=plainProg eE.main.scope.names:=by kernel_rfl
theorem Pe(s:Nd):fenceModules? eE s=some s:=by kernel_rfl
theorem PP:∀w:World,(fencedOpening treeTable eE w 20000).map (λs=>(s.heap,s.gens,s.drawn,s.toks))=some (boot_heap w.params,Array.mk [],boot_drawn,boot_toks):=boot_open WT (by decide+kernel) Pe
theorem Pn:∀w:World,((boot_heap w.params).isNs mainGlobals&&(Array.mk ([]:IF GenState)).size==0,(boot_heap w.params).objs.size,(boot_heap w.params).nsMap mainGlobals "__annotations__")=(true,11,some<|.ref 6):=λw=>by kernel_rfl
theorem W2(w:World):staticsOk (importedModules eE.main.body) (boot_heap w.params) (iU w.params)=true:=by kernel_rfl
theorem Ym(w:World):namesBound eE (iU w.params)=true:=by kernel_rfl
theorem Te(w:World):laidKept (boot_heap w.params) (iU w.params)=true:=by kernel_rfl
theorem S0:(λw os=>PySem.W.Fast.tw4187177175401517315 oi loose (importedModules eE.main.body) (λ_=>true) true<|wc w os)=λ(_:World) (_:OsState)=>openGood oi loose:=by kernel_rfl
theorem left:LeftO eE oi loose (λ_=>true) Shared.heap (λw=>iU w.params) 20000 true:=LeftO.of_pieces (H₀:=boot_heap) (H₁:=iU) (gs₀:=⟨[]⟩) (gs₁:=⟨[]⟩) (d₀:=boot_drawn) (d₁:={}) (k₀:=boot_toks) (k₁:=1858) (m₀:=11) (ann:=some<|.ref 6) (M:=7340) PP Pn Qo (by decide+kernel) λw=>by
 funext os;refine m9 ?_<|m9 ?_ rfl
 .show(_&&_&&_&&_)=true;rw[W2,Ym,Te];rfl
 .show openSeen oi loose (importedModules eE.main.body) (λ_=>true) true (wc w os)=openGood oi loose;rw[PySem.W.Fast.te4187177175401517315];exact kl (kl S0 w) os
noncomputable abbrev pr:DefRec:=⟨Str.ofString "law",lx<|aL 187,p2<|aL 187,b8<|aL 187,⟨1103,0,1107,32⟩⟩
theorem LQ:defOf oi jk.row.name=some (pr,[]):=by kernel_rfl
theorem XA:jk.row.prog.theDef jk.row.name=some (pr.params,pr.body,pr.scope):=by kernel_rfl
theorem LS:kwWritten? pr.params.kwonlyargs pr.params.kw_defaults=some []:=by kernel_rfl
theorem CV:(chainsOk oi&&opensWell jk.row.prog&&(frees jk.row.toRowW&&jk.row.within.isEmpty))=true:=by kernel_rfl
theorem QI:jk.row.prog.bare:=⟨rfl,rfl,rfl,rfl,rfl,yM⟩
abbrev Kept(w:World)(h:Heap):Prop:=∀b o,(iU w.params).get? b=some o->h.get? b=some o
theorem head(bF:jk.row.toRowW.promised)(call:WalkO oi loose (λ_ _=>True) Kept jk.row.toRowW pr [] (λf vs=>PySem.call f vs)):jk.Holds:=holds_law ur λfG=>holds_open (q:=oi) (loose:=loose) (Xt:=λ_=>true) (XP:=λ_ _=>True) (Yf:=Shared.heap) (Ya:=λw=>iU w.params) (YP:=Kept) (d:=pr) (kwd:=[]) (N:=20000) left (λw s e b o h=>by rw[e];exact h) (λw h aR y k b o e=>k b o<|y b o e) (λ_ _=>trivial) (λ_ _ _ _ _=>trivial) LQ XA LS (λ_ _=>recFacts_nil rfl) rfl fG CV QI bF call
set_option tactic.hygienic false
theorem ö{av:Type}{c:Prop}[Decidable c]{f:c->Ċ av}{z:av}(h:(if h:c then f h else none)=some z):∃aU,f aU=some z:=by
 by_cases cw:c
 .rw[dif_pos cw]at h;exact⟨cw,h⟩
 .rw[dif_neg cw]at h;exact b0 h
theorem g4{av:Type}{p:Prop}[Decidable p]{x:Ċ av}{y:av}(h:(if p then x else none)=some y):p/\x=some y:=by
 by_cases c:p
 .rw[bl c]at h;exact⟨c,h⟩
 .rw[bm c]at h;exact b0 h
theorem Ag{av:Type}{p:Prop}[Decidable p]{x y z:av}(h:(if p then x else y)=z):x=z\/y=z:=by
 by_cases c:p
 .rw[bl c]at h;exact .inl h
 .rw[bm c]at h;exact .inr h
theorem vp{av:Type}{n:Č}{x y:av}(h:i7 n x=some y):n<=a3/\x=y:=(g4 h).imp id cV
theorem fE.of{dB:Type}{y:B}{z:dB}{k:č->Ċ dB}(h:fE y k=some z):∃a,y=.int a/\k a=some z:=by induction y using B.casesOn<;>first|exact⟨_,rfl,h⟩|exact b0 h
theorem l2.of{dB:Type}{y:B}{z:dB}{k:bx->Ċ dB}(h:l2 y k=some z):∃a,y=.str a/\k a=some z:=by induction y using B.casesOn<;>first|exact⟨_,rfl,h⟩|exact b0 h
theorem ta.of{dB:Type}{y:B}{z:dB}{k:IF B->Ċ dB}(h:ta y k=some z):∃a,y=.tup a/\k a=some z:=by induction y using B.casesOn<;>first|exact⟨_,rfl,h⟩|exact b0 h
theorem k8.of{dB:Type}{y:B}{z:dB}{k:IF B->Ċ dB}(h:k8 y k=some z):∃a,y=.lst a/\k a=some z:=by induction y using B.casesOn<;>first|exact⟨_,rfl,h⟩|exact b0 h
theorem sU.of{dB:Type}{y:B}{z:dB}{k:Ċ dB}(h:sU y k=some z):y=.none/\k=some z:=(g4 h).imp B.GL id
theorem oO.of{dB:Type}{s:St}{o:B}{z:dB}{k:Č->Č->IF (Č×B)->Ċ dB}(h:oO s o k=some z):dI λn c l=>dJ (o=.ref n) (s[n]?=some (.ins c l)) (k n c l=some z):=by
 induction o using B.casesOn with
 |ref n=>
  obtain⟨ct,aK,h⟩:=Option.bind_eq_some_iff.mp<|show(s[n]?).bind _=some z from h;induction ct using c5.casesOn with
  |ins c l=>exact⟨n,c,l,rfl,aK,h⟩
  |_=>exact b0 h
 |_=>exact b0 h
inductive eu where
 |none
 |a5 (o:Obj)
 |loc (k:Nat)
 |kS (x:Str)
 |own (i:Nat)
 |st (n:Nat)
 |cF (n:Nat)
 |ext
def eu.ctorIdx (x:eu):Č:=eu.casesOn x 0 (λ_=>1) (λ_=>2) (λ_=>3) (λ_=>4) (λ_=>5) (λ_=>6) 7
theorem bR{a b:eu}{cR:Prop}(h:a=b)(n:(a.ctorIdx==b.ctorIdx)=false):cR:=DP _ h n
theorem HH{a b:Ĉ}{cR:Prop}(h:a=b)(n:(a.ctorIdx==b.ctorIdx)=false):cR:=DP _ h n
abbrev aY:=Addr->eu
def eu.kept:eu->Prop
 |.a5 _|.loc _|.kS _|.own _|.ext=>True
 |_=>False
def eu.ip:eu->Prop
 |.a5 _|.ext=>True
 |_=>False
def eu.free:eu->Prop
 |.loc _|.kS _|.own _|.ext=>True
 |_=>False
def eu.one:eu->Prop
 |.loc _|.kS _|.own _|.st _|.cF _=>True
 |_=>False
theorem eu.ip.kept{r:eu}(h:r.ip):r.kept:=by induction r<;>first|trivial|exact h.elim
noncomputable abbrev ec (Vs:Array Ĉ) (n:Č):Obj:=⟨.type "tuple",none,.seq Vs n,#[]⟩
noncomputable abbrev cu (Vs:Array Ĉ) (n:Č):Obj:=⟨.type "list",none,.seq Vs n,#[]⟩
noncomputable abbrev ej (es:Array DictEntry) (n:Č):Obj:=⟨.type "dict",none,.dict es n,#[]⟩
noncomputable abbrev kB (ah d:Addr):Obj:=⟨.ref ah,some d,.plain,#[]⟩
noncomputable abbrev pk (a b:č) (t u v:Tok):Obj:=⟨.type "range",none,.fields #[.int a t,.int b u,.int 1 v],#[]⟩
mutual
noncomputable def jG (P:Params):B->č
 |.int i=>hashInt i
 |.str l=>PyData.keyHash P ⟨l.toArray⟩
 |.tup l=>reduceHash<|Builtin.Tuple.tupleHashOf<|lL P l
 |_=>0
noncomputable def lL (P:Params):IF B->IF č
 |[]=>[]
 |v::r=>jG P v::lL P r
end
mutual
inductive bA (P:Params) (C:aY):B->Value->Prop where
 |none:bA P C .none .none
 |bool (b:Bool):bA P C (.bool b) (.bool b)
 |int (i:Int) (t:Tok):bA P C (.int i) (.int i t)
 |str (l:List Nat) (t:Tok):l.length<=a3->bA P C (.str l) (.str ⟨l.toArray⟩ t)
 |tup {l:List B} {a:Addr} {Vs:List Value} {n:Nat}:C a=.a5 (ec Vs.toArray n)->bD P C l Vs->l.length<=a3->bA P C (.tup l) (.ref a)
 |lst {l:List B} {a:Addr} {Vs:List Value} {n:Nat}:C a=.a5 (cu Vs.toArray n)->bD P C l Vs->l.length<=a3->bA P C (.lst l) (.ref a)
 |bb {l:List (B×B)} {a:Addr} {es:List DictEntry} {n:Nat}:C a=.a5 (ej es.toArray n)->ea P C l es->l.length<=a3->(l.map Prod.fst).Nodup->(a==sysModules)=false->bA P C (.bb l) (.ref a)
 |ref {n:Nat} {a:Addr}:C a=.st n->bA P C (.ref n) (.ref a)
 |ez {a b:Int} {x:Addr} {t u v:Tok}:C x=.a5 (pk a b t u v)->small a=true->small b=true->(b-a).toNat<=a3->bA P C (.ez a b) (.ref x)
inductive bD (P:Params) (C:aY):List B->List Value->Prop where
 |nil:bD P C [] []
 |cons {v:B} {V:Value} {l:List B} {Vs:List Value}:bA P C v V->bD P C l Vs->bD P C (v::l) (V::Vs)
inductive ea (P:Params) (C:aY):List (B×B)->List DictEntry->Prop where
 |nil:ea P C [] []
 |cons {k v:B} {K V:Value} {l:List (B×B)} {es:List DictEntry}:bA P C k K->bA P C v V->ea P C l es->ea P C ((k,v)::l) (⟨jG P k,K,V⟩::es)
end
theorem bD.ind{P:Params}{C:aY}{M:IF B->IF Ĉ->Prop}(n:M [] [])(c:∀{v V l Vs},bA P C v V->bD P C l Vs->M l Vs->M (v::l) (V::Vs)){l:IF B}{Vs:IF Ĉ}(h:bD P C l Vs):M l Vs:=bD.rec (motive_1:=λ_ _ _=>True) (motive_2:=λl Vs _=>M l Vs) (motive_3:=λ_ _ _=>True) trivial (λ_=>trivial) (λ_ _=>trivial) (λ_ _ _=>trivial) (λ_ _ _ _=>trivial) (λ_ _ _ _=>trivial) (λ_ _ _ _ _ _=>trivial) (λ_=>trivial) (λ_ _ _ _=>trivial) n (λa r _ m=>c a r m) trivial (λ_ _ _ _ _ _=>trivial) h
theorem ea.ind{P:Params}{C:aY}{M:IF (B×B)->IF DictEntry->Prop}(n:M [] [])(c:∀{k v K V l es},bA P C k K->bA P C v V->ea P C l es->M l es->M ((k,v)::l) (⟨jG P k,K,V⟩::es)){l:IF (B×B)}{es:IF DictEntry}(h:ea P C l es):M l es:=ea.rec (motive_1:=λ_ _ _=>True) (motive_2:=λ_ _ _=>True) (motive_3:=λl es _=>M l es) trivial (λ_=>trivial) (λ_ _=>trivial) (λ_ _ _=>trivial) (λ_ _ _ _=>trivial) (λ_ _ _ _=>trivial) (λ_ _ _ _ _ _=>trivial) (λ_=>trivial) (λ_ _ _ _=>trivial) trivial (λ_ _ _ _=>trivial) n (λa b r _ _ m=>c a b r m) h
section
variable{P:Params}{C aO:aY}(G:∀a o,C a=.a5 o->aO a=.a5 o)(E:∀a n,C a=.st n->aO a=.st n)
include G E
theorem bA.mono{v:B}{V:Ĉ}(h:bA P C v V):bA P aO v V:=bA.rec (motive_1:=λv V _=>bA P aO v V) (motive_2:=λl Vs _=>bD P aO l Vs) (motive_3:=λl es _=>ea P aO l es) .none .bool .int .str (λe _ c r=>.tup (G _ _ e) r c) (λe _ c r=>.lst (G _ _ e) r c) (λe _ c d f r=>.bb (G _ _ e) r c d f) (λe=>.ref<|E _ _ e) (λe a b c=>.ez (G _ _ e) a b c) .nil (λ_ _ a r=>.cons a r) .nil (λ_ _ _ a b r=>.cons a b r) h
theorem bD.mono{l:IF B}{Vs:IF Ĉ}(h:bD P C l Vs):bD P aO l Vs:=bD.ind (M:=bD P aO) .nil (λa _ m=>.cons (a.mono G E) m) h
theorem ea.mono{l:IF (B×B)}{es:IF DictEntry}(h:ea P C l es):ea P aO l es:=ea.ind (M:=ea P aO) .nil (λa b _ m=>.cons (a.mono G E) (b.mono G E) m) h
end
section
variable{P:Params}{C:aY}{l:IF B}{Vs:IF Ĉ}
def AG(P:Params)(C:aY)(v:B)(V:Ĉ):Prop:=match v with
 |.none=>V=.none
 |.bool b=>V=.bool b
 |.int i=>∃t,V=.int i t
 |.str l=>∃t,V=.str ⟨l.toArray⟩ t/\l.length<=a3
 |.tup l=>dI λa Vs n=>hU (V=.ref a) (C a=.a5 (ec Vs.toArray n)) (bD P C l Vs)<|l.length<=a3
 |.lst l=>dI λa Vs n=>hU (V=.ref a) (C a=.a5 (cu Vs.toArray n)) (bD P C l Vs)<|l.length<=a3
 |.bb l=>dI λa es n=>rN (V=.ref a) (C a=.a5 (ej es.toArray n)) (ea P C l es) (l.length<=a3) (l.map Prod.fst).Nodup<|(a==sysModules)=false
 |.ref n=>∃a,V=.ref a/\C a=.st n
 |.ez a b=>gV λx t u w=>qG (V=.ref x) (C x=.a5 (pk a b t u w)) (small a=true) (small b=true)<|(b-a).toNat<=a3
theorem bA.of{v:B}{V:Ĉ}(h:bA P C v V):AG P C v V:=bA.casesOn (motive_1:=λv V _=>AG P C v V) h rfl (λ_=>rfl) (λ_ t=>⟨t,rfl⟩) (λ_ t c=>⟨t,rfl,c⟩) (λa b c=>⟨_,_,_,rfl,a,b,c⟩) (λa b c=>⟨_,_,_,rfl,a,b,c⟩) (λa b c d e=>⟨_,_,_,rfl,a,b,c,d,e⟩) (λa=>⟨_,rfl,a⟩)<|λa b c d=>⟨_,_,_,_,rfl,a,b,c,d⟩
def K1(P:Params)(C:aY)(l:IF B)(Vs:IF Ĉ):Prop:=match l with
 |[]=>Vs=[]
 |v::l=>dX λV bC=>dJ (Vs=V::bC) (bA P C v V)<|bD P C l bC
theorem bD.of(h:bD P C l Vs):K1 P C l Vs:=bD.casesOn (motive_2:=λl Vs _=>K1 P C l Vs) h rfl λa r=>⟨_,_,rfl,a,r⟩
theorem bD.lG{v:B}(h:bD P C (v::l) Vs):dX λV bC=>dJ (Vs=V::bC) (bA P C v V) (bD P C l bC):=h.of
theorem bD.length(h:bD P C l Vs):Vs.length=l.length:=bD.ind (M:=λl Vs=>Vs.length=l.length) rfl (λ_ _ m=>bH Nat.succ m) h
theorem bD.get(h:bD P C l Vs):∀{i:Č} {v:B},l[i]?=some v->∃V,Vs[i]?=some V/\bA P C v V:=bD.ind (M:=λl Vs=>∀{i:Č} {v:B},l[i]?=some v->∃V,Vs[i]?=some V/\bA P C v V) (λe=>b0 e) (λa _ m=>λ{i} _ e=>by
 induction i with
 |zero=>exact⟨_,rfl,cV e▸a⟩
 |succ i=>exact m (i:=i) e) h
theorem bD.append{m:IF B}{bC:IF Ĉ}(h:bD P C l Vs)(y:bD P C m bC):bD P C (l++m) (Vs++bC):=bD.ind (M:=λl Vs=>bD P C (l++m)<|Vs++bC) y (λa _ m=>.cons a m) h
theorem bD.drop(h:bD P C l Vs):∀n,bD P C (l.drop n) (Vs.drop n):=bD.ind (M:=λl Vs=>∀n,bD P C (l.drop n) (Vs.drop n)) (λn=>by induction n<;>exact .nil) (λa r m n=>by
 induction n with
 |zero=>exact .cons a r
 |succ n=>exact m n) h
theorem bD.take(h:bD P C l Vs):∀n,bD P C (l.take n) (Vs.take n):=bD.ind (M:=λl Vs=>∀n,bD P C (l.take n) (Vs.take n)) (λn=>by induction n<;>exact .nil) (λa r m n=>by
 induction n with
 |zero=>exact .nil
 |succ n=>exact .cons a (m n)) h
theorem bD.reverse(h:bD P C l Vs):bD P C l.reverse Vs.reverse:=bD.ind (M:=λl Vs=>bD P C l.reverse Vs.reverse) .nil (λa _ m=>by rw[List.reverse_cons,List.reverse_cons];exact bD.append m<|.cons a .nil) h
theorem bD.set{v:B}{V:Ĉ}(x:bA P C v V)(h:bD P C l Vs):∀i,bD P C (l.set i v) (Vs.set i V):=bD.ind (M:=λl Vs=>∀i,bD P C (l.set i v) (Vs.set i V)) (λ_=>.nil) (λa r m i=>by
 induction i with
 |zero=>exact .cons x r
 |succ i=>exact .cons a (m i)) h
end
inductive i4 (P:Params) (C:aY) (an:Nat->Str):List (Nat×B)->List DictEntry->Prop where
 |nil:i4 P C an [] []
 |cons {a:Nat} {v:B} {t:Tok} {V:Value} {l:List (Nat×B)} {es:List DictEntry}:bA P C v V->i4 P C an l es->i4 P C an ((a,v)::l) (⟨PyData.keyHash P (an a),.str (an a) t,V⟩::es)
theorem i4.mono{P:Params}{C aO:aY}{an:Č->Str}(G:∀a o,C a=.a5 o->aO a=.a5 o)(E:∀a n,C a=.st n->aO a=.st n){l:IF (Č×B)}{es:IF DictEntry}(h:i4 P C an l es):i4 P aO an l es:=i4.rec (motive:=λl es _=>i4 P aO an l es) .nil (λa _ m=>.cons (a.mono G E) m) h
structure g3 where
 an:Nat->Str
 cl:Nat->Addr
inductive lf (P:Params) (N:g3) (C:aY) (h:Heap) (n:Nat):c5->Prop where
 |ls {l:List B} {a:Addr} {Vs:List Value} {k:Nat}:C a=.st n->h.get? a=some (cu Vs.toArray k)->bD P C l Vs->l.length<=a3->lf P N C h n (.ls l)
 |cP {l:List (B×B)} {a:Addr} {es:List DictEntry} {k:Nat}:C a=.st n->h.get? a=some (ej es.toArray k)->ea P C l es->l.length<=a3->(l.map Prod.fst).Nodup->lf P N C h n (.cP l)
 |ins {c:Nat} {l:List (Nat×B)} {a d:Addr} {es:List DictEntry} {k:Nat}:C a=.st n->C d=.cF n->h.get? a=some (kB (N.cl c) d)->h.get? d=some (ej es.toArray k)->i4 P C N.an l es->(l.map Prod.fst).Nodup->c<7->lf P N C h n (.ins c l)
def K6(P:Params)(N:g3)(C:aY)(h:Heap)(n:Č)(ct:c5):Prop:=match ct with
 |.ls l=>dI λa Vs k=>hU (C a=.st n) (h.get? a=some (cu Vs.toArray k)) (bD P C l Vs)<|l.length<=a3
 |.cP l=>dI λa es k=>qG (C a=.st n) (h.get? a=some (ej es.toArray k)) (ea P C l es) (l.length<=a3) (l.map Prod.fst).Nodup
 |.ins c l=>gV λa d es k=>G2 (C a=.st n) (C d=.cF n) (h.get? a=some (kB (N.cl c) d)) (h.get? d=some (ej es.toArray k)) (i4 P C N.an l es) (l.map Prod.fst).Nodup<|c<7
theorem lf.of{P:Params}{N:g3}{C:aY}{h:Heap}{n:Č}{ct:c5}(s:lf P N C h n ct):K6 P N C h n ct:=lf.casesOn (motive:=λct _=>K6 P N C h n ct) s (λa b c d=>⟨_,_,_,a,b,c,d⟩) (λa b c d e=>⟨_,_,_,a,b,c,d,e⟩)<|λa b c d e f g=>⟨_,_,_,_,a,b,c,d,e,f,g⟩
structure Inv(P:Params)(N:g3)(H:Heap)(os:OsState)(C:aY)(J:St)(s:Shared):Prop where
 alloc:∀a,C a≠.none->(s.heap.get? a).isSome=true
 uniq:∀a b,C a=C b->(C a).one->a=b
 a5:∀a o,C a=.a5 o->s.heap.get? a=some o
 store:∀n ct,J[n]?=some ct->lf P N C s.heap n ct
 base:∀a o,H.get? a=some o->C a=.a5 o
 gens:s.gens=#[]
 hL:s.os=os
 gx:∀a n,(C a=.st n\/C a=.cF n)->n<J.length
theorem Inv.fresh{P:Params}{N:g3}{H:Heap}{os:OsState}{C:aY}{J:St}{s:Nd}(I:Inv P N H os C J s){a:Addr}(h:s.heap.objs.size<=a):C a=.none:=by
 induction e:C a with
 |none=>rfl
 |_=>obtain⟨o,aA⟩:=ha.mp (I.alloc a<|by rw[e];intro q;cases q);exact absurd (j5 aA)<|rk.mpr h
structure br(C:aY)(s:Shared)(aO:aY)(ar:Shared):Prop where
 kept:∀a o,s.heap.get? a=some o->(C a).kept->ar.heap.get? a=some o/\aO a=C a
 st:∀a n,C a=.st n->aO a=.st n
 cF:∀a n,C a=.cF n->aO a=.cF n
structure ew(C:aY)(s:Shared)(aO:aY)(ar:Shared):Prop where
 ip:∀a o,s.heap.get? a=some o->(C a).ip->ar.heap.get? a=some o/\aO a=C a
 st:∀a n,C a=.st n->aO a=.st n
 cF:∀a n,C a=.cF n->aO a=.cF n
theorem br.refl(C:aY)(s:Nd):br C s C s:=⟨λ_ _ e _=>⟨e,rfl⟩,λ_ _ e=>e,λ_ _ e=>e⟩
theorem ew.refl(C:aY)(s:Nd):ew C s C s:=⟨λ_ _ e _=>⟨e,rfl⟩,λ_ _ e=>e,λ_ _ e=>e⟩
theorem br.trans{C bL cq:aY}{s bt b_:Nd}(x:br C s bL bt)(y:br bL bt cq b_):br C s cq b_:=⟨λa o e k=>let⟨ag,hq⟩:=x.kept a o e k;let⟨a8,ko⟩:=y.kept a o ag (by rw[hq];exact k);⟨a8,ko.trans hq⟩,λa n e=>y.st a n<|x.st a n e,λa n e=>y.cF a n<|x.cF a n e⟩
theorem ew.trans{C bL cq:aY}{s bt b_:Nd}(x:ew C s bL bt)(y:ew bL bt cq b_):ew C s cq b_:=⟨λa o e k=>let⟨ag,hq⟩:=x.ip a o e k;let⟨a8,ko⟩:=y.ip a o ag (by rw[hq];exact k);⟨a8,ko.trans hq⟩,λa n e=>y.st a n<|x.st a n e,λa n e=>y.cF a n<|x.cF a n e⟩
theorem br.zero{C aO:aY}{s ar:Nd}(x:br C s aO ar):ew C s aO ar:=⟨λa o e k=>x.kept a o e k.kept,x.st,x.cF⟩
section
variable{P:Params}{N:g3}{H:Heap}{os:OsState}{C aO:aY}{J bG:St}{s ar:Nd}
theorem ew.ot(x:ew C s aO ar)(I:Inv P N H os C J s):∀a o,C a=.a5 o->aO a=.a5 o:=λa o e=>(x.ip a o (I.a5 a o e)<|by rw[e];trivial).2.trans e
theorem ew.hg(x:ew C s aO ar)(I:Inv P N H os C J s){v:B}{V:Ĉ}(h:bA P C v V):bA P aO v V:=h.mono (x.ot I) x.st
theorem ew.iN(x:ew C s aO ar)(I:Inv P N H os C J s){v:IF B}{V:IF Ĉ}(h:bD P C v V):bD P aO v V:=h.mono (x.ot I) x.st
theorem br.hg(x:br C s aO ar)(I:Inv P N H os C J s){v:B}{V:Ĉ}(h:bA P C v V):bA P aO v V:=x.zero.hg I h
theorem br.iN(x:br C s aO ar)(I:Inv P N H os C J s){v:IF B}{V:IF Ĉ}(h:bD P C v V):bD P aO v V:=x.zero.iN I h
theorem Inv.toks(I:Inv P N H os C J s)(t:Č):Inv P N H os C J {s with toks:=t}:=⟨I.alloc,I.uniq,I.a5,I.store,I.base,I.gens,I.hL,I.gx⟩
theorem br.toks(C:aY)(s:Nd)(t:Č):br C s C {s with toks:=t}:=⟨λ_ _ e _=>⟨e,rfl⟩,λ_ _ e=>e,λ_ _ e=>e⟩
end
def cC (C:aY) (a:Addr) (r:eu):aY:=λb=>if b=a then r else C b
theorem c2(C:aY)(a:Addr)(r:eu):cC C a r a=r:=bl rfl
theorem bX{C:aY}{a b:Addr}{r:eu}(h:b≠a):cC C a r b=C b:=bm h
theorem lf.mono{P:Params}{N:g3}{C aO:aY}{h aR:Heap}{n:Č}{ct:c5}(G:∀a o,C a=.a5 o->aO a=.a5 o)(E:∀a n,C a=.st n->aO a=.st n)(aC:∀a n,C a=.cF n->aO a=.cF n)(k:∀a o,(C a=.st n\/C a=.cF n)->h.get? a=some o->aR.get? a=some o):lf P N C h n ct->lf P N aO aR n ct
 |.ls a b c d=>.ls (E _ _ a) (k _ _ (.inl a) b) (c.mono G E) d
 |.cP a b c d e=>.cP (E _ _ a) (k _ _ (.inl a) b) (c.mono G E) d e
 |.ins a b c d e f g=>.ins (E _ _ a) (aC _ _ b) (k _ _ (.inl a) c) (k _ _ (.inr b) d) (e.mono G E) f g
section
variable{P:Params}{N:g3}{H:Heap}{os:OsState}{C:aY}{J:St}{s:Nd}
theorem Inv.grow(I:Inv P N H os C J s){aR:Heap}(k:∀b o,s.heap.get? b=some o->aR.get? b=some o)(t:Č):Inv P N H os C J {s with heap:=aR,toks:=t}:=⟨λa h=>by obtain⟨o,aA⟩:=ha.mp<|I.alloc a h;rw[show({s with heap:=aR,toks:=t}:Nd).heap.get? a=some o from k a o aA];rfl,I.uniq,λa o e=>k a o<|I.a5 a o e,λn ct e=>(I.store n ct e).mono (λ_ _ e=>e) (λ_ _ e=>e) (λ_ _ e=>e) λa o _ e=>k a o e,I.base,I.gens,I.hL,I.gx⟩
theorem br.grow(C:aY){s:Nd}{aR:Heap}(k:∀b o,s.heap.get? b=some o->aR.get? b=some o)(t:Č):br C s C {s with heap:=aR,toks:=t}:=⟨λa o e _=>⟨k a o e,rfl⟩,λ_ _ e=>e,λ_ _ e=>e⟩
end
section
variable{P:Params}{N:g3}{H:Heap}{os:OsState}{C:aY}{J:St}{s:Nd}
theorem Inv.push(I:Inv P N H os C J s)(o:Obj)(a7:o.isFreed=false)(r:eu)(bn:r=.a5 o\/r=.ext):Inv P N H os (cC C s.heap.objs.size r) J {s with heap:=s.heap.push o}:=by
 have fd:=I.fresh (a:=s.heap.objs.size)<|dA _;have ne:∀a,C a≠.none->a≠s.heap.objs.size:=λa h q=>h<|q▸fd;have Gq:¬r.one:=by rcases bn with rfl|rfl<;>exact id
 refine⟨λa h=>?_,λa b e h=>?_,λa cB e=>?_,λn ct e=>?_,λa cB e=>?_,I.gens,I.hL,λa n e=>?_⟩
 .by_cases q:a=s.heap.objs.size
  .subst q;rw[show({s with heap:=s.heap.push o}:Nd).heap.get? s.heap.objs.size=some o from gZ _ a7];rfl
  .rw[bX q]at h;obtain⟨cB,aA⟩:=ha.mp<|I.alloc a h;rw[show({s with heap:=s.heap.push o}:Nd).heap.get? a=some cB from ik _ aA];rfl
 .by_cases f':a=s.heap.objs.size
  .subst f';rw[c2]at h;exact absurd h Gq
  .rw[bX f']at e h;by_cases e_:b=s.heap.objs.size
   .subst e_;rw[c2]at e;rw[e]at h;exact absurd h Gq
   .rw[bX e_]at e;exact I.uniq a b e h
 .by_cases q:a=s.heap.objs.size
  .subst q;rw[c2]at e;rcases bn with bn|bn<;>rw[bn]at e
   .cases e;exact gZ _ a7
   .cases e
  .rw[bX q]at e;exact ik _<|I.a5 a cB e
 .refine(I.store n ct e).mono (λa cB e=>?_) (λa m e=>?_) (λa m e=>?_) λa cB _ e=>ik _ e;all_goals rw[bX<|ne a<|by rw[e];intro q;cases q];exact e
 .rw[bX<|ne a<|by rw[I.base a cB e];intro q;cases q];exact I.base a cB e
 .by_cases q:a=s.heap.objs.size
  .subst q;rw[c2]at e;rcases bn with rfl|rfl<;>rcases e with e|e<;>cases e
  .rw[bX q]at e;exact I.gx a n e
theorem br.push(I:Inv P N H os C J s)(o:Obj)(r:eu):br C s (cC C s.heap.objs.size r) {s with heap:=s.heap.push o}:=by
 have ne:∀a,C a≠.none->a≠s.heap.objs.size:=λa h q=>h<|q▸(I.fresh (a:=s.heap.objs.size)<|dA _);refine⟨λa cB e k=>⟨ik _ e,bX<|ne a ?_⟩,λa n e=>?_,λa n e=>?_⟩
 .intro q;rw[q]at k;exact k
 .rw[bX<|ne a<|by rw[e];intro q;cases q];exact e
 .rw[bX<|ne a<|by rw[e];intro q;cases q];exact e
end
section
variable{P:Params}{N:g3}{H:Heap}{os:OsState}{C dr:aY}{J:St}{s eS:Nd}
theorem Inv.upd(I:Inv P N H os C J s){d:Addr}(bg:(C d).free){aR:Heap}(k:∀b o,b≠d->s.heap.get? b=some o->aR.get? b=some o)(aB:(aR.get? d).isSome=true)(t:Č):Inv P N H os C J {s with heap:=aR,toks:=t}:=by
 have ne:∀{a:Addr} {r:eu},C a=r->¬r.free->a≠d:=λe h q=>h<|e▸q▸bg;refine⟨λa h=>?_,I.uniq,λa o e=>k a o (ne e id)<|I.a5 a o e,λn ct e=>(I.store n ct e).mono (λ_ _ e=>e) (λ_ _ e=>e) (λ_ _ e=>e) λa o h e=>k a o ?_ e,I.base,I.gens,I.hL,I.gx⟩
 .by_cases q:a=d
  .subst q;exact aB
  .obtain⟨o,aA⟩:=ha.mp<|I.alloc a h;rw[show({s with heap:=aR,toks:=t}:Nd).heap.get? a=some o from k a o q aA];rfl
 .rcases h with h|h<;>exact ne h id
theorem br.upd(x:br dr eS C s){d:Addr}(am:¬(dr d).kept){aR:Heap}(k:∀b o,b≠d->s.heap.get? b=some o->aR.get? b=some o)(t:Č):br dr eS C {s with heap:=aR,toks:=t}:=⟨λa o e ev=>let⟨ag,a8⟩:=x.kept a o e ev;⟨k a o (λq=>am<|q▸ev) ag,a8⟩,x.st,x.cF⟩
theorem ew.upd(x:ew dr eS C s){d:Addr}(am:¬(dr d).ip){aR:Heap}(k:∀b o,b≠d->s.heap.get? b=some o->aR.get? b=some o)(t:Č):ew dr eS C {s with heap:=aR,toks:=t}:=⟨λa o e ev=>let⟨ag,a8⟩:=x.ip a o e ev;⟨k a o (λq=>am<|q▸ev) ag,a8⟩,x.st,x.cF⟩
theorem Inv.turn(I:Inv P N H os C J s){d:Addr}{o:Obj}(bg:(C d).free)(aA:s.heap.get? d=some o):Inv P N H os (cC C d<|.a5 o) J s:=by
 have ne:∀{a:Addr} {r:eu},C a=r->¬r.free->a≠d:=λe h q=>h<|e▸q▸bg;refine⟨λa h=>?_,λa b e h=>?_,λa cB e=>?_,λn ct e=>(I.store n ct e).mono (λa o e=>?_) (λa m e=>?_) (λa m e=>?_) λa o _ e=>e,λa cB e=>?_,I.gens,I.hL,λa n e=>?_⟩
 .by_cases q:a=d
  .subst q;rw[aA];rfl
  .rw[bX q]at h;exact I.alloc a h
 .by_cases f':a=d
  .subst f';rw[c2]at h;exact h.elim
  .rw[bX f']at e h;by_cases e_:b=d
   .subst e_;rw[c2]at e;rw[e]at h;exact h.elim
   .rw[bX e_]at e;exact I.uniq a b e h
 .by_cases q:a=d
  .subst q;rw[c2]at e;cases e;exact aA
  .rw[bX q]at e;exact I.a5 a cB e
 .rw[bX<|ne e id];exact e
 .rw[bX<|ne e id];exact e
 .rw[bX<|ne e id];exact e
 .rw[bX<|ne (I.base a cB e) id];exact I.base a cB e
 .by_cases q:a=d
  .subst q;rw[c2]at e;rcases e with e|e<;>cases e
  .rw[bX q]at e;exact I.gx a n e
theorem br.turn(x:br dr eS C s){d:Addr}{r:eu}(am:¬(dr d).kept)(bg:C d=.ext):br dr eS (cC C d r) s:=⟨λa o e ev=>let⟨ag,a8⟩:=x.kept a o e ev;⟨ag,(bX (b:=a) λ(q:a=d)=>am<|q▸ev).trans a8⟩,λa n e=>(bX (b:=a) λ(q:a=d)=>by have:=x.st a n e;rw[q,bg]at this;cases this).trans<|x.st a n e,λa n e=>(bX (b:=a) λ(q:a=d)=>by have:=x.cF a n e;rw[q,bg]at this;cases this).trans<|x.cF a n e⟩
theorem Inv.Q5(I:Inv P N H os C J s){l:IF B}{Vs:IF Ĉ}(af:bD P C l Vs)(aq:l.length<=a3):Inv P N H os (cC C s.heap.objs.size<|.st J.length) (J++[.ls l]) {s with heap:=s.heap.push (cu Vs.toArray 0)}:=by
 have fd:=I.fresh (a:=s.heap.objs.size)<|dA _;have ne:∀{a:Addr} {r:eu},C a=r->r≠.none->a≠s.heap.objs.size:=λe h q=>h<|e.symm.trans<|q▸fd;have G:∀a o,C a=.a5 o->cC C s.heap.objs.size (.st J.length) a=.a5 o:=λa o e=>(bX<|ne e<|λq=>nomatch q).trans e;have E:∀a n,C a=.st n->cC C s.heap.objs.size (.st J.length) a=.st n:=λa o e=>(bX<|ne e<|λq=>nomatch q).trans e;refine⟨λa h=>?_,λa b e h=>?_,λa cB e=>?_,λn ct e=>?_,λa cB e=>G _ _<|I.base a cB e,I.gens,I.hL,λa n e=>?_⟩
 .by_cases q:a=s.heap.objs.size
  .subst q;rw[show({s with heap:=s.heap.push (cu Vs.toArray 0)}:Nd).heap.get? s.heap.objs.size=some (cu Vs.toArray 0)from gZ _ rfl];rfl
  .rw[bX q]at h;obtain⟨cB,aA⟩:=ha.mp<|I.alloc a h;rw[show({s with heap:=s.heap.push (cu Vs.toArray 0)}:Nd).heap.get? a=some cB from ik _ aA];rfl
 .by_cases f':a=s.heap.objs.size
  .by_cases e_:b=s.heap.objs.size
   .rw[f',e_]
   .rw[f',c2,bX e_]at e;exact absurd (I.gx b J.length<|.inl e.symm)<|m7 _
  .rw[bX f']at e h;by_cases e_:b=s.heap.objs.size
   .rw[e_,c2]at e;exact absurd (I.gx a J.length<|.inl e)<|m7 _
   .rw[bX e_]at e;exact I.uniq a b e h
 .by_cases q:a=s.heap.objs.size
  .subst q;rw[c2]at e;cases e
  .rw[bX q]at e;exact ik _<|I.a5 a cB e
 .by_cases q:n<J.length
  .rw[px q]at e;exact(I.store n ct e).mono G E (λa o e=>(bX<|ne e<|λq=>nomatch q).trans e:∀a n,C a=.cF n->cC C s.heap.objs.size (.st J.length) a=.cF n) λa o _ e=>ik _ e
  .have am:n=J.length:=by have:=(g0.mp e).1;rw[da,oY]at this;lia
   subst am;rw[o7<|dA _,we]at e;cases e;exact .ls (c2 _ _ _) (gZ _ rfl) (af.mono G E) aq
 .rw[da,oY];by_cases q:a=s.heap.objs.size
  .subst q;rw[c2]at e;rcases e with e|e<;>cases e
   exact pF _
  .rw[bX q]at e;exact m6<|I.gx a n e
end
def gM(ac:Env)(h:Heap)(x:Str)(V:Ĉ):Prop:=(ac.kindOf x=some .local/\∃m,h.Ns ac.locals m/\m x=some V)\/((ac.kindOf x=some .cell\/ac.kindOf x=some .free)/\∃c,ac.cells.lookup x=some c/\h.IsCell c (some V))
inductive l5 (P:Params) (C:aY) (ac:Env) (h:Heap) (i:Nat) (x:Str):co->Prop where
 |un:l5 P C ac h i x .un
 |val {v:B} {V:Value}:gM ac h x V->bA P C v V->l5 P C ac h i x (.val v)
 |ol {l:List B} {a:Addr} {Vs:List Value} {n:Nat}:gM ac h x (.ref a)->C a=.own i->h.get? a=some (cu Vs.toArray n)->bD P C l Vs->l.length<=a3->l5 P C ac h i x (.ol l)
 |od {l:List (B×B)} {a:Addr} {es:List DictEntry} {n:Nat}:gM ac h x (.ref a)->C a=.own i->h.get? a=some (ej es.toArray n)->ea P C l es->l.length<=a3->(l.map Prod.fst).Nodup->l5 P C ac h i x (.od l)
def E7(P:Params)(C:aY)(ac:Env)(h:Heap)(i:Č)(x:Str)(aL:co):Prop:=match aL with
 |.un=>True
 |.val v=>dX λV (_:Unit)=>gM ac h x V/\bA P C v V
 |.ol l=>dI λa Vs n=>qG (gM ac h x<|.ref a) (C a=.own i) (h.get? a=some (cu Vs.toArray n)) (bD P C l Vs)<|l.length<=a3
 |.od l=>dI λa es n=>rN (gM ac h x<|.ref a) (C a=.own i) (h.get? a=some (ej es.toArray n)) (ea P C l es) (l.length<=a3) (l.map Prod.fst).Nodup
theorem l5.of{P:Params}{C:aY}{ac:Env}{h:Heap}{i:Č}{x:Str}{aL:co}(s:l5 P C ac h i x aL):E7 P C ac h i x aL:=l5.casesOn (motive:=λaL _=>E7 P C ac h i x aL) s trivial (λa b=>⟨_,(),a,b⟩) (λa b c d e=>⟨_,_,_,a,b,c,d,e⟩)<|λa b c d e f=>⟨_,_,_,a,b,c,d,e,f⟩
abbrev bI:=List<|Str×Č
structure zg(P:Params)(C:aY)(ac:Env)(ns:bI)(r:aJ)(h:Heap)(k:Nat):Prop where
 kind:ac.scope.kind=.function
 glob:ac.globals=mainGlobals
 lp:ac.builtins=builtinsNs
 loc:C ac.locals=.loc k
 mf:∃m,h.Ns ac.locals m
 cells:∀x,(ac.kindOf x=some .cell\/ac.kindOf x=some .free)->dX λc v=>dJ (ac.cells.lookup x=some c) (C c=.kS x)<|h.IsCell c v
 slots:∀x i aL,ns.lookup x=some i->r[i]?=some aL->l5 P C ac h i x aL
section
variable{P:Params}{N:g3}{H:Heap}{os:OsState}{C aO:aY}{J bG:St}{s ar:Nd}{ac:Env}{ns:bI}{r:aJ}{k:Č}
theorem zg.ext(F:zg P C ac ns r s.heap k)(I:Inv P N H os C J s)(x:br C s aO ar):zg P aO ac ns r ar.heap k:=by
 have Gd:∀o,s.heap.get? ac.locals=some o->ar.heap.get? ac.locals=some o:=λo e=>(x.kept _ o e<|by rw[F.loc];trivial).1;have Yj:∀y c o,ac.cells.lookup y=some c->(ac.kindOf y=some .cell\/ac.kindOf y=some .free)->s.heap.get? c=some o->ar.heap.get? c=some o:=λy c o aq aE e=>by obtain⟨iL,v,G,E,aC⟩:=F.cells y aE;rw[aq]at G;cases G;exact(x.kept _ o e<|by rw[E];trivial).1
 have i_:∀y V,gM ac s.heap y V->gM ac ar.heap y V:=λy V h=>by
  rcases h with⟨a,m,am,e⟩|⟨a,c,aq,o,aA,bg⟩
  .exact .inl ⟨a,m,am.at Gd,e⟩
  .exact .inr ⟨a,c,aq,o,Yj y c o aq a aA,bg⟩
 refine⟨F.kind,F.glob,F.lp,?_,let⟨m,am⟩:=F.mf;⟨m,am.at Gd⟩,λy aE=>?_,λy i aL G E=>?_⟩
 .obtain⟨m,o,es,rM,aA,-⟩:=F.mf;exact(x.kept _ o aA<|by rw[F.loc];trivial).2.trans F.loc
 .obtain⟨c,v,G,E,o,aA,bg⟩:=F.cells y aE;obtain⟨ag,a8⟩:=x.kept c o aA (by rw[E];trivial);exact⟨c,v,G,a8.trans E,o,ag,bg⟩
 .induction F.slots y i aL G E with
  |un=>exact .un
  |val a b=>exact .val (i_ _ _ a)<|x.hg I b
  |ol a b c d f=>obtain⟨ag,a8⟩:=x.kept _ _ c (by rw[b];trivial);exact .ol (i_ _ _ a) (a8.trans b) ag (x.iN I d) f
  |od a b c d f g=>obtain⟨ag,a8⟩:=x.kept _ _ c (by rw[b];trivial);exact .od (i_ _ _ a) (a8.trans b) ag (d.mono (x.zero.ot I) x.st) f g
end
set_option tactic.hygienic true
def attrOk (K:Frag) (ah:Addr) (name:Str):ĉ:=findIn K (.ref ah) "__getattribute__"==some (some<|.builtin "object.__getattribute__")&&findIn K (.ref ah) name==some none&&(match clsIn K ah with|some ka=>ka.hasDict|none=>false)
def storeOk (K:Frag) (ah:Addr) (name:Str):ĉ:=findIn K (.ref ah) "__setattr__"==some (some<|.builtin "object.__setattr__")&&plainOver K ah&&takerIn K ah name==some none&&(clsIn K ah).any (·.hasDict)
structure cc where
 prog:Program
 w:World
 N:g3
 H:Heap
 os:OsState
 aH:Around->Prop
 ns:bI
 cy:Str->Bool
 b6:Str->Bool
 kL:Str->Bool
 gP:Str->Option Value
 kb:Str->Option Value
 K:Frag
structure cc.Ok(c:cc):Prop where
 sys:∃o,c.H.get? sysModules=some o
 ru:c.H.Ns mainGlobals c.gP
 CC:c.H.Ns builtinsNs c.kb
 ab:c.K.In c.H
 inj:∀a b,c.N.an a=c.N.an b->a=b
 rR:∀x y i,c.ns.lookup x=some i->c.ns.lookup y=some i->x=y
 iB:∀be a,be<7->a<33->storeOk c.K (c.N.cl be) (c.N.an a)=true
 nc:∀be a,be<7->a<33->attrOk c.K (c.N.cl be) (c.N.an a)=true
noncomputable abbrev cc.M (c:cc):Model:=model c.prog c.w
noncomputable abbrev cc.P (c:cc):Params:=c.w.params
abbrev cc.I(c:cc)(C:aY)(J:St)(s:Nd):Prop:=Inv c.P c.N c.H c.os C J s
structure cc.F(c:cc)(C:aY)(ac:Env)(r:aJ)(h:Heap)(k:Nat):Prop where
 bE:zg c.P C ac c.ns r h k
 gl:∀x,c.cy x=true->ac.kindOf x=some .globalImplicit
 st:∀x,c.b6 x=true->ac.kindOf x=some .local\/ac.kindOf x=some .cell
 cl:∀x,c.kL x=true->ac.kindOf x=some .cell
abbrev dm:=aJ->St->(B->St->Prop)->Prop
abbrev ov:=aJ->St->(IF B->St->Prop)->Prop
abbrev hi:=aJ->St->(ĉ->St->Prop)->Prop
def x9(c:cc)(C:aY)(s:Nd)(Q:Ĉ->Nd->Prop)(v:B)(bG:St):Prop:=∀V aO ar,c.I aO bG ar->br C s aO ar->bA c.P aO v V->Q V ar
def Ri(c:cc)(C:aY)(s:Nd)(Q:IF Ĉ->Nd->Prop)(n:Č)(vs:IF B)(bG:St):Prop:=∀Vs aO ar,c.I aO bG ar->br C s aO ar->bD c.P aO vs Vs->vs.length=n->Q Vs ar
def Ë(c:cc)(C:aY)(s:Nd)(Q:ĉ->Nd->Prop)(b:ĉ)(bG:St):Prop:=∀aO ar,c.I aO bG ar->br C s aO ar->Q b ar
def j7(c:cc)(A:Around)(t:Env->Sem Ĉ)(w:dm):Prop:=∀O s ac C r J k (K:B->St->Prop) (Q:Ĉ->Nd->Prop),c.I C J s->c.F C ac r s.heap k->w r J K->(∀v bG,K v bG->x9 c C s Q v bG)->wpAny c.M A (t ac) Q O s
abbrev Good(c:cc)(A:Around)(e:ċ)(w:dm):Prop:=j7 c A (eval e) w
def k7(c:cc)(A:Around)(es:IF ċ)(w:ov):Prop:=∀O s ac C r J k pos (K:IF B->St->Prop) (Q:IF Ĉ->Nd->Prop),c.I C J s->c.F C ac r s.heap k->w r J K->(∀vs bG,K vs bG->Ri c C s Q es.length vs bG)->wpAny c.M A (spliced<|backTo pos<|starEach es ac) Q O s
def p5(c:cc)(A:Around)(t:Env->Sem ĉ)(w:hi):Prop:=∀O s ac C r J k (K:ĉ->St->Prop) (Q:ĉ->Nd->Prop),c.I C J s->c.F C ac r s.heap k->w r J K->(∀b bG,K b bG->Ë c C s Q b bG)->wpAny c.M A (t ac) Q O s
abbrev kt(c:cc)(A:Around)(e:ċ)(w:hi):Prop:=p5 c A (λac=>isTrue e ac<|eval e ac) w
theorem cc.F.ext{c:cc}{C aO:aY}{ac:Env}{r:aJ}{s ar:Nd}{J:St}{k:Č}(F:c.F C ac r s.heap k)(I:c.I C J s)(x:br C s aO ar):c.F aO ac r ar.heap k:=⟨F.bE.ext I x,F.gl,F.st,F.cl⟩
theorem bind_some{av b9:Type}{x:Ċ av}{f:av->Ċ b9}{b:b9}(h:x.bind f=some b):∃a,x=some a/\f a=some b:=Option.bind_eq_some_iff.mp h
theorem map_some{av b9:Type}{x:Ċ av}{f:av->b9}{b:b9}(h:x.map f=some b):∃a,x=some a/\f a=b:=x_.mp h
theorem ax.dt{av:Type}{o:Ċ av}{f:av->Prop}{cR:Prop}(h:ax o f)(k:∀a,o=some a->f a->cR):cR:=by
 induction o with
 |none=>exact h.elim
 |some a=>exact k a rfl h
section
variable{c:cc}{A:Around}
section
variable{O:Ĉ->Nd->Prop}{s:Nd}{ac:Env}{C:aY}{r:aJ}{J:St}{k:Č}(I:c.I C J s)(F:c.F C ac r s.heap k)
include I F
theorem j7.use{t:Env->Sem Ĉ}{w:dm}{K:B->St->Prop}{Q:Ĉ->Nd->Prop}(g:j7 c A t w)(e:w r J K)(h:∀v bG,K v bG->∀V aO ar,c.I aO bG ar->c.F aO ac r ar.heap k->br C s aO ar->bA c.P aO v V->Q V ar):wpAny c.M A (t ac) Q O s:=g O s ac C r J k K Q I F e λv bG e V aO ar dk x af=>h v bG e V aO ar dk (F.ext I x) x af
theorem k7.use{es:IF ċ}{w:ov}{K:IF B->St->Prop}{pos:Pos}{Q:IF Ĉ->Nd->Prop}(g:k7 c A es w)(e:w r J K)(h:∀vs bG,K vs bG->∀Vs aO ar,c.I aO bG ar->c.F aO ac r ar.heap k->br C s aO ar->bD c.P aO vs Vs->vs.length=es.length->Q Vs ar):wpAny c.M A (spliced<|backTo pos<|starEach es ac) Q O s:=g O s ac C r J k pos K Q I F e λv bG e V aO ar dk x af aj=>h v bG e V aO ar dk (F.ext I x) x af aj
theorem p5.use{t:Env->Sem ĉ}{w:hi}{K:ĉ->St->Prop}{Q:ĉ->Nd->Prop}(g:p5 c A t w)(e:w r J K)(h:∀b bG,K b bG->∀aO ar,c.I aO bG ar->c.F aO ac r ar.heap k->br C s aO ar->Q b ar):wpAny c.M A (t ac) Q O s:=g O s ac C r J k K Q I F e λb bG e aO ar dk x=>h b bG e aO ar dk (F.ext I x) x
end
theorem good_int{i:č}{cK:Č}{pos:Pos}:Good c A (.Constant (.int i) cK pos) λ_ J K=>K (.int i) J:=λO s ac C r J k K Q I F e h=>wpAny_Constant_int<|h _ _ e _ C _ (I.toks _) (br.toks C s _)<|.int i _
theorem good_bool{b:ĉ}{cK:Č}{pos:Pos}:Good c A (.Constant (.bool b) cK pos) λ_ J K=>K (.bool b) J:=λO s ac C r J k K Q I F e h=>wpAny_Constant_bool<|h _ _ e _ C _ I (br.refl C s)<|.bool b
theorem good_none{cK:Č}{pos:Pos}:Good c A (.Constant .none cK pos) λ_ J K=>K .none J:=λO s ac C r J k K Q I F e h=>wpAny_Constant_none<|h _ _ e _ C _ I (br.refl C s) .none
theorem good_str{x:Str}{cK:Č}{pos:Pos}(az:x.cps.toList.length<=a3):Good c A (.Constant (.str x) cK pos) λ_ J K=>K (.str x.cps.toList) J:=by intro O s ac C r J k K Q I F e h;refine wpAny_Constant_str<|h _ _ e _ C _ (I.toks _) (br.toks C s _) ?_;have:=bA.str (P:=c.P) (C:=C) x.cps.toList s.toks az;rwa[show(⟨x.cps.toList.toArray⟩:Str)=x by induction x;simp]at this
theorem rv{ac:Env}{x:Str}{V:Ĉ}{O:Ĉ->Nd->Prop}{s:Nd}{Q:Ĉ->Nd->Prop}(aE:ac.scope.kind=.function)(af:gM ac s.heap x V)(am:(x==("__classdict__":Str))=false)(h:Q V s):wpAny c.M A (loadName ac x) Q O s:=by
 rcases af with⟨a,m,aN,e⟩|⟨a|a,be,aq,af⟩
 .exact wpAny_loadName_local aE a aN e h
 .exact wpAny_loadName_cell aE a aq af h
 .exact wpAny_loadName_free aE a aq af h am
theorem Xw{r:aJ}{i:Č}{v:B}(h:qu r i=some v):r[i]?=some (.val v):=by
 replace h:(match r[i]? with|some (.val v)=>some v|_=>none)=some v:=h;generalize r[i]?=o at h⊢;induction o with
 |none=>exact b0 h
 |some aL=>
  induction aL with
  |val w=>exact bH (λw=>some<|co.val w)<|cV h
  |_=>exact b0 h
theorem RQ{x:Str}{i:Č}{pos:Pos}(aB:c.ns.lookup x=some i)(bg:(x==("__debug__":Str))=false)(am:(x==("__classdict__":Str))=false):Good c A (.Name x pos) λr J K=>lb (qu r i) K J:=by intro O s ac C r J k K Q I F e h;refine ax.dt e λv ag e=>?_;obtain⟨V,-,a,b⟩:=(F.bE.slots x i _ aB<|Xw ag).of;exact ri (rv F.bE.kind a am<|h _ _ e _ C s I (br.refl C s) b) bg
theorem cc.I.l_{c:cc}{C:aY}{J:St}{s:Nd}(I:c.I C J s):∀a o,c.H.get? a=some o->s.heap.get? a=some o:=λa o e=>I.a5 a o<|I.base a o e
theorem Gx{ac:Env}{x:Str}{pos:Pos}{V:Ĉ}{O:Ĉ->Nd->Prop}{s:Nd}{C:aY}{r:aJ}{J:St}{k:Č}{Q:Ĉ->Nd->Prop}(aX:c.Ok)(I:c.I C J s)(F:c.F C ac r s.heap k)(d_:c.cy x=true)(af:c.gP x=some V)(bg:(x==("__debug__":Str))=false)(h:Q V s):wpAny c.M A (eval (.Name x pos) ac) Q O s:=Name_function_global F.bE.kind (F.gl x d_) (loadGlobal_global (by rw[F.bE.glob];exact aX.ru.at λo e=>I.l_ _ _ e) af h) bg
theorem vr{ac:Env}{x:Str}{pos:Pos}{V:Ĉ}{O:Ĉ->Nd->Prop}{s:Nd}{C:aY}{r:aJ}{J:St}{k:Č}{Q:Ĉ->Nd->Prop}(aX:c.Ok)(I:c.I C J s)(F:c.F C ac r s.heap k)(d_:c.cy x=true)(aN:c.gP x=none)(af:c.kb x=some V)(bg:(x==("__debug__":Str))=false)(h:Q V s):wpAny c.M A (eval (.Name x pos) ac) Q O s:=Name_function_global F.bE.kind (F.gl x d_) (loadGlobal_builtin (by rw[F.bE.glob];exact aX.ru.at λo e=>I.l_ _ _ e) aN (by rw[F.bE.lp];exact aX.CC.at λo e=>I.l_ _ _ e) af h) bg
def f0 (H:Heap):aY:=λa=>match H.get? a with|some o=>.a5 o|none=>.none
theorem vM(H:Heap)(a:Addr):f0 H a=.none\/∃o,H.get? a=some o/\f0 H a=.a5 o:=by
 delta f0;induction H.get? a with
 |none=>exact .inl rfl
 |some o=>exact .inr ⟨o,rfl,rfl⟩
theorem yV{H:Heap}{a:Addr}{o:Obj}(h:f0 H a=.a5 o):H.get? a=some o:=(vM H a).elim (λe=>bR (e.symm.trans h) rfl) λ⟨_,e,q⟩=>by cases q.symm.trans h;exact e
theorem EL{H:Heap}{a:Addr}{n:Č}(h:f0 H a=.st n):False:=(vM H a).elim (λe=>bR (e.symm.trans h) rfl) λ⟨_,_,q⟩=>bR (q.symm.trans h) rfl
theorem Oq{C:aY}{J:St}{s:Nd}(I:c.I C J s){v:B}{V:Ĉ}(h:bA c.P (f0 c.H) v V):bA c.P C v V:=h.mono (λ_ _ e=>I.base _ _<|yV e) λ_ _ e=>(EL e).elim
theorem VI{x:Str}{pos:Pos}{v:B}{V:Ĉ}(aX:c.Ok)(d_:c.cy x=true)(af:c.gP x=some V)(bg:(x==("__debug__":Str))=false)(bn:bA c.P (f0 c.H) v V):Good c A (.Name x pos) λ_ J K=>K v J:=λO s ac C r J k K Q I F e h=>Gx aX I F d_ af bg<|h _ _ e V C s I (br.refl C s)<|Oq I bn
def fH (e:ċ):ĉ:=Nat.beq e.ctorIdx 22
def lN (e:ċ):ĉ:=Nat.beq e.ctorIdx 16
theorem t8{e:ċ}{a':IF ċ}{ac:Env}(h:fH e=false):starEach (e::a') ac=(false,eval e ac)::starEach a' ac:=by exact rF (b:=fH e) (by induction e using PySem.Expr.casesOn<;>first|rfl|trivial) h
theorem Ur:k7 c A [] λ_ J K=>K [] J:=λO s ac C r J k pos K Q I F e h=>wpAny_items_nil<|h _ _ e [] C s I (br.refl C s) .nil rfl
theorem US{e:ċ}{a':IF ċ}{w:dm}{ei:ov}(aK:fH e=false)(g:Good c A e w)(gl:k7 c A a' ei):k7 c A (e::a') λr J K=>w r J (hA ei r<|JN K):=by intro O s ac C r J k pos K Q I F e h;exact wpAny_items_cons (g.use I F e λv db e V bL bt a0 bU bo af=>gl.use a0 bU e λvs d6 e Vs cq b_ ce ee bM jB aj=>h _ _ e _ cq b_ ce (bo.trans bM) (.cons (bM.hg a0 af) jB)<|bH Nat.succ aj)<|t8 aK
theorem Pa{es:IF ċ}{cK:Č}{pos:Pos}{ei:ov}(gl:k7 c A es ei)(aj:es.length<=a3):Good c A (.Tuple es cK pos) λr J K=>ei r J (Kr K):=by intro O s ac C r J k K Q I F e h;refine wpAny_Tuple<|gl.use I F e λvs db e Vs bL bt a0 bU bo af a6=>?_;rw[<-a6]at aj;have bM:=br.push a0 (ec Vs.toArray 0)<|.a5<|ec Vs.toArray 0;exact⟨by rw[af.length];exact fY aj,h _ _ e _ _ _ (a0.push (ec Vs.toArray 0) rfl _<|.inl rfl) (bo.trans bM)<|.tup (c2 _ _ _) (bM.iN a0 af) aj⟩
theorem Yn{es:IF ċ}{pos:Pos}{ei:ov}(gl:k7 c A es ei)(aj:es.length<=a3):Good c A (.List es pos) λr J K=>ei r J (Eu K):=by intro O s ac C r J k K Q I F e h;refine wpAny_List<|gl.use I F e λvs db e Vs bL bt a0 bU bo af a6=>?_;rw[<-a6]at aj;have bM:=br.push a0 (cu Vs.toArray 0)<|.a5<|cu Vs.toArray 0;exact⟨by rw[af.length];exact fY aj,h _ _ e _ _ _ (a0.push (cu Vs.toArray 0) rfl _<|.inl rfl) (bo.trans bM)<|.lst (c2 _ _ _) (bM.iN a0 af) aj⟩
theorem B2{n:Č}(h:n<=a3):(n:č)<2^63:=Int.lt_of_le_of_lt (v_.mpr h) (by decide)
theorem Inv.isTup{P:Params}{N:g3}{H:Heap}{os:OsState}{C:aY}{J:St}{s:Nd}(I:Inv P N H os C J s){a:Addr}{Vs:Array Ĉ}{n:Č}(e:C a=.a5 (ec Vs n)):IsTup s.heap a Vs:=⟨_,I.a5 a _ e,rfl,n,rfl⟩
theorem Inv.isList{P:Params}{N:g3}{H:Heap}{os:OsState}{C:aY}{J:St}{s:Nd}(I:Inv P N H os C J s){a:Addr}{Vs:Array Ĉ}{n:Č}(e:C a=.a5 (cu Vs n)):s.heap.IsList a Vs:=⟨_,I.a5 a _ e,rfl,n,rfl⟩
theorem bD.isEmpty{P:Params}{C:aY}{l:IF B}{Vs:IF Ĉ}(h:bD P C l Vs):(!Vs.toArray.isEmpty)= !l.isEmpty:=bD.ind (M:=λl Vs=>(!Vs.toArray.isEmpty)= !l.isEmpty) rfl (λ_ _ _=>rfl) h
theorem yt{v:B}{V:Ĉ}{f:ĉ->Prop}{O:Ĉ->Nd->Prop}{s:Nd}{C:aY}{J:St}{Q:ĉ->Nd->Prop}(I:c.I C J s)(af:bA c.P C v V)(e:ax (js v) f)(h:∀b t,f b->Q b {s with toks:=t}):wpAny c.M A (truthy V) Q O s:=by
 induction v using B.casesOn with
 |none=>cases af.of;exact PyProof.Rows.truthy_none<|h _ s.toks e
 |bool b=>cases af.of;exact qN<|h _ s.toks e
 |int i=>
  obtain⟨t,rfl⟩:=af.of;refine PySem.P.truthy_int ?_;have:=h _ s.toks e;by_cases q:i=0
  .subst q;simpa using this
  .rw[show(i !=0)=true by simpa using q];rw[show decide (i≠0)=true by simpa using q]at this;exact this
 |str l=>obtain⟨t,rfl,aj⟩:=af.of;refine PySem.P.truthy_str (by show¬((Str.length ⟨l.toArray⟩:č)>=2^63);unfold Str.length;rw[eI];exact Int.not_le.mpr<|B2 aj) ?_;have:=h _ (s.toks+1+1) e;rw[show(((Str.length ⟨l.toArray⟩:Č):č) !=0)= !l.isEmpty by unfold Str.length;rw[eI];induction l<;>simp<;>lia];exact this
 |tup l=>obtain⟨a,Vs,n,rfl,ag,a8,c0⟩:=af.of;refine PyProof.Rows.truthy_tuple (I.isTup ag) (by rw[eI,a8.length];exact B2 c0) ?_;rw[a8.isEmpty];exact h _ (s.toks+1+1) e
 |lst l=>obtain⟨a,Vs,n,rfl,ag,a8,c0⟩:=af.of;refine wpAny_truthy_list (I.isList ag) (by rw[eI,a8.length];exact B2 c0) ?_;rw[a8.isEmpty];exact h _ (s.toks+1+1) e
 |_=>exact e.elim
def wn(w:dm):hi:=λr J K=>w r J λv J=>ax (js v) λb=>K b J
def xw:ċ->ĉ
 |.UnaryOp .Not _ _|.BoolOp _ _ _|.IfExp _ _ _ _|.Compare _ _ _ _=>false
 |_=>true
theorem ZP{e:ċ}{ac:Env}{yM:Sem Ĉ}(h:xw e=true):isTrue e ac yM=(do let v<-yM;standAt e.pos;holding [v]<|truthy v):=by
 refine rF (b:= !xw e) ?_ (by rw[h];rfl);induction e using PySem.Expr.casesOn with
 |UnaryOp gk _ _=>induction gk<;>first|rfl|trivial
 |_=>first|rfl|trivial
theorem RP{e:ċ}{w:dm}(ae:xw e=true)(g:Good c A e w):kt c A e (wn w):=λO s ac C r J k K Q I F ag h=>wpAny_isTrue_value (g.use I F ag λv db e V bL bt a0 bU bo af=>yt a0 af e λb t e=>h _ _ e bL _ (a0.toks t)<|bo.trans<|br.toks bL bt t)<|ZP ae
theorem Va{e:ċ}{pos:Pos}{w:hi}(g:kt c A e w):kt c A (.UnaryOp .Not e pos) λr J K=>w r J λb=>K !b:=λO s ac C r J k K Q I F ag h=>wpAny_isTrue_Not<|g.use I F ag λb db e bL bt a0 bU bo=>h _ _ e bL bt a0 bo
theorem P5{e:ċ}{pos:Pos}{w:dm}(g:Good c A e w):Good c A (.UnaryOp .Not e pos) λr J K=>w r J (I' K):=λO s ac C r J k K Q I F ag h=>wpAny_UnaryOp<|g.use I F ag λx db e V bL bt a0 bU bo af=>not_value<|yt a0 af e λb t e=>h _ _ e _ bL _ (a0.toks t) (bo.trans<|br.toks bL bt t)<|.bool _
theorem WE{t b o:ċ}{pos:Pos}{qp:hi}{kw eU:dm}(gt:kt c A t qp)(lv:Good c A b kw)(go:Good c A o eU):Good c A (.IfExp t b o pos) λr J K=>qp r J λq J=>kH (kw r J K) (eU r J K) q:=by
 intro O s ac C r J k K Q I F ag h;refine wpAny_IfExp<|gt.use I F ag λq db e bL bt a0 bU bo=>?_;induction q with
 |true=>exact lv.use a0 bU e λv d6 e V cq b_ ce ee bM af=>h v d6 e V cq b_ ce (bo.trans bM) af
 |false=>exact go.use a0 bU e λv d6 e V cq b_ ce ee bM af=>h v d6 e V cq b_ ce (bo.trans bM) af
theorem PV{t b o:ċ}{pos:Pos}{qp kw eU:hi}(gt:kt c A t qp)(lv:kt c A b kw)(go:kt c A o eU):kt c A (.IfExp t b o pos) λr J K=>qp r J λq J=>kH (kw r J K) (eU r J K) q:=by
 intro O s ac C r J k K Q I F ag h;show wpAny c.M A (isTrue (.IfExp t b o pos) ac _) Q O s;rw[arm_isTrue_IfExp];refine bd<|gt.use I F ag λq db e bL bt a0 bU bo=>?_;induction q with
 |true=>exact lv.use a0 bU e λb d6 e cq b_ ce ee bM=>h b d6 e cq b_ ce<|bo.trans bM
 |false=>exact go.use a0 bU e λb d6 e cq b_ ce ee bM=>h b d6 e cq b_ ce<|bo.trans bM
set_option tactic.hygienic false
theorem U4{o:hP}{J:St}{x y:B}(am:o≠.isin/\o≠.f3):hD o J x y=cmp o x y:=by induction o using hP.casesOn<;>first|rfl|exact absurd rfl am.1|exact absurd rfl am.2
inductive gq (P:Params) (C:aY) (h:Heap):B->Value->Prop where
 |val {v:B} {V:Value}:bA P C v V->gq P C h v V
 |lst {l:List B} {a:Addr} {Vs:List Value} {n i:Nat}:C a=.own i->h.get? a=some (cu Vs.toArray n)->bD P C l Vs->l.length<=a3->gq P C h (.lst l) (.ref a)
 |bb {l:List (B×B)} {a:Addr} {es:List DictEntry} {n i:Nat}:C a=.own i->h.get? a=some (ej es.toArray n)->ea P C l es->l.length<=a3->(l.map Prod.fst).Nodup->gq P C h (.bb l) (.ref a)
def Ev(P:Params)(C:aY)(h:Heap)(v:B)(V:Ĉ):Prop:=match v with
 |.lst l=>dI λa Vs n=>hU (V=.ref a) ((C a=.a5 (cu Vs.toArray n))\/((∃i,C a=.own i)/\h.get? a=some (cu Vs.toArray n))) (bD P C l Vs)<|l.length<=a3
 |.bb l=>dI λa es n=>qG (V=.ref a) ((C a=.a5 (ej es.toArray n)/\(a==sysModules)=false)\/((∃i,C a=.own i)/\h.get? a=some (ej es.toArray n))) (ea P C l es) (l.length<=a3) (l.map Prod.fst).Nodup
 |v=>AG P C v V
theorem gq.of{P:Params}{C:aY}{h:Heap}{v:B}{V:Ĉ}(x:gq P C h v V):Ev P C h v V:=gq.casesOn (motive:=λv V _=>Ev P C h v V) x (λx=>bA.casesOn (motive_1:=λv V _=>Ev P C h v V) x rfl (λ_=>rfl) (λ_ t=>⟨t,rfl⟩) (λ_ t c=>⟨t,rfl,c⟩) (λa b c=>⟨_,_,_,rfl,a,b,c⟩) (λa b c=>⟨_,_,_,rfl,.inl a,b,c⟩) (λa b c d e=>⟨_,_,_,rfl,.inl ⟨a,e⟩,b,c,d⟩) (λa=>⟨_,rfl,a⟩)<|λa b c d=>⟨_,_,_,_,rfl,a,b,c,d⟩) (λa b d e=>⟨_,_,_,rfl,.inr ⟨⟨_,a⟩,b⟩,d,e⟩)<|λa b d e f=>⟨_,_,_,rfl,.inr ⟨⟨_,a⟩,b⟩,d,e,f⟩
theorem gq.ext{c:cc}{C aO:aY}{s ar:Nd}{J:St}{v:B}{V:Ĉ}(I:c.I C J s)(x:br C s aO ar):gq c.P C s.heap v V->gq c.P aO ar.heap v V
 |.val h=>.val<|x.hg I h
 |.lst a b d e=>let⟨ag,a8⟩:=x.kept _ _ b (by rw[a];trivial);.lst (a8.trans a) ag (x.iN I d) e
 |.bb a b d e f=>let⟨ag,a8⟩:=x.kept _ _ b (by rw[a];trivial);.bb (a8.trans a) ag (d.mono (x.zero.ot I) x.st) e f
def W0(c:cc)(C:aY)(s:Nd)(Q:Ĉ->Nd->Prop)(v:B)(bG:St):Prop:=∀V aO ar,c.I aO bG ar->br C s aO ar->gq c.P aO ar.heap v V->Q V ar
def lM(c:cc)(A:Around)(e:ċ)(w:dm):Prop:=∀O s ac C r J k (K:B->St->Prop) (Q:Ĉ->Nd->Prop),c.I C J s->c.F C ac r s.heap k->w r J K->(∀v bG,K v bG->W0 c C s Q v bG)->wpAny c.M A (eval e ac) Q O s
def yY(bK:a2)(w:dm):dm:=λr J K=>pU (peek r bK) J (w r J) K
theorem lM.use{e:ċ}{w:dm}(g:lM c A e w){O:Ĉ->Nd->Prop}{s:Nd}{ac:Env}{C:aY}{r:aJ}{J:St}{k:Č}{K:B->St->Prop}{Q:Ĉ->Nd->Prop}(I:c.I C J s)(F:c.F C ac r s.heap k)(ag:w r J K)(h:∀v bG,K v bG->∀V aO ar,c.I aO bG ar->c.F aO ac r ar.heap k->br C s aO ar->gq c.P aO ar.heap v V->Q V ar):wpAny c.M A (eval e ac) Q O s:=g O s ac C r J k K Q I F ag λv bG e V aO ar dk x af=>h v bG e V aO ar dk (F.ext I x) x af
theorem T9{e:ċ}{bK:a2}{w:dm}(g:Good c A e w)(h:∀r,peek r bK=none):lM c A e (yY bK w):=by intro O s ac C r J k K Q I F ag a_;unfold yY at ag;rw[h]at ag;exact g.use I F ag λv bG e V aO ar dk g5 x af=>a_ v bG e V aO ar dk x<|.val af
theorem Wv{x:Str}{i:Č}{pos:Pos}(aB:c.ns.lookup x=some i)(bg:(x==("__debug__":Str))=false)(am:(x==("__classdict__":Str))=false):lM c A (.Name x pos) (yY (.v i) λr J K=>lb (qu r i) K J):=by
 intro O s ac C r J k K Q I F ag a_;replace ag:pU (match r[i]? with|some (.val v)=>some v|some (.ol l)=>some (.lst l)|some (.od l)=>some (.bb l)|_=>none) J (lb (match r[i]? with|some (.val v)=>some v|_=>none) · J) K:=ag;have aK:=F.bE.slots x i;generalize r[i]?=o at ag aK;induction o with
 |none=>exact False.elim ag
 |some aL=>
  have aK:=(aK aL aB rfl).of;induction aL with
  |un=>exact False.elim ag
  |val v=>obtain⟨V,-,a,b⟩:=aK;exact ri (rv F.bE.kind a am<|a_ _ _ ag _ C s I (br.refl C s)<|.val b) bg
  |ol l=>obtain⟨a,Vs,n,bZ,bs,dN,gQ,kY⟩:=aK;exact ri (rv F.bE.kind bZ am<|a_ _ _ ag _ C s I (br.refl C s)<|.lst bs dN gQ kY) bg
  |od l=>obtain⟨a,es,n,bZ,bs,dN,gQ,kY,zc⟩:=aK;exact ri (rv F.bE.kind bZ am<|a_ _ _ ag _ C s I (br.refl C s)<|.bb bs dN gQ kY zc) bg
set_option backward.match.sparseCases true in
theorem H9{pos:Pos}{gk:BoolOp}{x y:Sem Ĉ}{a':IF (Sem Ĉ)}:boolOp pos gk (x::y::a')=(do let v<-x;standAt pos;let t<-holding [v] (truthy v);match gk,t with|.And,false|.Or,true=>pure v|_,_=>boolOp pos gk<|y::a'):=rfl
theorem Zx{e:ċ}{pos:Pos}{w:dm}(g:Good c A e w):j7 c A (λac=>boolOp pos .And<|evalEach [e] ac) w:=g
theorem O5{e:ċ}{pos:Pos}{w:dm}(g:Good c A e w):j7 c A (λac=>boolOp pos .Or<|evalEach [e] ac) w:=g
section
variable{e y:ċ}{a':IF ċ}{pos:Pos}{w ke:dm}(g:Good c A e w)
include g
theorem Ã(bf:j7 c A (λac=>boolOp pos .And<|evalEach (y::a') ac) ke):j7 c A (λac=>boolOp pos .And<|evalEach (e::y::a') ac) λr J K=>w r J (Kn ke r K):=by
 intro O s ac C r J k K Q I F ag h;show wpAny c.M A (boolOp pos .And<|eval e ac::eval y ac::evalEach a' ac) Q O s;rw[H9];refine bd<|g.use I F ag λv db e V bL bt a0 bU bo af=>bd<|pV<|bd<|gY<|yt a0 af e λb t e=>?_;have bM:=bo.trans<|br.toks bL bt t;cases b with
 |false=>exact b4<|h _ _ e _ bL _ (a0.toks t) bM af
 |true=>exact bf.use (a0.toks t) (bU.ext a0<|br.toks bL bt t) e λv d6 e W cq b_ ce ee fu bF=>h v d6 e W cq b_ ce (bM.trans fu) bF
theorem TE(bf:j7 c A (λac=>boolOp pos .Or<|evalEach (y::a') ac) ke):j7 c A (λac=>boolOp pos .Or<|evalEach (e::y::a') ac) λr J K=>w r J (Kk ke r K):=by
 intro O s ac C r J k K Q I F ag h;show wpAny c.M A (boolOp pos .Or<|eval e ac::eval y ac::evalEach a' ac) Q O s;rw[H9];refine bd<|g.use I F ag λv db e V bL bt a0 bU bo af=>bd<|pV<|bd<|gY<|yt a0 af e λb t e=>?_;have bM:=bo.trans<|br.toks bL bt t;cases b with
 |true=>exact b4<|h _ _ e _ bL _ (a0.toks t) bM af
 |false=>exact bf.use (a0.toks t) (bU.ext a0<|br.toks bL bt t) e λv d6 e W cq b_ ce ee fu bF=>h v d6 e W cq b_ ce (bM.trans fu) bF
end
theorem Ho{gk:BoolOp}{es:IF ċ}{pos:Pos}{w:dm}(g:j7 c A (λac=>boolOp pos gk<|evalEach es ac) w):Good c A (.BoolOp gk es pos) w:=g
abbrev pD(c:cc)(A:Around)(gk:BoolOp)(es:IF ċ)(w:hi):Prop:=p5 c A (allTrue gk es) w
theorem Nh:pD c A .And [] λ_ J K=>K true J:=λO s ac C r J k K Q I F ag h=>wpAny_allTrue_And_nil<|h _ _ ag C s I<|br.refl C s
theorem Sw:pD c A .Or [] λ_ J K=>K false J:=λO s ac C r J k K Q I F ag h=>wpAny_allTrue_Or_nil<|h _ _ ag C s I<|br.refl C s
section
variable{e:ċ}{a':IF ċ}{w ke:hi}(g:kt c A e w)
include g
theorem L7(bf:pD c A .And a' ke):pD c A .And (e::a') λr J K=>w r J λb J=>kH (ke r J K) (K false J) b:=by
 intro O s ac C r J k K Q I F ag h;refine wpAny_allTrue_And_cons<|g.use I F ag λb db e bL bt a0 bU bo=>?_;cases b with
 |true=>exact bf.use a0 bU e λb d6 e cq b_ ce ee bM=>h b d6 e cq b_ ce<|bo.trans bM
 |false=>exact h _ _ e bL bt a0 bo
theorem M1(bf:pD c A .Or a' ke):pD c A .Or (e::a') λr J K=>w r J λb J=>kH (K true J) (ke r J K) b:=by
 intro O s ac C r J k K Q I F ag h;refine wpAny_allTrue_Or_cons<|g.use I F ag λb db e bL bt a0 bU bo=>?_;cases b with
 |true=>exact h _ _ e bL bt a0 bo
 |false=>exact bf.use a0 bU e λb d6 e cq b_ ce ee bM=>h b d6 e cq b_ ce<|bo.trans bM
end
theorem IX{gk:BoolOp}{es:IF ċ}{pos:Pos}{w:hi}(g:pD c A gk es w):kt c A (.BoolOp gk es pos) w:=by intro O s ac C r J k K Q I F ag h;show wpAny c.M A (isTrue (.BoolOp gk es pos) ac _) Q O s;rw[arm_isTrue_BoolOp];exact g.use I F ag λb db e bL bt a0 bU bo=>h b db e bL bt a0 bo
def lc:hP->CmpOp
 |.eq=>.Eq|.ne=>.NotEq|.lt=>.Lt|.le=>.LtE|.gt=>.Gt|.ge=>.GtE|.isin=>.In|.f3=>.NotIn|.is=>.Is|.pC=>.IsNot
def k'(c:cc)(A:Around)(o:hP):Prop:=∀O s C J x y V W t (Q:Ĉ->Nd->Prop),c.I C J s->bA c.P C x V->gq c.P C s.heap y W->hD o J x y=some t->(∀k,Q (.bool t) {s with toks:=k})->wpAny c.M A (compareOp (lc o) V W) Q O s
section
variable{l e:ċ}{o:hP}{pos:Pos}{ei fb:dm}(gl:Good c A l ei)(aA:k' c A o)
include gl aA
theorem Nq(ge:lM c A e fb)(aN:behindInMarks (lc o) e=false):Good c A (.Compare l [lc o] [e] pos) λr J K=>ei r J λx J=>fb r J (B4 o x K):=by intro O s ac C r J k K Q I F ag h;exact wpAny_Compare1 (gl.use I F ag λx db e V bL bt a0 bU bo af=>ge.use a0 bU e λy d6 e W cq b_ ce ee bM bF=>ax.dt e λb fz e=>aA _ _ cq _ x y V W b _ ce (bM.hg a0 af) bF fz λt=>h _ _ e _ cq _ (ce.toks t) ((bo.trans bM).trans<|br.toks cq b_ t)<|.bool b) aN
theorem Vi(ge:lM c A e fb)(aN:behindInMarks (lc o) e=false):kt c A (.Compare l [lc o] [e] pos) λr J K=>ei r J λx J=>fb r J λy J=>ax (hD o J x y) λb=>K b J:=by intro O s ac C r J k K Q I F ag h;exact wpAny_isTrue_Compare1 (gl.use I F ag λx db e V bL bt a0 bU bo af=>ge.use a0 bU e λy d6 e W cq b_ ce ee bM bF=>ax.dt e λb fz e=>aA _ _ cq _ x y V W _ _ ce (bM.hg a0 af) bF fz λt=>qN<|h _ _ e cq _ (ce.toks t)<|(bo.trans bM).trans<|br.toks cq b_ t) aN
theorem Xa{bz:ċ}{cB:hP}{Gf:dm}(ge:Good c A e fb)(Ov:lM c A bz Gf)(hr:k' c A cB)(am:o≠.isin/\o≠.f3)(aN:lastMarks [lc o,lc cB] [e,bz]=false):Good c A (.Compare l [lc o,lc cB] [e,bz] pos) λr J K=>ei r J λx J=>fb r J λy J=>bj (cmp o x y) (Gf r J<|B4 cB y K) (K (.bool false) J):=by
 intro O s ac C r J k K Q I F ag h;refine Compare_chain (gl.use I F ag λx db e V bL bt a0 bU bo af=>chain_link<|ge.use a0 bU e λy d6 e W cq b_ ce ee bM bF=>ax.dt e λt fz e=>?_) aN;have O2:hD o d6 x y=some t:=(U4 am).trans fz;refine aA _ _ cq _ x y V W t _ ce (bM.hg a0 af) (.val bF) O2 λcI=>qN ?_;have fS:=ce.toks cI;have k4:=(bo.trans bM).trans<|br.toks cq b_ cI;induction t with
 |false=>exact h _ _ e _ cq _ fS k4<|.bool false
 |true=>exact chain_last<|Ov.use fS (ee.ext ce<|br.toks cq b_ cI) e λz vi e Z zu iy hy ny hs hz=>ax.dt e λb OI e=>hr _ _ zu _ y z W Z b _ hy (hs.hg fS bF) hz OI λt=>h _ _ e _ zu _ (hy.toks t) ((k4.trans hs).trans<|br.toks zu iy t)<|.bool b
end
def CZ:kq->Operator
 |.add=>.Add|.sub=>.Sub|.mul=>.Mult|.fdiv=>.FloorDiv|.mod=>.Mod|.band=>.BitAnd
def pI(c:cc)(A:Around)(o:kq):Prop:=∀O s C J x y V W z (Q:Ĉ->Nd->Prop),c.I C J s->bA c.P C x V->bA c.P C y W->bin o x y=some z->x9 c C s Q z J->wpAny c.M A (binaryOp (CZ o) V W) Q O s
theorem VK{l e:ċ}{o:kq}{pos:Pos}{ei fb:dm}(gl:Good c A l ei)(ge:Good c A e fb)(aA:pI c A o):Good c A (.BinOp l (CZ o) e pos) λr J K=>ei r J (hA fb r<|Fi o K):=by intro O s ac C r J k K Q I F ag h;exact wpAny_BinOp<|gl.use I F ag λx db e V bL bt a0 bU bo af=>ge.use a0 bU e λy d6 e W cq b_ ce ee bM bF=>ax.dt e λz fz e=>aA _ _ cq _ x y V W _ _ ce (bM.hg a0 af) bF fz λZ j3 f9 fS fu hz=>h _ _ e Z j3 f9 fS ((bo.trans bM).trans fu) hz
def bQ (v:B):ĉ:=Nat.ble 6 v.ctorIdx
mutual
inductive ck (h:Heap):B->Value->Prop where
 |none:ck h .none .none
 |bool (b:Bool):ck h (.bool b) (.bool b)
 |int (i:Int) (t:Tok):ck h (.int i) (.int i t)
 |str (l:List Nat) (t:Tok):ck h (.str l) (.str ⟨l.toArray⟩ t)
 |tup {l:List B} {a:Addr} {Vs:List Value} {n:Nat}:h.get? a=some (ec Vs.toArray n)->d4 h l Vs->ck h (.tup l) (.ref a)
 |lst {l:List B} {a:Addr} {Vs:List Value} {n:Nat}:h.get? a=some (cu Vs.toArray n)->d4 h l Vs->ck h (.lst l) (.ref a)
 |ve {v:B} {V:Value}:bQ v=true->ck h v V
inductive d4 (h:Heap):List B->List Value->Prop where
 |nil:d4 h [] []
 |cons {v:B} {V:Value} {l:List B} {Vs:List Value}:ck h v V->d4 h l Vs->d4 h (v::l) (V::Vs)
end
section
variable{P:Params}{N:g3}{H:Heap}{os:OsState}{C:aY}{J:St}{s:Nd}
theorem bA.af(I:Inv P N H os C J s){v:B}{V:Ĉ}(h:bA P C v V):ck s.heap v V:=bA.rec (motive_1:=λv V _=>ck s.heap v V) (motive_2:=λl Vs _=>d4 s.heap l Vs) (motive_3:=λ_ _ _=>True) .none .bool .int (λl t _=>.str l t) (λe _ _ r=>.tup (I.a5 _ _ e) r) (λe _ _ r=>.lst (I.a5 _ _ e) r) (λ_ _ _ _ _ _=>.ve rfl) (λ_=>.ve rfl) (λ_ _ _ _=>.ve rfl) .nil (λ_ _ a r=>.cons a r) trivial (λ_ _ _ _ _ _=>trivial) h
theorem bD.af(I:Inv P N H os C J s){l:IF B}{Vs:IF Ĉ}(h:bD P C l Vs):d4 s.heap l Vs:=bD.ind (M:=d4 s.heap) .nil (λa _ m=>.cons (a.af I) m) h
theorem gq.af(I:Inv P N H os C J s){v:B}{V:Ĉ}(h:gq P C s.heap v V):ck s.heap v V:=by
 induction h with
 |val h=>exact h.af I
 |lst _ b d _=>exact .lst b<|d.af I
 |bb=>exact .ve rfl
end
def FT(h:Heap)(v:B)(V:Ĉ):Prop:=match v with
 |.none=>V=.none
 |.bool b=>V=.bool b
 |.int i=>∃t,V=.int i t
 |.str l=>∃t,V=.str ⟨l.toArray⟩ t
 |.tup l=>dI λa Vs n=>dJ (V=.ref a) (h.get? a=some (ec Vs.toArray n))<|d4 h l Vs
 |.lst l=>dI λa Vs n=>dJ (V=.ref a) (h.get? a=some (cu Vs.toArray n))<|d4 h l Vs
 |_=>True
theorem ck.of{h:Heap}{v:B}{V:Ĉ}(x:ck h v V):FT h v V:=ck.casesOn (motive_1:=λv V _=>FT h v V) x rfl (λ_=>rfl) (λ_ t=>⟨t,rfl⟩) (λ_ t=>⟨t,rfl⟩) (λa b=>⟨_,_,_,rfl,a,b⟩) (λa b=>⟨_,_,_,rfl,a,b⟩) λ{v V} q=>by induction v using B.casesOn<;>first|trivial|exact cH q
theorem xR{g:IF B->IF B->Ċ ĉ}{x y:B}{b:ĉ}(e:ml g x y=some b):bQ x=false:=by induction x using B.casesOn<;>first|rfl|exact b0 e
theorem Rd{g:IF B->IF B->Ċ ĉ}(x y:B):cond (bQ y) (ml g x y=none) True:=by induction y using B.casesOn<;>first|trivial|(induction x using B.casesOn<;>rfl)
theorem RH{g:IF B->IF B->Ċ ĉ}{x y:B}{b:ĉ}(e:ml g x y=some b):bQ y=false:=by
 have h:=Rd (g:=g) x y;rw[e]at h;generalize bQ y=n at h⊢;induction n with
 |false=>rfl
 |true=>exact ly h
theorem Nk{h:Heap}{a:Addr}{Vs bC:IF Ĉ}{n m:Č}(g:h.get? a=some (ec Vs.toArray n))(dW:h.get? a=some (ec bC.toArray m)):Vs=bC:=by exact bH (λo:Obj=>match o.data with|.seq a _=>a.toList|_=>[])<|(cV<|g.symm.trans dW)
theorem VX{h:Heap}{a:Addr}{Vs bC:IF Ĉ}{n m:Č}(g:h.get? a=some (cu Vs.toArray n))(dW:h.get? a=some (cu bC.toArray m)):Vs=bC:=by exact bH (λo:Obj=>match o.data with|.seq a _=>a.toList|_=>[])<|(cV<|g.symm.trans dW)
theorem KX{h:Heap}{a:Addr}{Vs bC:Array Ĉ}{n m:Č}(g:h.get? a=some (cu Vs n))(dW:h.get? a=some (ec bC m)):False:=by exact absurd (show Value.type "list"=Value.type "tuple"from(bH Obj.cls<|cV<|g.symm.trans dW)) (by decide)
section
variable{h:Heap}{x:B}
def Gj(h:Heap)(x:B)(V:Ĉ):Prop:=match V with
 |.none=>x=.none
 |.bool b=>x=.bool b
 |.int i _=>x=.int i
 |.str s _=>x=.str s.cps.toList
 |.float _ _=>False
 |.ref a=>(dI λl Vs k=>dJ (x=.tup l) (h.get? a=some (ec Vs.toArray k))<|d4 h l Vs)\/dI λl Vs k=>dJ (x=.lst l) (h.get? a=some (cu Vs.toArray k))<|d4 h l Vs
 |_=>True
theorem ck.pz{V:Ĉ}(v:ck h x V)(n:bQ x=false):Gj h x V:=ck.casesOn (motive_1:=λx V _=>bQ x=false->Gj h x V) v (λ_=>rfl) (λ_ _=>rfl) (λ_ _ _=>rfl) (λ_ _ _=>rfl) (λg r _=>.inl ⟨_,_,_,rfl,g,r⟩) (λg r _=>.inr ⟨_,_,_,rfl,g,r⟩) (λq n=>cH<|n.symm.trans q) n
theorem ck.Kb(v:ck h x .none)(n:bQ x=false):x=.none:=v.pz n
theorem ck.HD{b:ĉ}(v:ck h x (.bool b))(n:bQ x=false):x=.bool b:=v.pz n
theorem ck.AQ{i:č}{t:Tok}(v:ck h x (.int i t))(n:bQ x=false):x=.int i:=v.pz n
theorem ck.AH{l:IF Č}{t:Tok}(v:ck h x (.str ⟨l.toArray⟩ t))(n:bQ x=false):x=.str l:=v.pz n
theorem ck.R5{f:UInt64}{t:Tok}(v:ck h x (.float f t))(n:bQ x=false):False:=v.pz n
theorem ck.G3{a:Addr}(v:ck h x (.ref a))(n:bQ x=false):(dI λl Vs k=>dJ (x=.tup l) (h.get? a=some (ec Vs.toArray k))<|d4 h l Vs)\/dI λl Vs k=>dJ (x=.lst l) (h.get? a=some (cu Vs.toArray k)) (d4 h l Vs):=v.pz n
theorem ck.Es{a:Addr}{Vs:IF Ĉ}{k:Č}(v:ck h x (.ref a))(g:h.get? a=some (ec Vs.toArray k))(n:bQ x=false):∃l,x=.tup l/\d4 h l Vs:=by
 rcases v.G3 n with⟨l,bC,m,rfl,dW,r⟩|⟨l,bC,m,rfl,dW,r⟩
 .induction Nk g dW;exact⟨l,rfl,r⟩
 .exact(KX dW g).elim
theorem ck.ET{a:Addr}{Vs:IF Ĉ}{k:Č}(v:ck h x (.ref a))(g:h.get? a=some (cu Vs.toArray k))(n:bQ x=false):∃l,x=.lst l/\d4 h l Vs:=by
 rcases v.G3 n with⟨l,bC,m,rfl,dW,r⟩|⟨l,bC,m,rfl,dW,r⟩
 .exact(KX g dW).elim
 .induction VX g dW;exact⟨l,rfl,r⟩
end
def Gg(h:Heap)(l:IF B)(Vs:IF Ĉ):Prop:=match Vs with
 |[]=>l=[]
 |V::Vs=>dX λv m=>dJ (l=v::m) (ck h v V)<|d4 h m Vs
theorem d4.pz{h:Heap}{l:IF B}{Vs:IF Ĉ}(r:d4 h l Vs):Gg h l Vs:=d4.casesOn (motive_2:=λl Vs _=>Gg h l Vs) r rfl λa r=>⟨_,_,rfl,a,r⟩
theorem d4.pl{h:Heap}{l:IF B}(r:d4 h l []):l=[]:=r.pz
theorem d4.lG{h:Heap}{l:IF B}{V:Ĉ}{Vs:IF Ĉ}(r:d4 h l (V::Vs)):dX λv m=>dJ (l=v::m) (ck h v V) (d4 h m Vs):=r.pz
theorem t7{f:B->B->Ċ ĉ}{x y:B}{l m:IF B}{b:ĉ}(e:jH f (x::l) (y::m)=some b):dX λt u=>dJ (f x y=some t) (jH f l m=some u) (b=(t&&u)):=by obtain⟨t,ag,a8⟩:=bind_some<|show(f x y).bind _=some b from e;obtain⟨u,c0,c7⟩:=map_some a8;clear a8;exact⟨t,u,ag,c0,c7.symm⟩
theorem ZR{f:B->B->Ċ ĉ}{h:Heap}(ap:∀x y V b,ck h x V->ck h y V->f x y=some b->b=true):∀{Vs:IF Ĉ} {l m:IF B} {b:ĉ},d4 h l Vs->d4 h m Vs->jH f l m=some b->b=true:=by
 intro Vs;induction Vs with
 |nil=>intro l m b r b2 e;rw[r.pl,b2.pl]at e;exact(cV e).symm
 |cons V Vs uD=>intro l m b r b2 e;obtain⟨v,l,rfl,a,hq⟩:=r.lG;obtain⟨w,m,rfl,hm,ko⟩:=b2.lG;obtain⟨t,u,ag,a8,c0⟩:=t7 e;clear e;rw[c0,ap _ _ _ _ a hm ag,uD hq ko a8];rfl
theorem FU{h:Heap}{g:IF B->IF B->Ċ ĉ}(ap:∀{Vs:IF Ĉ} {l m:IF B} {b:ĉ},d4 h l Vs->d4 h m Vs->g l m=some b->b=true){x y:B}{V:Ĉ}{b:ĉ}(az:ck h x V)(a1:ck h y V)(e:ml g x y=some b):b=true:=by have n:=RH e;exact ck.casesOn (motive_1:=λx V _=>ck h y V->ml g x y=some b->b=true) az (λa1 e=>by rw[a1.Kb n]at e;exact(cV e).symm) (λ_ a1 e=>by rw[a1.HD n]at e;exact(cV e).symm.trans<|jP _) (λ_ _ a1 e=>by rw[a1.AQ n]at e;exact(cV e).symm.trans<|dK rfl) (λ_ _ a1 e=>by rw[a1.AH n]at e;exact(cV e).symm.trans<|dK rfl) (λq r a1 e=>by obtain⟨l,rfl,b2⟩:=a1.Es q n;exact ap r b2 e) (λq r a1 e=>by obtain⟨l,rfl,b2⟩:=a1.ET q n;exact ap r b2 e) (λq _ e=>cH<|(xR e).symm.trans q) a1 e
theorem Vy{h:Heap}:∀(n:Č) (x y:B) (V:Ĉ) (b:ĉ),ck h x V->ck h y V->g7 n x y=some b->b=true:=by
 intro n;induction n with
 |zero=>exact λx y V b az a1 e=>FU (λ_ _ e=>b0 e) az a1 e
 |succ n ap=>exact λx y V b az a1 e=>FU (g:=jH<|g7 n) (ZR ap) az a1 e
theorem X3{f:B->B->Ċ ĉ}{h:Heap}(ap:∀x eJ y V b eA,ck h x V->ck h eJ V->f x y=some b->f eJ y=some eA->b=eA):∀{Vs:IF Ĉ} {l dh m:IF B} {b eA:ĉ},d4 h l Vs->d4 h dh Vs->jH f l m=some b->jH f dh m=some eA->b=eA:=by
 intro Vs;induction Vs with
 |nil=>intro l dh m b eA r b2 e bz;rw[r.pl]at e;rw[b2.pl]at bz;exact cV<|e.symm.trans bz
 |cons V Vs uD=>
  intro l dh m b eA r b2 e bz;obtain⟨v,l,rfl,a,hq⟩:=r.lG;obtain⟨nW,dh,rfl,hm,ko⟩:=b2.lG;induction m with
  |nil=>exact cV<|e.symm.trans bz
  |cons y m=>obtain⟨t,u,ag,a8,c0⟩:=t7 e;clear e;obtain⟨dM,iu,Ub,Q9,Ah⟩:=t7 bz;clear bz;rw[c0,Ah,ap _ _ _ _ _ _ a hm ag Ub,uD hq ko a8 Q9]
theorem EO{h:Heap}{g:IF B->IF B->Ċ ĉ}(ap:∀{Vs:IF Ĉ} {l dh m:IF B} {b eA:ĉ},d4 h l Vs->d4 h dh Vs->g l m=some b->g dh m=some eA->b=eA){x eJ y:B}{V:Ĉ}{b eA:ĉ}(az:ck h x V)(g1:ck h eJ V)(e:ml g x y=some b)(bz:ml g eJ y=some eA):b=eA:=by
 have n:=xR bz;exact ck.casesOn (motive_1:=λx V _=>ck h eJ V->ml g x y=some b->b=eA) az (λg1 e=>by rw[g1.Kb n]at bz;exact cV (e.symm.trans bz)) (λ_ g1 e=>by rw[g1.HD n]at bz;exact cV (e.symm.trans bz)) (λ_ _ g1 e=>by rw[g1.AQ n]at bz;exact cV (e.symm.trans bz)) (λ_ _ g1 e=>by rw[g1.AH n]at bz;exact cV (e.symm.trans bz)) (λq r g1 e=>by
  obtain⟨l,rfl,b2⟩:=g1.Es q n;induction y using B.casesOn with
  |tup m=>exact ap r b2 e bz
  |none=>exact cV<|e.symm.trans bz
  |int=>exact cV<|e.symm.trans bz
  |str=>exact cV<|e.symm.trans bz
  |_=>exact b0 e)
  (λq r g1 e=>by
   obtain⟨l,rfl,b2⟩:=g1.ET q n;induction y using B.casesOn with
   |lst m=>exact ap r b2 e bz
   |_=>exact b0 e)
  (λq _ e=>cH<|(xR e).symm.trans q) g1 e
theorem Uz{h:Heap}:∀(n:Č) (x eJ y:B) (V:Ĉ) (b eA:ĉ),ck h x V->ck h eJ V->g7 n x y=some b->g7 n eJ y=some eA->b=eA:=by
 intro n;induction n with
 |zero=>exact λx eJ y V b eA az g1 e bz=>EO (λ_ _ e _=>b0 e) az g1 e bz
 |succ n ap=>exact λx eJ y V b eA az g1 e bz=>EO (g:=jH<|g7 n) (X3 ap) az g1 e bz
def wQ (f:B->B->Ċ ĉ) (l m:IF B) (j:Č):ĉ:=match l[j]? with
 |some a=>(match m[j]? with|some b=>(f a b).getD false|none=>true)
 |none=>true
theorem UU(n:Č)(f:Č->ĉ):(List.range<|n+1).all f=(f 0&&(List.range n).all λj=>f<|j+1):=by rw[AK,t0,pa];rfl
theorem xY{f:B->B->Ċ ĉ}{l:IF B}:∀{m:IF B} {b:ĉ},jH f l m=some b->b=((List.range<|min l.length m.length).all (wQ f l m)&&l.length==m.length):=by
 induction l with
 |nil=>intro m b e;induction m with|nil=>cases e;rfl|cons=>cases e;rfl
 |cons x l ap=>
  intro m b e;induction m with
  |nil=>cases e;rfl
  |cons y m=>obtain⟨t,u,ag,c0,rfl⟩:=t7 e;rw[ap c0,nl,nl,Nat.add_min_add_right,UU,show wQ f (x::l) (y::m) 0=t from(bH (Option.getD · false) ag:_),Bool.and_assoc,show(l.length+1==m.length+1)=(l.length==m.length)by simp];rfl
theorem YY{f:B->B->Ċ ĉ}{l:IF B}:∀{m:IF B} {b:ĉ},jH f l m=some b->∀{j:Č} {x y:B},l[j]?=some x->m[j]?=some y->f x y=some (wQ f l m j):=by
 induction l with
 |nil=>intro m b e j x y h;exact b0 h
 |cons x l ap=>
  intro m b e j eJ J3 G E;induction m with
  |nil=>exact b0 E
  |cons y m=>
   obtain⟨t,u,ag,c0,_⟩:=t7 e;induction j with
   |zero=>cases G;cases E;exact ag.trans<|bH (some<|Option.getD · false) ag.symm
   |succ j=>exact ap c0 (j:=j) G E
theorem d4.get{h:Heap}{Vs:IF Ĉ}:∀{l:IF B},d4 h l Vs->∀{j:Č} {V:Ĉ},Vs[j]?=some V->∃v,l[j]?=some v/\ck h v V:=by
 induction Vs with
 |nil=>intro l r j V e;exact b0 e
 |cons W Vs ap=>
  intro l r j V e;obtain⟨v,m,rfl,a,hq⟩:=r.lG;induction j with
  |zero=>cases e;exact⟨v,rfl,a⟩
  |succ j=>exact ap hq (j:=j) e
theorem d4.length{h:Heap}{Vs:IF Ĉ}:∀{l:IF B},d4 h l Vs->Vs.length=l.length:=by
 induction Vs with
 |nil=>intro l r;cases r.pl;rfl
 |cons W Vs ap=>intro l r;obtain⟨v,m,rfl,_,hq⟩:=r.lG;exact bH Nat.succ<|ap hq
theorem gw{s:Nd}{a:Addr}{Vs:Array Ĉ}{n:Č}(h:s.heap.get? a=some (ec Vs n)):s.heap.IsTuple a Vs:=⟨_,h,rfl,n,rfl⟩
theorem hW{s:Nd}{a:Addr}{Vs:Array Ĉ}{n:Č}(h:s.heap.get? a=some (cu Vs n)):s.heap.IsList a Vs:=⟨_,h,rfl,n,rfl⟩
theorem zL{s:Nd}{A:Around}{n:Č}(ap:∀x y V W b A,ck s.heap x V->ck s.heap y W->g7 n x y=some b->A.units+n<cLine->EqAt A s V W b){l m:IF B}{Vs bC:IF Ĉ}{b:ĉ}(aj:d4 s.heap l Vs)(aN:d4 s.heap m bC)(e:jH (g7 n) l m=some b)(a4:A.units+(n+1)<cLine):∀j (G:j<Vs.toArray.size) (E:j<bC.toArray.size),EqAt A.in1 s Vs.toArray[j] bC.toArray[j] (wQ (g7 n) l m j):=by intro j G E;obtain⟨x,ex,az⟩:=aj.get (j:=j) (V:=Vs.toArray[j]) (by simp at G⊢);obtain⟨y,W5,a1⟩:=aN.get (j:=j) (V:=bC.toArray[j]) (by simp at E⊢);exact ap x y _ _ _ A.in1 az a1 (YY e ex W5) (by show A.units+1+n<cLine;lia)
theorem Á{a b:IF Č}:((⟨a.toArray⟩:Str)==⟨b.toArray⟩)=decide (a=b):=by rw[<-str_beq];by_cases h:a=b<;>simp[h]
theorem AO{h:Heap}{R:Ĉ->Ĉ->ĉ->Prop}{g:IF B->IF B->Ċ ĉ}(Di:R .none .none true)(UD:∀i t,R .none (.int i t) false)(ns:∀l t,R .none (.str l t) false)(fl:∀{a Vs n},h.get? a=some (ec Vs n)->R .none (.ref a) false)(fk:∀a b,R (.bool a) (.bool b)<|a==b)(Wb:∀i t,R (.int i t) .none false)(Ot:∀i t j u,R (.int i t) (.int j u)<|decide<|i=j)(is:∀i t l u,R (.int i t) (.str l u) false)(it:∀i t {a Vs n},h.get? a=some (ec Vs n)->R (.int i t) (.ref a) false)(ly:∀l t,R (.str l t) .none false)(VZ:∀l t i u,R (.str l t) (.int i u) false)(cS:∀l t m u,R (.str l t) (.str m u)<|l==m)(st:∀l t {a Vs n},h.get? a=some (ec Vs n)->R (.str l t) (.ref a) false)(UJ:∀{a Vs n},h.get? a=some (ec Vs n)->R (.ref a) .none false)(vk:∀i t {a Vs n},h.get? a=some (ec Vs n)->R (.ref a) (.int i t) false)(aS:∀l t {a Vs n},h.get? a=some (ec Vs n)->R (.ref a) (.str l t) false)(Xc:∀{l m a c Vs bC n k b},h.get? a=some (ec Vs.toArray n)->h.get? c=some (ec bC.toArray k)->d4 h l Vs->d4 h m bC->g l m=some b->R (.ref a) (.ref c) b)(W1:∀{l m a c Vs bC n k b},h.get? a=some (cu Vs.toArray n)->h.get? c=some (cu bC.toArray k)->d4 h l Vs->d4 h m bC->g l m=some b->R (.ref a) (.ref c) b){x y:B}{V W:Ĉ}{b:ĉ}(az:ck h x V)(a1:ck h y W)(e:ml g x y=some b):R V W b:=by
 induction x using B.casesOn with
 |none=>
  obtain rfl:=az.of;induction y using B.casesOn with
  |none=>obtain rfl:=a1.of;exact cV e▸Di
  |int=>obtain⟨u,rfl⟩:=a1.of;exact cV e▸UD _ _
  |str=>obtain⟨u,rfl⟩:=a1.of;exact cV e▸ns _ _
  |tup m=>obtain⟨c,bC,k,rfl,q,r⟩:=a1.of;exact cV e▸fl q
  |_=>exact b0 e
 |bool=>
  obtain rfl:=az.of;induction y using B.casesOn with
  |bool=>obtain rfl:=a1.of;exact cV e▸fk _ _
  |_=>exact b0 e
 |int=>
  obtain⟨t,rfl⟩:=az.of;cases y with
  |none=>obtain rfl:=a1.of;exact cV e▸Wb _ _
  |int=>obtain⟨u,rfl⟩:=a1.of;exact cV e▸Ot _ _ _ _
  |str=>obtain⟨u,rfl⟩:=a1.of;exact cV e▸is _ _ _ _
  |tup m=>obtain⟨c,bC,k,rfl,q,r⟩:=a1.of;exact cV e▸it _ _ q
  |_=>exact b0 e
 |str=>
  obtain⟨t,rfl⟩:=az.of;cases y with
  |none=>obtain rfl:=a1.of;exact cV e▸ly _ _
  |int=>obtain⟨u,rfl⟩:=a1.of;exact cV e▸VZ _ _ _ _
  |str=>obtain⟨u,rfl⟩:=a1.of;exact(Á.trans<|cV e)▸cS _ _ _ _
  |tup m=>obtain⟨c,bC,k,rfl,q,r⟩:=a1.of;exact cV e▸st _ _ q
  |_=>exact b0 e
 |tup l=>
  obtain⟨a,Vs,n,rfl,q,r⟩:=az.of;induction y using B.casesOn with
  |none=>obtain rfl:=a1.of;exact cV e▸UJ q
  |int=>obtain⟨u,rfl⟩:=a1.of;exact cV e▸vk _ _ q
  |str=>obtain⟨u,rfl⟩:=a1.of;exact cV e▸aS _ _ q
  |tup m=>obtain⟨c,bC,k,rfl,fg,b2⟩:=a1.of;exact Xc q fg r b2 e
  |_=>exact b0 e
 |lst l=>
  obtain⟨a,Vs,n,rfl,q,r⟩:=az.of;induction y using B.casesOn with
  |lst m=>obtain⟨c,bC,k,rfl,fg,b2⟩:=a1.of;exact W1 q fg r b2 e
  |_=>exact b0 e
 |_=>exact b0 e
theorem Jr{A:Around}{s:Nd}{x y:B}{V W:Ĉ}{b:ĉ}{n:Č}(az:ck s.heap x V)(a1:ck s.heap y W)(e:g7 n x y=some b)(h:RcAt A s V W b):EqAt A s V W b:=λprog w O Q a_=>by
 have cs:bQ x=false:=by induction n<;>exact xR e
 unfold eqBool;refine gY<|wpAny_ite_split (λtX=>?_)<|λ_=>?_
 .have aw:b=true:=by have:=eF tX;subst this;exact Vy n x y V b az a1 e
  subst aw;exact bd<|tf<|b4 a_
 .induction V with
  |float f t=>exact(az.R5 cs).elim
  |_=>exact bd<|h prog w O _<|qN a_
theorem XE{s:Nd}{A:Around}{n:Č}(a4:A.units<cLine)(nH:A.units+(n+1)<cLine)(ap:∀x y V W b A,ck s.heap x V->ck s.heap y W->g7 n x y=some b->A.units+n<cLine->EqAt A s V W b):∀{x y:B} {V W:Ĉ} {b:ĉ},ck s.heap x V->ck s.heap y W->g7 (n+1) x y=some b->RcAt A s V W b:=AO RcAt.none_none RcAt.none_int RcAt.none_str (λq=>RcAt.none_tuple (gw q) a4) RcAt.bool_bool RcAt.int_none RcAt.int_int RcAt.int_str (λ_ _ {_ _ _} q=>RcAt.int_tuple _ _ (gw q) a4) RcAt.str_none RcAt.str_int RcAt.str_str (λ_ _ {_ _ _} q=>RcAt.str_tuple _ _ (gw q) a4) (λq=>RcAt.tuple_none (gw q) a4) (λ_ _ {_ _ _} q=>RcAt.tuple_int _ _ (gw q) a4) (λ_ _ {_ _ _} q=>RcAt.tuple_str _ _ (gw q) a4) (λg dW r b2 e=>by have:=RcAt.tuples (gw g) (gw dW) a4 (zL (A:=A) ap r b2 e nH);rw[xY e];simpa only[eI,r.length,b2.length]using this) (λ{l m _ _ _ _ _ _ _} g dW r b2 e=>by
 rw[xY e];have mw:=r.length;have nI:=b2.length;by_cases aK:l.length=m.length
 .have:=RcAt.lists (hW g) (hW dW) (by simpa using mw.trans (aK.trans nI.symm)) a4<|zL (A:=A) ap r b2 e nH;rw[eI,mw]at this;rw[<-aK,Nat.min_self];simpa using this
 .have:=RcAt.lists_lengths (hW g) (hW dW) (by simp only[eI,bne_iff_ne,ne_eq];rw[mw,nI];exact aK) a4;rw[show(l.length==m.length)=false from lI.mpr aK,t2];exact this)
theorem GR{s:Nd}:∀(n:Č) (x y:B) (V W:Ĉ) (b:ĉ) (A:Around),ck s.heap x V->ck s.heap y W->g7 n x y=some b->A.units+n<cLine->RcAt A s V W b:=by
 intro n;induction n with
 |zero=>intro x y V W b A az a1 e a4;exact AO RcAt.none_none RcAt.none_int RcAt.none_str (λq=>RcAt.none_tuple (gw q) a4) RcAt.bool_bool RcAt.int_none RcAt.int_int RcAt.int_str (λ_ _ {_ _ _} q=>RcAt.int_tuple _ _ (gw q) a4) RcAt.str_none RcAt.str_int RcAt.str_str (λ_ _ {_ _ _} q=>RcAt.str_tuple _ _ (gw q) a4) (λq=>RcAt.tuple_none (gw q) a4) (λ_ _ {_ _ _} q=>RcAt.tuple_int _ _ (gw q) a4) (λ_ _ {_ _ _} q=>RcAt.tuple_str _ _ (gw q) a4) (λ_ _ _ _ e=>b0 e) (λ_ _ _ _ e=>b0 e) az a1 e
 |succ n ap=>exact λx y V W b A az a1 e a4=>XE (hH (nv _ _) a4) a4 (λx y V W b A az a1 e a4=>Jr az a1 e<|ap x y V W b A az a1 e a4) az a1 e
theorem BG{s:Nd}{n:Č}{x y:B}{V W:Ĉ}{b:ĉ}{A:Around}(az:ck s.heap x V)(a1:ck s.heap y W)(e:g7 n x y=some b)(a4:A.units+n<cLine):EqAt A s V W b:=Jr az a1 e<|GR n x y V W b A az a1 e a4
theorem Pm{s:Nd}{n:Č}{x y:B}{V W:Ĉ}{b:ĉ}{A:Around}(az:ck s.heap x V)(a1:ck s.heap y W)(e:g7 (n+1) x y=some b)(nH:A.units+(n+1)<cLine):RcNeAt A s V W !b:=by
 have a4:A.units<cLine:=hH (nv _ _) nH;have ap:∀(x y:B) (V W:Ĉ) (b:ĉ) (A:Around),ck s.heap x V->ck s.heap y W->g7 n x y=some b->A.units+n<cLine->EqAt A s V W b:=λx y V W b A az a1 e a4=>BG az a1 e a4;exact AO (R:=λV W b=>RcNeAt A s V W !b) RcNeAt.none_none RcNeAt.none_int RcNeAt.none_str (λq=>RcNeAt.none_tuple (gw q) a4) RcNeAt.bool_bool RcNeAt.int_none RcNeAt.int_int RcNeAt.int_str (λ_ _ {_ _ _} q=>RcNeAt.int_tuple _ _ (gw q) a4) RcNeAt.str_none RcNeAt.str_int RcNeAt.str_str (λ_ _ {_ _ _} q=>RcNeAt.str_tuple _ _ (gw q) a4) (λq=>RcNeAt.tuple_none (gw q) a4) (λ_ _ {_ _ _} q=>RcNeAt.tuple_int _ _ (gw q) a4) (λ_ _ {_ _ _} q=>RcNeAt.tuple_str _ _ (gw q) a4) (λg dW r b2 e=>by have:=RcNeAt.tuples (gw g) (gw dW) a4 (zL (A:=A) ap r b2 e nH);rw[xY e];simpa only[eI,r.length,b2.length]using this) (λ{l m _ _ _ _ _ _ _} g dW r b2 e=>by
  rw[xY e];have mw:=r.length;have nI:=b2.length;by_cases aK:l.length=m.length
  .have:=RcNeAt.lists (hW g) (hW dW) (by simpa using mw.trans (aK.trans nI.symm)) a4<|zL (A:=A) ap r b2 e nH;rw[eI,mw]at this;rw[<-aK,Nat.min_self];simpa using this
  .have:=RcNeAt.lists_lengths (hW g) (hW dW) (by simp only[eI,bne_iff_ne,ne_eq];rw[mw,nI];exact aK) a4;rw[show(l.length==m.length)=false from lI.mpr aK,t2];exact this) az a1 e
theorem U0(a4:A.units+16<cLine):k' c A .eq:=by intro O s C J x y V W t Q I af bF e h;exact GR 16 x y V W t A (af.af I) (bF.af I) e a4 _ _ O Q<|h s.toks
theorem LV(a4:A.units+16<cLine):k' c A .ne:=by intro O s C J x y V W t Q I af bF e h;obtain⟨b,ag,a8⟩:=map_some<|show(fj x y).map (!·)=some t from e;subst a8;exact Pm (n:=15) (af.af I) (bF.af I) ag a4 _ _ O Q<|h s.toks
theorem yF{P:Params}{C:aY}{h:Heap}{i:č}{W:Ĉ}(bF:gq P C h (.int i) W):∃t,W=.int i t:=by exact bF.of
theorem Xe:k' c A .lt:=by intro O s C J x y V W t Q I af bF e h;replace e:=fE.of e;obtain⟨a,rfl,e⟩:=e;replace e:=fE.of e;obtain⟨b,rfl,e⟩:=e;cases e;obtain⟨u,rfl⟩:=yF bF;obtain⟨w,rfl⟩:=af.of;exact PySem.P.lt_int<|h s.toks
theorem Zl:k' c A .gt:=by intro O s C J x y V W t Q I af bF e h;replace e:=fE.of e;obtain⟨a,rfl,e⟩:=e;replace e:=fE.of e;obtain⟨b,rfl,e⟩:=e;cases e;obtain⟨u,rfl⟩:=yF bF;obtain⟨w,rfl⟩:=af.of;exact PySem.P.gt_int<|h s.toks
theorem Æ:k' c A .ge:=by intro O s C J x y V W t Q I af bF e h;replace e:=fE.of e;obtain⟨a,rfl,e⟩:=e;replace e:=fE.of e;obtain⟨b,rfl,e⟩:=e;cases e;obtain⟨u,rfl⟩:=yF bF;obtain⟨w,rfl⟩:=af.of;exact PySem.P.ge_int<|h s.toks
theorem TX:k' c A .le:=by
 intro O s C J x y V W t Q I af bF e h;replace e:(if x.ctorIdx=2 then(fE x λa=>fE y λb=>some<|decide<|a<=b)else l2 x λa=>l2 y λb=>some<|!jj b a)=some t:=e;by_cases az:x.ctorIdx=2
 .rw[bl az]at e;replace e:=fE.of e;obtain⟨a,rfl,e⟩:=e;replace e:=fE.of e;obtain⟨b,rfl,e⟩:=e;cases e;obtain⟨u,rfl⟩:=yF bF;obtain⟨w,rfl⟩:=af.of;exact PySem.P.le_int<|h s.toks
 .rw[bm az]at e;replace e:=l2.of e;obtain⟨a,rfl,e⟩:=e;replace e:=l2.of e;obtain⟨b,rfl,e⟩:=e;cases e;obtain⟨w,rfl,aj⟩:=af.of;obtain⟨u,rfl,aN⟩:=bF.of;refine PySem.P.le_str ?_;exact h s.toks
theorem none_or{x:B}{V:Ĉ}{P:Params}{C:aY}(af:bA P C x V):(V=.none/\(x.ctorIdx==0)=true)\/dJ (V=.none->False) ((x.ctorIdx==0)=false) (PySem.plainIs V Value.none=true):=bA.casesOn (motive_1:=λx V _=>(V=.none/\(x.ctorIdx==0)=true)\/dJ (V=.none->False) ((x.ctorIdx==0)=false) (PySem.plainIs V Value.none=true)) af (.inl ⟨rfl,rfl⟩) (λ_=>.inr ⟨nofun,rfl,rfl⟩) (λ_ _=>.inr ⟨nofun,rfl,rfl⟩) (λ_ _ _=>.inr ⟨nofun,rfl,rfl⟩) (λ_ _ _=>.inr ⟨nofun,rfl,rfl⟩) (λ_ _ _=>.inr ⟨nofun,rfl,rfl⟩) (λ_ _ _ _ _=>.inr ⟨nofun,rfl,rfl⟩) (λ_=>.inr ⟨nofun,rfl,rfl⟩)<|λ_ _ _ _=>.inr ⟨nofun,rfl,rfl⟩
theorem Z_:k' c A .is:=by
 intro O s C J x y V W t Q I af bF e h;replace e:=sU.of e;obtain⟨rfl,e⟩:=e;cases e;obtain rfl:=bF.of;rcases none_or af with⟨rfl,q⟩|⟨n,q,s_⟩<;>rw[q]at h
 .exact wpAny_is_self rfl<|h s.toks
 .exact wpAny_is_other s_ n<|h s.toks
theorem Vb:k' c A .pC:=by
 intro O s C J x y V W t Q I af bF e h;replace e:=sU.of e;obtain⟨rfl,e⟩:=e;cases e;obtain rfl:=bF.of;rcases none_or af with⟨rfl,q⟩|⟨n,q,s_⟩<;>rw[q]at h
 .exact wpAny_isNot_self rfl<|h s.toks
 .exact wpAny_isNot_other s_ n<|h s.toks
def m_ (h:Heap) (x:B) (cx:Ĉ):ĉ:=@decide (∃v,ck h v cx/\fj v x=some true)<|Classical.propDecidable _
theorem CK{h:Heap}{x v:B}{cx:Ĉ}{b:ĉ}(af:ck h v cx)(e:fj v x=some b):m_ h x cx=b:=by
 unfold m_;induction b with
 |true=>exact @dK _ (Classical.propDecidable _) ⟨v,af,e⟩
 |false=>exact @eC _ (Classical.propDecidable _) λ⟨nW,Br,bz⟩=>absurd (Uz 16 _ _ _ _ _ _ Br af bz e) (by decide)
theorem Tl{x y:B}{l:IF B}{b:ĉ}(e:hN x (y::l)=some b):dX λt u=>dJ (fj y x=some t) (hN x l=some u) (b=(t||u)):=by obtain⟨t,ag,a8⟩:=bind_some<|show(fj y x).bind _=some b from e;obtain⟨u,c0,c7⟩:=map_some a8;clear a8;exact⟨t,u,ag,c0,c7.symm⟩
theorem C4{s:Nd}{x:B}{X:Ĉ}(az:ck s.heap x X)(a4:A.units+17<cLine){Vs:IF Ĉ}:∀{l:IF B} {b:ĉ},d4 s.heap l Vs->hN x l=some b->(∀cx∈Vs,EqAt A.in1 s cx X<|m_ s.heap x cx)/\Vs.any (m_ s.heap x)=b:=by
 induction Vs with
 |nil=>intro l b r e;rw[r.pl]at e;exact⟨λcx h=>(nomatch h),cV e⟩
 |cons V Vs ap=>
  intro l b r e;obtain⟨v,m,rfl,a,hq⟩:=r.lG;obtain⟨t,u,ag,c0,c7⟩:=Tl e;clear e;obtain⟨G,E⟩:=ap hq c0;have ak:=CK a ag;refine⟨λcx jr=>?_,by rw[List.any_cons,ak,E,c7]⟩;cases jr with
  |head=>rw[ak];exact BG a az ag (by show A.units+1+16<cLine;lia)
  |tail _ jr=>exact G cx jr
noncomputable instance:DecidableEq B:=λa b=>Classical.propDecidable _
mutual
noncomputable def sA:B->Č
 |.tup l=>o0 l+1
 |_=>1
noncomputable def o0:IF B->Č
 |[]=>0
 |v::r=>sA v+o0 r
end
theorem Tp(d:Č)(k:B):cond (bQ k) (eW d k=false) True:=by induction k using B.casesOn<;>first|trivial|(induction d using Nat.casesOn<;>rfl)
theorem Bu{d:Č}{k:B}(h:eW d k=true):bQ k=false:=by
 have n:=Tp d k;rw[h]at n;generalize bQ k=b at n⊢;induction b with
 |false=>rfl
 |true=>exact ig n
theorem A5{h:Heap}{M:Č->B->Ĉ->Prop}(aB:∀d i t,M d (.int i)<|.int i t)(aK:∀d l t,M d (.str l)<|.str ⟨l.toArray⟩ t)(dV:∀d l a Vs n,h.get? a=some (ec Vs.toArray n)->d4 h l Vs->(∀v∈l,eW d v=true)->(∀v V,eW d v=true->ck h v V->M d v V)->M (d+1) (.tup l) (.ref a)):∀d k V,eW d k=true->ck h k V->M d k V:=by
 intro d;induction d with
 |zero=>
  intro k V aE af;induction k using B.casesOn with
  |int i=>obtain⟨t,rfl⟩:=af.of;exact aB 0 i t
  |str l=>obtain⟨t,rfl⟩:=af.of;exact aK 0 l t
  |_=>exact cH aE
 |succ d ap=>
  intro k V aE af;induction k using B.casesOn with
  |int i=>obtain⟨t,rfl⟩:=af.of;exact aB _ i t
  |str l=>obtain⟨t,rfl⟩:=af.of;exact aK _ l t
  |tup l=>obtain⟨a,Vs,n,rfl,g,r⟩:=af.of;exact dV d _ _ _ _ g r (DC aE) ap
  |_=>exact cH aE
theorem VO{P:Params}{a b:IF B}:lL P (a++b)=lL P a++lL P b:=by
 induction a with
 |nil=>rfl
 |cons v r ap=>exact bH (List.cons _) ap
theorem N5{a b:IF B}:o0 (a++b)=o0 a+o0 b:=by
 induction a with
 |nil=>exact(iJ _).symm
 |cons v r ap=>exact(bH (sA v+·) ap).trans (qT _ _ _).symm
section
variable{prog:Program}{w:World}
theorem Et{h:Heap}:∀{d:Č} {k:B} {V:Ĉ},eW d k=true->ck h k V->∀{A:Around} {O:Ĉ->Nd->Prop} {s:Nd} {Q:č->Nd->Prop},s.heap=h->A.units+d<cLine->Q (jG w.params k) {s with toks:=s.toks+sA k}->wpAny (model prog w) A (pyHash V) Q O s:=λ{d k V} aE af=>by
 refine A5 (M:=λd k V=>∀{A:Around} {O:Ĉ->Nd->Prop} {s:Nd} {Q:č->Nd->Prop},s.heap=h->A.units+d<cLine->Q (jG w.params k) {s with toks:=s.toks+sA k}->wpAny (model prog w) A (pyHash V) Q O s) (λ_ i t _ _ _ _ _ _ h=>wpAny_pyHash_int h) (λ_ l t _ _ _ _ _ _ h=>wpAny_pyHash_str h) ?_ d k V aE af;intro d l a Vs n aA jB gc ap A O s Q aK a4 h;subst aK;have jc:s.TypeIs (.ref a) "tuple":=⟨_,aA,rfl⟩;unfold pyHash;first|unfold pyHashByItsType|skip
 first|refine bd (wpAny_cRoomFor_or (.inr (hH (nv _ _) a4:A.units<cLine)) ?_)|skip
 refine bd<|ye jc zv.lookup ?_;show wpAny _ _ (if(some (Value.builtin "tuple.__hash__")==some Value.none)=true then _ else _) Q O s;rw[bm<|by rw[beq_builtin_none];exact dT];refine bd<|ye jc zv.lookup ?_;show wpAny _ _ (callSpecialIfBoundUnlessNone? (.ref a) "__hash__" _>>=_) Q O s;refine bd<|wpAny_callSpecialIfBoundUnlessNone?_slot jc zv<|nf zv jc F.entry_tuple_hash ?_<|F.args_tuple_hash_1 _;show wpAny _ _ (Builtin.Tuple.tupleItemsOf (.ref a)>>=_) _ _ s;refine bd<|wpAny_tupleItemsOf aA rfl<|bd ?_;rw[<-Array.forIn_toList];refine wpAny_forIn_list _ (λa' (b:Array č) ar=>dX λdone left=>hU (l=done++left) (d4 s.heap left a') (b.toList=lL w.params done)<|ar={s with toks:=s.toks+o0 done}) _ ?_ ?_ _ _ ⟨[],l,rfl,jB,rfl,rfl⟩
 .rintro x a' b ar⟨done,left,e,aj,aw,rfl⟩;obtain⟨v,r,rfl,BO,bn⟩:=aj.lG;have am:dX λBy JF=>hU (l=By++JF) (d4 s.heap JF a') ((b.push<|jG w.params v).toList=lL w.params By) (({s with toks:=s.toks+o0 done+sA v}:Nd)={s with toks:=s.toks+o0 By}):=⟨done++[v],r,by rw[e,hF];rfl,bn,by rw[Array.toList_push,aw,VO];rfl,by rw[N5,<-qT];rfl⟩;refine bd<|ap v x (gc v<|by rw[e];exact iC _<|.head _) BO rfl (by show A.units+1+d<cLine;lia) ?_;first
   |exact b4 am
   |exact bd (b4 (b4 am))
 .rintro b ar⟨done,left,e,aj,aw,rfl⟩;rw[aj.pl,gN]at e;subst e;show wpAny _ _ (retInt<|Builtin.Tuple.tupleHashOf b.toList) _ _ _;rw[aw];refine wpAny_ret_mkInt ?_;show wpAny _ _ (if(decide (-(2:č)^63<=Builtin.Tuple.tupleHashOf (lL w.params l))&&decide (Builtin.Tuple.tupleHashOf (lL w.params l)<2^63))=true then _ else _) Q O _;have h:Q (if(decide (-(2:č)^63<=Builtin.Tuple.tupleHashOf (lL w.params l))&&decide (Builtin.Tuple.tupleHashOf (lL w.params l)<2^63))=true then _ else _) {s with toks:=s.toks+o0 l+1}:=h;by_cases bn:(decide (-(2:č)^63<=Builtin.Tuple.tupleHashOf (lL w.params l))&&decide (Builtin.Tuple.tupleHashOf (lL w.params l)<2^63))=true
  .rw[bl bn]at h⊢;exact b4 h
  .rw[bm bn]at h⊢;exact bd<|tf<|b4 h
theorem UL{h:Heap}:∀{d:Č} {k:B} {V:Ĉ},eW d k=true->ck h k V->∀{A:Around} {O:Ĉ->Nd->Prop} {s:Nd} {Q:ĉ->Nd->Prop},s.heap=h->Q true s->wpAny (model prog w) A (eqIsQuiet (d+1) V) Q O s:=λ{d k V} aE af=>by
 refine A5 (M:=λd k V=>∀{A:Around} {O:Ĉ->Nd->Prop} {s:Nd} {Q:ĉ->Nd->Prop},s.heap=h->Q true s->wpAny (model prog w) A (eqIsQuiet (d+1) V) Q O s) (λ_ i t _ _ _ _ _ h=>by rw[eqIsQuiet_byValue _ rfl];exact b4 h) (λ_ l t _ _ _ _ _ h=>by rw[eqIsQuiet_byValue _ rfl];exact b4 h) ?_ d k V aE af;intro d l a Vs n aA jB gc ap A O s Q aK h;subst aK;have jc:s.TypeIs (.ref a) "tuple":=⟨_,aA,rfl⟩;unfold eqIsQuiet;refine bd<|ye jc F.slot_tuple_eq.lookup ?_;show wpAny _ _ (isInstance (.ref a) (.type "tuple")>>=_) _ _ s;refine bd<|wpAny_isInstance jc isSubtype_tuple_tuple ?_;simp only[Bool.not_true,tA,sB];refine bd<|wpAny_seqItems aA rfl<|bd ?_;show wpAny _ _ (forIn Vs.toArray _ _) _ _ s;rw[<-Array.forIn_toList];refine wpAny_forIn_list _ (λa' r ar=>dJ (r.1=none) (s=ar) (∃left,d4 s.heap left a'/\∀v∈left,eW d v=true)) _ ?_ ?_ _ _ ⟨rfl,rfl,l,jB,gc⟩
 .rintro v a' r ar⟨bn,rfl,left,aj,gc⟩;obtain⟨nW,b2,rfl,BO,Wu⟩:=aj.lG;refine bd<|ap nW v (gc nW<|.head _) BO rfl ?_;simp only[Bool.not_true,tA,sB];exact b4 ⟨rfl,rfl,b2,Wu,λu nH=>gc u<|.tail _ nH⟩
 .rintro⟨hq,ko⟩ar⟨bn,rfl,_⟩;subst bn;exact b4 h
theorem ON{h:Heap}:∀{d:Č} {x:B} {V:Ĉ},eW d x=true->ck h x V->∀{y:B},eW d y=true->ck h y V->x=y:=λ{d x V} az G=>by
 refine A5 (M:=λd x V=>∀{y:B},eW d y=true->ck h y V->x=y) (λ_ i t _ a1 E=>(E.AQ<|Bu a1).symm) (λ_ l t _ a1 E=>(E.AH<|Bu a1).symm) ?_ d x V az G;intro d l a Vs n g r aj ap y a1 E;obtain⟨m,rfl,b2⟩:=E.Es g<|Bu a1;have aN:=DC a1;clear a1 E g;refine bH B.tup ?_;induction Vs generalizing l m with
 |nil=>rw[r.pl,b2.pl]
 |cons V Vs uD=>obtain⟨v,l,rfl,eZ,hq⟩:=r.lG;obtain⟨u,m,rfl,iF,ko⟩:=b2.lG;rw[ap v V (aj v<|.head _) eZ (aN u<|.head _) iF,uD l hq (λv af=>aj v<|.tail _ af) m ko λv af=>aN v<|.tail _ af]
theorem Jq(d:Č){x y:B}(az:eW d x=true)(a1:eW d y=true)(n:Č)(am:d<=n):g7 n x y=some (decide<|x=y):=xn (Eo az) (Eo a1) am
theorem MP{d:Č}{k:B}(h:eW d k=true):eW (d+1) k=true:=I1 (M:=λd k=>eW (d+1) k=true) (λ_ _=>rfl) (λ_ _=>rfl) (λ_ l aj ap=>d'.mpr λv af=>ap v<|aj v af) d k h
theorem ck.sameBut{h aR:Heap}{d:Addr}{es:Array DictEntry}{rM:Č}{o:Obj}(aA:h.get? d=some o)(bg:o.data=.dict es rM)(aK:Heap.SameBut d h aR){v:B}{V:Ĉ}(x:ck h v V):ck aR v V:=have k:∀{a Vs n q},h.get? a=some (Obj.mk q Option.none (.seq Vs n) #[])->aR.get? a=some (Obj.mk q Option.none (.seq Vs n) #[]):=λ{a Vs n q} g=>(aK.2 a<|by rintro rfl;rw[cV<|aA.symm.trans g]at bg;exact Data.noConfusion bg).trans g;ck.rec (motive_1:=λv V _=>ck aR v V) (motive_2:=λl Vs _=>d4 aR l Vs) .none .bool .int .str (λg _ r=>.tup (k g) r) (λg _ r=>.lst (k g) r) .ve .nil (λ_ _ a r=>.cons a r) x
def ub (prog:Program) (w:World):HeapKind prog w B where
 is:=λh k a=>eW 6 k=true/\ck h k (.ref a)
 hash:=jG w.params
 draws:=sA
 room:=λA=>A.units+6<cLine
 inj:=λaz a1=>ON az.1 az.2 a1.1 a1.2
 keeps:=λx aA bg aK=>⟨x.1,x.2.sameBut aA bg aK⟩
 pyHash:=λa4 aE h=>Et aE.1 aE.2 rfl a4 h
 eqBool:=λa4 az a1 h=>BG az.2 a1.2 (Jq 6 az.1 a1.1 6<|dA _) a4 _ _ _ _ h
 quiet:=λaE h=>UL (MP aE.1) aE.2 rfl h
end
def jn (k:B) (l:IF (B×B)):Ċ Č:=l.findIdx? λe=>decide<|e.1=k
theorem IS{x:B}(h:(eH x !=0)=true):eW 6 x=true:=by
 induction x using B.casesOn with
 |int=>rfl
 |str=>rfl
 |tup l=>
  by_cases q:eW 6 (.tup l)=true
  .exact q
  .rw[show eH (.tup l)=0 from bm q]at h;exact cH h
 |_=>exact cH h
theorem wu{k:B}{l:IF (B×B)}(h:ep k l=true):eW 6 k=true/\∀e∈l,eW 6 e.1=true/\eH e.1=eH k:=by have h:=gA.mp h;refine⟨IS h.1,λe a6=>?_⟩;have ag:=eF<|d'.mp h.2 e a6;exact⟨IS (by rw[ag];exact h.1),ag⟩
theorem Th{x y:B}(G:eW 6 x=true)(E:eW 6 y=true):fj x y=some (decide<|x=y):=Jq 6 G E 16 (by decide)
theorem K_{k:B}{p:B×B}{l:IF (B×B)}(h:ep k (p::l)=true):ep k l=true:=have h:=gA.mp h;gA.mpr ⟨h.1,(gA.mp h.2).2⟩
theorem I8{k a b:B}{l:IF (B×B)}(h:ep k ((a,b)::l)=true):fj a k=some (decide<|a=k):=Th ((wu h).2 (a,b)<|.head _).1 (wu h).1
theorem Bs{k a b:B}{l:IF (B×B)}:jn k ((a,b)::l)=if decide (a=k)=true then some 0 else(jn k l).map (· +1):=w2
theorem RV{k:B}{l:IF (B×B)}(h:ep k l=true):fv k l=some ((jn k l).bind λj=>(l[j]?).map (·.2)):=by
 induction l with
 |nil=>rfl
 |cons p r ap=>
  induction p with|mk a b=>
  show(match fj a k with|some true=>some (some b)|some false=>fv k r|none=>none)=_;rw[I8 h,Bs];induction decide (a=k)with
  |true=>rfl
  |false=>show fv k r=some (Option.bind (Option.map _<|jn k r) _);rw[ap<|K_ h];induction jn k r<;>rfl
theorem JV{k v:B}{l:IF (B×B)}(h:ep k l=true):gU k v l=some (match jn k l with|some j=>l.modify j λe=>(e.1,v)|none=>l++[(k,v)]):=by
 induction l with
 |nil=>rfl
 |cons p r ap=>
  induction p with|mk a b=>
  show(match fj a k with|some true=>some ((a,v)::r)|some false=>(gU k v r).map ((a,b)::·)|none=>none)=_;rw[I8 h,Bs];induction decide (a=k)with
  |true=>rfl
  |false=>show(gU k v r).map ((a,b)::·)=some (match Option.map (· +1) (jn k r)with|some j=>_|none=>_);rw[ap<|K_ h];induction jn k r<;>rfl
section
variable{P:Params}{C:aY}{l:IF (B×B)}{es:IF DictEntry}
theorem ea.length(h:ea P C l es):es.length=l.length:=ea.ind (M:=λl es=>es.length=l.length) rfl (λ_ _ _ m=>bH Nat.succ m) h
theorem ea.get(h:ea P C l es):∀{j:Č} {p:B×B},l[j]?=some p->dX λK V=>dJ (es[j]?=some ⟨jG P p.1,K,V⟩) (bA P C p.1 K) (bA P C p.2 V):=ea.ind (M:=λl es=>∀{j:Č} {p:B×B},l[j]?=some p->dX λK V=>dJ (es[j]?=some ⟨jG P p.1,K,V⟩) (bA P C p.1 K) (bA P C p.2 V)) (λe=>b0 e) (λa b _ m=>λ{j} _ e=>by
 induction j with
 |zero=>cases e;exact⟨_,_,rfl,a,b⟩
 |succ j=>exact m (j:=j) e) h
theorem ea.modify{v:B}{V:Ĉ}(af:bA P C v V)(h:ea P C l es):∀j,ea P C (l.modify j λe=>(e.1,v)) (es.modify j λe=>{e with val:=V}):=ea.ind (M:=λl es=>∀j,ea P C (l.modify j λe=>(e.1,v)) (es.modify j λe=>{e with val:=V})) (λj=>by induction j<;>exact .nil) (λa b r m j=>by
 induction j with
 |zero=>exact .cons a af r
 |succ j=>exact .cons a b (m j)) h
theorem ea.push{k v:B}{K V:Ĉ}(aE:bA P C k K)(af:bA P C v V)(h:ea P C l es):ea P C (l++[(k,v)]) (es++[⟨jG P k,K,V⟩]):=ea.ind (M:=λl es=>ea P C (l++[(k,v)])<|es++[(⟨jG P k,K,V⟩:DictEntry)]) (.cons aE af .nil) (λa b _ m=>.cons a b m) h
end
theorem Lv(l:IF B):eH (.tup l)=3\/eH (.tup l)=0:=by
 by_cases q:eW 6 (.tup l)=true
 .exact .inl<|bl q
 .exact .inr<|bm q
theorem K7{x:B}(h:eH x=1):∃a,x=.int a:=by
 induction x using B.casesOn with
 |int a=>exact⟨a,rfl⟩
 |tup l=>rcases Lv l with e|e<;>exact absurd (e.symm.trans h) (uX rfl)
 |_=>exact absurd h<|uX rfl
theorem FX{x:B}(h:eH x=2):∃a,x=.str a:=by
 induction x using B.casesOn with
 |str a=>exact⟨a,rfl⟩
 |tup l=>rcases Lv l with e|e<;>exact absurd (e.symm.trans h) (uX rfl)
 |_=>exact absurd h<|uX rfl
theorem NY{x:B}(h:eH x=3):∃a,x=.tup a:=by
 induction x using B.casesOn with
 |tup a=>exact⟨a,rfl⟩
 |_=>exact absurd h<|uX rfl
theorem LJ{av b9:Type}{f:av->ĉ}{g:b9->ĉ}{l:IF av}:∀{m:IF b9},l.length=m.length->(∀(j:Č) (a:av) (b:b9),l[j]?=some a->m[j]?=some b->f a=g b)->l.findIdx? f=m.findIdx? g:=by
 induction l with
 |nil=>intro m h _;induction m with
  |nil=>rfl
  |cons=>exact Nat.noConfusion h
 |cons a l ap=>
  intro m h k;induction m with
  |nil=>exact Nat.noConfusion h
  |cons b m=>rw[w2,w2,k 0 a b rfl rfl,ap (Nat.succ.inj h) λj a b ag a8=>k (j+1) a b ag a8]
theorem U8{k:B}{l:IF (B×B)}(h:∀p∈l,p.1=k->False):jn k l=none:=List.findIdx?_eq_none_iff.mpr λp ae=>eC<|h p ae
theorem PK{k:B}{l:IF (B×B)}(am:(l.map Prod.fst).Nodup):∀{j:Č} {v:B},l[j]?=some (k,v)->jn k l=some j:=by
 induction l with
 |nil=>exact λe=>b0 e
 |cons p r ap=>
  induction p with|mk a b=>
  have am:=hK.mp am;intro j v e;rw[Bs];induction j with
  |zero=>cases e;exact bl<|dK rfl
  |succ j=>have e:r[j]?=some (k,v):=e;rw[(eC λq=>am.1 (q▸dq.mpr ⟨_,h' e,rfl⟩):decide (a=k)=false),ap am.2 e];rfl
section
variable{c:cc}{A:Around}{O:Ĉ->Nd->Prop}{s:Nd}{C:aY}{J:St}
theorem Lz{o2:Type}[DecidableEq o2]{knd:PySem.KeyKind c.prog c.w o2}{f:o2->B}{cK:Č}(ca:∀a,jG c.P (f a)=knd.hash a)(view:∀x X,eH x=cK->bA c.P C x X->∃a,x=f a/\knd.is a X=true/\∀b,knd.is b X=decide (f a=f b)){d:Addr}{es:IF DictEntry}{n:Č}{l:IF (B×B)}{k:o2}{K:Ĉ}{Q:Ċ Č->Nd->Prop}(bg:s.heap.get? d=some (ej es.toArray n))(aj:ea c.P C l es)(gc:∀e∈l,eH e.1=cK)(aE:knd.is k K=true)(h:Q (jn (f k) l) s):wpAny c.M A (dictFind d K<|knd.hash k) Q O s:=by
 have H7:∀{j:Č} {e:DictEntry} {p:B×B},es[j]?=some e->l[j]?=some p->∃a,p.1=f a/\dJ (knd.is a e.key=true) (∀b,knd.is b e.key=decide (f a=f b)) (e.hash=knd.hash a):=λ{j e p} ag a8=>by obtain⟨eN,Ee,c0,r,_⟩:=aj.get a8;obtain⟨a,q,bZ,bs⟩:=view _ _ (gc p<|h' a8) r;obtain rfl:=cV<|ag.symm.trans c0;exact⟨a,q,bZ,bs,(bH _ q).trans<|ca a⟩
 refine wpAny_dictFind_of (knd:=knd) (k:=k) aE bg rfl (λe a6=>?_) ?_
 .obtain⟨j,b'⟩:=Cm.mp<|nz.mp a6;obtain⟨a,_,bZ,_,dN⟩:=H7 b'<|fq<|aj.length▸(g0.mp b').1;exact⟨a,bZ,dN⟩
 .rw[List.findIdx?_toArray,LJ (g:=λe=>decide<|e.1=f k) aj.length λj e p ag a8=>by obtain⟨a,q,_,bs,_⟩:=H7 ag a8;rw[bs,q]];exact h
theorem Nt(I:c.I C J s){l:IF (B×B)}{es:IF DictEntry}(aj:ea c.P C l es):(∀e∈l,eW 6 e.1=true/\eH e.1=3)->∃bP:IF (B×Addr×Ĉ),dJ (es=bP.map (entryOfKey<|ub c.prog c.w)) (bP.map (·.1)=l.map Prod.fst) (∀y∈bP,(ub c.prog c.w).is s.heap y.1 y.2.1):=by
 refine ea.ind (M:=λl es=>(∀e∈l,eW 6 e.1=true/\eH e.1=3)->∃bP:IF (B×Addr×Ĉ),dJ (es=bP.map (entryOfKey<|ub c.prog c.w)) (bP.map (·.1)=l.map Prod.fst) (∀y∈bP,(ub c.prog c.w).is s.heap y.1 y.2.1)) (λ_=>⟨[],rfl,rfl,λ_ h=>(nomatch h)⟩) (λ{k v K V l es} G _ _ ap gc=>?_) aj;obtain⟨bP,rfl,qx,CO⟩:=ap λe a6=>gc e<|.tail _ a6;obtain⟨d7,aC⟩:=gc (k,v)<|.head _;obtain⟨y,rfl⟩:=NY aC;clear aC;obtain⟨b,bC,m,rfl,bZ,bs,dN⟩:=G.of;refine⟨(.tup y,b,V)::bP,rfl,bH (_::·) qx,λz hz=>?_⟩;rcases eD.mp hz with e|hz
 .rw[e];exact⟨d7,G.af I⟩
 .exact CO z hz
theorem GJ{d:Addr}{es:IF DictEntry}{n:Č}{l:IF (B×B)}{k:B}{K:Ĉ}{Q:Ċ Č->Nd->Prop}(a4:A.units+6<cLine)(I:c.I C J s)(bg:s.heap.get? d=some (ej es.toArray n))(aj:ea c.P C l es)(am:(l.map Prod.fst).Nodup)(a7:ep k l=true)(aE:bA c.P C k K)(h:Q (jn k l) s):wpAny c.M A (dictFind d K<|jG c.P k) Q O s:=by
 have i9:=wu a7;induction k using B.casesOn with
 |int i=>obtain⟨t,rfl⟩:=aE.of;refine Lz (knd:=PySem.intKind c.prog c.w) (f:=.int) (cK:=1) (λ_=>rfl) (λx X e r=>?_) bg aj (λe a6=>(i9.2 e a6).2) (jP i) h;obtain⟨a,rfl⟩:=K7 e;clear e;obtain⟨w,rfl⟩:=r.of;exact⟨a,rfl,jP a,λb=>u2.mpr ⟨bH _,B.int.inj⟩⟩
 |str x=>obtain⟨t,rfl,aq⟩:=aE.of;refine Lz (knd:=PySem.strKind c.prog c.w) (f:=λx=>.str x.cps.toList) (k:=⟨x.toArray⟩) (cK:=2) (λ_=>rfl) (λx X e r=>?_) bg aj (λe a6=>(i9.2 e a6).2) (jP (⟨x.toArray⟩:Str)) h;obtain⟨a,rfl⟩:=FX e;clear e;obtain⟨w,rfl,-⟩:=r.of;exact⟨⟨a.toArray⟩,rfl,jP (⟨a.toArray⟩:Str),λb=>Bool.eq_iff_iff.mpr<|(fM (a:=(⟨a.toArray⟩:Str)) (b:=b)).trans ⟨λq=>by rw[<-q];exact dK rfl,λq=>by have:=B.str.inj<|fe q;induction b;exact bH Str.mk<|bH List.toArray this⟩⟩
 |tup x=>
  obtain⟨a,Vs,m,rfl,ag,a8,c0⟩:=aE.of;obtain⟨bP,lK,h6,d8⟩:=Nt I aj λe a6=>⟨(i9.2 e a6).1,(i9.2 e a6).2.trans (bl i9.1:eH (.tup x)=3)⟩;have az:∀(j:Č),(bP[j]?).map (·.1)=(l[j]?).map Prod.fst:=λj=>by rw[<-gX,h6,gX]
  refine wpAny_dictFind_heap (knd:=ub c.prog c.w) (k:=.tup x) a4 ⟨i9.1,(bA.tup ag a8 c0).af I⟩ bg rfl lK d8 (by rw[h6];exact am) (λAV=>?_) λj p b'=>?_
  .rw[U8 λp ae q=>?_]at h
   .exact h
   .obtain⟨j,b'⟩:=Cm.mp ae;have e:=az j;rw[b']at e;obtain⟨z,hz,AZ⟩:=map_some e;clear e;exact AV j z.2<|hz.trans<|bH some<|m9 (AZ.trans q) rfl
  .have e:=az j;rw[b']at e;obtain⟨z,hz,AZ⟩:=map_some e.symm;rw[PK am<|hz.trans<|bH some (m9 AZ rfl:z=(.tup x,z.2))]at h;exact h
 |_=>exact cH i9.1
end
section
variable{c:cc}{A:Around}{O:Ĉ->Nd->Prop}{s:Nd}{C:aY}{J:St}
structure iM(c:cc)(C:aY)(s:Shared)(d:Addr)(l:List (B×B))(es:List DictEntry)(n:Nat):Prop where
 at_:s.heap.get? d=some (ej es.toArray n)
 rel:ea c.P C l es
 nodup:(l.map Prod.fst).Nodup
 a3:l.length<=a3
inductive vU (P:Params) (C:aY):Option B->Option Value->Prop where
 |none:vU P C none none
 |some {v:B} {V:Value}:bA P C v V->vU P C (some v) (some V)
theorem Ae{d:Addr}{es:IF DictEntry}{n:Č}{l:IF (B×B)}{k:B}{K:Ĉ}{r:Ċ B}{Q:Ċ Ĉ->Nd->Prop}(a4:A.units+6<cLine)(I:c.I C J s)(D:iM c C s d l es n)(a7:ep k l=true)(aE:bA c.P C k K)(e:fv k l=some r)(h:∀R t,vU c.P C r R->Q R {s with toks:=t}):wpAny c.M A (dictGet d K) Q O s:=by
 unfold dictGet;try with_reducible refine gY ?_
 refine bd<|Et (wu a7).1 (aE.af I) rfl a4<|bd<|GJ a4 (I.toks _) D.at_ D.rel D.nodup a7 aE ?_;rw[RV a7]at e;induction aB:jn k l with
 |none=>rw[aB]at e;cases e;exact b4<|h _ _ .none
 |some j=>
  rw[aB]at e;have b':j<l.length:=by unfold jn at aB;exact(List.findIdx?_eq_some_iff_getElem.mp aB).1
  have ae:l[j]?=some l[j]:=fq b';rw[Option.bind_some,ae]at e;cases e;obtain⟨eN,Ee,ag,a8,c0⟩:=D.rel.get ae;clear ae;refine bd<|wpAny_dictEntries (s:={s with toks:=_}) D.at_ rfl ?_;rw[show es.toArray[j]?=some ⟨jG c.P l[j].1,eN,Ee⟩by simpa using ag];exact b4<|h _ _<|.some c0
theorem Jw{d:Addr}{es:IF DictEntry}{n:Č}{l dh:IF (B×B)}{k v:B}{K V:Ĉ}{Q:Unit->Nd->Prop}(a4:A.units+6<cLine)(I:c.I C J s)(D:iM c C s d l es n)(a7:ep k l=true)(aE:bA c.P C k K)(af:bA c.P C v V)(e:gU k v l=some dh)(h:∀(aR:Heap) (t:Č) (cz:IF DictEntry) (n':Č),aR.get? d=some (ej cz.toArray n')->ea c.P C dh cz->(dh.map Prod.fst).Nodup->Heap.SameBut d s.heap aR->Q () {s with heap:=aR,toks:=t}):wpAny c.M A (dictSet d K V) Q O s:=by
 have on:es.toArray.size<=sizeLine:=by have:=D.rel.length;have:=D.a3;rw[eI];unfold a3 at*;unfold sizeLine;lia
 unfold dictSet;try with_reducible refine gY ?_
 refine bd<|Et (wu a7).1 (aE.af I) rfl a4 ?_;unfold dictSetHashed;try with_reducible refine gY ?_
 refine bd<|GJ a4 (I.toks _) D.at_ D.rel D.nodup a7 aE ?_;rw[JV a7]at e;induction aB:jn k l with
 |some j=>
  rw[aB]at e;cases e;refine bd<|tf<|bd<|wpAny_updateDict (s:={s with toks:=_}) D.at_ rfl<|wpAny_point<|h _ _ (es.modify j λe=>{e with val:=V}) n (tm _ D.at_ rfl|>.trans ?_) (D.rel.modify af j) ?_ (uW ..)
  .exact bH (λa=>some<|ej a n) (show es.toArray.modify j (λe=>{e with val:=V})=_ by simp)
  .have:(l.modify j λe=>(e.1,v)).map Prod.fst=l.map Prod.fst:=by apply Aa;intro i;simp only[gX,List.getElem?_modify];by_cases q:j=i<;>induction l[i]?<;>simp[q]
   rw[this];exact D.nodup
 |none=>
  rw[aB]at e;cases e;refine bd<|tf<|wpAny_updateDictKeys (hz:=on) (s:={s with toks:=_}) D.at_ rfl<|h _ _ (es++[⟨jG c.P k,K,V⟩]) (n+1) (tm _ D.at_ rfl|>.trans ?_) (D.rel.push aE af) ?_ (uW ..)
  .exact bH (λa=>some<|ej a<|n+1) (show es.toArray.push ⟨jG c.P k,K,V⟩=_ by simp)
  .rw[cZ,m4];refine⟨D.nodup,by simp,λx az y a1 q=>?_⟩;simp only[gf,List.map_nil,cU]at a1;subst a1 q;obtain⟨p,ae,hI⟩:=dq.mp az;clear az;unfold jn at aB;rw[List.findIdx?_eq_none_iff]at aB;have:=aB p ae;simp[hI]at this
theorem iM.typeIs{d:Addr}{l:IF (B×B)}{es:IF DictEntry}{n:Č}(D:iM c C s d l es n):s.TypeIs (.ref d) "dict":=⟨_,D.at_,rfl⟩
theorem Ja{d:Addr}{es:IF DictEntry}{n:Č}{l:IF (B×B)}{k:B}{K:Ĉ}{r:Ċ B}{Q:ĉ->Nd->Prop}(a4:A.units+16<cLine)(I:c.I C J s)(D:iM c C s d l es n)(aK:(d==sysModules)=false)(a7:ep k l=true)(aE:bA c.P C k K)(e:fv k l=some r)(h:∀t,Q r.isSome {s with toks:=t}):wpAny c.M A (PySem.contains (.ref d) K) Q O s:=by
 unfold PySem.contains;try with_reducible refine gY ?_
 have ó:stdlibNamesSay? (.ref d) K=none:=rfl;refine bd<|ye D.typeIs CI.lookup ?_;show wpAny _ _ (if(some (Value.builtin "dict.__contains__")==some Value.none)=true then _ else _) _ O s;rw[bm<|by rw[beq_builtin_none];exact dT];refine bd<|wpAny_callSpecialUnlessNone?_slot (name:=Str.ofString "__contains__") D.typeIs CI<|nf CI D.typeIs entry_dict_contains ?_<|args_dict_contains _ _;show wpAny _ _ (dictGet d K>>=_) _ _ s;refine bd<|Ae (iY a4:A.units+7<cLine) I D a7 aE e λR t aA=>?_;induction aA with
 |some af=>show wpAny _ _ (ret<|.bool true) _ _ _;exact b4 ⟨_,rfl,qN<|h t⟩
 |none=>show wpAny _ _ (Builtin.Dict.pendingKey? d K>>=_) _ _ _;exact bd<|wpAny_pendingKey_other aK<|b4 ⟨_,rfl,qN<|h t⟩
theorem Ug{d:Addr}{es:IF DictEntry}{n:Č}{l:IF (B×B)}{k v:B}{K:Ĉ}{Q:Ĉ->Nd->Prop}(a4:A.units+16<cLine)(I:c.I C J s)(D:iM c C s d l es n)(a7:ep k l=true)(aE:bA c.P C k K)(e:fv k l=some (some v))(h:∀V t,bA c.P C v V->Q V {s with toks:=t}):wpAny c.M A (getItem (.ref d) K) Q O s:=by
 unfold getItem;try with_reducible refine gY ?_
 refine bd<|wI D.typeIs (by decide) ?_;refine bd<|so (name:=Str.ofString "__getitem__") D.typeIs slot_dict_getitem<|nf slot_dict_getitem D.typeIs entry_dict_getitem ?_<|args_dict_getitem _ _;show wpAny _ _ (dictGet d K>>=_) _ _ s;refine bd<|Ae (iY a4:A.units+7<cLine) I D a7 aE e λR t aA=>?_;cases aA with
 |some af=>exact b4 ⟨_,rfl,b4<|h _ _ af⟩
theorem G8{d:Addr}{es:IF DictEntry}{n:Č}{l dh:IF (B×B)}{k v:B}{K V:Ĉ}{Q:Unit->Nd->Prop}(a4:A.units+16<cLine)(I:c.I C J s)(D:iM c C s d l es n)(a7:ep k l=true)(aE:bA c.P C k K)(af:bA c.P C v V)(e:gU k v l=some dh)(h:∀(aR:Heap) (t:Č) (cz:IF DictEntry) (n':Č),aR.get? d=some (ej cz.toArray n')->ea c.P C dh cz->(dh.map Prod.fst).Nodup->Heap.SameBut d s.heap aR->Q () {s with heap:=aR,toks:=t}):wpAny c.M A (setItem (.ref d) K V) Q O s:=by
 unfold setItem;try with_reducible refine gY ?_
 refine bd<|wI D.typeIs (by decide) ?_;refine bd<|so (name:=Str.ofString "__setitem__") D.typeIs slot_dict_setitem<|nf slot_dict_setitem D.typeIs entry_dict_setitem ?_<|args_dict_setitem _ _ _;show wpAny _ _ (Builtin.Dict.notOrdered "__setitem__" ⟨[.ref d,K,V],[]⟩>>=_) _ _ s;refine bd<|wpAny_notOrdered_dict D.typeIs ?_;show wpAny _ _ (dictSet d K V>>=_) _ _ s;exact bd<|Jw (iY a4:A.units+7<cLine) I D a7 aE af e λaR t cz n' a b iL mE=>b4 ⟨.none,rfl,b4<|h aR t cz n' a b iL mE⟩
theorem QD{d:Addr}{pos:Pos}{x y:Sem Ĉ}{Q:Ĉ->Nd->Prop}(a4:A.units+16<cLine)(aK:(d==sysModules)=false)(h:wpAny c.M A x (λK bt=>wpAny c.M A y (λD b_=>Cc λ(cq:aY) (d6:St) (l:IF (B×B)) (es:IF DictEntry) (n:Č) (k:B) (r:Ċ B)=>rN (c.I cq d6 b_) (iM c cq b_ d l es n) (ep k l=true) (bA c.P cq k K) (fv k l=some r) (∀R t,vU c.P cq r R->Q (R.getD D) {b_ with toks:=t})) O bt) O s):wpAny c.M A (callWith pos (.builtin "dict.get") [.ref d] [(false,x),(false,y)] []) Q O s:=method2_meetsIn F.slot_dict_get F.entry_dict_get (ln h (λK _ mr=>ln mr (λD _ wD=>by
 obtain⟨cq,d6,l,es,n,k,r,I,yx,a7,aE,e,a_⟩:=wD;refine⟨yx.typeIs,F.args_dict_get_3 _ _ _,(λA R s=>A.units+8<cLine/\Cc λ(cq:aY) (d6:St) (l:IF (B×B)) (es:IF DictEntry) (n:Č) (k:B) (r:Ċ B)=>rN (c.I cq d6 s) (iM c cq s d l es n) (ep k l=true) (bA c.P cq k K) (fv k l=some r) (∀V t,vU c.P cq r V->R (.ok<|.ret<|V.getD D) {s with toks:=t})),.of_wp λA R s ⟨a4,cq,d6,l,es,n,k,r,I,yx,a7,aE,e,a_⟩=>?_,iY ‹_›,cq,d6,l,es,n,k,r,I,yx,a7,aE,e,λV t aA=>a_ V t aA⟩;show wpAny _ _ (dictGet d K>>=_) _ _ s;refine bd<|Ae (iY a4:A.units+7<cLine) I yx a7 aE e λV t aA=>?_;have wf:=a_ V t aA;induction aA with
 |some af=>exact b4 ⟨_,rfl,wf⟩
 |none=>show wpAny _ _ (Builtin.Dict.missed d K>>=_) _ _ _;exact bd (wpAny_missed_other aK (b4 ⟨_,rfl,wf⟩))) λ_ _ e=>e) λ_ _ e=>e)
end
theorem El{i:č}{n j:Č}(h:jX i n=some j):seqIndex? i n=some j/\j<n/\-(n:č)<=i/\i<n:=by
 induction i using Int.casesOn with
 |ofNat k=>obtain⟨G,e⟩:=g4<|show(if k<n then some k else none)=some j from(bl<|nw k).symm.trans h;obtain rfl:=cV e;have aE:(k:č)<n:=iG.mpr G;exact⟨seqIndex_of (nw k) aE,G,uO (Int.neg_nonpos_of_nonneg<|nw n)<|nw k,aE⟩
 |negSucc k=>obtain⟨G,e⟩:=g4<|show(if k+1<=n then some (n-(k+1))else none)=some j from(bm<|Int.not_le.mpr<|Cf k).symm.trans h;cases e;have am: -(n:č)<=.negSucc k:=Int.neg_le_neg<|v_.mpr G;refine⟨(PySem.seqIndex_neg (Cf k) am).trans<|bH some ?_,Nat.sub_lt (gH (nV k) G)<|nV k,am,Int.lt_of_lt_of_le (Cf k)<|nw n⟩;rw[Int.add_comm];exact bH Int.toNat (Int.ofNat_sub G).symm
theorem C'{P:Params}{N:g3}{H:Heap}{os:OsState}{C:aY}{J:St}{s:Nd}(I:Inv P N H os C J s){n:Č}{a b:Addr}(G:C a=.st n)(E:C b=.st n):a=b:=I.uniq a b (G.trans E.symm) (by rw[G];trivial)
section
variable{c:cc}{A:Around}{O:Ĉ->Nd->Prop}{s:Nd}{C:aY}{J:St}
theorem p0(I:c.I C J s){n:Č}{aX:Ĉ}{l:IF B}(d2:bA c.P C (.ref n) aX)(e:J[n]?=some (.ls l)):dI λa Vs k=>qG (aX=.ref a) (C a=.st n) (s.heap.get? a=some (cu Vs.toArray k)) (bD c.P C l Vs) (l.length<=a3):=by obtain⟨a,rfl,r⟩:=d2.of;obtain⟨_,_,_,G,E,aC,ba⟩:=(I.store n _ e).of;obtain rfl:=C' I G r;exact⟨_,_,_,rfl,G,E,aC,ba⟩
theorem DG(I:c.I C J s){n:Č}{aX:Ĉ}{l:IF (B×B)}(d2:bA c.P C (.ref n) aX)(e:J[n]?=some (.cP l)):dI λa es k=>dJ (aX=.ref a) (C a=.st n) (iM c C s a l es k):=by obtain⟨a,rfl,r⟩:=d2.of;obtain⟨_,_,_,G,E,aC,ba,cN⟩:=(I.store n _ e).of;obtain rfl:=C' I G r;exact⟨_,_,_,rfl,G,E,aC,cN,ba⟩
theorem gq.ref{h:Heap}{P:Params}{n:Č}{V:Ĉ}(x:gq P C h (.ref n) V):bA P C (.ref n) V:=by obtain⟨a,rfl,e⟩:=x.of;exact .ref e
theorem Ax(I:c.I C J s){aX:Ĉ}{l:IF B}(d2:gq c.P C s.heap (.lst l) aX):dI λa Vs k=>hU (aX=.ref a) (s.heap.get? a=some (cu Vs.toArray k)) (bD c.P C l Vs) (l.length<=a3):=by obtain⟨a,Vs,n,rfl,e,b,d⟩:=d2.of;exact⟨_,_,_,rfl,e.elim (I.a5 _ _) And.right,b,d⟩
theorem B5(I:c.I C J s)(e9:∃o,c.H.get? sysModules=some o){a:Addr}(h:(C a).one):(a==sysModules)=false:=by obtain⟨o,aA⟩:=e9;rw[lI];rintro rfl;rw[I.base _ o aA]at h;exact h
theorem sz(I:c.I C J s)(e9:∃o,c.H.get? sysModules=some o){aX:Ĉ}{l:IF (B×B)}(d2:gq c.P C s.heap (.bb l) aX):dI λa es k=>dJ (aX=.ref a) (iM c C s a l es k) ((a==sysModules)=false):=by obtain⟨a,es,n,rfl,e,b,d,f⟩:=d2.of;exact⟨_,_,_,rfl,⟨e.elim (λe=>I.a5 _ _ e.1) And.right,b,f,d⟩,e.elim And.right λ⟨⟨_,e⟩,_⟩=>B5 I e9<|by rw[e];trivial⟩
theorem T5(I:c.I C J s){aX:Ĉ}{l:IF (B×B)}(d2:gq c.P C s.heap (.bb l) aX):dI λa es k=>aX=.ref a/\iM c C s a l es k:=by obtain⟨a,es,n,rfl,e,b,d,f⟩:=d2.of;exact⟨_,_,_,rfl,e.elim (λe=>I.a5 _ _ e.1) And.right,b,f,d⟩
theorem DE(I:c.I C J s){aX:Ĉ}{l:IF B}(d2:gq c.P C s.heap (.tup l) aX):dI λa Vs k=>qG (aX=.ref a) (C a=.a5 (ec Vs.toArray k)) (s.heap.get? a=some (ec Vs.toArray k)) (bD c.P C l Vs) (l.length<=a3):=by obtain⟨a,Vs,n,rfl,e,b,d⟩:=d2.of;exact⟨_,_,_,rfl,e,I.a5 _ _ e,b,d⟩
theorem B3{P:Params}{h:Heap}{aX:Ĉ}{l:bx}(d2:gq P C h (.str l) aX):∃t,aX=.str ⟨l.toArray⟩ t/\l.length<=a3:=d2.of
theorem zM{P:Params}{aX:Ĉ}{i:č}(d2:bA P C (.int i) aX):∃t,aX=.int i t:=d2.of
theorem Vk{a:Addr}{Vs:IF Ĉ}{n:Č}{l:IF B}{i:č}{v:B}{t:Tok}{Q:Ĉ->Nd->Prop}(aA:s.heap.get? a=some (cu Vs.toArray n))(af:bD c.P C l Vs)(aq:l.length<=a3)(e:((jX i l.length).bind λj=>l[j]?)=some v)(h:∀V t,bA c.P C v V->Q V {s with toks:=t}):wpAny c.M A (getItem (.ref a)<|.int i t) Q O s:=by
 obtain⟨j,ag,a8⟩:=bind_some e;clear e;obtain⟨G,E,aC,ba⟩:=El ag;clear ag;obtain⟨V,c0,c7⟩:=af.get a8;clear a8;have aj:=af.length;have eM:l.length<=16777216:=aq;by_cases aU:0<=i
 .refine wpAny_getItem_list (hW aA) aU (by lia) ?_<|h V s.toks c7;rw[seqIndex_of aU ba]at G;cases G;simpa using c0
 .refine wpAny_getItem_list_neg (hW aA) (by lia) (by simp[aj];lia) (by lia) ?_<|h V s.toks c7;rw[PySem.seqIndex_neg (by lia) aC]at G;cases G;simpa[aj]using c0
theorem Ph{a:Addr}{Vs:IF Ĉ}{n:Č}{l:IF B}{i:č}{v:B}{t:Tok}{Q:Ĉ->Nd->Prop}(aA:s.heap.get? a=some (ec Vs.toArray n))(af:bD c.P C l Vs)(aq:l.length<=a3)(e:((jX i l.length).bind λj=>l[j]?)=some v)(h:∀V t,bA c.P C v V->Q V {s with toks:=t}):wpAny c.M A (getItem (.ref a)<|.int i t) Q O s:=by obtain⟨j,ag,a8⟩:=bind_some e;clear e;obtain⟨G,E,aC,ba⟩:=El ag;clear ag;obtain⟨V,c0,c7⟩:=af.get a8;clear a8;have aj:=af.length;have eM:l.length<=16777216:=aq;exact PyProof.Rows.getItem_tuple (j:=j) (x:=V) ⟨_,aA,rfl,n,rfl⟩ (by lia) (by lia) (by simpa[aj]using G) (by simpa using c0)<|h V s.toks c7
inductive cG (c:cc) (C:aY) (s:Shared) (k v:B):Value->Prop
 |lst (a:Addr) (Vs:List Value) (m:Nat) (l:List B):s.heap.get? a=some (cu Vs.toArray m)->bD c.P C l Vs->l.length<=a3->uL l k=some v->cG c C s k v (.ref a)
 |tup (a:Addr) (Vs:List Value) (m:Nat) (l:List B):s.heap.get? a=some (ec Vs.toArray m)->bD c.P C l Vs->l.length<=a3->uL l k=some v->cG c C s k v (.ref a)
 |str (l:bx) (t:Tok):l.length<=a3->Lu l k=some v->cG c C s k v (.str ⟨l.toArray⟩ t)
 |bb (a:Addr) (es:List DictEntry) (m:Nat) (l:List (B×B)):iM c C s a l es m->Cq l k=some v->cG c C s k v (.ref a)
theorem cG.of{o k v:B}{aX:Ĉ}(I:c.I C J s)(d2:gq c.P C s.heap o aX)(e:hn J o k=some v):cG c C s k v aX:=by
 induction o using B.casesOn with
 |ref n=>
  obtain⟨ct,aK,e⟩:=bind_some<|show(J[n]?).bind _=some v from e;induction ct using c5.casesOn with
  |ls l=>obtain⟨a,Vs,m,rfl,-,E,aC,ba⟩:=p0 I d2.ref aK;exact .lst _ _ _ _ E aC ba e
  |cP l=>obtain⟨a,es,m,rfl,-,D⟩:=DG I d2.ref aK;exact .bb _ _ _ _ D e
  |ins=>exact b0 e
 |tup l=>obtain⟨a,Vs,m,rfl,-,E,aC,ba⟩:=DE I d2;exact .tup _ _ _ _ E aC ba e
 |lst l=>obtain⟨a,Vs,m,rfl,E,aC,ba⟩:=Ax I d2;exact .lst _ _ _ _ E aC ba e
 |str l=>obtain⟨t,rfl,aq⟩:=B3 d2;exact .str _ _ aq e
 |bb l=>obtain⟨a,es,m,rfl,D⟩:=T5 I d2;exact .bb _ _ _ _ D e
 |_=>exact b0 e
theorem PS{o k v:B}{aX K:Ĉ}{Q:Ĉ->Nd->Prop}(a4:A.units+16<cLine)(I:c.I C J s)(d2:gq c.P C s.heap o aX)(ab:bA c.P C k K)(e:hn J o k=some v)(h:∀V t,bA c.P C v V->Q V {s with toks:=t}):wpAny c.M A (getItem aX K) Q O s:=by
 induction cG.of I d2 e with
 |lst a Vs m l E aC ba d=>obtain⟨i,rfl,d⟩:=fE.of d;obtain⟨t,rfl⟩:=zM ab;exact Vk E aC ba d h
 |tup a Vs m l E aC ba d=>obtain⟨i,rfl,d⟩:=fE.of d;obtain⟨t,rfl⟩:=zM ab;exact Ph E aC ba d h
 |str l t aq d=>
  replace d:=fE.of d;obtain⟨i,rfl,d⟩:=d;obtain⟨u,rfl⟩:=zM ab;clear ab;obtain⟨j,ag,a8⟩:=bind_some d;clear d;obtain⟨x,c0,c7⟩:=map_some a8;clear a8;obtain⟨G,E,aC,ba⟩:=El ag;clear ag;have eM:l.length<=16777216:=aq;subst c7;refine PySem.P.getItem_str (c:=x) ?_ ?_ (h _ _<|.str [x] _<|by show 1<=a3;decide)
  .simp only[qt,mH];lia
  .show(seqIndex? i l.toArray.size).bind _=_;rw[eI,G];simpa using c0
 |bb a es m l D e=>obtain⟨a7,e⟩:=g4 e;obtain⟨r,ag,a8⟩:=bind_some e;clear e;replace a8:r=some v:=a8;subst a8;exact Ug a4 I D a7 ab ag h
theorem X8{o k v:B}{aX:Ĉ}(I:c.I C J s)(d2:gq c.P C s.heap o aX)(e:hn J o k=some v):dX λT id=>s.TypeIs aX T/\typeLookup (.type T) "__getitem__"=pure (some<|.builtin id):=by
 induction cG.of I d2 e with
 |lst a Vs m l E=>exact⟨_,_,⟨_,E,rfl⟩,slot_list_getitem.lookup⟩
 |tup a Vs m l E=>exact⟨_,_,⟨_,E,rfl⟩,rg.lookup⟩
 |str=>exact⟨_,_,typeIs_str _ _ _,F.slot_str_getitem.lookup⟩
 |bb a es m l D=>exact⟨_,_,D.typeIs,slot_dict_getitem.lookup⟩
def w' (e:ċ):ĉ:= !Nat.beq e.ctorIdx 26
theorem RK{rL:ċ}(h:w' rL=true)(o i:Ĉ):subscripted rL false o i=operate [o,i] (getItem o i):=rF (b:= !w' rL) (by induction rL using PySem.Expr.casesOn<;>first|exact @rfl _ (operate [o,i] (getItem o i))|trivial) (by rw[h];rfl)
theorem ZQ{e i:ċ}{pos:Pos}{eU mN:dm}(a4:A.units+16<cLine)(ae:w' i=true)(go:lM c A e eU)(gI:Good c A i mN):Good c A (.Subscript e i pos) λr J K=>eU r J (hA mN r<|HX K):=by intro O s ac C r J k K Q I F ag h;refine Subscript_<|go.use I F ag λo db e aX bL bt a0 bU bo d2=>gI.use a0 bU e λbY d6 e V cq b_ ce ee bM ab=>ax.dt e λz fz e=>?_;have Iw:=d2.ext a0 bM;obtain⟨T,id,jc,aj⟩:=X8 ce Iw fz;exact tail_any jc aj (PS a4 ce Iw ab fz λV t cn=>h _ _ e V cq _ (ce.toks t) ((bo.trans bM).trans<|br.toks cq b_ t) cn)<|RK ae aX V
end
theorem IJ{e:ċ}{i:č}{pos:Pos}(g:Good c A e λ_ J K=>K (.int i) J):Good c A (.UnaryOp .USub e pos) λ_ J K=>K (.int<|-i) J:=by intro O s ac C r J k K Q I F ag h;refine wpAny_UnaryOp<|g.use (K:=λv bG=>v=.int i/\K (.int<|-i) bG) I F ⟨rfl,ag⟩ λv db e V bL bt a0 bU bo af=>?_;rw[e.1]at af;obtain⟨t,rfl⟩:=af.of;exact PySem.P.neg_int<|h _ _ e.2 _ bL _ (a0.toks _) (bo.trans<|br.toks bL bt _)<|.int _ _
inductive pJ (c:cc) (A:Around):Option Expr->Option Int->Prop where
 |none:pJ c A none none
 |some {e:Expr} {i:Int}:Good c A e (λ_ J K=>K (.int i) J)->pJ c A (some e) (some i)
theorem pJ.use{x:Ċ ċ}{p:Ċ č}(g:pJ c A x p){O:Ĉ->Nd->Prop}{s:Nd}{ac:Env}{C:aY}{r:aJ}{J:St}{k:Č}{Q:Ĉ->Nd->Prop}(I:c.I C J s)(F:c.F C ac r s.heap k)(h:∀V aO ar,c.I aO J ar->c.F aO ac r ar.heap k->br C s aO ar->IsPart V p->Q V ar):wpAny c.M A (evalPart x ac) Q O s:=by
 induction g with
 |none=>rw[evalPart_none];exact b4<|h _ C s I F (br.refl C s) .none
 |@some _ i g=>rw[evalPart_some];exact g.use (K:=λv bG=>v=.int i/\bG=J) I F ⟨rfl,rfl⟩ λv bG e V aO ar dk g5 x af=>by rw[e.1]at af;rw[e.2]at dk;exact h V aO ar dk g5 x (by obtain⟨t,rfl⟩:=af.of;exact .int _ _)
theorem Mr{w:World}{prog:Program}{O:Ĉ->Nd->Prop}{s:Nd}{t aL:Addr}{Vs:IF Ĉ}{n:Č}{u:Tok}{Q:Ĉ->Nd->Prop}(dV:IsTup s.heap t Vs.toArray)(aK:s.heap.IsSliceOf aL .none (.int (-1) u) .none)(G:1<=Vs.length)(h:Q (.ref s.heap.objs.size) {s with heap:=s.heap.push (ec Vs.dropLast.toArray 0)})(hsz:Vs.length<=sizeLine):wpAny (model prog w) A (getItem (.ref t)<|.ref aL) Q O s:=by
 have wZ:sizeOk (.seq Vs.dropLast.toArray):=by show Vs.dropLast.toArray.size<=sizeLine;rw[eI,List.length_dropLast];exact aI (r' _ _) hsz
 obtain⟨os,sy,jm,jK⟩:=id aK;clear aK;unfold getItem;try with_reducible refine gY ?_
 first|refine bd (b4 ?_)|skip
 refine bd<|wI dV.typeIs (by decide) ?_;refine bd<|so (name:=Str.ofString "__getitem__") dV.typeIs rg<|nf rg dV.typeIs entry_tuple_getitem ?_<|args_tuple_getitem _ _;show wpAny _ _ (Builtin.Tuple.tupleItemsOf (.ref t)>>=_) _ _ s;refine bd<|tupleItemsOf_ dV<|bd<|wpAny_typeOf (⟨os,sy,jm⟩:s.TypeIs (.ref aL) "slice") ?_;rw[bl<|by decide];have app:∀{bT:č×č×Č->Nd->Prop} {vK:Ĉ->Nd->Prop},bT (0,1,Vs.length-1) s->wpAny (model prog w) A.in1 (Builtin.Slice.sliceApplied (.ref aL)<|pure ((Vs.toArray.size:Č):č)) bT vK s:=by
  intro bT vK aR;unfold Builtin.Slice.sliceApplied Builtin.Slice.sliceFields;refine bd<|bd<|wpAny_field sy jK (x:=.none) rfl<|bd<|wpAny_field sy jK (x:=.int (-1) u) rfl<|bd<|wpAny_field sy jK (x:=.none) rfl<|b4<|bd<|slicePart_none ?_;show wpAny _ _ (if((1:č)==0)=true then _ else _) _ _ s;rw[bm<|by decide];refine bd<|slicePart_none<|bd<|slicePart_int<|bd<|b4 ?_;show wpAny _ _ (match Builtin.Slice.sliceAdjust none (some<|-1) 1 ((Vs.toArray.size:Č):č)with|(lo,aB)=>pure (lo,(1:č),Builtin.Slice.slicePlaces lo aB 1)) _ _ s;have ag:Builtin.Slice.sliceAdjust none (some<|-1) 1 ((Vs.toArray.size:Č):č)=(0,((Vs.length-1:Č):č)):=by rw[eI];have oP:(-1:č)+(Vs.length:č)=((Vs.length-1:Č):č):=(Int.add_comm _ _).trans (Int.ofNat_sub G).symm;exact bH (Prod.mk (0:č))<|(bH (λx:č=>max x 0) oP).trans<|Int.max_eq_left<|nw _
  have a8:Builtin.Slice.slicePlaces 0 ((Vs.length-1:Č):č) 1=Vs.length-1:=by
   cases Vs.length-1 with
   |zero=>rfl
   |succ k=>show(if(0:č)<((k+1:Č):č)then(((k+1:Č):č)-0-1)/1+1 else 0).toNat=k+1;rw[bl<|show(0:č)<((k+1:Č):č)from iG.mpr<|nV k,Int.ediv_one,rZ,Int.sub_add_cancel];rfl
  rw[ag];show wpAny _ _ (pure ((0:č),(1:č),Builtin.Slice.slicePlaces 0 ((Vs.length-1:Č):č) 1)) _ _ s;rw[a8];exact b4 aR
 refine bd<|app ?_;have AV:¬(((0:č)==0&&(1:č)==1&&(Vs.length-1)==Vs.toArray.size)=true):=by
  have:(Vs.length-1==Vs.toArray.size)=false:=by rw[lI,eI];exact gK<|Nat.sub_lt G<|nV 0
  rw[this];simp
 show wpAny _ _ (if((0:č)==0&&(1:č)==1&&(Vs.length-1)==Vs.toArray.size)=true then _ else _) _ _ s;have kH:((List.range<|Vs.length-1).filterMap λ(k:Č)=>Vs.toArray[((0:č)+(k:č)*1).toNat]?).toArray=Vs.dropLast.toArray:=by
  have e:(λ(k:Č)=>Vs.toArray[((0:č)+(k:č)*1).toNat]?)=λk=>Vs.toArray[0+k]?:=by
   funext k;have:((0:č)+(k:č)*1).toNat=0+k:=by rw[Int.mul_one,Int.zero_add,iJ];rfl
   rw[this]
  rw[e];have:=pick_run Vs.toArray 0<|Vs.length-1;rw[List.filterMap_map]at this;have a8:((λx=>Vs.toArray[x]?)∘λx=>0+x)=λk=>Vs.toArray[0+k]?:=rfl;rw[a8]at this;rw[this,DV];simp
 rw[bm AV,kH];first
  |exact bd (m:=Builtin.Tuple.tupleExact _) (vy (b4 ⟨_,rfl,b4 h⟩) wZ)
  |exact bd (m:=Builtin.Tuple.tupleExact _) (vy (bd (b4 (b4 ⟨_,rfl,b4 h⟩))) wZ)
  |exact bd (bd (m:=Builtin.Tuple.tupleExact _) (vy (b4 (b4 ⟨_,rfl,b4 h⟩)) wZ))
  |exact bd (bd (m:=Builtin.Tuple.tupleExact _) (vy (b4 ⟨_,rfl,b4 h⟩) wZ))
theorem SN{w:World}{prog:Program}{O:Ĉ->Nd->Prop}{s:Nd}{t aL:Addr}{Vs:IF Ĉ}{u:Tok}{Q:Ĉ->Nd->Prop}(dV:IsTup s.heap t Vs.toArray)(aK:s.heap.IsSliceOf aL (.int 0 u) .none .none)(h:Q (.ref t) s):wpAny (model prog w) A (getItem (.ref t)<|.ref aL) Q O s:=by
 obtain⟨os,sy,jm,jK⟩:=id aK;have ZL:s.TypeIs (.ref aL) "slice":=⟨os,sy,jm⟩;unfold getItem;try with_reducible refine gY ?_
 first|refine bd (b4 ?_)|skip
 refine bd<|wI dV.typeIs (by decide) ?_;refine bd<|so (name:=Str.ofString "__getitem__") dV.typeIs rg<|nf rg dV.typeIs entry_tuple_getitem ?_<|args_tuple_getitem _ _;show wpAny _ _ (Builtin.Tuple.tupleItemsOf (.ref t)>>=_) _ _ s;refine bd<|tupleItemsOf_ dV<|bd<|wpAny_typeOf ZL ?_;rw[bl<|by decide];refine bd<|sliceApplied_from (a:=0) aK (f_ _) ?_;show wpAny _ _ (if(((0:Č):č)==0&&(1:č)==1&&(Vs.toArray.size-0)==Vs.toArray.size)=true then _ else _) _ _ s;rw[bl<|by simp];refine bd (m:=Builtin.Tuple.tupleIsExact _) ?_;unfold Builtin.Tuple.tupleIsExact;refine bd<|wpAny_typeOf dV.typeIs<|b4 ?_;show wpAny _ _ (if(Value.type "tuple"==Value.type "tuple")=true then _ else _) _ _ s;rw[bl<|by decide];first
  |exact bd (tf (b4 ⟨_,rfl,b4 h⟩))
  |exact bd (tf (bd (b4 (b4 ⟨_,rfl,b4 h⟩))))
theorem Vh{lo up st:Ċ ċ}{p:Pos}{o i:Ĉ}:∃ops,subscripted (.Slice lo up st p) false o i=operate ops (getItem o i):=by induction st<;>exact⟨_,rfl⟩
noncomputable abbrev zp (a b d:Ĉ):Obj:={cls:=.type "slice",data:=.fields #[a,b,d]}
theorem ps{P:Params}{C:aY}{l:IF B}{aX:Ĉ}(h:bA P C (.tup l) aX):dI λa Vs n=>hU (aX=.ref a) (C a=.a5 (ec Vs.toArray n)) (bD P C l Vs) (l.length<=a3):=h.of
theorem pq{P:Params}{C:aY}{l:IF B}{aX:Ĉ}(h:bA P C (.lst l) aX):dI λa Vs n=>hU (aX=.ref a) (C a=.a5 (cu Vs.toArray n)) (bD P C l Vs) (l.length<=a3):=h.of
theorem bD.dropLast{P:Params}{C:aY}{l:IF B}{Vs:IF Ĉ}(h:bD P C l Vs):bD P C l.dropLast Vs.dropLast:=by rw[DV,DV,h.length];exact h.take _
def Made(c:cc)(C:aY)(J:St)(s:Nd)(v:B)(V:Ĉ)(ar:Nd):Prop:=∃aO,dJ (c.I aO J ar) (br C s aO ar)<|bA c.P aO v V
theorem Mv{O:Ĉ->Nd->Prop}{s:Nd}{C:aY}{J:St}{o v:B}{aX mM v2 uk:Ĉ}{aL:Addr}{a b d:Ċ č}{Q:Ĉ->Nd->Prop}(I:c.I C J s)(d2:bA c.P C o aX)(aK:s.heap.IsSliceOf aL mM v2 uk)(sZ:IsPart mM a)(th:IsPart v2 b)(oW:IsPart uk d)(e:rL o a b d=some v)(h:∀V ar,Made c C J s v V ar->Q V ar):dX λT id=>dJ (s.TypeIs aX T) (typeLookup (.type T) "__getitem__"=pure (some<|.builtin id)) (wpAny c.M A (getItem aX<|.ref aL) Q O s):=by
 induction o using B.casesOn with
 |tup l=>
  obtain⟨t,Vs,m,rfl,G,E,aC⟩:=ps d2;clear d2;have aj:=E.length;have fU:IsTup s.heap t Vs.toArray:=⟨_,I.a5 _ _ G,rfl,m,rfl⟩;have fin:∀{bC:IF Ĉ} {dh:IF B},bD c.P C dh bC->dh.length<=a3->Made c C J s (.tup dh) (.ref s.heap.objs.size) {s with heap:=s.heap.push (ec bC.toArray 0)}:=λ{bC dh} r q=>⟨_,I.push (ec bC.toArray 0) rfl _<|.inl rfl,br.push I (ec bC.toArray 0)<|.a5<|ec bC.toArray 0,.tup (c2 _ _ _) ((br.push I (ec bC.toArray 0)<|.a5<|ec bC.toArray 0).iN I r) q⟩;refine⟨_,_,⟨_,I.a5 _ _ G,rfl⟩,rg.lookup,?_⟩;induction d with
  |some=>exact b0 e
  |none=>
   cases oW;induction b with
   |none=>
    cases th;induction a with
    |none=>exact b0 e
    |some i=>
     induction i with
     |negSucc=>exact b0 e
     |ofNat n=>obtain⟨am,e⟩:=g4<|show(if 1<=n/\n<=l.length then some (B.tup<|l.drop n)else none)=some v from e;cases e;cases sZ with|int _ u=>exact getItem_tuple_from (a:=n) (items:=Vs.toArray) fU aK am.1 (by rw[eI,aj];exact am.2) (h _ _<|fin (E.drop n)<|by rw[uZ];exact aI (r' _ _) aC) (by rw[eI,aj];exact aC)
   |some j=>
    induction a with
    |some=>exact b0 e
    |none=>
     induction j with
     |ofNat=>exact b0 e
     |negSucc n=>
      induction n with
      |succ=>exact b0 e
      |zero=>
       cases sZ;induction l using List.casesOn with
       |nil=>exact b0 e
       |cons x l=>
        cases e;cases th with|int _ u=>
        exact Mr (Vs:=Vs) (n:=0) fU aK (by rw[aj];exact nV _) (h _ _<|fin E.dropLast<|by rw[List.length_dropLast];exact aI (r' _ _) aC) (by rw[aj];exact aC)
 |lst l=>
  obtain⟨t,Vs,m,rfl,G,E,aC⟩:=pq d2;clear d2;have aj:=E.length;have fU:=hW<|I.a5 _ _ G;have fin:∀{bC:IF Ĉ} {dh:IF B},bD c.P C dh bC->dh.length<=a3->Made c C J s (.lst dh) (.ref s.heap.objs.size) {s with heap:=s.heap.push (cu bC.toArray 0)}:=λ{bC dh} r q=>⟨_,I.push (cu bC.toArray 0) rfl _<|.inl rfl,br.push I (cu bC.toArray 0)<|.a5<|cu bC.toArray 0,.lst (c2 _ _ _) ((br.push I (cu bC.toArray 0)<|.a5<|cu bC.toArray 0).iN I r) q⟩;refine⟨_,_,⟨_,I.a5 _ _ G,rfl⟩,slot_list_getitem.lookup,?_⟩;induction a with
  |some=>exact b0 e
  |none=>
   induction d with
   |none=>
    induction b with
    |none=>exact b0 e
    |some i=>
     induction i with
     |negSucc=>exact b0 e
     |ofNat n=>
      cases e;refine wpAny_getItem_list_slice fU aK sZ th oW (by cases oW;exact λq=>nomatch q) ?_ (by rw[eI,aj];exact aC);rw[kms_pick_eq,show kms_pick Vs.toArray.toList none (some<|Int.ofNat n)=Vs.take n from ?_]
      .exact h _ _ (fin (E.take n)<|by rw[zw];exact aI (Nat.min_le_right _ _) aC)
      .unfold kms_pick kms_lo kms_hi;simp only[bm<|show¬(Int.ofNat n<0)from Int.not_lt.mpr<|nw n,List.drop_zero,Nat.sub_zero];rw[show(Int.ofNat n).toNat=n from rfl];by_cases q:n<=Vs.length
       .rw[Nat.min_eq_left q]
       .rw[Nat.min_eq_right (by lia),List.take_length,r8<|by lia]
   |some j=>
    induction b with
    |some=>exact b0 e
    |none=>
     induction j with
     |ofNat=>exact b0 e
     |negSucc n=>
      induction n with
      |succ=>exact b0 e
      |zero=>cases e;refine wpAny_getItem_list_slice fU aK sZ th oW (λq=>nomatch q) ?_ (by rw[eI,aj];exact aC);rw[show(some<|Int.negSucc 0)=some (-1)from rfl,krv_pick];exact h _ _ (fin E.reverse<|by rw[List.length_reverse];exact aC)
 |_=>exact b0 e
theorem Sb{e:ċ}{lo up st:Ċ ċ}{a b d:Ċ č}{p pos:Pos}{eU:dm}(go:Good c A e eU)(WK:pJ c A lo a)(lv:pJ c A up b)(v5:pJ c A st d):Good c A (.Subscript e (.Slice lo up st p) pos) λr J K=>eU r J (JH a b d K):=by intro O s ac C r J k K Q I F ag h;refine Subscript_<|go.use I F ag λo db e aX bL bt a0 bU bo d2=>ax.dt e λz fz e=>wpAny_Slice<|WK.use a0 bU λmM cq b_ ce ee bM sZ=>lv.use ce ee λv2 j3 f9 fS jF fu th=>v5.use fS jF λuk zu iy hy ny k4 oW=>?_;have Ic:=((bM.trans fu).trans k4).trans<|br.push hy (zp mM v2 uk) .ext;obtain⟨ops,Oh⟩:=Vh (lo:=lo) (up:=up) (st:=st) (p:=p) (o:=aX) (i:=.ref iy.heap.objs.size);obtain⟨T,id,jc,aj,d_⟩:=Mv (A:=A) (O:=O) (hy.push (zp mM v2 uk) rfl .ext<|.inr rfl) (Ic.hg a0 d2) (z' ..) sZ th oW fz λV ar ⟨aO,dk,eJ,cn⟩=>h _ _ e V aO ar dk ((bo.trans Ic).trans eJ) cn;exact tail_any jc aj d_ Oh
theorem qI.dt{o k:B}{f:B->Prop}{cR:Prop}(h:qI o k f)(q:∀l n,o=.tup l->k=.int (.ofNat n)->n<=l.length->f (.tup<|l.drop n)->cR):cR:=by
 induction o using B.casesOn with
 |tup l=>induction k using B.casesOn with
  |int i=>induction i with
   |ofNat n=>exact q l n rfl rfl h.1 h.2
   |negSucc=>exact False.elim h
  |_=>exact False.elim h
 |_=>exact False.elim h
theorem VW{e i:ċ}{p pos:Pos}{eU mN:dm}(go:Good c A e eU)(gI:Good c A i mN):Good c A (.Subscript e (.Slice (some i) none none p) pos) λr J K=>eU r J (hA mN r<|Ia K):=by
 intro O s ac C r J k K Q I F ag h;refine Subscript_<|go.use I F ag λo db e aX bL bt a0 bU bo d2=>wpAny_Slice ?_;rw[evalPart_some,evalPart_none];refine gI.use a0 bU e λbY d6 e V cq b_ ce ee bM ab=>b4<|b4<|qI.dt e λl n AX zK am e=>?_;rw[zK]at ab;rw[AX]at d2;obtain⟨u,rfl⟩:=ab.of;have lm:=ce.push (zp (.int (Int.ofNat n) u) .none .none) rfl .ext<|.inr rfl;have hs:=bM.trans<|br.push ce (zp (.int (Int.ofNat n) u) .none .none) .ext;obtain⟨t,Vs,m,rfl,G,E,aC⟩:=ps<|hs.hg a0 d2;replace hs:=bo.trans hs;have aj:=E.length;have jc:IsTup _ t Vs.toArray:=⟨_,lm.a5 _ _ G,rfl,m,rfl⟩;refine tail_any (ops:=[.ref b_.heap.objs.size,.ref t]) (id:="tuple.__getitem__") jc.typeIs rg.lookup ?_ rfl;induction n with
 |zero=>exact SN jc (z' ..)<|h _ _ e _ _ _ lm hs<|.tup G E aC
 |succ n=>refine getItem_tuple_from (a:=n+1) jc (z' ..) (nV _) (by rw[eI,aj];exact am) ?_ (by rw[eI,aj];exact aC);have n4:=br.push lm (ec (Vs.drop<|n+1).toArray 0)<|.a5<|ec (Vs.drop<|n+1).toArray 0;exact h _ _ e _ _ _ (lm.push (ec (Vs.drop<|n+1).toArray 0) rfl _<|.inl rfl) (hs.trans n4) (.tup (c2 _ _ _) (n4.iN lm<|E.drop<|n+1)<|by rw[uZ];exact aI (r' _ _) aC)
theorem r1{f:č->č->Ċ B}{C:aY}{x y z:B}{V W:Ĉ}(af:bA c.P C x V)(bF:bA c.P C y W)(e:rh f x y=some z):gV λa b t u=>dJ (V=.int a t) (W=.int b u) (f a b=some z):=by replace e:=fE.of e;obtain⟨a,rfl,e⟩:=e;replace e:=fE.of e;obtain⟨b,rfl,e⟩:=e;obtain⟨t,rfl⟩:=af.of;obtain⟨u,rfl⟩:=bF.of;exact⟨a,b,t,u,rfl,rfl,e⟩
theorem Oe:pI c A .add:=by
 intro O s C J x y V W z Q I af bF e h;replace e:=Ag<|show(if x.ctorIdx=2 then _ else _)=some z from e;rcases e with e|e
 .obtain⟨a,b,t,u,rfl,rfl,e⟩:=r1 af bF e;cases e;exact PySem.P.add_int<|h _ C _ (I.toks _) (br.toks C s _)<|.int _ _
 replace e:=Ag e;rcases e with e|e
 .replace e:=ta.of e;obtain⟨k,rfl,e⟩:=e;replace e:=ta.of e;obtain⟨l,rfl,e⟩:=e;induction e8:k.isEmpty||l.isEmpty with
  |true=>rw[e8]at e;exact b0 e
  |false=>
   rw[e8]at e;obtain⟨aq,rfl⟩:=vp e;clear e;obtain⟨a,Vs,n,rfl,G,E,aC⟩:=ps af;clear af;obtain⟨b,bC,m,rfl,ba,cN,d7⟩:=ps bF;clear bF;replace e8:=qt.mp e8;have bM:=br.push I (ec (Vs++bC).toArray 0)<|.a5<|ec (Vs++bC).toArray 0;have ne:∀{k:IF B} {Vs:IF Ĉ},bD c.P C k Vs->k.isEmpty=false->¬Vs.toArray.isEmpty=true:=λh aE q=>by have:=h.isEmpty;rw[aE,q]at this;exact cH this
   refine PySem.P.add_tuple (I.a5 _ _ G) (I.a5 _ _ ba) (ne E e8.1) (ne cN e8.2) ?_ ?_
   .rw[show Vs.toArray++bC.toArray=(Vs++bC).toArray by simp];exact h _ _ _ (I.push (ec (Vs++bC).toArray 0) rfl _<|.inl rfl) bM (.tup (c2 _ _ _) (bM.iN I<|E.append cN)<|by rw[da];exact aq)
   .simp[E.length,cN.length];exact aq
 .replace e:=k8.of e;obtain⟨k,rfl,e⟩:=e;replace e:=k8.of e;obtain⟨l,rfl,e⟩:=e;obtain⟨aq,rfl⟩:=vp e;clear e;obtain⟨a,Vs,n,rfl,G,E,aC⟩:=pq af;clear af;obtain⟨b,bC,m,rfl,ba,cN,d7⟩:=pq bF;clear bF;have bM:=br.push I (cu (Vs++bC).toArray 0)<|.a5<|cu (Vs++bC).toArray 0;refine PySem.P.add_list (I.a5 _ _ G) (I.a5 _ _ ba) ?_ ?_
  .rw[show Vs.toArray++bC.toArray=(Vs++bC).toArray by simp];exact h _ _ _ (I.push (cu (Vs++bC).toArray 0) rfl _<|.inl rfl) bM (.lst (c2 _ _ _) (bM.iN I<|E.append cN)<|by rw[da];exact aq)
  .simp[E.length,cN.length];exact aq
theorem XF:pI c A .sub:=by intro O s C J x y V W z Q I af bF e h;obtain⟨a,b,t,u,rfl,rfl,e⟩:=r1 af bF e;cases e;exact PySem.P.sub_int<|h _ C _ (I.toks _) (br.toks C s _)<|.int _ _
theorem uF{i:č}:small i=true↔-536870912<=i/\i<=536870912:=by unfold small;simp
theorem AN{i:č}(h:small i=true):i.natAbs<=536870912:=by
 have h:=uF.mp h;induction i with
 |ofNat n=>exact v_.mp h.2
 |negSucc n=>have h:=Int.neg_le_neg h.1;rw[Int.neg_neg]at h;exact v_.mp h
theorem Md{i:č}(h:small i=true):Builtin.Int.intBits i<=64:=by
 unfold Builtin.Int.intBits;split
 .exact aG rfl
 .rename_i q;have am:i.natAbs≠0:=λfg=>q (by rw[Int.natAbs_eq_zero.mp fg];rfl);exact aI ((Nat.log2_lt am).mpr<|hH (AN h) (jN rfl:536870912<2^31))<|aG rfl
theorem bD.nK{P:Params}{C:aY}{l:IF B}{Vs:IF Ĉ}(h:bD P C l Vs)(n:Č):bD P C (nK n l) (List.replicate n Vs).flatten:=by
 induction n with
 |zero=>exact .nil
 |succ n ap=>rw[List.replicate_succ,List.flatten_cons];exact h.append ap
theorem ZF{l:IF av}(n:Č):(nK n l).length=n*l.length:=by
 induction n with
 |zero=>exact(Nat.zero_mul _).symm
 |succ n ap=>show(l++nK n l).length=_;rw[da,ap,Nat.succ_mul,qb]
theorem Sm:pI c A .mul:=by
 intro O s C J x y V W z Q I af bF e h;replace e:=Ag<|show(if x.ctorIdx=2 then _ else _)=some z from e;rcases e with e|e
 .obtain⟨a,b,t,u,rfl,rfl,e⟩:=r1 af bF e;obtain⟨aK,e⟩:=g4 e;rw[e2]at aK;cases e;exact PySem.P.mul_int (h _ C _ (I.toks _) (br.toks C s _)<|.int _ _)<|IntMulOk.of_left<|Md aK.1
 .replace e:=k8.of e;obtain⟨l,rfl,e⟩:=e;replace e:=fE.of e;obtain⟨x,rfl,e⟩:=e;obtain⟨Wo,e⟩:=g4 e;have á:=uF.mp Wo;obtain⟨aq,rfl⟩:=vp e;clear e;obtain⟨a,Vs,n,rfl,G,E,aC⟩:=pq af;clear af;obtain⟨u,rfl⟩:=bF.of;have aA:=I.a5 _ _ G;have hsz:Vs.toArray.size*x.toNat<=16777216:=by rw[eI,E.length,Nat.mul_comm];exact(aq:x.toNat*l.length<=16777216)
  have i9:Builtin.List.listFitsIndex x=true:=by
   by_cases q:0<=x
   .exact fitsIndex_of q (by lia)
   .exact fitsIndex_neg (by lia) (by lia)
  refine wpAny_binaryOp_repeat_ref (T:="list") (U:="int") (by decide:(Value.type "list"==Value.type "int")=false) ⟨_,aA,rfl⟩ (λar=>typeIs_int ar x u) noFill_list_mul F.fills_int_mul F.slot_int_rmul repeat_list F.slot_int_index.lookup<|call_meets F.slot_int_rmul (typeIs_int s x u) F.entry_int_rmul (F.args_int_rmul_2 _ _) (int___rmul___int_list x u a Vs.toArray n) ⟨aA,rfl,⟨_,aA,rfl⟩,call_meets F.slot_list_mul ⟨_,aA,rfl⟩ F.entry_list_mul (F.args_list_mul_2 _ _) (AutoListH.list___mul___list_int_3 a Vs.toArray n x u (by rw[i9];decide) (rk.mpr<|aI hsz<|by decide)<|λq=>absurd (fe q)<|rk.mpr<|show _<=sizeLine from hsz) ⟨aA,?_⟩⟩;have bn:(List.foldl (λlK h6=>lK++h6) #[] (List.replicate (if Vs.toArray.isEmpty=true then 0 else x.toNat) Vs.toArray))=(List.replicate x.toNat Vs).flatten.toArray:=by rw[listMul_foldl];induction Vs<;>simp
  have bM:=br.push I (cu (List.replicate x.toNat Vs).flatten.toArray 0)<|.a5<|cu (List.replicate x.toNat Vs).flatten.toArray 0;have:=h _ _ _ (I.push (cu (List.replicate x.toNat Vs).flatten.toArray 0) rfl _<|.inl rfl) bM (.lst (c2 _ _ _) (bM.iN I<|E.nK x.toNat)<|by rw[ZF];exact aq);rw[<-bn]at this;exact this
theorem U5:pI c A .fdiv:=by intro O s C J x y V W z Q I af bF e h;obtain⟨a,b,t,u,rfl,rfl,e⟩:=r1 af bF e;obtain⟨aK,e⟩:=g4 e;rw[e2]at aK;cases e;have aw:=uF.mp aK.2.2;exact PyProof.Rows.floordiv_int aK.1 (h _ C _ (I.toks _) (br.toks C s _)<|.int _ _)<|.inl<|PyProof.noPylong_small<|hH (AN aK.2.2)<|jN rfl
theorem Qr:pI c A .mod:=by
 intro O s C J x y V W z Q I af bF e h;obtain⟨a,b,t,u,rfl,rfl,e⟩:=r1 af bF e;replace e:(if b=0 then none else some (B.int<|Int.fmod a b))=some z:=e;by_cases aK:b=0
 .rw[bl aK]at e;exact b0 e
 .rw[bm aK]at e;cases e;exact PyProof.Rows.mod_int' aK<|h _ C _ (I.toks _) (br.toks C s _)<|.int _ _
theorem MM:pI c A .band:=by
 intro O s C J x y V W z Q I af bF e h;obtain⟨a,b,t,u,rfl,rfl,e⟩:=r1 af bF e;induction a using Int.casesOn with
 |negSucc=>exact b0 e
 |ofNat a=>
  induction b using Int.casesOn with
  |negSucc=>exact b0 e
  |ofNat b=>
   cases e;refine PyProof.Rows.and_int ?_;have:Builtin.bitAnd (Int.ofNat a) (Int.ofNat b)=Int.ofNat (lr a b):=by unfold Builtin.bitAnd;simp[lr]
   rw[this];exact h _ C _ (I.toks _) (br.toks C s _)<|.int _ _
def At(c:cc)(A:Around)(O:Ĉ->Nd->Prop)(s:Nd)(X cx:Ĉ)(t:ĉ):Prop:=(∀(Q:Ĉ->Nd->Prop),(∀k,Q (.bool t) {s with toks:=k})->wpAny c.M A (compareOp .In X cx) Q O s)/\(∀(Q:Ĉ->Nd->Prop),(∀k,Q (.bool !t) {s with toks:=k})->wpAny c.M A (compareOp .NotIn X cx) Q O s)
theorem Fs(a4:A.units+40<cLine){O:Ĉ->Nd->Prop}{s:Nd}{C:aY}{J:St}{x:B}{X:Ĉ}{t:ĉ}(I:c.I C J s)(c8:bA c.P C x X){a:Addr}{l:IF (B×B)}{es:IF DictEntry}{n:Č}(D:iM c C s a l es n)(aK:(a==sysModules)=false)(e:(if ep x l=true then(fv x l).map (·.isSome)else none)=some t):At c A O s X (.ref a) t:=by obtain⟨a7,e⟩:=g4 e;obtain⟨r,ag,rfl⟩:=map_some e;exact⟨λQ h=>bd<|Ja (iY ‹_›) I D aK a7 c8 ag λk=>b4<|h k,λQ h=>bd<|Ja (iY ‹_›) I D aK a7 c8 ag λk=>b4<|h k⟩
theorem Y4{O:Ĉ->Nd->Prop}{s:Nd}{P:Params}{C:aY}{x:B}{X:Ĉ}{l:bx}{u:Tok}{t:ĉ}(c8:bA P C x X)(e:Internal.contains x (.str l)=some t):At c A O s X (.str ⟨l.toArray⟩ u) t:=by
 replace e:=l2.of e;obtain⟨m,rfl,e⟩:=e;obtain⟨v,rfl,-⟩:=c8.of;induction m using List.casesOn with
 |nil=>exact b0 e
 |cons jR m=>
  induction m with
  |cons=>exact b0 e
  |nil=>
   cases e;have aw:(!(Builtin.Str.occurrences ⟨l.toArray⟩ ⟨[jR].toArray⟩ 0 (Str.length ⟨l.toArray⟩) 1).isEmpty)=l.contains jR:=by refine(PySem.StrLaws.found_one ⟨l.toArray⟩ jR).trans ?_;simp[List.contains_eq_mem]
   exact⟨λQ h=>PySem.P.in_str (by rw[aw];exact h s.toks),λQ h=>PySem.P.notIn_str<|by rw[aw];exact h s.toks⟩
theorem Jk(a4:A.units+40<cLine)(e9:∃o,c.H.get? sysModules=some o){O:Ĉ->Nd->Prop}{s:Nd}{C:aY}{J:St}{x y:B}{X cx:Ĉ}{t:ĉ}(I:c.I C J s)(c8:bA c.P C x X)(jr:gq c.P C s.heap y cx)(e:qw J x y=some t):At c A O s X cx t:=by
 induction y using B.casesOn with
 |ref n=>
  obtain⟨ct,aK,e⟩:=bind_some<|show(J[n]?).bind _=some t from e;induction ct using c5.casesOn with
  |cP l=>obtain⟨a,es,m,rfl,bn,D⟩:=DG I jr.ref aK;exact Fs a4 I c8 D (B5 I e9<|by rw[bn];trivial) e
  |_=>exact b0 e
 |bb l=>obtain⟨a,es,m,rfl,D,aK⟩:=sz I e9 jr;exact Fs a4 I c8 D aK e
 |tup l=>obtain⟨a,Vs,n,rfl,-,E,aC,-⟩:=DE I jr;obtain⟨dp,rfl⟩:=C4 (A:=A) (c8.af I) (iY ‹_›) (aC.af I) e;exact⟨λQ h=>in_tupleAt (m_ s.heap x) (gw E) (λcx h=>dp cx<|nz.mp h) (by simpa using h s.toks),λQ h=>notIn_tupleAt (m_ s.heap x) (gw E) (λcx h=>dp cx<|nz.mp h)<|by simpa using h s.toks⟩
 |lst l=>obtain⟨a,Vs,n,rfl,E,aC,-⟩:=Ax I jr;obtain⟨dp,rfl⟩:=C4 (A:=A) (c8.af I) (iY ‹_›) (aC.af I) e;exact⟨λQ h=>in_listAt (m_ s.heap x) (hW E) (λcx h=>dp cx<|nz.mp h) (by simpa using h s.toks),λQ h=>notIn_listAt (m_ s.heap x) (hW E) (λcx h=>dp cx<|nz.mp h)<|by simpa using h s.toks⟩
 |str l=>obtain⟨u,rfl,aq⟩:=B3 jr;exact Y4 c8 e
 |_=>exact b0 e
theorem TC(a4:A.units+40<cLine)(e9:∃o,c.H.get? sysModules=some o):k' c A .isin:=by intro O s C J x y V W t Q I af bF e h;exact(Jk a4 e9 I af bF e).1 Q h
theorem PQ(a4:A.units+40<cLine)(e9:∃o,c.H.get? sysModules=some o):k' c A .f3:=by intro O s C J x y V W t Q I af bF e h;obtain⟨b,ag,a8⟩:=map_some<|show(qw J x y).map (!·)=some t from e;subst a8;exact(Jk a4 e9 I af bF ag).2 Q h
theorem zj(a4:A.units+40<cLine)(e9:∃o,c.H.get? sysModules=some o)(o:hP):k' c A o:=by
 induction o using hP.casesOn with
 |eq=>exact U0<|iY ‹_›
 |ne=>exact LV<|iY ‹_›
 |lt=>exact Xe
 |le=>exact TX
 |gt=>exact Zl
 |ge=>exact Æ
 |isin=>exact TC a4 e9
 |f3=>exact PQ a4 e9
 |is=>exact Z_
 |pC=>exact Vb
theorem Ol(o:kq):pI c A o:=by
 induction o using kq.casesOn with
 |add=>exact Oe
 |sub=>exact XF
 |mul=>exact Sm
 |fdiv=>exact U5
 |mod=>exact Qr
 |band=>exact MM
def xt (n:String):ĉ:= !(["enumerate","zip","dict_itemiterator","dict_reverseitemiterator","odict_iterator","itertools.zip_longest","itertools.pairwise"].contains n)
structure nR(c:cc)(C:aY)(bP:List B)(X:Value)(I:Addr)(f8:List Addr)(P:Nat->Value->Prop)(St:Nat->Heap->Prop):Prop where
 W:∀A:Around,A.handled=none->Walks c.prog c.w A I f8 [I] bP.length P St
 Dw:∀b∈f8,b=I\/X=.ref b
 vals:∀i v,i<bP.length->P i v->∃x,bP[i]?=some x/\bA c.P C x v
 pe:∀i h,St i h->dI λo n vs=>hU (h.get? I=some o) (o.cls=.type n) (o.data=.fields vs)<|xt n=true
section
variable{c:cc}{A:Around}{O:Ĉ->Nd->Prop}{s:Nd}{C:aY}{J:St}
theorem bD.get'{P:Params}{C:aY}{l:IF B}{Vs:IF Ĉ}(h:bD P C l Vs){i:Č}{V:Ĉ}(e:Vs[i]?=some V):∃v,l[i]?=some v/\bA P C v V:=by have aB:=(g0.mp e).1;obtain⟨Ee,ag,a8⟩:=h.get (i:=i) (v:=l[i]'(by rw[<-h.length];exact aB))<|fq _;rw[e]at ag;cases ag;exact⟨_,fq _,a8⟩
theorem Ê{a:Addr}{Vs:IF Ĉ}{n:Č}{l:IF B}{Q:Ĉ->Nd->Prop}(aA:s.heap.get? a=some (cu Vs.toArray n))(af:bD c.P C l Vs)(eP:∀o f8 P St,nR c C l (.ref a) s.heap.objs.size f8 P St->o.isFreed=false->St 0 (s.heap.push o)->Q (.ref s.heap.objs.size) {s with heap:=s.heap.push o}):wpAny c.M A (pyIter<|.ref a) Q O s:=by
 refine wpAny_pyIter_list (hW aA)<|eP _ [s.heap.objs.size,a] (λi v=>Vs.toArray[i]?=some v) (λi h=>h.IsListIter s.heap.objs.size a i/\h.IsList a Vs.toArray) ⟨λjg e3=>?_,λb aw=>?_,λi v aB ae=>af.get' (i:=i) (V:=v) ?_,λi h st=>?_⟩ rfl ?_
 .have:=Walks.list (prog:=c.prog) (w:=c.w) e3 s.heap.objs.size a (gK<|j5 aA) Vs.toArray;rwa[show Vs.toArray.size=l.length by rw[eI,af.length]]at this
 .simp at aw;rcases aw with rfl|rfl<;>simp
 .simpa using ae
 .obtain⟨⟨o,aA,aq,bg⟩,-⟩:=st;exact⟨o,_,_,aA,aq,bg,by decide⟩
 .exact⟨⟨_,gZ _ rfl,rfl,rfl⟩,_,ik _ aA,rfl,n,rfl⟩
theorem Ì{a:Addr}{Vs:IF Ĉ}{n:Č}{l:IF B}{Q:Ĉ->Nd->Prop}(aA:s.heap.get? a=some (ec Vs.toArray n))(af:bD c.P C l Vs)(eP:∀o f8 P St,nR c C l (.ref a) s.heap.objs.size f8 P St->o.isFreed=false->St 0 (s.heap.push o)->Q (.ref s.heap.objs.size) {s with heap:=s.heap.push o}):wpAny c.M A (pyIter<|.ref a) Q O s:=by
 refine wpAny_pyIter_tuple (gw aA)<|eP _ [s.heap.objs.size,a] (λi v=>Vs.toArray[i]?=some v) (λi h=>h.IsTupleIter s.heap.objs.size a i/\h.IsTuple a Vs.toArray) ⟨λjg e3=>?_,λb aw=>?_,λi v aB ae=>af.get' (i:=i) (V:=v) ?_,λi h st=>?_⟩ rfl ?_
 .have:=Walks.tuple (prog:=c.prog) (w:=c.w) e3 s.heap.objs.size a (gK<|j5 aA) Vs.toArray;rwa[show Vs.toArray.size=l.length by rw[eI,af.length]]at this
 .simp at aw;rcases aw with rfl|rfl<;>simp
 .simpa using ae
 .obtain⟨⟨o,aA,aq,bg⟩,-⟩:=st;exact⟨o,_,_,aA,aq,bg,by decide⟩
 .exact⟨⟨_,gZ _ rfl,rfl,rfl⟩,_,ik _ aA,rfl,n,rfl⟩
theorem To{l:bx}{t:Tok}{Q:Ĉ->Nd->Prop}(eP:∀o f8 P St,nR c C (l.map λjR=>.str [jR]) (.str ⟨l.toArray⟩ t) s.heap.objs.size f8 P St->o.isFreed=false->St 0 (s.heap.push o)->Q (.ref s.heap.objs.size) {s with heap:=s.heap.push o}):wpAny c.M A (pyIter<|.str ⟨l.toArray⟩ t) Q O s:=by
 have vals:∀i v,i<(l.map λjR=>B.str [jR]).length->SignAt ⟨l.toArray⟩ i v->∃x,(l.map λjR=>B.str [jR])[i]?=some x/\bA c.P C x v:=by rintro i v-⟨jR,u,G,rfl⟩;exact⟨.str [jR],by rw[gX];simp at G;rw[G];rfl,.str [jR] u<|by show 1<=a3;decide⟩
 induction ak:(⟨l.toArray⟩:Str).cps.all (· <128)
 .refine wpAny_pyIter_wide ak<|eP _ [s.heap.objs.size] (SignAt ⟨l.toArray⟩) (λi h=>h.IsStrIter s.heap.objs.size "str_iterator" ⟨l.toArray⟩ t i) ⟨λjg e3=>?_,λb aw=>?_,vals,λi h st=>?_⟩ rfl ?_
  .have:=Walks.strWide (prog:=c.prog) (w:=c.w) e3 s.heap.objs.size ⟨l.toArray⟩ t;rwa[show(⟨l.toArray⟩:Str).cps.size=(l.map λjR=>B.str [jR]).length by simp]at this
  .simp at aw;exact .inl aw
  .obtain⟨o,aA,aq,bg⟩:=st;exact⟨o,_,_,aA,aq,bg,by decide⟩
  .exact⟨_,gZ _ rfl,rfl,rfl⟩
 .refine wpAny_pyIter_ascii ak<|eP _ [s.heap.objs.size] (SignAt ⟨l.toArray⟩) (λi h=>h.IsStrIter s.heap.objs.size "str_ascii_iterator" ⟨l.toArray⟩ t i) ⟨λjg e3=>?_,λb aw=>?_,vals,λi h st=>?_⟩ rfl ?_
  .have:=Walks.strAscii (prog:=c.prog) (w:=c.w) e3 s.heap.objs.size ⟨l.toArray⟩ t;rwa[show(⟨l.toArray⟩:Str).cps.size=(l.map λjR=>B.str [jR]).length by simp]at this
  .simp at aw;exact .inl aw
  .obtain⟨o,aA,aq,bg⟩:=st;exact⟨o,_,_,aA,aq,bg,by decide⟩
  .exact⟨_,gZ _ rfl,rfl,rfl⟩
theorem PL{a b:č}{x:Addr}{t u v:Tok}{Q:Ĉ->Nd->Prop}(aA:s.heap.get? x=some (pk a b t u v))(ak:small a=true)(aw:small b=true)(eP:∀o f8 P St,nR c C ((List.range (b-a).toNat).map λ(i:Č)=>B.int<|a+Int.ofNat i) (.ref x) s.heap.objs.size f8 P St->o.isFreed=false->St 0 (s.heap.push o)->Q (.ref s.heap.objs.size) {s with heap:=s.heap.push o}):wpAny c.M A (pyIter<|.ref x) Q O s:=by
 have mn:=uF.mp ak;have mi:=uF.mp aw;have hsz:Builtin.Range.rangeSize a b 1=((b-a).toNat:Č):=by
  unfold Builtin.Range.rangeSize;by_cases q:a<b
  .rw[bl (show(1:č)>0 from by decide),bl q,Int.ediv_one,Int.sub_add_cancel,Int.toNat_of_nonneg<|Int.sub_nonneg_of_le<|Int.le_of_lt q]
  .rw[bl (show(1:č)>0 from by decide),bm q,Int.toNat_of_nonpos<|Int.sub_nonpos_of_le<|Int.not_lt.mp q];rfl
 have mL:∀{z:č},-4000000000<=z->z<=4000000000->Builtin.Range.rangeFitsLong z=true:=by intro z G E;unfold Builtin.Range.rangeFitsLong;rw[e2,jL,jL];lia
 have dx:∀{z:č},-536870912<=z/\z<=536870912->-4000000000<=z/\z<=4000000000:=λh=>⟨uO (by decide) h.1,uO h.2<|by decide⟩;refine wpAny_pyIter_range (t:=t) (u:=u) (v:=v) aA ?_<|eP _ [s.heap.objs.size] (λi v=>∃t,v=.int (a+i*1) t) (λi h=>IsRangeIter h s.heap.objs.size (a+(i:Č)*1) (((b-a).toNat:č)-(i:Č)) 1) ⟨λjg e3=>?_,λb aw=>?_,λi v aB ae=>?_,λi h st=>?_⟩ rfl ?_
 .unfold Builtin.Range.small;rw[mL (dx mn).1 (dx mn).2,mL (z:=b) (dx mi).1 (dx mi).2,show Builtin.Range.rangeFitsLong 1=true from rfl,hsz,mL (z:=((b-a).toNat:Č)) (by lia)<|by lia];simp only[Bool.and_self,Bool.true_and,l0];right;rw[bl<|by decide];exact mL (by lia) (by lia)
 .have:=Walks.range (prog:=c.prog) (w:=c.w) e3 s.heap.objs.size a 1 (b-a).toNat;rwa[show((List.range (b-a).toNat).map λ(i:Č)=>B.int<|a+Int.ofNat i).length=(b-a).toNat by simp]
 .simp at aw;exact .inl aw
 .obtain⟨t,rfl⟩:=ae;refine⟨.int<|a+Int.ofNat i,by rw[gX,List.getElem?_range (by simpa using aB:i<(b-a).toNat)];rfl,?_⟩;have:=bA.int (P:=c.P) (C:=C) (a+Int.ofNat i) t;rwa[show a+Int.ofNat i=a+(i:č)*1 by simp]at this⊢
 .exact⟨_,_,_,st,rfl,rfl,by decide⟩
 .rw[hsz];show Heap.get? _ _=_;rw[gZ _ rfl];simp[rawInt]
theorem Li{l:IF (B×B)}{es:IF DictEntry}:ea c.P C l es->(∀e∈l,eH e.1=1)->∃eX:IF (č×Ĉ),Pairs (PySem.intKind c.prog c.w) es eX/\KeysOf (PySem.intKind c.prog c.w) es.toArray/\l.map (·.1)=eX.map (λp=>.int p.1):=by
 refine ea.ind (M:=λl es=>(∀e∈l,eH e.1=1)->∃eX:IF (č×Ĉ),Pairs (PySem.intKind c.prog c.w) es eX/\KeysOf (PySem.intKind c.prog c.w) es.toArray/\l.map (·.1)=eX.map (λp=>.int p.1)) (λ_=>⟨[],.nil,λe h=>(nomatch nz.mp h),rfl⟩) λ{k v K V l es} a b r ap h=>?_;obtain⟨eX,G,E,aC⟩:=ap λe a6=>h e<|.tail _ a6;obtain⟨i,aB⟩:=K7<|h _<|.head _;clear ap h b r;subst aB;cases a with|int _ t=>
 refine⟨(i,_)::eX,.cons (jP i) rfl G,λe a6=>?_,bH (_::·) aC⟩;cases nz.mp a6 with
 |head=>exact⟨i,jP i,rfl⟩
 |tail _ a6=>exact E e<|nz.mpr a6
theorem Hf{l:IF (B×B)}{es:IF DictEntry}:ea c.P C l es->(∀e∈l,eH e.1=2)->∃eX:IF (Str×Ĉ),Pairs (PySem.strKind c.prog c.w) es eX/\KeysOf (PySem.strKind c.prog c.w) es.toArray/\l.map (·.1)=eX.map (λp=>.str p.1.cps.toList)/\∀p∈eX,p.1.cps.toList.length<=a3:=by
 refine ea.ind (M:=λl es=>(∀e∈l,eH e.1=2)->∃eX:IF (Str×Ĉ),Pairs (PySem.strKind c.prog c.w) es eX/\KeysOf (PySem.strKind c.prog c.w) es.toArray/\l.map (·.1)=eX.map (λp=>.str p.1.cps.toList)/\∀p∈eX,p.1.cps.toList.length<=a3) (λ_=>⟨[],.nil,λe h=>(nomatch nz.mp h),rfl,λp h=>(nomatch h)⟩) λ{k v K V l es} a b r ap h=>?_;obtain⟨eX,G,E,aC,ba⟩:=ap λe a6=>h e<|.tail _ a6;obtain⟨i,aB⟩:=FX<|h _<|.head _;clear ap h b r;subst aB;cases a with|str _ t aq=>
 refine⟨(⟨i.toArray⟩,_)::eX,.cons (jP _) rfl G,λe a6=>?_,bH (_::·) aC,λp ae=>?_⟩
 .cases nz.mp a6 with
  |head=>exact⟨⟨i.toArray⟩,jP _,rfl⟩
  |tail _ a6=>exact E e<|nz.mpr a6
 .cases ae with
  |head=>exact aq
  |tail _ ae=>exact ba p ae
theorem xS{av b9:Type}{f:av->b9}{l:IF av}(h:(l.map f).Nodup):l.Nodup:=by
 induction l with
 |nil=>exact qU
 |cons a r ap=>rw[gf,hK]at h;rw[hK];exact⟨λaN=>h.1<|dq.mpr ⟨a,aN,rfl⟩,ap h.2⟩
theorem QL{d:Addr}{es:IF DictEntry}{n:Č}{l:IF (B×B)}{Q:Ĉ->Nd->Prop}(D:iM c C s d l es n)(aK:(d==sysModules)=false)(aE:((l.all λe=>eH e.1==1)||(l.all λe=>eH e.1==2))=true)(eP:∀o f8 P St,nR c C (l.map (·.1)) (.ref d) s.heap.objs.size f8 P St->o.isFreed=false->St 0 (s.heap.push o)->Q (.ref s.heap.objs.size) {s with heap:=s.heap.push o}):wpAny c.M A (pyIter<|.ref d) Q O s:=by
 rw[l0]at aE;rcases aE with aE|aE
 .obtain⟨eX,G,E,aC⟩:=Li D.rel λe a6=>by simpa using d'.mp aE e a6
  have am:(eX.map (·.1)).Nodup:=xS (f:=B.int) (by rw[f2];exact aC▸D.nodup);have b3:s.heap.DictAt (PySem.intKind c.prog c.w) d eX n:=⟨_,_,D.at_,⟨rfl,rfl,rfl⟩,rfl,E,by simpa using G,am⟩;have dU:eX.length=(l.map (·.1)).length:=by rw[aC,bV]
  refine wpAny_pyIter_dict aK b3<|eP _ [s.heap.objs.size,d] _ _ ⟨λjg e3=>dU▸Walks.dictKeys (knd:=PySem.intKind c.prog c.w) e3 s.heap.objs.size d (gK b3.lt_size) eX n,λb aw=>?_,λi v aB ae=>?_,λi h st=>?_⟩ rfl ?_
  .simp at aw;rcases aw with rfl|rfl<;>simp
  .obtain⟨k,x,az,i3⟩:=ae;refine⟨.int k,by rw[aC,gX,az];rfl,?_⟩;obtain⟨t,rfl⟩:=Value.isInt_shape i3;clear i3;exact .int k t
  .obtain⟨⟨o,aA,aq,bg⟩,-⟩:=st;exact⟨o,_,_,aA,aq,bg,by decide⟩
  .rw[<-dU];exact⟨⟨_,gZ _ rfl,rfl,rfl⟩,b3.push _⟩
 .obtain⟨eX,G,E,aC,ba⟩:=Hf D.rel λe a6=>by simpa using d'.mp aE e a6
  have b3:s.heap.DictAt (PySem.strKind c.prog c.w) d eX n:=⟨_,_,D.at_,⟨rfl,rfl,rfl⟩,rfl,E,by simpa using G,xS (f:=λx:Str=>B.str x.cps.toList)<|by rw[f2];exact aC▸D.nodup⟩;have dU:eX.length=(l.map (·.1)).length:=by rw[aC,bV]
  refine wpAny_pyIter_dict aK b3<|eP _ [s.heap.objs.size,d] _ _ ⟨λjg e3=>dU▸Walks.dictKeys (knd:=PySem.strKind c.prog c.w) e3 s.heap.objs.size d (gK b3.lt_size) eX n,λb aw=>?_,λi v aB ae=>?_,λi h st=>?_⟩ rfl ?_
  .simp at aw;rcases aw with rfl|rfl<;>simp
  .obtain⟨k,x,az,i3⟩:=ae;refine⟨.str k.cps.toList,by rw[aC,gX,az];rfl,?_⟩;obtain⟨t,rfl⟩:=Value.isStrOf_shape i3;clear i3;have:=bA.str (P:=c.P) (C:=C) k.cps.toList t<|ba (k,x)<|h' az;rwa[show(⟨k.cps.toList.toArray⟩:Str)=k by induction k;simp]at this
  .obtain⟨⟨o,aA,aq,bg⟩,-⟩:=st;exact⟨o,_,_,aA,aq,bg,by decide⟩
  .rw[<-dU];exact⟨⟨_,gZ _ rfl,rfl,rfl⟩,b3.push _⟩
theorem xX{x:B}{X:Ĉ}{bP:IF B}{Q:Ĉ->Nd->Prop}(e9:∃o,c.H.get? sysModules=some o)(I:c.I C J s)(c8:gq c.P C s.heap x X)(e:items x=some bP)(eP:∀o f8 P St,nR c C bP X s.heap.objs.size f8 P St->o.isFreed=false->St 0 (s.heap.push o)->Q (.ref s.heap.objs.size) {s with heap:=s.heap.push o}):wpAny c.M A (pyIter X) Q O s:=by
 induction x using B.casesOn with
 |tup l=>cases e;obtain⟨a,Vs,n,rfl,-,E,aC,-⟩:=DE I c8;exact Ì E aC eP
 |lst l=>cases e;obtain⟨a,Vs,n,rfl,E,aC,-⟩:=Ax I c8;exact Ê E aC eP
 |str l=>cases e;obtain⟨t,rfl,-⟩:=B3 c8;clear c8;exact To eP
 |bb l=>obtain⟨aE,e⟩:=g4<|show(if((l.all λe=>eH e.1==1)||(l.all λe=>eH e.1==2))=true then some (l.map (·.1))else none)=some bP from e;cases e;obtain⟨a,es,n,rfl,D,aK⟩:=sz I e9 c8;exact QL D aK aE eP
 |ez a b=>cases e;obtain⟨x,t,u,w,rfl,G,E,aC,ba⟩:=c8.of;exact PL (I.a5 _ _ G) E aC eP
 |_=>exact b0 e
end
theorem ng{e:ċ}{a':IF ċ}{ac:Env}{pos:Pos}(h:fH e=false):backTo pos (starEach (e::a') ac)=(false,eval e ac)::backTo pos (starEach a' ac):=by rw[t8 h];rfl
def o3(c:cc)(A:Around)(F:Ĉ)(f:St->B->Ċ B):Prop:=∀O s C J v V z (Q:Ĉ->Nd->Prop),c.I C J s->bA c.P C v V->f J v=some z->x9 c C s Q z J->wpAny c.M A (call F [V]) Q O s
theorem NS{x:Str}{np pos:Pos}{e:ċ}{w:dm}{f:St->B->Ċ B}{F:Ĉ}(aX:c.Ok)(d_:c.cy x=true)(aN:c.gP x=none)(af:c.kb x=some F)(bg:(x==("__debug__":Str))=false)(aK:fH e=false)(g:Good c A e w)(kW:(∃id,F=.builtin id)\/∃T,F=.type T)(aq:o3 c A F f):Good c A (.Call (.Name x np) [e] [] pos) λr J K=>w r J λv J=>lb (f J v) K J:=by
 intro O s ac C r J k K Q I hj ag h;have fin:wpAny c.M A (eval e ac) (λV s=>wpAny c.M A (call F [V]) Q O s) O s:=g.use I hj ag λv db e V bL bt a0 bU bo af=>ax.dt e λz c7 e=>aq _ _ bL _ v V _ _ a0 af c7 λZ cq b_ ce bM hz=>h _ _ e Z cq b_ ce (bo.trans bM) hz;refine Call_name1 (by rw[t8 aK];rfl)<|vr aX I hj d_ aN af bg ?_;rcases kW with⟨id,rfl⟩|⟨T,rfl⟩
 .exact PySem.callWith_builtin1 fin
 .exact PySem.callWith_type1 fin
theorem N1{O:Ĉ->Nd->Prop}{s:Nd}{C:aY}{d:Addr}{es:IF DictEntry}{n:Č}{l:IF (B×B)}{Q:Ĉ->Nd->Prop}(bg:(d==sysModules)=false)(D:iM c C s d l es n)(h:Q (.int l.length<|s.toks+1) {s with toks:=s.toks+1+1}):wpAny c.M A (call (.builtin "len") [.ref d]) Q O s:=by
 have aj:=D.rel.length;have aq:l.length<=16777216:=D.a3;refine A8 kind_len plain_len entry_len (args_len1 _) ?_;unfold Builtin.«len»;refine bd (m:=oneArg "len" _)<|b4 ?_;refine bd (m:=callSpecial? (.ref d)<|Str.ofString "__len__")<|so (name:=Str.ofString "__len__") D.typeIs F.slot_dict_len<|nf F.slot_dict_len D.typeIs F.entry_dict_len ?_<|F.args_dict_len_1 _;show wpAny _ _ (dictSize d>>=_) _ _ s;unfold dictSize;refine bd<|bd<|wpAny_dictEntries D.at_ rfl<|b4 ?_;show wpAny _ _ (Builtin.Dict.pendingCount d>>=_) _ _ s;refine bd<|wpAny_pendingCount_other bg<|wpAny_ret_mkInt ?_;have a6:((es.toArray.size:Č):č)+((0:Č):č)=((l.length:Č):č):=by rw[eI,aj];simp
 rw[a6];refine bd<|gY<|b4<|bd<|wpAny_letGo ?_;show wpAny _ _ (if((l.length:Č):č)<0 then _ else _) _ _ _;rw[bm<|by lia];show wpAny _ _ (if((l.length:Č):č)>=2^63 then _ else _) _ _ _;rw[bm<|by lia];exact bd<|wpAny_mkInt<|b4 ⟨_,rfl,h⟩
theorem O7(aX:c.Ok):o3 c A (.builtin "len") (ow .len):=by
 intro O s C J v V z Q I af e h;have len:∀{a:Addr} {l:IF B} {Vs:IF Ĉ} {m:Č},s.heap.get? a=some (cu Vs.toArray m)->bD c.P C l Vs->l.length<=a3->z=.int l.length->wpAny c.M A (call (.builtin "len") [.ref a]) Q O s:=by rintro a l Vs m E aC ba rfl;have Wi:l.length<=16777216:=ba;have aj:=aC.length;refine call_len_list (hW E) (by rw[eI,aj];lia) ?_;rw[eI,aj];exact h _ C _ (I.toks _) (br.toks C s _)<|.int _ _
 replace e:HC J v=some z:=e;induction v using B.casesOn with
 |ref n=>
  obtain⟨ct,aK,e⟩:=bind_some<|show(J[n]?).bind _=some z from e;induction ct using c5.casesOn with
  |ls l=>obtain⟨a,Vs,m,rfl,-,E,aC,ba⟩:=p0 I af aK;exact len E aC ba (cV e).symm
  |_=>exact b0 e
 |tup l=>cases e;obtain⟨a,Vs,m,rfl,E,aC,ba⟩:=ps af;clear af;have Wi:l.length<=16777216:=ba;have aj:=aC.length;refine PySem.P.len_tuple (I.a5 _ _ E) (by rw[eI,aj];lia) ?_;rw[eI,aj];exact h _ C _ (I.toks _) (br.toks C s _)<|.int _ _
 |lst l=>obtain⟨a,Vs,m,rfl,E,aC,ba⟩:=pq af;exact len (I.a5 _ _ E) aC ba (cV e).symm
 |bb l=>cases e;obtain⟨a,es,m,rfl,D,aK⟩:=sz I aX.sys<|.val af;exact N1 aK D<|h _ C _ (I.toks _) (br.toks C s _)<|.int _ _
 |str l=>
  cases e;obtain⟨t,rfl,aq⟩:=af.of;have eM:l.length<=16777216:=aq;have ag:Str.length ⟨l.toArray⟩=l.length:=by unfold Str.length;rw[eI]
  refine PySem.P.len_str (by rw[ag];lia) ?_;rw[ag];exact h _ C _ (I.toks _) (br.toks C s _)<|.int _ _
 |_=>exact b0 e
theorem Uq:o3 c A (.type "tuple") (ow .tuple):=by
 intro O s C J v V z Q I af e h;replace e:H3 v=some z:=e;induction v using B.casesOn with
 |tup l=>cases e;obtain⟨a,Vs,m,rfl,E,aC,ba⟩:=ps af;exact call_tuple_same (gw<|I.a5 _ _ E)<|h _ C s I (br.refl C s) af
 |lst l=>cases e;obtain⟨a,Vs,m,rfl,E,aC,ba⟩:=pq af;clear af;refine call_tuple_list (hW<|I.a5 _ _ E) (λaR aE=>?_) (by rw[eI,aC.length];exact ba);have a0:=I.grow aE s.toks;have bo:=br.grow C aE s.toks;have bM:=br.push a0 (ec Vs.toArray 0)<|.a5<|ec Vs.toArray 0;exact h _ _ _ (a0.push (ec Vs.toArray 0) rfl _<|.inl rfl) (bo.trans bM)<|.tup (c2 _ _ _) ((bo.trans bM).iN I aC) ba
 |_=>exact b0 e
theorem GQ{i:č}:Str.ofString (toString i)=⟨(dn i).toArray⟩:=Str.ofString_eq_toList _
theorem Ye:o3 c A (.type "str") (ow .str):=by
 intro O s C J v V z Q I af e h;replace e:=fE.of e;obtain⟨i,rfl,e⟩:=e;obtain⟨aK,e⟩:=g4 e;obtain⟨aq,rfl⟩:=vp e;obtain⟨t,rfl⟩:=af.of;refine PySem.P.str_of_int ?_ ?_
 .by_cases q:i.natAbs=0
  .rw[q];decide
  .exact gH ((Nat.log2_lt q).mpr<|hH (AN aK) (jN rfl:536870912<2^31))<|aG rfl
 .rw[show((toString i:String):Str)=⟨(dn i).toArray⟩from GQ];exact h _ C _ (I.toks _) (br.toks C s _)<|.str _ _ aq
theorem Yz:o3 c A (.type "int") (ow .int):=by
 intro O s C J v V z Q I af e h;replace e:=l2.of e;obtain⟨l,rfl,e⟩:=e;obtain⟨n,ag,a8⟩:=map_some e;clear e;subst a8;obtain⟨t,rfl,aq⟩:=af.of;have G:=ua ag;rw[jL]at G;subst G;rw[<-GQ];have aC:n<64:=by simpa using(xP ag)
 exact PySem.W.KIN.call_num (by simp) (by simp;lia)<|h _ C _ (I.toks _) (br.toks C s _)<|.int _ _
theorem F6{l:IF B}:∀{ch:IF ĉ},qJ l=some ch->l=ch.map .bool:=by
 induction l with
 |nil=>intro ch e;cases e;rfl
 |cons v l ap=>
  intro ch e;induction v using B.casesOn with
  |bool b=>obtain⟨ÿ,ag,rfl⟩:=map_some<|show(qJ l).map _=some ch from e;rw[ap ag];rfl
  |_=>exact b0 e
theorem GA{l:IF B}{ch:IF ĉ}(e:qJ l=some ch):ch.length=l.length:=by rw[F6 e,bV]
theorem F'{C:aY}{J:St}{s:Nd}(I:c.I C J s){o:Obj}{aR:Heap}{cI:Č}(aE:∀b hB,b∉[s.heap.objs.size]->(s.heap.push o).get? b=some hB->aR.get? b=some hB):c.I C J {s with heap:=aR,toks:=cI}/\br C s C {s with heap:=aR,toks:=cI}:=by have bY:∀b hB,s.heap.get? b=some hB->aR.get? b=some hB:=λb hB e=>aE b hB (by simp;exact gK<|j5 e)<|ik _ e;exact⟨I.grow bY cI,br.grow C bY cI⟩
theorem SG{l:IF B}{ch:IF ĉ}{i:Č}{x:B}(e:qJ l=some ch)(h:l[i]?=some x):x=.bool (ch.getD i false):=by rw[F6 e,gX]at h;obtain⟨b,G,rfl⟩:=map_some h;rw[lH,G];rfl
theorem nR.bounded{C:aY}{bP:IF B}{X:Ĉ}{I:Addr}{f8:IF Addr}{P:Č->Ĉ->Prop}{St:Č->Heap->Prop}(T:nR c C bP X I f8 P St){jg:Around}(e3:jg.handled=none):Walks c.prog c.w jg I f8 [I] bP.length (λi v=>i<bP.length/\P i v) St:=let W:=T.W jg e3;⟨W.sub,W.frame,λi s Q O aB st eP=>W.item i s Q O aB st λv aR cI ae=>eP v aR cI ⟨aB,ae⟩,W.done,W.self⟩
theorem F5{jg:Around}{C:aY}{X:Ĉ}{l:IF B}{I:Addr}{f8:IF Addr}{P:Č->Ĉ->Prop}{St:Č->Heap->Prop}{ch:IF ĉ}(T:nR c C l X I f8 P St)(aw:qJ l=some ch):TruthOf c.prog c.w jg (λi v=>i<l.length/\P i v) λi=>ch.getD i false:=by rintro i v s Q O⟨aB,ae⟩a_;obtain⟨x,G,E⟩:=T.vals i v aB ae;rw[SG aw G]at E;cases E;exact qN a_
theorem Kt:∀(ch:IF ĉ),(List.range ch.length).any (λi=>ch.getD i false)=ch.any id
 |[]=>rfl
 |b::r=>by rw[nl,AK,List.any_cons,List.any_map,List.any_cons,<-Kt r];rfl
theorem Ft:∀(ch:IF ĉ),(List.range ch.length).all (λi=>ch.getD i false)=ch.all id
 |[]=>rfl
 |b::r=>by rw[nl,AK,t0,pa,t0,<-Ft r];rfl
theorem ME(aX:c.Ok)(e3:A.handled=none):o3 c A (.builtin "any") (ow .any):=by intro O s C J v V z Q I af e h;replace e:=k8.of e;obtain⟨l,rfl,e⟩:=e;obtain⟨ch,ag,a8⟩:=map_some e;clear e;subst a8;refine call_any_walk<|xX aX.sys I (.val af) (show items (.lst l)=some l from rfl) λo f8 P St T a7 st=>⟨_,f8,_,_,_,_,λi=>ch.getD i false,rfl,T.bounded e3,st,F5 T ag,λaR cI aE=>?_⟩;obtain⟨a0,bo⟩:=F' I (o:=o) (cI:=cI) aE;have:=h _ C _ a0 bo<|.bool _;rwa[<-Kt,GA ag]at this
theorem Oi(aX:c.Ok)(e3:A.handled=none):o3 c A (.builtin "all") (ow .all):=by intro O s C J v V z Q I af e h;replace e:=k8.of e;obtain⟨l,rfl,e⟩:=e;obtain⟨ch,ag,a8⟩:=map_some e;clear e;subst a8;refine call_all_walk<|xX aX.sys I (.val af) (show items (.lst l)=some l from rfl) λo f8 P St T a7 st=>⟨_,f8,_,_,_,_,λi=>ch.getD i false,rfl,T.bounded e3,st,F5 T ag,λaR cI aE=>?_⟩;obtain⟨a0,bo⟩:=F' I (o:=o) (cI:=cI) aE;have:=h _ C _ a0 bo<|.bool _;rwa[<-Ft,GA ag]at this
theorem Y3{np sp pos:Pos}{e:ċ}{w:dm}(aX:c.Ok)(d_:c.cy "isinstance"=true)(aN:c.gP "isinstance"=none)(af:c.kb "isinstance"=some (.builtin "isinstance"))(N9:c.cy "str"=true)(ef:c.gP "str"=none)(Yv:c.kb "str"=some (.type "str"))(aK:fH e=false)(g:Good c A e w):Good c A (.Call (.Name "isinstance" np) [e,.Name "str" sp] [] pos) λr J K=>w r J λv J=>lb (ow .qf J v) K J:=by
 intro O s ac C r J k K Q I hj ag h;refine wpAny_Call_NameR<|vr aX I hj d_ aN af (by decide) ?_;rw[ng aK,ng (e:=.Name "str" sp) rfl];refine Calls.callWith_builtin rfl<|CX<|vJ<|g.use I hj ag λv db e V bL bt a0 bU bo cn=>vJ<|vr aX a0 bU N9 ef Yv (by decide)<|Calls.spliced_nil ?_;induction v using B.casesOn with
 |str l=>obtain⟨t,rfl,-⟩:=cn.of;exact PySem.IsiPair.str_str<|h _ _ e _ bL _ a0 bo<|.bool _
 |int i=>obtain⟨t,rfl⟩:=cn.of;exact PySem.IsiPair.int_str<|h _ _ e _ bL _ (a0.toks _) (bo.trans<|br.toks bL bt _)<|.bool _
 |_=>exact False.elim e
theorem kj.dt{v:B}{f:IF B->Prop}(h:kj v f):∃l,v=.lst l/\f l:=by
 induction v using B.casesOn with
 |lst l=>exact⟨l,rfl,h⟩
 |_=>exact h.elim
theorem Fv{v:B}{p:Prop}(h:om .get v p):∃l,v=.bb l/\p:=by
 induction v using B.casesOn with
 |bb l=>exact⟨l,rfl,h⟩
 |_=>exact h.elim
theorem R2{h:Heap}{x:B}{l:IF B}:∀{Vs:IF Ĉ} {n:Č} {z:B},d4 h l Vs->(hN x l).isSome=true->k6.go x l n=some z->∃j,z=.int (n+j:Č)/\j<Vs.length/\(∀V,Vs[j]?=some V->m_ h x V=true)/\∀m V,m<j->Vs[m]?=some V->m_ h x V=false:=by
 induction l with
 |nil=>exact λ_ _ e=>b0 e
 |cons y r ap=>
  intro Vs n z af ae e;cases af with|cons a b=>
  obtain⟨fk,aw⟩:=ha.mp ae;clear ae;obtain⟨t,ag,a8⟩:=bind_some<|show(fj y x).bind _=some fk from aw;clear aw;obtain⟨u,c0,c7⟩:=map_some a8;clear a8;replace e:(match fj y x with|some true=>some (B.int n)|some false=>k6.go x r (n+1)|none=>none)=some z:=e;rw[ag]at e;induction t with
  |true=>cases e;exact⟨0,rfl,nV _,λV cn=>cV cn▸CK a ag,λm V aN=>absurd aN<|xd _⟩
  |false=>
   obtain⟨j,G,E,aC,ba⟩:=ap b (by rw[c0];rfl) e;refine⟨j+1,by rw[G,rn],wE E,λV cn=>aC V cn,λm V aN cn=>?_⟩;induction m using Nat.casesOn with
   |zero=>exact cV cn▸CK a ag
   |succ m=>exact ba m V (Nat.lt_of_succ_lt_succ aN) cn
theorem v3{o:ċ}{name:Str}{ac:Env}(h:lN o=false):attributeBase o name ac (eval o ac)=eval o ac:=by exact rF (b:=lN o) (by induction o using PySem.Expr.casesOn<;>first|rfl|trivial) h
theorem NX{o e:ċ}{hO pos:Pos}{eU w:dm}(a4:A.units+40<cLine)(aw:lN o=false)(lT:(hO.endLine==pos.line)=true)(aK:fH e=false)(go:Good c A o eU)(g:Good c A e w):Good c A (.Call (.Attribute o "index" hO) [e] [] pos) λr J K=>eU r J λv J=>kj v λ_=>w r J λx J=>lb (Hm .index v x) K J:=by
 intro O s ac C r J k K Q I hj ag h;refine yP (v3 aw) lT (ng aK)<|go.use I hj ag λv db e V bL bt a0 bU bo cn=>?_;obtain⟨l,rfl,e⟩:=kj.dt e;obtain⟨a,Vs,n,rfl,G,E,aC⟩:=pq cn;clear cn;have za:l.length<=16777216:=aC;have aA:=a0.a5 _ _ G;refine⟨"list","list.index",PySem.F.plainAttrs_list,PySem.F.slot_list_index,PySem.F.type_list_index,⟨_,aA,rfl⟩,λb aw=>?_,?_⟩
 .cases aw;exact⟨_,aA,rfl⟩
 refine method_meets PySem.F.slot_list_index PySem.F.entry_list_index rfl<|CX<|vJ<|g.use a0 bU e λx d6 e X cq b_ ce ee bM c8=>Calls.spliced_nil<|ax.dt e λz fz e=>?_;replace fz:(if _ then _ else _)=some z:=fz;have l1:=bM.iN a0 E;have Jl:=ce.a5 _ _<|bM.zero.ot a0 _ _ G;obtain⟨ae,fz⟩:=g4 fz;obtain⟨j,bZ,bs,dN,gQ⟩:=R2 (n:=0) (l1.af ce) ae fz;obtain⟨fk,JP⟩:=ha.mp ae;clear ae;obtain⟨dp,-⟩:=C4 (A:=A) (c8.af ce) (iY ‹_›) (l1.af ce) JP;clear JP;have aj:=l1.length;refine⟨rfl,⟨_,Jl,rfl⟩,PySem.F.args_list_index_2 _ _,_,list_indexAt a Vs.toArray n none #[] X (m_ b_.heap x) j (by simpa using bs) (by lia) ?_ ?_,Jl,by simpa using dp,?_⟩
 .exact dN _ (by rw[List.getElem_toArray];exact fq _)
 .intro m aN OT;exact gQ m _ OT (by rw[List.getElem_toArray];exact fq _)
 .rw[bZ]at e;have:=h _ _ e _ cq _ (ce.toks<|b_.toks+1) ((bo.trans bM).trans<|br.toks cq b_ _)<|.int _ b_.toks;simpa using this
theorem TQ{o e d:ċ}{hO pos:Pos}{eU w uC:dm}(aX:c.Ok)(a4:A.units+40<cLine)(aw:lN o=false)(lT:(hO.endLine==pos.line)=true)(aK:fH e=false)(lY:fH d=false)(go:Good c A o eU)(g:Good c A e w)(v5:Good c A d uC):Good c A (.Call (.Attribute o "get" hO) [e,d] [] pos) λr J K=>eU r J λv J=>om .get v (w r J λx J=>uC r J λy J=>lb (Jz .get v x y) K J):=by
 intro O s ac C r J k K Q I hj ag h;refine wpAny_Call_method2_late (v3 aw) lT (by rw[ng aK,ng lY];rfl)<|go.use I hj ag λv db e V bL bt a0 bU bo cn=>?_;obtain⟨l,rfl,e⟩:=Fv e;obtain⟨a,es,n,rfl,D,Zt⟩:=sz a0 aX.sys<|.val cn;refine⟨"dict","dict.get",PySem.F.plainAttrs_dict,PySem.F.slot_dict_get,PySem.F.type_dict_get,D.typeIs,λb aw=>?_,?_⟩
 .cases aw;exact⟨_,D.at_,rfl⟩
 refine QD (iY ‹_›) Zt<|g.use a0 bU e λx d6 e X cq b_ ce ee bM c8=>v5.use ce ee e λy vi e cx j3 f9 fS jF fu jr=>ax.dt e λz ky e=>?_;replace ky:(if _ then _ else _)=some z:=ky;obtain⟨a7,ky⟩:=g4 ky;obtain⟨LK,bZ,bs⟩:=map_some ky;clear ky;subst bs;obtain⟨hm,cz,n',mn,w3,-⟩:=sz fS aX.sys<|.val<|(bM.trans fu).hg a0 cn;cases mn;refine⟨j3,_,l,cz,n',x,LK,fS,w3,a7,fu.hg ce c8,bZ,λR t aA=>h _ _ e _ j3 _ (fS.toks t) (((bo.trans bM).trans fu).trans<|br.toks j3 f9 t) ?_⟩;induction aA with
 |none=>exact jr
 |some af=>exact af
theorem R6{es:IF ċ}{pos:Pos}{ei:ov}(gl:k7 c A es ei)(aj:es.length<=a3):Good c A (.List es pos) λr J K=>ei r J λvs J=>K (.ref J.length) (J++[c5.ls vs]):=by intro O s ac C r J k K Q I F e h;refine wpAny_List<|gl.use I F e λvs db e Vs bL bt a0 bU bo af a6=>?_;rw[<-a6]at aj;exact⟨by rw[af.length];exact fY aj,h _ _ e _ _ _ (a0.Q5 af aj) (bo.trans<|br.push a0 (cu Vs.toArray 0)<|.st db.length)<|.ref<|c2 _ _ _⟩
theorem pv.dt{x y:B}{f:B->Prop}(h:pv x y f):dX λi j=>rN (x=.int i) (y=.int j) (small i=true) (small j=true) ((j-i).toNat<=a3) (f<|.ez i j):=by
 induction x using B.casesOn with
 |int i=>induction y using B.casesOn with
  |int j=>exact⟨i,j,rfl,rfl,h.1,h.2.1,h.2.2.1,h.2.2.2⟩
  |_=>exact h.elim
 |_=>exact h.elim
theorem Wt{np pos:Pos}{e:ċ}{w:dm}(aX:c.Ok)(d_:c.cy "range"=true)(aN:c.gP "range"=none)(af:c.kb "range"=some (.type "range"))(aK:fH e=false)(g:Good c A e w):Good c A (.Call (.Name "range" np) [e] [] pos) λr J K=>w r J (Bz K<|.int 0):=by intro O s ac C r J k K Q I hj ag h;refine Call_name1 (by rw[t8 aK];rfl)<|vr aX I hj d_ aN af (by decide) ?_;refine PySem.callWith_type1<|g.use I hj ag λv db e V bL bt a0 bU bo cn=>?_;obtain⟨i,j,q,rfl,-,b',aq,e⟩:=pv.dt e;cases q;obtain⟨t,rfl⟩:=cn.of;exact call_range_1<|h _ _ e _ _ _ ((a0.push (pk 0 j bt.toks t<|bt.toks+1) rfl _<|.inl rfl).toks<|bt.toks+1+1) ((bo.trans<|br.push a0 (pk 0 j bt.toks t<|bt.toks+1)<|.a5<|pk 0 j bt.toks t<|bt.toks+1).trans<|br.toks _ _ _)<|.ez (c2 _ _ _) (by decide) b' aq
theorem RN{np pos:Pos}{d e:ċ}{uC w:dm}(aX:c.Ok)(d_:c.cy "range"=true)(aN:c.gP "range"=none)(af:c.kb "range"=some (.type "range"))(aK:fH d=false)(lY:fH e=false)(v5:Good c A d uC)(g:Good c A e w):Good c A (.Call (.Name "range" np) [d,e] [] pos) λr J K=>uC r J (hA w r<|Bz K):=by intro O s ac C r J k K Q I hj ag h;refine wpAny_Call_NameR<|vr aX I hj d_ aN af (by decide) ?_;rw[ng aK,ng lY];refine PySem.callWith_type rfl<|CX<|vJ<|v5.use I hj ag λu z8 e U dr eS nE lB sW lP=>vJ<|g.use nE lB e λv db e V bL bt a0 bU bo cn=>Calls.spliced_nil ?_;obtain⟨i,j,rfl,rfl,aB,b',aq,m8⟩:=pv.dt e;clear e;obtain⟨vk,rfl⟩:=lP.of;obtain⟨t,rfl⟩:=cn.of;exact call_range_2<|h _ _ m8 _ _ _ ((a0.push (pk i j vk t bt.toks) rfl _<|.inl rfl).toks<|bt.toks+1) (((sW.trans bo).trans<|br.push a0 (pk i j vk t bt.toks)<|.a5<|pk i j vk t bt.toks).trans<|br.toks _ _ _)<|.ez (c2 _ _ _) aB b' aq
inductive vm (P:Params) (C:aY):List (B×B)->List (Value×Value)->Prop where
 |nil:vm P C [] []
 |cons {k v:B} {K V:Value} {l:List (B×B)} {vs:List (Value×Value)}:bA P C k K->bA P C v V->vm P C l vs->vm P C ((k,v)::l) ((K,V)::vs)
abbrev CU:=aJ->St->(IF (B×B)->St->Prop)->Prop
def Uc(c:cc)(C:aY)(s:Nd)(Q:IF (Ĉ×Ĉ)->Nd->Prop)(n:Č)(ai:IF (B×B))(bG:St):Prop:=∀Vs aO ar,c.I aO bG ar->br C s aO ar->vm c.P aO ai Vs->ai.length=n->Q Vs ar
def vL(c:cc)(A:Around)(ks:IF (Ċ ċ))(vs:IF ċ)(w:CU):Prop:=∀O s ac C r J k pos (K:IF (B×B)->St->Prop) (Q:IF (Ĉ×Ĉ)->Nd->Prop),c.I C J s->c.F C ac r s.heap k->w r J K->(∀ai bG,K ai bG->Uc c C s Q ks.length ai bG)->wpAny c.M A (evalPairs<|pairTrees ks vs ac pos) Q O s
theorem NO:vL c A [] [] λ_ J K=>K [] J:=λO s ac C r J k pos K Q I F e h=>b4<|h _ _ e [] C s I (br.refl C s) .nil rfl
theorem NA{k v:ċ}{ks:IF (Ċ ċ)}{vs:IF ċ}{mN w:dm}{ke:CU}(cy:Good c A k mN)(Vv:Good c A v w)(bf:vL c A ks vs ke):vL c A (some k::ks) (v::vs) λr J K=>mN r J (hA w r λx=>hA ke r<|KD K x):=by intro O s ac C r J bY pos K Q I F e h;exact bd<|cy.use I F e λx db e X bL bt a0 bU bo c8=>bd<|gY<|bd<|Vv.use a0 bU e λy d6 e cx cq b_ ce ee bM jr=>bd<|pV<|b4<|bd<|gY<|bf O b_ ac cq r d6 bY pos _ _ ce ee e λai vi e Vs j3 f9 fS fu uY aj=>b4<|h _ _ e _ j3 f9 fS ((bo.trans bM).trans fu) (.cons ((bM.trans fu).hg a0 c8) (fu.hg ce jr) uY)<|bH Nat.succ aj
theorem OW{k v:B}{l dh:IF (B×B)}(a7:ep k l=true)(e:gU k v l=some dh):dh.length<=l.length+1:=by rw[JV a7]at e;induction h:jn k l using Option.casesOn<;>rw[h]at e<;>cases e<;>simp
theorem UR(a4:A.units+16<cLine){O:Ĉ->Nd->Prop}{dr:aY}{eS:Nd}{d:Addr}(am:¬(dr d).kept){ai:IF (B×B)}{vs:IF (Ĉ×Ĉ)}{C:aY}{J:St}{dh:IF (B×B)}{Q:PUnit->Nd->Prop}(bg:C d=.ext)(uY:vm c.P C ai vs):∀{s:Nd} {l:IF (B×B)} {es:IF DictEntry} {n:Č},c.I C J s->iM c C s d l es n->br dr eS C s->l.length+ai.length<=a3->(ai.foldlM (λd (p:B×B)=>if ep p.1 d then gU p.1 p.2 d else none) l)=some dh->(∀ar cz n',c.I C J ar->iM c C ar d dh cz n'->br dr eS C ar->Q ⟨⟩ ar)->wpAny c.M A (storeAll d vs) Q O s:=by
 unfold storeAll;induction uY with
 |nil=>intro s l es n I D x aq e h;cases e;exact b4<|h s es n I D x
 |cons aE af bn ap=>intro s l es n I D x aq e h;rw[DL];obtain⟨Ą,ag,a8⟩:=bind_some e;clear e;obtain⟨a7,ag⟩:=g4 ag;refine bd<|bd<|Jw (iY ‹_›) I D a7 aE af ag λaR t cz n' bZ bs dN gQ=>b4 ?_;have bY:∀b o,b≠d->s.heap.get? b=some o->aR.get? b=some o:=λb o aw e=>(gQ.2 b aw).trans e;have dU:=OW a7 ag;clear gQ ag aE af;rw[nl]at aq;exact ap (I.upd (by rw[bg];trivial) bY (by rw[bZ];rfl) t) ⟨bZ,bs,dN,by lia⟩ (x.upd am bY t) (by lia) a8 h
theorem VJ{ks:IF (Ċ ċ)}{vs:IF ċ}{pos:Pos}{w:CU}(a4:A.units+16<cLine)(e9:∃o,c.H.get? sysModules=some o)(gc:ks.all (·.isSome)=true)(aj:ks.length=vs.length)(aU:ks≠[])(dU:ks.length<=15)(g:vL c A ks vs w):Good c A (.Dict ks vs pos) λr J K=>w r J (Jb K):=by
 intro O s ac C r J k K Q I F e h;have sW:=br.push I (ej #[] 0) .ext;have td:C s.heap.objs.size=.none:=I.fresh<|dA _;have am:¬(C s.heap.objs.size).kept:=by rw[td];exact id
 refine wpAny_Dict_any gc aj aU dU<|g O _ ac _ r J k pos _ _ (I.push (ej #[] 0) rfl .ext<|.inr rfl) (F.ext I sW) e λai db e Vs bL bt a0 bo uY a6=>ax.dt e λl c0 e=>?_;have bg:=bo.kept s.heap.objs.size (ej #[] 0) (gZ _ rfl) (by rw[c2];trivial);rw[c2]at bg;refine UR a4 am bg.2 uY (l:=[]) (es:=[]) (n:=0) a0 ⟨bg.1,.nil,qU,f_ _⟩ (sW.trans bo) (by rw[xu,iJ,a6];exact aI dU<|by decide) c0 λb_ es n ce D bM=>?_;refine h _ _ e _ _ b_ (ce.turn (by rw[bg.2];trivial) D.at_) (bM.turn am bg.2)<|.bb (c2 _ _ _) (D.rel.mono (λa o e=>?_) λa m e=>?_) D.a3 D.nodup ?_
 .rw[bX<|by rintro rfl;rw[bg.2]at e;exact bR e rfl];exact e
 .rw[bX<|by rintro rfl;rw[bg.2]at e;exact bR e rfl];exact e
 .rw[lI];intro q;obtain⟨o,aA⟩:=e9;have:=I.base _ o aA;rw[<-q,td]at this;exact bR this rfl
theorem Ep{C:aY}{J:St}{s:Nd}(I:c.I C J s){n be:Č}{aX:Ĉ}{l:IF (Č×B)}(d2:bA c.P C (.ref n) aX)(e:J[n]?=some (.ins be l)):gV λa d es k=>Kz (aX=.ref a) (C a=.st n) (C d=.cF n) (s.heap.get? a=some (kB (c.N.cl be) d)) (s.heap.get? d=some (ej es.toArray k)) (i4 c.P C c.N.an l es) ((l.map Prod.fst).Nodup) (be<7):=by obtain⟨a,rfl,r⟩:=d2.of;obtain⟨_,_,_,_,G,E,aC,ba,cN,d7,fm⟩:=(I.store n _ e).of;obtain rfl:=C' I G r;exact⟨_,_,_,_,rfl,G,E,aC,ba,cN,d7,fm⟩
theorem UN{P:Params}{C:aY}{an:Č->Str}(inj:∀a b,an a=an b->a=b){a:Č}{v:B}{l:IF (Č×B)}{es:IF DictEntry}(h:i4 P C an l es):l.lookup a=some v->∃e,es.find? (·.key.isStr (an a))=some e/\bA P C v e.val:=by
 induction h with
 |nil=>exact λh=>b0 h
 |@cons b w cI W _ _ af _ ap=>
  rw[List.find?_cons,kO];by_cases q:b=a
  .cases q;rw[jP,show(Value.str (an a) cI).isStr (an a)=true from jP _];exact λh=>⟨_,rfl,cV h▸af⟩
  .rw[lI.mpr<|io q,show(Value.str (an b) cI).isStr (an a)=false from lI.mpr λe=>q<|inj _ _ e];exact ap
theorem XX{x:Str}{es:IF DictEntry}{n:Č}{e:DictEntry}(h:es.find? (·.key.isStr x)=some e):lookIn x (ej es.toArray n)=some (some e.val):=by delta lookIn ej;dsimp only;rw[h]
theorem Yu{x:Str}{es:IF DictEntry}{n:Č}(h:es.find? (·.key.isStr x)=none)(r:es.any (·.refKey)=false):lookIn x (ej es.toArray n)=some none:=by delta lookIn ej;dsimp only;rw[h,r];rfl
theorem MH{K:Frag}{ah:Addr}{od:Ċ Obj}{name:Str}{ka:ClassData}{v:Ĉ}(aq:clsIn K ah=some ka)(g:findIn K (.ref ah) name=some none)(q:ownOf ka od name=some (some v)):findObj K ah od name=some (.value v):=by show(clsIn K ah).bind (λka=>(findIn K (.ref ah) name).bind _)=_;rw[aq,g];show(ownOf ka od name).bind _=_;rw[q];rfl
theorem Pb{P:Params}{C:aY}{v:B}{V:Ĉ}(h:bA P C v V):handedIn V=true:=bA.casesOn (motive_1:=λ_ V _=>handedIn V=true) h rfl (λ_=>rfl) (λ_ _=>rfl) (λ_ _ _=>rfl) (λ_ _ _=>rfl) (λ_ _ _=>rfl) (λ_ _ _ _ _=>rfl) (λ_=>rfl) λ_ _ _ _=>rfl
theorem Í(aX:c.Ok){O:Ĉ->Nd->Prop}{s:Nd}{C:aY}{J:St}{o v:B}{V:Ĉ}{a:Č}{b:ĉ}{Q:Ĉ->Nd->Prop}(I:c.I C J s)(d2:bA c.P C o V)(ak:a<33)(e:n1 J o a=some v)(h:∀W t,bA c.P C v W->Q W {s with toks:=t}):wpAny c.M A (getAttr V (c.N.an a) b) Q O s:=by
 replace e:=oO.of e;obtain⟨n,be,l,rfl,aK,e⟩:=e;obtain⟨x,d,es,k,rfl,G,E,aC,ba,cN,d7,fm⟩:=Ep I d2 aK;obtain⟨U2,bZ,bs⟩:=UN aX.inj cN e;have nc:=aX.nc be a fm ak;unfold attrOk at nc;rw[e2,e2]at nc;obtain⟨⟨c3,bh⟩,cL⟩:=nc;induction aq:clsIn c.K (c.N.cl be)with
 |none=>rw[aq]at cL;exact cH cL
 |some ka=>
  rw[aq]at cL;have a7:findObj c.K (c.N.cl be) (some<|ej es.toArray k) (c.N.an a)=some (.value U2.val):=by refine MH aq (eF bh) ?_;unfold PySem.W.ownOf;rw[bl cL];exact XX bZ
  exact get_value (K:=c.K) (od:=some<|ej es.toArray k) (λb o e=>I.l_ _ _<|aX.ab b o e) ⟨aC,rfl,rfl,ba⟩ (eF c3) a7 (Pb bs)<|h _ _ bs
theorem ZN{e:ċ}{pos:Pos}{x:Str}{a:Č}{w:dm}(aX:c.Ok)(aw:lN e=false)(ak:a<33)(az:c.N.an a=x)(g:Good c A e w):Good c A (.Attribute e x pos) λr J K=>w r J (EK a K):=by intro O s ac C r J k K Q I F ag h;subst az;rw[arm_eval_Attribute,v3 aw];exact bd<|g.use I F ag λo db e V bL bt a0 bU bo cn=>ax.dt e λz c7 e=>bd<|pV<|bd<|gY<|Í aX a0 cn ak c7 λW t NL=>bd<|wpAny_letTemporaryGo<|b4<|h _ _ e W bL _ (a0.toks t) (bo.trans<|br.toks bL bt t) NL
structure Bound(c:cc)(C:aY)(ac:Env)(s:Shared)(x:Str)(V:Value)(ar:Shared):Prop where
 keep:∀a o,(∀k,C a≠.loc k)->(∀y,C a≠.kS y)->s.heap.get? a=some o->ar.heap.get? a=some o
 kept:∀a,(C a≠.none)->(ar.heap.get? a).isSome=true
 new:gM ac ar.heap x V
 old:∀y W,y≠x->gM ac s.heap y W->gM ac ar.heap y W
 ns:∃m,ar.heap.Ns ac.locals m
 cells:∀y,(ac.kindOf y=some .cell\/ac.kindOf y=some .free)->dX λbe v=>dJ (ac.cells.lookup y=some be) (C be=.kS y)<|ar.heap.IsCell be v
 gens:ar.gens=s.gens
 hL:ar.os=s.os
 S2:ac.kindOf x=some .local->∀a o,a≠ac.locals->s.heap.get? a=some o->ar.heap.get? a=some o
theorem C7{ac:Env}{x:Str}{V:Ĉ}{O:Ĉ->Nd->Prop}{s:Nd}{C:aY}{r:aJ}{J:St}{k:Č}{Q:Unit->Nd->Prop}(I:c.I C J s)(F:c.F C ac r s.heap k)(az:c.b6 x=true)(h:∀ar,Bound c C ac s x V ar->Q () ar):wpAny c.M A (storeName ac x V) Q O s:=by
 have ae:(ac.scope.kind==.class||(ac.scope.kind==.module&&ac.locals !=ac.globals))=false:=by rw[F.bE.kind];rfl
 rcases F.st x az with aE|aE
 .obtain⟨m,aN⟩:=F.bE.mf;refine wpAny_storeName_local aE aN (λaR am aK=>h _ ⟨λa o G E e=>?_,λa ak=>?_,.inl ⟨aE,_,am,bl rfl⟩,λy W a1 af=>?_,⟨_,am⟩,λy a1=>?_,rfl,rfl,λ_ a o ak e=>(aK.2 a ak).trans e⟩) ae
  .exact(aK.2 a<|by rintro rfl;exact G _ F.bE.loc).trans e
  .by_cases q:a=ac.locals
   .subst q;obtain⟨o,es,rM,aA,-⟩:=am;rw[show({s with heap:=aR,toks:=s.toks+1}:Nd).heap.get? ac.locals=some o from aA];rfl
   .obtain⟨o,aA⟩:=ha.mp<|I.alloc a ak;rw[show({s with heap:=aR,toks:=s.toks+1}:Nd).heap.get? a=some o from(aK.2 a q).trans aA];rfl
  .rcases af with⟨aj,iW,kQ,e⟩|⟨aj,be,aq,o,aA,bg⟩
   .refine .inl ⟨aj,_,am,?_⟩;rw[bm a1,aN.agree kQ y];exact e
   .obtain⟨iL,nW,bZ,bs,dN⟩:=F.bE.cells y aj;rw[aq]at bZ;cases bZ;exact .inr ⟨aj,be,aq,o,(aK.2 be<|by rintro rfl;rw[F.bE.loc]at bs;exact bR bs rfl).trans aA,bg⟩
  .obtain⟨be,v,bZ,bs,o,aA,bg⟩:=F.bE.cells y a1;exact⟨be,v,bZ,bs,o,(aK.2 be<|by rintro rfl;rw[F.bE.loc]at bs;exact bR bs rfl).trans aA,bg⟩
 .obtain⟨be,â,bZ,bs,dN⟩:=F.bE.cells x<|.inl aE;refine wpAny_storeName_cell F.bE.kind aE bZ dN<|λaR am aK=>h _ ⟨λa o G E e=>?_,λa ak=>?_,.inr ⟨.inl aE,be,bZ,am⟩,λy W a1 af=>?_,?_,λy a1=>?_,rfl,rfl,λaj=>by rw[aE]at aj;cases aj⟩
  .exact(aK.2 a<|by rintro rfl;exact E _ bs).trans e
  .by_cases q:a=be
   .subst q;obtain⟨o,aA,-⟩:=am;rw[show({s with heap:=aR}:Nd).heap.get? a=some o from aA];rfl
   .obtain⟨o,aA⟩:=ha.mp<|I.alloc a ak;rw[show({s with heap:=aR}:Nd).heap.get? a=some o from(aK.2 a q).trans aA];rfl
  .rcases af with⟨aj,iW,kQ,e⟩|⟨aj,iL,eM,o,aA,bg⟩
   .exact .inl ⟨aj,iW,kQ.sameBut aK (by rintro rfl;rw[F.bE.loc]at bs;exact bR bs rfl),e⟩
   .obtain⟨ð,ý,dp,eh,fR⟩:=F.bE.cells y aj;rw[eM]at dp;cases dp;exact .inr ⟨aj,iL,eM,o,(aK.2 iL<|by rintro rfl;rw[bs]at eh;cases eh;exact a1 rfl).trans aA,bg⟩
  .obtain⟨m,aN⟩:=F.bE.mf;exact⟨m,aN.sameBut aK<|by rintro rfl;rw[F.bE.loc]at bs;exact bR bs rfl⟩
  .obtain⟨iL,nW,dp,eh,fR⟩:=F.bE.cells y a1;by_cases q:iL=be
   .subst q;exact⟨iL,_,dp,eh,am⟩
   .obtain⟨o,aA,bg⟩:=fR;exact⟨iL,nW,dp,eh,o,(aK.2 iL q).trans aA,bg⟩
theorem Bound.I{C:aY}{ac:Env}{s ar:Nd}{x:Str}{V:Ĉ}{J:St}(aT:Bound c C ac s x V ar)(I:c.I C J s):c.I C J ar:=by
 have fG:∀a o,(¬∃k,C a=.loc k)->(¬∃y,C a=.kS y)->s.heap.get? a=some o->ar.heap.get? a=some o:=λa o G E e=>aT.keep a o (λk q=>G ⟨k,q⟩) (λy q=>E ⟨y,q⟩) e;refine⟨λa h=>aT.kept a h,I.uniq,λa o e=>?_,λn ct e=>(I.store n ct e).mono (λ_ _ e=>e) (λ_ _ e=>e) (λ_ _ e=>e) λa o h e=>?_,I.base,aT.gens.trans I.gens,aT.hL.trans I.hL,I.gx⟩
 .exact fG a o (by rintro⟨k,q⟩;rw[q]at e;exact bR e rfl) (by rintro⟨k,q⟩;rw[q]at e;exact bR e rfl)<|I.a5 a o e
 .rcases h with h|h;all_goals exact fG a o (by rintro⟨k,q⟩;rw[q]at h;exact bR h rfl) (by rintro⟨k,q⟩;rw[q]at h;exact bR h rfl) e
theorem Bound.ext{C:aY}{ac:Env}{s ar:Nd}{x:Str}{V:Ĉ}(aT:Bound c C ac s x V ar):ew C s C ar:=⟨λa o e ca=>⟨aT.keep a o (λk q=>by rw[q]at ca;exact ca) (λy q=>by rw[q]at ca;exact ca) e,rfl⟩,λ_ _ e=>e,λ_ _ e=>e⟩
theorem Bound.F{C:aY}{ac:Env}{s ar:Nd}{x:Str}{V:Ĉ}{r:aJ}{k i:Č}{aL:co}(aX:c.Ok)(aT:Bound c C ac s x V ar)(F:c.F C ac r s.heap k)(aB:c.ns.lookup x=some i)(aK:l5 c.P C ac ar.heap i x aL):c.F C ac (r.set i aL) ar.heap k:=by
 refine⟨⟨F.bE.kind,F.bE.glob,F.bE.lp,F.bE.loc,aT.ns,aT.cells,λy j rA G E=>?_⟩,F.gl,F.st,F.cl⟩;by_cases q:j=i
 .subst q;obtain rfl:=aX.rR _ _ _ G aB;rw[qX]at E;split at E
  .split at E
   .cases E;exact aK
   .exact b0 E
  .exact absurd rfl ‹_›
 .have a1:y≠x:=by rintro rfl;rw[aB]at G;exact q (cV G).symm
  rw[nn<|io q]at E;induction F.bE.slots y j rA G E with
  |un=>exact .un
  |val a b=>exact .val (aT.old y _ a1 a) b
  |ol a b d e f=>exact .ol (aT.old y _ a1 a) b (aT.keep _ _ (λk q=>by rw[b]at q;exact bR q rfl) (λz q=>by rw[b]at q;exact bR q rfl) d) e f
  |od a b d e f g=>exact .od (aT.old y _ a1 a) b (aT.keep _ _ (λk q=>by rw[b]at q;exact bR q rfl) (λz q=>by rw[b]at q;exact bR q rfl) d) e f g
inductive CR (P:Params) (C:aY):cj->Flow->Prop where
 |go:CR P C .go .next
 |ret {v:B} {V:Value}:bA P C v V->CR P C (.ret v) (.ret V)
abbrev n_:=aJ->St->(cj->aJ->St->Prop)->Prop
def zf(c:cc)(C:aY)(s:Nd)(ac:Env)(k:Č)(Q:Flow->Nd->Prop)(cM:cj)(b2:aJ)(bG:St):Prop:=∀f aO ar,c.I aO bG ar->ew C s aO ar->c.F aO ac b2 ar.heap k->CR c.P aO cM f->Q f ar
def yj(c:cc)(A:Around)(t:Env->Sem Flow)(w:n_):Prop:=∀O s ac C r J k (K:cj->aJ->St->Prop) (Q:Flow->Nd->Prop),c.I C J s->c.F C ac r s.heap k->w r J K->(∀cM b2 bG,K cM b2 bG->zf c C s ac k Q cM b2 bG)->wpAny c.M A (t ac) Q O s
abbrev ga(c:cc)(A:Around)(st:Stmt)(w:n_):Prop:=yj c A (exec st) w
abbrev mS(c:cc)(A:Around)(cS:IF Stmt)(w:n_):Prop:=yj c A (execs cS) w
theorem yj.use{t:Env->Sem Flow}{w:n_}(g:yj c A t w){O:Ĉ->Nd->Prop}{eS s:Nd}{ac:Env}{dr C:aY}{r:aJ}{J:St}{k:Č}{K:cj->aJ->St->Prop}{Q:Flow->Nd->Prop}(I:c.I C J s)(F:c.F C ac r s.heap k)(x:ew dr eS C s)(e:w r J K)(h:∀cM b2 bG,K cM b2 bG->zf c dr eS ac k Q cM b2 bG):wpAny c.M A (t ac) Q O s:=g O s ac C r J k K Q I F e λcM b2 bG e f aO ar dk eJ=>h cM b2 bG e f aO ar dk<|x.trans eJ
theorem Z0:mS c A [] λr J K=>K .go r J:=λO s ac C r J k K Q I F e h=>wpAny_execs_nil<|h _ _ _ e _ C s I (ew.refl C s) F .go
theorem S6{st:Stmt}{a':IF Stmt}{w ke:n_}(g:ga c A st w)(bf:mS c A a' ke):mS c A (st::a') λr J K=>w r J (kD ke K):=by
 intro O s ac C r J k K Q I F e h;refine wpAny_execs_cons<|g O s ac C r J k _ _ I F e λjO hq ä e f bL bt a0 bo bU a7=>?_;induction a7 with
 |go=>exact bf.use a0 bU bo e h
 |ret af=>exact h _ _ _ e _ bL bt a0 bo bU<|.ret af
theorem VA{e:ċ}{pos:Pos}{w:dm}(g:Good c A e w):ga c A (.Return (some e) pos) λr J K=>w r J (FA r K):=λO s ac C r J k K Q I F ag h=>wpAny_Return_some<|g.use I F ag λv db e V bL bt a0 bU bo cn=>h _ _ _ e _ bL bt a0 bo.zero bU<|.ret cn
theorem SW{pos:Pos}:ga c A (.Return none pos) λr J K=>K (.ret .none) r J:=λO s ac C r J k K Q I F ag h=>wpAny_Return_none<|h _ _ _ ag _ C s I (ew.refl C s) F<|.ret .none
theorem Z9{t:ċ}{b o:IF Stmt}{pos:Pos}{qp:hi}{kw eU:n_}(gt:kt c A t qp)(lv:mS c A b kw)(go:mS c A o eU):ga c A (.If t b o pos) λr J K=>qp r J λq J=>kH (kw r J K) (eU r J K) q:=by
 intro O s ac C r J k K Q I F ag h;refine wpAny_If<|gt.use I F ag λq db e bL bt a0 bU bo=>?_;induction q with
 |true=>exact lv.use a0 bU bo.zero e h
 |false=>exact go.use a0 bU bo.zero e h
inductive pw (c:cc):List Expr->List Nat->Prop where
 |nil:pw c [] []
 |cons {x:Str} {eL:Pos} {i:Nat} {es:List Expr} {is:List Nat}:c.ns.lookup x=some i->c.b6 x=true->pw c es is->pw c (.Name x eL::es) (i::is)
inductive mu (c:cc):Bool->Expr->List Nat->Prop where
 |one {x:Str} {eL:Pos} {i:Nat}:c.ns.lookup x=some i->c.b6 x=true->mu c false (.Name x eL) [i]
 |tup {es:List Expr} {cK:Nat} {pos:Pos} {is:List Nat}:pw c es is->mu c true (.Tuple es cK pos) is
structure k9(c:cc)(C:aY)(ac:Env)(s ar:Shared):Prop where
 tg:∀a o,(∀k,C a≠.loc k)->(∀y,C a≠.kS y)->s.heap.get? a=some o->ar.heap.get? a=some o
 loc:(∀x,c.b6 x=true->ac.kindOf x=some .local)->∀a o,a≠ac.locals->s.heap.get? a=some o->ar.heap.get? a=some o
theorem k9.refl(C:aY)(ac:Env)(s:Nd):k9 c C ac s s:=⟨λ_ _ _ _ e=>e,λ_ _ _ _ e=>e⟩
theorem k9.trans{C:aY}{ac:Env}{s bt b_:Nd}(x:k9 c C ac s bt)(y:k9 c C ac bt b_):k9 c C ac s b_:=⟨λa o G E e=>y.tg a o G E<|x.tg a o G E e,λh a o G e=>y.loc h a o G<|x.loc h a o G e⟩
theorem k9.ext{C:aY}{ac:Env}{s ar:Nd}(x:k9 c C ac s ar):ew C s C ar:=⟨λa o e ca=>⟨x.tg a o (λk q=>by rw[q]at ca;exact ca) (λy q=>by rw[q]at ca;exact ca) e,rfl⟩,λ_ _ e=>e,λ_ _ e=>e⟩
theorem re(aX:c.Ok){ac:Env}{x:Str}{V:Ĉ}{v:B}{i:Č}{O:Ĉ->Nd->Prop}{s:Nd}{C:aY}{r:aJ}{J:St}{k:Č}{Q:Unit->Nd->Prop}(I:c.I C J s)(F:c.F C ac r s.heap k)(aB:c.ns.lookup x=some i)(az:c.b6 x=true)(cn:bA c.P C v V)(h:∀ar,c.I C J ar->ew C s C ar->k9 c C ac s ar->c.F C ac (r.set i<|.val v) ar.heap k->Q () ar):wpAny c.M A (storeName ac x V) Q O s:=C7 I F az λar aT=>h ar (aT.I I) aT.ext ⟨aT.keep,λaj=>aT.S2<|aj x az⟩<|aT.F aX F aB<|.val aT.new cn
theorem ZW{es:IF ċ}{is:IF Č}(t:pw c es is)(ac:Env):(assignEach es ac).length=is.length:=by
 induction t with
 |nil=>rfl
 |cons _ _ _ ap=>show(_::assignEach _ ac).length=_;simp[ap]
theorem QZ{es:IF ċ}{is:IF Č}(t:pw c es is)(ac:Env):(assignEach es ac).findIdx? (·.1)=none:=by
 induction t with
 |nil=>rfl
 |cons _ _ _ ap=>show((false,_)::assignEach _ ac).findIdx? (·.1)=none;rw[w2,ap];rfl
theorem YA(aX:c.Ok){ac:Env}{O:Ĉ->Nd->Prop}{C:aY}{J:St}{k:Č}{es:IF ċ}{is:IF Č}(t:pw c es is):∀{s:Nd} {r:aJ} {l:IF B} {Vs:IF Ĉ} {Q:Unit->Nd->Prop},c.I C J s->c.F C ac r s.heap k->bD c.P C l Vs->l.length=is.length->(∀ar,c.I C J ar->k9 c C ac s ar->c.F C ac ((is.zip l).foldl (λr p=>r.set p.1<|.val p.2) r) ar.heap k->Q () ar)->wpAny c.M A (assignInOrder ((assignEach es ac).map (·.2)) Vs) Q O s:=by
 induction t with
 |nil=>
  intro s r l Vs Q I F af aj h;induction l using List.casesOn with
  |nil=>obtain rfl:=af.of;exact b4<|h s I (k9.refl C ac s) F
  |cons=>cases aj
 |@cons x eL i es is aB az _ ap=>
  intro s r l Vs Q I F af aj h;induction l using List.casesOn with
  |nil=>cases aj
  |cons v l=>obtain⟨V,bC,rfl,a,b⟩:=af.of;exact bd<|gY<|assign_Name<|re aX I F aB az a λbt a0 bo BJ bU=>ap a0 bU b (by simpa using aj) λb_ ce oo ee=>h b_ ce (k9.trans BJ oo) ee
set_option tactic.hygienic true in
theorem zl(aX:c.Ok)(ca:A.handled=none){ac:Env}{bk:ĉ}{Fg:ċ}{aS:IF Č}(t:mu c bk Fg aS){O:Ĉ->Nd->Prop}{s:Nd}{C:aY}{r b2:aJ}{J:St}{k:Č}{v:B}{V:Ĉ}{Q:Unit->Nd->Prop}(I:c.I C J s)(F:c.F C ac r s.heap k)(cn:bA c.P C v V)(e:iO bk aS v r=some b2)(h:∀ar,c.I C J ar->k9 c C ac s ar->c.F C ac b2 ar.heap k->Q () ar):wpAny c.M A (assign Fg ac V) Q O s:=by
 induction t with
 |one aB az=>cases e;exact assign_Name<|re aX I F aB az cn λbt a0 bo BJ bU=>h bt a0 BJ bU
 |@tup es cK pos is hc=>
  induction v using B.casesOn<;>try(exact b0 e;done)
  rename_i l;obtain⟨aj,e⟩:=g4<|show(if l.length=is.length then some _ else none)=some _ from e
  .cases e;obtain⟨a,Vs,n,rfl,G,E,aC⟩:=ps cn;clear cn;refine wpAny_assign_Tuple ca (gw<|I.a5 _ _ G) (by rw[ZW hc,eI,E.length,aj]) (QZ hc ac) λaR a6=>?_;have bY:∀b o,s.heap.get? b=some o->aR.get? b=some o:=λb o e=>a6 b o (gK<|j5 e) e;refine YA aX hc (I.grow bY s.toks) (F.ext I<|br.grow C bY s.toks) E aj λb_ ce oo ee=>h b_ ce ⟨λa o bZ bs e=>oo.tg a o bZ bs<|bY a o e,λaj a o q e=>oo.loc aj a o q<|bY a o e⟩ ee
def iz (e:ċ):ĉ:=Nat.beq e.ctorIdx 8||(Nat.beq e.ctorIdx 9||Nat.beq e.ctorIdx 10)
theorem rK{value:ċ}{t:Ċ ċ}{n:Č}{ac:Env}(h:iz value=false):swapsWith value t n ac=pure false:=by exact rF (b:=iz value) (by induction value using PySem.Expr.casesOn<;>first|exact @rfl _ (pure false)|trivial) h
theorem Sg{e:ċ}{x:Str}{eL pos:Pos}{i:Č}{w:dm}(aX:c.Ok)(aq:iz e=false)(aB:c.ns.lookup x=some i)(az:c.b6 x=true)(g:Good c A e w):ga c A (.Assign [.Name x eL] e pos) λr J K=>w r J (qa i r K):=λO s ac C r J k K Q I F ag h=>wpAny_Assign_Name (g.use I F ag λv db e V bL bt a0 bU bo cn=>re aX a0 bU aB az cn λb_ ce bM oo ee=>h _ _ _ e _ bL b_ ce (bo.zero.trans bM) ee .go)<|rK aq
theorem Sl{e:ċ}{pos:Pos}{w:dm}(aq:iz e=false)(g:Good c A e w):ga c A (.Expr e pos) λr J K=>w r J (Kf r K):=by
 intro O s ac C r J k K Q I F ag h;refine wpAny_Expr (g.use I F ag λv db e V bL bt a0 bU bo cn=>?_) (by unfold PySem.interactive;rw[F.bE.kind];rfl)<|rK aq;have h:K .go r db->zf c C s ac k Q .go r db:=h _ _ _;induction v using B.casesOn with
 |none=>obtain rfl:=cn.of;exact h e _ bL bt a0 bo.zero bU .go
 |int i=>obtain⟨t,rfl⟩:=cn.of;exact h e _ bL bt a0 bo.zero bU .go
 |_=>exact False.elim e
section
variable{P:Params}{N:g3}{H:Heap}{os:OsState}{C:aY}{J:St}{s:Nd}
theorem Inv.GX(I:Inv P N H os C J s){n:Č}{d:Addr}(bg:C d=.st n\/C d=.cF n){aR:Heap}(k:∀b o,b≠d->s.heap.get? b=some o->aR.get? b=some o)(aB:(aR.get? d).isSome=true){ct:c5}(aK:lf P N C aR n ct)(t:Č):Inv P N H os C (J.set n ct) {s with heap:=aR,toks:=t}:=by
 refine⟨λa h=>?_,I.uniq,λa o e=>k a o (by rintro rfl;rcases bg with bg|bg<;>rw[bg]at e<;>exact bR e rfl)<|I.a5 a o e,λm Ew e=>?_,I.base,I.gens,I.hL,λa m e=>by rw[List.length_set];exact I.gx a m e⟩
 .by_cases q:a=d
  .subst q;exact aB
  .obtain⟨o,aA⟩:=ha.mp<|I.alloc a h;rw[show({s with heap:=aR,toks:=t}:Nd).heap.get? a=some o from k a o q aA];rfl
 .by_cases q:m=n
  .subst q;rw[qX]at e;simp only[rG]at e;split at e
   .cases e;exact aK
   .exact b0 e
  .rw[nn<|io q]at e;refine(I.store m Ew e).mono (λ_ _ e=>e) (λ_ _ e=>e) (λ_ _ e=>e) λa o h e=>k a o ?_ e;rintro rfl;rcases bg with bg|bg<;>rw[bg]at h<;>rcases h with h|h<;>(first|exact bR h rfl|cases h)<;>exact q rfl
theorem ew.Bp{d:Addr}(am:¬(C d).ip){aR:Heap}(k:∀b o,b≠d->s.heap.get? b=some o->aR.get? b=some o)(t:Č):ew C s C {s with heap:=aR,toks:=t}:=(ew.refl C s).upd am k t
end
theorem cc.F.other{C:aY}{ac:Env}{r:aJ}{h aR:Heap}{k:Č}(F:c.F C ac r h k){d:Addr}(bg:¬(C d).free)(bY:∀b o,b≠d->h.get? b=some o->aR.get? b=some o):c.F C ac r aR k:=by
 have ne:∀{a:Addr} {q:eu},C a=q->q.free->a≠d:=λe h q=>bg<|q▸e▸h;have i_:∀y V,gM ac h y V->gM ac aR y V:=λy V af=>by
  rcases af with⟨a,m,aN,e⟩|⟨a,be,aq,o,aA,lA⟩
  .exact .inl ⟨a,m,aN.at λo e=>bY _ _ (ne F.bE.loc trivial) e,e⟩
  .obtain⟨iL,nW,dp,eh,fR⟩:=F.bE.cells y a;rw[aq]at dp;cases dp;exact .inr ⟨a,be,aq,o,bY _ _ (ne eh trivial) aA,lA⟩
 refine⟨⟨F.bE.kind,F.bE.glob,F.bE.lp,F.bE.loc,?_,λy a1=>?_,λy j aL G E=>?_⟩,F.gl,F.st,F.cl⟩
 .obtain⟨m,aN⟩:=F.bE.mf;exact⟨m,aN.at λo e=>bY _ _ (ne F.bE.loc trivial) e⟩
 .obtain⟨be,v,bZ,bs,o,aA,lA⟩:=F.bE.cells y a1;exact⟨be,v,bZ,bs,o,bY _ _ (ne bs trivial) aA,lA⟩
 .induction F.bE.slots y j aL G E with
  |un=>exact .un
  |val a b=>exact .val (i_ _ _ a) b
  |ol a b d e f=>exact .ol (i_ _ _ a) b (bY _ _ (ne b trivial) d) e f
  |od a b d e f g=>exact .od (i_ _ _ a) b (bY _ _ (ne b trivial) d) e f g
theorem cc.F.OG{C:aY}{ac:Env}{r:aJ}{h aR:Heap}{k i:Č}{aL:co}(uniq:∀a b,C a=C b->(C a).one->a=b)(F:c.F C ac r h k){d:Addr}(bg:C d=.own i)(bY:∀b o,b≠d->h.get? b=some o->aR.get? b=some o)(aK:∀x,c.ns.lookup x=some i->(∀V,gM ac h x V->gM ac aR x V)->l5 c.P C ac aR i x aL):c.F C ac (r.set i aL) aR k:=by
 have ue:ac.locals≠d:=by rintro q;have:=F.bE.loc;rw[q,bg]at this;exact bR this rfl
 have bQ:∀{a y},C a=.kS y->a≠d:=by rintro a y e rfl;rw[bg]at e;exact bR e rfl
 have i_:∀y V,gM ac h y V->gM ac aR y V:=λy V af=>by
  rcases af with⟨a,m,aN,e⟩|⟨a,be,aq,o,aA,lA⟩
  .exact .inl ⟨a,m,aN.at λo e=>bY _ _ ue e,e⟩
  .obtain⟨iL,nW,dp,eh,fR⟩:=F.bE.cells y a;rw[aq]at dp;cases dp;exact .inr ⟨a,be,aq,o,bY _ _ (bQ eh) aA,lA⟩
 refine⟨⟨F.bE.kind,F.bE.glob,F.bE.lp,F.bE.loc,?_,λy a1=>?_,λy j rA G E=>?_⟩,F.gl,F.st,F.cl⟩
 .obtain⟨m,aN⟩:=F.bE.mf;exact⟨m,aN.at λo e=>bY _ _ ue e⟩
 .obtain⟨be,v,bZ,bs,o,aA,lA⟩:=F.bE.cells y a1;exact⟨be,v,bZ,bs,o,bY _ _ (bQ bs) aA,lA⟩
 .by_cases q:j=i
  .subst q;rw[qX]at E;simp only[rG]at E;split at E
   .cases E;exact aK y G<|i_ y
   .exact b0 E
  .rw[nn<|io q]at E;have no:∀{a},C a=.own j->a≠d:=by rintro a e rfl;rw[bg]at e;cases e;exact q rfl
   induction F.bE.slots y j rA G E with
   |un=>exact .un
   |val a b=>exact .val (i_ _ _ a) b
   |ol a b d e f=>exact .ol (i_ _ _ a) b (bY _ _ (no b) d) e f
   |od a b d e f g=>exact .od (i_ _ _ a) b (bY _ _ (no b) d) e f g
theorem Ex{Vs bC:IF Ĉ}{n:Č}{f:Array Ĉ->Array Ĉ}(h:f Vs.toArray=bC.toArray):∃m,Obj.mapSeq f (cu Vs.toArray n)=cu bC.toArray m:=⟨if bC.toArray.size==Vs.toArray.size then n else n+1,by simp only[Obj.mapSeq,cu,h]⟩
theorem hV.dt{o:Ċ co}{f:IF B->Prop}(h:hV o f):∃l,o=some (.ol l)/\f l:=by
 induction o with
 |none=>exact h.elim
 |some x=>induction x<;>first|exact⟨_,rfl,h⟩|exact h.elim
theorem hV.at{o:Ċ co}{l:IF B}{f:IF B->Prop}(q:o=some (.ol l))(h:hV o f):f l:=by rw[q]at h;exact h
theorem JJ{C:aY}{ac:Env}{r:aJ}{J:St}{s:Nd}{k i:Č}{x:Str}{a:Addr}{aR:Heap}{aL:co}(aX:c.Ok)(aB:c.ns.lookup x=some i)(I:c.I C J s)(F:c.F C ac r s.heap k)(jy:gM ac s.heap x (.ref a))(gB:C a=.own i)(bY:∀b o,b≠a->s.heap.get? b=some o->aR.get? b=some o){o:Obj}(ak:aR.get? a=some o)(aK:gM ac aR x (.ref a)->l5 c.P C ac aR i x aL)(t:Č):dJ (c.I C J {s with heap:=aR,toks:=t}) (ew C s C {s with heap:=aR,toks:=t}) (c.F C ac (r.set i aL) aR k):=⟨I.upd (by rw[gB];trivial) bY (by rw[ak];rfl) t,ew.Bp (by rw[gB];exact id) bY t,F.OG I.uniq gB bY λy a1 i_=>by obtain rfl:=aX.rR _ _ _ a1 aB;exact aK<|i_ _ jy⟩
theorem KI{C:aY}{ac:Env}{r:aJ}{J:St}{s:Nd}{k i:Č}{x:Str}{a:Addr}{Vs bC:IF Ĉ}{n:Č}{dh:IF B}{f:Array Ĉ->Array Ĉ}(aX:c.Ok)(aB:c.ns.lookup x=some i)(I:c.I C J s)(F:c.F C ac r s.heap k)(jy:gM ac s.heap x (.ref a))(gB:C a=.own i)(lu:s.heap.get? a=some (cu Vs.toArray n))(a7:f Vs.toArray=bC.toArray)(ba:bD c.P C dh bC)(aq:dh.length<=a3):dJ (c.I C J {s with heap:=s.heap.update a (Obj.mapSeq f)}) (ew C s C {s with heap:=s.heap.update a (Obj.mapSeq f)}) (c.F C ac (r.set i<|.ol dh) (s.heap.update a<|Obj.mapSeq f) k):=by
 obtain⟨m,aN⟩:=Ex (n:=n) a7;have new:(s.heap.update a<|Obj.mapSeq f).get? a=some (cu bC.toArray m):=by rw[tm _ lu (by rw[aN];rfl),aN]
 exact JJ aX aB I F jy gB (λb o aw e=>(Dj _ _<|io aw).trans e) new (λv=>.ol v gB new ba aq) s.toks
theorem S5{e:ċ}{x:Str}{np hO pP pos:Pos}{i:Č}{w:dm}(aB:c.ns.lookup x=some i)(bg:(x==("__debug__":Str))=false)(am:(x==("__classdict__":Str))=false)(lT:(hO.endLine==pP.line)=true)(aK:fH e=false)(g:Good c A e w)(aX:c.Ok):ga c A (.Expr (.Call (.Attribute (.Name x np) "append" hO) [e] [] pP) pos) λr J K=>hV r[i]? λ_=>w r J (KQ i r K):=by intro O s ac C r J k K Q I F ag h;obtain⟨l,bn,ag⟩:=hV.dt ag;obtain⟨a,Vs,n,bZ,bs,dN,gQ,kY⟩:=(F.bE.slots x i _ aB bn).of;refine wpAny_Expr (yP rfl lT (ng aK)<|ri (rv F.bE.kind bZ am ?_) bg) (by unfold PySem.interactive;rw[F.bE.kind];rfl) rfl;refine⟨"list","list.append",PySem.F.plainAttrs_list,PySem.F.slot_list_append,PySem.F.type_list_append,⟨_,dN,rfl⟩,λb aw=>by cases aw;exact⟨_,dN,rfl⟩,?_⟩;refine PySem.P.append_list<|g.use I F ag λv db e V bL bt a0 bU bo cn=>?_;have eh:=(bo.kept a _ dN<|by rw[bs];trivial).2.trans bs;obtain⟨hm,Vs,n,jy,gB,lu,mG,zY⟩:=(bU.bE.slots x i _ aB bn).of;obtain rfl:=a0.uniq hm a (gB.trans eh.symm) (by rw[gB];trivial);obtain⟨aq,e⟩:=hV.at bn e;have eM:l.length+1<=16777216:=aq;refine⟨Vs.toArray,n,by rw[eI,mG.length];unfold sizeLine;exact fY ‹_›,lu,?_⟩;obtain⟨dz,y,cR⟩:=KI aX aB a0 bU jy gB lu (f:=λbP=>bP.push V) (bC:=Vs++[V]) (by simp) (mG.append<|.cons cn .nil) (by rw[da];exact aq);exact h _ _ _ e _ bL _ dz (bo.zero.trans y) cR .go
theorem gS.dt{o:Ċ c5}{f:IF B->Prop}(h:gS o f):∃l,o=some (.ls l)/\f l:=by
 induction o with
 |none=>exact h.elim
 |some x=>induction x<;>first|exact⟨_,rfl,h⟩|exact h.elim
theorem OE{J:St}{x z:B}(e:CP J x=some z):dX λn l=>x=.ref n/\J[n]?=some (.ls l):=by
 induction x using B.casesOn with
 |ref n=>
  obtain⟨ct,h,e⟩:=bind_some<|show(J[n]?).bind _=some z from e;induction ct with
  |ls l=>exact⟨n,l,rfl,h⟩
  |_=>exact b0 e
 |_=>exact b0 e
theorem Dy{C:aY}{ac:Env}{r:aJ}{J:St}{s:Nd}{k n:Č}{a:Addr}{aR:Heap}{ct:c5}(I:c.I C J s)(F:c.F C ac r s.heap k)(p:C a=.st n)(bY:∀b o,b≠a->s.heap.get? b=some o->aR.get? b=some o){o:Obj}(ak:aR.get? a=some o)(aK:lf c.P c.N C aR n ct)(t:Č):dJ (c.I C (J.set n ct) {s with heap:=aR,toks:=t}) (ew C s C {s with heap:=aR,toks:=t}) (c.F C ac r aR k):=⟨I.GX (.inl p) bY (by rw[ak];rfl) aK t,ew.Bp (by rw[p];exact id) bY t,F.other (by rw[p];exact id) bY⟩
theorem Pc{e:ċ}{x:Str}{np hO pP pos:Pos}{i:Č}{w:dm}(aB:c.ns.lookup x=some i)(bg:(x==("__debug__":Str))=false)(am:(x==("__classdict__":Str))=false)(lT:(hO.endLine==pP.line)=true)(aK:fH e=false)(g:Good c A e w)(aX:c.Ok):ga c A (.Expr (.Call (.Attribute (.Name x np) "extend" hO) [e] [] pP) pos) λr J K=>hV r[i]? λ_=>w r J (Iy i r K):=by intro O s ac C r J k K Q I F ag h;obtain⟨l,bn,ag⟩:=hV.dt ag;obtain⟨a,Vs,n,bZ,bs,dN,gQ,kY⟩:=(F.bE.slots x i _ aB bn).of;refine wpAny_Expr (yP rfl lT (ng aK)<|ri (rv F.bE.kind bZ am ?_) bg) (by unfold PySem.interactive;rw[F.bE.kind];rfl) rfl;refine⟨"list","list.extend",PySem.F.plainAttrs_list,PySem.F.slot_list_extend,PySem.F.type_list_extend,⟨_,dN,rfl⟩,λb aw=>by cases aw;exact⟨_,dN,rfl⟩,?_⟩;refine PySem.P.extend_list<|g.use I F ag λv db e V bL bt a0 bU bo cn=>?_;have eh:=(bo.kept a _ dN<|by rw[bs];trivial).2.trans bs;obtain⟨hm,Vs,n,jy,gB,lu,mG,zY⟩:=(bU.bE.slots x i _ aB bn).of;obtain rfl:=a0.uniq hm a (gB.trans eh.symm) (by rw[gB];trivial);obtain⟨Yy,rfl,aq,e⟩:=kj.dt<|hV.at bn e;have aj:=mG.length;obtain⟨b,bC,Wp,rfl,iF,oh,oK⟩:=pq cn;clear cn;have Hj:=oh.length;have eM:l.length+Yy.length<=16777216:=aq;refine⟨b,Vs.toArray,bC.toArray,n,Wp,by rw[eI,aj];unfold sizeLine;exact fY ‹_›,by rw[eI,eI,aj,Hj];unfold sizeLine;exact iP ‹_›,extend_door (by rw[eI,eI,aj,Hj];exact aq),rfl,lu,a0.a5 _ _ iF,?_⟩;obtain⟨dz,y,cR⟩:=KI aX aB a0 bU jy gB lu (f:=λbP=>bP++bC.toArray) (bC:=Vs++bC) (by simp) (mG.append oh) (by rw[da];exact aq);exact h _ _ _ e _ bL _ dz (bo.zero.trans y) cR .go
theorem Sv{o e:ċ}{hO pP pos:Pos}{eU w:dm}(aw:lN o=false)(lT:(hO.endLine==pP.line)=true)(aK:fH e=false)(go:Good c A o eU)(g:Good c A e w)(aX:c.Ok):ga c A (.Expr (.Call (.Attribute o "append" hO) [e] [] pP) pos) λr J K=>eU r J (G1 w r K):=by
 intro O s ac C r J k K Q I F ag h;refine wpAny_Expr (yP (v3 aw) lT (ng aK)<|go.use I F ag λx z8 e X dr eS nE lB sW c8=>ax.dt e λz XG e=>?_) (by unfold PySem.interactive;rw[F.bE.kind];rfl) rfl;obtain⟨n,Ă,rfl,Ob⟩:=OE XG;obtain⟨a,è,Vd,rfl,bZ,bs,-,-⟩:=p0 nE c8 Ob;refine⟨"list","list.append",PySem.F.plainAttrs_list,PySem.F.slot_list_append,PySem.F.type_list_append,⟨_,bs,rfl⟩,λb aw=>by cases aw;exact⟨_,bs,rfl⟩,?_⟩;refine PySem.P.append_list<|g.use nE lB e λv db e V bL bt a0 bU bo cn=>?_;obtain⟨l,bn,aq,e⟩:=gS.dt e;obtain⟨hm,Vs,kg,mn,dp,eh,fR,iv⟩:=p0 a0 (bo.hg nE c8) bn;cases mn;have eM:l.length+1<=16777216:=aq;refine⟨Vs.toArray,kg,by rw[eI,fR.length];unfold sizeLine;exact fY ‹_›,eh,?_⟩;obtain⟨m,aN⟩:=Ex (Vs:=Vs) (bC:=Vs++[V]) (n:=kg) (f:=λbP=>bP.push V) (by simp);have new:(bt.heap.update a<|Obj.mapSeq λbP=>bP.push V).get? a=some (cu (Vs++[V]).toArray m):=by rw[tm _ eh rfl,aN]
 obtain⟨dz,y,cR⟩:=Dy a0 bU dp (λb o aw e=>(Dj _ _<|io aw).trans e) new (.ls dp new (fR.append<|.cons cn .nil)<|by rw[da];exact aq) bt.toks;exact h _ _ _ e _ bL _ dz ((sW.trans bo).zero.trans y) cR .go
theorem Ha{ac:Env}{C:aY}{r:aJ}{J:St}{s:Nd}{k i:Č}{aL:co}{a:Addr}{o:Obj}(I:c.I C J s)(F:c.F C ac r s.heap k)(ak:C a=.own i)(aA:s.heap.get? a=some o)(te:∀x,c.ns.lookup x=some i->l5 c.P (cC C a<|.a5 o) ac s.heap i x aL):c.I (cC C a<|.a5 o) J s/\ew C s (cC C a<|.a5 o) s/\c.F (cC C a<|.a5 o) ac (r.set i aL) s.heap k:=by
 have Rj:∀{b cB},C b=.a5 cB->b≠a:=by rintro b cB e rfl;rw[ak]at e;exact bR e rfl
 have Zu:∀{b n},C b=.st n->b≠a:=by rintro b cB e rfl;rw[ak]at e;exact bR e rfl
 have Sz:∀{b n},C b=.cF n->b≠a:=by rintro b cB e rfl;rw[ak]at e;exact bR e rfl
 have d9:∀b cB,C b=.a5 cB->cC C a (.a5 o) b=.a5 cB:=λb cB e=>(bX<|Rj e).trans e;have eY:∀b n,C b=.st n->cC C a (.a5 o) b=.st n:=λb cB e=>(bX<|Zu e).trans e;refine⟨I.turn (by rw[ak];trivial) aA,⟨λb cB e ca=>⟨e,bX<|by rintro rfl;rw[ak]at ca;exact ca⟩,eY,λb n e=>(bX<|Sz e).trans e⟩,⟨⟨F.bE.kind,F.bE.glob,F.bE.lp,(bX (by intro q;have:=F.bE.loc;rw[q,ak]at this;exact bR this rfl)).trans F.bE.loc,F.bE.mf,λy a1=>?_,λy j rA G E=>?_⟩,F.gl,F.st,F.cl⟩⟩
 .obtain⟨be,v,bZ,bs,dN⟩:=F.bE.cells y a1;exact⟨be,v,bZ,(bX<|by rintro rfl;rw[ak]at bs;exact bR bs rfl).trans bs,dN⟩
 .by_cases q:j=i
  .subst q;rw[qX]at E;simp only[rG]at E;split at E
   .cases E;exact te y G
   .exact b0 E
  .rw[nn<|io q]at E;have no:∀{b},C b=.own j->b≠a:=by rintro b e rfl;rw[ak]at e;cases e;exact q rfl
   induction F.bE.slots y j rA G E with
   |un=>exact .un
   |val x y=>exact .val x<|y.mono d9 eY
   |ol x b d e f=>exact .ol x ((bX<|no b).trans b) d (e.mono d9 eY) f
   |od x b d e f g=>exact .od x ((bX<|no b).trans b) d (e.mono d9 eY) f g
theorem Zs{cS:IF Stmt}{i:Č}{w:n_}(aX:c.Ok)(az:∃x,c.ns.lookup x=some i)(g:mS c A cS w):mS c A cS λr J K=>rp r[i]? (w r J K) λv=>w (r.set i<|.val v) J K:=by
 intro O s ac C r J k K Q I F e h;obtain⟨x,az⟩:=az;have bn:=F.bE.slots x i;generalize r[i]?=o at e bn;induction o with
 |none=>exact e.elim
 |some aL=>
  have bn:=(bn aL az rfl).of;induction aL with
  |un=>exact g O s ac C r J k K Q I F e h
  |val v=>exact g O s ac C r J k K Q I F e h
  |ol l=>
   obtain⟨a,Vs,n,bZ,bs,dN,gQ,kY⟩:=bn;obtain⟨a0,bo,bU⟩:=Ha (aL:=.val<|.lst l) I F bs dN λy a1=>by obtain rfl:=aX.rR _ _ _ a1 az;exact .val bZ<|.lst (c2 _ _ _) (gQ.mono (λb o e=>(bX<|by rintro rfl;rw[bs]at e;exact bR e rfl).trans e)<|λb o e=>(bX<|by rintro rfl;rw[bs]at e;exact bR e rfl).trans e) kY
   exact g.use a0 bU bo e h
  |od l=>
   obtain⟨a,cz,n,bZ,bs,dN,gQ,kY,zc⟩:=bn;obtain⟨a0,bo,bU⟩:=Ha (aL:=.val<|.bb l) I F bs dN λy a1=>by obtain rfl:=aX.rR _ _ _ a1 az;exact .val bZ (.bb (c2 _ _ _) (gQ.mono (λb o e=>(bX<|by rintro rfl;rw[bs]at e;exact bR e rfl).trans e)<|λb o e=>(bX<|by rintro rfl;rw[bs]at e;exact bR e rfl).trans e) kY zc<|B5 I aX.sys<|by rw[bs];trivial)
   exact g.use a0 bU bo e h
theorem kT.dt{o:Ċ co}{f:IF (B×B)->Prop}(h:kT o f):∃l,o=some (.od l)/\f l:=by
 induction o with
 |none=>exact h.elim
 |some x=>induction x<;>first|exact⟨_,rfl,h⟩|exact h.elim
theorem kT.at{o:Ċ co}{l:IF (B×B)}{f:IF (B×B)->Prop}(q:o=some (.od l))(h:kT o f):f l:=by rw[q]at h;exact h
theorem Vz{uQ e:ċ}{x:Str}{np bk pos:Pos}{i:Č}{mN w:dm}(a4:A.units+16<cLine)(aB:c.ns.lookup x=some i)(bg:(x==("__debug__":Str))=false)(am:(x==("__classdict__":Str))=false)(aq:iz e=false)(g:Good c A e w)(cy:Good c A uQ mN)(aX:c.Ok):ga c A (.Assign [.Subscript (.Name x np) uQ bk] e pos) λr J K=>kT r[i]? λ_=>w r J (hA mN r<|K4 i r K):=by intro O s ac C r J k K Q I F ag h;obtain⟨l,bn,ag⟩:=kT.dt ag;refine wpAny_Assign_Subscript (g.use I F ag λv db e V bL bt a0 bU bo cn=>?_)<|rK aq;obtain⟨a,es,n,bZ,bs,dN,gQ,kY,zc⟩:=(bU.bE.slots x i _ aB bn).of;refine ri (rv bU.bE.kind bZ am<|cy.use a0 bU e λpg d6 e K cq b_ ce ee bM ab=>?_) bg;obtain⟨a7,e⟩:=kT.at bn e;have eh:=(bM.kept a _ dN<|by rw[bs];trivial).2.trans bs;obtain⟨hm,es,n,jy,gB,lu,mG,zY,W6⟩:=(ee.bE.slots x i _ aB bn).of;obtain rfl:=ce.uniq hm a (gB.trans eh.symm) (by rw[gB];trivial);refine ax.dt e λdh fz e=>G8 a4 ce ⟨lu,mG,W6,zY⟩ a7 ab (bM.hg a0 cn) fz λaR t cz n' LG Uy QC YZ=>?_;obtain⟨dz,y,cR⟩:=JJ aX aB ce ee jy gB (λb o aw e=>(YZ.2 b aw).trans e) LG (λv=>.od v gB LG Uy e.1 QC) t;exact h _ _ _ e.2 _ cq _ dz ((bo.trans bM).zero.trans y) cR .go
theorem WF{prog:Program}{w:World}{O:Ĉ->Nd->Prop}{s:Nd}{a:Addr}{Vs:IF Ĉ}{n j:Č}{k:č}(aE:k=Int.ofNat j){t:Tok}{V:Ĉ}{Q:Unit->Nd->Prop}(aA:s.heap.get? a=some (cu Vs.toArray n))(b':j<Vs.length)(hsz:Vs.length<=16777216)(eP:∀aR m,aR.get? a=some (cu (Vs.set j V).toArray m)->Heap.SameBut a s.heap aR->Q () {s with heap:=aR}):wpAny (model prog w) A (setItem (.ref a) (.int k t) V) Q O s:=by
 have aU:(0:č)<=k:=by rw[aE];exact nw j
 have G:k<(2^63:č):=by rw[aE];exact iG.mpr<|show j<2^63 from gH b'<|aI hsz<|aG rfl
 have i9:=fitsIndex_of aU G;have aj:s.heap.IsList a Vs.toArray:=hW aA;unfold setItem;try with_reducible refine gY ?_
 first|refine bd (b4 ?_)|skip
 refine bd<|wI aj.typeIs (by decide) ?_;refine bd<|so (name:=Str.ofString "__setitem__") aj.typeIs slot_list_setitem<|nf slot_list_setitem aj.typeIs entry_list_setitem ?_<|args_list_setitem _ _ _;show wpAny _ _ (Builtin.List.listSubscript? (.int k t)>>=_) _ _ s;refine bd<|wpAny_listSubscript_int i9 ?_;clear i9 aU G;subst aE;have OH:j<Vs.toArray.size:=by simpa using b'
 show wpAny _ _ ((seqItemAt a j>>=λr=>pure<|r.map (j,·))>>=_) _ _ s;refine bd<|bd<|wpAny_seqItemAt aA rfl<|b4 ?_;rw[(Array.getElem?_eq_getElem OH:Vs.toArray[j]?=some Vs.toArray[j])];show wpAny _ _ (setSeqItemAt a j V>>=_) _ _ s;have Lf:Vs.toArray.setIfInBounds j V=(Vs.set j V).toArray:=by simp
 obtain⟨m,aN⟩:=Ex (Vs:=Vs) (bC:=Vs.set j V) (n:=n) (f:=(·.setIfInBounds j V)) Lf;clear Lf;have sr:(s.heap.update a<|Obj.mapSeq (·.setIfInBounds j V)).get? a=some (cu (Vs.set j V).toArray m):=by rw[tm _ aA (by rw[aN];rfl),aN]
 refine bd<|wpAny_setSeqItemAt aA rfl ?_;first
  |exact bd (b4 (b4 ⟨.none,rfl,b4 (eP _ m sr (uW ..))⟩))
  |exact b4 ⟨.none,rfl,b4 (eP _ m sr (uW ..))⟩
theorem Mo{J bG:St}{x pg v:B}(e:FG J x pg v=some bG):∃n,x=.ref n/\((∃l j,J[n]?=some (.ls l)/\dJ (pg=.int (.ofNat j)) (j<l.length) (bG=J.set n (.ls<|l.set j v)))\/∃l dh,J[n]?=some (.cP l)/\hU (ep pg l=true) (gU pg v l=some dh) (dh.length<=a3) (bG=J.set n (.cP dh))):=by
 induction x using B.casesOn with
 |ref n=>
  obtain⟨ct,bn,e⟩:=bind_some<|show(J[n]?).bind _=some bG from e;refine⟨n,rfl,?_⟩;induction ct with
  |ls l=>
   induction pg using B.casesOn with
   |int i=>induction i with
    |ofNat j=>obtain⟨b',e⟩:=g4<|show(if j<l.length then some (J.set n<|.ls<|l.set j v)else none)=some bG from e;exact .inl ⟨l,j,bn,rfl,b',(cV e).symm⟩
    |negSucc=>exact b0 e
   |_=>exact b0 e
  |cP l=>obtain⟨a7,e⟩:=g4<|show(if ep pg l=true then(gU pg v l).bind λl=>i7 l.length (J.set n<|.cP l)else none)=some bG from e;obtain⟨dh,ag,e⟩:=bind_some e;obtain⟨aq,e⟩:=vp e;exact .inr ⟨l,dh,bn,a7,ag,aq,e.symm⟩
  |ins=>exact b0 e
 |_=>exact b0 e
theorem Rt{dC ws e:ċ}{bk pos:Pos}{eU fF w:dm}(a4:A.units+16<cLine)(aq:iz e=false)(g:Good c A e w)(go:Good c A dC eU)(gI:Good c A ws fF)(aX:c.Ok):ga c A (.Assign [.Subscript dC ws bk] e pos) λr J K=>w r J (hA eU r λv=>hA fF r<|H6 r K v):=by
 intro O s ac C r J k K Q I F ag h;refine wpAny_Assign_Subscript (g.use I F ag λv db e V bL bt a0 bU bo cn=>go.use a0 bU e λx d6 e X cq b_ ce ee bM c8=>gI.use ce ee e λpg vi e ï j3 f9 fS jF fu ab=>ax.dt e λbG kZ e=>?_)<|rK aq;have IN:=(bM.trans fu).hg a0 cn;have Ju:=fu.hg ce c8;have k4:=((bo.trans bM).trans fu).zero;obtain⟨n,rfl,⟨l,j,bn,rfl,b',rfl⟩|⟨l,dh,bn,a7,ky,g',rfl⟩⟩:=Mo kZ
 .obtain⟨a,Vs,Di,rfl,dp,eh,fR,iv⟩:=p0 fS Ju bn;obtain⟨t,rfl⟩:=zM ab;clear ab;have aj:=fR.length;have Ú:l.length<=16777216:=iv;refine WF rfl eh (by lia) (by lia) λaR m new mG=>?_;obtain⟨dz,y,cR⟩:=Dy fS jF dp (λb o aw e=>(mG.2 b aw).trans e) new (.ls dp new (fR.set IN j)<|by rw[List.length_set];exact iv) f9.toks;exact h _ _ _ e _ j3 _ dz (k4.trans y) cR .go
 .obtain⟨a,es,Di,rfl,dp,D⟩:=DG fS Ju bn;refine G8 a4 fS D a7 ab IN ky λaR t cz n' jy gB lu mG=>?_;obtain⟨dz,y,cR⟩:=Dy fS jF dp (λb o aw e=>(mG.2 b aw).trans e) jy (.cP dp jy gB g' lu) t;exact h _ _ _ e _ j3 _ dz (k4.trans y) cR .go
section
variable{prog:Program}{w:World}{A:Around}{s:Nd}{K:Frag}{x ah:Addr}{R:Result->Nd->Prop}
set_option tactic.hygienic true in
theorem ZG{Ey u':Obj}{qg:Addr}{name:Str}{cI:Tok}{v:Ĉ}{es:IF DictEntry}{n:Č}{s9:IF DictEntry}{xE:Č}(D:s.heap.get? qg=some (ej s9.toArray xE))(X:K.In s.heap)(I:InstAt s.heap x Ey ah (some<|ej s9.toArray xE))(bg:Ey.dict=some qg)(ae:plainOver K ah=true)(dV:takerIn K ah name=some none)(ca:(clsIn K ah).any (·.hasDict)=true)(aj:s9.any (·.refKey)=false)(e:Obj.putName name (PyData.keyHash w.params name) (.str name s.toks) v (ej s9.toArray xE)=u')(bz:u'.data=.dict es.toArray n)(hz:es.length<=1000)(h:∀aR,aR.get? qg=some u'->Heap.SameBut qg s.heap aR->R (.ok<|.ret .none) {s with heap:=aR,toks:=s.toks+1}):codeAny (model prog w) A (.call (.builtin "object.__setattr__") ⟨[.ref x,.str name cI,v],[]⟩) R s:=by
 refine osa_open X I ae dV λb=>?_;obtain⟨ka,aq,lA⟩:=PySem.W.any_some ca;clear ca;have w3:(s.heap.update qg<|Obj.putName name (PyData.keyHash w.params name) (.str name s.toks) v).get? qg=some u':=by rw[tm _ D (by rw[e];obtain⟨_,_,el,_⟩:=u';subst bz;rfl),e]
 obtain⟨az,eQ,am,-⟩:=I;obtain⟨ê,Ü,ā,Þ⟩:=Ey;dsimp only at eQ bg;subst eQ bg;refine wpAny_bind<|wpAny_pure<|wpAny_bind<|wpAny_bind<|wpAny_loadPart az<|wpAny_bind<|(looks_clsIn X aq).here ?_;rw[lA];refine b4 (a:=some qg)<|bd<|b4<|bd ?_;unfold nsSet;refine bd<|bd<|wpAny_askSetting<|b4<|bd<|wpAny_mkText<|bd<|wpAny_loadPart D ?_;dsimp only[ej];rw[aRefKeyMayBeTheName_at,show s9.toArray.any (·.refKey)=false from Array.any_toList.symm.trans aj,t2];refine wpAny_updatePart D ?_;refine bd<|wpAny_lookBehind w3 (by rw[bz];exact pastItsLine_dict<|by rw[eI,kG];exact fY ‹_›) ?_;exact b4<|h _ w3 (uW ..)
end
theorem Lg{P:Params}{C:aY}{an:Č->Str}(inj:∀a b,an a=an b->a=b){a:Č}{v:B}{V:Ĉ}{t:Tok}(af:bA P C v V){l:IF (Č×B)}{es:IF DictEntry}(h:i4 P C an l es):i4 P C an (putAt a v l) (putL (an a) (PyData.keyHash P<|an a) (.str (an a) t) V es):=by
 induction h with
 |nil=>exact .cons af .nil
 |@cons b w cI W l es bF r ap=>
  show i4 P C an (if b=a then(b,v)::l else(b,w)::putAt a v l)<|if(Value.str (an b) cI).isStr (an a)=true then _ else _;by_cases q:b=a
  .rw[bl q,bl<|show(Value.str (an b) cI).isStr (an a)=true from fM.mpr<|bH an q];exact .cons af r
  .rw[bm q,bm<|show¬(Value.str (an b) cI).isStr (an a)=true from λe=>q<|inj _ _<|fM.mp e];exact .cons bF ap
theorem M2{P:Params}{C:aY}{an:Č->Str}{l:IF (Č×B)}{es:IF DictEntry}(h:i4 P C an l es):es.length=l.length:=by
 induction h with
 |nil=>rfl
 |cons _ _ ap=>exact bH Nat.succ ap
theorem PE{a:Č}{v:B}{l:IF (Č×B)}:(l.map Prod.fst).Nodup->((putAt a v l).map Prod.fst).Nodup/\∀x,x∈(putAt a v l).map Prod.fst->x=a\/x∈l.map Prod.fst:=by
 induction l with
 |nil=>exact λ_=>⟨hK.mpr ⟨λh=>(nomatch h),qU⟩,λx h=>.inl<|cU.mp h⟩
 |cons p l ap=>
  intro h;show((if p.1=a then(p.1,v)::l else p::putAt a v l).map Prod.fst).Nodup/\∀x,x∈(if p.1=a then(p.1,v)::l else p::putAt a v l).map Prod.fst->x=a\/x∈p.1::l.map Prod.fst;by_cases q:p.1=a
  .rw[bl q];exact⟨h,λ_ h=>.inr h⟩
  .rw[bm q];obtain⟨c3,bh⟩:=hK.mp h;clear h;obtain⟨G,E⟩:=ap bh;clear ap bh;refine⟨hK.mpr ⟨λaN=>(E _ aN).elim q c3,G⟩,λx az=>?_⟩;cases az with
   |head=>exact .inr<|.head _
   |tail _ az=>exact(E x az).imp id<|.tail _
theorem LZ{a:Č}{v:B}{l:IF (Č×B)}:(putAt a v l).length<=l.length+1:=by
 induction l with
 |nil=>exact dA _
 |cons p l ap=>
  show(if p.1=a then(p.1,v)::l else p::putAt a v l).length<=_;by_cases q:p.1=a
  .rw[bl q];exact kc _
  .rw[bm q];exact c' ap
theorem EU{P:Params}{C:aY}{an:Č->Str}{l:IF (Č×B)}{es:IF DictEntry}(h:i4 P C an l es):es.any (·.refKey)=false:=by
 induction h with
 |nil=>rfl
 |cons _ _ ap=>exact ap
theorem E'(aX:c.Ok){O:Ĉ->Nd->Prop}{s:Nd}{C:aY}{J bG:St}{o v:B}{X V:Ĉ}{a:Č}{Q:Unit->Nd->Prop}(I:c.I C J s)(d2:bA c.P C o X)(cn:bA c.P C v V)(ak:a<33)(e:nP J o a v=some bG)(h:∀ar d,¬(C d).free->¬(C d).ip->c.I C bG ar->ew C s C ar->(∀b o,b≠d->s.heap.get? b=some o->ar.heap.get? b=some o)->Q () ar):wpAny c.M A (setAttr X (c.N.an a) V) Q O s:=by
 replace e:=oO.of e;obtain⟨n,be,l,rfl,aK,e⟩:=e;obtain⟨dU,e⟩:=g4 e;cases e;obtain⟨x,d,es,k,rfl,G,E,aC,ba,cN,d7,fm⟩:=Ep I d2 aK;have iB:=aX.iB be a fm ak;unfold storeOk at iB;rw[e2,e2,e2]at iB;obtain⟨⟨⟨c3,bh⟩,cL⟩,hT⟩:=iB;have Hp:c.K.In s.heap:=λb o e=>I.l_ _ _<|aX.ab b o e;have inst:InstAt s.heap x (kB (c.N.cl be) d) (c.N.cl be) (some<|ej es.toArray k):=⟨aC,rfl,rfl,ba⟩;refine set_plain (K:=c.K) Hp inst (eF c3) ?_;have a0:=I.toks<|s.toks+1;refine ZG (K:=c.K) (qg:=d) (s9:=es) (xE:=k) (s:={s with toks:=s.toks+1}) ba Hp inst rfl bh (eF cL) hT (EU cN) (putName_dict _ _ _ _ _ _) rfl ?_ λaR jy gB=>?_
 .have qA:=M2<|Lg (a:=a) (t:=s.toks+1) aX.inj cn cN;have er:=LZ (a:=a) (v:=v) (l:=l);exact aI (fQ qA) (by lia)
 .have bY:∀b o,b≠d->s.heap.get? b=some o->aR.get? b=some o:=λb o aw e=>(gB.2 b aw).trans e;have az:aR.get? x=some (kB (c.N.cl be) d):=bY _ _ (by rintro rfl;rw[G]at E;exact bR E rfl) aC;exact h _ d (by rw[E];exact id) (by rw[E];exact id) (I.GX (.inr E) bY (by rw[jy];rfl) (.ins G E az jy (Lg (a:=a) (t:=s.toks+1) aX.inj cn cN) (PE d7).1 fm)<|s.toks+1+1) (ew.Bp (by rw[E];exact id) bY _) bY
theorem S8{dC e:ċ}{x:Str}{bk pos:Pos}{a:Č}{eU w:dm}(aX:c.Ok)(ak:a<33)(az:c.N.an a=x)(aq:iz e=false)(g:Good c A e w)(go:Good c A dC eU):ga c A (.Assign [.Attribute dC x bk] e pos) λr J K=>w r J (hA eU r<|Ej a r K):=by intro O s ac C r J k K Q I F ag h;subst az;exact plainObj_wpAny_Assign_Attribute (g.use I F ag λv db e V bL bt a0 bU bo cn=>go.use a0 bU e λo d6 e X cq b_ ce ee bM c8=>ax.dt e λvi fz e=>E' aX ce c8 (bM.hg a0 cn) ak fz λar d bZ bs fS fu bY=>h _ _ _ e _ cq ar fS ((bo.trans bM).zero.trans fu) (ee.other bZ bY) .go)<|rK aq
inductive pA (c:cc) (C:aY) (s:Shared) (a:Addr):B->Prop where
 |lst {l:List B} {Vs:List Value} {n:Nat}:s.heap.get? a=some (cu Vs.toArray n)->bD c.P C l Vs->l.length<=a3->pA c C s a (.lst l)
 |bb {l:List (B×B)} {es:List DictEntry} {n:Nat}:iM c C s a l es n->(a==sysModules)=false->pA c C s a (.bb l)
def YD(c:cc)(C:aY)(s:Nd)(Q:Ĉ->Nd->Prop)(v:B)(bG:St):Prop:=∀a aO ar,c.I aO bG ar->br C s aO ar->C a=.none->aO a=.ext->pA c aO ar a v->Q (.ref a) ar
def ql(c:cc)(A:Around)(e:ċ)(w:dm):Prop:=∀O s ac C r J k (K:B->St->Prop) (Q:Ĉ->Nd->Prop),c.I C J s->c.F C ac r s.heap k->w r J K->(∀v bG,K v bG->YD c C s Q v bG)->wpAny c.M A (eval e ac) Q O s
theorem QE{es:IF ċ}{pos:Pos}{ei:ov}(gl:k7 c A es ei)(aj:es.length<=a3):ql c A (.List es pos) λr J K=>ei r J (Eu K):=by
 intro O s ac C r J k K Q I F e h;refine wpAny_List<|gl.use I F e λvs db e Vs bL bt a0 bU bo af a6=>?_;rw[<-a6]at aj;refine⟨by rw[af.length];exact fY aj,?_⟩;have am:C bt.heap.objs.size=.none:=by
  induction q:C bt.heap.objs.size with
  |none=>rfl
  |_=>
   exfalso;obtain⟨o,aA⟩:=ha.mp (I.alloc _<|by rw[q];intro z;exact bR z rfl);have:=a0.fresh (a:=bt.heap.objs.size)<|dA _;first
    |(have z:=(bo.kept _ o aA<|by rw[q];trivial).2;rw[this,q]at z;exact bR z rfl)
    |(have z:=bo.st _ _ q;rw[this]at z;exact bR z rfl)
    |(have z:=bo.cF _ _ q;rw[this]at z;exact bR z rfl)
 have bM:=br.push a0 (cu Vs.toArray 0) .ext;exact h _ _ e _ _ _ (a0.push (cu Vs.toArray 0) rfl .ext<|.inr rfl) (bo.trans bM) am (c2 _ _ _)<|.lst (gZ _ rfl) (bM.iN a0 af) aj
theorem JB{pos:Pos}(aX:c.Ok):ql c A (.Dict [] [] pos) λ_ J K=>K (.bb []) J:=by intro O s ac C r J k K Q I F e h;have am:=I.fresh (a:=s.heap.objs.size)<|dA _;refine wpAny_Dict_empty<|h _ _ e _ _ _ (I.push (ej #[] 0) rfl .ext<|.inr rfl) (br.push I (ej #[] 0) .ext) am (c2 _ _ _)<|.bb (es:=[]) ⟨gZ _ rfl,.nil,qU,f_ _⟩ ?_;rw[lI];intro q;obtain⟨o,aA⟩:=aX.sys;have:=I.base _ o aA;rw[<-q,am]at this;exact bR this rfl
def hZ (C:aY) (a:Addr) (i:Č):aY:=λb=>if b=a then .own i else match C b with
 |.own j=>if j=i then .ext else .own j
 |r=>r
theorem se(C:aY)(a:Addr)(i:Č):hZ C a i a=.own i:=bl rfl
theorem mj{C:aY}{a b:Addr}{i:Č}{r:eu}(aw:b≠a)(e:C b=r)(bn:∀j,r=.own j->j≠i):hZ C a i b=r:=by
 unfold hZ;rw[bm aw,e];induction r with
 |own j=>simp only[bm<|bn j rfl]
 |_=>rfl
theorem rr{C:aY}{a b:Addr}{i:Č}{r:eu}(aw:b≠a)(e:hZ C a i b=r)(bn:r≠.ext):C b=r:=by
 unfold hZ at e;rw[bm aw]at e;induction h:C b using eu.casesOn with
 |own j=>
  rw[h]at e;simp only at e;split at e
  .exact absurd e.symm bn
  .exact e
 |_=>rw[h]at e;exact e
section
variable{P:Params}{N:g3}{H:Heap}{os:OsState}{C:aY}{J:St}{s:Nd}
theorem Inv.hZ(I:Inv P N H os C J s){a:Addr}{i:Č}(ak:C a=.ext):Inv P N H os (hZ C a i) J s:=by
 have keep:∀{b:Addr} {r:eu},C b=r->r≠.ext->(∀j,r≠.own j)->Internal.hZ C a i b=r:=λe G E=>mj ((λe h q=>h<|e.symm.trans<|q▸ak) e G) e λj q=>absurd q<|E j;refine⟨λb h=>?_,λb eA e h=>?_,λb o e=>?_,λn ct e=>(I.store n ct e).mono (λb o e=>keep e (λq=>(nomatch q)) λj q=>(nomatch q)) (λb m e=>keep e (λq=>(nomatch q)) λj q=>(nomatch q)) (λb m e=>keep e (λq=>(nomatch q)) λj q=>(nomatch q)) λb o _ e=>e,λb o e=>keep (I.base b o e) (λq=>(nomatch q)) λj q=>(nomatch q),I.gens,I.hL,λb n e=>?_⟩
 .by_cases q:b=a
  .subst q;exact I.alloc b (by rw[ak];intro z;exact bR z rfl)
  .refine I.alloc b λz=>h ?_;rw[mj q z λj w=>(nomatch w)]
 .by_cases e_:b=a
  .by_cases oe:eA=a
   .rw[e_,oe]
   .rw[e_,se]at e;have:=rr oe e.symm<|λz=>(nomatch z);have E:=mj (i:=i) (a:=a) oe this;exfalso;unfold Internal.hZ at e;rw[bm oe,this]at e;simp at e
  .by_cases oe:eA=a
   .rw[oe,se]at e;have:=rr e_ e<|λz=>(nomatch z);exfalso;unfold Internal.hZ at e;rw[bm e_,this]at e;simp at e
   .have e8:Internal.hZ C a i b≠.ext:=λz=>by rw[z]at h;exact h
    have ag:=rr e_ rfl e8;exact I.uniq b eA (ag.trans (rr oe e.symm e8).symm) (by rw[ag];exact h)
 .by_cases q:b=a
  .subst q;rw[se]at e;exact bR e rfl
  .exact I.a5 b o<|rr q e<|λz=>(nomatch z)
 .by_cases q:b=a
  .subst q;rw[se]at e;rcases e with e|e<;>exact bR e rfl
  .rcases e with e|e
   .exact I.gx b n<|.inl<|rr q e<|λz=>(nomatch z)
   .exact I.gx b n<|.inr<|rr q e<|λz=>(nomatch z)
end
theorem HF{C:aY}{s:Nd}{a:Addr}{i:Č}(dr:aY)(eS:Nd)(x:ew dr eS C s)(am:dr a=.none)(ak:C a=.ext):ew dr eS (hZ C a i) s:=by
 refine⟨λb o e ca=>?_,(λb n e=>mj (by rintro rfl;rw[am]at e;exact bR e rfl) (x.st b n e) λj q=>(nomatch q):∀b n,dr b=.st n->hZ C a i b=.st n),(λb n e=>mj (by rintro rfl;rw[am]at e;exact bR e rfl) (x.cF b n e) λj q=>(nomatch q):∀b n,dr b=.cF n->hZ C a i b=.cF n)⟩;obtain⟨ag,a8⟩:=x.ip b o e ca;have aw:b≠a:=by rintro rfl;rw[am]at ca;exact ca
 refine⟨ag,?_⟩;rw[mj aw a8 λj q=>?_];rw[q]at ca;exact ca.elim
def HB:B->Ċ co
 |.lst l=>some<|.ol l
 |.bb l=>some<|.od l
 |_=>none
theorem EP{C:aY}{ac:Env}{s ar:Nd}{x:Str}{r:aJ}{k i:Č}{a:Addr}{v:B}{aL:co}{J:St}(aX:c.Ok)(I:c.I C J s)(aT:Bound c C ac s x (.ref a) ar)(F:c.F C ac r s.heap k)(aB:c.ns.lookup x=some i)(ak:C a=.ext)(af:pA c C s a v)(aK:HB v=some aL):c.F (hZ C a i) ac (r.set i aL) ar.heap k:=by
 have d9:∀b o,C b=.a5 o->hZ C a i b=.a5 o:=λb o e=>mj (by rintro rfl;rw[ak]at e;exact bR e rfl) e λj q=>(nomatch q);have eY:∀b n,C b=.st n->hZ C a i b=.st n:=λb n e=>mj (by rintro rfl;rw[ak]at e;exact bR e rfl) e λj q=>(nomatch q);have ev:∀o,s.heap.get? a=some o->ar.heap.get? a=some o:=λo e=>aT.keep a o (λk q=>by rw[ak]at q;exact bR q rfl) (λy q=>by rw[ak]at q;exact bR q rfl) e;refine⟨⟨F.bE.kind,F.bE.glob,F.bE.lp,mj (by intro q;have:=F.bE.loc;rw[q,ak]at this;exact bR this rfl) F.bE.loc λj q=>(nomatch q),aT.ns,λy a1=>?_,λy j rA G E=>?_⟩,F.gl,F.st,F.cl⟩
 .obtain⟨be,w,bZ,bs,dN⟩:=aT.cells y a1;exact⟨be,w,bZ,mj (by rintro rfl;rw[ak]at bs;exact bR bs rfl) bs λj q=>(nomatch q),dN⟩
 .by_cases q:j=i
  .subst q;obtain rfl:=aX.rR _ _ _ G aB;rw[qX]at E;simp only[rG]at E;split at E
   .cases E;induction af with
    |lst c3 bh cL=>cases aK;exact .ol aT.new (se _ _ _) (ev _ c3) (bh.mono d9 eY) cL
    |bb D g=>cases aK;exact .od aT.new (se _ _ _) (ev _ D.at_) (D.rel.mono d9 eY) D.a3 D.nodup
   .exact b0 E
  .have a1:y≠x:=by rintro rfl;rw[aB]at G;exact q (cV G).symm
   rw[nn<|io q]at E;have w6:∀{b:Addr} {o:Obj},C b=.own j->s.heap.get? b=some o->ar.heap.get? b=some o:=λb e=>aT.keep _ _ (λk q=>by rw[b]at q;exact bR q rfl) (λz q=>by rw[b]at q;exact bR q rfl) e;have JG:∀{b:Addr},C b=.own j->hZ C a i b=.own j:=λe=>mj (by rintro rfl;rw[ak]at e;exact bR e rfl) e λv' z=>by cases z;exact q
   induction F.bE.slots y j rA G E with
   |un=>exact .un
   |val p b=>exact .val (aT.old y _ a1 p)<|b.mono d9 eY
   |ol p b d e f=>exact .ol (aT.old y _ a1 p) (JG b) (w6 b d) (e.mono d9 eY) f
   |od p b d e f g=>exact .od (aT.old y _ a1 p) (JG b) (w6 b d) (e.mono d9 eY) f g
theorem Lb{e:ċ}{x:Str}{eL pos:Pos}{i:Č}{w:dm}{O:Ĉ->Nd->Prop}{s:Nd}{ac:Env}{C:aY}{r:aJ}{J:St}{k:Č}{K:cj->aJ->St->Prop}{Q:Flow->Nd->Prop}(aX:c.Ok)(aw:swapsWith e (some<|.Name x eL) pos.line ac=pure false)(aB:c.ns.lookup x=some i)(az:c.b6 x=true)(g:ql c A e w)(I:c.I C J s)(F:c.F C ac r s.heap k)(ag:w r J (uU i r K))(h:∀cM b2 bG,K cM b2 bG->zf c C s ac k Q cM b2 bG):wpAny c.M A (exec (.Assign [.Name x eL] e pos) ac) Q O s:=by
 refine wpAny_Assign_Name (g O s ac C r J k _ _ I F ag λv db e a bL bt a0 bo am ak af=>C7 a0 (F.ext I bo) az λar aT=>?_) aw;have key:∀aL,HB v=some aL->K .go (r.set i aL) db->Q .next ar:=λaL aK e=>h _ _ _ e _ _ ar ((aT.I a0).hZ ak) (HF C s (bo.zero.trans aT.ext) am ak) (EP aX a0 aT (F.ext I bo) aB ak af aK) .go
 induction v using B.casesOn with
 |lst l=>exact key _ rfl e
 |bb l=>exact key _ rfl e
 |_=>exact False.elim e
theorem LY{e:ċ}{x:Str}{eL pos:Pos}{i:Č}{w:dm}(aX:c.Ok)(aq:iz e=false)(aB:c.ns.lookup x=some i)(az:c.b6 x=true)(g:ql c A e w):ga c A (.Assign [.Name x eL] e pos) λr J K=>w r J (uU i r K):=λO s ac C r J k K Q I F ag h=>Lb aX (rK aq) aB az g I F ag h
section
variable{P:Params}{N:g3}{H:Heap}{os:OsState}{C:aY}{J:St}{s:Nd}
theorem Inv.Bd(I:Inv P N H os C J s){a:Addr}(ak:C a=.ext){ct:c5}(aK:∀aO,aO a=.st J.length->(∀b o,C b=.a5 o->aO b=.a5 o)->(∀b n,C b=.st n->aO b=.st n)->lf P N aO s.heap J.length ct):Inv P N H os (cC C a<|.st J.length) (J++[ct]) s:=by
 have ne:∀{b:Addr} {r:eu},C b=r->r≠.ext->b≠a:=λe h q=>h<|e.symm.trans<|q▸ak;have G:∀b o,C b=.a5 o->cC C a (.st J.length) b=.a5 o:=λb o e=>(bX<|ne e<|λq=>(nomatch q)).trans e;have E:∀b n,C b=.st n->cC C a (.st J.length) b=.st n:=λb o e=>(bX<|ne e<|λq=>(nomatch q)).trans e;refine⟨λb h=>?_,λb eA e h=>?_,λb o e=>?_,λn Ew e=>?_,λb o e=>G _ _<|I.base b o e,I.gens,I.hL,λb n e=>?_⟩
 .by_cases q:b=a
  .subst q;exact I.alloc b (by rw[ak];intro z;exact bR z rfl)
  .rw[bX q]at h;exact I.alloc b h
 .by_cases f':b=a
  .by_cases e_:eA=a
   .rw[f',e_]
   .rw[f',c2,bX e_]at e;exact absurd (I.gx eA J.length<|.inl e.symm)<|m7 _
  .rw[bX f']at e h;by_cases e_:eA=a
   .rw[e_,c2]at e;exact absurd (I.gx b J.length<|.inl e)<|m7 _
   .rw[bX e_]at e;exact I.uniq b eA e h
 .by_cases q:b=a
  .subst q;rw[c2]at e;exact bR e rfl
  .rw[bX q]at e;exact I.a5 b o e
 .by_cases q:n<J.length
  .rw[px q]at e;exact(I.store n Ew e).mono G E (λb o e=>(bX<|ne e<|λq=>(nomatch q)).trans e:∀b n,C b=.cF n->cC C a (.st J.length) b=.cF n) λb o _ e=>e
  .have am:n=J.length:=by have:=(g0.mp e).1;rw[da,oY]at this;lia
   subst am;rw[o7<|dA _,we]at e;cases e;exact aK _ (c2 _ _ _) G E
 .rw[da,oY];by_cases q:b=a
  .subst q;rw[c2]at e;rcases e with e|e<;>(first|exact bR e rfl|cases e)
   exact pF _
  .rw[bX q]at e;exact m6<|I.gx b n e
end
def E8:B->Ċ c5
 |.lst l=>some<|.ls l
 |.bb l=>some<|.cP l
 |_=>none
theorem pA.Bd{C:aY}{J:St}{s:Nd}{a:Addr}{v:B}{ct:c5}(I:c.I C J s)(ak:C a=.ext)(af:pA c C s a v)(aK:E8 v=some ct):c.I (cC C a<|.st J.length) (J++[ct]) s:=by
 refine Inv.Bd I ak λaO G E aC=>?_;induction af with
 |lst c3 bh cL=>cases aK;exact .ls G c3 (bh.mono E aC) cL
 |bb D g=>cases aK;exact .cP G D.at_ (D.rel.mono E aC) D.a3 D.nodup
theorem YT{J bG:St}{v:B}(e:H1 J v=some bG):∃ct,E8 v=some ct/\bG=J++[ct]:=by
 induction v using B.casesOn with
 |lst l=>cases e;exact⟨_,rfl,rfl⟩
 |bb l=>cases e;exact⟨_,rfl,rfl⟩
 |_=>exact b0 e
theorem Tc{dC e:ċ}{x:Str}{bk pos:Pos}{a:Č}{eU w:dm}(aX:c.Ok)(ak:a<33)(az:c.N.an a=x)(aq:iz e=false)(g:ql c A e w)(go:Good c A dC eU):ga c A (.Assign [.Attribute dC x bk] e pos) λr J K=>w r J (Ly eU a r K):=by intro O s ac C r J k K Q I F ag h;subst az;refine plainObj_wpAny_Assign_Attribute (g O s ac C r J k _ _ I F ag λv db e ad bL bt a0 bo am IV af=>ax.dt e λà c7 e=>?_)<|rK aq;obtain⟨ct,Y7,rfl⟩:=YT c7;have bM:br C s (cC bL ad<|.st db.length) bt:=bo.turn (by rw[am];exact id) IV;exact go.use (af.Bd a0 IV Y7) (F.ext I bM) e λo d6 e X j3 f9 fS jF fu c8=>ax.dt e λvi ky e=>E' aX fS c8 (.ref<|fu.st _ _<|c2 _ _ _) ak ky λar d bZ bs hy k4 bY=>h _ _ _ e _ j3 ar hy ((bM.trans fu).zero.trans k4) (jF.other bZ bY) .go
def zC (e:ċ):ĉ:=Nat.beq e.ctorIdx 25
theorem BY{value:ċ}{r6:IF ċ}{cK:Č}{bk:Pos}{n:Č}{ac:Env}:swapsWithSole [.Tuple r6 cK bk] value n ac=pure false:=by induction value using PySem.Expr.casesOn<;>exact @rfl _<|pure false
theorem Np{value:ċ}{r6:IF ċ}{cK:Č}{bk:Pos}{ac:Env}(h:zC value=false):swappedStores [.Tuple r6 cK bk] value ac=pure none:=by exact rF (b:=zC value) (by induction value using PySem.Expr.casesOn<;>first|exact @rfl _ (pure none)|trivial) h
theorem Mk{av:Type}{iF oh oK Eb Cb:ĉ}{N U R aa:av}(aC:oK=false->R=aa)(ba:Eb=false)(cN:Cb=false):(if iF=true then N else if oh=true then N else if oK=true then N else if Eb=true then N else if Cb=true then U else R)=N\/(if iF=true then N else if oh=true then N else if oK=true then N else if Eb=true then N else if Cb=true then U else R)=aa:=by
 subst ba;subst cN;induction iF with
 |true=>exact .inl rfl
 |false=>induction oh with
  |true=>exact .inl rfl
  |false=>induction oK with
   |true=>exact .inl rfl
   |false=>exact .inr<|aC rfl
def wB (x y:Str) (ll jV:ĉ):IF Str:=match(if ll=true then some x else none)with
 |none=>(match(if jV=true then some y else none)with|none=>[]|some b=>[b])
 |some a=>a::(match(if jV=true then some y else none)with|none=>[]|some b=>[b])
theorem SU{x y:Str}{f:Ċ (IF Str)->Sem (Option<|IF Str)}:∀ll jV,((wB x y ll jV).length !=2||(wB x y ll jV).eraseDups.length !=(wB x y ll jV).length)=false->f (some<|wB x y ll jV)=f (some [x,y])
 |true,true,_=>rfl
 |true,false,h=>ig h
 |false,true,h=>ig h
 |false,false,h=>ig h
theorem Nw{x y:Str}{eL ob bk pX:Pos}{cI pG:Č}{a b:ċ}{ac:Env}(a7:ac.scope.kind=.function)(ak:fH a=false)(aw:fH b=false)(A9:(x==y)=false)(G:(foldedForSure 8 a&&foldedForSure 8 b)=false)(E:(constantsAlone 8 a&&constantsAlone 8 b)=false):swappedStores [.Tuple [.Name x eL,.Name y ob] cI bk] (.Tuple [a,b] pG pX) ac=pure none\/swappedStores [.Tuple [.Name x eL,.Name y ob] cI bk] (.Tuple [a,b] pG pX) ac=pure (some [x,y]):=by
 unfold swappedStores;refine Mk (aa:=pure<|some [x,y]) (λh=>?_) ?_ ?_
 .have e:∀(g:ċ->Ċ Str) ll jV,g (.Name x eL)=(if ll=true then some x else none)->g (.Name y ob)=(if jV=true then some y else none)->[Expr.Name x eL,.Name y ob].filterMap g=wB x y ll jV:=λg ll jV bZ bs=>by rw[BZ,bZ,BZ,bs,List.filterMap_nil];induction ll<;>induction jV<;>rfl
  rw[e _ (ac.kindOf x==some .local&&eL.line==eL.line) (ac.kindOf y==some .local&&ob.line==eL.line) rfl rfl]at h⊢;exact SU (f:=pure) _ _ h
 .show(foldedForSure 8 a&&(foldedForSure 8 b&&true))=false;rw[Bool.and_true];exact G
 .show(constantsAlone 8 a&&(constantsAlone 8 b&&true))=false;rw[Bool.and_true];exact E
theorem Y1{e:ċ}{r6:IF ċ}{cK:Č}{bk pos:Pos}{l:IF Č}{w:dm}(aX:c.Ok)(ca:A.handled=none)(t:mu c true (.Tuple r6 cK bk) l)(aq:zC e=false)(g:Good c A e w):ga c A (.Assign [.Tuple r6 cK bk] e pos) λr J K=>w r J (AP l r K):=by intro O s ac C r J k K Q I F ag h;exact Assign_Tuple (g.use I F ag λv db e V bL bt a0 bU bo cn=>ax.dt e λr7 c7 e=>zl aX ca t a0 bU cn c7 λb_ ce oo ee=>h _ _ _ e _ bL b_ ce (bo.zero.trans oo.ext) ee .go) BY<|Np aq
def qC (e:ċ):ĉ:=Nat.beq e.ctorIdx 7
theorem zi{e:ċ}{de:Env}(h:qC e=false)(x:Ĉ):foldedSetIterable e de x=pure x:=rF (b:=qC e) (by induction e using PySem.Expr.casesOn<;>first|exact @rfl _ (pure x)|trivial) h
theorem Gw{O:Ĉ->Nd->Prop}{target:ċ}{I:Addr}{v:Ĉ}{Q:Unit->Nd->Prop}{s:Nd}(aA:dI λo n vs=>hU (s.heap.get? I=some o) (o.cls=.type n) (o.data=.fields vs)<|xt n=true)(h:Q () s):wpAny c.M A (letOwnedTupleGo target (.ref I) v) Q O s:=by
 obtain⟨o,n,vs,aA,aq,bg,ae⟩:=aA;have hI:(["enumerate","zip","dict_itemiterator","dict_reverseitemiterator","odict_iterator","itertools.zip_longest","itertools.pairwise"].contains n)=false:=by unfold xt at ae;simpa using ae
 unfold letOwnedTupleGo;induction target using PySem.Expr.casesOn<;>first
  |exact b4 h
  |(induction v<;>first
   |exact b4 h
   |(refine bd (wpAny_load aA ?_);rw[aq,bg];simp only[hI,Bool.false_and];exact b4 h))
theorem PG{P:Params}{C:aY}{x:B}{X:Ĉ}{bP:IF B}(h:bA P C x X)(e:items x=some bP):∀b,X=.ref b->∃o,C b=.a5 o:=have lJ:∀{a b o},C a=.a5 o->Value.ref a=.ref b->∃o,C b=.a5 o:=λh e=>⟨_,Value.ref.inj e▸h⟩;bA.casesOn (motive_1:=λx X _=>items x=some bP->∀b,X=.ref b->∃o,C b=.a5 o) h (λe=>b0 e) (λ_ e=>b0 e) (λ_ _ e=>b0 e) (λ_ _ _ _ b aw=>HH aw rfl) (λh _ _ _ b aw=>lJ h aw) (λh _ _ _ b aw=>lJ h aw) (λh _ _ _ _ _ b aw=>lJ h aw) (λ_ e=>b0 e) (λh _ _ _ _ b aw=>lJ h aw) e
theorem cc.F.yl{C:aY}{ac:Env}{r:aJ}{h aR:Heap}{k:Č}(F:c.F C ac r h k){d:Addr}(bg:C d=.ext)(bY:∀b o,b≠d->h.get? b=some o->aR.get? b=some o):c.F C ac r aR k:=by
 have ne:∀{a:Addr} {q:eu},C a=q->q≠.ext->a≠d:=λe h q=>h<|e.symm.trans<|q▸bg;have i_:∀y V,gM ac h y V->gM ac aR y V:=λy V af=>by
  rcases af with⟨a,m,aN,e⟩|⟨a,be,aq,o,aA,lA⟩
  .exact .inl ⟨a,m,aN.at λo e=>bY _ _ (ne F.bE.loc<|λz=>(nomatch z)) e,e⟩
  .obtain⟨iL,nW,dp,eh,fR⟩:=F.bE.cells y a;rw[aq]at dp;cases dp;exact .inr ⟨a,be,aq,o,bY _ _ (ne eh<|λz=>(nomatch z)) aA,lA⟩
 refine⟨⟨F.bE.kind,F.bE.glob,F.bE.lp,F.bE.loc,?_,λy a1=>?_,λy j aL G E=>?_⟩,F.gl,F.st,F.cl⟩
 .obtain⟨m,aN⟩:=F.bE.mf;exact⟨m,aN.at λo e=>bY _ _ (ne F.bE.loc<|λz=>(nomatch z)) e⟩
 .obtain⟨be,v,bZ,bs,o,aA,lA⟩:=F.bE.cells y a1;exact⟨be,v,bZ,bs,o,bY _ _ (ne bs<|λz=>(nomatch z)) aA,lA⟩
 .induction F.bE.slots y j aL G E with
  |un=>exact .un
  |val a b=>exact .val (i_ _ _ a) b
  |ol a b d e f=>exact .ol (i_ _ _ a) b (bY _ _ (ne b<|λz=>(nomatch z)) d) e f
  |od a b d e f g=>exact .od (i_ _ _ a) b (bY _ _ (ne b<|λz=>(nomatch z)) d) e f g
theorem u_{C:aY}{J:St}{s:Nd}{ac:Env}{r:aJ}{k:Č}(I:c.I C J s)(F:c.F C ac r s.heap k){d:Addr}(bg:C d=.ext){aR:Heap}(bY:∀b o,b≠d->s.heap.get? b=some o->aR.get? b=some o)(t:Č):c.I (cC C d .none) J {s with heap:=aR,toks:=t}/\c.F (cC C d .none) ac r aR k:=by
 have ne:∀{a:Addr} {q:eu},C a=q->q≠.ext->a≠d:=λe h q=>h<|e.symm.trans<|q▸bg;have d9:∀b cB,C b=.a5 cB->cC C d .none b=.a5 cB:=λb cB e=>(bX<|ne e<|λz=>(nomatch z)).trans e;have eY:∀b n,C b=.st n->cC C d .none b=.st n:=λb cB e=>(bX<|ne e<|λz=>(nomatch z)).trans e;have g5:=F.yl bg bY;constructor
 .refine⟨λa h=>?_,λa b e h=>?_,λa o e=>?_,λn ct e=>(I.store n ct e).mono d9 eY (λb cB e=>(bX<|ne e<|λz=>(nomatch z)).trans e:∀b n,C b=.cF n->cC C d .none b=.cF n) λa o q e=>bY a o (by rcases q with q|q<;>exact ne q (λz=>(nomatch z))) e,λa o e=>d9 _ _<|I.base a o e,I.gens,I.hL,λa n e=>?_⟩
  .by_cases q:a=d
   .subst q;rw[c2]at h;exact absurd rfl h
   .rw[bX q]at h;obtain⟨o,aA⟩:=ha.mp<|I.alloc a h;rw[show({s with heap:=aR,toks:=t}:Nd).heap.get? a=some o from bY a o q aA];rfl
  .by_cases f':a=d
   .subst f';rw[c2]at h;exact h.elim
   .rw[bX f']at e h;by_cases e_:b=d
    .subst e_;rw[c2]at e;rw[e]at h;exact h.elim
    .rw[bX e_]at e;exact I.uniq a b e h
  .by_cases q:a=d
   .subst q;rw[c2]at e;exact bR e rfl
   .rw[bX q]at e;exact bY a o q<|I.a5 a o e
  .by_cases q:a=d
   .subst q;rw[c2]at e;rcases e with e|e<;>exact bR e rfl
   .rw[bX q]at e;exact I.gx a n e
 .refine⟨⟨g5.bE.kind,g5.bE.glob,g5.bE.lp,(bX<|ne g5.bE.loc<|λz=>(nomatch z)).trans g5.bE.loc,g5.bE.mf,λy a1=>?_,λy j aL G E=>?_⟩,F.gl,F.st,F.cl⟩
  .obtain⟨be,v,bZ,bs,dN⟩:=g5.bE.cells y a1;exact⟨be,v,bZ,(bX<|ne bs<|λz=>(nomatch z)).trans bs,dN⟩
  .induction g5.bE.slots y j aL G E with
   |un=>exact .un
   |val x y=>exact .val x<|y.mono d9 eY
   |ol x b d e f=>exact .ol x ((bX<|ne b<|λz=>(nomatch z)).trans b) d (e.mono d9 eY) f
   |od x b d e f g=>exact .od x ((bX<|ne b<|λz=>(nomatch z)).trans b) d (e.mono d9 eY) f g
theorem ew.drop{dr C:aY}{eS s:Nd}(x:ew dr eS C s){d:Addr}(am:dr d=.none)(bg:C d=.ext){aR:Heap}(bY:∀b o,b≠d->s.heap.get? b=some o->aR.get? b=some o)(t:Č):ew dr eS (cC C d .none) {s with heap:=aR,toks:=t}:=⟨λa o e ev=>have e8:a≠d:=λq=>(by rw[q,am]at ev;exact ev);let⟨ag,a8⟩:=x.ip a o e ev;⟨bY a o e8 ag,(bX e8).trans a8⟩,λa n e=>(bX<|λq=>by rw[q,am]at e;exact bR e rfl).trans<|x.st a n e,λa n e=>(bX<|λq=>by rw[q,am]at e;exact bR e rfl).trans<|x.cF a n e⟩
theorem Mx{w:n_}{bk:ĉ}{aS:IF Č}{K:cj->aJ->St->Prop}{bP:IF B}{i:Č}{v:B}{r:aJ}{J:St}(h:bP[i]?=some v)(e:nJ w bk aS K (bP.drop i) r J):ax (iO bk aS v r) λr=>w r J (nb (nJ w bk aS K<|bP.drop<|i+1) K):=by have aB:=(g0.mp h).1;rw[xz aB]at e;rw[fq aB]at h;rw[<-cV h];exact e
inductive Fb (c:cc) (St:Nat->Heap->Prop) (cG:Addr) (ac:Env) (k:Nat) (bL:aY) (bt:Shared) (bP:List B) (dz:List B->aJ->Internal.St->Prop) (n:Nat) (ar:Shared):Prop
 |mk (i:Nat) (aO:aY) (r7:aJ) (d6:Internal.St) (am:n=bP.length-i) (aB:i<=bP.length) (st:St i ar.heap) (I:c.I aO d6 ar) (x:ew bL bt aO ar) (fU:aO cG=.ext) (F:c.F aO ac r7 ar.heap k) (e:dz (bP.drop i) r7 d6):Fb c St cG ac k bL bt bP dz n ar
theorem Wj{bk:ĉ}{target iter:ċ}{aS:IF Č}{body:IF Stmt}{pos:Pos}{fF:dm}{kw:n_}(aX:c.Ok)(ca:A.handled=none)(t:mu c bk target aS)(aK:qC iter=false)(gI:Good c A iter fF)(lv:mS c A body kw):ga c A (.For target iter body [] pos) λr J K=>fF r J (kFor kw bk aS r K):=by
 intro O s ac C r J k K Q I F ag h;refine wpAny_For (gI.use I F ag λx db e X bL bt a0 bU bo c8=>ax.dt e λbP c7 e=>xX aX.sys a0 (.val c8) c7 λo f8 P St T a7 st=>?_)<|zi aK;have ce:=a0.push o a7 .ext<|.inr rfl;have bM:=br.push a0 o .ext;have ee:=bU.ext a0 bM;have Cy:cC bL bt.heap.objs.size .ext bt.heap.objs.size=.ext:=c2 _ _ _;have rQ:bL bt.heap.objs.size=.none:=a0.fresh<|dA _;obtain⟨cG,Nn⟩:∃cG,cG=bt.heap.objs.size:=⟨_,rfl⟩;rw[<-Nn]at ce bM ee Cy rQ T⊢;obtain⟨cq,Z7⟩:∃cq,cq=cC bL cG .ext:=⟨_,rfl⟩;rw[<-Z7]at ce bM ee Cy;obtain⟨b_,AR⟩:∃b_:Nd,b_={bt with heap:=bt.heap.push o}:=⟨_,rfl⟩;rw[<-AR]at ce bM⊢;have ee:c.F cq ac r b_.heap k:=by rw[AR];exact ee
 have ZC:St 0 b_.heap:=by rw[AR];exact st
 refine codeAny_forLoop_any (A:=A) (Fb c St cG ac k bL bt bP<|nJ kw bk aS K) ?_ bP.length ⟨0,cq,r,db,rfl,f_ _,ZC,ce,bM.zero,Cy,ee,e.of⟩;rintro n ar⟨i,aO,r7,d6,rfl,aB,iB,dk,eJ,fU,g5,bz⟩;by_cases cT:i<bP.length
 .refine(T.W A ca).item i ar _ _ cT iB λv aR cI ae tT aE=>?_;obtain⟨aW,xA,cn⟩:=T.vals i v cT ae;have bY:∀b hB,b≠cG->ar.heap.get? b=some hB->aR.get? b=some hB:=λb hB aw e=>aE b hB (by simpa using aw) e;have Cg:(aR.get? cG).isSome=true:=by obtain⟨cB,_,_,hr,-⟩:=T.pe _ _ tT;rw[hr];rfl
  refine ax.dt (Mx xA bz) λko ky N'=>Gw (T.pe _ _ tT) ?_;refine zl aX ca t (dk.upd (d:=cG) (by rw[fU];trivial) bY Cg cI) (g5.yl fU bY) (eJ.hg a0 cn) ky λiy hy rI ny=>?_;refine lv _ iy ac aO ko d6 k _ _ hy ny N' λjO VE Wg kZ f r2 rS lm hs vF md=>?_;obtain⟨zD,BC⟩:=(ha.mp (hy.alloc cG<|by rw[fU];intro z;exact bR z rfl):∃zD,iy.heap.get? cG=some zD);have Hn:=((eJ.upd (d:=cG) (by rw[rQ];exact id) bY cI).trans rI.ext).trans hs;induction md with
  |ret af=>exact h _ _ _ kZ _ r2 rS lm (bo.zero.trans Hn) vF<|.ret af
  |go=>
   refine⟨bP.length-(i+1),AL _ _ cT,i+1,r2,VE,Wg,rfl,cT,?_,lm,Hn,((hs.ip cG zD BC<|by rw[fU];trivial).2.trans fU:r2 cG=.ext),vF,kZ⟩;refine(T.W A ca).frame _ _ _ tT λb aw hB eb=>?_;have a_:(∀k,aO b≠.loc k)/\(∀y,aO b≠.kS y)/\(aO b).ip:=by
    rcases T.Dw b aw with rfl|aw
    .rw[fU];exact⟨λ_ z=>(nomatch z),λ_ z=>(nomatch z),trivial⟩
    .obtain⟨cB,hr⟩:=(PG c8 c7) b aw;rw[eJ.ot a0 _ _ hr];exact⟨λ_ z=>(nomatch z),λ_ z=>(nomatch z),trivial⟩
   exact(hs.ip b hB (rI.tg b hB a_.1 a_.2.1 eb) a_.2.2).1
 .have iE:i=bP.length:=vw aB<|rH cT;subst iE;rw[List.drop_length]at bz;refine(T.W A ca).done ar _ _ iB λaR cI aE=>wpAny_execs_nil ?_;have bY:∀b hB,b≠cG->ar.heap.get? b=some hB->aR.get? b=some hB:=λb hB aw e=>aE b hB (by simpa using aw) e;obtain⟨fS,jF⟩:=u_ dk g5 fU bY cI;exact h _ _ _ bz _ _ _ fS (bo.zero.trans<|eJ.drop (d:=cG) rQ fU bY cI) jF .go
theorem Zv{i j:Č}{v:B}{r b2:aJ}(e:iO true [i,j] v r=some b2):dX λa b=>v=.tup [a,b]/\b2=(r.set i<|.val a).set j (.val b):=by
 induction v using B.casesOn with
 |tup l=>
  obtain⟨aj,e⟩:=g4<|show(if l.length=2 then some _ else none)=some b2 from e;induction l using List.casesOn with
  |nil=>cases aj
  |cons a l=>induction l using List.casesOn with
   |nil=>cases aj
   |cons b l=>induction l using List.casesOn with
    |nil=>exact⟨a,b,rfl,(cV e).symm⟩
    |cons=>cases aj
 |_=>exact b0 e
theorem N6{a b:ċ}{x y:Str}{eL ob bk pX pos:Pos}{cI pG:Č}{i j:Č}{w:dm}(aX:c.Ok)(ca:A.handled=none)(aB:c.ns.lookup x=some i)(b':c.ns.lookup y=some j)(az:c.b6 x=true)(a1:c.b6 y=true)(ak:fH a=false)(aw:fH b=false)(A9:(x==y)=false)(G:(foldedForSure 8 a&&foldedForSure 8 b)=false)(E:(constantsAlone 8 a&&constantsAlone 8 b)=false)(g:Good c A (.Tuple [a,b] pG pX) w):ga c A (.Assign [.Tuple [.Name x eL,.Name y ob] cI bk] (.Tuple [a,b] pG pX) pos) λr J K=>w r J (AP [i,j] r K):=by
 intro O s ac C r J k K Q I F ag h;rcases Nw (eL:=eL) (ob:=ob) (bk:=bk) (pX:=pX) (cI:=cI) (pG:=pG) F.bE.kind ak aw A9 G E with bF|bF
 .exact Assign_Tuple (g.use I F ag λv db e V bL bt a0 bU bo cn=>ax.dt e λr7 c7 e=>zl aX ca (.tup<|.cons aB az<|.cons b' a1 .nil) a0 bU cn c7 λb_ ce oo ee=>h _ _ _ e _ bL b_ ce (bo.zero.trans oo.ext) ee .go) BY bF
 .refine Assign_Tuple_swapped (g.use I F ag λv db e V bL bt a0 bU bo cn=>ax.dt e λr7 c7 e=>?_) BY bF;obtain⟨u,v,rfl,rfl⟩:=Zv c7;clear c7;obtain⟨t,Vs,n,rfl,bZ,bs,dN⟩:=ps cn;clear cn;obtain⟨U,þ,rfl,jy,gQ⟩:=bs.of;clear bs;obtain⟨W,bC,rfl,gB,kY⟩:=gQ.of;clear gQ;obtain rfl:=kY.of;rw[show [x,y].length=[U,W].toArray.size from rfl];refine PyProof.Rows.unpackItems_tuple ca (gw<|a0.a5 _ _ bZ) λaR a6=>?_;have bY:∀b o,bt.heap.get? b=some o->aR.get? b=some o:=λb o e=>a6 b o (gK<|j5 e) e;have bM:=br.grow bL bY bt.toks;show wpAny _ _ (assignInOrder [bindName ac y,bindName ac x] [_,_]) _ _ _;refine bd<|gY<|wpAny_bindName<|re aX (a0.grow bY bt.toks) (bU.ext a0 bM) b' a1 gB λf9 fS fu IL jF=>bd<|gY<|wpAny_bindName<|re aX fS jF aB az jy λiy hy k4 rI ny=>b4<|h _ _ _ e _ bL iy hy ((bo.trans bM).zero.trans<|fu.trans k4) ?_ .go;have e8:j≠i:=λq=>by subst q;have:=aX.rR _ _ _ aB b';subst this;simp at A9
  rw[List.set_comm _ _<|io e8];exact ny
theorem CM{de:Env}(f:Str×NameKind->IF (Str×Addr)->Sem (ForInStep<|List<|Str×Addr))(a7:∀name kind b1,f (name,kind) b1=if kind==.free then(do let a<-cellOf de name;pure<|.yield<|(name,a)::b1)else pure (.yield b1)):∀(names:IF (Str×NameKind)) (en:IF (Str×Addr)),(∀p∈en,de.cells.lookup p.1=some p.2)->(∀y∈names,y.2=.free->(de.cells.lookup y.1).isSome=true)->∃cl,forIn names en f=pure cl/\(∀p∈cl,de.cells.lookup p.1=some p.2)/\(∀p∈en,p∈cl)/\∀y∈names,y.2=.free->∃a,(y.1,a)∈cl
 |[],en,ak,_=>⟨en,by rw[List.forIn_nil],ak,λ_ h=>h,λy h=>by simp at h⟩
 |(n,k)::r,en,ak,am=>by
  rw[DL,a7];induction aE:k==NameKind.free with
  |false=>
   obtain⟨cl,G,E,aC,ba⟩:=CM f a7 r en ak λy a1=>am y<|qV _ a1;refine⟨cl,by simp[G],E,aC,λy a1 e=>?_⟩;rcases eD.mp a1 with rfl|a1
   .subst e;exact ig aE
   .exact ba y a1 e
  |true=>
   obtain⟨a,e'⟩:=ha.mp (am (n,k) tk (by simpa using aE:k=.free));obtain⟨cl,G,E,aC,ba⟩:=CM f a7 r ((n,a)::en) (λp ae=>by
    rcases eD.mp ae with rfl|ae
    .exact e'
    .exact ak p ae) λy a1=>am y (qV _ a1)
   refine⟨cl,?_,E,λp ae=>aC p<|qV _ ae,λy a1 e=>?_⟩
   .unfold cellOf;simp only[show de.cells.lookup n=some a from e'];simp[G]
   .rcases eD.mp a1 with rfl|a1
    .exact⟨a,aC _ tk⟩
    .exact ba y a1 e
theorem FZ{g:Str->Ċ Addr}{n:Str}:∀{cl:IF (Str×Addr)},(∀p∈cl,g p.1=some p.2)->(∃a,(n,a)∈cl)->cl.lookup n=g n
 |[],_,h=>by obtain⟨a,h⟩:=h;simp at h
 |(m,b)::r,h,aN=>by
  rw[kO];induction q:n==m with
  |true=>have:=h (m,b) tk;rw[fM.mp q];exact this.symm
  |false=>
   refine FZ (λp ae=>h p<|qV _ ae) ?_;obtain⟨a,aN⟩:=aN;rcases eD.mp aN with e|aN
   .cases e;simp at q
   .exact⟨a,aN⟩
theorem RI{scope:Scope}{de:Env}(h:∀y∈scope.names,y.2=.free->(de.cells.lookup y.1).isSome=true):∃cl,closureFor scope de=pure cl/\∀y∈scope.names,y.2=.free->cl.lookup y.1=de.cells.lookup y.1:=by obtain⟨cl,G,E,-,ba⟩:=CM (de:=de) (λx r=>match x with|(name,kind)=>if kind==.free then(do let a<-cellOf de name;pure<|.yield<|(name,a)::r)else pure (.yield r)) (λ_ _ _=>rfl) scope.names [] (λp ae=>by simp at ae) h;refine⟨cl,?_,λy a1 e=>FZ (g:=λn=>de.cells.lookup n) E<|ba y a1 e⟩;unfold closureFor;exact(bH (λm=>m>>=λb1=>pure b1) G).trans<|pure_bind _ _
theorem wm{scope:Scope}{cl:IF (Str×Addr)}{ah:Addr}{de:Env}{x:Str}:(compEnvC scope cl ah de).kindOf x=(scope.names.lookup x).map λk=>if(k==.free&&de.scope.kind==.function&&de.kindOf x==some .cell)=true then .cell else k:=by
 show(relabel scope de).names.lookup x=_;unfold relabel;simp only;induction scope.names with
 |nil=>rfl
 |cons p r ap=>
  obtain⟨n,k⟩:=p;rw[gf,kO];induction q:x==n with
  |true=>
   have:=fM.mp q;subst this;by_cases aq:(k==.free&&de.scope.kind==.function&&de.kindOf x==some .cell)=true
   .simp only[aq,rG,jP,kO,Option.map_some]
   .rw[Bf]at aq;simp only[aq,tA,sB,jP,kO,Option.map_some]
  |false=>
   by_cases aq:(k==.free&&de.scope.kind==.function&&de.kindOf n==some .cell)=true
   .simp only[aq,rG,kO,q];exact ap
   .rw[Bf]at aq;simp only[aq,tA,sB,kO,q];exact ap
def cc.comp (c:cc) (ns:bI) (cy b6:Str->ĉ):cc:={c with ns:=ns,cy:=cy,b6:=b6,kL:=λ_=>false}
structure pm(c:cc)(ns:bI)(cy b6:Str->Bool)(scope:Scope)(aS:List Nat):Prop where
 ok:(c.comp ns cy b6).Ok
 Cr:∀y∈scope.names,y.2≠.cell
 kind:scope.kind=.function
 xT:∀y∈scope.names,y.2=.local->scope.names.lookup y.1=some .local
 free:∀y∈scope.names,y.2=.free->c.kL y.1=true
 vars:∀x i,ns.lookup x=some i->(scope.names.lookup x=some .local/\i∈aS)\/(scope.names.lookup x=some .free/\c.ns.lookup x=some i)
 gl:∀x,cy x=true->scope.names.lookup x=some .globalImplicit
 st:∀x,b6 x=true->scope.names.lookup x=some .local
def swap (C:aY) (aP ah:Addr) (k:Č):aY:=λb=>if b=ah then .loc k else if b=aP then .ext else C b
theorem uA(C:aY)(aP ah:Addr)(k:Č):swap C aP ah k ah=.loc k:=bl rfl
theorem tz{C:aY}{aP ah:Addr}{k:Č}(h:aP≠ah):swap C aP ah k aP=.ext:=by unfold swap;rw[bm h,bl rfl]
theorem i6{C:aY}{aP ah b:Addr}{k:Č}(G:b≠ah)(E:b≠aP):swap C aP ah k b=C b:=by unfold swap;rw[bm G,bm E]
section
variable{P:Params}{N:g3}{H:Heap}{os:OsState}{C:aY}{J:St}{s:Nd}
theorem Inv.swap(I:Inv P N H os C J s){aP ah:Addr}{k:Č}(cr:C aP=.loc k)(cf:C ah=.ext):Inv P N H os (swap C aP ah k) J s:=by
 have oJ:aP≠ah:=by rintro rfl;rw[cr]at cf;exact bR cf rfl
 have ne:∀{b:Addr} {r:eu},C b=r->r≠.ext->(∀j,r≠.loc j)->Internal.swap C aP ah k b=r:=λ{b r} e G E=>(i6 (by rintro rfl;exact G<|e.symm.trans cf)<|by rintro rfl;exact E k<|e.symm.trans cr).trans e;have d9:∀b o,C b=.a5 o->Internal.swap C aP ah k b=.a5 o:=λb o e=>ne e (λz=>(nomatch z)) λj z=>(nomatch z);have k0:∀{b:Addr} {r:eu},Internal.swap C aP ah k b=r->r≠.ext->(∀j,r≠.loc j)->C b=r:=λ{b r} e G E=>by
  by_cases q:b=ah
  .subst q;rw[uA]at e;exact absurd e.symm<|E k
  .by_cases fg:b=aP
   .subst fg;rw[tz oJ]at e;exact absurd e.symm G
   .rw[i6 q fg]at e;exact e
 refine⟨λb h=>?_,λa b e h=>?_,λb o e=>I.a5 b o<|k0 e (λz=>(nomatch z)) λj z=>(nomatch z),λn ct e=>(I.store n ct e).mono d9 (λb o e=>ne e (λz=>(nomatch z)) λj z=>(nomatch z):∀b o,C b=.st o->Internal.swap C aP ah k b=.st o) (λb o e=>ne e (λz=>(nomatch z)) λj z=>(nomatch z):∀b o,C b=.cF o->Internal.swap C aP ah k b=.cF o) λ_ _ _ e=>e,λb o e=>d9 _ _<|I.base b o e,I.gens,I.hL,λb n e=>I.gx b n ?_⟩
 .by_cases q:b=ah
  .subst q;exact I.alloc b (by rw[cf];intro z;exact bR z rfl)
  .by_cases fg:b=aP
   .subst fg;exact I.alloc b (by rw[cr];intro z;exact bR z rfl)
   .rw[i6 q fg]at h;exact I.alloc b h
 .have GB:∀b,(∃j,Internal.swap C aP ah k b=.loc j)->Internal.swap C aP ah k b=.loc k->b=ah:=λb _ e=>by
   by_cases q:b=ah
   .exact q
   .by_cases fg:b=aP
    .subst fg;rw[tz oJ]at e;exact bR e rfl
    .rw[i6 q fg]at e;exact absurd (I.uniq b aP (e.trans cr.symm)<|by rw[e];trivial) fg
  by_cases f':a=ah
  .subst f';rw[uA]at e;exact(GB b ⟨k,e.symm⟩ e.symm).symm
  .by_cases e_:b=ah
   .subst e_;rw[uA]at e;exact GB a ⟨k,e⟩ e
   .by_cases E6:a=aP
    .subst E6;rw[tz oJ]at h;exact h.elim
    .by_cases oe:b=aP
     .subst oe;rw[tz oJ]at e;rw[e]at h;exact h.elim
     .rw[i6 f' E6]at e h;rw[i6 e_ oe]at e;exact I.uniq a b e h
 .rcases e with e|e
  .exact .inl<|k0 e (λz=>(nomatch z)) λj z=>(nomatch z)
  .exact .inr<|k0 e (λz=>(nomatch z)) λj z=>(nomatch z)
end
def mb (aS:IF Č) (r:aJ):aJ:=aS.foldl (λr i=>r.set i .un) r
theorem ux:∀(aS:IF Č) (r:aJ) (i:Č),i∉aS->(mb aS r)[i]?=r[i]?
 |[],r,i,_=>rfl
 |t::aS,r,i,h=>by simp only[eD,not_or]at h;exact(ux aS (r.set t .un) i h.2).trans<|nn<|io h.1
theorem zn:∀(aS:IF Č) (r:aJ) (i:Č) (aL:co),r[i]?=some .un\/i∈aS->(mb aS r)[i]?=some aL->aL=.un
 |[],r,i,aL,h,e=>by
  rcases h with h|h
  .rw[show mb [] r=r from rfl,h]at e;cases e;rfl
  .simp at h
 |t::aS,r,i,aL,h,e=>by
  have bz:(mb aS<|r.set t .un)[i]?=some aL:=e;by_cases q:i∈aS
  .exact zn aS _ i aL (.inr q) bz
  .rw[ux aS _ i q]at bz;by_cases q':t=i
   .subst q';rw[qX]at bz;simp only[rG]at bz;split at bz<;>(first|exact b0 bz|cases bz);rfl
   .rw[nn q']at bz;rcases h with h|h
    .rw[h]at bz;cases bz;rfl
    .simp[q,io q']at h
theorem QB{bk:ĉ}{aS:IF Č}{v:B}{r:aJ}:iO bk aS v (mb aS r)=iO bk aS v r:=by
 have key:∀(fJ:IF Č) (l:IF B) (a b:aJ),l.length=fJ.length->a.length=b.length->(∀i,i∉fJ->a[i]?=b[i]?)->(fJ.zip l).foldl (λr p=>r.set p.1<|co.val p.2) a=(fJ.zip l).foldl (λr p=>r.set p.1<|co.val p.2) b:=by
  intro fJ;induction fJ with
  |nil=>intro l a b _ aj h;exact Aa λi=>h i (by simp)
  |cons u fJ ap=>
   intro l a b G aj h;induction l with
   |nil=>cases G
   |cons x l=>
    simp only[y',List.foldl_cons];refine ap l _ _ (by simpa using G) (by simp[aj]) λi aB=>?_;by_cases q:u=i
    .subst q;simp[qX,aj]
    .rw[nn q,nn q];exact h i (by simp[aB,io q])
 have dU:∀(fJ:IF Č) (r:aJ),(mb fJ r).length=r.length:=by
  intro fJ;induction fJ with
  |nil=>intro r;rfl
  |cons u fJ ap=>intro r;exact(ap<|r.set u .un).trans (by simp)
 induction bk with
 |false=>induction aS using List.casesOn with
  |nil=>rfl
  |cons i t=>induction t with
   |nil=>show some ((r.set i .un).set i<|.val v)=some (r.set i<|.val v);rw[List.set_set]
   |cons=>rfl
 |true=>induction v using B.casesOn with
  |tup l=>
   show(if l.length=aS.length then some _ else none)=(if l.length=aS.length then some _ else none);by_cases aj:l.length=aS.length
   .rw[bl aj,bl aj,key _ _ (mb aS r) r aj (dU _ _) λi aB=>?_];exact ux aS r i aB
   .rw[bm aj,bm aj]
  |_=>rfl
theorem FH{bk:ĉ}{aS:IF Č}{v:B}{r b2:aJ}(e:iO bk aS v r=some b2):∀i,i∉aS->b2[i]?=r[i]?:=by
 have key:∀(fJ:IF Č) (l:IF B) (a:aJ) i,i∉fJ->((fJ.zip l).foldl (λr p=>r.set p.1<|co.val p.2) a)[i]?=a[i]?:=by
  intro fJ;induction fJ with
  |nil=>intro l a i _;rfl
  |cons u fJ ap=>
   intro l a i aB;simp only[eD,not_or]at aB;induction l with
   |nil=>rfl
   |cons x l=>exact(ap l _ i aB.2).trans<|nn<|io aB.1
 intro i aB;induction bk with
 |false=>induction aS using List.casesOn with
  |nil=>exact b0 e
  |cons j t=>induction t with
   |nil=>cases e;exact nn λq:j=i=>aB<|q▸.head _
   |cons=>exact b0 e
 |true=>induction v using B.casesOn with
  |tup l=>obtain⟨aj,e⟩:=g4<|show(if l.length=aS.length then some ((aS.zip l).foldl (λr p=>r.set p.1<|.val p.2) r)else none)=some b2 from e;cases e;exact key _ _ _ i aB
  |_=>exact b0 e
theorem Jv{C:aY}{ac:Env}{r b2:aJ}{h:Heap}{k:Č}{aS:IF Č}(F:c.F C ac b2 h k)(e:∀i,i∉aS->b2[i]?=r[i]?):c.F C ac (mb aS r) h k:=by
 refine⟨⟨F.bE.kind,F.bE.glob,F.bE.lp,F.bE.loc,F.bE.mf,F.bE.cells,λx i aL G E=>?_⟩,F.gl,F.st,F.cl⟩;by_cases q:i∈aS
 .rw[zn aS r i aL (.inr q) E];exact .un
 .rw[ux aS r i q,<-e i q]at E;exact F.bE.slots x i aL G E
theorem WC{ns:bI}{cy b6:Str->ĉ}{scope:Scope}{aS:IF Č}(K:pm c ns cy b6 scope aS){C:aY}{s:Nd}{ac:Env}{r:aJ}{k:Č}(F:c.F C ac r s.heap k){cl:IF (Str×Addr)}(eQ:∀y∈scope.names,y.2=.free->cl.lookup y.1=ac.cells.lookup y.1){ah:Addr}{m:Str->Ċ Ĉ}(cf:s.heap.Ns ah m)(Mc:C ah=.ext):(c.comp ns cy b6).F (swap C ac.locals ah k) (compEnvC scope cl ah ac) (mb aS r) s.heap k:=by
 have ne:∀{b:Addr} {q:eu},C b=q->q≠.ext->(∀j,q≠.loc j)->swap C ac.locals ah k b=q:=λ{b q} e G E=>(i6 (by rintro rfl;exact G<|e.symm.trans Mc)<|by rintro rfl;exact E k<|e.symm.trans F.bE.loc).trans e;have d9:∀b o,C b=.a5 o->swap C ac.locals ah k b=.a5 o:=λb o e=>ne e (λz=>(nomatch z)) λj z=>(nomatch z);have eY:∀b o,C b=.st o->swap C ac.locals ah k b=.st o:=λb o e=>ne e (λz=>(nomatch z)) λj z=>(nomatch z);have free:∀x,scope.names.lookup x=some .free->ac.kindOf x=some .cell/\(compEnvC scope cl ah ac).kindOf x=some .cell/\cl.lookup x=ac.cells.lookup x:=λx az=>by have aN:=mem_of_lookup az;have G:=F.cl x<|K.free _ aN rfl;refine⟨G,?_,eQ _ aN rfl⟩;rw[wm,az,G,F.bE.kind];rfl
 have mM:∀x V,scope.names.lookup x=some .free->gM ac s.heap x V->gM (compEnvC scope cl ah ac) s.heap x V:=λx V az af=>by
  obtain⟨G,E,aC⟩:=free x az;rcases af with⟨a,-⟩|⟨-,be,aq,bg⟩
  .rw[G]at a;cases a
  .exact .inr ⟨.inl E,be,aC.trans aq,bg⟩
 refine⟨⟨K.kind,F.bE.glob,F.bE.lp,uA _ _ _ _,⟨m,cf⟩,λx az=>?_,λx i aL G E=>?_⟩,λx az=>?_,λx az=>?_,λx az=>?_⟩
 .rw[wm]at az;induction aj:scope.names.lookup x with
  |none=>rw[aj]at az;rcases az with az|az<;>exact b0 az
  |some bY=>
   have xm:bY=.free:=by rw[aj]at az;induction bY<;>first|rfl|(exact absurd rfl (K.Cr _ (mem_of_lookup aj)))|(rcases az with az|az<;>cases az)
   subst xm;obtain⟨G,E,aC⟩:=free x aj;obtain⟨be,v,bZ,bs,dN⟩:=F.bE.cells x<|.inl G;exact⟨be,v,aC.trans bZ,ne bs (λz=>(nomatch z)) λj z=>(nomatch z),dN⟩
 .rcases K.vars x i G with⟨aj,aB⟩|⟨aj,aB⟩
  .rw[zn aS r i aL (.inr aB) E];exact .un
  .by_cases q:i∈aS
   .rw[zn aS r i aL (.inr q) E];exact .un
   .rw[ux aS r i q]at E;induction F.bE.slots x i aL aB E with
    |un=>exact .un
    |val a b=>exact .val (mM _ _ aj a)<|b.mono d9 eY
    |ol a b d e f=>exact .ol (mM _ _ aj a) (ne b (λz=>(nomatch z)) λj z=>(nomatch z)) d (e.mono d9 eY) f
    |od a b d e f g=>exact .od (mM _ _ aj a) (ne b (λz=>(nomatch z)) λj z=>(nomatch z)) d (e.mono d9 eY) f g
 .rw[wm,K.gl x az];rfl
 .rw[wm,K.st x az];exact .inl rfl
 .exact cH az
abbrev pi(c:cc)(A:Around)(ifs:IF ċ)(w:hi):Prop:=p5 c A (λac=>forIn ifs true λc r=>if r=true then do let ok<-isTrue c ac (eval c ac);pure (ForInStep.yield ok)else pure (ForInStep.yield r)) w
theorem QT:pi c A [] λ_ J K=>K true J:=λO s ac C r J k K Q I F e h=>wpAny_tests_nil<|h _ _ e C s I<|br.refl C s
theorem Qi{e:ċ}{w:hi}(g:kt c A e w):pi c A [e] λr J K=>w r J λb J=>kH (K true J) (K false J) b:=λO s ac C r J k K Q I F ag h=>wpAny_tests_one (g.use I F ag λb db e bL bt a0 bU bo=>by induction b<;>exact h _ _ e bL bt a0 bo)
theorem T7{f6 target iter:ċ}{ifs:IF ċ}{scope:Scope}{pos:Pos}{it en:Ĉ}{de:Env}{R:Result->Nd->Prop}{s:Nd}(I:Č->Nd->Prop)(turn:∀n s,I n s->∀O,wpAny c.M A (pyNext it) (λr bt=>match r with
 |none=>R (.ok .next) bt
 |some v=>wpAny c.M A (letOwnedTupleGo target it v) (λ_ eS=>wpAny c.M A (assign target de v) (λ_ b_=>
  wpAny c.M A (forIn ifs true λc r=>if r=true then do let ok<-isTrue c de (eval c de);pure (ForInStep.yield ok)else pure (ForInStep.yield r)) (λok f9=>if ok=true then wpAny c.M A (eval f6 de) (λx iy=>
   wpAny c.M A (call (.builtin "list.append") [en,x]) (λ_ rS=>∃m,m<n/\I m rS) O iy) O f9
   else∃m,m<n/\I m f9) O b_) O eS) O bt) O s)
 (n:Č) (h:I n s):codeAny c.M A (.compLoop (.ListComp f6 [⟨target,iter,ifs,0⟩] scope pos) 0 it en de) R s:=by
 refine codeAny_loop rfl I (λn s fU=>?_) n h
 show wpAny _ A ((compTurn (.ListComp f6 [⟨target,iter,ifs,0⟩] scope pos) 0 it en de).onRaise<|λx=>do noteFrame x de;theTreesLotGoes x) _ _ s
 refine wpAny_noted ?_
 rw[compTurn_list]
 refine bd<|pV<|bd<|ln (turn n s fU _) (λr bt mr=>?_) λ_ _ aR=>aR
 induction r with
 |none=>exact b4 mr
 |some v=>
  refine bd<|ln mr (λ_ eS Vf=>bd<|ln Vf (λ_ b_ wD=>bd<|ln wD (λQ3 f9 HJ=>?_) λ_ _ aR=>aR) λ_ _ aR=>aR) λ_ _ aR=>aR;induction Q3 with
  |false=>exact b4 ⟨rfl,HJ⟩
  |true=>exact bd<|bd<|ln HJ (λx iy P0=>bd<|ln P0 (λ_ rS Zn=>b4<|b4 ⟨rfl,Zn⟩) λ_ _ aR=>aR) λ_ _ aR=>aR
abbrev wq:=B->St->(IF B->St->Prop)->Prop
structure zN(c:cc)(A:Around)(cG D:Addr)(t:wq)(K:B->St->Prop)(N:Nat)(kf:Nat->List B->St->Prop)(Pos:Nat->aY->Shared->Prop):Prop where
 next:∀i C J s cg,Pos i C s->c.I C J s->kf i cg J->(i<N/\∃x,t x J (λc9 J=>kf (i+1) (cg++c9) J)/\∀(Q:Option Value->Shared->Prop) O,(∀v aR cI,bA c.P C x v->(∀b o,b≠cG->s.heap.get? b=some o->aR.get? b=some o)->Pos (i+1) C {s with heap:=aR,toks:=cI}->Q (some v) {s with heap:=aR,toks:=cI})->wpAny c.M A (pyNext<|.ref cG) Q O s)\/(K (.lst cg) J/\∀(Q:Option Value->Shared->Prop) O,(∀aR cI,(∀b o,b≠cG->s.heap.get? b=some o->aR.get? b=some o)->Q none {s with heap:=aR,toks:=cI})->wpAny c.M A (pyNext<|.ref cG) Q O s)
 keep:∀i C s aO ar,Pos i C s->(∀a o,a≠D->s.heap.get? a=some o->(C a).kept->(∀k,C a≠.loc k)->ar.heap.get? a=some o/\aO a=C a)->(∀a n,C a=.st n->aO a=.st n)->(∀a o,C a=.a5 o->aO a=.a5 o)->Pos i aO ar
 self:∀i C s Q O,Pos i C s->Q (.ref cG) s->wpAny c.M A (pyIter<|.ref cG) Q O s
 pe:∀i C s,Pos i C s->dI λo n vs=>hU (s.heap.get? cG=some o) (o.cls=.type n) (o.data=.fields vs)<|xt n=true
theorem br.drop{dr C:aY}{eS s:Nd}(x:br dr eS C s){d:Addr}(am:dr d=.none)(bg:C d=.ext){aR:Heap}(bY:∀b o,b≠d->s.heap.get? b=some o->aR.get? b=some o)(t:Č):br dr eS (cC C d .none) {s with heap:=aR,toks:=t}:=⟨λa o e ev=>have e8:a≠d:=λq=>(by rw[q,am]at ev;exact ev);let⟨ag,a8⟩:=x.kept a o e ev;⟨bY a o e8 ag,(bX e8).trans a8⟩,λa n e=>(bX<|λq=>by rw[q,am]at e;exact bR e rfl).trans<|x.st a n e,λa n e=>(bX<|λq=>by rw[q,am]at e;exact bR e rfl).trans<|x.cF a n e⟩
inductive Bo (c be:cc) (cG D:Addr) (jU:Env) (b2:aJ) (k:Nat) (l8:aY) (mX:Shared) (N:Nat) (kf:Nat->List B->St->Prop) (Pos:Nat->aY->Shared->Prop) (n:Nat) (ar:Shared):Prop
 |mk (i:Nat) (aO:aY) (d6:St) (cg:List B) (bC:List Value) (m:Nat) (am:n=N-i) (p:Pos i aO ar) (I:c.I aO d6 ar) (x:br l8 mX aO ar) (fU:aO cG=.ext) (b3:aO D=.ext) (F:be.F aO jU b2 ar.heap k) (cr:ar.heap.get? D=some (cu bC.toArray m)) (af:bD c.P aO cg bC) (aB:cg.length<=i) (z4:i<=N) (e:kf i cg d6):Bo c be cG D jU b2 k l8 mX N kf Pos n ar
theorem WG{ns:bI}{cy b6:Str->ĉ}{scope:Scope}{aS:IF Č}(K:pm c ns cy b6 scope aS)(ca:A.handled=none){bk:ĉ}{target iter f6:ċ}{ifs:IF ċ}{pos:Pos}(hc:mu (c.comp ns cy b6) bk target aS){fF:hi}{fb:dm}(gI:pi (c.comp ns cy b6) A ifs fF)(ge:Good (c.comp ns cy b6) A f6 fb){cG D ah:Addr}{r:aJ}{KK:B->St->Prop}{N k:Č}{kf:Č->IF B->St->Prop}{Pos:Č->aY->Nd->Prop}(S:zN c A cG D (kE fb fF bk aS r) KK N kf Pos)(dc:N<=a3){jU:Env}(jf:jU.locals=ah)(p9:∀x,b6 x=true->jU.kindOf x=some .local){l8:aY}{mX:Nd}(XQ:l8 D=.none)(WS:l8 ah=.none)(Jy:l8 cG=.none)(vR:cG≠D){C:aY}{J:St}{s:Nd}{m:Č}{R:Result->Nd->Prop}(I:c.I C J s)(F:(c.comp ns cy b6).F C jU (mb aS r) s.heap k)(fU:C cG=.ext)(b3:C D=.ext)(cr:s.heap.get? D=some (cu [].toArray m))(x:br l8 mX C s)(p:Pos 0 C s)(e:kf 0 [] J)(Mh:∀aO bG ar c9 bC m hS,KK (.lst c9) bG->c.I aO bG ar->br l8 mX aO ar->aO D=.ext->aO ah=.loc k->ar.heap.get? D=some (cu bC.toArray m)->bD c.P aO c9 bC->c9.length<=N->ar.heap.Ns ah hS->R (.ok .next) ar):codeAny c.M A (.compLoop (.ListComp f6 [⟨target,iter,ifs,0⟩] scope pos) 0 (.ref cG) (.ref D) jU) R s:=by
 refine T7 (Bo c (c.comp ns cy b6) cG D jU (mb aS r) k l8 mX N kf Pos) ?_ N ⟨0,C,J,[],[],m,rfl,p,I,x,fU,b3,F,cr,.nil,dA _,f_ _,e⟩;rintro n ar⟨i,aO,d6,cg,bC,m,rfl,et,dk,eJ,oD,ix,g5,k5,af,aB,z4,bz⟩O;rcases S.next i aO d6 ar _ et dk bz with⟨cT,aW,ag,am⟩|⟨ag,am⟩
 .refine am _ _ λv aR cI cn aE ae=>ax.dt ag λko c7 fz=>?_;have fu:=eJ.upd (d:=cG) (by rw[Jy];exact id) aE cI;have Gu:∀a,(∀k,aO a≠.loc k)->a≠jU.locals:=by rintro a h rfl;exact h k g5.bE.loc
  refine Gw (S.pe _ _ _ ae) ?_;refine zl K.ok ca hc (dk.upd (d:=cG) (by rw[oD];trivial) aE (by obtain⟨cB,_,_,hr,-⟩:=S.pe _ _ _ ae;rw[show aR.get? cG=some cB from hr];rfl) cI) (g5.yl oD aE) cn (QB.trans c7) λiy hy rI ny=>?_;have k4:br l8 mX aO iy:=⟨λa o e' ev=>let⟨bZ,bs⟩:=fu.kept a o e' ev;⟨rI.loc p9 a o (λq=>by rw[q,jf,WS]at ev;exact ev) bZ,bs⟩,fu.st,fu.cF⟩;have Oc:iy.heap.get? D=some (cu bC.toArray m):=rI.loc p9 D _ (Gu D<|λj q=>by rw[ix]at q;exact bR q rfl) (aE D _ (io vR) k5:aR.get? D=some (cu bC.toArray m));obtain⟨zD,BC⟩:=ha.mp (hy.alloc cG<|by rw[oD];intro z;exact bR z rfl);refine gI.use hy ny fz λb ć kZ r2 rS lm vF hs=>?_;have Fc:Pos (i+1) r2 rS:=S.keep _ _ _ _ _ (S.keep _ _ _ _ _ ae (λa o _ e' _ a_=>⟨rI.loc p9 a o (Gu a a_) e',rfl⟩) (λ_ _ e=>e) λ_ _ e=>e:Pos (i+1) aO iy) (λa o _ e' ev _=>hs.kept a o e' ev) hs.st<|hs.zero.ot hy;have wC:=hs.kept D _ Oc (by rw[ix];trivial);have xg:=hs.kept cG _ BC (by rw[oD];trivial);induction b with
  |false=>show∃n',n'<N-i/\Bo c (c.comp ns cy b6) cG D jU (mb aS r) k l8 mX N kf Pos n' rS;exact⟨N-(i+1),AL _ _ cT,i+1,r2,_,cg,bC,m,rfl,Fc,lm,k4.trans hs,xg.2.trans oD,wC.2.trans ix,Jv vF<|FH c7,wC.1,hs.iN hy af,iP aB,cT,gN cg▸kZ⟩
  |true=>
   refine ge.use lm vF kZ λw î ky cx Ci zh Om XD n4 jr=>?_;have Ib:=n4.kept D _ wC.1 (by rw[wC.2,ix];trivial);have KC:=n4.iN lm<|hs.iN hy af;have BR:Ci D=.ext:=Ib.2.trans<|wC.2.trans ix;refine wpAny_list_append_plain (items:=bC.toArray) ⟨m,Ib.1⟩ (hsz:=by rw[eI,KC.length,kG];exact aI aB<|aI z4 dc) λI9 C5 SJ=>?_;obtain⟨KO,C5⟩:=C5;have bY:∀b o,b≠D->zh.heap.get? b=some o->I9.get? b=some o:=λb o aw eb=>(SJ.2 b aw).trans eb;have Im:I9.get? D=some (cu (bC++[cx]).toArray KO):=by rw[C5];simp[cu]
   refine⟨N-(i+1),AL _ _ cT,i+1,Ci,_,cg++[w],bC++[cx],KO,rfl,?_,Om.upd (d:=D) (by rw[BR];trivial) bY (by rw[Im];rfl) zh.toks,((k4.trans hs).trans n4).upd (d:=D) (by rw[XQ];exact id) bY zh.toks,(n4.kept cG _ xg.1<|by rw[xg.2,oD];trivial).2.trans<|xg.2.trans oD,BR,Jv (XD.yl BR bY)<|FH c7,Im,KC.append<|.cons jr .nil,by rw[da];exact c' aB,cT,ky⟩;exact S.keep _ _ _ _ _ (S.keep _ _ _ _ _ Fc (λa o _ e' ev _=>n4.kept a o e' ev) n4.st (n4.zero.ot lm):Pos (i+1) Ci zh) (λa o ak e' _ _=>⟨bY a o ak e',rfl⟩) (λ_ _ e=>e) λ_ _ e=>e
 .refine am _ _ λaR cI aE=>?_;obtain⟨fS,jF⟩:=u_ (c:=c.comp ns cy b6) dk g5 oD aE cI;obtain⟨hS,SM⟩:=jF.bE.mf;have kg:∀{b b2},aO b=b2->b2≠.ext->b≠cG:=λe h q=>h<|e.symm.trans<|q▸oD;exact Mh (cC aO cG .none) _ _ cg bC m hS ag fS (eJ.drop Jy oD aE cI) ((bX<|io vR).trans ix) (jf▸jF.bE.loc) (aE D _ (io vR) k5) (af.mono (λb o e=>(bX<|kg e<|λz=>(nomatch z)).trans e) λb o e=>(bX<|kg e<|λz=>(nomatch z)).trans e) (aI aB z4)<|jf▸SM
theorem T8(ca:A.handled=none){cG D:Addr}{t:wq}{K:B->St->Prop}{bL:aY}{bP:IF B}{X:Ĉ}{f8:IF Addr}{P:Č->Ĉ->Prop}{JX:Č->Heap->Prop}(T:nR c bL bP X cG f8 P JX)(b3:D∉f8):zN c A cG D t K bP.length (λi=>j6 t K<|bP.drop i) (λi C s=>JX i s.heap/\i<=bP.length/\(∀b∈f8,(C b).kept/\(∀k,C b≠.loc k)/\∃o,s.heap.get? b=some o)/\(∀a o,bL a=.a5 o->C a=.a5 o)/\(∀a n,bL a=.st n->C a=.st n))where
 next:=by
  rintro i C J s cg⟨iB,aB,aw,d9,eY⟩I e;by_cases cT:i<bP.length
  .rw[xz cT]at e;refine .inl ⟨cT,bP[i],e,λQ O eP=>(T.W A ca).item i s Q O cT iB λv aR cI ae tT aE=>?_⟩;obtain⟨x,G,E⟩:=T.vals i v cT ae;rw[fq cT]at G;cases G;refine eP v aR cI (E.mono d9 eY) (λb o e8 eb=>aE b o (by simpa using e8) eb) ⟨tT,cT,λb iZ=>?_,d9,eY⟩;obtain⟨bZ,bs,o,aA⟩:=aw b iZ;refine⟨bZ,bs,?_⟩;by_cases e_:b=cG
   .subst e_;obtain⟨cB,_,_,hr,-⟩:=T.pe _ _ tT;exact⟨cB,hr⟩
   .exact⟨o,aE b o (by simpa using e_) aA⟩
  .have iE:i=bP.length:=vw aB<|rH cT;subst iE;rw[List.drop_length]at e;exact .inr ⟨e,λQ O eP=>(T.W A ca).done s Q O iB λaR cI aE=>eP aR cI λb o e8 eb=>aE b o (by simpa using e8) eb⟩
 keep:=by
  rintro i C s aO ar⟨iB,aB,aw,d9,eY⟩aE aK a7;refine⟨(T.W A ca).frame _ _ _ iB λb iZ o eb=>?_,aB,λb iZ=>?_,λa o e=>a7 a o<|d9 a o e,λa n e=>aK a n<|eY a n e⟩
  .obtain⟨bZ,bs,-⟩:=aw b iZ;exact(aE b o (by rintro rfl;exact b3 iZ) eb bZ bs).1
  .obtain⟨bZ,bs,o,aA⟩:=aw b iZ;obtain⟨ag,a8⟩:=aE b o (by rintro rfl;exact b3 iZ) aA bZ bs;rw[a8];exact⟨bZ,bs,o,ag⟩
 self:=λi C s Q O p eP=>(T.W A ca).self i s Q O p.1 eP
 pe:=λi C s p=>T.pe i _ p.1
theorem M3{t:wq}{K:B->St->Prop}{n m i:Č}{cg:IF B}{J:St}(q:m=0)(e:nN t K n m i cg J):gS J[n]? λl=>l.length=i/\K (.lst cg) J:=by subst q;exact e
theorem Xl{t:wq}{K:B->St->Prop}{n m iW i:Č}{cg:IF B}{J:St}(q:m=iW+1)(e:nN t K n m i cg J):gS J[n]? λl=>ax l[i]? λv=>t v J λc9 s=>nN t K n iW (i+1) (cg++c9) s:=by subst q;exact e
theorem QP{n i:Č}(h:i<n):n-i=(n-(i+1))+1:=(Nat.succ_pred_eq_of_pos<|Nat.sub_pos_of_lt h).symm
theorem U1(ca:A.handled=none){cG D:Addr}{t:wq}{K:B->St->Prop}{n cnt:Č}(vR:cG≠D):zN c A cG D t K cnt (λi=>nN t K n (cnt-i) i) (λi C s=>∃a,C a=.st n/\s.heap.IsListIter cG a i/\i<=cnt/\C cG=.ext)where
 next:=by
  rintro i C J s cg⟨a,ak,yk,aB,fU⟩I e;by_cases cT:i<cnt
  .obtain⟨l,aj,e⟩:=gS.dt<|Xl (QP cT) e;obtain⟨hm,Vs,k,mn,bZ,bs,dN,gQ⟩:=p0 I (.ref ak) aj;cases mn;refine ax.dt e λv af e=>?_;obtain⟨V,cn,Wc⟩:=dN.get af;clear af;exact .inl ⟨cT,v,e,λQ O eP=>wpAny_pyNext_list_item yk (hW bs) (x:=V) (by simpa using cn) λaR VC lY=>eP V aR s.toks Wc (λb o e8 eb=>lY.extBut b o e8 eb) ⟨a,ak,VC,cT,fU⟩⟩
  .obtain⟨l,aj,iE,e⟩:=gS.dt<|M3 (Nat.sub_eq_zero_of_le<|rH cT) e;obtain⟨hm,Vs,k,mn,bZ,bs,dN,gQ⟩:=p0 I (.ref ak) aj;cases mn;exact .inr ⟨e,λQ O eP=>wpAny_pyNext_list_end ca yk (hW bs) (by simp[dN.length,iE]) λaR h9=>eP aR s.toks λb o e8 eb=>h9 b o e8 eb⟩
 keep:=by rintro i C s aO ar⟨a,ak,⟨o,aA,aq,bg⟩,aB,fU⟩aE aK a7;obtain⟨ag,a8⟩:=aE cG o vR aA (by rw[fU];trivial) (by rw[fU];intro k z;exact bR z rfl);exact⟨a,aK a n ak,⟨o,ag,aq,bg⟩,aB,a8.trans fU⟩
 self:=λi C s Q O p eP=>by obtain⟨a,-,yk,-⟩:=p;exact wpAny_pyIter_listiter yk eP
 pe:=λi C s p=>by obtain⟨a,-,⟨o,aA,aq,bg⟩,-⟩:=p;exact⟨o,_,_,aA,aq,bg,by decide⟩
def hide (C:aY) (aP:Addr):aY:=λb=>if b=aP then .ext else C b
theorem vv(C:aY)(aP:Addr):hide C aP aP=.ext:=bl rfl
theorem n6{C:aY}{aP b:Addr}(h:b≠aP):hide C aP b=C b:=bm h
theorem br.hide{dr C:aY}{eS s:Nd}(x:br dr eS C s){aP ah:Addr}{k:Č}(cr:dr aP=.loc k)(cf:dr ah=.none):br (hide dr aP) eS (swap C aP ah k) s:=by
 have oJ:aP≠ah:=by rintro rfl;rw[cr]at cf;exact bR cf rfl
 have st:∀{a r},Internal.hide dr aP a=r->r≠.ext->a≠aP:=λe h q=>h<|e.symm.trans<|q▸vv _ _;have bQ:∀{a r},dr a=r->r≠.none->a≠ah:=λe h q=>h<|e.symm.trans<|q▸cf;refine⟨λa o e ev=>?_,λa n e=>?_,λa n e=>?_⟩
 .by_cases q:a=aP
  .subst q;exact⟨(x.kept a o e<|by rw[cr];trivial).1,(tz oJ).trans (vv _ _).symm⟩
  .rw[n6 q]at ev⊢;obtain⟨ag,a8⟩:=x.kept a o e ev;exact⟨ag,(i6 (by rintro rfl;rw[cf]at ev;exact ev) q).trans a8⟩
 .have q:=st e<|λz=>(nomatch z);rw[n6 q]at e;exact(i6 (bQ e<|λz=>(nomatch z)) q).trans<|x.st a n e
 .have q:=st e<|λz=>(nomatch z);rw[n6 q]at e;exact(i6 (bQ e<|λz=>(nomatch z)) q).trans<|x.cF a n e
theorem br.MX{dr C:aY}{eS s:Nd}{aP ah:Addr}{k:Č}(x:br (Internal.hide dr aP) eS C s)(cr:dr aP=.loc k)(cf:dr ah=.none):br dr eS (swap C ah aP k) s:=by
 have bQ:∀{a r},dr a=r->r≠.none->a≠ah:=λe h q=>h<|e.symm.trans<|q▸cf;have ue:∀{a r},dr a=r->(∀j,r≠.loc j)->a≠aP:=λe h q=>h k<|e.symm.trans<|q▸cr;refine⟨λa o e ev=>?_,λa n e=>?_,λa n e=>?_⟩
 .by_cases q:a=aP
  .subst q;exact⟨(x.kept a o e<|by rw[vv];trivial).1,(uA _ _ _ _).trans cr.symm⟩
  .obtain⟨ag,a8⟩:=x.kept a o e (by rw[n6 q];exact ev);rw[n6 q]at a8;exact⟨ag,(i6 q<|by rintro rfl;rw[cf]at ev;exact ev).trans a8⟩
 .have q:=ue e<|λj z=>(nomatch z);exact(i6 q<|bQ e<|λz=>(nomatch z)).trans<|x.st a n<|(n6 q).trans e
 .have q:=ue e<|λj z=>(nomatch z);exact(i6 q<|bQ e<|λz=>(nomatch z)).trans<|x.cF a n<|(n6 q).trans e
theorem xl{C:aY}{aP ah:Addr}{k:Č}(cr:C aP=.loc k)(cf:C ah=.ext){b:Addr}{q:eu}(e:C b=q)(G:q≠.ext)(E:∀j,q≠.loc j):swap C aP ah k b=q:=(i6 (by rintro rfl;exact G<|e.symm.trans cf)<|by rintro rfl;exact E k<|e.symm.trans cr).trans e
theorem Km{ns:bI}{cy b6:Str->ĉ}{scope:Scope}{aS:IF Č}(K:pm c ns cy b6 scope aS)(ca:A.handled=none){bk:ĉ}{target iter f6:ċ}{ifs:IF ċ}{pos:Pos}(hc:mu (c.comp ns cy b6) bk target aS){fF:hi}{fb:dm}(gI:pi (c.comp ns cy b6) A ifs fF)(ge:Good (c.comp ns cy b6) A f6 fb){cG:Addr}{r:aJ}{KK:B->St->Prop}{N k:Č}{kf:Č->IF B->St->Prop}{Pos:Č->aY->Nd->Prop}(dc:N<=a3){ac:Env}{dr C:aY}{z8 J:St}{eS s:Nd}{nY:Ĉ->Addr->Result->Nd->Prop}{O:Ĉ->Nd->Prop}(S:zN c A cG s.heap.objs.size (kE fb fF bk aS r) KK N kf Pos)(nE:c.I dr z8 eS)(lB:c.F dr ac r eS.heap k)(I:c.I C J s)(x:br dr eS C s)(GP:dr cG=.none)(fU:C cG=.ext)(hsz:eS.heap.objs.size<=s.heap.objs.size)(p:Pos 0 C s)(e:kf 0 [] J){cl:IF (Str×Addr)}(eQ:∀y∈scope.names,y.2=.free->cl.lookup y.1=ac.cells.lookup y.1)(xH:∀D ah aO bG ar c9 bC m hS,KK (.lst c9) bG->c.I aO bG ar->br dr eS aO ar->c.F aO ac r ar.heap k->dr D=.none->aO D=.ext->dr ah=.none->aO ah=.ext->ah≠D->ar.heap.get? D=some (cu bC.toArray m)->bD c.P aO c9 bC->c9.length<=N->ar.heap.Ns ah hS->nY (.ref D) ah (.ok .next) ar):wpAny c.M A (newList []) (λen f9=>wpAny c.M A (newFunctionEnv scope ac.globals cl [] ac.qual none .none (some ac)) (λjU iy=>
 codeAny c.M A (.compStart (.ListComp f6 [⟨target,iter,ifs,0⟩] scope pos) 0 (.ref cG) en {jU with scope:=relabel scope ac}) (nY en jU.locals) iy) O f9) O s:=by
 refine vy<|wpAny_newFunctionEnv K.Cr (by intro y a1;simp at a1) (λmr JL HS=>?_) K.kind;dsimp only at JL HS⊢;obtain⟨D,b3⟩:∃D,D=s.heap.objs.size:=⟨_,rfl⟩;have DK:=I.push (cu [].toArray 0) rfl .ext<|.inr rfl;have lK:=br.push I (cu [].toArray 0) .ext;rw[<-b3]at DK lK S⊢;have FW:cG≠D:=λq=>by have:=I.fresh (a:=cG) (by rw[q,<-b3];exact dA _);rw[fU]at this;exact bR this rfl
 obtain⟨ah,cf⟩:∃ah,ah=(s.heap.push (cu [].toArray 0)).objs.size:=⟨_,rfl⟩;have nq:ah=D+1:=by rw[cf,rT,b3]
 obtain⟨tN,G'⟩:∃m,mr.Ns ah m:=⟨_,by rw[cf];exact JL⟩;have WY:Heap.SameBut ah ((s.heap.push<|cu [].toArray 0).push (⟨.type "dict",none,.dict #[] 0,#[]⟩:Obj)) mr:=by rw[cf];exact HS
 have xO:D<=ah:=by rw[nq];exact kc D
 have vn:D≠ah:=gK (by rw[nq];exact pF D);have bY:∀b o,b≠ah->((s.heap.push<|cu [].toArray 0).push (⟨.type "dict",none,.dict #[] 0,#[]⟩:Obj)).get? b=some o->mr.get? b=some o:=λb o aw eb=>(WY.2 b aw).trans eb;have QW:c.I (cC (cC C D .ext) ah .ext) J {s with heap:=(s.heap.push<|cu [].toArray 0).push (⟨.type "dict",none,.dict #[] 0,#[]⟩:Obj)}:=cf▸(DK.push (⟨.type "dict",none,.dict #[] 0,#[]⟩:Obj) rfl .ext<|.inr rfl);have TF:br (cC C D .ext) {s with heap:=s.heap.push (cu [].toArray 0)} (cC (cC C D .ext) ah .ext) {s with heap:=(s.heap.push<|cu [].toArray 0).push (⟨.type "dict",none,.dict #[] 0,#[]⟩:Obj)}:=cf▸(br.push DK (⟨.type "dict",none,.dict #[] 0,#[]⟩:Obj) .ext);have S4:∀{a:Addr},D<=a->C a=.none:=λh=>I.fresh (by rw[<-b3];exact h);have xs:∀{a b:Addr},C a≠.none->D<=b->a≠b:=λh aw q=>h (by rw[q];exact S4 aw);have Ix:cG≠ah:=xs (by rw[fU];exact λz=>bR z rfl) xO;have tc:dr ah=.none:=nE.fresh<|aI hsz<|b3▸xO;have Co:dr D=.none:=nE.fresh (by rw[b3];exact hsz);have y8:=QW.upd (d:=ah) (by rw[c2];trivial) bY (by obtain⟨o,_,_,aA,-⟩:=G';rw[aA];rfl) s.toks;have d8:=((x.trans lK).trans TF).upd (d:=ah) (by rw[tc];exact id) bY s.toks;obtain⟨o9,wL⟩:∃o9,o9=cC (cC C D .ext) ah .ext:=⟨_,rfl⟩;have sk:o9 ah=.ext:=by rw[wL];exact c2 _ _ _
 have U3:o9 D=.ext:=by rw[wL,bX vn];exact c2 _ _ _
 have V':o9 cG=.ext:=by rw[wL,bX Ix,bX FW];exact fU
 have D4:∀a,(C a≠.none)->o9 a=C a:=λa h=>by rw[wL,bX<|xs h xO,bX<|xs h<|dA _]
 rw[<-wL]at y8 d8;obtain⟨ma,k3⟩:∃ma:Nd,ma={s with heap:=mr,toks:=s.toks}:=⟨_,rfl⟩;have y8:c.I o9 J ma:=by rw[k3];exact y8
 have d8:br dr eS o9 ma:=by rw[k3];exact d8
 have x4:=lB.ext nE d8;have ZD:ma.heap.Ns ah tN:=by rw[k3];exact G'
 have oJ:ac.locals≠ah:=by intro q;have:=lB.bE.loc;rw[q,tc]at this;exact bR this rfl
 have Cd:ac.locals≠D:=by intro q;have:=lB.bE.loc;rw[q,Co]at this;exact bR this rfl
 have GH:ac.locals≠cG:=by intro q;have:=lB.bE.loc;rw[q,GP]at this;exact bR this rfl
 have old:∀b o,s.heap.get? b=some o->ma.heap.get? b=some o:=λb o eb=>by rw[k3];exact bY b o (by rw[nq,b3];exact gK<|m6<|j5 eb)<|ik _<|ik _ eb
 have fR:Pos 0 (swap o9 ac.locals ah k) ma:=S.keep 0 C s _ _ p (λa o e8 e' ev a_=>have aE:C a≠.none:=λz=>(by rw[z]at ev;exact ev);⟨old a o e',(i6 (xs aE xO) λq=>a_ k<|by rw[q];exact(lB.ext nE x).bE.loc).trans<|D4 a aE⟩) (λa n e'=>xl x4.bE.loc sk ((D4 a<|by rw[e'];intro z;exact bR z rfl).trans e') (λz=>(nomatch z)) λj z=>(nomatch z))<|λa n e'=>xl x4.bE.loc sk ((D4 a<|by rw[e'];intro z;exact bR z rfl).trans e') (λz=>(nomatch z)) λj z=>(nomatch z);have Qw:ma.heap.get? D=some (cu [].toArray 0):=by rw[k3];exact bY D _ vn (ik _<|by exact b3▸gZ _ rfl)
 have KW:codeAny c.M A (.compLoop (.ListComp f6 [⟨target,iter,ifs,0⟩] scope pos) 0 (.ref cG) (.ref D)<|compEnvC scope cl ah ac) (nY (.ref D) ah) ma:=by refine WG K ca hc gI ge S dc rfl (λy a1=>by rw[wm,K.st y a1];rfl) (l8:=Internal.hide dr ac.locals) (mX:=eS) (by rw[n6 Cd.symm];exact Co) (by show Internal.hide dr ac.locals ah=.none;rw[n6 oJ.symm];exact tc) (by rw[n6 GH.symm];exact GP) FW (y8.swap x4.bE.loc sk) (WC K x4 eQ ZD sk) (by rw[i6 Ix GH.symm];exact V') (by rw[i6 vn Cd.symm];exact U3) Qw (d8.hide lB.bE.loc tc) fR e λaO bG ar c9 bC m hS uh dk eJ ix h5 aj af hz am=>?_;obtain⟨_,WZ,_,_,wy,-⟩:=lB.bE.mf;have k5:aO ac.locals=.ext:=(eJ.kept ac.locals WZ wy<|by rw[vv];trivial).2.trans<|vv _ _;have EW:=eJ.MX (ah:=ah) lB.bE.loc tc;exact xH D ah _ _ ar c9 bC m hS uh (dk.swap h5 k5) EW (lB.ext nE EW) Co ((i6 Cd.symm vn).trans ix) tc (tz oJ.symm) vn.symm aj (af.mono (λb o eb=>xl h5 k5 eb (λz=>(nomatch z)) λj z=>(nomatch z)) λb o eb=>xl h5 k5 eb (λz=>(nomatch z)) λj z=>(nomatch z)) hz am
 have:=codeAny_compStart_list (R:=nY (.ref D) ah) KW<|S.self 0 _ _ _ _ fR KW;rw[k3,cf]at this;exact this
def xa(ei:dm)(fb:dm)(fF:hi)(bk:ĉ)(aS:IF Č):dm:=λr J K=>ei r J<|kh (kE fb fF bk aS r) K
theorem Sd{C:aY}{J:St}{s:Nd}(I:c.I C J s){x:B}{X:Ĉ}{bP:IF B}(h:gq c.P C s.heap x X)(e:items x=some bP):bP.length<=a3/\∀b,X=.ref b->(C b).kept/\(∀k,C b≠.loc k)/\∃o,s.heap.get? b=some o:=by
 have lJ:∀{b:Addr} {o:Obj},C b=.a5 o->(C b).kept/\(∀k,C b≠.loc k)/\∃o,s.heap.get? b=some o:=λe=>⟨by rw[e];trivial,λk=>(by rw[e];intro z;exact bR z rfl),_,I.a5 _ _ e⟩;have EZ:∀{b:Addr} {o:Obj},((C b=.a5 o)\/(∃i,C b=.own i)/\s.heap.get? b=some o)->(C b).kept/\(∀k,C b≠.loc k)/\∃o,s.heap.get? b=some o:=λe=>e.elim lJ λ⟨⟨_,e⟩,aA⟩=>⟨by rw[e];trivial,λk=>(by rw[e];intro z;exact bR z rfl),_,aA⟩;have xr:∀{a b:Addr},((C a).kept/\(∀k,C a≠.loc k)/\∃o,s.heap.get? a=some o)->Value.ref a=.ref b->(C b).kept/\(∀k,C b≠.loc k)/\∃o,s.heap.get? b=some o:=λh e=>Value.ref.inj e▸h;induction x using B.casesOn with
 |tup l=>obtain⟨a,Vs,n,rfl,ag,a8,c0⟩:=h.of;cases e;exact⟨c0,λb=>xr<|lJ ag⟩
 |lst l=>obtain⟨a,Vs,n,rfl,ag,a8,c0⟩:=h.of;cases e;exact⟨c0,λb=>xr<|EZ ag⟩
 |str l=>obtain⟨t,rfl,aj⟩:=h.of;cases e;exact⟨by rw[bV];exact aj,λb aw=>by exact HH aw rfl⟩
 |bb l=>obtain⟨a,es,n,rfl,ag,a8,c0,c7⟩:=h.of;obtain⟨-,e⟩:=g4 e;cases e;exact⟨by rw[bV];exact c0,λb=>xr<|EZ<|ag.imp And.left id⟩
 |ez a b=>obtain⟨a,t,u,w,rfl,ag,a8,c0,c7⟩:=h.of;cases e;exact⟨by rw[bV,t3];exact c7,λb=>xr<|lJ ag⟩
 |_=>exact b0 e
theorem BH{ns:bI}{cy b6:Str->ĉ}{scope:Scope}{aS:IF Č}(aX:c.Ok)(K:pm c ns cy b6 scope aS)(ca:A.handled=none){bk:ĉ}{target iter f6:ċ}{ifs:IF ċ}{pos:Pos}(hc:mu (c.comp ns cy b6) bk target aS){fF:hi}{fb ei:dm}(gI:pi (c.comp ns cy b6) A ifs fF)(ge:Good (c.comp ns cy b6) A f6 fb)(gl:lM c A iter ei){O:Ĉ->Nd->Prop}{s:Nd}{ac:Env}{C:aY}{r:aJ}{J:St}{k:Č}{KK:B->St->Prop}{nY:Ĉ->Addr->Result->Nd->Prop}(I:c.I C J s)(F:c.F C ac r s.heap k)(e:xa ei fb fF bk aS r J KK){cl:IF (Str×Addr)}(eQ:∀y∈scope.names,y.2=.free->cl.lookup y.1=ac.cells.lookup y.1)(xH:∀D ah aO bG ar c9 bC m hS,KK (.lst c9) bG->c.I aO bG ar->br C s aO ar->c.F aO ac r ar.heap k->C D=.none->aO D=.ext->C ah=.none->aO ah=.ext->ah≠D->ar.heap.get? D=some (cu bC.toArray m)->bD c.P aO c9 bC->c9.length<=a3->ar.heap.Ns ah hS->nY (.ref D) ah (.ok .next) ar):wpAny c.M A (eval iter ac) (λx bt=>wpAny c.M A (pyIter x) (λit b_=>wpAny c.M A (newList []) (λen f9=>wpAny c.M A (newFunctionEnv scope ac.globals cl [] ac.qual none .none (some ac)) (λjU iy=>
 codeAny c.M A (.compStart (.ListComp f6 [⟨target,iter,ifs,0⟩] scope pos) 0 it en {jU with scope:=relabel scope ac}) (nY en jU.locals) iy) O f9) O b_) O bt) O s:=by
 refine gl.use I F e λx db a8 X bL bt a0 bU bo c8=>?_;have rQ:bL bt.heap.objs.size=.none:=a0.fresh<|dA _;have k0:∀{D:Addr},bL D=.none->C D=.none:=λ{D} h=>by
  induction q:C D with
  |none=>rfl
  |_=>
   exfalso;obtain⟨o,aA⟩:=ha.mp (I.alloc D<|by rw[q];intro z;exact bR z rfl);first
    |(have z:=(bo.kept _ o aA<|by rw[q];trivial).2;rw[h,q]at z;exact bR z rfl)
    |(have z:=bo.st _ _ q;rw[h]at z;exact bR z rfl)
    |(have z:=bo.cF _ _ q;rw[h]at z;exact bR z rfl)
 by_cases az:∃n,x=.ref n
 .obtain⟨n,rfl⟩:=az;obtain⟨l,aK,m8⟩:=gS.dt a8;cases c8 with|val c8=>obtain⟨a,Vs,m,rfl,bZ,bs,dN,gQ⟩:=p0 a0 c8 aK;refine wpAny_pyIter_list (hW bs) ?_;refine Km K ca hc gI ge (N:=l.length) (kf:=λi=>nN (kE fb fF bk aS r) KK n (l.length-i) i) gQ (U1 ca<|gK<|by rw[rT];exact pF _) a0 bU (a0.push ⟨.type "list_iterator",none,.fields #[.ref a,.int 0 0],#[]⟩ rfl .ext<|.inr rfl) (br.push a0 ⟨.type "list_iterator",none,.fields #[.ref a,.int 0 0],#[]⟩ .ext) rQ (c2 _ _ _) (by rw[rT];exact kc _) ⟨a,(bX (gK (j5 bs):a≠bt.heap.objs.size)).trans bZ,⟨_,gZ _ rfl,rfl,rfl⟩,f_ _,c2 _ _ _⟩ m8 eQ λD ah aO bG ar c9 bC m hS uh G E aC ba cN d7 fm qA er sf s1 mD=>?_;exact xH D ah aO bG ar c9 bC m hS uh G (bo.trans E) aC (k0 ba) cN (k0 d7) fm qA er sf (aI s1 gQ) mD
 .have c0:ax (items x) λbP=>j6 (kE fb fF bk aS r) KK bP [] db:=by induction x using B.casesOn<;>first|exact a8|exact absurd ⟨_,rfl⟩ az
  refine ax.dt c0 λbP c7 fz=>?_;obtain⟨g',GK⟩:=Sd a0 c8 c7;refine xX aX.sys a0 c8 c7 λo f8 P St T a7 st=>?_;have yG:∀b∈f8,b<bt.heap.objs.size+1:=λb aw=>by
   rcases T.Dw b aw with rfl|aw
   .exact pF _
   .obtain⟨-,-,cB,hr⟩:=GK b aw;exact m6<|j5 hr
  have d9:∀a,bL a≠.none->cC bL bt.heap.objs.size .ext a=bL a:=λa h=>bX (by rintro rfl;exact h rQ);refine Km K ca hc gI ge (N:=bP.length) (kf:=λi=>j6 (kE fb fF bk aS r) KK<|bP.drop i) g' (T8 ca T<|λaN=>m7 _ (by have:=yG _ aN;rwa[rT]at this)) a0 bU (a0.push o a7 .ext<|.inr rfl) (br.push a0 o .ext) rQ (c2 _ _ _) (by rw[rT];exact kc _) ⟨st,f_ _,λb aw=>?_,λa o e=>(d9 a<|by rw[e];intro z;exact bR z rfl).trans e,λa o e=>(d9 a<|by rw[e];intro z;exact bR z rfl).trans e⟩ fz eQ λD ah aO bG ar c9 bC m hS uh G E aC ba cN d7 fm qA er sf s1 mD=>?_
  .rcases T.Dw b aw with rfl|aw
   .rw[c2];exact⟨trivial,λk z=>(nomatch z),o,gZ _ a7⟩
   .obtain⟨dp,eh,cB,hr⟩:=GK b aw;rw[d9 b<|by intro z;rw[z]at dp;exact dp];exact⟨dp,eh,cB,ik _ hr⟩
  .exact xH D ah aO bG ar c9 bC m hS uh G (bo.trans E) aC (k0 ba) cN (k0 d7) fm qA er sf (aI s1 g') mD
theorem BN{ns:bI}{cy b6:Str->ĉ}{scope:Scope}{aS:IF Č}(K:pm c ns cy b6 scope aS){C:aY}{ac:Env}{r:aJ}{h:Heap}{k:Č}(F:c.F C ac r h k):∃cl,closureFor scope ac=pure cl/\∀y∈scope.names,y.2=.free->cl.lookup y.1=ac.cells.lookup y.1:=RI λy a1 e=>by obtain⟨be,v,bZ,-,-⟩:=F.bE.cells y.1<|.inl<|F.cl y.1<|K.free y a1 e;rw[bZ];rfl
theorem B_{ns:bI}{cy b6:Str->ĉ}{scope:Scope}{aS:IF Č}(aX:c.Ok)(K:pm c ns cy b6 scope aS)(ca:A.handled=none){bk:ĉ}{target iter f6:ċ}{ifs:IF ċ}{pos:Pos}(hc:mu (c.comp ns cy b6) bk target aS){fF:hi}{fb ei:dm}(gI:pi (c.comp ns cy b6) A ifs fF)(ge:Good (c.comp ns cy b6) A f6 fb)(gl:lM c A iter ei)(aK:qC iter=false):ql c A (.ListComp f6 [⟨target,iter,ifs,0⟩] scope pos) (λr J K=>j0<|xa ei fb fF bk aS r J K):=by
 intro O s ac C r J k KK Q I F e h;obtain⟨cl,G,E⟩:=BN K F;rw[eval_ListComp];refine Ch (use:=none) rfl (zi aK) G K.kind K.xT<|BH aX K ca hc gI ge gl (nY:=λen ah=>compPost c.M A O none Q en ah) I F e.of E λD ah aO bG ar c9 bC m hS af dk eJ g5 b3 ix cf h5 nq aj jB hz am=>?_;have h:=h _ _ af;clear af;refine⟨hS,am,λsn wF=>?_⟩;have bY:∀b o,b≠ah->ar.heap.get? b=some o->sn.get? b=some o:=λb o aw eb=>(wF.2 b aw).trans eb;by_cases Cg:(sn.get? ah).isSome=true
 .exact h D aO _ (dk.upd (d:=ah) (by rw[h5];trivial) bY Cg ar.toks) (eJ.upd (d:=ah) (by rw[cf];exact id) bY ar.toks) b3 ix<|.lst (bY D _ nq.symm aj) jB hz
 .have kg:∀{b b2},aO b=b2->b2≠.ext->b≠ah:=λe h q=>h<|e.symm.trans<|q▸h5;exact h D _ _ (u_ dk g5 h5 bY ar.toks).1 (eJ.drop cf h5 bY ar.toks) b3 ((bX nq.symm).trans ix)<|.lst (bY D _ nq.symm aj) (jB.mono (λb o e=>(bX<|kg e<|λz=>(nomatch z)).trans e) λb o e=>(bX<|kg e<|λz=>(nomatch z)).trans e) hz
theorem pA.a5{C:aY}{J:St}{s:Nd}(aX:c.Ok)(I:c.I C J s){D:Addr}{v:B}(b3:C D=.ext)(h:pA c C s D v):∃o,s.heap.get? D=some o/\bA c.P (cC C D<|.a5 o) v (.ref D):=by
 have kg:∀{b b2},C b=b2->b2≠.ext->b≠D:=λe h q=>h<|e.symm.trans<|q▸b3;induction h with
 |lst c3 bh cL=>exact⟨_,c3,.lst (c2 _ _ _) (bh.mono (λb o e=>(bX<|kg e<|λz=>(nomatch z)).trans e) λb o e=>(bX<|kg e<|λz=>(nomatch z)).trans e) cL⟩
 |bb c3 bh=>exact⟨_,c3.at_,.bb (c2 _ _ _) (c3.rel.mono (λb o e=>(bX<|kg e<|λz=>(nomatch z)).trans e) λb o e=>(bX<|kg e<|λz=>(nomatch z)).trans e) c3.a3 c3.nodup bh⟩
theorem z6{e:ċ}{w:dm}(aX:c.Ok)(g:ql c A e w):Good c A e w:=by intro O s ac C r J k K Q I F ag h;refine g O s ac C r J k K Q I F ag λv db e a aO ar dk eJ am ak af=>?_;obtain⟨o,G,E⟩:=af.a5 aX dk ak;exact h _ _ e _ _ ar (dk.turn (by rw[ak];trivial) G) (eJ.turn (by rw[am];exact id) ak) E
theorem Xr{ns:bI}{cy b6:Str->ĉ}{scope:Scope}{aS:IF Č}(aX:c.Ok)(K:pm c ns cy b6 scope aS)(ca:A.handled=none){bk:ĉ}{target iter f6:ċ}{ifs:IF ċ}{pos:Pos}(hc:mu (c.comp ns cy b6) bk target aS){fF:hi}{fb ei:dm}(gI:pi (c.comp ns cy b6) A ifs fF)(ge:Good (c.comp ns cy b6) A f6 fb)(gl:lM c A iter ei)(aK:qC iter=false){x:Str}{eL oU:Pos}{i:Č}(aB:c.ns.lookup x=some i)(az:c.b6 x=true):ga c A (.Assign [.Name x eL] (.ListComp f6 [⟨target,iter,ifs,0⟩] scope pos) oU) λr J KK=>j0 (xa ei fb fF bk aS r J<|qa i r KK):=by
 intro O s ac C r J k KK Q I F a8 h;obtain⟨b,aw⟩:∃b,swapsWith (.ListComp f6 [⟨target,iter,ifs,0⟩] scope pos) (some (.Name x eL)) oU.line ac=pure b:=⟨_,rfl⟩;cases b with
 |false=>exact wpAny_Assign_Name ((z6 aX<|B_ aX K ca hc gI ge gl aK).use I F a8 λv db e V bL bt a0 bU bo cn=>re aX a0 bU aB az cn λb_ ce bM oo ee=>h _ _ _ e _ bL b_ ce (bo.zero.trans bM) ee .go) aw
 |true=>obtain⟨cl,G,E⟩:=BN K F;rw[exec_Assign_Name_used _ _ _ _ aw];refine bd<|pV<|bd ?_;show wpAny _ A (do let _<-comprehension (.ListComp f6 [⟨target,iter,ifs,0⟩] scope pos) scope ac _ (newList []) false (eval iter ac) (some<|assign (.Name x eL) ac)) _ _ s;refine bd<|ln (Ch (use:=some<|assign (.Name x eL) ac) (Q:=λ_ ar=>Q .next ar) rfl (zi aK) G K.kind K.xT<|BH aX K ca hc gI ge gl (nY:=λen ah=>compPost c.M A O (some<|assign (.Name x eL) ac) (λ_ ar=>Q .next ar) en ah) I F a8.of E λD ah aO bG ar c9 bC m hS af dk eJ g5 b3 ix cf h5 nq aj jB hz am=>?_) (λ_ ar a_=>b4<|b4 a_) λ_ _ e=>e;have h:=h _ _ _ af;clear af;obtain⟨o,c3,bh⟩:=(pA.lst aj jB hz).a5 aX dk ix;have bM:=eJ.turn (r:=.a5 o) (by rw[b3];exact id) ix;have qR:cC aO D (.a5 o) ah=.ext:=(bX nq).trans h5;refine assign_Name<|re aX (dk.turn (d:=D) (by rw[ix];trivial) c3) (F.ext I bM) aB az bh λf9 fS fu IL jF=>?_;have hd:f9.heap.Ns ah hS:=am.at' λo e=>IL.tg ah o (λk z=>by rw[qR]at z;exact bR z rfl) (λk z=>by rw[qR]at z;exact bR z rfl) e;refine⟨hS,hd,λsn wF=>?_⟩;have bY:∀b o,b≠ah->f9.heap.get? b=some o->sn.get? b=some o:=λb o aw eb=>(wF.2 b aw).trans eb;obtain⟨hy,ny⟩:=u_ fS jF qR bY f9.toks;exact h _ _ _ hy ((bM.zero.trans fu).drop cf qR bY f9.toks) ny .go
theorem VB{ns:bI}{cy b6:Str->ĉ}{scope:Scope}{aS:IF Č}(aX:c.Ok)(K:pm c ns cy b6 scope aS)(ca:A.handled=none){bk:ĉ}{target iter f6:ċ}{ifs:IF ċ}{pos:Pos}(hc:mu (c.comp ns cy b6) bk target aS){fF:hi}{fb ei:dm}(gI:pi (c.comp ns cy b6) A ifs fF)(ge:Good (c.comp ns cy b6) A f6 fb)(gl:lM c A iter ei)(aK:qC iter=false){x:Str}{eL oU:Pos}{i:Č}(aB:c.ns.lookup x=some i)(az:c.b6 x=true):ga c A (.Assign [.Name x eL] (.ListComp f6 [⟨target,iter,ifs,0⟩] scope pos) oU) λr J KK=>j0 (xa ei fb fF bk aS r J<|uU i r KK):=by
 intro O s ac C r J k KK Q I F a8 h;obtain⟨b,aw⟩:∃b,swapsWith (.ListComp f6 [⟨target,iter,ifs,0⟩] scope pos) (some (.Name x eL)) oU.line ac=pure b:=⟨_,rfl⟩;cases b with
 |false=>exact Lb aX aw aB az (B_ aX K ca hc gI ge gl aK) I F a8 h
 |true=>obtain⟨cl,G,E⟩:=BN K F;rw[exec_Assign_Name_used _ _ _ _ aw];refine bd<|pV<|bd ?_;show wpAny _ A (do let _<-comprehension (.ListComp f6 [⟨target,iter,ifs,0⟩] scope pos) scope ac _ (newList []) false (eval iter ac) (some<|assign (.Name x eL) ac)) _ _ s;refine bd<|ln (Ch (use:=some<|assign (.Name x eL) ac) (Q:=λ_ ar=>Q .next ar) rfl (zi aK) G K.kind K.xT<|BH aX K ca hc gI ge gl (nY:=λen ah=>compPost c.M A O (some<|assign (.Name x eL) ac) (λ_ ar=>Q .next ar) en ah) I F a8.of E λD ah aO bG ar c9 bC m hS af dk eJ g5 b3 ix cf h5 nq aj jB hz am=>?_) (λ_ ar a_=>b4<|b4 a_) λ_ _ e=>e;have h:=h _ _ _ af;clear af;refine assign_Name<|C7 dk g5 az λf9 aT=>?_;have qR:hZ aO D i ah=.ext:=mj nq h5 λj q=>(nomatch q);refine⟨hS,(am.at' λo e=>aT.keep ah o (λk z=>by rw[h5]at z;exact bR z rfl) (λk z=>by rw[h5]at z;exact bR z rfl) e:f9.heap.Ns ah hS),λsn wF=>?_⟩;have bY:∀b o,b≠ah->f9.heap.get? b=some o->sn.get? b=some o:=λb o aw eb=>(wF.2 b aw).trans eb;obtain⟨hy,ny⟩:=u_ ((aT.I dk).hZ (i:=i) ix) (EP (aL:=.ol c9) aX dk aT g5 aB ix (.lst aj jB hz) rfl) qR bY f9.toks;exact h _ _ _ hy ((HF (i:=i) C s (eJ.zero.trans aT.ext) b3 ix).drop cf qR bY f9.toks) ny .go
def eu.g_:eu->ĉ
 |.loc _|.kS _|.own _=>true
 |_=>false
def cover (C:aY):aY:=λb=>if(C b).g_ then .ext else C b
def mix (C aO:aY):aY:=λb=>if(C b).g_ then C b else if(aO b).g_ then .ext else aO b
theorem pZ{C:aY}{b:Addr}{r:eu}(e:C b=r)(h:r.g_=false):cover C b=r:=by unfold cover;rw[e,h];rfl
theorem VV{C:aY}{b:Addr}(h:(C b).g_=true):cover C b=.ext:=by unfold cover;rw[h];rfl
theorem uw{C:aY}{b:Addr}{r:eu}(e:cover C b=r)(h:r≠.ext):C b=r/\r.g_=false:=by
 unfold cover at e;split at e
 .exact absurd e.symm h
 .rename_i q;exact⟨e,by rw[e]at q;simpa using q⟩
section
variable{P:Params}{N:g3}{H:Heap}{os:OsState}{C aO:aY}{J bG:St}{s ar:Nd}
theorem Inv.cover(I:Inv P N H os C J s):Inv P N H os (cover C) J s:=by
 have d9:∀b o,C b=.a5 o->Internal.cover C b=.a5 o:=λb o e=>pZ e rfl;refine⟨λb h=>I.alloc b λq=>h<|pZ q rfl,λa b e h=>?_,λb o e=>I.a5 b o (uw e<|λz=>(nomatch z)).1,λn ct e=>(I.store n ct e).mono d9 (λb o e=>pZ e rfl) (λb o e=>pZ e rfl) λ_ _ _ e=>e,λb o e=>d9 _ _<|I.base b o e,I.gens,I.hL,λb n e=>I.gx b n ?_⟩
 .have e8:Internal.cover C a≠.ext:=λz=>by rw[z]at h;exact h
  have G:=uw rfl e8;exact I.uniq a b (G.1.trans (uw e.symm e8).1.symm) (by rw[G.1];exact h)
 .rcases e with e|e
  .exact .inl (uw e<|λz=>(nomatch z)).1
  .exact .inr (uw e<|λz=>(nomatch z)).1
theorem AA{a:Addr}{o:Obj}(ae:∀b,(C b).g_=true->aO b=.ext)(e:aO a=.a5 o):mix C aO a=.a5 o:=by
 unfold mix;by_cases q:(C a).g_=true
 .rw[ae a q]at e;exact bR e rfl
 .rw[bm q,e];rfl
theorem Cj{a:Addr}{n:Č}(ae:∀b,(C b).g_=true->aO b=.ext)(e:aO a=.st n):mix C aO a=.st n:=by
 unfold mix;by_cases q:(C a).g_=true
 .rw[ae a q]at e;exact bR e rfl
 .rw[bm q,e];rfl
theorem HR{a:Addr}{n:Č}(ae:∀b,(C b).g_=true->aO b=.ext)(e:aO a=.cF n):mix C aO a=.cF n:=by
 unfold mix;by_cases q:(C a).g_=true
 .rw[ae a q]at e;exact bR e rfl
 .rw[bm q,e];rfl
theorem wx{a:Addr}{r:eu}(e:mix C aO a=r)(h:r.g_=false)(E:r≠.ext):aO a=r:=by
 unfold mix at e;split at e
 .rename_i q;rw[e,h]at q;exact cH q
 .split at e
  .exact absurd e.symm E
  .exact e
theorem Inv.mix(I:Inv P N H os C J s)(dk:Inv P N H os aO bG ar)(ae:∀b,(C b).g_=true->aO b=.ext):Inv P N H os (mix C aO) bG ar:=by
 refine⟨λb h=>?_,λa b e h=>?_,λb o e=>dk.a5 b o<|wx e rfl<|λz=>(nomatch z),λn ct e=>(dk.store n ct e).mono (λb o e=>AA ae e) (λb n e=>Cj ae e) (λb n e=>HR ae e) λ_ _ _ e=>e,λb o e=>AA ae<|dk.base b o e,dk.gens,dk.hL,λb n e=>dk.gx b n ?_⟩
 .by_cases q:(C b).g_=true
  .exact dk.alloc b (by rw[ae b q];intro z;exact bR z rfl)
  .refine dk.alloc b λz=>h ?_;unfold Internal.mix;rw[bm q,z];rfl
 .by_cases f':(C a).g_=true
  .have e':Internal.mix C aO a=C a:=by unfold Internal.mix;rw[bl f']
   by_cases e_:(C b).g_=true
   .have eb:Internal.mix C aO b=C b:=by unfold Internal.mix;rw[bl e_]
    exact I.uniq a b (by rw[<-e',<-eb];exact e) (by rw[<-e'];exact h)
   .exfalso;have:(Internal.mix C aO b).g_=false:=by
     unfold Internal.mix;rw[bm e_];split
     .rfl
     .rename_i q;simpa using q
    rw[<-e,e',f']at this;exact ig this
  .have e8:Internal.mix C aO a≠.ext:=λz=>by rw[z]at h;exact h
   have xA:(Internal.mix C aO a).g_=false:=by
    unfold Internal.mix;rw[bm f'];split
    .rfl
    .rename_i q;simpa using q
   have ag:=wx rfl xA e8;exact dk.uniq a b (ag.trans (wx e.symm xA e8).symm) (by rw[ag];exact h)
 .rcases e with e|e
  .exact .inl<|wx e rfl<|λz=>(nomatch z)
  .exact .inr<|wx e rfl<|λz=>(nomatch z)
theorem ew.mix(I:Inv P N H os C J s)(x:ew (Internal.cover C) s aO ar):(∀b,(C b).g_=true->aO b=.ext)/\br C s (mix C aO) ar:=by
 have ae:∀b,(C b).g_=true->aO b=.ext/\∀o,s.heap.get? b=some o->ar.heap.get? b=some o:=λb q=>by obtain⟨o,aA⟩:=ha.mp (I.alloc b<|by intro z;rw[z]at q;exact cH q);have aq:=VV q;refine⟨(x.ip b o aA<|by rw[aq];trivial).2.trans aq,λcB hr=>(x.ip b cB hr<|by rw[aq];trivial).1⟩
 have hI:∀b,(C b).g_=true->aO b=.ext:=λb q=>(ae b q).1;refine⟨hI,λa o e ev=>?_,λa n e=>Cj hI<|x.st a n<|pZ e rfl,λa n e=>HR hI<|x.cF a n<|pZ e rfl⟩;by_cases q:(C a).g_=true
 .exact⟨(ae a q).2 o e,by unfold Internal.mix;rw[bl q]⟩
 .have aq:Internal.cover C a=C a:=by unfold Internal.cover;rw[bm q]
  have ca:(Internal.cover C a).ip:=by rw[aq];revert q ev;induction C a<;>intro ev q<;>first|trivial|exact ev|exact absurd rfl q
  obtain⟨ag,a8⟩:=x.ip a o e ca;refine⟨ag,?_⟩;unfold Internal.mix;rw[bm q,a8,aq,bm q]
end
theorem DM{names:IF Str}{vals:IF Ĉ}(am:names.Nodup){i:Č}{n:Str}{v:Ĉ}(G:names[i]?=some n)(E:vals[i]?=some v):(names.zip vals).lookup n=some v:=by
 induction names generalizing vals i with
 |nil=>exact b0 G
 |cons m r ap=>
  induction vals using List.casesOn with
  |nil=>exact b0 E
  |cons w ur=>
   rw[y',kO];have hd:=hK.mp am;induction i with
   |zero=>cases G;cases E;rw[jP]
   |succ i=>have G:r[i]?=some n:=G;rw[lI.mpr λe:n=m=>hd.1<|e▸h' G];exact ap hd.2 G E
theorem XJ{names:IF Str}{vals:IF Ĉ}{n:Str}(h:n∉names.take vals.length):(names.zip vals).lookup n=none:=by
 induction names generalizing vals with
 |nil=>rfl
 |cons m r ap=>
  induction vals with
  |nil=>rfl
  |cons w ur=>rw[y',kO];have h:n∉m::r.take ur.length:=h;rw[lI.mpr λe:n=m=>h<|e▸.head _];exact ap λq=>h<|.tail _ q
theorem Zy{g:Str->Ċ (Str×Ĉ)}{names:IF Str}:∀{vals:IF Ĉ},vals.length=names.length->(∀(i:Č) n v,names[i]?=some n->vals[i]?=some v->g n=some (n,v))->names.filterMap g=names.zip vals:=by
 induction names with
 |nil=>intro vals _ _;rfl
 |cons m r ap=>
  intro vals h k;induction vals with
  |nil=>exact Nat.noConfusion h
  |cons w ur=>rw[y',BZ,k 0 m w rfl rfl,ap (Nat.succ.inj h) λi n v G E=>k (i+1) n v G E]
theorem TY(f:Str×Ĉ->IF (Str×Ĉ)->Sem (ForInStep<|List<|Str×Ĉ))(a7:∀x S,f x S=if(S.lookup x.1).isNone=true then pure (.yield<|S++[(x.1,x.2)])else pure (.yield S)){l:IF (Str×Ĉ)}:∀{S:IF (Str×Ĉ)} {m:Č},(l.map (·.1)).Nodup->(∀(i:Č) p,l[i]?=some p->i<m->(S.lookup p.1).isNone=false)->(∀(i:Č) p,l[i]?=some p->m<=i->S.lookup p.1=none)->∀{M:Model} {A:Around} {O:Ĉ->Nd->Prop} {s:Nd} {Q:IF (Str×Ĉ)->Nd->Prop},Q (S++l.drop m) s->wpAny M A (forIn l S f) Q O s:=by
 induction l with
 |nil=>intro S m _ _ _ M A O s Q q;rw[List.drop_nil,gN]at q;exact b4 q
 |cons p l ap=>
  intro S m am G E M A O s Q q;rw[DL,a7];have am:=hK.mp am;refine bd ?_;induction m with
  |zero=>
   rw[bl<|by rw[E 0 p rfl<|dA _];rfl];refine b4<|ap (m:=0) am.2 (λi q _ aB=>absurd aB<|xd _) (λi q a_ _=>?_) ?_
   .rw[Ef,E (i+1) q a_<|f_ _,Option.none_or,kO,lI.mpr λe:q.1=p.1=>am.1<|dq.mpr ⟨q,h' a_,e⟩];rfl
   .rw[hF];exact q
  |succ m=>rw[bm<|by rw[G 0 p rfl<|nV _];exact dT];exact b4<|ap am.2 (λi q a_ aB=>G (i+1) q a_<|wE aB) (λi q a_ aB=>E (i+1) q a_<|c' aB) q
def B1 (p:Arguments):ĉ:=p.posonlyargs.isEmpty&&p.kwonlyargs.isEmpty&&p.vararg.isNone&&p.kwarg.isNone
def lX (vals cO:IF Ĉ) (np:Č):IF Ĉ:=vals++cO.drop (cO.length-(np-vals.length))
theorem Fh{vals cO:IF Ĉ}{n:Č}(G:vals.length<=n)(E:n<=vals.length+cO.length):(lX vals cO n).length=n:=by unfold lX;rw[da,uZ,Nat.sub_sub_self<|Nat.sub_le_of_le_add (qb .. ▸E),Db G]
theorem IY{c:ĉ}(h:c=false):decide (c=true)=false:=by rw[h];rfl
theorem Mg{names:IF Str}{vals cO:IF Ĉ}{cR:Prop}(am:names.Nodup)(aj:vals.length<=names.length)(xD:names.length<=vals.length+cO.length)(jK:cO.length<=names.length)(k:(decide (vals.length>names.length)&&true)=false->(!(((names.take<|names.length-(cO.drop<|cO.length-names.length).length).filter λn=>((names.zip vals).lookup n).isNone).isEmpty))=false->((((names.drop<|names.length-(cO.drop<|cO.length-names.length).length).zip<|cO.drop<|cO.length-names.length).map (·.1)).Nodup)->(∀(i:Č) p,((names.drop<|names.length-(cO.drop<|cO.length-names.length).length).zip<|cO.drop<|cO.length-names.length)[i]?=some p->i<vals.length-(names.length-cO.length)->((names.zip vals).lookup p.1).isNone=false)->(∀(i:Č) p,((names.drop<|names.length-(cO.drop<|cO.length-names.length).length).zip<|cO.drop<|cO.length-names.length)[i]?=some p->vals.length-(names.length-cO.length)<=i->(names.zip vals).lookup p.1=none)->((names++[]).filterMap λn=>((names.zip vals++((names.drop<|names.length-(cO.drop<|cO.length-names.length).length).zip<|cO.drop<|cO.length-names.length).drop (vals.length-(names.length-cO.length))).lookup n).map (n,·))=names.zip (lX vals cO names.length)->cR):cR:=by
 have c7:cO.drop (cO.length-names.length)=cO:=by rw[Nat.sub_eq_zero_of_le jK];rfl
 rw[c7]at k;have aE:names.length-cO.length<=vals.length:=Nat.sub_le_of_le_add xD;have at_:∀(i:Č) p,((List.drop (names.length-cO.length) names).zip cO)[i]?=some p->names[names.length-cO.length+i]?=some p.1/\cO[i]?=some p.2:=λi p h=>by obtain⟨G,E⟩:=List.getElem?_zip_eq_some.mp h;rw[vA]at G;exact⟨G,E⟩
 have fresh:∀(j:Č) n,names[j]?=some n->vals.length<=j->(names.zip vals).lookup n=none:=λj n b' af=>by refine XJ λaN=>?_;obtain⟨i,aB,e⟩:=List.mem_iff_getElem.mp aN;clear aN;rw[zw]at aB;rw[List.getElem_take]at e;have iE:i<names.length:=gH aB<|Nat.min_le_right _ _;have:=(List.getElem?_inj iE am (j:=j)).mp (by rw[b',fq iE,e]);exact absurd (gH aB<|BQ _ _)<|rk.mpr<|this▸af
 have KP:∀(j:Č) n,names[j]?=some n->j<vals.length->((names.zip vals).lookup n).isNone=false:=λj n b' af=>by rw[DM am b'<|fq af];rfl
 refine k (by rw[eC<|rk.mpr aj];rfl) ?_ ?_ (λi p h aB=>KP _ _ (at_ i p h).1<|Nat.add_lt_of_lt_sub' aB) (λi p h aB=>fresh _ _ (at_ i p h).1<|Nat.sub_le_iff_le_add'.mp aB) ?_
 .rw[uI.mpr λn lq=>?_]
  .rfl
  .obtain⟨i,aB,e⟩:=List.mem_iff_getElem.mp lq;clear lq;rw[zw]at aB;rw[List.getElem_take]at e;rw[KP i n (by rw[<-e];exact fq _)<|gH (gH aB<|BQ _ _) aE];exact dT
 .rw[List.map_fst_zip<|by rw[uZ];exact fQ<|Nat.sub_sub_self jK];exact am.sublist<|List.drop_sublist _ _
 .have md:=Fh aj xD;have aq:vals.length-(names.length-cO.length)=cO.length-(names.length-vals.length):=by rw[Nat.sub_sub_right _ jK,Nat.sub_sub_right _ aj,qb]
  rw[gN];refine Zy md λi n v G E=>?_;rw[Ef];unfold lX at E;by_cases af:i<vals.length
  .rw[px af]at E;rw[DM am G E];rfl
  .have af:=rk.mp af;rw[o7 af,vA]at E;rw[fresh i n G af,Option.none_or,List.zip_eq_zipWith,List.drop_zipWith,<-List.zip_eq_zipWith,List.drop_drop];have iE:=(g0.mp G).1;rw[DM (i:=i-vals.length) (v:=v) (am.sublist<|List.drop_sublist _ _) (by rw[vA,Db aE,Db af];exact G)<|by rw[vA,aq];exact E];rfl
theorem LM{s:Nd}{eK:FuncData}{names:IF Str}{vals cO:IF Ĉ}(ae:B1 eK.params=true)(ak:eK.params.args.map (·.arg)=names)(am:names.Nodup)(aj:vals.length<=names.length)(bg:(eK.defaults=.none/\cO=[])\/dI λT o k=>dJ (eK.defaults=.ref T) (s.heap.get? T=some o)<|o.data=.seq cO.toArray k)(xD:names.length<=vals.length+cO.length)(jK:cO.length<=names.length):BindsTo s eK ⟨vals,[]⟩ (names.zip<|lX vals cO names.length):=by
 obtain⟨lx,cK,fp,e⟩:dI λlx cK fp=>eK.params=⟨[],lx,none,[],cK,none,fp⟩:=by have h:=gA.mp ae;have G:=gA.mp h.1;have E:=gA.mp G.1;have dp:=fW.mp E.1;have eh:=fW.mp E.2;have fR:=qr.mp G.2;have iv:=qr.mp h.2;clear h G E ae ak bg;generalize eK.params=p at*;obtain⟨Us,lx,mM,w6,cK,ev,fp⟩:=p;exact⟨lx,cK,fp,by rw[show Us=[]from dp,show w6=[]from eh,show mM=none from fR,show ev=none from iv]⟩
 rw[e]at ak;obtain rfl:lx.map (·.arg)=names:=ak;intro M A O Q a_;unfold bindArgs;rw[e];obtain⟨w0,rfl,YF⟩:∃w0:Ċ (Array Ĉ),(w0.getD #[]).toList=cO/\∀bT,bT w0 s->wpAny M A (seqItems? eK.defaults) bT O s:=by
  rcases bg with⟨G,E⟩|⟨T,o,k,G,E,aC⟩
  .refine⟨none,by rw[E];rfl,λbT h=>?_⟩;rw[G];exact b4 h
  .refine⟨some cO.toArray,rfl,λbT h=>?_⟩;rw[G];exact wpAny_seqItems E aC h
 refine Mg am aj xD jK λag a8 c0 c7 m8 fz=>bd<|b4<|bd<|YF _<|wpAny_ite_false (IY ag)<|wpAny_ite_false (IY a8)<|bd<|TY _ (λ_ _=>rfl) (m:=vals.length-((lx.map (·.arg)).length-(w0.getD #[]).toList.length)) c0 c7 m8<|bd<|b4 ?_;show wpAny M A (pure _) Q O s;exact b4<|Eq.mpr (bH (λb=>Q b s) fz) a_
theorem v1{x:Str}:∀{names:IF (Str×NameKind)} {n:Č} {en:IF (Str×Addr)},((∃c,(x,c)∈en)\/(x,NameKind.cell)∈names)->∃c,(x,c)∈cellsFrom n names en
 |[],n,en,h=>by
  rcases h with h|h
  .exact h
  .simp at h
 |(y,k)::r,n,en,h=>by
  unfold cellsFrom;split
  .rename_i aE;refine v1 ?_;rcases h with⟨c,h⟩|h
   .exact .inl ⟨c,qV _ h⟩
   .rcases eD.mp h with e|h
    .cases e;exact .inl ⟨n,tk⟩
    .exact .inr h
  .rename_i aE;refine v1 ?_;rcases h with h|h
   .exact .inl h
   .rcases eD.mp h with e|h
    .cases e;exact absurd rfl aE
    .exact .inr h
theorem AD{b9:Type}{x:Str}{l:IF (Str×b9)}:(∃c,(x,c)∈l)->(l.lookup x).isSome=true:=by
 induction l with
 |nil=>exact λ⟨_,h⟩=>nomatch h
 |cons p r ap=>
  intro h;rw[kO];induction q:x==p.1 using Bool.casesOn with
  |true=>rfl
  |false=>
   refine ap ?_;obtain⟨c,h⟩:=h;cases h with
   |head=>exact absurd (jP x) (by rw[q];exact dT)
   |tail _ h=>exact⟨c,h⟩
theorem UI{cK:Str->Ċ NameKind}{n:Str}{jq:IF (Str×Ĉ)}:∀{m:Str->Ċ Ĉ},(∀p∈jq,p.1≠n)->bindL cK jq m n=m n:=by
 induction jq with
 |nil=>exact λ_=>rfl
 |cons p r ap=>
  intro m h;unfold bindL;rw[ap λq a_=>h q<|.tail _ a_];by_cases aE:cK p.1=some .local
  .rw[bl aE];exact bm<|io<|h p<|.head _
  .rw[bm aE]
theorem UC{cK:Str->Ċ NameKind}{n:Str}{jq:IF (Str×Ĉ)}:∀{m:Str->Ċ Ĉ},(∀p∈jq,p.1≠n)->bindC cK jq m n=m n:=by
 induction jq with
 |nil=>exact λ_=>rfl
 |cons p r ap=>
  intro m h;unfold bindC;rw[ap λq a_=>h q<|.tail _ a_];by_cases aE:cK p.1=some .local
  .rw[bl aE]
  .rw[bm aE];exact bm<|io<|h p<|.head _
theorem JM{n:Str}{V:Ĉ}{r:IF (Str×Ĉ)}(h:n∉r.map (·.1)):∀p∈r,p.1≠n:=λp ae q=>h<|q▸fx (f:=λx:Str×Ĉ=>x.1) ae
theorem MY{cK:Str->Ċ NameKind}{n:Str}{V:Ĉ}(aE:cK n=some .local){jq:IF (Str×Ĉ)}:∀{m:Str->Ċ Ĉ},(jq.map (·.1)).Nodup->(n,V)∈jq->bindL cK jq m n=some V:=by
 induction jq with
 |nil=>exact λ_ h=>nomatch h
 |cons p r ap=>
  intro m am h;have am:=hK.mp am;cases h with
  |head=>unfold bindL;rw[UI<|JM (V:=V) am.1,bl aE];exact bl rfl
  |tail _ h=>unfold bindL;exact ap am.2 h
theorem OK{cK:Str->Ċ NameKind}{n:Str}{V:Ĉ}(aE:¬cK n=some .local){jq:IF (Str×Ĉ)}:∀{m:Str->Ċ Ĉ},(jq.map (·.1)).Nodup->(n,V)∈jq->bindC cK jq m n=some V:=by
 induction jq with
 |nil=>exact λ_ h=>nomatch h
 |cons p r ap=>
  intro m am h;have am:=hK.mp am;cases h with
  |head=>unfold bindC;rw[UC<|JM (V:=V) am.1,bm aE];exact bl rfl
  |tail _ h=>unfold bindC;exact ap am.2 h
def jb (C:aY) (aP:Addr) (b1:IF (Str×Addr)):aY:=λb=>if b=aP then .loc 0 else match b1.find? (λp=>p.2==b&&b1.lookup p.1==some b)with
 |some p=>.kS p.1
 |none=>cover C b
theorem Nz(C:aY)(aP:Addr)(b1:IF (Str×Addr)):jb C aP b1 aP=.loc 0:=bl rfl
theorem OA{C:aY}{aP:Addr}{b1:IF (Str×Addr)}(ie:b1.Pairwise λx y=>x.2≠y.2)(lU:∀n c,(n,c)∈b1->aP<c){x:Str}{b:Addr}(h:b1.lookup x=some b):jb C aP b1 b=.kS x:=by
 have aN:=mem_of_lookup h;unfold jb;rw[bm<|ze<|lU x b aN];induction a7:b1.find? (λp=>p.2==b&&b1.lookup p.1==some b)with
 |none=>have:=List.find?_eq_none.mp a7 (x,b) aN;simp[h]at this
 |some p=>have G:=ua a7;have E:=xP a7;simp only[e2,fM]at G;have:p.1=x:=name_of_addr ie (n:=p.1) (n':=x) (c:=b) (by rw[<-G.1];exact E) aN;simp[this]
theorem wk{C:aY}{aP:Addr}{b1:IF (Str×Addr)}{b:Addr}{r:eu}(e:jb C aP b1 b=r):(b=aP/\r=.loc 0)\/(∃x,b1.lookup x=some b/\r=.kS x)\/cover C b=r:=by
 unfold jb at e;split at e
 .rename_i q;exact .inl ⟨q,e.symm⟩
 .split at e
  .rename_i p a7;have G:=ua a7;simp only[e2,fM]at G;exact .inr<|.inl ⟨p.1,G.2,e.symm⟩
  .exact .inr<|.inr e
theorem Ux{C:aY}{aP:Addr}{b1:IF (Str×Addr)}(lU:∀n c,(n,c)∈b1->aP<c){b:Addr}(h:b<aP):jb C aP b1 b=cover C b:=by
 unfold jb;rw[bm<|gK h];induction a7:b1.find? (λp=>p.2==b&&b1.lookup p.1==some b)with
 |none=>rfl
 |some p=>have G:=ua a7;have E:=xP a7;simp only[e2,fM]at G;have:=lU p.1 p.2 E;rw[G.1]at this;exact absurd this<|Nat.lt_asymm h
theorem Inv.frame{P:Params}{N:g3}{H:Heap}{os:OsState}{C:aY}{J:St}{s bt:Nd}(I:Inv P N H os C J s){b1:IF (Str×Addr)}{m ul:Str->Ċ Ĉ}(x:InCallC s s.heap.objs.size m b1 ul bt):Inv P N H os (jb C s.heap.objs.size b1) J bt/\ew (Internal.cover C) s (jb C s.heap.objs.size b1) bt:=by
 have keep:=x.toInCall.keep;obtain⟨mr,cI,G6⟩:=x.toInCall.same;have p3:=I.cover;have o':∀{b:Addr} {r:eu},Internal.cover C b=r->r≠.none->jb C s.heap.objs.size b1 b=r:=λ{b r} e h=>by
  have aw:b<s.heap.objs.size:=by
   induction Nat.lt_or_ge b s.heap.objs.size with
   |inl h=>exact h
   |inr aR=>exact absurd (e.symm.trans<|p3.fresh aR) h
  rw[Ux x.above aw];exact e
 have d9:∀b o,Internal.cover C b=.a5 o->jb C s.heap.objs.size b1 b=.a5 o:=λb o e=>o' e<|λz=>(nomatch z);have eY:∀b o,Internal.cover C b=.st o->jb C s.heap.objs.size b1 b=.st o:=λb o e=>o' e<|λz=>(nomatch z);have qi:∀b o,Internal.cover C b=.cF o->jb C s.heap.objs.size b1 b=.cF o:=λb o e=>o' e<|λz=>(nomatch z);have np:∀b,(Internal.cover C b).g_=false:=λb=>by
  unfold Internal.cover;split
  .rfl
  .rename_i q;simpa using q
 refine⟨⟨λb h=>?_,λa b e h=>?_,λb o e=>?_,λn ct e=>(p3.store n ct e).mono d9 eY qi λa o _ e=>keep a o e,λb o e=>d9 _ _<|p3.base b o e,by rw[G6];exact I.gens,by rw[G6];exact I.hL,λb n e=>?_⟩,λa o e ca=>⟨keep a o e,o' rfl<|λz=>by rw[z]at ca;exact ca⟩,eY,qi⟩
 .rcases wk (r:=jb C s.heap.objs.size b1 b) rfl with⟨rfl,-⟩|⟨y,a1,-⟩|aq
  .obtain⟨o,_,_,aA,-⟩:=x.toInCall.ns;rw[aA];rfl
  .obtain⟨o,aA,-⟩:=x.cell y b a1;rw[aA];rfl
  .obtain⟨o,aA⟩:=ha.mp (p3.alloc b<|by rw[aq];exact h);rw[keep b o aA];rfl
 .have ak:=wk (r:=jb C s.heap.objs.size b1 a) rfl;have aw:=wk (r:=jb C s.heap.objs.size b1 b) rfl;rw[<-e]at aw;rcases ak with⟨ak,qS⟩|⟨y,a1,qS⟩|oM
  .rw[qS]at aw;rcases aw with⟨aw,-⟩|⟨z,-,jh⟩|gD
   .rw[ak,aw]
   .exact bR jh rfl
   .have:=np b;rw[gD]at this;exact ig this
  .rw[qS]at aw;rcases aw with⟨-,jh⟩|⟨z,hz,jh⟩|gD
   .exact bR jh rfl
   .cases jh;rw[a1]at hz;cases hz;rfl
   .have:=np b;rw[gD]at this;exact ig this
  .rcases aw with⟨-,jh⟩|⟨z,-,jh⟩|gD
   .have:=np a;rw[oM,jh]at this;exact ig this
   .have:=np a;rw[oM,jh]at this;exact ig this
   .exact p3.uniq a b (oM.trans gD.symm) (by rw[oM];exact h)
 .rcases wk e with⟨-,r⟩|⟨z,-,r⟩|c
  .exact bR r rfl
  .exact bR r rfl
  .exact keep b o<|p3.a5 b o c
 .rcases e with e|e<;>rcases wk e with⟨-,r⟩|⟨z,-,r⟩|c
  .exact bR r rfl
  .exact bR r rfl
  .exact p3.gx b n<|.inl c
  .exact bR r rfl
  .exact bR r rfl
  .exact p3.gx b n<|.inr c
structure GO(c:cc)(yi:Addr)(eK:FuncData)(body:List Stmt)(names:List Str)(lO:Nat)(dflt:List B)(cO:List Value):Prop where
 obj:∃o,c.H.get? yi=some o/\o.data=.func eK
 glob:eK.globals=mainGlobals
 lp:eK.builtins=builtinsNs
 Vp:eK.closure=[]
 R7:eK.body=.stmts body
 kind:eK.scope.kind=.function
 Q7:eK.scope.isCoroutine=false
 ngen:eK.scope.isGenerator=false
 lim:c.H.NoLimit
 code:c.H.CodeRec eK.code eK.qualname
 plain:B1 eK.params=true
 Yw:eK.params.args.map (·.arg)=names
 nodup:names.Nodup
 VM:(eK.defaults=.none/\cO=[])\/dI λT o k=>dJ (eK.defaults=.ref T) (c.H.get? T=some o)<|o.data=.seq cO.toArray k
 Iq:bD c.P (f0 c.H) dflt cO
 QS:cO.length<=names.length
 par:∀n∈names,eK.scope.names.lookup n=some .local\/eK.scope.names.lookup n=some .cell
 Sy:∀y∈eK.scope.names,y.2≠.free
 vars:∀x i,c.ns.lookup x=some i->(i<names.length->names[i]?=some x)/\i<lO
 gl:∀x,c.cy x=true->eK.scope.names.lookup x=some .globalImplicit
 st:∀x,c.b6 x=true->eK.scope.names.lookup x=some .local\/eK.scope.names.lookup x=some .cell
 kL:∀x,c.kL x=true->eK.scope.names.lookup x=some .cell
theorem Zd{yi:Addr}{eK:FuncData}{body:IF Stmt}{names:IF Str}{lO:Č}{dflt:IF B}{cO:IF Ĉ}(aX:c.Ok)(D:GO c yi eK body names lO dflt cO)(SQ:A.depth<recursionLimit){kw:n_}(lv:∀de,mS c (A.deeper de) body kw){Ql:IF dF}{vs:IF B}{r:aJ}{J:St}{KK:B->St->Prop}(ag:sd ⟨names.length,lO,dflt,Ql⟩ vs=some r)(a8:kw r J λcM _ s=>KK cM.val s){s:Nd}{C:aY}{Vs:IF Ĉ}{R:Result->Nd->Prop}(I:c.I C J s)(af:bD c.P C vs Vs)(h:∀v bG,KK v bG->∀V aO ar,c.I aO bG ar->br C s aO ar->bA c.P aO v V->R (.ok<|.ret V) ar):codeAny c.M A (.call (.ref yi) ⟨Vs,[]⟩) R s:=by
 unfold sd at ag;split at ag
 .rename_i sP;simp only at sP ag;cases ag;have dU:=af.length;have oS:=D.Iq.length;obtain⟨o,aA,Vt⟩:=D.obj;have hr:=I.l_ _ _ aA;have Hv:Vs.length<=names.length:=aI (fQ dU) sP.1;have lq:names.length<=Vs.length+cO.length:=by rw[dU,oS];exact sP.2
  have RB:BindsTo s eK ⟨Vs,[]⟩ (names.zip<|lX Vs cO names.length):=by
   refine LM D.plain D.Yw D.nodup Hv ?_ lq D.QS;rcases D.VM with h|⟨T,hB,k,G,E,aC⟩
   .exact .inl h
   .exact .inr ⟨T,hB,k,G,I.l_ _ _ E,aC⟩
  have md:(lX Vs cO names.length).length=names.length:=Fh Hv lq;have C6:∀x∈names.zip (lX Vs cO names.length),eK.scope.names.lookup x.1=some .local\/(eK.scope.names.lookup x.1=some .cell/\((cellsFrom (s.heap.objs.size+1) eK.scope.names []).lookup x.1).isSome=true):=λx az=>by
   rcases D.par x.1 (List.of_mem_zip az).1 with h|h
   .exact .inl h
   .exact .inr ⟨h,AD<|v1<|.inr<|mem_of_lookup h⟩
  refine codeAny_call_function SQ hr Vt D.Q7 D.ngen D.R7 (D.code.keeps λb o e=>I.l_ b o e)<|RB _ _ _ _ ?_;rw[D.Vp];refine wpAny_newFunctionEnv_cells D.kind C6 λde a6 bt x=>⟨(D.lim.keeps λb o e=>I.l_ b o e).keeps x.toInCall.keep,codeAny_func ?_⟩;have p9:de.locals=s.heap.objs.size:=by rw[a6];rfl
  have jm:de.cells=cellsFrom (s.heap.objs.size+1) eK.scope.names []:=by rw[a6];rfl
  have pM:∀y,de.kindOf y=eK.scope.names.lookup y:=λy=>by rw[a6];rfl
  have RM:de.scope=eK.scope:=by rw[a6];rfl
  rw[p9]at x;obtain⟨a0,bo⟩:=I.frame x;have kX:((names.zip<|lX Vs cO names.length).map (·.1)).Nodup:=by rw[List.map_fst_zip<|fQ md.symm];exact D.nodup
  have Pr:bD c.P C (vs++dflt.drop (dflt.length-(names.length-vs.length))) (lX Vs cO names.length):=by unfold lX;rw[oS,dU];refine af.append<|bD.drop ?_ _;exact D.Iq.mono (λ_ _ e=>I.base _ _<|yV e) λ_ _ e=>(EL e).elim
  have bU:c.F (jb C s.heap.objs.size de.cells) de (((vs++dflt.drop (dflt.length-(names.length-vs.length))).map .val)++List.replicate (lO-names.length) .un) bt.heap 0:=by
   refine⟨⟨by rw[RM];exact D.kind,by rw[a6];exact D.glob,by rw[a6];exact D.lp,by rw[p9];exact Nz _ _ _,⟨_,by rw[p9];exact x.toInCall.ns⟩,λy a1=>?_,λy i aL G E=>?_⟩,λy a1=>by rw[pM];exact D.gl y a1,λy a1=>by rw[pM];exact D.st y a1,λy a1=>by rw[pM];exact D.kL y a1⟩
   .have aq:eK.scope.names.lookup y=some .cell:=by
     rw[pM]at a1;rcases a1 with a1|a1
     .exact a1
     .exact absurd rfl<|D.Sy _<|mem_of_lookup a1
    obtain⟨be,jW⟩:=ha.mp (AD (x:=y) (l:=de.cells)<|by rw[jm];exact v1<|.inr<|mem_of_lookup aq);exact⟨be,_,jW,(λh=>OA x.apart x.above h) jW,x.cell y be jW⟩
   .by_cases aB:i<(vs++dflt.drop (dflt.length-(names.length-vs.length))).length
    .rw[px (by simpa using aB),gX]at E;obtain⟨v,Br,e⟩:=x_.mp E;subst e;obtain⟨V,cn,bn⟩:=Pr.get Br;have iE:i<names.length:=by have:=(g0.mp cn).1;lia
     have a1:=(D.vars y i G).1 iE;have jM:(y,V)∈names.zip (lX Vs cO names.length):=h' (i:=i) (by rw[List.getElem?_zip_eq_some];exact⟨a1,cn⟩);refine .val ?_<|(λbn=>(bn.mono (λa o e=>pZ e rfl) λa n e=>pZ e rfl).mono (bo.ot I.cover) bo.st) bn;rcases D.par y (h' a1)with aE|aE
     .exact .inl ⟨by rw[pM];exact aE,_,by rw[p9];exact x.toInCall.ns,MY (by rw[pM];exact aE) kX jM⟩
     .obtain⟨be,jW⟩:=ha.mp (AD (x:=y) (l:=de.cells)<|by rw[jm];exact v1<|.inr<|mem_of_lookup aE);refine .inr ⟨.inl (by rw[pM];exact aE),be,jW,?_⟩;have:=x.cell y be jW;rwa[OK (by rw[pM,aE];intro z;cases z) kX jM]at this
    .rw[o7<|by simpa using aB]at E;have:=h' E;rw[List.mem_replicate]at this;rw[this.2];exact .un
  refine lv de _ bt de _ _ J 0 _ _ a0 bU a8 λcM b2 bG e f cq b_ ce bM ee a7=>?_;obtain⟨ae,fu⟩:=ew.mix I<|bo.trans bM;refine h _ _ e _ (mix C cq) b_ (I.mix ce ae) fu ?_;induction a7 with
  |go=>exact .none
  |ret cn=>exact cn.mono (λa o e=>AA ae e) λa n e=>Cj ae e
 .exact b0 ag
abbrev rO:=IF B->St->(B->St->Prop)->Prop
def oF(c:cc)(A:Around)(F:Ĉ)(gD:rO):Prop:=∀s C J vs Vs (K:B->St->Prop) (R:Result->Nd->Prop),c.I C J s->bD c.P C vs Vs->gD vs J K->(∀v bG,K v bG->x9 c C s (λV ar=>R (.ok<|.ret V) ar) v bG)->codeAny c.M A (.call F ⟨Vs,[]⟩) R s
def ju (es:IF ċ):ĉ:=es.all λe=> !fH e
theorem AM{pos:Pos}{ac:Env}:∀{es:IF ċ},ju es=true->(backTo pos<|starEach es ac).any (·.1)=false
 |[],_=>rfl
 |e::r,h=>by unfold ju at h;rw[t0,e2,kk]at h;rw[ng h.1];show(false||(backTo pos<|starEach r ac).any (·.1))=false;rw[AM h.2];rfl
theorem Hc{F:Ĉ}{Iv:IF Ĉ}{args:IF ċ}{pos:Pos}{ei:ov}(aX:c.Ok)(aK:ju args=true)(aE:keepIn c.K F=true)(gl:k7 c A args ei)(aU:args=[]->∀r J K,ei r J K->K [] J){O:Ĉ->Nd->Prop}{s:Nd}{ac:Env}{C:aY}{r:aJ}{J:St}{k:Č}{K:IF B->St->Prop}{Q:Ĉ->Nd->Prop}(I:c.I C J s)(hj:c.F C ac r s.heap k)(e:ei r J K)(h:∀vs bG,K vs bG->∀Vs aO ar,c.I aO bG ar->br C s aO ar->bD c.P aO vs Vs->wpAny c.M A (call F<|Iv++Vs) Q O ar):wpAny c.M A (callWith pos F Iv (backTo pos<|starEach args ac) []) Q O s:=by
 have qP:∀{C J s},c.I C J s->c.K.In s.heap:=λI b o e=>I.l_ _ _<|aX.ab b o e;induction args with
 |nil=>exact callWith_K0 (qP I) aE<|h _ _ (aU rfl _ _ _ e) [] C s I (br.refl C s) .nil
 |cons a a'=>unfold ju at aK;rw[t0,e2,kk]at aK;exact callWith_K (h₀:=s.heap) (qP I) aE (gl O s ac C r J k pos _ _ I hj e λvs bG e Vs aO ar dk x af _=>⟨qP dk,h vs bG e Vs aO ar dk x af⟩) (t8 aK.1)<|AM aK.2
theorem Je{x:Str}{np pos:Pos}{args:IF ċ}{F:Ĉ}{ei:ov}{gD:rO}(aX:c.Ok)(d_:c.cy x=true)(af:c.gP x=some F)(bg:(x==("__debug__":Str))=false)(aK:ju args=true)(aE:keepIn c.K F=true)(gl:k7 c A args ei)(aU:args=[]->∀r J K,ei r J K->K [] J)(aq:oF c A F gD):Good c A (.Call (.Name x np) args [] pos) λr J K=>ei r J λvs J=>gD vs J K:=by intro O s ac C r J k K Q I hj e h;refine wpAny_Call_NameR<|Gx aX I hj d_ af bg<|Hc aX aK aE gl aU I hj e λvs db e Vs bL bt a0 bo jB=>?_;rw[List.nil_append];exact wpAny_call<|aq bt bL db vs Vs K _ a0 jB e λv bG e V cq b_ ce bM cn=>h v bG e V cq b_ ce (bo.trans bM) cn
theorem O6{P:Params}{C:aY}{an:Č->Str}{name:Str}(am:∀a,an a≠name){l:IF (Č×B)}{es:IF DictEntry}(h:i4 P C an l es):es.find? (·.key.isStr name)=none/\es.any (·.refKey)=false:=by
 refine⟨?_,EU h⟩;induction h with
 |nil=>rfl
 |@cons b _ cI _ _ _ _ _ ap=>rw[List.find?_cons,show(Value.str (an b) cI).isStr name=false from lI.mpr<|am b];exact ap
theorem method_call{o:ċ}{name:Str}{hO pos:Pos}{args:IF ċ}{ac:Env}{O:Ĉ->Nd->Prop}{s:Nd}{Q:Ĉ->Nd->Prop}(aw:lN o=false)(aK:ju args=true)(dU:args.length<30)(lT:(hO.endLine==pos.line)=true)(h:∀s_,wpAny c.M A (eval o ac) (λhE bt=>wpAny c.M A (getMethod hE name s_) (λEn b_=>wpAny c.M A (callWith pos En.1 En.2 (backTo pos<|starEach args ac) []) Q O b_) O bt) O s):wpAny c.M A (eval (.Call (.Attribute o name hO) args [] pos) ac) Q O s:=by
 rw[arm_eval_Call,v3 aw];have DN:methodCallForm (args.length+([]:IF Keyword).length) (backTo pos<|starEach args ac) (backToKw pos<|keywordEach [] ac)=true:=by
  unfold methodCallForm;have G:(backTo pos<|starEach args ac).all (λx=> !x.1)=true:=by have:=AM (pos:=pos) (ac:=ac) aK;rw[List.any_eq_false]at this;rw[d'];intro x az;simpa using this x az
  rw[G];simp only[xu,Nat.add_zero,Bool.true_and];show(true&&decide (args.length+0<30))=true;simpa using dU
 have Ys:methodCallPos true o ac hO pos=pure pos:=by unfold methodCallPos;simp[lT]
 refine bd<|ln (h<|do return(<-importBound o ac).getD true) (λhE bt mr=>bd<|pV ?_) λ_ _ e=>e;unfold methodCall;rw[DN];exact bd<|gY<|ln mr (λEn b_ wD=>bd<|wpAny_of_eq Ys wD) λ_ _ e=>e
theorem Ø{dC:ċ}{name:Str}{hO pos:Pos}{args:IF ċ}{eU:dm}{ei:ov}{cQ:Č->Ċ Č}{gD:Č->rO}(aX:c.Ok)(aw:lN dC=false)(dU:args.length<30)(lT:(hO.endLine==pos.line)=true)(aK:ju args=true)(am:∀a,c.N.an a≠name)(go:Good c A dC eU)(gl:k7 c A args ei)(aU:args=[]->∀r J K,ei r J K->K [] J)(aq:∀be f,cQ be=some f->∃F,keepIn c.K (.ref F)=true/\findIn c.K (.ref<|c.N.cl be) "__getattribute__"=some (some<|.builtin "object.__getattribute__")/\findIn c.K (.ref<|c.N.cl be) "__getattr__"=some none/\findIn c.K (.ref<|c.N.cl be) name=some (some<|.ref F)/\typeIn c.K (.ref F)=some (.type "function")/\oF c A (.ref F) (gD f)):Good c A (.Call (.Attribute dC name hO) args [] pos) λr J K=>eU r J λx J=>ax ((DA J x).bind cQ) λf=>ei r J λvs J=>gD f (x::vs) J K:=by
 intro O s ac C r J k K Q I hj e h;refine method_call aw aK dU lT λs_=>go.use I hj e λx db e X bL bt a0 bU bo c8=>ax.dt e λf c7 e=>?_;obtain⟨be,c0,m8⟩:=bind_some c7;clear c7;obtain⟨F,fG,gz,j',Bh,C8,CG⟩:=aq be f m8;replace c0:=oO.of c0;obtain⟨n,iL,l,rfl,Qy,c0⟩:=c0;cases c0;obtain⟨a,d,es,bY,rfl,G,E,aC,ba,cN,d7,fm⟩:=Ep a0 c8 Qy;obtain⟨d9,eY⟩:=O6 am cN;refine method_fn (λb o e=>a0.l_ _ _ (aX.ab b o e):c.K.In bt.heap) (od:=some<|ej es.toArray bY) ⟨aC,rfl,rfl,ba⟩ gz j' Bh C8 ?_ ?_
 .show(lookIn name<|ej es.toArray bY).map _=_;rw[Yu d9 eY];rfl
 .refine Hc aX aK fG gl aU a0 bU e λvs d6 e Vs cq b_ ce bM jB=>?_;show wpAny c.M A (call (.ref F)<|.ref a::Vs) Q O b_;exact wpAny_call<|CG b_ cq d6 (.ref n::vs) (.ref a::Vs) K _ ce (.cons (bM.hg a0 c8) jB) e λv bG e V j3 f9 fS fu cn=>h v bG e V j3 f9 fS ((bo.trans bM).trans fu) cn
section
variable{P:Params}{N:g3}{H:Heap}{os:OsState}{C:aY}{J:St}{s:Nd}
theorem Inv.Rk(I:Inv P N H os C J s){be:Č}(jW:be<7):Inv P N H os (cC (cC C s.heap.objs.size<|.cF J.length) (s.heap.objs.size+1)<|.st J.length) (J++[.ins be []]) {s with heap:=(s.heap.push<|ej #[] 0).push (kB (N.cl be) s.heap.objs.size)}/\br C s (cC (cC C s.heap.objs.size<|.cF J.length) (s.heap.objs.size+1)<|.st J.length) {s with heap:=(s.heap.push<|ej #[] 0).push (kB (N.cl be) s.heap.objs.size)}:=by
 obtain⟨d,bg⟩:∃d,d=s.heap.objs.size:=⟨_,rfl⟩;rw[<-bg];have fd:∀{a:Addr},d<=a->C a=.none:=λh=>I.fresh (by rw[<-bg];exact h);have keep:∀b o,s.heap.get? b=some o->((s.heap.push<|ej #[] 0).push<|kB (N.cl be) d).get? b=some o:=λb o e=>ik _<|ik _ e;have az:((s.heap.push<|ej #[] 0).push<|kB (N.cl be) d).get? (d+1)=some (kB (N.cl be) d):=by rw[show d+1=(s.heap.push<|ej #[] 0).objs.size by rw[rT,bg]];exact gZ _ rfl
 have tl:((s.heap.push<|ej #[] 0).push<|kB (N.cl be) d).get? d=some (ej #[] 0):=ik _ (by rw[bg];exact gZ _ rfl);have o':∀{b:Addr} {r:eu},C b=r->r≠.none->cC (cC C d<|.cF J.length) (d+1) (.st J.length) b=r:=λ{b r} e h=>by
  have G:b≠d+1:=by rintro rfl;exact h<|e.symm.trans<|fd<|kc _
  have E:b≠d:=by rintro rfl;exact h<|e.symm.trans<|fd<|dA _
  rw[bX G,bX E];exact e
 have d9:∀b o,C b=.a5 o->cC (cC C d<|.cF J.length) (d+1) (.st J.length) b=.a5 o:=λb o e=>o' e<|λz=>(nomatch z);have eY:∀b o,C b=.st o->cC (cC C d<|.cF J.length) (d+1) (.st J.length) b=.st o:=λb o e=>o' e<|λz=>(nomatch z);have qi:∀b o,C b=.cF o->cC (cC C d<|.cF J.length) (d+1) (.st J.length) b=.cF o:=λb o e=>o' e<|λz=>(nomatch z);have k0:∀{b:Addr} {r:eu},cC (cC C d<|.cF J.length) (d+1) (.st J.length) b=r->(b=d+1/\r=.st J.length)\/(b=d/\r=.cF J.length)\/C b=r:=λ{b r} e=>by
  by_cases G:b=d+1
  .rw[G,c2]at e;exact .inl ⟨G,e.symm⟩
  .rw[bX G]at e;by_cases E:b=d
   .rw[E,c2]at e;exact .inr<|.inl ⟨E,e.symm⟩
   .rw[bX E]at e;exact .inr<|.inr e
 have oW:cC (cC C d<|.cF J.length) (d+1) (.st J.length) d=.cF J.length:=by rw[bX (gK (pF _):d≠d+1)];exact c2 _ _ _
 refine⟨⟨λb h=>?_,λa b e h=>?_,λb o e=>?_,λn ct e=>?_,λb o e=>d9 _ _<|I.base b o e,I.gens,I.hL,λb n e=>?_⟩,λa o e k=>⟨keep a o e,o' rfl<|λz=>by rw[z]at k;exact k⟩,eY,qi⟩
 .rcases k0 (r:=cC (cC C d<|.cF J.length) (d+1) (.st J.length) b) rfl with⟨rfl,-⟩|⟨G,-⟩|G
  .rw[show({s with heap:=(s.heap.push<|ej #[] 0).push (kB (N.cl be) d)}:Nd).heap.get? (d+1)=_ from az];rfl
  .rw[G,show({s with heap:=(s.heap.push<|ej #[] 0).push (kB (N.cl be) d)}:Nd).heap.get? d=_ from tl];rfl
  .obtain⟨o,aA⟩:=ha.mp (I.alloc b<|by rw[G];exact h);rw[show({s with heap:=(s.heap.push<|ej #[] 0).push (kB (N.cl be) d)}:Nd).heap.get? b=_ from keep b o aA];rfl
 .have ak:=k0 (r:=cC (cC C d<|.cF J.length) (d+1) (.st J.length) a) rfl;have aw:=k0 (r:=cC (cC C d<|.cF J.length) (d+1) (.st J.length) b) rfl;rw[<-e]at aw;have FN:∀b,C b≠.st J.length:=λb z=>m7 _<|I.gx b _<|.inl z;have It:∀b,C b≠.cF J.length:=λb z=>m7 _<|I.gx b _<|.inr z;rcases ak with⟨ak,qS⟩|⟨ak,qS⟩|oM
  .rw[qS]at aw;rcases aw with⟨aw,-⟩|⟨-,jh⟩|gD
   .rw[ak,aw]
   .exact bR jh rfl
   .exact absurd gD<|FN b
  .rw[qS]at aw;rcases aw with⟨-,jh⟩|⟨aw,-⟩|gD
   .exact bR jh rfl
   .rw[ak,aw]
   .exact absurd gD<|It b
  .rcases aw with⟨-,jh⟩|⟨-,jh⟩|gD
   .exact absurd (oM.trans jh)<|FN a
   .exact absurd (oM.trans jh)<|It a
   .exact I.uniq a b (oM.trans gD.symm) (by rw[oM];exact h)
 .rcases k0 e with⟨-,r⟩|⟨-,r⟩|c
  .exact bR r rfl
  .exact bR r rfl
  .exact keep b o<|I.a5 b o c
 .by_cases q:n<J.length
  .rw[px q]at e;exact(I.store n ct e).mono d9 eY qi λa o _ e=>keep a o e
  .have am:n=J.length:=by have:=(g0.mp e).1;rw[da,oY]at this;lia
   subst am;rw[o7<|dA _,we]at e;cases e;exact .ins (es:=[]) (c2 _ _ _:cC (cC C d<|.cF J.length) (d+1) (.st J.length) (d+1)=.st J.length) oW az tl .nil qU jW
 .rw[da,oY];rcases e with e|e<;>rcases k0 e with⟨-,r⟩|⟨-,r⟩|c
  .cases r;exact pF _
  .exact bR r rfl
  .exact m6<|I.gx b n<|.inl c
  .exact bR r rfl
  .cases r;exact pF _
  .exact m6<|I.gx b n<|.inr c
end
def HY(be:Č)(gD:rO):rO:=λvs J K=>gD (.ref J.length::vs) (J++[.ins be []])<|GI (.ref J.length) K
theorem Y'{be:Č}{Ay:Addr}{gD:rO}(aX:c.Ok)(jW:be<7)(aN:makesIn c.K (c.N.cl be)=true)(aB:findIn c.K (.ref<|c.N.cl be) "__init__"=some (some<|.ref Ay))(a7:typeIn c.K (.ref Ay)=some (.type "function"))(CG:∀args,oF c (A.under<|.builtin "type.__call__" args) (.ref Ay) gD):oF c A (.ref<|c.N.cl be) (HY be gD):=by intro s C J vs Vs K R I af e h;have qP:c.K.In s.heap:=λb o e=>I.l_ _ _<|aX.ab b o e;obtain⟨a0,bo⟩:=I.Rk jW;clear jW;obtain⟨ca,g,d,t,os⟩:=s;refine make_core (makes_of qP aN) (looks_findIn qP aB) (λself=>bind_fn qP self a7) (.inl rfl)<|CG _ _ _ _ (.ref J.length::vs) (.ref (ca.objs.size+1)::Vs) _ _ a0 (.cons (.ref<|c2 _ _ _)<|bo.iN I af) e λw db e V cq b_ ce bM cn=>?_;obtain⟨rfl,e⟩:=e;obtain rfl:=cn.of;exact⟨rfl,h _ _ e _ cq b_ ce (bo.trans bM)<|.ref<|bM.st _ _<|c2 _ _ _⟩
theorem Fy{C:aY}{J:St}{s:Nd}(I:c.I C J s){aR:Heap}{cI:Č}(aE:∀b o,s.heap.get? b=some o->aR.get? b=some o){a:Addr}(ak:s.heap.get? a=none){o:Obj}(aA:aR.get? a=some o):c.I (cC C a<|.a5 o) J {s with heap:=aR,toks:=cI}/\br C s (cC C a<|.a5 o) {s with heap:=aR,toks:=cI}:=by
 have am:C a=.none:=by
  induction q:C a with
  |none=>rfl
  |_=>obtain⟨cB,hr⟩:=ha.mp (I.alloc a<|by rw[q];intro z;exact bR z rfl);rw[ak]at hr;exact b0 hr
 have a0:=I.grow aE cI;have ne:∀{b r},C b=r->r≠.none->b≠a:=λe h q=>h<|e.symm.trans<|q▸am;have d9:∀b cB,C b=.a5 cB->cC C a (.a5 o) b=.a5 cB:=λb cB e=>(bX<|ne e<|λz=>(nomatch z)).trans e;have eY:∀b n,C b=.st n->cC C a (.a5 o) b=.st n:=λb cB e=>(bX<|ne e<|λz=>(nomatch z)).trans e;have qi:∀b n,C b=.cF n->cC C a (.a5 o) b=.cF n:=λb cB e=>(bX<|ne e<|λz=>(nomatch z)).trans e;refine⟨⟨λb h=>?_,λb eA e h=>?_,λb cB e=>?_,λn ct e=>(a0.store n ct e).mono d9 eY qi λ_ _ _ e=>e,λb cB e=>d9 _ _<|I.base b cB e,I.gens,I.hL,λb n e=>?_⟩,λb cB e k=>⟨aE b cB e,bX<|by rintro rfl;rw[am]at k;exact k⟩,eY,qi⟩
 .by_cases q:b=a
  .subst q;rw[show({s with heap:=aR,toks:=cI}:Nd).heap.get? b=some o from aA];rfl
  .rw[bX q]at h;exact a0.alloc b h
 .by_cases f':b=a
  .subst f';rw[c2]at h;exact h.elim
  .rw[bX f']at e h;by_cases e_:eA=a
   .subst e_;rw[c2]at e;rw[e]at h;exact h.elim
   .rw[bX e_]at e;exact I.uniq b eA e h
 .by_cases q:b=a
  .subst q;rw[c2]at e;cases e;exact aA
  .rw[bX q]at e;exact a0.a5 b cB e
 .by_cases q:b=a
  .subst q;rw[c2]at e;rcases e with e|e<;>exact bR e rfl
  .rw[bX q]at e;exact I.gx b n e
theorem PC{l:IF č}{c9:IF B}(h:i8 (l.map .int)=some c9):∃dh:IF č,c9=dh.map .int/\dh.Perm l/\dh.Pairwise (· <=·):=by obtain⟨cS,e,G,E⟩:=vo (f:=B.int) (b:=λx y=>decide<|x<y) (ne:=λ_ _=>True) (R:=(· <=·)) (λ_ _ _=>rfl) (λ_ _ h=>Int.le_of_lt<|fe h) (λ_ _ _ h=>Int.not_lt.mp<|rq h) (λ_ _ _ a b=>uO (Int.le_of_lt<|fe a) b)<|List.pairwise_of_forall λ_ _=>trivial;exact⟨cS,cV<|h.symm.trans e,E,G⟩
theorem J5{a b:bx}(G:¬b<a)(E:¬a<b):a=b:=List.le_antisymm (vV.mp G)<|vV.mp E
theorem W_{l:IF bx}{c9:IF B}(h:i8 (l.map .str)=some c9):∃dh:IF bx,c9=dh.map .str/\dh.Perm l/\dh.Pairwise (λa b=>¬b<a):=by obtain⟨cS,e,G,E⟩:=vo (f:=B.str) (b:=λx y=>decide<|x<y) (ne:=λ_ _=>True) (R:=λa b=>¬b<a) (λ_ _ _=>rfl) (λ_ _ h q=>y4 _<|uc (fe h) q) (λ_ _ _ h=>rq h) (λ_ _ _ a b q=>b<|uc q<|fe a)<|List.pairwise_of_forall λ_ _=>trivial;exact⟨cS,cV<|h.symm.trans e,E,G⟩
theorem intsAre_of{P:Č->Ĉ->Prop}:∀{vs:IF Ĉ} {ns:IF č},vs.length=ns.length->(∀(j:Č) v,vs[j]?=some v->dX λn t=>ns[j]?=some n/\v=.int n t)->IntsAre vs ns
 |[],[],_,_=>.nil
 |[],_::_,h,_=>by cases h
 |_::_,[],h,_=>by cases h
 |v::vs,n::ns,h,k=>by obtain⟨m,t,G,E⟩:=k 0 v rfl;simp at G;subst G E;exact .cons _ t (intsAre_of (P:=P) (by simpa using h) λj v b'=>by simpa using k (j+1) v (by simpa using b'))
theorem I_:∀{vs:IF Ĉ} {ns:IF Str},vs.length=ns.length->(∀(j:Č) v,vs[j]?=some v->dX λn t=>ns[j]?=some n/\v=.str n t)->StrsAre vs ns
 |[],[],_,_=>.nil
 |[],_::_,h,_=>by cases h
 |_::_,[],h,_=>by cases h
 |v::vs,n::ns,h,k=>by obtain⟨m,t,G,E⟩:=k 0 v rfl;simp at G;subst G E;exact .cons _ t (I_ (by simpa using h) λj v b'=>by simpa using k (j+1) v (by simpa using b'))
theorem Ze{P:Params}{C:aY}{vs:IF Ĉ}{ns:IF č}(h:IntsAre vs ns):bD P C (ns.map .int) vs:=by
 induction h with
 |nil=>exact .nil
 |cons n t _ ap=>exact .cons (.int n t) ap
theorem TW{P:Params}{C:aY}{vs:IF Ĉ}{ns:IF Str}(h:StrsAre vs ns):(∀x∈ns,x.cps.toList.length<=a3)->bD P C (ns.map λx=>.str x.cps.toList) vs:=by
 induction h with
 |nil=>exact λ_=>.nil
 |cons y t _ ap=>exact λh=>.cons (bA.str y.cps.toList t<|h y<|.head _)<|ap λx az=>h x<|.tail _ az
theorem GU:∀{l:IF Str},sortedS l=true->l.Pairwise (λa b=>¬b.cps.toList<a.cps.toList)
 |[],_=>.nil
 |[x],_=>by simp
 |x::y::r,h=>by
  have aR:(!ltCps y.cps.toList x.cps.toList&&risingS y r)=true:=h;rw[e2,kk,ltCps_eq,mH]at aR;have ap:=GU (l:=y::r) aR.2;rw[tJ];refine⟨λz hz=>?_,ap⟩;rcases eD.mp hz with rfl|hz
  .exact aR.1
  .have:=(tJ.mp ap).1 z hz;exact vV.mpr<|List.le_trans (vV.mp aR.1)<|vV.mp this
theorem Oa(aX:c.Ok)(e3:A.handled=none){O:Ĉ->Nd->Prop}{s:Nd}{C:aY}{J:St}{l:IF (B×B)}{V:Ĉ}{z:B}{Q:Ĉ->Nd->Prop}(I:c.I C J s)(af:bA c.P C (.bb l) V)(e:k6 .sorted [.bb l]=some z)(h:∀Z aO ar,c.I aO J ar->br C s aO ar->bA c.P aO z Z->Q Z ar):wpAny c.M A (call (.builtin "sorted") [V]) Q O s:=by
 replace e:((items<|.bb l).bind λl=>if l.length<64 then i8 l else none).map B.lst=some z:=e;obtain⟨c9,ag,a8⟩:=map_some e;clear e;subst a8;obtain⟨ks,c0,c7⟩:=bind_some ag;clear ag;split at c7
 .rename_i yX;obtain⟨d,es,n,rfl,D,lo⟩:=sz I aX.sys<|.val af;have g':l.length<=16777216:=D.a3;obtain⟨aE,c0⟩:=g4<|show(if((l.all λe=>eH e.1==1)||(l.all λe=>eH e.1==2))=true then some (l.map (·.1))else none)=some ks from c0;cases c0;have fin:∀{aR:Heap} {cI:Č} {en:Array Ĉ} {out:Array Ĉ},(∀b o,s.heap.get? b=some o->aR.get? b=some o)->(∀aO,bD c.P aO c9 out.toList)->c9.length<=a3->Q (.ref aR.objs.size) {s with heap:=sortedHeap (aR.push<|seqObj "list" en.toList.toArray 0) aR.objs.size en.toList out,toks:=cI}:=λ{aR cI en out} i3 hz aq=>by
   obtain⟨rM,sr⟩:=sortedHeap_at (out:=out) (vs:=en.toList) (n:=0)<|gZ aR (o:=seqObj "list" en.toList.toArray 0) rfl;have old:∀b o,s.heap.get? b=some o->(sortedHeap (aR.push<|seqObj "list" en.toList.toArray 0) aR.objs.size en.toList out).get? b=some o:=λb o eb=>by have G:=i3 b o eb;have cT:=j5 G;rw[sortedHeap_old (gK cT)<|by rw[rT];exact m6 cT];exact ik _ G
   have td:s.heap.get? aR.objs.size=none:=by
    induction q:s.heap.get? aR.objs.size with
    |none=>rfl
    |some o=>exact absurd (j5<|i3 _ _ q)<|m7 _
   obtain⟨dk,eJ⟩:=Fy (cI:=cI) I old td sr;exact h _ _ _ dk eJ<|.lst (Vs:=out.toList) (n:=rM) (by rw[c2]) (hz _) aq
  refine A8 kind_sorted plain_sorted entry_sorted (args_sorted1 _) ?_;unfold Builtin.«sorted»;refine bd (m:=checkCount "sorted" 1 1 _)<|b4 ?_;rw[l0]at aE;rcases aE with aE|aE
  .obtain⟨eX,G,E,aC⟩:=Li D.rel λe a6=>by simpa using d'.mp aE e a6
   have am:(eX.map (·.1)).Nodup:=xS (f:=B.int) (by rw[f2];exact aC▸D.nodup);have b3:s.heap.DictAt (PySem.intKind c.prog c.w) d eX n:=⟨_,_,D.at_,⟨rfl,rfl,rfl⟩,rfl,E,by simpa using G,am⟩;have dU:eX.length=l.length:=by have:=bH List.length aC;simpa using this.symm
   have za:l.map (·.1)=(eX.map (·.1)).map B.int:=by rw[aC,f2];rfl
   rw[za]at c7;obtain⟨Bb,rfl,ae,aK⟩:=PC c7;clear c7;refine bd<|kdu_collect (A:=A.in1) (kdl_dict (knd:=PySem.intKind c.prog c.w) lo) e3 b3 (by rw[kG];lia) λaR cI en i3 uR=>?_;have k1:en.toList.length=eX.length:=by rw[Array.length_toList];exact uR.1
   refine bd (wi ?_<|by rw[k1,dU,kG];exact g');have fU:IntsAre en.toList (eX.map (·.1)):=intsAre_of (P:=λ_ _=>True) (by rw[k1,bV]) λj v b'=>by obtain⟨k,x,az,i3⟩:=uR.2 j v (by rw[<-Array.getElem?_toList];exact b');obtain⟨t,rfl⟩:=Value.isInt_shape i3;clear i3;exact⟨k,t,by rw[gX,az];rfl,rfl⟩
   refine bd<|gY<|nf slot_list_sort ⟨_,gZ aR (o:=seqObj "list" en.toList.toArray 0) rfl,rfl⟩ entry_list_sort (list_sort_tree (gZ aR (o:=seqObj "list" en.toList.toArray 0) rfl) fU (by rw[k1,dU];simpa using yX) λout L1 bZ bs dN=>⟨_,rfl,?_⟩)<|args_list_sort _;refine b4 ⟨_,rfl,?_⟩;have An:L1=Bb:=(bs.trans ae.symm).eq_of_pairwise (λa b _ _ G E=>Int.le_antisymm G E) dN aK;subst An;exact fin i3 (λaO=>Ze bZ) (by rw[bV,ae.length_eq,bV,dU];exact D.a3)
  .obtain⟨eX,G,E,aC,ba⟩:=Hf D.rel λe a6=>by simpa using d'.mp aE e a6
   have b3:s.heap.DictAt (PySem.strKind c.prog c.w) d eX n:=⟨_,_,D.at_,⟨rfl,rfl,rfl⟩,rfl,E,by simpa using G,xS (f:=λx:Str=>B.str x.cps.toList)<|by rw[f2];exact aC▸D.nodup⟩;have dU:eX.length=l.length:=by have:=bH List.length aC;simpa using this.symm
   have za:l.map (·.1)=(eX.map<|λp=>p.1.cps.toList).map B.str:=by rw[aC,f2];rfl
   rw[za]at c7;obtain⟨Bb,rfl,ae,aK⟩:=W_ c7;clear c7;refine bd<|kdu_collect (A:=A.in1) (kdl_dict (knd:=PySem.strKind c.prog c.w) lo) e3 b3 (by rw[kG];lia) λaR cI en i3 uR=>?_;have k1:en.toList.length=eX.length:=by rw[Array.length_toList];exact uR.1
   refine bd (wi ?_<|by rw[k1,dU,kG];exact g');have e9:StrsAre en.toList (eX.map (·.1)):=I_ (by rw[k1,bV]) λj v b'=>by obtain⟨k,x,az,i3⟩:=uR.2 j v (by rw[<-Array.getElem?_toList];exact b');obtain⟨t,rfl⟩:=Value.isStrOf_shape i3;clear i3;exact⟨k,t,by rw[gX,az];rfl,rfl⟩
   refine bd<|gY<|nf slot_list_sort ⟨_,gZ aR (o:=seqObj "list" en.toList.toArray 0) rfl,rfl⟩ entry_list_sort (list_sort_treeK strKind_oneLt (gZ aR (o:=seqObj "list" en.toList.toArray 0) rfl) e9.keysOf (λÝ ç a' e=>keyKind_strs<|by rw[<-e];exact e9) (by rw[k1,dU];simpa using yX) λwo dp eh=>⟨_,rfl,?_⟩)<|args_list_sort _;refine b4 ⟨_,rfl,?_⟩;obtain⟨VQ,bZ,bs,dN⟩:=sorted_out_str e9 dp eh;have An:VQ.map (λx=>x.cps.toList)=Bb:=by
    refine List.Perm.eq_of_pairwise (le:=λa b=>¬b<a) (λa b _ _ G E=>J5 G E) ?_ aK ?_
    .rw[w_];exact GU dN
    .refine(bs.map _).trans ?_;rw[f2];exact ae.symm
   subst An;refine fin i3 (λaO=>?_) (by rw[bV,bV,bs.length_eq,bV,dU];exact D.a3);have:=TW (P:=c.P) (C:=aO) bZ λx az=>by obtain⟨p,hI,rfl⟩:=dq.mp<|bs.mem_iff.mp az;exact ba p hI
   rwa[f2]
 .exact b0 c7
def oC {av:Type} (n:Č) (lt:Č->Č->ĉ):KasT av->Ċ av
 |.ret a=>some a
 |.ask i j k=>if i≠j/\i<n/\j<n then oC n lt (k<|lt i j)else none
def me (lt:Č->Č->ĉ) (x:Č):IF Č->IF Č
 |[]=>[x]
 |y::r=>if lt x y then x::y::r else y::me lt x r
def kN (lt:Č->Č->ĉ):IF Č->IF Č
 |[]=>[]
 |x::r=>me lt x<|kN lt r
def qQ (b:IF ĉ) (i j:Č):ĉ:=if i<j then b.getD (i*(7-i)/2+(j-i-1)) false else if j<i then !(b.getD (j*(7-j)/2+(i-j-1)) false)else false
def Ei (n:Č) (lt:Č->Č->ĉ):ĉ:=(List.range n).all λi=>(List.range n).all λj=>(List.range n).all λk=> !(lt i j&&lt j k)||lt i k
def Hl (n:Č) (lt:Č->Č->ĉ):ĉ:= !Ei n lt||oC n lt (kas_sort n)==some (kN lt<|List.range n).toArray
theorem ZA:∀n:Fin 5,2<=n.val->∀a b c d e f:ĉ,Hl n.val (qQ [a,b,c,d,e,f])=true:=by decide+kernel
theorem UB{av:Type}{n:Č}{lt lt':Č->Č->ĉ}(h:∀i j,i<n->j<n->i≠j->lt i j=lt' i j)(t:KasT av):oC n lt t=oC n lt' t:=by
 induction t with
 |ret a=>rfl
 |ask i j k ap=>
  show(if i≠j/\i<n/\j<n then oC n lt (k<|lt i j)else none)=if i≠j/\i<n/\j<n then oC n lt' (k<|lt' i j)else none;by_cases q:i≠j/\i<n/\j<n
  .rw[bl q,bl q,h i j q.2.1 q.2.2 q.1];exact ap _
  .rw[bm q,bm q]
theorem Rb{lt:Č->Č->ĉ}{x:Č}{l:IF Č}:(me lt x l).Perm (x::l):=by
 induction l with
 |nil=>exact .refl _
 |cons y r ap=>
  show(if lt x y=true then x::y::r else y::me lt x r).Perm _;induction lt x y with
  |true=>exact .refl _
  |false=>exact(ap.cons y).trans<|.swap x y r
theorem E5{lt:Č->Č->ĉ}{l:IF Č}:(kN lt l).Perm l:=by
 induction l with
 |nil=>exact .refl _
 |cons x r ap=>exact Rb.trans<|ap.cons x
theorem CY{lt:Č->Č->ĉ}{z:Č}{l:IF Č}:z∈kN lt l↔z∈l:=E5.mem_iff
theorem YU{lt lt':Č->Č->ĉ}{x:Č}{l:IF Č}:(∀y∈l,lt x y=lt' x y)->me lt x l=me lt' x l:=by
 induction l with
 |nil=>exact λ_=>rfl
 |cons y r ap=>intro h;show(if lt x y=true then x::y::r else y::me lt x r)=if lt' x y=true then x::y::r else y::me lt' x r;rw[h y<|.head _,ap λz hz=>h z<|.tail _ hz]
theorem Rn{lt lt':Č->Č->ĉ}{l:IF Č}(am:l.Pairwise λx y=>lt x y=lt' x y):kN lt l=kN lt' l:=by
 induction am with
 |nil=>rfl
 |@cons x r h _ ap=>show me lt x (kN lt r)=me lt' x (kN lt' r);rw[ap];exact YU λy a1=>h y<|CY.mp a1
theorem MJ{v:Č}(h:v<2):v=0\/v=1:=(by decide:∀v,v<2->v=0\/v=1) v h
theorem WM{lt:Č->Č->ĉ}{n:Č}(h:n<2):kN lt (List.range n)=List.range n:=by rcases MJ h with rfl|rfl<;>rfl
theorem ZO{f:Č->B}{lt:Č->Č->ĉ}{x:Č}{l:IF Č}:(∀y∈l,pR (f x) (f y)=some (lt x y))->p' (f x) (l.map f)=some ((me lt x l).map f):=by
 induction l with
 |nil=>exact λ_=>rfl
 |cons y r ap=>intro h;show(match pR (f x) (f y)with|some true=>some (f x::f y::r.map f)|some false=>(p' (f x)<|r.map f).map (f y::·)|none=>none)=some ((if lt x y=true then x::y::r else y::me lt x r).map f);rw[h y<|.head _,ap λz hz=>h z<|.tail _ hz];induction lt x y<;>rfl
theorem ZV{f:Č->B}{lt:Č->Č->ĉ}{l:IF Č}(am:l.Pairwise λx y=>pR (f x) (f y)=some (lt x y)):i8 (l.map f)=some ((kN lt l).map f):=by
 induction am with
 |nil=>rfl
 |@cons x r h _ ap=>show(i8<|r.map f).bind (p'<|f x)=_;rw[ap];exact ZO λy a1=>h y<|CY.mp a1
theorem Z6{n:Č}(E:2<=n)(ba:n<=4){lt:Č->Č->ĉ}(Wh:∀i j,i<n->j<n->i≠j->lt j i= !lt i j)(Qu:∀i j k,i<n->j<n->k<n->lt i j=true->lt j k=true->lt i k=true)(YR:∀i,i<n->lt i i=false):oC n lt (kas_sort n)=some (kN lt<|List.range n).toArray:=by
 have up:∀i j,i<j->j<n->lt i j=qQ [lt 0 1,lt 0 2,lt 0 3,lt 1 2,lt 1 3,lt 2 3] i j:=λi j la b'=>by rcases(by decide:∀j<4,∀i<j,(i=0/\j=1)\/(i=0/\j=2)\/(i=0/\j=3)\/(i=1/\j=2)\/(i=1/\j=3)\/(i=2/\j=3)) j (gH b' ba) i la with e|e|e|e|e|e<;>rw[e.1,e.2]<;>rfl
 have key:∀i j,i<n->j<n->lt i j=qQ [lt 0 1,lt 0 2,lt 0 3,lt 1 2,lt 1 3,lt 2 3] i j:=λi j aB b'=>by
  rcases Nat.lt_trichotomy i j with h|h|h
  .exact up i j h b'
  .rw[h,YR j b',qQ,bm<|m7 _,bm<|m7 _]
  .rw[Wh j i b' aB<|gK h,up j i h aB,qQ,bl h,qQ,bm<|Nat.lt_asymm h,bl h]
 have a7:=ZA ⟨n,zE ba⟩ E (lt 0 1) (lt 0 2) (lt 0 3) (lt 1 2) (lt 1 3)<|lt 2 3;simp only[Hl,l0,kk,fM]at a7;rw[UB<|λi j aB b' _=>key i j aB b',Rn<|List.nodup_range.imp_of_mem λaB b' _=>key _ _ (lC.mp aB)<|lC.mp b'];rcases a7 with a7|a7
 .exfalso;have:Ei n (qQ [lt 0 1,lt 0 2,lt 0 3,lt 1 2,lt 1 3,lt 2 3])=true:=by
   unfold Ei;rw[d'];intro i aB;rw[d'];intro j b';rw[d'];intro k aE;rw[lC]at aB b' aE;rw[<-key i j aB b',<-key j k b' aE,<-key i k aB aE];cases G:lt i j with
   |false=>rfl
   |true=>
    cases E:lt j k with
    |false=>rfl
    |true=>exact Qu i j k aB b' aE G E
  rw[this]at a7;exact ig a7
 .exact a7
section
variable{prog:Program}{w:World}{A:Around}{O:Ĉ->Nd->Prop}{s:Nd}
theorem QX{a:Addr}{vs:IF Ĉ}{n:Č}{P:PySem.Fin->Nd->Prop}(aA:s.heap.get? a=some (seqObj "list" vs.toArray n))(E:vs.length<2)(h:P (.done<|.ret .none) {s with heap:=sortedHeap s.heap a vs vs.toArray}):wpAny (model prog w) A (Builtin.«list.sort» ⟨[.ref a],[]⟩) P O s:=by
 rw[list_sort_plain];have ak:a<s.heap.objs.size:=j5 aA;refine bd<|listItems_at aA rfl ?_;refine bd<|listUpdate_at aA rfl ?_ (by rw[eI,kG];exact pu ‹_›)<|f_ _;obtain⟨ag,u0⟩:∃ag,(s.heap.update a (Obj.mapSeq λ_=>#[])).get? a=some (seqObj "list" #[] ag):=⟨_,get?_update_seq aA<|λ_=>#[]⟩;refine bd<|seqEpoch_at u0 rfl ?_;refine bd (wpAny_newTuple ?_<|by show vs.length<=_;rw[kG];exact pu ‹_›);refine bd<|wi (gY ?_)<|f_ _;have xk:(((s.heap.update a<|Obj.mapSeq λ_=>#[]).push<|seqObj "tuple" vs.toArray 0).push<|seqObj "list" #[] 0).get? a=some (seqObj "list" #[] ag):=by rw[sj _ _ _ (by rw[size_push',wv];exact gK<|m6 ak),sj _ _ _<|by rw[wv];exact gK ak];exact u0
 show wpAny (model prog w) A _ P O {s with heap:=((s.heap.update a<|Obj.mapSeq λ_=>#[]).push<|seqObj "tuple" vs.toArray 0).push (seqObj "list" #[] 0)};dsimp only;have l1:vs.toArray.size<2:=by simpa using E
 rw[if_pos l1,if_pos l1];refine bd<|b4 ?_;rw[StateT.run_pure];refine bd<|b4 ?_;dsimp only;have hz:((vs.toArray.zip vs.toArray).map λp:Ĉ×Ĉ=>p.2)=vs.toArray:=by apply Array.toList_inj.mp;rw[Array.toList_map,Array.toList_zip];exact List.map_snd_zip<|dA _
 refine bd<|seqEpoch_at xk rfl ?_;refine bd<|listUpdate_at xk rfl ?_ (hsz2:=by show(((vs.toArray.zip vs.toArray).map λp:Ĉ×Ĉ=>p.2)).size<=_;rw[hz,kG];exact pu ‹_›);simp only[bne_self_eq_false,tA,sB];have:wpAny (model prog w) A (pure (.done<|.ret .none):Sem PySem.Fin) P O {s with heap:=(((s.heap.update a<|Obj.mapSeq λ_=>#[]).push<|seqObj "tuple" vs.toArray 0).push<|seqObj "list" #[] 0).update a (Obj.mapSeq λ_=>(vs.toArray.zip vs.toArray).map λp:Ĉ×Ĉ=>p.2)}:=by rw[hz];exact b4 h
 exact this
theorem ZE{av:Type}{n:Č}{lt:Č->Č->ĉ}{ask:Č->Č->(ĉ->Nd->Prop)->Nd->Prop}{h₀:Heap}(ak:∀i j,i<n->j<n->i≠j->∀ah (s:Nd),s.heap=h₀->ah (lt i j) s->ask i j ah s):∀(t:KasT av) {a:av} {Q:av->Nd->Prop} {s:Nd},s.heap=h₀->oC n lt t=some a->Q a s->t.kasWp ask Q s:=λt=>by
 induction t with
 |ret a=>exact λaK e h=>by rw[cV e];exact h
 |ask i j k ap=>
  intro b Q s aK e h;replace e:(if i≠j/\i<n/\j<n then oC n lt (k<|lt i j)else none)=some b:=e;by_cases q:i≠j/\i<n/\j<n
  .rw[bl q]at e;exact ak i j q.2.1 q.2.2 q.1 _ s aK<|ap (lt i j) aK e h
  .rw[bm q]at e;exact b0 e
theorem V7{a:Addr}{vs:IF Ĉ}{n:Č}{P:PySem.Fin->Nd->Prop}{o2:SortKind}{lt:Č->Č->ĉ}{p:IF Č}(aA:s.heap.get? a=some (seqObj "list" vs.toArray n))(E:2<=vs.length)(yX:vs.length<64)(aE:∀(vK:Ĉ->Nd->Prop) (Q:SortKind->Nd->Prop) (ar:Nd),(∀b o,b≠a->s.heap.get? b=some o->ar.heap.get? b=some o)->Q o2 ar->wpAny (model prog w) A (keyKind' vs.toArray) Q vK ar)(YH:∀i j,i<vs.length->j<vs.length->i≠j->∀ah (ar:Nd),(∀b o,b≠a->s.heap.get? b=some o->ar.heap.get? b=some o)->ah (lt i j) ar->kas_ask prog w A o2 vs i j ah ar)(bn:oC vs.length lt (kas_sort vs.length)=some p.toArray)(h:P (.done<|.ret .none) {s with heap:=sortedHeap s.heap a vs (p.map λi=>vs.getD i Value.none).toArray}):wpAny (model prog w) A (Builtin.«list.sort» ⟨[.ref a],[]⟩) P O s:=by
 rw[list_sort_plain];have ak:a<s.heap.objs.size:=j5 aA;refine bd<|listItems_at aA rfl ?_;refine bd<|listUpdate_at aA rfl ?_ (by rw[eI,kG];exact pu ‹_›)<|f_ _;obtain⟨ag,u0⟩:∃ag,(s.heap.update a (Obj.mapSeq λ_=>#[])).get? a=some (seqObj "list" #[] ag):=⟨_,get?_update_seq aA<|λ_=>#[]⟩;refine bd<|seqEpoch_at u0 rfl ?_;refine bd (wpAny_newTuple ?_<|by show vs.length<=_;rw[kG];exact pu ‹_›);refine bd<|wi (gY ?_)<|f_ _;have xk:(((s.heap.update a<|Obj.mapSeq λ_=>#[]).push<|seqObj "tuple" vs.toArray 0).push<|seqObj "list" #[] 0).get? a=some (seqObj "list" #[] ag):=by rw[sj _ _ _ (by rw[size_push',wv];exact gK<|m6 ak),sj _ _ _<|by rw[wv];exact gK ak];exact u0
 have keep:∀b o,b≠a->s.heap.get? b=some o->(((s.heap.update a<|Obj.mapSeq λ_=>#[]).push<|seqObj "tuple" vs.toArray 0).push<|seqObj "list" #[] 0).get? b=some o:=λb o aw eb=>ik _<|ik _<|(Dj _ _<|io aw).trans eb;show wpAny (model prog w) A _ P O {s with heap:=((s.heap.update a<|Obj.mapSeq λ_=>#[]).push<|seqObj "tuple" vs.toArray 0).push (seqObj "list" #[] 0)};dsimp only;have lq:¬vs.toArray.size<2:=by rw[List.size_toArray];lia
 rw[bm lq,bm lq];refine bd<|aE _ _ _ keep ?_;obtain⟨kJ,op⟩:∃kJ:Nd,kJ={s with heap:=((s.heap.update a<|Obj.mapSeq λ_=>#[]).push<|seqObj "tuple" vs.toArray 0).push (seqObj "list" #[] 0)}:=⟨_,rfl⟩;refine bd<|ln (kat_run (ks:=vs) (Q:=λwo ar=>∃q:Array Č,q.size=vs.length/\arrOf wo=q.map (kas_item<|vs.toArray.zip vs.toArray)/\failedOf wo=none/\q=p.toArray/\ar=kJ) rfl E yX (λet wo ar eZ fP k2 kv=>⟨et,eZ,fP,k2,kv⟩)<|by rw[<-op];exact(ZE (ask:=kas_ask prog w A o2 vs) (h₀:=kJ.heap) (λi j aB b' la ah ar lY aq=>YH i j aB b' la ah ar (λb o aw eb=>by rw[lY,op];exact keep b o aw eb) aq) (kas_sort vs.length) (Q:=λq Pu=>q=p.toArray/\Pu=kJ) (s:=kJ) rfl bn ⟨rfl,rfl⟩)) ?_ λ_ _ e=>e;rintro⟨⟨⟩,wo⟩ar⟨q,a_,WL,a7,rfl,rfl⟩;dsimp only;have hsz:(List.toArray<|p.map λi=>vs.getD i Value.none).size=vs.length:=by rw[List.size_toArray,List.length_map];simpa using a_
 have Lw:ar.heap.get? a=some (seqObj "list" #[] ag):=by rw[op];exact xk
 rw[kat_snds rfl WL];refine bd<|seqEpoch_at Lw rfl ?_;refine bd (listUpdate_at Lw rfl ?_ (f_ _)<|aI (fQ hsz)<|by rw[kG];exact pu ‹_›);rw[a7];simp only[bne_self_eq_false,tA,sB];subst op;exact b4 h
end
theorem Bt{v:B}{k:bx}(e:jv v=some k):∃r,v=.tup (.str k::r):=by
 induction v using B.casesOn with
 |tup l=>induction l with
  |nil=>exact b0 e
  |cons x l=>induction x using B.casesOn with
   |str a=>cases e;exact⟨l,rfl⟩
   |_=>exact b0 e
 |_=>exact b0 e
theorem Mm{C:aY}{v:B}{V:Ĉ}{k:bx}(h:bA c.P C v V)(e:jv v=some k):gV λt u bC n=>V=.ref t/\C t=.a5 (ec (Value.str ⟨k.toArray⟩ u::bC).toArray n):=by obtain⟨r,rfl⟩:=Bt e;obtain⟨a,Vs,n,rfl,G,E,-⟩:=ps h;obtain⟨V,bC,rfl,aC,-⟩:=E.lG;obtain⟨u,rfl,-⟩:=aC.of;exact⟨a,u,bC,n,rfl,G⟩
theorem SP{a b:B}{k iw:bx}(G:jv a=some k)(E:jv b=some iw)(e8:k≠iw):pR a b=some (decide<|k<iw):=by obtain⟨r,rfl⟩:=Bt G;obtain⟨b2,rfl⟩:=Bt E;show(if(k==iw)=true then none else some (jj k iw))=_;rw[bm<|by simpa using e8];rfl
theorem Hh{P:Params}{C:aY}{l:IF B}{Vs:IF Ĉ}(h:bD P C l Vs){i:Č}(aB:i<l.length):bA P C (l.getD i .none) (Vs.getD i .none):=by obtain⟨V,G,E⟩:=h.get (i:=i) (v:=l[i])<|fq aB;rw[lH,lH,G,fq aB];exact E
theorem Kc{P:Params}{C:aY}{l:IF B}{Vs:IF Ĉ}(h:bD P C l Vs):∀{p:IF Č},(∀i∈p,i<l.length)->bD P C (p.map λi=>l.getD i .none) (p.map λi=>Vs.getD i .none)
 |[],_=>.nil
 |i::p,ae=>.cons (Hh h<|ae i tk)<|Kc h λj b'=>ae j<|qV _ b'
theorem Bw{av:Type}(d:av):∀(l:IF av),(List.range l.length).map (λi=>l.getD i d)=l:=by
 intro l;apply Aa;intro i;rw[gX];by_cases h:i<l.length
 .rw[List.getElem?_range h,fq h];simp[h]
 .rw[CW (by simpa using h),CW<|by simpa using h];rfl
theorem NG(aX:c.Ok){O:Ĉ->Nd->Prop}{s:Nd}{C:aY}{J:St}{l:IF B}{V:Ĉ}{z:B}{Q:Ĉ->Nd->Prop}(I:c.I C J s)(af:bA c.P C (.lst l) V)(e:k6 .sorted [.lst l]=some z)(h:∀Z aO ar,c.I aO J ar->br C s aO ar->bA c.P aO z Z->Q Z ar):wpAny c.M A (call (.builtin "sorted") [V]) Q O s:=by
 replace e:(if l.length<=4/\(l.all λx=>(jv x).isSome)=true/\(l.map jv).Nodup then(i8 l).map B.lst else none)=some z:=e;split at e
 .rename_i aq;obtain⟨ba,gc,kX⟩:=aq;obtain⟨c9,ag,a8⟩:=map_some e;clear e;subst a8;obtain⟨i1,Vs,Vd,rfl,bZ,bs,dN⟩:=pq af;clear af;have dU:=bs.length;have Bv:Vs.length<=4:=aI (fQ dU) ba;have C6:∀i,i<l.length->∃k,jv (l.getD i .none)=some k:=λi aB=>by have:=d'.mp gc l[i]<|w8 aB;rw[lH,fq aB];exact ha.mp this
  obtain⟨key,aE⟩:∃key:Č->bx,∀i,i<l.length->jv (l.getD i .none)=some (key i):=⟨λi=>(jv<|l.getD i .none).getD [],λi aB=>by obtain⟨k,e⟩:=C6 i aB;show _=some ((jv<|l.getD i .none).getD []);rw[e];rfl⟩;have e8:∀i j,i<l.length->j<l.length->i≠j->key i≠key j:=λi j aB b' la zK=>by
   refine la<|(List.getElem?_inj (l:=l.map jv) (by simpa using aB) kX (j:=j)).mp ?_;have g:∀i,i<l.length->(l.map jv)[i]?=some (some<|key i):=λi aB=>by have:=aE i aB;rw[lH,fq aB]at this;rw[gX,fq aB];exact bH some this
   rw[g i aB,g j b',zK]
  obtain⟨lt,cT⟩:∃lt:Č->Č->ĉ,lt=λi j=>decide (key i<key j):=⟨_,rfl⟩;have BD:c9=(kN lt<|List.range l.length).map λi=>l.getD i .none:=by have:=ZV (f:=λi=>l.getD i .none) (lt:=lt) (l:=List.range l.length)<|List.Pairwise.imp_of_mem (λ{i j} aB b' la=>by rw[lC]at aB b';rw[SP (aE i aB) (aE j b')<|e8 i j aB b' la,cT]) List.nodup_range;rw[Bw]at this;rw[this]at ag;cases ag;rfl
  have fin:∀{out:Array Ĉ},(∀aO,(∀a o,C a=.a5 o->aO a=.a5 o)->(∀a n,C a=.st n->aO a=.st n)->bD c.P aO c9 out.toList)->Q (.ref<|s.heap.objs.size+1) {s with heap:=sortedAll s.heap Vs out}:=λ{out} hz=>by
   obtain⟨rM,sr⟩:=sortedAll_at s.heap Vs out;have td:s.heap.get? (s.heap.objs.size+1)=none:=by
    induction q:s.heap.get? (s.heap.objs.size+1)with
    |none=>rfl
    |some o=>exact absurd (j5 q)<|rk.mpr<|kc _
   obtain⟨dk,eJ⟩:=Fy (cI:=s.toks) I (λb o eb=>sortedAll_old eb) td sr;refine h _ _ _ dk eJ<|.lst (Vs:=out.toList) (n:=rM) (by rw[c2]) (hz _ (eJ.zero.ot I) eJ.st) ?_;rw[BD,bV,E5.length_eq,t3];exact aI ba (by decide)
  refine A8 kind_sorted plain_sorted entry_sorted (args_sorted1 _) ?_;unfold Builtin.«sorted»;refine bd (m:=checkCount "sorted" 1 1 _)<|b4 ?_;refine bd (collect_list (hW (I.a5 _ _ bZ):s.heap.IsList i1 Vs.toArray) ?_<|by rw[kG];exact aI Bv<|aG rfl);refine bd (wi ?_<|by rw[kG];exact aI Bv<|aG rfl);have hsz:((s.heap.push<|seqObj "list" #[] 0).update s.heap.objs.size<|Obj.mapSeq (· ++Vs.toArray)).objs.size=s.heap.objs.size+1:=by rw[wv,size_push']
  have wy:(((s.heap.push<|seqObj "list" #[] 0).update s.heap.objs.size<|Obj.mapSeq (· ++Vs.toArray)).push<|seqObj "list" Vs.toArray 0).get? (s.heap.objs.size+1)=some (seqObj "list" Vs.toArray 0):=by rw[<-hsz];exact gZ _ rfl
  have keep:∀b o,s.heap.get? b=some o->(((s.heap.push<|seqObj "list" #[] 0).update s.heap.objs.size<|Obj.mapSeq (· ++Vs.toArray)).push<|seqObj "list" Vs.toArray 0).get? b=some o/\b≠s.heap.objs.size+1:=λb o q=>by have cT:b<s.heap.objs.size:=j5 q;refine⟨?_,gK<|m6 cT⟩;rw[sj _ _ _ (by rw[hsz];exact gK<|m6 cT),Heap.get?_update_ne _ _ _ _<|gK cT,sj _ _ _<|gK cT];exact q
  show wpAny _ _ _ _ _ {s with heap:=((s.heap.push<|seqObj "list" #[] 0).update s.heap.objs.size<|Obj.mapSeq (· ++Vs.toArray)).push (seqObj "list" Vs.toArray 0)};rw[hsz];refine bd<|gY<|nf slot_list_sort ⟨_,wy,rfl⟩ entry_list_sort ?_<|args_list_sort _;by_cases E:Vs.length<2
  .refine QX wy E ⟨_,rfl,b4 ⟨_,rfl,fin (out:=Vs.toArray) λaO d9 eY=>?_⟩⟩;have:c9=l:=by rw[BD,WM<|hH (fQ dU.symm) E,Bw]
   rw[this];simpa using bs.mono d9 eY
  .have cI:∀i,i<l.length->gV λt u bC n=>Vs.getD i .none=.ref t/\s.heap.get? t=some (ec (Value.str ⟨(key i).toArray⟩ u::bC).toArray n):=λi aB=>by obtain⟨t,u,bC,n,e,bn⟩:=Mm (Hh bs aB)<|aE i aB;exact⟨t,u,bC,n,e,I.a5 _ _ bn⟩
   have Qq:=Z6 (n:=l.length) (lt:=lt) (aI (rH E) (fQ dU)) ba (λi j aB b' la=>by
    rw[cT];simp only;by_cases q:key i<key j
    .simp only[q,decide_true,Bool.not_true,mH];exact λfg=>y4 _<|uc q fg
    .simp only[q,decide_false,Bool.not_false,jL];induction FV:decide (key j<key i)with
     |true=>exact fe FV
     |false=>exact absurd (J5 (rq FV) q) (e8 i j aB b' la))
    (λi j k _ _ _ G E=>by rw[cT]at G E⊢;simp only[jL]at G E⊢;exact uc G E) (λi _=>by rw[cT];simp only[mH];exact y4 _)
   refine V7 (o2:=tuples'<|Value.type "str" !=Value.type "tuple") (lt:=lt) (p:=kN lt<|List.range l.length) wy (rH E) (hH Bv<|jN rfl) (λvK bT ar lY a_=>?_) (λi j aB b' la ah ar lY jW=>?_) (by rw[dU];exact Qq) ⟨_,rfl,b4 ⟨_,rfl,fin λaO d9 eY=>?_⟩⟩
   .have È:∀(is:IF Č),(∀i∈is,i<l.length)->∃sS,sS.length=is.length/\KatTups ar.heap (is.map λi=>Vs.getD i .none) sS/\∀v∈sS,Looks c.M ar.heap (typeOf v) (.type "str"):=by
     intro is;induction is with
     |nil=>intro _;exact⟨[],rfl,trivial,λv af=>by simp at af⟩
     |cons i is ap=>
      intro aB;obtain⟨sS,jO,xL,Dh⟩:=ap λj b'=>aB j<|qV _ b';obtain⟨t,u,bC,n,qM,aA⟩:=cI i<|aB i tk;refine⟨.str ⟨(key i).toArray⟩ u::sS,by simp[jO],?_,λv af=>?_⟩
      .rw[gf,qM];obtain⟨fG,gz⟩:=keep _ _ aA;exact KatTups.cons (lY _ _ gz fG) rfl rfl (by simp) xL
      .rcases eD.mp af with rfl|af
       .exact Looks.of_pure rfl
       .exact Dh v af
    obtain⟨sS,jO,xL,Dh⟩:=È (List.range l.length) λi aB=>lC.mp aB;rw[show(List.range l.length).map (λi=>Vs.getD i Value.none)=Vs by rw[<-dU];exact Bw _ _]at xL;exact kat_kind xL (by rw[jO,t3];lia) Dh (by decide) a_
   .rw[dU]at aB b';obtain⟨t,u,bC,n,qM,aA⟩:=cI i aB;obtain⟨dM,iu,Of,n',Q2,hr⟩:=cI j b';obtain⟨fG,gz⟩:=keep _ _ aA;obtain⟨OB,QR⟩:=keep _ _ hr;unfold kas_ask;rw[qM,Q2];refine kat_lt (lY _ _ gz fG) rfl (lY _ _ QR OB) rfl ?_;show KatLex _ _ _ _ _ _ ((Value.str ⟨(key i).toArray⟩ u,Value.str ⟨(key j).toArray⟩ iu)::bC.zip Of) 0 ar;refine kat_cons<|eqBool_str ?_;rw[show((⟨(key i).toArray⟩:Str)==⟨(key j).toArray⟩)=false by rw[lI];intro q;refine e8 i j aB b' la ?_;have:=bH (λx:Str=>x.cps.toList) q;simpa using this];refine kat_no ?_;show wpAny c.M _ (oneLt' true _ _) ah _ ar;refine oneLt_str ?_;rw[cT]at jW;simpa using jW
   .rw[BD];simpa using(Kc (p:=kN lt<|List.range l.length) bs λi aB=>lC.mp<|CY.mp aB).mono d9 eY
 .exact b0 e
theorem NT(aX:c.Ok)(e3:A.handled=none):o3 c A (.builtin "sorted") (ow .sorted):=by
 intro O s C J v V z Q I af e h;replace e:Jj v=some z:=e;induction v using B.casesOn with
 |lst l=>exact NG aX I af e h
 |bb l=>exact Oa aX e3 I af e h
 |_=>exact b0 e
theorem h2{c:Prop}[Decidable c]{f:c->ĉ}(h:(if h:c then f h else false)=true):∃aU,f aU=true:=by
 by_cases cw:c
 .rw[dif_pos cw]at h;exact⟨cw,h⟩
 .rw[dif_neg cw]at h;exact absurd h dT
def wR (e:B) (k:ĉ->ĉ):ĉ:=B.casesOn (motive_1:=λ_=>ĉ) e false k (λ_=>false) (λ_=>false) (λ_=>false) (λ_=>false) (λ_=>false) (λ_=>false)<|λ_ _=>false
theorem wR.of{e:B}{k:ĉ->ĉ}(h:wR e k=true):∃a,e=.bool a/\k a=true:=by induction e using B.casesOn<;>first|exact⟨_,rfl,h⟩|exact absurd h dT
def wU (e:B) (k:č->ĉ):ĉ:=B.casesOn (motive_1:=λ_=>ĉ) e false (λ_=>false) k (λ_=>false) (λ_=>false) (λ_=>false) (λ_=>false) (λ_=>false)<|λ_ _=>false
theorem wU.of{e:B}{k:č->ĉ}(h:wU e k=true):∃a,e=.int a/\k a=true:=by induction e using B.casesOn<;>first|exact⟨_,rfl,h⟩|exact absurd h dT
def zB (e:B) (k:bx->ĉ):ĉ:=B.casesOn (motive_1:=λ_=>ĉ) e false (λ_=>false) (λ_=>false) k (λ_=>false) (λ_=>false) (λ_=>false) (λ_=>false)<|λ_ _=>false
theorem zB.of{e:B}{k:bx->ĉ}(h:zB e k=true):∃a,e=.str a/\k a=true:=by induction e using B.casesOn<;>first|exact⟨_,rfl,h⟩|exact absurd h dT
def yv (e:B) (k:IF B->ĉ):ĉ:=B.casesOn (motive_1:=λ_=>ĉ) e false (λ_=>false) (λ_=>false) (λ_=>false) k (λ_=>false) (λ_=>false) (λ_=>false)<|λ_ _=>false
theorem yv.of{e:B}{k:IF B->ĉ}(h:yv e k=true):∃a,e=.tup a/\k a=true:=by induction e using B.casesOn<;>first|exact⟨_,rfl,h⟩|exact absurd h dT
def y5 (e:B) (k:IF (B×B)->ĉ):ĉ:=B.casesOn (motive_1:=λ_=>ĉ) e false (λ_=>false) (λ_=>false) (λ_=>false) (λ_=>false) (λ_=>false) k (λ_=>false)<|λ_ _=>false
theorem y5.of{e:B}{k:IF (B×B)->ĉ}(h:y5 e k=true):∃a,e=.bb a/\k a=true:=by induction e using B.casesOn<;>first|exact⟨_,rfl,h⟩|exact absurd h dT
def v8 (e:a2) (k:Č->ĉ):ĉ:=a2.casesOn (motive_1:=λ_=>ĉ) e (λ_=>false) k (λ_ _=>false) (λ_ _=>false) (λ_ _ _ _=>false) (λ_ _=>false) (λ_=>false) (λ_=>false) (λ_=>false) (λ_=>false) (λ_ _ _=>false) (λ_=>false) (λ_ _=>false) (λ_=>false) (λ_=>false) (λ_ _ _=>false) (λ_ _=>false) (λ_ _=>false) (λ_ _ _=>false) (λ_ _=>false) (λ_ _=>false) (λ_ _ _ _ _=>false) false
theorem v8.of{e:a2}{k:Č->ĉ}(h:v8 e k=true):∃a,e=.v a/\k a=true:=by induction e using a2.casesOn<;>first|exact⟨_,rfl,h⟩|exact absurd h dT
def tn (e:a2) (k:B->ĉ):ĉ:=a2.casesOn (motive_1:=λ_=>ĉ) e k (λ_=>false) (λ_ _=>false) (λ_ _=>false) (λ_ _ _ _=>false) (λ_ _=>false) (λ_=>false) (λ_=>false) (λ_=>false) (λ_=>false) (λ_ _ _=>false) (λ_=>false) (λ_ _=>false) (λ_=>false) (λ_=>false) (λ_ _ _=>false) (λ_ _=>false) (λ_ _=>false) (λ_ _ _=>false) (λ_ _=>false) (λ_ _=>false) (λ_ _ _ _ _=>false) false
theorem tn.of{e:a2}{k:B->ĉ}(h:tn e k=true):∃a,e=.k a/\k a=true:=by induction e using a2.casesOn<;>first|exact⟨_,rfl,h⟩|exact absurd h dT
def sR (e:a2) (k:IF a2->ĉ):ĉ:=a2.casesOn (motive_1:=λ_=>ĉ) e (λ_=>false) (λ_=>false) (λ_ _=>false) (λ_ _=>false) (λ_ _ _ _=>false) (λ_ _=>false) (λ_=>false) (λ_=>false) k (λ_=>false) (λ_ _ _=>false) (λ_=>false) (λ_ _=>false) (λ_=>false) (λ_=>false) (λ_ _ _=>false) (λ_ _=>false) (λ_ _=>false) (λ_ _ _=>false) (λ_ _=>false) (λ_ _=>false) (λ_ _ _ _ _=>false) false
theorem sR.of{e:a2}{k:IF a2->ĉ}(h:sR e k=true):∃a,e=.lst a/\k a=true:=by induction e using a2.casesOn<;>first|exact⟨_,rfl,h⟩|exact absurd h dT
def xq (e:a2) (k:IF (a2×a2)->ĉ):ĉ:=a2.casesOn (motive_1:=λ_=>ĉ) e (λ_=>false) (λ_=>false) (λ_ _=>false) (λ_ _=>false) (λ_ _ _ _=>false) (λ_ _=>false) (λ_=>false) (λ_=>false) (λ_=>false) k (λ_ _ _=>false) (λ_=>false) (λ_ _=>false) (λ_=>false) (λ_=>false) (λ_ _ _=>false) (λ_ _=>false) (λ_ _=>false) (λ_ _ _=>false) (λ_ _=>false) (λ_ _=>false) (λ_ _ _ _ _=>false) false
theorem xq.of{e:a2}{k:IF (a2×a2)->ĉ}(h:xq e k=true):∃a,e=.bb a/\k a=true:=by induction e using a2.casesOn<;>first|exact⟨_,rfl,h⟩|exact absurd h dT
def yW (e:a2) (k:a2->ĉ->IF Č->a2->IF a2->ĉ):ĉ:=a2.casesOn (motive_1:=λ_=>ĉ) e (λ_=>false) (λ_=>false) (λ_ _=>false) (λ_ _=>false) (λ_ _ _ _=>false) (λ_ _=>false) (λ_=>false) (λ_=>false) (λ_=>false) (λ_=>false) (λ_ _ _=>false) (λ_=>false) (λ_ _=>false) (λ_=>false) (λ_=>false) (λ_ _ _=>false) (λ_ _=>false) (λ_ _=>false) (λ_ _ _=>false) (λ_ _=>false) (λ_ _=>false) k false
theorem yW.of{e:a2}{k:a2->ĉ->IF Č->a2->IF a2->ĉ}(h:yW e k=true):tK λa b c d g=>e=.comp a b c d g/\k a b c d g=true:=by induction e using a2.casesOn<;>first|exact⟨_,_,_,_,_,rfl,h⟩|exact absurd h dT
def fa (e:ċ) (k:Str->Pos->ĉ):ĉ:=if h:e.ctorIdx=23 then Expr.Name.elim (motive_1:=λ_=>ĉ) e h k else false
theorem fa.of{e:ċ}{k:Str->Pos->ĉ}(h:fa e k=true):dX λa b=>e=.Name a b/\k a b=true:=by obtain⟨aU,h⟩:=h2 h;exact Expr.Name.elim (motive_1:=λe=>∀aU,Expr.Name.elim (motive_1:=λ_=>ĉ) e aU k=true->dX λa b=>e=.Name a b/\k a b=true) e aU (λa b _ h=>⟨a,b,rfl,h⟩) aU h
def jQ (e:ċ) (k:ċ->Str->Pos->ĉ):ĉ:=if h:e.ctorIdx=20 then Expr.Attribute.elim (motive_1:=λ_=>ĉ) e h k else false
theorem jQ.of{e:ċ}{k:ċ->Str->Pos->ĉ}(h:jQ e k=true):dI λa b c=>e=.Attribute a b c/\k a b c=true:=by obtain⟨aU,h⟩:=h2 h;exact Expr.Attribute.elim (motive_1:=λe=>∀aU,Expr.Attribute.elim (motive_1:=λ_=>ĉ) e aU k=true->dI λa b c=>e=.Attribute a b c/\k a b c=true) e aU (λa b c _ h=>⟨a,b,c,rfl,h⟩) aU h
def mC (e:ċ) (k:ċ->ċ->Pos->ĉ):ĉ:=if h:e.ctorIdx=21 then Expr.Subscript.elim (motive_1:=λ_=>ĉ) e h k else false
theorem mC.of{e:ċ}{k:ċ->ċ->Pos->ĉ}(h:mC e k=true):dI λa b c=>e=.Subscript a b c/\k a b c=true:=by obtain⟨aU,h⟩:=h2 h;exact Expr.Subscript.elim (motive_1:=λe=>∀aU,Expr.Subscript.elim (motive_1:=λ_=>ĉ) e aU k=true->dI λa b c=>e=.Subscript a b c/\k a b c=true) e aU (λa b c _ h=>⟨a,b,c,rfl,h⟩) aU h
def si (e:ċ) (k:Ċ ċ->Ċ ċ->Ċ ċ->Pos->ĉ):ĉ:=if h:e.ctorIdx=26 then Expr.Slice.elim (motive_1:=λ_=>ĉ) e h k else false
theorem si.of{e:ċ}{k:Ċ ċ->Ċ ċ->Ċ ċ->Pos->ĉ}(h:si e k=true):gV λa b c d=>e=.Slice a b c d/\k a b c d=true:=by obtain⟨aU,h⟩:=h2 h;exact Expr.Slice.elim (motive_1:=λe=>∀aU,Expr.Slice.elim (motive_1:=λ_=>ĉ) e aU k=true->gV λa b c d=>e=.Slice a b c d/\k a b c d=true) e aU (λa b c d _ h=>⟨a,b,c,d,rfl,h⟩) aU h
def qd (e:ċ) (k:IF ċ->Pos->ĉ):ĉ:=if h:e.ctorIdx=24 then Expr.List.elim (motive_1:=λ_=>ĉ) e h k else false
theorem qd.of{e:ċ}{k:IF ċ->Pos->ĉ}(h:qd e k=true):dX λa b=>e=.List a b/\k a b=true:=by obtain⟨aU,h⟩:=h2 h;exact Expr.List.elim (motive_1:=λe=>∀aU,Expr.List.elim (motive_1:=λ_=>ĉ) e aU k=true->dX λa b=>e=.List a b/\k a b=true) e aU (λa b _ h=>⟨a,b,rfl,h⟩) aU h
def nZ (e:ċ) (k:IF ċ->Č->Pos->ĉ):ĉ:=if h:e.ctorIdx=25 then Expr.Tuple.elim (motive_1:=λ_=>ĉ) e h k else false
theorem nZ.of{e:ċ}{k:IF ċ->Č->Pos->ĉ}(h:nZ e k=true):dI λa b c=>e=.Tuple a b c/\k a b c=true:=by obtain⟨aU,h⟩:=h2 h;exact Expr.Tuple.elim (motive_1:=λe=>∀aU,Expr.Tuple.elim (motive_1:=λ_=>ĉ) e aU k=true->dI λa b c=>e=.Tuple a b c/\k a b c=true) e aU (λa b c _ h=>⟨a,b,c,rfl,h⟩) aU h
def sN (e:ċ) (k:IF (Ċ ċ)->IF ċ->Pos->ĉ):ĉ:=if h:e.ctorIdx=6 then Expr.Dict.elim (motive_1:=λ_=>ĉ) e h k else false
theorem sN.of{e:ċ}{k:IF (Ċ ċ)->IF ċ->Pos->ĉ}(h:sN e k=true):dI λa b c=>e=.Dict a b c/\k a b c=true:=by obtain⟨aU,h⟩:=h2 h;exact Expr.Dict.elim (motive_1:=λe=>∀aU,Expr.Dict.elim (motive_1:=λ_=>ĉ) e aU k=true->dI λa b c=>e=.Dict a b c/\k a b c=true) e aU (λa b c _ h=>⟨a,b,c,rfl,h⟩) aU h
def yK (e:ċ) (k:ċ->Operator->ċ->Pos->ĉ):ĉ:=if h:e.ctorIdx=2 then Expr.BinOp.elim (motive_1:=λ_=>ĉ) e h k else false
theorem yK.of{e:ċ}{k:ċ->Operator->ċ->Pos->ĉ}(h:yK e k=true):gV λa b c d=>e=.BinOp a b c d/\k a b c d=true:=by obtain⟨aU,h⟩:=h2 h;exact Expr.BinOp.elim (motive_1:=λe=>∀aU,Expr.BinOp.elim (motive_1:=λ_=>ĉ) e aU k=true->gV λa b c d=>e=.BinOp a b c d/\k a b c d=true) e aU (λa b c d _ h=>⟨a,b,c,d,rfl,h⟩) aU h
def pQ (e:ċ) (k:UnaryOp->ċ->Pos->ĉ):ĉ:=if h:e.ctorIdx=3 then Expr.UnaryOp.elim (motive_1:=λ_=>ĉ) e h k else false
theorem pQ.of{e:ċ}{k:UnaryOp->ċ->Pos->ĉ}(h:pQ e k=true):dI λa b c=>e=.UnaryOp a b c/\k a b c=true:=by obtain⟨aU,h⟩:=h2 h;exact Expr.UnaryOp.elim (motive_1:=λe=>∀aU,Expr.UnaryOp.elim (motive_1:=λ_=>ĉ) e aU k=true->dI λa b c=>e=.UnaryOp a b c/\k a b c=true) e aU (λa b c _ h=>⟨a,b,c,rfl,h⟩) aU h
def sG (e:ċ) (k:ċ->IF CmpOp->IF ċ->Pos->ĉ):ĉ:=if h:e.ctorIdx=15 then Expr.Compare.elim (motive_1:=λ_=>ĉ) e h k else false
theorem sG.of{e:ċ}{k:ċ->IF CmpOp->IF ċ->Pos->ĉ}(h:sG e k=true):gV λa b c d=>e=.Compare a b c d/\k a b c d=true:=by obtain⟨aU,h⟩:=h2 h;exact Expr.Compare.elim (motive_1:=λe=>∀aU,Expr.Compare.elim (motive_1:=λ_=>ĉ) e aU k=true->gV λa b c d=>e=.Compare a b c d/\k a b c d=true) e aU (λa b c d _ h=>⟨a,b,c,d,rfl,h⟩) aU h
def oa (e:ċ) (k:BoolOp->IF ċ->Pos->ĉ):ĉ:=if h:e.ctorIdx=0 then Expr.BoolOp.elim (motive_1:=λ_=>ĉ) e h k else false
theorem oa.of{e:ċ}{k:BoolOp->IF ċ->Pos->ĉ}(h:oa e k=true):dI λa b c=>e=.BoolOp a b c/\k a b c=true:=by obtain⟨aU,h⟩:=h2 h;exact Expr.BoolOp.elim (motive_1:=λe=>∀aU,Expr.BoolOp.elim (motive_1:=λ_=>ĉ) e aU k=true->dI λa b c=>e=.BoolOp a b c/\k a b c=true) e aU (λa b c _ h=>⟨a,b,c,rfl,h⟩) aU h
def tW (e:ċ) (k:ċ->ċ->ċ->Pos->ĉ):ĉ:=if h:e.ctorIdx=5 then Expr.IfExp.elim (motive_1:=λ_=>ĉ) e h k else false
theorem tW.of{e:ċ}{k:ċ->ċ->ċ->Pos->ĉ}(h:tW e k=true):gV λa b c d=>e=.IfExp a b c d/\k a b c d=true:=by obtain⟨aU,h⟩:=h2 h;exact Expr.IfExp.elim (motive_1:=λe=>∀aU,Expr.IfExp.elim (motive_1:=λ_=>ĉ) e aU k=true->gV λa b c d=>e=.IfExp a b c d/\k a b c d=true) e aU (λa b c d _ h=>⟨a,b,c,d,rfl,h⟩) aU h
def kP (e:ċ) (k:ċ->IF ċ->IF Keyword->Pos->ĉ):ĉ:=if h:e.ctorIdx=16 then Expr.Call.elim (motive_1:=λ_=>ĉ) e h k else false
theorem kP.of{e:ċ}{k:ċ->IF ċ->IF Keyword->Pos->ĉ}(h:kP e k=true):gV λa b c d=>e=.Call a b c d/\k a b c d=true:=by obtain⟨aU,h⟩:=h2 h;exact Expr.Call.elim (motive_1:=λe=>∀aU,Expr.Call.elim (motive_1:=λ_=>ĉ) e aU k=true->gV λa b c d=>e=.Call a b c d/\k a b c d=true) e aU (λa b c d _ h=>⟨a,b,c,d,rfl,h⟩) aU h
def zT (e:ċ) (k:ċ->IF Comprehension->Scope->Pos->ĉ):ĉ:=if h:e.ctorIdx=8 then Expr.ListComp.elim (motive_1:=λ_=>ĉ) e h k else false
theorem zT.of{e:ċ}{k:ċ->IF Comprehension->Scope->Pos->ĉ}(h:zT e k=true):gV λa b c d=>e=.ListComp a b c d/\k a b c d=true:=by obtain⟨aU,h⟩:=h2 h;exact Expr.ListComp.elim (motive_1:=λe=>∀aU,Expr.ListComp.elim (motive_1:=λ_=>ĉ) e aU k=true->gV λa b c d=>e=.ListComp a b c d/\k a b c d=true) e aU (λa b c d _ h=>⟨a,b,c,d,rfl,h⟩) aU h
def tH (e:ċ) (k:Const->Č->Pos->ĉ):ĉ:=if h:e.ctorIdx=19 then Expr.Constant.elim (motive_1:=λ_=>ĉ) e h k else false
theorem tH.of{e:ċ}{k:Const->Č->Pos->ĉ}(h:tH e k=true):dI λa b c=>e=.Constant a b c/\k a b c=true:=by obtain⟨aU,h⟩:=h2 h;exact Expr.Constant.elim (motive_1:=λe=>∀aU,Expr.Constant.elim (motive_1:=λ_=>ĉ) e aU k=true->dI λa b c=>e=.Constant a b c/\k a b c=true) e aU (λa b c _ h=>⟨a,b,c,rfl,h⟩) aU h
def zs (e:Stmt) (k:IF ċ->ċ->Pos->ĉ):ĉ:=if h:e.ctorIdx=5 then Stmt.Assign.elim (motive_2:=λ_=>ĉ) e h k else false
theorem zs.of{e:Stmt}{k:IF ċ->ċ->Pos->ĉ}(h:zs e k=true):dI λa b c=>e=.Assign a b c/\k a b c=true:=by obtain⟨aU,h⟩:=h2 h;exact Stmt.Assign.elim (motive_2:=λe=>∀aU,Stmt.Assign.elim (motive_2:=λ_=>ĉ) e aU k=true->dI λa b c=>e=.Assign a b c/\k a b c=true) e aU (λa b c _ h=>⟨a,b,c,rfl,h⟩) aU h
def tB (e:Stmt) (k:ċ->Pos->ĉ):ĉ:=if h:e.ctorIdx=24 then Stmt.Expr.elim (motive_2:=λ_=>ĉ) e h k else false
theorem tB.of{e:Stmt}{k:ċ->Pos->ĉ}(h:tB e k=true):dX λa b=>e=.Expr a b/\k a b=true:=by obtain⟨aU,h⟩:=h2 h;exact Stmt.Expr.elim (motive_2:=λe=>∀aU,Stmt.Expr.elim (motive_2:=λ_=>ĉ) e aU k=true->dX λa b=>e=.Expr a b/\k a b=true) e aU (λa b _ h=>⟨a,b,rfl,h⟩) aU h
def ya (e:Stmt) (k:ċ->IF Stmt->IF Stmt->Pos->ĉ):ĉ:=if h:e.ctorIdx=12 then Stmt.If.elim (motive_2:=λ_=>ĉ) e h k else false
theorem ya.of{e:Stmt}{k:ċ->IF Stmt->IF Stmt->Pos->ĉ}(h:ya e k=true):gV λa b c d=>e=.If a b c d/\k a b c d=true:=by obtain⟨aU,h⟩:=h2 h;exact Stmt.If.elim (motive_2:=λe=>∀aU,Stmt.If.elim (motive_2:=λ_=>ĉ) e aU k=true->gV λa b c d=>e=.If a b c d/\k a b c d=true) e aU (λa b c d _ h=>⟨a,b,c,d,rfl,h⟩) aU h
def x8 (e:Stmt) (k:ċ->ċ->IF Stmt->IF Stmt->Pos->ĉ):ĉ:=if h:e.ctorIdx=9 then Stmt.For.elim (motive_2:=λ_=>ĉ) e h k else false
theorem x8.of{e:Stmt}{k:ċ->ċ->IF Stmt->IF Stmt->Pos->ĉ}(h:x8 e k=true):tK λa b c d g=>e=.For a b c d g/\k a b c d g=true:=by obtain⟨aU,h⟩:=h2 h;exact Stmt.For.elim (motive_2:=λe=>∀aU,Stmt.For.elim (motive_2:=λ_=>ĉ) e aU k=true->tK λa b c d g=>e=.For a b c d g/\k a b c d g=true) e aU (λa b c d g _ h=>⟨a,b,c,d,g,rfl,h⟩) aU h
def xo (e:Stmt) (k:Ċ ċ->Pos->ĉ):ĉ:=if h:e.ctorIdx=3 then Stmt.Return.elim (motive_2:=λ_=>ĉ) e h k else false
theorem xo.of{e:Stmt}{k:Ċ ċ->Pos->ĉ}(h:xo e k=true):dX λa b=>e=.Return a b/\k a b=true:=by obtain⟨aU,h⟩:=h2 h;exact Stmt.Return.elim (motive_2:=λe=>∀aU,Stmt.Return.elim (motive_2:=λ_=>ĉ) e aU k=true->dX λa b=>e=.Return a b/\k a b=true) e aU (λa b _ h=>⟨a,b,rfl,h⟩) aU h
def fr {av:Type} (l:IF av) (k:av->ĉ):ĉ:=match l with|[]=>false|a::l=>l.isEmpty&&k a
theorem fr.of{av:Type}{l:IF av}{k:av->ĉ}(h:fr l k=true):∃a,l=[a]/\k a=true:=by
 induction l with
 |nil=>exact cH h
 |cons a l=>have h:=(gA.mp h);exact⟨a,by rw[fW.mp h.1],h.2⟩
def h3 {av:Type} (l:IF av) (k:av->av->ĉ):ĉ:=match l with|[]=>false|a::l=>fr l<|k a
theorem h3.of{av:Type}{l:IF av}{k:av->av->ĉ}(h:h3 l k=true):dX λa b=>l=[a,b]/\k a b=true:=by
 induction l using List.casesOn with
 |nil=>exact cH h
 |cons a l=>obtain⟨b,rfl,h⟩:=fr.of (k:=k a) h;exact⟨a,b,rfl,h⟩
def zF {av:Type} (l:IF av) (k:av->av->av->ĉ):ĉ:=match l with|[]=>false|a::l=>h3 l<|k a
theorem zF.of{av:Type}{l:IF av}{k:av->av->av->ĉ}(h:zF l k=true):dI λa b c=>l=[a,b,c]/\k a b c=true:=by
 induction l using List.casesOn with
 |nil=>exact cH h
 |cons a l=>obtain⟨b,c,rfl,h⟩:=h3.of (k:=k a) h;exact⟨a,b,c,rfl,h⟩
def mZ {av:Type} (o:Ċ av) (k:av->ĉ):ĉ:=match o with|none=>false|some a=>k a
theorem mZ.of{av:Type}{o:Ċ av}{k:av->ĉ}(h:mZ o k=true):∃a,o=some a/\k a=true:=by
 induction o with
 |none=>exact cH h
 |some a=>exact⟨a,rfl,h⟩
theorem e7{a b c:ĉ}(h:(a&&b&&c)=true):dJ (a=true) (b=true) (c=true):=by induction a<;>induction b<;>induction c<;>first|(exact cH h;done)|exact⟨rfl,rfl,rfl⟩
theorem ci{a b:ĉ}(h:(a&&b)=true):a=true/\b=true:=gA.mp h
theorem fl{a:ĉ}(h:(!a)=true):a=false:=by induction a<;>first|rfl|exact cH h
theorem nX{a b:ĉ}(h:(a||b)=true):a=true\/b=true:=Bool.or_eq_true_iff.mp h
mutual
noncomputable def lz:B->B->ĉ
 |.none,b=>b.ctorIdx==0
 |.bool x,b=>wR b λy=>x==y
 |.int x,b=>wU b λy=>x==y
 |.str x,b=>zB b λy=>x==y
 |.tup l,b=>yv b λm=>yZ l m
 |.bb l,b=>y5 b λm=>zX l m
 |.lst _,_=>false
 |.ref _,_=>false
 |.ez _ _,_=>false
noncomputable def yZ:IF B->IF B->ĉ
 |[],m=>m.isEmpty
 |a::r,m=>match m with|[]=>false|b::t=>lz a b&&yZ r t
noncomputable def zX:IF (B×B)->IF (B×B)->ĉ
 |[],m=>m.isEmpty
 |(a,c)::r,m=>match m with|[]=>false|(b,d)::t=>lz a b&&(lz c d&&zX r t)
end
mutual
theorem mJ:∀{a b:B},lz a b=true->a=b
 |.none,b,h=>(B.GL<|eF h).symm
 |.bool x,b,h=>by obtain⟨y,rfl,h⟩:=wR.of (k:=λy=>x==y) h;rw[eF h]
 |.int x,b,h=>by obtain⟨y,rfl,h⟩:=wU.of (k:=λy=>x==y) h;rw[eF h]
 |.str x,b,h=>by obtain⟨y,rfl,h⟩:=zB.of (k:=λy=>x==y) h;rw[eF h]
 |.tup l,b,h=>by obtain⟨m,rfl,h⟩:=yv.of (k:=λm=>yZ l m) h;rw[K9 h]
 |.bb l,b,h=>by obtain⟨m,rfl,h⟩:=y5.of (k:=λm=>zX l m) h;rw[EN h]
 |.lst _,_,h=>absurd h dT
 |.ref _,_,h=>absurd h dT
 |.ez _ _,_,h=>absurd h dT
theorem K9:∀{a b:IF B},yZ a b=true->a=b
 |[],m,h=>(fW.mp h).symm
 |a::r,[],h=>absurd h dT
 |a::r,b::t,h=>by have h:=ci h;rw[mJ h.1,K9 h.2]
theorem EN:∀{a b:IF (B×B)},zX a b=true->a=b
 |[],m,h=>(fW.mp h).symm
 |(a,c)::r,[],h=>absurd h dT
 |(a,c)::r,(b,d)::t,h=>by have h:=ci h;have E:=ci h.2;rw[mJ h.1,mJ E.1,EN E.2]
end
structure fs where
 ns:bI
 kinds:List (Str×NameKind)
 fn:Bool
def fs.cy (sp:fs) (x:Str):ĉ:=sp.kinds.lookup x==some .globalImplicit
def fs.b6 (sp:fs) (x:Str):ĉ:=sp.kinds.lookup x==some .local||(sp.fn&&sp.kinds.lookup x==some .cell)
def fs.kL (sp:fs) (x:Str):ĉ:=sp.fn&&sp.kinds.lookup x==some .cell
structure kA where
 oN:List (Str×Nat)
 oX:List (Str×B)
 gl:List (Str×Nat)
 qc:List Str
 an:Nat->Str
def all2 (f:ċ->a2->ĉ):IF ċ->IF a2->ĉ
 |[],l=>l.isEmpty
 |a::r,l=>match l with|[]=>false|b::t=>f a b&&all2 f r t
def t6 (x:Str):ĉ:=x==("__debug__":Str)||x==("__classdict__":Str)
def qH (sp:fs) (x:Str) (i:Č):ĉ:=sp.ns.lookup x==some i&& !t6 x
def K3 (v:B):Const->ĉ
 |.int i=>lz v<|.int i
 |.bool b=>lz v<|.bool b
 |.none=>lz v .none
 |.str x=>decide (x.cps.toList.length<=1000)&&lz v (.str x.cps.toList)
 |.float _=>false
 |.complex _ _=>false
 |.bytes _=>false
 |.ellipsis=>false
def Fp (k:č->ĉ):Const->ĉ
 |.int i=>k i
 |.bool _=>false
 |.none=>false
 |.str _=>false
 |.float _=>false
 |.complex _ _=>false
 |.bytes _=>false
 |.ellipsis=>false
def vInt (e:ċ) (k:č->ĉ):ĉ:=tH e λc _ _=>Fp k c
def qW (e:ċ) (k:č->ĉ):ĉ:=pQ e λo e _=>o==.USub&&vInt e k
def JD (T:kA) (sp:fs) (e:ċ) (v:B):ĉ:=tH e (λc _ _=>K3 v c)||qW e (λi=>lz v<|.int<|-i)||fa e λx _=>sp.cy x&& !t6 x&&mZ (T.oX.lookup x) λw=>lz w v
abbrev j1:=ĉ->fs->ċ->a2->ĉ
def FM (c:a2):ĉ:=v8 c λ_=>true
def tj (f:j1) (sp:fs) (e:ċ) (bK:a2):ĉ:=v8 bK (λi=>fa e λx _=>qH sp x i)||(!FM bK&&f false sp e bK)
def wN (x:Ċ ċ) (i:Ċ č):ĉ:=match x with
 |none=>i.isNone
 |some e=>mZ i λj=>vInt e (λi=>i==j)||qW e λi=> -i==j
def xG (f:j1) (sp:fs):IF (Ċ ċ)->IF ċ->IF (a2×a2)->ĉ
 |[],vs,l=>vs.isEmpty&&l.isEmpty
 |k::ks,vs,l=>match vs with
  |[]=>false
  |v::vs=>(match l with|[]=>false|(a,b)::l=>mZ k λk=>f false sp k a&&(f false sp v b&&xG f sp ks vs l))
def p_:f7->Ċ Str
 |.len=>some "len"|.sorted=>some "sorted"|.tuple=>some "tuple"|.any=>some "any"|.all=>some "all"|.str=>some "str"|.int=>some "int"
 |.qf=>none|.index=>none|.get=>none
def Hr (f:j1) (sp:fs) (b:f7) (l:IF a2) (e:ċ):ĉ:=kP e λg args jd pos=>jd.isEmpty&&(match b with
 |.qf=>fr l λc=>h3 args λag t=>fa g λx _=>fa t λy _=>(x=="isinstance"&&y=="str")&&(sp.cy x&&sp.cy y)&&(!fH ag&&f false sp ag c)
 |.index=>h3 l λo c=>fr args λag=>jQ g λdC x ie=>x=="index"&& !lN dC&&(ie.endLine==pos.line)&&(!fH ag&&f false sp dC o&&f false sp ag c)
 |.get=>zF l λo c d=>h3 args λag a8=>jQ g λdC x ie=>(x=="get"&& !lN dC&&(ie.endLine==pos.line))&&(!fH ag&& !fH a8)&&(f false sp dC o&&f false sp ag c&&f false sp a8 d)
 |b=>fr l λc=>fr args λag=>fa g λx _=>(p_ b==some x&&sp.cy x)&&(!fH ag&&f false sp ag c))
def Lh:IF ċ->IF Str
 |[]=>[]
 |e::r=>if h:e.ctorIdx=23 then Expr.Name.elim (motive_1:=λ_=>IF Str) e h λx _=>x::Lh r else []
def vc (sp:fs):IF ċ->IF Č->ĉ
 |[],l=>l.isEmpty
 |e::r,l=>match l with|[]=>false|i::is=>fa e λx _=>(sp.ns.lookup x==some i&&sp.b6 x)&&vc sp r is
def Bm (sp:fs) (bk:ĉ) (e:ċ) (aS:IF Č):ĉ:=match bk with
 |false=>fa e λx _=>fr aS λi=>sp.ns.lookup x==some i&&sp.b6 x
 |true=>nZ e λes _ _=>vc sp es aS
def MB (e:ċ):IF Str:=if h:e.ctorIdx=23 then Expr.Name.elim (motive_1:=λ_=>IF Str) e h λx _=>[x]else if h:e.ctorIdx=25 then Expr.Tuple.elim (motive_1:=λ_=>IF Str) e h λes _ _=>Lh es else []
def kr (sp:fs) (target:ċ) (aS:IF Č) (scope:Scope):fs:=⟨(MB target).zip aS++scope.names.filterMap (λp=>if p.2==.free then(sp.ns.lookup p.1).map (p.1,·)else none),scope.names,false⟩
def GD (sp:fs) (b1:fs) (aS:IF Č) (scope:Scope):ĉ:=scope.names.all (λy=>y.2 !=.cell)&&(scope.kind==.function)&&scope.names.all (λy=>y.2 !=.local||scope.names.lookup y.1==some .local)&&scope.names.all (λy=>y.2 !=.free||sp.kL y.1)&&b1.ns.all (λp=>(scope.names.lookup p.1==some .local&&aS.contains p.2)||(scope.names.lookup p.1==some .free&&sp.ns.lookup p.1==some p.2))&&decide ((b1.ns.map (·.2)).Nodup)
def y_ (f:j1) (sp:fs) (e:ċ) (bK:a2):ĉ:=zT e λf6 gens scope _=>yW bK λc bk aS it wA=>fr gens λg=>
 g.is_async==0&&(GD sp (kr sp g.target aS scope) aS scope&&Bm (kr sp g.target aS scope) bk g.target aS)&&(!qC g.iter&&tj f sp g.iter it&&f false (kr sp g.target aS scope) f6 c)&&(match g.ifs with
  |[]=>wA.isEmpty
  |i::l=>l.isEmpty&&fr wA λA2=>f true (kr sp g.target aS scope) i A2)
def tQ (es:IF ċ):ĉ:=decide<|es.length<=1000
def j9 (T:kA) (f:j1) (sp:fs) (e:ċ) (bK:a2):ĉ:=match bK with
 |.k v=>JD T sp e v
 |.v i=>fa e λx _=>qH sp x i
 |.at c a=>jQ e λo x _=>(!lN o&&T.an a==x)&&(decide (a<33)&&f false sp o c)
 |.ao c i=>mC e λo s _=>w' s&&tj f sp o c&&f false sp s i
 |.aL c a b d=>mC e λo s _=>si s λlo up st _=>(f false sp o c&&wN lo a)&&(wN up b&&wN st d)
 |.tU c i=>mC e λo s _=>si s λlo up st _=>mZ lo λs=>(up.isNone&&st.isNone)&&(f false sp o c&&f false sp s i)
 |.box c=>sR c λl=>qd e λes _=>all2 (f false sp) es l&&ju es&&tQ es
 |.tup l=>nZ e λes _ _=>all2 (f false sp) es l&&ju es&&tQ es
 |.lst l=>qd e λes _=>all2 (f false sp) es l&&ju es&&tQ es
 |.bb l=>sN e λks vs _=>(ks.isEmpty&&vs.isEmpty&&l.isEmpty)||(!ks.isEmpty&&xG f sp ks vs l&&decide (ks.length<=15))
 |.bin o a b=>yK e λl gk r _=>gk==CZ o&&f false sp l a&&f false sp r b
 |.not c=>pQ e λo e _=>o==.Not&&f false sp e c
 |.cmp a l=>sG e λle ops m0 _=>match l with
  |[]=>false
  |(o,b)::l=>(match l with
   |[]=>fr ops λgk=>fr m0 λr=>(gk==lc o&&f false sp le a)&&(tj f sp r b&& !behindInMarks gk r)
   |(cB,eA)::l=>l.isEmpty&&h3 ops λgk BX=>h3 m0 λr b2=>((gk==lc o&&BX==lc cB)&&(f false sp le a&&f false sp r b&&tj f sp b2 eA))&&(!(o==.isin)&& !(o==.f3)&& !lastMarks [gk,BX] [r,b2]))
 |.an l=>oa e λo es _=>o==.And&& !es.isEmpty&&all2 (f false sp) es l
 |.or l=>oa e λo es _=>o==.Or&& !es.isEmpty&&all2 (f false sp) es l
 |.ite c t o=>tW e λa b d _=>f true sp a c&&f false sp b t&&f false sp d o
 |.call g l=>kP e λh args jd _=>fa h λx _=>(jd.isEmpty&&sp.cy x&& !t6 x)&&(T.oN.lookup x==some g&&ju args&&all2 (f false sp) args l)
 |.new c l=>kP e λh args jd _=>fa h λx _=>(jd.isEmpty&&sp.cy x&& !t6 x)&&(T.gl.lookup x==some c&&ju args&&all2 (f false sp) args l)
 |.cQ o m l=>kP e λh args jd pos=>jQ h λdC x ie=>((jd.isEmpty&& !lN dC&&(ie.endLine==pos.line))&&(decide (args.length<30)&&ju args&&T.qc[m]?==some x))&&(f false sp dC o&&all2 (f false sp) args l)
 |.bi b l=>Hr f sp b l e
 |.ez a b=>kP e λh args jd _=>fa h λx _=>(jd.isEmpty&&x=="range"&&sp.cy x)&&(fr args (λag=>(!fH ag&&tn a λv=>lz v<|.int 0)&&f false sp ag b)||h3 args λag a8=>(!fH ag&& !fH a8)&&(f false sp ag a&&f false sp a8 b))
 |.comp c bk aS it ifs=>y_ f sp e<|.comp c bk aS it ifs
 |.bad=>true
def NP (f:j1) (sp:fs) (e:ċ) (bK:a2):ĉ:=xw e&&f false sp e bK
def HQ (T:kA) (f:j1) (sp:fs) (e:ċ) (bK:a2):ĉ:=NP f sp e bK||match bK with
 |.bad=>true
 |.not c=>pQ e λo e _=>o==.Not&&f true sp e c
 |.an l=>oa e λo es _=>o==.And&& !es.isEmpty&&all2 (f true sp) es l
 |.or l=>oa e λo es _=>o==.Or&& !es.isEmpty&&all2 (f true sp) es l
 |.ite c t o=>tW e λa b d _=>f true sp a c&&f true sp b t&&f true sp d o
 |.cmp a l=>fr l λp=>sG e λle ops m0 _=>fr ops λgk=>fr m0 λr=>(gk==lc p.1&&f false sp le a)&&(tj f sp r p.2&& !behindInMarks gk r)
 |_=>false
def x5 (T:kA):Č->j1
 |0=>λ_ _ _ _=>false
 |n+1=>λm sp e bK=>if m then HQ T (x5 T n) sp e bK else j9 T (x5 T n) sp e bK
def z2 (f:j1) (sp:fs) (e:ċ) (bK:a2):ĉ:=sR bK (λl=>qd e λes _=>all2 (f false sp) es l&&ju es&&tQ es)||xq bK λl=>sN e λks vs _=>ks.isEmpty&&vs.isEmpty&&l.isEmpty
abbrev zm:=fs->IF Stmt->IF dF->ĉ
def kF (st:Stmt) (k:ċ->ċ->ĉ):ĉ:=zs st λaS e _=>fr aS λt=>k t e
def tC (sp:fs) (st:Stmt) (i:Č) (k:ċ->ĉ):ĉ:=kF st λt e=>fa t λx _=>(sp.ns.lookup x==some i&&sp.b6 x)&&k e
def qD (st:Stmt) (m:Str) (k:ċ->ċ->ĉ):ĉ:=tB st λc _=>kP c λg args jd o5=>jQ g λdC x ie=>fr args λe=>(jd.isEmpty&&x==m&&(ie.endLine==o5.line))&&(!fH e&&k dC e)
def n3 (T:kA) (f:j1) (g:zm) (sp:fs) (st:Stmt) (b1:dF):ĉ:=match b1 with
 |.set i bK=>tC sp st i λe=>if iz e then y_ f sp e bK else f false sp e bK
 |.own i bK=>tC sp st i λe=>if iz e then y_ f sp e bK else z2 f sp e bK
 |.ho l bK=>kF st λt e=>nZ t λes _ _=>vc sp es l&&((!zC e&&f false sp e bK)||nZ e λvs _ _=>h3 vs λa b=>h3 es λx y=>fa x λx _=>fa y λy _=>(!fH a&& !fH b&& !(x==y))&&(!(foldedForSure 8 a&&foldedForSure 8 b)&& !(constantsAlone 8 a&&constantsAlone 8 b)&&f false sp e bK))
 |.fX o a bK=>kF st λt e=>jQ t λdC x _=>(T.an a==x&&decide (a<33)&& !iz e)&&(f false sp e bK&&f false sp dC o)
 |.jo o a bK=>kF st λt e=>jQ t λdC x _=>(T.an a==x&&decide (a<33)&& !iz e)&&(z2 f sp e bK&&f false sp dC o)
 |.nu o i bK=>kF st λt e=>mC t λdC ws _=>(!iz e&&f false sp e bK)&&(f false sp dC o&&f false sp ws i)
 |.jA i k bK=>kF st λt e=>mC t λdC uQ _=>fa dC λx _=>(qH sp x i&& !iz e)&&(f false sp e bK&&f false sp uQ k)
 |.app i bK=>qD st "append" λdC e=>fa dC λx _=>qH sp x i&&f false sp e bK
 |.ext i bK=>qD st "extend" λdC e=>fa dC λx _=>qH sp x i&&f false sp e bK
 |.nj o bK=>qD st "append" λdC e=> !lN dC&&f false sp dC o&&f false sp e bK
 |.ex bK=>tB st λe _=> !iz e&&f false sp e bK
 |.iff c t o=>ya st λa b d _=>f true sp a c&&g sp b t&&g sp d o
 |.for bk aS it b=>x8 st λtarget iter body Jh _=>(Jh.isEmpty&&Bm sp bk target aS&& !qC iter)&&(f false sp iter it&&g sp body b)
 |.ret bK=>xo st λo _=>match o with
  |some e=>f false sp e bK
  |none=>tn bK λv=>lz v .none
 |.a5 _=>false
 |.bad=>true
def lJ (c:dF) (k:Č->ĉ):ĉ:=dF.casesOn (motive_1:=λ_=>ĉ) c (λ_ _=>false) (λ_ _=>false) (λ_ _=>false) (λ_ _ _=>false) (λ_ _ _=>false) (λ_ _ _=>false) (λ_ _ _=>false) (λ_ _=>false) (λ_ _=>false) (λ_ _=>false) (λ_=>false) (λ_ _ _=>false) (λ_ _ _ _=>false) (λ_=>false) k false
theorem lJ.of{c:dF}{k:Č->ĉ}(h:lJ c k=true):∃i,c=.a5 i/\k i=true:=by induction c using dF.casesOn<;>first|exact⟨_,rfl,h⟩|exact absurd h dT
def sF (T:kA):Č->zm
 |0=>λ_ _ _=>false
 |n+1=>λsp cS b1=>match b1 with
  |[]=>cS.isEmpty
  |c::b1=>lJ c (λi=>sp.ns.any (λp=>sp.ns.lookup p.1==some i)&&sF T n sp cS b1)||(match cS with
   |[]=>false
   |st::cS=>n3 T (x5 T n) (sF T n) sp st c&&sF T n sp cS b1)
set_option tactic.hygienic true
noncomputable abbrev cc.at (b:cc) (sp:fs):cc:={b with ns:=sp.ns,cy:=sp.cy,b6:=sp.b6,kL:=sp.kL}
def sb:f7->Ĉ
 |.len=>.builtin "len"|.sorted=>.builtin "sorted"|.tuple=>.type "tuple"|.any=>.builtin "any"|.all=>.builtin "all"|.str=>.type "str"|.int=>.type "int"
 |.qf=>.none|.index=>.none|.get=>.none
structure l6(b:cc)(T:kA)(A:Around)(ah:jD):Prop where
 mo:tO ah
 e3:A.handled=none
 a4:A.units+40<cLine
 ok:b.Ok
 an:T.an=b.N.an
 oN:∀x g,T.oN.lookup x=some g->∃a,b.gP x=some (.ref a)/\keepIn b.K (.ref a)=true/\oF b A (.ref a) (ah g)
 oX:∀x v,T.oX.lookup x=some v->∃V,b.gP x=some V/\bA b.P (f0 b.H) v V
 gl:∀x be,T.gl.lookup x=some be->b.gP x=some (.ref<|b.N.cl be)/\keepIn b.K (.ref<|b.N.cl be)=true/\∀f,lV.A7 be=some f->oF b A (.ref<|b.N.cl be) (HY be<|ah f)
 qc:∀m name,T.qc[m]?=some name->(∀a,b.N.an a≠name)/\∀be f,lV.meths be m=some f->∃F,keepIn b.K (.ref F)=true/\findIn b.K (.ref<|b.N.cl be) "__getattribute__"=some (some<|.builtin "object.__getattribute__")/\findIn b.K (.ref<|b.N.cl be) "__getattr__"=some none/\findIn b.K (.ref<|b.N.cl be) name=some (some<|.ref F)/\typeIn b.K (.ref F)=some (.type "function")/\oF b A (.ref F) (ah f)
 bi:∀fk nm,p_ fk=some nm->b.gP nm=none/\b.kb nm=some (sb fk)
 inst:b.gP "isinstance"=none/\b.kb "isinstance"=some (.builtin "isinstance")
 ez:b.gP "range"=none/\b.kb "range"=some (.type "range")
theorem Gb:∀{l:bI} {x y:Str} {i:Č},(l.map (·.2)).Nodup->l.lookup x=some i->l.lookup y=some i->x=y
 |[],_,_,_,_,h,_=>by simp at h
 |(n,j)::r,x,y,i,am,G,E=>by
  rw[gf,hK]at am;rw[kO]at G E;have out:∀z,r.lookup z=some i->i≠j:=λz hz q=>am.1 (by have:=fx (f:=λx:Str×Č=>x.2)<|mem_of_lookup hz;rwa[q]at this);induction bZ:x==n with
  |true=>
   rw[bZ]at G;cases G;induction bs:y==n with
   |true=>rw[fM.mp bZ,fM.mp bs]
   |false=>rw[bs]at E;exact absurd rfl<|out y E
  |false=>
   rw[bZ]at G;induction bs:y==n with
   |true=>rw[bs]at E;cases E;exact absurd rfl<|out x G
   |false=>rw[bs]at E;exact Gb am.2 G E
theorem cc.Ok.at{b:cc}(aX:b.Ok){sp:fs}(h:(sp.ns.map (·.2)).Nodup):(b.at sp).Ok:=⟨aX.sys,aX.ru,aX.CC,aX.ab,aX.inj,λx y i G E=>Gb h G E,aX.iB,aX.nc⟩
def i0(b:cc)(A:Around)(ah:jD)(f:j1):Prop:=∀sp e bK,(sp.ns.map (·.2)).Nodup->(f false sp e bK=true->Good (b.at sp) A e (cm ah bK))/\(f true sp e bK=true->kt (b.at sp) A e (wn<|cm ah bK))
section
variable{b:cc}{T:kA}{A:Around}{ah:jD}{f:j1}{sp:fs}
theorem wG{x:Str}{i:Č}{pos:Pos}(h:qH sp x i=true):dJ (sp.ns.lookup x=some i) ((x==("__debug__":Str))=false) ((x==("__classdict__":Str))=false):=by replace h:=ci h;have E:=qt.mp<|fl h.2;exact⟨eF h.1,E.1,E.2⟩
theorem vInt.of{e:ċ}{k:č->ĉ}(h:vInt e k=true):dI λi a p=>e=.Constant (.int i) a p/\k i=true:=by
 replace h:=tH.of (k:=λc _ _=>Fp k c) h;obtain⟨c,a,p,rfl,h⟩:=h;induction c with
 |int i=>exact⟨i,a,p,rfl,h⟩
 |_=>exact absurd h dT
theorem qW.of{e:ċ}{k:č->ĉ}(h:qW e k=true):gV λi a p q=>e=.UnaryOp .USub (.Constant (.int i) a p) q/\k i=true:=by replace h:=pQ.of (k:=λo e _=>o==.USub&&vInt e k) h;obtain⟨o,e,q,rfl,h⟩:=h;replace h:=ci h;obtain⟨i,a,p,rfl,E⟩:=vInt.of h.2;rw[eF h.1];exact⟨i,a,p,q,rfl,E⟩
theorem OV(F:l6 b T A ah)(am:(sp.ns.map (·.2)).Nodup){e:ċ}{v:B}(h:JD T sp e v=true):Good (b.at sp) A e λ_ J K=>K v J:=by
 replace h:=nX h;rcases h with h|h
 .replace h:=nX h;rcases h with h|h
  .replace h:=tH.of (k:=λc _ _=>K3 v c) h;obtain⟨c,a,p,rfl,h⟩:=h;induction c with
   |int i=>rw[mJ h];exact good_int
   |bool i=>rw[mJ h];exact good_bool
   |none=>rw[mJ h];exact good_none
   |str x=>have h:=ci h;rw[mJ h.2];exact good_str (aI (fe h.1)<|by decide)
   |_=>exact absurd h dT
  .replace h:=qW.of h;obtain⟨i,a,p,q,rfl,h⟩:=h;rw[mJ h];exact IJ good_int
 .replace h:=fa.of (k:=λx _=>sp.cy x&& !t6 x&&mZ (T.oX.lookup x) λw=>lz w v) h;obtain⟨x,p,rfl,h⟩:=h;replace h:=e7 h;obtain⟨G,E,aC⟩:=h;replace aC:=mZ.of aC;obtain⟨w,bF,aC⟩:=aC;obtain⟨V,bZ,bs⟩:=F.oX _ _ bF;exact VI (F.ok.at am) G bZ (qt.mp<|fl E).1<|mJ aC▸bs
theorem Tt{bK:a2}(h:FM bK=false)(r:aJ):Internal.peek r bK=none:=by induction bK using a2.casesOn<;>first|rfl|exact ig h
theorem vB(H:i0 b A ah f)(am:(sp.ns.map (·.2)).Nodup){e:ċ}{bK:a2}(h:tj f sp e bK=true):lM (b.at sp) A e (yY bK<|cm ah bK):=by
 replace h:=nX h;rcases h with h|h
 .replace h:=v8.of (k:=λi=>fa e λx _=>qH sp x i) h;obtain⟨i,rfl,h⟩:=h;replace h:=fa.of (k:=λx _=>qH sp x i) h;obtain⟨x,p,rfl,h⟩:=h;obtain⟨G,E,aC⟩:=wG (pos:=⟨0,0,0,0⟩) h;clear h;exact Wv G E aC
 .replace h:=ci h;exact T9 ((H sp _ _ am).1 h.2) λr=>Tt (fl h.1) r
theorem y3(H:i0 b A ah f)(am:(sp.ns.map (·.2)).Nodup){es:IF ċ}:∀{l:IF a2},ju es=true->all2 (f false sp) es l=true->k7 (b.at sp) A es (lR ah l)/\(es=[]->∀r J K,lR ah l r J K->K [] J):=by
 induction es with
 |nil=>intro l _ h;obtain rfl:=fW.mp h;exact⟨Ur,λ_ _ _ _ e=>e⟩
 |cons e es ap=>
  intro l aK h;unfold ju at aK;rw[t0,e2,kk]at aK;induction l using List.casesOn with
  |nil=>exact absurd h dT
  |cons c l=>have h:=ci h;exact⟨US aK.1 ((H sp _ _ am).1 h.1) (ap aK.2 h.2).1,λq=>nomatch q⟩
theorem OY{es:IF ċ}(h:tQ es=true):es.length<=a3:=aI (fe h) (by decide)
theorem DR{x:Ċ ċ}{i:Ċ č}{c:cc}(h:wN x i=true):pJ c A x i:=by
 induction x with
 |none=>
  induction i with
  |none=>exact .none
  |some i=>exact absurd h dT
 |some e=>
  replace h:=mZ.of (k:=λj=>vInt e (λi=>i==j)||qW e λi=> -i==j) h;obtain⟨j,rfl,h⟩:=h;replace h:=nX h;rcases h with h|h
  .replace h:=vInt.of h;obtain⟨i,a,p,rfl,h⟩:=h;rw[<-eF h];exact .some good_int
  .replace h:=qW.of h;obtain⟨i,a,p,q,rfl,h⟩:=h;rw[<-eF h];exact .some<|IJ good_int
theorem TA(H:i0 b A ah f)(am:(sp.ns.map (·.2)).Nodup){ks:IF (Ċ ċ)}:∀{vs:IF ċ} {l:IF (a2×a2)},xG f sp ks vs l=true->dJ (vL (b.at sp) A ks vs<|xy ah l) (ks.all (·.isSome)=true) (ks.length=vs.length):=by
 induction ks with
 |nil=>intro vs l h;have h:=ci h;obtain rfl:=fW.mp h.1;obtain rfl:=fW.mp h.2;exact⟨NO,rfl,rfl⟩
 |cons k ks ap=>
  intro vs l h;induction vs using List.casesOn with
  |nil=>exact absurd h dT
  |cons v vs=>induction l using List.casesOn with
   |nil=>exact absurd h dT
   |cons p l=>obtain⟨k,rfl,h⟩:=mZ.of (k:=λk=>f false sp k p.1&&(f false sp v p.2&&xG f sp ks vs l)) h;have h:=ci h;have aR:=ci h.2;obtain⟨g,G,E⟩:=ap aR.2;exact⟨NA ((H sp _ _ am).1 h.1) ((H sp _ _ am).1 aR.1) g,G,bH Nat.succ E⟩
end
set_option tactic.hygienic false
section
variable{b:cc}{T:kA}{A:Around}{ah:jD}{f:j1}{sp:fs}
theorem om.any{fk:f7}{v:B}{p:Prop}(h:om fk v p):p:=by
 induction fk using f7.casesOn with
 |index=>exact(kj.dt h).choose_spec.2
 |get=>exact(Fv h).choose_spec.2
 |_=>exact h
theorem j7.weak{c:cc}{t:Env->Sem Ĉ}{w rD:dm}(g:j7 c A t w)(h:∀r J K,rD r J K->w r J K):j7 c A t rD:=λO s ac C r J k K Q I F e a_=>g O s ac C r J k K Q I F (h _ _ _ e) a_
theorem Rp(fk:f7):(match p_ fk with|some nm=>(nm==("__debug__":Str))|none=>false)=false:=by induction fk using f7.casesOn<;>rfl
theorem LR{c:cc}(aX:c.Ok)(e3:A.handled=none)(fk:f7):cond (p_ fk).isNone True (((∃id,sb fk=.builtin id)\/∃T,sb fk=.type T)/\o3 c A (sb fk) (ow fk)):=by
 induction fk using f7.casesOn with
 |len=>exact⟨.inl ⟨_,rfl⟩,O7 aX⟩
 |sorted=>exact⟨.inl ⟨_,rfl⟩,NT aX e3⟩
 |tuple=>exact⟨.inr ⟨_,rfl⟩,Uq⟩
 |any=>exact⟨.inl ⟨_,rfl⟩,ME aX e3⟩
 |all=>exact⟨.inl ⟨_,rfl⟩,Oi aX e3⟩
 |str=>exact⟨.inr ⟨_,rfl⟩,Ye⟩
 |int=>exact⟨.inr ⟨_,rfl⟩,Yz⟩
 |_=>trivial
theorem ZX(F:l6 b T A ah)(H:i0 b A ah f)(am:(sp.ns.map (·.2)).Nodup){g:ċ}{args:IF ċ}{pos:Pos}{fk:f7}{l:IF a2}(h:(fr l λc=>fr args λag=>fa g λx _=>(p_ fk==some x&&sp.cy x)&&(!fH ag&&f false sp ag c))=true):Good (b.at sp) A (.Call g args [] pos) (cm ah<|.bi fk l):=by have aX:=F.ok.at am;replace h:=fr.of (l:=l) h;obtain⟨bK,rfl,h⟩:=h;replace h:=fr.of (l:=args) h;obtain⟨ag,rfl,h⟩:=h;replace h:=fa.of (k:=λx _=>(p_ fk==some x&&sp.cy x)&&(!fH ag&&f false sp ag bK)) h;obtain⟨x,p,rfl,h⟩:=h;replace h:=ci h;have a:=ci h.1;have c:=ci h.2;have aU:=eF a.1;obtain⟨kJ,pO⟩:=F.bi _ _ aU;have bg:=Rp fk;have ok:=LR aX F.e3 fk;rw[aU]at bg ok;exact(NS aX a.2 kJ pO bg (fl c.1) ((H sp _ _ am).1 c.2) ok.1 ok.2).weak λr J K h=>gy F.mo bK r J _ _ (λv J h=>om.any h)<|show cm ah bK r J (Fd fk (lR ah []) r K)from h
theorem T_(F:l6 b T A ah)(H:i0 b A ah f)(am:(sp.ns.map (·.2)).Nodup){e:ċ}{fk:f7}{l:IF a2}(h:Hr f sp fk l e=true):Good (b.at sp) A e (cm ah<|.bi fk l):=by
 have aX:=F.ok.at am;replace h:=kP.of h;obtain⟨g,args,jd,pos,rfl,h⟩:=h;replace h:=ci h;cases fW.mp h.1;replace h:=h.2;induction fk using f7.casesOn with
 |qf=>
  replace h:=fr.of (l:=l) h;obtain⟨c,rfl,h⟩:=h;replace h:=h3.of (l:=args) h;obtain⟨ag,t,rfl,h⟩:=h;replace h:=fa.of (e:=g) h;obtain⟨x,p,rfl,h⟩:=h;replace h:=fa.of (e:=t) h;obtain⟨y,q,rfl,h⟩:=h;replace h:=e7 h;obtain⟨G,E,aC⟩:=h;have a:=ci G;have c:=ci E;have d:=ci aC;rcases eF a.1 with rfl;rcases eF a.2 with rfl
  obtain⟨kJ,pO⟩:=F.bi .str _ rfl;exact(Y3 aX c.1 F.inst.1 F.inst.2 c.2 kJ pO (fl d.1)<|(H sp _ _ am).1 d.2)
 |index=>
  replace h:=h3.of (l:=l) h;obtain⟨o,c,rfl,h⟩:=h;replace h:=fr.of (l:=args) h;obtain⟨ag,rfl,h⟩:=h;replace h:=jQ.of (e:=g) h;obtain⟨dC,x,ie,rfl,h⟩:=h;replace h:=ci h;obtain⟨G,E,aC⟩:=e7 h.1;obtain⟨ba,cN,d7⟩:=e7 h.2;rcases eF G with rfl
  exact(NX F.a4 (fl E) (by simpa using aC) (fl ba) ((H sp _ _ am).1 cN)<|(H sp _ _ am).1 d7)
 |get=>
  replace h:=zF.of (l:=l) h;obtain⟨o,c,d,rfl,h⟩:=h;replace h:=h3.of (l:=args) h;obtain⟨ag,a8,rfl,h⟩:=h;replace h:=jQ.of (e:=g) h;obtain⟨dC,x,ie,rfl,h⟩:=h;replace h:=e7 h;obtain⟨eZ,fP,k2⟩:=h;obtain⟨G,E,aC⟩:=e7 eZ;clear eZ;have cW:=ci fP;obtain⟨ba,cN,d7⟩:=e7 k2;clear k2;rcases eF G with rfl
  exact(TQ aX F.a4 (fl E) (by simpa using aC) (fl cW.1) (fl cW.2) ((H sp _ _ am).1 ba) ((H sp _ _ am).1 cN)<|(H sp _ _ am).1 d7)
 |_=>exact ZX F H am h
theorem ys{c:cc}(wp:c.ns=sp.ns)(vN:c.b6=sp.b6):∀{es:IF ċ} {is:IF Č},vc sp es is=true->pw c es is
 |[],[],_=>.nil
 |[],_::_,h=>absurd h dT
 |e::es,[],h=>absurd h dT
 |e::es,i::is,h=>by replace h:=fa.of (k:=λx _=>(sp.ns.lookup x==some i&&sp.b6 x)&&vc sp es is) h;obtain⟨x,p,rfl,h⟩:=h;replace h:=ci h;have a:=ci h.1;exact .cons (by rw[wp];exact eF a.1) (by rw[vN];exact a.2)<|ys wp vN h.2
theorem Ka{c:cc}(wp:c.ns=sp.ns)(vN:c.b6=sp.b6){bk:ĉ}{e:ċ}{aS:IF Č}(h:Bm sp bk e aS=true):mu c bk e aS:=by
 induction bk with
 |false=>replace h:=fa.of (e:=e) h;obtain⟨x,p,rfl,h⟩:=h;replace h:=fr.of (l:=aS) h;obtain⟨i,rfl,h⟩:=h;replace h:=ci h;exact .one (by rw[wp];exact eF h.1) (by rw[vN];exact h.2)
 |true=>replace h:=nZ.of (e:=e) h;obtain⟨es,k,p,rfl,h⟩:=h;exact .tup<|ys wp vN h
structure O3(c:cc)(A:Around)(e:Expr)(w:dm):Prop where
 good:Good c A e w
 UO:∀{x:Str} {eL oU:Pos} {i:Nat},c.ns.lookup x=some i->c.b6 x=true->ga c A (.Assign [.Name x eL] e oU) λr J K=>w r J<|qa i r K
 Oo:∀{x:Str} {eL oU:Pos} {i:Nat},c.ns.lookup x=some i->c.b6 x=true->ga c A (.Assign [.Name x eL] e oU) λr J K=>w r J<|uU i r K
theorem Bn(F:l6 b T A ah)(H:i0 b A ah f)(am:(sp.ns.map (·.2)).Nodup){e:ċ}{bK:a2}(h:y_ f sp e bK=true):O3 (b.at sp) A e (cm ah bK):=by
 replace h:=zT.of (e:=e) h;obtain⟨f6,gens,scope,pos,rfl,h⟩:=h;replace h:=yW.of (e:=bK) h;obtain⟨c,bk,aS,it,wA,rfl,h⟩:=h;replace h:=fr.of (l:=gens) h;obtain⟨⟨target,iter,ifs,as⟩,rfl,h⟩:=h;replace h:=ci h;have d7:=h.2;obtain⟨aU,G,aC⟩:=e7 h.1;replace G:=ci G;have E:=G.2;replace G:=G.1;replace aC:=e7 aC;obtain⟨aC,ba,cN⟩:=aC;replace aC:=fl aC;rcases eF aU with rfl
 unfold GD at G;simp only[e2,fM,jL,d',bne_iff_ne,l0,ne_eq]at G;obtain⟨⟨⟨⟨⟨fG,gz⟩,j'⟩,Bh⟩,C8⟩,DF⟩:=G;have gI:pi ((b.at sp).comp (kr sp target aS scope).ns (kr sp target aS scope).cy (kr sp target aS scope).b6) A ifs (s' ah wA):=by
  induction ifs using List.casesOn with
  |nil=>cases fW.mp d7;exact QT
  |cons i l=>replace d7:=ci d7;cases fW.mp d7.1;obtain⟨A2,rfl,fm⟩:=fr.of (l:=wA) d7.2;exact Qi<|(H (kr sp target aS scope) i A2 DF).2 fm
 have K:pm (b.at sp) (kr sp target aS scope).ns (kr sp target aS scope).cy (kr sp target aS scope).b6 scope aS:={ok:=F.ok.at (sp:=⟨(kr sp target aS scope).ns,_,_⟩) DF,Cr:=λy a1=>fG y a1,kind:=gz,xT:=λy a1 e=>(j' y a1).elim (λh=>absurd e h) λh=>h,free:=λy a1 e=>(Bh y a1).elim (λh=>absurd e h) λh=>h,vars:=λx i az=>(C8 (x,i)<|mem_of_lookup az).imp (λh=>⟨h.1,by simpa using h.2⟩) id,gl:=λx az=>(by have g1:(scope.names.lookup x==some .globalImplicit)=true:=az;simpa using g1),st:=λx az=>(by have g1:(scope.names.lookup x==some .local||(false&&scope.names.lookup x==some .cell))=true:=az;simpa using g1)};have hc:=Ka (c:=(b.at sp).comp (kr sp target aS scope).ns (kr sp target aS scope).cy (kr sp target aS scope).b6) rfl rfl E;have ge:=(H _ _ _ DF).1 cN;have gl:=vB H am ba;have aX:=F.ok.at am;exact⟨z6 aX<|B_ aX K F.e3 hc gI ge gl aC,Xr aX K F.e3 hc gI ge gl aC,VB aX K F.e3 hc gI ge gl aC⟩
end
section
variable{b:cc}{T:kA}{A:Around}{ah:jD}{f:j1}{sp:fs}
theorem Ww(H:i0 b A ah f)(am:(sp.ns.map (·.2)).Nodup){pos:Pos}{es:IF ċ}:∀{l:IF a2},es≠[]->all2 (f false sp) es l=true->j7 (b.at sp) A (λac=>boolOp pos .And<|evalEach es ac) (qo ah l):=by
 induction es with
 |nil=>exact λh _=>absurd rfl h
 |cons e es ap=>
  intro l _ h;cases l with
  |nil=>exact absurd h dT
  |cons c l=>
   have h:=ci h;have g:=(H sp _ _ am).1 h.1;cases es with
   |nil=>obtain rfl:=fW.mp h.2;exact Zx g
   |cons y es=>cases l with
    |nil=>exact absurd h.2 dT
    |cons d l=>exact Ã g<|ap (List.cons_ne_nil _ _) h.2
theorem ZM(H:i0 b A ah f)(am:(sp.ns.map (·.2)).Nodup){pos:Pos}{es:IF ċ}:∀{l:IF a2},es≠[]->all2 (f false sp) es l=true->j7 (b.at sp) A (λac=>boolOp pos .Or<|evalEach es ac) (pT ah l):=by
 induction es with
 |nil=>exact λh _=>absurd rfl h
 |cons e es ap=>
  intro l _ h;cases l with
  |nil=>exact absurd h dT
  |cons c l=>
   have h:=ci h;have g:=(H sp _ _ am).1 h.1;cases es with
   |nil=>obtain rfl:=fW.mp h.2;exact O5 g
   |cons y es=>cases l with
    |nil=>exact absurd h.2 dT
    |cons d l=>exact TE g<|ap (List.cons_ne_nil _ _) h.2
theorem xK{es:IF ċ}{l:IF a2}(H:i0 b A ah f)(am:(sp.ns.map (·.2)).Nodup)(h:(all2 (f false sp) es l&&ju es&&tQ es)=true):k7 (b.at sp) A es (lR ah l)/\es.length<=a3:=by obtain⟨G,E,aC⟩:=e7 h;exact⟨(y3 H am E G).1,OY aC⟩
theorem Xi{F:Ĉ}{o:Ċ Č}{g:Č->rO}(h:∀f,o=some f->oF b A F (g f)):oF b A F λvs J K=>ax o λf=>g f vs J K:=λs C J vs Vs K R I af e k=>ax.dt e λf q e=>h f q s C J vs Vs K R I af e k
section
variable(F:l6 b T A ah)(H:i0 b A ah f)(am:(sp.ns.map (·.2)).Nodup)
include F H am
theorem RF{e:ċ}{c:a2}{a:Č}(h:j9 T f sp e (.at c a)=true):Good (b.at sp) A e (cm ah<|.at c a):=by replace h:=jQ.of (e:=e) h;obtain⟨o,x,p,rfl,h⟩:=h;replace h:=ci h;obtain⟨G,E⟩:=h;replace G:=ci G;replace E:=ci E;exact ZN (F.ok.at am) (fl G.1) (fe E.1) (by show b.N.an _=_;rw[<-F.an];exact eF G.2)<|(H sp _ _ am).1 E.2
theorem LP{e:ċ}{c i:a2}(h:j9 T f sp e (.ao c i)=true):Good (b.at sp) A e (cm ah<|.ao c i):=by replace h:=mC.of (e:=e) h;obtain⟨o,s,p,rfl,h⟩:=h;obtain⟨G,E,aC⟩:=e7 h;clear h;exact ZQ (by have:=F.a4;exact iY ‹_›) G (vB H am E)<|(H sp _ _ am).1 aC
theorem RZ{e:ċ}{c:a2}{x y z:Ċ č}(h:j9 T f sp e (.aL c x y z)=true):Good (b.at sp) A e (cm ah<|.aL c x y z):=by replace h:=mC.of (e:=e) h;obtain⟨o,s,p,rfl,h⟩:=h;replace h:=si.of (e:=s) h;obtain⟨lo,up,st,q,rfl,h⟩:=h;replace h:=ci h;obtain⟨G,E⟩:=h;replace G:=ci G;replace E:=ci E;exact Sb ((H sp _ _ am).1 G.1) (DR G.2) (DR E.1)<|DR E.2
theorem ZU{e:ċ}{c i:a2}(h:j9 T f sp e (.tU c i)=true):Good (b.at sp) A e (cm ah<|.tU c i):=by replace h:=mC.of (e:=e) h;obtain⟨o,s,p,rfl,h⟩:=h;replace h:=si.of (e:=s) h;obtain⟨lo,up,st,q,rfl,h⟩:=h;replace h:=mZ.of (o:=lo) h;obtain⟨s,rfl,h⟩:=h;replace h:=ci h;obtain⟨G,E⟩:=h;replace G:=ci G;replace E:=ci E;cases qr.mp G.1;cases qr.mp G.2;exact VW ((H sp _ _ am).1 E.1)<|(H sp _ _ am).1 E.2
theorem Xn{e:ċ}{c:a2}(h:j9 T f sp e (.box c)=true):Good (b.at sp) A e (cm ah<|.box c):=by replace h:=sR.of (e:=c) h;obtain⟨l,rfl,h⟩:=h;replace h:=qd.of (e:=e) h;obtain⟨es,p,rfl,h⟩:=h;obtain⟨g,aj⟩:=xK H am h;exact R6 g aj
theorem Ua{e:ċ}{l:IF (a2×a2)}(h:j9 T f sp e (.bb l)=true):Good (b.at sp) A e (cm ah<|.bb l):=by
 replace h:=sN.of (e:=e) h;obtain⟨ks,vs,p,rfl,h⟩:=h;replace h:=nX h;rcases h with h|h
 .obtain⟨G,E,aC⟩:=e7 h;clear h;cases fW.mp G;cases fW.mp E;cases fW.mp aC;exact z6 (F.ok.at am)<|JB<|F.ok.at am
 .obtain⟨fG,gz,j'⟩:=e7 h;clear h;obtain⟨g,G,E⟩:=TA H am gz;exact VJ (by have:=F.a4;exact iY ‹_›) (F.ok.at am).sys G E (by rintro rfl;exact cH fG) (fe j') g
theorem Zg{e:ċ}{o:kq}{x y:a2}(h:j9 T f sp e (.bin o x y)=true):Good (b.at sp) A e (cm ah<|.bin o x y):=by
 replace h:=yK.of (e:=e) h;obtain⟨l,gk,r,p,rfl,h⟩:=h;obtain⟨aU,G,E⟩:=e7 h;clear h;rcases eF aU with rfl
 exact VK ((H sp _ _ am).1 G) ((H sp _ _ am).1 E)<|Ol _
theorem R1{e:ċ}{c:a2}{l:IF (hP×a2)}(h:j9 T f sp e (.cmp c l)=true):Good (b.at sp) A e (cm ah<|.cmp c l):=by
 replace h:=sG.of (e:=e) h;obtain⟨le,ops,m0,p,rfl,h⟩:=h;induction l using List.casesOn with
 |nil=>exact absurd h dT
 |cons p l=>
 obtain⟨o,d⟩:=p;induction l using List.casesOn with
 |nil=>
  replace h:=fr.of (l:=ops) h;obtain⟨gk,rfl,h⟩:=h;replace h:=fr.of (l:=m0) h;obtain⟨r,rfl,h⟩:=h;replace h:=ci h;obtain⟨G,E⟩:=h;replace G:=ci G;replace E:=ci E;rcases eF G.1 with rfl
  exact Nq ((H sp _ _ am).1 G.2) (zj F.a4 (F.ok.at am).sys _) (vB H am E.1)<|fl E.2
 |cons p l=>obtain⟨cB,mE⟩:=p;replace h:=ci h;cases fW.mp h.1;replace h:=h.2;replace h:=h3.of (l:=ops) h;obtain⟨gk,BX,rfl,h⟩:=h;replace h:=h3.of (l:=m0) h;obtain⟨r,b2,rfl,h⟩:=h;replace h:=ci h;obtain⟨G,E⟩:=h;replace G:=ci G;obtain⟨aU,G⟩:=G;replace aU:=ci aU;obtain⟨fG,gz,j'⟩:=e7 G;clear G;obtain⟨ba,cN,d7⟩:=e7 E;clear E;rcases eF aU.1 with rfl;rcases eF aU.2 with rfl;exact Xa ((H sp _ _ am).1 fG) (zj F.a4 (F.ok.at am).sys _) ((H sp _ _ am).1 gz) (vB H am j') (zj F.a4 (F.ok.at am).sys _) ⟨(by rintro rfl;exact cH ba),(by rintro rfl;exact cH cN)⟩<|fl d7
theorem Wz{e:ċ}{c x y:a2}(h:j9 T f sp e (.ite c x y)=true):Good (b.at sp) A e (cm ah<|.ite c x y):=by replace h:=tW.of (e:=e) h;obtain⟨u,v,w,p,rfl,h⟩:=h;obtain⟨G,E,aC⟩:=e7 h;clear h;exact WE ((H sp _ _ am).2 G) ((H sp _ _ am).1 E)<|(H sp _ _ am).1 aC
theorem YO{e:ċ}{g:Č}{l:IF a2}(h:j9 T f sp e (.call g l)=true):Good (b.at sp) A e (cm ah<|.call g l):=by replace h:=kP.of (e:=e) h;obtain⟨c,args,jd,p,rfl,h⟩:=h;replace h:=fa.of (e:=c) h;obtain⟨x,q,rfl,h⟩:=h;replace h:=ci h;obtain⟨G,E⟩:=h;replace G:=e7 G;obtain⟨aU,G,l4⟩:=G;obtain⟨aC,ba,cN⟩:=e7 E;clear E;cases fW.mp aU;obtain⟨a,bZ,bs,dN⟩:=F.oN _ _<|eF aC;obtain⟨g,aj⟩:=y3 H am ba cN;exact Je (F.ok.at am) G bZ (qt.mp<|fl l4).1 ba bs g (aj) dN
theorem Rs{e:ċ}{c:Č}{l:IF a2}(h:j9 T f sp e (.new c l)=true):Good (b.at sp) A e (cm ah<|.new c l):=by replace h:=kP.of (e:=e) h;obtain⟨d,args,jd,p,rfl,h⟩:=h;replace h:=fa.of (e:=d) h;obtain⟨x,q,rfl,h⟩:=h;replace h:=ci h;obtain⟨G,E⟩:=h;replace G:=e7 G;obtain⟨aU,G,l4⟩:=G;obtain⟨aC,ba,cN⟩:=e7 E;clear E;cases fW.mp aU;obtain⟨bZ,bs,dN⟩:=F.gl _ _<|eF aC;obtain⟨g,aj⟩:=y3 H am ba cN;exact Je (F.ok.at am) G bZ (qt.mp<|fl l4).1 ba bs g aj<|Xi dN
theorem Tq{e:ċ}{o:a2}{m:Č}{l:IF a2}(h:j9 T f sp e (.cQ o m l)=true):Good (b.at sp) A e (cm ah<|.cQ o m l):=by replace h:=kP.of (e:=e) h;obtain⟨d,args,jd,p,rfl,h⟩:=h;replace h:=jQ.of (e:=d) h;obtain⟨dC,x,ie,rfl,h⟩:=h;replace h:=ci h;obtain⟨G,E⟩:=h;replace G:=ci G;obtain⟨aU,G⟩:=G;obtain⟨A3,fG,gz⟩:=e7 aU;clear aU;obtain⟨aC,ba,cN⟩:=e7 G;clear G;replace E:=ci E;cases fW.mp A3;obtain⟨bZ,bs⟩:=F.qc _ _<|eF cN;obtain⟨g,aj⟩:=y3 H am ba E.2;exact Ø (cQ:=λbe=>lV.meths be _) (gD:=ah) (F.ok.at am) (fl fG) (fe aC) (by simpa using gz) ba bZ ((H sp _ _ am).1 E.1) g (aj) bs
theorem OD{e:ċ}{x y:a2}(h:j9 T f sp e (.ez x y)=true):Good (b.at sp) A e (cm ah<|.ez x y):=by
 replace h:=kP.of (e:=e) h;obtain⟨d,args,jd,p,rfl,h⟩:=h;replace h:=fa.of (e:=d) h;obtain⟨z,q,rfl,h⟩:=h;replace h:=ci h;obtain⟨G,E⟩:=h;replace G:=e7 G;obtain⟨aU,aC,ba⟩:=G;cases fW.mp aU;rcases eF aC with rfl
 replace E:=nX E;rcases E with h|h
 .replace h:=fr.of (l:=args) h;obtain⟨ag,rfl,h⟩:=h;replace h:=ci h;obtain⟨G,E⟩:=h;replace G:=ci G;obtain⟨G,aC⟩:=G;replace aC:=tn.of (e:=x) aC;obtain⟨v,rfl,aC⟩:=aC;rcases mJ aC with rfl
  exact Wt (F.ok.at am) ba F.ez.1 F.ez.2 (fl G)<|(H sp _ _ am).1 E
 .replace h:=h3.of (l:=args) h;obtain⟨ag,a8,rfl,h⟩:=h;replace h:=ci h;obtain⟨G,E⟩:=h;replace G:=ci G;replace E:=ci E;exact RN (F.ok.at am) ba F.ez.1 F.ez.2 (fl G.1) (fl G.2) ((H sp _ _ am).1 E.1)<|(H sp _ _ am).1 E.2
end
theorem ZT(F:l6 b T A ah)(H:i0 b A ah f)(am:(sp.ns.map (·.2)).Nodup){e:ċ}{bK:a2}(h:j9 T f sp e bK=true):Good (b.at sp) A e (cm ah bK):=by
 induction bK using a2.casesOn with
 |k v=>exact OV F am h
 |v i=>replace h:=fa.of (e:=e) h;obtain⟨x,p,rfl,h⟩:=h;obtain⟨G,E,aC⟩:=wG (pos:=⟨0,0,0,0⟩) h;clear h;exact RQ G E aC
 |«at» c a=>exact RF F H am h
 |ao=>exact LP F H am h
 |aL=>exact RZ F H am h
 |tU=>exact ZU F H am h
 |box=>exact Xn F H am h
 |tup l=>replace h:=nZ.of (e:=e) h;obtain⟨es,k,p,rfl,h⟩:=h;obtain⟨g,aj⟩:=xK H am h;exact Pa g aj
 |lst l=>replace h:=qd.of (e:=e) h;obtain⟨es,p,rfl,h⟩:=h;obtain⟨g,aj⟩:=xK H am h;exact Yn g aj
 |bb=>exact Ua F H am h
 |bin=>exact Zg F H am h
 |not c=>
  replace h:=pQ.of (e:=e) h;obtain⟨o,e,p,rfl,h⟩:=h;replace h:=ci h;rcases eF h.1 with rfl
  exact P5<|(H sp _ _ am).1 h.2
 |cmp=>exact R1 F H am h
 |an l=>replace h:=oa.of (e:=e) h;obtain⟨o,es,p,rfl,h⟩:=h;obtain⟨aU,G,E⟩:=e7 h;clear h;cases eF aU;exact Ho<|Ww H am (by rintro rfl;exact cH G) E
 |or l=>replace h:=oa.of (e:=e) h;obtain⟨o,es,p,rfl,h⟩:=h;obtain⟨aU,G,E⟩:=e7 h;clear h;cases eF aU;exact Ho<|ZM H am (by rintro rfl;exact cH G) E
 |ite=>exact Wz F H am h
 |call=>exact YO F H am h
 |new=>exact Rs F H am h
 |cQ=>exact Tq F H am h
 |bi=>exact T_ F H am h
 |ez=>exact OD F H am h
 |comp=>exact(Bn F H am h).good
 |bad=>exact λO s ac C r J k K Q I F e h=>e.elim
def D'(ah:jD):IF a2->hi
 |[]=>λ_ J K=>K true J
 |c::l=>λr J K=>wn (cm ah c) r J λb J=>kH (D' ah l r J K) (K false J) b
def CF(ah:jD):IF a2->hi
 |[]=>λ_ J K=>K false J
 |c::l=>λr J K=>wn (cm ah c) r J λb J=>kH (K true J) (CF ah l r J K) b
theorem F7{o:Ċ ĉ}{p q:Prop}{k:ĉ->Prop}(dV:k true->p)(a7:k false->q)(h:ax o k):ax o λb=>kH p q b:=by
 induction o with
 |none=>exact h
 |some b=>induction b using Bool.casesOn;exact a7 h;exact dV h
theorem MD{o:Ċ ĉ}{p et:Prop}{k:ĉ->Prop}(f:p->et)(h:bj o p (ax o k)):ax o λb=>kH et (k false) b:=by
 induction o with
 |none=>exact h
 |some b=>induction b using Bool.casesOn;exact h;exact f h
theorem Z8{o:Ċ ĉ}{p et:Prop}{k:ĉ->Prop}(f:p->et)(h:bj o (ax o k) p):ax o λb=>kH (k true) et b:=by
 induction o with
 |none=>exact h
 |some b=>induction b using Bool.casesOn;exact f h;exact h
theorem TK(cf:tO ah){l:IF a2}:∀{r:aJ} {J:St} {K:ĉ->St->Prop},qo ah l r J (λv J=>ax (js v) λb=>K b J)->D' ah l r J K:=by
 induction l with
 |nil=>exact λh=>h.elim
 |cons c l ap=>
  intro r J K h;induction l using List.casesOn with
  |nil=>exact gy cf c _ _ _ _ (λv J h=>F7 id id h) h
  |cons d l=>exact gy cf c _ _ _ _ (λv J h=>MD ap h) h
theorem MK(cf:tO ah){l:IF a2}:∀{r:aJ} {J:St} {K:ĉ->St->Prop},pT ah l r J (λv J=>ax (js v) λb=>K b J)->CF ah l r J K:=by
 induction l with
 |nil=>exact λh=>h.elim
 |cons c l ap=>
  intro r J K h;induction l using List.casesOn with
  |nil=>exact gy cf c _ _ _ _ (λv J h=>F7 id id h) h
  |cons d l=>exact gy cf c _ _ _ _ (λv J h=>Z8 ap h) h
theorem R4(H:i0 b A ah f)(am:(sp.ns.map (·.2)).Nodup){es:IF ċ}:∀{l:IF a2},all2 (f true sp) es l=true->pD (b.at sp) A .And es (D' ah l):=by
 induction es with
 |nil=>intro l h;obtain rfl:=fW.mp h;exact Nh
 |cons e es ap=>
  intro l h;cases l with
  |nil=>exact absurd h dT
  |cons c l=>have h:=ci h;exact L7 ((H sp _ _ am).2 h.1)<|ap h.2
theorem YB(H:i0 b A ah f)(am:(sp.ns.map (·.2)).Nodup){es:IF ċ}:∀{l:IF a2},all2 (f true sp) es l=true->pD (b.at sp) A .Or es (CF ah l):=by
 induction es with
 |nil=>intro l h;obtain rfl:=fW.mp h;exact Sw
 |cons e es ap=>
  intro l h;cases l with
  |nil=>exact absurd h dT
  |cons c l=>have h:=ci h;exact M1 ((H sp _ _ am).2 h.1)<|ap h.2
theorem p5.weak{c:cc}{t:Env->Sem ĉ}{w rD:hi}(g:p5 c A t w)(h:∀r J K,rD r J K->w r J K):p5 c A t rD:=λO s ac C r J k K Q I F e a_=>g O s ac C r J k K Q I F (h _ _ _ e) a_
theorem XZ(F:l6 b T A ah)(H:i0 b A ah f)(am:(sp.ns.map (·.2)).Nodup){e:ċ}{bK:a2}(h:HQ T f sp e bK=true):kt (b.at sp) A e (wn<|cm ah bK):=by
 replace h:=nX h;rcases h with h|h
 .replace h:=ci h;exact RP h.1<|(H sp _ _ am).1 h.2
 induction bK using a2.casesOn with
 |bad=>exact λO s ac C r J k K Q I F e h=>e.elim
 |not c=>
  replace h:=pQ.of (e:=e) h;obtain⟨o,e,p,rfl,h⟩:=h;replace h:=ci h;obtain⟨aU,h⟩:=h;rcases eF aU with rfl
  exact Va<|(H sp _ _ am).2 h
 |an l=>
  replace h:=oa.of (e:=e) h;obtain⟨o,es,p,rfl,h⟩:=h;obtain⟨aU,G,E⟩:=e7 h;clear h;rcases eF aU with rfl
  exact(IX<|R4 H am E).weak λr J K e=>TK F.mo e
 |or l=>
  replace h:=oa.of (e:=e) h;obtain⟨o,es,p,rfl,h⟩:=h;obtain⟨aU,G,E⟩:=e7 h;clear h;rcases eF aU with rfl
  exact(IX<|YB H am E).weak λr J K e=>MK F.mo e
 |ite c x y=>replace h:=tW.of (e:=e) h;obtain⟨u,v,w,p,rfl,h⟩:=h;obtain⟨G,E,aC⟩:=e7 h;clear h;exact PV ((H sp _ _ am).2 G) ((H sp _ _ am).2 E)<|(H sp _ _ am).2 aC
 |cmp c l=>
  replace h:=fr.of (l:=l) h;obtain⟨⟨o,d⟩,rfl,h⟩:=h;replace h:=sG.of (e:=e) h;obtain⟨le,ops,m0,p,rfl,h⟩:=h;replace h:=fr.of (l:=ops) h;obtain⟨gk,rfl,h⟩:=h;replace h:=fr.of (l:=m0) h;obtain⟨r,rfl,h⟩:=h;replace h:=ci h;obtain⟨G,E⟩:=h;replace G:=ci G;replace E:=ci E;rcases eF G.1 with rfl
  exact Vi ((H sp _ _ am).1 G.2) (zj F.a4 (F.ok.at am).sys _) (vB H am E.1)<|fl E.2
 |_=>exact absurd h dT
theorem B9(F:l6 b T A ah):∀n,i0 b A ah<|x5 T n
 |0=>λsp e bK am=>⟨λh=>absurd h dT,λh=>absurd h dT⟩
 |n+1=>λsp e bK am=>⟨λh=>ZT F (B9 F n) am h,λh=>XZ F (B9 F n) am h⟩
end
set_option tactic.hygienic true
def F1(b:cc)(A:Around)(ah:jD)(g:zm):Prop:=∀sp cS b1,(sp.ns.map (·.2)).Nodup->g sp cS b1=true->mS (b.at sp) A cS (j8 ah b1)
section
variable{b:cc}{T:kA}{A:Around}{ah:jD}{f:j1}{g:zm}{sp:fs}
theorem FR(F:l6 b T A ah)(H:i0 b A ah f)(am:(sp.ns.map (·.2)).Nodup){e:ċ}{bK:a2}(h:z2 f sp e bK=true):ql (b.at sp) A e (cm ah bK)/\iz e=false:=by
 replace h:=nX h;rcases h with h|h
 .replace h:=sR.of (e:=bK) h;obtain⟨l,rfl,h⟩:=h;replace h:=qd.of (e:=e) h;obtain⟨es,p,rfl,h⟩:=h;obtain⟨g,aj⟩:=xK H am h;exact⟨QE g aj,rfl⟩
 .replace h:=xq.of (e:=bK) h;obtain⟨l,rfl,h⟩:=h;replace h:=sN.of (e:=e) h;obtain⟨ks,vs,p,rfl,h⟩:=h;obtain⟨G,E,aC⟩:=e7 h;clear h;cases fW.mp G;cases fW.mp E;cases fW.mp aC;exact⟨JB<|F.ok.at am,rfl⟩
theorem kF.of{st:Stmt}{k:ċ->ċ->ĉ}(h:kF st k=true):dI λt e p=>st=.Assign [t] e p/\k t e=true:=by replace h:=zs.of (e:=st) h;obtain⟨aS,e,p,rfl,h⟩:=h;replace h:=fr.of (l:=aS) h;obtain⟨t,rfl,h⟩:=h;exact⟨t,e,p,rfl,h⟩
theorem tC.of{st:Stmt}{i:Č}{k:ċ->ĉ}(h:tC sp st i k=true):gV λx q e p=>hU (st=.Assign [.Name x q] e p) (sp.ns.lookup x=some i) (sp.b6 x=true) (k e=true):=by replace h:=kF.of (st:=st) h;obtain⟨t,e,p,rfl,h⟩:=h;replace h:=fa.of (e:=t) h;obtain⟨x,q,rfl,h⟩:=h;replace h:=ci h;obtain⟨G,E⟩:=h;replace G:=ci G;exact⟨x,q,e,p,rfl,eF G.1,G.2,E⟩
theorem qD.of{st:Stmt}{m:Str}{k:ċ->ċ->ĉ}(h:qD st m k=true):tK λdC e ie o5 p=>hU (st=.Expr (.Call (.Attribute dC m ie) [e] [] o5) p) ((ie.endLine==o5.line)=true) (fH e=false) (k dC e=true):=by replace h:=tB.of (e:=st) h;obtain⟨c,p,rfl,h⟩:=h;replace h:=kP.of (e:=c) h;obtain⟨g,args,jd,o5,rfl,h⟩:=h;replace h:=jQ.of (e:=g) h;obtain⟨dC,x,ie,rfl,h⟩:=h;replace h:=fr.of (l:=args) h;obtain⟨e,rfl,h⟩:=h;replace h:=ci h;obtain⟨G,E⟩:=h;replace G:=e7 G;obtain⟨aU,G,aC⟩:=G;replace E:=ci E;cases fW.mp aU;induction eF G;exact⟨dC,e,ie,o5,p,rfl,aC,fl E.1,E.2⟩
section
variable(F:l6 b T A ah)(H:i0 b A ah f)(am:(sp.ns.map (·.2)).Nodup)
include F H am
theorem RE{st:Stmt}{l:IF Č}{bK:a2}(h:n3 T f g sp st (.ho l bK)=true):ga (b.at sp) A st (k_ ah<|.ho l bK):=by
 replace h:=kF.of (st:=st) h;obtain⟨t,e,p,rfl,h⟩:=h;replace h:=nZ.of (e:=t) h;obtain⟨es,k,q,rfl,h⟩:=h;replace h:=ci h;obtain⟨aU,h⟩:=h;replace h:=nX h;rcases h with h|h
 .replace h:=ci h;exact Y1 (F.ok.at am) F.e3 (.tup<|ys (c:=b.at sp) rfl rfl aU) (fl h.1)<|(H sp _ _ am).1 h.2
 .replace h:=nZ.of (e:=e) h;obtain⟨vs,pG,pX,rfl,h⟩:=h;replace h:=h3.of (l:=vs) h;obtain⟨v,w,rfl,h⟩:=h;replace h:=h3.of (l:=es) h;obtain⟨x,y,rfl,h⟩:=h;replace h:=fa.of (e:=x) h;obtain⟨x,eL,rfl,h⟩:=h;replace h:=fa.of (e:=y) h;obtain⟨y,ob,rfl,h⟩:=h;replace h:=ci h;obtain⟨G,E⟩:=h;replace G:=e7 G;obtain⟨G,aC,ba⟩:=G;replace E:=e7 E;obtain⟨cN,d7,fm⟩:=E;have dV:pw (b.at sp) _ _:=ys (c:=b.at sp) rfl rfl aU;cases dV with|cons eZ fP jV=>
  cases jV with|cons k2 kv va=>
  cases va with|nil=>
  exact N6 (F.ok.at am) F.e3 eZ k2 fP kv (fl G) (fl aC) (fl ba) (fl cN) (fl d7)<|(H sp _ _ am).1 fm
theorem RR{st:Stmt}{o:a2}{a:Č}{bK:a2}(h:n3 T f g sp st (.fX o a bK)=true):ga (b.at sp) A st (k_ ah<|.fX o a bK):=by replace h:=kF.of (st:=st) h;obtain⟨t,e,p,rfl,h⟩:=h;replace h:=jQ.of (e:=t) h;obtain⟨dC,x,q,rfl,h⟩:=h;replace h:=ci h;obtain⟨G,E⟩:=h;obtain⟨fG,gz,j'⟩:=e7 G;clear G;replace E:=ci E;exact S8 (F.ok.at am) (fe gz) (by show b.N.an _=_;rw[<-F.an];exact eF fG) (fl j') ((H sp _ _ am).1 E.1)<|(H sp _ _ am).1 E.2
theorem P4{st:Stmt}{o:a2}{a:Č}{bK:a2}(h:n3 T f g sp st (.jo o a bK)=true):ga (b.at sp) A st (k_ ah<|.jo o a bK):=by replace h:=kF.of (st:=st) h;obtain⟨t,e,p,rfl,h⟩:=h;replace h:=jQ.of (e:=t) h;obtain⟨dC,x,q,rfl,h⟩:=h;replace h:=ci h;obtain⟨G,E⟩:=h;obtain⟨fG,gz,j'⟩:=e7 G;clear G;replace E:=ci E;exact Tc (F.ok.at am) (fe gz) (by show b.N.an _=_;rw[<-F.an];exact eF fG) (fl j') (FR F H am E.1).1<|(H sp _ _ am).1 E.2
theorem Yo{st:Stmt}{o i bK:a2}(h:n3 T f g sp st (.nu o i bK)=true):ga (b.at sp) A st (k_ ah<|.nu o i bK):=by replace h:=kF.of (st:=st) h;obtain⟨t,e,p,rfl,h⟩:=h;replace h:=mC.of (e:=t) h;obtain⟨dC,ws,q,rfl,h⟩:=h;replace h:=ci h;obtain⟨G,E⟩:=h;replace G:=ci G;replace E:=ci E;exact Rt (by have:=F.a4;exact iY ‹_›) (fl G.1) ((H sp _ _ am).1 G.2) ((H sp _ _ am).1 E.1) ((H sp _ _ am).1 E.2)<|F.ok.at am
theorem Õ{st:Stmt}{i:Č}{k bK:a2}(h:n3 T f g sp st (.jA i k bK)=true):ga (b.at sp) A st (k_ ah<|.jA i k bK):=by replace h:=kF.of (st:=st) h;obtain⟨t,e,p,rfl,h⟩:=h;replace h:=mC.of (e:=t) h;obtain⟨dC,uQ,q,rfl,h⟩:=h;replace h:=fa.of (e:=dC) h;obtain⟨x,eL,rfl,h⟩:=h;replace h:=ci h;obtain⟨G,E⟩:=h;replace G:=ci G;replace E:=ci E;obtain⟨fG,gz,j'⟩:=wG (pos:=⟨0,0,0,0⟩) G.1;exact Vz (by have:=F.a4;exact iY ‹_›) fG gz j' (fl G.2) ((H sp _ _ am).1 E.1) ((H sp _ _ am).1 E.2)<|F.ok.at am
theorem UA{st:Stmt}{i:Č}{bK:a2}(h:n3 T f g sp st (.app i bK)=true):ga (b.at sp) A st (k_ ah<|.app i bK):=by replace h:=qD.of (st:=st) h;obtain⟨dC,e,ie,o5,p,rfl,ba,cN,h⟩:=h;replace h:=fa.of (e:=dC) h;obtain⟨x,eL,rfl,h⟩:=h;replace h:=ci h;obtain⟨G,E,aC⟩:=wG (pos:=⟨0,0,0,0⟩) h.1;exact S5 G E aC (by simpa using ba) cN ((H sp _ _ am).1 h.2)<|F.ok.at am
theorem Mz{st:Stmt}{i:Č}{bK:a2}(h:n3 T f g sp st (.ext i bK)=true):ga (b.at sp) A st (k_ ah<|.ext i bK):=by replace h:=qD.of (st:=st) h;obtain⟨dC,e,ie,o5,p,rfl,ba,cN,h⟩:=h;replace h:=fa.of (e:=dC) h;obtain⟨x,eL,rfl,h⟩:=h;replace h:=ci h;obtain⟨G,E,aC⟩:=wG (pos:=⟨0,0,0,0⟩) h.1;exact Pc G E aC (by simpa using ba) cN ((H sp _ _ am).1 h.2)<|F.ok.at am
theorem Oj{st:Stmt}{o bK:a2}(h:n3 T f g sp st (.nj o bK)=true):ga (b.at sp) A st (k_ ah<|.nj o bK):=by replace h:=qD.of (st:=st) h;obtain⟨dC,e,ie,o5,p,rfl,ba,cN,h⟩:=h;replace h:=e7 h;obtain⟨G,E,aC⟩:=h;exact Sv (fl G) (by simpa using ba) cN ((H sp _ _ am).1 E) ((H sp _ _ am).1 aC)<|F.ok.at am
end
theorem Yr(F:l6 b T A ah)(H:i0 b A ah f)(cR:F1 b A ah g)(am:(sp.ns.map (·.2)).Nodup){st:Stmt}{b1:dF}(h:n3 T f g sp st b1=true):ga (b.at sp) A st (k_ ah b1):=by
 induction b1 using dF.casesOn with
 |set i bK=>
  replace h:=tC.of (st:=st) h;obtain⟨x,q,e,p,rfl,G,E,aC⟩:=h;induction aq:iz e using Bool.casesOn with
  |true=>rw[aq]at aC;exact(Bn F H am aC).UO G E
  |false=>rw[aq]at aC;exact Sg (F.ok.at am) aq G E<|(H sp _ _ am).1 aC
 |own i bK=>
  replace h:=tC.of (st:=st) h;obtain⟨x,q,e,p,rfl,G,E,aC⟩:=h;cases aq:iz e with
  |true=>rw[aq]at aC;exact(Bn F H am aC).Oo G E
  |false=>rw[aq]at aC;obtain⟨fG,gz⟩:=FR F H am aC;exact LY (F.ok.at am) gz G E fG
 |ho=>exact RE F H am h
 |fX=>exact RR F H am h
 |jo=>exact P4 F H am h
 |nu=>exact Yo F H am h
 |jA=>exact Õ F H am h
 |app=>exact UA F H am h
 |ext=>exact Mz F H am h
 |nj=>exact Oj F H am h
 |ex bK=>replace h:=tB.of (e:=st) h;obtain⟨e,p,rfl,h⟩:=h;replace h:=ci h;exact Sl (fl h.1)<|(H sp _ _ am).1 h.2
 |iff c x y=>replace h:=ya.of (e:=st) h;obtain⟨u,v,w,p,rfl,h⟩:=h;obtain⟨G,E,aC⟩:=e7 h;clear h;exact Z9 ((H sp _ _ am).2 G) (cR sp _ _ am E)<|cR sp _ _ am aC
 |«for» bk aS it p2=>replace h:=x8.of (e:=st) h;obtain⟨hc,iter,body,Jh,p,rfl,h⟩:=h;replace h:=ci h;obtain⟨G,E⟩:=h;obtain⟨fG,gz,j'⟩:=e7 G;clear G;replace E:=ci E;cases fW.mp fG;exact Wj (F.ok.at am) F.e3 (Ka (c:=b.at sp) rfl rfl gz) (fl j') ((H sp _ _ am).1 E.1)<|cR sp _ _ am E.2
 |ret bK=>
  replace h:=xo.of (e:=st) h;obtain⟨o,p,rfl,h⟩:=h;induction o with
  |some e=>exact VA<|(H sp _ _ am).1 h
  |none=>
   replace h:=tn.of (e:=bK) h;obtain⟨v,rfl,h⟩:=h;rcases mJ h with rfl
   exact SW
 |a5=>exact absurd h dT
 |bad=>exact λO s ac C r J k K Q I hj e a_=>e.elim
theorem Kj(F:l6 b T A ah):∀n,F1 b A ah<|sF T n
 |0=>λsp cS b1 am h=>absurd h dT
 |n+1=>λsp cS b1 am h=>by
  have ap:=Kj F n;induction b1 using List.casesOn with
  |nil=>cases fW.mp h;exact Z0
  |cons c b1=>
   replace h:=nX h;rcases h with h|h
   .replace h:=lJ.of (c:=c) h;obtain⟨i,rfl,h⟩:=h;replace h:=ci h;obtain⟨G,E⟩:=h;obtain⟨p,ae,aB⟩:=sE.mp G;clear G;exact Zs (F.ok.at am) ⟨p.1,eF aB⟩<|ap sp _ _ am E
   .induction cS with
    |nil=>exact absurd h dT
    |cons st cS=>replace h:=ci h;exact S6 (Yr F (B9 F n) ap am h.1)<|ap sp _ _ am h.2
end
set_option tactic.hygienic false
structure I3(b:cc)(T:kA)(fD:Nat->Addr)(sp:Nat->fs):Prop where
 ok:b.Ok
 an:T.an=b.N.an
 defs:∀f h1,lV.fns f=some h1->gV λeK body names cO=>hU (GO (b.at<|sp f) (fD f) eK body names h1.lO h1.dflt cO) (names.length=h1.np) (sF T 200 (sp f) body h1.body=true)<|((sp f).ns.map (·.2)).Nodup
 oN:∀x g,T.oN.lookup x=some g->b.gP x=some (.ref<|fD g)/\keepIn b.K (.ref<|fD g)=true
 oX:∀x v,T.oX.lookup x=some v->∃V,b.gP x=some V/\bA b.P (f0 b.H) v V
 gl:∀x be,T.gl.lookup x=some be->b.gP x=some (.ref<|b.N.cl be)/\keepIn b.K (.ref<|b.N.cl be)=true/\∀f,lV.A7 be=some f->be<7/\makesIn b.K (b.N.cl be)=true/\findIn b.K (.ref<|b.N.cl be) "__init__"=some (some<|.ref<|fD f)/\typeIn b.K (.ref<|fD f)=some (.type "function")
 qc:∀m name,T.qc[m]?=some name->(∀a,b.N.an a≠name)/\∀be f,lV.meths be m=some f->keepIn b.K (.ref<|fD f)=true/\findIn b.K (.ref<|b.N.cl be) "__getattribute__"=some (some<|.builtin "object.__getattribute__")/\findIn b.K (.ref<|b.N.cl be) "__getattr__"=some none/\findIn b.K (.ref<|b.N.cl be) name=some (some<|.ref<|fD f)/\typeIn b.K (.ref<|fD f)=some (.type "function")
 bi:∀fk nm,p_ fk=some nm->b.gP nm=none/\b.kb nm=some (sb fk)
 inst:b.gP "isinstance"=none/\b.kb "isinstance"=some (.builtin "isinstance")
 ez:b.gP "range"=none/\b.kb "range"=some (.type "range")
structure s3(A:Around)(n:Nat):Prop where
 e3:A.handled=none
 depth:A.depth+3*n<=990
 units:A.units+10*n<=9800
theorem s3.of{A jg:Around}{n:Č}(R:s3 A (n+1))(G:jg.handled=A.handled)(E:jg.depth<=A.depth+3)(aC:jg.units<=A.units+10):s3 jg n:=⟨G.trans R.e3,aI (fL E _) (by rw[qT,qb 3];exact R.depth),aI (fL aC _)<|by rw[qT,qb 10];exact R.units⟩
theorem YL(A:Around)(args:Args):(A.under<|.builtin "type.__call__" args).handled=A.handled/\(A.under<|.builtin "type.__call__" args).depth<=A.depth+1/\(A.under<|.builtin "type.__call__" args).units<=A.units+1:=by
 have a7:(Code.builtin "type.__call__" args).frames=0:=by rfl
 have d_:(Code.builtin "type.__call__" args).isGuard=false:=by show guardIds.contains "type.__call__"=false;decide
 refine⟨rfl,?_,?_⟩
 .show A.depth+(Code.builtin "type.__call__" args).weight<=A.depth+1;unfold Code.weight;rw[a7,d_,(by rfl:(Code.builtin "type.__call__" args).isCaller=false)];split<;>simp
 .show A.units+(Code.builtin "type.__call__" args).cUnits<=A.units+1;have:(Code.builtin "type.__call__" args).cUnits=1+3*(Code.builtin "type.__call__" args).frames:=rfl;rw[this,a7];exact dA _
section
variable{b:cc}{T:kA}{fD:Č->Addr}{sp:Č->fs}
theorem VL(W:I3 b T fD sp):∀n A,s3 A n->∀f,oF b A (.ref<|fD f) (bc n f):=by
 intro n;induction n with
 |zero=>exact λA R f s C J vs Vs K Q I af e h=>False.elim (by have e:=e.of;with_unfolding_all exact e)
 |succ n ap=>
  intro A R f s C J vs Vs K Q I af e h;refine ax.dt (x2▸e.of) λh1 ag e=>ax.dt e λr c0 m8=>?_;obtain⟨eK,body,names,cO,D,VR,UE,kX⟩:=W.defs f h1 ag;have lv:∀de,mS (b.at<|sp f) (A.deeper de) body (j8 (bc n) h1.body):=λde=>by
   have aa:s3 (A.deeper de) n:=R.of rfl (gu (aG rfl:1<=3) _)<|gu (aG rfl:3<=10) _;refine Kj (b:=b) (T:=T) (A:=A.deeper de) (ah:=bc n) ⟨bc.m n,R.e3,hH (fL (aI (nv _ _) R.units) 43)<|jN rfl,W.ok,W.an,λx g az=>⟨fD g,(W.oN x g az).1,(W.oN x g az).2,ap _ aa g⟩,W.oX,λx be az=>?_,λm name aN=>?_,W.bi,W.inst,W.ez⟩ 200 (sp f) body h1.body kX UE
   .obtain⟨G,E,aC⟩:=W.gl x be az;refine⟨G,E,λs5 jE=>?_⟩;obtain⟨h_,bZ,bs,dN⟩:=aC s5 jE;refine Y' W.ok h_ bZ bs dN λargs=>?_;obtain⟨Uk,CJ,WP⟩:=YL (A.deeper de) args;exact ap _ (R.of Uk (aI CJ<|gu (aG rfl:2<=3) _)<|aI WP<|gu (aG rfl:4<=10) _) s5
   .obtain⟨G,E⟩:=W.qc m name aN;refine⟨G,λbe s5 jE=>?_⟩;obtain⟨bZ,bs,dN,gQ,kY⟩:=E be s5 jE;exact⟨fD s5,bZ,bs,dN,gQ,kY,ap _ aa s5⟩
  have Ah:sd ⟨names.length,h1.lO,h1.dflt,h1.body⟩ vs=some r:=by rw[VR];exact c0
  exact Zd (c:=b.at<|sp f) (W.ok.at kX) D (hH (aI (nv _ _) R.depth)<|jN rfl) lv Ah m8 I af h
end
noncomputable abbrev q (s:String):Str:=Str.ofString s
def Hb:IF (Str×Č):=[(q "str_type",3),(q "array_type",4),(q "last_mark",5),(q "needed_to_last",6),(q "one_rest",7),(q "tuple_type",8),(q "sorted_props",9),(q "obj_type",10),(q "func_type",11),(q "new_param",12),(q "new_decl",13),(q "parts_of",14),(q "whole_of_row",15),(q "regular_twin",16),(q "join_bools",17),(q "stays_beside",18),(q "top_of",19),(q "union",20),(q "without",21),(q "add_undef",22),(q "common_family",23),(q "meet_family",24),(q "family",25),(q "plain_shape",26),(q "told_places",29),(q "find_prop",30),(q "is_digits",31),(q "prop_row",32),(q "read_type",33),(q "is_open",34),(q "unit_word",35),(q "key_text",36),(q "is_public",37),(q "is_late_alias",42),(q "undefless",43),(q "optional_form",44),(q "readonly_after",45),(q "template_at",46),(q "member_opt",47),(q "member_kind",48),(q "kindmap_member_flags",49),(q "names_for",50),(q "put_member",52),(q "build_members",53),(q "shape_entries",54),(q "map_array",55),(q "spare_elem",56),(q "map_elem",57),(q "is_primitive",58),(q "known_part",59),(q "bound_tuple",60),(q "lists_have",61),(q "put_each",62),(q "put_cell",63),(q "put_shape",64),(q "put_late",65),(q "plain_put",66),(q "table_read",67),(q "put_name",68),(q "_law_take",73),(q "_law_kind",74),(q "_law_type",75),(q "_law_atom",76),(q "_law_back",77),(q "_law_back_one",78),(q "_law_plan",79),(q "_law_at",80),(q "_law_template",81),(q "_law_object",82),(q "_law_list",83),(q "_law_lone",84),(q "_law_slot",85),(q "_law_told",86),(q "_law_told_list",87),(q "_law_choices",88),(q "_law_rows",89),(q "_law_numbered",90),(q "_law_own",91),(q "_law_free",92),(q "_law_after",93),(q "_law_digits",94),(q "_law_held",95),(q "_law_lies",96),(q "_law_rooms",97),(q "_law_sound",98),(q "_law_round",99),(q "law",100)]
def Jt:IF (Str×B):=[((q "Y_KEY"),((.int 1):B)),((q "Y_BOOL"),((.int 2):B)),((q "Y_STR"),((.int 3):B)),((q "Y_NUM"),((.int 4):B)),((q "Y_ENUM"),((.int 5):B)),((q "Y_UNION"),((.int 6):B)),((q "Y_INTER"),((.int 7):B)),((q "Y_OBJ"),((.int 8):B)),((q "Y_REF"),((.int 9):B)),((q "Y_PARAM"),((.int 10):B)),((q "Y_ARRAY"),((.int 11):B)),((q "Y_TUPLE"),((.int 12):B)),((q "Y_SIG"),((.int 13):B)),((q "Y_KEYOF"),((.int 14):B)),((q "Y_INDEX"),((.int 15):B)),((q "Y_COND"),((.int 16):B)),((q "Y_MAPPED"),((.int 17):B)),((q "Y_TPL"),((.int 18):B)),((q "Y_ALIAS"),((.int 19):B)),((q "ANY"),((.int 0):B)),((q "UNKNOWN"),((.int 1):B)),((q "NEVER"),((.int 2):B)),((q "VOID"),((.int 3):B)),((q "UNDEF"),((.int 4):B)),((q "NULLT"),((.int 5):B)),((q "STRING"),((.int 6):B)),((q "NUMBER"),((.int 7):B)),((q "FALSE_T"),((.int 8):B)),((q "TRUE_T"),((.int 9):B)),((q "OBJECTT"),((.int 10):B)),((q "EMPTY"),((.int 11):B)),((q "BOOLEAN"),((.int 12):B)),((q "ERR"),((.int 13):B)),((q "FRESH_F"),((.int 14):B)),((q "FRESH_T"),((.int 15):B)),((q "P_OPT"),((.int 1):B)),((q "P_READONLY"),((.int 2):B)),((q "P_METHOD"),((.int 4):B)),((q "P_PRIVATE"),((.int 8):B)),((q "P_PROTECTED"),((.int 16):B)),((q "P_GETONLY"),((.int 32):B)),((q "P_ACCESS"),((.int 64):B)),((q "E_NEED"),((.int 0):B)),((q "E_OPT"),((.int 1):B)),((q "E_REST"),((.int 2):B)),((q "E_SPREAD"),((.int 3):B)),((q "D_INTERFACE"),((.int 2):B)),((q "FAM_OTHER"),((.int 0):B)),((q "FAM_STR"),((.int 1):B)),((q "FAM_NUM"),((.int 2):B)),((q "FAM_BOOL"),((.int 3):B)),((q "FAM_OBJ"),((.int 7):B)),((q "MAX_UNION"),((.int 400):B)),((q "FIRST_ROWS"),((.tup [.tup [.int 1,.str [97,110,121]],.tup [.int 1,.str [117,110,107,110,111,119,110]],.tup [.int 1,.str [110,101,118,101,114]],.tup [.int 1,.str [118,111,105,100]],.tup [.int 1,.str [117,110,100,101,102,105,110,101,100]],.tup [.int 1,.str [110,117,108,108]],.tup [.int 1,.str [115,116,114,105,110,103]],.tup [.int 1,.str [110,117,109,98,101,114]],.tup [.int 2,.int 0,.int 0],.tup [.int 2,.int 1,.int 0],.tup [.int 1,.str [111,98,106,101,99,116]],.tup [.int 8,.tup [],.tup [],.tup [],.tup [],.tup [],.int 0],.tup [.int 6,.tup [.int 8,.int 9]],.tup [.int 1,.str [101,114,114,111,114]],.tup [.int 2,.int 0,.int 1],.tup [.int 2,.int 1,.int 1]]):B)),((q "MARKED_ROWS"),((.tup [.int 2,.int 3,.int 4,.int 5,.int 8]):B)),((q "OBJECT_ROWS"),((.tup [.int 8,.int 9,.int 11,.int 12,.int 13]):B)),((q "KEY_FAMILIES"),((.bb [((.int 3),(.int 6)),((.int 4),(.int 5)),((.int 5),(.int 4)),((.int 6),(.int 1)),((.int 7),(.int 2)),((.int 10),(.int 7))]):B)),((q "MOST_PLAIN"),((.int 40):B)),((q "PLAIN_ROWS"),((.tup [.int 1,.int 2,.int 3,.int 4,.int 5]):B)),((q "OPEN_KINDS"),((.tup [.int 10,.int 14,.int 15,.int 16,.int 17,.int 19]):B)),((q "_law_undef"),((.tup [.str [119],.str [117]]):B)),((q "_law_texts"),((.tup [.str [119],.str [83]]):B)),((q "_law_numbers"),((.tup [.str [119],.str [78]]):B))]
def J0:IF (Str×Č):=[((q "TypeTable"),0),((q "Decl"),1),((q "Thin"),2),((q "RefHost"),3),((q "NameHost"),4),((q "Made"),5),((q "Keyed"),6)]
def rz:IF Str:=[q "put",q "list_prop",q "shape",q "add",q "add_index",q "done",q "force",q "put_deferred",q "put_in",q "put_cond"]
def nM:IF Str:=[q "rows",q "index",q "decls",q "bounds",q "defaults",q "names",q "origins",q "renamed",q "shaping",q "putting",q "did",q "kind",q "name",q "params",q "body",q "bases",q "static",q "extends_class",q "abstract",q "members",q "variances",q "busy",q "at",q "file",q "nid",q "tab",q "sindex",q "nindex",q "key",q "prop",q "deep",q "most_rounds",q "most_deep"]
def Ii:IF (Stmt×bI):=[(dx 66 0,([(q "self",0),(q "row",1)]:bI)),(dx 66 2,([(q "self",0),(q "row",1),(q "t",2)]:bI)),(dx 67 0,([(q "self",0),(q "did",1),(q "kind",2),(q "name",3)]:bI)),(aL 69,([(q "tab",0),(q "text",1),(q "fresh",2)]:bI)),(aL 70,([(q "tab",0),(q "elem",1),(q "ro",2)]:bI)),(aL 71,([(q "elems",0),(q "marks",1),(q "found",2),(q "place",3)]:bI)),(aL 72,([(q "tab",0),(q "elems",1),(q "last",2),(q "out",3),(q "place",4),(q "given",5),(q "mark",6)]:bI)),(aL 73,([(q "tab",0),(q "elems",1),(q "last",2),(q "first",3),(q "place",4),(q "held",5),(q "given",6),(q "mark",7)]:bI)),(aL 74,([(q "tab",0),(q "elems",1),(q "ro",2),(q "rows",3),(q "last",4)]:bI)),(aL 75,([(q "props",0),(q "found",1),(q "prop",2)]:bI)),(aL 76,([(q "tab",0),(q "props",1),(q "calls",2),(q "ctors",3),(q "sindex",4),(q "nindex",5),(q "fresh",6)]:bI)),(aL 78,([(q "tab",0),(q "sig",1)]:bI)),(aL 79,([(q "tab",0),(q "name",1),(q "bound",2),(q "default",3),(q "pid",4)]:bI)),(aL 80,([(q "tab",0),(q "kind",1),(q "name",2),(q "decl",3)]:bI)),(aL 81,([(q "tab",0),(q "t",1),(q "row",2)]:bI)),(aL 82,([(q "row",0),(q "kind",1)]:bI)),(aL 83,([(q "tab",0),(q "t",1),(q "row",2)]:bI)),(aL 84,([(q "got",0)]:bI)),(aL 85,([(q "tab",0),(q "got",1),(q "t",2)]:bI)),(aL 86,([(q "got",0),(q "t",1)]:bI)),(aL 87,([(q "tab",0),(q "parts",1),(q "got",2),(q "t",3),(q "part",4),(q "top",5),(q "kept",6)]:bI)),(aL 88,([(q "tab",0),(q "t",1),(q "gone",2)]:bI)),(aL 89,([(q "tab",0),(q "t",1)]:bI)),(aL 90,([(q "tab",0),(q "parts",1),(q "found",2),(q "same",3)]:bI)),(aL 91,([(q "tab",0),(q "parts",1),(q "found",2),(q "part",3),(q "fam",4)]:bI)),(aL 92,([(q "tab",0),(q "t",1),(q "row",2),(q "kind",3),(q "whole",4)]:bI)),(aL 96,([(q "tab",0),(q "t",1),(q "turn",2),(q "row",3)]:bI)),(dx 100 15,([(q "self",0),(q "t",1),(q "name",2)]:bI)),(dx 101 0,([(q "self",0),(q "t",1)]:bI)),(aL 102,([(q "row",0),(q "place",1)]:bI)),(aL 103,([(q "row",0),(q "name",1),(q "prop",2)]:bI)),(aL 104,([(q "name",0),(q "digits",1)]:bI)),(aL 105,([(q "host",0),(q "t",1),(q "name",2),(q "row",3),(q "prop",4)]:bI)),(aL 106,([(q "tab",0),(q "prop",1)]:bI)),(aL 110,([(q "tab",0),(q "t",1),(q "row",2),(q "part",3),(q "elem",4),(q "hole",5)]:bI)),(aL 111,([(q "tab",0),(q "t",1),(q "row",2)]:bI)),(aL 112,([(q "tab",0),(q "t",1)]:bI)),(aL 119,([(q "prop",0)]:bI)),(dx 121 0,([(q "self",0)]:bI)),(dx 121 1,([(q "self",0),(q "tab",1),(q "name",2),(q "t",3),(q "flags",4),(q "old",5),(q "parts",6)]:bI)),(dx 121 2,([(q "self",0),(q "tab",1),(q "number",2),(q "t",3),(q "ro",4),(q "old",5),(q "fresh",6)]:bI)),(dx 121 3,([(q "self",0),(q "tab",1),(q "props",2)]:bI)),(aL 122,([(q "tab",0),(q "t",1),(q "late",2),(q "part",3),(q "row",4),(q "asked",5)]:bI)),(aL 123,([(q "host",0),(q "t",1),(q "tab",2)]:bI)),(aL 124,([(q "tab",0),(q "t",1)]:bI)),(aL 125,([(q "romod",0),(q "ro",1)]:bI)),(aL 126,([(q "host",0),(q "row",1),(q "key",2)]:bI)),(aL 127,([(q "row",0),(q "was",1)]:bI)),(aL 128,([(q "host",0),(q "row",1),(q "key",2),(q "own",3),(q "was",4),(q "tab",5),(q "t",6)]:bI)),(aL 129,([(q "row",0),(q "prop",1),(q "plain",2),(q "was",3),(q "flags",4),(q "ro",5)]:bI)),(aL 130,([(q "host",0),(q "row",1),(q "key",2),(q "name",3)]:bI)),(dx 131 0,([(q "self",0),(q "key",1),(q "prop",2),(q "index",3)]:bI)),(aL 132,([(q "host",0),(q "row",1),(q "made",2),(q "keyed",3),(q "target",4),(q "plain",5),(q "tab",6),(q "text",7),(q "own",8),(q "was",9),(q "kept",10),(q "t",11),(q "ro",12)]:bI)),(aL 133,([(q "host",0),(q "row",1),(q "entries",2),(q "plain",3),(q "made",4),(q "keyed",5),(q "targets",6),(q "target",7)]:bI)),(aL 134,([(q "host",0),(q "t",1),(q "tab",2),(q "entries",3),(q "shape",4),(q "prop",5)]:bI)),(aL 135,([(q "host",0),(q "row",1),(q "t",2),(q "plain",3),(q "tab",4),(q "source",5),(q "elem",6)]:bI)),(aL 136,([(q "host",0),(q "row",1),(q "elem",2)]:bI)),(aL 137,([(q "host",0),(q "row",1),(q "place",2),(q "elem",3),(q "plain",4),(q "key",5),(q "own",6),(q "kind",7),(q "was",8),(q "mark",9)]:bI)),(aL 138,([(q "tab",0),(q "t",1)]:bI)),(aL 140,([(q "host",0),(q "row",1),(q "t",2),(q "source",3),(q "entries",4)]:bI)),(aL 141,([(q "host",0),(q "row",1),(q "source",2),(q "elems",3),(q "places",4),(q "place",5),(q "elem",6),(q "t",7)]:bI)),(aL 142,([(q "host",0),(q "keyed",1),(q "name",2),(q "t",3)]:bI)),(aL 144,([(q "host",0),(q "many",1),(q "mapping",2)]:bI)),(aL 145,([(q "host",0),(q "cell",1),(q "mapping",2)]:bI)),(aL 146,([(q "host",0),(q "row",1),(q "mapping",2),(q "props",3),(q "calls",4),(q "ctors",5),(q "sindex",6)]:bI)),(aL 150,([(q "host",0),(q "t",1),(q "row",2),(q "mapping",3),(q "rest",4)]:bI)),(aL 151,([(q "host",0),(q "t",1),(q "mapping",2),(q "row",3)]:bI)),(aL 153,([(q "tab",0),(q "row",1),(q "other",2),(q "prop",3),(q "cell",4)]:bI)),(aL 154,([(q "host",0),(q "row",1)]:bI)),(dx 155 0,([(q "self",0),(q "tab",1)]:bI)),(dx 155 1,([(q "self",0),(q "t",1),(q "row",2)]:bI)),(dx 155 2,([(q "self",0),(q "row",1)]:bI)),(dx 155 3,([(q "self",0),(q "t",1),(q "mapping",2)]:bI)),(aL 160,([(q "d",0),(q "n",1),(q "at",2)]:bI)),(aL 161,([(q "d",0),(q "atoms",1),(q "got",2),(q "go",3),(q "one",4)]:bI)),(aL 162,([(q "tab",0),(q "over",1),(q "kind",2)]:bI)),(aL 163,([(q "tab",0),(q "over",1),(q "one",2),(q "sort",3),(q "what",4)]:bI)),(aL 164,([(q "tab",0),(q "t",1),(q "row",2)]:bI)),(aL 165,([(q "tab",0),(q "t",1),(q "row",2)]:bI)),(aL 166,([(q "d",0),(q "base",1),(q "coat",2),(q "fixed",3),(q "table",4)]:bI)),(aL 167,([(q "plan",0),(q "key",1),(q "base",2),(q "coat",3),(q "fixed",4),(q "table",5),(q "kind",6)]:bI)),(aL 168,([(q "tab",0),(q "over",1),(q "key",2),(q "plan",3),(q "base",4),(q "coat",5),(q "fixed",6),(q "table",7),(q "x",8),(q "props",9)]:bI)),(aL 169,([(q "d",0),(q "tab",1),(q "names",2),(q "way",3),(q "members",4),(q "go",5),(q "name",6),(q "sign",7),(q "kind",8),(q "which",9),(q "firm",10),(q "cells",11),(q "props",12),(q "opt",13),(q "ro",14),(q "what",15),(q "hid",16),(q "flags",17),(q "calls",18),(q "told",19),(q "t",20),(q "turned",21),(q "decl",22)]:bI)),(aL 170,([(q "d",0),(q "tab",1),(q "ro",2),(q "form",3),(q "marks",4),(q "elems",5),(q "t",6)]:bI)),(aL 171,([(q "d",0),(q "tab",1),(q "n",2),(q "sig",3),(q "t",4)]:bI)),(aL 172,([(q "kind",0),(q "opt",1),(q "was",2),(q "rest",3)]:bI)),(aL 173,([(q "tab",0),(q "over",1),(q "plan",2),(q "mods",3),(q "bound",4),(q "opt",5),(q "ro",6),(q "rows",7),(q "name",8),(q "kind",9),(q "was",10),(q "shut",11),(q "what",12),(q "hid",13),(q "given",14),(q "sign",15),(q "told",16),(q "place",17),(q "cell",18)]:bI)),(aL 174,([(q "tab",0),(q "over",1),(q "plan",2),(q "mods",3),(q "bound",4),(q "opt",5),(q "ro",6),(q "shut",7),(q "spare",8),(q "marks",9),(q "front",10),(q "out",11),(q "place",12),(q "kind",13),(q "sign",14)]:bI)),(aL 175,([(q "bound",0),(q "whole",1),(q "firm",2),(q "short",3),(q "lets",4),(q "zero",5),(q "needs",6),(q "name",7),(q "kind",8),(q "opt",9),(q "ro",10),(q "what",11),(q "hid",12),(q "out",13)]:bI)),(aL 176,([(q "elems",0),(q "out",1),(q "way",2),(q "row",3),(q "kind",4),(q "sign",5)]:bI)),(aL 177,([(q "row",0),(q "slots",1),(q "place",2)]:bI)),(aL 178,([(q "slots",0),(q "key",1),(q "names",2),(q "out",3),(q "name",4),(q "kind",5),(q "opt",6)]:bI)),(aL 179,([(q "kind",0),(q "slots",1),(q "out",2),(q "sort",3),(q "what",4)]:bI)),(aL 180,([(q "plan",0),(q "opt",1),(q "slots",2),(q "sort",3),(q "name",4),(q "kind",5),(q "was",6),(q "given",7),(q "sign",8)]:bI)),(aL 181,([(q "name",0)]:bI)),(aL 182,([(q "one",0),(q "room",1),(q "sort",2),(q "what",3)]:bI)),(aL 183,([(q "kind",0),(q "room",1)]:bI)),(aL 184,([(q "tab",0),(q "row",1),(q "name",2),(q "marks",3),(q "front",4),(q "place",5),(q "out",6),(q "t",7),(q "sign",8)]:bI)),(aL 185,([(q "tab",0),(q "row",1),(q "plan",2),(q "opt",3),(q "choices",4),(q "slots",5),(q "sort",6),(q "names",7),(q "marks",8),(q "front",9),(q "name",10),(q "read",11),(q "room",12)]:bI)),(aL 186,([(q "d",0),(q "tab",1),(q "host",2),(q "over",3),(q "key",4),(q "plan",5),(q "mods",6),(q "naming",7),(q "sort",8),(q "bound",9),(q "template",10),(q "keys",11),(q "row",12),(q "said",13),(q "told",14),(q "prop",15)]:bI)),(aL 187,([(q "script",0),(q "nums",1)]:bI))]
def l9 (a:Č):Str:=if a<33 then nM.getD a Str.empty else⟨#[0,a]⟩
def y6:kA:=⟨Hb,Jt,J0,rz,l9⟩
def qE (f:Č):Stmt:=(Ii.getD f (.Pass ⟨0,0,0,0⟩,[])).1
def Dr (f:Č):bI:=(Ii.getD f (.Pass ⟨0,0,0,0⟩,[])).2
def spT (f:Č):fs:=⟨Dr f,(b8<|qE f).names,true⟩
def zR (f:Č):bS:=uJ.getD f ⟨0,0,[],[]⟩
def Eg:IF Č:=[122,136,157,179,187,194,201,208,214,219,231,247,255,262,269,276,283,290,297,304,309,314,321,326,333,340,348,467,509,535,542,547,554,561,569,576,583,623,637,644,651,656,668,675,682,689,696,703,710,717,724,738,752,759,766,773,780,787,794,799,806,813,818,825,830,854,861,868,875,889,896,903,910,925,932,937,944,949,956,963,970,975,980,985,992,997,1004,1009,1014,1019,1026,1031,1038,1045,1050,1055,1060,1065,1070,1077,1082]
def n8:IF Č:=[139,160,491,526,913,659,741]
def Nb (f:Č):Ĉ:=([(3,172),(4,180),(8,209),(10,224),(12,248)].lookup f).elim N λa=>R a
def Ox (f:Č):Ĉ:=if f<26 then ef else if f<27 then Lq else if f<34 then fi else if f<37 then pE else if f<38 then Do else if f<59 then f4 else if f<62 then yf else if f<67 then oA else if f<73 then nF else fA
def PM:IF String:=["TypeTable.__init__","TypeTable.put","Decl.__init__","str_type","array_type","last_mark","needed_to_last","one_rest","tuple_type","sorted_props","obj_type","func_type","new_param","new_decl","parts_of","whole_of_row","regular_twin","join_bools","stays_beside","top_of","union","without","add_undef","common_family","meet_family","family","plain_shape","Thin.list_prop","RefHost.shape","told_places","find_prop","is_digits","prop_row","read_type","is_open","unit_word","key_text","is_public","Made.__init__","Made.add","Made.add_index","Made.done","is_late_alias","undefless","optional_form","readonly_after","template_at","member_opt","member_kind","kindmap_member_flags","names_for","Keyed.__init__","put_member","build_members","shape_entries","map_array","spare_elem","map_elem","is_primitive","known_part","bound_tuple","lists_have","put_each","put_cell","put_shape","put_late","plain_put","table_read","put_name","NameHost.__init__","NameHost.force","NameHost.put_deferred","NameHost.put_in","_law_take","_law_kind","_law_type","_law_atom","_law_back","_law_back_one","_law_plan","_law_at","_law_template","_law_object","_law_list","_law_lone","_law_slot","_law_told","_law_told_list","_law_choices","_law_rows","_law_numbered","_law_own","_law_free","_law_after","_law_digits","_law_held","_law_lies","_law_rooms","_law_sound","_law_round","law"]
def fD (f:Č):Addr:=Eg.getD f 0
def J6:IF (String×Ĉ×Ĉ×Ĉ):=(List.range 101).map λf=>(PM.getD f "",Nb f,R<|fD f-1,Ox f)
def Yk:Params:={strHash:=λ_=>0,shareClass:=λ_=>0,mergeTok:=λt=>t,idOf:=λ_=>0,idOfShared:=λ_ _=>0,followText:=λ_=>false,idOfImm:=λ_=>0}
def Hu (P:Params) (a:Č):Č×Obj:=(a,(z0 P).getD a hz)
def T':Frag:=[105,83,84,85,86,87,88,89,90,91,92,93,99,94,95,96,97,98,101,100,102,103,104,106,107,108,341,562,917,916,918,172,180,209,224,220,221,222,223,248,121,135,156,178,186,193,200,207,213,218,230,246,254,261,268,275,282,289,296,303,308,313,320,325,332,339,347,466,508,534,541,546,553,560,568,575,582,622,636,643,650,655,667,674,681,688,695,702,709,716,723,737,751,758,765,772,779,786,793,798,805,812,817,824,829,853,860,867,874,888,895,902,909,924,931,936,943,948,955,962,969,974,979,984,991,996,1003,1008,1013,1018,1025,1030,1037,1044,1049,1054,1059,1064,1069,1076,1081].map<|Hu Yk
def Yd (P:Params):Frag:=[139,160,491,526,913,659,741,138,159,490,525,912,658,740].map<|Hu P
def vZ (f:Č):Obj:=match J6.getD f ("",N,N,N)with|(q,nO,c,yc)=>Ck (qE f) q nO yc c
def KF:Frag:=(List.range 101).map λf=>(fD f,vZ f)
def qO:Frag:=KF++T'
def nC (P:Params):Frag:=qO++Yd P
def Bx (o:Obj):IF DictEntry:=match o.data with|.dict es _=>es.toList|_=>[]
def Gs (P:Params):IF DictEntry:=Bx<|hk P fA 177 186
def Bg (P:Params):IF DictEntry:=Bx<|PySem.W.boot_o_0 P
def og (P:Params) (x:Str):Ċ Ĉ:=((Gs P).find? λe=>e.key.isStr x).map (·.val)
def vq (P:Params) (x:Str):Ċ Ĉ:=((Bg P).find? λe=>e.key.isStr x).map (·.val)
theorem MT(w:World):(nC w.params).map (λp=>(iU w.params).get? p.1)=(nC w.params).map λp=>some p.2:=by kernel_rfl
theorem Dv{w:World}{h:Heap}(cx:∀b o,(iU w.params).get? b=some o->h.get? b=some o):(nC w.params).In h:=Frag.In.keeps (Frag.in_of (as:=(nC w.params).map (·.1)) rfl<|by rw[f2];exact MT w) cx
def Tx:Ĉ->ĉ|.str _ _=>true|_=>false
def Ij (l:IF DictEntry):ĉ:=l.all λe=>Tx e.key
theorem Nr{l:IF DictEntry}(h:Ij l=true):StrKeys l.toArray:=by intro e a6;have:=d'.mp h e (by simpa using a6);cases aE:e.key<;>rw[aE]at this<;>first|exact⟨_,_,rfl⟩|cases this
theorem Aq{h:Heap}{a:Addr}{o:Obj}{l:IF DictEntry}{n:Č}(G:h.get? a=some o)(E:o.data=.dict l.toArray n)(aC:Ij l=true):h.Ns a λx=>(l.find? λe=>e.key.isStr x).map (·.val):=⟨o,_,n,G,E,Nr aC,λx=>by show((l.toArray).find? _).map _=_;rw[List.find?_toArray]⟩
theorem Qd(P:Params):(iU P).get? 3=some (hk P fA 177 186):=by kernel_rfl
theorem Zi(P:Params):(iU P).get? 0=some (PySem.W.boot_o_0 P):=by kernel_rfl
theorem ZB(P:Params):(iU P).get? 2=some (D1 P):=by kernel_rfl
theorem Gy(P:Params):(iU P).Ns mainGlobals (og P):=Aq (Qd P) (l:=Gs P) (n:=186) (by kernel_rfl) (by kernel_rfl)
def Mt (o:Obj):Č:=match o.data with|.dict _ n=>n|_=>0
theorem M6(P:Params):(PySem.W.boot_o_0 P).data=.dict (Bg P).toArray (Mt<|PySem.W.boot_o_0 P):=by kernel_rfl
theorem TM(P:Params):(iU P).Ns builtinsNs (vq P):=by exact Aq (Zi P) (l:=Bg P) (M6 P) (by kernel_rfl)
theorem lim(P:Params):(iU P).NoLimit:=⟨_,Aq (ZB P) (l:=Bx<|D1 P) (n:=2) (by kernel_rfl) (by kernel_rfl),by kernel_rfl⟩
theorem Al{n:Č}(h:n<=1000):n<=a3:=by unfold a3;lia
def I7 (n:String) (v:Ĉ):ĉ:=match v with|.type m=>m==n|_=>false
theorem Qv{n:String}{v:Ĉ}(h:I7 n v=true):v=.type n:=by
 cases v with
 |type m=>exact bH _<|fM.mp h
 |_=>exact cH h
def u9 (n:String) (o:Obj):ĉ:=I7 n o.cls&&(o.dict.isNone&&o.slots.isEmpty)
theorem HW{n:String}{o:Obj}(h:u9 n o=true):o=⟨.type n,none,o.data,#[]⟩:=by
 have h:=gA.mp h;have E:=gA.mp h.2;cases o with|mk a b d e=>
 obtain rfl:a=.type n:=Qv h.1;obtain rfl:b=none:=qr.mp E.1;obtain rfl:e=#[]:=Array.isEmpty_iff.mp E.2;rfl
theorem Ar{b:ĉ}(h:(!b)=true):b=false:=by cases b<;>first|rfl|exact cH h
def mW {av:Type} (o:Ċ av) (f:av->ĉ):ĉ:=match o with|some a=>f a|none=>false
theorem sJ{av:Type}{o:Ċ av}{f:av->ĉ}(h:mW o f=true):∃a,o=some a/\f a=true:=by
 cases o with
 |some a=>exact⟨a,rfl,h⟩
 |none=>exact cH h
def Qx (n:String) (o:Obj):Ċ (IF Ĉ×Č):=match o.data with
 |.seq vs k=>if u9 n o=true then some (vs.toList,k)else none
 |_=>none
def vl (K:Frag) (n:String) (a:Addr):Ċ (IF Ĉ×Č):=(K.lookup a).bind<|Qx n
theorem Hi{K:Frag}{n:String}{a:Addr}{l:IF Ĉ}{k:Č}(h:vl K n a=some (l,k)):K.lookup a=some ⟨.type n,none,.seq l.toArray k,#[]⟩:=by
 obtain⟨o,ag,a8⟩:=bind_some h;clear h;rw[ag];cases o with|mk x b d e=>cases d with
 |seq vs j=>obtain⟨G,E⟩:=g4<|show(if u9 n ⟨x,b,.seq vs j,e⟩=true then some (vs.toList,j)else none)=some (l,k)from a8;cases E;exact bH some<|HW G
 |_=>exact b0 a8
def uy:B->Ċ č|.int i=>some i|_=>none
def NM (p:B×B) (e:DictEntry):ĉ:=match p.1 with
 |.int i=>(match p.2 with
  |.int j=>(match e.key with
   |.int p4 _=>(match e.val with|.int v' _=>e.hash==hashInt i&&(i==p4&&j==v')|_=>false)
   |_=>false)
  |_=>false)
 |_=>false
def BB:IF (B×B)->IF DictEntry->ĉ
 |[]=>λes=>es.isEmpty
 |a::r=>λes=>match es with|[]=>false|b::t=>NM a b&&BB r t
def P8 (K:Frag) (l:IF (B×B)) (a:Addr):ĉ:=mW (K.lookup a) λo=>match o.data with
 |.dict es k=>u9 "dict" o&&(BB l es.toList&&(decide (l.length<=1000)&&(!(a==sysModules)&&decide ((l.map λx=>uy x.1).Nodup))))
 |_=>false
mutual
noncomputable def mv (K:Frag):B->Ĉ->ĉ
 |.none=>λV=>match V with|.none=>true|_=>false
 |.bool a=>λV=>match V with|.bool b=>a==b|_=>false
 |.int i=>λV=>match V with|.int j _=>i==j|_=>false
 |.str l=>λV=>match V with|.str s _=>decide (l.length<=1000)&&s.cps.toList==l|_=>false
 |.tup l=>λV=>match V with|.ref a=>mW (vl K "tuple" a) λx=>decide (l.length<=1000)&&o6 K l x.1|_=>false
 |.bb l=>λV=>match V with|.ref a=>P8 K l a|_=>false
 |.lst _=>λ_=>false
 |.ref _=>λ_=>false
 |.ez _ _=>λ_=>false
noncomputable def o6 (K:Frag):IF B->IF Ĉ->ĉ
 |[]=>λVs=>Vs.isEmpty
 |a::r=>λVs=>match Vs with|[]=>false|b::t=>mv K a b&&o6 K r t
end
theorem VU{P:Params}{C:aY}{l:IF (B×B)}:∀{es:IF DictEntry},BB l es=true->ea P C l es:=by
 induction l with
 |nil=>intro es h;rw[fW.mp h];exact .nil
 |cons p r ap=>
  intro es h;cases es with
  |nil=>exact cH h
  |cons e t=>
   have h:=gA.mp h;have E:=ap h.2;have G:=h.1;clear ap h;cases p with|mk a b=>
   cases a with
   |int i=>cases b with
    |int j=>cases e with|mk ca K V=>
     cases K with
     |int p4 t=>cases V with
      |int v' u=>have G:=gA.mp<|show(ca==hashInt i&&(i==p4&&j==v'))=true from G;have aC:=gA.mp G.2;obtain rfl:ca=hashInt i:=fM.mp G.1;obtain rfl:i=p4:=fM.mp aC.1;obtain rfl:j=v':=fM.mp aC.2;exact .cons (.int _ _) (.int _ _) E
      |_=>exact cH G
     |_=>exact cH G
    |_=>exact cH G
   |_=>exact cH G
theorem EE{K:Frag}{H:Heap}(X:K.In H){a:Addr}{o:Obj}(h:K.lookup a=some o):f0 H a=.a5 o:=by unfold f0;rw[X _ _ h]
theorem Wa{l:IF (B×B)}(h:(l.map λx=>uy x.1).Nodup):(l.map Prod.fst).Nodup:=by
 have:l.map (λx=>uy x.1)=(l.map Prod.fst).map uy:=by rw[f2];rfl
 rw[this]at h;exact List.Pairwise.of_map uy (λa b n e=>n<|by rw[e]) h
section
variable{P:Params}{K:Frag}{H:Heap}(X:K.In H)
include X
theorem QN{l:IF B}(ap:∀Vs,o6 K l Vs=true->bD P (f0 H) l Vs)(V:Ĉ)(h:mv K (.tup l) V=true):bA P (f0 H) (.tup l) V:=by
 cases V with
 |ref a=>obtain⟨x,e,h⟩:=sJ<|show mW (vl K "tuple" a) _=true from h;have h:=gA.mp h;exact .tup (EE X<|Hi e) (ap _ h.2)<|Al<|fe h.1
 |_=>exact cH h
theorem Za(l:IF (B×B))(V:Ĉ)(h:mv K (.bb l) V=true):bA P (f0 H) (.bb l) V:=by
 cases V with
 |ref a=>
  obtain⟨o,e,h⟩:=sJ<|show mW (K.lookup a) _=true from h;cases o with|mk x b d s=>cases d with
  |dict es k=>have h:=gA.mp<|show(u9 "dict" ⟨x,b,.dict es k,s⟩&&_)=true from h;rw[HW h.1]at e;have E:=gA.mp h.2;have aC:=gA.mp E.2;have ba:=gA.mp aC.2;exact .bb (EE X e) (VU E.1) (Al<|fe aC.1) (Wa<|fe ba.2)<|Ar ba.1
  |_=>exact cH h
 |_=>exact cH h
theorem Sk:∀V,mv K .none V=true->bA P (f0 H) .none V:=λV h=>by
 cases V with
 |none=>exact .none
 |_=>exact cH h
theorem WN(b:ĉ)(V:Ĉ)(h:mv K (.bool b) V=true):bA P (f0 H) (.bool b) V:=by
 cases V with
 |bool c=>rw[fM.mp<|show(b==c)=true from h];exact .bool c
 |_=>exact cH h
theorem SD(i:č)(V:Ĉ)(h:mv K (.int i) V=true):bA P (f0 H) (.int i) V:=by
 cases V with
 |int j t=>rw[fM.mp<|show(i==j)=true from h];exact .int j t
 |_=>exact cH h
theorem NN(l:bx)(V:Ĉ)(h:mv K (.str l) V=true):bA P (f0 H) (.str l) V:=by
 cases V with
 |str s t=>have h:=gA.mp<|show(decide (l.length<=1000)&&s.cps.toList==l)=true from h;obtain rfl:s.cps.toList=l:=fM.mp h.2;exact .str _ t<|Al<|fe h.1
 |_=>exact cH h
theorem Ir{v:B}{l:IF B}(wt:∀V,mv K v V=true->bA P (f0 H) v V)(qx:∀Vs,o6 K l Vs=true->bD P (f0 H) l Vs)(Vs:IF Ĉ)(h:o6 K (v::l) Vs=true):bD P (f0 H) (v::l) Vs:=by
 cases Vs with
 |nil=>exact cH h
 |cons V t=>have h:=gA.mp<|show(mv K v V&&o6 K l t)=true from h;exact .cons (wt _ h.1)<|qx _ h.2
theorem Fw{v:B}{V:Ĉ}:mv K v V=true->bA P (f0 H) v V:=B.rec (motive_1:=λv=>∀V,mv K v V=true->bA P (f0 H) v V) (motive_2:=λl=>∀Vs,o6 K l Vs=true->bD P (f0 H) l Vs) (motive_3:=λ_=>True) (motive_4:=λ_=>True) (Sk X) (WN X) (SD X) (NN X) (λ_ ap=>QN X ap) (λ_ _ _ h=>cH h) (λl _=>Za X l) (λ_ _ h=>cH h) (λ_ _ _ h=>cH h) (λVs h=>by rw[fW.mp h];exact .nil) (λ_ _ wt qx=>Ir X wt qx) trivial (λ_ _ _ _=>trivial) (λ_ _ _ _=>trivial) v V
theorem NC{l:IF B}:∀{Vs:IF Ĉ},o6 K l Vs=true->bD P (f0 H) l Vs:=by
 induction l with
 |nil=>intro Vs h;rw[fW.mp h];exact .nil
 |cons v l ap=>exact λh=>Ir X (λ_=>Fw X) (λ_=>ap) _ h
end
def KJ (x:Str) (v:Ĉ):ĉ:=match v with|.str y _=>y==x|_=>false
def I6 (K:Frag) (ka:Ĉ) (x:Str):ĉ:=match ka with
 |.ref c=>mW (K.lookup c) λo=>match o.data with
  |.fields vs=>mW vs[1]? (KJ x)
  |_=>false
 |_=>false
theorem P2{K:Frag}{H:Heap}(X:K.In H){ka:Ĉ}{x:Str}(h:I6 K ka x=true):H.CodeRec ka x:=by
 cases ka with
 |ref c=>
  obtain⟨o,e,h⟩:=sJ<|show mW (K.lookup c) _=true from h;cases o with|mk a b d s=>cases d with
  |fields vs=>
   obtain⟨y,a8,h⟩:=sJ<|show mW vs[1]? (KJ x)=true from h;cases y with
   |str y t=>exact⟨c,_,vs,t,rfl,X _ _ e,rfl,by rw[a8,fM.mp<|show(y==x)=true from h]⟩
   |_=>exact cH h
  |_=>exact cH h
 |_=>exact cH h
def X0 (K:Frag) (nO:Ĉ):Ċ (IF Ĉ):=match nO with
 |.none=>some []
 |.ref T=>(vl K "tuple" T).map (·.1)
 |_=>none
def rX (f:Č):String×Ĉ×Ĉ×Ĉ:=J6.getD f ("",N,N,N)
def u6 (l:IF (Str×NameKind)) (x:Str):ĉ:=l.lookup x==some .local||l.lookup x==some .cell
def UX (f:Č):ĉ:=let st:=qE f;let Ie:=(b8 st).names;let ai:IF Str:=(lx st).args.map (·.arg);let h1:=zR f;(b8 st).kind==.function&&(!(b8 st).isCoroutine&&(!(b8 st).isGenerator&&(I6 qO (rX f).2.2.1 (Str.ofString (rX f).1)&&(B1 (lx st)&&(decide ai.Nodup&&(ai.all (u6 Ie)&&(Ie.all (λy=> !(y.2==.free))&&((Dr f).all (λy=>(decide<|y.2<ai.length->ai[y.2]?=some y.1)&&decide (y.2<h1.lO))&&(decide (ai.length=h1.np)&&(decide ((Dr f).map (·.2)).Nodup&&mW (X0 qO (rX f).2.1) λcO=>decide (cO.length<=ai.length)&&o6 qO h1.dflt cO))))))))))
theorem Qe:(List.range 101).all UX=true:=by kernel_rfl
def Uv (f:Č):ĉ:=sF y6 200 (spT f) (p2<|qE f) (zR f).body
theorem SH:(List.range 101).all Uv=true:=by kernel_rfl
def SI (P:Frag) (be a:Č):ĉ:=storeOk P (n8.getD be 0) (l9 a)&&attrOk P (n8.getD be 0) (l9 a)
theorem HI(P:Params):((List.range 7).all λbe=>(List.range 33).all λa=>SI (nC P) be a)=true:=by kernel_rfl
theorem RX(P:Params):(Hb.all λx=>og P x.1==some (.ref<|fD x.2)&&keepIn (nC P) (.ref<|fD x.2))=true:=by kernel_rfl
theorem QG(P:Params):(Jt.all λx=>mW (og P x.1)<|mv qO x.2)=true:=by kernel_rfl
def JE (P:Frag) (be:Č):ĉ:=match AI be with
 |some f=>decide (be<7)&&makesIn P (n8.getD be 0)&&findIn P (.ref<|n8.getD be 0) "__init__"==some (some<|.ref<|fD f)&&typeIn P (.ref<|fD f)==some (.type "function")
 |none=>true
theorem Xh(P:Params):(J0.all λx=>og P x.1==some (.ref<|n8.getD x.2 0)&&keepIn (nC P) (.ref<|n8.getD x.2 0)&&JE (nC P) x.2)=true:=by kernel_rfl
def J8 (P:Frag) (name:Str) (be f:Č):ĉ:=keepIn P (.ref<|fD f)&&findIn P (.ref<|n8.getD be 0) "__getattribute__"==some (some<|.builtin "object.__getattribute__")&&findIn P (.ref<|n8.getD be 0) "__getattr__"==some none&&findIn P (.ref<|n8.getD be 0) name==some (some<|.ref<|fD f)&&typeIn P (.ref<|fD f)==some (.type "function")
def VD (P:Frag) (m:Č) (name:Str):ĉ:=(List.range 7).all λbe=>match Ba be m with|some f=>J8 P name be f|none=>true
theorem Ro(P:Params):((List.range 10).all λm=>VD (nC P) m<|rz.getD m Str.empty)=true:=by kernel_rfl
def BA (x:Str):ĉ:= !(x.cps.toList.head?==some 0)
theorem Qz:(rz.all λx=>BA x&& !nM.contains x)=true:=by kernel_rfl
theorem D9:(decide nM.Nodup&&nM.all BA&&decide (nM.length=33))=true:=by kernel_rfl
theorem XT(P:Params):([f7.len,.sorted,.tuple,.any,.all,.str,.int].all λb=>match p_ b with|some nm=>(og P nm).isNone&&vq P nm==some (sb b)|none=>true)=true:=by kernel_rfl
theorem Hd(P:Params):((og P "isinstance").isNone&&vq P "isinstance"==some (.builtin "isinstance")&&((og P "range").isNone&&vq P "range"==some (.type "range")))=true:=by kernel_rfl
theorem kR{a b:ĉ}(h:(a&&b)=true):a=true/\b=true:=gA.mp h
theorem TL{a b c d e f g h i j k l:ĉ}(q:(a&&(b&&(c&&(d&&(e&&(f&&(g&&(h&&(i&&(j&&(k&&l)))))))))))=true):GN (a=true) (b=true) (c=true) (d=true) (e=true) (f=true) (g=true) (h=true) (i=true) (j=true) (k=true) (l=true):=(kR q).elim λA q=>(kR q).elim λaT q=>(kR q).elim λah q=>(kR q).elim λD q=>(kR q).elim λO q=>(kR q).elim λF q=>(kR q).elim λcR q=>(kR q).elim λH q=>(kR q).elim λI q=>(kR q).elim λdz q=>(kR q).elim λK q=>⟨A,aT,ah,D,O,F,cR,H,I,dz,K,q⟩
theorem Gp{av b9:Type}[BEq av][LawfulBEq av]{x:av}{y:b9}:∀{l:IF (av×b9)},l.lookup x=some y->(x,y)∈l
 |[],h=>by cases h
 |(a,b)::r,h=>by
  rw[kO]at h;split at h
  .rename_i q;cases h;rw[fM.mp q];exact .head _
  .exact .tail _<|Gp h
theorem Dg{av b9:Type}[BEq av][LawfulBEq av]{l:IF (av×b9)}{p:av×b9->ĉ}(h:l.all p=true){x:av}{y:b9}(e:l.lookup x=some y):p (x,y)=true:=d'.mp h _<|Gp e
theorem qs{n:Č}{p:Č->ĉ}(h:(List.range n).all p=true){i:Č}(aB:i<n):p i=true:=d'.mp h _<|lC.mpr aB
theorem As{K aP:Frag}{a:Addr}{o:Obj}(h:K.lookup a=some o):(K++aP).lookup a=some o:=by rw[Ef,h];rfl
theorem wT{P:Params}{h:Heap}(X:(nC P).In h):qO.In h:=λa o e=>X a o<|As e
theorem A_{a:Č}(h:a<33):l9 a=nM.getD a Str.empty:=by unfold l9;rw[bl h]
theorem us{a:Č}(h:¬a<33):l9 a=⟨#[0,a]⟩:=by unfold l9;rw[bm h]
theorem UZ:nM.Nodup:=by have:=D9;simp only[e2,jL]at this;exact this.1.1
theorem Fj:∀x∈nM,BA x=true:=by have:=D9;simp only[e2,jL]at this;exact d'.mp this.1.2
theorem CE:nM.length=33:=by have:=D9;simp only[e2,jL]at this;exact this.2
theorem Cv{a:Č}(h:a<33):l9 a∈nM:=by rw[A_ h,lH,fq<|by rw[CE];exact h];exact w8 _
theorem Z2(a b:Č)(h:l9 a=l9 b):a=b:=by
 by_cases ak:a<33<;>by_cases aw:b<33
 .rw[A_ ak,A_ aw,lH,lH,fq (by rw[CE];exact ak),fq<|by rw[CE];exact aw]at h;exact(Bj UZ).mp h
 .have:=Fj _<|Cv ak;rw[h,us aw]at this;cases this
 .have:=Fj _<|Cv aw;rw[<-h,us ak]at this;cases this
 .rw[us ak,us aw]at h;cases h;rfl
theorem Zr{x:Str}(h:x∈rz)(a:Č):l9 a≠x:=by
 have:=d'.mp Qz x h;simp only[e2,kk]at this;obtain⟨G,E⟩:=this;intro e;by_cases ak:a<33
 .have:=Cv ak;rw[e]at this;rw[DI.mpr this]at E;cases E
 .rw[us ak]at e;rw[<-e]at G;cases G
noncomputable abbrev base (w:World) (H:Heap) (os:OsState) (aH:Around->Prop):cc:={prog:=eE,w:=w,N:=⟨l9,λi=>n8.getD i 0⟩,H:=H,os:=os,aH:=aH,ns:=[],cy:=λ_=>false,b6:=λ_=>false,kL:=λ_=>false,gP:=og w.params,kb:=vq w.params,K:=nC w.params}
section
variable{w:World}{H:Heap}{os:OsState}{aH:Around->Prop}
noncomputable abbrev E3 (w:World) (h:Heap):Prop:=∀b o,(iU w.params).get? b=some o->h.get? b=some o
theorem Rg(cx:E3 w H):(base w H os aH).Ok where
 sys:=by obtain⟨o,h⟩:=ha.mp (show((iU w.params).get? sysModules).isSome=true by kernel_rfl);exact⟨o,cx _ _ h⟩
 ru:=(Gy w.params).keeps cx
 CC:=(TM w.params).keeps cx
 ab:=Dv cx
 inj:=Z2
 rR:=λx y i h=>by cases h
 iB:=λbe a G E=>by have:=qs (qs (HI w.params) G) E;exact(gA.mp this).1
 nc:=λbe a G E=>by have:=qs (qs (HI w.params) G) E;exact(gA.mp this).2
theorem So{f:Č}{h1:bS}(h:lV.fns f=some h1):f<101/\zR f=h1:=by
 have aR:uJ[f]?=some h1:=h;have aj:uJ.length=101:=by decide+kernel
 have:f<uJ.length:=(g0.mp aR).1;exact⟨vD ‹_›,by unfold zR;rw[lH,aR];rfl⟩
theorem GZ{l:IF (Str×NameKind)}{x:Str}(h:u6 l x=true):l.lookup x=some .local\/l.lookup x=some .cell:=by simpa[u6]using h
theorem SF:∀{f:Č},f<101->KF.lookup (fD f)=some (vZ f):=by
 intro f a7;have b7:(Eg.length=101/\Eg.Nodup):=by decide+kernel
 unfold KF;have inj:∀i j,i<101->j<101->fD i=fD j->i=j:=λi j aB b' e=>by unfold fD at e;rw[lH,lH,fq<|vD ‹_›,fq<|vD ‹_›]at e;exact(Bj b7.2).mp e
 have nx:∀l:IF Č,(∀i∈l,i<101)->f∈l->(l.map λg=>(fD g,vZ g)).lookup (fD f)=some (vZ f):=by
  intro l;induction l with
  |nil=>intro _ h;cases h
  |cons g r ap=>
   intro aj aN;rw[gf,kO];cases q:(fD f==fD g)with
   |true=>rw[inj f g a7 (aj g<|.head _)<|fM.mp q]
   |false=>
    rcases eD.mp aN with rfl|aN
    .simp at q
    .exact ap (λi aB=>aj i<|.tail _ aB) aN
 exact nx _ (λi aB=>lC.mp aB)<|lC.mpr a7
theorem Vx(cx:E3 w H):I3 (base w H os aH) y6 fD spT where
 ok:=Rg cx
 an:=rfl
 defs:=λf h1 e=>by
  obtain⟨a7,rfl⟩:=So e;have aq:=qs SH a7;obtain⟨G,E,aC,ba,cN,d7,fm,qA,er,sf,s1,mD⟩:=TL<|qs Qe a7;obtain⟨cO,jK,mD⟩:=sJ mD;have mD:=kR mD;have X:=Dv cx;refine⟨_,p2<|qE f,(lx<|qE f).args.map (·.arg),cO,⟨⟨vZ f,X _ _<|As<|As<|SF a7,rfl⟩,rfl,rfl,rfl,rfl,fM.mp G,Ar E,Ar aC,(lim w.params).keeps cx,P2 (wT X) ba,cN,rfl,fe d7,?_,NC (wT X) mD.2,fe mD.1,?_,?_,?_,?_,?_,?_⟩,fe sf,aq,fe s1⟩
  .show((rX f).2.1=.none/\cO=[])\/dI λT o k=>dJ ((rX f).2.1=.ref T) _ _;revert jK;cases(rX f).2.1 with
   |none=>intro jK;cases jK;exact .inl ⟨rfl,rfl⟩
   |ref T=>intro jK;obtain⟨⟨l,k⟩,bs,rfl⟩:=x_.mp<|show(vl qO "tuple" T).map (·.1)=some cO from jK;exact .inr ⟨T,_,k,rfl,wT X _ _<|Hi bs,rfl⟩
   |_=>exact λh=>b0 h
  .exact λn am=>GZ<|d'.mp fm n am
  .intro y a1 q;have:=d'.mp qA y a1;rw[q]at this;cases this
  .intro x i az;have:=kR<|d'.mp er _<|mem_of_lookup az;exact⟨fe this.1,fe this.2⟩
  .intro x az;exact fM.mp az
  .intro x az;have:u6 (b8<|qE f).names x=true:=by unfold u6;simpa[fs.b6,spT]using az
   exact GZ this
  .intro x az;have:(true&&(b8<|qE f).names.lookup x==some .cell)=true:=az;simpa using this
 oN:=λx g e=>by have:=Dg (RX w.params) e;simp only[e2,fM]at this;exact this
 oX:=λx v e=>by obtain⟨V,q,h⟩:=sJ<|Dg (QG w.params) e;exact⟨V,q,Fw (wT<|Dv cx) h⟩
 gl:=λx be e=>by have:=Dg (Xh w.params) e;simp only[e2,fM]at this;obtain⟨⟨G,E⟩,aC⟩:=this;refine⟨G,E,λf a7=>?_⟩;have jE:AI be=some f:=a7;unfold JE at aC;rw[jE]at aC;simp only[e2,fM,jL]at aC;exact⟨aC.1.1.1,aC.1.1.2,aC.1.2,aC.2⟩
 qc:=λm name e=>by
  have bz:rz[m]?=some name:=e;have aN:m<10:=(g0.mp bz).1;have jM:name∈rz:=h' bz;refine⟨λa=>Zr jM a,λbe f a7=>?_⟩;have jE:Ba be m=some f:=a7;have jW:be<7:=by obtain⟨x,G,E⟩:=x_.mp jE;clear jE;have aC:=d'.mp (rfl:(J2.all λx=>Nat.blt x.1 7)=true) x<|xP G;have ba:(Nat.beq x.1 be&&Nat.beq x.2.1 m)=true:=ua (p:=λx:Č×Č×Č=>Nat.beq x.1 be&&Nat.beq x.2.1 m) G;rw[<-Nat.eq_of_beq_eq_true (kR ba).1];exact h4 aC
  have:=qs (qs (Ro w.params) aN) jW;rw[jE]at this;have q:rz.getD m Str.empty=name:=by rw[lH,bz];rfl
  rw[q]at this;unfold J8 at this;simp only[e2,fM]at this;exact⟨this.1.1.1.1,this.1.1.1.2,this.1.1.2,this.1.2,this.2⟩
 bi:=λfk nm e=>by have h:=d'.mp (XT w.params) fk (by cases fk<;>first|decide|cases e);rw[e]at h;simp only[e2,fM,qr]at h;exact h
 inst:=by have h:=Hd w.params;simp only[e2,fM,qr]at h;exact h.1
 ez:=by have h:=Hd w.params;simp only[e2,fM,qr]at h;exact h.2
end
def Answers:Prop:=∀l:IF č,bc 100 100 [.lst<|l.map .int] [] λv _=>v=.bool true
theorem S7(P:Params)(N:g3)(s:Nd)(d_:s.gens=#[]):Inv P N s.heap s.os (f0 s.heap) [] s where
 alloc:=λa h=>by
  rcases vM s.heap a with e|⟨o,-,e⟩
  .exact absurd e h
  .rw[yV e];rfl
 uniq:=λa b e h=>by rcases vM s.heap a with q|⟨o,-,q⟩<;>rw[q]at h<;>cases h
 a5:=λa o e=>yV e
 store:=λn ct h=>by cases h
 base:=λa o e=>by unfold f0;rw[e]
 gens:=d_
 hL:=rfl
 gx:=λa n h=>by rcases vM s.heap a with q|⟨o,-,q⟩<;>rw[q]at h<;>rcases h with h|h<;>cases h
theorem TR{P:Params}{h:Heap}{l:IF č}:∀{vs:IF Ĉ},WellAll P h vs (l.map .int)->bD P (f0 h) (l.map .int) vs:=by
 induction l with
 |nil=>intro vs h;cases h;exact .nil
 |cons i l ap=>intro vs h;cases h with|cons a r=>cases a;exact .cons (.int i _)<|ap r
theorem S9:PySem.W.same (.bool true) (.bool true)=true:=by decide+kernel
theorem U':s3 callerA 100:=⟨rfl,by decide,by decide⟩
theorem L3(w:World):og w.params "law"=some (.ref<|fD 100):=by kernel_rfl
theorem N7(Aj:Answers):WalkO oi loose (λ_ _=>True) Kept jk.row.toRowW pr [] (λf vs=>PySem.call f vs):=by
 intro w eS bt gP kb cR cx a o yc ka doc ă ą aA bg û ã ru MS args vals as Kd ò ß Xv Û;obtain⟨sL,ae⟩:=pre_splitW Kd;clear Kd;obtain⟨d,r,rfl,F4,bn⟩:=hasAllW_cons sL;clear sL;obtain rfl:=hasAllW_nil bn;obtain⟨bP,rfl,vh⟩:=hasW_list F4;clear F4;obtain⟨l,rfl⟩:=items_int vh;clear vh;have aj:l.length<=63:=by
  have nx:∀b:ĉ,WTm.holds jk.row.records (.and (.not (.lit<|.bool b))<|.lit<|.bool true) {args:=[WData.list<|l.map .int]}=true->b=false:=λb h=>by
   induction b with
   |false=>rfl
   |true=>exact cH h
  have q:¬(63:č)<((l.map WData.int).length:č):=rq<|nx _ ae;rw[bV]at q;lia
 have Vm:gP=og w.params:=by funext x;exact Heap.Ns.agree cR.T.g ((Gy w.params).keeps cx) x
 have ak:a=fD 100:=by rw[Vm]at ru;have E:=L3 w;have aC:=ru.symm.trans E;cases aC;rfl
 subst ak;cases Xv with
 |cons G E=>
  cases E;cases G with
  |list nc iE=>
   refine wpAny_call ?_;have W:=Vx (w:=w) (H:=bt.heap) (os:=bt.os) (aH:=λ_=>True) cx;have g':(l.map B.int).length<=a3:=by rw[bV];unfold a3;exact fY ‹_›
   refine VL W 100 callerA U' 100 bt (f0 bt.heap) [] [.lst<|l.map .int] _ _ _ (S7 _ _ bt MS) (.cons (.lst (by unfold f0;rw[nc]) (TR iE) g') .nil) (Aj l) λv bG af V aO ar dk x cn=>?_;subst af;cases cn;refine GoodW.toG ⟨.inl ⟨_,.bool true,[],rfl,raisesW_false allW_false_nil,.bool _,?_,λ_=>⟨.nil,λ_ h=>by cases h⟩⟩,λb o h=>dk.a5 b o<|dk.base b o h,dk.hL,dk.gens⟩;exact postW_of (r:=jk.row.toRowW) (X:=true) rfl (bH (λb=>some<|WData.bool b) S9) rfl
theorem promised:jk.row.toRowW.promised:=⟨[.list []],by decide+kernel,by decide+kernel⟩
theorem PZ(Aj:Answers):jk.Holds:=head promised<|N7 Aj
theorem fin:jk.Holds:=PZ R8
end
end Up.Internal
theorem PySem.Challenge.cw_up0039_01_holds : PySem.Challenge.rw_up0039_01.Holds :=
  Up.Internal.fin
