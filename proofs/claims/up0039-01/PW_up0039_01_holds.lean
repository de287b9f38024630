import PyProof.Rows.All
import Wide.All
import OpenK.AllK
import Wide.FinOn
import Lean
import PySem.Challenge.RW_up0039_01
set_option Elab.async false
set_option maxRecDepth 100000
set_option maxHeartbeats 0
set_option linter.unusedVariables false
set_option linter.unusedSectionVars false
set_option linter.unusedSimpArgs false
set_option compiler.extract_closed false
set_option hygiene false
noncomputable section
namespace Up.Internal
local macro_rules |`(def $i:declId $s:optDeclSig $v:declVal)=>`(noncomputable def $i:declId $s:optDeclSig $v:declVal)
abbrev HO:=List
abbrev Mt:=PySem.Shared
abbrev Zr:=PySem.Value
abbrev ZI:=Bool
abbrev Z5:=Option
abbrev Ā:=PySem.Expr
abbrev ā:=Nat
abbrev Ă:=Int
abbrev aI:=@Nat.le_trans
abbrev bd:=@PySem.wpAny_bind
abbrev bl:=@if_pos
abbrev bm:=@if_neg
abbrev bI:=@congrArg
abbrev bT:=@List.length_map
abbrev b3:=@PySem.wpAny_pure
abbrev cT:=@Option.some.inj
abbrev cX:=@List.mem_singleton
abbrev cZ:=@List.map_append
abbrev c':=@List.length_append
abbrev dc:=@Nat.succ_le_succ
abbrev dr:=@List.mem_map
abbrev dy:=@Nat.le_refl
abbrev dL:=@decide_eq_true
abbrev dR:=@Bool.false_ne_true
abbrev d':=@List.all_eq_true
abbrev eA:=@decide_eq_false
abbrev ew:=@List.mem_cons
abbrev eG:=@List.size_toArray
abbrev eI:=@LawfulBEq.eq_of_beq
abbrev eX:=@Bool.and_eq_true
abbrev fj:=@of_decide_eq_true
abbrev fr:=@List.getElem?_eq_getElem
abbrev fw:=@List.mem_map_of_mem
abbrev fP:=@Nat.add_le_add_right
abbrev fL:=@beq_iff_eq
abbrev fT:=@Nat.le_of_eq
abbrev fU:=@List.isEmpty_iff
abbrev f2:=@List.map_map
abbrev f8:=@Nat.zero_le
abbrev gh:=@List.map_cons
abbrev gd:=@List.mem_append
abbrev gr:=@Nat.add_le_add_left
abbrev gx:=@List.mem_filter
abbrev gG:=@Nat.lt_of_lt_of_le
abbrev gI:=@Nat.add_le_add
abbrev gK:=@Nat.ne_of_lt
abbrev gN:=@List.getElem?_map
abbrev gY:=@Bool.and_eq_true_iff
abbrev gU:=@PySem.Heap.get?_push_size
abbrev gQ:=@PySem.wpAny_holding
abbrev ha:=@List.append_nil
abbrev g9:=@List.getElem?_eq_some_iff
abbrev gZ:=@Option.isSome_iff_exists
abbrev hf:=@Nat.mul_le_mul_left
abbrev hI:=@Nat.lt_of_le_of_lt
abbrev hK:=@List.append_assoc
abbrev hM:=@List.filter_cons
abbrev hV:=@List.nodup_cons
abbrev ih:=@Nat.le_of_ble_eq_true
abbrev ip:=@Ne.symm
abbrev h9:=@List.mem_of_getElem?
abbrev ie:=@PySem.Heap.get?_push_of_some
abbrev ix:=@Int.ofNat_lt
abbrev iM:=@Nat.zero_add
abbrev iF:=@Nat.le_succ_of_le
abbrev iJ:=@List.mem_append_right
abbrev jL:=@beq_self_eq_true
abbrev jV:=@List.mem_flatMap
abbrev jT:=@decide_eq_true_eq
abbrev j4:=@Nat.le_of_lt
abbrev kn:=@Bool.not_eq_true'
abbrev j1:=@Nat.le_succ
abbrev j9:=@congrFun
abbrev kk:=@PySem.Heap.lt_size
abbrev kC:=@List.mem_append_left
abbrev kO:=@List.lookup_cons
abbrev kF:=@PySem.sizeLine_eq
abbrev lg:=@Nat.le_of_succ_le
abbrev lE:=@List.mem_range
abbrev lM:=@List.getD_eq_getElem?_getD
abbrev lK:=@beq_eq_false_iff_ne
abbrev lz:=@PySem.wpAny_mono
abbrev mv:=@List.filter_append
abbrev ms:=@List.length_filter_le
abbrev lW:=@Bool.or_eq_true
abbrev mG:=@Int.natCast_nonneg
abbrev nc:=@List.nodup_append
abbrev nz:=@Nat.le_add_right
abbrev mD:=@decide_eq_false_iff_not
abbrev nA:=@List.length_cons
abbrev mY:=@Prod.ext
abbrev mL:=@Nat.lt_irrefl
abbrev mN:=@Nat.lt_succ_of_lt
abbrev nj:=@PySem.wpAny_call_entry
abbrev m3:=@List.mem_toArray
abbrev nr:=@List.getElem?_set_ne
abbrev n4:=@Nat.succ_pos
abbrev o7:=@List.getElem?_append_left
abbrev pv:=@List.length_singleton
abbrev py:=@List.all_map
abbrev oZ:=@List.getElem?_append_right
abbrev pa:=@Int.ofNat_eq_zero
abbrev qF:=@List.flatMap_cons
abbrev qp:=@Nat.add_comm
abbrev qN:=@Int.toNat_natCast
abbrev pG:=@Bool.or_eq_false_iff
abbrev pU:=@Nat.lt_succ_self
abbrev p7:=@PySem.wpAny_standAt
abbrev pH:=@Option.isNone_iff_eq_none
abbrev rg:=@Nat.add_assoc
abbrev ro:=@Nat.succ_add_eq_add_succ
abbrev q1:=@Nat.le_of_not_lt
abbrev ra:=@of_decide_eq_false
abbrev rb:=@Nat.lt_trans
abbrev q5:=@List.nodup_nil
abbrev rK:=@PySem.wpAny_truthy_bool
abbrev qW:=@PyProof.Rows.slot_tuple_getitem
abbrev rz:=@List.getElem?_set
abbrev rJ:=@List.mem_cons_of_mem
abbrev qT:=@PySem.Heap.size_push
abbrev tJ:=@List.cons.inj
abbrev sa:=@List.pairwise_cons
abbrev r7:=@List.flatMap_append
abbrev te:=@List.flatMap_singleton
abbrev sc:=@List.cons.injEq
abbrev sQ:=@List.length_range
abbrev tX:=@Int.sub_zero
abbrev s':=@List.take_of_length_le
abbrev tN:=@List.any_eq_true
abbrev sw:=@Bool.and_false
abbrev sU:=@List.all_cons
abbrev tI:=@Bool.false_eq_true
abbrev sH:=@PySem.Heap.get?_update_self
abbrev sE:=@PySem.wpAny_callSpecial?_slot
abbrev tM:=@List.mem_cons_self
abbrev tV:=@PySem.Heap.get?_push_ne
abbrev uq:=@Nat.le_of_succ_le_succ
abbrev vi:=@List.filter_eq_nil_iff
abbrev uk:=@List.length_take_of_le
abbrev vz:=@Nat.le_antisymm
abbrev vl:=@decide_eq_decide
abbrev u4:=@List.length_replicate
abbrev vh:=@Nat.succ_lt_succ
abbrev vB:=@List.length_drop
abbrev vg:=@List.getElem?_drop
abbrev wn:=@Nat.ne_of_beq_eq_false
abbrev uu:=@PySem.Heap.SameBut.update
abbrev u0:=@PySem.wpAny_sequenceKey
abbrev uP:=@PySem.wpAny_newObj_type
abbrev um:=@List.find?_some
abbrev ut:=@PySem.Calls.spliced_cons
abbrev uC:=@PySem.Heap.size_update
abbrev xl:=@List.drop_eq_getElem_cons
abbrev wH:=@Int.eq_ofNat_of_zero_le
abbrev y6:=@List.length_eq_zero_iff
abbrev wA:=@Option.map_eq_some_iff
abbrev ye:=@List.mem_of_find?_eq_some
abbrev xj:=@PySem.wpAny_Call_method1_late
set_option backward.match.sparseCases false
set_option genInjectivity false
set_option genSizeOf false
set_option genCtorIdx false
theorem qY{b:ZI}{p:Prop}(h:cond b True p)(e:b=false):p:=by rw[e]at h;exact h
theorem aG{a b:ā}(e:Nat.ble a b=true):a<=b:=ih e
theorem jF{a b:ā}(e:Nat.ble (a+1) b=true):a<b:=ih e
theorem hl{a k l c:ā}(h:a+k<=c)(e:Nat.ble l k=true:=by rfl):a+l<=c:=aI (gr (aG e) _) h
theorem iY{a k l c:ā}(h:a+k<c)(e:Nat.ble l k=true:=by rfl):a+l<c:=hI (gr (aG e) _) h
theorem f1{a k l:ā}(h:a<=k)(e:Nat.ble k l=true:=by rfl):a<=l:=aI h<|aG e
theorem uE{a k l:ā}(h:a<k)(e:Nat.ble k l=true:=by rfl):a<l:=gG h<|aG e
theorem oU{a k l:ā}(h:a<k)(e:Nat.ble k (l+1)=true:=by rfl):a<=l:=Nat.le_of_lt_succ<|gG h<|aG e
theorem CY{a k l:ā}(h:a<=k)(e:Nat.ble (k+1) l=true:=by rfl):a<l:=hI h<|aG e
theorem ZN{v n:ā}(h:(v:Ă)<(OfNat.ofNat n:Ă)):v<n:=ix.mp h
theorem bY{av:Type _}{z:av}{cS:Prop}(h:none=some z):cS:=Option.noConfusion rfl<|heq_of_eq h
theorem lj{av:Type _}{z:av}{cS:Prop}(h:some z=none):cS:=bY h.symm
theorem cH{cS:Prop}(h:false=true):cS:=Bool.noConfusion h
theorem h7{cS:Prop}(h:true=false):cS:=Bool.noConfusion h
theorem Cg{av:Type _}(f:av->ā){a b:av}{cS:Prop}(h:a=b)(n:(f a==f b)=false):cS:=by subst h;rw[jL]at n;cases n
inductive dW {ii h3:Type} (P:ii->h3->Prop):Prop|mk (a:ii) (b:h3) (h:P a b):dW P
inductive dJ {ii h3 js:Type} (P:ii->h3->js->Prop):Prop|mk (a:ii) (b:h3) (c:js) (h:P a b c):dJ P
inductive gS {ii h3 js kY:Type} (P:ii->h3->js->kY->Prop):Prop|mk (a:ii) (b:h3) (c:js) (d:kY) (h:P a b c d):gS P
inductive tB {ii h3 js kY nw:Type} (P:ii->h3->js->kY->nw->Prop):Prop|mk (a:ii) (b:h3) (c:js) (d:kY) (e:nw) (h:P a b c d e):tB P
inductive KL {ii h3 js kY nw qH:Type} (P:ii->h3->js->kY->nw->qH->Prop):Prop|mk (a:ii) (b:h3) (c:js) (d:kY) (e:nw) (f:qH) (h:P a b c d e f):KL P
inductive Dm {ii h3 js kY nw qH vF:Type} (P:ii->h3->js->kY->nw->qH->vF->Prop):Prop|mk (a:ii) (b:h3) (c:js) (d:kY) (e:nw) (f:qH) (g:vF) (h:P a b c d e f g):Dm P
inductive IN {ii h3 js kY nw qH vF Ih HP Ev JQ D7:Type} (P:ii->h3->js->kY->nw->qH->vF->Ih->HP->Ev->JQ->D7->Prop):Prop|mk (a:ii) (b:h3) (c:js) (d:kY) (e:nw) (f:qH) (g:vF) (h:Ih) (i:HP) (j:Ev) (k:JQ) (l:D7) (h:P a b c d e f g h i j k l):IN P
inductive dD (iP dn eg:Prop):Prop|mk (a:iP) (b:dn) (c:eg):dD iP dn eg
inductive hZ (iP dn eg fS:Prop):Prop|mk (a:iP) (b:dn) (c:eg) (d:fS):hZ iP dn eg fS
structure qi(iP dn eg fS iy:Prop):Prop where mk::(a:iP) (b:dn) (c:eg) (d:fS) (e:iy)
inductive rD (iP dn eg fS iy nG:Prop):Prop|mk (a:iP) (b:dn) (c:eg) (d:fS) (e:iy) (f:nG):rD iP dn eg fS iy nG
inductive Im (iP dn eg fS iy nG qz:Prop):Prop|mk (a:iP) (b:dn) (c:eg) (d:fS) (e:iy) (f:nG) (g:qz):Im iP dn eg fS iy nG qz
inductive Fe (iP dn eg fS iy nG qz wm:Prop):Prop|mk (a:iP) (b:dn) (c:eg) (d:fS) (e:iy) (f:nG) (g:qz) (h:wm):Fe iP dn eg fS iy nG qz wm
inductive Ho (iP dn eg fS iy nG qz wm EU Iq FH IC:Prop):Prop|mk (a:iP) (b:dn) (c:eg) (d:fS) (e:iy) (f:nG) (g:qz) (h:wm) (i:EU) (j:Iq) (k:FH) (l:IC):Ho iP dn eg fS iy nG qz wm EU Iq FH IC
abbrev bx:=HO ā
set_option genInjectivity true in
inductive B where
 |none
 |bool (b:Bool)
 |int (i:Int)
 |str (s:bx)
 |tup (l:List B)
 |lst (l:List B)
 |bb (l:List (B×B))
 |ref (n:Nat)
 |ey (a b:Int)
def B.ctorIdx (x:B):ā:=B.casesOn (motive_1:=λ_=>ā) x 0 (λ_=>1) (λ_=>2) (λ_=>3) (λ_=>4) (λ_=>5) (λ_=>6) (λ_=>7)<|λ_ _=>8
theorem B.DN{b:B}(h:b.ctorIdx=0):b=.none:=by induction b using B.casesOn<;>first|rfl|cases h
theorem mx{a b:B}{cS:Prop}(h:a=b)(n:(a.ctorIdx==b.ctorIdx)=false):cS:=Cg _ h n
mutual
inductive kj where
 |add|sub|mul|fdiv|mod|band
inductive h0 where
 |eq|ne|lt|le|gt|ge|isin|fV|is|oP
inductive f' where
 |len|sorted|tuple|any|all|p0|str|int|index|get
end
def z2 {T:Type} (f:T->ā) (l:HO T) (e:∀a,l[f a]?=some a):DecidableEq T:=λa b=>if h:f a=f b then isTrue (cT<|(e a).symm.trans<|h▸e b)else isFalse λq=>h<|q▸rfl
def kj.ctorIdx (x:kj):ā:=kj.casesOn x 0 1 2 3 4 5
noncomputable instance:DecidableEq kj:=z2 kj.ctorIdx [.add,.sub,.mul,.fdiv,.mod,.band] λa=>kj.casesOn a rfl rfl rfl rfl rfl rfl
def h0.ctorIdx (x:h0):ā:=h0.casesOn x 0 1 2 3 4 5 6 7 8 9
noncomputable instance:DecidableEq h0:=z2 h0.ctorIdx [.eq,.ne,.lt,.le,.gt,.ge,.isin,.fV,.is,.oP] λa=>h0.casesOn a rfl rfl rfl rfl rfl rfl rfl rfl rfl rfl
def f'.ctorIdx (x:f'):ā:=f'.casesOn x 0 1 2 3 4 5 6 7 8 9
noncomputable instance:DecidableEq f':=z2 f'.ctorIdx [.len,.sorted,.tuple,.any,.all,.p0,.str,.int,.index,.get] λa=>f'.casesOn a rfl rfl rfl rfl rfl rfl rfl rfl rfl rfl
inductive a2 where
 |k (v:B)
 |v (i:Nat)
 |at(e:a2) (a:Nat)
 |ao (e i:a2)
 |aL (e:a2) (lo aB st:Option Int)
 |sg (e i:a2)
 |box (e:a2)
 |tup (l:List a2)
 |lst (l:List a2)
 |bb (l:List (a2×a2))
 |bin (o:kj) (a b:a2)
 |not (e:a2)
 |cmp (a:a2) (l:List (h0×a2))
 |an (l:List a2)
 |or (l:List a2)
 |ite (c t e:a2)
 |call (f:Nat) (l:List a2)
 |new (c:Nat) (l:List a2)
 |cR (o:a2) (m:Nat) (l:List a2)
 |bi (b:f') (l:List a2)
 |ey (a b:a2)
 |comp (gc:a2) (bk:Bool) (aS:List Nat) (it:a2) (ifs:List a2)
 |bad
def a2.ctorIdx (x:a2):ā:=a2.casesOn (motive_1:=λ_=>ā) x (λ_=>0) (λ_=>1) (λ_ _=>2) (λ_ _=>3) (λ_ _ _ _=>4) (λ_ _=>5) (λ_=>6) (λ_=>7) (λ_=>8) (λ_=>9) (λ_ _ _=>10) (λ_=>11) (λ_ _=>12) (λ_=>13) (λ_=>14) (λ_ _ _=>15) (λ_ _=>16) (λ_ _=>17) (λ_ _ _=>18) (λ_ _=>19) (λ_ _=>20) (λ_ _ _ _ _=>21) 22
inductive dE where
 |set (i:Nat) (e:a2)
 |own (i:Nat) (e:a2)
 |ho (l:List Nat) (e:a2)
 |fW (o:a2) (a:Nat) (e:a2)
 |jq (o:a2) (a:Nat) (e:a2)
 |nq (o i e:a2)
 |jC (i:Nat) (k e:a2)
 |app (i:Nat) (e:a2)
 |ext (i:Nat) (e:a2)
 |m8 (o:a2) (e:a2)
 |ex (e:a2)
 |iff (c:a2) (t e:List dE)
 |for (bk:Bool) (aS:List Nat) (it:a2) (b:List dE)
 |ret (e:a2)
 |a5 (i:Nat)
 |bad
def dE.ctorIdx (x:dE):ā:=dE.casesOn (motive_1:=λ_=>ā) x (λ_ _=>0) (λ_ _=>1) (λ_ _=>2) (λ_ _ _=>3) (λ_ _ _=>4) (λ_ _ _=>5) (λ_ _ _=>6) (λ_ _=>7) (λ_ _=>8) (λ_ _=>9) (λ_=>10) (λ_ _ _=>11) (λ_ _ _ _=>12) (λ_=>13) (λ_=>14) 15
inductive cq where
 |un
 |val (v:B)
 |ol (l:List B)
 |od (l:List (B×B))
def cq.ctorIdx (x:cq):ā:=cq.casesOn x 0 (λ_=>1) (λ_=>2)<|λ_=>3
inductive c4 where
 |ins (c:Nat) (a:List (Nat×B))
 |ls (l:List B)
 |cO (l:List (B×B))
def c4.ctorIdx (x:c4):ā:=c4.casesOn x (λ_ _=>0) (λ_=>1)<|λ_=>2
abbrev St:=HO c4
abbrev aJ:=HO cq
structure bS where
 np:Nat
 lJ:Nat
 dflt:List B
 body:List dE
structure UH where
 fns:Nat->Option bS
 meths:Nat->Nat->Option Nat
 AY:Nat->Option Nat
def jY (f:B->B->Z5 ZI):HO B->HO B->Z5 ZI
 |[],[]=>some true
 |[],_::_=>some false
 |_::_,[]=>some false
 |a::r,b::t=>(f a b).bind λx=>(jY f r t).map λy=>x&&y
def mf (g:HO B->HO B->Z5 ZI) (x y:B):Z5 ZI:=match x with
 |.none=>(match y with|.none=>some true|.int _=>some false|.str _=>some false|.tup _=>some false|_=>none)
 |.bool a=>(match y with|.bool b=>some (a==b)|_=>none)
 |.int a=>(match y with|.int b=>some (decide<|a=b)|.none=>some false|.str _=>some false|.tup _=>some false|_=>none)
 |.str a=>(match y with|.str b=>some (decide<|a=b)|.none=>some false|.int _=>some false|.tup _=>some false|_=>none)
 |.tup a=>(match y with|.tup b=>g a b|.none=>some false|.int _=>some false|.str _=>some false|_=>none)
 |.lst a=>(match y with|.lst b=>g a b|_=>none)
 |_=>none
def g0:ā->B->B->Z5 ZI
 |0=>mf λ_ _=>none
 |n+1=>mf<|jY<|g0 n
noncomputable abbrev fd:B->B->Z5 ZI:=g0 16
def je:B->Z5 ZI
 |.none=>some false
 |.bool b=>some b
 |.int i=>some<|decide<|i≠0
 |.str s=>some<|!s.isEmpty
 |.tup l=>some<|!l.isEmpty
 |.lst l=>some<|!l.isEmpty
 |_=>none
def hN (x:B):HO B->Z5 ZI
 |[]=>some false
 |y::r=>(fd y x).bind λa=>(hN x r).map λb=>a||b
def fA (k:B):HO (B×B)->Z5 (Z5 B)
 |[]=>some none
 |(a,b)::r=>match fd a k with
  |some true=>some<|some b
  |some false=>fA k r
  |none=>none
def gW (k v:B):HO (B×B)->Z5 (List<|B×B)
 |[]=>some [(k,v)]
 |(a,b)::r=>match fd a k with
  |some true=>some<|(a,v)::r
  |some false=>(gW k v r).map ((a,b)::·)
  |none=>none
def eU:ā->B->ZI
 |0=>λv=>match v with|.int _=>true|.str _=>true|_=>false
 |n+1=>λv=>match v with|.int _=>true|.str _=>true|.tup l=>l.all (eU n)|_=>false
def eH (k:B):ā:=match k with
 |.int _=>1
 |.str _=>2
 |.tup _=>if eU 6 k then 3 else 0
 |_=>0
def eo (k:B) (l:HO (B×B)):ZI:=eH k !=0&&l.all λe=>eH e.1==eH k
def fR {dC:Type} (y:B) (k:Ă->Z5 dC):Z5 dC:=B.casesOn (motive_1:=λ_=>Z5 dC) y none (λ_=>none) k (λ_=>none) (λ_=>none) (λ_=>none) (λ_=>none) (λ_=>none)<|λ_ _=>none
def l6 {dC:Type} (y:B) (k:bx->Z5 dC):Z5 dC:=B.casesOn (motive_1:=λ_=>Z5 dC) y none (λ_=>none) (λ_=>none) k (λ_=>none) (λ_=>none) (λ_=>none) (λ_=>none)<|λ_ _=>none
def rZ {dC:Type} (y:B) (k:HO B->Z5 dC):Z5 dC:=B.casesOn (motive_1:=λ_=>Z5 dC) y none (λ_=>none) (λ_=>none) (λ_=>none) k (λ_=>none) (λ_=>none) (λ_=>none)<|λ_ _=>none
def lP {dC:Type} (y:B) (k:HO B->Z5 dC):Z5 dC:=B.casesOn (motive_1:=λ_=>Z5 dC) y none (λ_=>none) (λ_=>none) (λ_=>none) (λ_=>none) k (λ_=>none) (λ_=>none)<|λ_ _=>none
def sf {dC:Type} (y:B) (k:Z5 dC):Z5 dC:=if y.ctorIdx=0 then k else none
def contains (x:B) (c:B):Z5 ZI:=match c with
 |.tup l=>hN x l
 |.lst l=>hN x l
 |.bb l=>if eo x l then(fA x l).map (·.isSome)else none
 |.str s=>l6 x λl=>(match l with|c::t=>(match t with|[]=>some (s.contains c)|_::_=>none)|[]=>none)
 |_=>none
def jH (i:Ă) (n:ā):Z5 ā:=if 0<=i then(if i.toNat<n then some i.toNat else none)else(if(-i).toNat<=n then some (n-(-i).toNat)else none)
def vR (l:HO B) (k:B):Z5 B:=fR k λi=>(jH i l.length).bind λj=>l[j]?
def I1 (l:bx) (k:B):Z5 B:=fR k λi=>(jH i l.length).bind λj=>(l[j]?).map λc=>.str [c]
def Dj (l:HO (B×B)) (k:B):Z5 B:=if eo k l then(fA k l).bind id else none
def Qp (l:HO B) (a b:Z5 Ă):Z5 B:=match b with
 |none=>(match a with|some i=>(match i with|.ofNat a=>if 1<=a/\a<=l.length then some (.tup<|l.drop a)else none|.negSucc _=>none)|none=>none)
 |some j=>(match a with|none=>(match j with|.negSucc n=>(match n with|0=>if l.isEmpty then none else some (.tup l.dropLast)|_+1=>none)|.ofNat _=>none)|some _=>none)
def Mi (l:HO B) (b d:Z5 Ă):Z5 B:=match d with
 |none=>(match b with|some i=>(match i with|.ofNat b=>some (.lst<|l.take b)|.negSucc _=>none)|none=>none)
 |some j=>(match b with|none=>(match j with|.negSucc n=>(match n with|0=>some (.lst l.reverse)|_+1=>none)|.ofNat _=>none)|some _=>none)
def rB (o:B) (a b d:Z5 Ă):Z5 B:=match o with
 |.tup l=>(match d with|none=>Qp l a b|some _=>none)
 |.lst l=>(match a with|none=>Mi l b d|some _=>none)
 |_=>none
def oi (n:ā) (l:HO av):HO av:=match n with
 |0=>[]
 |n+1=>l++oi n l
def ly (a b:ā):ā:=a&&&b
def a3:ā:=16777216
def i3 (n:ā) (x:av):Z5 av:=if n<=a3 then some x else none
def small (i:Ă):ZI:=decide (-536870912<=i)&&decide (i<=536870912)
def q2 (f:Ă->Ă->Z5 B) (x y:B):Z5 B:=fR x λa=>fR y<|f a
def bin (o:kj) (x y:B):Z5 B:=match o with
 |.add=>if x.ctorIdx=2 then q2 (λa b=>some<|.int<|a+b) x y else if x.ctorIdx=4 then(rZ x λa=>rZ y λb=>if a.isEmpty||b.isEmpty then none else i3 (a.length+b.length) (.tup<|a++b))else lP x λa=>lP y λb=>i3 (a.length+b.length)<|.lst<|a++b
 |.sub=>q2 (λa b=>some<|.int<|a-b) x y
 |.mul=>if x.ctorIdx=2 then q2 (λa b=>if small a&&small b then some (.int<|a*b)else none) x y else lP x λa=>fR y λn=>if small n then i3 (n.toNat*a.length) (.lst<|oi n.toNat a)else none
 |.fdiv=>q2 (λa b=>if b≠0/\(small a&&small b)=true then some (.int<|Int.fdiv a b)else none) x y
 |.mod=>q2 (λa b=>if b=0 then none else some (.int<|Int.fmod a b)) x y
 |.band=>q2 (λa b=>match a with|.ofNat a=>(match b with|.ofNat b=>some (.int<|.ofNat<|ly a b)|.negSucc _=>none)|.negSucc _=>none) x y
def ji (a b:bx):ZI:=decide<|a<b
def cmp (o:h0) (x y:B):Z5 ZI:=match o with
 |.eq=>fd x y
 |.ne=>(fd x y).map (!·)
 |.lt=>fR x λa=>fR y λb=>some<|decide<|a<b
 |.le=>if x.ctorIdx=2 then(fR x λa=>fR y λb=>some<|decide<|a<=b)else l6 x λa=>l6 y λb=>some<|!ji b a
 |.gt=>fR x λa=>fR y λb=>some<|decide<|a>b
 |.ge=>fR x λa=>fR y λb=>some<|decide<|a>=b
 |.isin=>contains x y
 |.fV=>(contains x y).map (!·)
 |.is=>sf y<|some<|x.ctorIdx==0
 |.oP=>sf y<|some<|!(x.ctorIdx==0)
def items:B->Z5 (HO B)
 |.tup l=>some l
 |.lst l=>some l
 |.bb l=>if(l.all λe=>eH e.1==1)||(l.all λe=>eH e.1==2)then some (l.map (·.1))else none
 |.str s=>some<|s.map λc=>.str [c]
 |.ey a b=>some<|(List.range (b-a).toNat).map λ(i:ā)=>B.int<|a+Int.ofNat i
 |_=>none
def Ad (l:HO B):Z5 bx:=match l with|[]=>none|x::_=>(match x with|.str a=>some a|_=>none)
def qe (x y:B):Z5 ZI:=match x with
 |.int a=>(match y with|.int b=>some (decide<|a<b)|_=>none)
 |.str a=>(match y with|.str b=>some (ji a b)|_=>none)
 |.tup l=>(match y with|.tup m=>(Ad l).bind λa=>(Ad m).bind λb=>if a==b then none else some (ji a b)|_=>none)
 |_=>none
def qw (x:B):HO B->Z5 (HO B)
 |[]=>some [x]
 |y::r=>match qe x y with
  |some true=>some<|x::y::r
  |some false=>(qw x r).map (y::·)
  |none=>none
def iZ:HO B->Z5 (HO B)
 |[]=>some []
 |x::r=>(iZ r).bind<|qw x
def jy (v:B):Z5 bx:=match v with
 |.tup l=>Ad l
 |_=>none
def dp (i:Ă):bx:=(toString i).toList.map Char.toNat
def Ak (l:bx):Z5 ā:=(List.range 64).find? λn=>decide<|dp (Int.ofNat n)=l
def qD:HO B->Z5 (HO ZI)
 |[]=>some []
 |.bool b::r=>(qD r).map (b::·)
 |_=>none
def k2.go (x:B):HO B->ā->Z5 B
 |[],_=>none
 |y::r,n=>match fd y x with
  |some true=>some<|.int n
  |some false=>k2.go x r<|n+1
  |none=>none
def pQ (r:aJ) (i:ā):Z5 B:=match r[i]? with
 |some (.val v)=>some v
 |_=>none
def peek (r:aJ):a2->Z5 B
 |.v i=>match r[i]? with
  |some (.val v)=>some v
  |some (.ol l)=>some<|.lst l
  |some (.od l)=>some<|.bb l
  |_=>none
 |_=>none
def il (bk:ZI) (aS:HO ā) (v:B) (r:aJ):Z5 aJ:=match bk with
 |false=>(match aS with|[]=>none|i::t=>(match t with|[]=>some (r.set i<|.val v)|_::_=>none))
 |true=>(match v with|.tup l=>if l.length=aS.length then some ((aS.zip l).foldl (λr p=>r.set p.1<|.val p.2) r)else none|_=>none)
def hn (s:St) (o k:B):Z5 B:=match o with
 |.ref n=>(s[n]?).bind λy=>(match y with|.ls l=>vR l k|.cO l=>Dj l k|.ins _ _=>none)
 |.tup l=>vR l k
 |.lst l=>vR l k
 |.str l=>I1 l k
 |.bb l=>Dj l k
 |_=>none
def AD (s:St) (o:B):Z5 B:=match o with
 |.ref n=>(s[n]?).bind λy=>match y with|.ls l=>some (.int l.length)|_=>none
 |_=>none
def LY {dC:Type} (y:B) (k:HO (B×B)->Z5 dC):Z5 dC:=match y with|.bb l=>k l|_=>none
def Gf (s:St) (v:B):Z5 B:=match v with
 |.ref n=>AD s<|.ref n
 |.tup l=>some<|.int l.length
 |.lst l=>some<|.int l.length
 |.bb l=>some<|.int l.length
 |.str l=>some<|.int l.length
 |_=>none
def IE (v:B):Z5 B:=match v with
 |.lst l=>some<|.tup l
 |.tup l=>some<|.tup l
 |_=>none
def Pn (v:B):Z5 B:=match v with
 |.str _=>some<|.bool true
 |.int _=>some<|.bool false
 |_=>none
def FS (v:B):Z5 B:=match v with
 |.bb l=>((items<|.bb l).bind λl=>if l.length<64 then iZ l else none).map .lst
 |.lst l=>if l.length<=4/\(l.all λx=>(jy x).isSome)=true/\(l.map jy).Nodup then(iZ l).map .lst else none
 |_=>none
def nY (b:f') (s:St) (v:B):Z5 B:=match b with
 |.len=>Gf s v
 |.sorted=>FS v
 |.tuple=>IE v
 |.any=>lP v λl=>(qD l).map λci=>.bool<|ci.any id
 |.all=>lP v λl=>(qD l).map λci=>.bool<|ci.all id
 |.p0=>Pn v
 |.str=>fR v λi=>if small i then i3 (dp i).length (.str<|dp i)else none
 |.int=>l6 v λl=>(Ak l).map λn=>.int<|Int.ofNat n
 |.index=>none
 |.get=>none
def IJ (b:f') (v x:B):Z5 B:=match b with
 |.index=>lP v λl=>if(hN x l).isSome then k2.go x l 0 else none
 |_=>none
def JM (b:f') (v x y:B):Z5 B:=match b with
 |.get=>LY v λl=>if eo x l then(fA x l).map λo=>o.getD y else none
 |_=>none
def pb (b:f') (s:St) (vs:HO B):Z5 B:=match vs with
 |[]=>none
 |v::r=>match r with
  |[]=>nY b s v
  |x::r=>match r with
   |[]=>IJ b v x
   |y::r=>match r with
    |[]=>JM b v x y
    |_::_=>none
def k2 (b:f') (vs:HO B):Z5 B:=pb b [] vs
def qE (s:St) (x c:B):Z5 ZI:=match c with
 |.ref n=>(s[n]?).bind λy=>match y with|.cO l=>if eo x l then(fA x l).map (·.isSome)else none|_=>none
 |_=>contains x c
def o3 {dC:Type} (s:St) (o:B) (k:ā->ā->HO (ā×B)->Z5 dC):Z5 dC:=match o with
 |.ref n=>(s[n]?).bind λy=>match y with|.ins c l=>k n c l|_=>none
 |_=>none
def nR (s:St) (o:B) (a:ā):Z5 B:=o3 s o λ_ _ l=>l.lookup a
def BR (s:St) (o:B):Z5 ā:=o3 s o λ_ c _=>some c
def putAt (a:ā) (v:B):HO (ā×B)->HO (ā×B)
 |[]=>[(a,v)]
 |(b,w)::r=>if b=a then(b,v)::r else(b,w)::putAt a v r
def nW (s:St) (o:B) (a:ā) (v:B):Z5 St:=o3 s o λn c l=>if l.length<=900 then some (s.set n<|.ins c<|putAt a v l)else none
inductive cj where
 |go
 |ret (v:B)
def cj.ctorIdx (x:cj):ā:=cj.casesOn x 0<|λ_=>1
def s6 (f:bS) (vs:HO B):Z5 aJ:=if vs.length<=f.np/\f.np<=vs.length+f.dflt.length then some (((vs++f.dflt.drop (f.dflt.length-(f.np-vs.length))).map .val)++List.replicate (f.lJ-f.np) .un)else none
def cO (p:Prop):ZI:=@decide p<|Classical.propDecidable p
theorem wp{p:Prop}(h:p):cO p=true:=@dL p (Classical.propDecidable p) h
theorem q3{p:Prop}(h:p->False):cO p=false:=@eA p (Classical.propDecidable p) h
theorem rE{p q:Prop}(h:p↔q):cO p=cO q:=bI cO<|propext h
theorem v4(p:Prop):(p/\cO p=true)\/((p->False)/\cO p=false):=(Classical.em p).imp (λh=>⟨h,wp h⟩) λh=>⟨h,q3 h⟩
theorem Uh{p q:Prop}:(cO p&&cO q)=cO (p/\q):=by
 rcases v4 p with⟨h,e⟩|⟨h,e⟩<;>rw[e]
 .exact rE ⟨λx=>⟨h,x⟩,λx=>x.2⟩
 .exact(q3 λx=>h x.1).symm
theorem PS{p q:Prop}:(cO p||cO q)=cO (p\/q):=by
 rcases v4 p with⟨h,e⟩|⟨h,e⟩<;>rw[e]
 .exact(wp<|.inl h).symm
 .exact rE ⟨.inr,λx=>x.resolve_left h⟩
theorem E6{av:Type}[DecidableEq av](a b:av):decide (a=b)=cO (a=b):=by
 rcases v4 (a=b)with⟨h,e⟩|⟨h,e⟩<;>rw[e]
 .exact dL h
 .exact eA h
def fv:ā->B->ZI
 |0=>λv=>match v with|.none=>true|.int _=>true|.str _=>true|_=>false
 |n+1=>λv=>match v with|.none=>true|.int _=>true|.str _=>true|.tup l=>l.all (fv n)|_=>false
theorem Bp{d:ā}{l:HO B}(h:eU (d+1) (.tup l)=true):∀v∈l,eU d v=true:=d'.mp h
theorem J3{M:ā->B->Prop}(aB:∀d i,M d<|.int i)(aK:∀d l,M d<|.str l)(dX:∀d l,(∀v∈l,eU d v=true)->(∀v,eU d v=true->M d v)->M (d+1) (.tup l)):∀d k,eU d k=true->M d k:=by
 intro d;induction d with
 |zero=>
  intro k aD;induction k using B.casesOn with
  |int i=>exact aB 0 i
  |str l=>exact aK 0 l
  |_=>exact cH aD
 |succ d ap=>
  intro k aD;induction k using B.casesOn with
  |int i=>exact aB _ i
  |str l=>exact aK _ l
  |tup l=>exact dX d l (Bp aD) ap
  |_=>exact cH aD
theorem BL{d:ā}{l:HO B}(h:fv (d+1) (.tup l)=true):∀v∈l,fv d v=true:=d'.mp h
theorem Ck{d:ā}{k:B}(h:eU d k=true):fv d k=true:=J3 (M:=λd k=>fv d k=true) (λd _=>by induction d using Nat.casesOn<;>rfl) (λd _=>by induction d using Nat.casesOn<;>rfl) (λ_ _ aj ap=>d'.mpr λv af=>ap v<|aj v af) d k h
theorem BH{d n:ā}{k:B}(h:fv d k=true)(am:d<=n):fv n k=true:=by
 induction n generalizing d k with
 |zero=>cases Nat.le_zero.mp am;exact h
 |succ n ap=>
  induction d using Nat.casesOn with
  |zero=>induction k using B.casesOn<;>first|rfl|exact cH h
  |succ d=>induction k using B.casesOn with
   |tup l=>exact d'.mpr λv af=>ap (BL h v af)<|uq am
   |none=>rfl
   |int=>rfl
   |str=>rfl
   |_=>exact cH h
theorem KQ{f:B->B->Z5 ZI}:∀{l m:HO B},(∀v∈l,∀u∈m,f v u=some (cO<|v=u))->jY f l m=some (cO<|l=m):=by
 intro l;induction l with
 |nil=>
  intro m _;induction m using List.casesOn with
  |nil=>exact bI some (wp rfl).symm
  |cons=>exact bI some (q3 λe=>(nomatch e)).symm
 |cons v r ap=>
  intro m h;induction m using List.casesOn with
  |nil=>exact bI some (q3 λe=>(nomatch e)).symm
  |cons u t=>show((f v u).bind λx=>(jY f r t).map λy=>x&&y)=_;rw[h v (.head _) u<|.head _,ap λv af u a4=>h v (.tail _ af) u<|.tail _ a4];exact bI some<|Uh.trans<|rE ⟨λh=>by rw[h.1,h.2],tJ⟩
theorem mi{a b:B}(h:a=b->False):some false=some (cO<|a=b):=bI some (q3 h).symm
def bZ (v:B):ZI:=match v with|.none=>true|.int _=>true|.str _=>true|.tup _=>true|_=>false
theorem yl{n:ā}{v:B}(h:fv n v=true):bZ v=true:=by induction v using B.casesOn<;>first|rfl|(induction n using Nat.casesOn<;>exact cH h)
theorem ED{g:HO B->HO B->Z5 ZI}{x y:B}(aA:bZ x=true)(a1:bZ y=true):mf g x y=some (cO<|x=y)\/∃l m,x=.tup l/\y=.tup m:=by
 induction x using B.casesOn with
 |none=>induction y using B.casesOn with
  |none=>exact .inl<|bI some (wp rfl).symm
  |int=>exact .inl<|mi λe=>mx e rfl
  |str=>exact .inl<|mi λe=>mx e rfl
  |tup=>exact .inl<|mi λe=>mx e rfl
  |_=>exact cH a1
 |int=>induction y using B.casesOn with
  |int=>exact .inl<|bI some<|(E6 _ _).trans<|rE ⟨bI _,B.int.inj⟩
  |none=>exact .inl<|mi λe=>mx e rfl
  |str=>exact .inl<|mi λe=>mx e rfl
  |tup=>exact .inl<|mi λe=>mx e rfl
  |_=>exact cH a1
 |str=>induction y using B.casesOn with
  |str=>exact .inl<|bI some<|(E6 _ _).trans<|rE ⟨bI _,B.str.inj⟩
  |int=>exact .inl<|mi λe=>mx e rfl
  |none=>exact .inl<|mi λe=>mx e rfl
  |tup=>exact .inl<|mi λe=>mx e rfl
  |_=>exact cH a1
 |tup=>induction y using B.casesOn with
  |tup=>exact .inr ⟨_,_,rfl,rfl⟩
  |int=>exact .inl<|mi λe=>mx e rfl
  |str=>exact .inl<|mi λe=>mx e rfl
  |none=>exact .inl<|mi λe=>mx e rfl
  |_=>exact cH a1
 |_=>exact cH aA
theorem yW{n d:ā}{x y:B}(aA:fv d x=true)(a1:fv d y=true)(am:d<=n):g0 n x y=some (cO<|x=y):=by
 replace aA:=BH aA am;replace a1:=BH a1 am;clear am;induction n generalizing x y with
 |zero=>
  rcases ED (yl aA) (yl a1)with e|⟨l,m,rfl,rfl⟩
  .exact e
  .exact cH aA
 |succ n ap=>
  rcases ED (yl aA) (yl a1)with e|⟨l,m,rfl,rfl⟩
  .exact e
  .exact(KQ λv af u a4=>ap (BL aA v af)<|BL a1 u a4).trans<|bI some<|rE ⟨bI _,B.tup.inj⟩
theorem J2{x:B}(aA:fv 16 x=true){l:HO B}(h:∀a∈l,fv 16 a=true):hN x l=some (cO<|x∈l):=by
 induction l with
 |nil=>exact bI some (q3 λe=>(nomatch e)).symm
 |cons y r ap=>show(g0 16 y x).bind _=_;rw[yW (h y<|.head _) aA<|dy _,ap λa ak=>h a<|.tail _ ak];exact bI some (PS.trans<|rE<|by rw[ew,eq_comm])
section
variable{av:Type}{f:av->B}{b:av->av->ZI}{ne R:av->av->Prop}(aD:∀x y,ne x y->qe (f x) (f y)=some (b x y))(G:∀x y,b x y=true->R x y)(E:∀x y,ne x y->b x y=false->R y x)(aC:∀x y z,b x y=true->R y z->R x z)
include aD G E aC
theorem KV(x:av){cg:HO av}(h:cg.Pairwise R)(m:∀y∈cg,ne x y):∃c6:HO av,qw (f x) (cg.map f)=some (c6.map f)/\c6.Pairwise R/\c6.Perm (x::cg):=by
 induction cg with
 |nil=>exact⟨[x],rfl,List.pairwise_singleton _ _,.refl _⟩
 |cons y r ap=>
  obtain⟨c3,bh⟩:=sa.mp h;show∃c6:HO av,(match qe (f x) (f y)with|some true=>some (f x::f y::r.map f)|some false=>(qw (f x)<|r.map f).map (f y::·)|none=>none)=some (c6.map f)/\_;rw[aD x y<|m y<|.head _];induction c:b x y using Bool.casesOn with
  |true=>
   refine⟨x::y::r,rfl,sa.mpr ⟨λz hz=>?_,h⟩,.refl _⟩;cases hz with
   |head=>exact G x y c
   |tail _ hz=>exact aC x y z c<|c3 z hz
  |false=>
   obtain⟨c6,e,ae,aN⟩:=ap bh λz hz=>m z<|.tail _ hz;rw[e];refine⟨y::c6,rfl,sa.mpr ⟨λz hz=>?_,ae⟩,(aN.cons y).trans<|.swap x y r⟩;cases aN.mem_iff.mp hz with
   |head=>exact E x y (m y<|.head _) c
   |tail _ hz=>exact c3 z hz
theorem vu{bK:HO av}(h:bK.Pairwise ne):∃cQ:HO av,iZ (bK.map f)=some (cQ.map f)/\cQ.Pairwise R/\cQ.Perm bK:=by
 induction h with
 |nil=>exact⟨[],rfl,.nil,.refl _⟩
 |cons h _ ap=>obtain⟨cQ,e,ae,aN⟩:=ap;obtain⟨c6,bz,hO,kz⟩:=KV aD G E aC _ ae λy a1=>h y<|aN.mem_iff.mp a1;exact⟨c6,(bI (Option.bind · (qw<|f _)) e).trans bz,hO,kz.trans<|aN.cons _⟩
end
theorem GZ{av:Type}{R:av->av->Prop}{a b:HO av}(no:∀x y,R x y->R y x->False)(ak:a.Pairwise R)(aw:b.Pairwise R)(h:∀p,p∈a↔p∈b):a=b:=have b7:∀{x y:av},R x y->x≠y:=λr e=>(by subst e;exact no _ _ r r);List.Perm.eq_of_pairwise (λx y _ _ p q=>(no x y p q).elim) ak aw<|(List.perm_ext_iff_of_nodup (ak.imp b7)<|aw.imp b7).mpr h
noncomputable abbrev L (n:Ă):a2:=.k<|.int n
noncomputable abbrev aE:a2:=.v 0
noncomputable abbrev aQ:a2:=.v 1
noncomputable abbrev aZ:a2:=.v 2
noncomputable abbrev bq:a2:=.v 3
noncomputable abbrev bN:a2:=.v 4
noncomputable abbrev c5:a2:=.v 5
noncomputable abbrev dO:a2:=.v 6
noncomputable abbrev fo:a2:=.v 7
noncomputable abbrev f5:a2:=.v 8
noncomputable abbrev gn:a2:=.v 9
noncomputable abbrev mO:a2:=.v 10
noncomputable abbrev nk:a2:=.v 11
noncomputable abbrev kA:a2:=.v 12
noncomputable abbrev ow:a2:=.v 13
noncomputable abbrev n3:a2:=.v 14
noncomputable abbrev pA:a2:=.v 15
noncomputable abbrev qS:a2:=.v 16
noncomputable abbrev uj:a2:=.v 17
noncomputable abbrev uA:a2:=.v 18
noncomputable abbrev yU:a2:=.v 19
noncomputable abbrev IR:a2:=.v 20
noncomputable abbrev Yj:a2:=.v 21
noncomputable abbrev Fs:a2:=.v 22
noncomputable abbrev LF:a2:=.v 23
noncomputable abbrev xL:a2:=.v 24
noncomputable abbrev U3:a2:=.v 25
noncomputable abbrev z0:a2:=.v 26
noncomputable abbrev bp (l:HO ā):a2:=.k<|.str l
def xt:bS:=⟨1,2,[],[.jq aE 0<|.lst [],.jq aE 1<|.bb [],.jq aE 2<|.lst [.k .none],.jq aE 3<|.lst [],.jq aE 4<|.lst [],.jq aE 5<|.lst [],.jq aE 6<|.bb [],.jq aE 7<|.bb [],.fW aE 8<|L 0,.fW aE 9<|L 0,.for false [1] (.k<|.tup [.tup [.int 1,.str [97,110,121]],.tup [.int 1,.str [117,110,107,110,111,119,110]],.tup [.int 1,.str [110,101,118,101,114]],.tup [.int 1,.str [118,111,105,100]],.tup [.int 1,.str [117,110,100,101,102,105,110,101,100]],.tup [.int 1,.str [110,117,108,108]],.tup [.int 1,.str [115,116,114,105,110,103]],.tup [.int 1,.str [110,117,109,98,101,114]],.tup [.int 2,.int 0,.int 0],.tup [.int 2,.int 1,.int 0],.tup [.int 1,.str [111,98,106,101,99,116]],.tup [.int 8,.tup [],.tup [],.tup [],.tup [],.tup [],.int 0],.tup [.int 6,.tup [.int 8,.int 9]],.tup [.int 1,.str [101,114,114,111,114]],.tup [.int 2,.int 0,.int 1],.tup [.int 2,.int 1,.int 1]]) [.ex<|.cR aE 0 [aQ]]]⟩
def Vh:bS:=⟨2,3,[],[.iff (.cmp aQ [(.isin,(.at aE 1))]) [.ret<|.ao (.at aE 1) aQ] [],.set 2<|.bi .len [.at aE 0],.m8 (.at aE 0) aQ,.nq (.at aE 1) aQ aZ,.ret aZ]⟩
def K3:bS:=⟨4,4,[],[.fW aE 10 aQ,.fW aE 11 aZ,.fW aE 12 bq,.fW aE 13<|.tup [],.fW aE 14<|.k<|.int<|-1,.fW aE 15<|.tup [],.fW aE 16<|.k<|.int<|-1,.fW aE 17<|L 0,.fW aE 18<|.k<|.bool false,.jq aE 19<|.lst [],.jq aE 20<|.lst [],.fW aE 21<|L 0,.fW aE 22<|L 0,.fW aE 23<|bp [],.fW aE 24<|L 0]⟩
def UW:bS:=⟨3,3,[.int 0],[.ret<|.cR aE 0 [.tup [L 3,aQ,aZ]]]⟩
def Ps:bS:=⟨3,3,[.int 0],[.ret<|.cR aE 0 [.tup [L 11,aQ,aZ]]]⟩
def Pe:bS:=⟨2,4,[],[.set 2<|.k<|.int<|-1,.for false [3] (.ey (L 0)<|.bi .len [aE]) [.iff (.cmp (.ao (.ao aE bq)<|L 1) [(.isin,aQ)]) [.set 2 bq] []],.ret aZ]⟩
def NA:bS:=⟨2,7,[],[.set 2<|.call 5 [aQ,.tup [L 0]],.own 3<|.lst [],.for false [4] (.ey (L 0)<|.bi .len [aQ]) [.ho [5,6]<|.ao aQ bN,.iff (.an [.cmp dO [(.eq,L 1)],.cmp bN [(.lt,aZ)]]) [.app 3<|.tup [.call 22 [aE,c5],L 0]] [.app 3<|.tup [c5,dO]]],.a5 3,.ret bq]⟩
def R':bS:=⟨3,8,[],[.set 3<|.k<|.int<|-1,.for false [4] (.ey (L 0)<|.bi .len [aQ]) [.iff (.an [.cmp bq [(.lt,L 0)],.cmp (.ao (.ao aQ bN)<|L 1) [(.eq,L 2)]]) [.set 3 bN] []],.iff (.or [.cmp bq [(.lt,L 0)],.cmp aZ [(.le,bq)]]) [.ret aQ] [],.own 5<|.lst [],.for true [6,7] .bad [.app 5<|.ite (.cmp fo [(.eq,L 1)]) (.call 22 [aE,dO]) dO],.a5 5,.ret<|.bin .add (.bin .add .bad<|.lst [.tup [.call 20 [aE,c5],L 2]]) .bad]⟩
def MI:bS:=⟨3,7,[.int 0],[.set 3<|.comp (.tup [c5,dO]) true [5,6] aQ [],.iff (.cmp (.call 5 [bq,.tup [L 3]]) [(.lt,L 0)]) [.set 4<|.call 5 [bq,.tup [L 2,L 1]],.set 3<|.call 7 [aE,.call 6 [aE,bq],bN],.iff (.an [.cmp (.bi .len [bq]) [(.eq,L 1)],.cmp (.ao (.ao bq<|L 0)<|L 1) [(.eq,L 2)]]) [.ret<|.call 4 [aE,.ao (.ao bq<|L 0)<|L 0,aZ]] []] [],.ret<|.cR aE 0 [.tup [L 12,.bi .tuple [bq],aZ]]]⟩
def VP:bS:=⟨1,4,[],[.own 1<|.bb [],.for false [2] aE [.jC 1 (.ao aZ<|L 0) aZ],.a5 1,.ret<|.bi .tuple [.comp (.ao aQ bq) false [3] (.bi .sorted [aQ]) []]]⟩
def Tc:bS:=⟨7,7,[.tup [],.tup [],.tup [],.tup [],.int 0],[.ret<|.cR aE 0 [.tup [L 8,.call 9 [aQ],.bi .tuple [aZ],.bi .tuple [bq],bN,c5,dO]]]⟩
def Wz:bS:=⟨2,2,[],[.ret<|.cR aE 0 [.tup [L 8,.tup [],.tup [aQ],.tup [],.tup [],.tup [],L 0]]]⟩
def T':bS:=⟨4,5,[.int<|-1,.int<|-1],[.set 4<|.bi .len [.at aE 3],.m8 (.at aE 3) aZ,.m8 (.at aE 4) bq,.m8 (.at aE 5) aQ,.ret<|.cR aE 0 [.tup [L 10,bN]]]⟩
def TK:bS:=⟨3,4,[],[.set 3<|.new 1 [.bi .len [.at aE 2],aQ,aZ],.m8 (.at aE 2) bq,.ret bq]⟩
def Og:bS:=⟨2,3,[],[.iff (.cmp aQ [(.eq,L 2)]) [.ret<|.tup []] [],.set 2<|.ao (.at aE 0) aQ,.iff (.cmp (.ao aZ<|L 0) [(.eq,L 6)]) [.ret<|.ao aZ<|L 1] [],.ret<|.tup [aQ]]⟩
def Pq:bS:=⟨1,2,[],[.set 1<|.ao aE<|L 0,.iff (.or [.cmp aQ [(.eq,L 3)],.cmp aQ [(.eq,L 18)]]) [.ret<|L 6] [],.iff (.cmp aQ [(.eq,L 4)]) [.ret<|L 7] [],.iff (.cmp aQ [(.eq,L 5)]) [.ret<|.ite (.bi .p0 [.ao aE<|L 3]) (L 6)<|L 7] [],.ret<|.k<|.int<|-1]⟩
def Ur:bS:=⟨2,3,[],[.set 2<|.ao (.at aE 0) aQ,.iff (.an [.cmp (.ao aZ<|L 0) [(.isin,(.k<|.tup [.int 2,.int 3,.int 4,.int 5,.int 8]))],.cmp (.ao aZ<|.k<|.int<|-1) [(.eq,L 1)]]) [.ret<|.bi .get [.at aE 1,.bin .add (.aL aZ none (some<|-1) none)<|.tup [L 0],.k<|.int<|-1]] [],.ret<|.k<|.int<|-1]⟩
def Th:bS:=⟨1,1,[],[.iff (.an [.or [.cmp (L 8) [(.isin,aE)],.cmp (L 14) [(.isin,aE)]],.or [.cmp (L 9) [(.isin,aE)],.cmp (L 15) [(.isin,aE)]]]) [.nq aE (L 8)<|L 1,.nq aE (L 9)<|L 1] []]⟩
def YV:bS:=⟨3,3,[],[.iff (.cmp (.call 16 [aE,aZ]) [(.isin,aQ)]) [.ret<|.k<|.bool false] [],.ret<|.cmp (.call 15 [.ao (.at aE 0) aZ]) [(.fV,aQ)]]⟩
def Yd:bS:=⟨1,2,[],[.for false [1] (.tup [L 0,L 13,L 1]) [.iff (.cmp aQ [(.isin,aE)]) [.ret aQ] []],.ret<|.k<|.int<|-1]⟩
def SA:bS:=⟨2,8,[],[.own 2<|.bb [],.for false [3] aQ [.for false [4] (.call 14 [aE,bq]) [.jC 2 bN<|L 1]],.a5 2,.set 5<|.call 19 [aZ],.iff (.cmp c5 [(.ge,L 0)]) [.ret c5] [],.a5 2,.ex<|.call 17 [aZ],.a5 2,.set 6<|.comp fo false [7] (.bi .sorted [aZ]) [.call 18 [aE,aZ,fo]],.iff (.not dO) [.ret<|L 2] [],.iff (.cmp (.bi .len [dO]) [(.eq,L 1)]) [.ret<|.ao dO<|L 0] [],.iff (.cmp (.bi .len [dO]) [(.gt,L 400)]) [.bad] [],.ret<|.cR aE 0 [.tup [L 6,.bi .tuple [dO]]]]⟩
def XA:bS:=⟨3,4,[],[.ret<|.call 20 [aE,.comp bq false [3] (.call 14 [aE,aQ]) [.cmp bq [(.fV,aZ)]]]]⟩
def TP:bS:=⟨2,2,[],[.ret<|.call 20 [aE,.tup [aQ,L 4]]]⟩
def Rj:bS:=⟨2,5,[],[.set 2<|.call 25 [aE,.ao aQ<|L 0],.set 3<|.bi .all [.comp (.cmp (.call 25 [aE,bN]) [(.eq,aZ)]) false [4] aQ []],.ret<|.ite bq aZ<|L 0]⟩
def PC:bS:=⟨2,5,[],[.set 2<|L 0,.for false [3] aQ [.set 4<|.call 25 [aE,bq],.iff (.an [.cmp bN [(.ne,L 0)],.cmp bN [(.ne,L 7)]]) [.ret bN] [],.iff (.an [.cmp bN [(.eq,L 7)],.cmp bq [(.ne,L 11)]]) [.set 2<|L 7] []],.ret aZ]⟩
def Zo:bS:=⟨2,5,[],[.set 2<|.ao (.at aE 0) aQ,.set 3<|.ao aZ<|L 0,.iff (.cmp bq [(.eq,L 1)]) [.ret<|.bi .get [.k<|.bb [((.int 3),(.int 6)),((.int 4),(.int 5)),((.int 5),(.int 4)),((.int 6),(.int 1)),((.int 7),(.int 2)),((.int 10),(.int 7))],aQ,L 0]] [],.iff (.cmp bq [(.eq,L 2)]) [.ret<|L 3] [],.iff (.cmp bq [(.isin,(.k<|.tup [.int 8,.int 9,.int 11,.int 12,.int 13]))]) [.ret<|L 7] [],.iff (.cmp bq [(.eq,L 6)]) [.ret<|.call 23 [aE,.ao aZ<|L 1]] [],.iff (.cmp bq [(.eq,L 7)]) [.ret<|.call 24 [aE,.ao aZ<|L 1]] [],.set 4<|.call 15 [aZ],.iff (.cmp bN [(.lt,L 0)]) [.ret<|L 0] [],.ret<|.ite (.cmp bN [(.eq,L 6)]) (L 1)<|L 2]⟩
def UV:bS:=⟨2,4,[],[.for false [2] (.ey (L 0)<|L 40) [.iff (.cmp aQ [(.lt,L 0)]) [.bad] [],.set 3<|.ao (.at aE 0) aQ,.iff (.cmp (.ao bq<|L 0) [(.eq,L 8)]) [.ret aQ] [],.iff (.cmp (.ao bq<|L 0) [(.eq,L 13)]) [.ret<|.call 11 [aE,aQ]] [],.iff (.cmp (.ao bq<|L 0) [(.isin,(.k<|.tup [.int 1,.int 2,.int 3,.int 4,.int 5]))]) [.ret<|L 11] [],.iff (.or [.cmp (.ao bq<|L 0) [(.ne,L 9)],.ao bq<|L 2,.at (.ao (.at aE 2)<|.ao bq<|L 1) 15]) [.bad] [],.set 1<|.at (.ao (.at aE 2)<|.ao bq<|L 1) 14],.bad]⟩
def NH:bS:=⟨3,3,[],[.ret<|.k .none]⟩
def N1:bS:=⟨2,2,[],[.ret<|.call 26 [.at aE 25,aQ]]⟩
def O7:bS:=⟨1,2,[],[.iff (.cmp (.ao aE<|L 0) [(.eq,L 11)]) [.ret<|L 0] [],.for false [1] (.ey (L 0)<|.bi .len [.ao aE<|L 1]) [.iff (.cmp (.ao (.ao (.ao aE<|L 1) aQ)<|L 1) [(.isin,(.tup [L 2,L 3]))]) [.ret aQ] []],.ret<|.bi .len [.ao aE<|L 1]]⟩
def OX:bS:=⟨2,3,[],[.for false [2] (.ao aE<|L 1) [.iff (.cmp (.ao aZ<|L 0) [(.eq,aQ)]) [.ret aZ] []],.ret<|.k .none]⟩
def Lz:bS:=⟨1,3,[],[.set 1<|.bi .all [.comp (.cmp (bp [48]) [(.le,aZ),(.le,bp [57])]) false [2] aE []],.ret<|.or [.cmp aE [(.eq,bp [48])],.an [.cmp aE [(.ne,bp [])],.cmp (.ao aE<|L 0) [(.ne,bp [48])],aQ]]]⟩
def Uu:bS:=⟨3,5,[],[.set 1<|.cR aE 6 [aQ],.set 3<|.ao (.at (.at aE 25) 0) aQ,.iff (.or [.cmp (.ao bq<|L 0) [(.eq,L 11)],.cmp (.ao bq<|L 0) [(.eq,L 12)]]) [.set 4<|.cR aE 1 [aQ,aZ]] [.set 4<|.call 30 [.ao (.at (.at aE 25) 0)<|.cR aE 2 [aQ],aZ]],.ret<|.ite (.cmp bN [(.is,(.k .none))]) (.k .none)<|.tup [aZ,.cR aE 6 [.ao bN<|L 1],.ao bN<|L 2,.ao bN<|L 3]]⟩
def VW:bS:=⟨2,2,[],[.ret<|.ite (.bin .band (.ao aQ<|L 2)<|L 1) (.call 22 [aE,.ao aQ<|L 1])<|.ao aQ<|L 1]⟩
def MO:bS:=⟨2,6,[],[.set 2<|.ao (.at aE 0) aQ,.iff (.cmp (.ao aZ<|L 0) [(.isin,(.k<|.tup [.int 10,.int 14,.int 15,.int 16,.int 17,.int 19]))]) [.ret<|.k<|.bool true] [],.iff (.or [.cmp (.ao aZ<|L 0) [(.eq,L 6)],.cmp (.ao aZ<|L 0) [(.eq,L 7)]]) [.for false [3] (.ao aZ<|L 1) [.iff (.call 34 [aE,bq]) [.ret<|.k<|.bool true] []]] [],.iff (.cmp (.ao aZ<|L 0) [(.eq,L 12)]) [.for false [4] (.ao aZ<|L 1) [.iff (.cmp (.ao bN<|L 1) [(.eq,L 3)]) [.ret<|.k<|.bool true] []]] [],.iff (.cmp (.ao aZ<|L 0) [(.eq,L 18)]) [.for false [5] (.ao aZ<|L 2) [.iff (.call 34 [aE,c5]) [.ret<|.k<|.bool true] []]] [],.ret<|.k<|.bool false]⟩
def M5:bS:=⟨2,3,[],[.set 2<|.ao (.at aE 0) aQ,.iff (.cmp (.ao aZ<|L 0) [(.eq,L 3)]) [.ret<|.ao aZ<|L 1] [],.iff (.cmp (.ao aZ<|L 0) [(.eq,L 4)]) [.ret<|.bi .str [.ao aZ<|L 1]] [],.iff (.cmp (.ao aZ<|L 0) [(.eq,L 5)]) [.ret<|.bi .str [.ao aZ<|L 3]] [],.iff (.cmp (.ao aZ<|L 0) [(.eq,L 2)]) [.ret<|.ite (.cmp (.ao aZ<|L 1) [(.eq,L 1)]) (bp [116,114,117,101])<|bp [102,97,108,115,101]] [],.iff (.cmp aQ [(.eq,L 5)]) [.ret<|bp [110,117,108,108]] [],.iff (.cmp aQ [(.eq,L 4)]) [.ret<|bp [117,110,100,101,102,105,110,101,100]] [],.ret<|.k .none]⟩
def UP:bS:=⟨2,2,[],[.iff (.cmp (.ao (.ao (.at aE 0) aQ)<|L 0) [(.isin,(.tup [L 3,L 4,L 5]))]) [.ret<|.call 35 [aE,aQ]] [],.ret<|.k .none]⟩
def KE:bS:=⟨1,1,[],[.ret<|.cmp (.bin .band (.ao aE<|L 2)<|.bin .add (L 8)<|L 16) [(.eq,L 0)]]⟩
def NF:bS:=⟨1,1,[],[.jq aE 0<|.bb [],.jq aE 5<|.lst [],.fW aE 26<|.tup [],.fW aE 27<|.tup []]⟩
def Zk:bS:=⟨5,7,[],[.iff (.cmp aZ [(.fV,(.at aE 0))]) [.m8 (.at aE 5) aZ,.nq (.at aE 0) aZ<|.tup [bq,bN],.ret<|.k .none] [],.set 5<|.ao (.at aE 0) aZ,.own 6<|.lst [.ao c5<|L 0,bq],.iff (.an [.cmp (.bin .band bN<|L 1) [(.ne,L 0)],.cmp (.bin .band (.ao c5<|L 1)<|L 1) [(.eq,L 0)]]) [.app 6<|L 4] [],.a5 6,.nq (.at aE 0) aZ<|.tup [.call 20 [aQ,dO],.ao c5<|L 1]]⟩
def P6:bS:=⟨5,7,[],[.set 5<|.ite aZ (.at aE 27)<|.at aE 26,.set 6<|.tup [bq,bN],.iff (.cmp c5 [(.ne,(.tup []))]) [.set 6<|.tup [.call 20 [aQ,.lst [.ao c5<|L 0,bq]],.ite (.or [.cmp (.ao c5<|L 1) [(.eq,L 1)],.cmp bN [(.eq,L 1)]]) (L 1)<|L 0]] [],.iff aZ [.fW aE 27 dO] [.fW aE 26 dO]]⟩
def WC:bS:=⟨2,4,[],[.set 2<|.comp (.tup [bq,.ao (.ao (.at aE 0) bq)<|L 0,.ao (.ao (.at aE 0) bq)<|L 1,L 0]) false [3] (.at aE 5) [],.ret<|.call 10 [aQ,aZ,.tup [],.tup [],.at aE 26,.at aE 27,L 0]]⟩
def LO:bS:=⟨2,7,[],[.set 2<|.k<|.bool false,.for false [3] (.call 14 [aE,aQ]) [.set 4<|.ao (.at aE 0) bq,.set 5<|.ite (.cmp (.ao bN<|L 0) [(.eq,L 19)]) (.ao bN<|L 2)<|.tup [bq],.iff (.bi .any [.comp (.call 34 [aE,dO]) false [6] c5 []]) [.ret<|.k<|.bool false] [],.set 2<|.or [aZ,.cmp (.ao bN<|L 0) [(.eq,L 19)]]],.ret aZ]⟩
def PK:bS:=⟨2,3,[],[.set 2<|.at aE 25,.iff (.call 42 [aZ,aQ]) [.ret<|.cR aZ 0 [.tup [L 7,.tup [aQ,.call 20 [aZ,.lst [L 11,L 5]]]]]] [],.set 1<|.cR aE 6 [aQ],.ret<|.ite (.cmp aQ [(.eq,L 4)]) (L 2)<|.call 21 [aZ,aQ,.lst [L 4]]]⟩
def Mx:bS:=⟨2,2,[],[.iff (.cmp aQ [(.eq,L 4)]) [.ret aQ] [],.ret<|.call 21 [aE,aQ,.lst [L 4]]]⟩
def Na:bS:=⟨2,2,[],[.iff (.cmp aE [(.eq,L 1)]) [.ret<|L 1] [],.iff (.cmp aE [(.eq,L 2)]) [.ret<|L 0] [],.ret aQ]⟩
def XO:bS:=⟨3,3,[],[.ret<|.cR aE 8 [.ao aQ<|L 4,.bb [((.ao aQ<|L 1),aZ)]]]⟩
def ML:bS:=⟨2,2,[],[.ret<|.or [.cmp (.ao aE<|L 5) [(.eq,L 1)],.an [.cmp (.ao aE<|L 5) [(.eq,L 0)],aQ]]]⟩
def Q8:bS:=⟨5,7,[],[.set 5<|.at aE 25,.set 6<|.ite (.cmp bq [(.ge,L 0)]) bq<|.call 46 [aE,aQ,aZ],.iff (.call 47 [aQ,bN]) [.iff (.an [.cmp bq [(.ge,L 0)],bN]) [.ret dO] [],.ret<|.call 44 [c5,dO]] [],.iff bN [.ret<|.call 43 [aE,dO]] [],.ret dO]⟩
def Lf:bS:=⟨3,6,[],[.set 3<|.ite (.cmp aQ [(.is,(.k .none))]) (L 0)<|.ao aQ<|L 2,.set 4<|L 0,.iff (.call 47 [aE,.cmp (.bin .band bq<|L 1) [(.ne,L 0)]]) [.set 4<|L 1] [],.set 5<|.ite (.cmp (.bin .band bq<|L 2) [(.ne,L 0)]) (L 1)<|L 0,.iff (.cmp (.call 45 [.ao aE<|L 6,c5]) [(.eq,L 1)]) [.set 4<|.bin .add bN<|L 2] [],.ret<|.ite aZ (.bin .add bN<|.bin .band bq<|L 4) bN]⟩
def LA:bS:=⟨3,4,[],[.iff (.cmp (.ao aQ<|L 3) [(.eq,(.k<|.int<|-1))]) [.ret<|.tup [aZ]] [],.set 3<|.cR aE 6 [.cR aE 8 [.ao aQ<|L 3,.bb [((.ao aQ<|L 1),aZ)]]],.iff (.call 34 [.at aE 25,bq]) [.ret<|.k .none] [],.ret<|.call 14 [.at aE 25,bq]]⟩
def Mg:bS:=⟨4,4,[],[.fW aE 28 aQ,.fW aE 29 aZ,.fW aE 1 bq]⟩
def Pj:bS:=⟨6,13,[],[.set 6<|.at aE 25,.set 7<|.call 36 [dO,bN],.set 8<|.k<|.int<|-1,.set 9<|.k<|.bool false,.iff (.cmp (.at bq 29) [(.oP,(.k .none))]) [.set 9<|.cmp (.bin .band (.ao (.at bq 29)<|L 2)<|L 1) [(.ne,L 0)],.set 8<|.ite c5 (.ao (.at bq 29)<|L 1)<|.k<|.int<|-1] [.iff (.cmp (.at bq 1) [(.ne,(.tup []))]) [.set 8<|.ite c5 (.ao (.at bq 1)<|L 0)<|.k<|.int<|-1] []],.iff (.cmp fo [(.oP,(.k .none))]) [.set 10<|.call 48 [aE,aQ,.at bq 28,f5,gn],.ex<|.cR aZ 3 [dO,fo,mO,.call 49 [aQ,.at bq 29,c5]],.ret<|.k .none] [],.iff (.an [.cmp bN [(.fV,(.tup [L 6,L 7,L 0]))],.cmp .bad [(.ne,L 18)]]) [.ret<|.k .none] [],.set 11<|.ite (.cmp f5 [(.ge,L 0)]) f5<|.call 46 [aE,aQ,.at bq 28],.iff (.or [.cmp (.ao aQ<|L 5) [(.eq,L 1)],.an [.cmp f5 [(.ge,L 0)],gn]]) [.set 11<|.call 20 [dO,.lst [nk,L 4]]] [],.set 12<|.ite (.cmp (.at bq 1) [(.ne,(.tup []))]) (.ao (.at bq 1)<|L 1)<|L 0,.ex<|.cR aZ 4 [dO,.cmp bN [(.eq,L 7)],nk,.call 45 [.ao aQ<|L 6,kA]]]⟩
def Ql:bS:=⟨4,8,[],[.set 4<|.new 5 [],.for false [5] aZ [.set 6<|.call 50 [aE,aQ,.at c5 28],.iff (.cmp dO [(.is,(.k .none))]) [.ret<|.cR (.at aE 25) 0 [aQ]] [],.for false [7] dO [.ex<|.call 52 [aE,aQ,bN,c5,fo,bq]]],.ret<|.cR bN 5 [.at aE 25]]⟩
def Nx:bS:=⟨2,6,[],[.set 2<|.at aE 25,.own 3<|.lst [],.set 4<|.ao (.at aZ 0)<|.cR aE 2 [aQ],.for false [5] (.ao bN<|L 1) [.iff (.call 37 [c5]) [.app 3<|.new 6 [.call 3 [aZ,.ao c5<|L 0],c5,.tup []]] []],.iff (.cmp (.ao bN<|L 4) [(.ne,(.tup []))]) [.app 3<|.new 6 [L 6,.k .none,.ao bN<|L 4]] [],.iff (.cmp (.ao bN<|L 5) [(.ne,(.tup []))]) [.app 3<|.new 6 [L 7,.k .none,.ao bN<|L 5]] [],.a5 3,.ret bq]⟩
def Nj:bS:=⟨4,7,[],[.set 4<|.at aE 25,.set 5<|.ao (.at bN 0) aZ,.set 6<|.ite bq (.ao c5<|L 1)<|.call 46 [aE,aQ,L 7],.ret<|.call 4 [bN,.call 56 [aE,aQ,dO],.call 45 [.ao aQ<|L 6,.ao c5<|L 2]]]⟩
def WN:bS:=⟨3,3,[],[.iff (.cmp (.ao aQ<|L 5) [(.eq,L 1)]) [.ret<|.call 20 [.at aE 25,.lst [aZ,L 4]]] [],.iff (.cmp (.ao aQ<|L 5) [(.eq,L 2)]) [.ret<|.call 43 [aE,aZ]] [],.ret aZ]⟩
def Vd:bS:=⟨5,10,[],[.set 5<|.call 3 [.at aE 25,.bi .str [aZ]],.set 6<|.ite bN (.ao bq<|L 0)<|.k<|.int<|-1,.iff (.cmp (.ao bq<|L 1) [(.eq,L 2)]) [.set 7<|.ite bN dO<|.call 46 [aE,aQ,c5],.ret<|.tup [.call 56 [aE,aQ,fo],L 2]] [],.set 8<|.cmp (.ao bq<|L 1) [(.eq,L 1)],.set 9<|.ite (.call 47 [aQ,f5]) (L 1)<|L 0,.ret<|.tup [.call 48 [aE,aQ,c5,dO,f5],gn]]⟩
def Ln:bS:=⟨2,2,[],[.ret<|.cmp (.call 25 [aE,aQ]) [(.fV,(.tup [L 7,L 0]))]]⟩
def PV:bS:=⟨3,6,[],[.set 3<|.ao (.at (.at aE 25) 0) aZ,.iff (.call 58 [.at aE 25,aZ]) [.ret aZ] [],.iff (.cmp (.ao aQ<|L 3) [(.ne,(.k<|.int<|-1))]) [.ret<|L 11] [],.iff (.cmp (.ao bq<|L 0) [(.eq,L 11)]) [.ret<|.call 55 [aE,aQ,aZ,.k<|.bool false]] [],.iff (.cmp (.ao bq<|L 0) [(.eq,L 12)]) [.ret<|.call 60 [aE,aQ,bq]] [],.set 4<|.comp c5 false [5] (.call 54 [aE,aZ]) [.not (.call 61 [aE,c5])],.ret<|.call 53 [aE,aQ,bN,.k<|.bool false]]⟩
def U_:bS:=⟨3,8,[],[.own 3<|.lst [],.set 4<|.call 29 [aZ],.for false [5] (.ey (L 0)<|.bi .len [.ao aZ<|L 1]) [.set 6<|.ao (.ao aZ<|L 1) c5,.iff (.cmp c5 [(.lt,bN)]) [.app 3<|.call 57 [aE,aQ,c5,dO,.k<|.bool false]] [.set 7<|.call 56 [aE,aQ,.call 46 [aE,aQ,L 7]],.app 3<|.tup [fo,.ite (.cmp (.ao dO<|L 1) [(.eq,L 2)]) (L 2)<|L 0]]],.a5 3,.ret<|.call 8 [.at aE 25,.bi .tuple [bq],.call 45 [.ao aQ<|L 6,.ao aZ<|L 2]]]⟩
def R4:bS:=⟨2,4,[],[.iff (.cmp (.at aQ 29) [(.is,(.k .none))]) [.ret<|.k<|.bool false] [],.set 2<|.ao (.at aQ 29)<|L 0,.iff (.or [.cmp aZ [(.eq,bp [108,101,110,103,116,104])],.call 31 [aZ]]) [.ret<|.k<|.bool true] [],.for false [3] (.tup [.call 4 [.at aE 25,L 0,L 0],L 6,L 7]) [.iff (.cmp (.call 32 [aE,bq,aZ]) [(.oP,(.k .none))]) [.ret<|.k<|.bool true] []],.ret<|.k<|.bool false]⟩
def KI:bS:=⟨3,4,[],[.ret<|.bi .tuple [.comp (.call 66 [aE,bq,aZ]) false [3] aQ []]]⟩
def YI:bS:=⟨3,3,[],[.ret<|.ite (.cmp aQ [(.eq,(.tup []))]) (.tup [])<|.tup [.call 66 [aE,.ao aQ<|L 0,aZ],.ao aQ<|L 1]]⟩
def Ui:bS:=⟨3,8,[],[.set 3<|.bi .tuple [.comp (.tup [.ao fo<|L 0,.call 66 [aE,.ao fo<|L 1,aZ],.ao fo<|L 2,.ao fo<|L 3]) false [7] (.ao aQ<|L 1) []],.set 4<|.call 62 [aE,.ao aQ<|L 2,aZ],.set 5<|.call 62 [aE,.ao aQ<|L 3,aZ],.set 6<|.call 63 [aE,.ao aQ<|L 4,aZ],.ret<|.cR (.at aE 25) 0 [.tup [L 8,bq,bN,c5,dO,.call 63 [aE,.ao aQ<|L 5,aZ],.ao aQ<|L 6]]]⟩
def OS:bS:=⟨4,5,[],[.iff (.cmp (.ao aZ<|L 0) [(.eq,L 15)]) [.ret<|.cR aE 7 [.bin .add (.tup [L 15])<|.call 62 [aE,.aL aZ (some 1) none none,bq]]] [],.iff (.cmp (.ao aZ<|L 0) [(.eq,L 14)]) [.ret<|.cR aE 7 [.tup [L 14,.call 66 [aE,.ao aZ<|L 1,bq]]]] [],.iff (.cmp (.ao aZ<|L 0) [(.eq,L 18)]) [.ret<|.cR aE 7 [.tup [L 18,.ao aZ<|L 1,.call 62 [aE,.ao aZ<|L 2,bq]]]] [],.iff (.cmp (.ao aZ<|L 0) [(.eq,L 9)]) [.ret<|.cR (.at aE 25) 0 [.tup [L 9,.ao aZ<|L 1,.call 62 [aE,.ao aZ<|L 2,bq]]]] [],.iff (.cmp (.ao aZ<|L 0) [(.eq,L 19)]) [.ret<|.cR aE 7 [.tup [L 19,.ao aZ<|L 1,.call 62 [aE,.ao aZ<|L 2,bq]]]] [],.iff (.cmp (.ao aZ<|L 0) [(.eq,L 16)]) [.set 4 .bad,.ret<|.ite (.cmp (.bi .len [bN]) [(.gt,L 0)]) (.cR aE 9 [aZ,bN]) aQ] [],.ret aQ]⟩
def Pd:bS:=⟨3,4,[],[.iff (.or [.cmp aQ [(.lt,L 0)],.cmp (.bi .len [aZ]) [(.eq,L 0)]]) [.ret aQ] [],.set 3<|.ao (.at (.at aE 25) 0) aQ,.iff (.cmp (.ao bq<|L 0) [(.eq,L 10)]) [.ret<|.bi .get [aZ,.ao bq<|L 1,aQ]] [],.iff (.cmp (.ao bq<|L 0) [(.eq,L 6)]) [.ret<|.call 20 [.at aE 25,.call 62 [aE,.ao bq<|L 1,aZ]]] [],.iff (.cmp (.ao bq<|L 0) [(.eq,L 11)]) [.ret<|.call 4 [.at aE 25,.call 66 [aE,.ao bq<|L 1,aZ],.ao bq<|L 2]] [],.iff (.cmp (.ao bq<|L 0) [(.eq,L 12)]) [.ret .bad] [],.iff (.cmp (.ao bq<|L 0) [(.eq,L 8)]) [.ret<|.call 64 [aE,bq,aZ]] [],.iff (.cmp (.ao bq<|L 0) [(.eq,L 13)]) [.ret .bad] [],.ret<|.call 65 [aE,aQ,bq,aZ]]⟩
def Q7:bS:=⟨2,5,[],[.set 2<|.ao (.at aE 0)<|.ao aQ<|L 1,.iff (.cmp (.ao aQ<|L 1) [(.eq,L 0)]) [.ret<|L 0] [],.iff (.cmp (.ao aZ<|L 0) [(.ne,L 8)]) [.ret<|.cR aE 0 [aQ]] [],.set 3<|.call 30 [aZ,.call 36 [aE,.ao aQ<|L 2]],.iff (.cmp bq [(.oP,(.k .none))]) [.ret<|.call 33 [aE,bq]] [],.set 4<|.ite (.an [.cmp (.ao aQ<|L 2) [(.eq,L 7)],.cmp (.ao aZ<|L 5) [(.ne,(.tup []))]]) (.ao aZ<|L 5)<|.ao aZ<|L 4,.ret<|.ite (.cmp bN [(.eq,(.tup []))]) (L 13)<|.ao bN<|L 0]⟩
def LM:bS:=⟨2,2,[],[.iff (.cmp (.ao aQ<|L 0) [(.eq,L 15)]) [.ret<|.call 67 [.at aE 25,aQ]] [],.iff (.cmp (.ao aQ<|L 0) [(.eq,L 18)]) [.ret .bad] [],.ret<|.cR (.at aE 25) 0 [aQ]]⟩
def T0:bS:=⟨2,2,[],[.fW aE 25 aQ,.fW aE 30<|L 0,.fW aE 31<|L 200,.fW aE 32<|L 40]⟩
def WG:bS:=⟨2,3,[],[.set 2<|.ao (.at (.at aE 25) 0) aQ,.ret<|.ite (.or [.cmp (.ao aZ<|L 0) [(.eq,L 15)],.cmp (.ao aZ<|L 0) [(.eq,L 18)]]) (.call 68 [aE,aZ]) aQ]⟩
def Mp:bS:=⟨2,2,[],[.ret<|.call 68 [aE,aQ]]⟩
def NR:bS:=⟨3,3,[],[.ret<|.call 66 [aE,aQ,aZ]]⟩
def SV:bS:=⟨2,3,[],[.set 2<|.ao aE<|L 0,.nq aE (L 0)<|.bin .add aZ<|L 1,.ret<|.bin .mod (.bin .add (.ao (.ao aE<|L 1)<|.bin .mod aZ<|.bi .len [.ao aE<|L 1])<|.bin .mul (L 7)<|.bin .fdiv aZ<|.bi .len [.ao aE<|L 1]) aQ]⟩
def Se:bS:=⟨1,5,[],[.set 1<|.lst [.tup [bp [116],bp [97]],.k<|.tup [.str [119],.str [83]],.k<|.tup [.str [119],.str [117]],.tup [bp [35],L 0],.k<|.tup [.str [119],.str [78]],.tup [bp [119],bp [110]],.tup [bp [116],bp [98]],.tup [bp [35],L 1]],.own 2<|.lst [],.for false [3] (.ey (L 0)<|.ao (.lst [L 1,L 2,L 3,L 1,L 2,L 0])<|.call 73 [aE,L 6]) [.set 4<|.ao aQ<|.call 73 [aE,L 8],.iff (.cmp bN [(.fV,aZ)]) [.app 2 bN] []],.a5 2,.ret aZ]⟩
def Rz:bS:=⟨3,4,[],[.ret<|.call 20 [aE,.comp (.call 76 [aE,aQ,bq]) false [3] aZ []]]⟩
def Wq:bS:=⟨3,5,[],[.ho [3,4] aZ,.iff (.cmp bq [(.eq,bp [116])]) [.ret<|.cR aE 0 [.tup [L 3,bN,L 0]]] [],.iff (.cmp bq [(.eq,bp [35])]) [.ret<|.cR aE 0 [.tup [L 4,bN,L 0]]] [],.iff (.cmp bq [(.eq,bp [91])]) [.ret<|.cR aE 0 [.tup [L 11,.call 75 [aE,aQ,bN],L 0]]] [],.iff (.cmp bq [(.eq,bp [84])]) [.ret<|.cR aE 0 [.tup [L 15,aQ,.call 76 [aE,aQ,bN]]]] [],.ret<|.ao (.bb [((bp [117]),(L 4)),((bp [110]),(L 5)),((bp [83]),(L 6)),((bp [78]),(L 7))]) bN]⟩
def UC:bS:=⟨2,4,[],[.set 2<|.ao (.at aE 0) aQ,.iff (.cmp aQ [(.eq,L 2)]) [.ret<|.lst []] [],.ret<|.comp (.call 78 [aE,bq]) false [3] (.ite (.cmp (.ao aZ<|L 0) [(.eq,L 6)]) (.ao aZ<|L 1)<|.tup [aQ]) []]⟩
def N0:bS:=⟨2,3,[],[.set 2<|.ao (.at aE 0) aQ,.iff (.cmp (.ao aZ<|L 0) [(.eq,L 3)]) [.ret<|.tup [bp [116],.ao aZ<|L 1]] [],.iff (.cmp (.ao aZ<|L 0) [(.eq,L 4)]) [.ret<|.tup [bp [35],.ao aZ<|L 1]] [],.iff (.cmp (.ao aZ<|L 0) [(.eq,L 11)]) [.ret<|.tup [bp [91],.bi .tuple [.call 77 [aE,.ao aZ<|L 1]]]] [],.iff (.cmp (.ao aZ<|L 0) [(.eq,L 15)]) [.ret<|.tup [bp [84],.call 78 [aE,.ao aZ<|L 2]]] [],.ret<|.tup [bp [119],.bi .get [.bb [((L 4),(bp [117])),((L 5),(bp [110])),((L 6),(bp [83])),((L 7),(bp [78]))],aQ,bp [63]]]]⟩
def S1:bS:=⟨1,5,[],[.set 1<|.call 73 [aE,L 4],.set 2<|.call 73 [aE,L 4],.set 3<|.ite (.cmp aQ [(.eq,L 2)]) (.call 74 [aE])<|.lst [],.own 4<|.bb [],.iff (.cmp aQ [(.eq,L 3)]) [.jC 4 (bp [48])<|.call 74 [aE],.jC 4 (bp [97])<|.call 74 [aE],.jC 4 (bp [42])<|.bin .add (.bin .add (.call 74 [aE])<|.ao bN<|bp [48])<|.ao bN<|bp [97]] [],.a5 4,.ret<|.tup [aQ,aZ,bq,bN]]⟩
def B8:bS:=⟨2,7,[],[.ho [2,3,4,5] aE,.set 6 bN,.iff (.cmp aZ [(.eq,L 0)]) [.set 6<|.lst [.tup [bp [84],aQ]]] [],.iff (.cmp aZ [(.eq,L 1)]) [.set 6<|.lst [aQ]] [],.iff (.cmp aZ [(.eq,L 3)]) [.set 6<|.ite (.an [.cmp (.ao aQ<|L 0) [(.eq,bp [116])],.cmp (.ao aQ<|L 1) [(.isin,c5)]]) (.ao c5<|.ao aQ<|L 1)<|.ao c5<|bp [42]] [],.iff (.cmp (.bin .mod bq<|L 2) [(.eq,L 1)]) [.set 6<|.lst [.tup [bp [91],.bi .tuple [dO]]]] [],.ret<|.ite (.cmp bq [(.gt,L 1)]) (.bin .add dO<|.lst [.k<|.tup [.str [119],.str [117]]]) dO]⟩
def Uc:bS:=⟨4,11,[],[.ho [4,5,6,7] bq,.set 8 aZ,.iff (.cmp bN [(.eq,L 0)]) [.set 8<|.cR aE 0 [.tup [L 15,aQ,aZ]]] [],.iff (.cmp bN [(.eq,L 2)]) [.set 8<|.call 75 [aE,aQ,dO]] [],.iff (.cmp bN [(.eq,L 3)]) [.set 9<|.bi .tuple [.comp (.tup [mO,.call 75 [aE,aQ,.ao fo mO],L 0,L 0]) false [10] (.tup [bp [48],bp [97]]) []],.set 8<|.cR aE 0 [.tup [L 15,.cR aE 0 [.tup [L 8,gn,.tup [],.tup [],.tup [.call 75 [aE,aQ,.ao fo<|bp [42]],L 0],.tup [],L 0]],aZ]]] [],.iff (.cmp (.bin .mod c5<|L 2) [(.eq,L 1)]) [.set 8<|.cR aE 0 [.tup [L 11,f5,L 0]]] [],.ret<|.ite (.cmp c5 [(.gt,L 1)]) (.call 20 [aE,.tup [f5,L 4]]) f5]⟩
def Y3:bS:=⟨2,27,[],[.set 2<|.lst [bp [97],bp [108,101,110,103,116,104],bp [98],bp [48],bp [49,50],bp [48,49],bp [45,49]],.set 3<|.call 73 [aE,L 3],.own 4<|.lst [],.for false [5] (.ey (L 0)<|.ao (.lst [L 2,L 0,L 1,L 3,L 4])<|.call 73 [aE,L 5]) [.set 6<|.ao aZ<|.bin .mod (.bin .add (.call 73 [aE,L 7]) c5)<|L 7,.set 7<|.call 73 [aE,L 60],.set 8<|.call 74 [aE],.iff (.cmp dO [(.fV,(.comp (.ao LF<|L 0) false [23] bN []))]) [.app 4<|.tup [dO,f5,.bin .mod fo<|L 2,.bin .mod (.bin .fdiv fo<|L 2)<|L 2,.bin .mod (.bin .fdiv fo<|L 4)<|L 3,.ao (.lst [L 0,L 0,L 0,L 1,L 2])<|.bin .fdiv fo<|L 12]] []],.set 9<|.call 73 [aE,L 5],.set 10<|.comp xL false [24] bN [.or [.cmp (.ao xL<|L 5) [(.gt,L 0)],.an [.cmp (.ao xL<|L 2) [(.eq,L 0)],.cmp (.ao xL<|L 0) [(.fV,(.tup [bp [108,101,110,103,116,104],bp [48],bp [49,50]]))]]]],.iff (.an [.cmp gn [(.eq,L 2)],.cmp bq [(.ne,L 1)],.cmp (.bi .len [mO]) [(.eq,L 0)]]) [.set 9<|L 1] [],.set 11<|.comp (.ite (.cmp gn [(.isin,U3)]) (.tup [.call 74 [aE],.call 73 [aE,L 2]])<|.tup []) false [25] (.tup [.tup [L 1,L 3],.tup [L 2,L 3]]) [],.a5 4,.set 4<|.bi .sorted [bN],.own 12<|.lst [],.a5 4,.for true [6,8,13,14,15,16] bN [.set 17<|.bin .add (.bin .add (.bin .add (.bin .mul ow<|L 1)<|.bin .mul n3<|L 2)<|.ao (.lst [L 0,L 4,.bin .add (L 32)<|L 64]) pA)<|.ao (.lst [L 0,L 8,L 16]) qS,.app 12<|.tup [dO,.call 75 [aQ,.k<|.int<|-1,f5],uj,.ite (.cmp qS [(.gt,L 0)]) (L 1)<|L 0]],.set 18<|.ite (.cmp bq [(.eq,L 1)]) (.tup [.cR aQ 0 [.tup [L 13,.tup [],.tup [],L 3,.tup [],L 0]]])<|.tup [],.set 19<|.comp (.ite (.cmp z0 [(.eq,(.tup []))]) (.tup [])<|.tup [.call 75 [aQ,.k<|.int<|-1,.ao z0<|L 0],.ao z0<|L 1]) false [26] nk [],.a5 12,.set 20<|.cR aQ 0 [.tup [L 8,.bi .tuple [kA],uA,.tup [],.ao yU<|L 0,.ao yU<|L 1,.bin .mod bq<|L 2]],.a5 12,.set 21<|.cR aQ 0 [.tup [L 8,.bi .tuple [.aL kA none none<|some<|-1],uA,.tup [],.ao yU<|L 0,.ao yU<|L 1,.bin .mod bq<|L 2]],.iff (.cmp bq [(.eq,L 2)]) [.set 22<|.call 13 [aQ,L 2,bp [73]],.fW Fs 14 IR,.set 20<|.cR aQ 0 [.tup [L 9,.at Fs 10,.tup []]]] [],.a5 4,.a5 12,.ret<|.bb [((bp [115,111,114,116]),(bp [123])),((bp [116]),IR),((bp [116,117,114,110,101,100]),Yj),((bp [109,101,109,98,101,114,115]),bN),((bp [112,114,111,112,115]),kA),((bp [99,101,108,108,115]),nk),((bp [119,97,121]),bq)]]⟩
def WT:bS:=⟨2,10,[],[.set 2<|.call 73 [aE,L 2],.set 3<|.call 73 [aE,L 4],.set 4<|.bin .mul (.lst [L 0])<|.call 73 [aE,L 3],.iff (.cmp bq [(.eq,L 0)]) [.set 4<|.bin .add bN<|.bin .mul (.lst [L 1])<|.call 73 [aE,L 3]] [],.iff (.cmp bq [(.eq,L 1)]) [.set 4<|.bin .add (.bin .add bN<|.bin .mul (.lst [L 1])<|.call 73 [aE,L 3])<|.lst [L 2]] [],.iff (.cmp bq [(.eq,L 2)]) [.set 4<|.bin .add (.bin .add bN<|.lst [L 2])<|.bin .mul (.lst [L 0])<|.bin .add (L 1)<|.call 73 [aE,L 2]] [],.iff (.cmp bq [(.eq,L 3)]) [.set 4<|.lst [L 2]] [],.set 5<|.comp (.tup [.call 74 [aE],fo]) false [7] bN [],.iff (.cmp bN [(.eq,(.lst [L 2]))]) [.set 6<|.cR aQ 0 [.tup [L 11,.call 75 [aQ,.k<|.int<|-1,.ao (.ao c5<|L 0)<|L 0],aZ]]] [.set 6<|.cR aQ 0 [.tup [L 12,.bi .tuple [.comp (.tup [.call 75 [aQ,.k<|.int<|-1,f5],gn]) true [8,9] c5 []],aZ]]],.ret<|.bb [((bp [115,111,114,116]),(bp [91])),((bp [116]),dO),((bp [101,108,101,109,115]),c5),((bp [114,111]),aZ),((bp [111,112,101,110]),(.cmp bN [(.eq,(.lst [L 2]))]))]]⟩
def W0:bS:=⟨2,5,[],[.set 2<|.call 73 [aE,L 11],.set 3<|.cR aQ 0 [.tup [L 13,.tup [],.tup [],L 3,.tup [],L 0]],.iff (.cmp aZ [(.lt,L 6)]) [.set 4<|.ao (.lst [L 6,L 3,L 5,L 12,.cR aQ 0 [.tup [L 3,bp [97],L 0]],.cR aQ 0 [.tup [L 4,L 3,L 1]]]) aZ] [.iff (.cmp aZ [(.lt,L 8)]) [.set 4<|.ite (.cmp aZ [(.eq,L 6)]) (.cR aQ 0 [.tup [L 18,.tup [bp [120],bp []],.tup [L 7]]])<|.cR aQ 0 [.tup [L 5,L 1,bp [65],L 0,L 0]]] [.iff (.cmp aZ [(.eq,L 8)]) [.set 4<|.cR aQ 0 [.tup [L 7,.tup [L 6,.cR aQ 0 [.tup [L 8,.tup [.tup [bp [98,114,97,110,100],L 7,L 0,L 0]],.tup [],.tup [],.tup [],.tup [],L 0]]]]]] [.set 4<|.ite (.cmp aZ [(.eq,L 9)]) (L 10)<|L 1,.iff (.an [.cmp aZ [(.eq,L 9)],.cmp (.call 73 [aE,L 2]) [(.eq,L 1)]]) [.set 4 bq] []]]],.ret<|.bb [((bp [115,111,114,116]),(bp [112])),((bp [116]),bN),((bp [115,116,97,121,115]),(.cmp aZ [(.lt,L 9)]))]]⟩
def Nc:bS:=⟨3,5,[],[.set 3<|.comp bN false [4] aE [.cmp bN [(.ne,(.k<|.tup [.str [119],.str [117]]))]],.iff (.or [.cmp aQ [(.eq,L 1)],.an [.cmp aQ [(.eq,L 0)],.cmp aZ [(.eq,L 1)]]]) [.ret<|.tup [.ite (.cmp (.bi .len [bq]) [(.eq,L 0)]) aE bq,L 1]] [],.ret<|.tup [.ite (.cmp aZ [(.eq,L 1)]) bq aE,L 0]]⟩
def Ys:bS:=⟨5,19,[],[.ho [5,6] bq,.iff (.cmp (.ao bN<|bp [115,111,114,116]) [(.eq,bp [91])]) [.ret<|.call 87 [aE,aQ,aZ,bq,bN]] [],.own 7<|.lst [],.for true [8,9,10,11,12,13] (.ao bN<|bp [109,101,109,98,101,114,115]) [.iff (.an [.cmp ow [(.eq,L 0)],.cmp f5 [(.fV,(.tup [bp [108,101,110,103,116,104],bp [48],bp [49,50]]))]]) [.ho [14,15]<|.call 85 [.call 80 [aZ,.tup [bp [116],f5]],c5,mO],.app 7<|.tup [f5,.call 75 [aE,aQ,n3],.bin .add (.bin .mul pA<|L 1)<|.bin .mul (.ao (.lst [nk,L 1,L 0]) dO)<|L 2,L 0]] []],.own 16<|.lst [],.for false [17] (.ey (L 0)<|L 2) [.set 18<|.ao (.ao bN<|bp [99,101,108,108,115]) uj,.iff (.cmp uA [(.ne,(.tup []))]) [.set 14<|.bin .add (.call 80 [aZ,.ao (.lst [.k<|.tup [.str [119],.str [83]],.k<|.tup [.str [119],.str [78]]]) uj])<|.ite (.cmp c5 [(.eq,L 1)]) (.lst [.k<|.tup [.str [119],.str [117]]])<|.lst [],.set 18<|.tup [.call 75 [aE,aQ,n3],.ao (.lst [.ao uA<|L 1,L 1,L 0]) dO]] [],.app 16 uA],.a5 7,.ret<|.cR aE 0 [.tup [L 8,.bi .tuple [fo],.tup [],.tup [],.ao qS<|L 0,.ao qS<|L 1,L 0]]]⟩
def OK:bS:=⟨5,18,[],[.ho [5,6] bq,.set 7<|.ao (.lst [.ao bN<|bp [114,111],L 1,L 0]) dO,.set 8<|.call 80 [aZ,.k<|.tup [.str [119],.str [78]]],.iff (.cmp c5 [(.eq,L 1)]) [.set 8<|.bin .add f5<|.lst [.k<|.tup [.str [119],.str [117]]]] [],.iff (.cmp c5 [(.eq,L 2)]) [.set 8<|.comp pA false [15] f5 [.cmp pA [(.ne,(.k<|.tup [.str [119],.str [117]]))]]] [],.iff (.ao bN<|bp [111,112,101,110]) [.ret<|.cR aE 0 [.tup [L 11,.call 75 [aE,aQ,f5],fo]]] [],.set 9<|.comp uj true [16,17] (.ao bN<|bp [101,108,101,109,115]) [],.set 10<|.ite (.cmp (L 2) [(.isin,gn)]) (.bi .index [gn,L 2])<|.bi .len [gn],.own 11<|.lst [],.for false [12] (.ey (L 0)<|.bi .len [gn]) [.ho [13,14]<|.tup [f5,.ao gn kA],.iff (.cmp kA [(.lt,mO)]) [.ho [13,14]<|.call 85 [.call 80 [aZ,.tup [bp [116],.bi .str [kA]]],c5,.ao gn kA]] [],.iff (.an [.cmp n3 [(.eq,L 1)],.cmp mO [(.lt,(.bin .sub (.bi .len [gn])<|L 1))]]) [.ho [13,14]<|.tup [.bin .add ow<|.lst [.k<|.tup [.str [119],.str [117]]],L 0]] [],.app 11<|.tup [.call 75 [aE,aQ,ow],n3]],.a5 11,.ret<|.cR aE 0 [.tup [L 12,.bi .tuple [nk],fo]]]⟩
def KU:bS:=⟨1,17,[],[.iff (.cmp (.ao aE<|bp [115,111,114,116]) [(.eq,bp [91])]) [.ret<|.comp (.tup [.call 90 [n3],bp [91]]) false [14] (.call 89 [.ao aE<|bp [101,108,101,109,115]]) []] [],.own 1<|.bb [],.own 2<|.bb [],.own 3<|.bb [],.set 4<|.an [.cmp (.ao aE<|bp [119,97,121]) [(.ne,L 1)],.cmp (.ao aE<|bp [99,101,108,108,115]) [(.eq,(.lst [.tup [],.tup []]))]],.set 5<|.lst [.tup [bp [116],bp [97]]],.own 6<|.lst [],.for true [7,8,9,10,11,12] (.ao aE<|bp [109,101,109,98,101,114,115]) [.iff (.cmp kA [(.eq,L 0)]) [.jC 1 fo<|.tup [f5,gn],.jC 2 fo<|.tup [f5,L 0],.iff (.cmp gn [(.eq,L 0)]) [.jC 3 fo<|.tup [f5,L 0],.app 6 fo] []] [],.set 4<|.an [bN,.cmp kA [(.eq,L 0)],.or [.cmp fo [(.ne,bp [108,101,110,103,116,104])],.cmp (.k<|.tup [.str [119],.str [78]]) [(.isin,f5)]]],.set 5<|.ite (.cmp fo [(.eq,bp [48])]) f5 c5],.jC 2 (bp [122])<|.tup [.lst [.tup [bp [116],bp [97]]],L 0],.jC 3 (bp [55])<|.tup [.lst [.tup [bp [35],L 1]],L 0],.a5 2,.a5 3,.a5 1,.own 13<|.lst [.tup [aQ,bp [123]],.tup [aZ,bp [123]],.tup [bq,bp [123]]],.iff (.an [bN,.cmp (.bi .len [.comp pA false [15] dO [.cmp pA [(.ne,bp [108,101,110,103,116,104])]]]) [(.eq,L 0)]]) [.app 13<|.tup [.bb [],bp [116,101,120,116]]] [],.iff (.an [bN,.cmp (.bi .len [.comp qS false [16] dO [.cmp qS [(.fV,(.tup [bp [108,101,110,103,116,104],bp [48]]))]]]) [(.eq,L 0)]]) [.app 13<|.tup [.bb [((bp [48]),(.tup [c5,L 0]))],bp [91]]] [],.a5 13,.ret ow]⟩
def Zf:bS:=⟨1,8,[],[.own 1<|.lst [.comp (.tup [dO,L 0]) true [6,7] aE [.cmp fo [(.eq,L 0)]]],.for false [2] (.ey (L 0)<|L 3) [.own 3<|.lst [],.for true [4,5] aE [.iff (.cmp c5 [(.eq,L 2)]) [.ext 3<|.bin .mul (.lst [.tup [bN,L 0]]) aZ] [.app 3<|.tup [bN,.ite (.an [.cmp c5 [(.eq,L 1)],.cmp aZ [(.eq,L 0)]]) (L 1)<|L 0]]],.a5 3,.app 1 bq],.a5 1,.ret aQ]⟩
def XU:bS:=⟨1,3,[],[.own 1<|.bb [],.for false [2] (.ey (L 0)<|.bi .len [aE]) [.jC 1 (.bi .str [aZ])<|.ao aE aZ],.a5 1,.ret aQ]⟩
def QZ:bS:=⟨2,8,[],[.set 2<|.comp fo false [7] aE [],.iff (.cmp (.ao aQ<|L 0) [(.eq,bp [116])]) [.iff (.cmp (.ao aQ<|L 1) [(.fV,aE)]) [.ret<|.lst [.k<|.tup [.str [119],.str [117]]]] [],.set 2<|.lst [.ao aQ<|L 1]] [],.own 3<|.lst [],.for false [4] aZ [.ho [5,6]<|.ao aE bN,.ext 3<|.bin .add c5<|.bin .mul (.lst [.k<|.tup [.str [119],.str [117]]]) dO],.a5 3,.ret bq]⟩
def UY:bS:=⟨2,5,[],[.own 2<|.lst [],.for true [3,4] aE [.iff (.cmp bq [(.eq,bp [84])]) [.ext 2<|.call 91 [aQ,bN]] [.iff (.cmp bq [(.eq,bp [91])]) [.app 2<|.tup [bq,.bi .tuple [.call 92 [bN,aQ]]]] [.app 2<|.tup [bq,bN]]]],.a5 2,.ret aZ]⟩
def RU:bS:=⟨5,9,[],[.iff (.an [.cmp bN [(.eq,bp [108,101,110,103,116,104])],.cmp bq [(.ne,bp [123])]]) [.ret<|.lst [.k<|.tup [.str [119],.str [78]]]] [],.iff (.cmp bN [(.fV,aZ)]) [.ret<|.lst [.k<|.tup [.str [119],.str [117]]]] [],.ho [5,6]<|.ao aZ bN,.ho [7,8]<|.call 85 [.call 92 [.call 80 [aE,.tup [bp [116],bN]],aZ],aQ,dO],.ret<|.bin .add fo<|.bin .mul (.lst [.k<|.tup [.str [119],.str [117]]]) f5]⟩
def SU:bS:=⟨1,2,[],[.ret<|.an [.cmp aE [(.ne,bp [])],.cmp (.bi .len [.comp aQ false [1] aE [.cmp aQ [(.fV,bp [48,49,50,51,52,53,54,55,56,57])]]]) [(.eq,L 0)]]]⟩
def Sm:bS:=⟨2,5,[],[.ho [2,3] aE,.iff (.cmp aE [(.isin,aQ)]) [.ret<|.k<|.bool true] [],.iff (.cmp aZ [(.eq,bp [116])]) [.ret<|.or [.cmp (.k<|.tup [.str [119],.str [83]]) [(.isin,aQ)],.an [.cmp (.k<|.tup [.str [119],.str [78]]) [(.isin,aQ)],.call 94 [bq]]]] [],.iff (.cmp aZ [(.eq,bp [35])]) [.ret<|.cmp (.k<|.tup [.str [119],.str [78]]) [(.isin,aQ)]] [],.ret<|.an [.cmp aZ [(.eq,bp [91])],.cmp (.bi .len [.comp bN false [4] aQ [.an [.cmp (.ao bN<|L 0) [(.eq,bp [91])],.call 96 [bq,.ao bN<|L 1]]]]) [(.gt,L 0)]]]⟩
def P9:bS:=⟨2,3,[],[.ret<|.cmp (.bi .len [.comp aZ false [2] aE [.not (.call 95 [aZ,aQ])]]) [(.eq,L 0)]]⟩
def Qv:bS:=⟨3,12,[],[.iff (.cmp (.ao aQ<|L 0) [(.eq,L 11)]) [.ret<|.lst [.call 77 [aE,.ao aQ<|L 1]]] [],.iff (.cmp (.ao aQ<|L 0) [(.eq,L 12)]) [.set 3<|.comp mO true [9,10] (.ao aQ<|L 1) [],.set 4<|.ite (.cmp (L 2) [(.isin,bq)]) (.bi .index [bq,L 2])<|.bi .len [bq],.set 5<|.bi .int [aZ],.iff (.cmp c5 [(.lt,bN)]) [.ret<|.lst [.bin .add (.call 77 [aE,.ao (.ao (.ao aQ<|L 1) c5)<|L 0])<|.bin .mul (.lst [.k<|.tup [.str [119],.str [117]]])<|.ao bq c5]] [],.own 6<|.lst [],.for true [7,8] (.sg (.ao aQ<|L 1) bN) [.ext 6<|.call 77 [aE,fo]],.a5 6,.ret<|.lst [dO]] [],.own 6<|.comp (.bin .add (.call 77 [aE,.ao nk<|L 1])<|.bin .mul (.lst [.k<|.tup [.str [119],.str [117]]])<|.bin .mod (.ao nk<|L 2)<|L 2) false [11] (.ao aQ<|L 1) [.cmp (.ao nk<|L 0) [(.eq,aZ)]],.iff (.cmp (.ao aQ<|L 4) [(.ne,(.tup []))]) [.app 6<|.bin .add (.call 77 [aE,.ao (.ao aQ<|L 4)<|L 0])<|.lst [.k<|.tup [.str [119],.str [117]]]] [],.iff (.an [.cmp (.ao aQ<|L 5) [(.ne,(.tup []))],.call 94 [aZ]]) [.app 6<|.bin .add (.call 77 [aE,.ao (.ao aQ<|L 5)<|L 0])<|.lst [.k<|.tup [.str [119],.str [117]]]] [],.a5 6,.ret dO]⟩
def Tk:bS:=⟨5,18,[],[.for true [5,6] bN [.own 7<|.comp ow false [13] c5 [],.iff (.cmp (.ao aQ<|L 0) [(.eq,L 8)]) [.ext 7<|.comp (.ao n3<|L 0) false [14] (.ao aQ<|L 1) [.cmp (.ao n3<|L 0) [(.fV,c5)]]] [],.iff (.cmp (.ao aQ<|L 0) [(.eq,L 12)]) [.set 8<|.comp qS true [15,16] (.ao aQ<|L 1) [],.set 9<|.ite (.cmp (L 2) [(.isin,f5)]) (.bi .index [f5,L 2])<|.bi .len [f5],.ext 7<|.comp (.bi .str [uj]) false [17] (.ey (.bi .len [c5]) gn) []] [],.a5 7,.for false [10] fo [.set 11<|.call 93 [aZ,bq,c5,dO,mO],.for false [12] (.call 97 [aE,aQ,mO]) [.iff (.not (.call 96 [nk,.bin .add (.call 92 [kA,c5])<|.bin .mul (.lst [.k<|.tup [.str [119],.str [117]]])<|.bin .fdiv bq<|L 2])) [.ret<|.k<|.bool false] []]]],.ret<|.k<|.bool true]⟩
def yj:bS:=⟨1,16,[],[.set 1<|.new 0 [],.set 2<|.new 4 [aQ],.set 3<|.call 12 [aQ,bp [84]],.set 4<|.call 12 [aQ,bp [80]],.set 5<|.call 79 [aE],.set 6<|.tup [.call 73 [aE,L 3],.call 73 [aE,L 3]],.set 7<|.cmp (.call 73 [aE,L 5]) [(.eq,L 4)],.set 8<|.call 73 [aE,L 8],.set 9<|.ite (.cmp f5 [(.lt,L 4)]) (.call 82 [aE,aQ])<|.ite (.cmp f5 [(.lt,L 7)]) (.call 83 [aE,aQ])<|.call 84 [aE,aQ],.set 10<|.call 81 [aQ,bq,bN,c5],.set 11<|.cR aQ 0 [.tup [L 14,bq]],.set 12<|.tup [L 17,.ao (.ao (.at aQ 0) bN)<|L 1,nk,.ite fo bN<|.k<|.int<|-1,mO,.ao dO<|L 0,.ao dO<|L 1],.set 13<|.call 59 [aZ,kA,.ao gn<|bp [116]],.iff (.cmp (.ao gn<|bp [115,111,114,116]) [(.eq,bp [112])]) [.ret<|.cmp ow [(.eq,(.ite (.ao gn<|bp [115,116,97,121,115]) (.ao gn<|bp [116])<|L 11))]] [],.set 14<|.call 86 [aQ,bq,c5,dO,gn],.iff (.cmp ow [(.ne,(.ite fo (L 11) n3))]) [.ret<|.k<|.bool false] [],.iff (.cmp (.ao gn<|bp [115,111,114,116]) [(.eq,bp [91])]) [.iff (.an [.not (.ao gn<|bp [111,112,101,110]),.cmp (.call 60 [aZ,kA,.ao (.at aQ 0)<|.ao gn<|bp [116]]) [(.ne,n3)]]) [.ret<|.k<|.bool false] []] [.iff (.cmp (.call 59 [aZ,kA,.ao gn<|bp [116,117,114,110,101,100]]) [(.ne,ow)]) [.ret<|.k<|.bool false] [],.for false [15] (.ao gn<|bp [112,114,111,112,115]) [.iff (.cmp (.call 61 [aZ,.new 6 [.cR aQ 0 [.tup [L 3,.ao pA<|L 0,L 0]],pA,.tup []]]) [(.ne,(.cmp (.ao pA<|L 0) [(.isin,(.tup [bp [108,101,110,103,116,104],bp [48],bp [49,50]]))]))]) [.ret<|.k<|.bool false] []],.iff (.call 61 [aZ,.new 6 [.ao (.lst [L 6,L 7])<|.bin .mod f5<|L 2,.k .none,.tup [L 6,L 0]]]) [.ret<|.k<|.bool false] []],.ret<|.or [fo,.call 98 [aQ,.ao (.at aQ 0) ow,c5,.ao dO<|L 0,.call 88 [gn]]]]⟩
def QO:bS:=⟨1,3,[],[.set 1<|.comp (.bin .mod aZ<|L 99991) false [2] (.aL aE none (some 48) none) [],.iff (.cmp (.bi .len [aQ]) [(.eq,L 0)]) [.set 1<|.lst [L 0,L 2,L 0,L 1,L 0,L 0,L 0,L 0,L 0,L 5,L 1,L 2,L 1,L 0,L 0,L 4,L 5,L 38,L 1,L 0,L 3,L 1]] [],.ret<|.call 99 [.box<|.lst [L 0,aQ]]]⟩
def uB:HO bS:=[xt,Vh,K3,UW,Ps,Pe,NA,R',MI,VP,Tc,Wz,T',TK,Og,Pq,Ur,Th,YV,Yd,SA,XA,TP,Rj,PC,Zo,UV,NH,N1,O7,OX,Lz,Uu,VW,MO,M5,UP,KE,NF,Zk,P6,WC,LO,PK,Mx,Na,XO,ML,Q8,Lf,LA,Mg,Pj,Ql,Nx,Nj,WN,Vd,Ln,PV,U_,R4,KI,YI,Ui,OS,Pd,Q7,LM,T0,WG,Mp,NR,SV,Se,Rz,Wq,UC,N0,S1,B8,Uc,Y3,WT,W0,Nc,Ys,OK,KU,Zf,XU,QZ,UY,RU,SU,Sm,P9,Qv,Tk,yj,QO]
def EX:HO (ā×ā×ā):=[(0,0,1),(4,1,27),(4,2,28),(4,6,70),(4,7,71),(4,8,72),(5,3,39),(5,4,40),(5,5,41)]
def B5 (c m:ā):Z5 ā:=(EX.find? λx=>Nat.beq x.1 c&&Nat.beq x.2.1 m).map (·.2.2)
def CU:ā->Z5 ā
 |0=>some 0
 |1=>some 2
 |4=>some 69
 |5=>some 38
 |6=>some 51
 |_=>none
def l4:UH:=⟨λi=>uB[i]?,B5,CU⟩
def ay{av:Type}(o:Z5 av)(Q:av->Prop):Prop:=match o with|some a=>Q a|none=>False
def kN(p q:Prop)(b:ZI):Prop:=match b with|true=>p|false=>q
def bj(o:Z5 ZI)(p q:Prop):Prop:=ay o<|kN p q
structure jA(p:Prop):Prop where
 of:p
abbrev jK:=ā->HO B->St->(B->St->Prop)->Prop
def pY(o:Z5 B)(s:St)(f:(B->St->Prop)->Prop)(K:B->St->Prop):Prop:=match o with|some v=>K v s|none=>f K
def UA (ai:HO (B×B)):Z5 (List<|B×B):=ai.foldlM (λd (p:B×B)=>if eo p.1 d then gW p.1 p.2 d else none) []
def hC (o:h0) (s:St) (x y:B):Z5 ZI:=match o with|.isin=>qE s x y|.fV=>(qE s x y).map (!·)|o=>Internal.cmp o x y
def qn(o k:B)(Q:B->Prop):Prop:=match o with
 |.tup l=>(match k with|.int i=>(match i with|.ofNat j=>j<=l.length/\Q (.tup<|l.drop j)|.negSucc _=>False)|_=>False)
 |_=>False
def kq(o:B)(Q:HO B->Prop):Prop:=match o with|.lst l=>Q l|_=>False
def ph(x y:B)(Q:B->Prop):Prop:=match x with
 |.int i=>(match y with|.int j=>small i=true/\small j=true/\(j-i).toNat<=a3/\Q (.ey i j)|_=>False)
 |_=>False
def sD(v:B)(f:cq->Prop):Prop:=match v with|.lst l=>f (.ol l)|.bb l=>f (.od l)|_=>False
def hP(o:Z5 cq)(f:HO B->Prop):Prop:=match o with|some x=>(match x with|.ol l=>f l|_=>False)|_=>False
def kK(o:Z5 cq)(f:HO (B×B)->Prop):Prop:=match o with|some x=>(match x with|.od l=>f l|_=>False)|_=>False
def uU(v:B)(p:Prop):Prop:=match v with|.none=>p|.int _=>p|_=>False
def rC(o:Z5 cq)(p:Prop)(f:B->Prop):Prop:=match o with|some x=>(match x with|.ol l=>f (.lst l)|.od l=>f (.bb l)|_=>p)|none=>False
def vb(x:B)(f:ā->Prop):Prop:=match x with|.ref n=>f n|_=>False
def gP(o:Z5 c4)(f:HO B->Prop):Prop:=match o with|some y=>(match y with|.ls l=>f l|_=>False)|none=>False
def Fc (s:St):B->Z5 St
 |.lst l=>some<|s++[c4.ls l]
 |.bb l=>some<|s++[c4.cO l]
 |_=>none
def Ij (s:St) (x k v:B):Z5 St:=match x with
 |.ref n=>(s[n]?).bind λy=>match y with
  |.ls l=>(match k with|.int i=>(match i with|.ofNat j=>if j<l.length then some (s.set n<|.ls<|l.set j v)else none|_=>none)|_=>none)
  |.cO l=>if eo k l then(gW k v l).bind λl=>i3 l.length (s.set n<|.cO l)else none
  |_=>none
 |_=>none
def lO(o:Z5 B)(Q:B->St->Prop)(s:St):Prop:=ay o λa=>Q a s
def hv{av b8:Type}(w:aJ->St->b8->Prop)(r:aJ)(K:av->b8)(x:av)(s:St):Prop:=w r s<|K x
def JU(a:ā)(Q:B->St->Prop)(o:B)(s:St):Prop:=lO (nR s o a) Q s
def Gl(Q:B->St->Prop)(o k:B)(s:St):Prop:=lO (hn s o k) Q s
def EK(a b c:Z5 Ă)(Q:B->St->Prop)(o:B)(s:St):Prop:=lO (rB o a b c) Q s
def Gy(Q:B->St->Prop)(o k:B)(s:St):Prop:=qn o k λv=>Q v s
def O3(Q:B->St->Prop)(o:B)(s:St):Prop:=kq o λl=>Q (.ref s.length)<|s++[c4.ls l]
def G6(Q:B->St->Prop)(l:HO B)(s:St):Prop:=Q (.tup l) s
def zN(Q:B->St->Prop)(l:HO B)(s:St):Prop:=Q (.lst l) s
def JE(Q:B->St->Prop)(l:HO (B×B))(s:St):Prop:=ay (UA l) λd=>Q (.bb d) s
def IX(o:kj)(Q:B->St->Prop)(x y:B)(s:St):Prop:=lO (Internal.bin o x y) Q s
def FE(Q:B->St->Prop)(x:B)(s:St):Prop:=ay (je x) λb=>Q (.bool !b) s
def H5(o:B)(Q:B->St->Prop)(v:B)(s:St):Prop:=v=.none/\Q o s
def nU(b:f')(v:B)(p:Prop):Prop:=match b with|.index=>kq v λ_=>p|.get=>(match v with|.bb _=>p|_=>False)|_=>p
def OI(b:f')(v:B)(Q:B->St->Prop)(l:HO B)(s:St):Prop:=lO (pb b s<|v::l) Q s
def Kv(b:f')(w:aJ->St->(HO B->St->Prop)->Prop)(r:aJ)(Q:B->St->Prop)(v:B)(s:St):Prop:=nU b v<|w r s<|OI b v Q
def AN(Q:B->St->Prop)(x y:B)(s:St):Prop:=ph x y λv=>Q v s
def An(o:h0)(x:B)(Q:B->St->Prop)(y:B)(s:St):Prop:=ay (hC o s x y) λt=>Q (.bool t) s
def HN(Q:HO B->St->Prop)(v:B)(l:HO B)(s:St):Prop:=Q (v::l) s
def Kb(Q:HO (B×B)->St->Prop)(x y:B)(l:HO (B×B))(s:St):Prop:=Q ((x,y)::l) s
def M2(w:B->aJ->St->(B->St->Prop)->Prop)(r:aJ)(Q:B->St->Prop)(x:B)(s:St):Prop:=w x r s Q
def El{dC:Type}(w ru:aJ->St->dC->Prop)(r:aJ)(Q:dC)(v:B)(s:St):Prop:=bj (je v) (w r s Q)<|ru r s Q
def HU(w:aJ->St->(B->St->Prop)->Prop)(r:aJ)(Q:B->St->Prop)(v:B)(s:St):Prop:=bj (je v) (w r s Q)<|Q v s
def JO(w:aJ->St->(B->St->Prop)->Prop)(r:aJ)(Q:B->St->Prop)(v:B)(s:St):Prop:=bj (je v) (Q v s)<|w r s Q
def M6(w:aJ->St->(ZI->St->Prop)->Prop)(r:aJ)(Q:ZI->St->Prop)(v:B)(s:St):Prop:=bj (je v) (w r s Q)<|Q false s
def Ra(o:h0)(x:B)(w:B->aJ->St->(B->St->Prop)->Prop)(r:aJ)(Q:B->St->Prop)(y:B)(s:St):Prop:=bj (Internal.cmp o x y) (w y r s Q)<|Q (.bool false) s
def kB(fc:aJ->St->(B->St->Prop)->Prop)(fH:aJ->St->(ZI->St->Prop)->Prop)(bk:ZI)(aS:HO ā)(r:aJ)(v:B)(s:St)(Q:HO B->St->Prop):Prop:=ay (il bk aS v r) λb2=>fH b2 s λb s=>bj (some b) (fc b2 s λy s=>Q [y] s)<|Q [] s
def kx(t:B->St->(HO B->St->Prop)->Prop)(Q:B->St->Prop):HO B->HO B->St->Prop
 |[],cg,s=>Q (.lst cg) s
 |v::l,cg,s=>t v s λc6 s=>kx t Q l (cg++c6) s
def n8(t:B->St->(HO B->St->Prop)->Prop)(Q:B->St->Prop)(m:ā):ā->ā->HO B->St->Prop
 |0,i,cg,s=>gP s[m]? λl=>l.length=i/\Q (.lst cg) s
 |n+1,i,cg,s=>gP s[m]? λl=>ay l[i]? λv=>t v s λc6 s=>n8 t Q m n (i+1) (cg++c6) s
def j2(t:B->St->(HO B->St->Prop)->Prop)(Q:B->St->Prop)(x:B)(s:St):Prop:=match x with
 |.ref m=>gP s[m]? λl=>n8 t Q m l.length 0 [] s
 |x=>ay (items x) λbO=>kx t Q bO [] s
section
variable(ah:jK)
def Nm(f:ā)(Q:B->St->Prop)(l:HO B)(s:St):Prop:=ah f l s Q
def Rl(c:ā)(Q:B->St->Prop)(l:HO B)(s:St):Prop:=ay (l4.AY c) λf=>ah f (.ref s.length::l) (s++[.ins c []])<|H5 (.ref s.length) Q
def Md(f:ā)(x:B)(Q:B->St->Prop)(l:HO B)(s:St):Prop:=ah f (x::l) s Q
def O2(m:ā)(w:aJ->St->(HO B->St->Prop)->Prop)(r:aJ)(Q:B->St->Prop)(x:B)(s:St):Prop:=ay ((BR s x).bind λc=>l4.meths c m) λf=>w r s<|Md ah f x Q
mutual
def cm:a2->aJ->St->(B->St->Prop)->Prop
 |.k v,_,s,Q=>Q v s
 |.v i,r,s,Q=>lO (pQ r i) Q s
 |.at e a,r,s,Q=>cm e r s<|JU a Q
 |.ao e i,r,s,Q=>pY (peek r e) s (cm e r s)<|hv (cm i) r<|Gl Q
 |.aL e a b c,r,s,Q=>cm e r s<|EK a b c Q
 |.sg e i,r,s,Q=>cm e r s<|hv (cm i) r<|Gy Q
 |.box e,r,s,Q=>cm e r s<|O3 Q
 |.tup l,r,s,Q=>lq l r s<|G6 Q
 |.lst l,r,s,Q=>lq l r s<|zN Q
 |.bb l,r,s,Q=>xz l r s<|JE Q
 |.bin o a b,r,s,Q=>cm a r s<|hv (cm b) r<|IX o Q
 |.not e,r,s,Q=>cm e r s<|FE Q
 |.cmp a l,r,s,Q=>cm a r s<|M2 (vH l) r Q
 |.an l,r,s,Q=>qo l r s Q
 |.or l,r,s,Q=>p9 l r s Q
 |.ite c t e,r,s,Q=>cm c r s<|El (cm t) (cm e) r Q
 |.call f l,r,s,Q=>lq l r s<|Nm ah f Q
 |.new c l,r,s,Q=>lq l r s<|Rl ah c Q
 |.cR o m l,r,s,Q=>cm o r s<|O2 ah m (lq l) r Q
 |.bi b l,r,s,Q=>match l with|[]=>False|a::l=>cm a r s<|Kv b (lq l) r Q
 |.ey a b,r,s,Q=>cm a r s<|hv (cm b) r<|AN Q
 |.comp e bk aS it ifs,r,s,Q=>jA<|pY (peek r it) s (cm it r s)<|j2 (kB (cm e) (sT ifs) bk aS r) Q
 |.bad,_,_,_=>False
def lq:HO a2->aJ->St->(HO B->St->Prop)->Prop
 |[],_,s,Q=>Q [] s
 |e::l,r,s,Q=>cm e r s<|hv (lq l) r<|HN Q
def xz:HO (a2×a2)->aJ->St->(HO (B×B)->St->Prop)->Prop
 |[],_,s,Q=>Q [] s
 |(a,b)::l,r,s,Q=>cm a r s<|hv (cm b) r λx=>hv (xz l) r<|Kb Q x
def vH:HO (h0×a2)->B->aJ->St->(B->St->Prop)->Prop
 |[],_,_,_,_=>False
 |(o,b)::l,x,r,s,Q=>match l with
  |[]=>pY (peek r b) s (cm b r s)<|An o x Q
  |_::_=>cm b r s<|Ra o x (vH l) r Q
def qo:HO a2->aJ->St->(B->St->Prop)->Prop
 |[],_,_,_=>False
 |e::l,r,s,Q=>match l with
  |[]=>cm e r s Q
  |_::_=>cm e r s<|HU (qo l) r Q
def p9:HO a2->aJ->St->(B->St->Prop)->Prop
 |[],_,_,_=>False
 |e::l,r,s,Q=>match l with
  |[]=>cm e r s Q
  |_::_=>cm e r s<|JO (p9 l) r Q
def sT:HO a2->aJ->St->(ZI->St->Prop)->Prop
 |[],_,s,Q=>Q true s
 |e::l,r,s,Q=>cm e r s<|M6 (sT l) r Q
end
end
def kV(w:aJ->St->(cj->aJ->St->Prop)->Prop)(Q:cj->aJ->St->Prop)(f:cj)(r:aJ)(s:St):Prop:=match f with|.go=>w r s Q|.ret v=>Q (.ret v) r s
def mS(dx:aJ->St->Prop)(Q:cj->aJ->St->Prop)(f:cj)(r:aJ)(s:St):Prop:=match f with|.go=>dx r s|.ret v=>Q (.ret v) r s
def pL(i:ā)(r:aJ)(Q:cj->aJ->St->Prop)(v:B)(s:St):Prop:=Q .go (r.set i<|.val v) s
def uR(i:ā)(r:aJ)(Q:cj->aJ->St->Prop)(v:B)(s:St):Prop:=sD v λx=>Q .go (r.set i x) s
def C'(l:HO ā)(r:aJ)(Q:cj->aJ->St->Prop)(v:B)(s:St):Prop:=ay (il true l v r) λr=>Q .go r s
def zH(a:ā)(r:aJ)(Q:cj->aJ->St->Prop)(v x:B)(s:St):Prop:=ay (nW s x a v) λs=>Q .go r s
def HS(r:aJ)(Q:cj->aJ->St->Prop)(v x k:B)(s:St):Prop:=ay (Ij s x k v) λs=>Q .go r s
def EV(i:ā)(r:aJ)(Q:cj->aJ->St->Prop)(v x:B)(s:St):Prop:=kK r[i]? λl=>eo x l=true/\ay (gW x v l) λdi=>di.length<=a3/\Q .go (r.set i<|.od di) s
def DU(i:ā)(r:aJ)(Q:cj->aJ->St->Prop)(v:B)(s:St):Prop:=hP r[i]? λl=>l.length+1<=a3/\Q .go (r.set i<|.ol<|l++[v]) s
def FF(i:ā)(r:aJ)(Q:cj->aJ->St->Prop)(v:B)(s:St):Prop:=hP r[i]? λl=>kq v λm=>l.length+m.length<=a3/\Q .go (r.set i<|.ol<|l++m) s
def Mz(x:B)(r:aJ)(Q:cj->aJ->St->Prop)(v:B)(s:St):Prop:=vb x λm=>gP s[m]? λl=>l.length+1<=a3/\Q .go r (s.set m<|.ls<|l++[v])
def D_(w:aJ->St->(B->St->Prop)->Prop)(r:aJ)(Q:cj->aJ->St->Prop)(x:B)(s:St):Prop:=ay (AD s x) λ_=>w r s<|Mz x r Q
def Kg(w:aJ->St->(B->St->Prop)->Prop)(a:ā)(r:aJ)(Q:cj->aJ->St->Prop)(v:B)(s:St):Prop:=ay (Fc s v) λpS=>w r pS<|zH a r Q<|.ref s.length
def E2(r:aJ)(Q:cj->aJ->St->Prop)(v:B)(s:St):Prop:=uU v<|Q .go r s
def E0(r:aJ)(Q:cj->aJ->St->Prop)(v:B)(s:St):Prop:=Q (.ret v) r s
def oA(w:aJ->St->(cj->aJ->St->Prop)->Prop)(bk:ZI)(aS:HO ā)(Q:cj->aJ->St->Prop):HO B->aJ->St->Prop
 |[],r,s=>Q .go r s
 |v::l,r,s=>ay (il bk aS v r) λr=>w r s<|mS (oA w bk aS Q l) Q
def kFor(w:aJ->St->(cj->aJ->St->Prop)->Prop)(bk:ZI)(aS:HO ā)(r:aJ)(Q:cj->aJ->St->Prop)(x:B)(s:St):Prop:=ay (items x) λbO=>jA<|oA w bk aS Q bO r s
section
variable(ah:jK)
mutual
def lS:dE->aJ->St->(cj->aJ->St->Prop)->Prop
 |.set i e,r,s,Q=>cm ah e r s<|pL i r Q
 |.own i e,r,s,Q=>cm ah e r s<|uR i r Q
 |.ho l e,r,s,Q=>cm ah e r s<|C' l r Q
 |.fW o a e,r,s,Q=>cm ah e r s<|hv (cm ah o) r<|zH a r Q
 |.jq o a e,r,s,Q=>cm ah e r s<|Kg (cm ah o) a r Q
 |.nq o i e,r,s,Q=>cm ah e r s<|hv (cm ah o) r λv=>hv (cm ah i) r<|HS r Q v
 |.jC i k e,r,s,Q=>kK r[i]? λ_=>cm ah e r s<|hv (cm ah k) r<|EV i r Q
 |.app i e,r,s,Q=>hP r[i]? λ_=>cm ah e r s<|DU i r Q
 |.ext i e,r,s,Q=>hP r[i]? λ_=>cm ah e r s<|FF i r Q
 |.m8 o e,r,s,Q=>cm ah o r s<|D_ (cm ah e) r Q
 |.ex e,r,s,Q=>cm ah e r s<|E2 r Q
 |.iff c t e,r,s,Q=>cm ah c r s<|El (ke t) (ke e) r Q
 |.for bk aS it b,r,s,Q=>cm ah it r s<|kFor (ke b) bk aS r Q
 |.ret e,r,s,Q=>cm ah e r s<|E0 r Q
 |.a5 i,r,s,Q=>rC r[i]? (Q .go r s) λv=>Q .go (r.set i<|.val v) s
 |.bad,_,_,_=>False
def ke:HO dE->aJ->St->(cj->aJ->St->Prop)->Prop
 |[],r,s,Q=>Q .go r s
 |c::l,r,s,Q=>lS c r s<|kV (ke l) Q
end
end
def cj.val:cj->B|.ret v=>v|.go=>.none
@[irreducible] noncomputable def Cz:ā->jK
 |0=>λ_ _ _ _=>False
 |n+1=>λf vs s Q=>ay (l4.fns f) λc=>ay (s6 c vs) λr=>ke (λf vs s Q=>jA<|Cz n f vs s Q) c.body r s λcI _ s=>Q cI.val s
abbrev bc(n:ā):jK:=λf vs s Q=>jA<|Cz n f vs s Q
theorem yH{n f:ā}{vs:HO B}{s:St}{Q:B->St->Prop}:Cz (n+1) f vs s Q=ay (l4.fns f) λc=>ay (s6 c vs) λr=>ke (bc n) c.body r s λcI _ s=>Q cI.val s:=by with_unfolding_all rfl
abbrev dg(n:ā):=cm<|bc n
abbrev sW(n:ā):=sT<|bc n
abbrev nx(n:ā):=lS<|bc n
abbrev bw(n:ā):=ke<|bc n
abbrev cF(n:ā)(bk:ZI)(aS:HO ā)(b:HO dE)(bO:HO B)(r:aJ)(s:St)(Q:cj->aJ->St->Prop):Prop:=jA<|oA (bw n b) bk aS Q bO r s
abbrev eO(n:ā)(e:a2)(bk:ZI)(aS:HO ā)(ifs:HO a2)(v:B)(r:aJ)(s:St)(Q:HO B->St->Prop):Prop:=kB (dg n e) (sW n ifs) bk aS r v s Q
abbrev fk(x:B)(r:aJ)(s:St)(n:ā)(e:a2)(bk:ZI)(aS:HO ā)(ifs:HO a2)(Q:B->St->Prop):Prop:=j2 (kB (dg n e) (sW n ifs) bk aS r) Q x s
abbrev Aa(n:ā)(e:a2)(bk:ZI)(aS:HO ā)(it:a2)(ifs:HO a2)(r:aJ)(s:St)(Q:B->St->Prop):Prop:=jA<|pY (peek r it) s (dg n it r s)<|j2 (kB (dg n e) (sW n ifs) bk aS r) Q
def tC(ah:jK):Prop:=∀f vs s Q bV,(∀v s,Q v s->bV v s)->ah f vs s Q->ah f vs s bV
def gH{av:Type}(w:aJ->St->(av->St->Prop)->Prop):Prop:=∀r s Q bV,(∀a s,Q a s->bV a s)->w r s Q->w r s bV
theorem jA.imp{p q:Prop}(f:p->q)(h:jA p):jA q:=⟨f h.of⟩
theorem ay.imp{av:Type}{o:Z5 av}{Q bV:av->Prop}(k:∀a,Q a->bV a)(h:ay o Q):ay o bV:=by
 induction o with
 |none=>exact h.elim
 |some a=>exact k a h
theorem bj.rU{o:Z5 ZI}{p q ev ff:Prop}(f:p->ev)(g:q->ff)(h:bj o p q):bj o ev ff:=by
 induction o with
 |none=>exact h.elim
 |some b=>induction b with
  |true=>exact f h
  |false=>exact g h
theorem Cr{o:Z5 B}{s:St}{f:(B->St->Prop)->Prop}{K eM:B->St->Prop}(a7:(∀a s,K a s->eM a s)->f K->f eM)(k:∀a s,K a s->eM a s)(h:pY o s f K):pY o s f eM:=by
 induction o with
 |none=>exact a7 k h
 |some v=>exact k _ _ h
theorem gP.imp{o:Z5 c4}{f g:HO B->Prop}(k:∀l,f l->g l)(h:gP o f):gP o g:=by
 induction o with
 |none=>exact h.elim
 |some y=>induction y with
  |ls l=>exact k l h
  |_=>exact h.elim
theorem kq.imp{o:B}{f g:HO B->Prop}(k:∀l,f l->g l)(h:kq o f):kq o g:=by
 induction o using B.casesOn with
 |lst l=>exact k l h
 |_=>exact h.elim
theorem nU.imp{b:f'}{v:B}{p q:Prop}(k:p->q)(h:nU b v p):nU b v q:=by induction b using f'.casesOn<;>first|exact k h|exact kq.imp (λ_=>k) h|(induction v using B.casesOn<;>first|exact k h|exact h.elim)
theorem qn.imp{o x:B}{f g:B->Prop}(k:∀l,f l->g l)(h:qn o x f):qn o x g:=by
 induction o using B.casesOn with
 |tup l=>induction x using B.casesOn with
  |int i=>induction i with
   |ofNat j=>exact⟨h.1,k _ h.2⟩
   |negSucc=>exact h.elim
  |_=>exact h.elim
 |_=>exact h.elim
theorem ph.imp{x y:B}{f g:B->Prop}(k:∀l,f l->g l)(h:ph x y f):ph x y g:=by
 induction x using B.casesOn with
 |int i=>induction y using B.casesOn with
  |int j=>exact⟨h.1,h.2.1,h.2.2.1,k _ h.2.2.2⟩
  |_=>exact h.elim
 |_=>exact h.elim
theorem j2.mo{t:B->St->(HO B->St->Prop)->Prop}(dX:∀v s Q bV,(∀a s,Q a s->bV a s)->t v s Q->t v s bV){Q bV:B->St->Prop}(k:∀v s,Q v s->bV v s)(x:B)(s:St)(h:j2 t Q x s):j2 t bV x s:=by
 have Ig:∀bO cg s,kx t Q bO cg s->kx t bV bO cg s:=λbO=>by
  induction bO with
  |nil=>exact λ_ _ h=>k _ _ h
  |cons v l ap=>exact λcg s h=>dX v s _ _ (λc6 s h=>ap _ _ h) h
 induction x using B.casesOn with
 |ref m=>
  have LV:∀n i cg s,n8 t Q m n i cg s->n8 t bV m n i cg s:=λn=>by
   induction n with
   |zero=>exact λ_ _ _ h=>gP.imp (λ_ h=>⟨h.1,k _ _ h.2⟩) h
   |succ n ap=>exact λi cg s h=>gP.imp (λ_ h=>ay.imp (λv h=>dX v s _ _ (λc6 s h=>ap _ _ _ h) h) h) h
  exact gP.imp (λ_ h=>LV _ _ _ _ h) h
 |bb l=>exact ay.imp (λ_ h=>Ig _ _ _ h) h
 |_=>first|exact Ig _ _ _ h|exact h.elim
section
variable{ah:jK}(b4:tC ah)
include b4
omit b4 in
theorem Ut{fc:aJ->St->(B->St->Prop)->Prop}{fH:aJ->St->(ZI->St->Prop)->Prop}{bk:ZI}{aS:HO ā}{r:aJ}(a6:gH fc)(aB:gH fH):∀v s Q bV,(∀a s,Q a s->bV a s)->kB fc fH bk aS r v s Q->kB fc fH bk aS r v s bV:=λv s Q bV k h=>ay.imp (λb2 h=>aB b2 s _ _ (λb s=>bj.rU (λh=>a6 _ _ _ _ (λ_ _=>k _ _) h)<|k _ _) h) h
theorem gy(e:a2):gH (cm ah e):=a2.rec (motive_1:=λe=>gH<|cm ah e) (motive_2:=λl=>qi (gH<|lq ah l) (gH<|qo ah l) (gH<|p9 ah l) (gH<|sT ah l) (∀b,gH<|cm ah<|.bi b l)) (motive_3:=λl=>gH<|xz ah l) (motive_4:=λl=>∀x,gH<|vH ah l x) (motive_5:=λp=>gH (cm ah p.1)/\gH (cm ah p.2)) (motive_6:=λp=>gH<|cm ah p.2) (λ_ _ _ _ _ k h=>k _ _ h) (λ_ _ _ _ _ k h=>ay.imp (λ_=>k _ _) h) (λ_ _ m _ _ _ _ k h=>m _ _ _ _ (λ_ _=>ay.imp λ_=>k _ _) h) (λ_ _ m n _ _ _ _ k h=>Cr (m _ _ _ _) (λ_ _=>n _ _ _ _ λ_ _=>ay.imp λ_=>k _ _) h) (λ_ _ _ _ m _ _ _ _ k h=>m _ _ _ _ (λ_ _=>ay.imp λ_=>k _ _) h) (λ_ _ m n _ _ _ _ k h=>m _ _ _ _ (λ_ _=>n _ _ _ _ λ_ _=>qn.imp λ_=>k _ _) h) (λ_ m _ _ _ _ k h=>m _ _ _ _ (λ_ _=>kq.imp λ_=>k _ _) h) (λ_ m _ _ _ _ k h=>m.a _ _ _ _ (λ_ _=>k _ _) h) (λ_ m _ _ _ _ k h=>m.a _ _ _ _ (λ_ _=>k _ _) h) (λ_ m _ _ _ _ k h=>m _ _ _ _ (λ_ _=>ay.imp λ_=>k _ _) h) (λ_ _ _ m n _ _ _ _ k h=>m _ _ _ _ (λ_ _=>n _ _ _ _ λ_ _=>ay.imp λ_=>k _ _) h) (λ_ m _ _ _ _ k h=>m _ _ _ _ (λ_ _=>ay.imp λ_=>k _ _) h) (λ_ _ m n _ _ _ _ k h=>m _ _ _ _ (λ_ _=>n _ _ _ _ _ k) h) (λ_ m _ _ _ _ k h=>m.b _ _ _ _ k h) (λ_ m _ _ _ _ k h=>m.c _ _ _ _ k h) (λ_ _ _ m n o _ _ _ _ k h=>m _ _ _ _ (λ_ _=>bj.rU (n _ _ _ _ k)<|o _ _ _ _ k) h) (λ_ _ m _ _ _ _ k h=>m.a _ _ _ _ (λ_ _=>b4 _ _ _ _ _ k) h) (λ_ _ m _ _ _ _ k h=>m.a _ _ _ _ (λ_ _=>ay.imp λ_=>b4 _ _ _ _ _ λ_ _ h=>⟨h.1,k _ _ h.2⟩) h) (λ_ _ _ m n _ _ _ _ k h=>m _ _ _ _ (λ_ _=>ay.imp λ_=>n.a _ _ _ _ λ_ _=>b4 _ _ _ _ _ k) h) (λb l m=>List.casesOn (motive:=λl=>qi (gH<|lq ah l) (gH<|qo ah l) (gH<|p9 ah l) (gH<|sT ah l) (∀b,gH<|cm ah<|.bi b l)->gH (cm ah<|.bi b l)) l (λm=>m.e b) (λ_ _ m=>m.e b) m) (λ_ _ m n _ _ _ _ k h=>m _ _ _ _ (λ_ _=>n _ _ _ _ λ_ _=>ph.imp λ_=>k _ _) h) (λ_ _ _ _ _ m n o _ _ _ _ k h=>jA.imp (Cr (n _ _ _ _)<|j2.mo (Ut m o.d) k) h) (λ_ _ _ _ _ h=>h.elim) ⟨λ_ _ _ _ k h=>k _ _ h,λ_ _ _ _ _ h=>h.elim,λ_ _ _ _ _ h=>h.elim,λ_ _ _ _ k h=>k _ _ h,λ_ _ _ _ _ _ h=>h.elim⟩ (λ_ l m n=>⟨λ_ _ _ _ k h=>m _ _ _ _ (λ_ _=>n.a _ _ _ _ λ_ _=>k _ _) h,List.casesOn (motive:=λl=>gH (qo ah l)->gH (qo ah<|_::l)) l (λ_=>m) (λ_ _ n _ _ _ _ k h=>m _ _ _ _ (λ_ _=>bj.rU (n _ _ _ _ k)<|k _ _) h) n.b,List.casesOn (motive:=λl=>gH (p9 ah l)->gH (p9 ah<|_::l)) l (λ_=>m) (λ_ _ n _ _ _ _ k h=>m _ _ _ _ (λ_ _=>bj.rU (k _ _)<|n _ _ _ _ k) h) n.c,λ_ _ _ _ k h=>m _ _ _ _ (λ_ _=>bj.rU (n.d _ _ _ _ k)<|k _ _) h,λ_ _ _ _ _ k h=>m _ _ _ _ (λ_ _=>nU.imp<|n.a _ _ _ _ λ_ _=>ay.imp λ_=>k _ _) h⟩) (λ_ _ _ _ k h=>k _ _ h) (λ_ _ m n _ _ _ _ k h=>m.1 _ _ _ _ (λ_ _=>m.2 _ _ _ _ λ_ _=>n _ _ _ _ λ_ _=>k _ _) h) (λ_ _ _ _ _ _ h=>h.elim) (λp l m n x=>List.casesOn (motive:=λl=>(∀x,gH<|vH ah l x)->gH (vH ah (p::l) x)) l (λ_ _ _ _ _ k h=>Cr (m _ _ _ _) (λ_ _=>ay.imp λ_=>k _ _) h) (λ_ _ n _ _ _ _ k h=>m _ _ _ _ (λ_ _=>bj.rU (n _ _ _ _ _ k)<|k _ _) h) n) (λ_ _ m n=>⟨m,n⟩) (λ_ _ m=>m) e
omit b4 in
theorem sD.imp{v:B}{f g:cq->Prop}(k:∀l,f l->g l)(h:sD v f):sD v g:=by induction v using B.casesOn<;>first|exact k _ h|exact h.elim
omit b4 in
theorem hP.imp{o:Z5 cq}{f g:HO B->Prop}(k:∀l,f l->g l)(h:hP o f):hP o g:=by
 induction o with
 |none=>exact h.elim
 |some x=>induction x<;>first|exact k _ h|exact h.elim
omit b4 in
theorem kK.imp{o:Z5 cq}{f g:HO (B×B)->Prop}(k:∀l,f l->g l)(h:kK o f):kK o g:=by
 induction o with
 |none=>exact h.elim
 |some x=>induction x<;>first|exact k _ h|exact h.elim
omit b4 in
theorem vb.imp{x:B}{f g:ā->Prop}(k:∀l,f l->g l)(h:vb x f):vb x g:=by induction x using B.casesOn<;>first|exact k _ h|exact h.elim
omit b4 in
theorem uU.imp{x:B}{f g:Prop}(k:f->g)(h:uU x f):uU x g:=by induction x using B.casesOn<;>first|exact k h|exact h.elim
omit b4 in
theorem rC.imp{o:Z5 cq}{p ev:Prop}{f g:B->Prop}(G:p->ev)(k:∀l,f l->g l)(h:rC o p f):rC o ev g:=by
 induction o with
 |none=>exact h.elim
 |some x=>induction x<;>first|exact k _ h|exact G h
def rk(w:aJ->St->(cj->aJ->St->Prop)->Prop):Prop:=∀r s Q bV,(∀f r s,Q f r s->bV f r s)->w r s Q->w r s bV
omit b4 in
theorem EJ{w:aJ->St->(cj->aJ->St->Prop)->Prop}(bF:rk w){Q bV:cj->aJ->St->Prop}(k:∀f r s,Q f r s->bV f r s)(f:cj)(r:aJ)(s:St)(h:kV w Q f r s):kV w bV f r s:=by
 induction f with
 |go=>exact bF _ _ _ _ k h
 |ret=>exact k _ _ _ h
omit b4 in
theorem OW{w:aJ->St->(cj->aJ->St->Prop)->Prop}{bk:ZI}{aS:HO ā}(bF:rk w){Q bV:cj->aJ->St->Prop}(k:∀f r s,Q f r s->bV f r s)(l:HO B):∀r s,oA w bk aS Q l r s->oA w bk aS bV l r s:=by
 induction l with
 |nil=>exact λ_ _ h=>k _ _ _ h
 |cons v l ap=>exact λr s h=>ay.imp (λr h=>bF _ _ _ _ (λf r s h=>by
  induction f with
  |go=>exact ap _ _ h
  |ret=>exact k _ _ _ h) h) h
theorem BJ(c:dE):rk (lS ah c):=dE.rec (motive_1:=λc=>rk<|lS ah c) (motive_2:=λl=>rk<|ke ah l) (λ_ e _ _ _ _ k h=>gy b4 e _ _ _ _ (λ_ _=>k _ _ _) h) (λ_ e _ _ _ _ k h=>gy b4 e _ _ _ _ (λ_ _=>sD.imp λ_=>k _ _ _) h) (λ_ e _ _ _ _ k h=>gy b4 e _ _ _ _ (λ_ _=>ay.imp λ_=>k _ _ _) h) (λo _ e _ _ _ _ k h=>gy b4 e _ _ _ _ (λ_ _=>gy b4 o _ _ _ _ λ_ _=>ay.imp λ_=>k _ _ _) h) (λo _ e _ _ _ _ k h=>gy b4 e _ _ _ _ (λ_ _=>ay.imp λ_=>gy b4 o _ _ _ _ λ_ _=>ay.imp λ_=>k _ _ _) h) (λo i e _ _ _ _ k h=>gy b4 e _ _ _ _ (λ_ _=>gy b4 o _ _ _ _ λ_ _=>gy b4 i _ _ _ _ λ_ _=>ay.imp λ_=>k _ _ _) h) (λ_ j e _ _ _ _ k h=>kK.imp (λ_ h=>gy b4 e _ _ _ _ (λ_ _=>gy b4 j _ _ _ _ λ_ _=>kK.imp λ_ h=>⟨h.1,ay.imp (λ_ h=>⟨h.1,k _ _ _ h.2⟩) h.2⟩) h) h) (λ_ e _ _ _ _ k h=>hP.imp (λ_ h=>gy b4 e _ _ _ _ (λ_ _=>hP.imp λ_ h=>⟨h.1,k _ _ _ h.2⟩) h) h) (λ_ e _ _ _ _ k h=>hP.imp (λ_ h=>gy b4 e _ _ _ _ (λ_ _=>hP.imp λ_=>kq.imp λ_ h=>⟨h.1,k _ _ _ h.2⟩) h) h) (λo e _ _ _ _ k h=>gy b4 o _ _ _ _ (λ_ _=>ay.imp λ_=>gy b4 e _ _ _ _ λ_ _=>vb.imp λ_=>gP.imp λ_ h=>⟨h.1,k _ _ _ h.2⟩) h) (λe _ _ _ _ k h=>gy b4 e _ _ _ _ (λ_ _=>uU.imp<|k _ _ _) h) (λe _ _ m n _ _ _ _ k h=>gy b4 e _ _ _ _ (λ_ _=>bj.rU (m _ _ _ _ k)<|n _ _ _ _ k) h) (λ_ _ e _ m _ _ _ _ k h=>gy b4 e _ _ _ _ (λ_ _=>ay.imp λ_=>jA.imp<|OW m k _ _ _) h) (λe _ _ _ _ k h=>gy b4 e _ _ _ _ (λ_ _=>k _ _ _) h) (λi r s Q bV k=>rC.imp (k .go r s) λv=>k .go (r.set i<|.val v) s) (λ_ _ _ _ _ h=>h.elim) (λ_ _ _ _ k h=>k _ _ _ h) (λ_ _ m n _ _ _ _ k h=>m _ _ _ _ (EJ n k) h) c
theorem J0(l:HO dE):rk (ke ah l):=List.rec (motive:=λl=>rk<|ke ah l) (λ_ _ _ _ k h=>k _ _ _ h) (λc _ n _ _ _ _ k h=>BJ b4 c _ _ _ _ (EJ n k) h) l
end
theorem bc.m(n:ā):tC (bc n):=by
 induction n with
 |zero=>exact λ_ _ _ _ _ _ h=>jA.imp (by with_unfolding_all exact False.elim) h
 |succ n ap=>exact λ_ _ _ _ _ k h=>jA.imp (by rw[yH,yH];exact ay.imp λ_=>ay.imp λ_=>J0 ap _ _ _ _ _ λ_ _ _=>k _ _) h
theorem ay.of{av:Type}{o:Z5 av}{a:av}{Q:av->Prop}(h:o=some a)(q:Q a):ay o Q:=by rw[h];exact q
theorem bj.d{c:Prop}[Decidable c]{p q:Prop}(G:c->p)(E:¬c->q):bj (some<|decide c) p q:=by
 by_cases h:c
 .rw[dL h];exact G h
 .rw[eA h];exact E h
theorem gP.of{o:Z5 c4}{l:HO B}{f:HO B->Prop}(h:o=some (.ls l))(q:f l):gP o f:=by rw[h];exact q
section
variable{n:ā}{r:aJ}{s:St}
theorem bc.fn{f:ā}{vs:HO B}{np lJ:ā}{d:HO B}{b:HO dE}{r:aJ}{Q:B->St->Prop}(a7:l4.fns f=some ⟨np,lJ,d,b⟩)(ak:s6 ⟨np,lJ,d,b⟩ vs=some r)(h:bw n b r s λcI _ ar=>Q cI.val ar):bc (n+1) f vs s Q:=⟨by rw[yH];exact ay.of a7<|ay.of ak h⟩
theorem bc.mono{f:ā}{vs:HO B}{Q bV:B->St->Prop}(h:bc n f vs s bV)(k:∀v s,bV v s->Q v s):bc n f vs s Q:=bc.m n _ _ _ _ _ k h
theorem nx.mono{c:dE}{Q bV:cj->aJ->St->Prop}(h:nx n c r s bV)(k:∀f r s,bV f r s->Q f r s):nx n c r s Q:=BJ (bc.m n) c _ _ _ _ k h
theorem bw.mono{l:HO dE}{Q bV:cj->aJ->St->Prop}(h:bw n l r s bV)(k:∀f r s,bV f r s->Q f r s):bw n l r s Q:=J0 (bc.m n) l _ _ _ _ k h
variable{Q:cj->aJ->St->Prop}{bk:ZI}{aS:HO ā}{b:HO dE}
theorem bw.skip{l:HO dE}(h:bw n l r s Q):bw n [] r s (kV (bw n l) Q):=h
theorem cF.nil(h:Q .go r s):cF n bk aS b [] r s Q:=⟨h⟩
theorem cF.cons{v:B}{l:HO B}(h:ay (il bk aS v r) λr=>bw n b r s (mS (λr s=>cF n bk aS b l r s Q) Q)):cF n bk aS b (v::l) r s Q:=⟨ay.imp (λ_ h=>bw.mono h λf r s h=>by
 induction f with
 |go=>exact h.of
 |ret=>exact h) h⟩
def pI{av b8:Type}(dx K:av->b8->Prop):Prop:=∀a b,dx a b->K a b
theorem pI.go{av b8:Type}{dx K:av->b8->Prop}{a:av}{b:b8}(h:pI dx K)(j:dx a b):K a b:=h a b j
def zi(dx:aJ->St->Prop)(Z:B->aJ->St->Prop)(f:cj)(r:aJ)(s:St):Prop:=match f with|.go=>dx r s|.ret v=>Z v r s
def rR(Q:cj->aJ->St->Prop)(Z:B->aJ->St->Prop):Prop:=∀v r s,Q (.ret v) r s->Z v r s
theorem rR.go{Q:cj->aJ->St->Prop}{Z:B->aJ->St->Prop}{v:B}{r:aJ}{s:St}(h:rR Q Z)(q:Q (.ret v) r s):Z v r s:=h v r s q
theorem cF.inv(dx:HO B->aJ->St->Prop)(ba:∀v l r s (K:aJ->St->Prop),pI (dx l) K->∀Z,rR Q Z->dx (v::l) r s->ay (il bk aS v r) λr=>bw n b r s<|zi K Z)(cN:∀r s,dx [] r s->Q .go r s){bO:HO B}{r:aJ}{s:St}(h:dx bO r s):cF n bk aS b bO r s Q:=by
 induction bO generalizing r s with
 |nil=>exact cF.nil<|cN r s h
 |cons v l ap=>
  refine cF.cons<|ay.imp (λr G=>bw.mono G λf r s h=>?_)<|ba v l r s _ (λ_ _ h=>h) _ (λ_ _ _ h=>h) h;induction f with
  |go=>exact ap h
  |ret w=>exact h
theorem cF.map{av:Type}{f:av->B}{bO:HO B}{all:HO av}{r:aJ}{s:St}(aA:bO=all.map f)(dx:HO av->aJ->St->Prop)(ba:∀done a a_,all=done++a::a_->∀r s (K:aJ->St->Prop),pI (dx<|done++[a]) K->∀Z,rR Q Z->dx done r s->ay (il bk aS (f a) r) λr=>bw n b r s<|zi K Z)(cN:∀r s,dx all r s->Q .go r s)(h:dx [] r s):cF n bk aS b bO r s Q:=by
 subst aA;have key:∀(a_ done:HO av) r s,all=done++a_->dx done r s->cF n bk aS b (a_.map f) r s Q:=by
  intro a_;induction a_ with
  |nil=>intro done r s e h;rw[ha]at e;exact cF.nil<|cN r s<|e▸h
  |cons a a_ ap=>
   intro done r s e h;refine cF.cons<|ay.imp (λr G=>bw.mono G λf r s h=>?_)<|ba done a a_ e r s _ (λ_ _ h=>h) _ (λ_ _ _ h=>h) h;induction f with
   |go=>exact ap (done++[a]) r s (by rw[e,hK];rfl) h
   |ret w=>exact h
 exact key all [] r s rfl h
theorem cF.mp{av:Type}{f:av->B}{bO:HO B}{all:HO av}(aA:bO=all.map f)(fy:HO av->(aJ->St->Prop)->Prop)(ba:∀done a a_,all=done++a::a_->∀K:aJ->St->Prop,fy (done++[a]) K->fy done λr s=>ay (il bk aS (f a) r) λr=>bw n b r s<|mS K Q)(cN:fy all (Q .go)){r:aJ}{s:St}(h:∀K:aJ->St->Prop,fy [] K->K r s):cF n bk aS b bO r s Q:=by
 have key:∀a_ done:HO av,all=done++a_->fy done (oA (bw n b) bk aS Q<|a_.map f):=by
  intro a_;induction a_ with
  |nil=>intro done e;rw[ha]at e;exact e▸cN
  |cons a a_ ap=>exact λdone e=>ba done a a_ e _ (ap _<|by rw[e,hK];rfl)
 rw[aA];exact⟨h _<|key all [] rfl⟩
end
theorem bw.rP{n:ā}{s:St}{i:ā}{e:a2}{l:HO dE}{r:aJ}{Q:cj->aJ->St->Prop}(fy:(B->St->Prop)->Prop)(G:∀K:B->St->Prop,fy K->dg n e r s K)(E:fy λv s=>bw n l (r.set i<|.val v) s Q):bw n (.set i e::l) r s Q:=G _ E
theorem bw.fY{n:ā}{s:St}{c:dE}{l:HO dE}{r:aJ}{Q:cj->aJ->St->Prop}(fy:(aJ->St->Prop)->Prop)(G:∀K:cj->aJ->St->Prop,fy (K .go)->nx n c r s K)(E:fy λr s=>bw n l r s Q):bw n (c::l) r s Q:=G _ E
section
variable{n:ā}{r:aJ}{s:St}{Q:B->St->Prop}{e it:a2}{bk:ZI}{aS:HO ā}{ifs:HO a2}
theorem dg.comp{x:B}(p:Internal.peek r it=some x)(h:fk x r s n e bk aS ifs Q):Aa n e bk aS it ifs r s Q:=⟨by rw[p];exact h⟩
theorem dg.ny(p:Internal.peek r it=none)(h:dg n it r s λx s=>fk x r s n e bk aS ifs Q):Aa n e bk aS it ifs r s Q:=⟨by rw[p];exact h⟩
theorem dg.oI{x:B}(p:Internal.peek r it=none)(af:∀Q:B->St->Prop,Q x s->dg n it r s Q)(h:fk x r s n e bk aS ifs Q):Aa n e bk aS it ifs r s Q:=dg.ny p<|af _ h
theorem eO.mk{v:B}{Q:HO B->St->Prop}(h:ay (il bk aS v r) λb2=>sW n ifs b2 s λb s=>bj (some b) (dg n e b2 s λy s=>Q [y] s)<|Q [] s):eO n e bk aS ifs v r s Q:=h
variable{t:B->St->(HO B->St->Prop)->Prop}
theorem fk.un{x:B}{bO:HO B}(G:items x=some bO)(h:kx t Q bO [] s):j2 t Q x s:=by
 induction x using B.casesOn with
 |bb=>exact ay.of (Q:=λbO=>kx t Q bO [] s) G h
 |_=>first|exact bY G|(cases G;exact h)
theorem fk.map{av:Type}{f:av->B}{x:B}{all:HO av}(G:items x=some (all.map f))(dx:HO av->HO B->St->Prop)(ba:∀done a a_,all=done++a::a_->∀cg s (K:HO B->St->Prop),pI (λc6 s=>dx (done++[a]) (cg++c6) s) K->dx done cg s->t (f a) s K)(cN:∀cg s,dx all cg s->Q (.lst cg) s)(h:dx [] [] s):j2 t Q x s:=by
 refine fk.un G ?_;have key:∀(a_ done:HO av) cg s,all=done++a_->dx done cg s->kx t Q (a_.map f) cg s:=by
  intro a_;induction a_ with
  |nil=>intro done cg s e h;rw[ha]at e;exact cN cg s<|e▸h
  |cons a a_ ap=>intro done cg s e h;exact ba done a a_ e cg s _ (λc6 s h=>ap (done++[a]) (cg++c6) s (by rw[e,hK];rfl) h) h
 exact key all [] [] s rfl h
theorem fk.mp{av:Type}{f:av->B}{x:B}{all:HO av}(G:items x=some (all.map f))(fy:HO av->(HO B->St->Prop)->Prop)(ba:∀done a a_,all=done++a::a_->∀K:HO B->St->Prop,fy (done++[a]) K->fy done λcg s=>t (f a) s λc6 s=>K (cg++c6) s)(cN:fy all λcg=>Q<|.lst cg)(h:∀K:HO B->St->Prop,fy [] K->K [] s):j2 t Q x s:=by
 have key:∀a_ done:HO av,all=done++a_->fy done (kx t Q<|a_.map f):=by
  intro a_;induction a_ with
  |nil=>intro done e;rw[ha]at e;exact e▸cN
  |cons a a_ ap=>exact λdone e=>ba done a a_ e _ (ap _<|by rw[e,hK];rfl)
 exact fk.un G<|h _<|key all [] rfl
theorem pB{x:B}{bO:HO B}{f:B->HO B}(G:items x=some bO)(h:∀v∈bO,∀bV:HO B->St->Prop,bV (f v) s->t v s bV)(q:Q (.lst<|bO.flatMap f) s):j2 t Q x s:=by
 refine fk.un G ?_;have key:∀(l cg:HO B),(∀v∈l,∀bV:HO B->St->Prop,bV (f v) s->t v s bV)->Q (.lst<|cg++l.flatMap f) s->kx t Q l cg s:=by
  intro l;induction l with
  |nil=>intro cg _ q;rw[List.flatMap_nil,ha]at q;exact q
  |cons v l ap=>intro cg h q;exact h v (.head _) _ (ap _ (λw bF=>h w<|.tail _ bF)<|by rw[hK,<-qF];exact q)
 exact key bO [] h q
theorem Oi{av:Type}{f g:av->B}{m:ā}{all:HO av}(aN:s[m]?=some (.ls<|all.map f))(h:∀a∈all,∀bV:HO B->St->Prop,bV [g a] s->t (f a) s bV)(q:Q (.lst<|all.map g) s):j2 t Q (.ref m) s:=by
 refine gP.of aN ?_;rw[bT];have key:∀l done:HO av,all=done++l->n8 t Q m l.length done.length (done.map g) s:=by
  intro l;induction l with
  |nil=>intro done e;rw[ha]at e;exact gP.of aN ⟨by rw[e,bT],e▸q⟩
  |cons v l ap=>intro done e;refine gP.of aN<|ay.of (a:=f v) (by rw[e,gN];simp)<|h v (by rw[e];simp) _ ?_;have:=ap (done++[v]) (by rw[e,hK];rfl);rwa[c',cZ]at this
 exact key all [] rfl
end
theorem RM(a b:B)(ak:fv 16 a=true)(aw:fv 16 b=true):(a=b/\fd a b=some true)\/(a≠b/\fd a b=some false):=by have e:=yW (n:=16) ak aw<|dy _;exact(v4<|a=b).imp (λh=>⟨h.1,e.trans<|bI some h.2⟩) λh=>⟨h.1,e.trans<|bI some h.2⟩
theorem PE{a b:B}(ak:fv 16 a=true)(aw:fv 16 b=true)(ne:a≠b):fd a b=some false:=(yW ak aw<|dy _).trans<|bI some<|q3 ne
theorem Ab{x:B}(aA:fv 16 x=true){l:HO B}(h:∀a∈l,fv 16 a=true):(x∈l/\hN x l=some true)\/(x∉l/\hN x l=some false):=by rw[J2 aA h];exact(v4<|x∈l).imp (λh=>⟨h.1,bI some h.2⟩) λh=>⟨h.1,bI some h.2⟩
def rX(l:HO (B×B)):Prop:=∀p∈l,fv 16 p.1=true
theorem Hp{k a b:B}{r:HO (B×B)}(e:fd a k=some true):fA k ((a,b)::r)=some (some b):=by show(match fd a k with|some true=>some (some b)|some false=>fA k r|none=>none)=_;rw[e]
theorem JV{k a b:B}{r:HO (B×B)}(e:fd a k=some false):fA k ((a,b)::r)=fA k r:=by show(match fd a k with|some true=>some (some b)|some false=>fA k r|none=>none)=_;rw[e]
theorem Vg{k v a b:B}{r:HO (B×B)}(e:fd a k=some true):gW k v ((a,b)::r)=some ((a,v)::r):=by show(match fd a k with|some true=>some ((a,v)::r)|some false=>(gW k v r).map ((a,b)::·)|none=>none)=_;rw[e]
theorem Je{k v a b:B}{r:HO (B×B)}(e:fd a k=some false):gW k v ((a,b)::r)=(gW k v r).map ((a,b)::·):=by show(match fd a k with|some true=>some ((a,v)::r)|some false=>(gW k v r).map ((a,b)::·)|none=>none)=_;rw[e]
theorem zm{k:B}(aD:fv 16 k=true){l:HO (B×B)}(h:rX l):(∃v,(k,v)∈l/\fA k l=some (some v))\/(k∉l.map (·.1)/\fA k l=some none):=by
 induction l with
 |nil=>exact .inr ⟨λh=>(nomatch h),rfl⟩
 |cons p r ap=>
  induction p with|mk a b=>
  rcases RM a k (h _ (.head _)) aD with⟨rfl,e⟩|⟨ne,e⟩
  .exact .inl ⟨b,.head _,Hp e⟩
  .rw[JV e];exact(ap λp ae=>h p<|.tail _ ae).imp (λ⟨v,m,bz⟩=>⟨v,.tail _ m,bz⟩) λ⟨m,bz⟩=>⟨λq=>(ew.mp q).elim (λq=>ne q.symm) m,bz⟩
theorem yn{k v:B}(aD:fv 16 k=true){l:HO (B×B)}(h:rX l)(m:k∉l.map (·.1)):gW k v l=some (l++[(k,v)]):=by
 induction l with
 |nil=>rfl
 |cons p r ap=>
  induction p with|mk a b=>
  rw[gh,ew]at m;rw[Je<|PE (h _<|.head _) aD λq=>m<|.inl q.symm,ap (λp ae=>h p<|.tail _ ae) λq=>m<|.inr q];rfl
set_option tactic.hygienic false
def gF:ā->HO B->HO (B×B)
 |_,[]=>[]
 |k,r::t=>(r,.int k)::gF (k+1) t
def po:HO (ā×B):=[(0,.ref 2),(1,.ref 3),(2,.ref 4),(3,.ref 5),(4,.ref 6),(5,.ref 7),(6,.ref 8),(7,.ref 9),(8,.int 0),(9,.int 0)]
def AH:HO (ā×B):=[(25,.ref 1),(30,.int 0),(31,.int 200),(32,.int 40)]
structure dz where
 d:Nat
 nums:List B
 R:List B
 D:List B
 X:List c4
def dz.st (S:dz):St:=.ls [.int S.d,.lst S.nums]::.ins 0 po::.ls S.R::.cO (gF 0 S.R)::.ls S.D::.ls [.int<|-1,.int<|-1]::.ls [.int<|-1,.int<|-1]::.ls [.str [84],.str [80]]::.cO []::.cO []::.ins 4 AH::S.X
noncomputable abbrev dz.w (S:dz) (R:HO B):dz:={S with R:=R}
section
variable{n:ā}{S:dz}{s:St}{Q:B->St->Prop}{k:ā}
def ic (v:B):ZI:=match v with|.tup l=>eU 6 (.tup l)|_=>false
theorem P7{v:B}(h:ic v=true):eU 6 v=true:=by
 induction v using B.casesOn with
 |tup l=>exact h
 |_=>exact cH h
theorem xW{v:B}(h:ic v=true):fv 16 v=true:=BH (Ck<|P7 h) (by decide)
theorem Jz{v:B}(h:ic v=true):eH v=3:=by
 induction v using B.casesOn with
 |tup l=>exact bl h
 |_=>exact cH h
theorem lm{a b:ZI}(h:a=true)(k:b=true):(a&&b)=true:=by rw[h,k];rfl
theorem yo{av:Type}{d:ā}{f:av->B}{l:HO av}(h:∀a,eU d (f a)=true):eU (d+1) (.tup<|l.map f)=true:=d'.mpr λv af=>by obtain⟨a,_,rfl⟩:=dr.mp af;clear af;exact h a
def hm:HO B:=[.tup [.int 1,.str [97,110,121]],.tup [.int 1,.str [117,110,107,110,111,119,110]],.tup [.int 1,.str [110,101,118,101,114]],.tup [.int 1,.str [118,111,105,100]],.tup [.int 1,.str [117,110,100,101,102,105,110,101,100]],.tup [.int 1,.str [110,117,108,108]],.tup [.int 1,.str [115,116,114,105,110,103]],.tup [.int 1,.str [110,117,109,98,101,114]],.tup [.int 2,.int 0,.int 0],.tup [.int 2,.int 1,.int 0],.tup [.int 1,.str [111,98,106,101,99,116]],.tup [.int 8,.tup [],.tup [],.tup [],.tup [],.tup [],.int 0],.tup [.int 6,.tup [.int 8,.int 9]],.tup [.int 1,.str [101,114,114,111,114]],.tup [.int 2,.int 0,.int 1],.tup [.int 2,.int 1,.int 1],.tup [.int 10,.int 0],.tup [.int 10,.int 1]]
structure Rows(R:List B):Prop where
 base:∃e,R=hm++e
 b7:R.Nodup
 row:∀v∈R,ic v=true
structure a9(R aa:List B)(c:Nat):Prop where
 ok:Rows aa
 ext:∃e,aa=R++e/\e.length<=c
theorem a9.refl{R:HO B}(h:Rows R){c:ā}:a9 R R c:=⟨h,[],by simp,by simp⟩
theorem a9.trans{R aa i5:HO B}{a b:ā}(x:a9 R aa a)(y:a9 aa i5 b):a9 R i5 (a+b):=by obtain⟨_,e,rfl,h⟩:=x;obtain⟨o,f,rfl,aR⟩:=y;exact⟨o,e++f,by simp,by rw[c'];lia⟩
theorem a9.le{R aa:HO B}{a b:ā}(x:a9 R aa a)(h:a<=b):a9 R aa b:=by obtain⟨o,e,rfl,aR⟩:=x;exact⟨o,e,rfl,by lia⟩
theorem a9.len{R aa:HO B}{a:ā}(x:a9 R aa a):aa.length<=R.length+a:=by obtain⟨o,e,rfl,aR⟩:=x;rw[c'];lia
theorem a9.at{R aa:HO B}{a t:ā}{v:B}(x:a9 R aa a)(h:R[t]?=some v):aa[t]?=some v:=by obtain⟨o,e,rfl,aR⟩:=x;rw[o7 (g9.mp h).1];exact h
theorem a9.room{R aa:HO B}{x b k:ā}(g:a9 R aa x)(aq:R.length+b<=a3)(h:x+k<=b):aa.length+k<=a3:=aI (fP g.len k) (by rw[rg];exact aI (gr h _) aq)
theorem tm{av:Type}{all done a_:HO av}{a:av}{N:ā}(c:ā)(e:all=done++a::a_)(h:all.length<=N):c*done.length+c<=c*N:=hf c<|aI (by rw[e,c'];exact gr (dc<|f8 _) _) h
theorem a9.step{av:Type}{R aa bu:HO B}{c d:ā}{done:HO av}{a:av}(g:a9 R aa (c*done.length))(bh:a9 aa bu d)(h:d<=c):a9 R bu (c*(done++[a]).length):=(g.trans bh).le (by rw[c',pv,Nat.mul_add,Nat.mul_one];exact gr h _)
theorem a9.turn{av:Type}{R aa:HO B}{c N b k:ā}{all done a_:HO av}{a:av}(g:a9 R aa (c*done.length))(e:all=done++a::a_)(aj:all.length<=N)(aq:R.length+b<=a3)(G:Nat.ble k c=true:=by rfl)(E:Nat.ble (c*N) b=true:=by rfl):aa.length+k<=a3:=g.room aq<|aI (gr (aG G) _)<|aI (tm c e aj)<|aG E
theorem oD{av:Type}{all done a_:HO av}{a:av}{N:ā}(e:all=done++a::a_)(h:all.length<=N):done.length+1<=N:=aI (by rw[e,c'];exact gr (dc<|f8 _) _) h
theorem NO{av:Type}{c x y:ā}{done:HO av}{a:av}(h:x<=c*done.length)(k:y<=c):x+y<=c*(done++[a]).length:=by rw[c',pv,Nat.mul_add,Nat.mul_one];exact gI h k
theorem yz{av b8:Type}{f:av->b8}{a b:HO av}{k:ā}(h:a.length+b.length<=k)(e:Nat.ble k 1000=true:=by rfl):(a.map f).length+(b.map f).length<=1000:=by rw[bT,bT];exact aI h<|aG e
theorem uH{av b8:Type}{f:av->b8}{l:HO av}{k:ā}(h:l.length+1<=k)(e:Nat.ble k a3=true:=by rfl):(l.map f).length+1<=a3:=by rw[bT];exact aI h<|aG e
theorem Rows.inj{R:HO B}(h:Rows R){s t:ā}{v:B}(G:R[s]?=some v)(E:R[t]?=some v):s=t:=by obtain⟨a,ag⟩:=g9.mp G;obtain⟨b,a8⟩:=g9.mp E;exact(List.getElem_inj h.b7).mp<|ag.trans a8.symm
theorem Rows.at{R:HO B}(h:Rows R){t:ā}{v:B}(e:hm[t]?=some v):R[t]?=some v:=by obtain⟨f,rfl⟩:=h.base;rw[o7 (g9.mp e).1];exact e
theorem qr{t n:ā}(h:t<n):jH (t:Ă) n=some t:=by unfold jH;rw[bl<|mG t];simp[h]
theorem xH{dC:Type}{s:St}{n c:ā}{l:HO (ā×B)}{k:ā->ā->HO (ā×B)->Z5 dC}(h:s[n]?=some (.ins c l)):o3 s (.ref n) k=k n c l:=by show(s[n]?).bind _=_;rw[h];rfl
theorem yO{s:St}{n c a:ā}{l:HO (ā×B)}{v:B}(h:s[n]?=some (.ins c l))(aj:l.length<=900):nW s (.ref n) a v=some (s.set n<|.ins c<|putAt a v l):=(xH h).trans<|bl aj
theorem t5{av:Type}{f:av->B}{l:HO av}{v:ā}(h:v<l.length):∃a∈l,∀s,hn s (.lst<|l.map f) (.int (v:ā))=some (f a):=⟨l[v],List.getElem_mem h,λs=>by show(jH (v:Ă) (l.map f).length).bind _=_;rw[qr<|by rw[bT];exact h];show(l.map f)[v]?=_;rw[gN,fr h];rfl⟩
theorem gV{v n:ā}(h:(v:Ă)<(n:Ă)):v<n:=ix.mp h
theorem sk{v:ā}(h:v<2):v=0\/v=1:=(by decide:∀v,v<2->v=0\/v=1) v h
theorem Nw{v:ā}(h:v<3):v=0\/v=1\/v=2:=(by decide:∀v,v<3->v=0\/v=1\/v=2) v h
theorem wQ{v:ā}(h:v<4):v=0\/v=1\/v=2\/v=3:=(by decide:∀v,v<4->v=0\/v=1\/v=2\/v=3) v h
theorem pO{S:dz}{t:ā}{v:B}(h:S.R[t]?=some v):hn S.st (.ref 2) (.int t)=some v:=by show(jH (t:Ă) S.R.length).bind _=_;rw[qr (g9.mp h).1];exact h
theorem ay.row{S:dz}{t:ā}{v:B}{Q:B->Prop}(h:S.R[t]?=some v)(q:Q v):ay (hn S.st (.ref 2)<|.int t) Q:=ay.of (pO h) q
local macro_rules |`(tactic|k_go)=>`(tactic|(refine bc.fn rfl rfl ?_;dsimp only[List.map_cons,List.map_nil,List.cons_append,List.nil_append,List.append_nil,List.length_cons,List.length_nil,List.drop_nil,List.drop_succ_cons,List.drop_zero,List.replicate_succ,List.replicate_zero,Nat.reduceAdd,Nat.reduceSub,Nat.zero_add]))
local macro_rules |`(tactic|lk)=>`(tactic|((conv=>whnf);(repeat'((first|with_reducible apply cF.cons|with_reducible apply cF.nil|refine ay.row (by assumption) ?_);(conv=>whnf)));try first|refine pI.go (by with_reducible assumption) ?_|(refine rR.go (by with_reducible assumption) ?_;conv=>whnf)))
theorem QU{R:HO B}:∀{k:ā} {v w:B},(v,w)∈gF k R->∃i,R[i]?=some v/\w=.int ((k+i:ā):Ă):=by
 induction R with
 |nil=>exact λh=>nomatch h
 |cons r t ap=>
  intro k v w h;rcases ew.mp h with e|h
  .cases e;exact⟨0,rfl,rfl⟩
  .obtain⟨i,G,E⟩:=ap h;exact⟨i+1,G,E.trans<|bI (λn:ā=>B.int n)<|ro k i⟩
theorem wO(R:HO B):∀k:ā,(gF k R).map (·.1)=R:=by
 induction R with
 |nil=>exact λ_=>rfl
 |cons r t ap=>exact λk=>bI (List.cons r)<|ap<|k+1
theorem Mn(R:HO B):∀(k:ā) (v:B),gF k (R++[v])=gF k R++[(v,.int ((k+R.length:ā):Ă))]:=by
 induction R with
 |nil=>exact λ_ _=>rfl
 |cons r t ap=>exact λk v=>(bI (List.cons _)<|ap (k+1) v).trans<|bI (λn:ā=>(r,B.int k)::(gF (k+1) t++[(v,B.int n)]))<|ro k t.length
theorem O9(R:HO B)(k:ā):(gF k R).length=R.length:=by have:=bI List.length<|wO R k;rwa[bT]at this
theorem SK{R:HO B}(h:∀v∈R,ic v=true){v:B}(af:ic v=true):eo v (gF 0 R)=true:=by unfold eo;rw[Jz af];exact lm rfl (d'.mpr λp ae=>fL.mpr<|Jz<|h _<|by rw[<-wO R 0];exact fw ae)
theorem E_{R:HO B}(h:∀v∈R,ic v=true):rX (gF 0 R):=λp ae=>xW (h _<|by rw[<-wO R 0];exact fw ae)
theorem x6{n:ā}{x:c4}{R:HO B}{iT:St}{row:B}{Q:B->St->Prop}(T:∀v∈R,ic v=true)(bn:ic row=true)(aq:R.length+1<=a3)(G:∀i:ā,R[i]?=some row->Q (.int i) (x::.ins 0 po::.ls R::.cO (gF 0 R)::iT))(E:row∉R->Q (.int R.length) (x::.ins 0 po::.ls (R++[row])::.cO (gF 0<|R++[row])::iT)):bc (n+1) 1 [.ref 1,row] (x::.ins 0 po::.ls R::.cO (gF 0 R)::iT) Q:=by
 k_go;have y1:=SK T bn;rcases zm (xW bn) (E_ T)with⟨v,m,e⟩|⟨m,e⟩
 .obtain⟨i,aB,rfl⟩:=QU m;clear m;refine ay.of (a:=true) (by show(if eo row (gF 0 R)then(fA row<|gF 0 R).map (·.isSome)else none)=_;rw[y1,e];rfl) ?_;refine ay.of (a:=.int ((0+i:ā):Ă)) (by show(if eo row (gF 0 R)then(fA row<|gF 0 R).bind id else none)=_;rw[y1,e];rfl) ?_;rw[iM];exact G i aB
 .refine ay.of (a:=false) (by show(if eo row (gF 0 R)then(fA row<|gF 0 R).map (·.isSome)else none)=_;rw[y1,e];rfl) ?_;refine⟨aq,ay.of (a:=x::.ins 0 po::.ls (R++[row])::.cO (gF 0<|R++[row])::iT) ?_<|E<|by rwa[wO]at m⟩;show(if eo row (gF 0 R)then(gW row (.int R.length)<|gF 0 R).bind λl=>i3 l.length (x::c4.ins 0 po::.ls (R++[row])::.cO l::iT)else none)=_;rw[y1,yn (xW bn) (E_ T) m,Mn,iM];have aj:(gF 0 R++[(row,B.int R.length)]).length<=a3:=by rw[c',O9];exact aq
  exact bl aj
theorem fb{n:ā}{S:dz}{row:B}{Q:B->St->Prop}(T:Rows S.R)(bn:ic row=true)(aq:S.R.length+1<=a3)(h:∀(t:ā) aa,a9 S.R aa 1->aa[t]?=some row->Q (.int t) (S.w aa).st):bc (n+1) 1 [.ref 1,row] S.st Q:=x6 T.row bn aq (λi e=>h i S.R (a9.refl T) e) λno=>h S.R.length _ ⟨⟨let⟨e,a6⟩:=T.base;⟨e++[row],by rw[a6,hK]⟩,nc.mpr ⟨T.b7,by simp,λa ak b aw q=>no<|by rw[cX]at aw;rw[<-aw,<-q];exact ak⟩,λv af=>(gd.mp af).elim (T.row v) λaf=>cX.mp af▸bn⟩,[row],rfl,dy _⟩ (by simp)
noncomputable abbrev au (n:ā):B:=.int (n:Ă)
theorem VV{a b:ā}(h:a≠b):¬((a:Ă)=(b:Ă)):=by lia
theorem DS(a b:ā):fd (au a) (au b)=some (decide<|a=b):=by
 show some (decide<|(a:Ă)=(b:Ă))=_;congr 1;by_cases h:a=b
 .simp[h]
 .rw[eA h,eA<|VV h]
def dl (bK:HO ā):HO (B×B):=bK.map λp=>(au p,.int 1)
theorem uv{av:Type}{k:B}{f:av->B×B}{l:HO av}(aU:(eH k !=0)=true)(h:∀a,(eH (f a).1==eH k)=true):eo k (l.map f)=true:=by show(eH k !=0&&(l.map f).all _)=true;rw[aU,py];exact d'.mpr λa _=>h a
theorem S2(p:ā)(bK:HO ā):eo (au p) (dl bK)=true:=uv rfl λ_=>rfl
theorem Sk(p:Ă)(bK:HO ā):eo (.int p) (dl bK)=true:=uv rfl λ_=>rfl
theorem SI(p:ā)(bK:HO ā):gW (au p) (.int 1) (dl bK)=some (dl<|if p∈bK then bK else bK++[p]):=by
 induction bK with
 |nil=>rfl
 |cons g r ap=>
  by_cases h:g=p
  .subst h;exact(Vg<|(DS g g).trans<|bI some<|dL rfl).trans (by rw[bl<|.head _];rfl)
  .refine(Je<|(DS g p).trans<|bI some<|eA h).trans ?_;show(gW _ _<|dl r).map _=_;rw[ap];by_cases m:p∈r
   .rw[bl m,bl<|.tail _ m];rfl
   .rw[bm m,bm λq=>(ew.mp q).elim (λq=>h q.symm) m];rfl
theorem MC(p:Ă)(bK:HO ā):fA (.int p) (dl bK)=some (if(∃g∈bK,(g:Ă)=p)then some (.int 1)else none):=by
 induction bK with
 |nil=>rw[bm λ⟨_,h,_⟩=>nomatch h];rfl
 |cons g r ap=>
  by_cases h:(g:Ă)=p
  .exact(Hp<|show fd (au g) (.int p)=_ from bI some<|dL h).trans (by rw[bl ⟨g,.head _,h⟩])
  .refine(JV<|show fd (au g) (.int p)=_ from bI some<|eA h).trans<|ap.trans ?_;by_cases m:∃g∈r,(g:Ă)=p
   .rw[bl m,bl<|m.elim λg h=>⟨g,.tail _ h.1,h.2⟩]
   .rw[bm m,bm λ⟨x,q,e⟩=>(ew.mp q).elim (λq=>h<|q▸e) λq=>m ⟨x,q,e⟩]
theorem q0(p:Ă)(bK:HO ā):contains (.int p) (.bb<|dl bK)=some (decide (∃g∈bK,(g:Ă)=p)):=by
 show(if eo (.int p) (dl bK)then(fA (.int p)<|dl bK).map (·.isSome)else none)=_;rw[Sk,MC,bl rfl];by_cases h:∃g∈bK,(g:Ă)=p
 .rw[bl h,dL h];rfl
 .rw[bm h,eA h];rfl
theorem RS(bK:HO ā)(h:bK.Nodup):∃cQ:HO ā,iZ (bK.map au)=some (cQ.map au)/\cQ.Pairwise (· <·)/\(∀p,p∈cQ↔p∈bK)/\cQ.length=bK.length:=by obtain⟨cQ,e,G,E⟩:=vu (f:=au) (b:=λ(x y:ā)=>decide<|(x:Ă)<(y:Ă)) (R:=(· <·)) (λ_ _ _=>rfl) (λ_ _ h=>ix.mp<|fj h) (λ_ _ n h=>Nat.lt_of_le_of_ne (q1 λq=>ra h<|ix.mpr q)<|ip n) (λ_ _ _ a b=>rb (ix.mp<|fj a) b) h;exact⟨cQ,e,G,λ_=>E.mem_iff,E.length_eq⟩
theorem Od{bK:HO ā}(h:bK.Nodup)(aj:bK.length<64):∃cQ:HO ā,k2 .sorted [.bb<|dl bK]=some (.lst<|cQ.map au)/\cQ.Pairwise (· <·)/\(∀p,p∈cQ↔p∈bK)/\cQ.length=bK.length:=by
 obtain⟨cQ,e,G,E,aC⟩:=RS bK h;refine⟨cQ,?_,G,E,aC⟩;have aB:items (.bb<|dl bK)=some (bK.map au):=by
  have:((dl bK).all λe=>eH e.1==1)=true:=by unfold dl;rw[py];exact d'.mpr λ_ _=>rfl
  show(if(((dl bK).all λe=>eH e.1==1)||((dl bK).all λe=>eH e.1==2))=true then some ((dl bK).map (·.1))else none)=_;rw[this,Bool.true_or,bl rfl];unfold dl;rw[f2];rfl
 show((items<|.bb<|dl bK).bind λl=>if l.length<64 then iZ l else none).map B.lst=_;rw[aB];show(if(bK.map au).length<64 then iZ (bK.map au)else none).map B.lst=_;rw[bT,bl aj,e];rfl
inductive nS:List B->Int->Prop
 |txt (x:bx):nS [.int 3,.str x,.int 0] 6
 |num (i:Int):nS [.int 4,.int i,.int 0] 7
 |key (x:bx):nS [.int 1,.str x] (-1)
 |arr (e aV:Int):nS [.int 11,.int e,.int aV] (-1)
 |idx (a b:Int):nS [.int 15,.int a,.int b] (-1)
 |par (i:Int):nS [.int 10,.int i] (-1)
structure gf(R:List B)(p:Nat)(w:Int):Prop where
 row:∃l,R[p]?=some (.tup l)/\nS l w
 odd:p≠2/\p≠0/\p≠1/\p≠13/\p≠8/\p≠9/\p≠14/\p≠15
theorem gf.bf{R aa:HO B}{c p:ā}{w:Ă}(h:gf R p w)(x:a9 R aa c):gf aa p w:=by obtain⟨⟨l,G,E⟩,aC⟩:=h;exact⟨⟨l,x.at G,E⟩,aC⟩
structure ek(R:List B)(t:Nat)(ai:List Nat):Prop where
 fx:ai.Pairwise (· <·)
 pt:∀p∈ai,∃w,gf R p w/\∀q∈ai,(q:Int)≠w
 is:(ai=[]/\t=2)\/ai=[t]\/(2<=ai.length/\t≠2/\R[t]?=some (.tup [.int 6,.tup<|ai.map au]))
theorem ek.bf{R aa:HO B}{c t:ā}{ai:HO ā}(h:ek R t ai)(x:a9 R aa c):ek aa t ai:=⟨h.fx,λp ae=>(h.pt p ae).imp λw bF=>⟨bF.1.bf x,bF.2⟩,h.is.imp id<|Or.imp id λ⟨a,b,c⟩=>⟨a,b,x.at c⟩⟩
theorem uG{a b:HO ā}:a.Pairwise (· <·)->b.Pairwise (· <·)->(∀p,p∈a↔p∈b)->a=b:=GZ λ_ _ p q=>Nat.lt_asymm p q
theorem ek.inj{R:HO B}(T:Rows R){s t:ā}{ai:HO ā}(G:ek R s ai)(E:ek R t ai):s=t:=by
 rcases G.is with⟨rfl,e⟩|rfl|⟨a,_,e⟩
 .rcases E.is with⟨_,bz⟩|bz|⟨a,_⟩
  .rw[e,bz]
  .cases bz
  .simp at a
 .rcases E.is with⟨bz,_⟩|bz|⟨a,_⟩
  .cases bz
  .cases bz;rfl
  .simp at a
 .rcases E.is with⟨rfl,_⟩|rfl|⟨hg,_,bz⟩
  .simp at a
  .simp at a
  .exact T.inj e bz
theorem bj.fm{c:Prop}[Decidable c]{p q:Prop}(h:¬c)(x:q):bj (je<|.bool<|decide c) p q:=by rw[eA h];exact x
theorem bj.qs{c:Prop}[Decidable c]{p q:Prop}(h:c)(x:p):bj (je<|.bool<|decide c) p q:=by rw[dL h];exact x
theorem bj.en{c:Prop}[Decidable c]{p q:Prop}(G:c->p)(E:¬c->q):bj (je<|.bool<|decide c) p q:=bj.d G E
theorem bj.h4{b:ZI}{p q:Prop}(h:b=false)(x:q):bj (je<|.bool b) p q:=by rw[h];exact x
theorem bj.l3{b:ZI}{p q:Prop}(h:b=true)(x:p):bj (je<|.bool b) p q:=by rw[h];exact x
theorem zy{t:ā}{ai:HO ā}(h:ek S.R t ai)(q:Q (.tup<|ai.map au) S.st):bc (n+1) 14 [.ref 1,au t] S.st Q:=by
 k_go;rcases h.is with⟨rfl,rfl⟩|rfl|⟨a,b,e⟩
 .lk;exact q
 .obtain⟨w,⟨⟨l,G,E⟩,aC⟩,_⟩:=h.pt t<|.head _;lk;refine bj.fm (by lia) ?_;induction E<;>(lk;exact q)
 .lk;refine bj.fm (by lia) ?_;lk;exact q
theorem XJ{l:HO B}{w:Ă}(h:nS l w)(q:Q (.int w) s):bc (n+1) 15 [.tup l] s Q:=by k_go;induction h<;>(exact q)
theorem Ov{t:ā}{w:Ă}(h:gf S.R t w)(q:Q (.int<|-1) S.st):bc (n+1) 16 [.ref 1,au t] S.st Q:=by k_go;obtain⟨⟨l,G,E⟩,aC⟩:=h;induction E<;>(lk;exact q)
def CK(bK:HO ā):Prop:=∀g∈bK,g≠2/\g≠0/\g≠1/\g≠13/\g≠8/\g≠9/\g≠14/\g≠15
theorem Wg{bK:HO ā}(h:CK bK)(q:Q (.int<|-1) s):bc (n+1) 19 [.bb<|dl bK] s Q:=by have no:∀k:ā,(∀g∈bK,g≠k)->¬∃g∈bK,(g:Ă)=k:=λk aD ⟨g,d_,e⟩=>aD g d_<|Int.ofNat_inj.mp e;k_go;lk;refine ay.of (q0 _ bK)<|bj.fm (no 0 λg d_=>(h g d_).2.1) ?_;lk;refine ay.of (q0 _ bK)<|bj.fm (no 13 λg d_=>(h g d_).2.2.2.1) ?_;lk;refine ay.of (q0 _ bK)<|bj.fm (no 1 λg d_=>(h g d_).2.2.1) ?_;lk;exact q
theorem YT{bK:HO ā}(h:CK bK)(q:Q .none s):bc (n+1) 17 [.bb<|dl bK] s Q:=by have no:∀k:ā,(∀g∈bK,g≠k)->¬∃g∈bK,(g:Ă)=k:=λk aD ⟨g,d_,e⟩=>aD g d_<|Int.ofNat_inj.mp e;k_go;exact ay.of (q0 _ bK)<|bj.fm (no 8 λg d_=>(h g d_).2.2.2.2.1)<|ay.of (q0 _ bK)<|bj.fm (no 14 λg d_=>(h g d_).2.2.2.2.2.2.1)<|bj.fm (no 14 λg d_=>(h g d_).2.2.2.2.2.2.1) q
theorem U0{bK:HO ā}{t:ā}{w:Ă}(h:gf S.R t w)(q:Q (.bool<|!decide (∃g∈bK,(g:Ă)=w)) S.st):bc (n+2) 18 [.ref 1,.bb<|dl bK,au t] S.st Q:=by k_go;refine Ov h<|ay.of (q0 _ bK)<|bj.fm (λ⟨g,_,e⟩=>by lia) ?_;obtain⟨⟨l,G,E⟩,aC⟩:=h;lk;refine XJ E ?_;refine ay.of (show hC .fV S.st (.int w) (.bb<|dl bK)=_ from by show(contains (.int w)<|.bb<|dl bK).map (!·)=_;rw[q0];rfl) ?_;exact q
def rl (R:HO B) (p:ā):Ă:=match R[p]? with
 |some (.tup (.int 3::_))=>6
 |some (.tup (.int 4::_))=>7
 |_=> -1
theorem gf.w{R:HO B}{p:ā}{w:Ă}(h:gf R p w):rl R p=w:=by obtain⟨⟨l,G,E⟩,_⟩:=h;unfold rl;rw[G];induction E<;>rfl
def qQ(R:HO B)(aP:HO ā)(p:ā):Prop:=p∈aP/\∀q∈aP,(q:Ă)≠rl R p
def jo (bK l:HO ā):HO ā:=l.foldl (λbK p=>if p∈bK then bK else bK++[p]) bK
theorem IA(l:HO ā):∀bK,bK.Nodup->(jo bK l).Nodup/\(∀p,p∈jo bK l↔p∈bK\/p∈l)/\(jo bK l).length<=bK.length+l.length:=by
 induction l with
 |nil=>exact λbK h=>⟨h,λp=>(or_iff_left List.not_mem_nil).symm,dy _⟩
 |cons a l ap=>
  intro bK h;by_cases c:a∈bK
  .obtain⟨G,E,aC⟩:=ap bK h;rw[show jo bK (a::l)=jo bK l by show jo (if a∈bK then bK else bK++[a]) l=_;rw[bl c]];exact⟨G,λp=>(E p).trans ⟨λh=>h.imp id<|.tail _,λh=>h.elim .inl λh=>(ew.mp h).elim (λe=>.inl<|e▸c) .inr⟩,iF aC⟩
  .obtain⟨G,E,aC⟩:=ap (bK++[a])<|nc.mpr ⟨h,by simp,λx aA y a1 e=>c<|cX.mp a1▸e▸aA⟩;rw[show jo bK (a::l)=jo (bK++[a]) l by show jo (if a∈bK then bK else bK++[a]) l=_;rw[bm c]];refine⟨G,λp=>(E p).trans ?_,?_⟩
   .rw[gd,cX,ew,or_assoc]
   .rw[c',pv,rg,qp 1]at aC;exact aC
theorem M9(ai:HO ā):ic (.tup [.int 6,.tup<|ai.map au])=true:=lm (yo λ_=>rfl) rfl
theorem wB{av:Type}{f:av->B}{p:av->ZI}{N:HO av}{x:B}{t:B->St->(HO B->St->Prop)->Prop}(G:items x=some (N.map f))(h:∀a∈N,∀K:HO B->St->Prop,K (if p a=true then [f a]else []) s->t (f a) s K)(q:Q (.lst<|(N.filter p).map f) s):j2 t Q x s:=by
 refine fk.mp (all:=N) (f:=f) G (λdone K=>K ((done.filter p).map f) s) (λdone a a_ ag K ab=>h a (by rw[ag];exact iJ _<|.head _) _ ?_) q λK ab=>ab;rw[mv,cZ,hM]at ab;induction ae:p a using Bool.casesOn with
 |true=>rw[ae]at ab;exact ab
 |false=>rw[ae]at ab;exact ab
def Gj (arg:B) (bK:HO ā) (x y:cq):aJ:=[.val<|.ref 1,.val arg,.od<|dl bK,x,y,.un,.un,.un]
theorem vr{aS:HO (ā×HO ā)}{arg:B}(T:Rows S.R)(ak:items arg=some (aS.map λu=>au u.1))(a4:∀u∈aS,ek S.R u.1 u.2)(aj:(aS.flatMap Prod.snd).length<64)(aq:S.R.length+1<=a3)(q:∀t ai aa,a9 S.R aa 1->ek aa t ai->(∀p,p∈ai↔qQ S.R (aS.flatMap Prod.snd) p)->Q (au t) (S.w aa).st):bc (n+3) 20 [.ref 1,arg] S.st Q:=by
 have CA:∀p∈aS.flatMap Prod.snd,∃w,gf S.R p w:=λp ae=>by obtain⟨t,dX,ae⟩:=jV.mp ae;exact((a4 t dX).pt p ae).imp λw bF=>bF.1
 have g4:∀l m,aS.flatMap Prod.snd=l++m->(dl<|jo [] l).length<=a3:=λl m e=>by unfold dl;rw[bT];rw[e,c']at aj;exact aI (IA l [] q5).2.2<|aI (j4<|hI (by rw[List.length_nil,iM];exact nz _ _) aj)<|aG rfl
 k_go;refine ay.of ak<|cF.mp (all:=aS) (f:=λu=>au u.1) rfl (λdone K=>∀x y,K (Gj arg (jo []<|done.flatMap Prod.snd) x y) S.st) (λdone t a_ ag K ab x y=>?_) (λx y=>?_) λK ab=>ab _ _
 .refine zy (a4 t<|by rw[ag];exact iJ _<|.head _) ?_;lk;refine cF.mp (all:=t.2) (f:=au) rfl (λsz K=>∀y,K (Gj arg (jo []<|done.flatMap Prod.snd++sz) (.val<|au t.1) y) S.st) (λsz p YG a8 K ab y=>?_) (λy=>?_) λK ab=>by rw[ha]at ab;exact ab _
  .have e':jo [] (done.flatMap Prod.snd++(sz++[p]))=if p∈jo [] (done.flatMap Prod.snd++sz)then jo [] (done.flatMap Prod.snd++sz)else jo [] (done.flatMap Prod.snd++sz)++[p]:=by rw[<-hK];exact List.foldl_append
   lk;refine⟨S2 p _,ay.of (SI p _) ?_⟩;rw[<-e'];refine⟨g4 _ (YG++a_.flatMap Prod.snd) (by rw[ag,r7,qF,a8];simp),?_⟩;lk;exact ab _
  .rw[r7,te]at ab;lk;exact ab _ _
 .obtain⟨b7,d_,sq⟩:=IA (aS.flatMap Prod.snd) [] q5;generalize jo [] (aS.flatMap Prod.snd)=bK at b7 d_ sq⊢;replace d_:∀p,p∈bK↔p∈aS.flatMap Prod.snd:=λp=>(d_ p).trans<|or_iff_right<|List.not_mem_nil;have F0:CK bK:=λg S6=>by obtain⟨w,h⟩:=CA g<|(d_ g).mp S6;exact h.odd
  rw[List.length_nil,iM]at sq;obtain⟨cQ,nP,sA,k7,tT⟩:=Od b7<|hI sq aj;refine Wg F0<|YT F0<|dg.ny rfl<|ay.of (show pb .sorted S.st [.bb<|dl bK]=_ from nP)<|wB (N:=cQ) (f:=au) (p:=λp=> !decide (∃g∈bK,(g:Ă)=rl S.R p)) rfl (λp ae K ab=>?_) ?_
  .obtain⟨w,h⟩:=CA p<|(d_ p).mp<|(k7 p).mp ae;refine eO.mk<|U0 h ?_;rw[<-h.w];induction c:(!decide (∃g∈bK,(g:Ă)=rl S.R p))using Bool.casesOn with
   |true=>rw[c]at ab;exact bj.l3 rfl ab
   |false=>rw[c]at ab;exact bj.h4 rfl ab
  generalize wr:(cQ.filter λp=> !decide (∃g∈bK,(g:Ă)=rl S.R p))=ai;have jB:∀p,p∈ai↔qQ S.R (aS.flatMap Prod.snd) p:=by
   intro p;rw[<-wr,gx,k7,d_];unfold qQ;constructor
   .rintro⟨G,E⟩;refine⟨G,λz hz e=>?_⟩;simp only[kn,mD]at E;exact E ⟨z,(d_ z).mpr hz,e⟩
   .rintro⟨G,E⟩;refine⟨G,?_⟩;simp only[kn,mD];rintro⟨z,hz,e⟩;exact E z ((d_ z).mp hz) e
  have DW:ai.Pairwise (· <·):=by rw[<-wr];exact sA.filter _
  have r9:∀p∈ai,∃w,gf S.R p w/\∀z∈ai,(z:Ă)≠w:=λp ae=>by obtain⟨G,E⟩:=(jB p).mp ae;obtain⟨w,h⟩:=CA p G;refine⟨w,h,λz hz=>?_⟩;rw[<-h.w];exact E z ((jB z).mp hz).1
  have r':ai.length<64:=by
   have:ai.length<=cQ.length:=by rw[<-wr];exact ms _ _
   lia
  induction ai using List.casesOn with
  |nil=>exact q 2 [] S.R (a9.refl T) ⟨.nil,r9,.inl ⟨rfl,rfl⟩⟩ jB
  |cons a r=>
  induction r with
  |nil=>exact q a [a] S.R (a9.refl T) ⟨DW,r9,.inr<|.inl rfl⟩ jB
  |cons b r=>
  refine bj.fm (by simp only[bT,nA]at r'⊢;lia) ?_;refine fb T (M9<|a::b::r) aq λt aa g e=>q t (a::b::r) aa g ⟨DW,λp ae=>(r9 p ae).imp λw bF=>⟨bF.1.bf g,bF.2⟩,.inr<|.inr ⟨by simp,λE=>?_,e⟩⟩ jB;subst E;have:=g.ok.at (t:=2) rfl;rw[e]at this;cases this
theorem ek.one{R:HO B}{t p:ā}{ai:HO ā}(h:ek R t ai)(ae:p∈ai):ek R p [p]:=by obtain⟨w,G,E⟩:=h.pt p ae;refine⟨by simp,λq a'=>?_,.inr<|.inl rfl⟩;rw[cX]at a';subst a';exact⟨w,G,λz hz=>by rw[cX]at hz;subst hz;exact E z ae⟩
theorem gf.key{R:HO B}(T:Rows R){p:ā}(h:p=4\/p=5\/p=6\/p=7):gf R p (-1):=by rcases h with e|e|e|e<;>rw[e]<;>exact⟨⟨_,T.at rfl,.key _⟩,by decide⟩
theorem ek.key{R:HO B}(T:Rows R){p:ā}(h:p=4\/p=5\/p=6\/p=7):ek R p [p]:=⟨by simp,λq a'=>by rw[cX]at a';subst a';exact⟨-1,gf.key T h,λz _=>by lia⟩,.inr<|.inl rfl⟩
theorem ek.four{R:HO B}(T:Rows R){ai:HO ā}(h:ek R 4 ai):ai=[4]:=by
 rcases h.is with⟨_,e⟩|e|⟨_,_,e⟩
 .cases e
 .exact e
 .have:=T.at (t:=4) rfl;rw[e]at this;cases this
theorem So{R:HO B}(T:Rows R){t:ā}{ai:HO ā}(h:ek R t ai)(p:ā):qQ R (ai++[4]) p↔p∈ai\/p=4:=by
 unfold qQ;rw[gd,cX];refine⟨λh=>h.1,λae=>⟨ae,λz hz=>?_⟩⟩;have bF:∃w,gf R p w/\∀q∈ai,(q:Ă)≠w:=by
  rcases ae with ae|rfl
  .exact h.pt p ae
  .exact⟨-1,gf.key T<|.inl rfl,λz _=>by lia⟩
 obtain⟨w,G,E⟩:=bF;rw[G.w];rcases gd.mp hz with hz|hz
 .exact E z hz
 .rw[cX]at hz;subst hz;obtain⟨⟨l,_,aj⟩,_⟩:=G;induction aj<;>decide
theorem DO{R:HO B}{t:ā}{ai:HO ā}(h:ek R t ai){aP:HO ā}(cs:∀p∈aP,p∈ai)(p:ā):qQ R aP p↔p∈aP:=by refine⟨λh=>h.1,λae=>⟨ae,λz hz=>?_⟩⟩;obtain⟨w,G,E⟩:=h.pt p<|cs p ae;rw[G.w];exact E z<|cs z hz
theorem y'{t:ā}{ai:HO ā}{arg:B}(T:Rows S.R)(a4:ek S.R t ai)(ak:items arg=some [au t,au 4])(aj:ai.length<63)(aq:S.R.length+1<=a3)(q:∀dM dP aa,a9 S.R aa 1->ek aa dM dP->(∀p,p∈dP↔p∈ai\/p=4)->Q (au dM) (S.w aa).st):bc (n+3) 20 [.ref 1,arg] S.st Q:=by
 refine vr (aS:=[(t,ai),(4,[4])]) T ak ?_ (by simp;lia) aq λdM dP aa g u m=>?_
 .intro u aN;rcases ew.mp aN with rfl|aN
  .exact a4
  .rw[cX]at aN;subst aN;exact ek.key T<|.inl rfl
 .refine q dM dP aa g u λp=>?_;rw[m p,<-So T a4 p];simp
theorem Rv{t:ā}{ai:HO ā}(T:Rows S.R)(a4:ek S.R t ai)(aj:ai.length<63)(aq:S.R.length+1<=a3)(q:∀dM dP aa,a9 S.R aa 1->ek aa dM dP->(∀p,p∈dP↔p∈ai\/p=4)->Q (au dM) (S.w aa).st):bc (n+4) 22 [.ref 1,au t] S.st Q:=by k_go;exact y' T a4 rfl aj aq λdM dP aa g u m=>q dM dP aa g u m
theorem HG{t:ā}{ai:HO ā}(T:Rows S.R)(a4:ek S.R t ai)(aj:ai.length<64)(aq:S.R.length+1<=a3)(q:∀dM aa,a9 S.R aa 1->ek aa dM (ai.filter λp=> !decide (p=4))->Q (au dM) (S.w aa).st):bc (n+4) 21 [.ref 1,au t,.lst [.int 4]] S.st Q:=by
 k_go;refine dg.ny rfl<|zy a4 ?_;have Dy:∀l:HO ā,(l.map au).flatMap (λv=>match v with|.int p=>if(!decide (p.toNat=4))=true then [v]else []|_=>[])=((l.filter λp=> !decide (p=4)).map λp=>(p,[p])).map λu=>au u.1:=by
  intro l;induction l with
  |nil=>rfl
  |cons a l ap=>rw[gh,qF,ap,hM];simp only[qN];split<;>simp
 refine pB (f:=λv=>match v with|.int p=>if(!decide (p.toNat=4))=true then [v]else []|_=>[]) rfl ?_ ?_
 .intro v af bV a';obtain⟨p,ae,rfl⟩:=dr.mp af;clear af;simp only[qN]at a';refine eO.mk ?_;by_cases c:p=4
  .rw[bm<|by simp[c]]at a';refine bj.h4 (by subst c;rfl) ?_;exact a'
  .rw[bl<|by simp[c]]at a';refine bj.l3 (by simp;lia) ?_;exact a'
 .have cs:((ai.filter λp=> !decide (p=4)).map λp=>(p,[p])).flatMap Prod.snd=ai.filter λp=> !decide (p=4):=by rw[List.flatMap_map];simp
  refine vr (aS:=(ai.filter λp=> !decide (p=4)).map λp=>(p,[p])) T (bI some<|Dy ai) ?_ ?_ aq λdM dP aa g u m=>?_
  .intro u aN;obtain⟨p,ae,rfl⟩:=dr.mp aN;clear aN;exact a4.one (gx.mp ae).1
  .rw[cs];exact hI (ms _ _) aj
  .rw[cs]at m;refine q dM aa g ?_;rw[<-uG u.fx (a4.fx.filter _) λp=>by rw[m p];exact DO a4 (λp ae=>(gx.mp ae).1) p];exact u
def Cl(R:HO B)(ai:HO ā):Prop:=∀p∈ai,∀a b:Ă,R[p]?=some (.tup [.int 15,.int a,.int b])->a=16
theorem ek.two{R:HO B}{t:ā}{ai:HO ā}(h:ek R t ai)(e:t=2):ai=[]:=by
 rcases h.is with⟨e,_⟩|rfl|⟨_,bz,_⟩
 .exact e
 .obtain⟨w,G,_⟩:=h.pt t<|.head _;exact absurd e G.odd.1
 .exact absurd e bz
theorem HA{row:B}{t:ā}(T:Rows S.R)(h:S.R[t]?=some row)(aq:S.R.length+1<=a3)(q:∀aa,a9 S.R aa 1->Q (au t) (S.w aa).st):bc (n+1) 1 [.ref 1,row] S.st Q:=by refine fb T (T.row _<|h9 h) aq λdM aa g e=>?_;rw[g.ok.inj e<|g.at h];exact q aa g
theorem La{p:ā}{w:Ă}(h:gf S.R p w)(q:∀b,Q (.bool b) S.st):bc (n+1) 34 [.ref 1,au p] S.st Q:=by obtain⟨⟨l,G,E⟩,aC⟩:=h;k_go;induction E<;>(lk;exact q _)
theorem VI{t:ā}{ai:HO ā}(h:ek S.R t ai)(q:Q (.bool false) S.st):bc (n+2) 42 [.ref 1,au t] S.st Q:=by
 k_go;lk;refine zy h ?_;lk;refine cF.inv (λl r s=>s=S.st/\tB λ(a_:HO ā) (d6 eT c1 dj:cq)=>dD (l=a_.map au) (r=[.val<|.ref 1,.val<|au t,.val<|.bool false,d6,eT,c1,dj]) (∀p∈a_,p∈ai)) ?_ ?_ ⟨rfl,ai,_,_,_,_,rfl,rfl,λ_ h=>h⟩
 .rintro v l r s _ _ _ _⟨rfl,a_,d6,eT,c1,dj,ag,rfl,bn⟩;induction a_ using List.casesOn with
  |nil=>cases ag
  |cons p a_=>
  rw[gh,sc]at ag;obtain⟨rfl,rfl⟩:=ag;obtain⟨w,ae,_⟩:=h.pt p<|bn p<|.head _;obtain⟨⟨l,G,E⟩,aC⟩:=id ae;have key:∀(a b c d e f:cq) (bV:B->St->Prop),(∀b,bV (.lst [.bool b]) S.st)->fk (.tup [au p]) [.val<|.ref 1,a,b,c,d,e,f] S.st (n+1) (.call 34 [.v 0,.v 6]) false [6] [] bV:=by intro a b c d e f bV ff;refine fk.un rfl<|eO.mk ?_;lk;exact La ae λb=>ff b
  induction E<;>(
   lk;refine dg.comp rfl<|key _ _ _ _ _ _ _ λb=>?_;lk;induction b
   .lk;exact⟨rfl,a_,_,_,_,_,rfl,rfl,λp ae=>bn p<|.tail _ ae⟩
   .lk;exact q)
 .rintro r s⟨rfl,a_,d6,eT,c1,dj,ag,rfl,bn⟩;lk;exact q
theorem PZ{t:ā}{ai:HO ā}(T:Rows S.R)(a4:ek S.R t ai)(eS:Cl S.R ai)(aq:S.R.length+1<=a3)(q:∀aa,a9 S.R aa 1->Q (au t) (S.w aa).st):bc (n+4) 70 [.ref 10,au t] S.st Q:=by
 k_go;rcases a4.is with⟨rfl,rfl⟩|rfl|⟨a,b,e⟩
 .have E:=T.at (t:=2) rfl;lk;exact q S.R<|a9.refl T
 .obtain⟨w,⟨⟨l,G,E⟩,aC⟩,_⟩:=a4.pt t<|.head _;induction E with
  |idx a b=>have ak:a=16:=eS t (.head _) a b G;subst ak;lk;k_go;lk;k_go;lk;refine ay.of (pO (S:=S) (t:=16)<|T.at rfl) ?_;lk;exact HA T G aq q
  |_=>lk;exact q S.R<|a9.refl T
 .lk;exact q S.R<|a9.refl T
theorem Qt{t:ā}{ai:HO ā}(T:Rows S.R)(a4:ek S.R t ai)(aj:ai.length<64)(aq:S.R.length+1<=a3)(q:∀dM dP aa,a9 S.R aa 1->ek aa dM dP->dP=(if ai=[4]then [4]else ai.filter λp=> !decide (p=4))->Q (au dM) (S.w aa).st):bc (n+5) 44 [.ref 1,au t] S.st Q:=by
 k_go;refine bj.en (λh=>?_) λh=>?_
 .have aR:t=4:=by lia
  subst aR;have:=a4.four T;subst this;exact q 4 [4] S.R (a9.refl T) a4 (by simp)
 .refine HG T a4 aj aq λdM aa g u=>q dM _ aa g u ?_;rw[bm];rintro rfl;rcases a4.is with⟨e,_⟩|e|⟨e,_⟩
  .cases e
  .cases e;exact h rfl
  .simp at e
theorem S8{t:ā}{ai:HO ā}(T:Rows S.R)(a4:ek S.R t ai)(eS:Cl S.R ai)(aj:ai.length<64)(aq:S.R.length+2<=a3)(q:∀dM aa,a9 S.R aa 2->ek aa dM (ai.filter λp=> !decide (p=4))->Q (au dM) (S.w aa).st):bc (n+5) 43 [.ref 10,au t] S.st Q:=by
 k_go;refine VI a4<|PZ T a4 eS (hl ‹_›) λaa g=>bj.en (λh=>?_) λh=>?_
 .have aR:t=4:=by lia
  subst aR;have:=a4.four T;subst this;exact q 2 aa (g.le<|aG rfl) ⟨by simp,λp ae=>by simp at ae,.inl ⟨by simp,rfl⟩⟩
 .have:=g.len;refine HG (S:=S.w aa) g.ok (a4.bf g) aj (by show aa.length+1<=a3;lia) λdM i5 dY u=>?_;exact q dM i5 (g.trans dY) u
inductive bv|txt (x:bx)|S|N
inductive aM|txt (x:bx)|num (i:Int)|bB|nul|S|N|ao (k:bv)
set_option genInjectivity true in
inductive aF|b (a:aM)|arr (K:List aM)
def bv.ctorIdx (x:bv):ā:=x.casesOn (λ_=>0) 1 2
def aM.ctorIdx (x:aM):ā:=x.casesOn (λ_=>0) (λ_=>1) 2 3 4 5 λ_=>6
def aF.ctorIdx (x:aF):ā:=x.casesOn (λ_=>0) λ_=>1
def Dk {T U:Type} [DecidableEq U] (f:T->U) (g:U->T) (e:∀a,g (f a)=a):DecidableEq T:=λa b=>if h:f a=f b then isTrue ((e a).symm.trans<|(bI g h).trans<|e b)else isFalse λq=>h<|q▸rfl
def bv.code (k:bv):ā×bx:=k.casesOn (λx=>(0,x)) (1,[]) (2,[])
def bv.pQ (u:ā×bx):bv:=[.txt u.2,.S].getD u.1 .N
theorem bv.KR(k:bv):bv.pQ k.code=k:=k.casesOn (λ_=>rfl) rfl rfl
noncomputable instance:DecidableEq bv:=Dk bv.code bv.pQ bv.KR
def aM.code (a:aM):ā×Ă×bx:=a.casesOn (λx=>(0,0,x)) (λi=>(1,i,[])) (2,0,[]) (3,0,[]) (4,0,[]) (5,0,[]) λk=>(6+k.code.1,0,k.code.2)
noncomputable instance:DecidableEq aM:=Dk aM.code (λu=>[.txt u.2.2,.num u.2.1,.bB,.nul,.S,.N].getD u.1<|.ao<|bv.pQ (u.1-6,u.2.2)) λa=>a.casesOn (λ_=>rfl) (λ_=>rfl) rfl rfl rfl rfl λk=>k.casesOn (λ_=>rfl) rfl rfl
def aF.code (a:aF):ZI×HO aM:=a.casesOn (λa=>(true,[a])) λK=>(false,K)
noncomputable instance:DecidableEq aF:=Dk aF.code (λu=>if u.1=true then .b (u.2.headD .S)else .arr u.2) λa=>a.casesOn (λ_=>rfl) λ_=>rfl
structure db(av:Type)where
 gw:List B->Nat->av->Prop
 ia:av->Int
 qa:av
 lj:av
 bB:av
 bf:∀{R aa c p a},gw R p a->a9 R aa c->gw aa p a
 pt:∀{R p a},Rows R->gw R p a->gf R p (ia a)
 fn:∀{R p q a},Rows R->gw R p a->gw R q a->p=q
 tl:∀{R p a},Rows R->gw R p a->(p=6↔a=qa)
 sM:∀{R p a},Rows R->gw R p a->(p=7↔a=lj)
 td:∀{R p a},Rows R->gw R p a->(p=4↔a=bB)
 four:∀{R},Rows R->gw R 4 bB
 uN:ia qa= -1
 wx:ia lj= -1
 xu:ia bB= -1
section
variable{av:Type}(Z:db av)
def db.iC(K:HO av)(a:av):Prop:=(Z.ia a=6->Z.qa∉K)/\(Z.ia a=7->Z.lj∉K)
structure db.Is(R:List B)(K:List av)(ai:List Nat):Prop where
 to:∀p∈ai,∃a∈K,Z.gw R p a/\Z.iC K a
 of:∀a∈K,Z.iC K a->∃p∈ai,Z.gw R p a
def db.Ty(R:HO B)(t:ā)(K:HO av):Prop:=∃ai,ek R t ai/\Z.Is R K ai
variable{Z}{R aa:HO B}{t:ā}{K:HO av}{c:ā}
theorem db.Is.bf{ai:HO ā}(h:Z.Is R K ai)(g:a9 R aa c):Z.Is aa K ai:=⟨λp ae=>(h.to p ae).imp λa x=>⟨x.1,Z.bf x.2.1 g,x.2.2⟩,λa ak s=>(h.of a ak s).imp λp x=>⟨x.1,Z.bf x.2 g⟩⟩
theorem db.Ty.bf(h:Z.Ty R t K)(g:a9 R aa c):Z.Ty aa t K:=by obtain⟨ai,u,i⟩:=h;exact⟨ai,u.bf g,i.bf g⟩
theorem db.HW{K eM:HO av}(h:∀a,a∈K↔a∈eM)(a:av):Z.iC K a↔Z.iC eM a:=by unfold db.iC;rw[h,h]
theorem db.Is.congr{eM:HO av}{ai:HO ā}(h:∀a,a∈K↔a∈eM)(x:Z.Is R K ai):Z.Is R eM ai:=⟨λp ae=>(x.to p ae).imp λa y=>⟨(h a).mp y.1,y.2.1,(db.HW h a).mp y.2.2⟩,λa ak s=>x.of a ((h a).mpr ak)<|(db.HW h a).mpr s⟩
theorem db.Ty.inj(T:Rows R){s t:ā}(G:Z.Ty R s K)(E:Z.Ty R t K):s=t:=by
 obtain⟨ai,u,i⟩:=G;obtain⟨ce,v,j⟩:=E;have e:ai=ce:=uG u.fx v.fx λp=>by
  constructor
  .intro ae;obtain⟨a,ak,am,aK⟩:=i.to p ae;obtain⟨q,a',hq⟩:=j.of a ak aK;rwa[Z.fn T am hq]
  .intro ae;obtain⟨a,ak,am,aK⟩:=j.to p ae;obtain⟨q,a',hq⟩:=i.of a ak aK;rwa[Z.fn T am hq]
 subst e;exact u.inj T v
theorem db.Is.union(T:Rows R){fJ:HO (HO ā×HO av)}(h:∀u∈fJ,Z.Is R u.2 u.1){ai:HO ā}(m:∀p,p∈ai↔qQ R (fJ.flatMap Prod.fst) p):Z.Is R (fJ.flatMap Prod.snd) ai:=by
 have IM:∀k:ā,∀s:av,Z.ia s= -1->(∀p a,Z.gw R p a->(p=k↔a=s))->(k∈fJ.flatMap Prod.fst↔s∈fJ.flatMap Prod.snd):=by
  intro k s aK aD;rw[jV,jV];constructor
  .rintro⟨u,a4,ae⟩;obtain⟨a,ak,am,_⟩:=(h u a4).to k ae;rw[<-(aD k a am).mp rfl];exact⟨u,a4,ak⟩
  .rintro⟨u,a4,ak⟩;obtain⟨p,ae,am⟩:=(h u a4).of s ak ⟨λq=>by rw[aK]at q;lia,λq=>by rw[aK]at q;lia⟩;rw[<-(aD p s am).mpr rfl];exact⟨u,a4,ae⟩
 have dv:=IM 6 Z.qa Z.uN λp a am=>Z.tl T am;have du:=IM 7 Z.lj Z.wx λp a am=>Z.sM T am;have key:∀p a,Z.gw R p a->((∀q∈fJ.flatMap Prod.fst,(q:Ă)≠rl R p)↔Z.iC (fJ.flatMap Prod.snd) a):=by
  intro p a am;have ae:=Z.pt T am;rw[ae.w];constructor
  .intro x;exact⟨λe aK=>x 6 (dv.mpr aK) (by rw[e];rfl),λe aK=>x 7 (du.mpr aK)<|by rw[e];rfl⟩
  .rintro⟨dj,cY⟩q a' e;obtain⟨⟨l,_,aj⟩,_⟩:=ae;generalize bF:Z.ia a=w at*;induction aj
   .exact dj rfl (dv.mp<|by rw[<-show q=6 by lia];exact a')
   .exact cY rfl (du.mp<|by rw[<-show q=7 by lia];exact a')
   all_goals lia
 constructor
 .intro p ae;obtain⟨cs,aD⟩:=(m p).mp ae;obtain⟨u,a4,Ml⟩:=jV.mp cs;clear cs;obtain⟨a,ak,am,_⟩:=(h u a4).to p Ml;exact⟨a,jV.mpr ⟨u,a4,ak⟩,am,(key p a am).mp aD⟩
 .intro a ak aK;obtain⟨u,a4,XM⟩:=jV.mp ak;clear ak;obtain⟨p,ae,am⟩:=(h u a4).of a XM (⟨λe q=>aK.1 e<|jV.mpr ⟨u,a4,q⟩,λe q=>aK.2 e<|jV.mpr ⟨u,a4,q⟩⟩:Z.iC u.2 a);exact⟨p,(m p).mpr ⟨jV.mpr ⟨u,a4,ae⟩,(key p a am).mpr aK⟩,am⟩
theorem db.Is.bB(T:Rows R){ai dP:HO ā}(h:Z.Is R K ai)(m:∀p,p∈dP↔p∈ai\/p=4):Z.Is R (K++[Z.bB]) dP:=by
 have st:∀a,Z.iC (K++[Z.bB]) a↔Z.iC K a:=by
  intro a;have d5:Z.qa≠Z.bB:=λe=>by have:=(Z.tl T<|Z.four T).mpr e.symm;lia
  have fp:Z.lj≠Z.bB:=λe=>by have:=(Z.sM T<|Z.four T).mpr e.symm;lia
  unfold db.iC;simp[d5,fp]
 constructor
 .intro p ae;rcases(m p).mp ae with ae|rfl
  .obtain⟨a,ak,am,aK⟩:=h.to p ae;exact⟨a,kC _ ak,am,(st a).mpr aK⟩
  .exact⟨Z.bB,by simp,Z.four T,(st _).mpr ⟨λe=>by rw[Z.xu]at e;lia,λe=>by rw[Z.xu]at e;lia⟩⟩
 .intro a ak aK;rcases gd.mp ak with ak|ak
  .obtain⟨p,ae,am⟩:=h.of a ak<|(st a).mp aK;exact⟨p,(m p).mpr<|.inl ae,am⟩
  .rw[cX]at ak;subst ak;exact⟨4,(m 4).mpr<|.inr rfl,Z.four T⟩
theorem db.Is.less[DecidableEq av](T:Rows R){ai:HO ā}(h:Z.Is R K ai):Z.Is R (K.filter λa=> !decide (a=Z.bB)) (ai.filter λp=> !decide (p=4)):=by
 have st:∀a,Z.iC (K.filter λa=> !decide (a=Z.bB)) a↔Z.iC K a:=by
  intro a;have d5:Z.qa≠Z.bB:=λe=>by have:=(Z.tl T<|Z.four T).mpr e.symm;lia
  have fp:Z.lj≠Z.bB:=λe=>by have:=(Z.sM T<|Z.four T).mpr e.symm;lia
  unfold db.iC;simp[gx,d5,fp]
 constructor
 .intro p ae;obtain⟨ae,ba⟩:=gx.mp ae;obtain⟨a,ak,am,aK⟩:=h.to p ae;refine⟨a,gx.mpr ⟨ak,?_⟩,am,(st a).mpr aK⟩;simp only[kn,mD]at ba⊢;exact λe=>ba<|(Z.td T am).mpr e
 .intro a ak aK;obtain⟨ak,ba⟩:=gx.mp ak;obtain⟨p,ae,am⟩:=h.of a ak<|(st a).mp aK;refine⟨p,gx.mpr ⟨ae,?_⟩,am⟩;simp only[kn,mD]at ba⊢;exact λe=>ba<|(Z.td T am).mp e
end
def mJ (v:B):ā:=match v with|.tup l=>(match l with|x::_=>(match x with|.int i=>i.toNat|_=>0)|[]=>0)|_=>0
theorem sb{R:HO B}(T:Rows R){p:ā}{v:B}(h:R[p]?=some v)(af:Nat.ble 3 (mJ v)=true):p≠2/\p≠0/\p≠1/\p≠13/\p≠8/\p≠9/\p≠14/\p≠15:=by
 have key:∀t tr,hm[t]?=some tr->Nat.ble 3 (mJ tr)=false->p≠t:=λt tr e n q=>by have e:=T.at e;rw[<-q,h]at e;rw[<-cT e,af]at n;exact h7 n
 exact⟨key 2 _ rfl rfl,key 0 _ rfl rfl,key 1 _ rfl rfl,key 13 _ rfl rfl,key 8 _ rfl rfl,key 9 _ rfl rfl,key 14 _ rfl rfl,key 15 _ rfl rfl⟩
noncomputable abbrev tQ (x:bx):B:=.tup [.int 3,.str x,.int 0]
noncomputable abbrev Co (i:Ă):B:=.tup [.int 4,.int i,.int 0]
noncomputable abbrev pe (a b:Ă):B:=.tup [.int 15,.int a,.int b]
noncomputable abbrev hH (e:ā) (aV:Ă):B:=.tup [.int 11,au e,.int aV]
def gE(R:HO B)(s:ā):bv->Prop
 |.txt x=>R[s]?=some (tQ x)
 |.S=>s=6
 |.N=>s=7
def eQ(R:HO B)(p:ā):aM->Prop
 |.txt x=>R[p]?=some (tQ x)
 |.num i=>R[p]?=some (Co i)
 |.bB=>p=4
 |.nul=>p=5
 |.S=>p=6
 |.N=>p=7
 |.ao k=>∃s,gE R s k/\R[p]?=some (pe 16 s)
def aM.ia:aM->Ă
 |.txt _=>6
 |.num _=>7
 |_=> -1
theorem gE.bf{R aa:HO B}{c s:ā}{k:bv}(h:gE R s k)(g:a9 R aa c):gE aa s k:=by induction k<;>first|exact g.at h|exact h
theorem gE.fn{R:HO B}(T:Rows R){s t:ā}{k:bv}(h:gE R s k)(aR:gE R t k):s=t:=by
 induction k
 .exact T.inj h aR
 .exact h.trans aR.symm
 .exact h.trans aR.symm
theorem oN{R:HO B}(T:Rows R){p t:ā}{v w:B}(h:R[p]?=some v)(aU:hm[t]?=some w)(ne:v≠w):p≠t:=by rintro rfl;have:=T.at aU;rw[h]at this;cases this;exact ne rfl
theorem eQ.pt{R:HO B}(T:Rows R){p:ā}{a:aM}(h:eQ R p a):gf R p a.ia:=by
 induction a with
 |txt x=>exact⟨⟨_,h,.txt x⟩,sb T h rfl⟩
 |num i=>exact⟨⟨_,h,.num i⟩,sb T h rfl⟩
 |ao k=>obtain⟨s,_,h⟩:=h;exact⟨⟨_,h,.idx _ _⟩,sb T h rfl⟩
 |bB=>exact gf.key T<|.inl h
 |nul=>exact gf.key T<|.inr<|.inl h
 |S=>exact gf.key T<|.inr<|.inr<|.inl h
 |N=>exact gf.key T<|.inr<|.inr<|.inr h
def tw:aM->ā|.bB=>4|.nul=>5|.S=>6|.N=>7|_=>0
def u1 (k:ā):aM:=if k=4 then .bB else if k=5 then .nul else if k=6 then .S else .N
theorem xC{R:HO B}(T:Rows R){p:ā}{v:B}(h:R[p]?=some v)(n:Nat.ble 3 (mJ v)=true):p≠4/\p≠6/\p≠7:=by
 have af:∀x,v≠.tup [.int 1,.str x]:=by rintro x rfl;exact cH n
 exact⟨oN T h rfl<|af _,oN T h rfl<|af _,oN T h rfl<|af _⟩
theorem eQ.tw{R:HO B}(T:Rows R){p:ā}{a:aM}(h:eQ R p a):(Internal.tw a=p/\u1 p=a)\/(Internal.tw a=0/\p≠4/\p≠6/\p≠7):=by
 induction a with
 |txt x=>exact .inr ⟨rfl,xC T h rfl⟩
 |num i=>exact .inr ⟨rfl,xC T h rfl⟩
 |ao k=>obtain⟨_,_,h⟩:=h;exact .inr ⟨rfl,xC T h rfl⟩
 |bB=>obtain rfl:p=4:=h;exact .inl ⟨rfl,rfl⟩
 |nul=>obtain rfl:p=5:=h;exact .inl ⟨rfl,rfl⟩
 |S=>obtain rfl:p=6:=h;exact .inl ⟨rfl,rfl⟩
 |N=>obtain rfl:p=7:=h;exact .inl ⟨rfl,rfl⟩
theorem C0{p k:ā}{cS:Prop}(aD:k=4\/k=6\/k=7)(e:p=k)(n:p≠4/\p≠6/\p≠7):cS:=aD.elim (λq=>absurd (e.trans q) n.1) λaD=>aD.elim (λq=>absurd (e.trans q) n.2.1) λq=>absurd (e.trans q) n.2.2
theorem eQ.num{R:HO B}(T:Rows R){p k:ā}{a:aM}(aD:k=4\/k=6\/k=7)(h:eQ R p a):p=k↔a=u1 k:=by
 have x_:Internal.tw (u1 k)=k:=by rcases aD with e|e|e<;>rw[e]<;>rfl
 rcases h.tw T with⟨ag,a8⟩|⟨ag,n⟩
 .exact⟨λe=>a8.symm.trans<|bI u1 e,λe=>ag.symm.trans<|(bI Internal.tw e).trans x_⟩
 .exact⟨λe=>C0 aD e n,λe=>by rw[e,x_]at ag;exact C0 aD ag.symm<|by decide⟩
def hY:db aM where
 gw:=eQ
 ia:=aM.ia
 qa:=.S
 lj:=.N
 bB:=.bB
 bf:=λ{R aa c p a} h g=>by induction a<;>first|exact g.at h|exact h|(obtain⟨s,G,E⟩:=h;exact⟨s,G.bf g,g.at E⟩)
 pt:=λT h=>eQ.pt T h
 fn:=λ{R p q a} T h aR=>by
  induction a with
  |txt x=>exact T.inj h aR
  |num x=>exact T.inj h aR
  |ao k=>obtain⟨s,G,E⟩:=h;obtain⟨t,aC,ba⟩:=aR;have:=G.fn T aC;subst this;exact T.inj E ba
  |_=>exact Eq.trans h<|Eq.symm aR
 tl:=λT h=>eQ.num T (.inr<|.inl rfl) h
 sM:=λT h=>eQ.num T (.inr<|.inr rfl) h
 td:=λT h=>eQ.num T (.inl rfl) h
 four:=λ_=>rfl
 uN:=rfl
 wx:=rfl
 xu:=rfl
def nv(R:HO B)(p:ā):aF->Prop
 |.b a=>eQ R p a
 |.arr K=>∃e,R[p]?=some (hH e 0)/\hY.Ty R e K
def aF.ia:aF->Ă
 |.b a=>a.ia
 |.arr _=> -1
theorem nv.num{R:HO B}(T:Rows R){p k:ā}{a:aF}(aD:k=4\/k=6\/k=7)(h:nv R p a):p=k↔a=.b (u1 k):=by
 induction a with
 |b a=>exact(eQ.num T aD h).trans ⟨bI _,λe=>by cases e;rfl⟩
 |arr K=>obtain⟨e,h,_⟩:=h;exact⟨λe=>C0 aD e<|xC T h rfl,λe=>by cases e⟩
def d7:db aF where
 gw:=nv
 ia:=aF.ia
 qa:=.b .S
 lj:=.b .N
 bB:=.b .bB
 bf:=λ{R aa c p a} h g=>by
  induction a with
  |b a=>exact hY.bf (a:=a) (show hY.gw R p a from h) g
  |arr K=>obtain⟨e,G,E⟩:=h;exact⟨e,g.at G,E.bf g⟩
 pt:=λ{R p a} T h=>by
  induction a with
  |b a=>exact eQ.pt T h
  |arr K=>obtain⟨e,h,_⟩:=h;exact⟨⟨_,h,.arr _ _⟩,sb T h rfl⟩
 fn:=λ{R p q a} T h aR=>by
  induction a with
  |b a=>exact hY.fn (a:=a) T (show hY.gw R p a from h) aR
  |arr K=>obtain⟨e,G,E⟩:=h;obtain⟨f,aC,ba⟩:=aR;have:=E.inj T ba;subst this;exact T.inj G aC
 tl:=λT h=>nv.num T (.inr<|.inl rfl) h
 sM:=λT h=>nv.num T (.inr<|.inr rfl) h
 td:=λT h=>nv.num T (.inl rfl) h
 four:=λ_=>rfl
 uN:=rfl
 wx:=rfl
 xu:=rfl
def bv.aW:bv->B
 |.txt x=>.tup [.str [116],.str x]
 |.S=>.tup [.str [119],.str [83]]
 |.N=>.tup [.str [119],.str [78]]
def aM.aW:aM->B
 |.txt x=>.tup [.str [116],.str x]
 |.num i=>.tup [.str [35],.int i]
 |.bB=>.tup [.str [119],.str [117]]
 |.nul=>.tup [.str [119],.str [110]]
 |.S=>.tup [.str [119],.str [83]]
 |.N=>.tup [.str [119],.str [78]]
 |.ao k=>.tup [.str [84],k.aW]
def aF.aW:aF->B
 |.b a=>a.aW
 |.arr K=>.tup [.str [91],.tup<|K.map aM.aW]
section
variable{av:Type}{Z:db av}{R:HO B}
theorem db.Q3(a:av):Z.iC [a] a:=⟨λe h=>by rw[cX]at h;rw[<-h,Z.uN]at e;lia,λe h=>by rw[cX]at h;rw[<-h,Z.wx]at e;lia⟩
theorem db.E3(T:Rows R){p:ā}{a:av}(h:Z.gw R p a):ek R p [p]:=by
 refine⟨by simp,λq a'=>?_,.inr<|.inl rfl⟩;rw[cX]at a';subst a';refine⟨_,Z.pt T h,λz hz=>?_⟩;rw[cX]at hz;subst hz;intro e;have ae:=Z.pt T h;obtain⟨⟨l,_,aj⟩,_⟩:=id ae;clear ae;generalize bF:Z.ia a=w at*;induction aj
 .have:=(Z.tl T h).mp (by lia);subst this;rw[Z.uN]at bF;lia
 .have:=(Z.sM T h).mp (by lia);subst this;rw[Z.wx]at bF;lia
 all_goals lia
theorem db.zp(T:Rows R){p:ā}{a:av}(h:Z.gw R p a):Z.Is R [a] [p]:=⟨λq a'=>⟨a,.head _,by rw[cX]at a';rw[a'];exact h,db.Q3 a⟩,λb aw _=>⟨p,.head _,by rw[cX]at aw;rw[aw];exact h⟩⟩
end
inductive bX {av b8:Type} (P:av->b8->Prop):List av->List b8->Prop
 |nil:bX P [] []
 |cons {a b l m}:P a b->bX P l m->bX P (a::l) (b::m)
theorem bX.snoc{av b8:Type}{P:av->b8->Prop}{a:av}{b:b8}(h:P a b){l:HO av}{m:HO b8}(x:bX P l m):bX P (l++[a]) (m++[b]):=bX.rec (motive:=λl m _=>bX P (l++[a])<|m++[b]) (.cons h .nil) (λx _ ap=>.cons x ap) x
theorem bX.imp{av b8:Type}{P tF:av->b8->Prop}(h:∀a b,P a b->tF a b){l:HO av}{m:HO b8}(x:bX P l m):bX tF l m:=bX.rec (motive:=λl m _=>bX tF l m) .nil (λx _ ap=>.cons (h _ _ x) ap) x
theorem bX.len{av b8:Type}{P:av->b8->Prop}{l:HO av}{m:HO b8}(x:bX P l m):l.length=m.length:=bX.rec (motive:=λ(l:HO av) (m:HO b8) (_:bX P l m)=>l.length=m.length) rfl (λ_ _ ap=>bI Nat.succ ap) x
theorem bX.of{av b8:Type}{P:av->b8->Prop}{l:HO av}{k:HO b8}(h:bX P l k):List.casesOn (motive:=λ_=>Prop) k (l=[]) λb m=>dW λx t=>dD (l=x::t) (P x b) (bX P t m):=bX.casesOn (motive:=λl k _=>List.casesOn (motive:=λ_=>Prop) k (l=[]) λb m=>dW λx t=>dD (l=x::t) (P x b)<|bX P t m) h rfl λp t=>⟨_,_,rfl,p,t⟩
theorem bX.un{av b8:Type}{P:av->b8->Prop}{l:HO av}{b:b8}{m:HO b8}(h:bX P l (b::m)):dW λx t=>dD (l=x::t) (P x b) (bX P t m):=h.of
section
variable{av:Type}{Z:db av}{n:ā}{S:dz}{s:St}{Q:B->St->Prop}
theorem Fn{R:HO B}(T:Rows R):∀{ai:HO ā} {K:HO av},bX (λp a=>Z.gw R p a) ai K->∃fJ:HO (HO ā×HO av),(∀u∈fJ,Z.Is R u.2 u.1)/\fJ.flatMap Prod.fst=ai/\fJ.flatMap Prod.snd=K
 |_,_,.nil=>⟨[],by simp,rfl,rfl⟩
 |_,_,.cons (a:=p) (b:=a) h r=>by
  obtain⟨fJ,G,E,aC⟩:=Fn T r;refine⟨([p],[a])::fJ,λu a4=>?_,by simp[E],by simp[aC]⟩;rcases ew.mp a4 with rfl|a4
  .exact db.zp T h
  .exact G u a4
theorem Ii{aW:av->B}{hu arg:B}{g m:ā}{K:HO av}(T:Rows S.R)(aj:K.length<=m)(aN:Nat.ble m 63=true)(aq:S.R.length+(g*m+1)<=a3)(aB:items arg=some (K.map aW))(mT:∀a∈K,∀(cn:dz) (bV:B->St->Prop),Rows cn.R->cn.R.length+g<=a3->(∀p aa,a9 cn.R aa g->Z.gw aa p a->bV (au p) (cn.w aa).st)->bc (n+4) 76 [.ref 1,hu,aW a] cn.st bV)(q:∀t aa,a9 S.R aa (g*m+1)->Z.Ty aa t K->Q (au t) (S.w aa).st):bc (n+5) 75 [.ref 1,hu,arg] S.st Q:=by
 have d_:=dc<|hf g aj;k_go;refine dg.comp rfl<|fk.mp aB (λdone K=>∀aa ai,a9 S.R aa (g*done.length)->bX (λp a=>Z.gw aa p a) ai done->K (ai.map au) (S.w aa).st) (λdone a a_ a8 K ab aa ai bf al=>?_) (λaa ai bf al=>?_) λK ab=>ab S.R [] (a9.refl T) .nil
 .refine eO.mk ?_;lk;refine mT a (by rw[a8];simp) (S.w aa) _ bf.ok (bf.room aq<|iF<|tm g a8 aj) λp bu bh O'=>?_;have:=ab bu (ai++[p]) (bf.step bh<|dy _)<|(al.imp λp b h=>Z.bf h bh).snoc O';rwa[cZ]at this
 .obtain⟨fJ,G,E,aC⟩:=Fn bf.ok al;have a7:(ai.map λp=>(p,[p])).flatMap Prod.snd=ai:=by rw[List.flatMap_map];simp
  have kz:∀{l:HO ā} {m:HO av},bX (λp a=>Z.gw aa p a) l m->∀p∈l,∃a,Z.gw aa p a:=by
   intro l m x;induction x with
   |nil=>intro p ae;cases ae
   |cons x _ ap=>
    intro p ae;rcases ew.mp ae with rfl|ae
    .exact⟨_,x⟩
    .exact ap p ae
  refine vr (S:=S.w aa) (aS:=ai.map λp=>(p,[p])) bf.ok (by show some _=_;rw[f2];rfl) (λu a4=>?_) (by rw[a7,al.len];exact Nat.lt_succ_of_le<|aI aj<|aG aN) (bf.room aq d_) λt dP bu bh u m=>?_
  .obtain⟨p,ae,rfl⟩:=dr.mp a4;clear a4;obtain⟨a,h⟩:=kz al p ae;exact db.E3 bf.ok h
  .rw[a7]at m;exact q t bu ((bf.trans bh).le d_) ⟨dP,u,aC▸(db.Is.union (Z:=Z) bf.ok G (ai:=dP)<|by rw[E];exact m).bf bh⟩
theorem Rd{k:bv}{hu:B}(T:Rows S.R)(aq:S.R.length+1<=a3)(q:∀p aa,a9 S.R aa 1->gE aa p k->Q (au p) (S.w aa).st):bc (n+2) 76 [.ref 1,hu,k.aW] S.st Q:=by
 k_go;induction k with
 |txt x=>exact fb T rfl aq λt aa g e=>q t aa g e
 |S=>exact q 6 S.R (a9.refl T) rfl
 |N=>exact q 7 S.R (a9.refl T) rfl
theorem Jk{a:aM}{hu:B}(T:Rows S.R)(aq:S.R.length+2<=a3)(tW:∀k,a=.ao k->hu=.int 16)(q:∀p aa,a9 S.R aa 2->eQ aa p a->Q (au p) (S.w aa).st):bc (n+3) 76 [.ref 1,hu,a.aW] S.st Q:=by
 k_go;induction a with
 |txt x=>exact fb T rfl (hl ‹_›) λt aa g e=>q t aa (g.le<|aG rfl) e
 |num x=>exact fb T rfl (hl ‹_›) λt aa g e=>q t aa (g.le<|aG rfl) e
 |bB=>exact q 4 S.R (a9.refl T) rfl
 |nul=>exact q 5 S.R (a9.refl T) rfl
 |S=>exact q 6 S.R (a9.refl T) rfl
 |N=>exact q 7 S.R (a9.refl T) rfl
 |ao k=>obtain rfl:=tW k rfl;exact Rd T (hl ‹_›) λp aa g aD=>fb (S:=S.w aa) g.ok rfl (g.room aq<|aG rfl) λt bu dY e=>q t bu (g.trans dY) ⟨p,aD.bf dY,e⟩
theorem rW{K:HO aM}{hu arg:B}{m:ā}(T:Rows S.R)(aj:K.length<=m)(aN:Nat.ble m 63=true)(aq:S.R.length+(2*m+1)<=a3)(aB:items arg=some (K.map aM.aW))(tW:∀k,aM.ao k∈K->hu=.int 16)(q:∀t aa,a9 S.R aa (2*m+1)->hY.Ty aa t K->Q (au t) (S.w aa).st):bc (n+5) 75 [.ref 1,hu,arg] S.st Q:=Ii (Z:=hY) T aj aN aq aB (λa ak cn bV su eN ff=>Jk su eN (λk e=>tW k<|e▸ak) λp aa g h=>ff p aa g h) q
def aF.fits:aF->Prop
 |.b _=>True
 |.arr K=>K.length<=12
theorem NC{a:aF}{hu:B}(T:Rows S.R)(aq:S.R.length+26<=a3)(a7:a.fits)(tW:hu=.int 16\/∃b,a=.b b/\∀k,b≠.ao k)(q:∀p aa,a9 S.R aa 26->nv aa p a->Q (au p) (S.w aa).st):bc (n+6) 76 [.ref 1,hu,a.aW] S.st Q:=by
 induction a with
 |b a=>
  refine Jk T (hl ‹_›) (λk e=>?_) λp aa g h=>q p aa (g.le<|aG rfl) h;rcases tW with h|⟨b,ag,a8⟩
  .exact h
  .cases ag;exact absurd e<|a8 k
 |arr K=>
  obtain rfl:hu=.int 16:=by
   rcases tW with h|⟨b,ag,_⟩
   .exact h
   .cases ag
  k_go;show bw _ _ [_,_,.val<|.tup [.str [91],.tup<|K.map aM.aW],_,_] _ _;exact rW T a7 rfl (hl ‹_›) rfl (λ_ _=>rfl) λt aa g h=>fb (S:=S.w aa) g.ok rfl (g.room aq<|aG rfl) λp bu dY e=>q p bu (g.trans dY) ⟨t,e,h.bf dY⟩
theorem xb{K:HO aF}{arg:B}{m:ā}(T:Rows S.R)(aj:K.length<=m)(aN:Nat.ble m 63=true)(aq:S.R.length+(26*m+1)<=a3)(aB:items arg=some (K.map aF.aW))(a7:∀a∈K,a.fits)(q:∀t aa,a9 S.R aa (26*m+1)->d7.Ty aa t K->Q (au t) (S.w aa).st):bc (n+7) 75 [.ref 1,.int 16,arg] S.st Q:=Ii (Z:=d7) T aj aN aq aB (λa ak cn bV su eN ff=>NC su eN (a7 a ak) (.inl rfl) λp aa g h=>ff p aa g h) q
end
noncomputable abbrev mp (k:ā):B:=.bb [(.int 1,au k)]
inductive sZ:List B->Prop
 |txt (x:bx):sZ [.int 3,.str x,.int 0]
 |num (i:Int):sZ [.int 4,.int i,.int 0]
 |key (x:bx):sZ [.int 1,.str x]
def Dv(R:HO B)(ai:HO ā):Prop:=∀p∈ai,∃l,R[p]?=some (.tup l)/\sZ l
theorem yf{p:ā}{l:HO B}(h:S.R[p]?=some (.tup l))(aj:sZ l)(q:Q (au p) S.st):bc (n+2) 66 [.ref 10,au p,mp k] S.st Q:=by k_go;induction aj<;>(lk;k_go;lk;exact q)
theorem Bh{ai:HO ā}(h:Dv S.R ai)(q:Q (.tup<|ai.map au) S.st):bc (n+3) 62 [.ref 10,.tup<|ai.map au,mp k] S.st Q:=by
 k_go;refine dg.comp rfl<|pB (f:=λv=>[v]) rfl ?_ ?_
 .intro v af bV a';obtain⟨p,ae,rfl⟩:=dr.mp af;clear af;obtain⟨l,G,E⟩:=h p ae;exact eO.mk<|yf G E a'
 .rw[show(ai.map au).flatMap (λv=>[v])=ai.map au by simp];exact q
theorem K'{t:ā}{ai:HO ā}(T:Rows S.R)(a4:ek S.R t ai)(h:Dv S.R ai)(aj:ai.length<64)(aq:S.R.length+1<=a3)(q:∀aa,a9 S.R aa 1->Q (au t) (S.w aa).st):bc (n+4) 66 [.ref 10,au t,mp k] S.st Q:=by
 rcases a4.is with⟨_,rfl⟩|rfl|⟨a,b,e⟩
 .exact yf (T.at rfl) (.key _)<|q S.R<|a9.refl T
 .obtain⟨l,G,E⟩:=h t<|.head _;exact yf G E<|q S.R<|a9.refl T
 .k_go;lk;refine Bh h ?_;have a7:(ai.map λp=>(p,[p])).flatMap Prod.snd=ai:=by rw[List.flatMap_map];simp
  refine vr (aS:=ai.map λp=>(p,[p])) T (by show some _=_;rw[f2];rfl) (λu aN=>?_) (by rw[a7];exact aj) aq λdM dP aa g u m=>?_
  .obtain⟨p,ae,rfl⟩:=dr.mp aN;clear aN;exact a4.one ae
  .rw[a7]at m;have bz:dP=ai:=uG u.fx a4.fx λp=>by rw[m p];exact DO a4 (λ_ h=>h) p
   subst bz;rw[u.inj g.ok<|a4.bf g];exact q aa g
theorem Bl(T:Rows S.R)(q:Q (au k) S.st):bc (n+1) 66 [.ref 10,.int 17,mp k] S.st Q:=by k_go;exact ay.of (pO (S:=S) (t:=17)<|T.at rfl) q
theorem Y7(T:Rows S.R)(q:Q (.int 16) S.st):bc (n+1) 66 [.ref 10,.int 16,mp k] S.st Q:=by k_go;exact ay.of (pO (S:=S) (t:=16)<|T.at rfl) q
theorem Uk{x:ā}{key:bv}(T:Rows S.R)(h:S.R[x]?=some (pe 16 17))(aD:gE S.R k key)(aq:S.R.length+1<=a3)(q:∀p aa,a9 S.R aa 1->eQ aa p (.ao key)->Q (au p) (S.w aa).st):bc (n+7) 66 [.ref 10,au x,mp k] S.st Q:=by k_go;lk;k_go;k_go;refine dg.comp rfl<|fk.un rfl<|eO.mk<|Y7 T ?_;lk;refine Bl T ?_;lk;k_go;k_go;k_go;exact ay.of (pO (S:=S) (t:=16)<|T.at rfl)<|fb T rfl aq λp aa g e=>q p aa g ⟨k,aD.bf g,e⟩
noncomputable abbrev wh (ib ig aS:ā):B:=.tup [.int 8,.tup [.tup [.str [48],au ib,.int 0,.int 0],.tup [.str [97],au ig,.int 0,.int 0]],.tup [],.tup [],.tup [au aS,.int 0],.tup [],.int 0]
def xn(K:HO aM):Prop:=∀k,aM.ao k∉K
theorem eQ.KC{R:HO B}(T:Rows R){p:ā}{a:aM}(h:eQ R p a)(ak:∀k,a≠.ao k):∃l,R[p]?=some (.tup l)/\sZ l:=by
 induction a with
 |txt x=>exact⟨_,h,.txt x⟩
 |num i=>exact⟨_,h,.num i⟩
 |bB=>rcases(show p=4 from h)with rfl;exact⟨_,T.at rfl,.key _⟩
 |nul=>rcases(show p=5 from h)with rfl;exact⟨_,T.at rfl,.key _⟩
 |S=>rcases(show p=6 from h)with rfl;exact⟨_,T.at rfl,.key _⟩
 |N=>rcases(show p=7 from h)with rfl;exact⟨_,T.at rfl,.key _⟩
 |ao k=>exact absurd rfl<|ak k
structure i4(R:List B)(t:Nat)(K:List aM):Prop where
 ty:hY.Ty R t K
 no:xn K
 len:K.length<=12
theorem i4.bf{R aa:HO B}{t c:ā}{K:HO aM}(h:i4 R t K)(g:a9 R aa c):i4 aa t K:=⟨h.ty.bf g,h.no,h.len⟩
theorem db.Is.len{av:Type}{Z:db av}{R:HO B}(T:Rows R):∀{ai:HO ā} {K:HO av},ai.Pairwise (· <·)->(∀p∈ai,∃a∈K,Z.gw R p a)->ai.length<=K.length:=by
 intro ai K aK h;have:∀(K:HO av) (ai:HO ā),ai.Nodup->(∀p∈ai,∃a∈K,Z.gw R p a)->ai.length<=K.length:=by
  intro K;induction K with
  |nil=>intro ai _ h;induction ai with|nil=>simp|cons p r=>obtain⟨a,ak,_⟩:=h p<|.head _;cases ak
  |cons a K ap=>
   intro ai b7 h;by_cases c:∃p∈ai,Z.gw R p a
   .obtain⟨p,ae,am⟩:=c;have:=ap (ai.erase p) (b7.erase p) λq a'=>by
     have vj:=(b7.mem_erase_iff).mp a';obtain⟨b,aw,wo⟩:=h q vj.2;rcases ew.mp aw with rfl|aw
     .exact absurd (Z.fn T wo am) vj.1
     .exact⟨b,aw,wo⟩
    rw[List.length_erase_of_mem ae]at this;exact Nat.le_succ_of_pred_le this
   .have:=ap ai b7 λq a'=>by
     obtain⟨b,aw,wo⟩:=h q a';rcases ew.mp aw with rfl|aw
     .exact absurd ⟨q,a',wo⟩ c
     .exact⟨b,aw,wo⟩
    simp only[nA];exact iF ‹_›
 exact this K ai (aK.imp λh=>gK h) h
theorem i4.un{R:HO B}(T:Rows R){t:ā}{K:HO aM}(h:i4 R t K):∃ai,ek R t ai/\Dv R ai/\ai.length<64:=by
 obtain⟨⟨ai,u,i⟩,no,l⟩:=h;refine⟨ai,u,λp ae=>?_,?_⟩
 .obtain⟨a,ak,am,_⟩:=i.to p ae;exact eQ.KC T am λk e=>no k<|e▸ak
 .have:=db.Is.len T u.fx λp ae=>(i.to p ae).imp λa x=>⟨x.1,x.2.1⟩;lia
theorem xd{t:ā}{K:HO aM}(T:Rows S.R)(h:i4 S.R t K)(aq:S.R.length+1<=a3)(q:∀aa,a9 S.R aa 1->Q (au t) (S.w aa).st):bc (n+4) 66 [.ref 10,au t,mp k] S.st Q:=by obtain⟨ai,u,Mf,l⟩:=h.un T;exact K' T u Mf l aq q
theorem V2{aX ib ig aS:ā}{dZ ez d0:HO aM}(T:Rows S.R)(d1:S.R[aX]?=some (wh ib ig aS))(aU:i4 S.R ib dZ)(ak:i4 S.R ig ez)(aK:i4 S.R aS d0)(aq:S.R.length+4<=a3)(q:∀aa,a9 S.R aa 4->Q (au aX) (S.w aa).st):bc (n+7) 66 [.ref 10,au aX,mp k] S.st Q:=by k_go;lk;k_go;lk;refine dg.ny rfl ?_;lk;refine xd T aU (hl ‹_›) λgp c3=>?_;lk;refine xd (S:=S.w gp) c3.ok (ak.bf c3) (c3.room aq<|aG rfl) λbu bh=>?_;replace bh:=c3.trans bh;lk;refine Bh (S:=S.w bu) (ai:=[]) (λp ae=>by cases ae) ?_;lk;refine Bh (S:=S.w bu) (ai:=[]) (λp ae=>by cases ae) ?_;lk;k_go;lk;refine xd (S:=S.w bu) bh.ok (aK.bf bh) (bh.room aq<|aG rfl) λd2 cJ=>?_;replace cJ:=bh.trans cJ;lk;k_go;lk;exact HA (S:=S.w d2) cJ.ok (cJ.at d1) (cJ.room aq<|aG rfl) λqX hJ=>q qX<|cJ.trans hJ
def ni {av:Type} (dZ ez d0:av):bv->av
 |.txt x=>if [48]=x then dZ else if [97]=x then ez else d0
 |_=>d0
theorem G4{av b8:Type}{dZ ez d0:av}{yI xm zj:b8}{M:av->b8->Prop}(aU:M dZ yI)(ak:M ez xm)(aK:M d0 zj)(k:bv):M (ni dZ ez d0 k) (ni yI xm zj k):=by
 induction k with
 |txt x=>
  show M (if [48]=x then dZ else if [97]=x then ez else d0)<|if [48]=x then yI else if [97]=x then xm else zj;by_cases p:[48]=x
  .rw[bl p,bl p];exact aU
  .rw[bm p,bm p];by_cases q:[97]=x
   .rw[bl q,bl q];exact ak
   .rw[bm q,bm q];exact aK
 |_=>exact aK
theorem Hq{av:Type}{dZ ez d0:av}{M:av->Prop}(aU:M dZ)(ak:M ez)(aK:M d0)(k:bv):M (ni dZ ez d0 k):=G4 (M:=λK (_:Unit)=>M K) (yI:=()) (xm:=()) (zj:=()) aU ak aK k
theorem Cu{key:bv}(T:Rows S.R)(aD:gE S.R k key)(q:Q (match key with|.txt x=>.str x|_=>.none) S.st):bc (n+2) 36 [.ref 1,au k] S.st Q:=by
 k_go;induction key with
 |txt x=>have h:S.R[k]?=some (tQ x):=aD;lk;k_go;lk;exact q
 |S=>obtain rfl:k=6:=aD;have h:=T.at (t:=6) rfl;lk;exact q
 |N=>obtain rfl:k=7:=aD;have h:=T.at (t:=7) rfl;lk;exact q
theorem N7{aX ib ig aS:ā}{key:bv}(T:Rows S.R)(d1:S.R[aX]?=some (wh ib ig aS))(aD:gE S.R k key)(q:Q (au<|ni ib ig aS key) S.st):bc (n+4) 68 [.ref 10,pe aX k] S.st Q:=by
 k_go;k_go;lk;have ZB:aX≠0:=oN T d1 rfl (λe=>by cases e);refine bj.fm (by lia)<|Cu T aD ?_;k_go;induction key with
 |txt x=>
  lk;by_cases aU:[48]=x
  .refine bj.qs aU ?_;rw[show ni ib ig aS (.txt x)=ib from bl aU]at q;k_go;lk;exact q
  .refine bj.fm aU ?_;lk;by_cases ak:[97]=x
   .refine bj.qs ak ?_;rw[show ni ib ig aS (.txt x)=ig from(bm aU).trans<|bl ak]at q;k_go;lk;exact q
   .refine bj.fm ak ?_;rw[show ni ib ig aS (.txt x)=aS from(bm aU).trans<|bm ak]at q;lk;refine bj.en (λfp=>?_) λfp=>?_
    .exact q
    .exact bj.fm fp q
 |S=>obtain rfl:k=6:=aD;lk;exact q
 |N=>obtain rfl:k=7:=aD;lk;exact q
theorem Lq{x aX ib ig aS:ā}{dZ ez d0:HO aM}{key:bv}(T:Rows S.R)(aA:S.R[x]?=some (pe aX 17))(d1:S.R[aX]?=some (wh ib ig aS))(aU:i4 S.R ib dZ)(ak:i4 S.R ig ez)(aK:i4 S.R aS d0)(aD:gE S.R k key)(aq:S.R.length+4<=a3)(q:∀aa,a9 S.R aa 4->Q (au<|ni ib ig aS key) (S.w aa).st):bc (n+10) 66 [.ref 10,au x,mp k] S.st Q:=by k_go;lk;k_go;k_go;refine dg.comp rfl<|fk.un rfl<|eO.mk<|V2 T d1 aU ak aK ‹_› λaa g=>?_;lk;refine Bl (S:=S.w aa) g.ok ?_;lk;k_go;exact N7 (S:=S.w aa) g.ok (g.at d1) (aD.bf g)<|q aa g
def bv.r_:bv->aM
 |.txt x=>.txt x
 |.S=>.S
 |.N=>.N
theorem gE.r_{R:HO B}{k:ā}{key:bv}(h:gE R k key):eQ R k key.r_:=by induction key<;>exact h
theorem db.Ty.one{av:Type}{Z:db av}{R:HO B}(T:Rows R){p:ā}{a:av}(h:Z.gw R p a):Z.Ty R p [a]:=⟨[p],db.E3 T h,db.zp T h⟩
theorem Mq{R:HO B}{t:ā}{K:HO aM}(h:hY.Ty R t K):d7.Ty R t (K.map .b):=by
 obtain⟨ai,u,i⟩:=h;have st:∀a,d7.iC (K.map .b) (.b a)↔hY.iC K a:=by intro a;show(_->aF.b aM.S∉_)/\(_->aF.b aM.N∉_)↔(_->aM.S∉K)/\(_->aM.N∉K);simp only[dr,aF.b.injEq,exists_eq_right];rfl
 refine⟨ai,u,λp ae=>?_,λa ak aK=>?_⟩
 .obtain⟨a,ak,am,aK⟩:=i.to p ae;exact⟨.b a,fw ak,am,(st a).mpr aK⟩
 .obtain⟨b,aw,rfl⟩:=dr.mp ak;clear ak;exact i.of b aw<|(st b).mp aK
inductive k1 (R:List B):Nat->(bv->List aM)->Prop
 |own {x:Nat}:R[x]?=some (pe 16 17)->k1 R x λk=>[.ao k]
 |key:k1 R 17 λk=>[k.r_]
 |fix {x:Nat} {K:List aM}:i4 R x K->k1 R x λ_=>K
 |tab {x aX ib ig aS:Nat} {dZ ez d0:List aM}:R[x]?=some (pe aX 17)->R[aX]?=some (wh ib ig aS)->i4 R ib dZ->i4 R ig ez->i4 R aS d0->k1 R x (ni dZ ez d0)
theorem k1.bf{R aa:HO B}{x c:ā}{F:bv->HO aM}(h:k1 R x F)(g:a9 R aa c):k1 aa x F:=by
 induction h with
 |own h=>exact .own<|g.at h
 |key=>exact .key
 |fix h=>exact .fix<|h.bf g
 |tab a b c d e=>exact .tab (g.at a) (g.at b) (c.bf g) (d.bf g)<|e.bf g
theorem k1.len{R:HO B}{x:ā}{F:bv->HO aM}(h:k1 R x F)(key:bv):(F key).length<=12:=by
 induction h with
 |own h=>exact ih rfl
 |key=>exact ih rfl
 |fix h=>exact h.len
 |tab a b c d e=>exact Hq (M:=λK:HO aM=>K.length<=12) c.len d.len e.len key
inductive oe (R:List B):Nat->(bv->List aF)->Prop
 |base {x:Nat} {F:bv->List aM}:k1 R x F->oe R x λk=>(F k).map .b
 |arr {x p:Nat} {F:bv->List aM}:k1 R x F->R[p]?=some (hH x 0)->oe R p λk=>[.arr<|F k]
theorem oe.bf{R aa:HO B}{t c:ā}{F:bv->HO aF}(h:oe R t F)(g:a9 R aa c):oe aa t F:=by
 induction h with
 |base h=>exact .base<|h.bf g
 |arr h e=>exact .arr (h.bf g)<|g.at e
theorem oe.len{R:HO B}{x:ā}{F:bv->HO aF}(h:oe R x F)(key:bv):(F key).length<=12:=by
 induction h with
 |base h=>rw[bT];exact h.len key
 |arr h e=>exact ih rfl
inductive f9 (R:List B):Nat->(bv->List aF)->Prop
 |one {t:Nat} {F:bv->List aF}:oe R t F->f9 R t F
 |bB {t p:Nat} {F:bv->List aF}:oe R p F->gf R p (-1)->4<p->ek R t [4,p]->f9 R t λk=>F k++[.b .bB]
theorem f9.bf{R aa:HO B}{t c:ā}{F:bv->HO aF}(h:f9 R t F)(g:a9 R aa c):f9 aa t F:=by
 induction h with
 |one h=>exact .one<|h.bf g
 |bB h ae l e=>exact .bB (h.bf g) (ae.bf g) l<|e.bf g
theorem f9.len{R:HO B}{x:ā}{F:bv->HO aF}(h:f9 R x F)(key:bv):(F key).length<=13:=by
 induction h with
 |one h=>exact iF<|h.len key
 |bB h _ _ _=>rw[c'];exact dc<|h.len key
theorem db.Ty.tY{R:HO B}{t:ā}{av:Type}{Z:db av}{K:HO av}(T:Rows R)(h:Z.Ty R t K):∃ai,ek R t ai/\Z.Is R K ai/\ai.length<=K.length:=by obtain⟨ai,u,i⟩:=h;exact⟨ai,u,i,db.Is.len T u.fx λp ae=>(i.to p ae).imp λa x=>⟨x.1,x.2.1⟩⟩
theorem Hy{x:ā}{F:bv->HO aM}{key:bv}(T:Rows S.R)(h:k1 S.R x F)(aD:gE S.R k key)(aq:S.R.length+4<=a3)(q:∀t aa,a9 S.R aa 4->hY.Ty aa t (F key)->Q (au t) (S.w aa).st):bc (n+10) 66 [.ref 10,au x,mp k] S.st Q:=by
 cases h with
 |own h=>exact Uk T h aD (hl ‹_›) λp aa g e=>q p aa (g.le<|aG rfl)<|db.Ty.one (Z:=hY) g.ok e
 |key=>exact Bl T<|q k S.R (a9.refl T)<|db.Ty.one (Z:=hY) T aD.r_
 |fix h=>exact xd T h (hl ‹_›) λaa g=>q x aa (g.le<|aG rfl)<|h.ty.bf g
 |tab a b c d e=>refine Lq T a b c d e aD aq λaa g=>q _ aa g ?_;exact G4 (M:=λt K=>hY.Ty aa t K) (c.ty.bf g) (d.ty.bf g) (e.ty.bf g) key
theorem Ip{t:ā}{F:bv->HO aF}{key:bv}(T:Rows S.R)(h:oe S.R t F)(aD:gE S.R k key)(aq:S.R.length+5<=a3)(q:∀u aa,a9 S.R aa 5->d7.Ty aa u (F key)->Q (au u) (S.w aa).st):bc (n+11) 66 [.ref 10,au t,mp k] S.st Q:=by
 induction h with
 |base h=>exact Hy T h aD (hl ‹_›) λu aa g ty=>q u aa (g.le<|aG rfl)<|Mq ty
 |arr h e=>k_go;lk;refine Hy T h aD (hl ‹_›) λu aa g ty=>?_;have:=g.len;k_go;refine fb (S:=S.w aa) g.ok rfl (by show aa.length+1<=a3;lia) λp i5 dY bz=>?_;exact q p i5 (g.trans dY)<|db.Ty.one (Z:=d7) dY.ok ⟨u,bz,ty.bf dY⟩
set_option tactic.hygienic true in
theorem O_{t:ā}{F:bv->HO aF}{key:bv}(T:Rows S.R)(h:f9 S.R t F)(aD:gE S.R k key)(aq:S.R.length+6<=a3)(q:∀u aa,a9 S.R aa 6->d7.Ty aa u (F key)->Q (au u) (S.w aa).st):bc (n+13) 66 [.ref 10,au t,mp k] S.st Q:=by
 induction h with
 |one h=>exact Ip T h aD (hl ‹_›) λu aa g ty=>q u aa (g.le<|aG rfl) ty
 |bB h ae l u=>
  rename_i p F;rcases u.is with⟨e,_⟩|e|⟨_,_,e⟩
  .cases e
  .cases e
  .k_go;lk;k_go;refine dg.comp rfl<|fk.un rfl<|eO.mk<|yf (p:=4) (T.at rfl) (.key _) ?_;lk;refine Ip T h aD (hl ‹_›) λu aa g ty=>?_;lk;have:=g.len;have kT:=h.len key;obtain⟨ai,a4,aB,aj⟩:=ty.tY g.ok;refine vr (S:=S.w aa) (aS:=[(4,[4]),(u,ai)]) g.ok rfl (λx aA=>?_) (by show(ai++[]).length+1<64;rw[ha];exact hI (dc<|aI aj kT)<|by decide) (g.room aq<|aG rfl) λdM dP i5 dY h5 m=>?_
   .rcases ew.mp aA with rfl|aA
    .exact ek.key g.ok<|.inl rfl
    .rw[cX]at aA;subst aA;exact a4
   .refine q dM i5 (g.trans dY) ⟨dP,h5,?_⟩;have:=db.Is.union (Z:=d7) g.ok (fJ:=[([4],[.b .bB]),(ai,F key)]) (λx aA=>by
     rcases ew.mp aA with rfl|aA
     .exact db.zp (Z:=d7) (a:=aF.b aM.bB) g.ok<|show nv aa 4 (.b .bB)from rfl
     .rw[cX]at aA;subst aA;exact aB) (ai:=dP) (by intro p;rw[m p];simp)
    refine(this.congr λa=>?_).bf dY;simp[or_comm]
noncomputable abbrev f0 (cG nm d4 Y aV:Ă):B:=.tup [.int 17,.int 1,.int cG,.int nm,.int d4,.int Y,.int aV]
theorem u5{t:ā}{F:bv->HO aF}{key:bv}{cG nm Y aV:Ă}(T:Rows S.R)(h:f9 S.R t F)(aD:gE S.R k key)(aq:S.R.length+6<=a3)(q:∀u aa,a9 S.R aa 6->d7.Ty aa u (F key)->Q (au u) (S.w aa).st):bc (n+15) 46 [.ref 10,f0 cG nm t Y aV,au k] S.st Q:=by k_go;k_go;exact O_ T h aD aq q
theorem db.m1{av:Type}{Z:db av}{K:HO av}{a:av}(h:Z.ia a= -1):Z.iC K a:=⟨λe=>(by rw[h]at e;lia),λe=>(by rw[h]at e;lia)⟩
def a_ (K:HO aF):HO aF:=K.filter λa=> !decide (a=.b .bB)
def fQ (Y:Ă) (fN:ZI):ZI:=decide (Y=1)||(decide (Y=0)&&fN)
def fD (Y:Ă) (fN:ZI) (K:HO aF):HO aF:=if fQ Y fN=true then(if a_ K=[]then K else a_ K)else if fN=true then a_ K else K
def fE (Y:Ă) (K:HO aF):HO aF:=if Y=1 then K++[.b .bB]else if Y=2 then a_ K else K
theorem YD{R:HO B}(T:Rows R){K:HO aF}{ai:HO ā}(h:d7.Is R K ai):Cl R ai:=by
 intro p ae x y e;obtain⟨a,_,am,_⟩:=h.to p ae;induction a with
 |arr K=>obtain⟨_,h,_⟩:=(show nv R p (.arr K)from am);rw[h]at e;cases e
 |b a=>
  have hq:eQ R p a:=am;induction a with
  |txt x=>rw[show R[p]?=some (tQ x)from hq]at e;cases e
  |num x=>rw[show R[p]?=some (Co x)from hq]at e;cases e
  |ao k=>obtain⟨s,_,h⟩:=hq;rw[h]at e;cases e;rfl
  |bB=>rcases(show p=4 from hq)with rfl;rw[T.at (t:=4) rfl]at e;cases e
  |nul=>rcases(show p=5 from hq)with rfl;rw[T.at (t:=5) rfl]at e;cases e
  |S=>rcases(show p=6 from hq)with rfl;rw[T.at (t:=6) rfl]at e;cases e
  |N=>rcases(show p=7 from hq)with rfl;rw[T.at (t:=7) rfl]at e;cases e
theorem R0{R:HO B}(T:Rows R){K:HO aF}{ai:HO ā}(aK:ai.Pairwise (· <·))(h:d7.Is R K ai):d7.Is R (if a_ K=[]then K else a_ K) (if ai=[4]then [4]else ai.filter λp=> !decide (p=4)):=by
 have D1:d7.Is R (a_ K) (ai.filter λp=> !decide (p=4)):=db.Is.less (Z:=d7) T h;by_cases ba:ai=[4]
 .subst ba;have:a_ K=[]:=by
   rw[a_,vi];intro a ak;simp only[kn,Bool.not_eq_false,jT];have e5:aF.b aM.S∉K:=λq=>by obtain⟨p,ae,am⟩:=h.of _ q<|db.m1 rfl;rw[cX]at ae;subst ae;cases(show(4:ā)=6 from am)
   have c_:aF.b aM.N∉K:=λq=>by obtain⟨p,ae,am⟩:=h.of _ q<|db.m1 rfl;rw[cX]at ae;subst ae;cases(show(4:ā)=7 from am)
   obtain⟨p,ae,am⟩:=h.of a ak ⟨λ_=>e5,λ_=>c_⟩;rw[cX]at ae;subst ae;exact(d7.td T am).mp rfl
  rw[bl rfl,bl this];exact h
 .rw[bm ba];split
  .rename_i bn;have ab:K=[]:=by
    induction aD:K with
    |nil=>rfl
    |cons a r=>
     exfalso;have all:∀b∈K,b=.b .bB:=λb aw=>by have:=(vi.mp bn) b aw;simpa using this
     have c9:∀p∈ai,p=4:=λp ae=>by obtain⟨b,aw,am,_⟩:=h.to p ae;exact(d7.td T am).mpr<|all b aw
     have aN:4∈ai:=by obtain⟨p,ae,am⟩:=h.of a (by rw[aD];exact .head _) (db.m1<|by rw[all a<|by rw[aD];exact .head _];rfl);rw[c9 p ae]at ae;exact ae
     refine ba<|uG aK (by simp) λp=>?_;rw[cX];exact⟨c9 p,λe=>e▸aN⟩
   subst ab;exact D1
  .exact D1
theorem zk{cG nm d4 Y aV:Ă}{fN:ZI}(az:Y=0\/Y=1\/Y=2)(q:Q (.bool<|fQ Y fN) s):bc (n+1) 47 [f0 cG nm d4 Y aV,.bool fN] s Q:=by
 k_go;rcases az with rfl|rfl|rfl
 .exact q
 .exact q
 .exact q
theorem yP{aH aV:Ă}(az:aH=0\/aH=1\/aH=2)(q:Q (.int<|if aH=1 then 1 else if aH=2 then 0 else aV) s):bc (n+1) 45 [.int aH,.int aV] s Q:=by
 k_go;rcases az with rfl|rfl|rfl
 .exact q
 .exact q
 .exact q
theorem Kd{t:ā}{K:HO aF}(T:Rows S.R)(h:d7.Ty S.R t K)(aj:K.length<63)(aq:S.R.length+2<=a3)(q:∀dM aa,a9 S.R aa 2->d7.Ty aa dM (a_ K)->Q (au dM) (S.w aa).st):bc (n+5) 43 [.ref 10,au t] S.st Q:=by obtain⟨ai,u,i,l⟩:=h.tY T;exact S8 T u (YD T i) (by lia) aq λdM aa g h5=>q dM aa g ⟨_,h5,(db.Is.less (Z:=d7) T i).bf g⟩
theorem H1{t:ā}{K:HO aF}{arg:B}(T:Rows S.R)(h:d7.Ty S.R t K)(ak:items arg=some [au t,au 4])(aj:K.length<63)(aq:S.R.length+1<=a3)(q:∀dM aa,a9 S.R aa 1->d7.Ty aa dM (K++[.b .bB])->Q (au dM) (S.w aa).st):bc (n+3) 20 [.ref 1,arg] S.st Q:=by obtain⟨ai,u,i,l⟩:=h.tY T;exact y' T u ak (by lia) aq λdM dP aa g h5 m=>q dM aa g ⟨_,h5,(db.Is.bB (Z:=d7) T i m).bf g⟩
theorem wq{t:ā}{F:bv->HO aF}{key:bv}{cG nm Y aV:Ă}{fN:ZI}(T:Rows S.R)(h:f9 S.R t F)(aD:gE S.R k key)(az:Y=0\/Y=1\/Y=2)(aq:S.R.length+8<=a3)(q:∀u aa,a9 S.R aa 8->d7.Ty aa u (fD Y fN<|F key)->Q (au u) (S.w aa).st):bc (n+16) 48 [.ref 10,f0 cG nm t Y aV,au k,.int<|-1,.bool fN] S.st Q:=by
 have aj:=h.len key;k_go;refine u5 T h aD (hl ‹_›) λu aa g ty=>?_;have:=g.len;refine zk az ?_;induction aK:fQ Y fN with
 |true=>obtain⟨ai,a4,aB,r'⟩:=ty.tY g.ok;refine Qt (S:=S.w aa) g.ok a4 (by lia) (by show aa.length+1<=a3;lia) λdM dP i5 dY h5 e=>?_;refine q dM i5 ((g.trans dY).le<|aG rfl) ⟨dP,h5,?_⟩;unfold fD;rw[bl aK,e];exact(R0 g.ok a4.fx aB).bf dY
 |false=>
  induction fN with
  |true=>refine Kd (S:=S.w aa) g.ok ty (CY ‹_›) (by show aa.length+2<=a3;lia) λdM i5 dY uM=>?_;refine q dM i5 (g.trans dY) ?_;unfold fD;rw[bm (by rw[aK];decide),bl rfl];exact uM
  |false=>refine q u aa (g.le<|aG rfl) ?_;unfold fD;rw[bm (by rw[aK];decide),bm<|by decide];exact ty
theorem Bo{t:ā}{K:HO aF}{cG nm d4 Y aV:Ă}(T:Rows S.R)(h:d7.Ty S.R t K)(az:Y=0\/Y=1\/Y=2)(aj:K.length<63)(aq:S.R.length+2<=a3)(q:∀u aa,a9 S.R aa 2->d7.Ty aa u (fE Y K)->Q (au u) (S.w aa).st):bc (n+6) 56 [.ref 10,f0 cG nm d4 Y aV,au t] S.st Q:=by
 k_go;rcases az with rfl|rfl|rfl
 .exact q t S.R (a9.refl T) h
 .exact H1 T h rfl aj (hl ‹_›) λu aa g ty=>q u aa (g.le<|aG rfl) ty
 .exact Kd T h aj aq λu aa g ty=>q u aa g ty
theorem Ju{x:bx}(T:Rows S.R)(aq:S.R.length+1<=a3)(q:∀p aa,a9 S.R aa 1->gE aa p (.txt x)->Q (au p) (S.w aa).st):bc (n+2) 3 [.ref 1,.str x] S.st Q:=by k_go;exact fb T rfl aq λp aa g e=>q p aa g e
theorem Tu{t:ā}{F:bv->HO aF}{cG nm Y aV:Ă}{lU:ā}{dw qd:Ă}(T:Rows S.R)(h:f9 S.R t F)(az:Y=0\/Y=1\/Y=2)(aN:qd=0\/qd=1\/qd=2)(ae:small (lU:Ă)=true)(aA:(dp lU).length<=a3)(aq:S.R.length+9<=a3)(q:∀u aa,a9 S.R aa 9->d7.Ty aa u (if qd=2 then fE Y (F<|.txt<|dp lU)else fD Y (decide<|qd=1) (F<|.txt<|dp lU))->Q (.tup [au u,.int<|if qd=2 then 2 else if fQ Y (decide<|qd=1)=true then 1 else 0]) (S.w aa).st):bc (n+17) 57 [.ref 10,f0 cG nm t Y aV,au lU,.tup [.int dw,.int qd],.bool false] S.st Q:=by
 have uy:pb .str S.st [au lU]=some (.str<|dp lU):=by show(if small (lU:Ă)then i3 (dp lU).length (B.str<|dp lU)else none)=_;rw[ae];unfold i3;rw[bl aA];rfl
 have aj:=h.len<|.txt<|dp lU;k_go;refine ay.of uy<|Ju T (hl ‹_›) λk gp c3 aD=>?_;have:=c3.len;rcases aN with rfl|rfl|rfl
 .refine zk az ?_;induction aK:fQ Y false with
  |true=>refine bj.l3 aK ?_;refine wq (S:=S.w gp) c3.ok (h.bf c3) aD az (by show gp.length+8<=a3;lia) λu bu bh ty=>?_;have:=q u bu ((c3.trans bh).le<|aG rfl) ty;simp[aK]at this;exact this
  |false=>refine bj.h4 aK ?_;refine wq (S:=S.w gp) c3.ok (h.bf c3) aD az (by show gp.length+8<=a3;lia) λu bu bh ty=>?_;have:=q u bu ((c3.trans bh).le<|aG rfl) ty;simp[aK]at this;exact this
 .refine zk az ?_;induction aK:fQ Y true with
  |true=>refine bj.l3 aK ?_;refine wq (S:=S.w gp) c3.ok (h.bf c3) aD az (by show gp.length+8<=a3;lia) λu bu bh ty=>?_;have:=q u bu ((c3.trans bh).le<|aG rfl) ty;simp[aK]at this;exact this
  |false=>refine bj.h4 aK ?_;refine wq (S:=S.w gp) c3.ok (h.bf c3) aD az (by show gp.length+8<=a3;lia) λu bu bh ty=>?_;have:=q u bu ((c3.trans bh).le<|aG rfl) ty;simp[aK]at this;exact this
 .refine u5 (S:=S.w gp) c3.ok (h.bf c3) aD (by show gp.length+6<=a3;lia) λu bu bh ty=>?_;have:=bh.len;have e:(S.w gp).R.length=gp.length:=rfl;refine Bo (S:=S.w bu) bh.ok ty az (CY ‹_›) (by show bu.length+2<=a3;lia) λv d2 cJ uM=>?_;exact q v d2 (((c3.trans bh).trans cJ).le<|aG rfl) uM
theorem cF.nat{bk:ZI}{aS:HO ā}{b:HO dE}{r:aJ}{Q:cj->aJ->St->Prop}{len:ā}(dx:ā->aJ->St->Prop)(aU:dx 0 r s)(ba:∀i,i<len->∀r s (K:aJ->St->Prop),pI (dx<|i+1) K->∀Z,rR Q Z->dx i r s->ay (il bk aS (au i) r) λr=>bw n b r s<|zi K Z)(cN:∀r s,dx len r s->Q .go r s):cF n bk aS b ((List.range len).map au) r s Q:=by
 refine cF.inv (λl r s=>∃i,i<=len/\l=((List.range len).drop i).map au/\dx i r s) ?_ ?_ ⟨0,f8 _,by rw[List.drop_zero],aU⟩
 .rintro v l r s K ab Z V7⟨i,aB,e,b_⟩;have vI:i<len:=by
   rcases Nat.lt_or_ge i len with h|h
   .exact h
   .rw[List.drop_of_length_le<|by simpa using h]at e;cases e
  rw[xl (by simpa using vI),gh,sc,List.getElem_range]at e;obtain⟨rfl,rfl⟩:=e;exact ba i vI r s K (λr s h=>ab _ _ ⟨i+1,vI,rfl,h⟩) Z V7 b_
 .rintro r s⟨i,aB,e,b_⟩;have:i=len:=by
   rcases Nat.lt_or_ge i len with h|h
   .rw[xl<|by simpa using h]at e;cases e
   .lia
  subst this;exact cN r s b_
theorem cF.ey{bk:ZI}{aS:HO ā}{b:HO dE}{r:aJ}{Q:cj->aJ->St->Prop}{x:B}{len:ā}(dx:ā->aJ->St->Prop)(aA:items x=some ((List.range len).map au))(aU:dx 0 r s)(ba:∀i,i<len->∀r s (K:aJ->St->Prop),pI (dx<|i+1) K->∀Z,rR Q Z->dx i r s->ay (il bk aS (au i) r) λr=>bw n b r s<|zi K Z)(cN:∀r s,dx len r s->Q .go r s):ay (items x) λbO=>cF n bk aS b bO r s Q:=ay.of aA<|cF.nat dx aU ba cN
theorem QR{len:ā}{done a_:HO ā}{a:ā}(e:List.range len=done++a::a_):a=done.length/\done.length<len:=by have h:=bI (λl:HO ā=>l[done.length]?) e;simp only[oZ<|dy _,Nat.sub_self,List.getElem?_cons_zero]at h;obtain⟨G,E⟩:=g9.mp h;rw[List.getElem_range]at E;exact⟨E.symm,by simpa using G⟩
theorem cF.oY{bk:ZI}{aS:HO ā}{b:HO dE}{r:aJ}{Q:cj->aJ->St->Prop}{x:B}{len:ā}(aA:items x=some ((List.range len).map au))(fy:ā->(aJ->St->Prop)->Prop)(ba:∀i,i<len->∀K:aJ->St->Prop,fy (i+1) K->fy i λr s=>ay (il bk aS (au i) r) λr=>bw n b r s<|mS K Q)(cN:fy len (Q .go))(h:∀K:aJ->St->Prop,fy 0 K->K r s):ay (items x) λbO=>cF n bk aS b bO r s Q:=ay.of aA<|cF.mp rfl (λdone=>fy done.length) (λdone a a_ e K ab=>by obtain⟨rfl,aB⟩:=QR e;rw[c']at ab;exact ba _ aB K ab) (by rw[sQ];exact cN) h
theorem kb(len:ā):items (.ey 0 (len:Ă))=some ((List.range len).map au):=by show some _=some _;congr 1;rw[show((len:Ă)-0).toNat=len by lia];apply List.map_congr_left;intro i _;show B.int (0+Int.ofNat i)=B.int (i:Ă);rw[Int.zero_add];rfl
def df (es:HO (ā×Ă)):HO B:=es.map λe=>.tup [au e.1,.int e.2]
def uh (v:B):HO B:=match v with|.tup [_,m]=>[m]|_=>[]
theorem ma(es:HO (ā×Ă)):(df es).length=es.length:=by unfold df;rw[bT]
theorem CH{es:HO (ā×Ă)}{i:ā}{e:ā×Ă}(h:es[i]?=some e):∀{s:St},hn s (.lst<|df es) (au i)=some (.tup [au e.1,.int e.2]):=by intro s;show(jH (i:Ă) (df es).length).bind (λj=>(df es)[j]?)=_;rw[ma,qr (g9.mp h).1];show(es.map _)[i]?=_;rw[gN,h];rfl
theorem Ce{es:HO (ā×Ă)}{i:ā}{e:ā×Ă}(h:es[i]?=some e):∀{s:St},hn s (.tup<|df es) (au i)=some (.tup [au e.1,.int e.2]):=by intro s;show(jH (i:Ă) (df es).length).bind (λj=>(df es)[j]?)=_;rw[ma,qr (g9.mp h).1];show(es.map _)[i]?=_;rw[gN,h];rfl
theorem tu(m:Ă):∀ax:HO Ă,hN (.int m) (ax.map .int)=some (decide<|m∈ax)
 |[]=>rfl
 |a::r=>by
  show((fd (.int a)<|.int m).bind λx=>(hN (.int m)<|r.map .int).map λb=>x||b)=_;rw[tu m r];show some (decide (a=m)||decide (m∈r))=_;congr 1;by_cases h:a=m
  .simp[h]
  .have:¬m=a:=λe=>h e.symm;simp[h,this]
def iD (p:Ă->ZI) (l:HO Ă):ā->Ă
 |0=> -1
 |i+1=>(l[i]?).elim (iD p l i) λe=>if p e=true then(i:Ă)else iD p l i
theorem h2{n:ā}(h:n<=1000):small (n:Ă)=true:=by unfold small;simp;lia
theorem yB{n k:ā}(h:n<=k)(e:Nat.ble k a3=true:=by rfl):((n:Ă)-0).toNat<=a3:=by rw[tX,qN];exact aI h<|aG e
theorem CI{es:HO (ā×Ă)}{ax:HO Ă}(aj:es.length<=1000)(q:Q (.int<|iD (λm=>decide<|m∈ax) (es.map (·.2)) es.length) s):bc (n+1) 5 [.lst<|df es,.tup<|ax.map .int] s Q:=by
 k_go;lk;rw[ma];refine⟨rfl,h2 aj,yB aj,cF.oY (len:=es.length) (kb _) (λi K=>∀x,K [.val<|.lst<|df es,.val<|.tup<|ax.map .int,.val<|.int<|iD (λm=>decide<|m∈ax) (es.map (·.2)) i,x] s) (λi aB K ab x=>?_) (λx=>by exact q) λK ab=>ab _⟩;have a6:=fr aB;have aA:iD (λm=>decide<|m∈ax) (es.map (·.2)) (i+1)=if decide (es[i].2∈ax)=true then(i:Ă)else iD (λm=>decide<|m∈ax) (es.map (·.2)) i:=by show((es.map (·.2))[i]?).elim _ _=_;rw[gN,a6];rfl
 rw[aA]at ab;lk;refine ay.of (CH a6)<|ay.of (show hC .isin s (.int es[i].2) (.tup<|ax.map .int)=_ from tu _ ax)<|bj.en (λh=>?_) λh=>?_
 .rw[bl<|dL h]at ab;exact ab _
 .rw[bm<|by rw[eA h];exact dR]at ab;exact ab _
abbrev g3:=HO aF×Ă
def hj(b:ā)(R:HO B)(es:HO (ā×Ă))(ah:HO g3):Prop:=bX (λe c=>e.2=c.2/\d7.Ty R e.1 c.1/\c.1.length<=b) es ah
theorem hj.bf{b:ā}{R aa:HO B}{c:ā}{es:HO (ā×Ă)}{ah:HO g3}(h:hj b R es ah)(g:a9 R aa c):hj b aa es ah:=bX.imp (λe c x=>⟨x.1,x.2.1.bf g,x.2.2⟩) h
theorem bX.at{av b8:Type}{P:av->b8->Prop}{l:HO av}{m:HO b8}(x:bX P l m):∀{i:ā} {a:av},l[i]?=some a->∃b,m[i]?=some b/\P a b:=bX.rec (motive:=λl m _=>∀{i:ā} {a:av},l[i]?=some a->∃b,m[i]?=some b/\P a b) (λh=>bY h) (λx _ ap=>λ{i} _ h=>by
 induction i with
 |zero=>cases h;exact⟨_,rfl,x⟩
 |succ i=>exact ap (i:=i) h) x
def conv (dT:Ă) (i:ā) (c:g3):g3:=if c.2=1/\(i:Ă)<dT then(c.1++[.b .bB],0)else c
def jv (dT:Ă):ā->HO g3->HO g3
 |_,[]=>[]
 |i,c::r=>conv dT i c::jv dT (i+1) r
theorem uz(dT:Ă)(l:HO g3):∀j:ā,(jv dT j l).length=l.length:=by
 induction l with
 |nil=>exact λ_=>rfl
 |cons c r ap=>exact λj=>bI Nat.succ<|ap<|j+1
theorem QA(dT:Ă)(c:g3)(l:HO g3):∀j:ā,jv dT j (l++[c])=jv dT j l++[conv dT (j+l.length) c]:=by
 induction l with
 |nil=>exact λ_=>rfl
 |cons a r ap=>
  intro j;show conv dT j a::jv dT (j+1) (r++[c])=conv dT j a::(jv dT (j+1) r++[conv dT (j+(r.length+1)) c])
  rw[ap,Nat.add_right_comm,rg]
theorem hj.marks{R:HO B}{b:ā}{es:HO (ā×Ă)}{ah:HO g3}(h:hj b R es ah):es.map (·.2)=ah.map (·.2):=by
 induction h with
 |nil=>rfl
 |cons x _ ap=>rw[gh,gh,ap,x.1]
theorem tc(es:HO (ā×Ă))(a:ā)(m:Ă):df es++[.tup [au a,.int m]]=df (es++[(a,m)]):=by unfold df;simp
def Ac (es:HO (ā×Ă)) (dT:Ă) (l:HO B) (x y z:cq):aJ:=[.val<|.ref 1,.val<|.lst<|df es,.val<|.int dT,.ol l,x,y,z]
theorem KX{b:ā}{es:HO (ā×Ă)}{ah:HO g3}(T:Rows S.R)(cf:hj b S.R es ah)(aw:b<=60)(aj:es.length<=100)(aq:S.R.length+es.length<=a3)(q:∀cx aa,a9 S.R aa es.length->hj (b+1) aa cx (jv (iD (λm=>decide<|m∈[(0:Ă)]) (es.map (·.2)) es.length) 0 ah)->Q (.lst<|df cx) (S.w aa).st):bc (n+6) 6 [.ref 1,.lst<|df es] S.st Q:=by
 generalize Sh:iD (λm=>decide<|m∈[(0:Ă)]) (es.map (·.2)) es.length=dT at q;k_go;refine CI (ax:=[0]) (aI aj<|aG rfl) ?_;rw[Sh];lk;rw[ma];refine⟨rfl,h2<|aI aj<|aG rfl,yB aj,cF.oY (len:=es.length) (kb _) (λi K=>∀aa cx x y z,a9 S.R aa i->hj (b+1) aa cx (jv dT 0<|ah.take i)->K (Ac es dT (df cx) x y z) (S.w aa).st) (λi aB K ab aa cx x y z g eN=>?_) (λaa cx x y z g eN=>?_) λK ab=>ab S.R [] _ _ _ (a9.refl T) .nil⟩
 .have a6:=fr aB;obtain⟨c,s9,aN,ty,aD⟩:=cf.at a6;have iW:cx.length=i:=by rw[eN.len,uz];exact uk (by rw[<-cf.len];exact j4 aB)
  have g4:(df cx).length+1<=a3:=by rw[ma,iW];exact aI (dc<|aI (j4 aB) aj)<|aG rfl
  obtain⟨ai,a4,vI,r'⟩:=(ty.bf g).tY g.ok;have ab:∀bu (t m:Ă) (dM:ā) a x y z,t=dM->a9 aa bu 1->(a.2=m/\d7.Ty bu dM a.1/\a.1.length<=b+1)->conv dT i c=a->K (Ac es dT (df cx++[.tup [.int t,.int m]]) x y z) (S.w bu).st:=λbu t m dM a x y z qI bh h e=>by rw[qI,tc];refine ab bu _ x y z (g.trans bh) ?_;rw[List.take_add_one,s9];show hj _ _ _<|jv dT 0<|ah.take i++[c];rw[QA,iM,uk (by rw[<-cf.len];exact j4 aB),e];exact bX.snoc ⟨h.1.symm,h.2⟩<|eN.bf bh
  have keep:∀x y z,¬(c.2=1/\(i:Ă)<dT)->K (Ac es dT (df cx++[.tup [au es[i].1,.int es[i].2]]) x y z) (S.w aa).st:=λx y z h=>ab aa _ _ _ c x y z rfl (a9.refl g.ok) ⟨aN.symm,ty.bf g,iF aD⟩<|bm h;lk;refine ay.of (CH a6)<|bj.en (λG=>bj.en (λE=>?_) λE=>?_) λG=>bj.fm G ?_
  .refine Rv (S:=S.w aa) g.ok a4 (by lia) (aI (dc g.len)<|aI (gr aB S.R.length) aq) λdM dP i5 dY h5 m=>⟨g4,?_⟩;exact ab i5 _ 0 dM (c.1++[.b .bB],0) _ _ _ rfl dY ⟨rfl,⟨dP,h5,(db.Is.bB (Z:=d7) g.ok vI m).bf dY⟩,by rw[c'];exact dc aD⟩ (by unfold conv;rw[bl ⟨aN▸G,E⟩])
  .exact⟨g4,keep _ _ _ λh=>E h.2⟩
  .exact⟨g4,keep _ _ _ λh=>G<|by rw[aN];exact h.1⟩
 .rw[s'<|fT cf.len.symm]at eN;exact q cx aa g eN
def j8 (l:HO Ă):ā->Ă
 |0=> -1
 |i+1=>(l[i]?).elim (j8 l i) λm=>if j8 l i<0/\m=2 then(i:Ă)else j8 l i
theorem Ly{p:Ă->ZI}{l:HO Ă}(h:∀m∈l,p m=false)(i:ā):iD p l i= -1:=by
 induction i with
 |zero=>rfl
 |succ i ap=>
  show(l[i]?).elim _ _=_;induction aN:l[i]? using Option.casesOn with
  |none=>exact ap
  |some m=>exact(bm<|by rw[h m<|h9 aN];exact dR).trans ap
theorem CQ(aV:Ă)(es:HO (ā×Ă)):ic (.tup [.int 12,.tup<|df es,.int aV])=true:=lm (yo λ_=>rfl) rfl
theorem Rw{es:HO (ā×Ă)}{dT:Ă}(aj:es.length<=100)(h:j8 (es.map (·.2)) es.length<0\/dT<=j8 (es.map (·.2)) es.length)(q:Q (.lst<|df es) s):bc (n+1) 7 [.ref 1,.lst<|df es,.int dT] s Q:=by
 k_go;lk;rw[ma];refine⟨rfl,h2<|aI aj<|aG rfl,yB aj,cF.oY (len:=es.length) (kb _) (λi K=>∀x,K [.val<|.ref 1,.val<|.lst<|df es,.val<|.int dT,.val<|.int<|j8 (es.map (·.2)) i,x,.un,.un,.un] s) (λi aB K ab x=>?_) (λx=>?_) λK ab=>ab _⟩
 .have a6:=fr aB;have aA:j8 (es.map (·.2)) (i+1)=if j8 (es.map (·.2)) i<0/\es[i].2=2 then(i:Ă)else j8 (es.map (·.2)) i:=by show((es.map (·.2))[i]?).elim _ _=_;rw[gN,a6];rfl
  rw[aA]at ab;refine bj.en (λG=>ay.of (CH a6)<|bj.en (λE=>?_) λE=>?_) λG=>bj.fm G ?_
  .rw[bl ⟨G,E⟩]at ab;exact ab _
  .rw[bm λh=>E h.2]at ab;exact ab _
  .rw[bm λh=>G h.1]at ab;exact ab _
 .exact bj.en (λG=>bj.qs G q) λG=>bj.qs (h.resolve_left G) q
theorem Uw{b:ā}{es:HO (ā×Ă)}{ah:HO g3}{aV:Ă}{M:HO Ă}(T:Rows S.R)(cf:hj b S.R es ah)(aw:b<=60)(aj:es.length<=100)(aq:S.R.length+es.length+1<=a3)(aC:∀m∈es.map (·.2),m≠3)(eL:M=(jv (iD (λm=>decide<|m∈[(0:Ă)]) (es.map (·.2)) es.length) 0 ah).map (·.2))(E:M≠[2])(bn:j8 M es.length<0\/iD (λm=>decide<|m∈[(2:Ă),1]) (es.map (·.2)) es.length<=j8 M es.length)(q:∀t cx aa,a9 S.R aa (es.length+1)->hj (b+1) aa cx (jv (iD (λm=>decide<|m∈[(0:Ă)]) (es.map (·.2)) es.length) 0 ah)->aa[t]?=some (.tup [.int 12,.tup<|df cx,.int aV])->Q (au t) (S.w aa).st):bc (n+7) 8 [.ref 1,.tup<|df es,.int aV] S.st Q:=by
 k_go;refine dg.comp rfl<|fk.mp (all:=es) (f:=λe=>.tup [au e.1,.int e.2]) rfl (λdone K=>K (df done) S.st) (λdone e a_ ag K ab=>eO.mk<|by rw[<-tc]at ab;exact ab) ?_ λK ab=>ab;refine CI (ax:=[3]) (aI aj<|aG rfl) ?_;rw[Ly<|λm aN=>eA λh=>aC m aN<|cX.mp h];refine CI (ax:=[2,1]) (aI aj<|aG rfl)<|KX T cf aw aj (lg aq) λcx aa g h8=>?_;have xh:cx.length=es.length:=by rw[h8.len,uz,cf.len]
 rw[eL,<-h8.marks,<-xh]at bn;rw[eL,<-h8.marks]at E;refine Rw (aI (fT xh) aj) (xh▸bn) ?_;have fin:bc (n+6) 1 [.ref 1,.tup [.int 12,.tup<|df cx,.int aV]] (S.w aa).st Q:=fb (S:=S.w aa) g.ok (CQ aV cx) (aI (dc g.len) aq) λt i5 dY e=>q t cx i5 (g.trans dY) (h8.bf dY) e;clear bn eL cf h8 xh q g aC;induction cx using List.casesOn with
 |nil=>exact fin
 |cons a r=>induction r using List.casesOn with
  |nil=>exact bj.fm (λh=>E<|by rw[gh,show a.2=2 from h];rfl) fin
  |cons c r=>exact fin
def ca:HO Ă->ā
 |[]=>0
 |m::r=>if m=2 then 0 else ca r+1
theorem zM{l:HO Ă}:∀{i:ā} {m:Ă},l[i]?=some m->i<ca l->m≠2:=by
 induction l with
 |nil=>exact λh=>nomatch h
 |cons a r ap=>
  intro i m h aj;replace aj:i<(if a=2 then 0 else ca r+1):=aj;by_cases c:a=2
  .rw[bl c]at aj;exact absurd aj<|Nat.not_lt_zero _
  .rw[bm c]at aj;induction i using Nat.casesOn with
   |zero=>exact cT h▸c
   |succ i=>exact ap (i:=i) h<|Nat.lt_of_succ_lt_succ aj
theorem T2{l:HO Ă}:∀{i:ā},l[i]?=some 2->i<=ca l->ca l=i:=by
 induction l with
 |nil=>exact λh=>nomatch h
 |cons a r ap=>
  intro i h aj;induction i using Nat.casesOn with
  |zero=>exact bl<|cT h
  |succ i=>
   replace aj:i+1<=(if a=2 then 0 else ca r+1):=aj;show(if a=2 then 0 else ca r+1)=i+1;by_cases c:a=2
   .rw[bl c]at aj;exact absurd aj<|Nat.not_succ_le_zero _
   .rw[bm c]at aj⊢;exact bI Nat.succ<|ap (i:=i) h<|uq aj
theorem Ry{l:HO Ă}:∀{i:ā} {m:Ă},l[i]?=some m->m≠2->i<=ca l->i+1<=ca l:=by
 induction l with
 |nil=>exact λh=>nomatch h
 |cons a r ap=>
  intro i m h n aj;show i+1<=(if a=2 then 0 else ca r+1);induction i using Nat.casesOn with
  |zero=>rw[bm<|cT h▸n];exact dc<|f8 _
  |succ i=>
   replace aj:i+1<=(if a=2 then 0 else ca r+1):=aj;by_cases c:a=2
   .rw[bl c]at aj;exact absurd aj<|Nat.not_succ_le_zero _
   .rw[bm c]at aj⊢;exact dc<|ap (i:=i) h n<|uq aj
theorem yr(l:HO Ă):ca l<=l.length:=by
 induction l with
 |nil=>exact dy _
 |cons m r ap=>
  show(if m=2 then 0 else ca r+1)<=r.length+1;by_cases c:m=2
  .rw[bl c];exact f8 _
  .rw[bm c];exact dc ap
theorem yA:∀i,i<100->(dp<|Int.ofNat i).length<=10:=by decide+kernel
def kQ (Y:Ă) (F:bv->HO aF) (eC i:ā) (m:Ă):g3:=if i<eC then(fD Y (decide<|m=1)<|F<|.txt<|dp i,if fQ Y (decide<|m=1)=true then 1 else 0)else(fE Y<|F .N,if m=2 then 2 else 0)
def mw (Y:Ă) (F:bv->HO aF) (eC:ā):ā->HO Ă->HO g3
 |_,[]=>[]
 |i,m::r=>kQ Y F eC i m::mw Y F eC (i+1) r
theorem Ie(Y:Ă)(F:bv->HO aF)(eC:ā)(m:Ă)(l:HO Ă):∀j:ā,mw Y F eC j (l++[m])=mw Y F eC j l++[kQ Y F eC (j+l.length) m]:=by
 induction l with
 |nil=>exact λ_=>rfl
 |cons a r ap=>exact λj=>(bI (List.cons _)<|ap<|j+1).trans (by rw[nA,ro];rfl)
theorem v9(Y:Ă)(F:bv->HO aF)(eC:ā)(l:HO Ă):∀j:ā,(mw Y F eC j l).length=l.length:=by
 induction l with
 |nil=>exact λ_=>rfl
 |cons a r ap=>exact λj=>bI Nat.succ<|ap<|j+1
theorem PI(Y:Ă)(F:bv->HO aF)(eC:ā)(l:HO Ă):∀j:ā,∀m∈(mw Y F eC j l).map (·.2),m≠3:=by
 have two:∀{p:Prop} [Decidable p] {x y:Ă},x≠3->y≠3->(if p then x else y)≠3:=λ{p} _ x y aA a1=>by
  by_cases h:p
  .rw[bl h];exact aA
  .rw[bm h];exact a1
 induction l with
 |nil=>exact λ_ _ h=>nomatch h
 |cons a r ap=>
  intro j m h;cases h with
  |head=>
   show(kQ Y F eC j a).2≠3;unfold kQ;by_cases h:j<eC
   .rw[bl h];exact two (by decide) (by decide)
   .rw[bm h];exact two (by decide) (by decide)
  |tail _ h=>exact ap _ m h
theorem uL(Y:Ă)(fN:ZI)(K:HO aF):(fD Y fN K).length<=K.length:=by
 have:=ms (λa=> !decide (a=aF.b aM.bB)) K;unfold fD a_;split
 .split
  .exact dy _
  .exact this
 .split
  .exact this
  .exact dy _
theorem Bj(Y:Ă)(K:HO aF):(fE Y K).length<=K.length+1:=by
 have:=ms (λa=> !decide (a=aF.b aM.bB)) K;unfold fE a_;split
 .simp
 .split
  .exact iF ‹_›
  .exact j1 _
def R2 (es:HO (ā×Ă)) (aV:Ă) (x:cq):aJ:=[.val<|.tup [.int 12,.tup<|df es,.int aV],x]
theorem K1{es:HO (ā×Ă)}{aV:Ă}(aj:es.length<=100)(aN:∀m∈es.map (·.2),m=0\/m=1\/m=2)(q:Q (au<|ca<|es.map (·.2)) s):bc (n+1) 29 [.tup [.int 12,.tup<|df es,.int aV]] s Q:=by
 k_go;lk;rw[ma];refine⟨rfl,h2<|f1 ‹_›,(by rw[tX,qN];exact aI aj<|aG rfl),?_⟩;refine cF.oY (len:=es.length) (kb _) (λi K=>i<=ca (es.map (·.2))->∀x,K (R2 es aV x) s) (λi aB K ab a7 x=>?_) (λa7 x=>?_) λK ab=>ab (f8 _) _
 .have a6:es[i]?=some es[i]:=fr aB;have oH:(es.map (·.2))[i]?=some es[i].2:=by rw[gN,a6];rfl
  lk;refine ay.of (Ce a6) ?_;by_cases E:es[i].2=2
  .refine bj.l3 (by show(decide (2=es[i].2)||_)=true;rw[dL E.symm];rfl) ?_;rw[E]at oH;rw[T2 oH a7]at q;lk;exact q
  .have aC:¬3=es[i].2:=λq=>by rcases aN _ (h9 oH)with h|h|h<;>rw[h]at q<;>exact absurd q (by decide)
   refine bj.h4 (by show(decide (2=es[i].2)||(decide (3=es[i].2)||false))=false;rw[eA λq=>E q.symm,eA aC];rfl) ?_;lk;exact ab (Ry oH E a7) _
 .have:=yr<|es.map (·.2);rw[bT]at this;rw[vz this a7]at q;lk;rw[ma];exact q
def Km (row:B) (ci:HO (ā×Ă)) (aV:Ă) (es:HO B) (x y z:cq):aJ:=[.val<|.ref 10,.val row,.val<|.tup [.int 12,.tup<|df ci,.int aV],.ol es,.val<|au<|ca<|ci.map (·.2),x,y,z]
theorem RL{t:ā}{F:bv->HO aF}{cG nm Y aH aV:Ă}{ci:HO (ā×Ă)}{aT:HO g3}{M:HO Ă}(T:Rows S.R)(h:f9 S.R t F)(az:Y=0\/Y=1\/Y=2)(dh:aH=0\/aH=1\/aH=2)(aj:ci.length<=20)(aN:∀m∈ci.map (·.2),m=0\/m=1\/m=2)(aq:S.R.length+250<=a3)(eZ:aT=mw Y F (ca<|ci.map (·.2)) 0 (ci.map (·.2)))(eL:M=(jv (iD (λm=>decide<|m∈[(0:Ă)]) (aT.map (·.2)) ci.length) 0 aT).map (·.2))(E:M≠[2])(bn:j8 M ci.length<0\/iD (λm=>decide<|m∈[(2:Ă),1]) (aT.map (·.2)) ci.length<=j8 M ci.length)(q:∀u cx aa,a9 S.R aa 250->hj 15 aa cx (jv (iD (λm=>decide<|m∈[(0:Ă)]) (aT.map (·.2)) ci.length) 0 aT)->aa[u]?=some (.tup [.int 12,.tup<|df cx,.int<|if aH=1 then 1 else if aH=2 then 0 else aV])->Q (au u) (S.w aa).st):bc (n+19) 60 [.ref 10,f0 cG nm t Y aH,.tup [.int 12,.tup<|df ci,.int aV]] S.st Q:=by
 have kT:=λkey=>h.len key;have fp:=T.at (t:=7) rfl;k_go;refine K1 (aI aj<|aG rfl) aN ?_;lk;rw[ma];refine⟨rfl,h2<|f1 ‹_›,(by rw[tX,qN];exact aI aj<|aG rfl),?_⟩;refine cF.oY (len:=ci.length) (kb _) (λi K=>∀aa cx x y z,a9 S.R aa (9*i)->hj 14 aa cx (mw Y F (ca<|ci.map (·.2)) 0<|(ci.map (·.2)).take i)->K (Km (f0 cG nm t Y aH) ci aV (df cx) x y z) (S.w aa).st) (λi aB K ab aa cx x y z g eN=>?_) (λaa cx x y z g eN=>?_) λK ab=>ab S.R [] _ _ _ (a9.refl T) .nil
 .have a6:ci[i]?=some ci[i]:=fr aB;have oH:(ci.map (·.2))[i]?=some ci[i].2:=by rw[gN,a6];rfl
  have oJ:(ci.map (·.2)).take (i+1)=(ci.map (·.2)).take i++[ci[i].2]:=by rw[List.take_add_one,oH];rfl
  have zQ:((ci.map (·.2)).take i).length=i:=uk (by rw[bT];exact j4 aB);have p3:=aI (j4 aB) aj;have iW:cx.length=i:=by have:=eN.len;rw[v9,zQ]at this;exact this
  have g4:(df cx).length+1<=a3:=by rw[ma,iW];exact aI (dc p3)<|aG rfl
  have sX:a9 S.R aa 180:=g.le<|hf 9 p3;lk;refine ay.of (Ce a6)<|bj.en (λG=>?_) λG=>?_
  .have l0:i<ca (ci.map (·.2)):=ix.mp G;have k9:=zM oH l0;lk;refine Tu (S:=S.w aa) (lU:=i) g.ok (h.bf g) az (aN ci[i].2<|h9 oH) (h2<|aI p3<|aG rfl) (aI (yA i<|hI p3<|aG rfl)<|aG rfl) (sX.room aq<|aG rfl) λu i5 dY ty=>?_;rw[bm k9]at ty;refine⟨g4,?_⟩;have ab:=ab i5 (cx++[(u,if fQ Y (decide<|ci[i].2=1)=true then 1 else 0)]) (.val<|au i) (.val<|.tup [au ci[i].1,.int ci[i].2]) z (by rw[Nat.mul_add];exact g.trans dY) (by rw[oJ,Ie,iM,zQ];refine bX.snoc ?_<|eN.bf dY;unfold kQ;rw[bl l0];exact⟨rfl,ty,aI (uL _ _ _)<|aI (kT _)<|aG rfl⟩);rw[<-tc]at ab;lk;rw[bm k9];exact ab
  .have l0:¬i<ca (ci.map (·.2)):=λx=>G<|ix.mpr x;refine u5 (S:=S.w aa) (k:=7) (key:=.N) g.ok (h.bf g) rfl (sX.room aq<|aG rfl) λu bu bh ty=>Bo (S:=S.w bu) bh.ok ty az (hI (kT _)<|jF rfl) ((sX.trans bh).room aq<|aG rfl) λv d2 cJ uM=>?_;have ab:∀i':Ă,i'=(if ci[i].2=2 then 2 else 0)->K (Km (f0 cG nm t Y aH) ci aV (df cx++[.tup [au v,.int i']]) (.val<|au i) (.val<|.tup [au ci[i].1,.int ci[i].2])<|.val<|au v) (S.w d2).st:=λi' kz=>by rw[tc];refine ab d2 _ _ _ _ (by rw[Nat.mul_add];exact(((g.trans bh).trans cJ).le<|by show 9*i+8<=9*i+9;exact j1 _)) ?_;rw[oJ,Ie,iM,zQ];refine bX.snoc ?_<|(eN.bf bh).bf cJ;unfold kQ;rw[bm l0];exact⟨kz,uM,aI (Bj _ _)<|dc<|kT _⟩
   refine bj.en (λE=>?_) λE=>?_
   .refine⟨g4,?_⟩;lk;exact ab 2 (by rw[bl E])
   .refine⟨g4,?_⟩;lk;exact ab 0 (by rw[bm E])
 .rw[s'<|by rw[bT];exact dy _]at eN;have sX:a9 S.R aa 180:=g.le<|hf 9 aj;rw[<-eZ]at eN;have J9:=eN.marks;have iW:cx.length=ci.length:=by rw[eN.len,eZ,v9,bT]
  have CT:=aI (fT iW) aj;rw[<-J9,<-iW]at eL bn q;refine yP dh<|Uw (S:=S.w aa) g.ok eN (aG rfl) (aI CT<|aG rfl) (aI (fP (gI sX.len CT) 1)<|aI (fT<|by rfl)<|aI (gr (aG rfl:201<=250) _) aq) (by rw[J9,eZ];exact PI _ _ _ _ _) eL E bn λu U4 bu bh s2 a8=>?_;exact q u U4 bu ((sX.trans bh).le<|aI (gr (dc CT) _)<|aG rfl) s2 a8
inductive hX
 |own
 |key
 |fix (K:List aM)
 |tab (dZ ez d0:List aM)
def hX.ctorIdx (x:hX):ā:=hX.casesOn x 0 1 (λ_=>2)<|λ_ _ _=>3
structure cK where
 ik:hX
 e2:Nat
def hX.num:hX->Ă
 |.own=>0
 |.key=>1
 |.fix _=>2
 |.tab _ _ _=>3
def hX.at:hX->bv->HO aM
 |.own,k=>[.ao k]
 |.key,k=>[k.r_]
 |.fix K,_=>K
 |.tab dZ ez d0,k=>ni dZ ez d0 k
def gC (e2:ā) (K:HO aM):HO aF:=(if e2%2=1 then [.arr K]else K.map .b)++(if 1<e2 then [.b .bB]else [])
def cK.at (p:cK) (k:bv):HO aF:=gC p.e2<|p.ik.at k
def hX.fixed:hX->HO B
 |.fix K=>K.map aM.aW
 |_=>[]
def hX.table:hX->HO (B×B)
 |.tab dZ ez d0=>[(.str [48],.lst<|dZ.map aM.aW),(.str [97],.lst<|ez.map aM.aW),(.str [42],.lst<|d0.map aM.aW)]
 |_=>[]
def cK.aW (p:cK):B:=.tup [.int p.ik.num,.int p.e2,.lst p.ik.fixed,.bb p.ik.table]
structure cK.ok(p:cK):Prop where
 e2:p.e2<4
 len:∀k,(p.ik.at k).length<=12
theorem bv.Rx(k:bv):k.r_.aW=k.aW:=by induction k<;>rfl
theorem lQ{a b:HO B}(h:a.length+b.length<=1000):Internal.bin .add (.lst a) (.lst b)=some (.lst<|a++b):=by show i3 (a.length+b.length) (B.lst<|a++b)=_;unfold i3;rw[bl<|by unfold a3;exact f1 ‹_›]
theorem J6{av:Type}(x:av):∀n,oi n [x]=List.replicate n x
 |0=>rfl
 |n+1=>by show x::oi n [x]=_;rw[J6 x n];rfl
theorem AO{o:ā}(h:o<=1000)(x:B):Internal.bin .mul (.lst [x]) (au o)=some (.lst<|List.replicate o x):=by show(if small (o:Ă)then i3 (Int.toNat (o:Ă)*1) (B.lst<|oi (Int.toNat (o:Ă)) [x])else none)=_;rw[h2 h,qN,J6];unfold i3;rw[bl (by rfl),bl<|by unfold a3;lia]
theorem Px{t src:ā}{F:bv->HO aF}{cG nm Y aH:Ă}{e:ā}{aV:Ă}(T:Rows S.R)(h:f9 S.R t F)(az:Y=0\/Y=1\/Y=2)(dh:aH=0\/aH=1\/aH=2)(aK:S.R[src]?=some (hH e aV))(aq:S.R.length+9<=a3)(q:∀u x aa,a9 S.R aa 9->d7.Ty aa x (fE Y<|F .N)->aa[u]?=some (hH x<|if aH=1 then 1 else if aH=2 then 0 else aV)->Q (au u) (S.w aa).st):bc (n+17) 55 [.ref 10,f0 cG nm t Y aH,au src,.bool false] S.st Q:=by have kT:=h.len .N;k_go;lk;refine u5 (k:=7) (key:=.N) T h rfl (hl ‹_›) λu aa g ty=>?_;have:=g.len;refine Bo (S:=S.w aa) g.ok ty az (CY ‹_›) (by show aa.length+2<=a3;lia) λx bu bh zB=>?_;have:=bh.len;have c0:(S.w aa).R.length=aa.length:=rfl;refine yP dh ?_;k_go;refine fb (S:=S.w bu) bh.ok rfl (by show bu.length+1<=a3;lia) λv d2 cJ c9=>?_;exact q v x d2 ((g.trans bh).trans cJ) (zB.bf cJ) c9
theorem YW(x:bx)(dZ ez d0:HO aM):hC .isin s (.str x) (.bb<|hX.table<|.tab dZ ez d0)=some (decide ([48]=x)||(decide ([97]=x)||decide ([42]=x))):=by
 show(if eo (.str x) (hX.table<|.tab dZ ez d0)then(fA (.str x)<|hX.table<|.tab dZ ez d0).map (·.isSome)else none)=_;rw[show eo (.str x) (hX.table<|.tab dZ ez d0)=true from rfl,bl rfl];show(match(some (decide<|[48]=x):Z5 ZI)with|some true=>some (some<|B.lst<|dZ.map aM.aW)|some false=>(match(some (decide<|[97]=x):Z5 ZI)with|some true=>some (some<|B.lst<|ez.map aM.aW)|some false=>(match(some (decide<|[42]=x):Z5 ZI)with|some true=>some (some<|B.lst<|d0.map aM.aW)|some false=>some none|none=>none)|none=>none)|none=>none:Z5 (Z5 B)).map Option.isSome=_;cases decide ([48]=x)with
 |true=>rfl
 |false=>
  cases decide ([97]=x)with
  |true=>rfl
  |false=>cases decide ([42]=x)<;>rfl
theorem YL(K:HO aM):(gC 0 K).map aF.aW=K.map aM.aW/\(gC 1 K).map aF.aW=[.tup [.str [91],.tup<|K.map aM.aW]]/\(gC 2 K).map aF.aW=K.map aM.aW++[.tup [.str [119],.str [117]]]/\(gC 3 K).map aF.aW=[.tup [.str [91],.tup<|K.map aM.aW]]++[.tup [.str [119],.str [117]]]:=by
 have DC:∀K:HO aM,(K.map aF.b).map aF.aW=K.map aM.aW:=λK=>by rw[f2];rfl
 refine⟨?_,rfl,?_,rfl⟩
 .rw[<-DC];simp[gC]
 .rw[<-DC];simp[gC,aF.aW,aM.aW]
theorem Wm{K:HO aM}{aP:HO B}{e2 m:ā}{i6 e1 fO kd oM:cq}(aq:e2<4)(aj:K.length<=12)(cs:aP=K.map aM.aW)(q:Q (.lst<|(gC e2 K).map aF.aW) s):bw m (B8.body.drop 5) [i6,e1,fO,.val<|.int e2,kd,oM,.val<|.lst aP] s (λcI _ ar=>Q cI.val ar):=by
 obtain⟨cA,cV,T_,K5⟩:=YL K;rw[cs];rcases wQ aq with e|e|e|e<;>rw[e]at q⊢
 .rw[cA]at q;exact q
 .rw[cV]at q;exact q
 .rw[T_]at q;exact ay.of (lQ<|aI (dc<|aI (fT (bT ..)) aj)<|aG rfl) q
 .rw[K5]at q;exact q
theorem vo{p:cK}{k:bv}(ae:p.ok)(q:Q (.lst<|(p.at k).map aF.aW) s):bc (n+1) 80 [p.aW,k.aW] s Q:=by
 obtain⟨ik,e2⟩:=p;have step:∀{aP:HO B} {K:HO aM} {m:ā} {i6 e1 fO kd oM:cq},K=ik.at k->aP=K.map aM.aW->bw m (B8.body.drop 5) [i6,e1,fO,.val<|.int e2,kd,oM,.val<|.lst aP] s (λcI _ ar=>Q cI.val ar):=λe cs=>Wm ae.e2 (ae.len k) (by rw[cs,e]) q;clear q ae;k_go;induction ik with
 |own=>exact step rfl rfl
 |key=>exact step rfl<|bI (λv=>[v]) k.Rx.symm
 |fix K=>exact step rfl rfl
 |tab dZ ez d0=>
  induction k with
  |S=>exact step (K:=d0) rfl rfl
  |N=>exact step (K:=d0) rfl rfl
  |txt x=>
   by_cases G:[48]=x
   .subst G;exact step (K:=dZ) rfl rfl
   .by_cases E:[97]=x
    .subst E;exact step (K:=ez) rfl rfl
    .have ab:d0=(hX.tab dZ ez d0).at (.txt x):=((bm G).trans<|bm E).symm;by_cases aC:[42]=x
     .subst aC;exact step ab rfl
     .exact ay.of (YW x dZ ez d0)<|bj.h4 (by rw[eA G,eA E,eA aC];rfl)<|step ab rfl
noncomputable abbrev mH:B:=.tup [.str [119],.str [117]]
theorem wa(a:aF):fd a.aW mH=some (decide<|a=.b .bB):=by
 induction a with
 |arr K=>show some (decide ([91]=[119])&&(false&&true))=_;simp
 |b a=>
  induction a with
  |txt x=>show some (decide (([116]:bx)=[119])&&(decide (x=[117])&&true))=_;simp
  |num i=>show some (decide (([35]:bx)=[119])&&(false&&true))=_;simp
  |ao k=>induction k<;>(show some (decide (([84]:bx)=[119])&&(false&&true))=_;simp)
  |_=>rfl
theorem Jt(a:aF):hC .ne s a.aW mH=some (!decide (a=.b .bB)):=by show(fd a.aW mH).map (!·)=_;rw[wa];rfl
theorem GD(K:HO aF):(K.map aF.aW).flatMap (λv=>if(fd v mH)=some true then []else [v])=(a_ K).map aF.aW:=by
 induction K with
 |nil=>rfl
 |cons a K ap=>
  rw[gh,qF,ap,wa];unfold a_;rw[hM];by_cases h:a=.b .bB
  .simp[h]
  .simp[h]
theorem A'{K:HO aF}{Y:Ă}{fN:ZI}(az:Y=0\/Y=1\/Y=2)(q:Q (.tup [.lst<|(fD Y fN K).map aF.aW,.int<|if fQ Y fN=true then 1 else 0]) s):bc (n+1) 85 [.lst<|K.map aF.aW,.int Y,.int<|if fN=true then 1 else 0] s Q:=by
 k_go;refine dg.comp rfl<|pB (f:=λv=>if(fd v mH)=some true then []else [v]) rfl ?_ ?_
 .intro v af bV a';obtain⟨a,ak,rfl⟩:=dr.mp af;clear af;refine eO.mk ?_;lk;refine ay.of (Jt a) ?_;by_cases h:a=.b .bB
  .rw[bl<|by rw[wa,dL h]]at a';exact bj.h4 (by simp[h]) a'
  .rw[bm<|by rw[wa,eA h];simp]at a';exact bj.l3 (by simp[h]) a'
 .rw[GD];have fin:∀(Qx:ZI),Qx=fN->True:=λ_ _=>trivial;rcases az with rfl|rfl|rfl<;>induction fN
  .have e:fD 0 false K=K:=rfl;rw[e]at q;exact q
  .induction bn:a_ K with
   |nil=>
    have e:fD 0 true K=K:=by show(if a_ K=[]then K else a_ K)=K;rw[bl bn]
    rw[e]at q;exact q
   |cons a r=>
    have e:fD 0 true K=a::r:=by show(if a_ K=[]then K else a_ K)=_;rw[bm (by rw[bn];simp),bn]
    rw[e]at q;exact q
  .induction bn:a_ K with
   |nil=>
    have e:fD 1 false K=K:=by show(if a_ K=[]then K else a_ K)=K;rw[bl bn]
    rw[e]at q;exact q
   |cons a r=>
    have e:fD 1 false K=a::r:=by show(if a_ K=[]then K else a_ K)=_;rw[bm (by rw[bn];simp),bn]
    rw[e]at q;exact q
  .induction bn:a_ K with
   |nil=>
    have e:fD 1 true K=K:=by show(if a_ K=[]then K else a_ K)=K;rw[bl bn]
    rw[e]at q;exact q
   |cons a r=>
    have e:fD 1 true K=a::r:=by show(if a_ K=[]then K else a_ K)=_;rw[bm (by rw[bn];simp),bn]
    rw[e]at q;exact q
  .have e:fD 2 false K=K:=rfl;rw[e]at q;exact q
  .have e:fD 2 true K=a_ K:=rfl;rw[e]at q;exact q
noncomputable abbrev dz.go (S:dz) (d:ā):dz:={S with d:=d}
structure oF(l:List B):Prop where
 ne:l≠[]
 int:∀v∈l,∃i,v=.int i
 len:l.length<=1000
theorem Ei{n:ā}(h:n<=536870912):small (n:Ă)=true:=lm (dL<|Int.le_trans (by decide)<|mG n)<|dL<|Int.ofNat_le.mpr h
theorem hB{m:Ă}(c_:oF S.nums)(bg:S.d<=100000)(aN:0<m)(q:∀v:ā,(v:Ă)<m->Q (au v) (S.go<|S.d+1).st):bc (n+1) 73 [.ref 0,.int m] S.st Q:=by
 have aj:0<S.nums.length:=List.length_pos_iff.mpr c_.ne;have cW:=Nat.mod_lt S.d aj;obtain⟨i,aB⟩:=c_.int _<|List.getElem_mem cW;have o1:S.d/S.nums.length<=S.d:=Nat.div_le_self _ _;k_go;refine ay.of (show Internal.bin .mod (.int S.d) (.int (S.nums.length:Ă))=some (.int ((S.d%S.nums.length:ā):Ă))from ?_) ?_
 .show(if(S.nums.length:Ă)=0 then none else some (B.int<|Int.fmod S.d S.nums.length))=_;rw[bm<|Int.ofNat_ne_zero.mpr<|Nat.ne_of_gt aj,(Int.ofNat_fmod _ _).symm]
 refine ay.of (show hn (S.go<|S.d+1).st (.lst S.nums) (au<|S.d%S.nums.length)=some (.int i)from ?_) ?_
 .show(jH _ S.nums.length).bind (λj=>S.nums[j]?)=_;rw[qr cW];show S.nums[S.d%S.nums.length]?=_;rw[fr cW,aB]
 refine ay.of (show Internal.bin .fdiv (.int S.d) (.int (S.nums.length:Ă))=some (.int ((S.d/S.nums.length:ā):Ă))from ?_) ?_
 .show(if(S.nums.length:Ă)≠0/\(small S.d&&small S.nums.length)=true then some (B.int<|Int.fdiv S.d S.nums.length)else none)=_;rw[bl ⟨Int.ofNat_ne_zero.mpr<|Nat.ne_of_gt aj,lm (Ei<|aI bg<|aG rfl)<|Ei<|aI c_.len<|aG rfl⟩,(Int.ofNat_fdiv _ _).symm]
 refine ay.of (show Internal.bin .mul (.int 7) (.int ((S.d/S.nums.length:ā):Ă))=some (.int<|7*((S.d/S.nums.length:ā):Ă))from ?_) ?_
 .show(if(small 7&&small _)=true then some (B.int<|7*((S.d/S.nums.length:ā):Ă))else none)=_;rw[bl];generalize S.d/S.nums.length=z at*;unfold small;simp only[eX,jT];lia
 refine ay.of (show Internal.bin .mod (.int<|i+7*((S.d/S.nums.length:ā):Ă)) (.int m)=some (.int<|Int.fmod (i+7*((S.d/S.nums.length:ā):Ă)) m)from ?_) ?_
 .show(if m=0 then none else some _)=_;rw[bm<|by lia]
 have aU:=Int.fmod_nonneg_of_pos (i+7*((S.d/S.nums.length:ā):Ă)) aN;obtain⟨v,af⟩:=wH aU;clear aU;have:=q v (by rw[<-af];exact(Int.fmod_lt_of_pos (i+7*((S.d/S.nums.length:ā):Ă)) aN));rw[<-show(B.int<|Int.fmod (i+7*((S.d/S.nums.length:ā):Ă)) m)=au v from bI B.int af]at this;exact this
def qU:HO aM:=[.txt [97],.S,.bB,.num 0,.N,.nul,.txt [98],.num 1]
theorem aM.fv(a:aM):Internal.fv 16 a.aW=true:=by
 induction a with
 |ao k=>induction k<;>rfl
 |_=>rfl
theorem Ol(a:aM)(K:HO aM):∃b,hN a.aW (K.map aM.aW)=some b:=by
 rcases Ab a.fv (l:=K.map aM.aW) (λx aA=>by obtain⟨b,_,rfl⟩:=dr.mp aA;clear aA;exact b.fv)with⟨_,e⟩|⟨_,e⟩
 .exact⟨true,e⟩
 .exact⟨false,e⟩
structure Drawn(K:List aM):Prop where
 len:K.length<=3
 oV:∀a∈K,a∈qU
theorem rh(c_:oF S.nums)(bg:S.d<=90000)(q:∀K d,S.d<=d->d<=S.d+4->Drawn K->Q (.lst<|K.map aM.aW) (S.go d).st):bc (n+2) 74 [.ref 0] S.st Q:=by
 k_go;refine hB c_ (f1 ‹_›) (by lia) λv af=>?_;obtain⟨c,FK,aq⟩:=t5 (f:=au) (l:=[1,2,3,1,2,0])<|gV af;replace FK:c<=3:=(by decide:∀c∈[1,2,3,1,2,0],c<=3) c FK;refine ay.of (aq _)<|⟨rfl,h2<|f1 ‹_›,?_,?_⟩
 .rw[show((c:Ă)-0).toNat=c by lia];unfold a3;exact f1 ‹_›
 .refine cF.ey (len:=c) (λi r ar=>gS λK d x y=>rD (ar=(S.go d).st) (S.d<=d) (d<=S.d+1+i) (r=[.val<|.ref 0,.val<|.lst<|qU.map aM.aW,.ol<|(K:HO aM).map aM.aW,x,y]) (K.length<=i) (∀a∈K,a∈qU)) (kb _) ⟨[],S.d+1,_,_,rfl,j1 _,dy _,rfl,by simp,by simp⟩ ?_ ?_
  .rintro i aB r ar _ _ _ _⟨K,d,x,y,rfl,aU,G,rfl,E,aC⟩;refine hB (S:=S.go d) c_ (by show d<=100000;lia) (by lia) λv af=>?_;obtain⟨a,ak,V5⟩:=t5 (f:=aM.aW) (l:=qU)<|gV af;refine ay.of (V5 _) ?_;obtain⟨b,aw⟩:=Ol a K;refine ay.of (show hC .fV _ a.aW (.lst<|K.map aM.aW)=some (!b)from by show(hN a.aW<|K.map aM.aW).map (!·)=_;rw[aw];rfl) ?_;induction b with
   |true=>lk;exact⟨K,d+1,_,_,rfl,by lia,by lia,rfl,iF ‹_›,aC⟩
   |false=>
    lk;refine⟨by rw[bT];unfold a3;lia,?_⟩;lk;refine⟨K++[a],d+1,_,_,rfl,by lia,by lia,by rw[cZ];rfl,by simp;lia,?_⟩;intro z hz;rcases gd.mp hz with hz|hz
    .exact aC z hz
    .rw[cX.mp hz];exact ak
  .rintro r ar⟨K,d,x,y,rfl,aU,G,rfl,E,aC⟩;exact q K d aU (by lia) ⟨by lia,aC⟩
theorem wd{t:ā}{cL:Ă}{l:HO B}(h:S.R[t]?=some (.tup<|.int cL::l))(aD:cL=8\/cL=9\/cL=11\/cL=12\/cL=13)(q:Q (.bool false) S.st):bc (n+2) 58 [.ref 1,au t] S.st Q:=by k_go;lk;k_go;rcases aD with rfl|rfl|rfl|rfl|rfl<;>(lk;exact q)
theorem TD{t src:ā}{F:bv->HO aF}{cG Y aH:Ă}{e:ā}{aV:Ă}(T:Rows S.R)(h:f9 S.R t F)(az:Y=0\/Y=1\/Y=2)(dh:aH=0\/aH=1\/aH=2)(aK:S.R[src]?=some (hH e aV))(aq:S.R.length+9<=a3)(q:∀u x aa,a9 S.R aa 9->d7.Ty aa x (fE Y<|F .N)->aa[u]?=some (hH x<|if aH=1 then 1 else if aH=2 then 0 else aV)->Q (au u) (S.w aa).st):bc (n+18) 59 [.ref 10,f0 cG (-1) t Y aH,au src] S.st Q:=by k_go;lk;exact wd aK (by lia)<|Px T h az dh aK aq q
theorem A7{t src nm:ā}{cL:Ă}{l:HO B}{cG Y aH:Ă}(aK:S.R[src]?=some (.tup<|.int cL::l))(aD:cL=8\/cL=9\/cL=11\/cL=12\/cL=13)(q:Q (.int 11) S.st):bc (n+3) 59 [.ref 10,f0 cG nm t Y aH,au src] S.st Q:=by k_go;lk;exact wd aK aD q
theorem By(a:bx):ji a a=false:=eA<|List.lt_irrefl a
theorem Ca{a b c:bx}(h:ji a b=true)(k:ji b c=true):ji a c=true:=dL<|List.lt_trans (fj h)<|fj k
noncomputable abbrev ep (x:bx):B:=.str x
abbrev ot(a b:bx):Prop:=ji a b=true
theorem ER{x y:bx}(n:x≠y)(h:ji x y=false):ot y x:=dL<|Decidable.byContradiction λq=>n<|List.le_antisymm q<|ra h
theorem Ze(bK:HO bx)(h:bK.Nodup):∃cQ:HO bx,iZ (bK.map ep)=some (cQ.map ep)/\cQ.Pairwise ot/\(∀p,p∈cQ↔p∈bK)/\cQ.length=bK.length:=by obtain⟨cQ,e,G,E⟩:=vu (f:=ep) (b:=ji) (R:=ot) (λ_ _ _=>rfl) (λ_ _ h=>h) (λ_ _ n h=>ER n h) (λ_ _ _ a b=>Ca a b) h;exact⟨cQ,e,G,λ_=>E.mem_iff,E.length_eq⟩
theorem YA{a b:HO bx}:a.Pairwise ot->b.Pairwise ot->(∀p,p∈a↔p∈b)->a=b:=GZ λ_ _ p q=>h7<|(Ca p q).symm.trans<|By _
def pT (Y:Ă) (eC i:ā) (m:Ă):Ă:=if i<eC then(if fQ Y (decide<|m=1)=true then 1 else 0)else(if m=2 then 2 else 0)
def t2 (Y:Ă) (eC:ā):ā->HO Ă->HO Ă
 |_,[]=>[]
 |i,m::r=>pT Y eC i m::t2 Y eC (i+1) r
def uT (dT:Ă) (i:ā) (m:Ă):Ă:=if m=1/\(i:Ă)<dT then 0 else m
def xJ (dT:Ă):ā->HO Ă->HO Ă
 |_,[]=>[]
 |i,m::r=>uT dT i m::xJ dT (i+1) r
theorem AZ(Y:Ă)(F:bv->HO aF)(eC:ā)(l:HO Ă):∀j:ā,(mw Y F eC j l).map (·.2)=t2 Y eC j l:=by
 induction l with
 |nil=>exact λ_=>rfl
 |cons m r ap=>intro j;show(kQ Y F eC j m).2::(mw Y F eC (j+1) r).map (·.2)=pT Y eC j m::_;rw[ap];unfold kQ pT;split<;>rfl
theorem LQ(dT:Ă)(ah:HO g3):∀j:ā,(jv dT j ah).map (·.2)=xJ dT j (ah.map (·.2)):=by
 induction ah with
 |nil=>exact λ_=>rfl
 |cons c r ap=>
  intro j;show(conv dT j c).2::(jv dT (j+1) r).map (·.2)=uT dT j c.2::_;rw[ap];unfold conv uT
  split<;>rfl
def hk:HO (HO Ă):=(List.range 3).flatMap λi=>((List.range 3).flatMap λj=>[List.replicate i 0++List.replicate j 1,List.replicate i 0++List.replicate j 1++[2]])++[List.replicate i 0++[2]++[0],List.replicate i 0++[2]++[0,0]]
def xv (Y:Ă) (ax:HO Ă):ZI:=let b:=t2 Y (ca ax) 0 ax;let c:=xJ (iD (λm=>decide<|m∈[(0:Ă)]) b ax.length) 0 b;decide (j8 c ax.length<0)||decide (iD (λm=>decide<|m∈[(2:Ă),1]) b ax.length<=j8 c ax.length)
theorem R1:(hk.all λax=>xv 0 ax&&(xv 1 ax&&xv 2 ax))=true:=by decide+kernel
theorem Oz{Y:Ă}{ax:HO Ă}(az:Y=0\/Y=1\/Y=2)(ae:ax∈hk):xv Y ax=true:=by have h:=(eX _ _).mp<|d'.mp R1 ax ae;have E:=(eX _ _).mp h.2;exact az.elim (· ▸h.1) λaz=>az.elim (· ▸E.1) (· ▸E.2)
abbrev c8:=bx×ā×Ă×Ă
def fi (p:c8):B:=.tup [.str p.1,au p.2.1,.int p.2.2.1,.int p.2.2.2]
def hw (ai:HO c8):HO (B×B):=ai.map λp=>(ep p.1,fi p)
theorem Fz(x:bx)(ai:HO c8):eo (.str x) (hw ai)=true:=uv rfl λ_=>rfl
theorem Eu(ai:HO c8):rX (hw ai):=λp ae=>by obtain⟨m,_,rfl⟩:=dr.mp ae;clear ae;rfl
theorem zP{ai:HO c8}(b7:(ai.map (·.1)).Nodup){p:c8}(ae:p∈ai):∀{s:St},hn s (.bb<|hw ai) (.str p.1)=some (fi p):=by
 intro s;show(if eo (.str p.1) (hw ai)then(fA (.str p.1)<|hw ai).bind id else none)=_;rw[Fz,bl rfl];rcases zm (k:=.str p.1) rfl (Eu ai)with⟨v,m,e⟩|⟨m,e⟩
 .rw[e];obtain⟨z,hz,a8⟩:=dr.mp m;clear m;have G:z.1=p.1:=by have:=bI Prod.fst a8;exact B.str.inj this
  have E:v=fi z:=(bI Prod.snd a8).symm;have:z=p:=by
   have nb:∀(l:HO c8),(l.map (·.1)).Nodup->z∈l->p∈l->z=p:=by
    intro l;induction l with
    |nil=>intro _ h;cases h
    |cons a r ap=>
     intro b7 hz ae;rw[gh,hV]at b7;rcases ew.mp hz with ag|t7<;>rcases ew.mp ae with a8|vJ
     .rw[ag,a8]
     .exact absurd (fw (f:=λx:c8=>x.1) vJ) (by rw[<-G,ag];exact b7.1)
     .exact absurd (fw (f:=λx:c8=>x.1) t7) (by rw[G,a8];exact b7.1)
     .exact ap b7.2 t7 vJ
   exact nb ai b7 hz ae
  rw[E,this];rfl
 .exact absurd (by unfold hw;rw[f2];exact fw (f:=(λx:B×B=>x.1)∘λp:c8=>(ep p.1,fi p)) ae) m
theorem SH{ai:HO c8}{arg:B}(ak:items arg=some (ai.map fi))(b7:(ai.map (·.1)).Nodup)(aj:ai.length<64)(q:∀dP:HO c8,(dP.map (·.1)).Pairwise ot->(∀p,p∈dP↔p∈ai)->dP.length=ai.length->Q (.tup<|dP.map fi) s):bc (n+1) 9 [arg] s Q:=by
 k_go;refine ay.of ak<|cF.map rfl (λdone r ar=>ar=s/\∃x:cq,r=[.val arg,.od<|hw done,x,.un]) ?_ ?_ ⟨rfl,_,rfl⟩
 .rintro done p a_ ag r ar _ _ _ _⟨rfl,x,rfl⟩;have sr:B.str p.1∉(hw done).map (·.1):=by intro h;obtain⟨z,hz,e⟩:=dr.mp h;clear h;obtain⟨y,a1,rfl⟩:=dr.mp hz;clear hz;rw[ag,cZ,nc]at b7;exact b7.2.2 _ (fw (f:=λx:c8=>x.1) a1) p.1 (by simp)<|B.str.inj e
  have dS:(hw done++[(ep p.1,fi p)]).length<=a3:=by have:=bI List.length ag;rw[c',nA]at this;rw[c'];unfold hw;rw[bT];unfold a3;simp;lia
  refine⟨Fz _ _,ay.of (yn rfl (Eu _) sr) ⟨dS,?_⟩⟩;lk;exact⟨rfl,_,by unfold hw;rw[cZ];rfl⟩
 .rintro r ar⟨rfl,x,rfl⟩;obtain⟨cQ,nP,sA,k7,tT⟩:=Ze _ b7;have aB:k2 .sorted [.bb<|hw ai]=some (.lst<|cQ.map ep):=by
   show((if(((hw ai).all λe=>eH e.1==1)||((hw ai).all λe=>eH e.1==2))=true then some ((hw ai).map (·.1))else none).bind λl=>if l.length<64 then iZ l else none).map B.lst=_;have E:((hw ai).all λe=>eH e.1==2)=true:=by unfold hw;rw[py];exact d'.mpr λ_ _=>rfl
   rw[E,Bool.or_true,bl rfl];have aC:(hw ai).map (·.1)=(ai.map (·.1)).map ep:=by unfold hw;simp
   show((if((hw ai).map (·.1)).length<64 then iZ ((hw ai).map (·.1))else none).map B.lst)=_;rw[aC,bl (by simpa using aj),nP];rfl
  have px:∀l:HO bx,(∀x∈l,x∈ai.map (·.1))->∃ax:HO c8,ax.map (·.1)=l/\∀p∈ax,p∈ai:=by
   intro l;induction l with
   |nil=>intro _;exact⟨[],rfl,λ_ h=>by cases h⟩
   |cons x r ap=>intro h;obtain⟨ax,ag,a8⟩:=ap λy a1=>h y<|.tail _ a1;obtain⟨p,ae,e⟩:=dr.mp<|h x<|.head _;exact⟨p::ax,by rw[gh,ag,e],λz hz=>(ew.mp hz).elim (λq=>q▸ae)<|a8 z⟩
  obtain⟨ax,gi,eh⟩:=px cQ λx aA=>(k7 x).mp aA;refine dg.ny rfl<|ay.of (show pb .sorted ar [.bb<|hw ai]=_ from aB) ?_;refine(fk.map (f:=λp:c8=>ep p.1) (all:=ax) (by rw[<-gi,f2];rfl) (λdone cg s=>s=ar/\cg=done.map fi) ?_ ?_ ⟨rfl,rfl⟩)
  .rintro done p a_ ag cg s _ _⟨rfl,rfl⟩;refine eO.mk ?_;lk;refine ay.of (zP b7<|eh p<|by rw[ag];simp) ?_;lk;exact⟨rfl,by rw[cZ];rfl⟩
  .rintro cg s⟨rfl,rfl⟩;refine q ax (by rw[gi];exact sA) (λp=>⟨eh p,λae=>?_⟩) (by have:=bI List.length gi;rw[bT]at this;rw[this,tT,bT]);have:p.1∈ax.map (·.1):=by rw[gi];exact(k7 _).mpr<|fw (f:=λx:c8=>x.1) ae
   obtain⟨z,hz,e⟩:=dr.mp this;clear this;have c3:=zP b7 (eh z hz) (s:=s);rw[e,zP b7 ae (s:=s)]at c3;have:fi p=fi z:=cT c3;unfold fi at this;simp only[B.tup.injEq,sc,B.int.injEq,Int.natCast_inj,and_true]at this;have:p=z:=mY e.symm<|mY this.2.1<|mY this.2.2.1 this.2.2.2;rw[this];exact hz
theorem Bb{t:ā}{x:bx}(h:S.R[t]?=some (.tup [.int 1,.str x]))(q:Q (.int 11) S.st):bc (n+1) 26 [.ref 1,au t] S.st Q:=by
 k_go;refine⟨rfl,rfl,by decide,ay.of (kb 40)<|cF.inv (λl r s=>s=S.st/\l≠[]/\r=[.val<|.ref 1,.val<|au t,.un,.un]) ?_ ?_ ⟨rfl,by simp,rfl⟩⟩
 .rintro v l r s _ _ _ _⟨rfl,_,rfl⟩;lk;exact q
 .rintro r s⟨_,h,_⟩;exact absurd rfl h
theorem Yl{t:ā}{l:HO B}(h:S.R[t]?=some (.tup<|.int 8::l))(q:Q (au t) S.st):bc (n+1) 26 [.ref 1,au t] S.st Q:=by
 k_go;refine⟨rfl,rfl,by decide,ay.of (kb 40)<|cF.inv (λl r s=>s=S.st/\l≠[]/\r=[.val<|.ref 1,.val<|au t,.un,.un]) ?_ ?_ ⟨rfl,by simp,rfl⟩⟩
 .rintro v l r s _ _ _ _⟨rfl,_,rfl⟩;lk;exact q
 .rintro r s⟨_,h,_⟩;exact absurd rfl h
theorem Er{t:ā}{x y:bx}(T:Rows S.R)(h:S.R[t]?=some (.tup [.int 1,.str y]))(q:Q .none S.st):bc (n+4) 32 [.ref 10,au t,.str x] S.st Q:=by have s_:=T.at (t:=11) rfl;k_go;k_go;lk;k_go;refine Bb h ?_;lk;k_go;lk;exact q
theorem Xf{t e:ā}{x:bx}{aV:Ă}(T:Rows S.R)(h:S.R[t]?=some (hH e aV))(q:Q .none S.st):bc (n+4) 32 [.ref 10,au t,.str x] S.st Q:=by k_go;k_go;lk;k_go;exact q
def iK:HO bx:=[[97],[108,101,110,103,116,104],[98],[48],[49,50],[48,49],[45,49]]
def xr (x:bx):ZI:=decide (x=[48])||decide (x=[49,50])
theorem MV{x:bx}(aA:x∈iK)(q:Q (.bool<|xr x) s):bc (n+1) 31 [.str x] s Q:=by unfold iK at aA;simp only[ew,List.not_mem_nil,or_false]at aA;rcases aA with rfl|rfl|rfl|rfl|rfl|rfl|rfl<;>(k_go;exact dg.comp rfl q)
def ij (x:bx):ZI:=decide (x=[108,101,110,103,116,104])||xr x
theorem Nn{m:ā}{p:c8}(T:Rows S.R)(aA:p.1∈iK)(aD:∀R,nR (S.w R).st (.ref m) 29=some (fi p))(aq:S.R.length+1<=a3)(q:∀aa,a9 S.R aa 1->Q (.bool<|ij p.1) (S.w aa).st):bc (n+7) 61 [.ref 10,.ref m] S.st Q:=by
 have FZ:=aD S.R;k_go;refine ay.of FZ<|ay.of FZ<|bj.en (λG=>?_) λG=>?_
 .refine bj.qs G ?_;have:=q S.R<|a9.refl T;rw[show ij p.1=true by unfold ij;rw[dL G];rfl]at this;exact this
 .refine MV aA ?_;induction bg:xr p.1 with
  |true=>have:=q S.R<|a9.refl T;rw[show ij p.1=true by unfold ij;rw[bg,Bool.or_true]]at this;exact this
  |false=>
   have aj:ij p.1=false:=by unfold ij;rw[bg,eA G];rfl
   k_go;refine fb T rfl aq λt aa g e=>?_;lk;refine Xf (S:=S.w aa) g.ok e ?_;lk;refine Er (S:=S.w aa) (t:=6) g.ok (g.at<|T.at (t:=6) rfl) ?_;lk;refine Er (S:=S.w aa) (t:=7) g.ok (g.at<|T.at (t:=7) rfl) ?_;lk;have:=q aa g;rw[aj]at this;exact this
noncomputable abbrev dz.x (S:dz) (X:HO c4):dz:={S with X:=X}
theorem KO{s:St}{o cw:c4}:(s++[o]).set s.length cw=s++[cw]:=by simp
theorem Gg{s:St}{o:c4}:(s++[o])[s.length]?=some o:=by simp
theorem zr{s:St}{c:ā}{a:HO (ā×B)}{k:ā}{v:B}(h:a.length<=900):nW (s++[.ins c a]) (.ref s.length) k v=some (s++[.ins c<|putAt k v a]):=by rw[yO Gg h,KO]
inductive gq
 |mem (k:Nat) (p:c8)
 |idx (k:Nat) (c:B)
def gq.ctorIdx (x:gq):ā:=gq.casesOn x (λ_ _=>0)<|λ_ _=>1
def gq.ct:gq->c4
 |.mem k p=>.ins 6 [(28,au k),(29,fi p),(1,.tup [])]
 |.idx k c=>.ins 6 [(28,au k),(29,.none),(1,c)]
def f3(X:HO c4)(v:B)(e:gq):Prop:=∃i,v=.ref (i+11)/\X[i]?=some e.ct
theorem f3.app{X cz:HO c4}{v:B}{e:gq}(h:f3 X v e):f3 (X++cz) v e:=by obtain⟨i,G,E⟩:=h;exact⟨i,G,by rw[o7 (g9.mp E).1];exact E⟩
theorem C7(S:dz):S.st.length=S.X.length+11:=rfl
theorem f3.new{S:dz}{e:gq}:f3 (S.X++[e.ct]) (.ref S.st.length) e:=⟨S.X.length,by rw[C7],by simp⟩
theorem zb{a b c:B}{s:St}(q:Q .none (s++[.ins 6 [(28,a),(29,b),(1,c)]])):bc (n+1) 51 [.ref s.length,a,b,c] (s++[.ins 6 []]) Q:=by k_go;exact ay.of (zr<|ih rfl)<|ay.of (zr<|ih rfl)<|ay.of (zr<|ih rfl) q
def ob (f:Ă):ZI:=decide<|(ly f.toNat 24:Ă)=0
theorem MR{p:c8}(a7:0<=p.2.2.1)(q:Q (.bool<|ob p.2.2.1) s):bc (n+1) 37 [fi p] s Q:=by
 obtain⟨f,jM⟩:=wH a7;clear a7;have ff:Q (.bool<|decide<|(ly f 24:Ă)=0) s:=by
  have e:ob p.2.2.1=decide ((ly f 24:Ă)=0):=by unfold ob;rw[jM];rfl
  rw[e]at q;exact q
 obtain⟨nm,t,cI,d⟩:=p;obtain rfl:cI=(f:Ă):=jM;k_go;exact ff
def gv:Z5 (ā×Ă)->B
 |none=>.tup []
 |some (t,aV)=>.tup [au t,.int aV]
noncomputable abbrev hW (ai:HO c8) (eF:B) (b' bR:Z5 (ā×Ă)) (e_:Ă):B:=.tup [.int 8,.tup<|ai.map fi,eF,.tup [],gv b',gv bR,.int e_]
def k0 (k:ā):Z5 (ā×Ă)->HO gq
 |none=>[]
 |some c=>[.idx k<|gv<|some c]
def oR(R:HO B)(e:gq)(p:c8):Prop:=∃k,e=.mem k p/\gE R k (.txt p.1)
theorem oR.bf{R aa:HO B}{c:ā}{e:gq}{p:c8}(h:oR R e p)(g:a9 R aa c):oR aa e p:=by obtain⟨k,G,E⟩:=h;exact⟨k,G,E.bf g⟩
theorem Ej{X:HO c4}{aP:HO B}{es:HO gq}{e:gq}(a:bX (f3 X) aP es):bX (f3<|X++[e.ct]) (aP++[.ref<|X.length+11]) (es++[e]):=bX.snoc ⟨_,rfl,Gg⟩<|a.imp λ_ _ h=>h.app
def ud (t:ā) (row:B) (aP:HO B) (x:cq):aJ:=[.val<|.ref 10,.val<|au t,.val<|.ref 1,.ol aP,.val row,x]
theorem GR{t i:ā}{row:B}{aa:HO B}{es:HO gq}{ef:HO c4}{aP:HO B}{c:Z5 (ā×Ă)}{x:cq}{K:cj->aJ->St->Prop}(a:bX (f3<|S.X++ef) aP es)(cs:aP.length+1<=a3)(aB:∀s,hn s row (au i)=some (gv c))(ab:∀ef e8,bX (f3<|S.X++ef) e8 (es++k0 k c)->e8.length<=aP.length+1->K .go (ud t row e8 x) ((S.w aa).x<|S.X++ef).st):nx (n+1) (.iff (.cmp (.ao (.v 4)<|.k<|au i) [(.ne,.tup [])]) [.app 3<|.new 6 [.k<|au k,.k .none,.ao (.v 4)<|.k<|au i]] []) (ud t row aP x) ((S.w aa).x<|S.X++ef).st K:=by
 refine ay.of (aB _) ?_;cases c with
 |none=>exact ab ef aP (by show bX _ aP<|es++[];rw[ha];exact a)<|j1 _
 |some c=>refine ay.of (aB _)<|zb (s:=((S.w aa).x<|S.X++ef).st) ⟨rfl,cs,?_⟩;have ab:=ab (ef++[gq.ct<|.idx k<|gv<|some c]) (aP++[.ref<|(S.X++ef).length+11]) (by rw[<-hK];exact Ej a) (fT<|by rw[c'];rfl);rw[<-hK]at ab;exact ab
theorem TY{t o:ā}{ai:HO c8}{eF:B}{b' bR:Z5 (ā×Ă)}{e_:Ă}(T:Rows S.R)(sP:∀bV,bV (au o) S.st->bc (n+3) 28 [.ref 10,au t] S.st bV)(az:S.R[o]?=some (hW ai eF b' bR e_))(a7:∀p∈ai,0<=p.2.2.1)(aj:ai.length<=100)(aq:S.R.length+ai.length<=a3)(q:∀aa ef aP ax,a9 S.R aa ai.length->bX (f3<|S.X++ef) aP (ax++(k0 6 b'++k0 7 bR))->bX (oR aa) ax (ai.filter λp=>ob p.2.2.1)->Q (.lst aP) ((S.w aa).x<|S.X++ef).st):bc (n+4) 54 [.ref 10,au t] S.st Q:=by
 k_go;refine sP _<|ay.of (pO az) (cF.mp (all:=ai) (f:=fi) rfl (λdone K=>∀aa ef aP ax x,a9 S.R aa done.length->bX (f3<|S.X++ef) aP ax->bX (oR aa) ax (done.filter λp=>ob p.2.2.1)->aP.length<=done.length->K (ud t (hW ai eF b' bR e_) aP x) ((S.w aa).x<|S.X++ef).st) (λdone p a_ ag K ab aa ef aP ax x g e1 fO cs=>?_) (λaa ef aP ax x g e1 fO cs=>?_) λK ab=>by have ab:=ab S.R [] [] [] .un (a9.refl T) .nil .nil<|dy _;rw[ha]at ab;exact ab)
 .have bg:=oD ag<|dy _;refine MR (a7 p<|by rw[ag];exact iJ _<|.head _) ?_;rw[mv,hM,c']at ab;cases ae:ob p.2.2.1 with
  |true=>rw[ae]at ab;lk;refine Ju (S:=(S.w aa).x<|S.X++ef) g.ok (g.room aq bg) λk bu bh aD=>?_;lk;refine zb (s:=(((S.w aa).x<|S.X++ef).w bu).st) ⟨rfl,aI (dc cs)<|aI bg<|aI aj<|aG rfl,?_⟩;have ab:=ab bu (ef++[gq.ct<|.mem k p]) (aP++[.ref<|(S.X++ef).length+11]) (ax++[.mem k p]) (.val<|fi p) (g.trans bh) (by rw[<-hK];exact Ej e1) (bX.snoc ⟨k,rfl,aD⟩<|fO.imp λa b h=>h.bf bh) (by rw[c'];exact dc cs);rw[<-hK]at ab;exact ab
  |false=>rw[ae]at ab;exact ab aa ef aP ax _ (g.le<|j1 _) e1 (by show bX _ _<|_++[];rw[ha];exact fO)<|iF cs
 .have DQ:=aI cs aj;refine bw.fY (λK=>∀ef e8,bX (f3<|S.X++ef) e8 (ax++k0 6 b')->e8.length<=aP.length+1->K (ud t (hW ai eF b' bR e_) e8 x) ((S.w aa).x<|S.X++ef).st) (λK ab=>GR (i:=4) (k:=6) e1 (aI (dc DQ)<|aG rfl) (λ_=>rfl) ab) λef e8 e1 kS=>?_;refine bw.fY (λK=>∀ef e8,bX (f3<|S.X++ef) e8 (ax++k0 6 b'++k0 7 bR)->K (ud t (hW ai eF b' bR e_) e8 x) ((S.w aa).x<|S.X++ef).st) (λK ab=>GR (i:=5) (k:=7) e1 (aI (dc<|aI kS<|dc DQ)<|aG rfl) (λ_=>rfl) λef e8 a _=>ab ef e8 a) λef e8 e1=>?_;rw[hK]at e1;exact q aa ef e8 ax g e1 fO
theorem Aq{s t:St}{o cw:c4}:(s++o::t).set s.length cw=s++cw::t:=by simp
theorem t_{s t:St}{o:c4}:(s++o::t)[s.length]?=some o:=by simp
theorem uV{s t:St}{c:ā}{a:HO (ā×B)}{k:ā}{v:B}(h:a.length<=900):nW (s++.ins c a::t) (.ref s.length) k v=some (s++.ins c (putAt k v a)::t):=by rw[yO t_ h,Aq]
abbrev fZ:=bx×ā×Ă
def iH (d:HO fZ):HO (B×B):=d.map λm=>(ep m.1,.tup [au m.2.1,.int m.2.2])
def nC (d:HO fZ):HO B:=d.map λm=>ep m.1
def ds (X:HO c4) (d:HO fZ) (cy cr:B):HO c4:=X++[.ins 5 [(0,.ref<|X.length+12),(5,.ref<|X.length+13),(26,cy),(27,cr)],.cO<|iH d,.ls<|nC d]
theorem x2{S:dz}{v:B}{e:gq}(h:f3 S.X v e):∃m,v=.ref m/\∃l,e.ct=.ins 6 l/\∀R a,nR (S.w R).st (.ref m) a=l.lookup a:=by
 obtain⟨i,rfl,h⟩:=h;refine⟨_,rfl,?_⟩;induction e with
 |mem k p=>refine⟨_,rfl,λR a=>?_⟩;show(S.X[i]?).bind _=_;rw[h];rfl
 |idx k c=>refine⟨_,rfl,λR a=>?_⟩;show(S.X[i]?).bind _=_;rw[h];rfl
def oE:gq->ZI
 |.mem _ p=> !ij p.1
 |.idx _ _=>true
theorem TG{m:ā}(aD:nR s (.ref m) 29=some .none)(q:Q (.bool false) s):bc (n+1) 61 [.ref 10,.ref m] s Q:=by k_go;exact ay.of aD q
theorem Cy{v:B}{e:gq}(T:Rows S.R)(h:f3 S.X v e)(aA:∀k p,e=.mem k p->p.1∈iK)(aq:S.R.length+1<=a3)(q:∀aa,a9 S.R aa 1->Q (.bool<|!oE e) (S.w aa).st):bc (n+7) 61 [.ref 10,v] S.st Q:=by
 obtain⟨m,rfl,l,G,E⟩:=x2 h;clear h;induction e with
 |mem k p=>cases G;refine Nn T (aA k p rfl) (λR=>E R 29) aq λaa g=>?_;exact Bool.not_not (ij p.1)▸q aa g
 |idx k c=>cases G;exact TG (E S.R 29)<|q S.R<|a9.refl T
set_option tactic.hygienic true in
theorem SN{aP:HO B}{es:HO gq}{x:B}{i6 e1 fO kD kd oM:cq}{N:ā}(T:Rows S.R)(h:bX (f3 S.X) aP es)(aA:∀e∈es,∀k p,e=.mem k p->p.1∈iK)(aq:S.R.length+es.length<=a3)(q:∀aa e8,a9 S.R aa es.length->bX (f3 S.X) e8 (es.filter oE)->Q (.lst e8) (S.w aa).st):fk (.lst aP) [.val<|.ref 10,e1,fO,kD,kd,oM] S.st (n+7) (.v 5) false [5] [.not (.call 61 [.v 0,.v 5])] Q:=by
 refine fk.un rfl ?_;have key:∀{aP:HO B} {es:HO gq},bX (f3 S.X) aP es->(∀e∈es,∀k p,e=.mem k p->p.1∈iK)->∀aa cg,Rows aa->aa.length+es.length<=a3->∀K:B->St->Prop,(∀bu e8,a9 aa bu es.length->bX (f3 S.X) e8 (es.filter oE)->K (.lst<|cg++e8) (S.w bu).st)->
  kx (kB (dg (n+7)<|.v 5) (sW (n+7) [.not (.call 61 [.v 0,.v 5])]) false [5] [.val<|.ref 10,i6,e1,fO,kD,kd]) K aP cg (S.w aa).st:=by
  intro aP es h
  induction h with
  |nil=>intro _ aa cg T _ K q;have:=q aa [] (a9.refl T) .nil;rwa[ha]at this
  |@cons v e l es af al ap=>
   intro aA aa cg T aq K q;refine eO.mk ?_;lk;refine Cy (S:=S.w aa) T af (aA e<|.head _) (aI (gr (dc<|f8 _) _) aq) λbu g=>?_;have go:∀c6,(∀e8,bX (f3 S.X) e8 (es.filter oE)->bX (f3 S.X) (c6++e8) ((e::es).filter oE))->kx (kB (dg (n+7)<|.v 5) (sW (n+7) [.not (.call 61 [.v 0,.v 5])]) false [5] [.val<|.ref 10,i6,e1,fO,kD,kd]) K l (cg++c6) (S.w bu).st:=λc6 hz=>ap (λe h=>aA e<|.tail _ h) bu _ g.ok (by have:=g.len;have:aa.length+(es.length+1)<=a3:=aq;lia) K λd2 e8 cJ a=>by rw[hK];exact q d2 _ ((g.trans cJ).le<|fT<|qp _ _)<|hz e8 a
   lk;induction aD:oE e with
   |true=>exact go [v] λe8 a=>by rw[hM,bl aD];exact .cons af a
   |false=>exact go [] λe8 a=>by rw[hM,bm<|by rw[aD];exact dR];exact a
 exact key h aA S.R [] T aq Q q
theorem K4(q:Q .none (S.x<|ds S.X [] (.tup [])<|.tup []).st):bc (n+1) 38 [.ref S.st.length] (S.st++[.ins 5 []]) Q:=by
 k_go;refine ay.of (show nW ((S.st++[c4.ins 5 []])++[.cO []]) (.ref S.st.length) 0 (.ref (S.st++[c4.ins 5 []]).length)=some (S.st++c4.ins 5 [(0,.ref<|S.X.length+12)]::[.cO []])from ?_) ?_
 .rw[hK,show [c4.ins 5 []]++[c4.cO []]=c4.ins 5 []::[.cO []]from rfl,uV<|ih rfl];rw[c',C7];rfl
 refine ay.of (show nW ((S.st++c4.ins 5 [(0,.ref<|S.X.length+12)]::[.cO []])++[.ls []]) (.ref S.st.length) 5 (.ref (S.st++c4.ins 5 [(0,.ref<|S.X.length+12)]::[.cO []]).length)=some (S.st++c4.ins 5 [(0,.ref<|S.X.length+12),(5,.ref<|S.X.length+13)]::[.cO [],.ls []])from ?_) ?_
 .rw[hK,show(c4.ins 5 [(0,.ref<|S.X.length+12)]::[.cO []])++[c4.ls []]=c4.ins 5 [(0,.ref<|S.X.length+12)]::[.cO [],.ls []]from rfl,uV<|ih rfl];rw[c',C7];rfl
 exact ay.of (uV<|ih rfl)<|ay.of (uV<|ih rfl) q
set_option tactic.hygienic true
def rq (f:Ă):ZI:= !decide ((ly f.toNat 1:Ă)=0)
def sB (f:Ă):Ă:=if !decide ((ly f.toNat 2:Ă)=0)then 1 else 0
def gR (aH aV:Ă):Ă:=if aH=1 then 1 else if aH=2 then 0 else aV
def qK (Y aH f:Ă):Ă:=(if fQ Y (rq f)=true then 1 else 0)+(if gR aH (sB f)=1 then 2 else 0)
def jz (Y:Ă) (K:HO aF):HO aF:=if Y=1 then K++[.b .bB]else K
theorem Cj(x:bx)(d:HO fZ):eo (.str x) (iH d)=true:=uv rfl λ_=>rfl
theorem A0(d:HO fZ):rX (iH d):=λp ae=>by obtain⟨m,_,rfl⟩:=dr.mp ae;clear ae;rfl
theorem IV(d:HO fZ):(iH d).map (·.1)=(d.map (·.1)).map ep:=by unfold iH;simp
theorem XD{p:c8}{cG nm d4 Y aH:Ă}(az:Y=0\/Y=1\/Y=2)(dh:aH=0\/aH=1\/aH=2)(a7:0<=p.2.2.1)(q:Q (.int<|qK Y aH p.2.2.1) s):bc (n+2) 49 [f0 cG nm d4 Y aH,fi p,.bool false] s Q:=by
 obtain⟨f,jM⟩:=wH a7;clear a7;obtain⟨x,t,cI,d⟩:=p;obtain rfl:cI=(f:Ă):=jM;have ff:∀a b:Ă,a=(if fQ Y (!decide (Int.ofNat (ly f 1)=0))=true then 1 else 0)->b=(if gR aH (sB f)=1 then 2 else 0)->∀c,c=a+b->Q (.int c) s:=by rintro a b rfl rfl c rfl;exact q
 have bn:∀b:ZI,b=decide (Int.ofNat (ly f 2)=0)->sB f=if(!b)=true then 1 else 0:=by rintro b rfl;rfl
 clear q;k_go;refine zk az ?_;have fin:∀a:Ă,a=(if fQ Y (!decide (Int.ofNat (ly f 1)=0))=true then 1 else 0)->bw (n+1) [dE.set 5 (.ite (.cmp (.bin .band (.v 3) (.k (.int 2))) [(.ne,.k (.int 0))]) (.k (.int 1)) (.k (.int 0))),
  .iff (.cmp (.call 45 [.ao (.v 0) (.k (.int 6)),.v 5]) [(.eq,.k (.int 1))]) [.set 4 (.bin .add (.v 4) (.k (.int 2)))] [],.ret (.ite (.v 2) (.bin .add (.v 4) (.bin .band (.v 3) (.k (.int 4)))) (.v 4))]
  [cq.val<|f0 cG nm d4 Y aH,.val<|fi (x,t,↑f,d),.val<|.bool false,.val<|.int f,.val<|.int a,.un] s (λcI x ar=>Q cI.val ar):=by
  intro a ak
  have dT:∀b:Ă,b=sB f->bw (n+1) [.iff (.cmp (.call 45 [.ao (.v 0)<|.k<|.int 6,.v 5]) [(.eq,.k<|.int 1)]) [.set 4<|.bin .add (.v 4)<|.k<|.int 2] [],.ret<|.ite (.v 2) (.bin .add (.v 4)<|.bin .band (.v 3)<|.k<|.int 4)<|.v 4] [cq.val<|f0 cG nm d4 Y aH,.val<|fi (x,t,↑f,d),.val<|.bool false,.val<|.int f,.val<|.int a,.val<|.int b] s (λcI x ar=>Q cI.val ar):=by
   rintro b rfl;refine yP dh<|bj.en (λh=>?_) λh=>?_
   .exact ff a 2 ak (bl h).symm _ rfl
   .lk;exact ff a 0 ak (bm h).symm _ (by lia)
  lk
  induction aw:decide (Int.ofNat (ly f 2)=0)with
  |true=>lk;have:=dT 0 (by rw[bn true aw.symm];rfl);lk;exact this
  |false=>lk;have:=dT 1 (by rw[bn false aw.symm];rfl);lk;exact this
 induction aK:fQ Y (!decide (Int.ofNat (ly f 1)=0))with
 |true=>have:=fin 1 (by rw[aK];rfl);exact this
 |false=>have:=fin 0 (by rw[aK];rfl);exact this
theorem zE{av:Type}{X cz:HO av}{j:ā}:(X++cz)[X.length+j]?=cz[j]?:=by rw[oZ<|nz _ _,Nat.add_sub_cancel_left]
theorem Ik{av:Type}{X cz:HO av}{j:ā}{x:av}:(X++cz).set (X.length+j) x=X++cz.set j x:=by rw[List.set_append_right _ _<|nz _ _,Nat.add_sub_cancel_left]
def ss (S:dz) (a:HO (B×B)) (b:HO B) (cy cr:B):St:=[.ins 5 [(0,.ref<|S.X.length+12),(5,.ref<|S.X.length+13),(26,cy),(27,cr)],.cO a,.ls b]
theorem P0{d:HO fZ}{cy cr:B}{x:bx}{t:ā}{f:Ă}(bg:x∉d.map (·.1))(aj:d.length<=1000)(q:Q .none (S.x<|ds S.X (d++[(x,t,f)]) cy cr).st):bc (n+1) 39 [.ref<|S.X.length+11,.ref 1,.str x,au t,.int f] (S.x<|ds S.X d cy cr).st Q:=by
 have vG:∀j:ā,(S.x<|ds S.X d cy cr).st[S.X.length+j+11]?=(ss S (iH d) (nC d) cy cr)[j]?:=λj=>zE (X:=S.X);have i6:nR (S.x<|ds S.X d cy cr).st (.ref<|S.X.length+11) 0=some (.ref<|S.X.length+12):=by show((S.x<|ds S.X d cy cr).st[S.X.length+0+11]?).bind _=_;rw[vG 0];rfl
 have oM:nR (S.x<|ds S.X d cy cr).st (.ref<|S.X.length+11) 5=some (.ref<|S.X.length+13):=by show((S.x<|ds S.X d cy cr).st[S.X.length+0+11]?).bind _=_;rw[vG 0];rfl
 have sr:B.str x∉(iH d).map (·.1):=by rw[IV];intro h;obtain⟨y,a1,e⟩:=dr.mp h;cases e;exact bg a1
 have Xa:fA (.str x) (iH d)=some none:=by
  rcases zm (k:=.str x) rfl (A0 d)with⟨v,m,e⟩|⟨m,e⟩
  .exact absurd (fw m) sr
  .exact e
 k_go;refine ay.of i6<|ay.of (show hC .fV (S.x<|ds S.X d cy cr).st (.str x) (.ref<|S.X.length+12)=some true from ?_)<|ay.of oM<|ay.of (a:=.int (nC d).length) ?_ ?_
 .show(((S.x<|ds S.X d cy cr).st[S.X.length+1+11]?).bind _).map _=_;rw[vG 1];show(if eo (.str x) (iH d)then(fA (.str x)<|iH d).map (·.isSome)else none).map (!·)=_;rw[Cj,Xa];rfl
 .show((S.x<|ds S.X d cy cr).st[S.X.length+2+11]?).bind _=_;rw[vG 2];rfl
 refine gP.of (l:=nC d) (vG 2) ⟨aI (dc<|aI (fT (bT ..)) aj)<|aG rfl,?_⟩;have ag:(S.x<|ds S.X d cy cr).st.set (S.X.length+13) (.ls<|nC d++[.str x])=(S.x<|S.X++ss S (iH d) (nC d++[.str x]) cy cr).st:=bI (λX=>(S.x X).st)<|Ik (X:=S.X) (j:=2);rw[ag];refine ay.of (a:=.ref<|S.X.length+12) ?_<|ay.of (a:=(S.x<|ds S.X (d++[(x,t,f)]) cy cr).st) ?_ q
 .show((S.X++ss S (iH d) (nC d++[.str x]) cy cr)[S.X.length+0]?).bind _=_;rw[zE];rfl
 .show((S.X++ss S (iH d) (nC d++[.str x]) cy cr)[S.X.length+1]?).bind _=_;rw[zE];show(if eo (.str x) (iH d)then(gW (.str x) (.tup [au t,.int f])<|iH d).bind λl=>i3 l.length ((S.x<|S.X++ss S (iH d) (nC d++[.str x]) cy cr).st.set (S.X.length+12)<|.cO l)else none)=_;rw[Cj,yn rfl (A0 d) sr,bl rfl];refine(bl<|by rw[c'];exact(aI (dc<|aI (fT (bT ..)) aj)<|aG rfl)).trans<|bI some<|(bI (λX=>(S.x X).st)<|Ik (X:=S.X) (j:=1)).trans ?_;unfold ds ss iH nC;rw[cZ,cZ];rfl
set_option tactic.hygienic false
theorem Cc(S:dz)(d:HO fZ)(cy cr:B):(S.x<|ds S.X d cy cr).st[S.X.length+11]?=some (.ins 5 [(0,.ref<|S.X.length+12),(5,.ref<|S.X.length+13),(26,cy),(27,cr)]):=by show(ds S.X d cy cr)[S.X.length]?=_;exact t_
theorem rA(S:dz)(d:HO fZ)(cy cr:B)(a:ā):nR (S.x<|ds S.X d cy cr).st (.ref<|S.X.length+11) a=List.lookup a [(0,.ref<|S.X.length+12),(5,.ref<|S.X.length+13),(26,cy),(27,cr)]:=xH<|Cc S d cy cr
theorem CL(S:dz)(d:HO fZ)(cy cr:B):BR (S.x<|ds S.X d cy cr).st (.ref<|S.X.length+11)=some 5:=xH<|Cc S d cy cr
theorem GI(S:dz)(d:HO fZ)(cy cr v:B)(a:ā){w9 x8:B}(h:putAt a v [(0,.ref<|S.X.length+12),(5,.ref<|S.X.length+13),(26,cy),(27,cr)]=[(0,.ref<|S.X.length+12),(5,.ref<|S.X.length+13),(26,w9),(27,x8)]):nW (S.x<|ds S.X d cy cr).st (.ref<|S.X.length+11) a v=some (S.x<|ds S.X d w9 x8).st:=by
 rw[yO (Cc S d cy cr)<|aG rfl,h];have:(ds S.X d cy cr).set S.X.length (.ins 5 [(0,.ref<|S.X.length+12),(5,.ref<|S.X.length+13),(26,w9),(27,x8)])=ds S.X d w9 x8:=by unfold ds;rw[Aq]
 rw[<-this];rfl
theorem Yi{d:HO fZ}{cr:B}{t:ā}{aV:Ă}(q:Q .none (S.x<|ds S.X d (.tup [au t,.int aV]) cr).st):bc (n+1) 40 [.ref<|S.X.length+11,.ref 1,.bool false,au t,.int aV] (S.x<|ds S.X d (.tup []) cr).st Q:=by k_go;exact ay.of ((rA S d _ _ 26).trans rfl)<|ay.of (GI S d _ _ _ 26 rfl) q
theorem Pb{d:HO fZ}{cy:B}{t:ā}{aV:Ă}(q:Q .none (S.x<|ds S.X d cy<|.tup [au t,.int aV]).st):bc (n+1) 40 [.ref<|S.X.length+11,.ref 1,.bool true,au t,.int aV] (S.x<|ds S.X d cy<|.tup []).st Q:=by k_go;exact ay.of ((rA S d _ _ 27).trans rfl)<|ay.of (GI S d _ _ _ 27 rfl) q
theorem X9{d:HO fZ}{cy cr:B}{t:ā}{aV:Ă}(aD:(k=6/\cy=.tup [])\/(k=7/\cr=.tup []))(q:Q .none (S.x<|ds S.X d (if k=6 then .tup [au t,.int aV]else cy)<|if k=7 then .tup [au t,.int aV]else cr).st):bc (n+1) 40 [.ref<|S.X.length+11,.ref 1,.bool<|decide<|(k:Ă)=7,au t,.int aV] (S.x<|ds S.X d cy cr).st Q:=by
 rcases aD with⟨rfl,rfl⟩|⟨rfl,rfl⟩
 .exact Yi q
 .exact Pb q
theorem Qc{t:ā}{F:bv->HO aF}{cG nm Y aH:Ă}{v:B}{p:c8}{d:HO fZ}{cy cr:B}(T:Rows S.R)(h:f9 S.R t F)(az:Y=0\/Y=1\/Y=2)(dh:aH=0\/aH=1\/aH=2)(Cn:f3 S.X v (.mem k p))(aD:gE S.R k (.txt p.1))(a7:0<=p.2.2.1)(bg:p.1∉d.map (·.1))(aj:d.length<=1000)(aq:S.R.length+8<=a3)(q:∀u aa,a9 S.R aa 8->d7.Ty aa u (fD Y (rq p.2.2.1)<|F<|.txt p.1)->Q .none ((S.w aa).x<|ds S.X (d++[(p.1,u,qK Y aH p.2.2.1)]) cy cr).st):bc (n+18) 52 [.ref 10,f0 cG nm t Y aH,.ref<|S.X.length+11,v,au k,.bool false] (S.x<|ds S.X d cy cr).st Q:=by obtain⟨m,rfl,l,G,E⟩:=x2 (S:=S.x<|ds S.X d cy cr) (Cn.app:f3 (S.X++_) v (.mem k p));cases G;have mg:=E S.R;obtain⟨f,jM⟩:=wH a7;obtain⟨x,pt,cI,pd⟩:=p;obtain rfl:cI=(f:Ă):=jM;k_go;refine Cu (S:=S.x<|ds S.X d cy cr) T aD<|ay.of (mg 29)<|ay.of (mg 29)<|ay.of (mg 28)<|wq (S:=S.x<|ds S.X d cy cr) T h aD az aq λu aa g ty=>?_;rw[(rfl:(((S.x<|ds S.X d cy cr).w aa).st)=((S.w aa).x<|ds (S.w aa).X d cy cr).st)];refine ay.of (a:=39) (by rw[CL<|S.w aa];rfl) ?_;exact ay.of (E aa 29)<|(@XD<|n+15) az dh a7<|P0 (S:=S.w aa) bg aj<|q u aa g ty
theorem YE{t:ā}{F:bv->HO aF}{key:bv}{cG nm Y aH:Ă}{v:B}{c:ā}{aV:Ă}{d:HO fZ}{cy cr:B}(T:Rows S.R)(h:f9 S.R t F)(az:Y=0\/Y=1\/Y=2)(dh:aH=0\/aH=1\/aH=2)(aD:(k=6/\key=.S/\cy=.tup [])\/(k=7/\key=.N/\cr=.tup []))(Cn:f3 S.X v (.idx k<|gv<|some (c,aV)))(aq:S.R.length+7<=a3)(q:∀u aa,a9 S.R aa 7->d7.Ty aa u (jz Y<|F key)->Q .none ((S.w aa).x<|ds S.X d (if k=6 then .tup [au u,.int<|gR aH aV]else cy)<|if k=7 then .tup [au u,.int<|gR aH aV]else cr).st):bc (n+16) 52 [.ref 10,f0 cG nm t Y aH,.ref<|S.X.length+11,v,au k,.bool false] (S.x<|ds S.X d cy cr).st Q:=by
 obtain⟨m,rfl,l,G,E⟩:=x2 (S:=S.x<|ds S.X d cy cr) (Cn.app:f3 (S.X++_) v (.idx k _));cases G;have mg:=E S.R;have yY:(k=6/\cy=.tup [])\/(k=7/\cr=.tup []):=aD.imp (λh=>⟨h.1,h.2.2⟩) λh=>⟨h.1,h.2.2⟩;have ab:gE S.R k key:=by rcases aD with⟨e,a8,_⟩|⟨e,a8,_⟩<;>rw[e,a8]<;>rfl
 have dX:∀x,key≠.txt x:=λx e=>by rcases aD with h|h<;>exact nomatch h.2.1.symm.trans e
 have J1:(!(decide ((6:Ă)=k)||(decide ((7:Ă)=k)||(decide ((0:Ă)=k)||false))))=false:=by rcases aD with h|h<;>rw[h.1]<;>rfl
 clear aD;have fin:∀u (bu:HO B),a9 S.R bu 7->d7.Ty bu u (jz Y<|F key)->∀(i6 oT Iu tE xD Ko:cq),bw (n+15) [.set 12<|.ite (.cmp (.at (.v 3) 1) [(.ne,.tup [])]) (.ao (.at (.v 3) 1)<|.k<|.int 1)<|.k<|.int 0,.ex<|.cR (.v 2) 4 [.v 6,.cmp (.v 4) [(.eq,.k<|.int 7)],.v 11,.call 45 [.ao (.v 1)<|.k<|.int 6,.v 12]]] [i6,.val<|f0 cG nm t Y aH,.val<|.ref<|S.X.length+11,.val<|.ref m,.val<|au k,.val<|.bool false,.val<|.ref 1,oT,Iu,tE,xD,.val<|au u,Ko] ((S.w bu).x<|ds S.X d cy cr).st (λcI _ ar=>Q cI.val ar):=λu bu g ty i6 oT Iu tE xD Ko=>ay.of (E bu 1)<|ay.of (E bu 1)<|ay.of (a:=40) (by rw[CL<|S.w bu];rfl)<|yP dh<|X9 (S:=S.w bu) yY<|q u bu g ty;clear yY dh q;k_go;refine Cu (S:=S.x<|ds S.X d cy cr) T ab ?_;induction key using bv.casesOn with
 |txt x=>exact absurd rfl<|dX x
 |_=>
  refine ay.of (mg 29)<|ay.of (mg 1)<|bj.h4 J1<|bj.h4 J1<|ay.of (mg 28)<|u5 (S:=S.x<|ds S.X d cy cr) T h ab (lg aq) λu aa g ty=>bj.en (λG=>bj.qs G ?_) λG=>?_
  .refine H1 (S:=(S.x<|ds S.X d cy cr).w aa) g.ok ty rfl (hI (h.len _)<|jF rfl) (g.room aq<|aG rfl) λBD bu bh zB=>?_;exact fin BD bu (g.trans bh) (by unfold jz;rw[bl G];exact zB) _ _ _ _ _ _
  .exact fin u aa (g.le<|aG rfl) (by unfold jz;rw[bm G];exact ty) _ _ _ _ _ _
theorem Fa(ai:HO c8)(b' bR:Z5 (ā×Ă)):ic (hW ai (.tup []) b' bR 0)=true:=by induction b'<;>induction bR<;>exact lm (yo λ_=>rfl) rfl
def wu (d:HO fZ):HO c8:=d.map λm=>(m.1,m.2.1,m.2.2,0)
theorem cF.app{bk:ZI}{aS:HO ā}{b:HO dE}{cg bO:HO B}{Q:cj->aJ->St->Prop}{r:aJ}{s:St}(h:cF n bk aS b bO r s (mS (λr s=>cF n bk aS b cg r s Q) Q)):cF n bk aS b (bO++cg) r s Q:=by
 constructor;replace h:=h.of;induction bO generalizing r s with
 |nil=>exact h.of
 |cons v l ap=>
  refine ay.imp (λr h=>bw.mono h λf r s h=>?_) h;induction f with
  |ret=>exact h
  |go=>exact ap h
theorem Ey{cG d4 Y aH:Ă}{v:B}(q:Q (.tup [v]) s):bc (n+1) 50 [.ref 10,f0 cG (-1) d4 Y aH,v] s Q:=by k_go;exact q
theorem Lc{ai:HO c8}{b' bR:Z5 (ā×Ă)}{arg:B}(T:Rows S.R)(ak:items arg=some (ai.map fi))(b7:(ai.map (·.1)).Nodup)(aj:ai.length<64)(aq:S.R.length+1<=a3)(q:∀t dP aa,a9 S.R aa 1->(dP.map (·.1)).Pairwise ot->(∀p,p∈dP↔p∈ai)->aa[t]?=some (hW dP (.tup []) b' bR 0)->Q (au t) (S.w aa).st):bc (n+2) 10 [.ref 1,arg,.tup [],.tup [],gv b',gv bR,.int 0] S.st Q:=by k_go;exact SH ak b7 aj λdP G E aC=>fb T (Fa dP b' bR) aq λt aa g e=>q t dP aa g G E e
theorem Ot{d:HO fZ}(b7:(d.map (·.1)).Nodup){m:fZ}(aN:m∈d):fA (.str m.1) (iH d)=some (some<|.tup [au m.2.1,.int m.2.2]):=by
 rcases zm (k:=.str m.1) rfl (A0 d)with⟨v,af,e⟩|⟨af,e⟩
 .rw[e];obtain⟨z,hz,a8⟩:=dr.mp af;clear af;have G:z.1=m.1:=B.str.inj<|bI Prod.fst a8;have:z=m:=by
   have nb:∀(l:HO fZ),(l.map (·.1)).Nodup->z∈l->m∈l->z=m:=by
    intro l;induction l with
    |nil=>intro _ h;cases h
    |cons a r ap=>
     intro b7 hz ae;rw[gh,hV]at b7;rcases ew.mp hz with ag|t7<;>rcases ew.mp ae with a8|vJ
     .rw[ag,a8]
     .exact absurd (fw (f:=λx:fZ=>x.1) vJ) (by rw[<-G,ag];exact b7.1)
     .exact absurd (fw (f:=λx:fZ=>x.1) t7) (by rw[G,a8];exact b7.1)
     .exact ap b7.2 t7 vJ
   exact nb d b7 hz aN
  rw[<-this];exact bI (λx:B×B=>some<|some x.2) a8.symm
 .exfalso;apply af;rw[IV];exact fw<|fw (f:=λx:fZ=>x.1) aN
theorem Lm(S:dz)(d:HO fZ)(cy cr:B):(S.x<|ds S.X d cy cr).st[S.X.length+13]?=some (.ls<|nC d):=by show(ds S.X d cy cr)[S.X.length+2]?=_;unfold ds;rw[oZ<|nz _ _,Nat.add_sub_cancel_left];rfl
theorem UI(S:dz)(d:HO fZ)(cy cr:B):(S.x<|ds S.X d cy cr).st[S.X.length+12]?=some (.cO<|iH d):=by show(ds S.X d cy cr)[S.X.length+1]?=_;unfold ds;rw[oZ<|j1 _,show S.X.length+1-S.X.length=1 by lia];rfl
theorem V0{d:HO fZ}{b' bR:Z5 (ā×Ă)}(T:Rows S.R)(b7:(d.map (·.1)).Nodup)(aj:d.length<64)(aq:S.R.length+1<=a3)(q:∀t dP aa,a9 S.R aa 1->(dP.map (·.1)).Pairwise ot->(∀p,p∈dP↔p∈wu d)->aa[t]?=some (hW dP (.tup []) b' bR 0)->Q (au t) ((S.w aa).x<|ds S.X d (gv b')<|gv bR).st):bc (n+3) 41 [.ref<|S.X.length+11,.ref 1] (S.x<|ds S.X d (gv b')<|gv bR).st Q:=by
 have IL:∀m∈d,hn (S.x<|ds S.X d (gv b')<|gv bR).st (.ref<|S.X.length+12) (.str m.1)=some (.tup [au m.2.1,.int m.2.2]):=by intro m aN;show(_:Z5 c4).bind _=_;rw[UI];show(if _ then _ else _)=_;rw[Cj,Ot b7 aN];rfl
 k_go;refine dg.ny rfl<|ay.of ((rA S d _ _ 5).trans rfl)<|Oi (f:=λm:fZ=>ep m.1) (g:=λm=>fi (m.1,m.2.1,m.2.2,0)) (Lm S d _ _) (λm aN bV a'=>?_) ?_
 .refine eO.mk ?_;lk;exact ay.of ((rA S d _ _ 0).trans rfl)<|ay.of (IL m aN)<|ay.of ((rA S d _ _ 0).trans rfl)<|ay.of (IL m aN) a'
 .refine ay.of ((rA S d _ _ 26).trans rfl)<|ay.of ((rA S d _ _ 27).trans rfl) ?_;refine Lc (S:=S.x<|ds S.X d (gv b')<|gv bR) (ai:=wu d) T (by unfold wu;rw[f2];rfl) (by unfold wu;rw[f2];exact b7) (by unfold wu;simpa using aj) aq λt dP aa g G E aC=>?_;exact q t dP aa g G E aC
abbrev Tm:=bx×Ă
def pX(R:HO B)(F:bv->HO aF)(Y aH:Ă)(m:fZ)(p:Tm):Prop:=m.1=p.1/\m.2.2=qK Y aH p.2/\d7.Ty R m.2.1 (fD Y (rq p.2)<|F<|.txt p.1)
theorem pX.bf{R aa:HO B}{F:bv->HO aF}{Y aH:Ă}{m:fZ}{p:Tm}{c:ā}(h:pX R F Y aH m p)(g:a9 R aa c):pX aa F Y aH m p:=⟨h.1,h.2.1,h.2.2.bf g⟩
def k_(R:HO B)(Y aH:Ă)(K:HO aF):Z5 (ā×Ă)->Z5 (ā×Ă)->Prop
 |none,c=>c=none
 |some (_,aV),c=>∃u,c=some (u,gR aH aV)/\d7.Ty R u (jz Y K)
theorem k_.bf{R aa:HO B}{Y aH:Ă}{K:HO aF}{a b:Z5 (ā×Ă)}{c:ā}(h:k_ R Y aH K a b)(g:a9 R aa c):k_ aa Y aH K a b:=by
 rcases a with _|⟨t,aV⟩
 .exact h
 .obtain⟨u,G,E⟩:=h;exact⟨u,G,E.bf g⟩
structure jf(R:List B)(F:bv->List aF)(Y aH:Int)(ax:List Tm)(b' bR:Option (Nat×Int))(t:Nat)(ai:List c8)(dv du:Option (Nat×Int)):Prop where
 row:R[t]?=some (hW ai (.tup []) dv du 0)
 fx:(ai.map (·.1)).Pairwise ot
 to:∀p∈ai,p.2.2.2=0/\∃m∈ax,pX R F Y aH (p.1,p.2.1,p.2.2.1) m
 of:∀m∈ax,∃p∈ai,pX R F Y aH (p.1,p.2.1,p.2.2.1) m
 six:k_ R Y aH (F .S) b' dv
 r6:k_ R Y aH (F .N) bR du
theorem jf.bf{R aa:HO B}{F:bv->HO aF}{Y aH:Ă}{ax:HO Tm}{b' bR:Z5 (ā×Ă)}{t:ā}{ai:HO c8}{dv du:Z5 (ā×Ă)}{c:ā}(h:jf R F Y aH ax b' bR t ai dv du)(g:a9 R aa c):jf aa F Y aH ax b' bR t ai dv du:=⟨g.at h.row,h.fx,λp ae=>⟨(h.to p ae).1,(h.to p ae).2.imp λm x=>⟨x.1,x.2.bf g⟩⟩,λm aN=>(h.of m aN).imp λp x=>⟨x.1,x.2.bf g⟩,h.six.bf g,h.r6.bf g⟩
theorem bX.mem{av b8:Type}{P:av->b8->Prop}{l:HO av}{m:HO b8}(x:bX P l m):∀b∈m,∃a∈l,P a b:=by
 induction x with
 |nil=>exact λb h=>nomatch h
 |cons x y ap=>
  intro b h;cases h with
  |head=>exact⟨_,.head _,x⟩
  |tail _ h=>obtain⟨a,G,E⟩:=ap b h;exact⟨a,.tail _ G,E⟩
theorem bX.v3{av b8:Type}{P:av->b8->Prop}{l:HO av}{m:HO b8}(x:bX P l m):∀a∈l,∃b∈m,P a b:=by
 induction x with
 |nil=>exact λb h=>nomatch h
 |cons x y ap=>
  intro b h;cases h with
  |head=>exact⟨_,.head _,x⟩
  |tail _ h=>obtain⟨a,G,E⟩:=ap b h;exact⟨a,.tail _ G,E⟩
theorem bX.map{av b8 dC:Type}{P:av->b8->Prop}{f:av->dC}{g:b8->dC}{l:HO av}{m:HO b8}(x:bX P l m)(h:∀a b,P a b->f a=g b):l.map f=m.map g:=bX.rec (motive:=λl m _=>l.map f=m.map g) rfl (λx _ ap=>List.cons_eq_cons.mpr ⟨h _ _ x,ap⟩) x
theorem bX.names{R:HO B}{F:bv->HO aF}{Y aH:Ă}{d:HO fZ}{l:HO Tm}(x:bX (pX R F Y aH) d l):d.map (·.1)=l.map (·.1):=x.map λ_ _ h=>h.1
def yX (p:c8):Tm:=(p.1,p.2.2.1)
theorem cF.al{av:Type}{P:B->av->Prop}{bk:ZI}{aS:HO ā}{b:HO dE}{Q:cj->aJ->St->Prop}{bO:HO B}{all:HO av}(al:bX P bO all)(fy:HO av->(aJ->St->Prop)->Prop)(ba:∀done v a a_,all=done++a::a_->P v a->∀K:aJ->St->Prop,fy (done++[a]) K->fy done λr s=>ay (il bk aS v r) λr=>bw n b r s<|mS K Q)(cN:fy all (Q .go)){r:aJ}{s:St}(h:∀K:aJ->St->Prop,fy [] K->K r s):cF n bk aS b bO r s Q:=by
 have key:∀(a_ done:HO av) (l:HO B),all=done++a_->bX P l a_->fy done (oA (bw n b) bk aS Q l):=by
  intro a_;induction a_ with
  |nil=>intro done l e al;obtain rfl:l=[]:=al.of;rw[ha]at e;exact e▸cN
  |cons a a_ ap=>intro done l e al;obtain⟨_,l,rfl,x,y⟩:=al.un;exact ba done _ a a_ e x _<|ap _ _ (by rw[e,hK];rfl) y
 exact⟨h _<|key all [] bO rfl al⟩
theorem bX.comp{av b8 dC:Type}{P:av->b8->Prop}{tF:b8->dC->Prop}{l:HO av}{m:HO b8}(x:bX P l m):∀{k:HO dC},bX tF m k->bX (λa c=>∃b,P a b/\tF b c) l k:=by
 induction x with
 |nil=>intro k y;cases y;exact .nil
 |cons x _ ap=>intro k y;cases y with|cons y EF=>exact .cons ⟨_,x,y⟩<|ap EF
theorem bX.parts{av b8:Type}{P:av->b8->Prop}{a b:HO b8}:∀{l:HO av},bX P l (a++b)->dW λmn oq=>dD (l=mn++oq) (bX P mn a) (bX P oq b):=by
 induction a with
 |nil=>exact λh=>⟨[],_,rfl,.nil,h⟩
 |cons e a ap=>intro l h;obtain⟨_,l,rfl,x,y⟩:=bX.un h;obtain⟨mn,oq,rfl,G,E⟩:=ap y;exact⟨_::mn,oq,rfl,.cons x G,E⟩
theorem GB{v:B}{e:gq}{d:HO fZ}{cy cr:B}{R:HO B}{l:HO (ā×B)}(af:f3 S.X v e)(a6:e.ct=.ins 6 ((28,au k)::l)):nR ((S.w R).x<|ds S.X d cy cr).st v 28=some (au k):=by obtain⟨m,rfl,di,G,E⟩:=x2 (S:=S.x<|ds S.X d cy cr) (af.app:f3 (S.X++_) v e);rw[G]at a6;have:=E R 28;injection a6 with _ a6;rw[a6]at this;exact this
def Bx (S:dz) (row:B) (aP:HO B) (c1 dj cY:cq):aJ:=[.val<|.ref 10,.val row,.val<|.lst aP,.val<|.bool false,.val<|.ref<|S.X.length+11,c1,dj,cY]
noncomputable abbrev VE:HO dE:=[.set 6<|.call 50 [.v 0,.v 1,.at (.v 5) 28],.iff (.cmp (.v 6) [(.is,.k .none)]) [.ret<|.cR (.at (.v 0) 25) 0 [.v 1]] [],.for false [7] (.v 6) [.ex<|.call 52 [.v 0,.v 1,.v 4,.v 5,.v 7,.v 3]]]
theorem F1{t:ā}{F:bv->HO aF}{key:bv}{cG Y aH:Ă}{aP pf:HO B}{c:Z5 (ā×Ă)}{d:HO fZ}{cy cr:B}{c1 dj cY:cq}{Q:cj->aJ->St->Prop}(T:Rows S.R)(h:f9 S.R t F)(az:Y=0\/Y=1\/Y=2)(dh:aH=0\/aH=1\/aH=2)(aD:(k=6/\key=.S/\cy=.tup [])\/(k=7/\key=.N/\cr=.tup []))(al:bX (f3 S.X) pf (k0 k c))(aq:S.R.length+7<=a3)(q:∀iQ aa c1 dj cY,a9 S.R aa 7->k_ aa Y aH (F key) c iQ->Q .go (Bx S (f0 cG (-1) t Y aH) aP c1 dj cY) ((S.w aa).x<|ds S.X d (if k=6 then gv iQ else cy)<|if k=7 then gv iQ else cr).st):cF (n+18) false [5] VE pf (Bx S (f0 cG (-1) t Y aH) aP c1 dj cY) (S.x<|ds S.X d cy cr).st Q:=by
 induction c with
 |none=>
  have e:(if k=6 then gv none else cy)=cy/\(if k=7 then gv none else cr)=cr:=by rcases aD with⟨rfl,-,rfl⟩|⟨rfl,-,rfl⟩<;>exact⟨rfl,rfl⟩
  have q:=q none S.R c1 dj cY (a9.refl T) rfl;rw[e.1,e.2]at q;cases al;exact⟨q⟩
 |some c=>obtain⟨c,aV⟩:=c;cases al with|@cons v _ _ _ af al=>cases al;lk;refine ay.of (GB (R:=S.R) af rfl)<|Ey ?_;lk;refine YE T h az dh aD af aq λu d2 cJ ty=>?_;lk;exact(q (some (u,gR aH aV)) d2 (.val v) (.val<|.tup [au k]) (.val<|au k) cJ ⟨u,rfl,ty⟩)
theorem HZ{t:ā}{F:bv->HO aF}{cG Y aH:Ă}{aP:HO B}{ax:HO gq}{ai:HO c8}{b' bR:Z5 (ā×Ă)}(T:Rows S.R)(h:f9 S.R t F)(az:Y=0\/Y=1\/Y=2)(dh:aH=0\/aH=1\/aH=2)(cs:bX (f3 S.X) aP (ax++(k0 6 b'++k0 7 bR)))(mA:bX (oR S.R) ax ai)(a7:∀p∈ai,0<=p.2.2.1)(b7:(ai.map (·.1)).Nodup)(aj:ai.length<=40)(aq:S.R.length+400<=a3)(q:∀u ce dv du aa ef,a9 S.R aa 400->jf aa F Y aH (ai.map yX) b' bR u ce dv du->Q (au u) ((S.w aa).x<|S.X++ef).st):bc (n+19) 53 [.ref 10,f0 cG (-1) t Y aH,.lst aP,.bool false] S.st Q:=by
 obtain⟨WP,e8,rfl,e1,hg⟩:=cs.parts;clear cs;obtain⟨pf,vv,rfl,fO,kD⟩:=hg.parts;clear hg;k_go;refine K4 ⟨rfl,cF.app<|cF.al (e1.comp mA) (λdone K=>∀aa d c1 dj cY,a9 S.R aa (8*done.length)->bX (pX aa F Y aH) d (done.map yX)->K (Bx S (f0 cG (-1) t Y aH) (WP++(pf++vv)) c1 dj cY) ((S.w aa).x<|ds S.X d (gv none)<|gv none).st) (λdone v p a_ ag af K ab aa d c1 dj cY g l'=>?_) (λaa d c1 dj cY g l'=>?_) λK ab=>ab S.R [] _ _ _ (a9.refl T) .nil⟩
 .obtain⟨e,af,aN⟩:=af;obtain⟨k,rfl,aD⟩:=aN;have o1:d.length<=1000:=by rw[l'.len,bT];exact aI (lg<|oD ag aj)<|aG rfl
  lk;refine ay.of (GB (R:=aa) af rfl) ?_;lk;refine Ey ?_;lk;refine Qc (S:=S.w aa) g.ok (h.bf g) az dh af (aD.bf g) (a7 p<|by rw[ag];exact iJ _<|.head _) ?_ o1 (g.turn ag aj aq) λu bu bh ty=>?_
  .rw[l'.names,f2];intro jB;rw[ag,cZ,nc]at b7;exact b7.2.2 p.1 jB p.1 (.head _) rfl
  .have ab:=ab bu (d++[(p.1,u,qK Y aH p.2.2.1)]) (.val v) (.val<|.tup [au k]) (.val<|au k) (g.step bh<|dy _) (by rw[cZ];exact(l'.imp λa b h=>h.bf bh).snoc ⟨rfl,rfl,ty⟩);lk;exact ab
 .have IY:a9 S.R aa 320:=g.le<|hf 8 aj;have AM:=l'.names;have o1:d.length<64:=by rw[l'.len,bT];exact hI aj<|aG rfl
  have Tx:(d.map (·.1)).Nodup:=by rw[AM,f2];exact b7
  refine cF.app<|F1 (S:=S.w aa) (k:=6) (key:=.S) (c:=b') g.ok (h.bf g) az dh (.inl ⟨rfl,rfl,rfl⟩) fO (IY.room aq<|aG rfl) λdv bu c1 dj cY bh d5=>?_;have cJ:=IY.trans bh;refine F1 (S:=S.w bu) (k:=7) (key:=.N) (c:=bR) bh.ok ((h.bf g).bf bh) az dh (.inr ⟨rfl,rfl,rfl⟩) kD (cJ.room aq<|aG rfl) λdu d2 c1 dj cY hJ fp=>?_;have lH:=cJ.trans hJ;refine ay.of (a:=41) (by rw[CL<|S.w d2];rfl) ?_;refine V0 (S:=S.w d2) lH.ok Tx o1 (lH.room aq<|aG rfl) λu ce qX mC v' p5 AP=>q u ce dv du qX _ ((lH.trans mC).le<|aG rfl) ⟨AP,v',λp ae=>?_,λm aN=>?_,(d5.bf hJ).bf mC,fp.bf mC⟩
  .obtain⟨z,hz,rfl⟩:=dr.mp<|(p5 p).mp ae;obtain⟨b,aw,eZ⟩:=l'.v3 z hz;exact⟨rfl,b,aw,((eZ.bf bh).bf hJ).bf mC⟩
  .obtain⟨z,hz,eZ⟩:=l'.mem m aN;exact⟨_,(p5 _).mpr<|fw hz,((eZ.bf bh).bf hJ).bf mC⟩
theorem It{av b8:Type}(f:av->b8):∀{l di:HO av},l.map f=di.map f->(∀p∈l,∀ev∈di,f p=f ev->p=ev)->l=di
 |[],[],_,_=>rfl
 |[],_::_,h,_=>by cases h
 |_::_,[],h,_=>by cases h
 |a::l,b::di,h,k=>by rw[gh,gh,sc]at h;rw[k a (.head _) b (.head _) h.1,It f h.2 λp ae ev hO=>k p (.tail _ ae) ev<|.tail _ hO]
theorem k_.inj{R:HO B}(T:Rows R){Y aH:Ă}{K:HO aF}{a hg b eD:Z5 (ā×Ă)}(h:k_ R Y aH K a b)(aR:k_ R Y aH K hg eD)(e:a.map (·.2)=hg.map (·.2)):b=eD:=by
 rcases a with _|⟨t,aV⟩<;>rcases hg with _|⟨dM,ZF⟩
 .rw[show b=none from h,show eD=none from aR]
 .exact bY e
 .exact lj e
 .cases e;obtain⟨u,rfl,E⟩:=h;obtain⟨h5,rfl,mj⟩:=aR;rw[E.inj T mj]
theorem jf.inj{R:HO B}(T:Rows R){F:bv->HO aF}{Y aH:Ă}{ax IF:HO Tm}{b' bR we uS:Z5 (ā×Ă)}{t dM:ā}{ai dP:HO c8}{dv du LW U':Z5 (ā×Ă)}(h:jf R F Y aH ax b' bR t ai dv du)(aR:jf R F Y aH IF we uS dM dP LW U')(aN:∀m,m∈ax↔m∈IF)(fn:∀m∈ax,∀i'∈ax,m.1=i'.1->m=i')(fC:b'.map (·.2)=we.map (·.2))(kH:bR.map (·.2)=uS.map (·.2)):t=dM:=by
 have wr:ai=dP:=by
  refine It (λp=>p.1) (YA h.fx aR.fx λx=>?_) λp ae ev hO e=>?_
  .constructor
   .intro aA;obtain⟨p,ae,rfl⟩:=dr.mp aA;clear aA;obtain⟨m,gi,aw⟩:=(h.to p ae).2;obtain⟨ev,hO,ml⟩:=aR.of m<|(aN m).mp gi;rw[show p.1=ev.1 from aw.1.trans ml.1.symm];exact fw (f:=λx:c8=>x.1) hO
   .intro aA;obtain⟨p,ae,rfl⟩:=dr.mp aA;clear aA;obtain⟨m,gi,aw⟩:=(aR.to p ae).2;obtain⟨ev,hO,ml⟩:=h.of m<|(aN m).mpr gi;rw[show p.1=ev.1 from aw.1.trans ml.1.symm];exact fw (f:=λx:c8=>x.1) hO
  .obtain⟨c9,m,gi,j3,jU,lC⟩:=h.to p ae;obtain⟨Tr,i',L_,Rp,U9,OP⟩:=aR.to ev hO;have:m=i':=fn m gi i' ((aN i').mpr L_)<|j3.symm.trans<|(show p.1=ev.1 from e).trans Rp;subst this;exact mY e<|mY (lC.inj T OP)<|mY (jU.trans U9.symm)<|c9.trans Tr.symm
 have r:=h.row;rw[wr,h.six.inj T aR.six fC,h.r6.inj T aR.r6 kH]at r;exact T.inj r aR.row
theorem bX.Mh{R:HO B}{ax:HO gq}{ai:HO c8}(x:bX (oR R) ax ai):bX (oR R) (ax.filter oE) (ai.filter λp=> !ij p.1):=by
 induction x with
 |nil=>exact .nil
 |@cons e p _ _ x y ap=>
  obtain⟨k,rfl,aD⟩:=id x;rw[hM,hM];show bX _ (if(!ij p.1)=true then _ else _) _;induction ij p.1 with
  |false=>exact .cons x ap
  |true=>exact ap
def rt (ai:HO c8):HO Tm:=((ai.filter λp=>ob p.2.2.1).filter λp=> !ij p.1).map yX
theorem R9{t src o:ā}{F:bv->HO aF}{cG Y aH cL e_:Ă}{l:HO B}{ai:HO c8}{eF:B}{b' bR:Z5 (ā×Ă)}(T:Rows S.R)(h:f9 S.R t F)(az:Y=0\/Y=1\/Y=2)(dh:aH=0\/aH=1\/aH=2)(aK:S.R[src]?=some (.tup<|.int cL::l))(aD:cL=8\/cL=9)(sP:∀m bV,bV (au o) S.st->bc (m+4) 28 [.ref 10,au src] S.st bV)(bn:S.R[o]?=some (hW ai eF b' bR e_))(aA:∀p∈ai,p.1∈iK)(a7:∀p∈ai,0<=p.2.2.1)(b7:(ai.map (·.1)).Nodup)(aj:ai.length<=7)(aq:S.R.length+500<=a3)(q:∀u ce dv du aa ef,a9 S.R aa 500->jf aa F Y aH (rt ai) b' bR u ce dv du->Q (au u) ((S.w aa).x<|S.X++ef).st):bc (n+21) 59 [.ref 10,f0 cG (-1) t Y aH,au src] S.st Q:=by
 have fK:cL≠11:=by rcases aD with e|e<;>rw[e]<;>decide
 have gz:cL≠12:=by rcases aD with e|e<;>rw[e]<;>decide
 k_go;lk;refine wd aK (aD.imp id .inl)<|bj.fm fK<|bj.fm gz<|dg.ny rfl<|TY T (λbV a'=>sP _ bV a') bn a7 (aI aj<|aG rfl) (aI (gr (aI aj<|aG rfl) _) aq) λaa ef aP ax g e1 fO=>?_;replace g:=g.le aj;have s9:∀k c,(k0 k c).length<=1:=by rintro k(_|c)<;>exact aG rfl
 have on:(ax++(k0 6 b'++k0 7 bR)).length<=9:=by rw[c',c'];exact gI (aI (fT fO.len)<|aI (ms _ _) aj)<|gI (s9 6 b')<|s9 7 bR
 have Iv:∀k c,(k0 k c).filter oE=k0 k c:=by rintro k(_|c)<;>rfl
 refine SN (S:=(S.w aa).x<|S.X++ef) (i6:=.un) (x:=.none) (N:=0) g.ok e1 (λe a6 k p M7=>?_) (aI (gr on _)<|g.room aq<|aG rfl) λbu pf bh iE=>?_
 .rw[M7]at a6;rcases gd.mp a6 with a6|a6
  .obtain⟨ev,hO,iL,ag,_⟩:=fO.v3 _ a6;cases ag;exact aA p (gx.mp hO).1
  .rcases gd.mp a6 with a6|a6
   .rcases b' with _|c
    .exact nomatch a6
    .exact nomatch cX.mp a6
   .rcases bR with _|c
    .exact nomatch a6
    .exact nomatch cX.mp a6
 .replace bh:=bh.le on;rw[mv,mv,Iv,Iv]at iE;have cJ:=g.trans bh;refine HZ (S:=((S.w aa).x<|S.X++ef).w bu) bh.ok (h.bf cJ) az dh iE ((fO.imp λa b h=>h.bf bh).Mh:bX (oR bu) (ax.filter oE) (((ai.filter λp=>ob p.2.2.1).filter λp=> !ij p.1))) (λp ae=>a7 p (gx.mp (gx.mp ae).1).1) (((List.filter_sublist.trans List.filter_sublist).map _).nodup b7) (aI (ms _ _)<|aI (ms _ _)<|aI aj<|aG rfl) (cJ.room aq<|aG rfl) λu ce dv du d2 Xp hJ to=>?_;have q:=q u ce dv du d2 (ef++Xp) ((cJ.trans hJ).le<|aG rfl) to;rw[<-hK]at q;exact q
def hX.good:hX->Prop
 |.fix K=>Drawn K
 |.tab dZ ez d0=>Drawn dZ/\Drawn ez/\(∀a∈d0,a∈qU)/\d0.length<=9/\(∀a∈dZ,a∈d0)/\∀a∈ez,a∈d0
 |_=>True
structure cK.good(p:cK):Prop where
 e2:p.e2<4
 ik:p.ik.good
theorem cK.good.ok{p:cK}(h:p.good):p.ok:=by
 refine⟨h.e2,λk=>?_⟩;have aw:=h.ik;induction e:p.ik with
 |own=>exact ih rfl
 |key=>exact ih rfl
 |fix K=>rw[e]at aw;have:=Drawn.len aw;show K.length<=12;exact f1 ‹_›
 |tab dZ ez d0=>rw[e]at aw;obtain⟨aU,ak,_,aK,_,_⟩:=aw;exact Hq (M:=λK:HO aM=>K.length<=12) (aI aU.len<|aG rfl) (aI ak.len<|aG rfl) (aI aK<|aG rfl) k
theorem rm{K:HO aM}(h:∀a∈K,a∈qU):xn K:=λk aD=>by have:=h _ aD;simp[qU]at this
theorem yG{K:HO aM}{hu:B}(ab:Drawn K)(T:Rows S.R)(aq:S.R.length+8<=a3)(q:∀t aa,a9 S.R aa 7->hY.Ty aa t K->Q (au t) (S.w aa).st):bc (n+5) 75 [.ref 1,hu,.lst<|K.map aM.aW] S.st Q:=rW T ab.len rfl (hl ‹_›) rfl (λk aD=>absurd aD<|rm ab.oV k) q
theorem Xj(c_:oF S.nums)(bg:S.d<=80000)(q:∀(p:cK) d,p.good->d<=S.d+14->Q p.aW (S.go d).st):bc (n+3) 79 [.ref 0] S.st Q:=by
 k_go;refine hB c_ (aI bg<|aG rfl) (by decide) λbase aw=>?_;refine hB (S:=S.go<|S.d+1) c_ (aI (dc bg)<|aG rfl) (by decide) λe2 p8=>?_;have xR:e2<4:=gV p8;have y4:∀{a b:ā},Nat.ble b 14=true->a<=S.d+b->a<=S.d+14:=λe h=>aI h<|gr (aG e) _;have xi:∀{a b:ā},Nat.ble b 14=true->a<=S.d+b->a<=90000:=λe h=>aI (y4 e h)<|aI (fP bg 14)<|aG rfl;rcases wQ (gV aw)with er|er|er|er<;>rw[er]
 .exact q ⟨.own,e2⟩ (S.d+1+1) ⟨xR,trivial⟩<|y4 (b:=2) rfl<|dy _
 .exact q ⟨.key,e2⟩ (S.d+1+1) ⟨xR,trivial⟩<|y4 (b:=2) rfl<|dy _
 .exact rh (S:=S.go<|S.d+1+1) c_ (xi (b:=2) rfl<|dy _) λK d _ E ab=>q ⟨.fix K,e2⟩ d ⟨xR,ab⟩<|y4 (b:=6) rfl E
 .refine rh (S:=S.go<|S.d+1+1) c_ (xi (b:=2) rfl<|dy _) λdZ FQ _ E sN=>?_;replace E:FQ<=S.d+6:=E;refine⟨rfl,ay.of rfl ⟨ih rfl,?_⟩⟩;refine rh (S:=S.go FQ) c_ (xi rfl E) λez uc _ ba zg=>?_;replace ba:uc<=S.d+10:=aI ba<|fP E 4;refine⟨rfl,ay.of rfl ⟨ih rfl,?_⟩⟩;refine rh (S:=S.go uc) c_ (xi rfl ba) λd0 zc _ d5 pC=>?_;have aC:∀{a b:HO aM},a.length<=3->b.length<=3->(a.map aM.aW).length+(b.map aM.aW).length<=6:=λak aw=>by rw[bT,bT];exact gI ak aw
  refine ay.of (lQ<|aI (aC pC.len sN.len)<|aG rfl) ?_;refine ay.of (lQ<|aI (by rw[c'];exact gI (aC pC.len sN.len) (aI (fT<|bT _) zg.len):_<=9)<|aG rfl) ?_;refine⟨rfl,ay.of rfl ⟨ih rfl,?_⟩⟩;have q:=q ⟨.tab dZ ez<|d0++dZ++ez,e2⟩ zc ⟨xR,sN,zg,λa ak=>(gd.mp ak).elim (λak=>(gd.mp ak).elim (pC.oV a)<|sN.oV a)<|zg.oV a,by rw[c',c'];exact gI (gI pC.len sN.len) zg.len,λa h=>kC _<|iJ _ h,λa h=>iJ _ h⟩<|aI d5<|fP ba 4;rw[<-cZ,<-cZ];exact q
theorem J4{R:HO B}(T:Rows R){p:ā}{v:B}(h:R[p]?=some v)(af:∀x,v≠.tup [.int 1,.str x]):4<p:=by exact Nat.lt_of_not_le λq=>((by decide:∀p≤4,p=0\/p=1\/p=2\/p=3\/p=4) p q).elim (oN T h (t:=0) rfl<|af _) λq=>q.elim (oN T h (t:=1) rfl<|af _) λq=>q.elim (oN T h (t:=2) rfl<|af _) λq=>q.elim (oN T h (t:=3) rfl<|af _)<|oN T h (t:=4) rfl<|af _
theorem gf.un{R:HO B}{p:ā}(h:gf R p (-1)):ek R p [p]:=⟨by simp,λq a'=>⟨-1,by rw[cX]at a';subst a';exact h,λz _=>by lia⟩,.inr<|.inl rfl⟩
theorem Es{p:ā}{arg:B}(T:Rows S.R)(h:gf S.R p (-1))(ba:4<p)(ak:items arg=some [au p,au 4])(aq:S.R.length+1<=a3)(q:∀t aa,a9 S.R aa 1->ek aa t [4,p]->Q (au t) (S.w aa).st):bc (n+3) 20 [.ref 1,arg] S.st Q:=by
 refine y' T h.un ak (by simp) aq λt ai aa g u m=>q t aa g ?_;have:ai=[4,p]:=uG u.fx (sa.mpr ⟨λx aA=>by rw[cX.mp aA];exact ba,List.pairwise_singleton _ _⟩) λz=>(m z).trans ⟨λh=>h.elim (λh=>.tail _ h) λe=>by rw[e];exact .head _,λh=>by
  cases h with
  |head=>exact .inr rfl
  |tail _ h=>exact .inl h⟩
 rw[<-this];exact u
theorem w1{e2 x:ā}{F:bv->HO aM}{i6 e1 fO kD kd DB oT tE xD:cq}{Q:cj->aJ->St->Prop}(T:Rows S.R)(p8:e2<4)(eZ:k1 S.R x F)(aA:(gf S.R x (-1)/\4<x)\/∃K,K.length<=11/\i4 S.R x K/\F=λ_=>K)(aq:S.R.length+2<=a3)(q:∀t aa r,a9 S.R aa 2->f9 aa t (λk=>gC e2<|F k)->Q (.ret<|au t) r (S.w aa).st):bw (n+5) [.iff (.cmp (.bin .mod (.v 5)<|.k<|.int 2) [(.eq,.k<|.int 1)]) [.set 8<|.cR (.v 0) 0 [.tup [.k<|.int 11,.v 8,.k<|.int 0]]] [],.ret<|.ite (.cmp (.v 5) [(.gt,.k<|.int 1)]) (.call 20 [.v 0,.tup [.v 8,.k<|.int 4]])<|.v 8] [.val<|.ref 1,e1,fO,kD,kd,.val<|.int e2,DB,oT,.val<|au x,tE,xD] S.st Q:=by
 have Qi:∀{R:HO B} {p:ā},Rows R->R[p]?=some (hH x 0)->gf R p (-1)/\4<p:=λT h=>⟨⟨⟨_,h,.arr _ _⟩,sb T h rfl⟩,J4 T h λx q=>by cases q⟩;rcases(wQ p8)with rfl|rfl|rfl|rfl
 .refine q x S.R _ (a9.refl T) ?_;rw[(funext λk=>by simp[gC]:(λk=>gC 0<|F k)=λk=>(F k).map .b)];exact .one<|.base eZ
 .refine fb T rfl (lg aq) λp aa g e=>q p aa _ (g.le<|aG rfl) ?_;rw[(funext λk=>rfl:(λk=>gC 1<|F k)=λk=>[.arr<|F k])];exact .one<|.arr (eZ.bf g) e
 .rcases aA with⟨ae,ba⟩|⟨K,ab,kT,rfl⟩
  .refine Es T ae ba rfl (lg aq) λt aa g u=>q t aa _ (g.le<|aG rfl) ?_;rw[(funext λk=>rfl:(λk=>gC 2<|F k)=λk=>(F k).map .b++[.b .bB])];exact .bB (.base<|eZ.bf g) (ae.bf g) ba u
  .obtain⟨ai,u,i,aj⟩:=kT.ty.tY T;refine y' T u rfl (hI (aI aj ab)<|jF rfl) (lg aq) λt dP aa g h5 m=>q t aa _ (g.le<|aG rfl) ?_;rw[(funext λk=>by simp[gC]:(λ_:bv=>gC 2 K)=λ_=>(K++[aM.bB]).map .b)];have no:xn (K++[aM.bB]):=λk aD=>by
    rcases gd.mp aD with aD|aD
    .exact kT.no k aD
    .rw[cX]at aD;cases aD
   exact .one<|.base<|.fix ⟨⟨dP,h5,(db.Is.bB (Z:=hY) T i m).bf g⟩,no,by rw[c'];exact dc ab⟩
 .refine fb T rfl (lg aq) λp aa g e=>?_;obtain⟨ae,ba⟩:=Qi g.ok e;have sq:=g.len;refine Es (S:=S.w aa) g.ok ae ba rfl (g.room aq<|aG rfl) λt bu bh u=>?_;refine q t bu _ (g.trans bh) ?_;rw[(funext λk=>rfl:(λk=>gC 3<|F k)=λk=>[.arr<|F k]++[.b .bB])];exact .bB (.arr ((eZ.bf g).bf bh)<|bh.at e) (ae.bf bh) ba u
theorem Kq{R:HO B}(T:Rows R){p:ā}{a b:Ă}(h:R[p]?=some (pe a b)):gf R p (-1)/\4<p:=⟨⟨⟨_,h,.idx _ _⟩,sb T h rfl⟩,J4 T h λx q=>by cases q⟩
theorem Vk{p:cK}(T:Rows S.R)(ae:p.good)(aq:S.R.length+100<=a3)(q:∀t aa,a9 S.R aa 100->f9 aa t p.at->Q (au t) (S.w aa).st):bc (n+7) 81 [.ref 1,.int 16,.int 17,p.aW] S.st Q:=by
 obtain⟨ik,e2⟩:=p;obtain⟨p8,aw⟩:=ae;k_go;induction ik with
 |own=>lk;refine fb T rfl (hl ‹_›) λx aa g e=>?_;have sq:=g.len;have bz:aa[x]?=some (pe 16 17):=e;lk;exact(@w1 (n+1) (S.w aa) e2 x _ (.val<|.ref 1) (.val<|.int 16) (.val<|.int 17) (.val<|cK.aW ⟨.own,e2⟩) (.val<|.int 0) (.val<|.lst []) (.val<|.bb []) .un .un (λcI _ ar=>Q cI.val ar) g.ok p8 (.own bz) (.inl<|Kq g.ok bz) (by show aa.length+2<=a3;lia) λt bu r bh bk=>q t bu ((g.trans bh).le<|aG rfl) bk)
 |key=>lk;exact(@w1 (n+1) S e2 17 _ (.val<|.ref 1) (.val<|.int 16) (.val<|.int 17) (.val<|cK.aW ⟨.key,e2⟩) (.val<|.int 1) (.val<|.lst []) (.val<|.bb []) .un .un (λcI _ ar=>Q cI.val ar) T p8 .key (.inl ⟨⟨⟨_,T.at rfl,.par _⟩,by decide⟩,by decide⟩) (hl ‹_›) λt bu r bh bk=>q t bu (bh.le<|aG rfl) bk)
 |fix K=>have ab:Drawn K:=aw;have rf:=ab.len;lk;refine rW T rf rfl (hl ‹_›) rfl (λ_ _=>rfl) λx aa g ty=>?_;have sq:=g.len;have kT:i4 aa x K:=⟨ty,rm ab.oV,by lia⟩;lk;exact(@w1 (n+1) (S.w aa) e2 x _ (.val<|.ref 1) (.val<|.int 16) (.val<|.int 17) (.val<|cK.aW ⟨.fix K,e2⟩) (.val<|.int 2) (.val<|.lst<|K.map aM.aW) (.val<|.bb []) .un .un (λcI _ ar=>Q cI.val ar) g.ok p8 (.fix kT) (.inr ⟨K,f1 ‹_›,kT,rfl⟩) (by show aa.length+2<=a3;lia) λt bu r bh bk=>q t bu ((g.trans bh).le<|by lia) bk)
 |tab dZ ez d0=>obtain⟨aU,ak,aK,tx,FU,HX⟩:=aw;have ZK:=aU.len;have ZG:=ak.len;lk;refine dg.ny rfl ?_;lk;refine rW T aU.len rfl (hl ‹_›) rfl (λ_ _=>rfl) λib gp g ME=>?_;lk;refine rW (S:=S.w gp) g.ok ak.len rfl (g.room aq<|aG rfl) rfl (λ_ _=>rfl) λig bu bh Ul=>?_;replace g:=g.trans bh;lk;refine rW (S:=S.w bu) g.ok tx rfl (g.room aq<|aG rfl) rfl (λ_ _=>rfl) λaS d2 cJ Xv=>?_;replace g:=g.trans cJ;lk;refine fb (S:=S.w d2) (row:=wh ib ig aS) g.ok rfl (g.room aq<|aG rfl) λaX qX hJ QC=>?_;replace g:=g.trans hJ;lk;refine fb (S:=S.w qX) (row:=pe aX 17) g.ok rfl (g.room aq<|aG rfl) λx nT lH ex=>?_;replace g:=g.trans lH;have xq:k1 nT x (ni dZ ez d0):=.tab ex (lH.at QC) ⟨(((ME.bf bh).bf cJ).bf hJ).bf lH,rm aU.oV,by have:=aU.len;lia⟩ ⟨((Ul.bf cJ).bf hJ).bf lH,rm ak.oV,by have:=ak.len;lia⟩ ⟨(Xv.bf hJ).bf lH,rm aK,f1 ‹_›⟩;lk;exact(λtE=>@w1 (n+1) (S.w nT) e2 x _ (.val<|.ref 1) (.val<|.int 16) (.val<|.int 17) (.val<|cK.aW ⟨.tab dZ ez d0,e2⟩) (.val<|.int 3) (.val<|.lst []) (.val<|.bb<|hX.table<|.tab dZ ez d0) tE .un (λcI _ ar=>Q cI.val ar) g.ok p8 xq (.inl<|Kq g.ok ex) (g.room aq<|aG rfl) λt Bw r mC bk=>q t Bw ((g.trans mC).le<|aG rfl) bk) _
theorem Dc{a b:ā}(aw:0<b)(ak:a<=1000)(ml:b<=1000):Internal.bin .fdiv (au a) (au b)=some (au<|a/b):=by show(if(b:Ă)≠0/\(small a&&small b)=true then some (B.int<|Int.fdiv a b)else none)=_;rw[bl ⟨by lia,by rw[h2 ak,h2 ml];rfl⟩,<-Int.ofNat_fdiv]
theorem EL{a b:ā}(ak:a<=1000)(aw:b<=1000):Internal.bin .mul (au a) (au b)=some (au<|a*b):=by show(if(small a&&small b)=true then some (B.int<|(a:Ă)*b)else none)=_;rw[bl<|by rw[h2 ak,h2 aw];rfl];rfl
theorem bw.seq{n:ā}{c:dE}{l:HO dE}{r:aJ}{s:St}{Q:cj->aJ->St->Prop}(i:ā)(K:cq->St->Prop)(G:nx n c r s λf b2 ar=>f=.go/\∃v,b2=r.set i v/\K v ar)(E:∀v ar,K v ar->bw n l (r.set i v) ar Q):bw n (c::l) r s Q:=by exact nx.mono G λf b2 ar h=>by obtain⟨rfl,v,rfl,aD⟩:=h;exact E v ar aD
theorem bw.to{n:ā}{c:dE}{l:HO dE}{r:aJ}{s:St}{Q:cj->aJ->St->Prop}(b2:aJ)(ar:St)(G:∀K:cj->aJ->St->Prop,K .go b2 ar->nx n c r s K)(E:bw n l b2 ar Q):bw n (c::l) r s Q:=G _ E
theorem bw.yv{n:ā}{c:dE}{l:HO dE}{r:aJ}{s:St}{Q:cj->aJ->St->Prop}(i:ā)(fy:(cq->St->Prop)->Prop)(G:∀K:cq->St->Prop,fy K->nx n c r s λf b2 ar=>f=.go/\∃v,b2=r.set i v/\K v ar)(E:fy λv ar=>bw n l (r.set i v) ar Q):bw n (c::l) r s Q:=bw.seq i _ (G _ E) λ_ _ h=>h
theorem bw.SX{n:ā}{c:a2}{t l:HO dE}{r:aJ}{s:St}{Q:cj->aJ->St->Prop}(h:dg n c r s λv ar=>je v=some false/\ar=s)(k:bw n l r s Q):bw n (.iff c t []::l) r s Q:=gy (bc.m n) c _ _ _ _ (λv ar h=>by show bj (je v) _ _;rw[h.1,h.2];exact k) h
theorem bw.zL{n i:ā}{l:HO dE}{r:aJ}{s:St}{Q:cj->aJ->St->Prop}(k:bw n l (r.set i<|.od []) s Q):bw n (.own i (.bb [])::l) r s Q:=k
theorem kV.go{n:ā}{l:HO dE}{r:aJ}{s:St}{Q:cj->aJ->St->Prop}(k:bw n l r s Q):kV (bw n l) Q .go r s:=k
theorem bw.AF{n i:ā}{l:HO dE}{r:aJ}{s:St}{d:HO (B×B)}{Q:cj->aJ->St->Prop}(e:r[i]?=some (.od d))(k:bw n l (r.set i<|.val<|.bb d) s Q):bw n (.a5 i::l) r s Q:=by show rC r[i]? (kV (bw n l) Q .go r s) λv=>kV (bw n l) Q .go (r.set i<|.val v) s;rw[e];exact k
theorem bw.Tb{n i:ā}{e:a2}{aP:HO B}{l:HO dE}{r:aJ}{s:St}{Q:cj->aJ->St->Prop}(h:dg n e r s λv ar=>v=.lst aP/\ar=s)(k:bw n l (r.set i<|.ol aP) s Q):bw n (.own i e::l) r s Q:=gy (bc.m n) e _ _ _ _ (λv ar h=>by show sD v _;rw[h.1,h.2];exact k) h
structure bP where
 nm:bx
 K:List aM
 o:Nat
 aV:Nat
 w:Nat
 h:Nat
def bP.aW (m:bP):B:=.tup [.str m.nm,.lst<|m.K.map aM.aW,au m.o,au m.aV,au m.w,au m.h]
structure bP.ok(m:bP):Prop where
 nm:m.nm∈iK
 K:Drawn m.K
 o:m.o<2
 aV:m.aV<2
 w:m.w<3
 h:m.h<3
theorem VC(v:ā)(af:v<7):∃x∈iK,∀s,hn s (.lst<|iK.map ep) (au v)=some (.str x):=t5 af
theorem QD(x:bx)(l:HO bx):hN (.str x) (l.map ep)=some (decide<|x∈l):=by
 rcases Ab (x:=.str x) rfl (l:=l.map ep) (λa ak=>by obtain⟨y,_,rfl⟩:=dr.mp ak;clear ak;rfl)with⟨h,e⟩|⟨h,e⟩
 .rw[e,dL];obtain⟨y,a1,e⟩:=dr.mp h;clear h;cases e;exact a1
 .rw[e,eA λq=>h<|fw q]
def zq (dH:B) (l:HO B) (c1 dj cY cv:cq):aJ:=[.val<|.ref 0,.val<|.ref 1,.val<|.lst<|iK.map ep,.val dH,.ol l,c1,dj,cY,cv,.un,.un,.un,.un,.un,.un,.un,.un,.un,.un,.un,.un,.un,.un,.un,.un,.un,.un]
theorem xx(a b:ā):(a:Ă).fmod (b:ā)=((a%b:ā):Ă):=(Int.ofNat_fmod a b).symm
theorem K2{Q:cj->aJ->St->Prop}{dH:B}{c:ā}(c_:oF S.nums)(bg:S.d<=70000)(aq:c<=4)(q:∀(M:HO bP) d c1 dj cY cv,d<=S.d+24->(∀m∈M,m.ok)->(M.map (·.nm)).Nodup->M.length<=4->Q .go (zq dH (M.map bP.aW) c1 dj cY cv) (S.go d).st):cF (n+3) false [5] [.set 6<|.ao (.v 2)<|.bin .mod (.bin .add (.call 73 [.v 0,.k<|.int 7])<|.v 5)<|.k<|.int 7,.set 7<|.call 73 [.v 0,.k<|.int 60],.set 8<|.call 74 [.v 0],.iff (.cmp (.v 6) [(.fV,.comp (.ao (.v 23)<|.k<|.int 0) false [23] (.v 4) [])]) [.app 4<|.tup [.v 6,.v 8,.bin .mod (.v 7)<|.k<|.int 2,.bin .mod (.bin .fdiv (.v 7)<|.k<|.int 2)<|.k<|.int 2,.bin .mod (.bin .fdiv (.v 7)<|.k<|.int 4)<|.k<|.int 3,.ao (.lst [.k<|.int 0,.k<|.int 0,.k<|.int 0,.k<|.int 1,.k<|.int 2])<|.bin .fdiv (.v 7)<|.k<|.int 12]] []] ((List.range c).map au) (zq dH [] .un .un .un .un) S.st Q:=by
 have aj:(List.range c).length<=4:=aI (fT sQ) aq;refine cF.mp (all:=List.range c) (f:=au) rfl (λdone K=>∀(M:HO bP) d c1 dj cY cv,d<=S.d+6*done.length->(∀m∈M,m.ok)->(M.map (·.nm)).Nodup->M.length<=done.length->K (zq dH (M.map bP.aW) c1 dj cY cv) (S.go d).st) (λdone i a_ ag K ab M d c1 dj cY cv E eL kR vM=>?_) (λM d c1 dj cY cv E eL kR vM=>q M d c1 dj cY cv (aI E<|gr (hf 6 aj) _) eL kR<|aI vM aj) λK ab=>ab [] S.d _ _ _ _ (dy _) (λ_ h=>nomatch h) .nil<|dy _;have aB:=oD ag aj;have Bu:d<=70024:=aI E<|gI bg<|hf 6<|lg aB;rw[c']at ab;refine hB (S:=S.go d) c_ (aI Bu<|aG rfl) (by decide) λv af=>?_;obtain⟨x,aA,Om⟩:=VC ((v+i)%7)<|Nat.mod_lt _<|jF rfl;refine ay.of (a:=.str x) (by rw[show((v:Ă)+(i:Ă)).fmod 7=(((v+i)%7:ā):Ă)from xx (v+i) 7];exact Om _) ?_;refine hB (S:=S.go<|d+1) c_ (aI (fP Bu 1)<|aG rfl) (by decide) λfY Q_=>?_;have Kz:fY<=59:=Nat.le_of_lt_succ<|gV Q_;have Ay:=aI Kz (aG rfl:59<=1000);refine rh (S:=S.go<|d+1+1) c_ (aI (fP Bu 2)<|aG rfl) λeM m' _ ba wc=>?_;have wP:m'<=S.d+6*(done.length+1):=aI ba<|fP E 6;refine dg.comp rfl<|fk.mp (all:=M) (f:=bP.aW) rfl (λdone K=>K ((done.map (·.nm)).map ep) (S.go m').st) (λdone m a_ _ K ab=>eO.mk<|by rw[cZ,cZ]at ab;exact ab) ?_ λK ab=>ab;refine ay.of (show hC .fV _ (.str x) (.lst<|(M.map (·.nm)).map ep)=some (!decide (x∈M.map (·.nm)))from by show(hN _ _).map (!·)=_;rw[QD];rfl) ?_;by_cases jB:x∈M.map (·.nm)
 .exact bj.h4 (by rw[dL jB];rfl)<|ab M m' _ _ _ _ wP eL kR<|iF vM
 .refine bj.l3 (by rw[eA jB];rfl) ?_;obtain⟨h,cd,a6⟩:=t5 (f:=au) (l:=[0,0,0,1,2]) (v:=fY/12) (Nat.div_lt_of_lt_mul (Nat.lt_succ_of_le Kz));replace cd:h<3:=(by decide:∀c∈[0,0,0,1,2],c<3) h cd;have ab:=ab (M++[⟨x,eM,fY%2,fY/2%2,fY/4%3,h⟩]) m' (.val (au i)) (.val (.str x)) (.val (au fY)) (.val (.lst (eM.map aM.aW))) wP (λm aN=>(gd.mp aN).elim (eL m) λaN=>by
   rw[cX.mp aN];exact⟨aA,wc,Nat.mod_lt _ (jF rfl),Nat.mod_lt _ (jF rfl),Nat.mod_lt _ (jF rfl),cd⟩) (by
   rw[cZ,nc];refine⟨kR,hV.mpr ⟨λq=>(nomatch q),.nil⟩,λa ak b aw e=>jB ?_⟩;rw[<-show b=x from cX.mp aw,<-e];exact ak) (by rw[c'];exact dc vM)
  rw[cZ]at ab;lk;refine ay.of (Dc (a:=fY) (b:=2) (jF rfl) Ay<|aG rfl) ?_;lk;refine ay.of (Dc (a:=fY) (b:=4) (jF rfl) Ay<|aG rfl) ?_;lk;refine ay.of (Dc (a:=fY) (b:=12) (jF rfl) Ay<|aG rfl) ?_;refine ay.of (a6 _) ⟨by rw[bT];exact aI (dc vM)<|aI aB<|aG rfl,?_⟩;rw[show(fY:Ă).fmod 2=((fY%2:ā):Ă)from xx fY 2,show((fY/2:ā):Ă).fmod 2=((fY/2%2:ā):Ă)from xx (fY/2) 2,show((fY/4:ā):Ă).fmod 3=((fY/4%3:ā):Ă)from xx (fY/4) 3];exact ab
theorem WO(x y:bP)(h:x.nm≠y.nm):qe x.aW y.aW=some (ji x.nm y.nm):=by show(if(x.nm==y.nm)=true then none else some (ji x.nm y.nm))=_;rw[bm<|by simpa using h]
abbrev uI(a b:bP):Prop:=ot a.nm b.nm
theorem Ua(bK:HO bP)(h:(bK.map (·.nm)).Nodup):∃cQ:HO bP,iZ (bK.map bP.aW)=some (cQ.map bP.aW)/\cQ.Pairwise uI/\(∀p,p∈cQ↔p∈bK)/\cQ.length=bK.length:=by obtain⟨cQ,e,G,E⟩:=vu (f:=bP.aW) (b:=λx y=>ji x.nm y.nm) (R:=uI) WO (λ_ _ h=>h) (λ_ _ n h=>ER n h) (λ_ _ _ a b=>Ca a b)<|List.pairwise_map.mp h;exact⟨cQ,e,G,λ_=>E.mem_iff,E.length_eq⟩
theorem Yr{M:HO bP}(h:(M.map (·.nm)).Nodup)(aj:M.length<=4):∃cQ:HO bP,k2 .sorted [.lst<|M.map bP.aW]=some (.lst<|cQ.map bP.aW)/\cQ.Pairwise uI/\(∀p,p∈cQ↔p∈M)/\cQ.length=M.length:=by
 obtain⟨cQ,e,G,E,aC⟩:=Ua M h;refine⟨cQ,?_,G,E,aC⟩;show(if(M.map bP.aW).length<=4/\((M.map bP.aW).all λx=>(jy x).isSome)=true/\((M.map bP.aW).map jy).Nodup then(iZ<|M.map bP.aW).map B.lst else none)=_;rw[bl,e];rfl;refine⟨by rw[bT];exact aj,?_,?_⟩
 .rw[py,d'];intro x _;rfl
 .rw[f2];have:(jy∘bP.aW)=some∘(λm:bP=>m.nm):=rfl;rw[this,<-f2];exact List.Pairwise.map _ (λa b h e=>h<|cT e) h
def kl (m:bP):ā:=m.o*1+m.aV*2+(if m.w=0 then 0 else if m.w=1 then 4 else 96)+(if m.h=0 then 0 else if m.h=1 then 8 else 16)
abbrev hA:=Option<|HO aM×ā
def jE:hA->B
 |none=>.tup []
 |some (K,aV)=>.tup [.lst<|K.map aM.aW,au aV]
def hA.ok:hA->Prop
 |none=>True
 |some (K,aV)=>Drawn K/\aV<2
def wL(p:c8)(m:bP):Prop:=p.1=m.nm/\p.2.2.1=(kl m:Ă)/\p.2.2.2=(if 0<m.h then 1 else 0)
theorem XR{m:bP}{Q:B->St->Prop}{xA lb iv d6 eT c1 dj cY cv dF dG dQ dt:cq}{iT:HO cq}(aN:m.ok)(q:Q (au<|kl m) s):dg n (.bin .add (.bin .add (.bin .add (.bin .mul (.v 13)<|.k<|.int 1)<|.bin .mul (.v 14)<|.k<|.int 2)<|.ao (.lst [.k<|.int 0,.k<|.int 4,.bin .add (.k<|.int 32)<|.k<|.int 64])<|.v 15)<|.ao (.lst [.k<|.int 0,.k<|.int 8,.k<|.int 16])<|.v 16) (xA::lb::iv::d6::eT::c1::dj::cY::cv::dF::dG::dQ::dt::.val (au m.o)::.val (au m.aV)::.val (au m.w)::.val (au m.h)::iT) s Q:=by
 obtain⟨_,_,az,bn,bF,cd⟩:=aN;obtain⟨nm,K,o,aV,w,h⟩:=m;have ao:∀{a b c:Ă} {i:ā} (f:ā->Ă),f 0=a->f 1=b->f 2=c->i<3->∀s,hn s (.lst [.int a,.int b,.int c]) (au i)=some (.int<|f i):=by
  intro a b c i f pq ag a8 aB s;rcases Nw aB with e|e|e<;>rw[e]
  .rw[pq];rfl
  .rw[ag];rfl
  .rw[a8];rfl
 exact ay.of (EL (a:=o) (b:=1) (aI (j4 az)<|aG rfl)<|aG rfl)<|ay.of (EL (a:=aV) (b:=2) (aI (j4 bn)<|aG rfl)<|aG rfl)<|ay.of (ao (λw=>((if w=0 then 0 else if w=1 then 4 else 96:ā):Ă)) rfl rfl rfl bF _)<|ay.of (ao (λh=>((if h=0 then 0 else if h=1 then 8 else 16:ā):Ă)) rfl rfl rfl cd _) q
theorem Zp{cA cV:hA}{Q:B->St->Prop}{xA iv d6 eT c1 dj cY cv dF dG dQ dt dU dV dd gu fa nn Hd Ed IW Ia D5 Eb Gw DE:cq}{iT:HO cq}(T:Rows S.R)(aU:cA.ok)(G:cV.ok)(aq:S.R.length+20<=a3)(q:∀(a b:Z5 (ā×Ă)) aa,a9 S.R aa 20->a.map (·.2)=cA.map (λc=>(c.2:Ă))->b.map (·.2)=cV.map (λc=>(c.2:Ă))->Q (.lst [gv a,gv b]) (S.w aa).st):fk (.lst [jE cA,jE cV]) (xA::.val (.ref 1)::iv::d6::eT::c1::dj::cY::cv::dF::dG::dQ::dt::dU::dV::dd::gu::fa::nn::Hd::Ed::IW::Ia::D5::Eb::Gw::DE::iT) S.st (n+6) (.ite (.cmp (.v 26) [(.eq,.tup [])]) (.tup [])<|.tup [.call 75 [.v 1,.k<|.int<|-1,.ao (.v 26)<|.k<|.int 0],.ao (.v 26)<|.k<|.int 1]) false [26] [] Q:=by
 have one:∀(c:hA) (cn:dz) (bV:HO B->St->Prop),c.ok->Rows cn.R->cn.R.length+8<=a3->(∀(a:Z5 (ā×Ă)) aa,a9 cn.R aa 7->a.map (·.2)=c.map (λc=>(c.2:Ă))->bV [gv a] (cn.w aa).st)->eO (n+6) (.ite (.cmp (.v 26) [(.eq,.tup [])]) (.tup [])<|.tup [.call 75 [.v 1,.k<|.int<|-1,.ao (.v 26)<|.k<|.int 0],.ao (.v 26)<|.k<|.int 1]) false [26] [] (jE c) (xA::.val (.ref 1)::iv::d6::eT::c1::dj::cY::cv::dF::dG::dQ::dt::dU::dV::dd::gu::fa::nn::Hd::Ed::IW::Ia::D5::Eb::Gw::DE::iT) cn.st bV:=by
  intro c cn bV eN su g4 a';refine eO.mk ?_;lk;rcases c with _|⟨K,aV⟩
  .exact a' none cn.R (a9.refl su) rfl
  .exact yG eN.1 su g4 λt aa g ty=>a' (some (t,aV)) aa g rfl
 refine fk.un rfl<|one cA S _ aU T (aI (gr (aG rfl) _) aq) λa aa g e'=>one cV (S.w aa) _ G g.ok (g.room aq<|aG rfl) λb bu bh ei=>q a b bu ((g.trans bh).le<|aG rfl) e' ei
def lR (Vo a b qx hr ki:B):HO (ā×B):=[(10,Vo),(11,a),(12,b),(13,.tup []),(14,qx),(15,.tup []),(16,.int<|-1),(17,.int 0),(18,.bool false),(19,hr),(20,ki),(21,.int 0),(22,.int 0),(23,.str []),(24,.int 0)]
noncomputable abbrev dz.y (S:dz) (D:HO B) (X:HO c4):dz:={S with D:=D,X:=X}
inductive n9 (S:dz):Nat->Nat->Prop
 |obj {t:Nat} {l:List B}:S.R[t]?=some (.tup (.int 8::l))->n9 S t t
 |ref {t o i:Nat} {l:List B} {a:List (Nat×B)}:S.R[t]?=some (.tup [.int 9,.int 1,.tup []])->S.D[1]?=some (.ref (i+11))->S.X[i]?=some (.ins 1 a)->a.lookup 15=some (.tup [])->a.lookup 14=some (au o)->S.R[o]?=some (.tup (.int 8::l))->n9 S t o
theorem n9.cL{S:dz}{t o:ā}(h:n9 S t o):dW λ(cL:Ă) (l:HO B)=>S.R[t]?=some (.tup<|.int cL::l)/\(cL=8\/cL=9):=by
 induction h with
 |obj h=>exact⟨8,_,h,.inl rfl⟩
 |ref h=>exact⟨9,_,h,.inr rfl⟩
theorem Vi{s:St}{a b c:B}(q:Q .none (s++.ins 1 (lR a b c (.int<|-1) (.ref<|s.length+1)<|.ref<|s.length+2)::[.ls [],.ls []])):bc (n+1) 2 [.ref s.length,a,b,c] (s++[.ins 1 []]) Q:=by
 generalize b4:lR a b c (.int<|-1) (.ref<|s.length+1) (.ref<|s.length+2)=D at q;have aj:D.length=15:=by rw[<-b4];rfl
 have b6:∀(k:ā) (t:St) {key:ā} {v:B},putAt key v (D.take k)=D.take (k+1)->nW (s++.ins 1 (D.take k)::t) (.ref s.length) key v=some (s++.ins 1 (D.take<|k+1)::t):=λk t key v h=>by rw[uV<|aI (List.length_take_le' _ _)<|aI (fT aj)<|aG rfl,h]
 k_go;rw[show s++[c4.ins 1 []]=s++c4.ins 1 (D.take 0)::[]from rfl];refine ay.of (b6 0 []<|by rw[<-b4];rfl) ?_;refine ay.of (b6 1 []<|by rw[<-b4];rfl) ?_;refine ay.of (b6 2 []<|by rw[<-b4];rfl) ?_;refine ay.of (b6 3 []<|by rw[<-b4];rfl) ?_;refine ay.of (b6 4 []<|by rw[<-b4];rfl) ?_;refine ay.of (b6 5 []<|by rw[<-b4];rfl) ?_;refine ay.of (b6 6 []<|by rw[<-b4];rfl) ?_;refine ay.of (b6 7 []<|by rw[<-b4];rfl) ?_;refine ay.of (b6 8 []<|by rw[<-b4];rfl) ?_;lk;rw[(λa=>by simp:∀a:HO (ā×B),(s++c4.ins 1 a::[])++[.ls []]=s++c4.ins 1 a::[.ls []]),(λa=>by simp:∀a:HO (ā×B),(s++c4.ins 1 a::[]).length=s.length+1)];refine ay.of (b6 9 [.ls []]<|by rw[<-b4];rfl) ?_;lk;rw[(λa=>by simp:∀a:HO (ā×B),(s++c4.ins 1 a::[.ls []])++[.ls []]=s++c4.ins 1 a::[.ls [],.ls []]),(λa=>by simp:∀a:HO (ā×B),(s++c4.ins 1 a::[.ls []]).length=s.length+2)];refine ay.of (b6 10 [.ls [],.ls []]<|by rw[<-b4];rfl) ?_;refine ay.of (b6 11 [.ls [],.ls []]<|by rw[<-b4];rfl) ?_;refine ay.of (b6 12 [.ls [],.ls []]<|by rw[<-b4];rfl) ?_;refine ay.of (b6 13 [.ls [],.ls []]<|by rw[<-b4];rfl) ?_;refine ay.of (b6 14 [.ls [],.ls []]<|by rw[<-b4];rfl) ?_;rw[show D.take 15=D from s'<|by lia];exact q
theorem QW{a b:B}(b4:S.D=[.none])(q:Q (.ref<|S.X.length+11) (S.y [.none,.ref<|S.X.length+11]<|S.X++.ins 1 (lR (.int 1) a b (.int<|-1) (.ref<|S.X.length+12)<|.ref<|S.X.length+13)::[.ls [],.ls []]).st):bc (n+2) 13 [.ref 1,a,b] S.st Q:=by obtain⟨d,nums,R,D,X⟩:=S;obtain rfl:D=[.none]:=b4;k_go;exact Vi (s:=dz.st ⟨d,nums,R,[.none],X⟩)<|⟨rfl,⟨ih rfl,q⟩⟩
set_option tactic.hygienic true in
theorem MN{t o:ā}(T:Rows S.R)(h:n9 S t o)(q:Q (au o) S.st):bc (n+2) 28 [.ref 10,au t] S.st Q:=by
 k_go;induction h with
 |obj h=>exact Yl h q
 |ref G E aC ba cN d5=>
  rename_i i l a;have G0:∀k,nR S.st (.ref<|i+11) k=a.lookup k:=λk=>by exact xH aC
  have FM:hn S.st (.ref 4) (.int 1)=some (.ref<|i+11):=by show(jH 1 S.D.length).bind (λj=>S.D[j]?)=_;rw[show jH 1 S.D.length=some 1 from qr (g9.mp E).1];exact E
  k_go;refine⟨rfl,rfl,by decide,ay.of (kb 40) ?_⟩;rw[show List.range 40=0::1::(List.range 38).map (· +2)from by decide];show cF _ _ _ _ (au 0::au 1::((List.range 38).map (· +2)).map au) _ _ _;lk;refine ay.of FM<|ay.of ((G0 15).trans ba)<|ay.of FM<|ay.of ((G0 14).trans cN) ?_;lk;exact q
set_option tactic.hygienic true
theorem Ew{ai:HO c8}{eF:B}(b' bR:Z5 (ā×Ă)){e_:Ă}(h:eU 5 eF=true):ic (hW ai eF b' bR e_)=true:=by induction b'<;>induction bR<;>exact lm (yo λ_=>rfl)<|lm h rfl
def m2 (t fq:ā) (M:HO bP) (ai:HO c8) (cA cV:hA) (dH:ā):HO (B×B):=[(.str [115,111,114,116],.str [123]),(.str [116],au t),(.str [116,117,114,110,101,100],au fq),(.str [109,101,109,98,101,114,115],.lst<|M.map bP.aW),(.str [112,114,111,112,115],.lst<|ai.map fi),(.str [99,101,108,108,115],.lst [jE cA,jE cV]),(.str [119,97,121],au dH)]
structure qh(S:dz)(t o fq:Nat)(M:List bP)(ai:List c8)(cA cV:hA)(dH:Nat)(eF:B)(b' bR:Option (Nat×Int))(e_:Int):Prop where
 ok:∀m∈M,m.ok
 fx:M.Pairwise uI
 len:M.length<=4
 AJ:hA.ok cA
 fK:hA.ok cV
 dH:dH<3
 props:bX wL ai M
 src:n9 S t o
 row:S.R[o]?=some (hW ai eF b' bR e_)
 wV:S.R[fq]?=some (hW ai.reverse eF b' bR e_)
 pq:b'.map (·.2)=cA.map (λc=>(c.2:Int))
 ag:bR.map (·.2)=cV.map (λc=>(c.2:Int))
theorem bj.both{b:ZI}{p q:Prop}(G:p)(E:q):bj (je<|.bool b) p q:=by
 induction b
 .exact E
 .exact G
theorem K0:ic (.tup [.int 13,.tup [],.tup [],.int 3,.tup [],.int 0])=true:=rfl
theorem Qr{ah:jK}(cf:tC ah)(k:ā):∀(l:HO dE) (r:aJ) (s:St) (Q:cj->aJ->St->Prop),ke ah (l.take k) r s (kV (ke ah<|l.drop k) Q)->ke ah l r s Q:=by
 induction k with
 |zero=>exact λ_ _ _ _ h=>h
 |succ k ap=>
  intro l;induction l using List.casesOn with
  |nil=>exact λ_ _ _ h=>h
  |cons c l=>exact λr s Q h=>BJ cf c _ _ _ _ (λf r s h=>by
   induction f with
   |go=>exact ap l r s Q h
   |ret=>exact h) h
theorem bw.cut(k:ā){l:HO dE}{r:aJ}{Q:cj->aJ->St->Prop}(fy:(aJ->St->Prop)->Prop)(G:∀K:cj->aJ->St->Prop,fy (K .go)->bw n (l.take k) r s K)(E:fy λr s=>bw n (l.drop k) r s Q):bw n l r s Q:=Qr (bc.m n) k l r s Q<|G _ E
theorem pL.to{i:ā}{v:B}{l:HO dE}{r:aJ}{Q:cj->aJ->St->Prop}(h:bw n l (r.set i<|.val v) s Q):pL i r (kV (bw n l) Q) v s:=h
theorem Tz{t:B->St->(HO B->St->Prop)->Prop}{d:ā}(one:∀(i:Ă) e (K:HO B->St->Prop),e<=d+6->(∀(c:hA) bz,c.ok->bz<=e+5->K [jE c] (S.go bz).st)->t (.tup [.int i,.int 3]) (S.go e).st K)(q:∀(cA cV:hA) e,cA.ok->cV.ok->e<=d+11->Q (.lst [jE cA,jE cV]) (S.go e).st):kx t Q [.tup [.int 1,.int 3],.tup [.int 2,.int 3]] [] (S.go<|d+1).st:=one 1 (d+1) _ (gr (aG rfl) d) λcA e aU a6=>one 2 e _ a6 λcV bz G iu=>q cA cV bz aU G<|aI iu<|fP a6 5
def T3 (dH:ā) (wi:HO bP) (c1 dj cY cv:cq) (w:ā) (cI:HO B):aJ:=[.val<|.ref 0,.val<|.ref 1,.val<|.lst<|iK.map ep,.val<|au dH,.ol<|wi.map bP.aW,c1,dj,cY,cv,.val<|au w,.val<|.lst cI,.un,.un,.un,.un,.un,.un,.un,.un,.un,.un,.un,.un,.un,.un,.un,.un]
def zx (dH:ā) (M:HO bP) (c1 dj cY cv:cq) (w:ā) (cI:HO B) (cA cV:hA) (ai:HO c8) (dU dV dd gu fa:cq):aJ:=[.val<|.ref 0,.val<|.ref 1,.val<|.lst<|iK.map ep,.val<|au dH,.val<|.lst<|M.map bP.aW,c1,dj,cY,cv,.val<|au w,.val<|.lst cI,.val<|.lst [jE cA,jE cV],.ol<|ai.map fi,dU,dV,dd,gu,fa,.un,.un,.un,.un,.un,.un,.un,.un,.un]
theorem Rn(T:Rows S.R)(c_:oF S.nums)(bg:S.d<=60000)(b4:S.D=[.none])(aq:S.R.length+200<=a3)(q:∀cn t o fq M ai cA cV dH eF b' bR e_,qh cn t o fq M ai cA cV dH eF b' bR e_->a9 S.R cn.R 200->cn.nums=S.nums->Q (.bb<|m2 t fq M ai cA cV dH) cn.st):bc (n+9) 82 [.ref 0,.ref 1] S.st Q:=by
 k_go;lk;refine hB c_ (aI bg<|aG rfl) (by decide) λdH T7=>?_;have GO:dH<3:=gV T7;lk;refine hB (S:=S.go<|S.d+1) c_ (aI (dc bg)<|aG rfl) (by decide) λv af=>?_;obtain⟨c,vk,s9⟩:=t5 (f:=au) (l:=[2,0,1,3,4])<|gV af;replace vk:c<=4:=(by decide:∀c∈[2,0,1,3,4],c<=4) c vk;refine ay.of (s9 _) ⟨rfl,h2<|aI vk<|aG rfl,(by rw[tX,qN];exact aI vk<|aG rfl),ay.of (kb c) ?_⟩;refine K2 (S:=S.go<|S.d+1+1) (dH:=au dH) c_ (aI (fP bg 2)<|aG rfl) vk λwi d c1 dj cY cv wP zF kR dS=>?_;obtain⟨M,nP,sA,k7,tT⟩:=Yr kR dS;have tD:d<=60026:=aI wP<|fP bg 26;have t':M.length<=4:=aI (fT tT) dS;have Ba:∀m∈M,m.ok:=λm aN=>zF m<|(k7 m).mp aN;lk;refine hB (S:=S.go d) c_ (aI tD<|aG rfl) (by decide) λw bF=>dg.comp rfl<|fk.mp (f:=bP.aW) (all:=wi) rfl (λ_ K=>∀cg,K cg (S.go<|d+1).st) (λdone m a_ _ K ab cg=>?_) (λcI=>?_) λK ab=>ab []
 .refine eO.mk ?_;repeat'(lk;refine bj.both ?_ ?_)
  all_goals exact ab _
 refine pL.to<|bw.fY (λK=>∀w:ā,K (T3 dH wi c1 dj cY cv w cI) (S.go<|d+1).st) (λK ab=>?_) λw=>bw.rP (λK=>∀(cA cV:hA) e,cA.ok->cV.ok->e<=d+11->K (.lst [jE cA,jE cV]) (S.go e).st) (λK ab=>?_) λcA cV e aU G a6=>?_
 .repeat'(lk;refine bj.both ?_ ?_)
  all_goals lk
  all_goals first|exact ab 1|exact ab w
 .refine dg.oI (x:=.tup [.tup [.int 1,.int 3],.tup [.int 2,.int 3]]) rfl (λ_ h=>h)<|fk.un rfl<|Tz (λi e K a6 ab=>eO.mk ?_) ab;lk;refine bj.both ?_ ?_
  .lk;refine rh (S:=S.go e) c_ (aI a6<|aI (fP tD 6)<|aG rfl) λK bz aC ba wc=>?_;lk;refine hB (S:=S.go bz) c_ (aI ba<|aI (fP (aI a6<|fP tD 6) 4)<|aG rfl) (by decide) λaV nK=>?_;lk;exact ab (some (K,aV)) (bz+1) ⟨wc,gV nK⟩<|dc ba
  .lk;exact ab none e trivial<|nz _ 5
 refine ay.of (show pb .sorted _ [.lst<|wi.map bP.aW]=_ from nP)<|cF.mp (all:=M) (f:=bP.aW) rfl (λdone K=>∀aa ai dj cv dU dV dd gu fa,a9 S.R aa (7*done.length)->bX wL ai done->K (zx dH M c1 dj cY cv w cI cA cV ai dU dV dd gu fa) ((S.go e).w aa).st) (λdone m a_ ag K ab aa ai dj cv dU dV dd gu fa g al=>?_) (λaa ai dj cv dU dV dd gu fa g al=>?_) λK ab=>ab S.R [] _ _ _ _ _ _ _ (a9.refl T) .nil
 .have aN:m.ok:=Ba m (by rw[ag];exact iJ _<|.head _);have r':(ai.map fi).length+1<=a3:=by rw[bT,al.len];exact aI (oD ag t')<|aG rfl
  refine XR aN<|yG (S:=(S.go e).w aa) aN.K g.ok (g.room aq<|aI (dc<|tm 7 ag t')<|aG rfl) λt bu bh ty=>bj.en (λh=>?_) λh=>?_
  .lk;refine⟨r',?_⟩;have ab:=ab bu (ai++[(m.nm,t,(kl m:Ă),1)]) (.val<|.str m.nm) (.val<|.lst<|m.K.map aM.aW) (.val<|au m.o) (.val<|au m.aV) (.val<|au m.w) (.val<|au m.h) (.val<|au<|kl m) (g.step bh<|dy _)<|al.snoc ⟨rfl,rfl,by rw[bl<|by lia]⟩;unfold zx at ab;rw[cZ]at ab;lk;exact ab
  .lk;refine⟨r',?_⟩;have ab:=ab bu (ai++[(m.nm,t,(kl m:Ă),0)]) (.val<|.str m.nm) (.val<|.lst<|m.K.map aM.aW) (.val<|au m.o) (.val<|au m.aV) (.val<|au m.w) (.val<|au m.h) (.val<|au<|kl m) (g.step bh<|dy _)<|al.snoc ⟨rfl,rfl,by rw[bm<|by lia]⟩;unfold zx at ab;rw[cZ]at ab;lk;exact ab
 .have Jm:a9 S.R aa 28:=g.le<|hf 7 t';refine bw.rP (λK=>∀eF bu,eU 5 eF=true->a9 aa bu 1->K eF ((S.go e).w bu).st) (λK ab=>?_) λeF bu H6 bh=>?_
  .refine bj.en (λh=>?_) λh=>?_
   .exact fb (S:=(S.go e).w aa) g.ok K0 (Jm.room aq<|aG rfl) λt bu bh qI=>ab _ bu rfl bh
   .exact ab _ aa rfl<|a9.refl g.ok
  have bh:=Jm.trans bh;refine dg.comp rfl<|Zp (S:=(S.go e).w bu) bh.ok aU G (bh.room aq<|aG rfl) λa b d2 cJ e' ei=>?_;have cJ:=bh.trans cJ;lk;refine fb (S:=(S.go e).w d2) (row:=hW ai eF a b<|Int.fmod dH 2) cJ.ok (Ew a b H6) (cJ.room aq<|aG rfl) λo qX hJ BB=>?_;have hJ:=cJ.trans hJ;lk;rw[show(ai.map fi).reverse=ai.reverse.map fi from List.map_reverse.symm];refine fb (S:=(S.go e).w qX) (row:=hW ai.reverse eF a b<|Int.fmod dH 2) hJ.ok (Ew a b H6) (hJ.room aq<|aG rfl) λfq nT lH DX=>?_;have AE:=hJ.trans lH;have zd:=lH.at BB;lk;refine bj.en (λsJ=>?_) λsJ=>?_
  .lk;refine QW (S:=(S.go e).w nT) b4 ?_;lk;refine ay.of (a:=(((S.go e).w nT).y [.none,.ref<|S.X.length+11]<|S.X++.ins 1 (lR (.int 1) (.int 2) (.str [73]) (au o) (.ref<|S.X.length+12)<|.ref<|S.X.length+13)::[.ls [],.ls []]).st) ?_ ?_
   .have g:(((S.go e).w nT).y [.none,.ref<|S.X.length+11]<|S.X++.ins 1 (lR (.int 1) (.int 2) (.str [73]) (.int<|-1) (.ref<|S.X.length+12)<|.ref<|S.X.length+13)::[.ls [],.ls []]).st[S.X.length+11]?=some (.ins 1<|lR (.int 1) (.int 2) (.str [73]) (.int<|-1) (.ref<|S.X.length+12)<|.ref<|S.X.length+13):=by show(S.X++_::_)[S.X.length]?=_;exact t_
    show nW (((S.go e).w nT).y [.none,.ref<|S.X.length+11]<|S.X++.ins 1 (lR (.int 1) (.int 2) (.str [73]) (.int<|-1) (.ref<|S.X.length+12)<|.ref<|S.X.length+13)::[.ls [],.ls []]).st (.ref<|S.X.length+11) 14 (au o)=_;rw[yO g<|aG rfl];have E:(S.X++c4.ins 1 (lR (.int 1) (.int 2) (.str [73]) (.int<|-1) (.ref<|S.X.length+12)<|.ref<|S.X.length+13)::[c4.ls [],.ls []]).set S.X.length (.ins 1<|putAt 14 (au o)<|lR (.int 1) (.int 2) (.str [73]) (.int<|-1) (.ref<|S.X.length+12)<|.ref<|S.X.length+13)=S.X++.ins 1 (lR (.int 1) (.int 2) (.str [73]) (au o) (.ref<|S.X.length+12)<|.ref<|S.X.length+13)::[.ls [],.ls []]:=by rw[Aq];rfl
    rw[<-E];rfl
   lk;refine ay.of (a:=.int 1) ?_ ?_
   .show((S.X++.ins 1 (lR (.int 1) (.int 2) (.str [73]) (au o) (.ref<|S.X.length+12)<|.ref<|S.X.length+13)::[.ls [],.ls []])[S.X.length]?).bind _=_;rw[t_];rfl
   lk;refine fb (n:=n+7) (S:=((S.go e).w nT).y [.none,.ref<|S.X.length+11]<|S.X++.ins 1 (lR (.int 1) (.int 2) (.str [73]) (au o) (.ref<|S.X.length+12)<|.ref<|S.X.length+13)::[.ls [],.ls []]) lH.ok (row:=.tup [.int 9,.int 1,.tup []]) rfl (AE.room aq<|aG rfl) λt Bw mC qI=>?_;lk;refine q ((((S.go e).w nT).y [.none,.ref<|S.X.length+11]<|S.X++.ins 1 (lR (.int 1) (.int 2) (.str [73]) (au o) (.ref<|S.X.length+12)<|.ref<|S.X.length+13)::[.ls [],.ls []]).w Bw) t o fq M ai cA cV dH eF a b (Int.fmod dH 2) ⟨Ba,sA,t',aU,G,GO,al,.ref (i:=S.X.length) qI rfl t_ rfl rfl<|mC.at zd,mC.at zd,mC.at DX,e',ei⟩ ((AE.trans mC).le<|aG rfl) rfl
  .lk;exact q ((S.go e).w nT) o o fq M ai cA cV dH eF a b (Int.fmod dH 2) ⟨Ba,sA,t',aU,G,GO,al,.obj zd,zd,DX,e',ei⟩ (AE.le<|aG rfl) rfl
set_option tactic.hygienic false
theorem X3(N:ā)(a:HO Ă):∀b:HO Ă,jY (g0 N) (a.map .int) (b.map .int)=some (decide<|a=b):=by
 induction a with
 |nil=>intro b;induction b using List.casesOn<;>rfl
 |cons x a ap=>
  intro b;induction b using List.casesOn with
  |nil=>rfl
  |cons y b=>show((g0 N (.int x)<|.int y).bind λz=>(jY (g0 N) (a.map .int)<|b.map .int).map λw=>z&&w)=_;rw[ap b,show g0 N (.int x) (.int y)=some (decide<|x=y)by induction N<;>rfl];show some (decide (x=y)&&decide (a=b))=_;rw[<-Bool.decide_and];exact bI some<|vl.mpr ⟨λh=>by rw[h.1,h.2],λh=>tJ h⟩
theorem Nu{s:St}(a b:HO Ă):hC .eq s (.lst<|a.map .int) (.lst<|b.map .int)=some (decide<|a=b):=X3 15 a b
abbrev hp:=List<|HO aM×Ă
def ql (es:hp):HO B:=es.map λe=>.tup [.lst<|e.1.map aM.aW,.int e.2]
def kt (t:ā) (es:hp) (aV:ā):HO (B×B):=[(.str [115,111,114,116],.str [91]),(.str [116],au t),(.str [101,108,101,109,115],.lst<|ql es),(.str [114,111],au aV),(.str [111,112,101,110],.bool<|decide<|es.map (·.2)=[2])]
structure rr(R:List B)(t:Nat)(es:hp)(aV:Nat):Prop where
 uX:∀e∈es,Drawn e.1
 pat:es.map (·.2)∈hk
 nK:aV<2
 arr:es.map (·.2)=[2]->∃e,R[t]?=some (hH e aV)
 tup:es.map (·.2)≠[2]->∃ci,ci.map (·.2)=es.map (·.2)/\R[t]?=some (.tup [.int 12,.tup<|df ci,.int aV])
theorem rr.bf{R aa:HO B}{t aV c:ā}{es:hp}(h:rr R t es aV)(g:a9 R aa c):rr aa t es aV:=⟨h.uX,h.pat,h.nK,λe=>(h.arr e).imp λ_ x=>g.at x,λe=>(h.tup e).imp λ_ x=>⟨x.1,g.at x.2⟩⟩
theorem ue:∀ax∈hk,ax.length<=5:=by decide
def Sa (aV:ā) (ax:HO Ă) (d6 c1:cq):aJ:=[.val<|.ref 0,.val<|.ref 1,.val<|au aV,d6,.val<|.lst<|ax.map .int,c1,.un,.un,.un,.un]
theorem Yb(T:Rows S.R)(c_:oF S.nums)(bg:S.d<=60000)(aq:S.R.length+200<=a3)(q:∀t es aV aa d,rr aa t es aV->a9 S.R aa 200->Q (.bb<|kt t es aV) ((S.go d).w aa).st):bc (n+9) 83 [.ref 0,.ref 1] S.st Q:=by
 have aN:∀(x:Ă) {j:ā},j<3->Internal.bin .mul (.lst [.int x]) (au j)=some (.lst<|(List.replicate j x).map .int):=λx j h=>by rw[List.map_replicate];exact AO (aI (j4 h)<|aG rfl) _
 have ak:∀{a b:HO Ă} {c d:ā},a.length=c->b.length=d->c+d<10->Internal.bin .add (.lst<|a.map .int) (.lst<|b.map .int)=some (.lst<|(a++b).map .int):=by rintro a b _ _ rfl rfl h;rw[cZ];exact lQ (by rw[bT,bT];exact aI (j4 h)<|aG rfl)
 have bn:∀(x:Ă) {j:ā},(List.replicate j x).length=j:=λ_ _=>u4;have uX:∀{k:ā},k<=1000->S.d+k<=90000:=λh=>aI (gI bg h)<|aG rfl;have sR:∀{k:ā},k<=1000->S.d+k<=100000:=λh=>aI (uX h)<|aG rfl;k_go;refine hB (m:=2) c_ (sR (aG rfl:0<=1000)) (by decide) λaV nK=>hB (S:=S.go<|S.d+1) c_ (sR<|aG rfl) (by decide) λZY zz=>hB (S:=S.go<|S.d+1+1) c_ (sR (aG rfl:2<=1000)) (by decide) λi aB=>?_;replace aB:i<3:=gV aB;refine ay.of (aN 0 aB)<|pL.to<|bw.cut 4 (λK=>∀ax∈hk,∀d6 e,e<=S.d+4->K (Sa aV ax d6 .un) (S.go e).st) (λK ab=>?_) λax mA d6 e oH=>?_
 .rcases wQ (gV zz)with e|e|e|e<;>subst e
  .exact hB (S:=S.go<|S.d+3) c_ (sR<|aG rfl) (by decide) λj b_=>ay.of (aN 1<|gV b_)<|ay.of (ak (bn _) (bn _)<|rb (Nat.add_lt_add aB<|gV b_)<|by decide)<|ab _ ((by decide:∀i,i<3->∀j,j<3->List.replicate i 0++List.replicate j 1∈hk) i aB j<|gV b_) _ (S.d+3+1)<|dy _
  .exact hB (S:=S.go<|S.d+3) c_ (sR<|aG rfl) (by decide) λj b_=>ay.of (aN 1<|gV b_)<|ay.of (ak (bn _) (bn _)<|rb (Nat.add_lt_add aB<|gV b_)<|by decide)<|ay.of (ak (b:=[2]) (c'.trans<|congr (bI _<|bn _)<|bn _) rfl<|rb (vh<|Nat.add_lt_add aB<|gV b_)<|by decide)<|ab _ ((by decide:∀i,i<3->∀j,j<3->List.replicate i 0++List.replicate j 1++[2]∈hk) i aB j<|gV b_) _ (S.d+3+1)<|dy _
  .exact ay.of (ak (b:=[2]) (bn _) rfl<|rb (vh aB)<|by decide)<|hB (S:=S.go<|S.d+3) c_ (sR<|aG rfl) (by decide) λj b_=>ay.of (aN 0 (j:=1+j)<|Nat.add_lt_add_left (gV b_) 1)<|ay.of (ak (c'.trans<|bI (· +1)<|bn _) (bn _)<|rb (Nat.add_lt_add (vh aB)<|Nat.add_lt_add_left (gV b_) 1)<|by decide)<|ab _ ((by decide:∀i,i<3->∀j,j<2->List.replicate i 0++[2]++List.replicate (1+j) 0∈hk) i aB j<|gV b_) _ (S.d+3+1)<|dy _
  .exact ab [2] (fj rfl) _ (S.d+3)<|j1 _
 have mR:=ue ax mA;refine dg.comp rfl<|fk.mp (f:=B.int) (all:=ax) rfl (λdone K=>∀(es:hp) (bz:ā),es.map (·.2)=done->(∀x∈es,Drawn x.1)->bz<=e+4*done.length->K (ql es) (S.go bz).st) (λdone m a_ ag K ab es bz c0 tO E=>?_) (λes bz on tO E=>?_) λK ab=>ab [] e rfl (λ_ h=>nomatch h)<|dy _
 .have tT:bz<=S.d+24:=aI E<|aI (gI oH<|aI (nz _ 4)<|tm 4 ag mR)<|dy _;refine eO.mk ?_;lk;refine rh (S:=S.go bz) c_ (aI tT<|uX<|aG rfl) λTC V6 aC ba wc=>?_;have ab:=ab (es++[(TC,m)]) V6 (by rw[cZ,c0];rfl) (λx aA=>(gd.mp aA).elim (tO x) λh=>by rw[cX.mp h];exact wc) (by rw[c'];exact aI ba<|fP E 4);unfold ql at ab;rw[cZ]at ab;lk;exact ab
 have iW:es.length<=5:=by rw[<-bT (f:=λx:HO aM×Ă=>x.2),on];exact mR
 subst on;have G7:∀s,hC .eq s (.lst<|(es.map (·.2)).map .int) (.lst [.int 2])=some (decide<|es.map (·.2)=[2]):=λs=>Nu _ [2];refine ay.of (G7 _)<|bj.en (λaz=>?_) λaz=>?_
 .obtain⟨K,rfl⟩:∃K,es=[(K,2)]:=by
   induction es using List.casesOn with
   |nil=>exact nomatch az
   |cons x es=>induction es using List.casesOn with
    |nil=>obtain⟨K,m⟩:=x;obtain rfl:m=2:=(tJ az).1;exact⟨K,rfl⟩
    |cons=>exact nomatch (tJ az).2
  exact yG (S:=S.go bz) (K:=K) (tO _<|.head _) T (aI (gr (aG rfl) _) aq) λt aa g ty=>fb (S:=(S.go bz).w aa) g.ok rfl (g.room aq<|aG rfl) λu bu bh iN=>q u [(K,2)] aV bu bz ⟨tO,mA,gV nK,λ_=>⟨t,iN⟩,λh=>absurd az h⟩<|(g.trans bh).le<|aG rfl
 .refine dg.comp rfl<|fk.mp (f:=λe:HO aM×Ă=>.tup [.lst<|e.1.map aM.aW,.int e.2]) (all:=es) rfl (λdone K=>∀(ci:HO (ā×Ă)) aa,ci.map (·.2)=done.map (·.2)->a9 S.R aa (7*done.length)->K (df ci) ((S.go bz).w aa).st) (λdone m a_ ag K ab ci aa c0 g=>?_) (λci aa c0 g=>?_) λK ab=>ab [] S.R rfl<|a9.refl T
  .refine eO.mk ?_;lk;refine yG (S:=(S.go bz).w aa) (tO m<|by rw[ag];exact iJ _<|.head _) g.ok (g.room aq<|aI (dc<|tm 7 ag iW)<|aG rfl) λt bu bh ty=>?_;have ab:=ab (ci++[(t,m.2)]) bu (by rw[cZ,cZ,c0];rfl)<|g.step bh<|dy _;rw[<-tc]at ab;lk;exact ab
  .have g:=g.le<|hf 7 iW;exact fb (S:=(S.go bz).w aa) g.ok (CQ _ _) (g.room aq<|aG rfl) λu bu bh iN=>ay.of (G7 _)<|q u es aV bu bz ⟨tO,mA,gV nK,λh=>absurd h az,λ_=>⟨ci,c0,iN⟩⟩<|(g.trans bh).le<|aG rfl
noncomputable abbrev x3:B:=.tup [.int 13,.tup [],.tup [],.int 3,.tup [],.int 0]
inductive lv (R:List B):Nat->Prop
 |s:lv R 6
 |v:lv R 3
 |n:lv R 5
 |b:lv R 12
 |t {t:Nat}:R[t]?=some (.tup [.int 3,.str [97],.int 0])->lv R t
 |m {t:Nat}:R[t]?=some (.tup [.int 4,.int 3,.int 1])->lv R t
 |x {t:Nat}:R[t]?=some (.tup [.int 18,.tup [.str [120],.str []],.tup [.int 7]])->lv R t
 |e {t:Nat}:R[t]?=some (.tup [.int 5,.int 1,.str [65],.int 0,.int 0])->lv R t
 |i {t o:Nat}:R[t]?=some (.tup [.int 7,.tup [.int 6,au o]])->lv R t
def tt(R:HO B)(t:ā)(st:ZI):Prop:=(st=true/\lv R t)\/(st=false/\(t=10\/t=1\/R[t]?=some x3))
theorem tt.bf{R aa:HO B}{t c:ā}{st:ZI}(h:tt R t st)(g:a9 R aa c):tt aa t st:=by
 rcases h with⟨e,h⟩|⟨e,h|h|h⟩
 .refine .inl ⟨e,?_⟩;induction h with
  |s=>exact .s
  |v=>exact .v
  |n=>exact .n
  |b=>exact .b
  |t h=>exact .t<|g.at h
  |m h=>exact .m<|g.at h
  |x h=>exact .x<|g.at h
  |e h=>exact .e<|g.at h
  |i h=>exact .i<|g.at h
 .exact .inr ⟨e,.inl h⟩
 .exact .inr ⟨e,.inr<|.inl h⟩
 .exact .inr ⟨e,.inr<|.inr<|g.at h⟩
def wF (t:ā) (st:ZI):HO (B×B):=[(.str [115,111,114,116],.str [112]),(.str [116],au t),(.str [115,116,97,121,115],.bool st)]
theorem KN{t:ā}(T:Rows S.R)(h:lv S.R t)(q:Q (.bool true) S.st):bc (n+6) 58 [.ref 1,au t] S.st Q:=by
 have aC:=T.at (t:=3) rfl;have cN:=T.at (t:=5) rfl;have d5:=T.at (t:=6) rfl;have qk:=T.at (t:=8) rfl;have er:=T.at (t:=9) rfl;have m4:=T.at (t:=12) rfl;k_go;k_go;induction h with
 |s=>lk;exact q
 |v=>lk;exact q
 |n=>lk;exact q
 |b=>lk;k_go;k_go;lk;refine dg.comp rfl<|fk.un (bO:=[.int 8,.int 9]) rfl<|eO.mk ?_;k_go;lk;k_go;lk;exact q
 |t h=>lk;k_go;exact q
 |m h=>lk;k_go;exact q
 |x h=>lk;k_go;exact q
 |e h=>lk;k_go;exact q
 |i h=>lk;k_go;lk;k_go;lk;exact q
theorem Tl{t d4:ā}{cG nm Y aH:Ă}(T:Rows S.R)(h:lv S.R t)(q:Q (au t) S.st):bc (n+7) 59 [.ref 10,f0 cG nm d4 Y aH,au t] S.st Q:=by
 have rx:∃v,S.R[t]?=some v:=by
  induction h with
  |s=>exact⟨_,T.at rfl⟩
  |v=>exact⟨_,T.at rfl⟩
  |n=>exact⟨_,T.at rfl⟩
  |b=>exact⟨_,T.at rfl⟩
  |t h=>exact⟨_,h⟩
  |m h=>exact⟨_,h⟩
  |x h=>exact⟨_,h⟩
  |e h=>exact⟨_,h⟩
  |i h=>exact⟨_,h⟩
 obtain⟨v,af⟩:=rx;k_go;lk;exact KN T h q
theorem VY(T:Rows S.R)(c_:oF S.nums)(bg:S.d<=60000)(aq:S.R.length+20<=a3)(q:∀t st aa d,tt aa t st->a9 S.R aa 20->Q (.bb<|wF t st) ((S.go d).w aa).st):bc (n+4) 84 [.ref 0,.ref 1] S.st Q:=by
 k_go;refine hB c_ (aI bg<|aG rfl) (by decide) λv af=>fb (S:=S.go<|S.d+1) T rfl (aI (gr (aG rfl) _) aq) λfY gp c3 es=>?_;replace c3:a9 S.R gp 1:=c3;refine bj.en (λd5=>?_) λd5=>?_
 .refine fb (S:=(S.go<|S.d+1).w gp) c3.ok rfl (c3.room aq<|aG rfl) λOC bu bh c9=>?_;replace bh:=c3.trans bh;refine fb (S:=((S.go<|S.d+1).w gp).w bu) bh.ok rfl (bh.room aq<|aG rfl) λMU d2 cJ m7=>?_;have fin:∀t,lv d2 t->Q (.bb<|wF t true) ((S.go<|S.d+1).w d2).st:=λt dX=>q t true d2 (S.d+1) (.inl ⟨rfl,dX⟩)<|(bh.trans cJ).le<|aG rfl;clear q;rcases(by decide:∀v<6,v=0\/v=1\/v=2\/v=3\/v=4\/v=5) v (gV d5)with er|er|er|er|er|er<;>rw[er]
  .exact fin 6 .s
  .exact fin 3 .v
  .exact fin 5 .n
  .exact fin 12 .b
  .exact fin OC<|.t<|cJ.at c9
  .exact fin MU<|.m m7
 .rcases(by decide:∀v<11,¬v<6->v=6\/v=7\/v=8\/v=9\/v=10) v (gV af) (λh=>d5<|ix.mpr h)with er|er|er|er|er<;>rw[er]<;>clear er d5 af
  .exact fb (S:=(S.go<|S.d+1).w gp) c3.ok rfl (c3.room aq<|aG rfl) λt bu bh e=>q t true bu (S.d+1) (.inl ⟨rfl,.x e⟩)<|(c3.trans bh).le<|aG rfl
  .exact fb (S:=(S.go<|S.d+1).w gp) c3.ok rfl (c3.room aq<|aG rfl) λt bu bh e=>q t true bu (S.d+1) (.inl ⟨rfl,.e e⟩)<|(c3.trans bh).le<|aG rfl
  .exact fb (S:=(S.go<|S.d+1).w gp) c3.ok rfl (c3.room aq<|aG rfl) λo bu bh e=>fb (S:=((S.go<|S.d+1).w gp).w bu) bh.ok (row:=.tup [.int 7,.tup [.int 6,au o]]) rfl ((c3.trans bh).room aq<|aG rfl) λt d2 cJ c0=>q t true d2 (S.d+1) (.inl ⟨rfl,.i c0⟩)<|((c3.trans bh).trans cJ).le<|aG rfl
  .refine hB (S:=(S.go<|S.d+1).w gp) c_ (aI (dc bg)<|aG rfl) (by decide) λw bF=>?_;rcases sk (gV bF)with er|er<;>rw[er]
   .exact q 10 false gp (S.d+2) (.inr ⟨rfl,.inl rfl⟩)<|c3.le<|aG rfl
   .exact q fY false gp (S.d+2) (.inr ⟨rfl,.inr<|.inr es⟩)<|c3.le<|aG rfl
  .exact q 1 false gp (S.d+1) (.inr ⟨rfl,.inr<|.inl rfl⟩)<|c3.le<|aG rfl
theorem Xx{t:ā}(T:Rows S.R)(h:t=10\/t=1\/S.R[t]?=some x3)(aq:S.R.length+1<=a3)(q:∀o aa eF,a9 S.R aa 1->aa[o]?=some (hW [] eF none none 0)->Q (au o) (S.w aa).st):bc (n+4) 28 [.ref 10,au t] S.st Q:=by
 k_go;rcases h with rfl|rfl|h
 .exact Bb (T.at (t:=10) rfl)<|q 11 S.R _ (a9.refl T)<|T.at rfl
 .exact Bb (T.at (t:=1) rfl)<|q 11 S.R _ (a9.refl T)<|T.at rfl
 .k_go;refine⟨rfl,rfl,by decide,ay.of (kb 40) ?_⟩;rw[show List.range 40=0::(List.range 39).map (· +1)from by decide];show cF _ _ _ _ (au 0::((List.range 39).map (· +1)).map au) _ _ _;lk;k_go;exact fb T rfl aq λo aa g e=>q o aa _ g e
theorem Io{t:ā}(T:Rows S.R)(h:t=10\/t=1\/S.R[t]?=some x3)(q:Q (.bool false) S.st):bc (n+4) 58 [.ref 1,au t] S.st Q:=by
 have G:=T.at (t:=1) rfl;have si:=T.at (t:=10) rfl;rcases h with rfl|rfl|h
 .k_go;k_go;lk;exact q
 .k_go;k_go;lk;exact q
 .exact wd h (.inr<|.inr<|.inr<|.inr rfl) q
theorem Um{t:ā}{d4:ā}{F:bv->HO aF}{cG nm Y aH:Ă}(T:Rows S.R)(jn:f9 S.R d4 F)(az:Y=0\/Y=1\/Y=2)(dh:aH=0\/aH=1\/aH=2)(AM:nm= -1\/nm=17)(h:t=10\/t=1\/S.R[t]?=some x3)(aq:S.R.length+500<=a3)(q:∀aa ef,a9 S.R aa 500->Q (.int 11) ((S.w aa).x ef).st):bc (n+21) 59 [.ref 10,f0 cG nm d4 Y aH,au t] S.st Q:=by
 have a_:∀d6,bw (n+20) [.set 4<|.comp (.v 5) false [5] (.call 54 [.v 0,.v 2]) [.not (.call 61 [.v 0,.v 5])],.ret<|.call 53 [.v 0,.v 1,.v 4,.k<|.bool false]] [.val<|.ref 10,.val<|f0 cG (-1) d4 Y aH,.val<|au t,d6,.un,.un] S.st (λcI _ ar=>Q cI.val ar):=by
  intro d6;refine dg.ny rfl ?_;k_go;refine Xx T h (aI (gr (aG rfl) _) aq) λo aa eF g e=>ay.of (pO e) ?_;lk;refine cF.nil ?_;lk;refine HZ (S:=S.w aa) (ax:=[]) (ai:=[]) (b':=none) (bR:=none) g.ok (jn.bf g) az dh .nil .nil (λ_ h=>nomatch h) .nil (aG rfl) (g.room aq<|aG rfl) λu ce dv du bu ZL bh to=>?_;have a':ce=[]:=by
   induction ce using List.casesOn with
   |nil=>rfl
   |cons p r=>obtain⟨m,aN,_⟩:=(to.to p<|.head _).2;exact nomatch aN
  have a4:u=11:=by have:=to.row;rw[to.six,to.r6,a']at this;exact bh.ok.inj this<|bh.ok.at rfl
  subst a4;exact q bu _<|(g.trans bh).le<|aG rfl
 obtain⟨cL,l,aK,fK,gz⟩:dW λ(cL:Ă) (l:HO B)=>dD (S.R[t]?=some (.tup<|.int cL::l)) (cL≠11) (cL≠12):=by
  rcases h with e|e|e
  .exact⟨_,_,by rw[e];exact T.at rfl,by decide,by decide⟩
  .exact⟨_,_,by rw[e];exact T.at rfl,by decide,by decide⟩
  .exact⟨_,_,e,by decide,by decide⟩
 rcases AM with er|er<;>rw[er]
 .k_go;lk;exact Io T h<|bj.fm fK<|bj.fm gz<|a_ _
 .k_go;lk;exact Io T h<|q S.R S.X<|a9.refl T
theorem N2:∀o<2,∀aV<2,∀w<3,∀h<3,rq ((o*1+aV*2+(if w=0 then 0 else if w=1 then 4 else 96)+(if h=0 then 0 else if h=1 then 8 else 16):ā):Ă)=decide (o=1)/\sB ((o*1+aV*2+(if w=0 then 0 else if w=1 then 4 else 96)+(if h=0 then 0 else if h=1 then 8 else 16):ā):Ă)=(aV:Ă)/\ob ((o*1+aV*2+(if w=0 then 0 else if w=1 then 4 else 96)+(if h=0 then 0 else if h=1 then 8 else 16):ā):Ă)=decide (h=0):=by decide+kernel
theorem Cs(m:bP)(h:m.ok):rq (kl m)=decide (m.o=1)/\sB (kl m)=(m.aV:Ă)/\ob (kl m)=decide (m.h=0):=N2 m.o h.o m.aV h.aV m.w h.w m.h h.h
def l5 (m:bP):ZI:=decide (m.h=0)&& !ij m.nm
def iV (M:HO bP):HO Tm:=(M.filter l5).map λm=>(m.nm,(kl m:Ă))
theorem Oj{av b8 dC:Type}{P:av->b8->Prop}{p:av->ZI}{q:b8->ZI}{f:av->dC}{g:b8->dC}{l:HO av}{m:HO b8}(x:bX P l m):(∀a b,P a b->b∈m->p a=q b/\f a=g b)->(l.filter p).map f=(m.filter q).map g:=by
 induction x with
 |nil=>exact λ_=>rfl
 |@cons a b l m x y ap=>
  intro h;obtain⟨G,E⟩:=h _ _ x<|.head _;replace ap:=ap λa b x aw=>h a b x<|.tail _ aw;rw[hM,hM,G];clear G;cases q _ with
  |true=>exact congr (bI List.cons E) ap
  |false=>exact ap
theorem W1{ai:HO c8}{M:HO bP}(x:bX wL ai M)(h:∀m∈M,m.ok):rt ai=iV M:=by
 unfold rt iV;rw[List.filter_filter];refine Oj x λp m x aN=>⟨?_,?_⟩
 .rw[x.1,x.2.1,(Cs m<|h m aN).2.2,Bool.and_comm];rfl
 .unfold yX;rw[x.1,x.2.1]
theorem Xr(ai:HO c8)(m:Tm):m∈rt ai.reverse↔m∈rt ai:=by unfold rt;simp only[dr,gx,List.mem_reverse]
def be (c:hA):Z5 (ā×Ă):=c.map λc=>(0,(c.2:Ă))
theorem G_(c:hA):(be c).map (·.2)=c.map (λc=>(c.2:Ă)):=by rcases c with _|c<;>rfl
theorem C_(a b:bx):decide (a=b)=decide (b=a):=vl.mpr eq_comm
theorem Dw(x:bx):(!(decide ([108,101,110,103,116,104]=x)||(decide ([48]=x)||(decide ([49,50]=x)||false))))= !ij x:=by unfold ij xr;rw[C_ _ x,C_ _ x,C_ _ x,Bool.or_false]
theorem cK.fits{p:cK}(h:p.ok)(k:bv):∀a∈p.at k,a.fits:=by
 intro a ak;unfold cK.at gC at ak;rcases gd.mp ak with ak|ak
 .split at ak
  .rw[cX]at ak;subst ak;exact(h.len k)
  .obtain⟨b,_,rfl⟩:=dr.mp ak;clear ak;trivial
 .split at ak
  .rw[cX]at ak;subst ak;trivial
  .cases ak
theorem cK.rM{p:cK}(h:p.ok)(k:bv):(p.at k).length<=13:=by
 have aj:=h.len k;unfold cK.at gC;rw[c'];have e1:(if p.e2%2=1 then [aF.arr<|p.ik.at k]else(p.ik.at k).map .b).length<=12:=by
  split
  .simp
  .rw[bT];exact aj
 have fO:(if 1<p.e2 then [aF.b aM.bB]else []).length<=1:=by split<;>simp
 exact gI e1 fO
theorem u9{Y:Ă}{fN:ZI}{K:HO aF}:∀a∈fD Y fN K,a∈K:=by
 intro a ak;have bn:∀a∈a_ K,a∈K:=λa h=>(gx.mp h).1;unfold fD at ak;split at ak
 .split at ak
  .exact ak
  .exact bn a ak
 .split at ak
  .exact bn a ak
  .exact ak
def v5(R:HO B)(F:bv->HO aF)(Y aH:Ă)(a:c8)(b:Tm):Prop:=a.2.2.2=0/\pX R F Y aH (a.1,a.2.1,a.2.2.1) b
theorem v5.bf{R aa:HO B}{F:bv->HO aF}{Y aH:Ă}{c:ā}{l:HO c8}{m:HO Tm}(h:bX (v5 R F Y aH) l m)(g:a9 R aa c):bX (v5 aa F Y aH) l m:=h.imp λ_ _ h=>⟨h.1,h.2.bf g⟩
theorem bX.pair{av b8:Type}{P:av->b8->Prop}{l:HO av}{a b:b8}(h:bX P l [a,b]):dW λx y=>dD (l=[x,y]) (P x a) (P y b):=by obtain⟨_,_,rfl,p,t⟩:=h.un;obtain⟨_,l,rfl,q,jD⟩:=t.un;obtain rfl:l=[]:=jD.of;exact⟨_,_,rfl,p,q⟩
theorem R_{M:HO bP}{m:bP}:iV (M++[m])=iV M++if l5 m=true then [(m.nm,(kl m:Ă))]else []:=by unfold iV;rw[mv,cZ,hM];split<;>rfl
theorem zX{aH:Ă}(dh:aH=0\/aH=1\/aH=2)(m:Ă)(s:St):hn s (.lst [.int m,.int 1,.int 0]) (.int aH)=some (.int<|gR aH m):=by rcases dh with er|er|er<;>rw[er]<;>rfl
theorem EG{Y:Ă}{K:HO aF}(h:K.length<=13):(jz Y K).length<=14:=by
 unfold jz;split
 .rw[c'];exact dc h
 .exact iF h
theorem FX{Y:Ă}{K:HO aF}(h:∀a∈K,a.fits):∀a∈jz Y K,a.fits:=λa ak=>by
 unfold jz at ak;split at ak
 .rcases gd.mp ak with ak|ak
  .exact h a ak
  .rw[cX]at ak;subst ak;trivial
 .exact h a ak
def tU (p:cK) (Y aH:Ă) (D:B) (l cv dF dG dQ dt dU dV dd gu fa nn:cq):aJ:=[.val<|.ref 1,.val<|.int 16,.val p.aW,.val<|.tup [.int Y,.int aH],.val D,.val<|.int Y,.val<|.int aH,l,cv,dF,dG,dQ,dt,dU,dV,dd,gu,fa,nn]
theorem Yn{p:cK}{Y aH:Ă}{t fq dH:ā}{M:HO bP}{ai:HO c8}{cA cV:hA}(T:Rows S.R)(ae:p.ok)(az:Y=0\/Y=1\/Y=2)(dh:aH=0\/aH=1\/aH=2)(eL:∀m∈M,m.ok)(aK:M.Pairwise uI)(aj:M.length<=4)(aU:cA.ok)(G:cV.ok)(aq:S.R.length+3000<=a3)(q:∀u ce dv du aa,a9 S.R aa 3000->jf aa p.at Y aH (iV M) (be cA) (be cV) u ce dv du->Q (au u) (S.w aa).st):bc (n+9) 86 [.ref 1,.int 16,p.aW,.tup [.int Y,.int aH],.bb<|m2 t fq M ai cA cV dH] S.st Q:=by
 k_go;let D:B:=.bb<|m2 t fq M ai cA cV dH;refine cF.mp rfl (λdone K=>∀aa ce cv dF dG dQ dt dU dV dd,a9 S.R aa (400*done.length)->bX (v5 aa p.at Y aH) ce (iV done)->ce.length<=done.length->K (tU p Y aH D (.ol<|ce.map fi) cv dF dG dQ dt dU dV dd .un .un .un) (S.w aa).st) (λdone m a_ ag K ab aa ce cv dF dG dQ dt dU dV dd g al mK=>?_) (λaa ce cv dF dG dQ dt dU dV dd g al mK=>?_) λK ab=>ab S.R [] _ _ _ _ _ _ _ _ (a9.refl T) .nil<|dy _
 .have aN:m.ok:=eL m (by rw[ag];simp);have aw:=Cs m aN;rw[R_,c']at ab;have skip:l5 m=false->∀cv dF dG dQ dt dU dV dd,K (tU p Y aH D (.ol<|ce.map fi) cv dF dG dQ dt dU dV dd .un .un .un) (S.w aa).st:=λdX cv dF dG dQ dt dU dV dd=>ab aa ce _ _ _ _ _ _ _ _ (g.le<|hf _<|j1 _) (by rw[dX];simpa using al)<|iF mK;refine bj.en (λcd=>?_) λcd=>?_
  .have DG:=Dw m.nm;induction sh:ij m.nm with
   |true=>exact bj.h4 (DG.trans<|by rw[sh];rfl)<|skip (by unfold l5;rw[sh];simp) _ _ _ _ _ _ _ _
   |false=>
    refine bj.l3 (DG.trans<|by rw[sh];rfl) ?_;have bF:au m.o=.int (if decide (m.o=1)=true then 1 else 0):=by rcases sk aN.o with e|e<;>rw[e]<;>rfl
    refine vo (k:=.txt m.nm) ae ?_;rw[bF];refine A' az<|xb (m:=13) (S:=S.w aa) g.ok (aI (uL Y (decide<|m.o=1)<|p.at<|.txt m.nm)<|cK.rM ae _) rfl (g.turn ag aj aq) rfl (λa ak=>cK.fits ae _ a<|u9 a ak) λu bu bh ty=>?_;have UT:∀a:Ă,a=(if fQ Y (decide<|m.o=1)=true then 1 else 0)->Internal.bin .mul (.int a) (.int 1)=some (.int a):=by rintro a rfl;split<;>rfl
    have Si:Internal.bin .mul (.int<|gR aH (m.aV:Ă)) (.int 2)=some (.int<|if gR aH (m.aV:Ă)=1 then 2 else 0):=by rcases sk aN.aV with e|e<;>rw[e]<;>rcases dh with h|h|h<;>rw[h]<;>rfl
    refine ay.of (UT _ rfl)<|ay.of (zX dh _ _)<|ay.of Si<|⟨uH<|aI (dc mK)<|oD ag aj,?_⟩;have go:∀l,l=(ce++[(m.nm,u,qK Y aH<|kl m,0)]).map fi->∀cv dF dG dQ dt dU dV dd,K (tU p Y aH D (.ol l) cv dF dG dQ dt dU dV dd .un .un .un) (S.w bu).st:=by rintro l rfl cv dF dG dQ dt dU dV dd;refine ab bu _ _ _ _ _ _ _ _ _ ((g.trans bh).le<|gr (aG rfl)<|400*done.length) ?_ (by rw[c'];exact dc mK);rw[show l5 m=true by unfold l5;rw[sh,show m.h=0 from Int.ofNat_inj.mp cd];rfl,bl rfl];refine bX.snoc ⟨rfl,rfl,rfl,?_⟩<|v5.bf al bh;show d7.Ty bu u<|fD Y (rq<|kl m)<|p.at<|.txt m.nm;rw[aw.1];exact ty
    exact go _ (by rw[cZ];unfold qK;rw[aw.1,aw.2.1];rfl) _ _ _ _ _ _ _ _
  .exact bj.fm cd<|skip (by unfold l5;rw[show decide (m.h=0)=false from eA λe=>cd<|by rw[e];rfl];rfl) _ _ _ _ _ _ _ _
 .replace g:a9 S.R aa 1600:=g.le<|hf 400 aj;refine⟨rfl,rfl,by decide,cF.oY (len:=2) (kb 2) (λi K=>∀bu (aP:HO (Option<|ā×Ă)) pP fa nn,a9 aa bu (400*i)->bX (λa (ky:Z5 (ā×Ă)×bv)=>k_ bu Y aH (p.at ky.2) ky.1 a) aP ([(be cA,bv.S),(be cV,bv.N)].take i)->K (tU p Y aH D (.ol<|ce.map fi) cv dF dG dQ dt dU pP dd (.ol<|aP.map gv) fa nn) (S.w bu).st) (λi aB K ab bu aP pP fa nn tS xF=>?_) (λbu aP pP fa nn tS xF=>?_) λK ab=>ab aa [] _ _ _ (a9.refl g.ok) .nil⟩
  .obtain⟨c,key,eN,M3,yY,oJ⟩:dW λ(c:hA) (key:bv)=>hZ c.ok ((∀s,hn s (.lst [jE cA,jE cV]) (au i)=some (jE c))) ((∀s,hn s (.lst [.tup [.str [119],.str [83]],.tup [.str [119],.str [78]]]) (au i)=some key.aW)) ([(be cA,bv.S),(be cV,bv.N)].take (i+1)=[(be cA,bv.S),(be cV,bv.N)].take i++[(be c,key)]):=by
    rcases sk aB with rfl|rfl
    .exact⟨cA,.S,aU,λ_=>rfl,λ_=>rfl,rfl⟩
    .exact⟨cV,.N,G,λ_=>rfl,λ_=>rfl,rfl⟩
   rw[oJ]at ab;have cs:aP.length+1<=3:=dc<|aI (by rw[xF.len];exact List.length_take_le _ _)<|j4 aB;have bh:=g.trans tS;have add:∀a d2 l,a9 bu d2 400->k_ d2 Y aH (p.at key) (be c) a->l=(aP++[a]).map gv->∀pP fa nn,K (tU p Y aH D (.ol<|ce.map fi) cv dF dG dQ dt dU pP dd (.ol l) fa nn) (S.w d2).st:=by rintro a d2 l cJ ak rfl pP fa nn;refine ab d2 _ _ _ _ (tS.trans cJ)<|bX.snoc ?_<|xF.imp λa b h=>h.bf cJ;exact ak
   lk;refine ay.of (M3 _) ?_;rcases c with _|⟨dZ,aV⟩
   .refine⟨uH cs,?_⟩;exact add none bu _ (a9.refl bh.ok) rfl (by rw[cZ];rfl) _ _ _
   .have kW:=cK.rM ae key;have step:∀cS,cS=jz Y (p.at key)->∀(pP fa:cq) (Z:cj->aJ->St->Prop),bw (n+8) [.set 18<|.tup [.call 75 [.v 0,.v 1,.v 14],.ao (.lst [.ao (.v 18)<|.k<|.int 1,.k<|.int 1,.k<|.int 0])<|.v 6]] (tU p Y aH D (.ol<|ce.map fi) cv dF dG dQ dt dU (.val<|.lst<|cS.map aF.aW) dd (.ol<|aP.map gv) fa<|.val<|jE<|some (dZ,aV)) (S.w bu).st (kV (bw (n+8) [.app 16<|.v 18])<|mS K Z):=by rintro cS rfl pP fa Z;refine xb (m:=14) (S:=S.w bu) bh.ok (EG kW) rfl (bh.room aq<|aI (fP (gr (hf 400<|Nat.le_of_lt_succ aB) 1600) _)<|aG rfl) rfl (FX<|cK.fits ae _) λu d2 cJ ty=>ay.of (zX dh _ _)<|⟨uH cs,?_⟩;exact add (some (u,gR aH aV)) d2 _ (cJ.le<|aG rfl) ⟨u,rfl,ty⟩ (by rw[cZ];rfl) _ _ _
    refine ay.of (yY _)<|vo ae<|bj.en (λh=>?_) λh=>?_
    .refine ay.of (lQ<|by rw[bT];exact aI (fP kW _)<|aG rfl) ?_;have jU:=step (p.at key++[.b .bB]) (by unfold jz;rw[bl h]);rw[cZ]at jU;exact jU .un _ _
    .refine ay.of (lQ<|by rw[bT];exact aI (fP kW _)<|aG rfl) ?_;rw[ha];exact step (p.at key) (by unfold jz;rw[bm h]) .un _ _
  .obtain⟨_,_,rfl,ak,aw⟩:=bX.pair xF;have bh:=g.trans tS;refine fb (S:=S.w bu) bh.ok (Fa _ _ _) (bh.room aq<|aG rfl) λu d2 cJ iN=>q u ce _ _ d2 ((bh.trans cJ).le<|aG rfl) ⟨iN,?_,λx aA=>?_,λm aN=>?_,ak.bf cJ,aw.bf cJ⟩
   .have k9:ce.map (·.1)=(iV M).map (·.1):=al.map λ_ _ h=>h.2.1;rw[k9];unfold iV;rw[f2,List.pairwise_map];exact aK.filter _
   .obtain⟨eD,ml,ag,a8⟩:=al.v3 x aA;exact⟨ag,eD,ml,(a8.bf tS).bf cJ⟩
   .obtain⟨hg,mh,ag,a8⟩:=al.mem m aN;exact⟨hg,mh,(a8.bf tS).bf cJ⟩
def h6 (Y:Ă) (F:bv->HO aF) (eC len i:ā) (m:Ă):g3:=let c:g3:=if i<eC then(fD Y (decide<|m=1)<|F<|.txt<|dp i,if fQ Y (decide<|m=1)=true then 1 else 0)else(fE Y<|F .N,m);if c.2=1/\eC+1<len then(c.1++[.b .bB],0)else c
def pn (Y:Ă) (ax:HO Ă):Ă:=iD (λm=>decide<|m∈[(0:Ă)]) (t2 Y (ca ax) 0 ax) ax.length
def wK (Y:Ă) (ax:HO Ă):ZI:=(List.range ax.length).all λi=>(ax[i]?).elim true λm=>(decide (i<ca ax)||decide ((if m=2 then 2 else 0)=m))&&(!decide (pT Y (ca ax) i m=1)||(decide ((i:Ă)<pn Y ax)==decide (ca ax+1<ax.length)))
theorem Nr:(hk.all λax=>wK 0 ax&&(wK 1 ax&&wK 2 ax))=true:=by decide+kernel
theorem Jj{Y:Ă}{F:bv->HO aF}{ax:HO Ă}(az:Y=0\/Y=1\/Y=2)(ae:ax∈hk){i:ā}{m:Ă}(aN:ax[i]?=some m):h6 Y F (ca ax) ax.length i m=conv (pn Y ax) i (kQ Y F (ca ax) i m):=by
 have aw:wK Y ax=true:=by have h:=(eX _ _).mp<|d'.mp Nr ax ae;have E:=(eX _ _).mp h.2;exact az.elim (· ▸h.1) λaz=>az.elim (· ▸E.1) (· ▸E.2)
 have h:=d'.mp aw i<|lE.mpr (g9.mp aN).1;rw[aN]at h;replace h:((decide (i<ca ax)||decide ((if m=2 then 2 else 0)=m))&&(!decide (pT Y (ca ax) i m=1)||(decide ((i:Ă)<pn Y ax)==decide (ca ax+1<ax.length))))=true:=h;simp only[eX,lW,jT,kn,mD,fL,vl]at h;obtain⟨G,E⟩:=h;have e:(if i<ca ax then((fD Y (decide<|m=1)<|F<|.txt<|dp i,if fQ Y (decide<|m=1)=true then 1 else 0):g3)else(fE Y<|F .N,m))=kQ Y F (ca ax) i m:=by
  unfold kQ;split
  .rfl
  .rename_i aB;rw[G.resolve_left aB]
 have a8:(kQ Y F (ca ax) i m).2=pT Y (ca ax) i m:=by unfold kQ pT;split<;>rfl
 unfold h6 conv
 dsimp only;rw[e,a8];by_cases c:pT Y (ca ax) i m=1
 .have:=E.resolve_left<|λn=>n c;by_cases d:(i:Ă)<pn Y ax
  .rw[bl ⟨c,this.mp d⟩,bl ⟨c,d⟩]
  .rw[bm λx=>d<|this.mpr x.2,bm λx=>d x.2]
 .rw[bm λx=>c x.1,bm λx=>c x.1]
theorem Kk(Y:Ă)(F:bv->HO aF)(eC:ā)(l:HO Ă):∀(j i:ā) {m:Ă},l[i]?=some m->(mw Y F eC j l)[i]?=some (kQ Y F eC (j+i) m):=by
 induction l with
 |nil=>exact λ_ _ _ h=>nomatch h
 |cons a r ap=>
  intro j i m h;induction i using Nat.casesOn with
  |zero=>rw[<-cT h];rfl
  |succ i=>exact(ap (j+1) i h).trans (by rw[Nat.add_right_comm];rfl)
theorem HL(dT:Ă)(l:HO g3):∀(j i:ā) {c:g3},l[i]?=some c->(jv dT j l)[i]?=some (conv dT (j+i) c):=by
 induction l with
 |nil=>exact λ_ _ _ h=>nomatch h
 |cons a r ap=>
  intro j i m h;induction i using Nat.casesOn with
  |zero=>rw[<-cT h];rfl
  |succ i=>exact(ap (j+1) i h).trans (by rw[Nat.add_right_comm];rfl)
def j0 (Y:Ă) (F:bv->HO aF) (ax:HO Ă):HO g3:=jv (pn Y ax) 0<|mw Y F (ca ax) 0 ax
theorem SJ{Y:Ă}{F:bv->HO aF}{ax:HO Ă}(az:Y=0\/Y=1\/Y=2)(ae:ax∈hk){i:ā}{m:Ă}(aN:ax[i]?=some m):(j0 Y F ax).take (i+1)=(j0 Y F ax).take i++[h6 Y F (ca ax) ax.length i m]:=by rw[List.take_add_one,Jj az ae aN];unfold j0;rw[HL (pn Y ax) _ 0 i<|Kk Y F (ca ax) ax 0 i aN,iM];rfl
theorem NN(ax:HO Ă):∀n:ā,2∈ax->k2.go (.int 2) (ax.map .int) n=some (au<|n+ca ax):=by
 induction ax with
 |nil=>exact λ_ h=>nomatch h
 |cons m r ap=>
  intro n h;show(match some (decide<|m=2)with|some true=>some (B.int n)|some false=>k2.go (.int 2) (r.map .int) (n+1)|none=>none)=some (au<|n+if m=2 then 0 else ca r+1);by_cases c:m=2
  .rw[dL c,bl c];rfl
  .rw[eA c,bm c];exact(ap (n+1)<|(ew.mp h).resolve_left λe=>c e.symm).trans (by rw[Nat.add_right_comm];rfl)
theorem A3(ax:HO Ă):2∉ax->ca ax=ax.length:=by
 induction ax with
 |nil=>exact λ_=>rfl
 |cons m r ap=>exact λh=>(bm λe=>h<|by rw[e];exact .head _).trans<|bI Nat.succ<|ap λq=>h<|.tail _ q
theorem C1{ax:HO Ă}(h:2∈ax):k2 .index [.lst<|ax.map .int,.int 2]=some (au<|ca ax):=by show(if(hN (.int 2)<|ax.map .int).isSome then k2.go (.int 2) (ax.map .int) 0 else none)=_;rw[tu,bl (by rfl),NN ax 0 h,iM]
theorem Kr:∀ax∈hk,∀m∈ax,m=0\/m=1\/m=2:=by decide
theorem aF.z4{K:HO aF}(h:∀a∈K,a.fits):∀a∈K++[aF.b .bB],a.fits:=by
 intro a ak;rcases gd.mp ak with ak|ak
 .exact h a ak
 .rw[cX]at ak;subst ak;trivial
theorem x9{Y:Ă}{K:HO aF}(h:∀a∈K,a.fits):∀a∈fE Y K,a.fits:=by
 unfold fE;split
 .exact aF.z4 h
 .split
  .exact λa ak=>h a (gx.mp ak).1
  .exact h
def rG (p:cK) (Y aH:Ă) (D:B) (OH:Ă) (cv dF dG l dt dU dV:cq):aJ:=[.val<|.ref 1,.val<|.int 16,.val p.aW,.val<|.tup [.int Y,.int aH],.val D,.val<|.int Y,.val<|.int aH,.val<|.int OH,cv,dF,dG,l,dt,dU,dV,.un,.un,.un]
theorem W8{es:hp}{ax:HO Ă}(h:es.map (·.2)=ax):(ql es).flatMap uh=ax.map .int:=by
 rw[<-h];unfold ql;clear h;induction es with
 |nil=>rfl
 |cons e es ap=>rw[gh,qF,ap];rfl
theorem AB{ax:HO Ă}{i:ā}{m:Ă}(aN:ax[i]?=some m)(s:St):hn s (.lst<|ax.map .int) (au i)=some (.int m):=by show(jH (i:Ă) (ax.map B.int).length).bind (λj=>(ax.map B.int)[j]?)=_;rw[bT,qr (g9.mp aN).1];show(ax.map B.int)[i]?=_;rw[gN,aN];rfl
theorem MJ{p:cK}{Y aH:Ă}{t aV:ā}{es:hp}(T:Rows S.R)(ae:p.ok)(az:Y=0\/Y=1\/Y=2)(dh:aH=0\/aH=1\/aH=2)(nQ:es.map (·.2)∈hk)(nK:aV<2)(aq:S.R.length+4000<=a3)(f_:es.map (·.2)=[2]->∀u x aa,a9 S.R aa 4000->d7.Ty aa x (fE Y<|p.at .N)->aa[u]?=some (hH x<|gR aH aV)->Q (au u) (S.w aa).st)(rv:es.map (·.2)≠[2]->∀u cx aa,a9 S.R aa 4000->hj 15 aa cx (j0 Y p.at<|es.map (·.2))->aa[u]?=some (.tup [.int 12,.tup<|df cx,.int<|gR aH aV])->Q (au u) (S.w aa).st):bc (n+9) 87 [.ref 1,.int 16,p.aW,.tup [.int Y,.int aH],.bb<|kt t es aV] S.st Q:=by
 have iX:=cK.fits ae;have mq:=cK.rM ae;have tx:(fE Y<|p.at .N).length<=14:=aI (Bj _ _)<|dc<|mq .N;generalize mA:es.map (·.2)=ax at*;have mR:=ue ax nQ;k_go;refine ay.of (zX dh _ _)<|vo (k:=.N) ae<|bw.to (rG p Y aH (.bb<|kt t es aV) (gR aH aV) (.val<|.lst<|(if Y=1 then p.at .N++[.b .bB]else p.at .N).map aF.aW) .un .un .un .un .un .un) S.st (λK ab=>?_) ?_
 .refine bj.en (λh=>?_) λh=>?_
  .rw[bl h,cZ]at ab;exact ay.of (lQ<|by rw[bT];exact aI (fP (mq .N) _)<|aG rfl) ab
  .rw[bm h]at ab;exact ab
 refine bw.to (rG p Y aH (.bb<|kt t es aV) (gR aH aV) (.val<|.lst<|(fE Y<|p.at .N).map aF.aW) .un .un .un .un .un .un) S.st (λK ab=>?_) ?_
 .refine bj.en (λh=>?_) λh=>?_
  .have G:¬Y=1:=by rw[h];decide
   rw[show fE Y (p.at .N)=a_ (p.at .N)by unfold fE;rw[bm G,bl h]]at ab;rw[bm G];refine dg.comp (x:=.lst<|(p.at .N).map aF.aW) rfl<|pB (f:=λv=>if(fd v mH)=some true then []else [v]) rfl ?_ ?_
   .intro v af bV a';obtain⟨a,ak,rfl⟩:=dr.mp af;clear af;refine eO.mk ?_;lk;refine ay.of (Jt a) ?_;rw[wa]at a';by_cases h:a=.b .bB
    .rw[dL h]at a'⊢;exact a'
    .rw[eA h]at a'⊢;exact a'
   .rw[GD];exact ab
  .rw[show fE Y (p.at .N)=if Y=1 then p.at .N++[.b .bB]else p.at .N by unfold fE;rw[bm h]]at ab;exact ab
 refine bj.en (λt3=>?_) λt3=>?_
 .rw[mA]at t3;exact xb (m:=14) T tx rfl (hl ‹_›) rfl (x9<|iX .N) λx aa g ty=>fb (S:=S.w aa) g.ok rfl (g.room aq<|aG rfl) λu bu bh e=>f_ t3 u x bu ((g.trans bh).le<|aG rfl) (ty.bf bh) e
 .rw[mA]at t3;refine bw.skip<|bw.to (rG p Y aH (.bb<|kt t es aV) (gR aH aV) (.val<|.lst<|(fE Y<|p.at .N).map aF.aW) (.val<|.lst<|ax.map .int) .un .un .un .un .un) S.st (λK ab=>?_) ?_
  .refine dg.oI (x:=.lst<|ql es) rfl (λ_ h=>h)<|pB (f:=uh) rfl ?_ ?_
   .intro v af bV a';obtain⟨e,a6,rfl⟩:=dr.mp af;clear af;exact eO.mk a'
   .rw[W8 mA];exact ab
  refine bw.to (rG p Y aH (.bb<|kt t es aV) (gR aH aV) (.val<|.lst<|(fE Y<|p.at .N).map aF.aW) (.val<|.lst<|ax.map .int) (.val<|au<|ca ax) .un .un .un .un) S.st (λK ab=>?_) ?_
  .refine ay.of (show hC .isin S.st (.int 2) (.lst<|ax.map .int)=_ from tu 2 ax)<|bj.en (λh=>?_) λh=>?_
   .exact ay.of (C1 h) ab
   .rw[A3 ax h,<-bT (f:=B.int)]at ab;exact ab
  lk;rw[bT];refine⟨rfl,h2<|aI mR<|aG rfl,yB mR,cF.oY (len:=ax.length) (kb _) (λi K=>∀aa cx dt dU dV,a9 S.R aa (500*i)->hj 15 aa cx ((j0 Y p.at ax).take i)->K (rG p Y aH (.bb<|kt t es aV) (gR aH aV) (.val<|.lst<|(fE Y<|p.at .N).map aF.aW) (.val<|.lst<|ax.map .int) (.val<|au<|ca ax) (.ol<|df cx) dt dU dV) (S.w aa).st) (λi aB K ab aa cx dt dU dV g cf=>?_) (λaa cx dt dU dV g cf=>?_) λK ab=>ab S.R [] _ _ _ (a9.refl T) .nil⟩
  .have aN:ax[i]?=some ax[i]:=fr aB;generalize ax[i]=m at aN;rw[SJ (F:=p.at) az nQ aN]at ab;have wN:i<5:=gG aB mR;have dT:∀(eM:HO aF) (C2:Ă) (dt:cq) (Z:cj->aJ->St->Prop),(∀a∈eM,a.fits)->eM.length<=15->h6 Y p.at (ca ax) ax.length i m=(eM,C2)->bw (n+8) [.app 11<|.tup [.call 75 [.v 0,.v 1,.v 13],.v 14]] (rG p Y aH (.bb<|kt t es aV) (gR aH aV) (.val<|.lst<|(fE Y<|p.at .N).map aF.aW) (.val<|.lst<|ax.map .int) (.val<|au<|ca ax) (.ol<|df cx) dt (.val<|.lst<|eM.map aF.aW)<|.val<|.int C2) (S.w aa).st (mS K Z):=by intro eM C2 dt Z Pk Jc Yt;rw[Yt]at ab;refine xb (m:=15) (S:=S.w aa) g.ok Jc rfl (g.room aq<|aI (fP (hf 500<|j4 wN) _)<|aG rfl) rfl Pk λu bu bh ty=>?_;refine⟨by rw[ma];exact aI (dc<|aI (by rw[cf.len];exact List.length_take_le _ _)<|j4 wN)<|aG rfl,?_⟩;rw[tc];exact ab bu _ _ _ _ ((g.trans bh).le<|gr (aG rfl)<|500*i)<|bX.snoc ⟨rfl,ty,Jc⟩<|cf.bf bh
   have fin:∀(K:HO aF) (fY:Ă) (Z:cj->aJ->St->Prop),(∀a∈K,a.fits)->K.length<=14->h6 Y p.at (ca ax) ax.length i m=(if fY=1/\ca ax+1<ax.length then(K++[.b .bB],0)else(K,fY))->bw (n+8) [.iff (.an [.cmp (.v 14) [(.eq,.k<|.int 1)],.cmp (.v 10) [(.lt,.bin .sub (.bi .len [.v 9])<|.k<|.int 1)]]) [.ho [13,14]<|.tup [.bin .add (.v 13)<|.lst [.k<|.tup [.str [119],.str [117]]],.k<|.int 0]] [],.app 11<|.tup [.call 75 [.v 0,.v 1,.v 13],.v 14]] (rG p Y aH (.bb<|kt t es aV) (gR aH aV) (.val<|.lst<|(fE Y<|p.at .N).map aF.aW) (.val<|.lst<|ax.map .int) (.val<|au<|ca ax) (.ol<|df cx) (.val<|au i) (.val<|.lst<|K.map aF.aW)<|.val<|.int fY) (S.w aa).st (mS ‹aJ->St->Prop› Z):=by
    intro K fY Z ab rf eS;by_cases G:fY=1
    .refine bj.qs G ?_;lk;rw[bT];by_cases E:ca ax+1<ax.length
     .rw[bl ⟨G,E⟩]at eS;have jU:=dT _ _ (.val<|au i) Z (aF.z4 ab) (by rw[c'];exact dc rf) eS;rw[cZ]at jU;refine bj.qs (Int.lt_sub_right_of_add_lt<|ix.mpr E) ?_;exact ay.of (lQ<|by rw[bT];exact aI (fP rf _)<|aG rfl) jU
     .rw[bm λx=>E x.2]at eS;exact bj.fm (λh=>E<|ix.mp<|Int.add_lt_of_lt_sub_right h)<|dT _ _ _ _ ab (iF rf) eS
    .rw[bm λx=>G x.1]at eS;exact bj.fm G<|bj.fm G<|dT _ _ _ _ ab (iF rf) eS
   lk;refine ay.of (AB aN _)<|bj.en (λcW=>?_) λcW=>?_
   .replace cW:i<ca ax:=ix.mp cW;have Vq:B.int m=.int (if decide (m=1)=true then 1 else 0):=by
     rcases Kr ax nQ m (h9 aN)with h|h|h
     .rw[h];rfl
     .rw[h];rfl
     .exact absurd h<|zM aN cW
    have uy:pb .str (S.w aa).st [au i]=some (.str<|dp i):=by show(if small (i:Ă)then i3 (dp i).length (B.str<|dp i)else none)=_;rw[h2<|oU wN,bl<|by rfl];exact bl<|aI (yA i<|uE wN)<|aG rfl
    refine ay.of uy<|vo (k:=.txt<|dp i) ae<|ay.of (AB aN _) ?_;rw[Vq];refine A' az ?_;exact fin (fD Y (decide<|m=1)<|p.at<|.txt<|dp i) (if fQ Y (decide<|m=1)=true then 1 else 0) _ (λa ak=>iX _ a<|u9 a ak) (aI (uL _ _ _)<|iF<|mq _) (by unfold h6;rw[bl cW])
   .exact fin (fE Y<|p.at .N) m _ (x9<|iX .N) tx (by unfold h6;rw[bm λh=>cW<|ix.mpr h])
  .rw[s'<|by unfold j0;rw[uz,v9];exact dy _]at cf;exact fb (S:=S.w aa) g.ok (CQ _ _) (g.room aq<|aI (fP (hf 500 mR) _)<|aG rfl) λu bu bh e=>rv t3 u cx bu ((g.trans bh).le<|aI (fP (hf 500 mR) _)<|aG rfl) (cf.bf bh) e
abbrev cU:=List<|bx×HO aM×ā
def jZ (e:bx×HO aM×ā):HO aM:=e.2.1++List.replicate e.2.2 .bB
def ec (x:bx):cU->Z5 (bx×HO aM×ā)
 |[]=>none
 |e::r=>if e.1=x then some e else ec x r
def qy (z:cU):bv->HO aM
 |.txt x=>match ec x z with
  |none=>[.bB]
  |some e=>jZ e
 |_=>z.flatMap jZ
def mz (z:cU):aM->HO aM
 |.ao k=>qy z k
 |a=>[a]
def nF (z:cU) (K:HO aM):HO aM:=K.flatMap<|mz z
def uF (z:cU):aF->HO aF
 |.b a=>(mz z a).map .b
 |.arr K=>[.arr<|nF z K]
def i2 (z:cU) (K:HO aF):HO aF:=K.flatMap<|uF z
def lp (x:bx):ZI:= !x.isEmpty&&x.all λc=>decide<|c∈[48,49,50,51,52,53,54,55,56,57]
def qv (p:aM->ZI):aM->ZI
 |.txt x=>p .S||(p .N&&lp x)
 |.num _=>p .N
 |_=>false
def vt (a:aM) (room:HO aM):ZI:=decide (a∈room)||qv (λb=>decide<|b∈room) a
def rF (K room:HO aM):ZI:=K.all λa=>vt a room
def Bs (K:HO aM):aF->ZI
 |.arr aP=>rF K aP
 |.b _=>false
def KW (room:HO aF):aF->ZI
 |.b a=>qv (λb=>decide<|aF.b b∈room) a
 |.arr K=>room.any<|Bs K
def jR (a:aF) (room:HO aF):ZI:=decide (a∈room)||KW room a
def kw (K room:HO aF):ZI:=K.all λa=>jR a room
def MM(z:cU)(K:HO aM):aM->Prop
 |.ao k=>∃iL,.ao iL∈K/\∀u∈qy z k,u∈qy z iL
 |a=>a∈K\/(match a with|.txt x=>aM.S∈K\/(aM.N∈K/\lp x=true)|.num _=>aM.N∈K|_=>False)
def j6(z:cU)(aP K:HO aM):Prop:=∀a∈aP,MM z K a
def nh(z:cU)(aP K:HO aF):Prop:=∀a∈aP,a≠.b .bB->match a with
 |.b (.ao k)=>∃iL,.b (.ao iL)∈K/\∀u∈qy z k,u∈qy z iL
 |.b a=>.b a∈K\/(match a with|.txt x=>aF.b .S∈K\/(aF.b .N∈K/\lp x=true)|.num _=>aF.b .N∈K|_=>False)
 |.arr e8=>∃eM,.arr eM∈K/\j6 z e8 eM
def qP(K aT:HO aM):Prop:=∀a∈K,hY.iC K a->a∈aT
def i_(K aT:HO aF):Prop:=∀a∈K,d7.iC K a->match a with
 |.b a=>.b a∈aT
 |.arr eM=>∃s0,.arr s0∈aT/\qP eM s0
theorem Nq{a:aM}{room:HO aM}(h:a∈room):vt a room=true:=by unfold vt;rw[dL h];rfl
theorem tP{a:aF}{room:HO aF}(h:a∈room):jR a room=true:=by unfold jR;rw[dL h];rfl
theorem HK{z:cU}{K:HO aM}{a b:aM}(h:a∈K)(aR:b∈mz z a):b∈nF z K:=jV.mpr ⟨a,h,aR⟩
theorem r1{z:cU}{K:HO aF}{a b:aF}(h:a∈K)(aR:b∈uF z a):b∈i2 z K:=jV.mpr ⟨a,h,aR⟩
theorem qP.aS{K aT:HO aM}(h:qP K aT)(m:aM.S∈K):aM.S∈aT:=h _ m<|db.m1 rfl
theorem qP.N{K aT:HO aM}(h:qP K aT)(m:aM.N∈K):aM.N∈aT:=h _ m<|db.m1 rfl
theorem i_.aS{K aT:HO aF}(h:i_ K aT)(m:aF.b .S∈K):aF.b .S∈aT:=h _ m<|db.m1 rfl
theorem i_.N{K aT:HO aF}(h:i_ K aT)(m:aF.b .N∈K):aF.b .N∈aT:=h _ m<|db.m1 rfl
theorem i_.U{K aT:HO aF}(h:i_ K aT)(m:aF.b .bB∈K):aF.b .bB∈aT:=h _ m<|db.m1 rfl
theorem rS{a b:ZI}(h:a=true):(a||b)=true:=by rw[h];rfl
theorem oL{a b:ZI}(h:b=true):(a||b)=true:=by rw[h,Bool.or_true]
theorem Gx{a b:ZI}(h:(a||b)=true):a=true\/b=true:=(lW _ _).mp h
def BW(q:aM->Prop):aM->Prop
 |.txt x=>q .S\/(q .N/\lp x=true)
 |.num _=>q .N
 |_=>False
theorem JB{a:aM}{q:aM->Prop}{p:aM->ZI}(e5:q .S->p .S=true)(c_:q .N->p .N=true)(iI:q a->(hY.ia a=6->¬q .S)/\(hY.ia a=7->¬q .N)->p a=true)(G:q a\/BW q a):(p a||qv p a)=true:=by
 induction a using aM.casesOn with
 |txt x=>
  rcases G with m|m|⟨m,d⟩
  .by_cases c:q .S
   .exact oL<|rS<|e5 c
   .exact rS<|iI m ⟨λ_=>c,λe=>(nomatch e)⟩
  .exact oL<|rS<|e5 m
  .exact oL<|oL<|lm (c_ m) d
 |num i=>
  rcases G with m|m
  .by_cases c:q .N
   .exact oL<|c_ c
   .exact rS<|iI m ⟨λe=>(nomatch e),λ_=>c⟩
  .exact oL<|c_ m
 |_=>exact rS<|iI (G.resolve_right id) ⟨λe=>(nomatch e),λe=>(nomatch e)⟩
theorem WH{z:cU}{aP K aT:HO aM}(h:j6 z aP K)(s:qP K aT):rF (nF z aP) (nF z aT)=true:=by
 unfold rF;rw[d'];intro b aw;obtain⟨a,ak,aw⟩:=jV.mp aw;have G:=h a ak;have mem:∀{a:aM},a∈aT->mz z a=[a]->decide (a∈nF z aT)=true:=λm e=>dL (HK m<|by rw[e];exact .head _);have go:(mz z a=[a])->(a∈K\/BW (λb=>b∈K) a)->vt b (nF z aT)=true:=λe G=>by rw[e]at aw;rw[cX.mp aw];exact JB (q:=λb=>b∈K) (p:=λb=>decide<|b∈nF z aT) (λm=>mem (s.aS m) rfl) (λm=>mem (s.N m) rfl) (λm k=>mem (s _ m k) e) G
 induction a using aM.casesOn with
 |ao k=>obtain⟨iL,aD,px⟩:=G;exact Nq<|HK (s _ aD<|db.m1 rfl)<|px b aw
 |_=>exact go rfl G
theorem SO{a:aM}{p ev:aM->ZI}(h:∀b,p b=true->ev b=true)(e:qv p a=true):qv ev a=true:=by
 induction a using aM.casesOn with
 |txt x=>exact(Gx e).elim (λe=>rS<|h _ e) λe=>oL<|lm (h _ ((eX _ _).mp e).1) ((eX _ _).mp e).2
 |num i=>exact h _ e
 |_=>exact e
theorem W4{a:aF}{r b2:HO aF}(h:∀x∈r,x∈b2)(q:jR a r=true):jR a b2=true:=by
 refine(Gx q).elim (λq=>rS<|dL<|h _<|fj q) λq=>oL ?_;induction a using aF.casesOn with
 |b a=>exact SO (λb e=>dL<|h _<|fj e) q
 |arr K=>obtain⟨m,aN,q⟩:=tN.mp q;exact tN.mpr ⟨m,h _ aN,q⟩
theorem Vv{z:cU}{aP K aT:HO aF}(h:nh z aP K)(s:i_ K aT):∀b∈i2 z aP,(b=.b .bB/\.b .bB∈aP)\/jR b (i2 z aT)=true:=by
 intro b aw;obtain⟨a,ak,aw⟩:=jV.mp aw;by_cases a4:a=.b .bB
 .rw[a4]at aw ak;exact .inl ⟨cX.mp aw,ak⟩
 have G:=h a ak a4;refine .inr ?_;induction a using aF.casesOn with
 |arr e8=>rw[show b=.arr (nF z e8)from cX.mp aw];obtain⟨eM,aD,px⟩:=G;obtain⟨s0,eZ,aK⟩:=s _ aD<|db.m1 rfl;exact oL<|tN.mpr ⟨_,r1 eZ<|cX.mpr rfl,WH px aK⟩
 |b a=>
  have mem:∀{a:aM},aF.b a∈aT->mz z a=[a]->decide (aF.b a∈i2 z aT)=true:=λ{a} m e=>dL (r1 m<|by show _∈(mz z a).map aF.b;rw[e];exact .head _);have go:(mz z a=[a])->(aF.b a∈K\/BW (λb=>aF.b b∈K) a)->jR b (i2 z aT)=true:=λe G=>by rw[show uF z (.b a)=[.b a]from bI (List.map aF.b) e]at aw;rw[cX.mp aw];exact JB (q:=λb=>aF.b b∈K) (p:=λb=>decide<|aF.b b∈i2 z aT) (λm=>mem (s.aS m) rfl) (λm=>mem (s.N m) rfl) (λm k=>mem (s _ m k) e) G
  induction a using aM.casesOn with
  |ao k=>obtain⟨iL,aD,px⟩:=G;obtain⟨u,a4,e⟩:=dr.mp aw;rw[<-e];exact tP<|r1 (s _ aD<|db.m1 rfl)<|fw<|px u a4
  |_=>exact go rfl G
def sI (z:cU) (Y:Ă) (fN:ZI) (aP:HO aF):HO aF:=fD Y fN (i2 z aP)++if fQ Y fN=true then [.b .bB]else []
def mZ (z:cU) (Y:Ă) (aT:HO aF) (U:ZI):HO aF:=i2 z (aT++if U=true then [.b .bB]else [])++if Y=2 then [.b .bB]else []
theorem Bt{z:cU}{Y:Ă}{K aT:HO aF}{U:ZI}(s:i_ K aT)(h:U=true\/.b .bB∈K\/Y=2):aF.b .bB∈mZ z Y aT U:=by
 unfold mZ;rw[gd];rcases h with rfl|h|rfl
 .exact .inl<|r1 (iJ _<|by rw[bl rfl];exact .head _)<|cX.mpr rfl
 .exact .inl<|r1 (kC _<|s.U h)<|cX.mpr rfl
 .exact .inr (by rw[bl rfl];exact .head _)
theorem yV{z:cU}{Y:Ă}{fN U:ZI}{aP K aT:HO aF}(az:Y=0\/Y=1\/Y=2)(h:nh z aP K)(s:i_ K aT)(G:fQ Y fN=true->U=true\/.b .bB∈K\/Y=2)(E:Y=0->fN=false->.b .bB∈aP->U=true\/.b .bB∈K):kw (sI z Y fN aP) (mZ z Y aT U)=true:=by
 have sub:∀x∈i2 z aT,x∈mZ z Y aT U:=λx aA=>by obtain⟨a,ak,aA⟩:=jV.mp aA;exact kC _<|r1 (kC _ ak) aA
 unfold kw;rw[d'];intro b aw;unfold sI at aw;rcases gd.mp aw with aw|aw
 .rcases Vv h s b (u9 b aw)with⟨rfl,cs⟩|cd
  .refine tP<|Bt s ?_;induction aK:fQ Y fN with
   |true=>exact G aK
   |false=>
    rcases az with rfl|rfl|rfl
    .induction fN with
     |true=>exact h7 aK
     |false=>exact(E rfl rfl cs).imp id .inl
    .exact h7 aK
    .exact .inr<|.inr rfl
  .exact W4 sub cd
 .split at aw
  .rename_i aK;rw[cX]at aw;subst aw;exact tP<|Bt s<|G aK
  .cases aw
theorem B0{z:cU}{Y:Ă}{U:ZI}{K aT:HO aF}(s:i_ K aT)(G:U=true\/.b .bB∈K\/Y=2):kw [.b .bB] (mZ z Y aT U)=true:=by unfold kw;rw[d'];intro b aw;rw[cX]at aw;subst aw;exact tP<|Bt s G
def bv.un (l:HO B):bv:=match l with
 |x::_=>(match x with|.str t=>if t=[116]then .txt (match l with|[_,.str x]=>x|_=>[])else(match l with|[_,.str x]=>if x=[83]then .S else .N|_=>.N)|_=>.N)
 |_=>.N
def aM.un (v:B):aM:=match v with
 |.tup l=>(match l with
  |x::l=>(match x with
   |.str t=>(match l with
    |y::_=>if t=[116]then(match y with|.str x=>.txt x|_=>.N)else if t=[35]then(match y with|.int i=>.num i|_=>.N)else if t=[119]then(match y with|.str x=>if x=[117]then .bB else if x=[110]then .nul else if x=[83]then .S else .N|_=>.N)else(match y with|.tup m=>.ao (bv.un m)|_=>.N)
    |[]=>.N)
   |_=>.N)
  |[]=>.N)
 |_=>.N
theorem aM.H4(a:aM):aM.un a.aW=a:=by
 induction a with
 |ao k=>induction k<;>rfl
 |_=>rfl
theorem aM.inj{a b:aM}(h:a.aW=b.aW):a=b:=a.H4.symm.trans<|(bI aM.un h).trans b.H4
def se (v:B):ZI:=match v with
 |.tup (.str t::_)=>decide<|t=[91]
 |_=>false
theorem aM.se(a:aM):Internal.se a.aW=false:=by induction a<;>rfl
theorem aF.inj{a b:aF}(h:a.aW=b.aW):a=b:=by
 induction a with
 |b a=>
  induction b with
  |b b=>exact bI _<|aM.inj h
  |arr K=>exact cH<|a.se.symm.trans<|bI Internal.se h
 |arr K=>
  induction b with
  |b b=>exact cH ((bI Internal.se h).trans b.se).symm
  |arr eM=>have h:B.tup (K.map aM.aW)=B.tup (eM.map aM.aW):=(tJ (tJ<|B.tup.inj h).2).1;exact bI _<|(List.map_inj_right λa b h=>aM.inj h).mp<|B.tup.inj h
theorem bv.w4(k:bv)(n:ā):Internal.fv (n+1) k.aW=true:=by induction k<;>induction n<;>rfl
theorem aM.w4(a:aM)(n:ā):Internal.fv (n+2) a.aW=true:=by
 induction a with
 |ao k=>show(true&&(Internal.fv (n+1) k.aW&&true))=true;rw[bv.w4];rfl
 |_=>rfl
theorem aF.fv(a:aF):Internal.fv 16 a.aW=true:=by
 induction a with
 |b a=>exact a.w4 14
 |arr K=>show(true&&((K.map aM.aW).all (Internal.fv 14)&&true))=true;rw[Bool.true_and,Bool.and_true,py,d'];exact λa _=>a.w4 12
theorem Cv(a:aF)(aT:HO aF):hN a.aW (aT.map aF.aW)=some (decide<|a∈aT):=by
 rcases Ab a.fv (l:=aT.map aF.aW) (λx aA=>by obtain⟨b,_,rfl⟩:=dr.mp aA;clear aA;exact b.fv)with⟨m,e⟩|⟨m,e⟩
 .rw[e,dL];obtain⟨b,aw,e⟩:=dr.mp m;clear m;rwa[aF.inj e]at aw
 .rw[e,eA λh=>m<|fw h]
def dI (z:cU):HO (B×B):=z.map λe=>(.str e.1,.tup [.lst<|e.2.1.map aM.aW,au e.2.2])
structure i7(z:cU):Prop where
 b7:(z.map (·.1)).Nodup
 len:z.length<=10
 k:∀e∈z,e.2.1.length<=3/\e.2.2<=1
theorem Ja(z:cU):items (.bb<|dI z)=some ((z.map (·.1)).map ep):=by
 have E:((dI z).all λe=>eH e.1==2)=true:=by unfold dI;rw[py];exact d'.mpr λ_ _=>rfl
 show(if(((dI z).all λe=>eH e.1==1)||((dI z).all λe=>eH e.1==2))=true then some ((dI z).map (·.1))else none)=_;rw[E,Bool.or_true,bl rfl];unfold dI;rw[f2,f2];rfl
theorem p4(x:bx)(z:cU):eo (.str x) (dI z)=true:=uv rfl λ_=>rfl
theorem Jo(x:bx)(z:cU):fA (.str x) (dI z)=some ((ec x z).map λe=>.tup [.lst<|e.2.1.map aM.aW,au e.2.2]):=by
 induction z with
 |nil=>rfl
 |cons e r ap=>
  show(match some (decide<|e.1=x)with|some true=>some (some<|B.tup [.lst<|e.2.1.map aM.aW,au e.2.2])|some false=>fA (.str x) (dI r)|none=>none)=some ((if e.1=x then some e else ec x r).map _);by_cases h:e.1=x
  .rw[dL h,bl h];rfl
  .rw[eA h,bm h];exact ap
theorem BO{s:St}(x:bx)(z:cU):qE s (.str x) (.bb<|dI z)=some (ec x z).isSome:=by show(if eo (.str x) (dI z)then(fA (.str x)<|dI z).map (·.isSome)else none)=_;rw[p4,Jo,bl rfl];induction ec x z<;>rfl
theorem E8{s:St}{x:bx}{z:cU}{e:bx×HO aM×ā}(h:ec x z=some e):hn s (.bb<|dI z) (.str x)=some (.tup [.lst<|e.2.1.map aM.aW,au e.2.2]):=by show(if eo (.str x) (dI z)then(fA (.str x)<|dI z).bind id else none)=_;rw[p4,Jo,h];rfl
theorem W3{z:cU}:(z.map (·.1)).Nodup->∀e∈z,ec e.1 z=some e:=by
 induction z with
 |nil=>exact λ_ _ h=>nomatch h
 |cons a r ap=>
  intro h e m;have h:=hV.mp h;cases m with
  |head=>exact bl rfl
  |tail _ m=>exact(bm λq:a.1=e.1=>h.1<|by show a.1∈_;rw[q];exact fw (f:=λx:bx×HO aM×ā=>x.1) m).trans<|ap h.2 e m
theorem rL{z:cU}{x:bx}{e:bx×HO aM×ā}:ec x z=some e->e∈z/\e.1=x:=by
 induction z with
 |nil=>exact λh=>nomatch h
 |cons a r ap=>
  intro h;replace h:(if a.1=x then some a else ec x r)=some e:=h;by_cases c:a.1=x
  .rw[bl c]at h;rw[<-cT h];exact⟨.head _,c⟩
  .rw[bm c]at h;exact⟨.tail _ (ap h).1,(ap h).2⟩
theorem Bz{z:cU}(h:i7 z):∀e∈z,(jZ e).length<=4:=λe a6=>by unfold jZ;rw[c',u4];exact gI (h.k e a6).1 (h.k e a6).2
theorem sx{av b8:Type}(f:av->HO b8)(b:ā){l:HO av}:(∀x∈l,(f x).length<=b)->(l.flatMap f).length<=b*l.length:=by
 induction l with
 |nil=>exact λ_=>f8 _
 |cons a l ap=>intro h;rw[qF,c',qp];exact gI (ap λx aA=>h x<|.tail _ aA)<|h a<|.head _
theorem Gz{z:cU}(h:i7 z)(k:bv):(qy z k).length<=40:=by
 have gb:(z.flatMap jZ).length<=40:=by exact aI (sx jZ 4<|Bz h)<|hf 4 h.len
 induction k with
 |txt x=>
  show(match ec x z with|none=>[aM.bB]|some e=>jZ e).length<=40;induction e:ec x z with
  |none=>simp
  |some bz=>exact aI (Bz h bz (rL e).1)<|aG rfl
 |S=>exact gb
 |N=>exact gb
theorem Hj{z:cU}(h:i7 z)(a:aM):(mz z a).length<=40:=by
 induction a with
 |ao k=>exact Gz h k
 |_=>exact ih rfl
section
variable{n:ā}{s:St}{z:cU}
def JK (z:cU) (e1 fO:cq) (l:HO B) (eT c1 dj oT:cq):aJ:=[.val<|.bb<|dI z,e1,fO,.ol l,eT,c1,dj,oT]
theorem z6{Q:B->St->Prop}{es:cU}{e1 fO kd oM DB oT:cq}(h:i7 z)(on:∀e∈es,ec e.1 z=some e)(aj:es.length<=10)(q:Q (.lst<|(es.flatMap jZ).map aM.aW) s):cF n false [4] [.ho [5,6]<|.ao (.v 0)<|.v 4,.ext 3<|.bin .add (.v 5)<|.bin .mul (.lst [.k<|.tup [.str [119],.str [117]]])<|.v 6] ((es.map (·.1)).map ep) (JK z e1 fO [] kd oM DB oT) s (kV (bw n [.a5 3,.ret<|.v 3]) λcI _ ar=>Q cI.val ar):=by
 refine cF.mp (f:=λe:bx×HO aM×ā=>ep e.1) (all:=es) f2 (λdone K=>∀eT c1 dj,K (JK z e1 fO ((done.flatMap jZ).map aM.aW) eT c1 dj oT) s) (λdone e a_ ag K ab eT c1 dj=>?_) (λ_ _ _=>q) λK ab=>ab _ _ _;have a6:=on e (by rw[ag];exact iJ _<|.head _);have aD:=h.k e (rL a6).1;have bn:(e.2.1.map aM.aW).length+(List.replicate e.2.2 mH).length<=4:=by rw[bT,u4];exact gI aD.1 aD.2
 rw[r7,cZ,te,jZ,cZ,List.map_replicate]at ab;lk;refine ay.of (E8 a6) ?_;lk;exact ay.of (AO (aI aD.2<|aG rfl) _)<|ay.of (lQ<|aI bn<|aG rfl) ⟨by rw[bT,c'];exact aI (gI (aI (sx jZ 4 λx aA=>Bz h x (rL<|on x<|by rw[ag];exact kC _ aA).1)<|hf 4<|lg<|oD ag aj) bn)<|aG rfl,ab _ _ _⟩
theorem RF{Q:B->St->Prop}{key:bv}(h:i7 z)(q:Q (.lst<|(qy z key).map aM.aW) s):bc (n+1) 91 [.bb<|dI z,key.aW] s Q:=by
 have gb:=W3 h.b7;k_go;refine dg.comp rfl<|fk.mp (f:=ep) (Ja z) (λdone K=>K (done.map ep) s) (λdone x a_ ag K ab=>eO.mk<|by rw[cZ]at ab;exact ab) ?_ λK ab=>ab;induction key with
 |txt x=>
  refine ay.of (show hC .fV s (.str x) (.bb<|dI z)=some (!(ec x z).isSome)from by show(qE s (.str x)<|.bb<|dI z).map (!·)=_;rw[BO];rfl) ?_;replace q:Q (.lst<|(match ec x z with|none=>[aM.bB]|some e=>jZ e).map aM.aW) s:=q;induction a7:ec x z with
  |none=>rw[a7]at q;exact q
  |some e=>rw[a7]at q;have a6:=(rL a7).2;rw[<-a6];exact z6 h (λx aA=>by rw[cX.mp aA,a6];exact a7) (aG rfl) (by rw[te];exact q)
 |S=>exact z6 h gb h.len q
 |N=>exact z6 h gb h.len q
noncomputable abbrev Ow:HO dE:=[.iff (.cmp (.v 3) [(.eq,.k<|.str [84])]) [.ext 2<|.call 91 [.v 1,.v 4]] [.iff (.cmp (.v 3) [(.eq,.k<|.str [91])]) [.app 2<|.tup [.v 3,.bi .tuple [.call 92 [.v 4,.v 1]]]] [.app 2<|.tup [.v 3,.v 4]]]]
theorem Kt{a:aM}{aP:HO B}{i6 d6 eT:cq}{Q:cj->aJ->St->Prop}(h:i7 z)(aj:aP.length<=4000)(q:∀d6 eT,Q .go [i6,.val<|.bb<|dI z,.ol<|aP++(mz z a).map aM.aW,d6,eT] s):ay (il true [3,4] a.aW [i6,.val<|.bb<|dI z,.ol aP,d6,eT]) λr=>bw (n+1) Ow r s Q:=by
 induction a with
 |ao k=>exact RF h ⟨aI (gI aj<|aI (fT (bT ..))<|Gz h k)<|aG rfl,q _ _⟩
 |_=>exact⟨aI (dc aj)<|aG rfl,q _ _⟩
theorem Gb{av b8:Type}{f:av->HO b8}{K done a_:HO av}{a:av}(e:K=done++a::a_)(aj:K.length<=100)(h:∀a,(f a).length<=40){g:b8->B}:((done.flatMap f).map g).length<=4000:=aI (fT (bT ..))<|aI (sx f 40 λx _=>h x)<|hf 40<|lg<|oD e aj
theorem Sw{Q:B->St->Prop}{arg:B}{K:HO aM}(h:i7 z)(ak:items arg=some (K.map aM.aW))(aj:K.length<=100)(q:Q (.lst<|(nF z K).map aM.aW) s):bc (n+2) 92 [arg,.bb<|dI z] s Q:=by k_go;lk;refine ay.of ak<|cF.mp (all:=K) (f:=aM.aW) rfl (λdone K=>∀d6 eT,K [.val arg,.val<|.bb<|dI z,.ol<|(nF z done).map aM.aW,d6,eT] s) (λdone a a_ ag K ab d6 eT=>?_) (λ_ _=>q) λK ab=>ab _ _;unfold nF at ab⊢;rw[r7,cZ,te]at ab;exact Kt h (Gb ag aj<|Hj h) ab
theorem AX(h:i7 z)(a:aF):(uF z a).length<=40:=by
 induction a with
 |b a=>show((mz z a).map aF.b).length<=40;rw[bT];exact Hj h a
 |arr K=>exact aG rfl
theorem Hh{Q:B->St->Prop}{arg:B}{K:HO aF}(h:i7 z)(ak:items arg=some (K.map aF.aW))(aj:K.length<=100)(aD:∀aP,aF.arr aP∈K->aP.length<=100)(q:Q (.lst<|(i2 z K).map aF.aW) s):bc (n+3) 92 [arg,.bb<|dI z] s Q:=by
 k_go;refine ay.of ak<|cF.mp (all:=K) (f:=aF.aW) rfl (λdone K=>∀d6 eT,K [.val arg,.val<|.bb<|dI z,.ol<|(i2 z done).map aF.aW,d6,eT] s) (λdone a a_ ag K ab d6 eT=>?_) (λ_ _=>q) λK ab=>ab _ _;unfold i2 at ab⊢;rw[r7,cZ,te]at ab;have aq:=Gb ag aj (AX h) (g:=aF.aW);induction a with
 |b a=>rw[show(uF z<|.b a).map aF.aW=(mz z a).map aM.aW from f2]at ab;exact Kt (a:=a) h aq ab
 |arr eM=>exact Sw h rfl (aD eM<|by rw[ag];exact iJ _<|.head _) ⟨aI (dc aq)<|aG rfl,ab _ _⟩
end
noncomputable abbrev y7:HO ā:=[48,49,50,51,52,53,54,55,56,57]
theorem Wp(a:aM)(R:HO aM):jR (.b a) (R.map .b)=vt a R:=by have m:(λb:aM=>decide<|aF.b b∈R.map aF.b)=λb=>decide (b∈R):=funext λb=>vl.mpr ⟨λh=>by obtain⟨c,aq,e⟩:=dr.mp h;cases e;exact aq,λh=>fw h⟩;show(decide (aF.b a∈R.map aF.b)||qv (λb:aM=>decide<|aF.b b∈R.map aF.b) a)=(decide (a∈R)||qv _ a);rw[m,show decide (aF.b a∈R.map aF.b)=decide (a∈R)from j9 m a]
theorem QE(K R:HO aM):kw (K.map .b) (R.map .b)=rF K R:=by unfold kw rF;rw[py];congr 1;funext a;exact Wp a R
theorem Ct(K:HO aM):(K.map aF.b).map aF.aW=K.map aM.aW:=by rw[f2];rfl
def rV(aH:B)(aT:HO aF):Prop:=aH=.lst (aT.map aF.aW)\/aH=.tup (aT.map aF.aW)
section
variable{n:ā}{s:St}{z:cU}{Q:B->St->Prop}
theorem rV.isin{aH:B}{aT:HO aF}(h:rV aH aT)(a:aF):hC .isin s a.aW aH=some (decide<|a∈aT):=by
 rcases h with er|er<;>rw[er]
 .exact Cv a aT
 .exact Cv a aT
theorem rV.it{aH:B}{aT:HO aF}(h:rV aH aT):items aH=some (aT.map aF.aW):=by rcases h with er|er<;>rw[er]<;>rfl
theorem DY{av:Type}{f:av->B}{p:av->ZI}{l:HO av}:decide (((((l.filter λa=> !p a).map f).length:ā):Ă)=0)=l.all p:=by
 rw[bT];induction aw:l.all p using Bool.casesOn with
 |true=>exact dL (bI Int.ofNat<|y6.mpr<|vi.mpr λa ak=>by rw[d'.mp aw a ak];exact dR)
 |false=>
  refine eA λh=>?_;have h:=vi.mp<|y6.mp<|pa.mp h;refine cH<|aw.symm.trans<|d'.mpr λa ak=>?_;induction ae:p a using Bool.casesOn with
  |true=>rfl
  |false=>exact absurd (by rw[ae];rfl)<|h a ak
theorem WQ{av:Type}{f:av->B}{p:av->ZI}{l:HO av}:decide (((((l.filter p).map f).length:ā):Ă)>0)=l.any p:=by
 rw[bT];induction aw:l.any p using Bool.casesOn with
 |true=>obtain⟨a,ak,ae⟩:=tN.mp aw;exact dL<|ix.mpr<|List.length_pos_of_mem<|gx.mpr ⟨ak,ae⟩
 |false=>refine eA λh=>?_;obtain⟨a,ak⟩:=List.exists_mem_of_length_pos<|ix.mp h;exact cH<|aw.symm.trans<|tN.mpr ⟨a,gx.mp ak⟩
theorem GF{x:bx}(q:Q (.bool<|lp x) s):bc (n+1) 94 [.str x] s Q:=by
 k_go;induction x using List.casesOn with
 |nil=>exact q
 |cons cA l=>
  refine dg.comp rfl<|wB (N:=cA::l) (f:=λc=>.str [c]) (p:=λc=> !decide (c∈y7)) rfl (λc _ K ab=>?_) ?_
  .refine eO.mk ?_;induction aq:decide (c∈y7)using Bool.casesOn with
   |true=>rw[aq]at ab;exact bj.h4 (by rw[List.contains_iff_mem.mpr<|fj aq];rfl) ab
   |false=>rw[aq]at ab;exact bj.l3 (by rw[show y7.contains c=false by rw[<-Bool.not_eq_true,List.contains_iff_mem];exact ra aq];rfl) ab
  .have ff:Q (.bool<|(cA::l).all λc=>decide<|c∈y7) s:=q;rw[<-DY (f:=λc=>B.str [c])]at ff;exact ff
theorem HQ{a:aM}{aH:B}{aT:HO aF}(h:rV aH aT)(q:Q (.bool<|jR (.b a) aT) s):bc (n+2) 95 [a.aW,aH] s Q:=by
 have iB:=h.isin (s:=s)<|.b a;have e5:=h.isin (s:=s)<|.b .S;have c_:=h.isin (s:=s)<|.b .N;have b0:aF.b a∈aT->Q (.bool true) s:=λm=>by rw[tP m]at q;exact q
 have bt:aF.b a∉aT->Q (.bool<|qv (λb=>decide<|aF.b b∈aT) a) s:=λm=>by unfold jR at q;rw[eA m,Bool.false_or]at q;exact q
 clear q h;k_go;induction a with
 |txt x=>
  refine ay.of iB<|bj.en b0 λm=>?_;replace bt:Q (.bool<|decide (aF.b .S∈aT)||(decide (aF.b .N∈aT)&&lp x)) s:=bt m;refine ay.of e5<|bj.en (λx1=>?_) λx1=>ay.of c_<|bj.en (λsY=>GF ?_) λsY=>?_
  .rw[dL x1]at bt⊢;exact bt
  .rw[eA x1,dL sY]at bt;exact bt
  .rw[eA x1,eA sY]at bt;rw[eA sY];exact bt
 |num x=>exact ay.of iB<|bj.en b0 λm=>ay.of c_<|bt m
 |_=>exact ay.of iB<|bj.en b0 bt
theorem F'{arg aH:B}{A aT:HO aF}(aB:items arg=some (A.map aF.aW))(cd:∀a∈A,∀bV:B->St->Prop,bV (.bool<|jR a aT) s->bc n 95 [a.aW,aH] s bV)(q:Q (.bool<|kw A aT) s):bc (n+1) 96 [arg,aH] s Q:=by
 k_go;refine dg.comp rfl<|wB (N:=A) (p:=λa=> !jR a aT) aB (λa ak K ab=>eO.mk<|cd a ak _ ?_) ?_
 .induction aw:jR a aT using Bool.casesOn with
  |true=>rw[aw]at ab;exact ab
  |false=>rw[aw]at ab;exact ab
 .unfold kw at q;rw[<-DY (f:=aF.aW)]at q;exact q
theorem K8{a:aF}{aH:B}{aT:HO aF}(h:rV aH aT)(q:Q (.bool<|jR a aT) s):bc (n+5) 95 [a.aW,aH] s Q:=by
 induction a with
 |b a=>exact HQ h q
 |arr K=>
  k_go;show bw _ _ [.val<|.tup [.str [91],.tup<|K.map aM.aW],_,_,_,_] _ _;lk;refine ay.of (h.isin (s:=s)<|.arr K)<|bj.en (λm=>?_) λm=>?_
  .lk;rw[tP m]at q;exact q
  .lk;have af:jR (.arr K) aT=aT.any (Bs K):=by unfold jR;rw[eA m,Bool.false_or];rfl
   rw[af,<-WQ (f:=aF.aW)]at q;refine dg.comp rfl<|wB (N:=aT) (p:=Bs K) h.it (λa _ eM ab=>eO.mk ?_) ?_
   .induction a with
    |b a=>induction a<;>exact ab
    |arr aP=>
     lk;refine F' (A:=K.map .b) (aT:=aP.map .b) (by rw[Ct];rfl) (λa ak bV a'=>?_) ?_
     .obtain⟨b,_,rfl⟩:=dr.mp ak;clear ak;exact HQ (.inr<|by rw[Ct]) a'
     .rw[QE];replace ab:eM (if rF K aP=true then [aF.aW<|.arr aP]else []) s:=ab;induction aw:rF K aP using Bool.casesOn with
      |false=>rw[aw]at ab;exact ab
      |true=>rw[aw]at ab;exact ab
   .exact q
theorem Yv{arg aH:B}{A aT:HO aF}(aB:items arg=some (A.map aF.aW))(h:rV aH aT)(q:Q (.bool<|kw A aT) s):bc (n+6) 96 [arg,aH] s Q:=F' aB (λa _ bV a'=>K8 h a') q
def jx (z:cU) (p:cK) (Y:Ă) (x:bx):HO aF:=match ec x z with
 |none=>[.b .bB]
 |some e=>sI z Y (decide<|e.2.2=1)<|p.at<|.txt x
theorem Pz{p:cK}{Y:Ă}{fx x:bx}(ae:p.ok)(h:i7 z)(az:Y=0\/Y=1\/Y=2)(aA:x=[108,101,110,103,116,104]->fx=[123])(q:Q (.lst<|(jx z p Y x).map aF.aW) s):bc (n+5) 93 [p.aW,.int Y,.bb<|dI z,.str fx,.str x] s Q:=by
 have main:bw (n+4) [.iff (.cmp (.v 4) [(.fV,.v 2)]) [.ret<|.lst [.k<|.tup [.str [119],.str [117]]]] [],.ho [5,6]<|.ao (.v 2)<|.v 4,.ho [7,8]<|.call 85 [.call 92 [.call 80 [.v 0,.tup [.k<|.str [116],.v 4]],.v 2],.v 1,.v 6],.ret<|.bin .add (.v 7)<|.bin .mul (.lst [.k<|.tup [.str [119],.str [117]]])<|.v 8]
  [.val p.aW,.val<|.int Y,.val<|.bb<|dI z,.val<|.str fx,.val<|.str x,.un,.un,.un,.un] s (λcI _ ar=>Q cI.val ar):=by
  refine ay.of (show hC .fV s (.str x) (.bb<|dI z)=some (!(ec x z).isSome)from by show(qE s (.str x)<|.bb<|dI z).map (!·)=_;rw[BO];rfl) ?_
  induction a7:ec x z with
  |none=>
   have:jx z p Y x=[.b .bB]:=by unfold jx;rw[a7]
   rw[this]at q;exact q
  |some e=>
   have MG:jx z p Y x=sI z Y (decide<|e.2.2=1) (p.at<|.txt x):=by unfold jx;rw[a7]
   rw[MG]at q;have bF:au e.2.2=.int (if decide (e.2.2=1)=true then 1 else 0):=by rcases sk (Nat.lt_succ_of_le (h.k e (rL a7).1).2)with e|e<;>rw[e]<;>rfl
   have kW:=aI (cK.rM ae<|.txt x) (aG rfl:13<=20);refine ay.of (E8 a7)<|vo (k:=.txt x) ae<|Hh h rfl (aI kW<|aG rfl) (λaP cs=>aI (show aP.length<=12 from cK.fits ae (.txt x) _ cs)<|aG rfl) ?_;rw[bF];refine A' az ?_;lk;refine ay.of (a:=.lst<|(if fQ Y (decide<|e.2.2=1)=true then [aF.b .bB]else []).map aF.aW) ?_<|ay.of (lQ ?_) ?_
   .induction fQ Y (decide<|e.2.2=1)using Bool.casesOn<;>rfl
   .rw[bT,bT];refine aI (gI (aI (uL _ _ _)<|aI (sx _ 40 λa _=>AX h a)<|hf 40 kW) (?_:_<=1))<|aG rfl;induction fQ Y (decide<|e.2.2=1)using Bool.casesOn<;>exact aG rfl
   unfold sI at q;rw[cZ]at q;exact q
 by_cases dS:x=[108,101,110,103,116,104]
 .have aK:=aA dS;clear aA h ae az q;subst aK dS;k_go;exact main
 .k_go;exact bj.fm dS<|bj.fm dS main
end
def dw (v:B) (i:ā):B:=match v with|.tup l=>l.getD i .none|_=>.none
def zt (v:B):bx:=match v with|.str x=>x|_=>[]
def JZ (v:B):Ă:=match v with|.int i=>i|_=>0
def Ae (R:HO B) (s:ā):bv:=if mJ (R.getD s .none)=3 then .txt (zt<|dw (R.getD s .none) 1)else if s=6 then .S else .N
def MS (R:HO B) (p:ā) (v:B):aM:=if mJ v=3 then .txt (zt<|dw v 1)else if mJ v=4 then .num (JZ<|dw v 1)else if mJ v=15 then .ao (Ae R (JZ<|dw v 2).toNat)else if p=4 then .bB else if p=5 then .nul else if p=6 then .S else .N
theorem gE.dec{R:HO B}(T:Rows R){s:ā}{k:bv}(h:gE R s k):k=Ae R s:=by
 have key:∀v,R[s]?=some v->k=(if mJ v=3 then .txt (zt<|dw v 1)else if s=6 then .S else .N)->k=Ae R s:=λv e h=>by rw[<-show R.getD s .none=v from(lM ..).trans<|bI (Option.getD · _) e]at h;exact h
 induction k with
 |txt x=>exact key _ h rfl
 |S=>obtain rfl:s=6:=h;exact key _ (T.at rfl) rfl
 |N=>obtain rfl:s=7:=h;exact key _ (T.at rfl) rfl
theorem eQ.dec{R:HO B}(T:Rows R){p:ā}{a:aM}(h:eQ R p a):∃v,R[p]?=some v/\a=MS R p v/\Nat.beq (mJ v) 11=false:=by
 induction a with
 |txt x=>exact⟨_,h,rfl,rfl⟩
 |num x=>exact⟨_,h,rfl,rfl⟩
 |ao k=>obtain⟨s,G,E⟩:=h;exact⟨_,E,bI aM.ao<|G.dec T,rfl⟩
 |bB=>obtain rfl:p=4:=h;exact⟨_,T.at rfl,rfl,rfl⟩
 |nul=>obtain rfl:p=5:=h;exact⟨_,T.at rfl,rfl,rfl⟩
 |S=>obtain rfl:p=6:=h;exact⟨_,T.at rfl,rfl,rfl⟩
 |N=>obtain rfl:p=7:=h;exact⟨_,T.at rfl,rfl,rfl⟩
theorem eQ.Iz{R:HO B}(T:Rows R){p:ā}{a:aM}{v:B}{cS:Prop}(h:eQ R p a)(e:R[p]?=some v)(n:Nat.beq (mJ v) 11=true):cS:=by obtain⟨w,ag,-,a8⟩:=h.dec T;rw[cT<|e.symm.trans ag]at n;exact h7<|n.symm.trans a8
theorem eQ.inj{R:HO B}(T:Rows R){p:ā}{a b:aM}(h:eQ R p a)(aR:eQ R p b):a=b:=by obtain⟨v,ag,e,-⟩:=h.dec T;obtain⟨w,a8,bz,-⟩:=aR.dec T;rw[e,bz,cT<|ag.symm.trans a8]
theorem nS.VG{l:HO B}{w:Ă}(h:nS l w):Nat.beq (mJ<|.tup l) 6=false:=by induction h<;>rfl
theorem ek.det{R:HO B}{t:ā}{ai ce:HO ā}(h:ek R t ai)(aR:ek R t ce):ai=ce:=by
 have no:∀{ai ce:HO ā},ek R t ai->R[t]?=some (.tup [.int 6,.tup<|ce.map au])->ai≠[t]:=by rintro ai ce h e rfl;obtain⟨w,⟨⟨l,G,E⟩,-⟩,-⟩:=h.pt t<|.head _;have E:=E.VG;rw[<-cT (e.symm.trans G)]at E;exact h7 E
 rcases h.is with⟨rfl,e⟩|e|⟨_,ne,e⟩
 .exact(aR.two e).symm
 .rcases aR.is with⟨rfl,bz⟩|bz|⟨_,_,bz⟩
  .exact h.two bz
  .rw[e,bz]
  .exact absurd e<|no h bz
 .rcases aR.is with⟨rfl,bz⟩|bz|⟨_,_,bz⟩
  .exact absurd bz ne
  .exact absurd bz<|no aR e
  .rw[e]at bz;simp only[Option.some.injEq,B.tup.injEq,sc,and_true,true_and]at bz;exact(List.map_inj_right λa b h=>by have:(a:Ă)=b:=B.int.inj h;lia).mp bz
def sF(R:HO B)(t:ā)(aT:HO aM):Prop:=∀K,hY.Ty R t K->qP K aT
def qf(R:HO B)(t:ā)(aT:HO aF):Prop:=∀K,d7.Ty R t K->i_ K aT
structure rN(R:List B)(t:Nat):Prop where
 ex:∃K,d7.Ty R t K/\K.length<=16/\∀a∈K,a.fits
theorem GW{t:ā}{ai:HO ā}{P:ā->B->Prop}(T:Rows S.R)(a4:ek S.R t ai)(a7:∀p∈ai,∀bV:B->St->Prop,(∀v,P p v->bV v S.st)->bc n 78 [.ref 1,au p] S.st bV)(q:∀vs,bX P ai vs->Q (.lst vs) S.st):bc (n+1) 77 [.ref 1,au t] S.st Q:=by
 have hu:∀(lb iv d6:cq) (x:B),items x=some (ai.map au)->fk x [.val<|.ref 1,lb,iv,d6] S.st n (.call 78 [.v 0,.v 3]) false [3] [] Q:=by intro lb iv d6 x aB;refine fk.mp aB (λdone K=>∀cg,bX P done cg->K cg S.st) (λdone p a_ ag K ab cg al=>eO.mk ?_) (λcg al=>q cg al) λK ab=>ab [] .nil;lk;exact a7 p (by rw[ag];simp) _ λv af=>ab _<|al.snoc af
 k_go;rcases a4.is with⟨rfl,rfl⟩|rfl|⟨a,b,e⟩
 .have E:=T.at (t:=2) rfl;lk;exact q [] .nil
 .obtain⟨w,⟨⟨l,G,E⟩,aC⟩,_⟩:=a4.pt t<|.head _;lk;refine bj.fm (by lia) ?_;induction E<;>exact dg.oI (x:=.tup [au t]) rfl (λ_ h=>h)<|hu _ _ _ _ rfl
 .lk;exact bj.fm (by lia)<|dg.oI (x:=.tup<|ai.map au) rfl (λ_ h=>h)<|hu _ _ _ _ rfl
theorem T8{s:ā}{key:bv}(T:Rows S.R)(h:gE S.R s key)(q:Q key.aW S.st):bc (n+1) 78 [.ref 1,au s] S.st Q:=by
 have d5:=T.at (t:=6) rfl;have fp:=T.at (t:=7) rfl;k_go;induction key with
 |txt x=>have h:S.R[s]?=some (tQ x):=h;lk;exact q
 |S=>obtain rfl:s=6:=h;lk;exact q
 |N=>obtain rfl:s=7:=h;lk;exact q
theorem HI{p:ā}{a:aM}(T:Rows S.R)(h:eQ S.R p a)(q:Q a.aW S.st):bc (n+2) 78 [.ref 1,au p] S.st Q:=by
 have ba:=T.at (t:=4) rfl;have cN:=T.at (t:=5) rfl;have d5:=T.at (t:=6) rfl;have fp:=T.at (t:=7) rfl;k_go;induction a with
 |txt x=>have h:S.R[p]?=some (tQ x):=h;lk;exact q
 |num x=>have h:S.R[p]?=some (Co x):=h;lk;exact q
 |bB=>obtain rfl:p=4:=h;lk;exact q
 |nul=>obtain rfl:p=5:=h;lk;exact q
 |S=>obtain rfl:p=6:=h;lk;exact q
 |N=>obtain rfl:p=7:=h;lk;exact q
 |ao k=>obtain⟨s,aD,h⟩:=h;lk;exact T8 T aD q
theorem U7{t:ā}{dZ:HO aM}(T:Rows S.R)(h:hY.Ty S.R t dZ)(q:∀aT,sF S.R t aT->aT.length<=dZ.length->Q (.lst<|aT.map aM.aW) S.st):bc (n+3) 77 [.ref 1,au t] S.st Q:=by
 obtain⟨ai,u,i⟩:=id h;clear h;have dS:=db.Is.len T u.fx λp ae=>(i.to p ae).imp λa x=>⟨x.1,x.2.1⟩;refine GW (P:=λp v=>∃a,v=a.aW/\eQ S.R p a) T u (λp ae bV a'=>?_) λvs al=>?_
 .obtain⟨a,_,hq,_⟩:=i.to p ae;exact HI T hq<|a' _ ⟨a,rfl,hq⟩
 .have nb:∀{ai:HO ā} {vs:HO B},bX (λp v=>∃a,v=a.aW/\eQ S.R p a) ai vs->∃aT:HO aM,vs=aT.map aM.aW/\aT.length=ai.length/\∀p∈ai,∃a∈aT,eQ S.R p a:=by
   intro ai vs al;induction al with
   |nil=>exact⟨[],rfl,rfl,by simp⟩
   |cons x _ ap=>
    obtain⟨a,rfl,ak⟩:=x;obtain⟨aT,rfl,E,aC⟩:=ap;refine⟨a::aT,rfl,by simp[E],λp ae=>?_⟩;rcases ew.mp ae with rfl|ae
    .exact⟨a,.head _,ak⟩
    .obtain⟨b,aw,ml⟩:=aC p ae;exact⟨b,.tail _ aw,ml⟩
  obtain⟨aT,rfl,E,aC⟩:=nb al;clear al;refine q aT (λK ab a ak st=>?_) (by lia);obtain⟨dP,h5,pR⟩:=ab;obtain rfl:=u.det h5;obtain⟨p,ae,sd⟩:=pR.of a ak st;obtain⟨b,aw,w7⟩:=aC p ae;rwa[eQ.inj T sd w7]
theorem tv{t:ā}(T:Rows S.R)(h:rN S.R t)(q:∀aT,qf S.R t aT->aT.length<=16->(∀aP,aF.arr aP∈aT->aP.length<=12)->Q (.lst<|aT.map aF.aW) S.st):bc (n+5) 77 [.ref 1,au t] S.st Q:=by
 obtain⟨dZ,⟨ai,u,i⟩,sN,iX⟩:=h.ex;have dS:=db.Is.len T u.fx λp ae=>(i.to p ae).imp λa x=>⟨x.1,x.2.1⟩;refine GW (P:=λp v=>(∃a,v=a.aW/\eQ S.R p a)\/(dW λe aT=>hZ (v=(aF.arr aT).aW) (S.R[p]?=some (hH e 0)) (sF S.R e aT)<|aT.length<=12)) T u (λp ae bV a'=>?_) λvs al=>?_
 .obtain⟨a,ak,hq,_⟩:=i.to p ae;induction a with
  |b a=>exact HI T hq<|a' _<|.inl ⟨a,rfl,hq⟩
  |arr K=>obtain⟨e,a6,nD⟩:=hq;have rf:K.length<=12:=iX _ ak;k_go;lk;exact U7 T nD λaT eZ aj=>a' _<|.inr ⟨e,aT,rfl,a6,eZ,by lia⟩
 .have nb:∀{ai:HO ā} {vs:HO B},bX (λp v=>(∃a,v=a.aW/\eQ S.R p a)\/(dW λe aT=>hZ (v=(aF.arr aT).aW) (S.R[p]?=some (hH e 0)) (sF S.R e aT)<|aT.length<=12)) ai vs->
   ∃aT:HO aF,vs=aT.map aF.aW/\aT.length=ai.length/\(∀aP,aF.arr aP∈aT->aP.length<=12)/\∀p∈ai,(∃a,.b a∈aT/\eQ S.R p a)\/(dW λe aP=>dD (.arr aP∈aT) (S.R[p]?=some (hH e 0))<|sF S.R e aP):=by
   intro ai vs al
   induction al with
   |nil=>exact⟨[],rfl,rfl,by simp,by simp⟩
   |cons x _ ap=>
    obtain⟨aT,rfl,E,ba,aC⟩:=ap;have old:∀(c:aF) (p:ā),((∃a,.b a∈aT/\eQ S.R p a)\/(dW λe aP=>dD (.arr aP∈aT) (S.R[p]?=some (hH e 0))<|sF S.R e aP))->((∃a,.b a∈c::aT/\eQ S.R p a)\/(dW λe aP=>dD (.arr aP∈c::aT) (S.R[p]?=some (hH e 0))<|sF S.R e aP)):=by
     rintro c p(⟨a,ak,h⟩|⟨e,aP,ak,h,g⟩)
     .exact .inl ⟨a,.tail _ ak,h⟩
     .exact .inr ⟨e,aP,.tail _ ak,h,g⟩
    rcases x with⟨a,rfl,ak⟩|⟨e,aP,rfl,a6,cs,aj⟩
    .refine⟨.b a::aT,rfl,by simp[E],λaP cs=>?_,λp ae=>?_⟩
     .rcases ew.mp cs with e|cs
      .cases e
      .exact ba aP cs
     .rcases ew.mp ae with rfl|ae
      .exact .inl ⟨a,.head _,ak⟩
      .exact old _ p<|aC p ae
    .refine⟨.arr aP::aT,rfl,by simp[E],λe8 kS=>?_,λp ae=>?_⟩
     .rcases ew.mp kS with e|kS
      .cases e;exact aj
      .exact ba e8 kS
     .rcases ew.mp ae with rfl|ae
      .exact .inr ⟨e,aP,.head _,a6,cs⟩
      .exact old _ p<|aC p ae
  obtain⟨aT,rfl,E,ba,aC⟩:=nb al;clear al;refine q aT (λK ab a ak st=>?_) (by lia) ba;obtain⟨dP,h5,pR⟩:=ab;obtain rfl:=u.det h5;obtain⟨p,ae,sd⟩:=pR.of a ak st;rcases aC p ae with⟨b,aw,w7⟩|⟨e,aP,cs,a6,KG⟩
  .induction a with
   |b a=>show aF.b a∈aT;rwa[eQ.inj T (show eQ S.R p a from sd) w7]
   |arr eM=>obtain⟨e,a6,_⟩:=(show nv S.R p (.arr eM)from sd);exact w7.Iz T a6 rfl
  .induction a with
   |b a=>exact(show eQ S.R p a from sd).Iz T a6 rfl
   |arr eM=>
    obtain⟨bz,iu,nD⟩:=(show nv S.R p (.arr eM)from sd);rw[a6]at iu;have:e=bz:=by simp only[Option.some.injEq,B.tup.injEq,sc,B.int.injEq,Int.natCast_inj,and_true,true_and]at iu;exact iu
    subst this;exact⟨aP,cs,KG eM nD⟩
theorem Lk:∀i<20,Ak (dp (i:ā))=some i:=by decide+kernel
structure i0(ah:List aF):Prop where
 len:ah.length<=90
 arr:∀aP,aF.arr aP∈ah->aP.length<=12
theorem i0.bB{ah:HO aF}(h:i0 ah)(aj:ah.length<=89)(U:ZI):i0 (ah++if U=true then [.b .bB]else []):=by
 refine⟨?_,λaP cs=>?_⟩
 .rw[c'];exact(gI aj (by cases U<;>exact aG rfl):ah.length+(if U=true then [aF.b .bB]else []).length<=89+1)
 .rcases gd.mp cs with cs|cs
  .exact h.arr aP cs
  .split at cs
   .rw[cX]at cs;cases cs
   .cases cs
noncomputable abbrev nV (ah:HO aF):B:=.lst<|ah.map aF.aW
def wf (f:Ă):ZI:=decide (f=1)||decide (f=3)
def tR(R:HO B)(ce:HO c8)(dv du:Z5 (ā×Ă))(x:bx)(ah:HO aF):Prop:=dW λaT U=>ah=aT++(if U=true then [.b .bB]else [])/\((∃p∈ce,p.1=x/\qf R p.2.1 aT/\U=wf p.2.2.1)\/(U=true/\dW λu aV=>dv=some (u,aV)/\qf R u aT)\/(U=true/\lp x=true/\dW λu aV=>du=some (u,aV)/\qf R u aT))
def Ai (row x:B) (d6 eT c1 dj cY cv dF dG dQ:cq):aJ:=[.val<|.ref 1,.val row,.val x,d6,eT,c1,dj,cY,cv,dF,dG,dQ]
theorem Ji{es:HO (ā×Ă)}{ax:HO Ă}(h:es.map (·.2)=ax):(df es).flatMap uh=ax.map .int:=by
 rw[<-h];unfold df;clear h;induction es with
 |nil=>rfl
 |cons e es ap=>rw[gh,qF,ap];rfl
theorem JL(U:ZI):(if U=true then [aF.b .bB]else []).length<=1:=by induction U<;>decide
theorem Zl{e:ā}{aV:Ă}{x:bx}(T:Rows S.R)(h:rN S.R e)(q:∀aT,qf S.R e aT->i0 aT->Q (.lst [nV aT]) S.st):bc (n+6) 97 [.ref 1,hH e aV,.str x] S.st Q:=by k_go;exact tv T h λaT eZ G E=>q aT eZ ⟨f1 ‹_›,E⟩
theorem RY{es:HO (ā×Ă)}{aV:Ă}{i:ā}(T:Rows S.R)(nD:∀e∈es,rN S.R e.1)(aN:∀m∈es.map (·.2),m=0\/m=1\/m=2)(aj:es.length<=5)(aB:i<20)(b0:∀e aT,i<ca (es.map (·.2))->es[i]?=some e->qf S.R e.1 aT->i0 (aT++if decide (e.2=1)=true then [.b .bB]else [])->Q (.lst [nV<|aT++if decide (e.2=1)=true then [.b .bB]else []]) S.st)(bt:∀ah,¬i<ca (es.map (·.2))->i0 ah->(∀e∈es.drop (ca<|es.map (·.2)),∃aT,qf S.R e.1 aT/\∀a∈aT,a∈ah)->Q (.lst [nV ah]) S.st):bc (n+6) 97 [.ref 1,.tup [.int 12,.tup<|df es,.int aV],.str<|dp i] S.st Q:=by
 have jg:=yr<|es.map (·.2);rw[bT]at jg;generalize mA:es.map (·.2)=ax at*;k_go;refine dg.oI (x:=.tup<|df es) rfl (λ_ h=>h)<|pB (f:=uh) rfl ?_ ?_
 .intro v af bV a';obtain⟨e,a6,rfl⟩:=dr.mp af;clear af;exact eO.mk a'
 rw[Ji mA];refine bw.to (Ai (.tup [.int 12,.tup<|df es,.int aV]) (.str<|dp i) (.val<|.lst<|ax.map .int) (.val<|au<|ca ax) .un .un .un .un .un .un .un) S.st (λK ab=>?_) ?_
 .refine ay.of (show hC .isin S.st (.int 2) (.lst<|ax.map .int)=_ from tu 2 ax)<|bj.en (λh=>?_) λh=>?_
  .exact ay.of (C1 h) ab
  .rw[A3 ax h,<-bT (f:=B.int)]at ab;exact ab
 refine ay.of (show pb .int S.st [.str<|dp i]=some (au i)from by show(Ak<|dp i).map _=_;rw[Lk i aB];rfl) ?_;refine bj.en (λcW=>?_) λcW=>?_
 .replace cW:i<ca ax:=ix.mp cW;obtain⟨e,a6⟩:∃e,es[i]?=some e:=⟨_,fr<|gG cW jg⟩;have gi:ax[i]?=some e.2:=by rw[<-mA,gN,a6];rfl
  have A9:Internal.bin .mul (.lst [mH]) (.int e.2)=some (.lst<|(if decide (e.2=1)=true then [aF.b .bB]else []).map aF.aW):=by
   rcases aN e.2 (h9 gi)with h|h|h
   .rw[h];rfl
   .rw[h];rfl
   .exact absurd h<|zM gi cW
  refine ay.of (Ce a6)<|tv T (nD e<|h9 a6) λaT eZ G E=>ay.of (AB gi _)<|ay.of A9<|ay.of (lQ<|yz<|gI G<|JL _) ?_;have:=b0 e aT cW a6 eZ<|i0.bB ⟨f1 ‹_›,E⟩ (f1 ‹_›) _;unfold nV at this;rw[cZ]at this;exact this
 .replace cW:¬i<ca ax:=λh=>cW<|ix.mpr h;refine⟨by rw[ma];exact jg,?_⟩;rw[show(df es).drop (ca ax)=df (es.drop<|ca ax)by unfold df;rw[List.map_drop]];have o1:(es.drop<|ca ax).length<=5:=by rw[vB];exact aI (Nat.sub_le _ _) aj
  refine cF.mp rfl (λdone K=>∀ah cY cv,i0 ah->ah.length<=16*done.length->(∀e∈done,∃aT,qf S.R e.1 aT/\∀a∈aT,a∈ah)->K (Ai (.tup [.int 12,.tup<|df es,.int aV]) (.str<|dp i) (.val<|.lst<|ax.map .int) (.val<|au<|ca ax) (.val<|au i) (.ol<|ah.map aF.aW) cY cv .un .un .un) S.st) (λdone e a_ ag K ab ah cY cv cf jd aw=>?_) (λah cY cv cf _ aw=>bt ah cW cf aw) λK ab=>ab [] _ _ ⟨by simp,by simp⟩ (f8 _) (by simp);lk;refine tv T (nD e<|List.mem_of_mem_drop<|by rw[ag];simp) λaT eZ G E=>?_;have s1:=aI (gI jd G)<|tm 16 ag o1;refine⟨aI (yz s1)<|aG rfl,?_⟩;rw[<-cZ];refine ab _ _ _ ⟨by rw[c'];exact aI s1<|aG rfl,λaP cs=>(gd.mp cs).elim (cf.arr aP)<|E aP⟩ (by rw[c'];exact NO jd G) λbz iu=>?_;rcases gd.mp iu with iu|iu
  .exact(aw bz iu).imp λs0 h=>⟨h.1,λa ak=>kC _<|h.2 a ak⟩
  .rw[cX]at iu;rw[iu];exact⟨aT,eZ,λa ak=>iJ _ ak⟩
theorem OY{ce:HO c8}{dv du:Z5 (ā×Ă)}{x:bx}(T:Rows S.R)(nD:∀p∈ce,rN S.R p.2.1)(d5:∀u aV,dv=some (u,aV)->rN S.R u)(fp:∀u aV,du=some (u,aV)->rN S.R u)(a7:∀p∈ce,p.2.2.1=0\/p.2.2.1=1\/p.2.2.1=2\/p.2.2.1=3)(aj:ce.length<=10)(q:∀gk:HO (HO aF),(∀ah∈gk,i0 ah/\tR S.R ce dv du x ah)->Q (.lst<|gk.map nV) S.st):bc (n+6) 97 [.ref 1,hW ce (.tup []) dv du 0,.str x] S.st Q:=by
 have add:∀{gk:HO (HO aF)} {ah},(∀ah∈gk,i0 ah/\tR S.R ce dv du x ah)->i0 ah/\tR S.R ce dv du x ah->∀D∈gk++[ah],i0 D/\tR S.R ce dv du x D:=λh aR D b4=>(gd.mp b4).elim (h D) λb4=>cX.mp b4▸aR;have Jy:∀(aT:HO aF),aT.length<=16->Internal.bin .add (.lst<|aT.map aF.aW) (.lst [mH])=some (nV<|aT++[.b .bB]):=λaT eZ=>(lQ<|yz (f:=aF.aW) (b:=[.b .bB])<|dc eZ).trans<|bI (λl=>some<|B.lst l) cZ.symm;have dT:∀(gk:HO (HO aF)) (cY cv dF dG dQ d6 eT c1:cq),gk.length<=12->(∀ah∈gk,i0 ah/\tR S.R ce dv du x ah)->bw (n+5) [.iff (.an [.cmp (.ao (.v 1)<|.k<|.int 5) [(.ne,.tup [])],.call 94 [.v 2]]) [.app 6<|.bin .add (.call 77 [.v 0,.ao (.ao (.v 1)<|.k<|.int 5)<|.k<|.int 0])<|.lst [.k<|.tup [.str [119],.str [117]]]] [],.a5 6,.ret<|.v 6] (Ai (hW ce (.tup []) dv du 0) (.str x) d6 eT c1 (.ol<|gk.map nV) cY cv dF dG dQ) S.st (λcI _ ar=>Q cI.val ar):=by
  intro gk cY cv dF dG dQ d6 eT c1 jd cf;rcases du with _|⟨u,aV⟩
  .exact q gk cf
  .refine GF ?_;induction bg:lp x with
   |false=>exact q gk cf
   |true=>refine tv T (fp u aV rfl) λaT eZ G E=>ay.of (Jy aT G)<|⟨uH<|dc jd,?_⟩;have:=q (gk++[aT++[.b .bB]])<|add cf ⟨i0.bB (U:=true) ⟨f1 ‹_›,E⟩<|f1 ‹_›,aT,true,rfl,.inr<|.inr ⟨rfl,bg,u,aV,rfl,eZ⟩⟩;rw[cZ]at this;exact this
 k_go;refine dg.oI (x:=.tup<|ce.map fi) rfl (λ_ h=>h) (fk.mp rfl (λdone K=>∀gk:HO (HO aF),gk.length<=done.length->(∀ah∈gk,i0 ah/\tR S.R ce dv du x ah)->K (gk.map nV) S.st) (λdone p a_ ag K ab gk jd cf=>?_) (λgk jd cf=>?_) λK ab=>ab [] (dy _)<|by simp)
 .have ae:p∈ce:=by rw[ag];simp
  rw[c']at ab;refine eO.mk<|bj.en (λaA=>?_) λaA=>?_
  .refine tv T (nD p ae) λaT eZ G E=>?_;have A9:Internal.bin .mul (.lst [mH]) (.int<|Int.fmod p.2.2.1 2)=some (.lst<|(if wf p.2.2.1=true then [aF.b .bB]else []).map aF.aW):=by rcases a7 p ae with h|h|h|h<;>rw[h]<;>rfl
   lk;refine ay.of A9<|ay.of (lQ<|yz<|gI G<|JL _) ?_;have:=ab (gk++[aT++if wf p.2.2.1=true then [.b .bB]else []]) (by rw[c'];exact dc jd)<|add cf ⟨i0.bB ⟨f1 ‹_›,E⟩ (f1 ‹_›) _,aT,_,rfl,.inl ⟨p,ae,aA,eZ,rfl⟩⟩;rw[cZ,List.map_singleton]at this;unfold nV at this⊢;rw[cZ]at this;exact this
  .show K (_++[]) _;rw[ha];exact ab gk (iF jd) cf
 .replace jd:=aI jd aj;rcases dv with _|⟨u,aV⟩
  .exact dT gk _ _ _ _ _ .un .un .un (aI jd<|aG rfl) cf
  .refine tv T (d5 u aV rfl) λaT eZ G E=>ay.of (Jy aT G)<|⟨uH<|dc jd,?_⟩;have jU:=λcY cv dF dG dQ d6 eT c1=>dT (gk++[aT++[.b .bB]]) cY cv dF dG dQ d6 eT c1 (by rw[c'];exact aI (dc jd)<|aG rfl)<|add cf ⟨i0.bB (U:=true) ⟨f1 ‹_›,E⟩<|f1 ‹_›,aT,true,rfl,.inr<|.inl ⟨rfl,u,aV,rfl,eZ⟩⟩;rw[cZ]at jU;exact jU _ _ _ _ _ _ _ _
abbrev hx:=List<|HO aM×ā
def hL (r:hx):HO B:=r.map λe=>.tup [.lst<|e.1.map aM.aW,au e.2]
def j5 (w:ā) (es:hp):hx:=es.flatMap λe=>if e.2=2 then List.replicate w (e.1,0)else [(e.1,if e.2=1/\w=0 then 1 else 0)]
def kU (es:hp):HO hx:=[(es.filter λe=>decide<|e.2=0).map λe=>(e.1,0),j5 0 es,j5 1 es,j5 2 es]
def v8 (w:ā) (ax:HO Ă):HO ā:=ax.flatMap λm=>if m=2 then List.replicate w 0 else [if m=1/\w=0 then 1 else 0]
def vP (ax:HO Ă):HO (HO ā):=[(ax.filter λm=>decide<|m=0).map λ_=>0,v8 0 ax,v8 1 ax,v8 2 ax]
theorem Vc(w:ā)(es:hp):(j5 w es).map (·.2)=v8 w (es.map (·.2)):=by
 induction es with
 |nil=>rfl
 |cons e es ap=>
  show((if e.2=2 then List.replicate w (e.1,0)else [(e.1,if e.2=1/\w=0 then 1 else 0)])++j5 w es).map (λx:HO aM×ā=>x.2)=(if e.2=2 then List.replicate w 0 else [if e.2=1/\w=0 then 1 else 0])++v8 w (es.map λx:HO aM×Ă=>x.2);rw[cZ,ap];by_cases h:e.2=2
  .rw[bl h,bl h,List.map_replicate]
  .rw[bm h,bm h];rfl
theorem Nl(es:hp):(kU es).map (λr=>r.map (·.2))=vP (es.map (·.2)):=by
 unfold kU vP;have aU:((es.filter λe=>decide<|e.2=0).map λe=>((e.1,0):HO aM×ā)).map (·.2)=((es.map (·.2)).filter λm=>decide<|m=0).map λ_=>0:=by
  induction es with
  |nil=>rfl
  |cons e es ap=>
   rw[hM,gh,hM];split
   .rw[gh,gh,ap];rfl
   .exact ap
 simp only[gh,List.map_nil,Vc,aU]
theorem WR(es:hp):∀r∈kU es,∀e∈r,∃x∈es,e.1=x.1:=by
 have bF:∀w,∀e∈j5 w es,∃x∈es,e.1=x.1:=by
  intro w e a6;obtain⟨x,aA,a6⟩:=jV.mp a6;refine⟨x,aA,?_⟩;split at a6
  .rw[(List.mem_replicate.mp a6).2]
  .rw[cX.mp a6]
 intro r bn e a6;unfold kU at bn;simp only[ew,List.not_mem_nil,or_false]at bn;rcases bn with rfl|rfl|rfl|rfl
 .obtain⟨x,aA,rfl⟩:=dr.mp a6;clear a6;exact⟨x,(gx.mp aA).1,rfl⟩
 .exact bF _ e a6
 .exact bF _ e a6
 .exact bF _ e a6
def Kf (ax:HO Ă) (w:HO ā):ZI:=decide (w.length<=8)&&(w.all λx=>decide<|x<=1)&&(List.range 12).all λi=>if i<ca ax then(if i<w.length then !decide (w[i]?=some 1)||decide (ax[i]?=some 1)else decide (ax[i]?=some 1))else !decide (w[i]?=some 1)&&(!decide (i<w.length)||decide (ca ax<ax.length))
theorem Ws:(hk.all λax=>(vP ax).all<|Kf ax)=true:=by decide+kernel
def gj:ā->hx->cU
 |_,[]=>[]
 |i,e::r=>(dp (i:ā),e.1,e.2)::gj (i+1) r
theorem B_:∀i<20,∀j<20,dp (i:ā)=dp (j:ā)->i=j:=by decide+kernel
theorem Hw(r:hx):∀i:ā,(gj i r).length=r.length:=by
 induction r with
 |nil=>exact λ_=>rfl
 |cons e r ap=>exact λi=>bI Nat.succ<|ap<|i+1
theorem V3(e:HO aM×ā)(r:hx):∀i:ā,gj i (r++[e])=gj i r++[(dp ((i+r.length:ā):Ă),e.1,e.2)]:=by
 induction r with
 |nil=>exact λ_=>rfl
 |cons a r ap=>exact λi=>(bI (List.cons _)<|ap<|i+1).trans (by rw[nA,ro];rfl)
theorem Jd{i n:ā}(h:i+(n+1)<=20):i<20/\i+1+n<=20:=⟨gG (Nat.lt_add_of_pos_right<|n4 _) h,aI (fT<|ro _ _) h⟩
theorem Hl(r:hx):∀i j:ā,i+r.length<=20->i<=j->j<20->ec (dp (j:ā)) (gj i r)=(r[j-i]?).map λe=>(dp (j:ā),e.1,e.2):=by
 induction r with
 |nil=>exact λ_ _ _ _ _=>rfl
 |cons e r ap=>
  intro i j h li b_;have h:=Jd h;show(if dp (i:ā)=dp (j:ā)then some (dp (i:ā),e.1,e.2)else ec (dp (j:ā)) (gj (i+1) r))=_;by_cases c:i=j
  .rw[c,bl rfl,Nat.sub_self];rfl
  .have cW:=Nat.lt_of_le_of_ne li c;rw[bm λq=>c<|B_ i h.1 j b_ q,ap (i+1) j h.2 cW b_,(Nat.sub_add_cancel (Nat.sub_pos_of_lt cW):j-(i+1)+1=j-i).symm,List.getElem?_cons_succ];rfl
theorem yt(r:hx):∀(i:ā) (x:bx),x∈(gj i r).map (·.1)->∃j:ā,i<=j/\j<i+r.length/\x=dp (j:ā):=by
 induction r with
 |nil=>exact λ_ _ h=>nomatch h
 |cons e r ap=>
  intro i x h;cases h with
  |head=>exact⟨i,dy _,Nat.lt_add_of_pos_right<|n4 _,rfl⟩
  |tail _ h=>obtain⟨j,G,E,aC⟩:=ap (i+1) x h;exact⟨j,lg G,Nat.lt_of_lt_of_eq E<|ro _ _,aC⟩
theorem N4(r:hx):∀i:ā,i+r.length<=20->((gj i r).map (·.1)).Nodup:=by
 induction r with
 |nil=>exact λ_ _=>.nil
 |cons e r ap=>intro i h;have h:=Jd h;refine hV.mpr ⟨λq=>?_,ap (i+1) h.2⟩;obtain⟨j,G,E,aC⟩:=yt r (i+1) _ q;exact absurd (B_ i h.1 j (gG E h.2) aC)<|gK G
theorem Qd(r:hx):∀i:ā,∀e∈gj i r,∃x∈r,e.2=x:=by
 induction r with
 |nil=>exact λ_ _ h=>nomatch h
 |cons a r ap=>
  intro i e h;cases h with
  |head=>exact⟨a,.head _,rfl⟩
  |tail _ h=>obtain⟨x,G,E⟩:=ap (i+1) e h;exact⟨x,.tail _ G,E⟩
theorem Sn(z:cU)(e:bx×HO aM×ā):dI (z++[e])=dI z++[(.str e.1,.tup [.lst<|e.2.1.map aM.aW,au e.2.2])]:=by unfold dI;rw[cZ];rfl
theorem UK(z:cU):rX (dI z):=λp ae=>by obtain⟨m,_,rfl⟩:=dr.mp ae;clear ae;rfl
theorem xp{z:cU}{e:bx×HO aM×ā}(h:e.1∉z.map (·.1)):gW (.str e.1) (.tup [.lst<|e.2.1.map aM.aW,au e.2.2]) (dI z)=some (dI<|z++[e]):=by rw[Sn];refine yn rfl (UK z) λq=>?_;unfold dI at q;rw[f2]at q;obtain⟨a,ak,e'⟩:=dr.mp q;clear q;have:a.1=e.1:=B.str.inj e';exact h<|this▸fw (f:=λx:bx×HO aM×ā=>x.1) ak
def K_ (r:hx) (z:cU) (x:cq):aJ:=[.val<|.lst<|hL r,.od<|dI z,x]
theorem Mm{r:hx}(aj:r.length<=10)(q:Q (.bb<|dI<|gj 0 r) s):bc (n+1) 90 [.lst<|hL r] s Q:=by
 have E7:(hL r).length=r.length:=bT ..;k_go;lk;rw[E7];refine⟨rfl,h2<|f1 ‹_›,(by rw[tX,qN];exact aI aj<|aG rfl),?_⟩;refine cF.oY (len:=r.length) (kb _) (λi K=>∀x,K (K_ r (gj 0<|r.take i) x) s) (λi aB K ab x=>?_) (λx=>?_) λK ab=>ab _
 .have a6:r[i]?=some r[i]:=fr aB;have YZ:hn s (.lst<|hL r) (au i)=some (.tup [.lst<|r[i].1.map aM.aW,au r[i].2]):=by show(jH (i:Ă) (hL r).length).bind (λj=>(hL r)[j]?)=_;rw[E7,qr aB];show(r.map _)[i]?=_;rw[gN,a6];rfl
  have mg:i<20:=gG aB<|aI aj<|aG rfl;have uy:pb .str s [au i]=some (.str<|dp i):=by show(if small (i:Ă)then i3 (dp i).length (B.str<|dp i)else none)=_;rw[h2<|aI (j4 mg)<|aG rfl];exact bl<|aI (yA i<|gG mg<|aG rfl)<|aG rfl
  have Ic:(r.take i).length=i:=uk<|j4 aB;have oJ:gj 0 (r.take<|i+1)=gj 0 (r.take i)++[(dp (i:ā),r[i].1,r[i].2)]:=by rw[List.take_add_one,a6];show gj 0 (r.take i++[r[i]])=_;rw[V3,Ic,iM]
  have sr:dp (i:ā)∉(gj 0<|r.take i).map (·.1):=λq=>by obtain⟨j,G,E,aC⟩:=yt _ _ _ q;rw[Ic,iM]at E;exact absurd (B_ i mg j (rb E mg) aC)<|Nat.ne_of_gt E
  lk;refine ay.of YZ<|ay.of uy ⟨p4 _ _,ay.of (xp (e:=(dp (i:ā),r[i].1,r[i].2)) sr) ⟨?_,?_⟩⟩
  .rw[<-oJ];show(List.map _ _).length<=_;rw[bT,Hw,uk aB];exact aI (aI aB aj)<|aG rfl
  .lk;rw[<-oJ];exact ab _
 .rw[s'<|dy _];exact q
theorem IK{w:ā}{es:hp}(bF:w<=2):(j5 w es).length<=2*es.length:=sx _ 2 λx _=>by
 by_cases h:x.2=2
 .rw[bl h,u4];exact bF
 .rw[bm h];exact aG rfl
def xY (es:hp):hx:=(es.filter λe=>decide<|e.2=0).map λe=>(e.1,0)
theorem OD{es:hp}{e:HO aM×Ă}:hL (xY<|es++[e])=hL (xY es)++(if e.2=0 then [.tup [.lst<|e.1.map aM.aW,.int 0]]else []):=by
 unfold xY hL;rw[mv,cZ,cZ];by_cases h:e.2=0
 .rw[bl h,hM,bl<|dL h];rfl
 .rw[bm h,hM,bm<|by rw[eA h];exact dR];rfl
theorem LH{w:ā}{es:hp}{e:HO aM×Ă}:hL (j5 w<|es++[e])=hL (j5 w es)++hL (if e.2=2 then List.replicate w (e.1,0)else [(e.1,if e.2=1/\w=0 then 1 else 0)]):=by unfold j5 hL;rw[r7,cZ,te]
def Cb (es:hp) (na:HO hx) (iv d6 eT c1 dj cY:cq):aJ:=[.val<|.lst<|ql es,.ol<|na.map λr=>.lst<|hL r,iv,d6,eT,c1,dj,cY]
theorem Q'{es:hp}(aj:es.length<=5)(q:Q (.lst<|(kU es).map λr=>.lst<|hL r) s):bc (n+1) 89 [.lst<|ql es] s Q:=by
 k_go;refine dg.comp rfl<|fk.mp (all:=es) (f:=λe=>.tup [.lst<|e.1.map aM.aW,.int e.2]) rfl (λdone K=>K (hL<|xY done) s) (λdone e a_ ag K ab=>?_) ?_ λK ab=>ab
 .rw[OD]at ab;refine eO.mk<|bj.en (λh=>?_) λh=>?_
  .rw[bl h]at ab;exact ab
  .rw[bm h]at ab;exact ab
 .refine⟨rfl,rfl,by decide,cF.oY (len:=3) (kb 3) (λi K=>∀iv d6 eT c1 dj cY,K (Cb es ((kU es).take<|i+1) iv d6 eT c1 dj cY) s) (λw bF K ab iv d6 eT c1 dj cY=>?_) (λiv d6 eT c1 dj cY=>q) λK ab=>ab _ _ _ _ _ _⟩;have sJ:=Nat.le_of_lt_succ bF;have oJ:(kU es).take (w+1+1)=(kU es).take (w+1)++[j5 w es]:=by
   induction w using Nat.casesOn with
   |zero=>rfl
   |succ w=>induction w using Nat.casesOn with
    |zero=>rfl
    |succ w=>rw[Nat.le_zero.mp<|uq<|uq sJ];rfl
  refine cF.mp (all:=es) rfl (λdone K=>∀eT c1,K (Cb es ((kU es).take<|w+1) (.val<|au w) (.ol<|hL<|j5 w done) eT c1 dj cY) s) (λdone e a_ ag K ab eT c1=>?_) (λeT c1=>?_) λK ab=>ab _ _
  .have dS:(hL<|j5 w done).length<=10:=by show(List.map _ _).length<=_;rw[bT];exact aI (IK sJ)<|hf 2<|lg<|oD ag aj
   have zO:(hL<|j5 w done).length+1<=a3:=aI (dc dS)<|aG rfl;rw[LH]at ab;refine bj.en (λE=>?_) λE=>?_
   .rw[bl E]at ab;refine ay.of (AO (o:=w) (aI sJ<|aG rfl) _) ⟨by rw[u4];exact aI (gI dS sJ)<|aG rfl,?_⟩;lk;unfold hL at ab⊢;rw[List.map_replicate]at ab;exact ab _ _
   .rw[bm E]at ab;refine bj.en (λG=>?_) λG=>?_
    .refine bj.en (λaU=>?_) λaU=>?_
     .rw[bl ⟨G,pa.mp aU⟩]at ab;refine⟨zO,?_⟩;lk;exact ab _ _
     .rw[bm λx=>aU<|pa.mpr x.2]at ab;refine⟨zO,?_⟩;lk;exact ab _ _
    .rw[bm λx=>G x.1]at ab;refine bj.fm G ⟨zO,?_⟩;lk;exact ab _ _
  .refine⟨by rw[bT];exact aI (dc (List.length_take_le' ..))<|aG rfl,?_⟩;lk;rw[oJ]at ab;unfold Cb at ab;rw[cZ]at ab;exact ab _ _ _ _ _ _
abbrev kc:=cU×bx
def pz (c:kc):B:=.tup [.bb<|dI c.1,.str c.2]
theorem SS{es:hp}(aj:es.length<=5):∀r∈kU es,r.length<=10:=by
 have bF:∀w≤2,(j5 w es).length<=10:=λw bF=>aI (IK bF)<|hf 2 aj;intro r bn;cases bn with
 |head=>rw[bT];exact aI (ms _ _)<|aI aj<|aG rfl
 |tail _ bn=>cases bn with
  |head=>exact bF 0<|aG rfl
  |tail _ bn=>cases bn with
   |head=>exact bF 1<|aG rfl
   |tail _ bn=>cases bn with
    |head=>exact bF 2<|aG rfl
    |tail _ bn=>exact nomatch bn
theorem Mr{t aV:ā}{es:hp}(aj:es.length<=5)(q:Q (.lst<|((kU es).map λr=>((gj 0 r,[91]):kc)).map pz) s):bc (n+2) 88 [.bb<|kt t es aV] s Q:=by k_go;refine dg.ny rfl<|Q' aj<|fk.mp (all:=kU es) (f:=λr=>.lst<|hL r) rfl (λdone K=>K ((done.map λr=>((gj 0 r,[91]):kc)).map pz) s) (λdone r a_ ag K ab=>?_) q λK ab=>ab;rw[cZ,cZ]at ab;exact eO.mk<|Mm (SS aj r<|by rw[ag];exact iJ _<|.head _) ab
def gX (P:bP->ZI) (f:bP->ā) (M:HO bP):cU:=(M.filter P).map λm=>(m.nm,m.K,f m)
def wR (m:bP):ZI:=decide<|m.h=0
def oj (m:bP):ZI:=decide (m.h=0)&&decide (m.o=0)
noncomputable abbrev sS:=gX wR bP.o
noncomputable abbrev re:=gX wR λ_=>0
noncomputable abbrev pc:=gX oj λ_=>0
def lL (M:HO bP):HO bx:=(M.filter oj).map bP.nm
theorem LU{P:bP->ZI}{f:bP->ā}{M:HO bP}{m:bP}(h:P m=true):gX P f (M++[m])=gX P f M++[(m.nm,m.K,f m)]:=by unfold gX;rw[mv,cZ,hM,bl h];rfl
theorem x'{P:bP->ZI}{f:bP->ā}{M:HO bP}{m:bP}(h:P m=false):gX P f (M++[m])=gX P f M:=by unfold gX;rw[mv,hM,bm (by rw[h];exact dR),List.filter_nil,ha]
theorem PU{M:HO bP}{m:bP}(h:oj m=true):(lL<|M++[m]).map ep=(lL M).map ep++[ep m.nm]:=by unfold lL;rw[mv,cZ,hM,bl h,cZ];rfl
theorem Jn{M:HO bP}{m:bP}(h:oj m=false):lL (M++[m])=lL M:=by unfold lL;rw[mv,hM,bm (by rw[h];exact dR),List.filter_nil,ha]
theorem y0{P:bP->ZI}{f:bP->ā}{M:HO bP}:(gX P f M).length<=M.length:=by unfold gX;rw[bT];exact ms _ _
structure q9(M:List bP)(c:kc):Prop where
 ok:i7 c.1
 told:∀m∈M,l5 m=true->(∃e,ec m.nm c.1=some e/\(e.2.2=1->m.o=1))\/(ec m.nm c.1=none/\m.o=1)
 len:c.2=[123]\/∀e∈c.1,e.1≠[108,101,110,103,116,104]
theorem Xw{x:bx}{l:cU}:x∉l.map (·.1)->ec x l=none:=by
 induction l with
 |nil=>exact λ_=>rfl
 |cons e l ap=>exact λh=>(bm λq=>h<|by rw[<-q];exact .head _).trans<|ap λq=>h<|.tail _ q
theorem zS{P:bP->ZI}{f:bP->ā}{M:HO bP}{x:bx}{m:bP}(aA:m.nm=x):(M.map (·.nm)).Nodup->m∈M->ec x (gX P f M)=if P m=true then some (m.nm,m.K,f m)else none:=by
 induction M with
 |nil=>exact λ_ h=>nomatch h
 |cons a M ap=>
  intro b7 aN;have b7:=hV.mp b7;have DM:P a=false->gX P f (a::M)=gX P f M:=λh=>bI (List.map _) (List.filter_cons_of_neg<|by rw[h];exact dR);have FG:P a=true->gX P f (a::M)=(a.nm,a.K,f a)::gX P f M:=λh=>bI (List.map _)<|List.filter_cons_of_pos h;cases aN with
  |head=>
   induction ae:P m using Bool.casesOn with
   |true=>rw[FG ae,bl rfl];exact bl aA
   |false=>rw[DM ae,bm dR];refine Xw λq=>b7.1 ?_;obtain⟨e,a6,G⟩:=dr.mp q;obtain⟨y,a1,E⟩:=dr.mp a6;show m.nm∈_;rw[aA,<-G,<-E];exact fw (f:=λm:bP=>m.nm) (gx.mp a1).1
  |tail _ aN=>
   rw[<-ap b7.2 aN];induction ae:P a using Bool.casesOn with
   |true=>rw[FG ae];exact bm (λe=>b7.1 (by show a.nm∈_;rw[e,<-aA];exact fw (f:=λm:bP=>m.nm) aN):¬a.nm=x)
   |false=>rw[DM ae]
theorem I3{x:bx}{e:bx×HO aM×ā}(h:x≠e.1){z:cU}:ec x (z++[e])=ec x z:=by
 induction z with
 |nil=>exact bm λq=>h q.symm
 |cons a z ap=>exact bI (λy=>if a.1=x then some a else y) ap
theorem yM{P:bP->ZI}{f:bP->ā}{M:HO bP}{x:bx}(h:x∈(gX P f M).map (·.1)):∃m∈M,m.nm=x:=by obtain⟨e,a6,G⟩:=dr.mp h;obtain⟨y,a1,E⟩:=dr.mp a6;exact⟨y,(gx.mp a1).1,by rw[<-G,<-E]⟩
theorem F6{P:bP->ZI}{f:bP->ā}{M:HO bP}(b7:(M.map (·.nm)).Nodup)(aj:M.length<=4)(eL:∀m∈M,m.ok)(a7:∀m∈M,f m<=1):i7 (gX P f M):=by
 refine⟨?_,aI y0<|aI aj<|aG rfl,λx aA=>?_⟩
 .unfold gX;rw[f2];exact(List.filter_sublist.map _).nodup b7
 .obtain⟨m,aN,rfl⟩:=dr.mp aA;have kz:=(gx.mp aN).1;exact⟨(eL m kz).K.len,a7 m kz⟩
theorem Ez{P:bP->ZI}{f:bP->ā}{M:HO bP}(b7:(M.map (·.nm)).Nodup)(aj:M.length<=4)(eL:∀m∈M,m.ok)(a7:∀m∈M,f m<=1){e:bx×HO aM×ā}(a6:e.1∉iK)(aD:e.2.1.length<=3/\e.2.2<=1):i7 (gX P f M++[e]):=by
 have h:=F6 (P:=P) b7 aj eL a7;refine⟨?_,?_,λx aA=>?_⟩
 .rw[cZ,nc];refine⟨h.b7,hV.mpr ⟨λq=>(nomatch q),.nil⟩,λa ak c aq q=>?_⟩;obtain⟨m,aN,ag⟩:=yM ak;refine a6 ?_;rw[<-show c=e.1 from cX.mp aq,<-q,<-ag];exact(eL m aN).nm
 .rw[c'];exact dc<|aI y0<|aI aj<|aG rfl
 .rcases gd.mp aA with aA|aA
  .exact h.k x aA
  .rw[cX.mp aA];exact aD
theorem ta{m:bP}(h:l5 m=true):m.h=0/\ij m.nm=false:=by unfold l5 at h;simpa using h
theorem A8(z:cU):(dI z).length=z.length:=bT ..
theorem bw.J_{i:ā}{e:a2}{l:HO dE}{r:aJ}{s:St}{Q:cj->aJ->St->Prop}(G:∀K:B->St->Prop,(∀b,K (.bool b) s)->dg n e r s K)(E:∀b,bw n l (r.set i<|.val<|.bool b) s Q):bw n (.set i e::l) r s Q:=G _ E
theorem Em{p:bx->ZI}{N:HO bx}(h:((((N.filter λx=> !p x).map ep).length:ā):Ă)=0):∀x∈N,p x=true:=λx aA=>by
 have h:=pa.mp h;rw[bT,y6]at h;induction ae:p x using Bool.casesOn with
 |true=>rfl
 |false=>exact nomatch (h▸gx.mpr ⟨aA,by rw[ae];rfl⟩:x∈([]:HO bx))
theorem EC{p:bx->ZI}{N:HO bx}{t:B->St->(HO B->St->Prop)->Prop}(h:∀x (K:HO B->St->Prop),K (if p x=true then []else [ep x]) s->t (ep x) s K)(q:Q (.lst<|(N.filter λx=> !p x).map ep) s):j2 t Q (.lst<|N.map ep) s:=by
 refine fk.mp (all:=N) (f:=ep) rfl (λdone K=>K ((done.filter λx=> !p x).map ep) s) (λdone x a_ ag K ab=>h x _ ?_) q λK ab=>ab;rw[mv,cZ,hM]at ab;induction ae:p x using Bool.casesOn with
 |true=>rw[ae]at ab;exact ab
 |false=>rw[ae]at ab;exact ab
noncomputable abbrev t6 (M:HO bP):HO kc:=[(sS M,[123]),(re M++[([122],[.txt [97]],0)],[123]),(pc M++[([55],[.num 1],0)],[123])]
def zJ (x:bx):ZI:=decide<|x=[108,101,110,103,116,104]
def w2 (x:bx):ZI:=decide (([108,101,110,103,116,104]:bx)=x)||(decide (([48]:bx)=x)||false)
section
variable{M:HO bP}(eL:∀m∈M,m.ok)
include eL
theorem CJ:∀m∈M,m.o<=1:=λm aN=>by have:=(eL m aN).o;exact oU ‹_›
theorem EO{p:bx->ZI}(ae:∀x,ij x=false->p x=false)(gb:∀x∈lL M,p x=true):∀m∈M,l5 m=true->m.o=1:=by
 intro m aN dX;obtain⟨aU,sh⟩:=ta dX;by_cases az:m.o=0
 .have:=gb _<|fw (f:=bP.nm)<|gx.mpr ⟨aN,lm (dL aU)<|dL az⟩;rw[ae _ sh]at this;exact cH this
 .exact vz (CJ eL m aN)<|Nat.pos_of_ne_zero az
theorem Q1(gb:∀x∈lL M,zJ x=true):q9 M ([],[116,101,120,116]):=⟨⟨.nil,f8 _,λ_ h=>nomatch h⟩,λm aN dX=>.inr ⟨rfl,EO eL (λx aA=>(pG.mp aA).1) gb m aN dX⟩,.inr λe a6=>nomatch a6⟩
theorem U6{jN:HO aM}(vZ:jN.length<=3)(gb:∀x∈lL M,w2 x=true):q9 M ([([48],jN,0)],[91]):=by
 refine⟨⟨hV.mpr ⟨λq=>(nomatch q),.nil⟩,aG rfl,λe a6=>by rw[cX.mp a6];exact⟨vZ,f8 _⟩⟩,λm aN dX=>.inr ⟨?_,EO eL (λx aA=>?_) gb m aN dX⟩,.inr λe a6 q=>?_⟩
 .refine bm λe=>?_;have:=(ta dX).2;rw[<-e]at this;exact h7 this
 .have:=Dw x;rw[aA]at this;simp only[Bool.not_false,kn,pG]at this;unfold w2;rw[this.1,this.2.1];rfl
 .rw[cX.mp a6]at q;cases q
variable(b7:(M.map (·.nm)).Nodup)(aj:M.length<=4)
include b7 aj
theorem WB:∀c∈t6 M,q9 M c:=by
 have hz:([122]:bx)∉iK:=by decide
 have fp:([55]:bx)∉iK:=by decide
 intro c aq;cases aq with
 |head=>exact⟨F6 b7 aj eL<|CJ eL,λm aN dX=>.inl ⟨_,(zS rfl b7 aN).trans<|bl<|dL (ta dX).1,id⟩,.inl rfl⟩
 |tail _ aq=>cases aq with
  |head=>exact⟨Ez b7 aj eL (λ_ _=>f8 _) hz ⟨aG rfl,f8 _⟩,λm aN dX=>.inl ⟨(m.nm,m.K,0),(I3 (e:=([122],[.txt [97]],0)) λe=>hz<|by rw[<-show m.nm=[122]from e];exact(eL m aN).nm).trans<|(zS rfl b7 aN).trans<|bl<|dL (ta dX).1,λe=>nomatch e⟩,.inl rfl⟩
  |tail _ aq=>
   rw[cX.mp aq];refine⟨Ez b7 aj eL (λ_ _=>f8 _) fp ⟨aG rfl,f8 _⟩,λm aN dX=>?_,.inl rfl⟩;have w_:=(I3 (z:=pc M) (e:=([55],[.num 1],0)) λe=>fp<|by rw[<-show m.nm=[55]from e];exact(eL m aN).nm).trans<|zS rfl b7 aN;by_cases aU:m.o=0
   .exact .inl ⟨(m.nm,m.K,0),w_.trans<|bl<|lm (dL (ta dX).1)<|dL aU,λe=>nomatch e⟩
   .exact .inr ⟨w_.trans (bm<|by unfold oj;rw[eA aU,sw];exact dR),vz (CJ eL m aN)<|Nat.pos_of_ne_zero aU⟩
end
def EP (o:HO (B×B)) (W F H:cU) (N:HO B) (b:ZI) (jN:HO aM) (cY cv dF dG dQ dt:cq) (b1:HO B):aJ:=[.val<|.bb o,.val<|.bb<|dI W,.val<|.bb<|dI F,.val<|.bb<|dI H,.val<|.bool b,.val<|.lst<|jN.map aM.aW,.ol N,cY,cv,dF,dG,dQ,dt,.ol b1,.un,.un,.un]
theorem bw.EI{Jl:Type}{c:dE}{l:HO dE}{r:aJ}{s:St}{Q:cj->aJ->St->Prop}(p:Jl->Prop)(f:Jl->aJ)(G:∀K:cj->aJ->St->Prop,(∀i,p i->K .go (f i) s)->nx n c r s K)(E:∀i,p i->bw n l (f i) s Q):bw n (c::l) r s Q:=G _ E
def DH (o:HO (B×B)) (W F H:cU) (N:HO B) (b:ZI) (jN:HO aM) (cY cv dF dG dQ dt:cq):aJ:=[.val<|.bb o,.od<|dI W,.od<|dI F,.od<|dI H,.val<|.bool b,.val<|.lst<|jN.map aM.aW,.ol N,cY,cv,dF,dG,dQ,dt,.un,.un,.un,.un]
theorem Nh{t fq dH:ā}{M:HO bP}{ai:HO c8}{cA cV:hA}(eL:∀m∈M,m.ok)(b7:(M.map (·.nm)).Nodup)(aj:M.length<=4)(q:∀b1:HO kc,(∀c∈b1,q9 M c)->Q (.lst<|b1.map pz) s):bc (n+1) 88 [.bb<|m2 t fq M ai cA cV dH] s Q:=by
 k_go;refine bw.SX (by exact⟨rfl,rfl⟩)<|bw.zL<|bw.zL<|bw.zL<|bw.J_ (λK ab=>?_) λN_=>?_
 .rcases cA with _|⟨dZ,Zz⟩<;>rcases cV with _|⟨H3,hr⟩<;>(repeat'(refine bj.both ?_ ?_));all_goals exact ab _
 refine cF.mp (all:=M) (f:=bP.aW) rfl (λdone K=>∀b (jN:HO aM) cY cv dF dG dQ dt,jN.length<=3->K (DH (m2 t fq M ai cA cV dH) (sS done) (re done) (pc done) ((lL done).map ep) b jN cY cv dF dG dQ dt) s) (λdone m a_ ag K ab b jN cY cv dF dG dQ dt vZ=>?_) (λb jN cY cv dF dG dQ dt vZ=>?_) λK ab=>ab N_ [.txt [97]] _ _ _ _ _ _<|aG rfl
 .have aN:m.ok:=eL m (by rw[ag];exact iJ _<|.head _);have IQ:=oD ag aj;have new:∀{P f},m.nm∉(gX P f done).map (·.1):=λh=>by obtain⟨y,a1,e⟩:=yM h;rw[ag,cZ,nc]at b7;exact b7.2.2 _ (fw (f:=λm:bP=>m.nm) a1) m.nm (.head _) e
  have cC:∀{P:bP->ZI} {f:bP->ā},P m=true->gW (.str m.nm) (.tup [.lst<|m.K.map aM.aW,au<|f m]) (dI<|gX P f done)=some (dI<|gX P f<|done++[m]):=λh=>by rw[LU h];exact xp (e:=(m.nm,m.K,_)) new
  have ng:∀{P:bP->ZI} {f:bP->ā},(dI<|gX P f<|done++[m]).length<=a3:=λ{P f}=>(λh=>aI (fT<|A8 _)<|aI h<|aG rfl) (aI y0<|by rw[c'];exact IQ);refine bw.to (DH (m2 t fq M ai cA cV dH) (sS<|done++[m]) (re<|done++[m]) (pc<|done++[m]) ((lL<|done++[m]).map ep) b jN (.val<|.str m.nm) (.val<|.lst<|m.K.map aM.aW) (.val<|au m.o) (.val<|au m.aV) (.val<|au m.w)<|.val<|au m.h) s (λK ab=>?_)<|bw.J_ (λK ab=>?_) λeD=>?_
  .refine bj.en (λcd=>?_) λcd=>?_
   .have aU:wR m=true:=dL<|pa.mp cd;refine⟨p4 _ _,ay.of (cC (f:=bP.o) aU) ⟨ng,⟨p4 _ _,ay.of (cC (f:=λ_=>0) aU) ⟨ng,bj.en (λaz=>?_) λaz=>?_⟩⟩⟩⟩
    .have G:oj m=true:=lm aU<|dL<|pa.mp az;rw[PU G]at ab;exact⟨p4 _ _,ay.of (cC (f:=λ_=>0) G) ⟨ng,⟨aI (dc<|aI (fT (bT ..))<|aI (fT (bT ..))<|ms _ _)<|aI IQ<|aG rfl,ab⟩⟩⟩
    .have G:oj m=false:=by unfold oj;rw[eA λx=>az<|pa.mpr x,sw]
     rw[pc,x' G,Jn G]at ab;exact ab
   .have aU:wR m=false:=eA λx=>cd<|pa.mpr x;have G:oj m=false:=by unfold oj;rw[show decide (m.h=0)=false from aU,Bool.false_and]
    rw[sS,re,pc,x' aU,x' aU,x' G,Jn G]at ab;exact ab
  .have iB:hC .isin s (.tup [.str [119],.str [78]]) (.lst<|m.K.map aM.aW)=some (decide<|aF.b .N∈m.K.map aF.b):=by have:=Cv (.b .N)<|m.K.map aF.b;rw[Ct]at this;exact this
   induction b with
   |false=>exact ab _
   |true=>exact bj.both (bj.both (ab _)<|ay.of iB<|ab _)<|ab _
  .refine bj.both ?_ ?_
   .exact ab eD m.K _ _ _ _ _ _ aN.K.len
   .exact ab eD jN _ _ _ _ _ _ vZ
 .have gD:([122]:bx)∉(re M).map (·.1):=λh=>by obtain⟨m,aN,e⟩:=yM h;exact absurd (eL m aN).nm (by rw[e];decide)
  have lA:([55]:bx)∉(pc M).map (·.1):=λh=>by obtain⟨m,aN,e⟩:=yM h;exact absurd (eL m aN).nm (by rw[e];decide)
  have ng:∀{P:bP->ZI} {f:bP->ā} {e},(dI<|gX P f M++[e]).length<=a3:=λ{P f e}=>by rw[A8,c'];exact aI (dc<|aI y0 aj)<|aG rfl
  refine⟨p4 _ _,ay.of (xp (e:=([122],[.txt [97]],0)) gD) ⟨ng,⟨p4 _ _,ay.of (xp (e:=([55],[.num 1],0)) lA) ⟨ng,kV.go<|bw.AF rfl<|bw.AF rfl<|bw.AF rfl<|bw.Tb (by exact⟨rfl,rfl⟩)<|bw.EI (λb1:HO kc=>b1.length<=4/\∀c∈b1,q9 M c) (λb1=>EP (m2 t fq M ai cA cV dH) (sS M) (re M++[([122],[.txt [97]],0)]) (pc M++[([55],[.num 1],0)]) ((lL M).map ep) b jN cY cv dF dG dQ dt<|b1.map pz) (λK ab=>?_) λb1 ju=>bw.EI (λb1:HO kc=>∀c∈b1,q9 M c) (λb1=>EP (m2 t fq M ai cA cV dH) (sS M) (re M++[([122],[.txt [97]],0)]) (pc M++[([55],[.num 1],0)]) ((lL M).map ep) b jN cY cv dF dG dQ dt<|b1.map pz) (λK ab=>?_) q⟩⟩⟩⟩
  .have GS:=WB eL b7 aj;have HH:=ab (t6 M) ⟨aG rfl,GS⟩;induction b with
   |false=>exact HH
   |true=>
    refine dg.comp rfl<|EC (p:=zJ) (λx K ab=>eO.mk ?_) ?_
    .induction aA:zJ x with
     |true=>rw[aA]at ab;exact bj.h4 (bI not aA) ab
     |false=>rw[aA]at ab;exact bj.l3 (bI not aA) ab
    .refine bj.en (λhz=>?_) λhz=>HH;exact⟨aG rfl,ab (t6 M++[([],[116,101,120,116])]) ⟨aG rfl,λc aq=>(gd.mp aq).elim (GS c) λh=>by rw[cX.mp h];exact Q1 eL<|Em hz⟩⟩
  .have pC:=ab b1 ju.2;induction b with
   |false=>exact pC
   |true=>
    refine dg.comp rfl<|EC (p:=w2) (λx K ab=>eO.mk ?_) ?_
    .induction aA:w2 x with
     |true=>rw[aA]at ab;exact bj.h4 (bI not aA) ab
     |false=>rw[aA]at ab;exact bj.l3 (bI not aA) ab
    .refine bj.en (λhz=>?_) λhz=>pC;refine⟨by rw[bT];exact aI (dc ju.1)<|aG rfl,?_⟩;have ab:=ab (b1++[([([48],jN,0)],[91])]) λc aq=>(gd.mp aq).elim (ju.2 c) λh=>by rw[cX.mp h];exact U6 eL vZ<|Em hz
     rw[cZ]at ab;exact ab
def o4 (Y:Ă):HO aF:=if Y=2 then [.b .bB]else []
def pN(S:dz)(n:ā)(row:B)(p:cK)(Y:Ă)(z:cU)(fx x:bx):Prop:=(x=[108,101,110,103,116,104]->fx=[123])/\∀bV:B->St->Prop,(∀gk:HO (HO aF),(∀ah∈gk,i0 ah/\kw (jx z p Y x) (i2 z ah++o4 Y)=true)->bV (.lst<|gk.map nV) S.st)->bc n 97 [.ref 1,row,.str x] S.st bV
def yK (ce:HO c8) (z:cU):HO bx:=z.map (·.1)++(ce.map (·.1)).filter λx=> !(ec x z).isSome
def sG (eC:ā) (z:cU):HO bx:=z.map (·.1)++(List.range<|eC-z.length).map λi=>dp ((z.length+i:ā):Ă)
def z5 (row:B) (p:cK) (Y:Ă) (b1:HO kc) (c1 dj cY cv dF dG dQ dt dU dV dd gu fa:cq):aJ:=[.val<|.ref 1,.val row,.val p.aW,.val<|.int Y,.val<|.lst<|b1.map pz,c1,dj,cY,cv,dF,dG,dQ,dt,dU,dV,dd,gu,fa]
def yb (row:B) (p:cK) (Y:Ă) (b1:HO kc) (z:cU) (fx:bx) (aP:HO bx) (cv dF dG dQ dt dU dV dd gu fa:cq):aJ:=z5 row p Y b1 (.val<|.bb<|dI z) (.val<|.str fx) (.val<|.lst<|aP.map ep) cv dF dG dQ dt dU dV dd gu fa
theorem T1{Y:Ă}:(o4 Y).length<=1:=by unfold o4;split<;>decide
theorem OQ{row:B}{p:cK}{Y:Ă}{b1:HO kc}{z:cU}{fx:bx}{aP:HO bx}{K:aJ->St->Prop}{Z:cj->aJ->St->Prop}(ae:p.ok)(az:Y=0\/Y=1\/Y=2)(hz:i7 z)(cs:∀x∈aP,pN S (n+7) row p Y z fx x)(ab:∀cv dF dG dQ dt dU dV dd gu fa,K (yb row p Y b1 z fx aP cv dF dG dQ dt dU dV dd gu fa) S.st)(cv dF dG dQ dt dU dV dd gu fa:cq):bw (n+7) [.for false [10] (.v 7) [.set 11<|.call 93 [.v 2,.v 3,.v 5,.v 6,.v 10],.for false [12] (.call 97 [.v 0,.v 1,.v 10]) [.iff (.not (.call 96 [.v 11,.bin .add (.call 92 [.v 12,.v 5])<|.bin .mul (.lst [.k<|.tup [.str [119],.str [117]]])<|.bin .fdiv (.v 3)<|.k<|.int 2])) [.ret<|.k<|.bool false] []]]] (yb row p Y b1 z fx aP cv dF dG dQ dt dU dV dd gu fa) S.st (mS K Z):=by refine cF.mp rfl (λ_ K=>∀cv dF dG dQ dt dU dV dd gu fa,K (yb row p Y b1 z fx aP cv dF dG dQ dt dU dV dd gu fa) S.st) (λdone x a_ ag K ab cv dF dG dQ dt dU dV dd gu fa=>?_) ab λK h=>h _ _ _ _ _ _ _ _ _ _;obtain⟨Wb,Vu⟩:=cs x (by rw[ag];simp);refine Pz ae hz az Wb<|Vu _ λgk yD=>cF.mp rfl (λ_ K=>∀dt,K (yb row p Y b1 z fx aP cv dF (.val<|.str x) (.val<|.lst<|(jx z p Y x).map aF.aW) dt dU dV dd gu fa) S.st) (λdone ah a_ a8 K ab dt=>?_) (λ_=>ab _ _ _ _ _ _ _ _ _ _) λK h=>h _;obtain⟨cf,My⟩:=yD ah (by rw[a8];simp);refine Hh hz rfl (aI cf.len<|aG rfl) (λe8 kS=>aI (cf.arr e8 kS)<|aG rfl) ?_;refine ay.of (show Internal.bin .fdiv (.int Y) (.int 2)=some (.int<|Int.fdiv Y 2)from by rcases az with h|h|h<;>rw[h]<;>rfl) ?_;refine ay.of (show Internal.bin .mul (.lst [mH]) (.int<|Int.fdiv Y 2)=some (.lst<|(o4 Y).map aF.aW)from by rcases az with h|h|h<;>rw[h]<;>rfl) ?_;refine ay.of (a:=.lst<|(i2 z ah++o4 Y).map aF.aW) (by rw[cZ];exact bl<|by rw[bT,bT];exact aI (gI (aI (sx _ 40 λa _=>AX hz a:(i2 z ah).length<=40*ah.length)<|hf 40 cf.len) T1)<|aG rfl) ?_;refine Yv (A:=jx z p Y x) (aT:=i2 z ah++o4 Y) rfl (.inl rfl) ?_;rw[My];exact ab _
theorem NB{row:B}{p:cK}{Y:Ă}{b1:HO kc}{N:cU->HO bx}(T:Rows S.R)(ae:p.ok)(az:Y=0\/Y=1\/Y=2)(rx:(dW λe aV=>row=hH e aV/\∀z,N z=z.map (·.1))\/(dW λes aV=>dD (row=.tup [.int 12,.tup<|df es,.int aV]) ((N=sG (ca<|es.map (·.2))))<|es.length<=5)\/(dJ λce dv du=>dD (row=hW ce (.tup []) dv du 0) (N=yK ce)<|ce.length<=10))(ju:∀c∈b1,i7 c.1/\∀x∈N c.1,pN S (n+7) row p Y c.1 c.2 x)(q:Q (.bool true) S.st):bc (n+8) 98 [.ref 1,row,p.aW,.int Y,.lst<|b1.map pz] S.st Q:=by
 k_go;refine cF.mp rfl (λ_ K=>∀c1 dj cY cv dF dG dQ dt dU dV dd gu fa,K (z5 row p Y b1 c1 dj cY cv dF dG dQ dt dU dV dd gu fa) S.st) (λdone c a_ ag K ab c1 dj cY cv dF dG dQ dt dU dV dd gu fa=>?_) (λ_ _ _ _ _ _ _ _ _ _ _ _ _=>q) λK h=>h _ _ _ _ _ _ _ _ _ _ _ _ _;obtain⟨hz,c_⟩:=ju c (by rw[ag];simp);have Ah:=hz.len;have go:=λcv dF dG dQ dt dU dV dd gu fa Z=>OQ (b1:=b1) (K:=K) (Z:=Z) ae az hz c_ (ab _ _ _) cv dF dG dQ dt dU dV dd gu fa;refine dg.comp rfl<|pB (f:=λv=>[v]) (Ja c.1) (λv af ZU Sc=>eO.mk Sc) ?_;rw[show((c.1.map (·.1)).map ep).flatMap (λv=>[v])=(c.1.map (·.1)).map ep by simp];rcases rx with⟨e,aV,rfl,uw⟩|⟨es,aV,rfl,uw,iW⟩|⟨ce,dv,du,rfl,uw,mK⟩
 .rw[uw]at go;exact go _ _ _ _ _ _ _ _ _ _ _
 .have jg:ca (es.map (·.2))<=5:=aI (yr _) (by rw[bT];exact iW);rw[uw]at go;unfold sG at go;refine dg.oI (x:=.tup<|df es) rfl (λ_ h=>h)<|pB (f:=uh) rfl ?_ ?_
  .intro v af bV a';obtain⟨e,a6,rfl⟩:=dr.mp af;clear af;exact eO.mk a'
  rw[Ji rfl];generalize es.map (·.2)=ax at*;refine bw.to (z5 (.tup [.int 12,.tup<|df es,.int aV]) p Y b1 (.val<|.bb<|dI c.1) (.val<|.str c.2) (.ol<|(c.1.map (·.1)).map ep) (.val<|.lst<|ax.map .int) (.val<|au<|ca ax) dG dQ dt dU dV dd gu fa) S.st (λK ab=>?_) ?_
  .refine ay.of (show hC .isin S.st (.int 2) (.lst<|ax.map .int)=_ from tu 2 ax)<|bj.en (λh=>?_) λh=>?_
   .exact ay.of (C1 h) ab
   .rw[A3 ax h,<-bT (f:=B.int)]at ab;exact ab
  refine dg.ny rfl ?_;lk;rw[A8];have zA:ca ax-c.1.length<=5:=aI (Nat.sub_le _ _) jg;refine⟨h2<|f1 ‹_›,h2<|f1 ‹_›,by rw[Int.toNat_sub];exact aI zA<|aG rfl,?_⟩;refine pB (bO:=(List.range<|ca ax-c.1.length).map λi=>au<|c.1.length+i) (f:=λv=>match v with|.int i=>[.str<|dp i]|_=>[]) (by show some _=some _;rw[Int.toNat_sub];rfl) ?_ ?_
  .intro v af bV a';obtain⟨i,PF,rfl⟩:=dr.mp af;clear af;have aB:c.1.length+i<15:=Nat.add_lt_add_of_le_of_lt Ah<|gG (lE.mp PF) zA;refine eO.mk ?_;lk;refine ay.of (a:=.str<|dp ((c.1.length+i:ā):Ă)) ?_ a';show(if small ((c.1.length+i:ā):Ă)then i3 (dp ((c.1.length+i:ā):Ă)).length (B.str<|dp ((c.1.length+i:ā):Ă))else none)=_;rw[h2<|oU aB,bl<|by rfl];exact bl<|aI (yA _<|uE aB)<|aG rfl
  .have Dy:((List.range<|ca ax-c.1.length).map λi=>au<|c.1.length+i).flatMap (λv=>match v with|.int i=>[B.str<|dp i]|_=>[])=((List.range<|ca ax-c.1.length).map λi=>dp ((c.1.length+i:ā):Ă)).map ep:=by
    generalize List.range (ca ax-c.1.length)=l;induction l with
    |nil=>rfl
    |cons a l ap=>rw[gh,qF,ap];rfl
   rw[Dy];refine⟨by rw[bT,bT,bT,bT,sQ];exact aI (gI Ah zA)<|aG rfl,?_⟩;rw[<-cZ];exact go _ _ _ _ _ _ _ _ _ _ _
 .rw[uw]at go;unfold yK at go;refine dg.oI (x:=.tup<|ce.map fi) rfl (λ_ h=>h)<|fk.mp rfl (λdone K=>K (((done.map (·.1)).filter λx=> !(ec x c.1).isSome).map ep) S.st) (λdone m a_ ag K ab=>?_) ?_ λK h=>h
  .rw[cZ,mv,cZ,List.map_singleton,hM]at ab;refine eO.mk ?_;lk;refine ay.of (show hC .fV S.st (.str m.1) (.bb<|dI c.1)=some (!(ec m.1 c.1).isSome)from by show(qE S.st (.str m.1)<|.bb<|dI c.1).map (!·)=_;rw[BO];rfl) ?_;generalize(ec m.1 c.1).isSome=b at ab;induction b with
   |true=>exact ab
   |false=>exact ab
  .have mq:=ms (λx=> !(ec x c.1).isSome)<|ce.map (·.1);rw[bT]at mq;refine⟨by rw[bT,bT,bT];exact aI (gI Ah<|aI mq mK)<|aG rfl,?_⟩;rw[<-cZ];exact go _ _ _ _ _ _ _ _ _ _ _
theorem j6.refl(z:cU)(K:HO aM):j6 z K K:=λa ak=>by
 induction a with
 |ao k=>exact⟨k,ak,λ_ h=>h⟩
 |_=>exact .inl ak
theorem j6.of{z:cU}{aP K:HO aM}(h:∀a∈aP,a∈K)(no:xn aP):j6 z aP K:=λa ak=>by
 induction a with
 |ao k=>exact absurd ak<|no k
 |_=>exact .inl<|h _ ak
theorem Gv{p:cK}(ae:p.good){z:cU}{x:bx}{e:bx×HO aM×ā}(a7:ec x z=some e){k:bv}(aD:k=.S\/(k=.N/\lp x=true)):j6 z (p.ik.at<|.txt x) (p.ik.at k):=by
 have aw:=ae.ik;obtain⟨a6,Zx⟩:=rL a7;induction QG:p.ik with
 |own=>
  intro a ak;obtain rfl:a=.ao (.txt x):=cX.mp ak;refine⟨k,cX.mpr rfl,λu a4=>?_⟩;have ou:u∈jZ e:=by
   have:qy z (.txt x)=jZ e:=by show(match ec x z with|none=>[aM.bB]|some e=>jZ e)=_;rw[a7]
   rw[this]at a4;exact a4
  have:u∈z.flatMap jZ:=jV.mpr ⟨e,a6,ou⟩;rcases aD with rfl|⟨rfl,_⟩<;>exact this
 |key=>
  intro a ak;obtain rfl:a=.txt x:=cX.mp ak;rcases aD with rfl|⟨rfl,bg⟩
  .exact .inr<|.inl<|cX.mpr rfl
  .exact .inr<|.inr ⟨cX.mpr rfl,bg⟩
 |fix K=>exact j6.refl z K
 |tab dZ ez d0=>
  rw[QG]at aw;obtain⟨aU,ak,aK,_,FU,HX⟩:=aw;have pC:(hX.tab dZ ez d0).at k=d0:=by rcases aD with rfl|⟨rfl,_⟩<;>rfl
  rw[pC];show j6 z (if [48]=x then dZ else if [97]=x then ez else d0) d0;split
  .exact j6.of FU<|rm aU.oV
  .split
   .exact j6.of HX<|rm ak.oV
   .exact j6.refl z d0
theorem JN{z:cU}{aP K:HO aM}(h:j6 z aP K)(c:ā):nh z (gC c aP) (gC c K):=by
 have e5:c%2=0->∀b∈K,aF.b b∈gC c K:=λaq b aw=>by unfold gC;rw[bm<|by lia];exact kC _<|fw aw
 intro a ak a4;unfold gC at ak;rcases gd.mp ak with ak|ak
 .split at ak
  .rename_i aq;rw[cX]at ak;subst ak;exact⟨K,by unfold gC;rw[bl aq];exact .head _,h⟩
  .rename_i aq;obtain⟨b,aw,rfl⟩:=dr.mp ak;clear ak;have G:=h b aw;have eN:c%2=0:=by lia
   induction b with
   |ao k=>obtain⟨iL,E,aC⟩:=G;exact⟨iL,e5 eN _ E,aC⟩
   |txt x=>exact G.imp (e5 eN _) λy=>y.imp (e5 eN _) λw=>⟨e5 eN _ w.1,w.2⟩
   |num i=>exact G.imp (e5 eN _)<|e5 eN _
   |bB=>exact absurd rfl a4
   |nul=>exact .inl<|e5 eN _<|G.resolve_right id
   |S=>exact .inl<|e5 eN _<|G.resolve_right id
   |N=>exact .inl<|e5 eN _<|G.resolve_right id
 .split at ak
  .rw[cX]at ak;exact absurd ak a4
  .cases ak
theorem SW{z:cU}{aP K:HO aM}(h:j6 z aP K)(c:ā)(m:aF.b .bB∈gC c aP):aF.b .bB∈gC c K:=by
 unfold gC at m⊢;rcases gd.mp m with m|m
 .split at m
  .rw[cX]at m;cases m
  .rename_i aq;obtain⟨b,aw,e⟩:=dr.mp m;clear m;cases e;rw[bm aq];exact kC _<|fw<|(h _ aw).resolve_right id
 .exact iJ _ m
theorem nh.mono{z:cU}{aP K eM:HO aF}(h:nh z aP K)(m:∀a∈K,a≠.b .bB->a∈eM):nh z aP eM:=by
 intro a ak a4;have G:=h a ak a4;induction a with
 |arr e8=>obtain⟨H3,E,aC⟩:=G;exact⟨H3,m _ E (λe=>by cases e),aC⟩
 |b a=>
  induction a with
  |ao k=>obtain⟨iL,E,aC⟩:=G;exact⟨iL,m _ E (λe=>by cases e),aC⟩
  |txt x=>exact G.imp (λy=>m _ y a4) λy=>y.imp (λy=>m _ y<|λe=>by cases e) λw=>⟨m _ w.1 (λe=>by cases e),w.2⟩
  |num i=>exact G.imp (λy=>m _ y a4) (λy=>m _ y<|λe=>by cases e)
  |bB=>exact absurd rfl a4
  |nul=>exact .inl<|m _ (G.resolve_right id) a4
  |S=>exact .inl<|m _ (G.resolve_right id) a4
  |N=>exact .inl<|m _ (G.resolve_right id) a4
theorem Jv{p:cK}(ae:p.good){z:cU}{x:bx}{e:bx×HO aM×ā}(a7:ec x z=some e){k:bv}(aD:k=.S\/(k=.N/\lp x=true)):nh z (p.at<|.txt x) (p.at k)/\(aF.b .bB∈p.at (.txt x)->aF.b .bB∈p.at k):=⟨JN (Gv ae a7 aD) _,SW (Gv ae a7 aD) _⟩
theorem nh.refl(z:cU)(p:cK)(k:bv):nh z (p.at k) (p.at k):=JN (j6.refl z _) _
theorem EN{K:HO aF}:∀a∈K,a≠.b .bB->a∈a_ K:=λa ak a4=>gx.mpr ⟨ak,by simp[a4]⟩
theorem Gd{Y:Ă}{fN:ZI}{K:HO aF}:∀a∈K,a≠.b .bB->a∈fD Y fN K:=by
 intro a ak a4;have bn:=EN a ak a4;unfold fD;split
 .split
  .exact ak
  .exact bn
 .split
  .exact bn
  .exact ak
theorem PL{Y:Ă}{K:HO aF}:∀a∈K,a≠.b .bB->a∈fE Y K:=by
 intro a ak a4;unfold fE;split
 .exact kC _ ak
 .split
  .exact EN a ak a4
  .exact ak
theorem Lw{Y:Ă}{K:HO aF}:∀a∈K,a≠.b .bB->a∈jz Y K:=by
 intro a ak a4;unfold jz;split
 .exact kC _ ak
 .exact ak
theorem Dt:∀i<20,lp (dp (i:ā))=true:=by decide+kernel
theorem wT{z:cU}{p:cK}{Y:Ă}{x:bx}{e:bx×HO aM×ā}(h:ec x z=some e):jx z p Y x=sI z Y (decide<|e.2.2=1) (p.at<|.txt x):=by unfold jx;rw[h]
theorem Cw{z:cU}{p:cK}{Y:Ă}{x:bx}(h:ec x z=none):jx z p Y x=[.b .bB]:=by unfold jx;rw[h]
theorem Vp{z:cU}{x:bx}(h:x∈z.map (·.1)):∃e,ec x z=some e:=by
 induction z with
 |nil=>exact nomatch h
 |cons a z ap=>
  show∃e,(if a.1=x then some a else ec x z)=some e;by_cases c:a.1=x
  .exact⟨a,bl c⟩
  .rw[bm c];exact ap<|(ew.mp h).resolve_left λq=>c q.symm
theorem E9{Y:Ă}(h:fQ Y false=true):Y=1:=fj (((lW _ _).mp h).elim id λh=>by rw[sw]at h;exact cH h)
theorem J'{Y:Ă}{a b:ZI}(h:fQ Y a=true)(k:a=true->b=true):fQ Y b=true:=by
 induction a with
 |true=>rw[k rfl];exact h
 |false=>exact(lW _ _).mpr<|.inl<|dL<|E9 h
theorem E5{Y:Ă}(az:Y=0\/Y=1\/Y=2):fQ Y true=true\/Y=2:=by
 rcases az with rfl|rfl|rfl
 .exact .inl rfl
 .exact .inl rfl
 .exact .inr rfl
theorem T9{b:ZI}{p:Prop}[Decidable p]{f:Ă}(e:f=(if b=true then 1 else 0)+if p then 2 else 0):(f=0\/f=1\/f=2\/f=3)/\wf f=b:=by
 rw[e];by_cases h:p
 .rw[bl h];induction b with
  |true=>exact⟨.inr<|.inr<|.inr rfl,rfl⟩
  |false=>exact⟨.inr<|.inr<|.inl rfl,rfl⟩
 .rw[bm h];induction b with
  |true=>exact⟨.inr<|.inl rfl,rfl⟩
  |false=>exact⟨.inl rfl,rfl⟩
def WF(R:HO B)(p:cK)(Y:Ă)(M:HO bP)(q:c8):Prop:=∃m∈M,hZ (l5 m=true) (q.1=m.nm) ((q.2.2.1=0\/q.2.2.1=1\/q.2.2.1=2\/q.2.2.1=3)/\wf q.2.2.1=fQ Y (decide<|m.o=1))<|d7.Ty R q.2.1<|fD Y (decide<|m.o=1)<|p.at<|.txt q.1
theorem jf.prop{R:HO B}{p:cK}{Y aH:Ă}{M:HO bP}{b' bR dv du:Z5 (ā×Ă)}{t:ā}{ce:HO c8}(to:jf R p.at Y aH (iV M) b' bR t ce dv du)(eL:∀m∈M,m.ok):∀q∈ce,WF R p Y M q:=λq a'=>by
 obtain⟨_,b,aw,G,E,aC⟩:=to.to q a';obtain⟨m,aN,e⟩:=dr.mp aw;obtain⟨aN,dX⟩:=gx.mp aN;rw[<-e]at G E aC;replace E:q.2.2.1=qK Y aH (kl m):=E;replace aC:d7.Ty R q.2.1 (fD Y (rq<|kl m)<|p.at<|.txt q.1):=by rw[show q.1=m.nm from G];exact aC
 unfold qK at E;rw[(Cs m<|eL m aN).1]at E aC;exact⟨m,aN,dX,G,T9 E,aC⟩
theorem k_.ty{R:HO B}{Y aH:Ă}{K:HO aF}{a b:Z5 (ā×Ă)}{u:ā}{aV:Ă}(h:k_ R Y aH K a b)(e:b=some (u,aV)):d7.Ty R u (jz Y K):=by
 induction a using Option.casesOn with
 |none=>exact bY<|(show b=none from h).symm.trans e
 |some a=>obtain⟨v,G,E⟩:=h;rw[<-(Prod.mk.inj<|cT<|G.symm.trans e).1];exact E
theorem H_{R:HO B}{p:cK}{Y:Ă}{k:bv}{u:ā}(ae:p.ok)(h:d7.Ty R u (jz Y<|p.at k)):rN R u:=⟨_,h,aI (EG<|cK.rM ae k)<|aG rfl,FX<|cK.fits ae k⟩
section
variable{z:cU}{p:cK}{Y:Ă}{x:bx}{aT:HO aF}{U:ZI}(az:Y=0\/Y=1\/Y=2)
include az
theorem PR{m:bP}(told:(∃e,ec x z=some e/\(e.2.2=1->m.o=1))\/(ec x z=none/\m.o=1))(sO:i_ (fD Y (decide<|m.o=1)<|p.at<|.txt x) aT)(lG:U=fQ Y (decide<|m.o=1)):kw (jx z p Y x) (mZ z Y aT U)=true:=by
 rw[lG];rcases told with⟨e,a6,bF⟩|⟨a6,bF⟩
 .rw[wT a6];refine yV az ((nh.refl z p<|.txt x).mono Gd) sO (λaK=>.inl<|J' aK λh=>dL<|bF<|fj h) λaU L6 cs=>?_;rw[aU];induction bg:decide (m.o=1)with
  |true=>exact .inl rfl
  |false=>exact .inr cs
 .rw[Cw a6,dL bF];rw[dL bF]at sO;exact B0 sO<|(E5 az).imp id .inr
theorem G1{k:bv}(ae:p.good)(aD:k=.S\/(k=.N/\lp x=true))(q_:(∃e,ec x z=some e)\/ec x z=none)(sO:i_ (jz Y<|p.at k) aT)(lG:U=true):kw (jx z p Y x) (mZ z Y aT U)=true:=by
 rcases q_ with⟨e,a6⟩|a6
 .rw[wT a6];exact yV az ((Jv ae a6 aD).1.mono Lw) sO (λ_=>.inl lG)<|λ_ _ _=>.inl lG
 .rw[Cw a6];exact B0 sO<|.inl lG
end
theorem VN{n:ā}{S:dz}{p:cK}{Y aH:Ă}{M:HO bP}{cA cV:hA}{t:ā}{ce:HO c8}{dv du:Z5 (ā×Ă)}{c:kc}(T:Rows S.R)(ae:p.good)(az:Y=0\/Y=1\/Y=2)(eL:∀m∈M,m.ok)(mK:ce.length<=10)(to:jf S.R p.at Y aH (iV M) (be cA) (be cV) t ce dv du)(aq:q9 M c):∀x∈yK ce c.1,pN S (n+6) (hW ce (.tup []) dv du 0) p Y c.1 c.2 x:=by
 have xf:=to.prop eL;intro x aA;have q_:(∃e,ec x c.1=some e)\/(ec x c.1=none/\∃q∈ce,q.1=x):=(gd.mp aA).imp Vp λaA=>by
  obtain⟨G,E⟩:=gx.mp aA;refine⟨?_,dr.mp G⟩;induction a7:ec x c.1 using Option.casesOn with
  |none=>rfl
  |some e=>rw[a7]at E;exact cH E
 refine⟨λdS=>?_,λbV eR=>OY T (λq a'=>?_) (λu aV e=>H_ ae.ok<|to.six.ty e) (λu aV e=>H_ ae.ok<|to.r6.ty e) (λq a'=>?_) mK λgk yD=>eR gk λah cf=>⟨(yD ah cf).1,?_⟩⟩
 .rcases q_ with⟨e,a6⟩|⟨_,q,a',e⟩
  .obtain⟨G,E⟩:=rL a6;exact aq.len.elim id λh=>absurd (E.trans dS)<|h e G
  .obtain⟨m,aN,dX,G,_⟩:=xf q a';have:=(ta dX).2;rw[<-G,e,dS]at this;exact h7 this
 .obtain⟨m,aN,dX,G,E,aC⟩:=xf q a';exact⟨_,aC,aI (uL _ _ _)<|aI (cK.rM ae.ok _)<|aG rfl,λa ak=>cK.fits ae.ok _ a<|u9 a ak⟩
 .obtain⟨m,aN,dX,G,E,aC⟩:=xf q a';exact E.1
 .obtain⟨aT,U,e,eZ⟩:=(yD ah cf).2;rw[e];show kw (jx c.1 p Y x) (mZ c.1 Y aT U)=true;rcases eZ with⟨q,a',Kh,aw,lG⟩|eZ
  .obtain⟨m,aN,dX,G,E,aC⟩:=xf q a';have told:=aq.told m aN dX;rw[<-G,Kh]at told;rw[Kh]at aC;exact PR az told (aw _ aC)<|lG.trans E.2
  .replace q_:=q_.imp id And.left;rcases eZ with⟨lG,u,aV,e,aw⟩|⟨lG,bg,u,aV,e,aw⟩
   .exact G1 az ae (.inl rfl) q_ (aw _<|to.six.ty e) lG
   .exact G1 az ae (.inr ⟨rfl,bg⟩) q_ (aw _<|to.r6.ty e) lG
def oB (Y:Ă) (ax:HO Ă):HO Ă:=xJ (pn Y ax) 0<|t2 Y (ca ax) 0 ax
def wj (Y:Ă) (ax:HO Ă):ZI:=decide (ca (oB Y ax)=ca ax)&&(oB Y ax).all (λm=>decide (m=0)||(decide (m=1)||decide (m=2)))&&(decide (ax=[2])|| !decide (oB Y ax=[2]))
theorem X_:(hk.all λax=>wj 0 ax&&(wj 1 ax&&wj 2 ax))=true:=by decide+kernel
theorem HC{Y:Ă}{ax:HO Ă}(az:Y=0\/Y=1\/Y=2)(ae:ax∈hk):ca (oB Y ax)=ca ax/\(∀m∈oB Y ax,m=0\/m=1\/m=2)/\(ax≠[2]->oB Y ax≠[2]):=by
 have aw:wj Y ax=true:=by
  have:=d'.mp X_ ax ae;simp only[eX]at this;rcases az with er|er|er<;>rw[er]
  .exact this.1
  .exact this.2.1
  .exact this.2.2
 unfold wj at aw;simp only[eX,lW,kn,jT,mD,d']at aw;exact⟨aw.1.1,aw.1.2,λh=>aw.2.resolve_left h⟩
theorem H0(Y:Ă)(F:bv->HO aF)(ax:HO Ă):(j0 Y F ax).map (·.2)=oB Y ax:=by unfold j0 oB;rw[LQ,AZ]
theorem Cx{ax:HO Ă}(ae:ax∈hk){w:HO ā}(bF:w∈vP ax):w.length<=8/\(∀x∈w,x<=1)/\∀i<12,(i<ca ax->(i<w.length->w[i]?=some 1->ax[i]?=some 1)/\(¬i<w.length->ax[i]?=some 1))/\(¬i<ca ax->w[i]?≠some 1/\(i<w.length->ca ax<ax.length)):=by
 have aw:=d'.mp (d'.mp Ws ax ae) w bF;unfold Kf at aw;simp only[eX,jT,d',lE]at aw;refine⟨aw.1.1,aw.1.2,λi aB=>?_⟩;have h:=aw.2 i aB;constructor
 .intro a7;rw[bl a7]at h;constructor
  .intro aj G;rw[bl aj]at h;simpa[G]using h
  .intro aj;rw[bm aj]at h;simpa using h
 .intro a7;rw[bm a7]at h;simp only[eX,lW,kn,mD,jT]at h;exact⟨h.1,λaj=>h.2.resolve_left λx=>x aj⟩
structure ua(ax:List Int)(r:hx):Prop where
 k:∀e∈r,e.1.length<=3
 m:r.map (·.2)∈vP ax
theorem ua.slt{ax:HO Ă}{r:hx}(h:ua ax r)(ae:ax∈hk):i7 (gj 0 r):=by obtain⟨G,E,_⟩:=Cx ae h.m;rw[bT]at G;refine⟨N4 r 0 (by lia),by rw[Hw];exact f1 ‹_›,λe a6=>?_⟩;obtain⟨x,aA,a8⟩:=Qd r 0 e a6;rw[a8];exact⟨h.k x aA,E _<|fw (f:=λe:HO aM×ā=>e.2) aA⟩
theorem Kl{i:ā}(aB:i<20):dp (i:ā)≠[108,101,110,103,116,104]:=λe=>by have:=Dt i aB;rw[e]at this;exact cH this
def p_ (Y:Ă) (F:bv->HO aF) (eC i:ā) (m:Ă):g3:=if i<eC then(fD Y (decide<|m=1)<|F<|.txt<|dp i,if fQ Y (decide<|m=1)=true then 1 else 0)else(fE Y<|F .N,m)
theorem zn(Y:Ă)(F:bv->HO aF)(eC len i:ā)(m:Ă):h6 Y F eC len i m=((p_ Y F eC i m).1++[.b .bB],0)\/h6 Y F eC len i m=p_ Y F eC i m:=by
 show(if(p_ Y F eC i m).2=1/\eC+1<len then _ else _)=_\/(if(p_ Y F eC i m).2=1/\eC+1<len then _ else _)=_;split
 .exact .inl rfl
 .exact .inr rfl
theorem Pr(z:cU)(Y:Ă)(ah:HO aF):i2 z ah++o4 Y=mZ z Y ah false:=by unfold mZ o4;simp
theorem Bm{av:Type}{P:av->Prop}{a:av}(h:P a):∀x∈[a],P x:=λx aA=>by rw[cX.mp aA];exact h
theorem C8{r:hx}(aj:r.length<=8){i:ā}(aB:i<r.length):∃bz,ec (dp (i:ā)) (gj 0 r)=some bz/\(r.map (·.2))[i]?=some bz.2.2:=⟨_,(Hl r 0 i (aI (fT<|iM _)<|aI aj<|aG rfl) (f8 _)<|gG aB<|aI aj<|aG rfl).trans (by rw[Nat.sub_zero,fr aB];rfl),by rw[gN,fr aB];rfl⟩
theorem KY{K:HO aF}:aF.b .bB∈fE 1 K:=iJ _<|.head _
theorem i_.up{K aT ah:HO aF}(s:i_ K aT)(h:∀a∈aT,a∈ah):i_ K ah:=λa ak aK=>by
 have:=s a ak aK;induction a using aF.casesOn with
 |b a=>exact h _ this
 |arr K=>obtain⟨s0,lb,iv⟩:=this;exact⟨s0,h _ lb,iv⟩
theorem JG{z:cU}{p:cK}{Y:Ă}{x:bx}{e:bx×HO aM×ā}{K ah:HO aF}(ae:p.good)(az:Y=0\/Y=1\/Y=2)(a6:ec x z=some e)(bF:e.2.2≠1)(aA:lp x=true)(ab:∀a∈fE Y (p.at .N),a∈K)(s:i_ K ah):kw (jx z p Y x) (i2 z ah++o4 Y)=true:=by have aK:=Jv ae a6 (k:=.N)<|.inr ⟨rfl,aA⟩;rw[Pr,wT a6,eA bF];exact yV az (aK.1.mono λa ak a4=>ab a<|PL a ak a4) s (λh=>.inr<|.inl<|ab _<|by rw[E9 h];exact KY) λaU _ cs=>.inr (ab _<|by rw[aU];exact aK.2 cs)
theorem PT{p:cK}{Y aV:Ă}{e:ā}{r:hx}(T:Rows S.R)(ae:p.good)(az:Y=0\/Y=1\/Y=2)(nD:d7.Ty S.R e (fE Y<|p.at .N))(bn:ua [2] r):∀x∈(gj 0 r).map (·.1),pN S (n+6) (hH e aV) p Y (gj 0 r) [91] x:=by obtain⟨aj,_,eZ⟩:=Cx (ax:=[2]) (by decide) bn.m;rw[bT]at aj;intro x aA;obtain⟨i,_,aB,rfl⟩:=yt r 0 x aA;rw[iM]at aB;have Aw:=gG aB aj;obtain⟨bz,iu,bF⟩:=C8 aj aB;exact⟨λh=>absurd h<|Kl<|gG Aw<|aG rfl,λbV eR=>Zl T ⟨_,nD,aI (Bj Y<|p.at .N)<|dc<|aI (cK.rM ae.ok .N)<|aG rfl,x9<|cK.fits ae.ok .N⟩ λaT OO dh=>eR [aT]<|Bm ⟨dh,JG ae az iu (λh=>((eZ i<|gG Aw<|aG rfl).2<|Nat.not_lt_zero i).1<|by rw[bF,h]) (Dt i<|gG Aw<|aG rfl) (λ_ h=>h)<|OO _ nD⟩⟩
theorem LZ{Y:Ă}{F:bv->HO aF}{ax:HO Ă}(az:Y=0\/Y=1\/Y=2)(ae:ax∈hk){i:ā}{m:Ă}(aN:ax[i]?=some m):(j0 Y F ax)[i]?=some (h6 Y F (ca ax) ax.length i m):=by have h:=HL (pn Y ax) _ 0 i<|Kk Y F (ca ax) ax 0 i aN;rw[iM]at h;rw[Jj az ae aN];exact h
theorem VQ{Y:Ă}{F:bv->HO aF}{f l i:ā}{m:Ă}(a7:∀k,∀a∈F k,a.fits):∀a∈(h6 Y F f l i m).1,a.fits:=by
 have aU:∀a∈(p_ Y F f i m).1,a.fits:=by
  unfold p_;split
  .exact λa ak=>a7 _ a<|u9 a ak
  .exact x9<|a7 .N
 rcases zn Y F f l i m with e|e<;>rw[e]
 .exact aF.z4 aU
 .exact aU
theorem WX{Y:Ă}{F:bv->HO aF}{f l i:ā}{m:Ă}(cW:i<f):(∀a∈fD Y (decide<|m=1) (F<|.txt<|dp i),a∈(h6 Y F f l i m).1)/\(fQ Y (decide<|m=1)=true->decide ((h6 Y F f l i m).2=1)=true\/.b .bB∈(h6 Y F f l i m).1):=by
 have pq:p_ Y F f i m=(fD Y (decide<|m=1)<|F<|.txt<|dp i,if fQ Y (decide<|m=1)=true then 1 else 0):=bl cW;rcases zn Y F f l i m with e|e<;>rw[e,pq]
 .exact⟨λa ak=>kC _ ak,λ_=>.inr<|iJ _<|.head _⟩
 .exact⟨λa ak=>ak,λh=>.inl<|dL<|bl h⟩
theorem Ni{Y:Ă}{F:bv->HO aF}{f l:ā}{m:Ă}:∀a∈fE Y (F .N),a∈(h6 Y F f l f m).1:=by
 have pq:p_ Y F f f m=(fE Y<|F .N,m):=bm<|mL _;rcases zn Y F f l f m with e|e<;>rw[e,pq]
 .exact λa ak=>kC _ ak
 .exact λa ak=>ak
theorem Tw{p:cK}{Y:Ă}{r:hx}{i f l:ā}{m:Ă}{aT:HO aF}(az:Y=0\/Y=1\/Y=2)(aj:r.length<=8)(t8:i<12)(cW:i<f)(iE:i<r.length->(r.map (·.2))[i]?=some 1->m=1)(oy:¬i<r.length->m=1)(s:i_ (h6 Y p.at f l i m).1 aT):kw (jx (gj 0 r) p Y<|dp i) (mZ (gj 0 r) Y aT<|decide<|(h6 Y p.at f l i m).2=1)=true:=by
 obtain⟨ab,E⟩:=WX (Y:=Y) (F:=p.at) (l:=l) (m:=m) cW;by_cases aB:i<r.length
 .obtain⟨bz,iu,bF⟩:=C8 aj aB;rw[wT iu];refine yV az ((nh.refl _ p _).mono λa ak a4=>ab a<|Gd a ak a4) s (λaK=>(E<|J' aK λh=>dL<|iE aB<|by rw[bF,fj h]).imp id .inl) λaU L6 cs=>?_;induction bg:decide (m=1)using Bool.casesOn with
  |true=>exact E (by rw[bg,aU];rfl)
  |false=>exact .inr (ab _<|by rw[bg,aU];exact cs)
 .rw[Cw<|(Hl r 0 i (aI (fT<|iM _)<|aI aj<|aG rfl) (f8 _)<|gG t8<|aG rfl).trans<|by rw[Nat.sub_zero,List.getElem?_eq_none<|q1 aB];rfl];refine B0 s<|(E5 az).elim (λh=>(E ?_).imp id .inl) λh=>.inr<|.inr h;rw[dL<|oy aB];exact h
theorem L9{x:bx}{f:ā}{r:hx}(h:x∈sG f (gj 0 r)):∃i:ā,x=dp (i:ā)/\(i<r.length\/i<f):=by
 rcases gd.mp h with h|h
 .obtain⟨i,_,aB,e⟩:=yt r 0 x h;exact⟨i,e,.inl<|by rw[iM]at aB;exact aB⟩
 .obtain⟨j,b_,e⟩:=dr.mp h;have b_:=lE.mp b_;exact⟨(gj 0 r).length+j,e.symm,.inr<|Nat.add_lt_of_lt_sub' b_⟩
theorem YB{p:cK}{Y aV:Ă}{es:HO (ā×Ă)}{ax:HO Ă}{r:hx}(T:Rows S.R)(ae:p.good)(az:Y=0\/Y=1\/Y=2)(nQ:ax∈hk)(cf:hj 15 S.R es (j0 Y p.at ax))(bn:ua ax r):∀x∈sG (ca<|es.map (·.2)) (gj 0 r),pN S (n+6) (.tup [.int 12,.tup<|df es,.int aV]) p Y (gj 0 r) [91] x:=by
 obtain⟨aj,_,eZ⟩:=Cx nQ bn.m;rw[bT]at aj eZ;have mR:=ue ax nQ;obtain⟨xU,EQ,_⟩:=HC az nQ;have va:es.map (·.2)=oB Y ax:=cf.marks.trans (H0 ..);rw[<-va]at xU EQ;have iW:es.length=ax.length:=by rw[cf.len,j0,uz,v9]
 have cell:∀{i:ā} {e:ā×Ă},es[i]?=some e->∃m,dD (ax[i]?=some m) (e.2=(h6 Y p.at (ca ax) ax.length i m).2) (d7.Ty S.R e.1 (h6 Y p.at (ca ax) ax.length i m).1/\(h6 Y p.at (ca ax) ax.length i m).1.length<=15):=λ{i e} a6=>by have aB:=(g9.mp a6).1;have aN:=fr<|iW▸aB;obtain⟨c,aq,G,E,aC⟩:=cf.at a6;rw[LZ az nQ aN]at aq;cases aq;exact⟨_,aN,G,E,aC⟩
 intro x aA;rw[xU]at aA;obtain⟨i,rfl,Kw⟩:=L9 aA;clear aA;have t8:i<12:=Kw.elim (λh=>gG h<|aI aj<|aG rfl) λh=>gG h<|aI (yr ax)<|aI mR<|aG rfl;have p3:=gG t8 (aG rfl:12<=20);obtain⟨iE,oy⟩:=eZ i t8;refine⟨λh=>absurd h<|Kl p3,λbV eR=>RY T (λe a6=>?_) EQ (aI (fT iW) mR) p3 (λe aT cW a6 aw dh=>eR [_]<|Bm ⟨dh,?_⟩) λah AL dh gb=>?_⟩
 .obtain⟨i,Wy⟩:=List.mem_iff_getElem?.mp a6;obtain⟨m,aN,G,E,aC⟩:=cell Wy;exact⟨_,E,iF aC,VQ<|cK.fits ae.ok⟩
 .rw[xU]at cW;obtain⟨m,aN,G,E,aC⟩:=cell a6;rw[aN]at iE;obtain⟨iE,pE⟩:=iE cW;rw[G];exact Tw az aj t8 cW (λh k=>cT<|iE h k) (λh=>cT<|pE h)<|aw _ E
 .rw[xU]at AL gb;obtain⟨iE,pE⟩:=oy AL;have aB:i<r.length:=Kw.resolve_right AL;have G':=fr (iW.symm▸pE aB:ca ax<es.length);obtain⟨bz,iu,bF⟩:=C8 aj aB;obtain⟨aT,aw,px⟩:=gb _<|h9<|(vg (j:=0)).trans G';obtain⟨m,aN,G,E,_⟩:=cell G';exact eR [ah]<|Bm ⟨dh,JG ae az iu (λh=>iE<|by rw[bF,h]) (Dt i p3) Ni<|(aw _ E).up px⟩
def CD:HO B->ZI
 |[]=>true
 |v::l=>(match hN v l with|some b=> !b|none=>false)&&CD l
theorem Pt{l:HO B}(aD:∀v∈l,fv 16 v=true)(h:CD l=true):l.Nodup:=by
 induction l with
 |nil=>exact .nil
 |cons v l ap=>have h:((match hN v l with|some b=> !b|none=>false)&&CD l)=true:=h;rw[J2 (aD v<|.head _) λa ak=>aD a<|.tail _ ak]at h;have h:=gY.mp h;refine hV.mpr ⟨λq=>?_,ap (λv af=>aD v<|.tail _ af) h.2⟩;have G:(!cO (v∈l))=true:=h.1;rw[wp q]at G;exact cH G
theorem rH:Rows hm where
 base:=⟨[],(ha _).symm⟩
 b7:=Pt (λv af=>xW<|d'.mp (rfl:hm.all ic=true) v af) rfl
 row:=λv af=>d'.mp (rfl:hm.all ic=true) v af
def l1 (nums:HO B):dz:=⟨0,nums,hm,[.none],[]⟩
def k5 (nums:HO B):St:=[.ls [.int 0,.lst nums],.ins 0 po,.ls<|hm.take 16,.cO<|gF 0<|hm.take 16,.ls [.none],.ls [],.ls [],.ls [],.cO [],.cO []]
def pS (nums:HO B):St:=k5 nums++[.ins 4 AH]
def mc (nums:HO B):St:=[.ls [.int 0,.lst nums],.ins 0 po,.ls<|hm.take 17,.cO<|gF 0<|hm.take 17,.ls [.none],.ls [.int<|-1],.ls [.int<|-1],.ls [.str [84]],.cO [],.cO [],.ins 4 AH]
def Gi (nums R:HO B):St:=[.ls [.int 0,.lst nums],.ins 0 po,.ls R,.cO<|gF 0 R,.ls [.none],.ls [],.ls [],.ls [],.cO [],.cO []]
theorem Vf{nums:HO B}{m:ā}{Q:cj->aJ->St->Prop}:bw (m+2) xt.body [.val<|.ref 1,.un] ([.ls [.int 0,.lst nums]]++[.ins 0 []]) Q=bw (m+2) (xt.body.drop 10) [.val<|.ref 1,.un] (Gi nums []) Q:=by kernel_rfl
theorem RI{nums:HO B}{m:ā}{Q:B->St->Prop}(q:Q (.none) (k5 nums)):bc (m+3) 0 [.ref 1] ([.ls [.int 0,.lst nums]]++[.ins 0 []]) Q:=by
 have T:∀{done a_:HO B} {a},hm.take 16=done++a::a_->a∉done/\ic a=true/\(∀v∈done,ic v=true)/\done.length<=16:=λ{done a_ a} e=>by have h:∀v∈done++a::a_,ic v=true:=λv af=>rH.row v<|List.mem_of_mem_take<|e▸af;have b7:=(rH.b7.sublist<|List.take_sublist 16 hm);rw[e,nc]at b7;exact⟨λh=>b7.2.2 a h a (.head _) rfl,h a (by simp),λv af=>h v<|kC _ af,aI (j1 _)<|oD e<|dy 16⟩
 refine bc.fn (b:=xt.body) (r:=[.val<|.ref 1,.un]) rfl rfl ?_;rw[Vf];refine cF.mp (f:=id) (all:=hm.take 16) rfl (λdone K=>∀x,K [.val<|.ref 1,x]<|Gi nums done) (λdone a a_ e K ab x=>?_) (λx=>q) λK h=>h _;obtain⟨G,E,aC,ba⟩:=T e;refine x6 aC E (aI (dc ba)<|aG rfl) (λi aB=>absurd (h9 aB) G) λ_=>ab _
theorem UX{nums:HO B}{m:ā}{Q:B->St->Prop}(q:Q (.none) (pS nums)):bc (m+3) 69 [.ref 10,.ref 1] (k5 nums++[.ins 4 []]) Q:=by k_go;exact q
theorem TA{nums:HO B}{m:ā}{Q:B->St->Prop}(q:Q (.int 16) (mc nums)):bc (m+3) 12 [.ref 1,.str [84]] (pS nums) Q:=by k_go;refine⟨aG rfl,aG rfl,aG rfl,?_⟩;exact x6 (R:=hm.take 16) (λv af=>rH.row v<|List.mem_of_mem_take af) rfl (aG rfl) (λi aB=>absurd (h9 aB) λh=>by have b7:=rH.b7.sublist<|List.take_sublist 17 hm;rw[show hm.take 17=hm.take 16++[.tup [.int 10,.int 0]]from rfl,nc]at b7;exact b7.2.2 _ h _ (.head _) rfl) λ_=>q
theorem Pw{nums:HO B}{m:ā}{Q:B->St->Prop}(q:Q (.int 17) ((l1 nums).st)):bc (m+3) 12 [.ref 1,.str [80]] (mc nums) Q:=by k_go;refine⟨aG rfl,aG rfl,aG rfl,?_⟩;exact x6 (R:=hm.take 17) (λv af=>rH.row v<|List.mem_of_mem_take af) rfl (aG rfl) (λi aB=>absurd (h9 aB) λh=>by have b7:=rH.b7;rw[show hm=hm.take 17++[.tup [.int 10,.int 1]]from rfl,nc]at b7;exact b7.2.2 _ h _ (.head _) rfl) λ_=>q
theorem n9.ex{S cn:dz}{c t o:ā}(h:n9 S t o)(g:a9 S.R cn.R c)(b4:cn.D=S.D)(c7:∃cz,cn.X=S.X++cz):n9 cn t o:=by
 obtain⟨cz,c7⟩:=c7;induction h with
 |obj h=>exact .obj<|g.at h
 |ref G E aC ba cN d5=>refine .ref (g.at G) (by rw[b4];exact E) ?_ ba cN<|g.at d5;rw[c7,o7 (g9.mp aC).1];exact aC
theorem qh.ex{S cn:dz}{t o fq dH:ā}{M:HO bP}{ai:HO c8}{cA cV:hA}{eF:B}{b' bR:Z5 (ā×Ă)}{e_:Ă}{c:ā}(h:qh S t o fq M ai cA cV dH eF b' bR e_)(g:a9 S.R cn.R c)(b4:cn.D=S.D)(c7:∃cz,cn.X=S.X++cz):qh cn t o fq M ai cA cV dH eF b' bR e_:={h with src:=h.src.ex g b4 c7,row:=g.at h.row,wV:=g.at h.wV}
structure fI(S cn:dz)(c:Nat):Prop where
 g:a9 S.R cn.R c
 D:cn.D=S.D
 X:∃cz,cn.X=S.X++cz
theorem fI.trans{S cn Gh:dz}{a b:ā}(h:fI S cn a)(k:fI cn Gh b):fI S Gh (a+b):=by obtain⟨cz,jl⟩:=h.X;obtain⟨Of,VB⟩:=k.X;exact⟨h.g.trans k.g,k.D.trans h.D,cz++Of,by rw[VB,jl,hK]⟩
theorem fI.le{S cn:dz}{a b:ā}(h:fI S cn a)(aj:a<=b):fI S cn b:=⟨h.g.le aj,h.D,h.X⟩
theorem fI.refl{S:dz}(T:Rows S.R){c:ā}:fI S S c:=⟨a9.refl T,rfl,[],(ha _).symm⟩
theorem fI.w{S:dz}{aa:HO B}{c:ā}(g:a9 S.R aa c):fI S (S.w aa) c:=⟨g,rfl,[],(ha _).symm⟩
theorem fI.X2{S:dz}{aa:HO B}{ef:HO c4}{c:ā}(g:a9 S.R aa c):fI S ((S.w aa).x<|S.X++ef) c:=⟨g,rfl,ef,rfl⟩
theorem HM:∀{ai:HO c8} {M:HO bP},bX wL ai M->ai.map (·.1)=M.map (·.nm)
 |_,_,.nil=>rfl
 |_,_,.cons x y=>by rw[gh,gh,HM y,x.1]
structure TN(M:List bP)(ai:List c8):Prop where
 x:∀p∈ai,p.1∈iK
 f:∀p∈ai,0<=p.2.2.1
 b7:(ai.map (·.1)).Nodup
 l:ai.length<=4
 sj:(M.map (·.nm)).Nodup
theorem qh.f{S:dz}{t o fq dH:ā}{M:HO bP}{ai:HO c8}{cA cV:hA}{eF:B}{b' bR:Z5 (ā×Ă)}{e_:Ă}(h:qh S t o fq M ai cA cV dH eF b' bR e_):TN M ai:=by
 have sj:(M.map (·.nm)).Nodup:=by rw[List.Nodup,List.pairwise_map];refine h.fx.imp λ{a b} sC e=>?_;have:ji a.nm b.nm=true:=sC;rw[e,By]at this;exact cH this
 refine⟨λp ae=>?_,λp ae=>?_,(HM h.props)▸sj,by rw[h.props.len];exact h.len,sj⟩
 .obtain⟨m,aN,G,_⟩:=h.props.v3 p ae;rw[G];exact(h.ok m aN).nm
 .obtain⟨m,aN,_,E,_⟩:=h.props.v3 p ae;rw[E];exact mG _
def yJ (dK:ZI):Ă:=cond dK 17<|-1
def mW (p:cK) (Y aH:ā) (dK:ZI) (g5:ā) (b:B) (d4 cG:ā) (dU dV dd:cq):aJ:=[.val<|.ref 0,.val<|.ref 1,.val<|.ref 10,.val<|.int 16,.val<|.int 17,.val p.aW,.val<|.tup [au Y,au aH],.val<|.bool dK,.val<|au g5,.val b,.val<|au d4,.val<|au cG,.val<|f0 cG (yJ dK) d4 Y aH,dU,dV,dd]
def qu(dK:ZI)(R:HO B)(F:bv->HO aF)(Y aH:Ă)(aP:HO Tm)(b' bR:Z5 (ā×Ă))(u:ā):Prop:=cond dK (u=11)<|dJ λce dv du=>jf R F Y aH aP b' bR u ce dv du
theorem Fi{dK:ZI}{d4 t o:ā}{F:bv->HO aF}{cG Y aH e_:Ă}{ai:HO c8}{eF:B}{b' bR:Z5 (ā×Ă)}(T:Rows S.R)(h:f9 S.R d4 F)(az:Y=0\/Y=1\/Y=2)(dh:aH=0\/aH=1\/aH=2)(aK:n9 S t o)(bn:S.R[o]?=some (hW ai eF b' bR e_))(aA:∀p∈ai,p.1∈iK)(a7:∀p∈ai,0<=p.2.2.1)(b7:(ai.map (·.1)).Nodup)(aj:ai.length<=4)(aq:S.R.length+500<=a3)(q:∀u cn,fI S cn 500->qu dK cn.R F Y aH (rt ai) b' bR u->Q (au u) cn.st):bc (n+21) 59 [.ref 10,f0 cG (yJ dK) d4 Y aH,au t] S.st Q:=by
 obtain⟨cL,l,G,E⟩:=aK.cL;induction dK using Bool.casesOn with
 |true=>exact A7 (nm:=17) G (E.imp id .inl)<|q 11 S (.refl T) rfl
 |false=>exact R9 T h az dh G E (λm bV a'=>MN T aK a') bn aA a7 b7 (aI aj<|aG rfl) aq λu ce dv du aa ef g to=>q u _ (.X2 g) ⟨ce,dv,du,to⟩
theorem Dx(a:Ă):(!decide (a=a))=false:=by rw[dL rfl];rfl
theorem O5(b:ZI):(!(b==b))=false:=by induction b using Bool.casesOn<;>rfl
theorem fI.step{av:Type}{S cn vm:dz}{c d:ā}{done:HO av}{a:av}(aP:fI S cn (c*done.length))(pf:fI cn vm d)(h:d<=c):fI S vm (c*(done++[a]).length):=⟨aP.g.step pf.g h,(aP.trans pf).D,(aP.trans pf).X⟩
theorem RH{p:cK}{Y aH g5 d4 cG:ā}{dK:ZI}{b:B}{dU dV dd:cq}{ai:HO c8}{cI:cj->aJ->St->Prop}(T:Rows S.R)(aA:∀p∈ai,p.1∈iK)(aj:ai.length<=4)(aq:S.R.length+8<=a3)(q:∀cn dd,fI S cn 8->cI .go (mW p Y aH dK g5 b d4 cG dU dV dd) cn.st):cF (n+9) false [15] [.iff (.cmp (.call 61 [.v 2,.new 6 [.cR (.v 1) 0 [.tup [.k<|.int 3,.ao (.v 15)<|.k<|.int 0,.k<|.int 0]],.v 15,.tup []]]) [(.ne,.cmp (.ao (.v 15)<|.k<|.int 0) [(.isin,.tup [.k<|.str [108,101,110,103,116,104],.k<|.str [48],.k<|.str [49,50]])])]) [.ret<|.k<|.bool false] []] (ai.map fi) (mW p Y aH dK g5 b d4 cG dU dV dd) S.st cI:=by refine cF.mp (all:=ai) (f:=fi) rfl (λdone K=>∀cn dd,fI S cn (2*done.length)->K (mW p Y aH dK g5 b d4 cG dU dV dd) cn.st) (λdone m a_ ag K ab cn dd aP=>?_) (λcn dd aP=>q cn dd<|aP.le<|hf 2 aj) λK ab=>ab S _<|fI.refl T;have room:cn.R.length+1+1<=a3:=aP.g.turn (k:=2) ag aj aq;refine fb (S:=cn) aP.g.ok rfl (lg room) λk bu bh xG=>zb (s:=(cn.w bu).st) ⟨rfl,Cy (S:=(cn.w bu).x<|cn.X++[gq.ct<|.mem k m]) (e:=.mem k m) bh.ok (f3.new (S:=cn.w bu)) (λiL ev e=>by cases e;exact aA m<|by rw[ag];exact iJ _<|.head _) (aI (dc bh.len) room) λd2 cJ=>?_⟩;rw[show(!oE (.mem k m))=(decide ([108,101,110,103,116,104]=m.1)||(decide ([48]=m.1)||(decide ([49,50]=m.1)||false)))from(bI Bool.not (Dw m.1).symm).trans<|Bool.not_not _];lk;exact bj.h4 (O5 _)<|ab _ _<|aP.step (⟨bh.trans cJ,rfl,_,rfl⟩:fI cn (((cn.w bu).x<|cn.X++[gq.ct<|.mem k m]).w d2) 2)<|dy _
def uK(S:dz)(v:B):Prop:=(IN λt o fq M ai cA cV dH eF b' bR e_=>v=.bb (m2 t fq M ai cA cV dH)/\qh S t o fq M ai cA cV dH eF b' bR e_)\/(dJ λt es aV=>v=.bb (kt t es aV)/\rr S.R t es aV)\/(dW λt st=>v=.bb (wF t st)/\tt S.R t st)
theorem uK.ex{S cn:dz}{v:B}{c:ā}(h:uK S v)(aP:fI S cn c):uK cn v:=by
 rcases h with⟨t,o,fq,M,ai,cA,cV,dH,eF,b',bR,e_,e,h⟩|⟨t,es,aV,e,h⟩|⟨t,st,e,h⟩
 .exact .inl ⟨t,o,fq,M,ai,cA,cV,dH,eF,b',bR,e_,e,h.ex aP.g aP.D aP.X⟩
 .exact .inr<|.inl ⟨t,es,aV,e,h.bf aP.g⟩
 .exact .inr<|.inr ⟨t,st,e,h.bf aP.g⟩
theorem D4{av b8:Type}(f:av->b8):∀{l:HO av},(l.map f).Nodup->∀a∈l,∀b∈l,f a=f b->a=b
 |c::l,h,a,ak,b,aw,e=>by
  rw[gh,hV]at h;rcases ew.mp ak with e'|wX<;>rcases ew.mp aw with ei|H2
  .rw[e',ei]
  .exact absurd (by rw[<-e',e];exact fw (f:=f) H2) h.1
  .exact absurd (by rw[<-ei,<-e];exact fw (f:=f) wX) h.1
  .exact D4 f h.2 a wX b H2 e
theorem Fl:∀(m l:HO bx),l.Nodup->(∀x∈l,x∈m)->l.length<=m.length
 |[],l,_,h=>by
  induction l with
  |nil=>exact dy _
  |cons a r=>cases h a (.head _)
 |a::m,l,b7,h=>by
  have E:=Fl m (l.erase a) (b7.erase a) λx aA=>by have g8:=(b7.mem_erase_iff).mp aA;exact(ew.mp<|h x g8.2).resolve_left g8.1
  by_cases c:a∈l
  .rw[List.length_erase_of_mem c]at E;exact Nat.le_succ_of_pred_le E
  .rw[List.erase_of_not_mem c]at E;simp only[nA];exact iF ‹_›
theorem II{v:ā}(h:(v:Ă)<3):(v:Ă)=0\/(v:Ă)=1\/(v:Ă)=2:=by lia
theorem Sb{n:ā}{nums:HO B}{b:HO dE}{iT:HO cq}{Q:cj->aJ->St->Prop}(q:bw (n+4) b ([.val<|.ref 0,.val<|.ref 1,.val<|.ref 10,.val<|.int 16,.val<|.int 17]++iT) (l1 nums).st Q):bw (n+4) (.set 1 (.new 0 [])::.set 2 (.new 4 [.v 1])::.set 3 (.call 12 [.v 1,.k<|.str [84]])::.set 4 (.call 12 [.v 1,.k<|.str [80]])::b) ([.val<|.ref 0,.un,.un,.un,.un]++iT) [.ls [.int 0,.lst nums]] Q:=by exact RI ⟨rfl,UX ⟨rfl,TA<|Pw q⟩⟩
theorem qu.eq{dK:ZI}{R:HO B}{F:bv->HO aF}{Y aH:Ă}{aP:HO Tm}{M:HO bP}{b' bR we uS dv du:Z5 (ā×Ă)}{u w:ā}{ce:HO c8}(T:Rows R)(b7:(M.map (·.nm)).Nodup)(h:qu dK R F Y aH aP b' bR u)(to:jf R F Y aH (iV M) we uS w ce dv du)(cs:∀m,m∈aP↔m∈iV M)(fC:b'.map (·.2)=we.map (·.2))(kH:bR.map (·.2)=uS.map (·.2)):u=cond dK 11 w:=by
 induction dK using Bool.casesOn with
 |true=>exact h
 |false=>obtain⟨_,_,_,h⟩:=h;refine h.inj T to cs (λm aN i' kz e=>?_) fC kH;obtain⟨a,ak,e'⟩:=dr.mp<|(cs m).mp aN;obtain⟨b,aw,ei⟩:=dr.mp<|(cs i').mp kz;rw[<-e',<-ei]at e⊢;rw[D4 (λm:bP=>m.nm) b7 a (gx.mp ak).1 b (gx.mp aw).1 e]
theorem qu.bf{dK:ZI}{R aa:HO B}{F:bv->HO aF}{Y aH:Ă}{aP:HO Tm}{b' bR:Z5 (ā×Ă)}{u c:ā}(h:qu dK R F Y aH aP b' bR u)(g:a9 R aa c):qu dK aa F Y aH aP b' bR u:=by
 induction dK using Bool.casesOn with
 |true=>exact h
 |false=>obtain⟨a,b,c,h⟩:=h;exact⟨a,b,c,h.bf g⟩
theorem jf.le{R:HO B}{F:bv->HO aF}{Y aH:Ă}{M:HO bP}{b' bR dv du:Z5 (ā×Ă)}{u:ā}{ce:HO c8}(to:jf R F Y aH (iV M) b' bR u ce dv du):ce.length<=M.length:=by
 have h:=Fl ((iV M).map (·.1)) (ce.map (·.1)) (List.Pairwise.imp (S:=λa b=>a≠b) (λ{a b} (sC:ji a b=true) e=>by rw[e]at sC;exact cH<|(By b).symm.trans sC) to.fx) λx aA=>by obtain⟨y,a1,e⟩:=dr.mp aA;obtain⟨_,m,aN,aw⟩:=to.to y a1;rw[<-e,show y.1=m.1 from aw.1];exact fw (f:=λm:Tm=>m.1) aN
 rw[bT,bT]at h;exact aI h (by unfold iV;rw[bT];exact ms _ _)
def TB(row:B)(N:cU->HO bx):Prop:=(dW λe aV=>row=hH e aV/\∀z,N z=z.map (·.1))\/(dW λes aV=>dD (row=.tup [.int 12,.tup<|df es,.int aV]) ((N=sG (ca<|es.map (·.2))))<|es.length<=5)\/(dJ λce dv du=>dD (row=hW ce (.tup []) dv du 0) (N=yK ce)<|ce.length<=10)
section
variable{n:ā}{Q:B->St->Prop}{p:cK}{Y aH g5 d4 cG:ā}{dK:ZI}{b:B}{dV dd:cq}{s:St}
theorem DZ{u w:ā}{K:cj->aJ->St->Prop}(h:u=cond dK 11 w)(ab:K .go (mW p Y aH dK g5 b d4 cG (.val<|au u) (.val<|au w) dd) s):nx n (.iff (.cmp (.v 13) [(.ne,.ite (.v 7) (.k<|.int 11)<|.v 14)]) [.ret<|.k<|.bool false] []) (mW p Y aH dK g5 b d4 cG (.val<|au u) (.val<|au w) dd) s K:=by
 subst h;induction dK using Bool.casesOn with
 |true=>exact ab
 |false=>exact bj.h4 (Dx _) ab
theorem I8{S:dz}{u:ā}(T:Rows S.R)(ae:p.ok)(az:(Y:Ă)=0\/(Y:Ă)=1\/(Y:Ă)=2)(q:∀s,Q (.bool true) s)(h:dK=false->dW λrow N=>dD (S.R[u]?=some row) (TB row N) (∀K:B->St->Prop,(∀b1:HO kc,(∀c∈b1,i7 c.1/\∀x∈N c.1,pN S (n+38) row p Y c.1 c.2 x)->K (.lst<|b1.map pz) S.st)->bc (n+39) 88 [b] S.st K)):bw (n+39) [.ret<|.or [.v 7,.call 98 [.v 1,.ao (.at (.v 1) 0)<|.v 13,.v 5,.ao (.v 6)<|.k<|.int 0,.call 88 [.v 9]]]] (mW p Y aH dK g5 b d4 cG (.val<|au u) dV dd) S.st (λcI _ ar=>Q cI.val ar):=by
 induction dK using Bool.casesOn with
 |true=>exact q _
 |false=>obtain⟨row,N,G,E,aC⟩:=h rfl;exact ay.of (pO G)<|aC _ λb1 ju=>NB (n:=n+31) T ae az E ju<|q _
theorem Yg(g5:ā):∃k:ā,∀s,hn s (.lst [.int 6,.int 7]) (.int<|Int.fmod g5 2)=some (au k):=by
 rw[show(g5:Ă).fmod 2=((g5%2:ā):Ă)from(Int.ofNat_fmod g5 2).symm];rcases sk (Nat.mod_lt g5 (aG rfl))with e|e<;>rw[e]
 .exact⟨6,λ_=>rfl⟩
 .exact⟨7,λ_=>rfl⟩
theorem XG{g1:dz}{t o fq dH:ā}{M:HO bP}{ai:HO c8}{cA cV:hA}{eF:B}{b' bR:Z5 (ā×Ă)}{e_:Ă}(lZ:Rows g1.R)(ae:p.good)(az:(Y:Ă)=0\/(Y:Ă)=1\/(Y:Ă)=2)(dh:(aH:Ă)=0\/(aH:Ă)=1\/(aH:Ă)=2)(o0:g1.R.length<=500)(m_:f9 g1.R d4 p.at)(hF:qh g1 t o fq M ai cA cV dH eF b' bR e_)(q:∀s,Q (.bool true) s):bw (n+40) (yj.body.drop 12) (mW p Y aH dK g5 (.bb<|m2 t fq M ai cA cV dH) d4 cG .un .un .un) g1.st (λcI _ ar=>Q cI.val ar):=by
 have a7:=hF.f;have GN:=W1 hF.props hF.ok;have room:∀{cn k c},fI g1 cn c->Nat.ble (500+c+k) a3=true->cn.R.length+k<=a3:=λaP h=>aI (fP (aI aP.g.len<|fP o0 _) _)<|aG h;have fC:=hF.pq.trans (G_ cA).symm;have kH:=hF.ag.trans (G_ cV).symm;refine bw.rP (λK=>∀u jG,fI g1 jG 500->qu dK jG.R p.at Y aH (iV M) b' bR u->K (au u) jG.st) (λK ab=>Fi lZ m_ az dh hF.src hF.row a7.x a7.f a7.b7 a7.l (room (.refl lZ (c:=0)) rfl) λu cn aP cD=>ab u cn aP<|GN▸cD) λu jG rc cD=>bw.to _ _ (λK h=>h)<|bw.rP (λK=>∀w jt ce dv du,fI jG jt 3000->jf jt.R p.at Y aH (iV M) (be cA) (be cV) w ce dv du->K (au w) jt.st) (λK ab=>Yn (S:=jG) rc.g.ok ae.ok az dh hF.ok hF.fx hF.len hF.AJ hF.fK (room rc rfl) λw ce dv du aa g to=>ab w _ ce dv du (.w g) to) λw jt ce dv du n5 to=>?_;have mV:=rc.trans n5;have Ht:=hF.ex mV.g mV.D mV.X;have iN:u=cond dK 11 w:=qu.eq (dK:=dK) n5.g.ok a7.sj (cD.bf n5.g) to (λ_=>Iff.rfl) fC kH;refine bw.to _ _ (λK h=>DZ iN h)<|bw.fY (λK=>∀th dd,fI jt th 600->K (mW p Y aH dK g5 (.bb<|m2 t fq M ai cA cV dH) d4 cG (.val<|au u) (.val<|au w) dd) th.st) (λK ab=>?_) λth dd Ao=>?_
 .refine Fi (S:=jt) (o:=fq) (ai:=ai.reverse) n5.g.ok (m_.bf mV.g) az dh (.obj Ht.wV) Ht.wV (λp ae=>a7.x p<|List.mem_reverse.mp ae) (λp ae=>a7.f p<|List.mem_reverse.mp ae) (by rw[List.map_reverse,List.Nodup,List.pairwise_reverse];exact a7.b7.imp λh e=>h e.symm) (aI (fT List.length_reverse) a7.l) (room mV rfl) λh5 l7 m5 Xg=>?_;refine bj.h4 (by rw[Xg.eq m5.g.ok a7.sj (to.bf m5.g) (λm=>by rw[Xr,GN]) fC kH,<-iN];exact Dx _)<|RH (S:=l7) m5.g.ok a7.x a7.l (room (mV.trans m5) rfl) λmQ dd Az=>?_;obtain⟨k,aD⟩:=Yg g5;exact ay.of (aD _)<|zb (s:=mQ.st) ⟨rfl,Cy (S:=mQ.x<|mQ.X++[gq.ct<|.idx k<|.tup [.int 6,.int 0]]) Az.g.ok (f3.new (S:=mQ)) (λ_ _ e=>nomatch e) (show mQ.R.length+1<=a3 from room ((mV.trans m5).trans Az) rfl) λRE O0=>ab _ _<|((m5.trans Az).trans (⟨O0,rfl,_,rfl⟩:fI mQ ((mQ.x<|mQ.X++[gq.ct<|.idx k<|.tup [.int 6,.int 0]]).w RE) 1)).le<|aG rfl⟩
 .have CR:=to.bf Ao.g;have mK:=aI CR.le<|aI hF.len (aG rfl:4<=10);exact I8 (n:=n+1) Ao.g.ok ae.ok az q λh=>⟨_,_,by rw[iN,h];exact CR.row,.inr<|.inr ⟨ce,dv,du,rfl,rfl,mK⟩,λK ab=>Nh hF.ok a7.sj hF.len λb1 ju=>ab b1 λc aq=>⟨(ju c aq).ok,VN Ao.g.ok ae az hF.ok mK CR<|ju c aq⟩⟩
end
theorem hj.inj{R:HO B}(T:Rows R){b eD:ā}{ah:HO g3}{es:HO (ā×Ă)}(h:hj b R es ah):∀{cx:HO (ā×Ă)},hj eD R cx ah->es=cx:=by
 induction h with
 |nil=>exact λh=>by cases h;rfl
 |cons x _ ap=>exact λh=>by cases h with|cons y h=>rw[ap h,mY (x.2.1.inj T y.2.1)<|x.1.trans y.1.symm]
theorem GL{t:ā}{F:bv->HO aF}{cG nm Y aH aV:Ă}{ci:HO (ā×Ă)}{ax:HO Ă}(T:Rows S.R)(h:f9 S.R t F)(az:Y=0\/Y=1\/Y=2)(dh:aH=0\/aH=1\/aH=2)(aw:ci.map (·.2)=ax)(ae:ax∈hk)(E:ax≠[2])(aq:S.R.length+250<=a3)(q:∀u es aa,a9 S.R aa 250->hj 15 aa es (j0 Y F ax)->aa[u]?=some (.tup [.int 12,.tup<|df es,.int<|gR aH aV])->Q (au u) (S.w aa).st):bc (n+19) 60 [.ref 10,f0 cG nm t Y aH,.tup [.int 12,.tup<|df ci,.int aV]] S.st Q:=by
 have aj:ci.length=ax.length:=by rw[<-aw,bT]
 have ag:iD (λm=>decide<|m∈[(0:Ă)]) ((mw Y F (ca ax) 0 ax).map (·.2)) ci.length=pn Y ax:=by rw[AZ,aj];rfl
 refine RL (M:=oB Y ax) T h az dh (aI (fT aj)<|aI (ue ax ae)<|aG rfl) (by rw[aw];exact Kr ax ae) aq (by rw[aw]) (by rw[ag];exact(H0 Y F ax).symm) ((HC az ae).2.2 E) (by rw[AZ,aj];exact((lW _ _).mp<|Oz az ae).imp fj fj) ?_;rw[ag];exact q
theorem UU{t src:ā}{F:bv->HO aF}{cG Y aH aV:Ă}{ci:HO (ā×Ă)}{ax:HO Ă}(T:Rows S.R)(h:f9 S.R t F)(az:Y=0\/Y=1\/Y=2)(dh:aH=0\/aH=1\/aH=2)(aK:S.R[src]?=some (.tup [.int 12,.tup<|df ci,.int aV]))(aw:ci.map (·.2)=ax)(ae:ax∈hk)(E:ax≠[2])(aq:S.R.length+250<=a3)(q:∀u es aa,a9 S.R aa 250->hj 15 aa es (j0 Y F ax)->aa[u]?=some (.tup [.int 12,.tup<|df es,.int<|gR aH aV])->Q (au u) (S.w aa).st):bc (n+20) 59 [.ref 10,f0 cG (-1) t Y aH,au src] S.st Q:=by k_go;lk;exact wd aK (.inr<|.inr<|.inr<|.inl rfl)<|GL T h az dh aw ae E aq q
theorem PB{p:cK}{Y aH:Ă}{t aV:ā}{es:hp}(T:Rows S.R)(ae:p.ok)(az:Y=0\/Y=1\/Y=2)(dh:aH=0\/aH=1\/aH=2)(nQ:es.map (·.2)∈hk)(nK:aV<2)(aq:S.R.length+4000<=a3)(f_:es.map (·.2)=[2]->∀u x aa,a9 S.R aa 4000->d7.Ty aa x (fE Y<|p.at .N)->aa[u]?=some (hH x<|gR aH aV)->Q (au u) (S.w aa).st)(rv:es.map (·.2)≠[2]->∀u cx aa,a9 S.R aa 4000->hj 15 aa cx (j0 Y p.at<|es.map (·.2))->aa[u]?=some (.tup [.int 12,.tup<|df cx,.int<|gR aH aV])->Q (au u) (S.w aa).st):bc (n+10) 86 [.ref 1,.int 16,p.aW,.tup [.int Y,.int aH],.bb<|kt t es aV] S.st Q:=by k_go;exact MJ T ae az dh nQ nK aq f_ rv
def nM(R:HO B)(p:cK)(Y aH:Ă)(aV:ā)(ax:HO Ă)(u:ā):Prop:=(ax=[2]/\∃x,d7.Ty R x (fE Y<|p.at .N)/\R[u]?=some (hH x<|gR aH aV))\/(ax≠[2]/\∃es,hj 15 R es (j0 Y p.at ax)/\R[u]?=some (.tup [.int 12,.tup<|df es,.int<|gR aH aV]))
theorem nM.bf{R aa:HO B}{p:cK}{Y aH:Ă}{aV:ā}{ax:HO Ă}{u c:ā}(h:nM R p Y aH aV ax u)(g:a9 R aa c):nM aa p Y aH aV ax u:=by
 rcases h with⟨e,x,G,E⟩|⟨e,es,G,E⟩
 .exact .inl ⟨e,x,G.bf g,g.at E⟩
 .exact .inr ⟨e,es,G.bf g,g.at E⟩
theorem nM.inj{R:HO B}(T:Rows R){p:cK}{Y aH:Ă}{aV:ā}{ax:HO Ă}{u w:ā}(h:nM R p Y aH aV ax u)(aR:nM R p Y aH aV ax w):u=w:=by
 rcases h with⟨e,x,G,E⟩|⟨e,es,G,E⟩<;>rcases aR with⟨bz,eE,l0,mj⟩|⟨bz,cx,l0,mj⟩
 .rw[G.inj T l0]at E;exact T.inj E mj
 .exact absurd e bz
 .exact absurd bz e
 .rw[G.inj T l0]at E;exact T.inj E mj
theorem ND{es:hp}(bg:∀e∈es,Drawn e.1):∀r∈kU es,ua (es.map (·.2)) r:=λr bn=>⟨λe a6=>by obtain⟨x,aA,h⟩:=WR es r bn e a6;rw[h];exact(bg x aA).len,by rw[<-Nl];exact fw (f:=λr:hx=>r.map (·.2)) bn⟩
def Gm(dK:ZI)(R:HO B)(p:cK)(Y aH:Ă)(aV:ā)(ax:HO Ă)(u:ā):Prop:=cond dK (u=11)<|nM R p Y aH aV ax u
section
variable{n:ā}{Q:B->St->Prop}{p:cK}{Y aH g5 d4 cG t aV:ā}{dK:ZI}{es:hp}
theorem P'{S:dz}{dK:ZI}(T:Rows S.R)(bk:f9 S.R d4 p.at)(az:(Y:Ă)=0\/(Y:Ă)=1\/(Y:Ă)=2)(dh:(aH:Ă)=0\/(aH:Ă)=1\/(aH:Ă)=2)(h:rr S.R t es aV)(aq:S.R.length+250<=a3)(q:∀u cn,fI S cn 250->Gm dK cn.R p Y aH aV (es.map (·.2)) u->Q (au u) cn.st):bc (n+20) 59 [.ref 10,f0 cG (yJ dK) d4 Y aH,au t] S.st Q:=by
 by_cases c:es.map (·.2)=[2]
 .obtain⟨e,a6⟩:=h.arr c;induction dK using Bool.casesOn with
  |true=>exact A7 (nm:=17) a6 (.inr<|.inr<|.inl rfl)<|q 11 S (.refl T) rfl
  |false=>exact TD T bk az dh a6 (aI (gr (aG rfl) _) aq) λu x aa g ty iN=>q u _ (.w<|g.le<|aG rfl)<|.inl ⟨c,x,ty,iN⟩
 .obtain⟨ci,aw,a6⟩:=h.tup c;induction dK using Bool.casesOn with
  |true=>exact A7 (nm:=17) a6 (.inr<|.inr<|.inr<|.inl rfl)<|q 11 S (.refl T) rfl
  |false=>exact UU T bk az dh a6 aw h.pat c aq λu cx aa g cf iN=>q u _ (.w g)<|.inr ⟨c,cx,cf,iN⟩
theorem QY{g1:dz}(lZ:Rows g1.R)(ae:p.good)(az:(Y:Ă)=0\/(Y:Ă)=1\/(Y:Ă)=2)(dh:(aH:Ă)=0\/(aH:Ă)=1\/(aH:Ă)=2)(o0:g1.R.length<=500)(m_:f9 g1.R d4 p.at)(lB:rr g1.R t es aV)(q:∀s,Q (.bool true) s):bw (n+40) (yj.body.drop 12) (mW p Y aH dK g5 (.bb<|kt t es aV) d4 cG .un .un .un) g1.st (λcI _ ar=>Q cI.val ar):=by
 have iW:es.length<=5:=by have:=ue _ lB.pat;rw[bT]at this;exact this
 have room:∀{cn k c},fI g1 cn c->Nat.ble (500+c+k) a3=true->cn.R.length+k<=a3:=λaP h=>aI (fP (aI aP.g.len<|fP o0 _) _)<|aG h;refine bw.rP (λK=>∀u jG,fI g1 jG 250->Gm dK jG.R p Y aH aV (es.map (·.2)) u->K (au u) jG.st) (λK ab=>P' lZ m_ az dh lB (room (.refl lZ (c:=0)) rfl) ab) λu jG rc cD=>bw.to _ _ (λK h=>h)<|bw.rP (λK=>∀w jt,fI jG jt 4000->nM jt.R p Y aH aV (es.map (·.2)) w->K (au w) jt.st) (λK ab=>PB (S:=jG) rc.g.ok ae.ok az dh lB.pat lB.nK (room rc rfl) (λc w x aa g ty e=>ab w _ (.w g)<|.inl ⟨c,x,ty,e⟩) λc w cx aa g cf e=>ab w _ (.w g)<|.inr ⟨c,cx,cf,e⟩) λw jt n5 iT=>?_;have mV:=rc.trans n5;have iN:u=cond dK 11 w:=by
  induction dK using Bool.casesOn with
  |true=>exact cD
  |false=>exact(nM.bf cD n5.g).inj n5.g.ok iT
 refine bw.to _ _ (λK h=>DZ iN h)<|bw.fY (λK=>∀l7 dd,fI jt l7 250->K (mW p Y aH dK g5 (.bb<|kt t es aV) d4 cG (.val<|au u) (.val<|au w) dd) l7.st) (λK ab=>?_) λl7 dd m5=>?_
 .by_cases c:es.map (·.2)=[2]
  .have aw:(!decide (es.map (·.2)=[2]))=false:=by rw[dL c];rfl
   exact bj.h4 aw<|bj.h4 aw<|ab jt _<|.refl n5.g.ok
  .obtain⟨ci,aw,a6⟩:=(lB.bf mV.g).tup c;refine bj.l3 (by rw[eA c];rfl) ?_;lk;exact GL (S:=jt) n5.g.ok (m_.bf mV.g) az dh aw lB.pat c (room mV rfl) λv cx aa g cf e=>bj.h4 (by rw[nM.inj g.ok (.inr ⟨c,cx,cf,e⟩)<|iT.bf g];exact Dx _)<|ab _ _<|.w g
 .refine I8 (n:=n+1) m5.g.ok ae.ok az q λh=>?_;replace iN:u=w:=by rw[iN,h];rfl
  have zR:=ND lB.uX;have b1:∀{N:cU->HO bx} {row:B},(∀r∈kU es,∀x∈N (gj 0 r),pN l7 (n+39) row p Y (gj 0 r) [91] x)->∀K:B->St->Prop,(∀b1:HO kc,(∀c∈b1,i7 c.1/\∀x∈N c.1,pN l7 (n+39) row p Y c.1 c.2 x)->K (.lst<|b1.map pz) l7.st)->bc (n+40) 88 [.bb<|kt t es aV] l7.st K:=λ{N row} c_ K ab=>Mr (n:=n+38) iW (ab _ λc aq=>by obtain⟨r,bn,e⟩:=dr.mp aq;rw[<-e];exact⟨(zR r bn).slt lB.pat,c_ r bn⟩);rcases iT.bf m5.g with⟨c,x,ty,rx⟩|⟨c,cx,cf,rx⟩
  .exact⟨_,λz=>z.map (·.1),iN▸rx,.inl ⟨x,_,rfl,λ_=>rfl⟩,b1 λr bn=>PT m5.g.ok ae az ty<|c▸zR r bn⟩
  .exact⟨_,sG<|ca<|cx.map (·.2),iN▸rx,.inr<|.inl ⟨cx,_,rfl,rfl,by rw[cf.len,j0,uz,v9,bT];exact iW⟩,b1 λr bn=>YB m5.g.ok ae az lB.pat cf<|zR r bn⟩
end
theorem YK{n:ā}{Q:B->St->Prop}{g1:dz}{p:cK}{Y aH g5 d4 cG:ā}{dK:ZI}{t:ā}{st:ZI}(lZ:Rows g1.R)(ae:p.good)(az:(Y:Ă)=0\/(Y:Ă)=1\/(Y:Ă)=2)(dh:(aH:Ă)=0\/(aH:Ă)=1\/(aH:Ă)=2)(o0:g1.R.length<=500)(m_:f9 g1.R d4 p.at)(Dl:tt g1.R t st)(q:∀s,Q (.bool true) s):bw (n+40) (yj.body.drop 12) (mW p Y aH dK g5 (.bb<|wF t st) d4 cG .un .un .un) g1.st (λcI _ ar=>Q cI.val ar):=by
 refine bw.rP (λK=>∀s,K (.int<|if st=true then(t:Ă)else 11) s) (λK ab=>?_) λs=>?_
 .rcases Dl with⟨rfl,h⟩|⟨rfl,h⟩
  .exact Tl lZ h<|ab _
  .exact Um lZ m_ az dh (by induction dK using Bool.casesOn with|true=>exact .inr rfl|false=>exact .inl rfl) h (aI (fP o0 _)<|aG rfl) λaa ef g=>ab _
 .induction st using Bool.casesOn with
  |true=>have ff:=q s;rw[<-show decide ((t:Ă)=t)=true from dL rfl]at ff;exact ff
  |false=>exact q s
theorem Xc{n:ā}{nums:HO B}{Q:B->St->Prop}(c_:oF nums)(q:∀s,Q (.bool true) s):bc (n+41) 99 [.ref 0] [.ls [.int 0,.lst nums]] Q:=by
 have CN:=rH;k_go;refine Sb (iT:=List.replicate 11 .un)<|Xj (S:=l1 nums) c_ (aG rfl) λp d ae (bg:d<=14)=>?_;have uc:d+1<=15:=dc bg;have zc:d+2<=16:=dc uc;have FR:d+3<=17:=dc zc;have BS:d+4<=18:=dc FR;refine hB (S:=(l1 nums).go d) c_ (aI bg<|aG rfl) (by decide) λY Zm=>hB (S:=(l1 nums).go<|d+1) c_ (aI uc<|aG rfl) (by decide) λaH S9=>hB (S:=(l1 nums).go<|d+2) c_ (aI zc<|aG rfl) (by decide) λv _=>hB (S:=(l1 nums).go<|d+3) c_ (aI FR<|aG rfl) (by decide) λg5 Zq=>?_;have az:=II Zm;have dh:=II S9;refine bw.yv 9 (λK=>∀(S:dz) w,uK S w->Rows S.R->S.R.length<=300->K (.val w) S.st) (λK ab=>?_)<|λkf Wc FC Ib FP=>?_
 .have g4:hm.length+200<=a3:=aG rfl;refine bj.en (λba=>?_) λba=>?_
  .exact Rn (S:=(l1 nums).go<|d+4) CN c_ (aI BS<|aG rfl) rfl g4 λcn t o fq M ai cA cV dH eF b' bR e_ hF g Z3=>⟨rfl,_,rfl,ab cn _ (.inl ⟨t,o,fq,M,ai,cA,cV,dH,eF,b',bR,e_,rfl,hF⟩) g.ok<|aI g.len<|aG rfl⟩
  .refine bj.en (λfp=>?_) λfp=>?_
   .exact Yb (S:=(l1 nums).go<|d+4) CN c_ (aI BS<|aG rfl) g4 λt es aV aa m' lB g=>⟨rfl,_,rfl,ab ((((l1 nums).go<|d+4).go m').w aa) _ (.inr<|.inl ⟨t,es,aV,rfl,lB⟩) g.ok<|aI g.len<|aG rfl⟩
   .exact VY (S:=(l1 nums).go<|d+4) CN c_ (aI BS<|aG rfl) (aG rfl) λt st aa m' cs g=>⟨rfl,_,rfl,ab ((((l1 nums).go<|d+4).go m').w aa) _ (.inr<|.inr ⟨t,st,rfl,cs⟩) g.ok<|aI g.len<|aG rfl⟩
 have room:∀{k},Nat.ble (300+k) a3=true->kf.R.length+k<=a3:=λ{k} e=>aI (fP FP k)<|aG e;refine bw.yv 10 (λK=>∀d4 bu,a9 kf.R bu 100->f9 bu d4 p.at->K (.val<|au d4) (kf.w bu).st) (λK ab=>Vk (S:=kf) Ib ae (room rfl) λd4 bu bh Dr=>⟨rfl,_,rfl,ab d4 bu bh Dr⟩) λd4 bu bh Dr=>bw.yv 11 (λK=>∀(k:ā) d2,a9 bu d2 1->K (.val<|au k) (kf.w d2).st) (λK ab=>fb (S:=kf.w bu) bh.ok rfl (bh.room (room (k:=200) rfl)<|aG rfl) λcG d2 cJ _=>⟨rfl,_,rfl,ab cG d2 cJ⟩) λcG d2 cJ=>?_;have vv:fI kf (kf.w d2) 101:=.w<|bh.trans cJ;have lZ:Rows (kf.w d2).R:=cJ.ok;have o0:(kf.w d2).R.length<=500:=aI vv.g.len<|aI (fP FP 101)<|aG rfl;have m_:=Dr.bf cJ;have VR:uK (kf.w d2) Wc:=FC.ex vv;have ZD:d2[17]?=some (.tup [.int 10,.int 1]):=cJ.ok.at rfl;generalize decide ((v:Ă)=4)=dK;refine bw.yv 12 (λK=>K (.val<|f0 cG (yJ dK) d4 Y aH) (kf.w d2).st) (λK ab=>?_) ?_
 .induction dK with
  |true=>lk;exact⟨rfl,_,rfl,ab⟩
  |false=>lk;exact⟨rfl,_,rfl,ab⟩
 clear FC vv Ib;rcases VR with⟨t,o,fq,M,ai,cA,cV,dH,eF,b',bR,e_,rfl,hF⟩|⟨t,es,aV,rfl,lB⟩|⟨t,st,rfl,Dl⟩
 .exact XG lZ ae az dh o0 m_ hF q
 .exact QY lZ ae az dh o0 m_ lB q
 .exact YK lZ ae az dh o0 m_ Dl q
theorem QN{n:ā}{l:HO Ă}{Q:B->St->Prop}(q:∀s,Q (.bool true) s):bc (n+43) 100 [.lst<|l.map .int] [] Q:=by
 have fin:∀(nums:HO B),oF nums->∀tr J7,bw (n+42) [.ret<|.call 99 [.box<|.lst [.k<|.int 0,.v 1]]] [tr,.val<|.lst nums,J7] [] (λcI _ ar=>Q cI.val ar):=λnums c_ tr J7=>Xc c_ q;have Gu:∀k:HO Ă,k≠[]->k.length<=48->oF (k.map .int):=λk G E=>⟨λe=>G<|List.map_eq_nil_iff.mp e,λv af=>by obtain⟨i,_,rfl⟩:=dr.mp af;clear af;exact⟨i,rfl⟩,by rw[bT];exact f1 ‹_›⟩;k_go;refine dg.oI (x:=.lst<|(l.take 48).map .int) rfl (λ_ h=>by rw[List.map_take]at h;exact h)<|fk.mp (f:=.int) (all:=l.take 48) rfl (λdone K=>K (done.map λi=>B.int<|Int.fmod i 99991) []) (λdone i a_ e K ab=>?_) ?_ λK h=>h
 .rw[cZ]at ab;exact eO.mk ab
 have e:(l.take 48).map (λi=>B.int<|Int.fmod i 99991)=((l.take 48).map λi=>Int.fmod i 99991).map .int:=by rw[f2];rfl
 rw[e];have aN:((l.take 48).map λi=>Int.fmod i 99991).length<=48:=by rw[bT,List.length_take];exact Nat.min_le_left _ _
 generalize(l.take 48).map (λi=>Int.fmod i 99991)=m at aN;by_cases aU:m=[]
 .subst aU;exact fin ([0,2,0,1,0,0,0,0,0,5,1,2,1,0,0,4,5,38,1,0,3,1].map .int) (Gu _ (by simp)<|by simp) _ _
 .lk;rw[bT];exact bj.fm (λe=>aU<|y6.mp<|pa.mp e)<|fin (m.map .int) (Gu m aU aN) _ _
theorem RW(l:HO Ă):bc 100 100 [.lst<|l.map .int] [] λv s=>v=.bool true:=QN (n:=57) λ_=>rfl
end
open PySem PySem.W PyProof.Rows PySem.Calls PySem.SeqAt PySem.Spec
set_option tactic.hygienic true
noncomputable abbrev fe:Program:=PySem.Challenge.pw_up0039_01
def body:HO Stmt:=fe.main.body
def aL (i:ā):Stmt:=(body.drop i).headD<|.Pass ⟨0,0,0,0⟩
def gB:Stmt->HO Stmt
 |.ClassDef _ _ _ b _ _ _ _ _ _ _=>b
 |_=>[]
def dA (i j:ā):Stmt:=((gB<|aL i).drop j).headD<|.Pass ⟨0,0,0,0⟩
def nm:Stmt->Str
 |.FunctionDef n _ _ _ _ _ _ _ _ _=>n
 |_=>Str.empty
def ln:Stmt->Arguments
 |.FunctionDef _ a _ _ _ _ _ _ _ _=>a
 |_=>⟨[],[],none,[],[],none,[]⟩
def qx:Stmt->HO Stmt
 |.FunctionDef _ _ b _ _ _ _ _ _ _=>b
 |_=>[]
def b':Stmt->Scope
 |.FunctionDef _ _ _ _ _ _ s _ _ _=>s
 |_=>fe.main.scope
def g' (a n:ā):HO Stmt:=(body.drop a).take n
noncomputable abbrev N:Zr:=.none
noncomputable abbrev TT:Zr:=.bool true
noncomputable abbrev S0:Zr:=.bool false
noncomputable abbrev I (i t:ā):Zr:=.int (Int.ofNat i) t
noncomputable abbrev dx (i t:ā):Zr:=.int (Int.negSucc i) t
noncomputable abbrev S (s:String) (t:ā):Zr:=.str (Str.ofString s) t
noncomputable abbrev ah (t:ā):Zr:=.str (Str.ofString "/claim/cut.py") t
noncomputable abbrev T (n:String):Zr:=.type n
noncomputable abbrev U (n:String):Zr:=.builtin n
noncomputable abbrev R (a:ā):Zr:=.ref a
noncomputable abbrev O (P:Params) (x:String) (t:ā) (v:Zr):DictEntry:=⟨PyData.keyHash P<|Str.ofString x,.str (Str.ofString x) t,v⟩
noncomputable abbrev Q (c:Zr) (l:HO Zr):Obj:=⟨c,none,.seq ⟨l⟩ 0,#[]⟩
noncomputable abbrev cS (c:Zr) (l:HO Zr):Obj:=⟨c,none,.fields ⟨l⟩,#[]⟩
noncomputable abbrev CB (x:Stmt) (a':String) (n1 w3 c:Zr):Obj:=⟨.type "function",none,.func {name:=nm x,qualname:=Str.ofString a',params:=ln x,body:=.stmts<|qx x,scope:=b' x,globals:=3,closure:=[],defaults:=n1,kwdefaults:=.none,doc:=.none,pyModule:=w3,annotations:=none,code:=c,closureTuple:=.none,builtins:=0},#[]⟩
noncomputable abbrev I4 (x:Stmt) (a':String):Obj:=⟨.none,none,.func {name:=nm x,qualname:=Str.ofString a',params:=ln x,body:=.stmts<|qx x,scope:=b' x,globals:=0,closure:=[],defaults:=.none,kwdefaults:=.none,doc:=.none,pyModule:=.none,annotations:=none,code:=.none,closureTuple:=.none,builtins:=0},#[]⟩
def hz:Obj:=Q (T "tuple") []
noncomputable abbrev a' (l:HO Zr):Obj:=Q (T "tuple") l
def iU:Obj:=cS (T "builtin_function_or_method") [U "type.__prepare__",T "type"]
noncomputable abbrev nN (r:Zr):Obj:=cS (T "builtin_function_or_method") [U "object.__init_subclass__",r]
noncomputable abbrev nB (l:HO Zr):Obj:=cS (T "getset_descriptor") l
noncomputable abbrev nH (r:ā):Obj:=cS (T "super") [R r,R r,R r]
noncomputable abbrev jg (a b:ā) (m:Zr):Obj:=⟨T "frame",none,.plain,#[some<|R a,some<|R 3,some<|R b,none,some m,none,some<|R 0]⟩
noncomputable abbrev hU (l:HO DictEntry) (n:ā):Obj:=⟨T "dict",none,.dict ⟨l⟩ n,#[]⟩
noncomputable abbrev eS (n:String) (b m:HO Zr) (ns:ā) (mP:HO Zr) (l:HO (Z5 Zr)):Obj:=⟨T "type",none,.cls {name:=n,bases:=b,mro:=m,ns:=ns,qualname:=n,hasDict:=true,slotNames:=[],subclasses:=mP,abstract:=false,collection:=none,hasDel:=false},⟨l⟩⟩
def v0:ā->HO String->HO Zr
 |_,[]=>[]
 |t,s::r=>S s t::v0 (t+1) r
noncomputable abbrev c7 (t:ā) (l:HO String):Obj:=Q (T "tuple")<|v0 t l
noncomputable abbrev zD (n a':String) (t l a f r:ā) (b x y hz:Zr) (u:ā):Obj:=cS (T "code") [S n t,S a'<|t+1,ah<|t+2,I l 0,I a 0,I 0 0,I 0 0,I f 0,R r,b,I 181 0,R<|r+1,N,x,y,hz,I u 0,I l 0,ah<|u+1]
noncomputable abbrev nf (n:String) (t l r u:ā):Obj:=zD n n t l 0 0 r S0 N N N u
def e0 (r:ā) (x:Stmt) (p n:String) (t l a:ā) (vs:HO String) (n1 m:Zr):HO Obj:=
 match vs with
 |[]=>[hz,cS N [],I4 x p,zD n p t l a 3 r TT N N (R<|r+2)<|t+3,CB x p n1 m<|R<|r+3]
 |v::w=>[hz,cS N [],c7 (t+3)<|v::w,hz,I4 x p,zD n p t l a 3 r TT (R<|r+2) (R<|r+3) (R<|r+4)<|t+3+(v::w).length,CB x p n1 m<|R<|r+5]
noncomputable abbrev b5 (r:ā) (x:Stmt) (n:String) (t l a:ā) (vs:HO String) (n1 m:Zr):HO Obj:=e0 r x n n t l a vs n1 m
noncomputable abbrev DP:Zr:=S "__main__" 164
noncomputable abbrev gi:Zr:=S "kindkeep.diags" 194
noncomputable abbrev eh:Zr:=S "kindkeep.types" 283
noncomputable abbrev Fx:Zr:=S "kindkeep.shapes" 764
noncomputable abbrev fh:Zr:=S "kindkeep.hosts" 779
noncomputable abbrev pr:Zr:=S "kindkeep.kindtpl" 1055
noncomputable abbrev CW:Zr:=S "kindkeep.kindkeys" 1140
noncomputable abbrev f4:Zr:=S "kindkeep.kindmap" 1149
noncomputable abbrev yk:Zr:=S "kindkeep.kinds" 1421
noncomputable abbrev nZ:Zr:=S "kindkeep.plainput" 1453
noncomputable abbrev m6:Zr:=S "kindkeep.keyhost" 1519
noncomputable abbrev fz:Zr:=S "law_up0039_01" 1594
def W6 (P:Params):HO DictEntry:=[O P "_wall" 193<|R 21,O P "KeepError" 226<|R 39,O P "TooDeep" 255<|R 60,O P "HostFault" 282<|R 80,O P "Y_KEY" 286<|I 1 285,O P "Y_BOOL" 288<|I 2 287,O P "Y_STR" 290<|I 3 289,O P "Y_NUM" 292<|I 4 291,O P "Y_ENUM" 294<|I 5 293,O P "Y_UNION" 296<|I 6 295,O P "Y_INTER" 298<|I 7 297,O P "Y_OBJ" 300<|I 8 299,O P "Y_REF" 302<|I 9 301,O P "Y_PARAM" 304<|I 10 303,O P "Y_ARRAY" 306<|I 11 305,O P "Y_TUPLE" 308<|I 12 307,O P "Y_SIG" 310<|I 13 309,O P "Y_KEYOF" 312<|I 14 311,O P "Y_INDEX" 314<|I 15 313,O P "Y_COND" 316<|I 16 315,O P "Y_MAPPED" 318<|I 17 317,O P "Y_TPL" 320<|I 18 319,O P "Y_ALIAS" 322<|I 19 321,O P "ANY" 324<|I 0 323,O P "UNKNOWN" 326<|I 1 325,O P "NEVER" 328<|I 2 327,O P "VOID" 330<|I 3 329,O P "UNDEF" 332<|I 4 331,O P "NULLT" 334<|I 5 333,O P "STRING" 336<|I 6 335,O P "NUMBER" 338<|I 7 337,O P "FALSE_T" 340<|I 8 339,O P "TRUE_T" 342<|I 9 341,O P "OBJECTT" 344<|I 10 343,O P "EMPTY" 346<|I 11 345,O P "BOOLEAN" 348<|I 12 347,O P "ERR" 350<|I 13 349,O P "FRESH_F" 352<|I 14 351,O P "FRESH_T" 354<|I 15 353,O P "P_OPT" 356<|I 1 355,O P "P_READONLY" 358<|I 2 357,O P "P_METHOD" 360<|I 4 359,O P "P_PRIVATE" 362<|I 8 361,O P "P_PROTECTED" 364<|I 16 363,O P "P_GETONLY" 366<|I 32 365,O P "P_ACCESS" 368<|I 64 367,O P "E_NEED" 370<|I 0 369,O P "E_OPT" 372<|I 1 371,O P "E_REST" 374<|I 2 373,O P "E_SPREAD" 376<|I 3 375,O P "D_INTERFACE" 378<|I 2 377,O P "FAM_OTHER" 380<|I 0 379,O P "FAM_STR" 382<|I 1 381,O P "FAM_NUM" 384<|I 2 383,O P "FAM_BOOL" 386<|I 3 385,O P "FAM_NULL" 388<|I 4 387,O P "FAM_UNDEF" 390<|I 5 389,O P "FAM_VOID" 392<|I 6 391,O P "FAM_OBJ" 394<|I 7 393,O P "MAX_UNION" 396<|I 400 395,O P "FIRST_ROWS" 418<|R 105,O P "MARKED_ROWS" 419<|R 106,O P "OBJECT_ROWS" 420<|R 107,O P "KEY_FAMILIES" 427<|R 108,O P "TypeTable" 482<|R 139,O P "Decl" 527<|R 160,O P "kind_of" 535<|R 171,O P "str_type" 545<|R 179,O P "array_type" 555<|R 187,O P "last_mark" 565<|R 194,O P "needed_to_last" 578<|R 201,O P "one_rest" 592<|R 208,O P "tuple_type" 599<|R 214,O P "sorted_props" 605<|R 219,O P "obj_type" 619<|R 231,O P "sig_type" 632<|R 240,O P "func_type" 640<|R 247,O P "new_param" 655<|R 255,O P "new_decl" 665<|R 262,O P "parts_of" 674<|R 269,O P "whole_of_row" 682<|R 276,O P "regular_twin" 691<|R 283,O P "join_bools" 698<|R 290,O P "stays_beside" 707<|R 297,O P "top_of" 715<|R 304,O P "union" 721<|R 309,O P "without" 727<|R 314,O P "add_undef" 735<|R 321,O P "common_family" 741<|R 326,O P "meet_family" 752<|R 333,O P "family" 763<|R 340,O P "MOST_PLAIN" 767<|I 40 766,O P "PLAIN_ROWS" 768<|R 341,O P "plain_shape" 778<|R 348,O P "MOST_ROUNDS" 782<|I 200 781,O P "MOST_SHAPES" 784<|I 40 783,O P "Thin" 970<|R 491,O P "RefHost" 1012<|R 526,O P "told_places" 1020<|R 535,O P "find_prop" 1029<|R 542,O P "is_digits" 1035<|R 547,O P "prop_row" 1046<|R 554,O P "read_type" 1054<|R 561,O P "MOST_CROSSED" 1058<|I 200 1057,O P "OPEN_KINDS" 1059<|R 562,O P "is_open" 1071<|R 569,O P "unit_word" 1080<|R 576,O P "key_text" 1088<|R 583,O P "glue" 1096<|R 590,O P "hole_pieces" 1109<|R 597,O P "cross_holes" 1115<|R 602,O P "one_template" 1127<|R 609,O P "tpl_kind" 1139<|R 616,O P "is_public" 1148<|R 623,O P "Made" 1213<|R 659,O P "is_late_alias" 1219<|R 668,O P "undefless" 1228<|R 675,O P "optional_form" 1236<|R 682,O P "readonly_after" 1244<|R 689,O P "template_at" 1253<|R 696,O P "member_opt" 1261<|R 703,O P "member_kind" 1274<|R 710,O P "kindmap_member_flags" 1286<|R 717,O P "names_for" 1296<|R 724,O P "Keyed" 1329<|R 741,O P "put_member" 1348<|R 752,O P "build_members" 1362<|R 759,O P "shape_entries" 1374<|R 766,O P "map_array" 1387<|R 773,O P "spare_elem" 1396<|R 780,O P "map_elem" 1412<|R 787,O P "is_primitive" 1420<|R 794,O P "known_part" 1428<|R 799,O P "bound_tuple" 1442<|R 806,O P "lists_have" 1452<|R 813,O P "put_each" 1460<|R 818,O P "put_cell" 1469<|R 825,O P "put_shape" 1475<|R 830,O P "plainput_put_elems" 1481<|R 835,O P "put_call" 1487<|R 840,O P "without_own" 1497<|R 847,O P "put_late" 1508<|R 854,O P "plain_put" 1518<|R 861,O P "table_read" 1531<|R 868,O P "put_name" 1539<|R 875,O P "NameHost" 1593<|R 913,O P "_law_undef" 1598<|R 916,O P "_law_texts" 1601<|R 917,O P "_law_numbers" 1604<|R 918,O P "_law_take" 1613<|R 925,O P "_law_kind" 1624<|R 932,O P "_law_type" 1630<|R 937,O P "_law_atom" 1641<|R 944,O P "_law_back" 1647<|R 949,O P "_law_back_one" 1656<|R 956,O P "_law_plan" 1667<|R 963,O P "_law_at" 1680<|R 970,O P "_law_template" 1686<|R 975,O P "_law_object" 1692<|R 980,O P "_law_list" 1698<|R 985,O P "_law_lone" 1709<|R 992,O P "_law_slot" 1715<|R 997,O P "_law_told" 1740<|R 1004,O P "_law_told_list" 1746<|R 1009,O P "_law_choices" 1752<|R 1014,O P "_law_rows" 1758<|R 1019,O P "_law_numbered" 1767<|R 1026,O P "_law_own" 1773<|R 1031,O P "_law_free" 1784<|R 1038,O P "_law_after" 1799<|R 1045,O P "_law_digits" 1805<|R 1050,O P "_law_held" 1811<|R 1055,O P "_law_lies" 1817<|R 1060,O P "_law_rooms" 1823<|R 1065,O P "_law_sound" 1829<|R 1070,O P "_law_round" 1851<|R 1077,O P "law" 1857<|R 1082]
def RK:HO Zr:=[I 1 0,I 0 0,R 20,I 5 0,I 0 0,R 27,I 10 0,I 0 0,R 48,I 15 0,I 0 0,R 68,I 81 0,I 0 0,R 114,I 107 0,I 0 0,R 149,I 125 0,I 0 0,R 170,I 127 0,I 0 0,R 178,I 129 0,I 0 0,R 186,I 131 0,I 0 0,R 193,I 137 0,I 0 0,R 200,I 147 0,I 0 0,R 207,I 158 0,I 0 0,R 213,I 166 0,I 0 0,R 218,I 171 0,I 0 0,R 230,I 173 0,I 0 0,R 239,I 175 0,I 0 0,R 246,I 177 0,I 0 0,R 254,I 183 0,I 0 0,R 261,I 187 0,I 0 0,R 268,I 194 0,I 0 0,R 275,I 203 0,I 0 0,R 282,I 208 0,I 0 0,R 289,I 212 0,I 0 0,R 296,I 216 0,I 0 0,R 303,I 221 0,I 0 0,R 308,I 238 0,I 0 0,R 313,I 240 0,I 0 0,R 320,I 242 0,I 0 0,R 325,I 246 0,I 0 0,R 332,I 255 0,I 0 0,R 339,I 275 0,I 0 0,R 347,I 293 0,I 0 0,R 354,I 355 0,I 0 0,R 501,I 365 0,I 0 0,R 534,I 372 0,I 0 0,R 541,I 377 0,I 0 0,R 546,I 380 0,I 0 0,R 553,I 388 0,I 0 0,R 560,I 393 0,I 0 0,R 568,I 410 0,I 0 0,R 575,I 425 0,I 0 0,R 582,I 429 0,I 0 0,R 589,I 431 0,I 0 0,R 596,I 446 0,I 0 0,R 601,I 463 0,I 0 0,R 608,I 474 0,I 0 0,R 615,I 481 0,I 0 0,R 622,I 484 0,I 0 0,R 629,I 516 0,I 0 0,R 667,I 525 0,I 0 0,R 674,I 531 0,I 0 0,R 681,I 535 0,I 0 0,R 688,I 541 0,I 0 0,R 695,I 543 0,I 0 0,R 702,I 545 0,I 0 0,R 709,I 555 0,I 0 0,R 716,I 564 0,I 0 0,R 723,I 571 0,I 0 0,R 730,I 577 0,I 0 0,R 751,I 598 0,I 0 0,R 758,I 607 0,I 0 0,R 765,I 619 0,I 0 0,R 772,I 624 0,I 0 0,R 779,I 630 0,I 0 0,R 786,I 639 0,I 0 0,R 793,I 642 0,I 0 0,R 798,I 654 0,I 0 0,R 805,I 665 0,I 0 0,R 812,I 676 0,I 0 0,R 817,I 678 0,I 0 0,R 824,I 680 0,I 0 0,R 829,I 686 0,I 0 0,R 834,I 692 0,I 0 0,R 839,I 697 0,I 0 0,R 846,I 703 0,I 0 0,R 853,I 718 0,I 0 0,R 860,I 736 0,I 0 0,R 867,I 747 0,I 0 0,R 874,I 753 0,I 0 0,R 881,I 774 0,I 0 0,R 924,I 778 0,I 0 0,R 931,I 786 0,I 0 0,R 936,I 788 0,I 0 0,R 943,I 799 0,I 0 0,R 948,I 804 0,I 0 0,R 955,I 815 0,I 0 0,R 962,I 825 0,I 0 0,R 969,I 837 0,I 0 0,R 974,I 850 0,I 0 0,R 979,I 879 0,I 0 0,R 984,I 897 0,I 0 0,R 991,I 911 0,I 0 0,R 996,I 916 0,I 0 0,R 1003,I 933 0,I 0 0,R 1008,I 954 0,I 0 0,R 1013,I 980 0,I 0 0,R 1018,I 991 0,I 0 0,R 1025,I 996 0,I 0 0,R 1030,I 1007 0,I 0 0,R 1037,I 1017 0,I 0 0,R 1044,I 1025 0,I 0 0,R 1049,I 1027 0,I 0 0,R 1054,I 1036 0,I 0 0,R 1059,I 1038 0,I 0 0,R 1064,I 1057 0,I 0 0,R 1069,I 1072 0,I 0 0,R 1076,I 1103 0,I 0 0,R 1081]
def hd (P:Params) (m:Zr) (k n:ā):Obj:=⟨T "dict",none,.dict ⟨[O P "__name__" 165 m,O P "__doc__" 166 N,O P "__package__" 167 N,O P "__loader__" 168<|U "__main__.__loader__#opaque",O P "__spec__" 169 N,O P "__annotations__" 170<|R 6,O P "__builtins__" 171<|R 4,O P "__file__" 173<|ah 172,O P "__cached__" 174 N]++(W6 P).take k⟩ n,#[]⟩
def hy (k:ā):Obj:=⟨N,none,.fields ⟨RK.take k⟩,#[]⟩
def Ax (P:Params):Obj:=⟨N,none,.dict ⟨[O P "type.__subclasses__.Exception.0" 223<|I 39 0,O P "type.__subclasses__.Exception.n" 224<|I 1 0]⟩ 2,#[]⟩
def R6 (P:Params):HO Obj:=[PySem.W.boot_o_0 P,PySem.W.boot_o_1 P,Ax P,hd P fz 177 186,PySem.W.boot_o_4 P,PySem.W.boot_o_5 P,PySem.W.boot_o_6 P,PySem.W.boot_o_7 P,PySem.W.boot_o_8 P,PySem.W.boot_o_9 P,PySem.W.boot_o_10 P,hz,hy 324,nf "<module>" 182 1 11 185,jg 13 3 DP]++(b5 15 (aL 0) "_wall" 187 1 1 ["k"] N DP++([a' [T "Exception"],iU,hU [O P "__module__" 203 gi,O P "__qualname__" 205<|S "KeepError" 204,O P "__firstlineno__" 207<|I 5 206,O P "__init__" 216<|R 36,O P "__static_attributes__" 219<|R 37] 5,hz,cS N [I 7 0,I 4 0,R 35],nf "KeepError" 198 5 25 201,jg 27 24 gi,a' [S "" 208]]++(e0 30 (dA 2 0) "KeepError.__init__" "__init__" 209 7 2 ["self","text"] (R 29) gi++([c7 217 ["number","text"],hU [O P "__module__" 203 gi,O P "__firstlineno__" 207<|I 5 206,O P "__init__" 216<|R 36,O P "__static_attributes__" 219<|R 37,O P "__weakref__" 221<|R 40,O P "__doc__" 222 N] 3,eS "KeepError" [T "Exception"] [R 39,T "Exception",T "BaseException",T "object"] 38 [R 60,R 80] [some<|R 22,none,some<|S "KeepError" 196,some<|S "KeepError" 204,some<|U "Exception.__new__",some TT],nB [S "__weakref__" 220,R 39,U "ExceptionGroup.__weakref__",N],nH 39,nN<|R 39,a' [R 39],iU,hU [O P "__module__" 234 gi,O P "__qualname__" 236<|S "TooDeep" 235,O P "__firstlineno__" 238<|I 10 237,O P "__init__" 249<|R 57,O P "__static_attributes__" 252<|R 58] 5,hz,cS N [I 12 0,I 4 0,R 56],nf "TooDeep" 229 10 46 232,jg 48 45 gi,a' [I 2589 239,S "" 240]]++(e0 51 (dA 3 0) "TooDeep.__init__" "__init__" 241 12 3 ["self","number","text"] (R 50) gi++([c7 250 ["number","text"],hU [O P "__module__" 234 gi,O P "__firstlineno__" 238<|I 10 237,O P "__init__" 249<|R 57,O P "__static_attributes__" 252<|R 58,O P "__doc__" 253 N] 2,eS "TooDeep" [R 39] [R 60,R 39,T "Exception",T "BaseException",T "object"] 59 [] [some<|R 43,none,some<|S "TooDeep" 227,some<|S "TooDeep" 235,some<|U "Exception.__new__",some TT],nH 60,nN<|R 60,a' [R 39],iU,hU [O P "__module__" 263 gi,O P "__qualname__" 265<|S "HostFault" 264,O P "__firstlineno__" 267<|I 15 266,O P "__init__" 276<|R 77,O P "__static_attributes__" 279<|R 78] 5,hz,cS N [I 17 0,I 4 0,R 76],nf "HostFault" 258 15 66 261,jg 68 65 gi,a' [S "" 268]]++(e0 71 (dA 4 0) "HostFault.__init__" "__init__" 269 17 2 ["self","text"] (R 70) gi++([c7 277 ["number","text"],hU [O P "__module__" 263 gi,O P "__firstlineno__" 267<|I 15 266,O P "__init__" 276<|R 77,O P "__static_attributes__" 279<|R 78,O P "__doc__" 280 N] 2,eS "HostFault" [R 39] [R 80,R 39,T "Exception",T "BaseException",T "object"] 79 [] [some<|R 63,none,some<|S "HostFault" 256,some<|S "HostFault" 264,some<|U "Exception.__new__",some TT],nH 80,nN<|R 80,a' [I 1 285,S "any" 397],a' [I 1 285,S "unknown" 398],a' [I 1 285,S "never" 399],a' [I 1 285,S "void" 400],a' [I 1 285,S "undefined" 401],a' [I 1 285,S "null" 402],a' [I 1 285,S "string" 403],a' [I 1 285,S "number" 404],a' [I 2 287,I 0 405,I 0 406],a' [I 2 287,I 1 407,I 0 408],a' [I 1 285,S "object" 409],hz,hz,hz,hz,hz,a' [I 8 299,R 94,R 95,R 96,R 97,R 98,I 0 410],a' [I 8 411,I 9 412],a' [I 6 295,R 100],a' [I 1 285,S "error" 413],a' [I 2 287,I 0 414,I 1 415],a' [I 2 287,I 1 416,I 1 417],a' [R 83,R 84,R 85,R 86,R 87,R 88,R 89,R 90,R 91,R 92,R 93,R 99,R 101,R 102,R 103,R 104],a' [I 2 287,I 3 289,I 4 291,I 5 293,I 8 299],a' [I 8 299,I 9 301,I 11 305,I 12 307,I 13 309],hU [⟨3,I 3 329,I 6 391⟩,⟨4,I 4 331,I 5 389⟩,⟨5,I 5 333,I 4 387⟩,⟨6,I 6 335,I 1 381⟩,⟨7,I 7 337,I 2 383⟩,⟨10,I 10 343,I 7 393⟩] 6,hz,iU,hU [O P "__module__" 435 eh,O P "__qualname__" 437<|S "TypeTable" 436,O P "__firstlineno__" 439<|I 81 438,O P "__init__" 447<|R 122,O P "row" 455<|R 129,O P "put" 464<|R 136,O P "__static_attributes__" 475<|R 137] 7,hz,cS N [I 83 0,I 4 0,R 121,I 97 0,I 4 0,R 128,I 100 0,I 4 0,R 135],nf "TypeTable" 430 81 112 433,jg 114 111 eh]++(e0 116 (dA 66 0) "TypeTable.__init__" "__init__" 440 83 1 ["self","row"] N eh++(e0 123 (dA 66 1) "TypeTable.row" "row" 448 97 2 ["self","t"] N eh++(e0 130 (dA 66 2) "TypeTable.put" "put" 456 100 2 ["self","row","t"] N eh++([c7 465 ["bounds","decls","defaults","index","names","origins","putting","renamed","rows","shaping"],hU [O P "__module__" 435 eh,O P "__firstlineno__" 439<|I 81 438,O P "__init__" 447<|R 122,O P "row" 455<|R 129,O P "put" 464<|R 136,O P "__static_attributes__" 475<|R 137,O P "__dict__" 477<|R 140,O P "__weakref__" 479<|R 141,O P "__doc__" 480 N] 4,eS "TypeTable" [T "object"] [R 139,T "object"] 138 [] [none,none,some<|S "TypeTable" 428,some<|S "TypeTable" 436,some<|U "object.__new__",some TT],nB [S "__dict__" 476,R 139,U "function.__dict__",U "function.__dict__#set"],nB [S "__weakref__" 478,R 139,U "ExceptionGroup.__weakref__",N],nH 139,nN<|R 139,hz,iU,hU [O P "__module__" 490 eh,O P "__qualname__" 492<|S "Decl" 491,O P "__firstlineno__" 494<|I 107 493,O P "__init__" 504<|R 157,O P "__static_attributes__" 520<|R 158] 5,hz,cS N [I 109 0,I 4 0,R 156],nf "Decl" 485 107 147 488,jg 149 146 eh]++(e0 151 (dA 67 0) "Decl.__init__" "__init__" 495 109 4 ["self","did","kind","name"] N eh++([c7 505 ["abstract","at","bases","body","busy","did","extends_class","file","kind","members","name","nid","params","static","variances"],hU [O P "__module__" 490 eh,O P "__firstlineno__" 494<|I 107 493,O P "__init__" 504<|R 157,O P "__static_attributes__" 520<|R 158,O P "__dict__" 522<|R 161,O P "__weakref__" 524<|R 162,O P "__doc__" 525 N] 4,eS "Decl" [T "object"] [R 160,T "object"] 159 [] [none,none,some<|S "Decl" 483,some<|S "Decl" 491,some<|U "object.__new__",some TT],nB [S "__dict__" 521,R 160,U "function.__dict__",U "function.__dict__#set"],nB [S "__weakref__" 523,R 160,U "ExceptionGroup.__weakref__",N],nH 160,nN<|R 160]))))))))))))))
def wX (P:Params):HO Obj:=b5 165 (aL 68) "kind_of" 528 125 2 ["tab","t"] N eh++([a' [I 0 536]]++(b5 173 (aL 69) "str_type" 537 127 3 ["tab","text","fresh"] (R 172) eh++([a' [I 0 546]]++(b5 181 (aL 70) "array_type" 547 129 3 ["tab","elem","ro"] (R 180) eh++(b5 188 (aL 71) "last_mark" 556 131 2 ["elems","marks","found","place"] N eh++(b5 195 (aL 72) "needed_to_last" 566 137 2 ["tab","elems","last","out","place","given","mark"] N eh++(b5 202 (aL 73) "one_rest" 579 147 3 ["tab","elems","last","first","place","held","given","mark"] N eh++([a' [I 0 593]]++(b5 210 (aL 74) "tuple_type" 594 158 3 [] (R 209) eh++(b5 215 (aL 75) "sorted_props" 600 166 1 [] N eh++([hz,hz,hz,hz,a' [R 220,R 221,R 222,R 223,I 0 606]]++(b5 225 (aL 76) "obj_type" 607 171 7 ["tab","props","calls","ctors","sindex","nindex","fresh"] (R 224) eh++([hz,a' [R 232,I 0 620]]++(b5 234 (aL 77) "sig_type" 621 173 6 ["tab","tparams","params","ret","pred","flags"] (R 233) eh++(b5 241 (aL 78) "func_type" 633 175 2 ["tab","sig"] N eh++([a' [dx 0 642,dx 0 644]]++(b5 249 (aL 79) "new_param" 645 177 4 ["tab","name","bound","default","pid"] (R 248) eh++(b5 256 (aL 80) "new_decl" 656 183 3 ["tab","kind","name","decl"] N eh++(b5 263 (aL 81) "parts_of" 666 187 2 ["tab","t","row"] N eh++(b5 270 (aL 82) "whole_of_row" 675 194 1 ["row","kind"] N eh++(b5 277 (aL 83) "regular_twin" 683 203 2 ["tab","t","row"] N eh++(b5 284 (aL 84) "join_bools" 692 208 1 ["got"] N eh++(b5 291 (aL 85) "stays_beside" 699 212 3 ["tab","got","t"] N eh++(b5 298 (aL 86) "top_of" 708 216 1 ["got","t"] N eh++(b5 305 (aL 87) "union" 716 221 2 [] N eh++(b5 310 (aL 88) "without" 722 238 3 [] N eh++(b5 315 (aL 89) "add_undef" 728 240 2 ["tab","t"] N eh++(b5 322 (aL 90) "common_family" 736 242 2 [] N eh++(b5 327 (aL 91) "meet_family" 742 246 2 ["tab","parts","found","part","fam"] N eh++(b5 334 (aL 92) "family" 753 255 2 ["tab","t","row","kind","whole"] N eh++([a' [I 1 285,I 2 287,I 3 289,I 4 291,I 5 293]]++(b5 342 (aL 96) "plain_shape" 769 275 2 ["tab","t","turn","row"] N Fx++([hz,iU,hU [O P "__module__" 792 fh,O P "__qualname__" 794<|S "Thin" 793,O P "__firstlineno__" 796<|I 293 795,O P "__init__" 804<|R 362,O P "force" 812<|R 369,O P "put_deferred" 820<|R 376,O P "put_cond" 829<|R 383,O P "lay_row" 838<|R 390,O P "bound" 846<|R 397,O P "shape" 854<|R 404,O P "fits" 863<|R 411,O P "lies" 872<|R 418,O P "infers" 882<|R 425,O P "tpl_fits" 891<|R 432,O P "shape_fits" 900<|R 439,O P "put_in" 909<|R 446,O P "own_sig" 918<|R 453,O P "forget" 925<|R 460,O P "list_prop" 934<|R 467,O P "list_index" 942<|R 474,O P "elem_met" 950<|R 481,O P "error_class" 957<|R 488,O P "__static_attributes__" 963<|R 489] 23,hz,cS N [I 295 0,I 4 0,R 361,I 302 0,I 4 0,R 368,I 305 0,I 4 0,R 375,I 308 0,I 4 0,R 382,I 311 0,I 4 0,R 389,I 314 0,I 4 0,R 396,I 317 0,I 4 0,R 403,I 320 0,I 4 0,R 410,I 323 0,I 4 0,R 417,I 326 0,I 4 0,R 424,I 329 0,I 4 0,R 431,I 332 0,I 4 0,R 438,I 335 0,I 4 0,R 445,I 338 0,I 4 0,R 452,I 341 0,I 4 0,R 459,I 344 0,I 4 0,R 466,I 347 0,I 4 0,R 473,I 350 0,I 4 0,R 480,I 353 0,I 4 0,R 487],nf "Thin" 787 293 352 790,jg 354 351 fh]++(e0 356 (dA 100 0) "Thin.__init__" "__init__" 797 295 2 ["self","tab"] N fh++(e0 363 (dA 100 1) "Thin.force" "force" 805 302 2 ["self","t"] N fh++(e0 370 (dA 100 2) "Thin.put_deferred" "put_deferred" 813 305 2 ["self","row"] N fh++(e0 377 (dA 100 3) "Thin.put_cond" "put_cond" 821 308 3 ["self","row","mapping"] N fh++(e0 384 (dA 100 4) "Thin.lay_row" "lay_row" 830 311 3 ["self","row","mapping"] N fh++(e0 391 (dA 100 5) "Thin.bound" "bound" 839 314 2 ["self","t"] N fh++(e0 398 (dA 100 6) "Thin.shape" "shape" 847 317 2 ["self","t"] N fh++(e0 405 (dA 100 7) "Thin.fits" "fits" 855 320 3 ["self","s","t"] N fh++(e0 412 (dA 100 8) "Thin.lies" "lies" 864 323 3 ["self","s","t"] N fh++(e0 419 (dA 100 9) "Thin.infers" "infers" 873 326 4 ["self","pids","check","ext"] N fh++(e0 426 (dA 100 10) "Thin.tpl_fits" "tpl_fits" 883 329 3 ["self","s","t"] N fh++(e0 433 (dA 100 11) "Thin.shape_fits" "shape_fits" 892 332 3 ["self","s","t"] N fh++(e0 440 (dA 100 12) "Thin.put_in" "put_in" 901 335 3 ["self","t","mapping"] N fh++(e0 447 (dA 100 13) "Thin.own_sig" "own_sig" 910 338 3 ["self","s","erased"] N fh++(e0 454 (dA 100 14) "Thin.forget" "forget" 919 341 1 ["self"] N fh++(e0 461 (dA 100 15) "Thin.list_prop" "list_prop" 926 344 3 ["self","t","name"] N fh++(e0 468 (dA 100 16) "Thin.list_index" "list_index" 935 347 2 ["self","t"] N fh++(e0 475 (dA 100 17) "Thin.elem_met" "elem_met" 943 350 2 ["self","kinds"] N fh++(e0 482 (dA 100 18) "Thin.error_class" "error_class" 951 353 1 ["self"] N fh++([c7 958 ["deep","lib","most_deep","most_rounds","tab"],hU [O P "__module__" 792 fh,O P "__firstlineno__" 796<|I 293 795,O P "__init__" 804<|R 362,O P "force" 812<|R 369,O P "put_deferred" 820<|R 376,O P "put_cond" 829<|R 383,O P "lay_row" 838<|R 390,O P "bound" 846<|R 397,O P "shape" 854<|R 404,O P "fits" 863<|R 411,O P "lies" 872<|R 418,O P "infers" 882<|R 425,O P "tpl_fits" 891<|R 432,O P "shape_fits" 900<|R 439,O P "put_in" 909<|R 446,O P "own_sig" 918<|R 453,O P "forget" 925<|R 460,O P "list_prop" 934<|R 467,O P "list_index" 942<|R 474,O P "elem_met" 950<|R 481,O P "error_class" 957<|R 488,O P "__static_attributes__" 963<|R 489,O P "__dict__" 965<|R 492,O P "__weakref__" 967<|R 493,O P "__doc__" 968 N] 4,eS "Thin" [T "object"] [R 491,T "object"] 490 [R 526] [none,none,some<|S "Thin" 785,some<|S "Thin" 793,some<|U "object.__new__",some TT],nB [S "__dict__" 964,R 491,U "function.__dict__",U "function.__dict__#set"],nB [S "__weakref__" 966,R 491,U "ExceptionGroup.__weakref__",N],nH 491,nN<|R 491,a' [R 491],iU,hU [O P "__module__" 978 fh,O P "__qualname__" 980<|S "RefHost" 979,O P "__firstlineno__" 982<|I 355 981,O P "shape" 990<|R 509,O P "fits" 999<|R 516,O P "lies" 1008<|R 523,O P "__static_attributes__" 1009<|R 524] 7,hz,cS N [I 357 0,I 4 0,R 508,I 360 0,I 4 0,R 515,I 363 0,I 4 0,R 522],nf "RefHost" 973 355 499 976,jg 501 498 fh])))))))))))))))))))))))))))))))))))))))))))))))))))))
def Le (P:Params):HO Obj:=e0 503 (dA 101 0) "RefHost.shape" "shape" 983 357 2 ["self","t"] N fh++(e0 510 (dA 101 1) "RefHost.fits" "fits" 991 360 3 ["self","s","t"] N fh++(e0 517 (dA 101 2) "RefHost.lies" "lies" 1000 363 3 ["self","s","t"] N fh++([hz,hU [O P "__module__" 978 fh,O P "__firstlineno__" 982<|I 355 981,O P "shape" 990<|R 509,O P "fits" 999<|R 516,O P "lies" 1008<|R 523,O P "__static_attributes__" 1009<|R 524,O P "__doc__" 1010 N] 2,eS "RefHost" [R 491] [R 526,R 491,T "object"] 525 [R 913] [some<|R 496,none,some<|S "RefHost" 971,some<|S "RefHost" 979,some<|U "object.__new__",some TT],nH 526,nN<|R 526]++(b5 529 (aL 102) "told_places" 1013 365 1 ["row","place"] N fh++(b5 536 (aL 103) "find_prop" 1021 372 2 ["row","name","prop"] N fh++(b5 543 (aL 104) "is_digits" 1030 377 1 [] N fh++(b5 548 (aL 105) "prop_row" 1036 380 3 ["host","t","name","row","prop"] N fh++(b5 555 (aL 106) "read_type" 1047 388 2 ["tab","prop"] N fh++([a' [I 10 303,I 14 311,I 15 313,I 16 315,I 17 317,I 19 321]]++(b5 563 (aL 110) "is_open" 1060 393 2 ["tab","t","row","part","elem","hole"] N pr++(b5 570 (aL 111) "unit_word" 1072 410 2 ["tab","t","row"] N pr++(b5 577 (aL 112) "key_text" 1081 425 2 ["tab","t"] N pr++(b5 584 (aL 113) "glue" 1089 429 2 ["left","right"] N pr++(b5 591 (aL 114) "hole_pieces" 1097 431 2 ["host","t","tab","pieces","part","word","row"] N pr++(b5 598 (aL 115) "cross_holes" 1110 446 3 [] N pr++(b5 603 (aL 116) "one_template" 1116 463 3 ["tab","texts","types","plain","text","t"] N pr++(b5 610 (aL 117) "tpl_kind" 1128 474 3 ["host","texts","types","tab","made","joining"] N pr++(b5 617 (aL 119) "is_public" 1142 481 1 ["prop"] N CW++([hz,iU,hU [O P "__module__" 1158 f4,O P "__qualname__" 1160<|S "Made" 1159,O P "__firstlineno__" 1162<|I 484 1161,O P "__init__" 1169<|R 637,O P "add" 1182<|R 644,O P "add_index" 1195<|R 651,O P "done" 1201<|R 656,O P "__static_attributes__" 1206<|R 657] 8,hz,cS N [I 486 0,I 4 0,R 636,I 492 0,I 4 0,R 643,I 503 0,I 4 0,R 650,I 513 0,I 4 0,R 655],nf "Made" 1153 484 627 1156,jg 629 626 f4]++(e0 631 (dA 121 0) "Made.__init__" "__init__" 1163 486 1 ["self"] N f4++(e0 638 (dA 121 1) "Made.add" "add" 1170 492 5 ["self","tab","name","t","flags","old","parts"] N f4++(e0 645 (dA 121 2) "Made.add_index" "add_index" 1183 503 5 ["self","tab","number","t","ro","old","fresh"] N f4++(e0 652 (dA 121 3) "Made.done" "done" 1196 513 2 [] N f4++([c7 1202 ["names","nindex","rows","sindex"],hU [O P "__module__" 1158 f4,O P "__firstlineno__" 1162<|I 484 1161,O P "__init__" 1169<|R 637,O P "add" 1182<|R 644,O P "add_index" 1195<|R 651,O P "done" 1201<|R 656,O P "__static_attributes__" 1206<|R 657,O P "__dict__" 1208<|R 660,O P "__weakref__" 1210<|R 661,O P "__doc__" 1211 N] 4,eS "Made" [T "object"] [R 659,T "object"] 658 [] [none,none,some<|S "Made" 1151,some<|S "Made" 1159,some<|U "object.__new__",some TT],nB [S "__dict__" 1207,R 659,U "function.__dict__",U "function.__dict__#set"],nB [S "__weakref__" 1209,R 659,U "ExceptionGroup.__weakref__",N],nH 659,nN<|R 659]++(b5 664 (aL 122) "is_late_alias" 1214 516 2 [] N f4++(b5 669 (aL 123) "undefless" 1220 525 2 ["host","t","tab"] N f4++(b5 676 (aL 124) "optional_form" 1229 531 2 ["tab","t"] N f4++(b5 683 (aL 125) "readonly_after" 1237 535 2 ["romod","ro"] N f4++(b5 690 (aL 126) "template_at" 1245 541 3 ["host","row","key"] N f4++(b5 697 (aL 127) "member_opt" 1254 543 2 ["row","was"] N f4++(b5 704 (aL 128) "member_kind" 1262 545 5 ["host","row","key","own","was","tab","t"] N f4++(b5 711 (aL 129) "kindmap_member_flags" 1275 555 3 ["row","prop","plain","was","flags","ro"] N f4++(b5 718 (aL 130) "names_for" 1287 564 3 ["host","row","key","name"] N f4++([hz,iU,hU [O P "__module__" 1304 f4,O P "__qualname__" 1306<|S "Keyed" 1305,O P "__firstlineno__" 1308<|I 571 1307,O P "__init__" 1318<|R 738,O P "__static_attributes__" 1322<|R 739] 5,hz,cS N [I 573 0,I 4 0,R 737],nf "Keyed" 1299 571 728 1302,jg 730 727 f4]++(e0 732 (dA 131 0) "Keyed.__init__" "__init__" 1309 573 4 ["self","key","prop","index"] N f4++([c7 1319 ["index","key","prop"],hU [O P "__module__" 1304 f4,O P "__firstlineno__" 1308<|I 571 1307,O P "__init__" 1318<|R 738,O P "__static_attributes__" 1322<|R 739,O P "__dict__" 1324<|R 742,O P "__weakref__" 1326<|R 743,O P "__doc__" 1327 N] 4,eS "Keyed" [T "object"] [R 741,T "object"] 740 [] [none,none,some<|S "Keyed" 1297,some<|S "Keyed" 1305,some<|U "object.__new__",some TT],nB [S "__dict__" 1323,R 741,U "function.__dict__",U "function.__dict__#set"],nB [S "__weakref__" 1325,R 741,U "ExceptionGroup.__weakref__",N],nH 741,nN<|R 741]++(b5 746 (aL 132) "put_member" 1330 577 6 ["host","row","made","keyed","target","plain","tab","text","own","was","kept","t","ro"] N f4++(b5 753 (aL 133) "build_members" 1349 598 4 ["host","row","entries","plain","made","keyed","targets","target"] N f4++(b5 760 (aL 134) "shape_entries" 1363 607 2 ["host","t","tab","entries","shape","prop"] N f4++(b5 767 (aL 135) "map_array" 1375 619 4 ["host","row","t","plain","tab","source","elem"] N f4++(b5 774 (aL 136) "spare_elem" 1388 624 3 ["host","row","elem"] N f4++(b5 781 (aL 137) "map_elem" 1397 630 5 ["host","row","place","elem","plain","key","own","kind","was","mark"] N f4++(b5 788 (aL 138) "is_primitive" 1413 639 2 ["tab","t"] N f4++(b5 795 (aL 140) "known_part" 1423 642 3 [] N yk++(b5 800 (aL 141) "bound_tuple" 1429 654 3 ["host","row","source","elems","places","place","elem","t"] N yk++(b5 807 (aL 142) "lists_have" 1443 665 2 ["host","keyed","name","t"] N yk++(b5 814 (aL 144) "put_each" 1455 676 3 [] N nZ++(b5 819 (aL 145) "put_cell" 1461 678 3 ["host","cell","mapping"] N nZ++(b5 826 (aL 146) "put_shape" 1470 680 3 [] N nZ++(b5 831 (aL 147) "plainput_put_elems" 1476 686 3 [] N nZ++(b5 836 (aL 148) "put_call" 1482 692 4 [] N nZ++(b5 841 (aL 149) "without_own" 1488 697 2 ["mapping","pids","rest","pid"] N nZ))))))))))))))))))))))))))))))))))))))))))))))))))))
def Wi (P:Params):HO Obj:=b5 848 (aL 150) "put_late" 1498 703 4 ["host","t","row","mapping","rest"] N nZ++(b5 855 (aL 151) "plain_put" 1509 718 3 ["host","t","mapping","row"] N nZ++(b5 862 (aL 153) "table_read" 1521 736 2 ["tab","row","other","prop","cell"] N m6++(b5 869 (aL 154) "put_name" 1532 747 2 ["host","row"] N m6++([a' [R 526],iU,hU [O P "__module__" 1547 m6,O P "__qualname__" 1549<|S "NameHost" 1548,O P "__firstlineno__" 1551<|I 753 1550,O P "__init__" 1559<|R 889,O P "force" 1568<|R 896,O P "put_deferred" 1576<|R 903,O P "put_in" 1585<|R 910,O P "__static_attributes__" 1590<|R 911] 8,hz,cS N [I 755 0,I 4 0,R 888,I 761 0,I 4 0,R 895,I 765 0,I 4 0,R 902,I 768 0,I 4 0,R 909],nf "NameHost" 1542 753 879 1545,jg 881 878 m6]++(e0 883 (dA 155 0) "NameHost.__init__" "__init__" 1552 755 2 ["self","tab"] N m6++(e0 890 (dA 155 1) "NameHost.force" "force" 1560 761 2 ["self","t","row"] N m6++(e0 897 (dA 155 2) "NameHost.put_deferred" "put_deferred" 1569 765 2 ["self","row"] N m6++(e0 904 (dA 155 3) "NameHost.put_in" "put_in" 1577 768 3 ["self","t","mapping"] N m6++([c7 1586 ["deep","most_deep","most_rounds","tab"],hU [O P "__module__" 1547 m6,O P "__firstlineno__" 1551<|I 753 1550,O P "__init__" 1559<|R 889,O P "force" 1568<|R 896,O P "put_deferred" 1576<|R 903,O P "put_in" 1585<|R 910,O P "__static_attributes__" 1590<|R 911,O P "__doc__" 1591 N] 2,eS "NameHost" [R 526] [R 913,R 526,R 491,T "object"] 912 [] [some<|R 876,none,some<|S "NameHost" 1540,some<|S "NameHost" 1548,some<|U "object.__new__",some TT],nH 913,nN<|R 913,c7 1596 ["w","u"],c7 1599 ["w","S"],c7 1602 ["w","N"]]++(b5 919 (aL 160) "_law_take" 1605 774 2 ["d","n","at"] N fz++(b5 926 (aL 161) "_law_kind" 1614 778 1 ["d","atoms","got","go","one"] N fz++(b5 933 (aL 162) "_law_type" 1625 786 3 [] N fz++(b5 938 (aL 163) "_law_atom" 1631 788 3 ["tab","over","one","sort","what"] N fz++(b5 945 (aL 164) "_law_back" 1642 799 2 [] N fz++(b5 950 (aL 165) "_law_back_one" 1648 804 2 ["tab","t","row"] N fz++(b5 957 (aL 166) "_law_plan" 1657 815 1 ["d","base","coat","fixed","table"] N fz++(b5 964 (aL 167) "_law_at" 1668 825 2 ["plan","key","base","coat","fixed","table","kind"] N fz++(b5 971 (aL 168) "_law_template" 1681 837 4 [] N fz++(b5 976 (aL 169) "_law_object" 1687 850 2 [] N fz++(b5 981 (aL 170) "_law_list" 1693 879 2 [] N fz++(b5 986 (aL 171) "_law_lone" 1699 897 2 ["d","tab","n","sig","t"] N fz++(b5 993 (aL 172) "_law_slot" 1710 911 3 [] N fz++(b5 998 (aL 173) "_law_told" 1716 916 5 ["tab","over","plan","mods","bound","opt","ro","rows","name","kind","was","shut","what","hid","given","sign","told","place","cell"] N fz++(b5 1005 (aL 174) "_law_told_list" 1741 933 5 [] N fz++(b5 1010 (aL 175) "_law_choices" 1747 954 1 [] N fz++(b5 1015 (aL 176) "_law_rows" 1753 980 1 [] N fz++(b5 1020 (aL 177) "_law_numbered" 1759 991 1 ["row","slots","place"] N fz++(b5 1027 (aL 178) "_law_own" 1768 996 2 [] N fz++(b5 1032 (aL 179) "_law_free" 1774 1007 2 ["kind","slots","out","sort","what"] N fz++(b5 1039 (aL 180) "_law_after" 1785 1017 5 ["plan","opt","slots","sort","name","kind","was","given","sign"] N fz++(b5 1046 (aL 181) "_law_digits" 1800 1025 1 [] N fz++(b5 1051 (aL 182) "_law_held" 1806 1027 2 [] N fz++(b5 1056 (aL 183) "_law_lies" 1812 1036 2 [] N fz++(b5 1061 (aL 184) "_law_rooms" 1818 1038 3 [] N fz++(b5 1066 (aL 185) "_law_sound" 1824 1057 5 [] N fz++(b5 1071 (aL 186) "_law_round" 1830 1072 1 ["d","tab","host","over","key","plan","mods","naming","sort","bound","template","keys","row","said","told","prop"] N fz++(b5 1078 (aL 187) "law" 1852 1103 1 [] N fz)))))))))))))))))))))))))))))))))))))
def CS (P:Params):HO Obj:=R6 P++(wX P++(Le P++(Wi P)))
def r9:HO Obj->HO (ā×Obj)->HO Obj
 |l,[]=>l
 |l,(a,o)::r=>r9 (l.set a o) r
def AU:HO Obj->HO Obj
 |a::_::r=>a::AU r
 |l=>l
def va:ā->HO Obj->BT
 |_,[]=>.nil
 |0,_=>.nil
 |n+1,o::r=>.node o (va n<|AU r)<|va n<|AU r.tail
noncomputable abbrev hD (n k:ā) (d:Params->HO (ā×Obj)) (w:World) (os:OsState):SharedT:=⟨va 12<|r9 ((CS w.params).take n)<|d w.params,n,{},⟨[]⟩,{},k,os⟩
def p6:World->OsState->SharedT:=hD 15 187 λP=>[(3,PySem.W.boot_o_3 P),(12,hy 0),(2,PySem.W.boot_o_2 P)]
def kf:World->OsState->SharedT:=hD 43 227 λP=>[(3,hd P gi 2 11),(12,hy 6),(39,eS "KeepError" [T "Exception"] [R 39,T "Exception",T "BaseException",T "object"] 38 [] [some<|R 22,none,some<|S "KeepError" 196,some<|S "KeepError" 204,some<|U "Exception.__new__",some TT])]
def vm:World->OsState->SharedT:=hD 63 256 λP=>[(3,hd P gi 3 12),(12,hy 9),(39,eS "KeepError" [T "Exception"] [R 39,T "Exception",T "BaseException",T "object"] 38 [R 60] [some<|R 22,none,some<|S "KeepError" 196,some<|S "KeepError" 204,some<|U "Exception.__new__",some TT])]
def g1:World->OsState->SharedT:=hD 83 315 λP=>[(3,hd P eh 19 28),(12,hy 12)]
def jG:World->OsState->SharedT:=hD 83 397 λP=>[(3,hd P eh 60 69),(12,hy 12)]
def jt:World->OsState->SharedT:=hD 109 428 λP=>[(3,hd P eh 64 73),(12,hy 12)]
def l7:World->OsState->SharedT:=hD 144 483 λP=>[(3,hd P eh 65 74),(12,hy 15)]
def mQ:World->OsState->SharedT:=hD 195 566 λP=>[(3,hd P eh 70 79),(12,hy 30)]
def th:World->OsState->SharedT:=hD 277 683 λP=>[(3,hd P eh 81 90),(12,hy 63)]
def F7:World->OsState->SharedT:=hD 349 785 λP=>[(3,hd P fh 96 105),(12,hy 96)]
def ET:World->OsState->SharedT:=hD 496 971 λP=>[(3,hd P fh 97 106),(12,hy 99),(491,eS "Thin" [T "object"] [R 491,T "object"] 490 [] [none,none,some<|S "Thin" 785,some<|S "Thin" 793,some<|U "object.__new__",some TT])]
def IH:World->OsState->SharedT:=hD 548 1036 λP=>[(3,hd P fh 101 110),(12,hy 111),(526,eS "RefHost" [R 491] [R 526,R 491,T "object"] 525 [] [some<|R 496,none,some<|S "RefHost" 971,some<|S "RefHost" 979,some<|U "object.__new__",some TT])]
def IB:World->OsState->SharedT:=hD 624 1149 λP=>[(3,hd P CW 114 123),(12,hy 144),(526,eS "RefHost" [R 491] [R 526,R 491,T "object"] 525 [] [some<|R 496,none,some<|S "RefHost" 971,some<|S "RefHost" 979,some<|U "object.__new__",some TT])]
def Ir:World->OsState->SharedT:=hD 676 1229 λP=>[(3,hd P f4 117 126),(12,hy 153),(526,eS "RefHost" [R 491] [R 526,R 491,T "object"] 525 [] [some<|R 496,none,some<|S "RefHost" 971,some<|S "RefHost" 979,some<|U "object.__new__",some TT])]
def Gk:World->OsState->SharedT:=hD 725 1297 λP=>[(3,hd P f4 124 133),(12,hy 174),(526,eS "RefHost" [R 491] [R 526,R 491,T "object"] 525 [] [some<|R 496,none,some<|S "RefHost" 971,some<|S "RefHost" 979,some<|U "object.__new__",some TT])]
def I6:World->OsState->SharedT:=hD 774 1388 λP=>[(3,hd P f4 129 138),(12,hy 189),(526,eS "RefHost" [R 491] [R 526,R 491,T "object"] 525 [] [some<|R 496,none,some<|S "RefHost" 971,some<|S "RefHost" 979,some<|U "object.__new__",some TT])]
def Hz:World->OsState->SharedT:=hD 848 1498 λP=>[(3,hd P nZ 141 150),(12,hy 225),(526,eS "RefHost" [R 491] [R 526,R 491,T "object"] 525 [] [some<|R 496,none,some<|S "RefHost" 971,some<|S "RefHost" 979,some<|U "object.__new__",some TT])]
def H7:World->OsState->SharedT:=hD 876 1540 λP=>[(3,hd P m6 145 154),(12,hy 237),(526,eS "RefHost" [R 491] [R 526,R 491,T "object"] 525 [] [some<|R 496,none,some<|S "RefHost" 971,some<|S "RefHost" 979,some<|U "object.__new__",some TT])]
def HJ:World->OsState->SharedT:=hD 918 1602 λP=>[(3,hd P fz 148 157),(12,hy 240)]
def D':World->OsState->SharedT:=hD 998 1716 λP=>[(3,hd P fz 162 171),(12,hy 279)]
def En:World->OsState->SharedT:=hD 1071 1830 λP=>[(3,hd P fz 175 184),(12,hy 318)]
def Ap:World->OsState->SharedT:=hD 1083 1858 λP=>[]
noncomputable abbrev io:Pos:=⟨0,0,0,0⟩
noncomputable abbrev de:Env:={scope:=fe.main.scope,locals:=mainNs,globals:=mainNs,cells:=[],code:=.ref 13,frame:=some 14}
noncomputable abbrev code:Code:=.body (behindTheImports fe) de
abbrev gM(n:ā)(X cz:World->OsState->SharedT)(l:HO Stmt)(p ev:Pos):Prop:=∀(w:World) (os:OsState),segRunT treeTable fe w 11 (some<|.ref 6) 1 n (X w os) (piecesOf l de code p [topFrame io])=some (.next,cz w os,code,ev)
theorem ir{n:ā}{X cz:World->OsState->SharedT}{l:HO Stmt}{p ev:Pos}(h:(λw os=>PySem.W.Fast.tw10110043849684766642 PySem.W.Fast.tw14364793385576792824 fe w 11 (some<|.ref 6) 1 n (X w os)<|piecesOf l de code p [topFrame io])=λw os=>some (Flow.next,cz w os,code,ev)):gM n X cz l p ev:=λw os=>by rw[PySem.W.Fast.te10110043849684766642,PySem.W.Fast.te14364793385576792824];exact j9 (j9 h w) os
theorem V4{n:ā}{X cz:World->OsState->SharedT}{l:HO Stmt}{p ev:Pos}(h:(λ(w:World) os=>PySem.W.Fast.tw10110043849684766642 PySem.W.Fast.tw14364793385576792824 fe (w.withFollow "special-get-raises" false) 11 (some<|.ref 6) 1 n (X (w.withFollow "special-get-raises" false) os)<|piecesOf l de code p [topFrame io])=λ(w:World) os=>some (Flow.next,cz (w.withFollow "special-get-raises" false) os,code,ev))(aR:(λ(w:World) os=>PySem.W.Fast.tw10110043849684766642 PySem.W.Fast.tw14364793385576792824 fe (w.withFollow "special-get-raises" true) 11 (some<|.ref 6) 1 n (X (w.withFollow "special-get-raises" true) os)<|piecesOf l de code p [topFrame io])=λ(w:World) os=>some (Flow.next,cz (w.withFollow "special-get-raises" true) os,code,ev)):gM n X cz l p ev:=λw os=>by rw[PySem.W.Fast.te10110043849684766642,PySem.W.Fast.te14364793385576792824];exact byRow2 "special-get-raises" (P:=λw=>PySem.W.Fast.tw10110043849684766642 PySem.W.Fast.tw14364793385576792824 fe w 11 (some<|.ref 6) 1 n (X w os) (piecesOf l de code p [topFrame io])=some (.next,cz w os,code,ev)) (λw=>j9 (j9 h w) os) (λw=>j9 (j9 aR w) os) w
theorem Sr:gM 270 p6 kf (g' 0 3) ⟨0,0,0,0⟩ ⟨5,0,9,24⟩:=ir (by kernel_rfl)
theorem Wk:gM 251 kf vm (g' 3 1) ⟨5,0,9,24⟩ ⟨10,0,14,24⟩:=ir (by kernel_rfl)
theorem Xm:gM 393 vm g1 (g' 4 17) ⟨10,0,14,24⟩ ⟨35,0,35,7⟩:=ir (by kernel_rfl)
theorem LI:gM 370 g1 jG (g' 21 41) ⟨35,0,35,7⟩ ⟨76,0,76,9⟩:=ir (by kernel_rfl)
theorem PD:gM 248 jG jt (g' 62 4) ⟨76,0,76,9⟩ ⟨80,0,80,12⟩:=V4 (by kernel_rfl) (by kernel_rfl)
theorem Yx:gM 297 jt l7 (g' 66 1) ⟨80,0,80,12⟩ ⟨81,0,106,16⟩:=ir (by kernel_rfl)
theorem Xi:gM 367 l7 mQ (g' 67 5) ⟨81,0,106,16⟩ ⟨131,0,136,16⟩:=ir (by kernel_rfl)
theorem QX:gM 378 mQ th (g' 72 11) ⟨131,0,136,16⟩ ⟨194,0,202,13⟩:=ir (by kernel_rfl)
theorem WA:gM 393 th F7 (g' 83 17) ⟨194,0,202,13⟩ ⟨292,0,292,11⟩:=ir (by kernel_rfl)
theorem Qf:gM 812 F7 ET (g' 100 1) ⟨292,0,292,11⟩ ⟨293,0,354,17⟩:=ir (by kernel_rfl)
theorem Va:gM 398 ET IH (g' 101 4) ⟨293,0,354,17⟩ ⟨377,0,379,68⟩:=ir (by kernel_rfl)
theorem Xy:gM 396 IH IB (g' 105 15) ⟨377,0,379,68⟩ ⟨481,0,482,49⟩:=ir (by kernel_rfl)
theorem LX:gM 393 IB Ir (g' 120 4) ⟨481,0,482,49⟩ ⟨525,0,530,60⟩:=ir (by kernel_rfl)
theorem TL:gM 223 Ir Gk (g' 124 7) ⟨525,0,530,60⟩ ⟨564,0,570,35⟩:=ir (by kernel_rfl)
theorem OJ:gM 373 Gk I6 (g' 131 5) ⟨564,0,570,35⟩ ⟨619,0,623,90⟩:=ir (by kernel_rfl)
theorem Vn:gM 379 I6 Hz (g' 136 14) ⟨619,0,623,90⟩ ⟨697,0,702,15⟩:=ir (by kernel_rfl)
theorem XC:gM 138 Hz H7 (g' 150 5) ⟨697,0,702,15⟩ ⟨747,0,752,28⟩:=ir (by kernel_rfl)
theorem Uj:gM 394 H7 HJ (g' 155 4) ⟨747,0,752,28⟩ ⟨772,0,772,10⟩:=ir (by kernel_rfl)
theorem L4:gM 398 HJ D' (g' 159 14) ⟨772,0,772,10⟩ ⟨911,0,915,42⟩:=ir (by kernel_rfl)
theorem Qa:gM 383 D' En (g' 173 13) ⟨911,0,915,42⟩ ⟨1057,0,1071,15⟩:=ir (by kernel_rfl)
theorem Qz:gM 71 En Ap (g' 186 2) ⟨1057,0,1071,15⟩ ⟨1103,0,1107,32⟩:=ir (by kernel_rfl)
def iS (P:Params):Heap:=⟨⟨CS P⟩,{}⟩
noncomputable abbrev vD (w:World) (os:OsState):Mt:=⟨iS w.params,⟨[]⟩,{},1858,os⟩
theorem WY{n:ā}{X cz:World->OsState->Mt}{t:Thread}(h:(λw os=>PySem.W.Fast.tw14082659384304107361 PySem.W.Fast.tw14364793385576792824 fe w 11 (some<|.ref 6) n (X w os) t)=λw os=>some<|cz w os):∀(w:World) (os:OsState),topRun treeTable fe w 11 (some<|.ref 6) n (X w os) t=some (cz w os):=λw os=>by rw[PySem.W.Fast.te14082659384304107361,PySem.W.Fast.te14364793385576792824];exact j9 (j9 h w) os
theorem Po(e:Env)(c:Code)(p:Pos)(aT:HO Frame):(⟨doneF .next,c,p,aT⟩:Thread)=restOf (body.drop 188) e c p aT:=by kernel_rfl
theorem Wv(a n:ā):body.drop a=g' a n++body.drop (a+n):=by unfold g';rw[<-List.drop_drop,List.take_append_drop]
theorem Y2:behindTheImports fe=body.drop 0:=by kernel_rfl
theorem Wt:∀(w:World) (os:OsState),topGo treeTable fe w 11 (some<|.ref 6) 12 ⟨boot_heap w.params,⟨[]⟩,boot_drawn,boot_toks,os⟩ (topStub fe)=some ((p6 w os).abs,⟨denote treeTable code,code,io,[topFrame io]⟩):=by rw[PySem.W.Fast.te15667345088766844465,PySem.W.Fast.te14364793385576792824,PySem.W.Fast.te11892475500146522536];exact λw os=>j9 (j9 (f:=λw os=>PySem.W.Fast.tw15667345088766844465 PySem.W.Fast.tw14364793385576792824 fe w 11 (some<|.ref 6) 12 ⟨boot_heap w.params,⟨[]⟩,boot_drawn,boot_toks,os⟩<|topStub fe) (g:=λw os=>some ((p6 w os).abs,⟨PySem.W.Fast.tw11892475500146522536 PySem.W.Fast.tw14364793385576792824 code,code,io,[topFrame io]⟩)) (by kernel_rfl) w) os
theorem WJ:∀(w:World) (os:OsState),segRun treeTable fe w 11 (some<|.ref 6) 1 1 (p6 w os).abs (blockOf (behindTheImports fe) de code io [topFrame io])=some (.next,(p6 w os).abs,code,io):=by rw[PySem.W.Fast.te14374325043358763698,PySem.W.Fast.te14364793385576792824];exact λw os=>j9 (j9 (f:=λw os=>PySem.W.Fast.tw14374325043358763698 PySem.W.Fast.tw14364793385576792824 fe w 11 (some<|.ref 6) 1 1 (p6 w os).abs<|blockOf (behindTheImports fe) de code io [topFrame io]) (g:=λw os=>some (.next,(p6 w os).abs,code,io)) (by kernel_rfl) w) os
theorem Yq:∀(w:World) (os:OsState),topRun treeTable fe w 11 (some<|.ref 6) 2 (Ap w os).abs ⟨doneF .next,code,⟨1103,0,1107,32⟩,[topFrame io]⟩=some (vD w os):=WY (by kernel_rfl)
abbrev Run(n:ā)(X:World->OsState->SharedT)(a:ā)(p:Pos):Prop:=∀(w:World) (os:OsState),topRun treeTable fe w 11 (some<|.ref 6) n (X w os).abs (restOf (body.drop a) de code p [topFrame io])=some (vD w os)
theorem gM.step{n N a k:ā}{X cz:World->OsState->SharedT}{p ev:Pos}(h:gM n X cz (g' a k) p ev)(g:Run N cz (a+k) ev):Run (n+N) X a p:=λw os=>by rw[Wv a k];exact piece_app (n:=n) (N:=N) (segRun_of<|h w os)<|g w os
theorem Xz:Run 2 Ap 188 ⟨1103,0,1107,32⟩:=λw os=>(Po de code ⟨1103,0,1107,32⟩ [topFrame io])▸Yq w os
theorem Py:Run 7327 p6 0 ⟨0,0,0,0⟩:=by have h:=Sr.step<|Wk.step<|Xm.step<|LI.step<|PD.step<|Yx.step<|Xi.step<|QX.step<|WA.step<|Qf.step<|Va.step<|Xy.step<|LX.step<|TL.step<|OJ.step<|Vn.step<|XC.step<|Uj.step<|L4.step<|Qa.step<|Qz.step Xz;exact h
def loose:HO Str:=["_wall","KeepError","TooDeep","HostFault","Y_KEY","Y_BOOL","Y_STR","Y_NUM","Y_ENUM","Y_UNION","Y_INTER","Y_OBJ","Y_REF","Y_PARAM","Y_ARRAY","Y_TUPLE","Y_SIG","Y_KEYOF","Y_INDEX","Y_COND","Y_MAPPED","Y_TPL","Y_ALIAS","ANY","UNKNOWN","NEVER","VOID","UNDEF","NULLT","STRING","NUMBER","FALSE_T","TRUE_T","OBJECTT","EMPTY","BOOLEAN","ERR","FRESH_F","FRESH_T","P_OPT","P_READONLY","P_METHOD","P_PRIVATE","P_PROTECTED","P_GETONLY","P_ACCESS","E_NEED","E_OPT","E_REST","E_SPREAD","D_INTERFACE","FAM_OTHER","FAM_STR","FAM_NUM","FAM_BOOL","FAM_NULL","FAM_UNDEF","FAM_VOID","FAM_OBJ","MAX_UNION","FIRST_ROWS","MARKED_ROWS","OBJECT_ROWS","KEY_FAMILIES","TypeTable","Decl","kind_of","str_type","array_type","last_mark","needed_to_last","one_rest","tuple_type","sorted_props","obj_type","sig_type","func_type","new_param","new_decl","parts_of","whole_of_row","regular_twin","join_bools","stays_beside","top_of","union","without","add_undef","common_family","meet_family","family","MOST_PLAIN","PLAIN_ROWS","plain_shape","MOST_ROUNDS","MOST_SHAPES","Thin","RefHost","told_places","find_prop","is_digits","prop_row","read_type","MOST_CROSSED","OPEN_KINDS","is_open","unit_word","key_text","glue","hole_pieces","cross_holes","one_template","tpl_kind","is_public","Made","is_late_alias","undefless","optional_form","readonly_after","template_at","member_opt","member_kind","kindmap_member_flags","names_for","Keyed","put_member","build_members","shape_entries","map_array","spare_elem","map_elem","is_primitive","known_part","bound_tuple","lists_have","put_each","put_cell","put_shape","plainput_put_elems","put_call","without_own","put_late","plain_put","table_read","put_name","NameHost","_law_undef","_law_texts","_law_numbers","_law_take","_law_kind","_law_type","_law_atom","_law_back","_law_back_one","_law_plan","_law_at","_law_template","_law_object","_law_list","_law_lone","_law_slot","_law_told","_law_told_list","_law_choices","_law_rows","_law_numbered","_law_own","_law_free","_law_after","_law_digits","_law_held","_law_lies","_law_rooms","_law_sound","_law_round"].map Str.ofString
noncomputable abbrev jr:OpenLaw:=PySem.Challenge.rw_up0039_01
theorem ve:jr.wellSaid=true:=by
 unfold OpenLaw.wellSaid OpenRow.wellSaid OpenRow.partSaid looksOpen;repeat'(with_reducible refine look_both ?_ ?_)
 all_goals((try rw[PySem.W.Fast.te8326940854005059898]);(try rw[PySem.W.Fast.te8377067652309620493]);(try rw[PySem.W.Fast.te17119622794617984870]);(try rw[PySem.W.Fast.te8179353310426384613]);(try rw[PySem.W.Fast.te797321630700447069]);(try rw[PySem.W.Fast.te6984425678791042302]);(try rw[PySem.W.Fast.te10792542408131684335]);(try rw[PySem.W.Fast.te16286561074155671207]);(try rw[PySem.W.Fast.te9558739934217749035]);(try rw[PySem.W.Fast.te10501279942588096481]);(try rw[PySem.W.Fast.named_eq]);(try rw[PySem.W.Fast.te18344453789297297638]);(try rw[PySem.W.Fast.te5923862056798008813]);(try rw[PySem.W.Fast.te13343964577679436407]);(try rw[PySem.W.Fast.te17868728402115742887]);(try rw[PySem.W.Fast.te12879404354523853263]);(try rw[PySem.W.Fast.te482687673346738481]);(try rw[PySem.W.Fast.te14412699480532031325]);(try rw[PySem.W.Fast.te3471404346716756564]);decide+kernel)
theorem zl:fe.tablesWhole=true:=by kernel_rfl
theorem TM(w:World)(os:OsState):topRun treeTable fe w 11 (some<|.ref 6) 7340 ⟨boot_heap w.params,⟨[]⟩,boot_drawn,boot_toks,os⟩ (topStub fe)=some (vD w os):=go_top (n:=12) (N:=7328) (Wt w os) (piece_block (n:=1) (N:=7327) (b:=behindTheImports fe) (WJ w os)<|by rw[Y2];exact Py w os)
def oh:Program:=view fe [187]
theorem Sl:opening fe=plainProg fe.main.scope.names:=by kernel_rfl
theorem Uo(s:Mt):fenceModules? fe s=some s:=by kernel_rfl
theorem Qo:∀w:World,(fencedOpening treeTable fe w 20000).map (λs=>(s.heap,s.gens,s.drawn,s.toks))=some (boot_heap w.params,Array.mk [],boot_drawn,boot_toks):=boot_open Sl (by decide+kernel) Uo
theorem Ou:∀w:World,((boot_heap w.params).isNs mainGlobals&&(Array.mk ([]:HO GenState)).size==0,(boot_heap w.params).objs.size,(boot_heap w.params).nsMap mainGlobals "__annotations__")=(true,11,some<|.ref 6):=λw=>by kernel_rfl
theorem Sf(w:World):staticsOk (importedModules fe.main.body) (boot_heap w.params) (iS w.params)=true:=by kernel_rfl
theorem Qq(w:World):namesBound fe (iS w.params)=true:=by kernel_rfl
theorem N9(w:World):laidKept (boot_heap w.params) (iS w.params)=true:=by kernel_rfl
theorem KD:(λw os=>PySem.W.Fast.tw4187177175401517315 oh loose (importedModules fe.main.body) (λ_=>true) true<|vD w os)=λ(_:World) (_:OsState)=>openGood oh loose:=by kernel_rfl
theorem left:LeftO fe oh loose (λ_=>true) Shared.heap (λw=>iS w.params) 20000 true:=LeftO.of_pieces (H₀:=boot_heap) (H₁:=iS) (gs₀:=⟨[]⟩) (gs₁:=⟨[]⟩) (d₀:=boot_drawn) (d₁:={}) (k₀:=boot_toks) (k₁:=1858) (m₀:=11) (ann:=some<|.ref 6) (M:=7340) Qo Ou TM (by decide+kernel) λw=>by
 funext os;refine mY ?_<|mY ?_ rfl
 .show(_&&_&&_&&_)=true;rw[Sf,Qq,N9];rfl
 .show openSeen oh loose (importedModules fe.main.body) (λ_=>true) true (vD w os)=openGood oh loose;rw[PySem.W.Fast.te4187177175401517315];exact j9 (j9 KD w) os
noncomputable abbrev pu:DefRec:=⟨Str.ofString "law",ln<|aL 187,qx<|aL 187,b'<|aL 187,⟨1103,0,1107,32⟩⟩
theorem RP:defOf oh jr.row.name=some (pu,[]):=by kernel_rfl
theorem Qu:jr.row.prog.theDef jr.row.name=some (pu.params,pu.body,pu.scope):=by kernel_rfl
theorem NI:kwWritten? pu.params.kwonlyargs pu.params.kw_defaults=some []:=by kernel_rfl
theorem zF:(chainsOk oh&&opensWell jr.row.prog&&(frees jr.row.toRowW&&jr.row.within.isEmpty))=true:=by kernel_rfl
theorem MX:jr.row.prog.bare:=⟨rfl,rfl,rfl,rfl,rfl,zl⟩
abbrev Kept(w:World)(h:Heap):Prop:=∀b o,(iS w.params).get? b=some o->h.get? b=some o
theorem head(bF:jr.row.toRowW.promised)(call:WalkO oh loose (λ_ _=>True) Kept jr.row.toRowW pu [] (λf vs=>PySem.call f vs)):jr.Holds:=holds_law ve λfK=>holds_open (q:=oh) (loose:=loose) (Xt:=λ_=>true) (XP:=λ_ _=>True) (Yf:=Shared.heap) (Ya:=λw=>iS w.params) (YP:=Kept) (d:=pu) (kwd:=[]) (N:=20000) left (λw s e b o h=>by rw[e];exact h) (λw h aR y k b o e=>k b o<|y b o e) (λ_ _=>trivial) (λ_ _ _ _ _=>trivial) RP Qu NI (λ_ _=>recFacts_nil rfl) rfl fK zF MX bF call
set_option tactic.hygienic false
theorem ZJ{av:Type}{c:Prop}[Decidable c]{f:c->Z5 av}{z:av}(h:(if h:c then f h else none)=some z):∃aU,f aU=some z:=by
 by_cases cA:c
 .rw[dif_pos cA]at h;exact⟨cA,h⟩
 .rw[dif_neg cA]at h;exact bY h
theorem hc{av:Type}{p:Prop}[Decidable p]{x:Z5 av}{y:av}(h:(if p then x else none)=some y):p/\x=some y:=by
 by_cases c:p
 .rw[bl c]at h;exact⟨c,h⟩
 .rw[bm c]at h;exact bY h
theorem Al{av:Type}{p:Prop}[Decidable p]{x y z:av}(h:(if p then x else y)=z):x=z\/y=z:=by
 by_cases c:p
 .rw[bl c]at h;exact .inl h
 .rw[bm c]at h;exact .inr h
theorem t4{av:Type}{n:ā}{x y:av}(h:i3 n x=some y):n<=a3/\x=y:=(hc h).imp id cT
theorem fR.of{dC:Type}{y:B}{z:dC}{k:Ă->Z5 dC}(h:fR y k=some z):∃a,y=.int a/\k a=some z:=by induction y using B.casesOn<;>first|exact⟨_,rfl,h⟩|exact bY h
theorem l6.of{dC:Type}{y:B}{z:dC}{k:bx->Z5 dC}(h:l6 y k=some z):∃a,y=.str a/\k a=some z:=by induction y using B.casesOn<;>first|exact⟨_,rfl,h⟩|exact bY h
theorem rZ.of{dC:Type}{y:B}{z:dC}{k:HO B->Z5 dC}(h:rZ y k=some z):∃a,y=.tup a/\k a=some z:=by induction y using B.casesOn<;>first|exact⟨_,rfl,h⟩|exact bY h
theorem lP.of{dC:Type}{y:B}{z:dC}{k:HO B->Z5 dC}(h:lP y k=some z):∃a,y=.lst a/\k a=some z:=by induction y using B.casesOn<;>first|exact⟨_,rfl,h⟩|exact bY h
theorem sf.of{dC:Type}{y:B}{z:dC}{k:Z5 dC}(h:sf y k=some z):y=.none/\k=some z:=(hc h).imp B.DN id
theorem o3.of{dC:Type}{s:St}{o:B}{z:dC}{k:ā->ā->HO (ā×B)->Z5 dC}(h:o3 s o k=some z):dJ λn c l=>dD (o=.ref n) (s[n]?=some (.ins c l)) (k n c l=some z):=by
 induction o using B.casesOn with
 |ref n=>
  obtain⟨ct,aK,h⟩:=Option.bind_eq_some_iff.mp<|show(s[n]?).bind _=some z from h;induction ct using c4.casesOn with
  |ins c l=>exact⟨n,c,l,rfl,aK,h⟩
  |_=>exact bY h
 |_=>exact bY h
inductive et where
 |none
 |a5 (o:Obj)
 |loc (k:Nat)
 |kP (x:Str)
 |own (i:Nat)
 |st (n:Nat)
 |cD (n:Nat)
 |ext
def et.ctorIdx (x:et):ā:=et.casesOn x 0 (λ_=>1) (λ_=>2) (λ_=>3) (λ_=>4) (λ_=>5) (λ_=>6) 7
theorem bQ{a b:et}{cS:Prop}(h:a=b)(n:(a.ctorIdx==b.ctorIdx)=false):cS:=Cg _ h n
theorem HE{a b:Zr}{cS:Prop}(h:a=b)(n:(a.ctorIdx==b.ctorIdx)=false):cS:=Cg _ h n
abbrev aY:=Addr->et
def et.kept:et->Prop
 |.a5 _|.loc _|.kP _|.own _|.ext=>True
 |_=>False
def et.h':et->Prop
 |.a5 _|.ext=>True
 |_=>False
def et.free:et->Prop
 |.loc _|.kP _|.own _|.ext=>True
 |_=>False
def et.one:et->Prop
 |.loc _|.kP _|.own _|.st _|.cD _=>True
 |_=>False
theorem et.h'.kept{r:et}(h:r.h'):r.kept:=by induction r<;>first|trivial|exact h.elim
noncomputable abbrev ed (Vs:Array Zr) (n:ā):Obj:=⟨.type "tuple",none,.seq Vs n,#[]⟩
noncomputable abbrev cu (Vs:Array Zr) (n:ā):Obj:=⟨.type "list",none,.seq Vs n,#[]⟩
noncomputable abbrev el (es:Array DictEntry) (n:ā):Obj:=⟨.type "dict",none,.dict es n,#[]⟩
noncomputable abbrev k6 (ah d:Addr):Obj:=⟨.ref ah,some d,.plain,#[]⟩
noncomputable abbrev o_ (a b:Ă) (t u v:Tok):Obj:=⟨.type "range",none,.fields #[.int a t,.int b u,.int 1 v],#[]⟩
mutual
def jQ (P:Params):B->Ă
 |.int i=>hashInt i
 |.str l=>PyData.keyHash P ⟨l.toArray⟩
 |.tup l=>reduceHash<|Builtin.Tuple.tupleHashOf<|lx P l
 |_=>0
def lx (P:Params):HO B->HO Ă
 |[]=>[]
 |v::r=>jQ P v::lx P r
end
mutual
inductive bA (P:Params) (C:aY):B->Value->Prop where
 |none:bA P C .none .none
 |bool (b:Bool):bA P C (.bool b) (.bool b)
 |int (i:Int) (t:Tok):bA P C (.int i) (.int i t)
 |str (l:List Nat) (t:Tok):l.length<=a3->bA P C (.str l) (.str ⟨l.toArray⟩ t)
 |tup {l:List B} {a:Addr} {Vs:List Value} {n:Nat}:C a=.a5 (ed Vs.toArray n)->bD P C l Vs->l.length<=a3->bA P C (.tup l) (.ref a)
 |lst {l:List B} {a:Addr} {Vs:List Value} {n:Nat}:C a=.a5 (cu Vs.toArray n)->bD P C l Vs->l.length<=a3->bA P C (.lst l) (.ref a)
 |bb {l:List (B×B)} {a:Addr} {es:List DictEntry} {n:Nat}:C a=.a5 (el es.toArray n)->d9 P C l es->l.length<=a3->(l.map Prod.fst).Nodup->(a==sysModules)=false->bA P C (.bb l) (.ref a)
 |ref {n:Nat} {a:Addr}:C a=.st n->bA P C (.ref n) (.ref a)
 |ey {a b:Int} {x:Addr} {t u v:Tok}:C x=.a5 (o_ a b t u v)->small a=true->small b=true->(b-a).toNat<=a3->bA P C (.ey a b) (.ref x)
inductive bD (P:Params) (C:aY):List B->List Value->Prop where
 |nil:bD P C [] []
 |cons {v:B} {V:Value} {l:List B} {Vs:List Value}:bA P C v V->bD P C l Vs->bD P C (v::l) (V::Vs)
inductive d9 (P:Params) (C:aY):List (B×B)->List DictEntry->Prop where
 |nil:d9 P C [] []
 |cons {k v:B} {K V:Value} {l:List (B×B)} {es:List DictEntry}:bA P C k K->bA P C v V->d9 P C l es->d9 P C ((k,v)::l) (⟨jQ P k,K,V⟩::es)
end
theorem bD.ind{P:Params}{C:aY}{M:HO B->HO Zr->Prop}(n:M [] [])(c:∀{v V l Vs},bA P C v V->bD P C l Vs->M l Vs->M (v::l) (V::Vs)){l:HO B}{Vs:HO Zr}(h:bD P C l Vs):M l Vs:=bD.rec (motive_1:=λ_ _ _=>True) (motive_2:=λl Vs _=>M l Vs) (motive_3:=λ_ _ _=>True) trivial (λ_=>trivial) (λ_ _=>trivial) (λ_ _ _=>trivial) (λ_ _ _ _=>trivial) (λ_ _ _ _=>trivial) (λ_ _ _ _ _ _=>trivial) (λ_=>trivial) (λ_ _ _ _=>trivial) n (λa r _ m=>c a r m) trivial (λ_ _ _ _ _ _=>trivial) h
theorem d9.ind{P:Params}{C:aY}{M:HO (B×B)->HO DictEntry->Prop}(n:M [] [])(c:∀{k v K V l es},bA P C k K->bA P C v V->d9 P C l es->M l es->M ((k,v)::l) (⟨jQ P k,K,V⟩::es)){l:HO (B×B)}{es:HO DictEntry}(h:d9 P C l es):M l es:=d9.rec (motive_1:=λ_ _ _=>True) (motive_2:=λ_ _ _=>True) (motive_3:=λl es _=>M l es) trivial (λ_=>trivial) (λ_ _=>trivial) (λ_ _ _=>trivial) (λ_ _ _ _=>trivial) (λ_ _ _ _=>trivial) (λ_ _ _ _ _ _=>trivial) (λ_=>trivial) (λ_ _ _ _=>trivial) trivial (λ_ _ _ _=>trivial) n (λa b r _ _ m=>c a b r m) h
section
variable{P:Params}{C aO:aY}(G:∀a o,C a=.a5 o->aO a=.a5 o)(E:∀a n,C a=.st n->aO a=.st n)
include G E
theorem bA.mono{v:B}{V:Zr}(h:bA P C v V):bA P aO v V:=bA.rec (motive_1:=λv V _=>bA P aO v V) (motive_2:=λl Vs _=>bD P aO l Vs) (motive_3:=λl es _=>d9 P aO l es) .none .bool .int .str (λe _ c r=>.tup (G _ _ e) r c) (λe _ c r=>.lst (G _ _ e) r c) (λe _ c d f r=>.bb (G _ _ e) r c d f) (λe=>.ref<|E _ _ e) (λe a b c=>.ey (G _ _ e) a b c) .nil (λ_ _ a r=>.cons a r) .nil (λ_ _ _ a b r=>.cons a b r) h
theorem bD.mono{l:HO B}{Vs:HO Zr}(h:bD P C l Vs):bD P aO l Vs:=bD.ind (M:=bD P aO) .nil (λa _ m=>.cons (a.mono G E) m) h
theorem d9.mono{l:HO (B×B)}{es:HO DictEntry}(h:d9 P C l es):d9 P aO l es:=d9.ind (M:=d9 P aO) .nil (λa b _ m=>.cons (a.mono G E) (b.mono G E) m) h
end
section
variable{P:Params}{C:aY}{l:HO B}{Vs:HO Zr}
def BY(P:Params)(C:aY)(v:B)(V:Zr):Prop:=match v with
 |.none=>V=.none
 |.bool b=>V=.bool b
 |.int i=>∃t,V=.int i t
 |.str l=>∃t,V=.str ⟨l.toArray⟩ t/\l.length<=a3
 |.tup l=>dJ λa Vs n=>hZ (V=.ref a) (C a=.a5 (ed Vs.toArray n)) (bD P C l Vs)<|l.length<=a3
 |.lst l=>dJ λa Vs n=>hZ (V=.ref a) (C a=.a5 (cu Vs.toArray n)) (bD P C l Vs)<|l.length<=a3
 |.bb l=>dJ λa es n=>rD (V=.ref a) (C a=.a5 (el es.toArray n)) (d9 P C l es) (l.length<=a3) (l.map Prod.fst).Nodup<|(a==sysModules)=false
 |.ref n=>∃a,V=.ref a/\C a=.st n
 |.ey a b=>gS λx t u w=>qi (V=.ref x) (C x=.a5 (o_ a b t u w)) (small a=true) (small b=true)<|(b-a).toNat<=a3
theorem bA.of{v:B}{V:Zr}(h:bA P C v V):BY P C v V:=bA.casesOn (motive_1:=λv V _=>BY P C v V) h rfl (λ_=>rfl) (λ_ t=>⟨t,rfl⟩) (λ_ t c=>⟨t,rfl,c⟩) (λa b c=>⟨_,_,_,rfl,a,b,c⟩) (λa b c=>⟨_,_,_,rfl,a,b,c⟩) (λa b c d e=>⟨_,_,_,rfl,a,b,c,d,e⟩) (λa=>⟨_,rfl,a⟩)<|λa b c d=>⟨_,_,_,_,rfl,a,b,c,d⟩
def Ec(P:Params)(C:aY)(l:HO B)(Vs:HO Zr):Prop:=match l with
 |[]=>Vs=[]
 |v::l=>dW λV bC=>dD (Vs=V::bC) (bA P C v V)<|bD P C l bC
theorem bD.of(h:bD P C l Vs):Ec P C l Vs:=bD.casesOn (motive_2:=λl Vs _=>Ec P C l Vs) h rfl λa r=>⟨_,_,rfl,a,r⟩
theorem bD.k8{v:B}(h:bD P C (v::l) Vs):dW λV bC=>dD (Vs=V::bC) (bA P C v V) (bD P C l bC):=h.of
theorem bD.length(h:bD P C l Vs):Vs.length=l.length:=bD.ind (M:=λl Vs=>Vs.length=l.length) rfl (λ_ _ m=>bI Nat.succ m) h
theorem bD.get(h:bD P C l Vs):∀{i:ā} {v:B},l[i]?=some v->∃V,Vs[i]?=some V/\bA P C v V:=bD.ind (M:=λl Vs=>∀{i:ā} {v:B},l[i]?=some v->∃V,Vs[i]?=some V/\bA P C v V) (λe=>bY e) (λa _ m=>λ{i} _ e=>by
 induction i with
 |zero=>exact⟨_,rfl,cT e▸a⟩
 |succ i=>exact m (i:=i) e) h
theorem bD.append{m:HO B}{bC:HO Zr}(h:bD P C l Vs)(y:bD P C m bC):bD P C (l++m) (Vs++bC):=bD.ind (M:=λl Vs=>bD P C (l++m)<|Vs++bC) y (λa _ m=>.cons a m) h
theorem bD.drop(h:bD P C l Vs):∀n,bD P C (l.drop n) (Vs.drop n):=bD.ind (M:=λl Vs=>∀n,bD P C (l.drop n) (Vs.drop n)) (λn=>by induction n<;>exact .nil) (λa r m n=>by
 induction n with
 |zero=>exact .cons a r
 |succ n=>exact m n) h
theorem bD.take(h:bD P C l Vs):∀n,bD P C (l.take n) (Vs.take n):=bD.ind (M:=λl Vs=>∀n,bD P C (l.take n) (Vs.take n)) (λn=>by induction n<;>exact .nil) (λa r m n=>by
 induction n with
 |zero=>exact .nil
 |succ n=>exact .cons a (m n)) h
theorem bD.reverse(h:bD P C l Vs):bD P C l.reverse Vs.reverse:=bD.ind (M:=λl Vs=>bD P C l.reverse Vs.reverse) .nil (λa _ m=>by rw[List.reverse_cons,List.reverse_cons];exact bD.append m<|.cons a .nil) h
theorem bD.set{v:B}{V:Zr}(x:bA P C v V)(h:bD P C l Vs):∀i,bD P C (l.set i v) (Vs.set i V):=bD.ind (M:=λl Vs=>∀i,bD P C (l.set i v) (Vs.set i V)) (λ_=>.nil) (λa r m i=>by
 induction i with
 |zero=>exact .cons x r
 |succ i=>exact .cons a (m i)) h
end
inductive i1 (P:Params) (C:aY) (an:Nat->Str):List (Nat×B)->List DictEntry->Prop where
 |nil:i1 P C an [] []
 |cons {a:Nat} {v:B} {t:Tok} {V:Value} {l:List (Nat×B)} {es:List DictEntry}:bA P C v V->i1 P C an l es->i1 P C an ((a,v)::l) (⟨PyData.keyHash P (an a),.str (an a) t,V⟩::es)
theorem i1.mono{P:Params}{C aO:aY}{an:ā->Str}(G:∀a o,C a=.a5 o->aO a=.a5 o)(E:∀a n,C a=.st n->aO a=.st n){l:HO (ā×B)}{es:HO DictEntry}(h:i1 P C an l es):i1 P aO an l es:=i1.rec (motive:=λl es _=>i1 P aO an l es) .nil (λa _ m=>.cons (a.mono G E) m) h
structure g2 where
 an:Nat->Str
 cl:Nat->Addr
inductive lw (P:Params) (N:g2) (C:aY) (h:Heap) (n:Nat):c4->Prop where
 |ls {l:List B} {a:Addr} {Vs:List Value} {k:Nat}:C a=.st n->h.get? a=some (cu Vs.toArray k)->bD P C l Vs->l.length<=a3->lw P N C h n (.ls l)
 |cO {l:List (B×B)} {a:Addr} {es:List DictEntry} {k:Nat}:C a=.st n->h.get? a=some (el es.toArray k)->d9 P C l es->l.length<=a3->(l.map Prod.fst).Nodup->lw P N C h n (.cO l)
 |ins {c:Nat} {l:List (Nat×B)} {a d:Addr} {es:List DictEntry} {k:Nat}:C a=.st n->C d=.cD n->h.get? a=some (k6 (N.cl c) d)->h.get? d=some (el es.toArray k)->i1 P C N.an l es->(l.map Prod.fst).Nodup->c<7->lw P N C h n (.ins c l)
def Jw(P:Params)(N:g2)(C:aY)(h:Heap)(n:ā)(ct:c4):Prop:=match ct with
 |.ls l=>dJ λa Vs k=>hZ (C a=.st n) (h.get? a=some (cu Vs.toArray k)) (bD P C l Vs)<|l.length<=a3
 |.cO l=>dJ λa es k=>qi (C a=.st n) (h.get? a=some (el es.toArray k)) (d9 P C l es) (l.length<=a3) (l.map Prod.fst).Nodup
 |.ins c l=>gS λa d es k=>Im (C a=.st n) (C d=.cD n) (h.get? a=some (k6 (N.cl c) d)) (h.get? d=some (el es.toArray k)) (i1 P C N.an l es) (l.map Prod.fst).Nodup<|c<7
theorem lw.of{P:Params}{N:g2}{C:aY}{h:Heap}{n:ā}{ct:c4}(s:lw P N C h n ct):Jw P N C h n ct:=lw.casesOn (motive:=λct _=>Jw P N C h n ct) s (λa b c d=>⟨_,_,_,a,b,c,d⟩) (λa b c d e=>⟨_,_,_,a,b,c,d,e⟩)<|λa b c d e f g=>⟨_,_,_,_,a,b,c,d,e,f,g⟩
structure Inv(P:Params)(N:g2)(H:Heap)(os:OsState)(C:aY)(J:St)(s:Shared):Prop where
 alloc:∀a,C a≠.none->(s.heap.get? a).isSome=true
 uniq:∀a b,C a=C b->(C a).one->a=b
 a5:∀a o,C a=.a5 o->s.heap.get? a=some o
 store:∀n ct,J[n]?=some ct->lw P N C s.heap n ct
 base:∀a o,H.get? a=some o->C a=.a5 o
 gens:s.gens=#[]
 hQ:s.os=os
 gA:∀a n,(C a=.st n\/C a=.cD n)->n<J.length
theorem Inv.fresh{P:Params}{N:g2}{H:Heap}{os:OsState}{C:aY}{J:St}{s:Mt}(I:Inv P N H os C J s){a:Addr}(h:s.heap.objs.size<=a):C a=.none:=by
 induction e:C a with
 |none=>rfl
 |_=>obtain⟨o,az⟩:=gZ.mp (I.alloc a<|by rw[e];intro q;cases q);exact absurd (kk az)<|Nat.not_lt.mpr h
structure br(C:aY)(s:Shared)(aO:aY)(ar:Shared):Prop where
 kept:∀a o,s.heap.get? a=some o->(C a).kept->ar.heap.get? a=some o/\aO a=C a
 st:∀a n,C a=.st n->aO a=.st n
 cD:∀a n,C a=.cD n->aO a=.cD n
structure eB(C:aY)(s:Shared)(aO:aY)(ar:Shared):Prop where
 h':∀a o,s.heap.get? a=some o->(C a).h'->ar.heap.get? a=some o/\aO a=C a
 st:∀a n,C a=.st n->aO a=.st n
 cD:∀a n,C a=.cD n->aO a=.cD n
theorem br.refl(C:aY)(s:Mt):br C s C s:=⟨λ_ _ e _=>⟨e,rfl⟩,λ_ _ e=>e,λ_ _ e=>e⟩
theorem eB.refl(C:aY)(s:Mt):eB C s C s:=⟨λ_ _ e _=>⟨e,rfl⟩,λ_ _ e=>e,λ_ _ e=>e⟩
theorem br.trans{C bM co:aY}{s bs b9:Mt}(x:br C s bM bs)(y:br bM bs co b9):br C s co b9:=⟨λa o e k=>let⟨ag,hr⟩:=x.kept a o e k;let⟨a8,ki⟩:=y.kept a o ag (by rw[hr];exact k);⟨a8,ki.trans hr⟩,λa n e=>y.st a n<|x.st a n e,λa n e=>y.cD a n<|x.cD a n e⟩
theorem eB.trans{C bM co:aY}{s bs b9:Mt}(x:eB C s bM bs)(y:eB bM bs co b9):eB C s co b9:=⟨λa o e k=>let⟨ag,hr⟩:=x.h' a o e k;let⟨a8,ki⟩:=y.h' a o ag (by rw[hr];exact k);⟨a8,ki.trans hr⟩,λa n e=>y.st a n<|x.st a n e,λa n e=>y.cD a n<|x.cD a n e⟩
theorem br.zero{C aO:aY}{s ar:Mt}(x:br C s aO ar):eB C s aO ar:=⟨λa o e k=>x.kept a o e k.kept,x.st,x.cD⟩
section
variable{P:Params}{N:g2}{H:Heap}{os:OsState}{C aO:aY}{J bG:St}{s ar:Mt}
theorem eB.oG(x:eB C s aO ar)(I:Inv P N H os C J s):∀a o,C a=.a5 o->aO a=.a5 o:=λa o e=>(x.h' a o (I.a5 a o e)<|by rw[e];trivial).2.trans e
theorem eB.hh(x:eB C s aO ar)(I:Inv P N H os C J s){v:B}{V:Zr}(h:bA P C v V):bA P aO v V:=h.mono (x.oG I) x.st
theorem eB.iG(x:eB C s aO ar)(I:Inv P N H os C J s){v:HO B}{V:HO Zr}(h:bD P C v V):bD P aO v V:=h.mono (x.oG I) x.st
theorem br.hh(x:br C s aO ar)(I:Inv P N H os C J s){v:B}{V:Zr}(h:bA P C v V):bA P aO v V:=x.zero.hh I h
theorem br.iG(x:br C s aO ar)(I:Inv P N H os C J s){v:HO B}{V:HO Zr}(h:bD P C v V):bD P aO v V:=x.zero.iG I h
theorem Inv.toks(I:Inv P N H os C J s)(t:ā):Inv P N H os C J {s with toks:=t}:=⟨I.alloc,I.uniq,I.a5,I.store,I.base,I.gens,I.hQ,I.gA⟩
theorem br.toks(C:aY)(s:Mt)(t:ā):br C s C {s with toks:=t}:=⟨λ_ _ e _=>⟨e,rfl⟩,λ_ _ e=>e,λ_ _ e=>e⟩
end
def cC (C:aY) (a:Addr) (r:et):aY:=λb=>if b=a then r else C b
theorem c2(C:aY)(a:Addr)(r:et):cC C a r a=r:=bl rfl
theorem bW{C:aY}{a b:Addr}{r:et}(h:b≠a):cC C a r b=C b:=bm h
theorem lw.mono{P:Params}{N:g2}{C aO:aY}{h aR:Heap}{n:ā}{ct:c4}(G:∀a o,C a=.a5 o->aO a=.a5 o)(E:∀a n,C a=.st n->aO a=.st n)(aC:∀a n,C a=.cD n->aO a=.cD n)(k:∀a o,(C a=.st n\/C a=.cD n)->h.get? a=some o->aR.get? a=some o):lw P N C h n ct->lw P N aO aR n ct
 |.ls a b c d=>.ls (E _ _ a) (k _ _ (.inl a) b) (c.mono G E) d
 |.cO a b c d e=>.cO (E _ _ a) (k _ _ (.inl a) b) (c.mono G E) d e
 |.ins a b c d e f g=>.ins (E _ _ a) (aC _ _ b) (k _ _ (.inl a) c) (k _ _ (.inr b) d) (e.mono G E) f g
section
variable{P:Params}{N:g2}{H:Heap}{os:OsState}{C:aY}{J:St}{s:Mt}
theorem Inv.grow(I:Inv P N H os C J s){aR:Heap}(k:∀b o,s.heap.get? b=some o->aR.get? b=some o)(t:ā):Inv P N H os C J {s with heap:=aR,toks:=t}:=⟨λa h=>by obtain⟨o,az⟩:=gZ.mp<|I.alloc a h;rw[show({s with heap:=aR,toks:=t}:Mt).heap.get? a=some o from k a o az];rfl,I.uniq,λa o e=>k a o<|I.a5 a o e,λn ct e=>(I.store n ct e).mono (λ_ _ e=>e) (λ_ _ e=>e) (λ_ _ e=>e) λa o _ e=>k a o e,I.base,I.gens,I.hQ,I.gA⟩
theorem br.grow(C:aY){s:Mt}{aR:Heap}(k:∀b o,s.heap.get? b=some o->aR.get? b=some o)(t:ā):br C s C {s with heap:=aR,toks:=t}:=⟨λa o e _=>⟨k a o e,rfl⟩,λ_ _ e=>e,λ_ _ e=>e⟩
end
section
variable{P:Params}{N:g2}{H:Heap}{os:OsState}{C:aY}{J:St}{s:Mt}
theorem Inv.push(I:Inv P N H os C J s)(o:Obj)(a7:o.isFreed=false)(r:et)(bn:r=.a5 o\/r=.ext):Inv P N H os (cC C s.heap.objs.size r) J {s with heap:=s.heap.push o}:=by
 have e_:=I.fresh (a:=s.heap.objs.size)<|dy _;have ne:∀a,C a≠.none->a≠s.heap.objs.size:=λa h q=>h<|q▸e_;have I':¬r.one:=by rcases bn with rfl|rfl<;>exact id
 refine⟨λa h=>?_,λa b e h=>?_,λa cw e=>?_,λn ct e=>?_,λa cw e=>?_,I.gens,I.hQ,λa n e=>?_⟩
 .by_cases q:a=s.heap.objs.size
  .subst q;rw[show({s with heap:=s.heap.push o}:Mt).heap.get? s.heap.objs.size=some o from gU _ a7];rfl
  .rw[bW q]at h;obtain⟨cw,az⟩:=gZ.mp<|I.alloc a h;rw[show({s with heap:=s.heap.push o}:Mt).heap.get? a=some cw from ie _ az];rfl
 .by_cases f_:a=s.heap.objs.size
  .subst f_;rw[c2]at h;exact absurd h I'
  .rw[bW f_]at e h;by_cases e7:b=s.heap.objs.size
   .subst e7;rw[c2]at e;rw[e]at h;exact absurd h I'
   .rw[bW e7]at e;exact I.uniq a b e h
 .by_cases q:a=s.heap.objs.size
  .subst q;rw[c2]at e;rcases bn with bn|bn<;>rw[bn]at e
   .cases e;exact gU _ a7
   .cases e
  .rw[bW q]at e;exact ie _<|I.a5 a cw e
 .refine(I.store n ct e).mono (λa cw e=>?_) (λa m e=>?_) (λa m e=>?_) λa cw _ e=>ie _ e;all_goals rw[bW<|ne a<|by rw[e];intro q;cases q];exact e
 .rw[bW<|ne a<|by rw[I.base a cw e];intro q;cases q];exact I.base a cw e
 .by_cases q:a=s.heap.objs.size
  .subst q;rw[c2]at e;rcases bn with rfl|rfl<;>rcases e with e|e<;>cases e
  .rw[bW q]at e;exact I.gA a n e
theorem br.push(I:Inv P N H os C J s)(o:Obj)(r:et):br C s (cC C s.heap.objs.size r) {s with heap:=s.heap.push o}:=by
 have ne:∀a,C a≠.none->a≠s.heap.objs.size:=λa h q=>h<|q▸(I.fresh (a:=s.heap.objs.size)<|dy _);refine⟨λa cw e k=>⟨ie _ e,bW<|ne a ?_⟩,λa n e=>?_,λa n e=>?_⟩
 .intro q;rw[q]at k;exact k
 .rw[bW<|ne a<|by rw[e];intro q;cases q];exact e
 .rw[bW<|ne a<|by rw[e];intro q;cases q];exact e
end
section
variable{P:Params}{N:g2}{H:Heap}{os:OsState}{C dq:aY}{J:St}{s eP:Mt}
theorem Inv.upd(I:Inv P N H os C J s){d:Addr}(bg:(C d).free){aR:Heap}(k:∀b o,b≠d->s.heap.get? b=some o->aR.get? b=some o)(aB:(aR.get? d).isSome=true)(t:ā):Inv P N H os C J {s with heap:=aR,toks:=t}:=by
 have ne:∀{a:Addr} {r:et},C a=r->¬r.free->a≠d:=λe h q=>h<|e▸q▸bg;refine⟨λa h=>?_,I.uniq,λa o e=>k a o (ne e id)<|I.a5 a o e,λn ct e=>(I.store n ct e).mono (λ_ _ e=>e) (λ_ _ e=>e) (λ_ _ e=>e) λa o h e=>k a o ?_ e,I.base,I.gens,I.hQ,I.gA⟩
 .by_cases q:a=d
  .subst q;exact aB
  .obtain⟨o,az⟩:=gZ.mp<|I.alloc a h;rw[show({s with heap:=aR,toks:=t}:Mt).heap.get? a=some o from k a o q az];rfl
 .rcases h with h|h<;>exact ne h id
theorem br.upd(x:br dq eP C s){d:Addr}(am:¬(dq d).kept){aR:Heap}(k:∀b o,b≠d->s.heap.get? b=some o->aR.get? b=some o)(t:ā):br dq eP C {s with heap:=aR,toks:=t}:=⟨λa o e eu=>let⟨ag,a8⟩:=x.kept a o e eu;⟨k a o (λq=>am<|q▸eu) ag,a8⟩,x.st,x.cD⟩
theorem eB.upd(x:eB dq eP C s){d:Addr}(am:¬(dq d).h'){aR:Heap}(k:∀b o,b≠d->s.heap.get? b=some o->aR.get? b=some o)(t:ā):eB dq eP C {s with heap:=aR,toks:=t}:=⟨λa o e eu=>let⟨ag,a8⟩:=x.h' a o e eu;⟨k a o (λq=>am<|q▸eu) ag,a8⟩,x.st,x.cD⟩
theorem Inv.turn(I:Inv P N H os C J s){d:Addr}{o:Obj}(bg:(C d).free)(az:s.heap.get? d=some o):Inv P N H os (cC C d<|.a5 o) J s:=by
 have ne:∀{a:Addr} {r:et},C a=r->¬r.free->a≠d:=λe h q=>h<|e▸q▸bg;refine⟨λa h=>?_,λa b e h=>?_,λa cw e=>?_,λn ct e=>(I.store n ct e).mono (λa o e=>?_) (λa m e=>?_) (λa m e=>?_) λa o _ e=>e,λa cw e=>?_,I.gens,I.hQ,λa n e=>?_⟩
 .by_cases q:a=d
  .subst q;rw[az];rfl
  .rw[bW q]at h;exact I.alloc a h
 .by_cases f_:a=d
  .subst f_;rw[c2]at h;exact h.elim
  .rw[bW f_]at e h;by_cases e7:b=d
   .subst e7;rw[c2]at e;rw[e]at h;exact h.elim
   .rw[bW e7]at e;exact I.uniq a b e h
 .by_cases q:a=d
  .subst q;rw[c2]at e;cases e;exact az
  .rw[bW q]at e;exact I.a5 a cw e
 .rw[bW<|ne e id];exact e
 .rw[bW<|ne e id];exact e
 .rw[bW<|ne e id];exact e
 .rw[bW<|ne (I.base a cw e) id];exact I.base a cw e
 .by_cases q:a=d
  .subst q;rw[c2]at e;rcases e with e|e<;>cases e
  .rw[bW q]at e;exact I.gA a n e
theorem br.turn(x:br dq eP C s){d:Addr}{r:et}(am:¬(dq d).kept)(bg:C d=.ext):br dq eP (cC C d r) s:=⟨λa o e eu=>let⟨ag,a8⟩:=x.kept a o e eu;⟨ag,(bW (b:=a) λ(q:a=d)=>am<|q▸eu).trans a8⟩,λa n e=>(bW (b:=a) λ(q:a=d)=>by have:=x.st a n e;rw[q,bg]at this;cases this).trans<|x.st a n e,λa n e=>(bW (b:=a) λ(q:a=d)=>by have:=x.cD a n e;rw[q,bg]at this;cases this).trans<|x.cD a n e⟩
theorem Inv.WM(I:Inv P N H os C J s){l:HO B}{Vs:HO Zr}(af:bD P C l Vs)(aq:l.length<=a3):Inv P N H os (cC C s.heap.objs.size<|.st J.length) (J++[.ls l]) {s with heap:=s.heap.push (cu Vs.toArray 0)}:=by
 have e_:=I.fresh (a:=s.heap.objs.size)<|dy _;have ne:∀{a:Addr} {r:et},C a=r->r≠.none->a≠s.heap.objs.size:=λe h q=>h<|e.symm.trans<|q▸e_;have G:∀a o,C a=.a5 o->cC C s.heap.objs.size (.st J.length) a=.a5 o:=λa o e=>(bW<|ne e<|λq=>nomatch q).trans e;have E:∀a n,C a=.st n->cC C s.heap.objs.size (.st J.length) a=.st n:=λa o e=>(bW<|ne e<|λq=>nomatch q).trans e;refine⟨λa h=>?_,λa b e h=>?_,λa cw e=>?_,λn ct e=>?_,λa cw e=>G _ _<|I.base a cw e,I.gens,I.hQ,λa n e=>?_⟩
 .by_cases q:a=s.heap.objs.size
  .subst q;rw[show({s with heap:=s.heap.push (cu Vs.toArray 0)}:Mt).heap.get? s.heap.objs.size=some (cu Vs.toArray 0)from gU _ rfl];rfl
  .rw[bW q]at h;obtain⟨cw,az⟩:=gZ.mp<|I.alloc a h;rw[show({s with heap:=s.heap.push (cu Vs.toArray 0)}:Mt).heap.get? a=some cw from ie _ az];rfl
 .by_cases f_:a=s.heap.objs.size
  .by_cases e7:b=s.heap.objs.size
   .rw[f_,e7]
   .rw[f_,c2,bW e7]at e;exact absurd (I.gA b J.length<|.inl e.symm)<|mL _
  .rw[bW f_]at e h;by_cases e7:b=s.heap.objs.size
   .rw[e7,c2]at e;exact absurd (I.gA a J.length<|.inl e)<|mL _
   .rw[bW e7]at e;exact I.uniq a b e h
 .by_cases q:a=s.heap.objs.size
  .subst q;rw[c2]at e;cases e
  .rw[bW q]at e;exact ie _<|I.a5 a cw e
 .by_cases q:n<J.length
  .rw[o7 q]at e;exact(I.store n ct e).mono G E (λa o e=>(bW<|ne e<|λq=>nomatch q).trans e:∀a n,C a=.cD n->cC C s.heap.objs.size (.st J.length) a=.cD n) λa o _ e=>ie _ e
  .have am:n=J.length:=by have:=(g9.mp e).1;rw[c',pv]at this;lia
   subst am;rw[oZ<|dy _,Nat.sub_self]at e;cases e;exact .ls (c2 _ _ _) (gU _ rfl) (af.mono G E) aq
 .rw[c',pv];by_cases q:a=s.heap.objs.size
  .subst q;rw[c2]at e;rcases e with e|e<;>cases e
   exact pU _
  .rw[bW q]at e;exact mN<|I.gA a n e
end
def gO(ac:Env)(h:Heap)(x:Str)(V:Zr):Prop:=(ac.kindOf x=some .local/\∃m,h.Ns ac.locals m/\m x=some V)\/((ac.kindOf x=some .cell\/ac.kindOf x=some .free)/\∃c,ac.cells.lookup x=some c/\h.IsCell c (some V))
inductive lY (P:Params) (C:aY) (ac:Env) (h:Heap) (i:Nat) (x:Str):cq->Prop where
 |un:lY P C ac h i x .un
 |val {v:B} {V:Value}:gO ac h x V->bA P C v V->lY P C ac h i x (.val v)
 |ol {l:List B} {a:Addr} {Vs:List Value} {n:Nat}:gO ac h x (.ref a)->C a=.own i->h.get? a=some (cu Vs.toArray n)->bD P C l Vs->l.length<=a3->lY P C ac h i x (.ol l)
 |od {l:List (B×B)} {a:Addr} {es:List DictEntry} {n:Nat}:gO ac h x (.ref a)->C a=.own i->h.get? a=some (el es.toArray n)->d9 P C l es->l.length<=a3->(l.map Prod.fst).Nodup->lY P C ac h i x (.od l)
def Ki(P:Params)(C:aY)(ac:Env)(h:Heap)(i:ā)(x:Str)(aL:cq):Prop:=match aL with
 |.un=>True
 |.val v=>dW λV (_:Unit)=>gO ac h x V/\bA P C v V
 |.ol l=>dJ λa Vs n=>qi (gO ac h x<|.ref a) (C a=.own i) (h.get? a=some (cu Vs.toArray n)) (bD P C l Vs)<|l.length<=a3
 |.od l=>dJ λa es n=>rD (gO ac h x<|.ref a) (C a=.own i) (h.get? a=some (el es.toArray n)) (d9 P C l es) (l.length<=a3) (l.map Prod.fst).Nodup
theorem lY.of{P:Params}{C:aY}{ac:Env}{h:Heap}{i:ā}{x:Str}{aL:cq}(s:lY P C ac h i x aL):Ki P C ac h i x aL:=lY.casesOn (motive:=λaL _=>Ki P C ac h i x aL) s trivial (λa b=>⟨_,(),a,b⟩) (λa b c d e=>⟨_,_,_,a,b,c,d,e⟩)<|λa b c d e f=>⟨_,_,_,a,b,c,d,e,f⟩
abbrev bH:=List<|Str×ā
structure xy(P:Params)(C:aY)(ac:Env)(ns:bH)(r:aJ)(h:Heap)(k:Nat):Prop where
 kind:ac.scope.kind=.function
 glob:ac.globals=mainGlobals
 lT:ac.builtins=builtinsNs
 loc:C ac.locals=.loc k
 mB:∃m,h.Ns ac.locals m
 cells:∀x,(ac.kindOf x=some .cell\/ac.kindOf x=some .free)->dW λc v=>dD (ac.cells.lookup x=some c) (C c=.kP x)<|h.IsCell c v
 slots:∀x i aL,ns.lookup x=some i->r[i]?=some aL->lY P C ac h i x aL
section
variable{P:Params}{N:g2}{H:Heap}{os:OsState}{C aO:aY}{J bG:St}{s ar:Mt}{ac:Env}{ns:bH}{r:aJ}{k:ā}
theorem xy.ext(F:xy P C ac ns r s.heap k)(I:Inv P N H os C J s)(x:br C s aO ar):xy P aO ac ns r ar.heap k:=by
 have DD:∀o,s.heap.get? ac.locals=some o->ar.heap.get? ac.locals=some o:=λo e=>(x.kept _ o e<|by rw[F.loc];trivial).1;have Ux:∀y c o,ac.cells.lookup y=some c->(ac.kindOf y=some .cell\/ac.kindOf y=some .free)->s.heap.get? c=some o->ar.heap.get? c=some o:=λy c o aq aD e=>by obtain⟨iQ,v,G,E,aC⟩:=F.cells y aD;rw[aq]at G;cases G;exact(x.kept _ o e<|by rw[E];trivial).1
 have iR:∀y V,gO ac s.heap y V->gO ac ar.heap y V:=λy V h=>by
  rcases h with⟨a,m,am,e⟩|⟨a,c,aq,o,az,bg⟩
  .exact .inl ⟨a,m,am.at DD,e⟩
  .exact .inr ⟨a,c,aq,o,Ux y c o aq a az,bg⟩
 refine⟨F.kind,F.glob,F.lT,?_,let⟨m,am⟩:=F.mB;⟨m,am.at DD⟩,λy aD=>?_,λy i aL G E=>?_⟩
 .obtain⟨m,o,es,qR,az,-⟩:=F.mB;exact(x.kept _ o az<|by rw[F.loc];trivial).2.trans F.loc
 .obtain⟨c,v,G,E,o,az,bg⟩:=F.cells y aD;obtain⟨ag,a8⟩:=x.kept c o az (by rw[E];trivial);exact⟨c,v,G,a8.trans E,o,ag,bg⟩
 .induction F.slots y i aL G E with
  |un=>exact .un
  |val a b=>exact .val (iR _ _ a)<|x.hh I b
  |ol a b c d f=>obtain⟨ag,a8⟩:=x.kept _ _ c (by rw[b];trivial);exact .ol (iR _ _ a) (a8.trans b) ag (x.iG I d) f
  |od a b c d f g=>obtain⟨ag,a8⟩:=x.kept _ _ c (by rw[b];trivial);exact .od (iR _ _ a) (a8.trans b) ag (d.mono (x.zero.oG I) x.st) f g
end
set_option tactic.hygienic true
def attrOk (K:Frag) (ah:Addr) (name:Str):ZI:=findIn K (.ref ah) "__getattribute__"==some (some<|.builtin "object.__getattribute__")&&findIn K (.ref ah) name==some none&&(match clsIn K ah with|some kh=>kh.hasDict|none=>false)
def storeOk (K:Frag) (ah:Addr) (name:Str):ZI:=findIn K (.ref ah) "__setattr__"==some (some<|.builtin "object.__setattr__")&&plainOver K ah&&takerIn K ah name==some none&&(clsIn K ah).any (·.hasDict)
structure cc where
 prog:Program
 w:World
 N:g2
 H:Heap
 os:OsState
 aH:Around->Prop
 ns:bH
 cB:Str->Bool
 b6:Str->Bool
 ky:Str->Bool
 gL:Str->Option Value
 j7:Str->Option Value
 K:Frag
structure cc.Ok(c:cc):Prop where
 sys:∃o,c.H.get? sysModules=some o
 q':c.H.Ns mainGlobals c.gL
 Ag:c.H.Ns builtinsNs c.j7
 ab:c.K.In c.H
 inj:∀a b,c.N.an a=c.N.an b->a=b
 rT:∀x y i,c.ns.lookup x=some i->c.ns.lookup y=some i->x=y
 iI:∀be a,be<7->a<33->storeOk c.K (c.N.cl be) (c.N.an a)=true
 mT:∀be a,be<7->a<33->attrOk c.K (c.N.cl be) (c.N.an a)=true
noncomputable abbrev cc.M (c:cc):Model:=model c.prog c.w
noncomputable abbrev cc.P (c:cc):Params:=c.w.params
abbrev cc.I(c:cc)(C:aY)(J:St)(s:Mt):Prop:=Inv c.P c.N c.H c.os C J s
structure cc.F(c:cc)(C:aY)(ac:Env)(r:aJ)(h:Heap)(k:Nat):Prop where
 bE:xy c.P C ac c.ns r h k
 gl:∀x,c.cB x=true->ac.kindOf x=some .globalImplicit
 st:∀x,c.b6 x=true->ac.kindOf x=some .local\/ac.kindOf x=some .cell
 cl:∀x,c.ky x=true->ac.kindOf x=some .cell
abbrev dk:=aJ->St->(B->St->Prop)->Prop
abbrev nO:=aJ->St->(HO B->St->Prop)->Prop
abbrev he:=aJ->St->(ZI->St->Prop)->Prop
def y_(c:cc)(C:aY)(s:Mt)(Q:Zr->Mt->Prop)(v:B)(bG:St):Prop:=∀V aO ar,c.I aO bG ar->br C s aO ar->bA c.P aO v V->Q V ar
def KZ(c:cc)(C:aY)(s:Mt)(Q:HO Zr->Mt->Prop)(n:ā)(vs:HO B)(bG:St):Prop:=∀Vs aO ar,c.I aO bG ar->br C s aO ar->bD c.P aO vs Vs->vs.length=n->Q Vs ar
def X4(c:cc)(C:aY)(s:Mt)(Q:ZI->Mt->Prop)(b:ZI)(bG:St):Prop:=∀aO ar,c.I aO bG ar->br C s aO ar->Q b ar
def kp(c:cc)(A:Around)(t:Env->Sem Zr)(w:dk):Prop:=∀O s ac C r J k (K:B->St->Prop) (Q:Zr->Mt->Prop),c.I C J s->c.F C ac r s.heap k->w r J K->(∀v bG,K v bG->y_ c C s Q v bG)->wpAny c.M A (t ac) Q O s
abbrev Good(c:cc)(A:Around)(e:Ā)(w:dk):Prop:=kp c A (eval e) w
def kZ(c:cc)(A:Around)(es:HO Ā)(w:nO):Prop:=∀O s ac C r J k pos (K:HO B->St->Prop) (Q:HO Zr->Mt->Prop),c.I C J s->c.F C ac r s.heap k->w r J K->(∀vs bG,K vs bG->KZ c C s Q es.length vs bG)->wpAny c.M A (spliced<|backTo pos<|starEach es ac) Q O s
def qm(c:cc)(A:Around)(t:Env->Sem ZI)(w:he):Prop:=∀O s ac C r J k (K:ZI->St->Prop) (Q:ZI->Mt->Prop),c.I C J s->c.F C ac r s.heap k->w r J K->(∀b bG,K b bG->X4 c C s Q b bG)->wpAny c.M A (t ac) Q O s
abbrev j'(c:cc)(A:Around)(e:Ā)(w:he):Prop:=qm c A (λac=>isTrue e ac<|eval e ac) w
theorem cc.F.ext{c:cc}{C aO:aY}{ac:Env}{r:aJ}{s ar:Mt}{J:St}{k:ā}(F:c.F C ac r s.heap k)(I:c.I C J s)(x:br C s aO ar):c.F aO ac r ar.heap k:=⟨F.bE.ext I x,F.gl,F.st,F.cl⟩
theorem bind_some{av b8:Type}{x:Z5 av}{f:av->Z5 b8}{b:b8}(h:x.bind f=some b):∃a,x=some a/\f a=some b:=Option.bind_eq_some_iff.mp h
theorem map_some{av b8:Type}{x:Z5 av}{f:av->b8}{b:b8}(h:x.map f=some b):∃a,x=some a/\f a=b:=wA.mp h
theorem ay.dw{av:Type}{o:Z5 av}{f:av->Prop}{cS:Prop}(h:ay o f)(k:∀a,o=some a->f a->cS):cS:=by
 induction o with
 |none=>exact h.elim
 |some a=>exact k a rfl h
section
variable{c:cc}{A:Around}
section
variable{O:Zr->Mt->Prop}{s:Mt}{ac:Env}{C:aY}{r:aJ}{J:St}{k:ā}(I:c.I C J s)(F:c.F C ac r s.heap k)
include I F
theorem kp.use{t:Env->Sem Zr}{w:dk}{K:B->St->Prop}{Q:Zr->Mt->Prop}(g:kp c A t w)(e:w r J K)(h:∀v bG,K v bG->∀V aO ar,c.I aO bG ar->c.F aO ac r ar.heap k->br C s aO ar->bA c.P aO v V->Q V ar):wpAny c.M A (t ac) Q O s:=g O s ac C r J k K Q I F e λv bG e V aO ar dm x af=>h v bG e V aO ar dm (F.ext I x) x af
theorem kZ.use{es:HO Ā}{w:nO}{K:HO B->St->Prop}{pos:Pos}{Q:HO Zr->Mt->Prop}(g:kZ c A es w)(e:w r J K)(h:∀vs bG,K vs bG->∀Vs aO ar,c.I aO bG ar->c.F aO ac r ar.heap k->br C s aO ar->bD c.P aO vs Vs->vs.length=es.length->Q Vs ar):wpAny c.M A (spliced<|backTo pos<|starEach es ac) Q O s:=g O s ac C r J k pos K Q I F e λv bG e V aO ar dm x af aj=>h v bG e V aO ar dm (F.ext I x) x af aj
theorem qm.use{t:Env->Sem ZI}{w:he}{K:ZI->St->Prop}{Q:ZI->Mt->Prop}(g:qm c A t w)(e:w r J K)(h:∀b bG,K b bG->∀aO ar,c.I aO bG ar->c.F aO ac r ar.heap k->br C s aO ar->Q b ar):wpAny c.M A (t ac) Q O s:=g O s ac C r J k K Q I F e λb bG e aO ar dm x=>h b bG e aO ar dm (F.ext I x) x
end
theorem good_int{i:Ă}{cL:ā}{pos:Pos}:Good c A (.Constant (.int i) cL pos) λ_ J K=>K (.int i) J:=λO s ac C r J k K Q I F e h=>wpAny_Constant_int<|h _ _ e _ C _ (I.toks _) (br.toks C s _)<|.int i _
theorem good_bool{b:ZI}{cL:ā}{pos:Pos}:Good c A (.Constant (.bool b) cL pos) λ_ J K=>K (.bool b) J:=λO s ac C r J k K Q I F e h=>wpAny_Constant_bool<|h _ _ e _ C _ I (br.refl C s)<|.bool b
theorem good_none{cL:ā}{pos:Pos}:Good c A (.Constant .none cL pos) λ_ J K=>K .none J:=λO s ac C r J k K Q I F e h=>wpAny_Constant_none<|h _ _ e _ C _ I (br.refl C s) .none
theorem good_str{x:Str}{cL:ā}{pos:Pos}(aA:x.cps.toList.length<=a3):Good c A (.Constant (.str x) cL pos) λ_ J K=>K (.str x.cps.toList) J:=by intro O s ac C r J k K Q I F e h;refine wpAny_Constant_str<|h _ _ e _ C _ (I.toks _) (br.toks C s _) ?_;have:=bA.str (P:=c.P) (C:=C) x.cps.toList s.toks aA;rwa[show(⟨x.cps.toList.toArray⟩:Str)=x by induction x;simp]at this
theorem rp{ac:Env}{x:Str}{V:Zr}{O:Zr->Mt->Prop}{s:Mt}{Q:Zr->Mt->Prop}(aD:ac.scope.kind=.function)(af:gO ac s.heap x V)(am:(x==("__classdict__":Str))=false)(h:Q V s):wpAny c.M A (loadName ac x) Q O s:=by
 rcases af with⟨a,m,aN,e⟩|⟨a|a,be,aq,af⟩
 .exact wpAny_loadName_local aD a aN e h
 .exact wpAny_loadName_cell aD a aq af h
 .exact wpAny_loadName_free aD a aq af h am
theorem X0{r:aJ}{i:ā}{v:B}(h:pQ r i=some v):r[i]?=some (.val v):=by
 replace h:(match r[i]? with|some (.val v)=>some v|_=>none)=some v:=h;generalize r[i]?=o at h⊢;induction o with
 |none=>exact bY h
 |some aL=>
  induction aL with
  |val w=>exact bI (λw=>some<|cq.val w)<|cT h
  |_=>exact bY h
theorem XZ{x:Str}{i:ā}{pos:Pos}(aB:c.ns.lookup x=some i)(bg:(x==("__debug__":Str))=false)(am:(x==("__classdict__":Str))=false):Good c A (.Name x pos) λr J K=>lO (pQ r i) K J:=by intro O s ac C r J k K Q I F e h;refine ay.dw e λv ag e=>?_;obtain⟨V,-,a,b⟩:=(F.bE.slots x i _ aB<|X0 ag).of;exact wpAny_Name (rp F.bE.kind a am<|h _ _ e _ C s I (br.refl C s) b) bg
theorem cc.I.mm{c:cc}{C:aY}{J:St}{s:Mt}(I:c.I C J s):∀a o,c.H.get? a=some o->s.heap.get? a=some o:=λa o e=>I.a5 a o<|I.base a o e
theorem JX{ac:Env}{x:Str}{pos:Pos}{V:Zr}{O:Zr->Mt->Prop}{s:Mt}{C:aY}{r:aJ}{J:St}{k:ā}{Q:Zr->Mt->Prop}(aX:c.Ok)(I:c.I C J s)(F:c.F C ac r s.heap k)(d_:c.cB x=true)(af:c.gL x=some V)(bg:(x==("__debug__":Str))=false)(h:Q V s):wpAny c.M A (eval (.Name x pos) ac) Q O s:=Name_function_global F.bE.kind (F.gl x d_) (loadGlobal_global (by rw[F.bE.glob];exact aX.q'.at λo e=>I.mm _ _ e) af h) bg
theorem uo{ac:Env}{x:Str}{pos:Pos}{V:Zr}{O:Zr->Mt->Prop}{s:Mt}{C:aY}{r:aJ}{J:St}{k:ā}{Q:Zr->Mt->Prop}(aX:c.Ok)(I:c.I C J s)(F:c.F C ac r s.heap k)(d_:c.cB x=true)(aN:c.gL x=none)(af:c.j7 x=some V)(bg:(x==("__debug__":Str))=false)(h:Q V s):wpAny c.M A (eval (.Name x pos) ac) Q O s:=Name_function_global F.bE.kind (F.gl x d_) (loadGlobal_builtin (by rw[F.bE.glob];exact aX.q'.at λo e=>I.mm _ _ e) aN (by rw[F.bE.lT];exact aX.Ag.at λo e=>I.mm _ _ e) af h) bg
def fB (H:Heap):aY:=λa=>match H.get? a with|some o=>.a5 o|none=>.none
theorem Y1{C:aY}{J:St}{s:Mt}(I:c.I C J s){v:B}{V:Zr}(h:bA c.P (fB c.H) v V):bA c.P C v V:=by
 refine h.mono (λa o e=>?_) λa n e=>?_
 .unfold fB at e;split at e
  .rename_i cw az;cases e;exact I.base _ _ az
  .exact bQ e rfl
 .unfold fB at e;split at e<;>exact bQ e rfl
theorem ON{x:Str}{pos:Pos}{v:B}{V:Zr}(aX:c.Ok)(d_:c.cB x=true)(af:c.gL x=some V)(bg:(x==("__debug__":Str))=false)(bn:bA c.P (fB c.H) v V):Good c A (.Name x pos) λ_ J K=>K v J:=λO s ac C r J k K Q I F e h=>JX aX I F d_ af bg<|h _ _ e V C s I (br.refl C s)<|Y1 I bn
def fG (e:Ā):ZI:=Nat.beq e.ctorIdx 22
def lf (e:Ā):ZI:=Nat.beq e.ctorIdx 16
theorem u2{e:Ā}{a_:HO Ā}{ac:Env}(h:fG e=false):starEach (e::a_) ac=(false,eval e ac)::starEach a_ ac:=by exact qY (b:=fG e) (by induction e using PySem.Expr.casesOn<;>first|rfl|trivial) h
theorem NG:kZ c A [] λ_ J K=>K [] J:=λO s ac C r J k pos K Q I F e h=>wpAny_items_nil<|h _ _ e [] C s I (br.refl C s) .nil rfl
theorem Yo{e:Ā}{a_:HO Ā}{w:dk}{eb:nO}(aK:fG e=false)(g:Good c A e w)(gl:kZ c A a_ eb):kZ c A (e::a_) λr J K=>w r J (hv eb r<|HN K):=by intro O s ac C r J k pos K Q I F e h;exact wpAny_items_cons (g.use I F e λv da e V bM bs a0 bU bo af=>gl.use a0 bU e λvs d3 e Vs co b9 cb ee bL jW aj=>h _ _ e _ co b9 cb (bo.trans bL) (.cons (bL.hh a0 af) jW)<|bI Nat.succ aj)<|u2 aK
theorem UR{es:HO Ā}{cL:ā}{pos:Pos}{eb:nO}(gl:kZ c A es eb)(aj:es.length<=a3):Good c A (.Tuple es cL pos) λr J K=>eb r J (G6 K):=by intro O s ac C r J k K Q I F e h;refine wpAny_Tuple<|gl.use I F e λvs da e Vs bM bs a0 bU bo af a6=>?_;rw[<-a6]at aj;have bL:=br.push a0 (ed Vs.toArray 0)<|.a5<|ed Vs.toArray 0;exact⟨by rw[af.length];exact f1 aj,h _ _ e _ _ _ (a0.push (ed Vs.toArray 0) rfl _<|.inl rfl) (bo.trans bL)<|.tup (c2 _ _ _) (bL.iG a0 af) aj⟩
theorem QV{es:HO Ā}{pos:Pos}{eb:nO}(gl:kZ c A es eb)(aj:es.length<=a3):Good c A (.List es pos) λr J K=>eb r J (zN K):=by intro O s ac C r J k K Q I F e h;refine wpAny_List<|gl.use I F e λvs da e Vs bM bs a0 bU bo af a6=>?_;rw[<-a6]at aj;have bL:=br.push a0 (cu Vs.toArray 0)<|.a5<|cu Vs.toArray 0;exact⟨by rw[af.length];exact f1 aj,h _ _ e _ _ _ (a0.push (cu Vs.toArray 0) rfl _<|.inl rfl) (bo.trans bL)<|.lst (c2 _ _ _) (bL.iG a0 af) aj⟩
theorem zs{n:ā}(h:n<=a3):(n:Ă)<2^63:=Int.lt_of_le_of_lt (Int.ofNat_le.mpr h) (by decide)
theorem Inv.isTup{P:Params}{N:g2}{H:Heap}{os:OsState}{C:aY}{J:St}{s:Mt}(I:Inv P N H os C J s){a:Addr}{Vs:Array Zr}{n:ā}(e:C a=.a5 (ed Vs n)):IsTup s.heap a Vs:=⟨_,I.a5 a _ e,rfl,n,rfl⟩
theorem Inv.isList{P:Params}{N:g2}{H:Heap}{os:OsState}{C:aY}{J:St}{s:Mt}(I:Inv P N H os C J s){a:Addr}{Vs:Array Zr}{n:ā}(e:C a=.a5 (cu Vs n)):s.heap.IsList a Vs:=⟨_,I.a5 a _ e,rfl,n,rfl⟩
theorem bD.isEmpty{P:Params}{C:aY}{l:HO B}{Vs:HO Zr}(h:bD P C l Vs):(!Vs.toArray.isEmpty)= !l.isEmpty:=bD.ind (M:=λl Vs=>(!Vs.toArray.isEmpty)= !l.isEmpty) rfl (λ_ _ _=>rfl) h
theorem yQ{v:B}{V:Zr}{f:ZI->Prop}{O:Zr->Mt->Prop}{s:Mt}{C:aY}{J:St}{Q:ZI->Mt->Prop}(I:c.I C J s)(af:bA c.P C v V)(e:ay (je v) f)(h:∀b t,f b->Q b {s with toks:=t}):wpAny c.M A (truthy V) Q O s:=by
 induction v using B.casesOn with
 |none=>cases af.of;exact PyProof.Rows.truthy_none<|h _ s.toks e
 |bool b=>cases af.of;exact rK<|h _ s.toks e
 |int i=>
  obtain⟨t,rfl⟩:=af.of;refine PySem.P.truthy_int ?_;have:=h _ s.toks e;by_cases q:i=0
  .subst q;simpa using this
  .rw[show(i !=0)=true by simpa using q];rw[show decide (i≠0)=true by simpa using q]at this;exact this
 |str l=>obtain⟨t,rfl,aj⟩:=af.of;refine PySem.P.truthy_str (by show¬((Str.length ⟨l.toArray⟩:Ă)>=2^63);unfold Str.length;rw[eG];exact Int.not_le.mpr<|zs aj) ?_;have:=h _ (s.toks+1+1) e;rw[show(((Str.length ⟨l.toArray⟩:ā):Ă) !=0)= !l.isEmpty by unfold Str.length;rw[eG];induction l<;>simp<;>lia];exact this
 |tup l=>obtain⟨a,Vs,n,rfl,ag,a8,c0⟩:=af.of;refine PyProof.Rows.truthy_tuple (I.isTup ag) (by rw[eG,a8.length];exact zs c0) ?_;rw[a8.isEmpty];exact h _ (s.toks+1+1) e
 |lst l=>obtain⟨a,Vs,n,rfl,ag,a8,c0⟩:=af.of;refine wpAny_truthy_list (I.isList ag) (by rw[eG,a8.length];exact zs c0) ?_;rw[a8.isEmpty];exact h _ (s.toks+1+1) e
 |_=>exact e.elim
def vT(w:dk):he:=λr J K=>w r J λv J=>ay (je v) λb=>K b J
def wM:Ā->ZI
 |.UnaryOp .Not _ _|.BoolOp _ _ _|.IfExp _ _ _ _|.Compare _ _ _ _=>false
 |_=>true
theorem LG{e:Ā}{ac:Env}{zl:Sem Zr}(h:wM e=true):isTrue e ac zl=(do let v<-zl;standAt e.pos;holding [v]<|truthy v):=by
 refine qY (b:= !wM e) ?_ (by rw[h];rfl);induction e using PySem.Expr.casesOn with
 |UnaryOp gg _ _=>induction gg<;>first|rfl|trivial
 |_=>first|rfl|trivial
theorem Mj{e:Ā}{w:dk}(ae:wM e=true)(g:Good c A e w):j' c A e (vT w):=λO s ac C r J k K Q I F ag h=>wpAny_isTrue_value (g.use I F ag λv da e V bM bs a0 bU bo af=>yQ a0 af e λb t e=>h _ _ e bM _ (a0.toks t)<|bo.trans<|br.toks bM bs t)<|LG ae
theorem Nt{e:Ā}{pos:Pos}{w:he}(g:j' c A e w):j' c A (.UnaryOp .Not e pos) λr J K=>w r J λb=>K !b:=λO s ac C r J k K Q I F ag h=>wpAny_isTrue_Not<|g.use I F ag λb da e bM bs a0 bU bo=>h _ _ e bM bs a0 bo
theorem Mk{e:Ā}{pos:Pos}{w:dk}(g:Good c A e w):Good c A (.UnaryOp .Not e pos) λr J K=>w r J (FE K):=λO s ac C r J k K Q I F ag h=>wpAny_UnaryOp<|g.use I F ag λx da e V bM bs a0 bU bo af=>not_value<|yQ a0 af e λb t e=>h _ _ e _ bM _ (a0.toks t) (bo.trans<|br.toks bM bs t)<|.bool _
theorem NS{t b o:Ā}{pos:Pos}{pJ:he}{ku e3:dk}(gt:j' c A t pJ)(lr:Good c A b ku)(go:Good c A o e3):Good c A (.IfExp t b o pos) λr J K=>pJ r J λq J=>kN (ku r J K) (e3 r J K) q:=by
 intro O s ac C r J k K Q I F ag h;refine wpAny_IfExp<|gt.use I F ag λq da e bM bs a0 bU bo=>?_;induction q with
 |true=>exact lr.use a0 bU e λv d3 e V co b9 cb ee bL af=>h v d3 e V co b9 cb (bo.trans bL) af
 |false=>exact go.use a0 bU e λv d3 e V co b9 cb ee bL af=>h v d3 e V co b9 cb (bo.trans bL) af
theorem Lx{t b o:Ā}{pos:Pos}{pJ ku e3:he}(gt:j' c A t pJ)(lr:j' c A b ku)(go:j' c A o e3):j' c A (.IfExp t b o pos) λr J K=>pJ r J λq J=>kN (ku r J K) (e3 r J K) q:=by
 intro O s ac C r J k K Q I F ag h;show wpAny c.M A (isTrue (.IfExp t b o pos) ac _) Q O s;rw[arm_isTrue_IfExp];refine bd<|gt.use I F ag λq da e bM bs a0 bU bo=>?_;induction q with
 |true=>exact lr.use a0 bU e λb d3 e co b9 cb ee bL=>h b d3 e co b9 cb<|bo.trans bL
 |false=>exact go.use a0 bU e λb d3 e co b9 cb ee bL=>h b d3 e co b9 cb<|bo.trans bL
set_option tactic.hygienic false
theorem N6{o:h0}{J:St}{x y:B}(am:o≠.isin/\o≠.fV):hC o J x y=cmp o x y:=by induction o using h0.casesOn<;>first|rfl|exact absurd rfl am.1|exact absurd rfl am.2
inductive gm (P:Params) (C:aY) (h:Heap):B->Value->Prop where
 |val {v:B} {V:Value}:bA P C v V->gm P C h v V
 |lst {l:List B} {a:Addr} {Vs:List Value} {n i:Nat}:C a=.own i->h.get? a=some (cu Vs.toArray n)->bD P C l Vs->l.length<=a3->gm P C h (.lst l) (.ref a)
 |bb {l:List (B×B)} {a:Addr} {es:List DictEntry} {n i:Nat}:C a=.own i->h.get? a=some (el es.toArray n)->d9 P C l es->l.length<=a3->(l.map Prod.fst).Nodup->gm P C h (.bb l) (.ref a)
def BN(P:Params)(C:aY)(h:Heap)(v:B)(V:Zr):Prop:=match v with
 |.lst l=>dJ λa Vs n=>hZ (V=.ref a) ((C a=.a5 (cu Vs.toArray n))\/((∃i,C a=.own i)/\h.get? a=some (cu Vs.toArray n))) (bD P C l Vs)<|l.length<=a3
 |.bb l=>dJ λa es n=>qi (V=.ref a) ((C a=.a5 (el es.toArray n)/\(a==sysModules)=false)\/((∃i,C a=.own i)/\h.get? a=some (el es.toArray n))) (d9 P C l es) (l.length<=a3) (l.map Prod.fst).Nodup
 |v=>BY P C v V
theorem gm.of{P:Params}{C:aY}{h:Heap}{v:B}{V:Zr}(x:gm P C h v V):BN P C h v V:=gm.casesOn (motive:=λv V _=>BN P C h v V) x (λx=>bA.casesOn (motive_1:=λv V _=>BN P C h v V) x rfl (λ_=>rfl) (λ_ t=>⟨t,rfl⟩) (λ_ t c=>⟨t,rfl,c⟩) (λa b c=>⟨_,_,_,rfl,a,b,c⟩) (λa b c=>⟨_,_,_,rfl,.inl a,b,c⟩) (λa b c d e=>⟨_,_,_,rfl,.inl ⟨a,e⟩,b,c,d⟩) (λa=>⟨_,rfl,a⟩)<|λa b c d=>⟨_,_,_,_,rfl,a,b,c,d⟩) (λa b d e=>⟨_,_,_,rfl,.inr ⟨⟨_,a⟩,b⟩,d,e⟩)<|λa b d e f=>⟨_,_,_,rfl,.inr ⟨⟨_,a⟩,b⟩,d,e,f⟩
theorem gm.ext{c:cc}{C aO:aY}{s ar:Mt}{J:St}{v:B}{V:Zr}(I:c.I C J s)(x:br C s aO ar):gm c.P C s.heap v V->gm c.P aO ar.heap v V
 |.val h=>.val<|x.hh I h
 |.lst a b d e=>let⟨ag,a8⟩:=x.kept _ _ b (by rw[a];trivial);.lst (a8.trans a) ag (x.iG I d) e
 |.bb a b d e f=>let⟨ag,a8⟩:=x.kept _ _ b (by rw[a];trivial);.bb (a8.trans a) ag (d.mono (x.zero.oG I) x.st) e f
def Pl(c:cc)(C:aY)(s:Mt)(Q:Zr->Mt->Prop)(v:B)(bG:St):Prop:=∀V aO ar,c.I aO bG ar->br C s aO ar->gm c.P aO ar.heap v V->Q V ar
def ll(c:cc)(A:Around)(e:Ā)(w:dk):Prop:=∀O s ac C r J k (K:B->St->Prop) (Q:Zr->Mt->Prop),c.I C J s->c.F C ac r s.heap k->w r J K->(∀v bG,K v bG->Pl c C s Q v bG)->wpAny c.M A (eval e ac) Q O s
def za(bJ:a2)(w:dk):dk:=λr J K=>pY (peek r bJ) J (w r J) K
theorem ll.use{e:Ā}{w:dk}(g:ll c A e w){O:Zr->Mt->Prop}{s:Mt}{ac:Env}{C:aY}{r:aJ}{J:St}{k:ā}{K:B->St->Prop}{Q:Zr->Mt->Prop}(I:c.I C J s)(F:c.F C ac r s.heap k)(ag:w r J K)(h:∀v bG,K v bG->∀V aO ar,c.I aO bG ar->c.F aO ac r ar.heap k->br C s aO ar->gm c.P aO ar.heap v V->Q V ar):wpAny c.M A (eval e ac) Q O s:=g O s ac C r J k K Q I F ag λv bG e V aO ar dm x af=>h v bG e V aO ar dm (F.ext I x) x af
theorem Nb{e:Ā}{bJ:a2}{w:dk}(g:Good c A e w)(h:∀r,peek r bJ=none):ll c A e (za bJ w):=by intro O s ac C r J k K Q I F ag a';unfold za at ag;rw[h]at ag;exact g.use I F ag λv bG e V aO ar dm g7 x af=>a' v bG e V aO ar dm x<|.val af
theorem SD{x:Str}{i:ā}{pos:Pos}(aB:c.ns.lookup x=some i)(bg:(x==("__debug__":Str))=false)(am:(x==("__classdict__":Str))=false):ll c A (.Name x pos) (za (.v i) λr J K=>lO (pQ r i) K J):=by
 intro O s ac C r J k K Q I F ag a';replace ag:pY (match r[i]? with|some (.val v)=>some v|some (.ol l)=>some (.lst l)|some (.od l)=>some (.bb l)|_=>none) J (lO (match r[i]? with|some (.val v)=>some v|_=>none) · J) K:=ag;have aK:=F.bE.slots x i;generalize r[i]?=o at ag aK;induction o with
 |none=>exact False.elim ag
 |some aL=>
  have aK:=(aK aL aB rfl).of;induction aL with
  |un=>exact False.elim ag
  |val v=>obtain⟨V,-,a,b⟩:=aK;exact wpAny_Name (rp F.bE.kind a am<|a' _ _ ag _ C s I (br.refl C s)<|.val b) bg
  |ol l=>obtain⟨a,Vs,n,b0,bt,dN,gT,kX⟩:=aK;exact wpAny_Name (rp F.bE.kind b0 am<|a' _ _ ag _ C s I (br.refl C s)<|.lst bt dN gT kX) bg
  |od l=>obtain⟨a,es,n,b0,bt,dN,gT,kX,yE⟩:=aK;exact wpAny_Name (rp F.bE.kind b0 am<|a' _ _ ag _ C s I (br.refl C s)<|.bb bt dN gT kX yE) bg
set_option backward.match.sparseCases true in
theorem Iw{pos:Pos}{gg:BoolOp}{x y:Sem Zr}{a_:HO (Sem Zr)}:boolOp pos gg (x::y::a_)=(do let v<-x;standAt pos;let t<-holding [v] (truthy v);match gg,t with|.And,false|.Or,true=>pure v|_,_=>boolOp pos gg<|y::a_):=rfl
theorem V1{e:Ā}{pos:Pos}{w:dk}(g:Good c A e w):kp c A (λac=>boolOp pos .And<|evalEach [e] ac) w:=g
theorem Y0{e:Ā}{pos:Pos}{w:dk}(g:Good c A e w):kp c A (λac=>boolOp pos .Or<|evalEach [e] ac) w:=g
section
variable{e y:Ā}{a_:HO Ā}{pos:Pos}{w kg:dk}(g:Good c A e w)
include g
theorem Rg(bf:kp c A (λac=>boolOp pos .And<|evalEach (y::a_) ac) kg):kp c A (λac=>boolOp pos .And<|evalEach (e::y::a_) ac) λr J K=>w r J (HU kg r K):=by
 intro O s ac C r J k K Q I F ag h;show wpAny c.M A (boolOp pos .And<|eval e ac::eval y ac::evalEach a_ ac) Q O s;rw[Iw];refine bd<|g.use I F ag λv da e V bM bs a0 bU bo af=>bd<|p7<|bd<|gQ<|yQ a0 af e λb t e=>?_;have bL:=bo.trans<|br.toks bM bs t;cases b with
 |false=>exact b3<|h _ _ e _ bM _ (a0.toks t) bL af
 |true=>exact bf.use (a0.toks t) (bU.ext a0<|br.toks bM bs t) e λv d3 e W co b9 cb ee fu bF=>h v d3 e W co b9 cb (bL.trans fu) bF
theorem Uq(bf:kp c A (λac=>boolOp pos .Or<|evalEach (y::a_) ac) kg):kp c A (λac=>boolOp pos .Or<|evalEach (e::y::a_) ac) λr J K=>w r J (JO kg r K):=by
 intro O s ac C r J k K Q I F ag h;show wpAny c.M A (boolOp pos .Or<|eval e ac::eval y ac::evalEach a_ ac) Q O s;rw[Iw];refine bd<|g.use I F ag λv da e V bM bs a0 bU bo af=>bd<|p7<|bd<|gQ<|yQ a0 af e λb t e=>?_;have bL:=bo.trans<|br.toks bM bs t;cases b with
 |true=>exact b3<|h _ _ e _ bM _ (a0.toks t) bL af
 |false=>exact bf.use (a0.toks t) (bU.ext a0<|br.toks bM bs t) e λv d3 e W co b9 cb ee fu bF=>h v d3 e W co b9 cb (bL.trans fu) bF
end
theorem Hm{gg:BoolOp}{es:HO Ā}{pos:Pos}{w:dk}(g:kp c A (λac=>boolOp pos gg<|evalEach es ac) w):Good c A (.BoolOp gg es pos) w:=g
abbrev pm(c:cc)(A:Around)(gg:BoolOp)(es:HO Ā)(w:he):Prop:=qm c A (allTrue gg es) w
theorem NY:pm c A .And [] λ_ J K=>K true J:=λO s ac C r J k K Q I F ag h=>wpAny_allTrue_And_nil<|h _ _ ag C s I<|br.refl C s
theorem YQ:pm c A .Or [] λ_ J K=>K false J:=λO s ac C r J k K Q I F ag h=>wpAny_allTrue_Or_nil<|h _ _ ag C s I<|br.refl C s
section
variable{e:Ā}{a_:HO Ā}{w kg:he}(g:j' c A e w)
include g
theorem Rs(bf:pm c A .And a_ kg):pm c A .And (e::a_) λr J K=>w r J λb J=>kN (kg r J K) (K false J) b:=by
 intro O s ac C r J k K Q I F ag h;refine wpAny_allTrue_And_cons<|g.use I F ag λb da e bM bs a0 bU bo=>?_;cases b with
 |true=>exact bf.use a0 bU e λb d3 e co b9 cb ee bL=>h b d3 e co b9 cb<|bo.trans bL
 |false=>exact h _ _ e bM bs a0 bo
theorem Ye(bf:pm c A .Or a_ kg):pm c A .Or (e::a_) λr J K=>w r J λb J=>kN (K true J) (kg r J K) b:=by
 intro O s ac C r J k K Q I F ag h;refine wpAny_allTrue_Or_cons<|g.use I F ag λb da e bM bs a0 bU bo=>?_;cases b with
 |true=>exact h _ _ e bM bs a0 bo
 |false=>exact bf.use a0 bU e λb d3 e co b9 cb ee bL=>h b d3 e co b9 cb<|bo.trans bL
end
theorem HB{gg:BoolOp}{es:HO Ā}{pos:Pos}{w:he}(g:pm c A gg es w):j' c A (.BoolOp gg es pos) w:=by intro O s ac C r J k K Q I F ag h;show wpAny c.M A (isTrue (.BoolOp gg es pos) ac _) Q O s;rw[arm_isTrue_BoolOp];exact g.use I F ag λb da e bM bs a0 bU bo=>h b da e bM bs a0 bo
def lh:h0->CmpOp
 |.eq=>.Eq|.ne=>.NotEq|.lt=>.Lt|.le=>.LtE|.gt=>.Gt|.ge=>.GtE|.isin=>.In|.fV=>.NotIn|.is=>.Is|.oP=>.IsNot
def k'(c:cc)(A:Around)(o:h0):Prop:=∀O s C J x y V W t (Q:Zr->Mt->Prop),c.I C J s->bA c.P C x V->gm c.P C s.heap y W->hC o J x y=some t->(∀k,Q (.bool t) {s with toks:=k})->wpAny c.M A (compareOp (lh o) V W) Q O s
section
variable{l e:Ā}{o:h0}{pos:Pos}{eb fc:dk}(gl:Good c A l eb)(az:k' c A o)
include gl az
theorem XB(ge:ll c A e fc)(aN:behindInMarks (lh o) e=false):Good c A (.Compare l [lh o] [e] pos) λr J K=>eb r J λx J=>fc r J (An o x K):=by intro O s ac C r J k K Q I F ag h;exact wpAny_Compare1 (gl.use I F ag λx da e V bM bs a0 bU bo af=>ge.use a0 bU e λy d3 e W co b9 cb ee bL bF=>ay.dw e λb fC e=>az _ _ co _ x y V W b _ cb (bL.hh a0 af) bF fC λt=>h _ _ e _ co _ (cb.toks t) ((bo.trans bL).trans<|br.toks co b9 t)<|.bool b) aN
theorem P2(ge:ll c A e fc)(aN:behindInMarks (lh o) e=false):j' c A (.Compare l [lh o] [e] pos) λr J K=>eb r J λx J=>fc r J λy J=>ay (hC o J x y) λb=>K b J:=by intro O s ac C r J k K Q I F ag h;exact wpAny_isTrue_Compare1 (gl.use I F ag λx da e V bM bs a0 bU bo af=>ge.use a0 bU e λy d3 e W co b9 cb ee bL bF=>ay.dw e λb fC e=>az _ _ co _ x y V W _ _ cb (bL.hh a0 af) bF fC λt=>rK<|h _ _ e co _ (cb.toks t)<|(bo.trans bL).trans<|br.toks co b9 t) aN
theorem S3{bz:Ā}{cw:h0}{Hu:dk}(ge:Good c A e fc)(PP:ll c A bz Hu)(g_:k' c A cw)(am:o≠.isin/\o≠.fV)(aN:lastMarks [lh o,lh cw] [e,bz]=false):Good c A (.Compare l [lh o,lh cw] [e,bz] pos) λr J K=>eb r J λx J=>fc r J λy J=>bj (cmp o x y) (Hu r J<|An cw y K) (K (.bool false) J):=by
 intro O s ac C r J k K Q I F ag h;refine Compare_chain (gl.use I F ag λx da e V bM bs a0 bU bo af=>chain_link<|ge.use a0 bU e λy d3 e W co b9 cb ee bL bF=>ay.dw e λt fC e=>?_) aN;have QK:hC o d3 x y=some t:=(N6 am).trans fC;refine az _ _ co _ x y V W t _ cb (bL.hh a0 af) (.val bF) QK λcM=>rK ?_;have fM:=cb.toks cM;have kI:=(bo.trans bL).trans<|br.toks co b9 cM;induction t with
 |false=>exact h _ _ e _ co _ fM kI<|.bool false
 |true=>exact chain_last<|PP.use fM (ee.ext cb<|br.toks co b9 cM) e λz vp e Z yL iw hs mU ht hz=>ay.dw e λb Sz e=>g_ _ _ yL _ y z W Z b _ hs (ht.hh fM bF) hz Sz λt=>h _ _ e _ yL _ (hs.toks t) ((kI.trans ht).trans<|br.toks yL iw t)<|.bool b
end
def A6:kj->Operator
 |.add=>.Add|.sub=>.Sub|.mul=>.Mult|.fdiv=>.FloorDiv|.mod=>.Mod|.band=>.BitAnd
def pV(c:cc)(A:Around)(o:kj):Prop:=∀O s C J x y V W z (Q:Zr->Mt->Prop),c.I C J s->bA c.P C x V->bA c.P C y W->bin o x y=some z->y_ c C s Q z J->wpAny c.M A (binaryOp (A6 o) V W) Q O s
theorem YC{l e:Ā}{o:kj}{pos:Pos}{eb fc:dk}(gl:Good c A l eb)(ge:Good c A e fc)(az:pV c A o):Good c A (.BinOp l (A6 o) e pos) λr J K=>eb r J (hv fc r<|IX o K):=by intro O s ac C r J k K Q I F ag h;exact wpAny_BinOp<|gl.use I F ag λx da e V bM bs a0 bU bo af=>ge.use a0 bU e λy d3 e W co b9 cb ee bL bF=>ay.dw e λz fC e=>az _ _ co _ x y V W _ _ cb (bL.hh a0 af) bF fC λZ kr f6 fM fu hz=>h _ _ e Z kr f6 fM ((bo.trans bL).trans fu) hz
def bR (v:B):ZI:=Nat.ble 6 v.ctorIdx
mutual
inductive ck (h:Heap):B->Value->Prop where
 |none:ck h .none .none
 |bool (b:Bool):ck h (.bool b) (.bool b)
 |int (i:Int) (t:Tok):ck h (.int i) (.int i t)
 |str (l:List Nat) (t:Tok):ck h (.str l) (.str ⟨l.toArray⟩ t)
 |tup {l:List B} {a:Addr} {Vs:List Value} {n:Nat}:h.get? a=some (ed Vs.toArray n)->d8 h l Vs->ck h (.tup l) (.ref a)
 |lst {l:List B} {a:Addr} {Vs:List Value} {n:Nat}:h.get? a=some (cu Vs.toArray n)->d8 h l Vs->ck h (.lst l) (.ref a)
 |uZ {v:B} {V:Value}:bR v=true->ck h v V
inductive d8 (h:Heap):List B->List Value->Prop where
 |nil:d8 h [] []
 |cons {v:B} {V:Value} {l:List B} {Vs:List Value}:ck h v V->d8 h l Vs->d8 h (v::l) (V::Vs)
end
section
variable{P:Params}{N:g2}{H:Heap}{os:OsState}{C:aY}{J:St}{s:Mt}
theorem bA.af(I:Inv P N H os C J s){v:B}{V:Zr}(h:bA P C v V):ck s.heap v V:=bA.rec (motive_1:=λv V _=>ck s.heap v V) (motive_2:=λl Vs _=>d8 s.heap l Vs) (motive_3:=λ_ _ _=>True) .none .bool .int (λl t _=>.str l t) (λe _ _ r=>.tup (I.a5 _ _ e) r) (λe _ _ r=>.lst (I.a5 _ _ e) r) (λ_ _ _ _ _ _=>.uZ rfl) (λ_=>.uZ rfl) (λ_ _ _ _=>.uZ rfl) .nil (λ_ _ a r=>.cons a r) trivial (λ_ _ _ _ _ _=>trivial) h
theorem bD.af(I:Inv P N H os C J s){l:HO B}{Vs:HO Zr}(h:bD P C l Vs):d8 s.heap l Vs:=bD.ind (M:=d8 s.heap) .nil (λa _ m=>.cons (a.af I) m) h
theorem gm.af(I:Inv P N H os C J s){v:B}{V:Zr}(h:gm P C s.heap v V):ck s.heap v V:=by
 induction h with
 |val h=>exact h.af I
 |lst _ b d _=>exact .lst b<|d.af I
 |bb=>exact .uZ rfl
end
def D8(h:Heap)(v:B)(V:Zr):Prop:=match v with
 |.none=>V=.none
 |.bool b=>V=.bool b
 |.int i=>∃t,V=.int i t
 |.str l=>∃t,V=.str ⟨l.toArray⟩ t
 |.tup l=>dJ λa Vs n=>dD (V=.ref a) (h.get? a=some (ed Vs.toArray n))<|d8 h l Vs
 |.lst l=>dJ λa Vs n=>dD (V=.ref a) (h.get? a=some (cu Vs.toArray n))<|d8 h l Vs
 |_=>True
theorem ck.of{h:Heap}{v:B}{V:Zr}(x:ck h v V):D8 h v V:=ck.casesOn (motive_1:=λv V _=>D8 h v V) x rfl (λ_=>rfl) (λ_ t=>⟨t,rfl⟩) (λ_ t=>⟨t,rfl⟩) (λa b=>⟨_,_,_,rfl,a,b⟩) (λa b=>⟨_,_,_,rfl,a,b⟩) λ{v V} q=>by induction v using B.casesOn<;>first|trivial|exact cH q
theorem yq{g:HO B->HO B->Z5 ZI}{x y:B}{b:ZI}(e:mf g x y=some b):bR x=false:=by induction x using B.casesOn<;>first|rfl|exact bY e
theorem QB{g:HO B->HO B->Z5 ZI}(x y:B):cond (bR y) (mf g x y=none) True:=by induction y using B.casesOn<;>first|trivial|(induction x using B.casesOn<;>rfl)
theorem Y5{g:HO B->HO B->Z5 ZI}{x y:B}{b:ZI}(e:mf g x y=some b):bR y=false:=by
 have h:=QB (g:=g) x y;rw[e]at h;generalize bR y=n at h⊢;induction n with
 |false=>rfl
 |true=>exact lj h
theorem Qj{h:Heap}{a:Addr}{Vs bC:HO Zr}{n m:ā}(g:h.get? a=some (ed Vs.toArray n))(dY:h.get? a=some (ed bC.toArray m)):Vs=bC:=by exact bI (λo:Obj=>match o.data with|.seq a _=>a.toList|_=>[])<|(cT<|g.symm.trans dY)
theorem Yp{h:Heap}{a:Addr}{Vs bC:HO Zr}{n m:ā}(g:h.get? a=some (cu Vs.toArray n))(dY:h.get? a=some (cu bC.toArray m)):Vs=bC:=by exact bI (λo:Obj=>match o.data with|.seq a _=>a.toList|_=>[])<|(cT<|g.symm.trans dY)
theorem Ky{h:Heap}{a:Addr}{Vs bC:Array Zr}{n m:ā}(g:h.get? a=some (cu Vs n))(dY:h.get? a=some (ed bC m)):False:=by exact absurd (show Value.type "list"=Value.type "tuple"from(bI Obj.cls<|cT<|g.symm.trans dY)) (by decide)
section
variable{h:Heap}{x:B}
def Jh(h:Heap)(x:B)(V:Zr):Prop:=match V with
 |.none=>x=.none
 |.bool b=>x=.bool b
 |.int i _=>x=.int i
 |.str s _=>x=.str s.cps.toList
 |.float _ _=>False
 |.ref a=>(dJ λl Vs k=>dD (x=.tup l) (h.get? a=some (ed Vs.toArray k))<|d8 h l Vs)\/dJ λl Vs k=>dD (x=.lst l) (h.get? a=some (cu Vs.toArray k))<|d8 h l Vs
 |_=>True
theorem ck.pj{V:Zr}(v:ck h x V)(n:bR x=false):Jh h x V:=ck.casesOn (motive_1:=λx V _=>bR x=false->Jh h x V) v (λ_=>rfl) (λ_ _=>rfl) (λ_ _ _=>rfl) (λ_ _ _=>rfl) (λg r _=>.inl ⟨_,_,_,rfl,g,r⟩) (λg r _=>.inr ⟨_,_,_,rfl,g,r⟩) (λq n=>cH<|n.symm.trans q) n
theorem ck.Fg(v:ck h x .none)(n:bR x=false):x=.none:=v.pj n
theorem ck.IP{b:ZI}(v:ck h x (.bool b))(n:bR x=false):x=.bool b:=v.pj n
theorem ck.B6{i:Ă}{t:Tok}(v:ck h x (.int i t))(n:bR x=false):x=.int i:=v.pj n
theorem ck.Dn{l:HO ā}{t:Tok}(v:ck h x (.str ⟨l.toArray⟩ t))(n:bR x=false):x=.str l:=v.pj n
theorem ck.Mc{f:UInt64}{t:Tok}(v:ck h x (.float f t))(n:bR x=false):False:=v.pj n
theorem ck.HD{a:Addr}(v:ck h x (.ref a))(n:bR x=false):(dJ λl Vs k=>dD (x=.tup l) (h.get? a=some (ed Vs.toArray k))<|d8 h l Vs)\/dJ λl Vs k=>dD (x=.lst l) (h.get? a=some (cu Vs.toArray k)) (d8 h l Vs):=v.pj n
theorem ck.AQ{a:Addr}{Vs:HO Zr}{k:ā}(v:ck h x (.ref a))(g:h.get? a=some (ed Vs.toArray k))(n:bR x=false):∃l,x=.tup l/\d8 h l Vs:=by
 rcases v.HD n with⟨l,bC,m,rfl,dY,r⟩|⟨l,bC,m,rfl,dY,r⟩
 .induction Qj g dY;exact⟨l,rfl,r⟩
 .exact(Ky dY g).elim
theorem ck.GJ{a:Addr}{Vs:HO Zr}{k:ā}(v:ck h x (.ref a))(g:h.get? a=some (cu Vs.toArray k))(n:bR x=false):∃l,x=.lst l/\d8 h l Vs:=by
 rcases v.HD n with⟨l,bC,m,rfl,dY,r⟩|⟨l,bC,m,rfl,dY,r⟩
 .exact(Ky g dY).elim
 .induction Yp g dY;exact⟨l,rfl,r⟩
end
def H8(h:Heap)(l:HO B)(Vs:HO Zr):Prop:=match Vs with
 |[]=>l=[]
 |V::Vs=>dW λv m=>dD (l=v::m) (ck h v V)<|d8 h m Vs
theorem d8.pj{h:Heap}{l:HO B}{Vs:HO Zr}(r:d8 h l Vs):H8 h l Vs:=d8.casesOn (motive_2:=λl Vs _=>H8 h l Vs) r rfl λa r=>⟨_,_,rfl,a,r⟩
theorem d8.oK{h:Heap}{l:HO B}(r:d8 h l []):l=[]:=r.pj
theorem d8.k8{h:Heap}{l:HO B}{V:Zr}{Vs:HO Zr}(r:d8 h l (V::Vs)):dW λv m=>dD (l=v::m) (ck h v V) (d8 h m Vs):=r.pj
theorem ux{f:B->B->Z5 ZI}{x y:B}{l m:HO B}{b:ZI}(e:jY f (x::l) (y::m)=some b):dW λt u=>dD (f x y=some t) (jY f l m=some u) (b=(t&&u)):=by obtain⟨t,ag,a8⟩:=bind_some<|show(f x y).bind _=some b from e;obtain⟨u,c0,c9⟩:=map_some a8;clear a8;exact⟨t,u,ag,c0,c9.symm⟩
theorem Ru{f:B->B->Z5 ZI}{h:Heap}(ap:∀x y V b,ck h x V->ck h y V->f x y=some b->b=true):∀{Vs:HO Zr} {l m:HO B} {b:ZI},d8 h l Vs->d8 h m Vs->jY f l m=some b->b=true:=by
 intro Vs;induction Vs with
 |nil=>intro l m b r b2 e;rw[r.oK,b2.oK]at e;exact(cT e).symm
 |cons V Vs uD=>intro l m b r b2 e;obtain⟨v,l,rfl,a,hr⟩:=r.k8;obtain⟨w,m,rfl,hg,ki⟩:=b2.k8;obtain⟨t,u,ag,a8,c0⟩:=ux e;clear e;rw[c0,ap _ _ _ _ a hg ag,uD hr ki a8];rfl
theorem Js{h:Heap}{g:HO B->HO B->Z5 ZI}(ap:∀{Vs:HO Zr} {l m:HO B} {b:ZI},d8 h l Vs->d8 h m Vs->g l m=some b->b=true){x y:B}{V:Zr}{b:ZI}(aA:ck h x V)(a1:ck h y V)(e:mf g x y=some b):b=true:=by have n:=Y5 e;exact ck.casesOn (motive_1:=λx V _=>ck h y V->mf g x y=some b->b=true) aA (λa1 e=>by rw[a1.Fg n]at e;exact(cT e).symm) (λ_ a1 e=>by rw[a1.IP n]at e;exact(cT e).symm.trans<|jL _) (λ_ _ a1 e=>by rw[a1.B6 n]at e;exact(cT e).symm.trans<|dL rfl) (λ_ _ a1 e=>by rw[a1.Dn n]at e;exact(cT e).symm.trans<|dL rfl) (λq r a1 e=>by obtain⟨l,rfl,b2⟩:=a1.AQ q n;exact ap r b2 e) (λq r a1 e=>by obtain⟨l,rfl,b2⟩:=a1.GJ q n;exact ap r b2 e) (λq _ e=>cH<|(yq e).symm.trans q) a1 e
theorem PM{h:Heap}:∀(n:ā) (x y:B) (V:Zr) (b:ZI),ck h x V->ck h y V->g0 n x y=some b->b=true:=by
 intro n;induction n with
 |zero=>exact λx y V b aA a1 e=>Js (λ_ _ e=>bY e) aA a1 e
 |succ n ap=>exact λx y V b aA a1 e=>Js (g:=jY<|g0 n) (Ru ap) aA a1 e
theorem Y4{f:B->B->Z5 ZI}{h:Heap}(ap:∀x eE y V b eD,ck h x V->ck h eE V->f x y=some b->f eE y=some eD->b=eD):∀{Vs:HO Zr} {l di m:HO B} {b eD:ZI},d8 h l Vs->d8 h di Vs->jY f l m=some b->jY f di m=some eD->b=eD:=by
 intro Vs;induction Vs with
 |nil=>intro l di m b eD r b2 e bz;rw[r.oK]at e;rw[b2.oK]at bz;exact cT<|e.symm.trans bz
 |cons V Vs uD=>
  intro l di m b eD r b2 e bz;obtain⟨v,l,rfl,a,hr⟩:=r.k8;obtain⟨oC,di,rfl,hg,ki⟩:=b2.k8;induction m with
  |nil=>exact cT<|e.symm.trans bz
  |cons y m=>obtain⟨t,u,ag,a8,c0⟩:=ux e;clear e;obtain⟨dM,h5,N8,VX,z3⟩:=ux bz;clear bz;rw[c0,z3,ap _ _ _ _ _ _ a hg ag N8,uD hr ki a8 VX]
theorem Ex{h:Heap}{g:HO B->HO B->Z5 ZI}(ap:∀{Vs:HO Zr} {l di m:HO B} {b eD:ZI},d8 h l Vs->d8 h di Vs->g l m=some b->g di m=some eD->b=eD){x eE y:B}{V:Zr}{b eD:ZI}(aA:ck h x V)(g8:ck h eE V)(e:mf g x y=some b)(bz:mf g eE y=some eD):b=eD:=by
 have n:=yq bz;exact ck.casesOn (motive_1:=λx V _=>ck h eE V->mf g x y=some b->b=eD) aA (λg8 e=>by rw[g8.Fg n]at bz;exact cT (e.symm.trans bz)) (λ_ g8 e=>by rw[g8.IP n]at bz;exact cT (e.symm.trans bz)) (λ_ _ g8 e=>by rw[g8.B6 n]at bz;exact cT (e.symm.trans bz)) (λ_ _ g8 e=>by rw[g8.Dn n]at bz;exact cT (e.symm.trans bz)) (λq r g8 e=>by
  obtain⟨l,rfl,b2⟩:=g8.AQ q n;induction y using B.casesOn with
  |tup m=>exact ap r b2 e bz
  |none=>exact cT<|e.symm.trans bz
  |int=>exact cT<|e.symm.trans bz
  |str=>exact cT<|e.symm.trans bz
  |_=>exact bY e)
  (λq r g8 e=>by
   obtain⟨l,rfl,b2⟩:=g8.GJ q n;induction y using B.casesOn with
   |lst m=>exact ap r b2 e bz
   |_=>exact bY e)
  (λq _ e=>cH<|(yq e).symm.trans q) g8 e
theorem On{h:Heap}:∀(n:ā) (x eE y:B) (V:Zr) (b eD:ZI),ck h x V->ck h eE V->g0 n x y=some b->g0 n eE y=some eD->b=eD:=by
 intro n;induction n with
 |zero=>exact λx eE y V b eD aA g8 e bz=>Ex (λ_ _ e _=>bY e) aA g8 e bz
 |succ n ap=>exact λx eE y V b eD aA g8 e bz=>Ex (g:=jY<|g0 n) (Y4 ap) aA g8 e bz
def w5 (f:B->B->Z5 ZI) (l m:HO B) (j:ā):ZI:=match l[j]? with
 |some a=>(match m[j]? with|some b=>(f a b).getD false|none=>true)
 |none=>true
theorem LN(n:ā)(f:ā->ZI):(List.range<|n+1).all f=(f 0&&(List.range n).all λj=>f<|j+1):=by rw[List.range_succ_eq_map,sU,py];rfl
theorem xQ{f:B->B->Z5 ZI}{l:HO B}:∀{m:HO B} {b:ZI},jY f l m=some b->b=((List.range<|min l.length m.length).all (w5 f l m)&&l.length==m.length):=by
 induction l with
 |nil=>intro m b e;induction m with|nil=>cases e;rfl|cons=>cases e;rfl
 |cons x l ap=>
  intro m b e;induction m with
  |nil=>cases e;rfl
  |cons y m=>obtain⟨t,u,ag,c0,rfl⟩:=ux e;rw[ap c0,nA,nA,Nat.add_min_add_right,LN,show w5 f (x::l) (y::m) 0=t from(bI (Option.getD · false) ag:_),Bool.and_assoc,show(l.length+1==m.length+1)=(l.length==m.length)by simp];rfl
theorem Mo{f:B->B->Z5 ZI}{l:HO B}:∀{m:HO B} {b:ZI},jY f l m=some b->∀{j:ā} {x y:B},l[j]?=some x->m[j]?=some y->f x y=some (w5 f l m j):=by
 induction l with
 |nil=>intro m b e j x y h;exact bY h
 |cons x l ap=>
  intro m b e j eE EF G E;induction m with
  |nil=>exact bY E
  |cons y m=>
   obtain⟨t,u,ag,c0,_⟩:=ux e;induction j with
   |zero=>cases G;cases E;exact ag.trans<|bI (some<|Option.getD · false) ag.symm
   |succ j=>exact ap c0 (j:=j) G E
theorem d8.get{h:Heap}{Vs:HO Zr}:∀{l:HO B},d8 h l Vs->∀{j:ā} {V:Zr},Vs[j]?=some V->∃v,l[j]?=some v/\ck h v V:=by
 induction Vs with
 |nil=>intro l r j V e;exact bY e
 |cons W Vs ap=>
  intro l r j V e;obtain⟨v,m,rfl,a,hr⟩:=r.k8;induction j with
  |zero=>cases e;exact⟨v,rfl,a⟩
  |succ j=>exact ap hr (j:=j) e
theorem d8.length{h:Heap}{Vs:HO Zr}:∀{l:HO B},d8 h l Vs->Vs.length=l.length:=by
 induction Vs with
 |nil=>intro l r;cases r.oK;rfl
 |cons W Vs ap=>intro l r;obtain⟨v,m,rfl,_,hr⟩:=r.k8;exact bI Nat.succ<|ap hr
theorem gs{s:Mt}{a:Addr}{Vs:Array Zr}{n:ā}(h:s.heap.get? a=some (ed Vs n)):s.heap.IsTuple a Vs:=⟨_,h,rfl,n,rfl⟩
theorem hR{s:Mt}{a:Addr}{Vs:Array Zr}{n:ā}(h:s.heap.get? a=some (cu Vs n)):s.heap.IsList a Vs:=⟨_,h,rfl,n,rfl⟩
theorem xs{s:Mt}{A:Around}{n:ā}(ap:∀x y V W b A,ck s.heap x V->ck s.heap y W->g0 n x y=some b->A.units+n<cLine->EqAt A s V W b){l m:HO B}{Vs bC:HO Zr}{b:ZI}(aj:d8 s.heap l Vs)(aN:d8 s.heap m bC)(e:jY (g0 n) l m=some b)(a4:A.units+(n+1)<cLine):∀j (G:j<Vs.toArray.size) (E:j<bC.toArray.size),EqAt A.in1 s Vs.toArray[j] bC.toArray[j] (w5 (g0 n) l m j):=by intro j G E;obtain⟨x,ex,aA⟩:=aj.get (j:=j) (V:=Vs.toArray[j]) (by simp at G⊢);obtain⟨y,Tq,a1⟩:=aN.get (j:=j) (V:=bC.toArray[j]) (by simp at E⊢);exact ap x y _ _ _ A.in1 aA a1 (Mo e ex Tq) (by show A.units+1+n<cLine;lia)
theorem K6{a b:HO ā}:((⟨a.toArray⟩:Str)==⟨b.toArray⟩)=decide (a=b):=by rw[<-str_beq];by_cases h:a=b<;>simp[h]
theorem CF{h:Heap}{R:Zr->Zr->ZI->Prop}{g:HO B->HO B->Z5 ZI}(BP:R .none .none true)(WE:∀i t,R .none (.int i t) false)(ns:∀l t,R .none (.str l t) false)(fg:∀{a Vs n},h.get? a=some (ed Vs n)->R .none (.ref a) false)(fl:∀a b,R (.bool a) (.bool b)<|a==b)(W_:∀i t,R (.int i t) .none false)(Su:∀i t j u,R (.int i t) (.int j u)<|decide<|i=j)(is:∀i t l u,R (.int i t) (.str l u) false)(it:∀i t {a Vs n},h.get? a=some (ed Vs n)->R (.int i t) (.ref a) false)(lj:∀l t,R (.str l t) .none false)(No:∀l t i u,R (.str l t) (.int i u) false)(cQ:∀l t m u,R (.str l t) (.str m u)<|l==m)(st:∀l t {a Vs n},h.get? a=some (ed Vs n)->R (.str l t) (.ref a) false)(O8:∀{a Vs n},h.get? a=some (ed Vs n)->R (.ref a) .none false)(t9:∀i t {a Vs n},h.get? a=some (ed Vs n)->R (.ref a) (.int i t) false)(aS:∀l t {a Vs n},h.get? a=some (ed Vs n)->R (.ref a) (.str l t) false)(VT:∀{l m a c Vs bC n k b},h.get? a=some (ed Vs.toArray n)->h.get? c=some (ed bC.toArray k)->d8 h l Vs->d8 h m bC->g l m=some b->R (.ref a) (.ref c) b)(XH:∀{l m a c Vs bC n k b},h.get? a=some (cu Vs.toArray n)->h.get? c=some (cu bC.toArray k)->d8 h l Vs->d8 h m bC->g l m=some b->R (.ref a) (.ref c) b){x y:B}{V W:Zr}{b:ZI}(aA:ck h x V)(a1:ck h y W)(e:mf g x y=some b):R V W b:=by
 induction x using B.casesOn with
 |none=>
  obtain rfl:=aA.of;induction y using B.casesOn with
  |none=>obtain rfl:=a1.of;exact cT e▸BP
  |int=>obtain⟨u,rfl⟩:=a1.of;exact cT e▸WE _ _
  |str=>obtain⟨u,rfl⟩:=a1.of;exact cT e▸ns _ _
  |tup m=>obtain⟨c,bC,k,rfl,q,r⟩:=a1.of;exact cT e▸fg q
  |_=>exact bY e
 |bool=>
  obtain rfl:=aA.of;induction y using B.casesOn with
  |bool=>obtain rfl:=a1.of;exact cT e▸fl _ _
  |_=>exact bY e
 |int=>
  obtain⟨t,rfl⟩:=aA.of;cases y with
  |none=>obtain rfl:=a1.of;exact cT e▸W_ _ _
  |int=>obtain⟨u,rfl⟩:=a1.of;exact cT e▸Su _ _ _ _
  |str=>obtain⟨u,rfl⟩:=a1.of;exact cT e▸is _ _ _ _
  |tup m=>obtain⟨c,bC,k,rfl,q,r⟩:=a1.of;exact cT e▸it _ _ q
  |_=>exact bY e
 |str=>
  obtain⟨t,rfl⟩:=aA.of;cases y with
  |none=>obtain rfl:=a1.of;exact cT e▸lj _ _
  |int=>obtain⟨u,rfl⟩:=a1.of;exact cT e▸No _ _ _ _
  |str=>obtain⟨u,rfl⟩:=a1.of;exact(K6.trans<|cT e)▸cQ _ _ _ _
  |tup m=>obtain⟨c,bC,k,rfl,q,r⟩:=a1.of;exact cT e▸st _ _ q
  |_=>exact bY e
 |tup l=>
  obtain⟨a,Vs,n,rfl,q,r⟩:=aA.of;induction y using B.casesOn with
  |none=>obtain rfl:=a1.of;exact cT e▸O8 q
  |int=>obtain⟨u,rfl⟩:=a1.of;exact cT e▸t9 _ _ q
  |str=>obtain⟨u,rfl⟩:=a1.of;exact cT e▸aS _ _ q
  |tup m=>obtain⟨c,bC,k,rfl,ff,b2⟩:=a1.of;exact VT q ff r b2 e
  |_=>exact bY e
 |lst l=>
  obtain⟨a,Vs,n,rfl,q,r⟩:=aA.of;induction y using B.casesOn with
  |lst m=>obtain⟨c,bC,k,rfl,ff,b2⟩:=a1.of;exact XH q ff r b2 e
  |_=>exact bY e
 |_=>exact bY e
theorem GQ{A:Around}{s:Mt}{x y:B}{V W:Zr}{b:ZI}{n:ā}(aA:ck s.heap x V)(a1:ck s.heap y W)(e:g0 n x y=some b)(h:RcAt A s V W b):EqAt A s V W b:=λprog w O Q a'=>by
 have cr:bR x=false:=by induction n<;>exact yq e
 unfold eqBool;refine gQ<|wpAny_ite_split (λsC=>?_)<|λ_=>?_
 .have aw:b=true:=by have:=eI sC;subst this;exact PM n x y V b aA a1 e
  subst aw;exact bd<|wpAny_rule<|b3 a'
 .induction V with
  |float f t=>exact(aA.Mc cr).elim
  |_=>exact bd<|h prog w O _<|rK a'
theorem Vb{s:Mt}{A:Around}{n:ā}(a4:A.units<cLine)(ou:A.units+(n+1)<cLine)(ap:∀x y V W b A,ck s.heap x V->ck s.heap y W->g0 n x y=some b->A.units+n<cLine->EqAt A s V W b):∀{x y:B} {V W:Zr} {b:ZI},ck s.heap x V->ck s.heap y W->g0 (n+1) x y=some b->RcAt A s V W b:=CF RcAt.none_none RcAt.none_int RcAt.none_str (λq=>RcAt.none_tuple (gs q) a4) RcAt.bool_bool RcAt.int_none RcAt.int_int RcAt.int_str (λ_ _ {_ _ _} q=>RcAt.int_tuple _ _ (gs q) a4) RcAt.str_none RcAt.str_int RcAt.str_str (λ_ _ {_ _ _} q=>RcAt.str_tuple _ _ (gs q) a4) (λq=>RcAt.tuple_none (gs q) a4) (λ_ _ {_ _ _} q=>RcAt.tuple_int _ _ (gs q) a4) (λ_ _ {_ _ _} q=>RcAt.tuple_str _ _ (gs q) a4) (λg dY r b2 e=>by have:=RcAt.tuples (gs g) (gs dY) a4 (xs (A:=A) ap r b2 e ou);rw[xQ e];simpa only[eG,r.length,b2.length]using this) (λ{l m _ _ _ _ _ _ _} g dY r b2 e=>by
 rw[xQ e];have mn:=r.length;have oq:=b2.length;by_cases aK:l.length=m.length
 .have:=RcAt.lists (hR g) (hR dY) (by simpa using mn.trans (aK.trans oq.symm)) a4<|xs (A:=A) ap r b2 e ou;rw[eG,mn]at this;rw[<-aK,Nat.min_self];simpa using this
 .have:=RcAt.lists_lengths (hR g) (hR dY) (by simp only[eG,bne_iff_ne,ne_eq];rw[mn,oq];exact aK) a4;rw[show(l.length==m.length)=false from lK.mpr aK,sw];exact this)
theorem Et{s:Mt}:∀(n:ā) (x y:B) (V W:Zr) (b:ZI) (A:Around),ck s.heap x V->ck s.heap y W->g0 n x y=some b->A.units+n<cLine->RcAt A s V W b:=by
 intro n;induction n with
 |zero=>intro x y V W b A aA a1 e a4;exact CF RcAt.none_none RcAt.none_int RcAt.none_str (λq=>RcAt.none_tuple (gs q) a4) RcAt.bool_bool RcAt.int_none RcAt.int_int RcAt.int_str (λ_ _ {_ _ _} q=>RcAt.int_tuple _ _ (gs q) a4) RcAt.str_none RcAt.str_int RcAt.str_str (λ_ _ {_ _ _} q=>RcAt.str_tuple _ _ (gs q) a4) (λq=>RcAt.tuple_none (gs q) a4) (λ_ _ {_ _ _} q=>RcAt.tuple_int _ _ (gs q) a4) (λ_ _ {_ _ _} q=>RcAt.tuple_str _ _ (gs q) a4) (λ_ _ _ _ e=>bY e) (λ_ _ _ _ e=>bY e) aA a1 e
 |succ n ap=>exact λx y V W b A aA a1 e a4=>Vb (hI (nz _ _) a4) a4 (λx y V W b A aA a1 e a4=>GQ aA a1 e<|ap x y V W b A aA a1 e a4) aA a1 e
theorem z'{s:Mt}{n:ā}{x y:B}{V W:Zr}{b:ZI}{A:Around}(aA:ck s.heap x V)(a1:ck s.heap y W)(e:g0 n x y=some b)(a4:A.units+n<cLine):EqAt A s V W b:=GQ aA a1 e<|Et n x y V W b A aA a1 e a4
theorem RZ{s:Mt}{n:ā}{x y:B}{V W:Zr}{b:ZI}{A:Around}(aA:ck s.heap x V)(a1:ck s.heap y W)(e:g0 (n+1) x y=some b)(ou:A.units+(n+1)<cLine):RcNeAt A s V W !b:=by
 have a4:A.units<cLine:=hI (nz _ _) ou;have ap:∀(x y:B) (V W:Zr) (b:ZI) (A:Around),ck s.heap x V->ck s.heap y W->g0 n x y=some b->A.units+n<cLine->EqAt A s V W b:=λx y V W b A aA a1 e a4=>z' aA a1 e a4;exact CF (R:=λV W b=>RcNeAt A s V W !b) RcNeAt.none_none RcNeAt.none_int RcNeAt.none_str (λq=>RcNeAt.none_tuple (gs q) a4) RcNeAt.bool_bool RcNeAt.int_none RcNeAt.int_int RcNeAt.int_str (λ_ _ {_ _ _} q=>RcNeAt.int_tuple _ _ (gs q) a4) RcNeAt.str_none RcNeAt.str_int RcNeAt.str_str (λ_ _ {_ _ _} q=>RcNeAt.str_tuple _ _ (gs q) a4) (λq=>RcNeAt.tuple_none (gs q) a4) (λ_ _ {_ _ _} q=>RcNeAt.tuple_int _ _ (gs q) a4) (λ_ _ {_ _ _} q=>RcNeAt.tuple_str _ _ (gs q) a4) (λg dY r b2 e=>by have:=RcNeAt.tuples (gs g) (gs dY) a4 (xs (A:=A) ap r b2 e ou);rw[xQ e];simpa only[eG,r.length,b2.length]using this) (λ{l m _ _ _ _ _ _ _} g dY r b2 e=>by
  rw[xQ e];have mn:=r.length;have oq:=b2.length;by_cases aK:l.length=m.length
  .have:=RcNeAt.lists (hR g) (hR dY) (by simpa using mn.trans (aK.trans oq.symm)) a4<|xs (A:=A) ap r b2 e ou;rw[eG,mn]at this;rw[<-aK,Nat.min_self];simpa using this
  .have:=RcNeAt.lists_lengths (hR g) (hR dY) (by simp only[eG,bne_iff_ne,ne_eq];rw[mn,oq];exact aK) a4;rw[show(l.length==m.length)=false from lK.mpr aK,sw];exact this) aA a1 e
theorem M8(a4:A.units+16<cLine):k' c A .eq:=by intro O s C J x y V W t Q I af bF e h;exact Et 16 x y V W t A (af.af I) (bF.af I) e a4 _ _ O Q<|h s.toks
theorem OG(a4:A.units+16<cLine):k' c A .ne:=by intro O s C J x y V W t Q I af bF e h;obtain⟨b,ag,a8⟩:=map_some<|show(fd x y).map (!·)=some t from e;subst a8;exact RZ (n:=15) (af.af I) (bF.af I) ag a4 _ _ O Q<|h s.toks
theorem yF{P:Params}{C:aY}{h:Heap}{i:Ă}{W:Zr}(bF:gm P C h (.int i) W):∃t,W=.int i t:=by exact bF.of
theorem Qw:k' c A .lt:=by intro O s C J x y V W t Q I af bF e h;replace e:=fR.of e;obtain⟨a,rfl,e⟩:=e;replace e:=fR.of e;obtain⟨b,rfl,e⟩:=e;cases e;obtain⟨u,rfl⟩:=yF bF;obtain⟨w,rfl⟩:=af.of;exact PySem.P.lt_int<|h s.toks
theorem Pf:k' c A .gt:=by intro O s C J x y V W t Q I af bF e h;replace e:=fR.of e;obtain⟨a,rfl,e⟩:=e;replace e:=fR.of e;obtain⟨b,rfl,e⟩:=e;cases e;obtain⟨u,rfl⟩:=yF bF;obtain⟨w,rfl⟩:=af.of;exact PySem.P.gt_int<|h s.toks
theorem VL:k' c A .ge:=by intro O s C J x y V W t Q I af bF e h;replace e:=fR.of e;obtain⟨a,rfl,e⟩:=e;replace e:=fR.of e;obtain⟨b,rfl,e⟩:=e;cases e;obtain⟨u,rfl⟩:=yF bF;obtain⟨w,rfl⟩:=af.of;exact PySem.P.ge_int<|h s.toks
theorem KP:k' c A .le:=by
 intro O s C J x y V W t Q I af bF e h;replace e:(if x.ctorIdx=2 then(fR x λa=>fR y λb=>some<|decide<|a<=b)else l6 x λa=>l6 y λb=>some<|!ji b a)=some t:=e;by_cases aA:x.ctorIdx=2
 .rw[bl aA]at e;replace e:=fR.of e;obtain⟨a,rfl,e⟩:=e;replace e:=fR.of e;obtain⟨b,rfl,e⟩:=e;cases e;obtain⟨u,rfl⟩:=yF bF;obtain⟨w,rfl⟩:=af.of;exact PySem.P.le_int<|h s.toks
 .rw[bm aA]at e;replace e:=l6.of e;obtain⟨a,rfl,e⟩:=e;replace e:=l6.of e;obtain⟨b,rfl,e⟩:=e;cases e;obtain⟨w,rfl,aj⟩:=af.of;obtain⟨u,rfl,aN⟩:=bF.of;refine PySem.P.le_str ?_;exact h s.toks
theorem none_or{x:B}{V:Zr}{P:Params}{C:aY}(af:bA P C x V):(V=.none/\(x.ctorIdx==0)=true)\/dD (V=.none->False) ((x.ctorIdx==0)=false) (PySem.plainIs V Value.none=true):=bA.casesOn (motive_1:=λx V _=>(V=.none/\(x.ctorIdx==0)=true)\/dD (V=.none->False) ((x.ctorIdx==0)=false) (PySem.plainIs V Value.none=true)) af (.inl ⟨rfl,rfl⟩) (λ_=>.inr ⟨nofun,rfl,rfl⟩) (λ_ _=>.inr ⟨nofun,rfl,rfl⟩) (λ_ _ _=>.inr ⟨nofun,rfl,rfl⟩) (λ_ _ _=>.inr ⟨nofun,rfl,rfl⟩) (λ_ _ _=>.inr ⟨nofun,rfl,rfl⟩) (λ_ _ _ _ _=>.inr ⟨nofun,rfl,rfl⟩) (λ_=>.inr ⟨nofun,rfl,rfl⟩)<|λ_ _ _ _=>.inr ⟨nofun,rfl,rfl⟩
theorem T6:k' c A .is:=by
 intro O s C J x y V W t Q I af bF e h;replace e:=sf.of e;obtain⟨rfl,e⟩:=e;cases e;obtain rfl:=bF.of;rcases none_or af with⟨rfl,q⟩|⟨n,q,sn⟩<;>rw[q]at h
 .exact wpAny_is_self rfl<|h s.toks
 .exact wpAny_is_other sn n<|h s.toks
theorem Ta:k' c A .oP:=by
 intro O s C J x y V W t Q I af bF e h;replace e:=sf.of e;obtain⟨rfl,e⟩:=e;cases e;obtain rfl:=bF.of;rcases none_or af with⟨rfl,q⟩|⟨n,q,sn⟩<;>rw[q]at h
 .exact wpAny_isNot_self rfl<|h s.toks
 .exact wpAny_isNot_other sn n<|h s.toks
def nu (h:Heap) (x:B) (cz:Zr):ZI:=@decide (∃v,ck h v cz/\fd v x=some true)<|Classical.propDecidable _
theorem BX{h:Heap}{x v:B}{cz:Zr}{b:ZI}(af:ck h v cz)(e:fd v x=some b):nu h x cz=b:=by
 unfold nu;induction b with
 |true=>exact @dL _ (Classical.propDecidable _) ⟨v,af,e⟩
 |false=>exact @eA _ (Classical.propDecidable _) λ⟨oC,AG,bz⟩=>absurd (On 16 _ _ _ _ _ _ AG af bz e) (by decide)
theorem LC{x y:B}{l:HO B}{b:ZI}(e:hN x (y::l)=some b):dW λt u=>dD (fd y x=some t) (hN x l=some u) (b=(t||u)):=by obtain⟨t,ag,a8⟩:=bind_some<|show(fd y x).bind _=some b from e;obtain⟨u,c0,c9⟩:=map_some a8;clear a8;exact⟨t,u,ag,c0,c9.symm⟩
theorem AR{s:Mt}{x:B}{X:Zr}(aA:ck s.heap x X)(a4:A.units+17<cLine){Vs:HO Zr}:∀{l:HO B} {b:ZI},d8 s.heap l Vs->hN x l=some b->(∀cz∈Vs,EqAt A.in1 s cz X<|nu s.heap x cz)/\Vs.any (nu s.heap x)=b:=by
 induction Vs with
 |nil=>intro l b r e;rw[r.oK]at e;exact⟨λcz h=>(nomatch h),cT e⟩
 |cons V Vs ap=>
  intro l b r e;obtain⟨v,m,rfl,a,hr⟩:=r.k8;obtain⟨t,u,ag,c0,c9⟩:=LC e;clear e;obtain⟨G,E⟩:=ap hr c0;have ak:=BX a ag;refine⟨λcz jl=>?_,by rw[List.any_cons,ak,E,c9]⟩;cases jl with
  |head=>rw[ak];exact z' a aA ag (by show A.units+1+16<cLine;lia)
  |tail _ jl=>exact G cz jl
noncomputable instance:DecidableEq B:=λa b=>Classical.propDecidable _
mutual
def so:B->ā
 |.tup l=>pp l+1
 |_=>1
def pp:HO B->ā
 |[]=>0
 |v::r=>so v+pp r
end
theorem Q9(d:ā)(k:B):cond (bR k) (eU d k=false) True:=by induction k using B.casesOn<;>first|trivial|(induction d using Nat.casesOn<;>rfl)
theorem BA{d:ā}{k:B}(h:eU d k=true):bR k=false:=by
 have n:=Q9 d k;rw[h]at n;generalize bR k=b at n⊢;induction b with
 |false=>rfl
 |true=>exact h7 n
theorem Cm{h:Heap}{M:ā->B->Zr->Prop}(aB:∀d i t,M d (.int i)<|.int i t)(aK:∀d l t,M d (.str l)<|.str ⟨l.toArray⟩ t)(dX:∀d l a Vs n,h.get? a=some (ed Vs.toArray n)->d8 h l Vs->(∀v∈l,eU d v=true)->(∀v V,eU d v=true->ck h v V->M d v V)->M (d+1) (.tup l) (.ref a)):∀d k V,eU d k=true->ck h k V->M d k V:=by
 intro d;induction d with
 |zero=>
  intro k V aD af;induction k using B.casesOn with
  |int i=>obtain⟨t,rfl⟩:=af.of;exact aB 0 i t
  |str l=>obtain⟨t,rfl⟩:=af.of;exact aK 0 l t
  |_=>exact cH aD
 |succ d ap=>
  intro k V aD af;induction k using B.casesOn with
  |int i=>obtain⟨t,rfl⟩:=af.of;exact aB _ i t
  |str l=>obtain⟨t,rfl⟩:=af.of;exact aK _ l t
  |tup l=>obtain⟨a,Vs,n,rfl,g,r⟩:=af.of;exact dX d _ _ _ _ g r (Bp aD) ap
  |_=>exact cH aD
theorem Qs{P:Params}{a b:HO B}:lx P (a++b)=lx P a++lx P b:=by
 induction a with
 |nil=>rfl
 |cons v r ap=>exact bI (List.cons _) ap
theorem SG{a b:HO B}:pp (a++b)=pp a+pp b:=by
 induction a with
 |nil=>exact(iM _).symm
 |cons v r ap=>exact(bI (so v+·) ap).trans (rg _ _ _).symm
section
variable{prog:Program}{w:World}
theorem zK{h:Heap}:∀{d:ā} {k:B} {V:Zr},eU d k=true->ck h k V->∀{A:Around} {O:Zr->Mt->Prop} {s:Mt} {Q:Ă->Mt->Prop},s.heap=h->A.units+d<cLine->Q (jQ w.params k) {s with toks:=s.toks+so k}->wpAny (model prog w) A (pyHash V) Q O s:=λ{d k V} aD af=>by
 refine Cm (M:=λd k V=>∀{A:Around} {O:Zr->Mt->Prop} {s:Mt} {Q:Ă->Mt->Prop},s.heap=h->A.units+d<cLine->Q (jQ w.params k) {s with toks:=s.toks+so k}->wpAny (model prog w) A (pyHash V) Q O s) (λ_ i t _ _ _ _ _ _ h=>wpAny_pyHash_int h) (λ_ l t _ _ _ _ _ _ h=>wpAny_pyHash_str h) ?_ d k V aD af;intro d l a Vs n az jW gb ap A O s Q aK a4 h;subst aK;have jn:s.TypeIs (.ref a) "tuple":=⟨_,az,rfl⟩;unfold pyHash;first|unfold pyHashByItsType|skip
 first|refine bd (wpAny_cRoomFor_or (.inr (hI (nz _ _) a4:A.units<cLine)) ?_)|skip
 refine bd<|wpAny_specialOf jn F.slot_tuple_hash.lookup ?_;show wpAny _ _ (if(some (Value.builtin "tuple.__hash__")==some Value.none)=true then _ else _) Q O s;rw[bm<|by rw[beq_builtin_none];exact dR];refine bd<|wpAny_specialOf jn F.slot_tuple_hash.lookup ?_;show wpAny _ _ (callSpecialIfBoundUnlessNone? (.ref a) "__hash__" _>>=_) Q O s;refine bd<|wpAny_callSpecialIfBoundUnlessNone?_slot jn F.slot_tuple_hash<|nj F.slot_tuple_hash jn F.entry_tuple_hash ?_<|F.args_tuple_hash_1 _;show wpAny _ _ (Builtin.Tuple.tupleItemsOf (.ref a)>>=_) _ _ s;refine bd<|wpAny_tupleItemsOf az rfl<|bd ?_;rw[<-Array.forIn_toList];refine wpAny_forIn_list _ (λa_ (b:Array Ă) ar=>dW λdone left=>hZ (l=done++left) (d8 s.heap left a_) (b.toList=lx w.params done)<|ar={s with toks:=s.toks+pp done}) _ ?_ ?_ _ _ ⟨[],l,rfl,jW,rfl,rfl⟩
 .rintro x a_ b ar⟨done,left,e,aj,aw,rfl⟩;obtain⟨v,r,rfl,Bi,bn⟩:=aj.k8;have am:dW λAs FY=>hZ (l=As++FY) (d8 s.heap FY a_) ((b.push<|jQ w.params v).toList=lx w.params As) (({s with toks:=s.toks+pp done+so v}:Mt)={s with toks:=s.toks+pp As}):=⟨done++[v],r,by rw[e,hK];rfl,bn,by rw[Array.toList_push,aw,Qs];rfl,by rw[SG,<-rg];rfl⟩;refine bd<|ap v x (gb v<|by rw[e];exact iJ _<|.head _) Bi rfl (by show A.units+1+d<cLine;lia) ?_;first
   |exact b3 am
   |exact bd (b3 (b3 am))
 .rintro b ar⟨done,left,e,aj,aw,rfl⟩;rw[aj.oK,ha]at e;subst e;show wpAny _ _ (retInt<|Builtin.Tuple.tupleHashOf b.toList) _ _ _;rw[aw];refine wpAny_ret_mkInt ?_;show wpAny _ _ (if(decide (-(2:Ă)^63<=Builtin.Tuple.tupleHashOf (lx w.params l))&&decide (Builtin.Tuple.tupleHashOf (lx w.params l)<2^63))=true then _ else _) Q O _;have h:Q (if(decide (-(2:Ă)^63<=Builtin.Tuple.tupleHashOf (lx w.params l))&&decide (Builtin.Tuple.tupleHashOf (lx w.params l)<2^63))=true then _ else _) {s with toks:=s.toks+pp l+1}:=h;by_cases bn:(decide (-(2:Ă)^63<=Builtin.Tuple.tupleHashOf (lx w.params l))&&decide (Builtin.Tuple.tupleHashOf (lx w.params l)<2^63))=true
  .rw[bl bn]at h⊢;exact b3 h
  .rw[bm bn]at h⊢;exact bd<|wpAny_rule<|b3 h
theorem Wu{h:Heap}:∀{d:ā} {k:B} {V:Zr},eU d k=true->ck h k V->∀{A:Around} {O:Zr->Mt->Prop} {s:Mt} {Q:ZI->Mt->Prop},s.heap=h->Q true s->wpAny (model prog w) A (eqIsQuiet (d+1) V) Q O s:=λ{d k V} aD af=>by
 refine Cm (M:=λd k V=>∀{A:Around} {O:Zr->Mt->Prop} {s:Mt} {Q:ZI->Mt->Prop},s.heap=h->Q true s->wpAny (model prog w) A (eqIsQuiet (d+1) V) Q O s) (λ_ i t _ _ _ _ _ h=>by rw[eqIsQuiet_byValue _ rfl];exact b3 h) (λ_ l t _ _ _ _ _ h=>by rw[eqIsQuiet_byValue _ rfl];exact b3 h) ?_ d k V aD af;intro d l a Vs n az jW gb ap A O s Q aK h;subst aK;have jn:s.TypeIs (.ref a) "tuple":=⟨_,az,rfl⟩;unfold eqIsQuiet;refine bd<|wpAny_specialOf jn F.slot_tuple_eq.lookup ?_;show wpAny _ _ (isInstance (.ref a) (.type "tuple")>>=_) _ _ s;refine bd<|wpAny_isInstance jn isSubtype_tuple_tuple ?_;simp only[Bool.not_true,tI,if_false];refine bd<|wpAny_seqItems az rfl<|bd ?_;show wpAny _ _ (forIn Vs.toArray _ _) _ _ s;rw[<-Array.forIn_toList];refine wpAny_forIn_list _ (λa_ r ar=>dD (r.1=none) (s=ar) (∃left,d8 s.heap left a_/\∀v∈left,eU d v=true)) _ ?_ ?_ _ _ ⟨rfl,rfl,l,jW,gb⟩
 .rintro v a_ r ar⟨bn,rfl,left,aj,gb⟩;obtain⟨oC,b2,rfl,Bi,X1⟩:=aj.k8;refine bd<|ap oC v (gb oC<|.head _) Bi rfl ?_;simp only[Bool.not_true,tI,if_false];exact b3 ⟨rfl,rfl,b2,X1,λu ou=>gb u<|.tail _ ou⟩
 .rintro⟨hr,ki⟩ar⟨bn,rfl,_⟩;subst bn;exact b3 h
theorem Vt{h:Heap}:∀{d:ā} {x:B} {V:Zr},eU d x=true->ck h x V->∀{y:B},eU d y=true->ck h y V->x=y:=λ{d x V} aA G=>by
 refine Cm (M:=λd x V=>∀{y:B},eU d y=true->ck h y V->x=y) (λ_ i t _ a1 E=>(E.B6<|BA a1).symm) (λ_ l t _ a1 E=>(E.Dn<|BA a1).symm) ?_ d x V aA G;intro d l a Vs n g r aj ap y a1 E;obtain⟨m,rfl,b2⟩:=E.AQ g<|BA a1;have aN:=Bp a1;clear a1 E g;refine bI B.tup ?_;induction Vs generalizing l m with
 |nil=>rw[r.oK,b2.oK]
 |cons V Vs uD=>obtain⟨v,l,rfl,e1,hr⟩:=r.k8;obtain⟨u,m,rfl,iE,ki⟩:=b2.k8;rw[ap v V (aj v<|.head _) e1 (aN u<|.head _) iE,uD l hr (λv af=>aj v<|.tail _ af) m ki λv af=>aN v<|.tail _ af]
theorem Ff(d:ā){x y:B}(aA:eU d x=true)(a1:eU d y=true)(n:ā)(am:d<=n):g0 n x y=some (decide<|x=y):=yW (Ck aA) (Ck a1) am
theorem UN{d:ā}{k:B}(h:eU d k=true):eU (d+1) k=true:=J3 (M:=λd k=>eU (d+1) k=true) (λ_ _=>rfl) (λ_ _=>rfl) (λ_ l aj ap=>d'.mpr λv af=>ap v<|aj v af) d k h
theorem ck.sameBut{h aR:Heap}{d:Addr}{es:Array DictEntry}{qR:ā}{o:Obj}(az:h.get? d=some o)(bg:o.data=.dict es qR)(aK:Heap.SameBut d h aR){v:B}{V:Zr}(x:ck h v V):ck aR v V:=have k:∀{a Vs n q},h.get? a=some (Obj.mk q Option.none (.seq Vs n) #[])->aR.get? a=some (Obj.mk q Option.none (.seq Vs n) #[]):=λ{a Vs n q} g=>(aK.2 a<|by rintro rfl;rw[cT<|az.symm.trans g]at bg;exact Data.noConfusion bg).trans g;ck.rec (motive_1:=λv V _=>ck aR v V) (motive_2:=λl Vs _=>d8 aR l Vs) .none .bool .int .str (λg _ r=>.tup (k g) r) (λg _ r=>.lst (k g) r) .uZ .nil (λ_ _ a r=>.cons a r) x
def ur (prog:Program) (w:World):HeapKind prog w B where
 is:=λh k a=>eU 6 k=true/\ck h k (.ref a)
 hash:=jQ w.params
 draws:=so
 room:=λA=>A.units+6<cLine
 inj:=λaA a1=>Vt aA.1 aA.2 a1.1 a1.2
 keeps:=λx az bg aK=>⟨x.1,x.2.sameBut az bg aK⟩
 pyHash:=λa4 aD h=>zK aD.1 aD.2 rfl a4 h
 eqBool:=λa4 aA a1 h=>z' aA.2 a1.2 (Ff 6 aA.1 a1.1 6<|dy _) a4 _ _ _ _ h
 quiet:=λaD h=>Wu (UN aD.1) aD.2 rfl h
end
def jk (k:B) (l:HO (B×B)):Z5 ā:=l.findIdx? λe=>decide<|e.1=k
theorem Ge{x:B}(h:(eH x !=0)=true):eU 6 x=true:=by
 induction x using B.casesOn with
 |int=>rfl
 |str=>rfl
 |tup l=>
  by_cases q:eU 6 (.tup l)=true
  .exact q
  .rw[show eH (.tup l)=0 from bm q]at h;exact cH h
 |_=>exact cH h
theorem vd{k:B}{l:HO (B×B)}(h:eo k l=true):eU 6 k=true/\∀e∈l,eU 6 e.1=true/\eH e.1=eH k:=by have h:=gY.mp h;refine⟨Ge h.1,λe a6=>?_⟩;have ag:=eI<|d'.mp h.2 e a6;exact⟨Ge (by rw[ag];exact h.1),ag⟩
theorem L5{x y:B}(G:eU 6 x=true)(E:eU 6 y=true):fd x y=some (decide<|x=y):=Ff 6 G E 16 (by decide)
theorem Fy{k:B}{p:B×B}{l:HO (B×B)}(h:eo k (p::l)=true):eo k l=true:=have h:=gY.mp h;gY.mpr ⟨h.1,(gY.mp h.2).2⟩
theorem F3{k a b:B}{l:HO (B×B)}(h:eo k ((a,b)::l)=true):fd a k=some (decide<|a=k):=L5 ((vd h).2 (a,b)<|.head _).1 (vd h).1
theorem BQ{k a b:B}{l:HO (B×B)}:jk k ((a,b)::l)=if decide (a=k)=true then some 0 else(jk k l).map (· +1):=List.findIdx?_cons
theorem Q6{k:B}{l:HO (B×B)}(h:eo k l=true):fA k l=some ((jk k l).bind λj=>(l[j]?).map (·.2)):=by
 induction l with
 |nil=>rfl
 |cons p r ap=>
  induction p with|mk a b=>
  show(match fd a k with|some true=>some (some b)|some false=>fA k r|none=>none)=_;rw[F3 h,BQ];induction decide (a=k)with
  |true=>rfl
  |false=>show fA k r=some (Option.bind (Option.map _<|jk k r) _);rw[ap<|Fy h];induction jk k r<;>rfl
theorem H'{k v:B}{l:HO (B×B)}(h:eo k l=true):gW k v l=some (match jk k l with|some j=>l.modify j λe=>(e.1,v)|none=>l++[(k,v)]):=by
 induction l with
 |nil=>rfl
 |cons p r ap=>
  induction p with|mk a b=>
  show(match fd a k with|some true=>some ((a,v)::r)|some false=>(gW k v r).map ((a,b)::·)|none=>none)=_;rw[F3 h,BQ];induction decide (a=k)with
  |true=>rfl
  |false=>show(gW k v r).map ((a,b)::·)=some (match Option.map (· +1) (jk k r)with|some j=>_|none=>_);rw[ap<|Fy h];induction jk k r<;>rfl
section
variable{P:Params}{C:aY}{l:HO (B×B)}{es:HO DictEntry}
theorem d9.length(h:d9 P C l es):es.length=l.length:=d9.ind (M:=λl es=>es.length=l.length) rfl (λ_ _ _ m=>bI Nat.succ m) h
theorem d9.get(h:d9 P C l es):∀{j:ā} {p:B×B},l[j]?=some p->dW λK V=>dD (es[j]?=some ⟨jQ P p.1,K,V⟩) (bA P C p.1 K) (bA P C p.2 V):=d9.ind (M:=λl es=>∀{j:ā} {p:B×B},l[j]?=some p->dW λK V=>dD (es[j]?=some ⟨jQ P p.1,K,V⟩) (bA P C p.1 K) (bA P C p.2 V)) (λe=>bY e) (λa b _ m=>λ{j} _ e=>by
 induction j with
 |zero=>cases e;exact⟨_,_,rfl,a,b⟩
 |succ j=>exact m (j:=j) e) h
theorem d9.modify{v:B}{V:Zr}(af:bA P C v V)(h:d9 P C l es):∀j,d9 P C (l.modify j λe=>(e.1,v)) (es.modify j λe=>{e with val:=V}):=d9.ind (M:=λl es=>∀j,d9 P C (l.modify j λe=>(e.1,v)) (es.modify j λe=>{e with val:=V})) (λj=>by induction j<;>exact .nil) (λa b r m j=>by
 induction j with
 |zero=>exact .cons a af r
 |succ j=>exact .cons a b (m j)) h
theorem d9.push{k v:B}{K V:Zr}(aD:bA P C k K)(af:bA P C v V)(h:d9 P C l es):d9 P C (l++[(k,v)]) (es++[⟨jQ P k,K,V⟩]):=d9.ind (M:=λl es=>d9 P C (l++[(k,v)])<|es++[(⟨jQ P k,K,V⟩:DictEntry)]) (.cons aD af .nil) (λa b _ m=>.cons a b m) h
end
theorem I0(l:HO B):eH (.tup l)=3\/eH (.tup l)=0:=by
 by_cases q:eU 6 (.tup l)=true
 .exact .inl<|bl q
 .exact .inr<|bm q
theorem EA{x:B}(h:eH x=1):∃a,x=.int a:=by
 induction x using B.casesOn with
 |int a=>exact⟨a,rfl⟩
 |tup l=>rcases I0 l with e|e<;>exact absurd (e.symm.trans h) (wn rfl)
 |_=>exact absurd h<|wn rfl
theorem G9{x:B}(h:eH x=2):∃a,x=.str a:=by
 induction x using B.casesOn with
 |str a=>exact⟨a,rfl⟩
 |tup l=>rcases I0 l with e|e<;>exact absurd (e.symm.trans h) (wn rfl)
 |_=>exact absurd h<|wn rfl
theorem R8{x:B}(h:eH x=3):∃a,x=.tup a:=by
 induction x using B.casesOn with
 |tup a=>exact⟨a,rfl⟩
 |_=>exact absurd h<|wn rfl
theorem OA{av b8:Type}{f:av->ZI}{g:b8->ZI}{l:HO av}:∀{m:HO b8},l.length=m.length->(∀(j:ā) (a:av) (b:b8),l[j]?=some a->m[j]?=some b->f a=g b)->l.findIdx? f=m.findIdx? g:=by
 induction l with
 |nil=>intro m h _;induction m with
  |nil=>rfl
  |cons=>exact Nat.noConfusion h
 |cons a l ap=>
  intro m h k;induction m with
  |nil=>exact Nat.noConfusion h
  |cons b m=>rw[List.findIdx?_cons,List.findIdx?_cons,k 0 a b rfl rfl,ap (Nat.succ.inj h) λj a b ag a8=>k (j+1) a b ag a8]
theorem Xn{k:B}{l:HO (B×B)}(h:∀p∈l,p.1=k->False):jk k l=none:=List.findIdx?_eq_none_iff.mpr λp ae=>eA<|h p ae
theorem Lo{k:B}{l:HO (B×B)}(am:(l.map Prod.fst).Nodup):∀{j:ā} {v:B},l[j]?=some (k,v)->jk k l=some j:=by
 induction l with
 |nil=>exact λe=>bY e
 |cons p r ap=>
  induction p with|mk a b=>
  have am:=hV.mp am;intro j v e;rw[BQ];induction j with
  |zero=>cases e;exact bl<|dL rfl
  |succ j=>have e:r[j]?=some (k,v):=e;rw[(eA λq=>am.1 (q▸dr.mpr ⟨_,h9 e,rfl⟩):decide (a=k)=false),ap am.2 e];rfl
section
variable{c:cc}{A:Around}{O:Zr->Mt->Prop}{s:Mt}{C:aY}{J:St}
theorem JS{o6:Type}[DecidableEq o6]{knd:PySem.KeyKind c.prog c.w o6}{f:o6->B}{cL:ā}(cd:∀a,jQ c.P (f a)=knd.hash a)(view:∀x X,eH x=cL->bA c.P C x X->∃a,x=f a/\knd.is a X=true/\∀b,knd.is b X=decide (f a=f b)){d:Addr}{es:HO DictEntry}{n:ā}{l:HO (B×B)}{k:o6}{K:Zr}{Q:Z5 ā->Mt->Prop}(bg:s.heap.get? d=some (el es.toArray n))(aj:d9 c.P C l es)(gb:∀e∈l,eH e.1=cL)(aD:knd.is k K=true)(h:Q (jk (f k) l) s):wpAny c.M A (dictFind d K<|knd.hash k) Q O s:=by
 have F_:∀{j:ā} {e:DictEntry} {p:B×B},es[j]?=some e->l[j]?=some p->∃a,p.1=f a/\dD (knd.is a e.key=true) (∀b,knd.is b e.key=decide (f a=f b)) (e.hash=knd.hash a):=λ{j e p} ag a8=>by obtain⟨eM,zT,c0,r,_⟩:=aj.get a8;obtain⟨a,q,b0,bt⟩:=view _ _ (gb p<|h9 a8) r;obtain rfl:=cT<|ag.symm.trans c0;exact⟨a,q,b0,bt,(bI _ q).trans<|cd a⟩
 refine wpAny_dictFind_of (knd:=knd) (k:=k) aD bg rfl (λe a6=>?_) ?_
 .obtain⟨j,b_⟩:=List.mem_iff_getElem?.mp<|m3.mp a6;obtain⟨a,_,b0,_,dN⟩:=F_ b_<|fr<|aj.length▸(g9.mp b_).1;exact⟨a,b0,dN⟩
 .rw[List.findIdx?_toArray,OA (g:=λe=>decide<|e.1=f k) aj.length λj e p ag a8=>by obtain⟨a,q,_,bt,_⟩:=F_ ag a8;rw[bt,q]];exact h
theorem N5(I:c.I C J s){l:HO (B×B)}{es:HO DictEntry}(aj:d9 c.P C l es):(∀e∈l,eU 6 e.1=true/\eH e.1=3)->∃bO:HO (B×Addr×Zr),dD (es=bO.map (entryOfKey<|ur c.prog c.w)) (bO.map (·.1)=l.map Prod.fst) (∀y∈bO,(ur c.prog c.w).is s.heap y.1 y.2.1):=by
 refine d9.ind (M:=λl es=>(∀e∈l,eU 6 e.1=true/\eH e.1=3)->∃bO:HO (B×Addr×Zr),dD (es=bO.map (entryOfKey<|ur c.prog c.w)) (bO.map (·.1)=l.map Prod.fst) (∀y∈bO,(ur c.prog c.w).is s.heap y.1 y.2.1)) (λ_=>⟨[],rfl,rfl,λ_ h=>(nomatch h)⟩) (λ{k v K V l es} G _ _ ap gb=>?_) aj;obtain⟨bO,rfl,p5,AP⟩:=ap λe a6=>gb e<|.tail _ a6;obtain⟨d5,aC⟩:=gb (k,v)<|.head _;obtain⟨y,rfl⟩:=R8 aC;clear aC;obtain⟨b,bC,m,rfl,b0,bt,dN⟩:=G.of;refine⟨(.tup y,b,V)::bO,rfl,bI (_::·) p5,λz hz=>?_⟩;rcases ew.mp hz with e|hz
 .rw[e];exact⟨d5,G.af I⟩
 .exact AP z hz
theorem KA{d:Addr}{es:HO DictEntry}{n:ā}{l:HO (B×B)}{k:B}{K:Zr}{Q:Z5 ā->Mt->Prop}(a4:A.units+6<cLine)(I:c.I C J s)(bg:s.heap.get? d=some (el es.toArray n))(aj:d9 c.P C l es)(am:(l.map Prod.fst).Nodup)(a7:eo k l=true)(aD:bA c.P C k K)(h:Q (jk k l) s):wpAny c.M A (dictFind d K<|jQ c.P k) Q O s:=by
 have iX:=vd a7;induction k using B.casesOn with
 |int i=>obtain⟨t,rfl⟩:=aD.of;refine JS (knd:=PySem.intKind c.prog c.w) (f:=.int) (cL:=1) (λ_=>rfl) (λx X e r=>?_) bg aj (λe a6=>(iX.2 e a6).2) (jL i) h;obtain⟨a,rfl⟩:=EA e;clear e;obtain⟨w,rfl⟩:=r.of;exact⟨a,rfl,jL a,λb=>vl.mpr ⟨bI _,B.int.inj⟩⟩
 |str x=>obtain⟨t,rfl,aq⟩:=aD.of;refine JS (knd:=PySem.strKind c.prog c.w) (f:=λx=>.str x.cps.toList) (k:=⟨x.toArray⟩) (cL:=2) (λ_=>rfl) (λx X e r=>?_) bg aj (λe a6=>(iX.2 e a6).2) (jL (⟨x.toArray⟩:Str)) h;obtain⟨a,rfl⟩:=G9 e;clear e;obtain⟨w,rfl,-⟩:=r.of;exact⟨⟨a.toArray⟩,rfl,jL (⟨a.toArray⟩:Str),λb=>Bool.eq_iff_iff.mpr<|(fL (a:=(⟨a.toArray⟩:Str)) (b:=b)).trans ⟨λq=>by rw[<-q];exact dL rfl,λq=>by have:=B.str.inj<|fj q;induction b;exact bI Str.mk<|bI List.toArray this⟩⟩
 |tup x=>
  obtain⟨a,Vs,m,rfl,ag,a8,c0⟩:=aD.of;obtain⟨bO,lb,iv,d6⟩:=N5 I aj λe a6=>⟨(iX.2 e a6).1,(iX.2 e a6).2.trans (bl iX.1:eH (.tup x)=3)⟩;have aA:∀(j:ā),(bO[j]?).map (·.1)=(l[j]?).map Prod.fst:=λj=>by rw[<-gN,iv,gN]
  refine wpAny_dictFind_heap (knd:=ur c.prog c.w) (k:=.tup x) a4 ⟨iX.1,(bA.tup ag a8 c0).af I⟩ bg rfl lb d6 (by rw[iv];exact am) (λzI=>?_) λj p b_=>?_
  .rw[Xn λp ae q=>?_]at h
   .exact h
   .obtain⟨j,b_⟩:=List.mem_iff_getElem?.mp ae;have e:=aA j;rw[b_]at e;obtain⟨z,hz,Bv⟩:=map_some e;clear e;exact zI j z.2<|hz.trans<|bI some<|mY (Bv.trans q) rfl
  .have e:=aA j;rw[b_]at e;obtain⟨z,hz,Bv⟩:=map_some e.symm;rw[Lo am<|hz.trans<|bI some (mY Bv rfl:z=(.tup x,z.2))]at h;exact h
 |_=>exact cH iX.1
end
section
variable{c:cc}{A:Around}{O:Zr->Mt->Prop}{s:Mt}{C:aY}{J:St}
structure iO(c:cc)(C:aY)(s:Shared)(d:Addr)(l:List (B×B))(es:List DictEntry)(n:Nat):Prop where
 at_:s.heap.get? d=some (el es.toArray n)
 rel:d9 c.P C l es
 nodup:(l.map Prod.fst).Nodup
 a3:l.length<=a3
inductive ul (P:Params) (C:aY):Option B->Option Value->Prop where
 |none:ul P C none none
 |some {v:B} {V:Value}:bA P C v V->ul P C (some v) (some V)
theorem z8{d:Addr}{es:HO DictEntry}{n:ā}{l:HO (B×B)}{k:B}{K:Zr}{r:Z5 B}{Q:Z5 Zr->Mt->Prop}(a4:A.units+6<cLine)(I:c.I C J s)(D:iO c C s d l es n)(a7:eo k l=true)(aD:bA c.P C k K)(e:fA k l=some r)(h:∀R t,ul c.P C r R->Q R {s with toks:=t}):wpAny c.M A (dictGet d K) Q O s:=by
 unfold dictGet;try with_reducible refine gQ ?_
 refine bd<|zK (vd a7).1 (aD.af I) rfl a4<|bd<|KA a4 (I.toks _) D.at_ D.rel D.nodup a7 aD ?_;rw[Q6 a7]at e;induction aB:jk k l with
 |none=>rw[aB]at e;cases e;exact b3<|h _ _ .none
 |some j=>
  rw[aB]at e;have b_:j<l.length:=by unfold jk at aB;exact(List.findIdx?_eq_some_iff_getElem.mp aB).1
  have ae:l[j]?=some l[j]:=fr b_;rw[Option.bind_some,ae]at e;cases e;obtain⟨eM,zT,ag,a8,c0⟩:=D.rel.get ae;clear ae;refine bd<|wpAny_dictEntries (s:={s with toks:=_}) D.at_ rfl ?_;rw[show es.toArray[j]?=some ⟨jQ c.P l[j].1,eM,zT⟩by simpa using ag];exact b3<|h _ _<|.some c0
theorem Fd{d:Addr}{es:HO DictEntry}{n:ā}{l di:HO (B×B)}{k v:B}{K V:Zr}{Q:Unit->Mt->Prop}(a4:A.units+6<cLine)(I:c.I C J s)(D:iO c C s d l es n)(a7:eo k l=true)(aD:bA c.P C k K)(af:bA c.P C v V)(e:gW k v l=some di)(h:∀(aR:Heap) (t:ā) (cx:HO DictEntry) (n':ā),aR.get? d=some (el cx.toArray n')->d9 c.P C di cx->(di.map Prod.fst).Nodup->Heap.SameBut d s.heap aR->Q () {s with heap:=aR,toks:=t}):wpAny c.M A (dictSet d K V) Q O s:=by
 have on:es.toArray.size<=sizeLine:=by have:=D.rel.length;have:=D.a3;rw[eG];unfold a3 at*;unfold sizeLine;lia
 unfold dictSet;try with_reducible refine gQ ?_
 refine bd<|zK (vd a7).1 (aD.af I) rfl a4 ?_;unfold dictSetHashed;try with_reducible refine gQ ?_
 refine bd<|KA a4 (I.toks _) D.at_ D.rel D.nodup a7 aD ?_;rw[H' a7]at e;induction aB:jk k l with
 |some j=>
  rw[aB]at e;cases e;refine bd<|wpAny_rule<|bd<|wpAny_updateDict (s:={s with toks:=_}) D.at_ rfl<|wpAny_point<|h _ _ (es.modify j λe=>{e with val:=V}) n (sH _ D.at_ rfl|>.trans ?_) (D.rel.modify af j) ?_ (uu ..)
  .exact bI (λa=>some<|el a n) (show es.toArray.modify j (λe=>{e with val:=V})=_ by simp)
  .have:(l.modify j λe=>(e.1,v)).map Prod.fst=l.map Prod.fst:=by apply List.ext_getElem?;intro i;simp only[gN,List.getElem?_modify];by_cases q:j=i<;>induction l[i]?<;>simp[q]
   rw[this];exact D.nodup
 |none=>
  rw[aB]at e;cases e;refine bd<|wpAny_rule<|wpAny_updateDictKeys (hz:=on) (s:={s with toks:=_}) D.at_ rfl<|h _ _ (es++[⟨jQ c.P k,K,V⟩]) (n+1) (sH _ D.at_ rfl|>.trans ?_) (D.rel.push aD af) ?_ (uu ..)
  .exact bI (λa=>some<|el a<|n+1) (show es.toArray.push ⟨jQ c.P k,K,V⟩=_ by simp)
  .rw[cZ,nc];refine⟨D.nodup,by simp,λx aA y a1 q=>?_⟩;simp only[gh,List.map_nil,cX]at a1;subst a1 q;obtain⟨p,ae,hO⟩:=dr.mp aA;clear aA;unfold jk at aB;rw[List.findIdx?_eq_none_iff]at aB;have:=aB p ae;simp[hO]at this
theorem iO.typeIs{d:Addr}{l:HO (B×B)}{es:HO DictEntry}{n:ā}(D:iO c C s d l es n):s.TypeIs (.ref d) "dict":=⟨_,D.at_,rfl⟩
theorem EM{d:Addr}{es:HO DictEntry}{n:ā}{l:HO (B×B)}{k:B}{K:Zr}{r:Z5 B}{Q:ZI->Mt->Prop}(a4:A.units+16<cLine)(I:c.I C J s)(D:iO c C s d l es n)(aK:(d==sysModules)=false)(a7:eo k l=true)(aD:bA c.P C k K)(e:fA k l=some r)(h:∀t,Q r.isSome {s with toks:=t}):wpAny c.M A (PySem.contains (.ref d) K) Q O s:=by
 unfold PySem.contains;try with_reducible refine gQ ?_
 have ZA:stdlibNamesSay? (.ref d) K=none:=rfl;refine bd<|wpAny_specialOf D.typeIs slot_dict_contains.lookup ?_;show wpAny _ _ (if(some (Value.builtin "dict.__contains__")==some Value.none)=true then _ else _) _ O s;rw[bm<|by rw[beq_builtin_none];exact dR];refine bd<|wpAny_callSpecialUnlessNone?_slot (name:=Str.ofString "__contains__") D.typeIs slot_dict_contains<|nj slot_dict_contains D.typeIs entry_dict_contains ?_<|args_dict_contains _ _;show wpAny _ _ (dictGet d K>>=_) _ _ s;refine bd<|z8 (iY a4:A.units+7<cLine) I D a7 aD e λR t az=>?_;induction az with
 |some af=>show wpAny _ _ (ret<|.bool true) _ _ _;exact b3 ⟨_,rfl,rK<|h t⟩
 |none=>show wpAny _ _ (Builtin.Dict.pendingKey? d K>>=_) _ _ _;exact bd<|wpAny_pendingKey_other aK<|b3 ⟨_,rfl,rK<|h t⟩
theorem UG{d:Addr}{es:HO DictEntry}{n:ā}{l:HO (B×B)}{k v:B}{K:Zr}{Q:Zr->Mt->Prop}(a4:A.units+16<cLine)(I:c.I C J s)(D:iO c C s d l es n)(a7:eo k l=true)(aD:bA c.P C k K)(e:fA k l=some (some v))(h:∀V t,bA c.P C v V->Q V {s with toks:=t}):wpAny c.M A (getItem (.ref d) K) Q O s:=by
 unfold getItem;try with_reducible refine gQ ?_
 refine bd<|u0 D.typeIs (by decide) ?_;refine bd<|sE (name:=Str.ofString "__getitem__") D.typeIs slot_dict_getitem<|nj slot_dict_getitem D.typeIs entry_dict_getitem ?_<|args_dict_getitem _ _;show wpAny _ _ (dictGet d K>>=_) _ _ s;refine bd<|z8 (iY a4:A.units+7<cLine) I D a7 aD e λR t az=>?_;cases az with
 |some af=>exact b3 ⟨_,rfl,b3<|h _ _ af⟩
theorem GG{d:Addr}{es:HO DictEntry}{n:ā}{l di:HO (B×B)}{k v:B}{K V:Zr}{Q:Unit->Mt->Prop}(a4:A.units+16<cLine)(I:c.I C J s)(D:iO c C s d l es n)(a7:eo k l=true)(aD:bA c.P C k K)(af:bA c.P C v V)(e:gW k v l=some di)(h:∀(aR:Heap) (t:ā) (cx:HO DictEntry) (n':ā),aR.get? d=some (el cx.toArray n')->d9 c.P C di cx->(di.map Prod.fst).Nodup->Heap.SameBut d s.heap aR->Q () {s with heap:=aR,toks:=t}):wpAny c.M A (setItem (.ref d) K V) Q O s:=by
 unfold setItem;try with_reducible refine gQ ?_
 refine bd<|u0 D.typeIs (by decide) ?_;refine bd<|sE (name:=Str.ofString "__setitem__") D.typeIs slot_dict_setitem<|nj slot_dict_setitem D.typeIs entry_dict_setitem ?_<|args_dict_setitem _ _ _;show wpAny _ _ (Builtin.Dict.notOrdered "__setitem__" ⟨[.ref d,K,V],[]⟩>>=_) _ _ s;refine bd<|wpAny_notOrdered_dict D.typeIs ?_;show wpAny _ _ (dictSet d K V>>=_) _ _ s;exact bd<|Fd (iY a4:A.units+7<cLine) I D a7 aD af e λaR t cx n' a b iQ m'=>b3 ⟨.none,rfl,b3<|h aR t cx n' a b iQ m'⟩
theorem XI{d:Addr}{pos:Pos}{x y:Sem Zr}{Q:Zr->Mt->Prop}(a4:A.units+16<cLine)(aK:(d==sysModules)=false)(h:wpAny c.M A x (λK bs=>wpAny c.M A y (λD b9=>Dm λ(co:aY) (d3:St) (l:HO (B×B)) (es:HO DictEntry) (n:ā) (k:B) (r:Z5 B)=>rD (c.I co d3 b9) (iO c co b9 d l es n) (eo k l=true) (bA c.P co k K) (fA k l=some r) (∀R t,ul c.P co r R->Q (R.getD D) {b9 with toks:=t})) O bs) O s):wpAny c.M A (callWith pos (.builtin "dict.get") [.ref d] [(false,x),(false,y)] []) Q O s:=method2_meetsIn F.slot_dict_get F.entry_dict_get (lz h (λK _ lX=>lz lX (λD _ vX=>by
 obtain⟨co,d3,l,es,n,k,r,I,xT,a7,aD,e,a'⟩:=vX;refine⟨xT.typeIs,F.args_dict_get_3 _ _ _,(λA R s=>A.units+8<cLine/\Dm λ(co:aY) (d3:St) (l:HO (B×B)) (es:HO DictEntry) (n:ā) (k:B) (r:Z5 B)=>rD (c.I co d3 s) (iO c co s d l es n) (eo k l=true) (bA c.P co k K) (fA k l=some r) (∀V t,ul c.P co r V->R (.ok<|.ret<|V.getD D) {s with toks:=t})),.of_wp λA R s ⟨a4,co,d3,l,es,n,k,r,I,xT,a7,aD,e,a'⟩=>?_,iY ‹_›,co,d3,l,es,n,k,r,I,xT,a7,aD,e,λV t az=>a' V t az⟩;show wpAny _ _ (dictGet d K>>=_) _ _ s;refine bd<|z8 (iY a4:A.units+7<cLine) I xT a7 aD e λV t az=>?_;have vj:=a' V t az;induction az with
 |some af=>exact b3 ⟨_,rfl,vj⟩
 |none=>show wpAny _ _ (Builtin.Dict.missed d K>>=_) _ _ _;exact bd (wpAny_missed_other aK (b3 ⟨_,rfl,vj⟩))) λ_ _ e=>e) λ_ _ e=>e)
end
theorem BK{i:Ă}{n j:ā}(h:jH i n=some j):seqIndex? i n=some j/\j<n/\-(n:Ă)<=i/\i<n:=by
 induction i using Int.casesOn with
 |ofNat k=>obtain⟨G,e⟩:=hc<|show(if k<n then some k else none)=some j from(bl<|mG k).symm.trans h;obtain rfl:=cT e;have aD:(k:Ă)<n:=ix.mpr G;exact⟨seqIndex_of (mG k) aD,G,Int.le_trans (Int.neg_nonpos_of_nonneg<|mG n)<|mG k,aD⟩
 |negSucc k=>obtain⟨G,e⟩:=hc<|show(if k+1<=n then some (n-(k+1))else none)=some j from(bm<|Int.not_le.mpr<|Int.negSucc_lt_zero k).symm.trans h;cases e;have am: -(n:Ă)<=.negSucc k:=Int.neg_le_neg<|Int.ofNat_le.mpr G;refine⟨(PySem.seqIndex_neg (Int.negSucc_lt_zero k) am).trans<|bI some ?_,Nat.sub_lt (gG (n4 k) G)<|n4 k,am,Int.lt_of_lt_of_le (Int.negSucc_lt_zero k)<|mG n⟩;rw[Int.add_comm];exact bI Int.toNat (Int.ofNat_sub G).symm
theorem A5{P:Params}{N:g2}{H:Heap}{os:OsState}{C:aY}{J:St}{s:Mt}(I:Inv P N H os C J s){n:ā}{a b:Addr}(G:C a=.st n)(E:C b=.st n):a=b:=I.uniq a b (G.trans E.symm) (by rw[G];trivial)
section
variable{c:cc}{A:Around}{O:Zr->Mt->Prop}{s:Mt}{C:aY}{J:St}
theorem qt(I:c.I C J s){n:ā}{aX:Zr}{l:HO B}(d1:bA c.P C (.ref n) aX)(e:J[n]?=some (.ls l)):dJ λa Vs k=>qi (aX=.ref a) (C a=.st n) (s.heap.get? a=some (cu Vs.toArray k)) (bD c.P C l Vs) (l.length<=a3):=by obtain⟨a,rfl,r⟩:=d1.of;obtain⟨_,_,_,G,E,aC,ba⟩:=(I.store n _ e).of;obtain rfl:=A5 I G r;exact⟨_,_,_,rfl,G,E,aC,ba⟩
theorem Af(I:c.I C J s){n:ā}{aX:Zr}{l:HO (B×B)}(d1:bA c.P C (.ref n) aX)(e:J[n]?=some (.cO l)):dJ λa es k=>dD (aX=.ref a) (C a=.st n) (iO c C s a l es k):=by obtain⟨a,rfl,r⟩:=d1.of;obtain⟨_,_,_,G,E,aC,ba,cN⟩:=(I.store n _ e).of;obtain rfl:=A5 I G r;exact⟨_,_,_,rfl,G,E,aC,cN,ba⟩
theorem gm.ref{h:Heap}{P:Params}{n:ā}{V:Zr}(x:gm P C h (.ref n) V):bA P C (.ref n) V:=by obtain⟨a,rfl,e⟩:=x.of;exact .ref e
theorem CP(I:c.I C J s){aX:Zr}{l:HO B}(d1:gm c.P C s.heap (.lst l) aX):dJ λa Vs k=>hZ (aX=.ref a) (s.heap.get? a=some (cu Vs.toArray k)) (bD c.P C l Vs) (l.length<=a3):=by obtain⟨a,Vs,n,rfl,e,b,d⟩:=d1.of;exact⟨_,_,_,rfl,e.elim (I.a5 _ _) And.right,b,d⟩
theorem CM(I:c.I C J s)(e5:∃o,c.H.get? sysModules=some o){a:Addr}(h:(C a).one):(a==sysModules)=false:=by obtain⟨o,az⟩:=e5;rw[lK];rintro rfl;rw[I.base _ o az]at h;exact h
theorem ti(I:c.I C J s)(e5:∃o,c.H.get? sysModules=some o){aX:Zr}{l:HO (B×B)}(d1:gm c.P C s.heap (.bb l) aX):dJ λa es k=>dD (aX=.ref a) (iO c C s a l es k) ((a==sysModules)=false):=by obtain⟨a,es,n,rfl,e,b,d,f⟩:=d1.of;exact⟨_,_,_,rfl,⟨e.elim (λe=>I.a5 _ _ e.1) And.right,b,f,d⟩,e.elim And.right λ⟨⟨_,e⟩,_⟩=>CM I e5<|by rw[e];trivial⟩
theorem Wj(I:c.I C J s){aX:Zr}{l:HO (B×B)}(d1:gm c.P C s.heap (.bb l) aX):dJ λa es k=>aX=.ref a/\iO c C s a l es k:=by obtain⟨a,es,n,rfl,e,b,d,f⟩:=d1.of;exact⟨_,_,_,rfl,e.elim (λe=>I.a5 _ _ e.1) And.right,b,f,d⟩
theorem Bf(I:c.I C J s){aX:Zr}{l:HO B}(d1:gm c.P C s.heap (.tup l) aX):dJ λa Vs k=>qi (aX=.ref a) (C a=.a5 (ed Vs.toArray k)) (s.heap.get? a=some (ed Vs.toArray k)) (bD c.P C l Vs) (l.length<=a3):=by obtain⟨a,Vs,n,rfl,e,b,d⟩:=d1.of;exact⟨_,_,_,rfl,e,I.a5 _ _ e,b,d⟩
theorem BV{P:Params}{h:Heap}{aX:Zr}{l:bx}(d1:gm P C h (.str l) aX):∃t,aX=.str ⟨l.toArray⟩ t/\l.length<=a3:=d1.of
theorem yx{P:Params}{aX:Zr}{i:Ă}(d1:bA P C (.int i) aX):∃t,aX=.int i t:=d1.of
theorem Lb{a:Addr}{Vs:HO Zr}{n:ā}{l:HO B}{i:Ă}{v:B}{t:Tok}{Q:Zr->Mt->Prop}(az:s.heap.get? a=some (cu Vs.toArray n))(af:bD c.P C l Vs)(aq:l.length<=a3)(e:((jH i l.length).bind λj=>l[j]?)=some v)(h:∀V t,bA c.P C v V->Q V {s with toks:=t}):wpAny c.M A (getItem (.ref a)<|.int i t) Q O s:=by
 obtain⟨j,ag,a8⟩:=bind_some e;clear e;obtain⟨G,E,aC,ba⟩:=BK ag;clear ag;obtain⟨V,c0,c9⟩:=af.get a8;clear a8;have aj:=af.length;have eN:l.length<=16777216:=aq;by_cases aU:0<=i
 .refine wpAny_getItem_list (hR az) aU (by lia) ?_<|h V s.toks c9;rw[seqIndex_of aU ba]at G;cases G;simpa using c0
 .refine wpAny_getItem_list_neg (hR az) (by lia) (by simp[aj];lia) (by lia) ?_<|h V s.toks c9;rw[PySem.seqIndex_neg (by lia) aC]at G;cases G;simpa[aj]using c0
theorem P8{a:Addr}{Vs:HO Zr}{n:ā}{l:HO B}{i:Ă}{v:B}{t:Tok}{Q:Zr->Mt->Prop}(az:s.heap.get? a=some (ed Vs.toArray n))(af:bD c.P C l Vs)(aq:l.length<=a3)(e:((jH i l.length).bind λj=>l[j]?)=some v)(h:∀V t,bA c.P C v V->Q V {s with toks:=t}):wpAny c.M A (getItem (.ref a)<|.int i t) Q O s:=by obtain⟨j,ag,a8⟩:=bind_some e;clear e;obtain⟨G,E,aC,ba⟩:=BK ag;clear ag;obtain⟨V,c0,c9⟩:=af.get a8;clear a8;have aj:=af.length;have eN:l.length<=16777216:=aq;exact PyProof.Rows.getItem_tuple (j:=j) (x:=V) ⟨_,az,rfl,n,rfl⟩ (by lia) (by lia) (by simpa[aj]using G) (by simpa using c0)<|h V s.toks c9
inductive cE (c:cc) (C:aY) (s:Shared) (k v:B):Value->Prop
 |lst (a:Addr) (Vs:List Value) (m:Nat) (l:List B):s.heap.get? a=some (cu Vs.toArray m)->bD c.P C l Vs->l.length<=a3->vR l k=some v->cE c C s k v (.ref a)
 |tup (a:Addr) (Vs:List Value) (m:Nat) (l:List B):s.heap.get? a=some (ed Vs.toArray m)->bD c.P C l Vs->l.length<=a3->vR l k=some v->cE c C s k v (.ref a)
 |str (l:bx) (t:Tok):l.length<=a3->I1 l k=some v->cE c C s k v (.str ⟨l.toArray⟩ t)
 |bb (a:Addr) (es:List DictEntry) (m:Nat) (l:List (B×B)):iO c C s a l es m->Dj l k=some v->cE c C s k v (.ref a)
theorem cE.of{o k v:B}{aX:Zr}(I:c.I C J s)(d1:gm c.P C s.heap o aX)(e:hn J o k=some v):cE c C s k v aX:=by
 induction o using B.casesOn with
 |ref n=>
  obtain⟨ct,aK,e⟩:=bind_some<|show(J[n]?).bind _=some v from e;induction ct using c4.casesOn with
  |ls l=>obtain⟨a,Vs,m,rfl,-,E,aC,ba⟩:=qt I d1.ref aK;exact .lst _ _ _ _ E aC ba e
  |cO l=>obtain⟨a,es,m,rfl,-,D⟩:=Af I d1.ref aK;exact .bb _ _ _ _ D e
  |ins=>exact bY e
 |tup l=>obtain⟨a,Vs,m,rfl,-,E,aC,ba⟩:=Bf I d1;exact .tup _ _ _ _ E aC ba e
 |lst l=>obtain⟨a,Vs,m,rfl,E,aC,ba⟩:=CP I d1;exact .lst _ _ _ _ E aC ba e
 |str l=>obtain⟨t,rfl,aq⟩:=BV d1;exact .str _ _ aq e
 |bb l=>obtain⟨a,es,m,rfl,D⟩:=Wj I d1;exact .bb _ _ _ _ D e
 |_=>exact bY e
theorem U1{o k v:B}{aX K:Zr}{Q:Zr->Mt->Prop}(a4:A.units+16<cLine)(I:c.I C J s)(d1:gm c.P C s.heap o aX)(ab:bA c.P C k K)(e:hn J o k=some v)(h:∀V t,bA c.P C v V->Q V {s with toks:=t}):wpAny c.M A (getItem aX K) Q O s:=by
 induction cE.of I d1 e with
 |lst a Vs m l E aC ba d=>obtain⟨i,rfl,d⟩:=fR.of d;obtain⟨t,rfl⟩:=yx ab;exact Lb E aC ba d h
 |tup a Vs m l E aC ba d=>obtain⟨i,rfl,d⟩:=fR.of d;obtain⟨t,rfl⟩:=yx ab;exact P8 E aC ba d h
 |str l t aq d=>
  replace d:=fR.of d;obtain⟨i,rfl,d⟩:=d;obtain⟨u,rfl⟩:=yx ab;clear ab;obtain⟨j,ag,a8⟩:=bind_some d;clear d;obtain⟨x,c0,c9⟩:=map_some a8;clear a8;obtain⟨G,E,aC,ba⟩:=BK ag;clear ag;have eN:l.length<=16777216:=aq;subst c9;refine PySem.P.getItem_str (c:=x) ?_ ?_ (h _ _<|.str [x] _<|by show 1<=a3;decide)
  .simp only[pG,mD];lia
  .show(seqIndex? i l.toArray.size).bind _=_;rw[eG,G];simpa using c0
 |bb a es m l D e=>obtain⟨a7,e⟩:=hc e;obtain⟨r,ag,a8⟩:=bind_some e;clear e;replace a8:r=some v:=a8;subst a8;exact UG a4 I D a7 ab ag h
theorem Ud{o k v:B}{aX:Zr}(I:c.I C J s)(d1:gm c.P C s.heap o aX)(e:hn J o k=some v):dW λT id=>s.TypeIs aX T/\typeLookup (.type T) "__getitem__"=pure (some<|.builtin id):=by
 induction cE.of I d1 e with
 |lst a Vs m l E=>exact⟨_,_,⟨_,E,rfl⟩,slot_list_getitem.lookup⟩
 |tup a Vs m l E=>exact⟨_,_,⟨_,E,rfl⟩,qW.lookup⟩
 |str=>exact⟨_,_,typeIs_str _ _ _,F.slot_str_getitem.lookup⟩
 |bb a es m l D=>exact⟨_,_,D.typeIs,slot_dict_getitem.lookup⟩
def yi (e:Ā):ZI:= !Nat.beq e.ctorIdx 26
theorem TE{rB:Ā}(h:yi rB=true)(o i:Zr):subscripted rB false o i=operate [o,i] (getItem o i):=qY (b:= !yi rB) (by induction rB using PySem.Expr.casesOn<;>first|exact @rfl _ (operate [o,i] (getItem o i))|trivial) (by rw[h];rfl)
theorem Pc{e i:Ā}{pos:Pos}{e3 m9:dk}(a4:A.units+16<cLine)(ae:yi i=true)(go:ll c A e e3)(gJ:Good c A i m9):Good c A (.Subscript e i pos) λr J K=>e3 r J (hv m9 r<|Gl K):=by intro O s ac C r J k K Q I F ag h;refine Subscript_<|go.use I F ag λo da e aX bM bs a0 bU bo d1=>gJ.use a0 bU e λbZ d3 e V co b9 cb ee bL ab=>ay.dw e λz fC e=>?_;have HY:=d1.ext a0 bL;obtain⟨T,id,jn,aj⟩:=Ud cb HY fC;exact tail_any jn aj (U1 a4 cb HY ab fC λV t cp=>h _ _ e V co _ (cb.toks t) ((bo.trans bL).trans<|br.toks co b9 t) cp)<|TE ae aX V
end
theorem IZ{e:Ā}{i:Ă}{pos:Pos}(g:Good c A e λ_ J K=>K (.int i) J):Good c A (.UnaryOp .USub e pos) λ_ J K=>K (.int<|-i) J:=by intro O s ac C r J k K Q I F ag h;refine wpAny_UnaryOp<|g.use (K:=λv bG=>v=.int i/\K (.int<|-i) bG) I F ⟨rfl,ag⟩ λv da e V bM bs a0 bU bo af=>?_;rw[e.1]at af;obtain⟨t,rfl⟩:=af.of;exact PySem.P.neg_int<|h _ _ e.2 _ bM _ (a0.toks _) (bo.trans<|br.toks bM bs _)<|.int _ _
inductive qL (c:cc) (A:Around):Option Expr->Option Int->Prop where
 |none:qL c A none none
 |some {e:Expr} {i:Int}:Good c A e (λ_ J K=>K (.int i) J)->qL c A (some e) (some i)
theorem qL.use{x:Z5 Ā}{p:Z5 Ă}(g:qL c A x p){O:Zr->Mt->Prop}{s:Mt}{ac:Env}{C:aY}{r:aJ}{J:St}{k:ā}{Q:Zr->Mt->Prop}(I:c.I C J s)(F:c.F C ac r s.heap k)(h:∀V aO ar,c.I aO J ar->c.F aO ac r ar.heap k->br C s aO ar->IsPart V p->Q V ar):wpAny c.M A (evalPart x ac) Q O s:=by
 induction g with
 |none=>rw[evalPart_none];exact b3<|h _ C s I F (br.refl C s) .none
 |@some _ i g=>rw[evalPart_some];exact g.use (K:=λv bG=>v=.int i/\bG=J) I F ⟨rfl,rfl⟩ λv bG e V aO ar dm g7 x af=>by rw[e.1]at af;rw[e.2]at dm;exact h V aO ar dm g7 x (by obtain⟨t,rfl⟩:=af.of;exact .int _ _)
theorem Qm{w:World}{prog:Program}{O:Zr->Mt->Prop}{s:Mt}{t aL:Addr}{Vs:HO Zr}{n:ā}{u:Tok}{Q:Zr->Mt->Prop}(dX:IsTup s.heap t Vs.toArray)(aK:s.heap.IsSliceOf aL .none (.int (-1) u) .none)(G:1<=Vs.length)(h:Q (.ref s.heap.objs.size) {s with heap:=s.heap.push (ed Vs.dropLast.toArray 0)})(hsz:Vs.length<=sizeLine):wpAny (model prog w) A (getItem (.ref t)<|.ref aL) Q O s:=by
 have xw:sizeOk (.seq Vs.dropLast.toArray):=by show Vs.dropLast.toArray.size<=sizeLine;rw[eG,List.length_dropLast];exact aI (Nat.sub_le _ _) hsz
 obtain⟨os,tq,ju,jP⟩:=id aK;clear aK;unfold getItem;try with_reducible refine gQ ?_
 first|refine bd (b3 ?_)|skip
 refine bd<|u0 dX.typeIs (by decide) ?_;refine bd<|sE (name:=Str.ofString "__getitem__") dX.typeIs qW<|nj qW dX.typeIs entry_tuple_getitem ?_<|args_tuple_getitem _ _;show wpAny _ _ (Builtin.Tuple.tupleItemsOf (.ref t)>>=_) _ _ s;refine bd<|tupleItemsOf_ dX<|bd<|wpAny_typeOf (⟨os,tq,ju⟩:s.TypeIs (.ref aL) "slice") ?_;rw[bl<|by decide];have app:∀{bV:Ă×Ă×ā->Mt->Prop} {v7:Zr->Mt->Prop},bV (0,1,Vs.length-1) s->wpAny (model prog w) A.in1 (Builtin.Slice.sliceApplied (.ref aL)<|pure ((Vs.toArray.size:ā):Ă)) bV v7 s:=by
  intro bV v7 aR;unfold Builtin.Slice.sliceApplied Builtin.Slice.sliceFields;refine bd<|bd<|wpAny_field tq jP (x:=.none) rfl<|bd<|wpAny_field tq jP (x:=.int (-1) u) rfl<|bd<|wpAny_field tq jP (x:=.none) rfl<|b3<|bd<|slicePart_none ?_;show wpAny _ _ (if((1:Ă)==0)=true then _ else _) _ _ s;rw[bm<|by decide];refine bd<|slicePart_none<|bd<|slicePart_int<|bd<|b3 ?_;show wpAny _ _ (match Builtin.Slice.sliceAdjust none (some<|-1) 1 ((Vs.toArray.size:ā):Ă)with|(lo,aB)=>pure (lo,(1:Ă),Builtin.Slice.slicePlaces lo aB 1)) _ _ s;have ag:Builtin.Slice.sliceAdjust none (some<|-1) 1 ((Vs.toArray.size:ā):Ă)=(0,((Vs.length-1:ā):Ă)):=by rw[eG];have pq:(-1:Ă)+(Vs.length:Ă)=((Vs.length-1:ā):Ă):=(Int.add_comm _ _).trans (Int.ofNat_sub G).symm;exact bI (Prod.mk (0:Ă))<|(bI (λx:Ă=>max x 0) pq).trans<|Int.max_eq_left<|mG _
  have a8:Builtin.Slice.slicePlaces 0 ((Vs.length-1:ā):Ă) 1=Vs.length-1:=by
   cases Vs.length-1 with
   |zero=>rfl
   |succ k=>show(if(0:Ă)<((k+1:ā):Ă)then(((k+1:ā):Ă)-0-1)/1+1 else 0).toNat=k+1;rw[bl<|show(0:Ă)<((k+1:ā):Ă)from ix.mpr<|n4 k,Int.ediv_one,tX,Int.sub_add_cancel];rfl
  rw[ag];show wpAny _ _ (pure ((0:Ă),(1:Ă),Builtin.Slice.slicePlaces 0 ((Vs.length-1:ā):Ă) 1)) _ _ s;rw[a8];exact b3 aR
 refine bd<|app ?_;have zI:¬(((0:Ă)==0&&(1:Ă)==1&&(Vs.length-1)==Vs.toArray.size)=true):=by
  have:(Vs.length-1==Vs.toArray.size)=false:=by rw[lK,eG];exact gK<|Nat.sub_lt G<|n4 0
  rw[this];simp
 show wpAny _ _ (if((0:Ă)==0&&(1:Ă)==1&&(Vs.length-1)==Vs.toArray.size)=true then _ else _) _ _ s;have kN:((List.range<|Vs.length-1).filterMap λ(k:ā)=>Vs.toArray[((0:Ă)+(k:Ă)*1).toNat]?).toArray=Vs.dropLast.toArray:=by
  have e:(λ(k:ā)=>Vs.toArray[((0:Ă)+(k:Ă)*1).toNat]?)=λk=>Vs.toArray[0+k]?:=by
   funext k;have:((0:Ă)+(k:Ă)*1).toNat=0+k:=by rw[Int.mul_one,Int.zero_add,iM];rfl
   rw[this]
  rw[e];have:=pick_run Vs.toArray 0<|Vs.length-1;rw[List.filterMap_map]at this;have a8:((λx=>Vs.toArray[x]?)∘λx=>0+x)=λk=>Vs.toArray[0+k]?:=rfl;rw[a8]at this;rw[this,List.dropLast_eq_take];simp
 rw[bm zI,kN];first
  |exact bd (m:=Builtin.Tuple.tupleExact _) (uP (b3 ⟨_,rfl,b3 h⟩) xw)
  |exact bd (m:=Builtin.Tuple.tupleExact _) (uP (bd (b3 (b3 ⟨_,rfl,b3 h⟩))) xw)
  |exact bd (bd (m:=Builtin.Tuple.tupleExact _) (uP (b3 (b3 ⟨_,rfl,b3 h⟩)) xw))
  |exact bd (bd (m:=Builtin.Tuple.tupleExact _) (uP (b3 ⟨_,rfl,b3 h⟩) xw))
theorem RN{w:World}{prog:Program}{O:Zr->Mt->Prop}{s:Mt}{t aL:Addr}{Vs:HO Zr}{u:Tok}{Q:Zr->Mt->Prop}(dX:IsTup s.heap t Vs.toArray)(aK:s.heap.IsSliceOf aL (.int 0 u) .none .none)(h:Q (.ref t) s):wpAny (model prog w) A (getItem (.ref t)<|.ref aL) Q O s:=by
 obtain⟨os,tq,ju,jP⟩:=id aK;have MP:s.TypeIs (.ref aL) "slice":=⟨os,tq,ju⟩;unfold getItem;try with_reducible refine gQ ?_
 first|refine bd (b3 ?_)|skip
 refine bd<|u0 dX.typeIs (by decide) ?_;refine bd<|sE (name:=Str.ofString "__getitem__") dX.typeIs qW<|nj qW dX.typeIs entry_tuple_getitem ?_<|args_tuple_getitem _ _;show wpAny _ _ (Builtin.Tuple.tupleItemsOf (.ref t)>>=_) _ _ s;refine bd<|tupleItemsOf_ dX<|bd<|wpAny_typeOf MP ?_;rw[bl<|by decide];refine bd<|sliceApplied_from (a:=0) aK (f8 _) ?_;show wpAny _ _ (if(((0:ā):Ă)==0&&(1:Ă)==1&&(Vs.toArray.size-0)==Vs.toArray.size)=true then _ else _) _ _ s;rw[bl<|by simp];refine bd (m:=Builtin.Tuple.tupleIsExact _) ?_;unfold Builtin.Tuple.tupleIsExact;refine bd<|wpAny_typeOf dX.typeIs<|b3 ?_;show wpAny _ _ (if(Value.type "tuple"==Value.type "tuple")=true then _ else _) _ _ s;rw[bl<|by decide];first
  |exact bd (wpAny_rule (b3 ⟨_,rfl,b3 h⟩))
  |exact bd (wpAny_rule (bd (b3 (b3 ⟨_,rfl,b3 h⟩))))
theorem Tv{lo up st:Z5 Ā}{p:Pos}{o i:Zr}:∃ops,subscripted (.Slice lo up st p) false o i=operate ops (getItem o i):=by induction st<;>exact⟨_,rfl⟩
noncomputable abbrev xP (a b d:Zr):Obj:={cls:=.type "slice",data:=.fields #[a,b,d]}
theorem o9{P:Params}{C:aY}{l:HO B}{aX:Zr}(h:bA P C (.tup l) aX):dJ λa Vs n=>hZ (aX=.ref a) (C a=.a5 (ed Vs.toArray n)) (bD P C l Vs) (l.length<=a3):=h.of
theorem pk{P:Params}{C:aY}{l:HO B}{aX:Zr}(h:bA P C (.lst l) aX):dJ λa Vs n=>hZ (aX=.ref a) (C a=.a5 (cu Vs.toArray n)) (bD P C l Vs) (l.length<=a3):=h.of
theorem bD.dropLast{P:Params}{C:aY}{l:HO B}{Vs:HO Zr}(h:bD P C l Vs):bD P C l.dropLast Vs.dropLast:=by rw[List.dropLast_eq_take,List.dropLast_eq_take,h.length];exact h.take _
def Made(c:cc)(C:aY)(J:St)(s:Mt)(v:B)(V:Zr)(ar:Mt):Prop:=∃aO,dD (c.I aO J ar) (br C s aO ar)<|bA c.P aO v V
theorem Xe{O:Zr->Mt->Prop}{s:Mt}{C:aY}{J:St}{o v:B}{aX mX wk vn:Zr}{aL:Addr}{a b d:Z5 Ă}{Q:Zr->Mt->Prop}(I:c.I C J s)(d1:bA c.P C o aX)(aK:s.heap.IsSliceOf aL mX wk vn)(sV:IsPart mX a)(tn:IsPart wk b)(pd:IsPart vn d)(e:rB o a b d=some v)(h:∀V ar,Made c C J s v V ar->Q V ar):dW λT id=>dD (s.TypeIs aX T) (typeLookup (.type T) "__getitem__"=pure (some<|.builtin id)) (wpAny c.M A (getItem aX<|.ref aL) Q O s):=by
 induction o using B.casesOn with
 |tup l=>
  obtain⟨t,Vs,m,rfl,G,E,aC⟩:=o9 d1;clear d1;have aj:=E.length;have fX:IsTup s.heap t Vs.toArray:=⟨_,I.a5 _ _ G,rfl,m,rfl⟩;have fin:∀{bC:HO Zr} {di:HO B},bD c.P C di bC->di.length<=a3->Made c C J s (.tup di) (.ref s.heap.objs.size) {s with heap:=s.heap.push (ed bC.toArray 0)}:=λ{bC di} r q=>⟨_,I.push (ed bC.toArray 0) rfl _<|.inl rfl,br.push I (ed bC.toArray 0)<|.a5<|ed bC.toArray 0,.tup (c2 _ _ _) ((br.push I (ed bC.toArray 0)<|.a5<|ed bC.toArray 0).iG I r) q⟩;refine⟨_,_,⟨_,I.a5 _ _ G,rfl⟩,qW.lookup,?_⟩;induction d with
  |some=>exact bY e
  |none=>
   cases pd;induction b with
   |none=>
    cases tn;induction a with
    |none=>exact bY e
    |some i=>
     induction i with
     |negSucc=>exact bY e
     |ofNat n=>obtain⟨am,e⟩:=hc<|show(if 1<=n/\n<=l.length then some (B.tup<|l.drop n)else none)=some v from e;cases e;cases sV with|int _ u=>exact getItem_tuple_from (a:=n) (items:=Vs.toArray) fX aK am.1 (by rw[eG,aj];exact am.2) (h _ _<|fin (E.drop n)<|by rw[vB];exact aI (Nat.sub_le _ _) aC) (by rw[eG,aj];exact aC)
   |some j=>
    induction a with
    |some=>exact bY e
    |none=>
     induction j with
     |ofNat=>exact bY e
     |negSucc n=>
      induction n with
      |succ=>exact bY e
      |zero=>
       cases sV;induction l using List.casesOn with
       |nil=>exact bY e
       |cons x l=>
        cases e;cases tn with|int _ u=>
        exact Qm (Vs:=Vs) (n:=0) fX aK (by rw[aj];exact n4 _) (h _ _<|fin E.dropLast<|by rw[List.length_dropLast];exact aI (Nat.sub_le _ _) aC) (by rw[aj];exact aC)
 |lst l=>
  obtain⟨t,Vs,m,rfl,G,E,aC⟩:=pk d1;clear d1;have aj:=E.length;have fX:=hR<|I.a5 _ _ G;have fin:∀{bC:HO Zr} {di:HO B},bD c.P C di bC->di.length<=a3->Made c C J s (.lst di) (.ref s.heap.objs.size) {s with heap:=s.heap.push (cu bC.toArray 0)}:=λ{bC di} r q=>⟨_,I.push (cu bC.toArray 0) rfl _<|.inl rfl,br.push I (cu bC.toArray 0)<|.a5<|cu bC.toArray 0,.lst (c2 _ _ _) ((br.push I (cu bC.toArray 0)<|.a5<|cu bC.toArray 0).iG I r) q⟩;refine⟨_,_,⟨_,I.a5 _ _ G,rfl⟩,slot_list_getitem.lookup,?_⟩;induction a with
  |some=>exact bY e
  |none=>
   induction d with
   |none=>
    induction b with
    |none=>exact bY e
    |some i=>
     induction i with
     |negSucc=>exact bY e
     |ofNat n=>
      cases e;refine wpAny_getItem_list_slice fX aK sV tn pd (by cases pd;exact λq=>nomatch q) ?_ (by rw[eG,aj];exact aC);rw[kms_pick_eq,show kms_pick Vs.toArray.toList none (some<|Int.ofNat n)=Vs.take n from ?_]
      .exact h _ _ (fin (E.take n)<|by rw[List.length_take];exact aI (Nat.min_le_right _ _) aC)
      .unfold kms_pick kms_lo kms_hi;simp only[bm<|show¬(Int.ofNat n<0)from Int.not_lt.mpr<|mG n,List.drop_zero,Nat.sub_zero];rw[show(Int.ofNat n).toNat=n from rfl];by_cases q:n<=Vs.length
       .rw[Nat.min_eq_left q]
       .rw[Nat.min_eq_right (by lia),List.take_length,s'<|by lia]
   |some j=>
    induction b with
    |some=>exact bY e
    |none=>
     induction j with
     |ofNat=>exact bY e
     |negSucc n=>
      induction n with
      |succ=>exact bY e
      |zero=>cases e;refine wpAny_getItem_list_slice fX aK sV tn pd (λq=>nomatch q) ?_ (by rw[eG,aj];exact aC);rw[show(some<|Int.negSucc 0)=some (-1)from rfl,krv_pick];exact h _ _ (fin E.reverse<|by rw[List.length_reverse];exact aC)
 |_=>exact bY e
theorem S'{e:Ā}{lo up st:Z5 Ā}{a b d:Z5 Ă}{p pos:Pos}{e3:dk}(go:Good c A e e3)(O6:qL c A lo a)(lr:qL c A up b)(ub:qL c A st d):Good c A (.Subscript e (.Slice lo up st p) pos) λr J K=>e3 r J (EK a b d K):=by intro O s ac C r J k K Q I F ag h;refine Subscript_<|go.use I F ag λo da e aX bM bs a0 bU bo d1=>ay.dw e λz fC e=>wpAny_Slice<|O6.use a0 bU λmX co b9 cb ee bL sV=>lr.use cb ee λwk kr f6 fM jI fu tn=>ub.use fM jI λvn yL iw hs mU kI pd=>?_;have F2:=((bL.trans fu).trans kI).trans<|br.push hs (xP mX wk vn) .ext;obtain⟨ops,U8⟩:=Tv (lo:=lo) (up:=up) (st:=st) (p:=p) (o:=aX) (i:=.ref iw.heap.objs.size);obtain⟨T,id,jn,aj,d_⟩:=Xe (A:=A) (O:=O) (hs.push (xP mX wk vn) rfl .ext<|.inr rfl) (F2.hh a0 d1) (Heap.IsSliceOf.new ..) sV tn pd fC λV ar ⟨aO,dm,eE,cp⟩=>h _ _ e V aO ar dm ((bo.trans F2).trans eE) cp;exact tail_any jn aj d_ U8
theorem qn.dw{o k:B}{f:B->Prop}{cS:Prop}(h:qn o k f)(q:∀l n,o=.tup l->k=.int (.ofNat n)->n<=l.length->f (.tup<|l.drop n)->cS):cS:=by
 induction o using B.casesOn with
 |tup l=>induction k using B.casesOn with
  |int i=>induction i with
   |ofNat n=>exact q l n rfl rfl h.1 h.2
   |negSucc=>exact False.elim h
  |_=>exact False.elim h
 |_=>exact False.elim h
theorem K9{e i:Ā}{p pos:Pos}{e3 m9:dk}(go:Good c A e e3)(gJ:Good c A i m9):Good c A (.Subscript e (.Slice (some i) none none p) pos) λr J K=>e3 r J (hv m9 r<|Gy K):=by
 intro O s ac C r J k K Q I F ag h;refine Subscript_<|go.use I F ag λo da e aX bM bs a0 bU bo d1=>wpAny_Slice ?_;rw[evalPart_some,evalPart_none];refine gJ.use a0 bU e λbZ d3 e V co b9 cb ee bL ab=>b3<|b3<|qn.dw e λl n BB xG am e=>?_;rw[xG]at ab;rw[BB]at d1;obtain⟨u,rfl⟩:=ab.of;have lc:=cb.push (xP (.int (Int.ofNat n) u) .none .none) rfl .ext<|.inr rfl;have ht:=bL.trans<|br.push cb (xP (.int (Int.ofNat n) u) .none .none) .ext;obtain⟨t,Vs,m,rfl,G,E,aC⟩:=o9<|ht.hh a0 d1;replace ht:=bo.trans ht;have aj:=E.length;have jn:IsTup _ t Vs.toArray:=⟨_,lc.a5 _ _ G,rfl,m,rfl⟩;refine tail_any (ops:=[.ref b9.heap.objs.size,.ref t]) (id:="tuple.__getitem__") jn.typeIs qW.lookup ?_ rfl;induction n with
 |zero=>exact RN jn (Heap.IsSliceOf.new ..)<|h _ _ e _ _ _ lc ht<|.tup G E aC
 |succ n=>refine getItem_tuple_from (a:=n+1) jn (Heap.IsSliceOf.new ..) (n4 _) (by rw[eG,aj];exact am) ?_ (by rw[eG,aj];exact aC);have n6:=br.push lc (ed (Vs.drop<|n+1).toArray 0)<|.a5<|ed (Vs.drop<|n+1).toArray 0;exact h _ _ e _ _ _ (lc.push (ed (Vs.drop<|n+1).toArray 0) rfl _<|.inl rfl) (ht.trans n6) (.tup (c2 _ _ _) (n6.iG lc<|E.drop<|n+1)<|by rw[vB];exact aI (Nat.sub_le _ _) aC)
theorem r5{f:Ă->Ă->Z5 B}{C:aY}{x y z:B}{V W:Zr}(af:bA c.P C x V)(bF:bA c.P C y W)(e:q2 f x y=some z):gS λa b t u=>dD (V=.int a t) (W=.int b u) (f a b=some z):=by replace e:=fR.of e;obtain⟨a,rfl,e⟩:=e;replace e:=fR.of e;obtain⟨b,rfl,e⟩:=e;obtain⟨t,rfl⟩:=af.of;obtain⟨u,rfl⟩:=bF.of;exact⟨a,b,t,u,rfl,rfl,e⟩
theorem Lv:pV c A .add:=by
 intro O s C J x y V W z Q I af bF e h;replace e:=Al<|show(if x.ctorIdx=2 then _ else _)=some z from e;rcases e with e|e
 .obtain⟨a,b,t,u,rfl,rfl,e⟩:=r5 af bF e;cases e;exact PySem.P.add_int<|h _ C _ (I.toks _) (br.toks C s _)<|.int _ _
 replace e:=Al e;rcases e with e|e
 .replace e:=rZ.of e;obtain⟨k,rfl,e⟩:=e;replace e:=rZ.of e;obtain⟨l,rfl,e⟩:=e;induction e4:k.isEmpty||l.isEmpty with
  |true=>rw[e4]at e;exact bY e
  |false=>
   rw[e4]at e;obtain⟨aq,rfl⟩:=t4 e;clear e;obtain⟨a,Vs,n,rfl,G,E,aC⟩:=o9 af;clear af;obtain⟨b,bC,m,rfl,ba,cN,d5⟩:=o9 bF;clear bF;replace e4:=pG.mp e4;have bL:=br.push I (ed (Vs++bC).toArray 0)<|.a5<|ed (Vs++bC).toArray 0;have ne:∀{k:HO B} {Vs:HO Zr},bD c.P C k Vs->k.isEmpty=false->¬Vs.toArray.isEmpty=true:=λh aD q=>by have:=h.isEmpty;rw[aD,q]at this;exact cH this
   refine PySem.P.add_tuple (I.a5 _ _ G) (I.a5 _ _ ba) (ne E e4.1) (ne cN e4.2) ?_ ?_
   .rw[show Vs.toArray++bC.toArray=(Vs++bC).toArray by simp];exact h _ _ _ (I.push (ed (Vs++bC).toArray 0) rfl _<|.inl rfl) bL (.tup (c2 _ _ _) (bL.iG I<|E.append cN)<|by rw[c'];exact aq)
   .simp[E.length,cN.length];exact aq
 .replace e:=lP.of e;obtain⟨k,rfl,e⟩:=e;replace e:=lP.of e;obtain⟨l,rfl,e⟩:=e;obtain⟨aq,rfl⟩:=t4 e;clear e;obtain⟨a,Vs,n,rfl,G,E,aC⟩:=pk af;clear af;obtain⟨b,bC,m,rfl,ba,cN,d5⟩:=pk bF;clear bF;have bL:=br.push I (cu (Vs++bC).toArray 0)<|.a5<|cu (Vs++bC).toArray 0;refine PySem.P.add_list (I.a5 _ _ G) (I.a5 _ _ ba) ?_ ?_
  .rw[show Vs.toArray++bC.toArray=(Vs++bC).toArray by simp];exact h _ _ _ (I.push (cu (Vs++bC).toArray 0) rfl _<|.inl rfl) bL (.lst (c2 _ _ _) (bL.iG I<|E.append cN)<|by rw[c'];exact aq)
  .simp[E.length,cN.length];exact aq
theorem WU:pV c A .sub:=by intro O s C J x y V W z Q I af bF e h;obtain⟨a,b,t,u,rfl,rfl,e⟩:=r5 af bF e;cases e;exact PySem.P.sub_int<|h _ C _ (I.toks _) (br.toks C s _)<|.int _ _
theorem ug{i:Ă}:small i=true↔-536870912<=i/\i<=536870912:=by unfold small;simp
theorem Bq{i:Ă}(h:small i=true):i.natAbs<=536870912:=by
 have h:=ug.mp h;induction i with
 |ofNat n=>exact Int.ofNat_le.mp h.2
 |negSucc n=>have h:=Int.neg_le_neg h.1;rw[Int.neg_neg]at h;exact Int.ofNat_le.mp h
theorem UZ{i:Ă}(h:small i=true):Builtin.Int.intBits i<=64:=by
 unfold Builtin.Int.intBits;split
 .exact aG rfl
 .rename_i q;have am:i.natAbs≠0:=λff=>q (by rw[Int.natAbs_eq_zero.mp ff];rfl);exact aI ((Nat.log2_lt am).mpr<|hI (Bq h) (jF rfl:536870912<2^31))<|aG rfl
theorem bD.oi{P:Params}{C:aY}{l:HO B}{Vs:HO Zr}(h:bD P C l Vs)(n:ā):bD P C (oi n l) (List.replicate n Vs).flatten:=by
 induction n with
 |zero=>exact .nil
 |succ n ap=>rw[List.replicate_succ,List.flatten_cons];exact h.append ap
theorem Qy{l:HO av}(n:ā):(oi n l).length=n*l.length:=by
 induction n with
 |zero=>exact(Nat.zero_mul _).symm
 |succ n ap=>show(l++oi n l).length=_;rw[c',ap,Nat.succ_mul,qp]
theorem Mb:pV c A .mul:=by
 intro O s C J x y V W z Q I af bF e h;replace e:=Al<|show(if x.ctorIdx=2 then _ else _)=some z from e;rcases e with e|e
 .obtain⟨a,b,t,u,rfl,rfl,e⟩:=r5 af bF e;obtain⟨aK,e⟩:=hc e;rw[eX]at aK;cases e;exact PySem.P.mul_int (h _ C _ (I.toks _) (br.toks C s _)<|.int _ _)<|IntMulOk.of_left<|UZ aK.1
 .replace e:=lP.of e;obtain⟨l,rfl,e⟩:=e;replace e:=fR.of e;obtain⟨x,rfl,e⟩:=e;obtain⟨Ld,e⟩:=hc e;have Z4:=ug.mp Ld;obtain⟨aq,rfl⟩:=t4 e;clear e;obtain⟨a,Vs,n,rfl,G,E,aC⟩:=pk af;clear af;obtain⟨u,rfl⟩:=bF.of;have az:=I.a5 _ _ G;have hsz:Vs.toArray.size*x.toNat<=16777216:=by rw[eG,E.length,Nat.mul_comm];exact(aq:x.toNat*l.length<=16777216)
  have iX:Builtin.List.listFitsIndex x=true:=by
   by_cases q:0<=x
   .exact fitsIndex_of q (by lia)
   .exact fitsIndex_neg (by lia) (by lia)
  refine wpAny_binaryOp_repeat_ref (T:="list") (U:="int") (by decide:(Value.type "list"==Value.type "int")=false) ⟨_,az,rfl⟩ (λar=>typeIs_int ar x u) noFill_list_mul F.fills_int_mul F.slot_int_rmul repeat_list F.slot_int_index.lookup<|call_meets F.slot_int_rmul (typeIs_int s x u) F.entry_int_rmul (F.args_int_rmul_2 _ _) (int___rmul___int_list x u a Vs.toArray n) ⟨az,rfl,⟨_,az,rfl⟩,call_meets F.slot_list_mul ⟨_,az,rfl⟩ F.entry_list_mul (F.args_list_mul_2 _ _) (AutoListH.list___mul___list_int_3 a Vs.toArray n x u (by rw[iX];decide) (Nat.not_lt.mpr<|aI hsz<|by decide)<|λq=>absurd (fj q)<|Nat.not_lt.mpr<|show _<=sizeLine from hsz) ⟨az,?_⟩⟩;have bn:(List.foldl (λlb iv=>lb++iv) #[] (List.replicate (if Vs.toArray.isEmpty=true then 0 else x.toNat) Vs.toArray))=(List.replicate x.toNat Vs).flatten.toArray:=by rw[listMul_foldl];induction Vs<;>simp
  have bL:=br.push I (cu (List.replicate x.toNat Vs).flatten.toArray 0)<|.a5<|cu (List.replicate x.toNat Vs).flatten.toArray 0;have:=h _ _ _ (I.push (cu (List.replicate x.toNat Vs).flatten.toArray 0) rfl _<|.inl rfl) bL (.lst (c2 _ _ _) (bL.iG I<|E.oi x.toNat)<|by rw[Qy];exact aq);rw[<-bn]at this;exact this
theorem Ub:pV c A .fdiv:=by intro O s C J x y V W z Q I af bF e h;obtain⟨a,b,t,u,rfl,rfl,e⟩:=r5 af bF e;obtain⟨aK,e⟩:=hc e;rw[eX]at aK;cases e;have aw:=ug.mp aK.2.2;exact PyProof.Rows.floordiv_int aK.1 (h _ C _ (I.toks _) (br.toks C s _)<|.int _ _)<|.inl<|PyProof.noPylong_small<|hI (Bq aK.2.2)<|jF rfl
theorem V_:pV c A .mod:=by
 intro O s C J x y V W z Q I af bF e h;obtain⟨a,b,t,u,rfl,rfl,e⟩:=r5 af bF e;replace e:(if b=0 then none else some (B.int<|Int.fmod a b))=some z:=e;by_cases aK:b=0
 .rw[bl aK]at e;exact bY e
 .rw[bm aK]at e;cases e;exact PyProof.Rows.mod_int' aK<|h _ C _ (I.toks _) (br.toks C s _)<|.int _ _
theorem RD:pV c A .band:=by
 intro O s C J x y V W z Q I af bF e h;obtain⟨a,b,t,u,rfl,rfl,e⟩:=r5 af bF e;induction a using Int.casesOn with
 |negSucc=>exact bY e
 |ofNat a=>
  induction b using Int.casesOn with
  |negSucc=>exact bY e
  |ofNat b=>
   cases e;refine PyProof.Rows.and_int ?_;have:Builtin.bitAnd (Int.ofNat a) (Int.ofNat b)=Int.ofNat (ly a b):=by unfold Builtin.bitAnd;simp[ly]
   rw[this];exact h _ C _ (I.toks _) (br.toks C s _)<|.int _ _
def BI(c:cc)(A:Around)(O:Zr->Mt->Prop)(s:Mt)(X cz:Zr)(t:ZI):Prop:=(∀(Q:Zr->Mt->Prop),(∀k,Q (.bool t) {s with toks:=k})->wpAny c.M A (compareOp .In X cz) Q O s)/\(∀(Q:Zr->Mt->Prop),(∀k,Q (.bool !t) {s with toks:=k})->wpAny c.M A (compareOp .NotIn X cz) Q O s)
theorem G2(a4:A.units+40<cLine){O:Zr->Mt->Prop}{s:Mt}{C:aY}{J:St}{x:B}{X:Zr}{t:ZI}(I:c.I C J s)(c7:bA c.P C x X){a:Addr}{l:HO (B×B)}{es:HO DictEntry}{n:ā}(D:iO c C s a l es n)(aK:(a==sysModules)=false)(e:(if eo x l=true then(fA x l).map (·.isSome)else none)=some t):BI c A O s X (.ref a) t:=by obtain⟨a7,e⟩:=hc e;obtain⟨r,ag,rfl⟩:=map_some e;exact⟨λQ h=>bd<|EM (iY ‹_›) I D aK a7 c7 ag λk=>b3<|h k,λQ h=>bd<|EM (iY ‹_›) I D aK a7 c7 ag λk=>b3<|h k⟩
theorem UQ{O:Zr->Mt->Prop}{s:Mt}{P:Params}{C:aY}{x:B}{X:Zr}{l:bx}{u:Tok}{t:ZI}(c7:bA P C x X)(e:Internal.contains x (.str l)=some t):BI c A O s X (.str ⟨l.toArray⟩ u) t:=by
 replace e:=l6.of e;obtain⟨m,rfl,e⟩:=e;obtain⟨v,rfl,-⟩:=c7.of;induction m using List.casesOn with
 |nil=>exact bY e
 |cons jO m=>
  induction m with
  |cons=>exact bY e
  |nil=>
   cases e;have aw:(!(Builtin.Str.occurrences ⟨l.toArray⟩ ⟨[jO].toArray⟩ 0 (Str.length ⟨l.toArray⟩) 1).isEmpty)=l.contains jO:=by refine(PySem.StrLaws.found_one ⟨l.toArray⟩ jO).trans ?_;simp[List.contains_eq_mem]
   exact⟨λQ h=>PySem.P.in_str (by rw[aw];exact h s.toks),λQ h=>PySem.P.notIn_str<|by rw[aw];exact h s.toks⟩
theorem IT(a4:A.units+40<cLine)(e5:∃o,c.H.get? sysModules=some o){O:Zr->Mt->Prop}{s:Mt}{C:aY}{J:St}{x y:B}{X cz:Zr}{t:ZI}(I:c.I C J s)(c7:bA c.P C x X)(jl:gm c.P C s.heap y cz)(e:qE J x y=some t):BI c A O s X cz t:=by
 induction y using B.casesOn with
 |ref n=>
  obtain⟨ct,aK,e⟩:=bind_some<|show(J[n]?).bind _=some t from e;induction ct using c4.casesOn with
  |cO l=>obtain⟨a,es,m,rfl,bn,D⟩:=Af I jl.ref aK;exact G2 a4 I c7 D (CM I e5<|by rw[bn];trivial) e
  |_=>exact bY e
 |bb l=>obtain⟨a,es,m,rfl,D,aK⟩:=ti I e5 jl;exact G2 a4 I c7 D aK e
 |tup l=>obtain⟨a,Vs,n,rfl,-,E,aC,-⟩:=Bf I jl;obtain⟨dn,rfl⟩:=AR (A:=A) (c7.af I) (iY ‹_›) (aC.af I) e;exact⟨λQ h=>in_tupleAt (nu s.heap x) (gs E) (λcz h=>dn cz<|m3.mp h) (by simpa using h s.toks),λQ h=>notIn_tupleAt (nu s.heap x) (gs E) (λcz h=>dn cz<|m3.mp h)<|by simpa using h s.toks⟩
 |lst l=>obtain⟨a,Vs,n,rfl,E,aC,-⟩:=CP I jl;obtain⟨dn,rfl⟩:=AR (A:=A) (c7.af I) (iY ‹_›) (aC.af I) e;exact⟨λQ h=>in_listAt (nu s.heap x) (hR E) (λcz h=>dn cz<|m3.mp h) (by simpa using h s.toks),λQ h=>notIn_listAt (nu s.heap x) (hR E) (λcz h=>dn cz<|m3.mp h)<|by simpa using h s.toks⟩
 |str l=>obtain⟨u,rfl,aq⟩:=BV jl;exact UQ c7 e
 |_=>exact bY e
theorem Yz(a4:A.units+40<cLine)(e5:∃o,c.H.get? sysModules=some o):k' c A .isin:=by intro O s C J x y V W t Q I af bF e h;exact(IT a4 e5 I af bF e).1 Q h
theorem M0(a4:A.units+40<cLine)(e5:∃o,c.H.get? sysModules=some o):k' c A .fV:=by intro O s C J x y V W t Q I af bF e h;obtain⟨b,ag,a8⟩:=map_some<|show(qE J x y).map (!·)=some t from e;subst a8;exact(IT a4 e5 I af bF ag).2 Q h
theorem yd(a4:A.units+40<cLine)(e5:∃o,c.H.get? sysModules=some o)(o:h0):k' c A o:=by
 induction o using h0.casesOn with
 |eq=>exact M8<|iY ‹_›
 |ne=>exact OG<|iY ‹_›
 |lt=>exact Qw
 |le=>exact KP
 |gt=>exact Pf
 |ge=>exact VL
 |isin=>exact Yz a4 e5
 |fV=>exact M0 a4 e5
 |is=>exact T6
 |oP=>exact Ta
theorem OE(o:kj):pV c A o:=by
 induction o using kj.casesOn with
 |add=>exact Lv
 |sub=>exact WU
 |mul=>exact Mb
 |fdiv=>exact Ub
 |mod=>exact V_
 |band=>exact RD
def xk (n:String):ZI:= !(["enumerate","zip","dict_itemiterator","dict_reverseitemiterator","odict_iterator","itertools.zip_longest","itertools.pairwise"].contains n)
structure op(c:cc)(C:aY)(bO:List B)(X:Value)(I:Addr)(f7:List Addr)(P:Nat->Value->Prop)(St:Nat->Heap->Prop):Prop where
 W:∀A:Around,A.handled=none->Walks c.prog c.w A I f7 [I] bO.length P St
 AS:∀b∈f7,b=I\/X=.ref b
 vals:∀i v,i<bO.length->P i v->∃x,bO[i]?=some x/\bA c.P C x v
 oO:∀i h,St i h->dJ λo n vs=>hZ (h.get? I=some o) (o.cls=.type n) (o.data=.fields vs)<|xk n=true
section
variable{c:cc}{A:Around}{O:Zr->Mt->Prop}{s:Mt}{C:aY}{J:St}
theorem bD.get'{P:Params}{C:aY}{l:HO B}{Vs:HO Zr}(h:bD P C l Vs){i:ā}{V:Zr}(e:Vs[i]?=some V):∃v,l[i]?=some v/\bA P C v V:=by have aB:=(g9.mp e).1;obtain⟨zT,ag,a8⟩:=h.get (i:=i) (v:=l[i]'(by rw[<-h.length];exact aB))<|fr _;rw[e]at ag;cases ag;exact⟨_,fr _,a8⟩
theorem Sd{a:Addr}{Vs:HO Zr}{n:ā}{l:HO B}{Q:Zr->Mt->Prop}(az:s.heap.get? a=some (cu Vs.toArray n))(af:bD c.P C l Vs)(eR:∀o f7 P St,op c C l (.ref a) s.heap.objs.size f7 P St->o.isFreed=false->St 0 (s.heap.push o)->Q (.ref s.heap.objs.size) {s with heap:=s.heap.push o}):wpAny c.M A (pyIter<|.ref a) Q O s:=by
 refine wpAny_pyIter_list (hR az)<|eR _ [s.heap.objs.size,a] (λi v=>Vs.toArray[i]?=some v) (λi h=>h.IsListIter s.heap.objs.size a i/\h.IsList a Vs.toArray) ⟨λjh eY=>?_,λb aw=>?_,λi v aB ae=>af.get' (i:=i) (V:=v) ?_,λi h st=>?_⟩ rfl ?_
 .have:=Walks.list (prog:=c.prog) (w:=c.w) eY s.heap.objs.size a (gK<|kk az) Vs.toArray;rwa[show Vs.toArray.size=l.length by rw[eG,af.length]]at this
 .simp at aw;rcases aw with rfl|rfl<;>simp
 .simpa using ae
 .obtain⟨⟨o,az,aq,bg⟩,-⟩:=st;exact⟨o,_,_,az,aq,bg,by decide⟩
 .exact⟨⟨_,gU _ rfl,rfl,rfl⟩,_,ie _ az,rfl,n,rfl⟩
theorem Lr{a:Addr}{Vs:HO Zr}{n:ā}{l:HO B}{Q:Zr->Mt->Prop}(az:s.heap.get? a=some (ed Vs.toArray n))(af:bD c.P C l Vs)(eR:∀o f7 P St,op c C l (.ref a) s.heap.objs.size f7 P St->o.isFreed=false->St 0 (s.heap.push o)->Q (.ref s.heap.objs.size) {s with heap:=s.heap.push o}):wpAny c.M A (pyIter<|.ref a) Q O s:=by
 refine wpAny_pyIter_tuple (gs az)<|eR _ [s.heap.objs.size,a] (λi v=>Vs.toArray[i]?=some v) (λi h=>h.IsTupleIter s.heap.objs.size a i/\h.IsTuple a Vs.toArray) ⟨λjh eY=>?_,λb aw=>?_,λi v aB ae=>af.get' (i:=i) (V:=v) ?_,λi h st=>?_⟩ rfl ?_
 .have:=Walks.tuple (prog:=c.prog) (w:=c.w) eY s.heap.objs.size a (gK<|kk az) Vs.toArray;rwa[show Vs.toArray.size=l.length by rw[eG,af.length]]at this
 .simp at aw;rcases aw with rfl|rfl<;>simp
 .simpa using ae
 .obtain⟨⟨o,az,aq,bg⟩,-⟩:=st;exact⟨o,_,_,az,aq,bg,by decide⟩
 .exact⟨⟨_,gU _ rfl,rfl,rfl⟩,_,ie _ az,rfl,n,rfl⟩
theorem Q5{l:bx}{t:Tok}{Q:Zr->Mt->Prop}(eR:∀o f7 P St,op c C (l.map λjO=>.str [jO]) (.str ⟨l.toArray⟩ t) s.heap.objs.size f7 P St->o.isFreed=false->St 0 (s.heap.push o)->Q (.ref s.heap.objs.size) {s with heap:=s.heap.push o}):wpAny c.M A (pyIter<|.str ⟨l.toArray⟩ t) Q O s:=by
 have vals:∀i v,i<(l.map λjO=>B.str [jO]).length->SignAt ⟨l.toArray⟩ i v->∃x,(l.map λjO=>B.str [jO])[i]?=some x/\bA c.P C x v:=by rintro i v-⟨jO,u,G,rfl⟩;exact⟨.str [jO],by rw[gN];simp at G;rw[G];rfl,.str [jO] u<|by show 1<=a3;decide⟩
 induction ak:(⟨l.toArray⟩:Str).cps.all (· <128)
 .refine wpAny_pyIter_wide ak<|eR _ [s.heap.objs.size] (SignAt ⟨l.toArray⟩) (λi h=>h.IsStrIter s.heap.objs.size "str_iterator" ⟨l.toArray⟩ t i) ⟨λjh eY=>?_,λb aw=>?_,vals,λi h st=>?_⟩ rfl ?_
  .have:=Walks.strWide (prog:=c.prog) (w:=c.w) eY s.heap.objs.size ⟨l.toArray⟩ t;rwa[show(⟨l.toArray⟩:Str).cps.size=(l.map λjO=>B.str [jO]).length by simp]at this
  .simp at aw;exact .inl aw
  .obtain⟨o,az,aq,bg⟩:=st;exact⟨o,_,_,az,aq,bg,by decide⟩
  .exact⟨_,gU _ rfl,rfl,rfl⟩
 .refine wpAny_pyIter_ascii ak<|eR _ [s.heap.objs.size] (SignAt ⟨l.toArray⟩) (λi h=>h.IsStrIter s.heap.objs.size "str_ascii_iterator" ⟨l.toArray⟩ t i) ⟨λjh eY=>?_,λb aw=>?_,vals,λi h st=>?_⟩ rfl ?_
  .have:=Walks.strAscii (prog:=c.prog) (w:=c.w) eY s.heap.objs.size ⟨l.toArray⟩ t;rwa[show(⟨l.toArray⟩:Str).cps.size=(l.map λjO=>B.str [jO]).length by simp]at this
  .simp at aw;exact .inl aw
  .obtain⟨o,az,aq,bg⟩:=st;exact⟨o,_,_,az,aq,bg,by decide⟩
  .exact⟨_,gU _ rfl,rfl,rfl⟩
theorem OV{a b:Ă}{x:Addr}{t u v:Tok}{Q:Zr->Mt->Prop}(az:s.heap.get? x=some (o_ a b t u v))(ak:small a=true)(aw:small b=true)(eR:∀o f7 P St,op c C ((List.range (b-a).toNat).map λ(i:ā)=>B.int<|a+Int.ofNat i) (.ref x) s.heap.objs.size f7 P St->o.isFreed=false->St 0 (s.heap.push o)->Q (.ref s.heap.objs.size) {s with heap:=s.heap.push o}):wpAny c.M A (pyIter<|.ref x) Q O s:=by
 have mh:=ug.mp ak;have ml:=ug.mp aw;have hsz:Builtin.Range.rangeSize a b 1=((b-a).toNat:ā):=by
  unfold Builtin.Range.rangeSize;by_cases q:a<b
  .rw[bl (show(1:Ă)>0 from by decide),bl q,Int.ediv_one,Int.sub_add_cancel,Int.toNat_of_nonneg<|Int.sub_nonneg_of_le<|Int.le_of_lt q]
  .rw[bl (show(1:Ă)>0 from by decide),bm q,Int.toNat_of_nonpos<|Int.sub_nonpos_of_le<|Int.not_lt.mp q];rfl
 have ng:∀{z:Ă},-4000000000<=z->z<=4000000000->Builtin.Range.rangeFitsLong z=true:=by intro z G E;unfold Builtin.Range.rangeFitsLong;rw[eX,jT,jT];lia
 have dA:∀{z:Ă},-536870912<=z/\z<=536870912->-4000000000<=z/\z<=4000000000:=λh=>⟨Int.le_trans (by decide) h.1,Int.le_trans h.2<|by decide⟩;refine wpAny_pyIter_range (t:=t) (u:=u) (v:=v) az ?_<|eR _ [s.heap.objs.size] (λi v=>∃t,v=.int (a+i*1) t) (λi h=>IsRangeIter h s.heap.objs.size (a+(i:ā)*1) (((b-a).toNat:Ă)-(i:ā)) 1) ⟨λjh eY=>?_,λb aw=>?_,λi v aB ae=>?_,λi h st=>?_⟩ rfl ?_
 .unfold Builtin.Range.small;rw[ng (dA mh).1 (dA mh).2,ng (z:=b) (dA ml).1 (dA ml).2,show Builtin.Range.rangeFitsLong 1=true from rfl,hsz,ng (z:=((b-a).toNat:ā)) (by lia)<|by lia];simp only[Bool.and_self,Bool.true_and,lW];right;rw[bl<|by decide];exact ng (by lia) (by lia)
 .have:=Walks.range (prog:=c.prog) (w:=c.w) eY s.heap.objs.size a 1 (b-a).toNat;rwa[show((List.range (b-a).toNat).map λ(i:ā)=>B.int<|a+Int.ofNat i).length=(b-a).toNat by simp]
 .simp at aw;exact .inl aw
 .obtain⟨t,rfl⟩:=ae;refine⟨.int<|a+Int.ofNat i,by rw[gN,List.getElem?_range (by simpa using aB:i<(b-a).toNat)];rfl,?_⟩;have:=bA.int (P:=c.P) (C:=C) (a+Int.ofNat i) t;rwa[show a+Int.ofNat i=a+(i:Ă)*1 by simp]at this⊢
 .exact⟨_,_,_,st,rfl,rfl,by decide⟩
 .rw[hsz];show Heap.get? _ _=_;rw[gU _ rfl];simp[rawInt]
theorem F8{l:HO (B×B)}{es:HO DictEntry}:d9 c.P C l es->(∀e∈l,eH e.1=1)->∃eW:HO (Ă×Zr),Pairs (PySem.intKind c.prog c.w) es eW/\KeysOf (PySem.intKind c.prog c.w) es.toArray/\l.map (·.1)=eW.map (λp=>.int p.1):=by
 refine d9.ind (M:=λl es=>(∀e∈l,eH e.1=1)->∃eW:HO (Ă×Zr),Pairs (PySem.intKind c.prog c.w) es eW/\KeysOf (PySem.intKind c.prog c.w) es.toArray/\l.map (·.1)=eW.map (λp=>.int p.1)) (λ_=>⟨[],.nil,λe h=>(nomatch m3.mp h),rfl⟩) λ{k v K V l es} a b r ap h=>?_;obtain⟨eW,G,E,aC⟩:=ap λe a6=>h e<|.tail _ a6;obtain⟨i,aB⟩:=EA<|h _<|.head _;clear ap h b r;subst aB;cases a with|int _ t=>
 refine⟨(i,_)::eW,.cons (jL i) rfl G,λe a6=>?_,bI (_::·) aC⟩;cases m3.mp a6 with
 |head=>exact⟨i,jL i,rfl⟩
 |tail _ a6=>exact E e<|m3.mpr a6
theorem GX{l:HO (B×B)}{es:HO DictEntry}:d9 c.P C l es->(∀e∈l,eH e.1=2)->∃eW:HO (Str×Zr),Pairs (PySem.strKind c.prog c.w) es eW/\KeysOf (PySem.strKind c.prog c.w) es.toArray/\l.map (·.1)=eW.map (λp=>.str p.1.cps.toList)/\∀p∈eW,p.1.cps.toList.length<=a3:=by
 refine d9.ind (M:=λl es=>(∀e∈l,eH e.1=2)->∃eW:HO (Str×Zr),Pairs (PySem.strKind c.prog c.w) es eW/\KeysOf (PySem.strKind c.prog c.w) es.toArray/\l.map (·.1)=eW.map (λp=>.str p.1.cps.toList)/\∀p∈eW,p.1.cps.toList.length<=a3) (λ_=>⟨[],.nil,λe h=>(nomatch m3.mp h),rfl,λp h=>(nomatch h)⟩) λ{k v K V l es} a b r ap h=>?_;obtain⟨eW,G,E,aC,ba⟩:=ap λe a6=>h e<|.tail _ a6;obtain⟨i,aB⟩:=G9<|h _<|.head _;clear ap h b r;subst aB;cases a with|str _ t aq=>
 refine⟨(⟨i.toArray⟩,_)::eW,.cons (jL _) rfl G,λe a6=>?_,bI (_::·) aC,λp ae=>?_⟩
 .cases m3.mp a6 with
  |head=>exact⟨⟨i.toArray⟩,jL _,rfl⟩
  |tail _ a6=>exact E e<|m3.mpr a6
 .cases ae with
  |head=>exact aq
  |tail _ ae=>exact ba p ae
theorem wS{av b8:Type}{f:av->b8}{l:HO av}(h:(l.map f).Nodup):l.Nodup:=by
 induction l with
 |nil=>exact q5
 |cons a r ap=>rw[gh,hV]at h;rw[hV];exact⟨λaN=>h.1<|dr.mpr ⟨a,aN,rfl⟩,ap h.2⟩
theorem Pg{d:Addr}{es:HO DictEntry}{n:ā}{l:HO (B×B)}{Q:Zr->Mt->Prop}(D:iO c C s d l es n)(aK:(d==sysModules)=false)(aD:((l.all λe=>eH e.1==1)||(l.all λe=>eH e.1==2))=true)(eR:∀o f7 P St,op c C (l.map (·.1)) (.ref d) s.heap.objs.size f7 P St->o.isFreed=false->St 0 (s.heap.push o)->Q (.ref s.heap.objs.size) {s with heap:=s.heap.push o}):wpAny c.M A (pyIter<|.ref d) Q O s:=by
 rw[lW]at aD;rcases aD with aD|aD
 .obtain⟨eW,G,E,aC⟩:=F8 D.rel λe a6=>by simpa using d'.mp aD e a6
  have am:(eW.map (·.1)).Nodup:=wS (f:=B.int) (by rw[f2];exact aC▸D.nodup);have b4:s.heap.DictAt (PySem.intKind c.prog c.w) d eW n:=⟨_,_,D.at_,⟨rfl,rfl,rfl⟩,rfl,E,by simpa using G,am⟩;have dS:eW.length=(l.map (·.1)).length:=by rw[aC,bT]
  refine wpAny_pyIter_dict aK b4<|eR _ [s.heap.objs.size,d] _ _ ⟨λjh eY=>dS▸Walks.dictKeys (knd:=PySem.intKind c.prog c.w) eY s.heap.objs.size d (gK b4.lt_size) eW n,λb aw=>?_,λi v aB ae=>?_,λi h st=>?_⟩ rfl ?_
  .simp at aw;rcases aw with rfl|rfl<;>simp
  .obtain⟨k,x,aA,i8⟩:=ae;refine⟨.int k,by rw[aC,gN,aA];rfl,?_⟩;obtain⟨t,rfl⟩:=Value.isInt_shape i8;clear i8;exact .int k t
  .obtain⟨⟨o,az,aq,bg⟩,-⟩:=st;exact⟨o,_,_,az,aq,bg,by decide⟩
  .rw[<-dS];exact⟨⟨_,gU _ rfl,rfl,rfl⟩,b4.push _⟩
 .obtain⟨eW,G,E,aC,ba⟩:=GX D.rel λe a6=>by simpa using d'.mp aD e a6
  have b4:s.heap.DictAt (PySem.strKind c.prog c.w) d eW n:=⟨_,_,D.at_,⟨rfl,rfl,rfl⟩,rfl,E,by simpa using G,wS (f:=λx:Str=>B.str x.cps.toList)<|by rw[f2];exact aC▸D.nodup⟩;have dS:eW.length=(l.map (·.1)).length:=by rw[aC,bT]
  refine wpAny_pyIter_dict aK b4<|eR _ [s.heap.objs.size,d] _ _ ⟨λjh eY=>dS▸Walks.dictKeys (knd:=PySem.strKind c.prog c.w) eY s.heap.objs.size d (gK b4.lt_size) eW n,λb aw=>?_,λi v aB ae=>?_,λi h st=>?_⟩ rfl ?_
  .simp at aw;rcases aw with rfl|rfl<;>simp
  .obtain⟨k,x,aA,i8⟩:=ae;refine⟨.str k.cps.toList,by rw[aC,gN,aA];rfl,?_⟩;obtain⟨t,rfl⟩:=Value.isStrOf_shape i8;clear i8;have:=bA.str (P:=c.P) (C:=C) k.cps.toList t<|ba (k,x)<|h9 aA;rwa[show(⟨k.cps.toList.toArray⟩:Str)=k by induction k;simp]at this
  .obtain⟨⟨o,az,aq,bg⟩,-⟩:=st;exact⟨o,_,_,az,aq,bg,by decide⟩
  .rw[<-dS];exact⟨⟨_,gU _ rfl,rfl,rfl⟩,b4.push _⟩
theorem wD{x:B}{X:Zr}{bO:HO B}{Q:Zr->Mt->Prop}(e5:∃o,c.H.get? sysModules=some o)(I:c.I C J s)(c7:gm c.P C s.heap x X)(e:items x=some bO)(eR:∀o f7 P St,op c C bO X s.heap.objs.size f7 P St->o.isFreed=false->St 0 (s.heap.push o)->Q (.ref s.heap.objs.size) {s with heap:=s.heap.push o}):wpAny c.M A (pyIter X) Q O s:=by
 induction x using B.casesOn with
 |tup l=>cases e;obtain⟨a,Vs,n,rfl,-,E,aC,-⟩:=Bf I c7;exact Lr E aC eR
 |lst l=>cases e;obtain⟨a,Vs,n,rfl,E,aC,-⟩:=CP I c7;exact Sd E aC eR
 |str l=>cases e;obtain⟨t,rfl,-⟩:=BV c7;clear c7;exact Q5 eR
 |bb l=>obtain⟨aD,e⟩:=hc<|show(if((l.all λe=>eH e.1==1)||(l.all λe=>eH e.1==2))=true then some (l.map (·.1))else none)=some bO from e;cases e;obtain⟨a,es,n,rfl,D,aK⟩:=ti I e5 c7;exact Pg D aK aD eR
 |ey a b=>cases e;obtain⟨x,t,u,w,rfl,G,E,aC,ba⟩:=c7.of;exact OV (I.a5 _ _ G) E aC eR
 |_=>exact bY e
end
theorem nd{e:Ā}{a_:HO Ā}{ac:Env}{pos:Pos}(h:fG e=false):backTo pos (starEach (e::a_) ac)=(false,eval e ac)::backTo pos (starEach a_ ac):=by rw[u2 h];rfl
def o8(c:cc)(A:Around)(F:Zr)(f:St->B->Z5 B):Prop:=∀O s C J v V z (Q:Zr->Mt->Prop),c.I C J s->bA c.P C v V->f J v=some z->y_ c C s Q z J->wpAny c.M A (call F [V]) Q O s
theorem MQ{x:Str}{np pos:Pos}{e:Ā}{w:dk}{f:St->B->Z5 B}{F:Zr}(aX:c.Ok)(d_:c.cB x=true)(aN:c.gL x=none)(af:c.j7 x=some F)(bg:(x==("__debug__":Str))=false)(aK:fG e=false)(g:Good c A e w)(kT:(∃id,F=.builtin id)\/∃T,F=.type T)(aq:o8 c A F f):Good c A (.Call (.Name x np) [e] [] pos) λr J K=>w r J λv J=>lO (f J v) K J:=by
 intro O s ac C r J k K Q I hi ag h;have fin:wpAny c.M A (eval e ac) (λV s=>wpAny c.M A (call F [V]) Q O s) O s:=g.use I hi ag λv da e V bM bs a0 bU bo af=>ay.dw e λz c9 e=>aq _ _ bM _ v V _ _ a0 af c9 λZ co b9 cb bL hz=>h _ _ e Z co b9 cb (bo.trans bL) hz;refine Call_name1 (by rw[u2 aK];rfl)<|uo aX I hi d_ aN af bg ?_;rcases kT with⟨id,rfl⟩|⟨T,rfl⟩
 .exact PySem.callWith_builtin1 fin
 .exact PySem.callWith_type1 fin
theorem Xs{O:Zr->Mt->Prop}{s:Mt}{C:aY}{d:Addr}{es:HO DictEntry}{n:ā}{l:HO (B×B)}{Q:Zr->Mt->Prop}(bg:(d==sysModules)=false)(D:iO c C s d l es n)(h:Q (.int l.length<|s.toks+1) {s with toks:=s.toks+1+1}):wpAny c.M A (call (.builtin "len") [.ref d]) Q O s:=by
 have aj:=D.rel.length;have aq:l.length<=16777216:=D.a3;refine Calls.call_function_entry kind_len plain_len entry_len (args_len1 _) ?_;unfold Builtin.«len»;refine bd (m:=oneArg "len" _)<|b3 ?_;refine bd (m:=callSpecial? (.ref d)<|Str.ofString "__len__")<|sE (name:=Str.ofString "__len__") D.typeIs F.slot_dict_len<|nj F.slot_dict_len D.typeIs F.entry_dict_len ?_<|F.args_dict_len_1 _;show wpAny _ _ (dictSize d>>=_) _ _ s;unfold dictSize;refine bd<|bd<|wpAny_dictEntries D.at_ rfl<|b3 ?_;show wpAny _ _ (Builtin.Dict.pendingCount d>>=_) _ _ s;refine bd<|wpAny_pendingCount_other bg<|wpAny_ret_mkInt ?_;have a6:((es.toArray.size:ā):Ă)+((0:ā):Ă)=((l.length:ā):Ă):=by rw[eG,aj];simp
 rw[a6];refine bd<|gQ<|b3<|bd<|wpAny_letGo ?_;show wpAny _ _ (if((l.length:ā):Ă)<0 then _ else _) _ _ _;rw[bm<|by lia];show wpAny _ _ (if((l.length:ā):Ă)>=2^63 then _ else _) _ _ _;rw[bm<|by lia];exact bd<|wpAny_mkInt<|b3 ⟨_,rfl,h⟩
theorem LR(aX:c.Ok):o8 c A (.builtin "len") (nY .len):=by
 intro O s C J v V z Q I af e h;have len:∀{a:Addr} {l:HO B} {Vs:HO Zr} {m:ā},s.heap.get? a=some (cu Vs.toArray m)->bD c.P C l Vs->l.length<=a3->z=.int l.length->wpAny c.M A (call (.builtin "len") [.ref a]) Q O s:=by rintro a l Vs m E aC ba rfl;have Wl:l.length<=16777216:=ba;have aj:=aC.length;refine call_len_list (hR E) (by rw[eG,aj];lia) ?_;rw[eG,aj];exact h _ C _ (I.toks _) (br.toks C s _)<|.int _ _
 replace e:Gf J v=some z:=e;induction v using B.casesOn with
 |ref n=>
  obtain⟨ct,aK,e⟩:=bind_some<|show(J[n]?).bind _=some z from e;induction ct using c4.casesOn with
  |ls l=>obtain⟨a,Vs,m,rfl,-,E,aC,ba⟩:=qt I af aK;exact len E aC ba (cT e).symm
  |_=>exact bY e
 |tup l=>cases e;obtain⟨a,Vs,m,rfl,E,aC,ba⟩:=o9 af;clear af;have Wl:l.length<=16777216:=ba;have aj:=aC.length;refine PySem.P.len_tuple (I.a5 _ _ E) (by rw[eG,aj];lia) ?_;rw[eG,aj];exact h _ C _ (I.toks _) (br.toks C s _)<|.int _ _
 |lst l=>obtain⟨a,Vs,m,rfl,E,aC,ba⟩:=pk af;exact len (I.a5 _ _ E) aC ba (cT e).symm
 |bb l=>cases e;obtain⟨a,es,m,rfl,D,aK⟩:=ti I aX.sys<|.val af;exact Xs aK D<|h _ C _ (I.toks _) (br.toks C s _)<|.int _ _
 |str l=>
  cases e;obtain⟨t,rfl,aq⟩:=af.of;have eN:l.length<=16777216:=aq;have ag:Str.length ⟨l.toArray⟩=l.length:=by unfold Str.length;rw[eG]
  refine PySem.P.len_str (by rw[ag];lia) ?_;rw[ag];exact h _ C _ (I.toks _) (br.toks C s _)<|.int _ _
 |_=>exact bY e
theorem XS:o8 c A (.type "tuple") (nY .tuple):=by
 intro O s C J v V z Q I af e h;replace e:IE v=some z:=e;induction v using B.casesOn with
 |tup l=>cases e;obtain⟨a,Vs,m,rfl,E,aC,ba⟩:=o9 af;exact call_tuple_same (gs<|I.a5 _ _ E)<|h _ C s I (br.refl C s) af
 |lst l=>cases e;obtain⟨a,Vs,m,rfl,E,aC,ba⟩:=pk af;clear af;refine call_tuple_list (hR<|I.a5 _ _ E) (λaR aD=>?_) (by rw[eG,aC.length];exact ba);have a0:=I.grow aD s.toks;have bo:=br.grow C aD s.toks;have bL:=br.push a0 (ed Vs.toArray 0)<|.a5<|ed Vs.toArray 0;exact h _ _ _ (a0.push (ed Vs.toArray 0) rfl _<|.inl rfl) (bo.trans bL)<|.tup (c2 _ _ _) ((bo.trans bL).iG I aC) ba
 |_=>exact bY e
theorem JH{i:Ă}:Str.ofString (toString i)=⟨(dp i).toArray⟩:=Str.ofString_eq_toList _
theorem RV:o8 c A (.type "str") (nY .str):=by
 intro O s C J v V z Q I af e h;replace e:=fR.of e;obtain⟨i,rfl,e⟩:=e;obtain⟨aK,e⟩:=hc e;obtain⟨aq,rfl⟩:=t4 e;obtain⟨t,rfl⟩:=af.of;refine PySem.P.str_of_int ?_ ?_
 .by_cases q:i.natAbs=0
  .rw[q];decide
  .exact gG ((Nat.log2_lt q).mpr<|hI (Bq aK) (jF rfl:536870912<2^31))<|aG rfl
 .rw[show((toString i:String):Str)=⟨(dp i).toArray⟩from JH];exact h _ C _ (I.toks _) (br.toks C s _)<|.str _ _ aq
theorem RR:o8 c A (.type "int") (nY .int):=by
 intro O s C J v V z Q I af e h;replace e:=l6.of e;obtain⟨l,rfl,e⟩:=e;obtain⟨n,ag,a8⟩:=map_some e;clear e;subst a8;obtain⟨t,rfl,aq⟩:=af.of;have G:=um ag;rw[jT]at G;subst G;rw[<-JH];have aC:n<64:=by simpa using(ye ag)
 exact PySem.W.KIN.call_num (by simp) (by simp;lia)<|h _ C _ (I.toks _) (br.toks C s _)<|.int _ _
theorem Hc{l:HO B}:∀{ci:HO ZI},qD l=some ci->l=ci.map .bool:=by
 induction l with
 |nil=>intro ci e;cases e;rfl
 |cons v l ap=>
  intro ci e;induction v using B.casesOn with
  |bool b=>obtain⟨ZX,ag,rfl⟩:=map_some<|show(qD l).map _=some ci from e;rw[ap ag];rfl
  |_=>exact bY e
theorem Ek{l:HO B}{ci:HO ZI}(e:qD l=some ci):ci.length=l.length:=by rw[Hc e,bT]
theorem JC{C:aY}{J:St}{s:Mt}(I:c.I C J s){o:Obj}{aR:Heap}{cM:ā}(aD:∀b hE,b∉[s.heap.objs.size]->(s.heap.push o).get? b=some hE->aR.get? b=some hE):c.I C J {s with heap:=aR,toks:=cM}/\br C s C {s with heap:=aR,toks:=cM}:=by have bZ:∀b hE,s.heap.get? b=some hE->aR.get? b=some hE:=λb hE e=>aD b hE (by simp;exact gK<|kk e)<|ie _ e;exact⟨I.grow bZ cM,br.grow C bZ cM⟩
theorem Yw{l:HO B}{ci:HO ZI}{i:ā}{x:B}(e:qD l=some ci)(h:l[i]?=some x):x=.bool (ci.getD i false):=by rw[Hc e,gN]at h;obtain⟨b,G,rfl⟩:=map_some h;rw[lM,G];rfl
theorem op.bounded{C:aY}{bO:HO B}{X:Zr}{I:Addr}{f7:HO Addr}{P:ā->Zr->Prop}{St:ā->Heap->Prop}(T:op c C bO X I f7 P St){jh:Around}(eY:jh.handled=none):Walks c.prog c.w jh I f7 [I] bO.length (λi v=>i<bO.length/\P i v) St:=let W:=T.W jh eY;⟨W.sub,W.frame,λi s Q O aB st eR=>W.item i s Q O aB st λv aR cM ae=>eR v aR cM ⟨aB,ae⟩,W.done,W.self⟩
theorem GU{jh:Around}{C:aY}{X:Zr}{l:HO B}{I:Addr}{f7:HO Addr}{P:ā->Zr->Prop}{St:ā->Heap->Prop}{ci:HO ZI}(T:op c C l X I f7 P St)(aw:qD l=some ci):TruthOf c.prog c.w jh (λi v=>i<l.length/\P i v) λi=>ci.getD i false:=by rintro i v s Q O⟨aB,ae⟩a';obtain⟨x,G,E⟩:=T.vals i v aB ae;rw[Yw aw G]at E;cases E;exact rK a'
theorem Ke:∀(ci:HO ZI),(List.range ci.length).any (λi=>ci.getD i false)=ci.any id
 |[]=>rfl
 |b::r=>by rw[nA,List.range_succ_eq_map,List.any_cons,List.any_map,List.any_cons,<-Ke r];rfl
theorem Iy:∀(ci:HO ZI),(List.range ci.length).all (λi=>ci.getD i false)=ci.all id
 |[]=>rfl
 |b::r=>by rw[nA,List.range_succ_eq_map,sU,py,sU,<-Iy r];rfl
theorem Lj(aX:c.Ok)(eY:A.handled=none):o8 c A (.builtin "any") (nY .any):=by intro O s C J v V z Q I af e h;replace e:=lP.of e;obtain⟨l,rfl,e⟩:=e;obtain⟨ci,ag,a8⟩:=map_some e;clear e;subst a8;refine call_any_walk<|wD aX.sys I (.val af) (show items (.lst l)=some l from rfl) λo f7 P St T a7 st=>⟨_,f7,_,_,_,_,λi=>ci.getD i false,rfl,T.bounded eY,st,GU T ag,λaR cM aD=>?_⟩;obtain⟨a0,bo⟩:=JC I (o:=o) (cM:=cM) aD;have:=h _ C _ a0 bo<|.bool _;rwa[<-Ke,Ek ag]at this
theorem LB(aX:c.Ok)(eY:A.handled=none):o8 c A (.builtin "all") (nY .all):=by intro O s C J v V z Q I af e h;replace e:=lP.of e;obtain⟨l,rfl,e⟩:=e;obtain⟨ci,ag,a8⟩:=map_some e;clear e;subst a8;refine call_all_walk<|wD aX.sys I (.val af) (show items (.lst l)=some l from rfl) λo f7 P St T a7 st=>⟨_,f7,_,_,_,_,λi=>ci.getD i false,rfl,T.bounded eY,st,GU T ag,λaR cM aD=>?_⟩;obtain⟨a0,bo⟩:=JC I (o:=o) (cM:=cM) aD;have:=h _ C _ a0 bo<|.bool _;rwa[<-Iy,Ek ag]at this
theorem We{np sp pos:Pos}{e:Ā}{w:dk}(aX:c.Ok)(d_:c.cB "isinstance"=true)(aN:c.gL "isinstance"=none)(af:c.j7 "isinstance"=some (.builtin "isinstance"))(Xk:c.cB "str"=true)(eh:c.gL "str"=none)(Wn:c.j7 "str"=some (.type "str"))(aK:fG e=false)(g:Good c A e w):Good c A (.Call (.Name "isinstance" np) [e,.Name "str" sp] [] pos) λr J K=>w r J λv J=>lO (nY .p0 J v) K J:=by
 intro O s ac C r J k K Q I hi ag h;refine wpAny_Call_NameR<|uo aX I hi d_ aN af (by decide) ?_;rw[nd aK,nd (e:=.Name "str" sp) rfl];refine Calls.callWith_builtin rfl<|Calls.evalArgs_plain<|ut<|g.use I hi ag λv da e V bM bs a0 bU bo cp=>ut<|uo aX a0 bU Xk eh Wn (by decide)<|Calls.spliced_nil ?_;induction v using B.casesOn with
 |str l=>obtain⟨t,rfl,-⟩:=cp.of;exact PySem.IsiPair.str_str<|h _ _ e _ bM _ a0 bo<|.bool _
 |int i=>obtain⟨t,rfl⟩:=cp.of;exact PySem.IsiPair.int_str<|h _ _ e _ bM _ (a0.toks _) (bo.trans<|br.toks bM bs _)<|.bool _
 |_=>exact False.elim e
theorem kq.dw{v:B}{f:HO B->Prop}(h:kq v f):∃l,v=.lst l/\f l:=by
 induction v using B.casesOn with
 |lst l=>exact⟨l,rfl,h⟩
 |_=>exact h.elim
theorem HV{v:B}{p:Prop}(h:nU .get v p):∃l,v=.bb l/\p:=by
 induction v using B.casesOn with
 |bb l=>exact⟨l,rfl,h⟩
 |_=>exact h.elim
theorem N'{h:Heap}{x:B}{l:HO B}:∀{Vs:HO Zr} {n:ā} {z:B},d8 h l Vs->(hN x l).isSome=true->k2.go x l n=some z->∃j,z=.int (n+j:ā)/\j<Vs.length/\(∀V,Vs[j]?=some V->nu h x V=true)/\∀m V,m<j->Vs[m]?=some V->nu h x V=false:=by
 induction l with
 |nil=>exact λ_ _ e=>bY e
 |cons y r ap=>
  intro Vs n z af ae e;cases af with|cons a b=>
  obtain⟨fl,aw⟩:=gZ.mp ae;clear ae;obtain⟨t,ag,a8⟩:=bind_some<|show(fd y x).bind _=some fl from aw;clear aw;obtain⟨u,c0,c9⟩:=map_some a8;clear a8;replace e:(match fd y x with|some true=>some (B.int n)|some false=>k2.go x r (n+1)|none=>none)=some z:=e;rw[ag]at e;induction t with
  |true=>cases e;exact⟨0,rfl,n4 _,λV cp=>cT cp▸BX a ag,λm V aN=>absurd aN<|Nat.not_lt_zero _⟩
  |false=>
   obtain⟨j,G,E,aC,ba⟩:=ap b (by rw[c0];rfl) e;refine⟨j+1,by rw[G,ro],vh E,λV cp=>aC V cp,λm V aN cp=>?_⟩;induction m using Nat.casesOn with
   |zero=>exact cT cp▸BX a ag
   |succ m=>exact ba m V (Nat.lt_of_succ_lt_succ aN) cp
theorem ww{o:Ā}{name:Str}{ac:Env}(h:lf o=false):attributeBase o name ac (eval o ac)=eval o ac:=by exact qY (b:=lf o) (by induction o using PySem.Expr.casesOn<;>first|rfl|trivial) h
theorem Rb{o e:Ā}{hS pos:Pos}{e3 w:dk}(a4:A.units+40<cLine)(aw:lf o=false)(lN:(hS.endLine==pos.line)=true)(aK:fG e=false)(go:Good c A o e3)(g:Good c A e w):Good c A (.Call (.Attribute o "index" hS) [e] [] pos) λr J K=>e3 r J λv J=>kq v λ_=>w r J λx J=>lO (IJ .index v x) K J:=by
 intro O s ac C r J k K Q I hi ag h;refine xj (ww aw) lN (nd aK)<|go.use I hi ag λv da e V bM bs a0 bU bo cp=>?_;obtain⟨l,rfl,e⟩:=kq.dw e;obtain⟨a,Vs,n,rfl,G,E,aC⟩:=pk cp;clear cp;have wC:l.length<=16777216:=aC;have az:=a0.a5 _ _ G;refine⟨"list","list.index",PySem.F.plainAttrs_list,PySem.F.slot_list_index,PySem.F.type_list_index,⟨_,az,rfl⟩,λb aw=>?_,?_⟩
 .cases aw;exact⟨_,az,rfl⟩
 refine method_meets PySem.F.slot_list_index PySem.F.entry_list_index rfl<|Calls.evalArgs_plain<|ut<|g.use a0 bU e λx d3 e X co b9 cb ee bL c7=>Calls.spliced_nil<|ay.dw e λz fC e=>?_;replace fC:(if _ then _ else _)=some z:=fC;have mj:=bL.iG a0 E;have Fo:=cb.a5 _ _<|bL.zero.oG a0 _ _ G;obtain⟨ae,fC⟩:=hc fC;obtain⟨j,b0,bt,dN,gT⟩:=N' (n:=0) (mj.af cb) ae fC;obtain⟨fl,D6⟩:=gZ.mp ae;clear ae;obtain⟨dn,-⟩:=AR (A:=A) (c7.af cb) (iY ‹_›) (mj.af cb) D6;clear D6;have aj:=mj.length;refine⟨rfl,⟨_,Fo,rfl⟩,PySem.F.args_list_index_2 _ _,_,list_indexAt a Vs.toArray n none #[] X (nu b9.heap x) j (by simpa using bt) (by lia) ?_ ?_,Fo,by simpa using dn,?_⟩
 .exact dN _ (by rw[List.getElem_toArray];exact fr _)
 .intro m aN UB;exact gT m _ UB (by rw[List.getElem_toArray];exact fr _)
 .rw[b0]at e;have:=h _ _ e _ co _ (cb.toks<|b9.toks+1) ((bo.trans bL).trans<|br.toks co b9 _)<|.int _ b9.toks;simpa using this
theorem Oy{o e d:Ā}{hS pos:Pos}{e3 w uf:dk}(aX:c.Ok)(a4:A.units+40<cLine)(aw:lf o=false)(lN:(hS.endLine==pos.line)=true)(aK:fG e=false)(l9:fG d=false)(go:Good c A o e3)(g:Good c A e w)(ub:Good c A d uf):Good c A (.Call (.Attribute o "get" hS) [e,d] [] pos) λr J K=>e3 r J λv J=>nU .get v (w r J λx J=>uf r J λy J=>lO (JM .get v x y) K J):=by
 intro O s ac C r J k K Q I hi ag h;refine wpAny_Call_method2_late (ww aw) lN (by rw[nd aK,nd l9];rfl)<|go.use I hi ag λv da e V bM bs a0 bU bo cp=>?_;obtain⟨l,rfl,e⟩:=HV e;obtain⟨a,es,n,rfl,D,Q4⟩:=ti a0 aX.sys<|.val cp;refine⟨"dict","dict.get",PySem.F.plainAttrs_dict,PySem.F.slot_dict_get,PySem.F.type_dict_get,D.typeIs,λb aw=>?_,?_⟩
 .cases aw;exact⟨_,D.at_,rfl⟩
 refine XI (iY ‹_›) Q4<|g.use a0 bU e λx d3 e X co b9 cb ee bL c7=>ub.use cb ee e λy vp e cz kr f6 fM jI fu jl=>ay.dw e λz k4 e=>?_;replace k4:(if _ then _ else _)=some z:=k4;obtain⟨a7,k4⟩:=hc k4;obtain⟨Ls,b0,bt⟩:=map_some k4;clear k4;subst bt;obtain⟨hg,cx,n',mh,wU,-⟩:=ti fM aX.sys<|.val<|(bL.trans fu).hh a0 cp;cases mh;refine⟨kr,_,l,cx,n',x,Ls,fM,wU,a7,fu.hh cb c7,b0,λR t az=>h _ _ e _ kr _ (fM.toks t) (((bo.trans bL).trans fu).trans<|br.toks kr f6 t) ?_⟩;induction az with
 |none=>exact jl
 |some af=>exact af
theorem NE{es:HO Ā}{pos:Pos}{eb:nO}(gl:kZ c A es eb)(aj:es.length<=a3):Good c A (.List es pos) λr J K=>eb r J λvs J=>K (.ref J.length) (J++[c4.ls vs]):=by intro O s ac C r J k K Q I F e h;refine wpAny_List<|gl.use I F e λvs da e Vs bM bs a0 bU bo af a6=>?_;rw[<-a6]at aj;exact⟨by rw[af.length];exact f1 aj,h _ _ e _ _ _ (a0.WM af aj) (bo.trans<|br.push a0 (cu Vs.toArray 0)<|.st da.length)<|.ref<|c2 _ _ _⟩
theorem ph.dw{x y:B}{f:B->Prop}(h:ph x y f):dW λi j=>rD (x=.int i) (y=.int j) (small i=true) (small j=true) ((j-i).toNat<=a3) (f<|.ey i j):=by
 induction x using B.casesOn with
 |int i=>induction y using B.casesOn with
  |int j=>exact⟨i,j,rfl,rfl,h.1,h.2.1,h.2.2.1,h.2.2.2⟩
  |_=>exact h.elim
 |_=>exact h.elim
theorem TZ{np pos:Pos}{e:Ā}{w:dk}(aX:c.Ok)(d_:c.cB "range"=true)(aN:c.gL "range"=none)(af:c.j7 "range"=some (.type "range"))(aK:fG e=false)(g:Good c A e w):Good c A (.Call (.Name "range" np) [e] [] pos) λr J K=>w r J (AN K<|.int 0):=by intro O s ac C r J k K Q I hi ag h;refine Call_name1 (by rw[u2 aK];rfl)<|uo aX I hi d_ aN af (by decide) ?_;refine PySem.callWith_type1<|g.use I hi ag λv da e V bM bs a0 bU bo cp=>?_;obtain⟨i,j,q,rfl,-,b_,aq,e⟩:=ph.dw e;cases q;obtain⟨t,rfl⟩:=cp.of;exact call_range_1<|h _ _ e _ _ _ ((a0.push (o_ 0 j bs.toks t<|bs.toks+1) rfl _<|.inl rfl).toks<|bs.toks+1+1) ((bo.trans<|br.push a0 (o_ 0 j bs.toks t<|bs.toks+1)<|.a5<|o_ 0 j bs.toks t<|bs.toks+1).trans<|br.toks _ _ _)<|.ey (c2 _ _ _) (by decide) b_ aq
theorem M1{np pos:Pos}{d e:Ā}{uf w:dk}(aX:c.Ok)(d_:c.cB "range"=true)(aN:c.gL "range"=none)(af:c.j7 "range"=some (.type "range"))(aK:fG d=false)(l9:fG e=false)(ub:Good c A d uf)(g:Good c A e w):Good c A (.Call (.Name "range" np) [d,e] [] pos) λr J K=>uf r J (hv w r<|AN K):=by intro O s ac C r J k K Q I hi ag h;refine wpAny_Call_NameR<|uo aX I hi d_ aN af (by decide) ?_;rw[nd aK,nd l9];refine PySem.callWith_type rfl<|Calls.evalArgs_plain<|ut<|ub.use I hi ag λu B' e U dq eP mE la sL lG=>ut<|g.use mE la e λv da e V bM bs a0 bU bo cp=>Calls.spliced_nil ?_;obtain⟨i,j,rfl,rfl,aB,b_,aq,m7⟩:=ph.dw e;clear e;obtain⟨t9,rfl⟩:=lG.of;obtain⟨t,rfl⟩:=cp.of;exact call_range_2<|h _ _ m7 _ _ _ ((a0.push (o_ i j t9 t bs.toks) rfl _<|.inl rfl).toks<|bs.toks+1) (((sL.trans bo).trans<|br.push a0 (o_ i j t9 t bs.toks)<|.a5<|o_ i j t9 t bs.toks).trans<|br.toks _ _ _)<|.ey (c2 _ _ _) aB b_ aq
inductive u8 (P:Params) (C:aY):List (B×B)->List (Value×Value)->Prop where
 |nil:u8 P C [] []
 |cons {k v:B} {K V:Value} {l:List (B×B)} {vs:List (Value×Value)}:bA P C k K->bA P C v V->u8 P C l vs->u8 P C ((k,v)::l) ((K,V)::vs)
abbrev B9:=aJ->St->(HO (B×B)->St->Prop)->Prop
def XE(c:cc)(C:aY)(s:Mt)(Q:HO (Zr×Zr)->Mt->Prop)(n:ā)(ai:HO (B×B))(bG:St):Prop:=∀Vs aO ar,c.I aO bG ar->br C s aO ar->u8 c.P aO ai Vs->ai.length=n->Q Vs ar
def vN(c:cc)(A:Around)(ks:HO (Z5 Ā))(vs:HO Ā)(w:B9):Prop:=∀O s ac C r J k pos (K:HO (B×B)->St->Prop) (Q:HO (Zr×Zr)->Mt->Prop),c.I C J s->c.F C ac r s.heap k->w r J K->(∀ai bG,K ai bG->XE c C s Q ks.length ai bG)->wpAny c.M A (evalPairs<|pairTrees ks vs ac pos) Q O s
theorem QS:vN c A [] [] λ_ J K=>K [] J:=λO s ac C r J k pos K Q I F e h=>b3<|h _ _ e [] C s I (br.refl C s) .nil rfl
theorem Rf{k v:Ā}{ks:HO (Z5 Ā)}{vs:HO Ā}{m9 w:dk}{kg:B9}(cB:Good c A k m9)(Oa:Good c A v w)(bf:vN c A ks vs kg):vN c A (some k::ks) (v::vs) λr J K=>m9 r J (hv w r λx=>hv kg r<|Kb K x):=by intro O s ac C r J bZ pos K Q I F e h;exact bd<|cB.use I F e λx da e X bM bs a0 bU bo c7=>bd<|gQ<|bd<|Oa.use a0 bU e λy d3 e cz co b9 cb ee bL jl=>bd<|p7<|b3<|bd<|gQ<|bf O b9 ac co r d3 bZ pos _ _ cb ee e λai vp e Vs kr f6 fM fu t0 aj=>b3<|h _ _ e _ kr f6 fM ((bo.trans bL).trans fu) (.cons ((bL.trans fu).hh a0 c7) (fu.hh cb jl) t0)<|bI Nat.succ aj
theorem WV{k v:B}{l di:HO (B×B)}(a7:eo k l=true)(e:gW k v l=some di):di.length<=l.length+1:=by rw[H' a7]at e;induction h:jk k l using Option.casesOn<;>rw[h]at e<;>cases e<;>simp
theorem LS(a4:A.units+16<cLine){O:Zr->Mt->Prop}{dq:aY}{eP:Mt}{d:Addr}(am:¬(dq d).kept){ai:HO (B×B)}{vs:HO (Zr×Zr)}{C:aY}{J:St}{di:HO (B×B)}{Q:PUnit->Mt->Prop}(bg:C d=.ext)(t0:u8 c.P C ai vs):∀{s:Mt} {l:HO (B×B)} {es:HO DictEntry} {n:ā},c.I C J s->iO c C s d l es n->br dq eP C s->l.length+ai.length<=a3->(ai.foldlM (λd (p:B×B)=>if eo p.1 d then gW p.1 p.2 d else none) l)=some di->(∀ar cx n',c.I C J ar->iO c C ar d di cx n'->br dq eP C ar->Q ⟨⟩ ar)->wpAny c.M A (storeAll d vs) Q O s:=by
 unfold storeAll;induction t0 with
 |nil=>intro s l es n I D x aq e h;cases e;exact b3<|h s es n I D x
 |cons aD af bn ap=>intro s l es n I D x aq e h;rw[List.forIn_cons];obtain⟨Zt,ag,a8⟩:=bind_some e;clear e;obtain⟨a7,ag⟩:=hc ag;refine bd<|bd<|Fd (iY ‹_›) I D a7 aD af ag λaR t cx n' b0 bt dN gT=>b3 ?_;have bZ:∀b o,b≠d->s.heap.get? b=some o->aR.get? b=some o:=λb o aw e=>(gT.2 b aw).trans e;have dS:=WV a7 ag;clear gT ag aD af;rw[nA]at aq;exact ap (I.upd (by rw[bg];trivial) bZ (by rw[b0];rfl) t) ⟨b0,bt,dN,by lia⟩ (x.upd am bZ t) (by lia) a8 h
theorem Yh{ks:HO (Z5 Ā)}{vs:HO Ā}{pos:Pos}{w:B9}(a4:A.units+16<cLine)(e5:∃o,c.H.get? sysModules=some o)(gb:ks.all (·.isSome)=true)(aj:ks.length=vs.length)(aU:ks≠[])(dS:ks.length<=15)(g:vN c A ks vs w):Good c A (.Dict ks vs pos) λr J K=>w r J (JE K):=by
 intro O s ac C r J k K Q I F e h;have sL:=br.push I (el #[] 0) .ext;have tf:C s.heap.objs.size=.none:=I.fresh<|dy _;have am:¬(C s.heap.objs.size).kept:=by rw[tf];exact id
 refine wpAny_Dict_any gb aj aU dS<|g O _ ac _ r J k pos _ _ (I.push (el #[] 0) rfl .ext<|.inr rfl) (F.ext I sL) e λai da e Vs bM bs a0 bo t0 a6=>ay.dw e λl c0 e=>?_;have bg:=bo.kept s.heap.objs.size (el #[] 0) (gU _ rfl) (by rw[c2];trivial);rw[c2]at bg;refine LS a4 am bg.2 t0 (l:=[]) (es:=[]) (n:=0) a0 ⟨bg.1,.nil,q5,f8 _⟩ (sL.trans bo) (by rw[List.length_nil,iM,a6];exact aI dS<|by decide) c0 λb9 es n cb D bL=>?_;refine h _ _ e _ _ b9 (cb.turn (by rw[bg.2];trivial) D.at_) (bL.turn am bg.2)<|.bb (c2 _ _ _) (D.rel.mono (λa o e=>?_) λa m e=>?_) D.a3 D.nodup ?_
 .rw[bW<|by rintro rfl;rw[bg.2]at e;exact bQ e rfl];exact e
 .rw[bW<|by rintro rfl;rw[bg.2]at e;exact bQ e rfl];exact e
 .rw[lK];intro q;obtain⟨o,az⟩:=e5;have:=I.base _ o az;rw[<-q,tf]at this;exact bQ this rfl
theorem Dg{C:aY}{J:St}{s:Mt}(I:c.I C J s){n be:ā}{aX:Zr}{l:HO (ā×B)}(d1:bA c.P C (.ref n) aX)(e:J[n]?=some (.ins be l)):gS λa d es k=>Fe (aX=.ref a) (C a=.st n) (C d=.cD n) (s.heap.get? a=some (k6 (c.N.cl be) d)) (s.heap.get? d=some (el es.toArray k)) (i1 c.P C c.N.an l es) ((l.map Prod.fst).Nodup) (be<7):=by obtain⟨a,rfl,r⟩:=d1.of;obtain⟨_,_,_,_,G,E,aC,ba,cN,d5,fp⟩:=(I.store n _ e).of;obtain rfl:=A5 I G r;exact⟨_,_,_,_,rfl,G,E,aC,ba,cN,d5,fp⟩
theorem Vm{P:Params}{C:aY}{an:ā->Str}(inj:∀a b,an a=an b->a=b){a:ā}{v:B}{l:HO (ā×B)}{es:HO DictEntry}(h:i1 P C an l es):l.lookup a=some v->∃e,es.find? (·.key.isStr (an a))=some e/\bA P C v e.val:=by
 induction h with
 |nil=>exact λh=>bY h
 |@cons b w cM W _ _ af _ ap=>
  rw[List.find?_cons,kO];by_cases q:b=a
  .cases q;rw[jL,show(Value.str (an a) cM).isStr (an a)=true from jL _];exact λh=>⟨_,rfl,cT h▸af⟩
  .rw[lK.mpr<|ip q,show(Value.str (an b) cM).isStr (an a)=false from lK.mpr λe=>q<|inj _ _ e];exact ap
theorem XW{x:Str}{es:HO DictEntry}{n:ā}{e:DictEntry}(h:es.find? (·.key.isStr x)=some e):lookIn x (el es.toArray n)=some (some e.val):=by delta lookIn el;dsimp only;rw[h]
theorem Ox{x:Str}{es:HO DictEntry}{n:ā}(h:es.find? (·.key.isStr x)=none)(r:es.any (·.refKey)=false):lookIn x (el es.toArray n)=some none:=by delta lookIn el;dsimp only;rw[h,r];rfl
theorem Op{K:Frag}{ah:Addr}{od:Z5 Obj}{name:Str}{kh:ClassData}{v:Zr}(aq:clsIn K ah=some kh)(g:findIn K (.ref ah) name=some none)(q:ownOf kh od name=some (some v)):findObj K ah od name=some (.value v):=by show(clsIn K ah).bind (λkh=>(findIn K (.ref ah) name).bind _)=_;rw[aq,g];show(ownOf kh od name).bind _=_;rw[q];rfl
theorem PH{P:Params}{C:aY}{v:B}{V:Zr}(h:bA P C v V):handedIn V=true:=bA.casesOn (motive_1:=λ_ V _=>handedIn V=true) h rfl (λ_=>rfl) (λ_ _=>rfl) (λ_ _ _=>rfl) (λ_ _ _=>rfl) (λ_ _ _=>rfl) (λ_ _ _ _ _=>rfl) (λ_=>rfl) λ_ _ _ _=>rfl
theorem Ts(aX:c.Ok){O:Zr->Mt->Prop}{s:Mt}{C:aY}{J:St}{o v:B}{V:Zr}{a:ā}{b:ZI}{Q:Zr->Mt->Prop}(I:c.I C J s)(d1:bA c.P C o V)(ak:a<33)(e:nR J o a=some v)(h:∀W t,bA c.P C v W->Q W {s with toks:=t}):wpAny c.M A (getAttr V (c.N.an a) b) Q O s:=by
 replace e:=o3.of e;obtain⟨n,be,l,rfl,aK,e⟩:=e;obtain⟨x,d,es,k,rfl,G,E,aC,ba,cN,d5,fp⟩:=Dg I d1 aK;obtain⟨Ue,b0,bt⟩:=Vm aX.inj cN e;have mT:=aX.mT be a fp ak;unfold attrOk at mT;rw[eX,eX]at mT;obtain⟨⟨c3,bh⟩,cJ⟩:=mT;induction aq:clsIn c.K (c.N.cl be)with
 |none=>rw[aq]at cJ;exact cH cJ
 |some kh=>
  rw[aq]at cJ;have a7:findObj c.K (c.N.cl be) (some<|el es.toArray k) (c.N.an a)=some (.value Ue.val):=by refine Op aq (eI bh) ?_;unfold PySem.W.ownOf;rw[bl cJ];exact XW b0
  exact get_value (K:=c.K) (od:=some<|el es.toArray k) (λb o e=>I.mm _ _<|aX.ab b o e) ⟨aC,rfl,rfl,ba⟩ (eI c3) a7 (PH bt)<|h _ _ bt
theorem SP{e:Ā}{pos:Pos}{x:Str}{a:ā}{w:dk}(aX:c.Ok)(aw:lf e=false)(ak:a<33)(aA:c.N.an a=x)(g:Good c A e w):Good c A (.Attribute e x pos) λr J K=>w r J (JU a K):=by intro O s ac C r J k K Q I F ag h;subst aA;rw[arm_eval_Attribute,ww aw];exact bd<|g.use I F ag λo da e V bM bs a0 bU bo cp=>ay.dw e λz c9 e=>bd<|p7<|bd<|gQ<|Ts aX a0 cp ak c9 λW t KH=>bd<|wpAny_letTemporaryGo<|b3<|h _ _ e W bM _ (a0.toks t) (bo.trans<|br.toks bM bs t) KH
structure Bound(c:cc)(C:aY)(ac:Env)(s:Shared)(x:Str)(V:Value)(ar:Shared):Prop where
 keep:∀a o,(∀k,C a≠.loc k)->(∀y,C a≠.kP y)->s.heap.get? a=some o->ar.heap.get? a=some o
 kept:∀a,(C a≠.none)->(ar.heap.get? a).isSome=true
 new:gO ac ar.heap x V
 old:∀y W,y≠x->gO ac s.heap y W->gO ac ar.heap y W
 ns:∃m,ar.heap.Ns ac.locals m
 cells:∀y,(ac.kindOf y=some .cell\/ac.kindOf y=some .free)->dW λbe v=>dD (ac.cells.lookup y=some be) (C be=.kP y)<|ar.heap.IsCell be v
 gens:ar.gens=s.gens
 hQ:ar.os=s.os
 Ug:ac.kindOf x=some .local->∀a o,a≠ac.locals->s.heap.get? a=some o->ar.heap.get? a=some o
theorem zC{ac:Env}{x:Str}{V:Zr}{O:Zr->Mt->Prop}{s:Mt}{C:aY}{r:aJ}{J:St}{k:ā}{Q:Unit->Mt->Prop}(I:c.I C J s)(F:c.F C ac r s.heap k)(aA:c.b6 x=true)(h:∀ar,Bound c C ac s x V ar->Q () ar):wpAny c.M A (storeName ac x V) Q O s:=by
 have ae:(ac.scope.kind==.class||(ac.scope.kind==.module&&ac.locals !=ac.globals))=false:=by rw[F.bE.kind];rfl
 rcases F.st x aA with aD|aD
 .obtain⟨m,aN⟩:=F.bE.mB;refine wpAny_storeName_local aD aN (λaR am aK=>h _ ⟨λa o G E e=>?_,λa ak=>?_,.inl ⟨aD,_,am,bl rfl⟩,λy W a1 af=>?_,⟨_,am⟩,λy a1=>?_,rfl,rfl,λ_ a o ak e=>(aK.2 a ak).trans e⟩) ae
  .exact(aK.2 a<|by rintro rfl;exact G _ F.bE.loc).trans e
  .by_cases q:a=ac.locals
   .subst q;obtain⟨o,es,qR,az,-⟩:=am;rw[show({s with heap:=aR,toks:=s.toks+1}:Mt).heap.get? ac.locals=some o from az];rfl
   .obtain⟨o,az⟩:=gZ.mp<|I.alloc a ak;rw[show({s with heap:=aR,toks:=s.toks+1}:Mt).heap.get? a=some o from(aK.2 a q).trans az];rfl
  .rcases af with⟨aj,i',kz,e⟩|⟨aj,be,aq,o,az,bg⟩
   .refine .inl ⟨aj,_,am,?_⟩;rw[bm a1,aN.agree kz y];exact e
   .obtain⟨iQ,oC,b0,bt,dN⟩:=F.bE.cells y aj;rw[aq]at b0;cases b0;exact .inr ⟨aj,be,aq,o,(aK.2 be<|by rintro rfl;rw[F.bE.loc]at bt;exact bQ bt rfl).trans az,bg⟩
  .obtain⟨be,v,b0,bt,o,az,bg⟩:=F.bE.cells y a1;exact⟨be,v,b0,bt,o,(aK.2 be<|by rintro rfl;rw[F.bE.loc]at bt;exact bQ bt rfl).trans az,bg⟩
 .obtain⟨be,Z6,b0,bt,dN⟩:=F.bE.cells x<|.inl aD;refine wpAny_storeName_cell F.bE.kind aD b0 dN<|λaR am aK=>h _ ⟨λa o G E e=>?_,λa ak=>?_,.inr ⟨.inl aD,be,b0,am⟩,λy W a1 af=>?_,?_,λy a1=>?_,rfl,rfl,λaj=>by rw[aD]at aj;cases aj⟩
  .exact(aK.2 a<|by rintro rfl;exact E _ bt).trans e
  .by_cases q:a=be
   .subst q;obtain⟨o,az,-⟩:=am;rw[show({s with heap:=aR}:Mt).heap.get? a=some o from az];rfl
   .obtain⟨o,az⟩:=gZ.mp<|I.alloc a ak;rw[show({s with heap:=aR}:Mt).heap.get? a=some o from(aK.2 a q).trans az];rfl
  .rcases af with⟨aj,i',kz,e⟩|⟨aj,iQ,eN,o,az,bg⟩
   .exact .inl ⟨aj,i',kz.sameBut aK (by rintro rfl;rw[F.bE.loc]at bt;exact bQ bt rfl),e⟩
   .obtain⟨ZQ,ZH,dn,eg,fS⟩:=F.bE.cells y aj;rw[eN]at dn;cases dn;exact .inr ⟨aj,iQ,eN,o,(aK.2 iQ<|by rintro rfl;rw[bt]at eg;cases eg;exact a1 rfl).trans az,bg⟩
  .obtain⟨m,aN⟩:=F.bE.mB;exact⟨m,aN.sameBut aK<|by rintro rfl;rw[F.bE.loc]at bt;exact bQ bt rfl⟩
  .obtain⟨iQ,oC,dn,eg,fS⟩:=F.bE.cells y a1;by_cases q:iQ=be
   .subst q;exact⟨iQ,_,dn,eg,am⟩
   .obtain⟨o,az,bg⟩:=fS;exact⟨iQ,oC,dn,eg,o,(aK.2 iQ q).trans az,bg⟩
theorem Bound.I{C:aY}{ac:Env}{s ar:Mt}{x:Str}{V:Zr}{J:St}(aT:Bound c C ac s x V ar)(I:c.I C J s):c.I C J ar:=by
 have fK:∀a o,(¬∃k,C a=.loc k)->(¬∃y,C a=.kP y)->s.heap.get? a=some o->ar.heap.get? a=some o:=λa o G E e=>aT.keep a o (λk q=>G ⟨k,q⟩) (λy q=>E ⟨y,q⟩) e;refine⟨λa h=>aT.kept a h,I.uniq,λa o e=>?_,λn ct e=>(I.store n ct e).mono (λ_ _ e=>e) (λ_ _ e=>e) (λ_ _ e=>e) λa o h e=>?_,I.base,aT.gens.trans I.gens,aT.hQ.trans I.hQ,I.gA⟩
 .exact fK a o (by rintro⟨k,q⟩;rw[q]at e;exact bQ e rfl) (by rintro⟨k,q⟩;rw[q]at e;exact bQ e rfl)<|I.a5 a o e
 .rcases h with h|h;all_goals exact fK a o (by rintro⟨k,q⟩;rw[q]at h;exact bQ h rfl) (by rintro⟨k,q⟩;rw[q]at h;exact bQ h rfl) e
theorem Bound.ext{C:aY}{ac:Env}{s ar:Mt}{x:Str}{V:Zr}(aT:Bound c C ac s x V ar):eB C s C ar:=⟨λa o e cd=>⟨aT.keep a o (λk q=>by rw[q]at cd;exact cd) (λy q=>by rw[q]at cd;exact cd) e,rfl⟩,λ_ _ e=>e,λ_ _ e=>e⟩
theorem Bound.F{C:aY}{ac:Env}{s ar:Mt}{x:Str}{V:Zr}{r:aJ}{k i:ā}{aL:cq}(aX:c.Ok)(aT:Bound c C ac s x V ar)(F:c.F C ac r s.heap k)(aB:c.ns.lookup x=some i)(aK:lY c.P C ac ar.heap i x aL):c.F C ac (r.set i aL) ar.heap k:=by
 refine⟨⟨F.bE.kind,F.bE.glob,F.bE.lT,F.bE.loc,aT.ns,aT.cells,λy j rj G E=>?_⟩,F.gl,F.st,F.cl⟩;by_cases q:j=i
 .subst q;obtain rfl:=aX.rT _ _ _ G aB;rw[rz]at E;split at E
  .split at E
   .cases E;exact aK
   .exact bY E
  .exact absurd rfl ‹_›
 .have a1:y≠x:=by rintro rfl;rw[aB]at G;exact q (cT G).symm
  rw[nr<|ip q]at E;induction F.bE.slots y j rj G E with
  |un=>exact .un
  |val a b=>exact .val (aT.old y _ a1 a) b
  |ol a b d e f=>exact .ol (aT.old y _ a1 a) b (aT.keep _ _ (λk q=>by rw[b]at q;exact bQ q rfl) (λz q=>by rw[b]at q;exact bQ q rfl) d) e f
  |od a b d e f g=>exact .od (aT.old y _ a1 a) b (aT.keep _ _ (λk q=>by rw[b]at q;exact bQ q rfl) (λz q=>by rw[b]at q;exact bQ q rfl) d) e f g
inductive zo (P:Params) (C:aY):cj->Flow->Prop where
 |go:zo P C .go .next
 |ret {v:B} {V:Value}:bA P C v V->zo P C (.ret v) (.ret V)
abbrev oa:=aJ->St->(cj->aJ->St->Prop)->Prop
def xE(c:cc)(C:aY)(s:Mt)(ac:Env)(k:ā)(Q:Flow->Mt->Prop)(cI:cj)(b2:aJ)(bG:St):Prop:=∀f aO ar,c.I aO bG ar->eB C s aO ar->c.F aO ac b2 ar.heap k->zo c.P aO cI f->Q f ar
def yp(c:cc)(A:Around)(t:Env->Sem Flow)(w:oa):Prop:=∀O s ac C r J k (K:cj->aJ->St->Prop) (Q:Flow->Mt->Prop),c.I C J s->c.F C ac r s.heap k->w r J K->(∀cI b2 bG,K cI b2 bG->xE c C s ac k Q cI b2 bG)->wpAny c.M A (t ac) Q O s
abbrev ga(c:cc)(A:Around)(st:Stmt)(w:oa):Prop:=yp c A (exec st) w
abbrev mI(c:cc)(A:Around)(cQ:HO Stmt)(w:oa):Prop:=yp c A (execs cQ) w
theorem yp.use{t:Env->Sem Flow}{w:oa}(g:yp c A t w){O:Zr->Mt->Prop}{eP s:Mt}{ac:Env}{dq C:aY}{r:aJ}{J:St}{k:ā}{K:cj->aJ->St->Prop}{Q:Flow->Mt->Prop}(I:c.I C J s)(F:c.F C ac r s.heap k)(x:eB dq eP C s)(e:w r J K)(h:∀cI b2 bG,K cI b2 bG->xE c dq eP ac k Q cI b2 bG):wpAny c.M A (t ac) Q O s:=g O s ac C r J k K Q I F e λcI b2 bG e f aO ar dm eE=>h cI b2 bG e f aO ar dm<|x.trans eE
theorem RO:mI c A [] λr J K=>K .go r J:=λO s ac C r J k K Q I F e h=>wpAny_execs_nil<|h _ _ _ e _ C s I (eB.refl C s) F .go
theorem M_{st:Stmt}{a_:HO Stmt}{w kg:oa}(g:ga c A st w)(bf:mI c A a_ kg):mI c A (st::a_) λr J K=>w r J (kV kg K):=by
 intro O s ac C r J k K Q I F e h;refine wpAny_execs_cons<|g O s ac C r J k _ _ I F e λjU hr Z9 e f bM bs a0 bo bU a7=>?_;induction a7 with
 |go=>exact bf.use a0 bU bo e h
 |ret af=>exact h _ _ _ e _ bM bs a0 bo bU<|.ret af
theorem Vl{e:Ā}{pos:Pos}{w:dk}(g:Good c A e w):ga c A (.Return (some e) pos) λr J K=>w r J (E0 r K):=λO s ac C r J k K Q I F ag h=>wpAny_Return_some<|g.use I F ag λv da e V bM bs a0 bU bo cp=>h _ _ _ e _ bM bs a0 bo.zero bU<|.ret cp
theorem MH{pos:Pos}:ga c A (.Return none pos) λr J K=>K (.ret .none) r J:=λO s ac C r J k K Q I F ag h=>wpAny_Return_none<|h _ _ _ ag _ C s I (eB.refl C s) F<|.ret .none
theorem Yc{t:Ā}{b o:HO Stmt}{pos:Pos}{pJ:he}{ku e3:oa}(gt:j' c A t pJ)(lr:mI c A b ku)(go:mI c A o e3):ga c A (.If t b o pos) λr J K=>pJ r J λq J=>kN (ku r J K) (e3 r J K) q:=by
 intro O s ac C r J k K Q I F ag h;refine wpAny_If<|gt.use I F ag λq da e bM bs a0 bU bo=>?_;induction q with
 |true=>exact lr.use a0 bU bo.zero e h
 |false=>exact go.use a0 bU bo.zero e h
inductive oS (c:cc):List Expr->List Nat->Prop where
 |nil:oS c [] []
 |cons {x:Str} {eK:Pos} {i:Nat} {es:List Expr} {is:List Nat}:c.ns.lookup x=some i->c.b6 x=true->oS c es is->oS c (.Name x eK::es) (i::is)
inductive mu (c:cc):Bool->Expr->List Nat->Prop where
 |one {x:Str} {eK:Pos} {i:Nat}:c.ns.lookup x=some i->c.b6 x=true->mu c false (.Name x eK) [i]
 |tup {es:List Expr} {cL:Nat} {pos:Pos} {is:List Nat}:oS c es is->mu c true (.Tuple es cL pos) is
structure lI(c:cc)(C:aY)(ac:Env)(s ar:Shared):Prop where
 sy:∀a o,(∀k,C a≠.loc k)->(∀y,C a≠.kP y)->s.heap.get? a=some o->ar.heap.get? a=some o
 loc:(∀x,c.b6 x=true->ac.kindOf x=some .local)->∀a o,a≠ac.locals->s.heap.get? a=some o->ar.heap.get? a=some o
theorem lI.refl(C:aY)(ac:Env)(s:Mt):lI c C ac s s:=⟨λ_ _ _ _ e=>e,λ_ _ _ _ e=>e⟩
theorem lI.trans{C:aY}{ac:Env}{s bs b9:Mt}(x:lI c C ac s bs)(y:lI c C ac bs b9):lI c C ac s b9:=⟨λa o G E e=>y.sy a o G E<|x.sy a o G E e,λh a o G e=>y.loc h a o G<|x.loc h a o G e⟩
theorem lI.ext{C:aY}{ac:Env}{s ar:Mt}(x:lI c C ac s ar):eB C s C ar:=⟨λa o e cd=>⟨x.sy a o (λk q=>by rw[q]at cd;exact cd) (λy q=>by rw[q]at cd;exact cd) e,rfl⟩,λ_ _ e=>e,λ_ _ e=>e⟩
theorem q4(aX:c.Ok){ac:Env}{x:Str}{V:Zr}{v:B}{i:ā}{O:Zr->Mt->Prop}{s:Mt}{C:aY}{r:aJ}{J:St}{k:ā}{Q:Unit->Mt->Prop}(I:c.I C J s)(F:c.F C ac r s.heap k)(aB:c.ns.lookup x=some i)(aA:c.b6 x=true)(cp:bA c.P C v V)(h:∀ar,c.I C J ar->eB C s C ar->lI c C ac s ar->c.F C ac (r.set i<|.val v) ar.heap k->Q () ar):wpAny c.M A (storeName ac x V) Q O s:=zC I F aA λar aT=>h ar (aT.I I) aT.ext ⟨aT.keep,λaj=>aT.Ug<|aj x aA⟩<|aT.F aX F aB<|.val aT.new cp
theorem Rr{es:HO Ā}{is:HO ā}(t:oS c es is)(ac:Env):(assignEach es ac).length=is.length:=by
 induction t with
 |nil=>rfl
 |cons _ _ _ ap=>show(_::assignEach _ ac).length=_;simp[ap]
theorem MY{es:HO Ā}{is:HO ā}(t:oS c es is)(ac:Env):(assignEach es ac).findIdx? (·.1)=none:=by
 induction t with
 |nil=>rfl
 |cons _ _ _ ap=>show((false,_)::assignEach _ ac).findIdx? (·.1)=none;rw[List.findIdx?_cons,ap];rfl
theorem Zn(aX:c.Ok){ac:Env}{O:Zr->Mt->Prop}{C:aY}{J:St}{k:ā}{es:HO Ā}{is:HO ā}(t:oS c es is):∀{s:Mt} {r:aJ} {l:HO B} {Vs:HO Zr} {Q:Unit->Mt->Prop},c.I C J s->c.F C ac r s.heap k->bD c.P C l Vs->l.length=is.length->(∀ar,c.I C J ar->lI c C ac s ar->c.F C ac ((is.zip l).foldl (λr p=>r.set p.1<|.val p.2) r) ar.heap k->Q () ar)->wpAny c.M A (assignInOrder ((assignEach es ac).map (·.2)) Vs) Q O s:=by
 induction t with
 |nil=>
  intro s r l Vs Q I F af aj h;induction l using List.casesOn with
  |nil=>obtain rfl:=af.of;exact b3<|h s I (lI.refl C ac s) F
  |cons=>cases aj
 |@cons x eK i es is aB aA _ ap=>
  intro s r l Vs Q I F af aj h;induction l using List.casesOn with
  |nil=>cases aj
  |cons v l=>obtain⟨V,bC,rfl,a,b⟩:=af.of;exact bd<|gQ<|assign_Name<|q4 aX I F aB aA a λbs a0 bo C9 bU=>ap a0 bU b (by simpa using aj) λb9 cb oc ee=>h b9 cb (lI.trans C9 oc) ee
set_option tactic.hygienic true in
theorem xc(aX:c.Ok)(cd:A.handled=none){ac:Env}{bk:ZI}{Hv:Ā}{aS:HO ā}(t:mu c bk Hv aS){O:Zr->Mt->Prop}{s:Mt}{C:aY}{r b2:aJ}{J:St}{k:ā}{v:B}{V:Zr}{Q:Unit->Mt->Prop}(I:c.I C J s)(F:c.F C ac r s.heap k)(cp:bA c.P C v V)(e:il bk aS v r=some b2)(h:∀ar,c.I C J ar->lI c C ac s ar->c.F C ac b2 ar.heap k->Q () ar):wpAny c.M A (assign Hv ac V) Q O s:=by
 induction t with
 |one aB aA=>cases e;exact assign_Name<|q4 aX I F aB aA cp λbs a0 bo C9 bU=>h bs a0 C9 bU
 |@tup es cL pos is hb=>
  induction v using B.casesOn<;>try(exact bY e;done)
  rename_i l;simp only[il]at e;split at e
  .rename_i aj;cases e;obtain⟨a,Vs,n,rfl,G,E,aC⟩:=o9 cp;clear cp;refine wpAny_assign_Tuple cd (gs<|I.a5 _ _ G) (by rw[Rr hb,eG,E.length,aj]) (MY hb ac) λaR a6=>?_;have bZ:∀b o,s.heap.get? b=some o->aR.get? b=some o:=λb o e=>a6 b o (gK<|kk e) e;refine Zn aX hb (I.grow bZ s.toks) (F.ext I<|br.grow C bZ s.toks) E aj λb9 cb oc ee=>h b9 cb ⟨λa o b0 bt e=>oc.sy a o b0 bt<|bZ a o e,λaj a o q e=>oc.loc aj a o q<|bZ a o e⟩ ee
  .exact bY e
def iz (e:Ā):ZI:=Nat.beq e.ctorIdx 8||(Nat.beq e.ctorIdx 9||Nat.beq e.ctorIdx 10)
theorem qZ{value:Ā}{t:Z5 Ā}{n:ā}{ac:Env}(h:iz value=false):swapsWith value t n ac=pure false:=by exact qY (b:=iz value) (by induction value using PySem.Expr.casesOn<;>first|exact @rfl _ (pure false)|trivial) h
theorem Lu{e:Ā}{x:Str}{eK pos:Pos}{i:ā}{w:dk}(aX:c.Ok)(aq:iz e=false)(aB:c.ns.lookup x=some i)(aA:c.b6 x=true)(g:Good c A e w):ga c A (.Assign [.Name x eK] e pos) λr J K=>w r J (pL i r K):=λO s ac C r J k K Q I F ag h=>wpAny_Assign_Name (g.use I F ag λv da e V bM bs a0 bU bo cp=>q4 aX a0 bU aB aA cp λb9 cb bL oc ee=>h _ _ _ e _ bM b9 cb (bo.zero.trans bL) ee .go)<|qZ aq
theorem LP{e:Ā}{pos:Pos}{w:dk}(aq:iz e=false)(g:Good c A e w):ga c A (.Expr e pos) λr J K=>w r J (E2 r K):=by
 intro O s ac C r J k K Q I F ag h;refine wpAny_Expr (g.use I F ag λv da e V bM bs a0 bU bo cp=>?_) (by unfold PySem.interactive;rw[F.bE.kind];rfl)<|qZ aq;have h:K .go r da->xE c C s ac k Q .go r da:=h _ _ _;induction v using B.casesOn with
 |none=>obtain rfl:=cp.of;exact h e _ bM bs a0 bo.zero bU .go
 |int i=>obtain⟨t,rfl⟩:=cp.of;exact h e _ bM bs a0 bo.zero bU .go
 |_=>exact False.elim e
section
variable{P:Params}{N:g2}{H:Heap}{os:OsState}{C:aY}{J:St}{s:Mt}
theorem Inv.Gr(I:Inv P N H os C J s){n:ā}{d:Addr}(bg:C d=.st n\/C d=.cD n){aR:Heap}(k:∀b o,b≠d->s.heap.get? b=some o->aR.get? b=some o)(aB:(aR.get? d).isSome=true){ct:c4}(aK:lw P N C aR n ct)(t:ā):Inv P N H os C (J.set n ct) {s with heap:=aR,toks:=t}:=by
 refine⟨λa h=>?_,I.uniq,λa o e=>k a o (by rintro rfl;rcases bg with bg|bg<;>rw[bg]at e<;>exact bQ e rfl)<|I.a5 a o e,λm z1 e=>?_,I.base,I.gens,I.hQ,λa m e=>by rw[List.length_set];exact I.gA a m e⟩
 .by_cases q:a=d
  .subst q;exact aB
  .obtain⟨o,az⟩:=gZ.mp<|I.alloc a h;rw[show({s with heap:=aR,toks:=t}:Mt).heap.get? a=some o from k a o q az];rfl
 .by_cases q:m=n
  .subst q;rw[rz]at e;simp only[if_true]at e;split at e
   .cases e;exact aK
   .exact bY e
  .rw[nr<|ip q]at e;refine(I.store m z1 e).mono (λ_ _ e=>e) (λ_ _ e=>e) (λ_ _ e=>e) λa o h e=>k a o ?_ e;rintro rfl;rcases bg with bg|bg<;>rw[bg]at h<;>rcases h with h|h<;>(first|exact bQ h rfl|cases h)<;>exact q rfl
theorem eB.AK{d:Addr}(am:¬(C d).h'){aR:Heap}(k:∀b o,b≠d->s.heap.get? b=some o->aR.get? b=some o)(t:ā):eB C s C {s with heap:=aR,toks:=t}:=(eB.refl C s).upd am k t
end
theorem cc.F.other{C:aY}{ac:Env}{r:aJ}{h aR:Heap}{k:ā}(F:c.F C ac r h k){d:Addr}(bg:¬(C d).free)(bZ:∀b o,b≠d->h.get? b=some o->aR.get? b=some o):c.F C ac r aR k:=by
 have ne:∀{a:Addr} {q:et},C a=q->q.free->a≠d:=λe h q=>bg<|q▸e▸h;have iR:∀y V,gO ac h y V->gO ac aR y V:=λy V af=>by
  rcases af with⟨a,m,aN,e⟩|⟨a,be,aq,o,az,lF⟩
  .exact .inl ⟨a,m,aN.at λo e=>bZ _ _ (ne F.bE.loc trivial) e,e⟩
  .obtain⟨iQ,oC,dn,eg,fS⟩:=F.bE.cells y a;rw[aq]at dn;cases dn;exact .inr ⟨a,be,aq,o,bZ _ _ (ne eg trivial) az,lF⟩
 refine⟨⟨F.bE.kind,F.bE.glob,F.bE.lT,F.bE.loc,?_,λy a1=>?_,λy j aL G E=>?_⟩,F.gl,F.st,F.cl⟩
 .obtain⟨m,aN⟩:=F.bE.mB;exact⟨m,aN.at λo e=>bZ _ _ (ne F.bE.loc trivial) e⟩
 .obtain⟨be,v,b0,bt,o,az,lF⟩:=F.bE.cells y a1;exact⟨be,v,b0,bt,o,bZ _ _ (ne bt trivial) az,lF⟩
 .induction F.bE.slots y j aL G E with
  |un=>exact .un
  |val a b=>exact .val (iR _ _ a) b
  |ol a b d e f=>exact .ol (iR _ _ a) b (bZ _ _ (ne b trivial) d) e f
  |od a b d e f g=>exact .od (iR _ _ a) b (bZ _ _ (ne b trivial) d) e f g
theorem cc.F.S5{C:aY}{ac:Env}{r:aJ}{h aR:Heap}{k i:ā}{aL:cq}(uniq:∀a b,C a=C b->(C a).one->a=b)(F:c.F C ac r h k){d:Addr}(bg:C d=.own i)(bZ:∀b o,b≠d->h.get? b=some o->aR.get? b=some o)(aK:∀x,c.ns.lookup x=some i->(∀V,gO ac h x V->gO ac aR x V)->lY c.P C ac aR i x aL):c.F C ac (r.set i aL) aR k:=by
 have uQ:ac.locals≠d:=by rintro q;have:=F.bE.loc;rw[q,bg]at this;exact bQ this rfl
 have bR:∀{a y},C a=.kP y->a≠d:=by rintro a y e rfl;rw[bg]at e;exact bQ e rfl
 have iR:∀y V,gO ac h y V->gO ac aR y V:=λy V af=>by
  rcases af with⟨a,m,aN,e⟩|⟨a,be,aq,o,az,lF⟩
  .exact .inl ⟨a,m,aN.at λo e=>bZ _ _ uQ e,e⟩
  .obtain⟨iQ,oC,dn,eg,fS⟩:=F.bE.cells y a;rw[aq]at dn;cases dn;exact .inr ⟨a,be,aq,o,bZ _ _ (bR eg) az,lF⟩
 refine⟨⟨F.bE.kind,F.bE.glob,F.bE.lT,F.bE.loc,?_,λy a1=>?_,λy j rj G E=>?_⟩,F.gl,F.st,F.cl⟩
 .obtain⟨m,aN⟩:=F.bE.mB;exact⟨m,aN.at λo e=>bZ _ _ uQ e⟩
 .obtain⟨be,v,b0,bt,o,az,lF⟩:=F.bE.cells y a1;exact⟨be,v,b0,bt,o,bZ _ _ (bR bt) az,lF⟩
 .by_cases q:j=i
  .subst q;rw[rz]at E;simp only[if_true]at E;split at E
   .cases E;exact aK y G<|iR y
   .exact bY E
  .rw[nr<|ip q]at E;have no:∀{a},C a=.own j->a≠d:=by rintro a e rfl;rw[bg]at e;cases e;exact q rfl
   induction F.bE.slots y j rj G E with
   |un=>exact .un
   |val a b=>exact .val (iR _ _ a) b
   |ol a b d e f=>exact .ol (iR _ _ a) b (bZ _ _ (no b) d) e f
   |od a b d e f g=>exact .od (iR _ _ a) b (bZ _ _ (no b) d) e f g
theorem A4{Vs bC:HO Zr}{n:ā}{f:Array Zr->Array Zr}(h:f Vs.toArray=bC.toArray):∃m,Obj.mapSeq f (cu Vs.toArray n)=cu bC.toArray m:=⟨if bC.toArray.size==Vs.toArray.size then n else n+1,by simp only[Obj.mapSeq,cu,h]⟩
theorem hP.dw{o:Z5 cq}{f:HO B->Prop}(h:hP o f):∃l,o=some (.ol l)/\f l:=by
 induction o with
 |none=>exact h.elim
 |some x=>induction x<;>first|exact⟨_,rfl,h⟩|exact h.elim
theorem hP.at{o:Z5 cq}{l:HO B}{f:HO B->Prop}(q:o=some (.ol l))(h:hP o f):f l:=by rw[q]at h;exact h
theorem Jq{C:aY}{ac:Env}{r:aJ}{J:St}{s:Mt}{k i:ā}{x:Str}{a:Addr}{aR:Heap}{aL:cq}(aX:c.Ok)(aB:c.ns.lookup x=some i)(I:c.I C J s)(F:c.F C ac r s.heap k)(jj:gO ac s.heap x (.ref a))(gD:C a=.own i)(bZ:∀b o,b≠a->s.heap.get? b=some o->aR.get? b=some o){o:Obj}(ak:aR.get? a=some o)(aK:gO ac aR x (.ref a)->lY c.P C ac aR i x aL)(t:ā):dD (c.I C J {s with heap:=aR,toks:=t}) (eB C s C {s with heap:=aR,toks:=t}) (c.F C ac (r.set i aL) aR k):=⟨I.upd (by rw[gD];trivial) bZ (by rw[ak];rfl) t,eB.AK (by rw[gD];exact id) bZ t,F.S5 I.uniq gD bZ λy a1 iR=>by obtain rfl:=aX.rT _ _ _ a1 aB;exact aK<|iR _ jj⟩
theorem H9{C:aY}{ac:Env}{r:aJ}{J:St}{s:Mt}{k i:ā}{x:Str}{a:Addr}{Vs bC:HO Zr}{n:ā}{di:HO B}{f:Array Zr->Array Zr}(aX:c.Ok)(aB:c.ns.lookup x=some i)(I:c.I C J s)(F:c.F C ac r s.heap k)(jj:gO ac s.heap x (.ref a))(gD:C a=.own i)(lA:s.heap.get? a=some (cu Vs.toArray n))(a7:f Vs.toArray=bC.toArray)(ba:bD c.P C di bC)(aq:di.length<=a3):dD (c.I C J {s with heap:=s.heap.update a (Obj.mapSeq f)}) (eB C s C {s with heap:=s.heap.update a (Obj.mapSeq f)}) (c.F C ac (r.set i<|.ol di) (s.heap.update a<|Obj.mapSeq f) k):=by
 obtain⟨m,aN⟩:=A4 (n:=n) a7;have new:(s.heap.update a<|Obj.mapSeq f).get? a=some (cu bC.toArray m):=by rw[sH _ lA (by rw[aN];rfl),aN]
 exact Jq aX aB I F jj gD (λb o aw e=>(Heap.get?_update_other _ _<|ip aw).trans e) new (λv=>.ol v gD new ba aq) s.toks
theorem WS{e:Ā}{x:Str}{np hS qq pos:Pos}{i:ā}{w:dk}(aB:c.ns.lookup x=some i)(bg:(x==("__debug__":Str))=false)(am:(x==("__classdict__":Str))=false)(lN:(hS.endLine==qq.line)=true)(aK:fG e=false)(g:Good c A e w)(aX:c.Ok):ga c A (.Expr (.Call (.Attribute (.Name x np) "append" hS) [e] [] qq) pos) λr J K=>hP r[i]? λ_=>w r J (DU i r K):=by intro O s ac C r J k K Q I F ag h;obtain⟨l,bn,ag⟩:=hP.dw ag;obtain⟨a,Vs,n,b0,bt,dN,gT,kX⟩:=(F.bE.slots x i _ aB bn).of;refine wpAny_Expr (xj rfl lN (nd aK)<|wpAny_Name (rp F.bE.kind b0 am ?_) bg) (by unfold PySem.interactive;rw[F.bE.kind];rfl) rfl;refine⟨"list","list.append",PySem.F.plainAttrs_list,PySem.F.slot_list_append,PySem.F.type_list_append,⟨_,dN,rfl⟩,λb aw=>by cases aw;exact⟨_,dN,rfl⟩,?_⟩;refine PySem.P.append_list<|g.use I F ag λv da e V bM bs a0 bU bo cp=>?_;have eg:=(bo.kept a _ dN<|by rw[bt];trivial).2.trans bt;obtain⟨hg,Vs,n,jj,gD,lA,nt,z7⟩:=(bU.bE.slots x i _ aB bn).of;obtain rfl:=a0.uniq hg a (gD.trans eg.symm) (by rw[gD];trivial);obtain⟨aq,e⟩:=hP.at bn e;have eN:l.length+1<=16777216:=aq;refine⟨Vs.toArray,n,by rw[eG,nt.length];unfold sizeLine;exact f1 ‹_›,lA,?_⟩;obtain⟨dx,y,cS⟩:=H9 aX aB a0 bU jj gD lA (f:=λbO=>bO.push V) (bC:=Vs++[V]) (by simp) (nt.append<|.cons cp .nil) (by rw[c'];exact aq);exact h _ _ _ e _ bM _ dx (bo.zero.trans y) cS .go
theorem gP.dw{o:Z5 c4}{f:HO B->Prop}(h:gP o f):∃l,o=some (.ls l)/\f l:=by
 induction o with
 |none=>exact h.elim
 |some x=>induction x<;>first|exact⟨_,rfl,h⟩|exact h.elim
theorem Y6{J:St}{x z:B}(e:AD J x=some z):dW λn l=>x=.ref n/\J[n]?=some (.ls l):=by
 induction x using B.casesOn with
 |ref n=>
  obtain⟨ct,h,e⟩:=bind_some<|show(J[n]?).bind _=some z from e;induction ct with
  |ls l=>exact⟨n,l,rfl,h⟩
  |_=>exact bY e
 |_=>exact bY e
theorem At{C:aY}{ac:Env}{r:aJ}{J:St}{s:Mt}{k n:ā}{a:Addr}{aR:Heap}{ct:c4}(I:c.I C J s)(F:c.F C ac r s.heap k)(p:C a=.st n)(bZ:∀b o,b≠a->s.heap.get? b=some o->aR.get? b=some o){o:Obj}(ak:aR.get? a=some o)(aK:lw c.P c.N C aR n ct)(t:ā):dD (c.I C (J.set n ct) {s with heap:=aR,toks:=t}) (eB C s C {s with heap:=aR,toks:=t}) (c.F C ac r aR k):=⟨I.Gr (.inl p) bZ (by rw[ak];rfl) aK t,eB.AK (by rw[p];exact id) bZ t,F.other (by rw[p];exact id) bZ⟩
theorem Yk{e:Ā}{x:Str}{np hS qq pos:Pos}{i:ā}{w:dk}(aB:c.ns.lookup x=some i)(bg:(x==("__debug__":Str))=false)(am:(x==("__classdict__":Str))=false)(lN:(hS.endLine==qq.line)=true)(aK:fG e=false)(g:Good c A e w)(aX:c.Ok):ga c A (.Expr (.Call (.Attribute (.Name x np) "extend" hS) [e] [] qq) pos) λr J K=>hP r[i]? λ_=>w r J (FF i r K):=by intro O s ac C r J k K Q I F ag h;obtain⟨l,bn,ag⟩:=hP.dw ag;obtain⟨a,Vs,n,b0,bt,dN,gT,kX⟩:=(F.bE.slots x i _ aB bn).of;refine wpAny_Expr (xj rfl lN (nd aK)<|wpAny_Name (rp F.bE.kind b0 am ?_) bg) (by unfold PySem.interactive;rw[F.bE.kind];rfl) rfl;refine⟨"list","list.extend",PySem.F.plainAttrs_list,PySem.F.slot_list_extend,PySem.F.type_list_extend,⟨_,dN,rfl⟩,λb aw=>by cases aw;exact⟨_,dN,rfl⟩,?_⟩;refine PySem.P.extend_list<|g.use I F ag λv da e V bM bs a0 bU bo cp=>?_;have eg:=(bo.kept a _ dN<|by rw[bt];trivial).2.trans bt;obtain⟨hg,Vs,n,jj,gD,lA,nt,z7⟩:=(bU.bE.slots x i _ aB bn).of;obtain rfl:=a0.uniq hg a (gD.trans eg.symm) (by rw[gD];trivial);obtain⟨MB,rfl,aq,e⟩:=kq.dw<|hP.at bn e;have aj:=nt.length;obtain⟨b,bC,Sj,rfl,iE,oy,pE⟩:=pk cp;clear cp;have Il:=oy.length;have eN:l.length+MB.length<=16777216:=aq;refine⟨b,Vs.toArray,bC.toArray,n,Sj,by rw[eG,aj];unfold sizeLine;exact f1 ‹_›,by rw[eG,eG,aj,Il];unfold sizeLine;exact iF ‹_›,extend_door (by rw[eG,eG,aj,Il];exact aq),rfl,lA,a0.a5 _ _ iE,?_⟩;obtain⟨dx,y,cS⟩:=H9 aX aB a0 bU jj gD lA (f:=λbO=>bO++bC.toArray) (bC:=Vs++bC) (by simp) (nt.append oy) (by rw[c'];exact aq);exact h _ _ _ e _ bM _ dx (bo.zero.trans y) cS .go
theorem Ri{o e:Ā}{hS qq pos:Pos}{e3 w:dk}(aw:lf o=false)(lN:(hS.endLine==qq.line)=true)(aK:fG e=false)(go:Good c A o e3)(g:Good c A e w)(aX:c.Ok):ga c A (.Expr (.Call (.Attribute o "append" hS) [e] [] qq) pos) λr J K=>e3 r J (D_ w r K):=by
 intro O s ac C r J k K Q I F ag h;refine wpAny_Expr (xj (ww aw) lN (nd aK)<|go.use I F ag λx B' e X dq eP mE la sL c7=>ay.dw e λz YH e=>?_) (by unfold PySem.interactive;rw[F.bE.kind];rfl) rfl;obtain⟨n,Z2,rfl,OM⟩:=Y6 YH;obtain⟨a,Zy,NP,rfl,b0,bt,-,-⟩:=qt mE c7 OM;refine⟨"list","list.append",PySem.F.plainAttrs_list,PySem.F.slot_list_append,PySem.F.type_list_append,⟨_,bt,rfl⟩,λb aw=>by cases aw;exact⟨_,bt,rfl⟩,?_⟩;refine PySem.P.append_list<|g.use mE la e λv da e V bM bs a0 bU bo cp=>?_;obtain⟨l,bn,aq,e⟩:=gP.dw e;obtain⟨hg,Vs,j3,mh,dn,eg,fS,iy⟩:=qt a0 (bo.hh mE c7) bn;cases mh;have eN:l.length+1<=16777216:=aq;refine⟨Vs.toArray,j3,by rw[eG,fS.length];unfold sizeLine;exact f1 ‹_›,eg,?_⟩;obtain⟨m,aN⟩:=A4 (Vs:=Vs) (bC:=Vs++[V]) (n:=j3) (f:=λbO=>bO.push V) (by simp);have new:(bs.heap.update a<|Obj.mapSeq λbO=>bO.push V).get? a=some (cu (Vs++[V]).toArray m):=by rw[sH _ eg rfl,aN]
 obtain⟨dx,y,cS⟩:=At a0 bU dn (λb o aw e=>(Heap.get?_update_other _ _<|ip aw).trans e) new (.ls dn new (fS.append<|.cons cp .nil)<|by rw[c'];exact aq) bs.toks;exact h _ _ _ e _ bM _ dx ((sL.trans bo).zero.trans y) cS .go
theorem Hf{ac:Env}{C:aY}{r:aJ}{J:St}{s:Mt}{k i:ā}{aL:cq}{a:Addr}{o:Obj}(I:c.I C J s)(F:c.F C ac r s.heap k)(ak:C a=.own i)(az:s.heap.get? a=some o)(tx:∀x,c.ns.lookup x=some i->lY c.P (cC C a<|.a5 o) ac s.heap i x aL):c.I (cC C a<|.a5 o) J s/\eB C s (cC C a<|.a5 o) s/\c.F (cC C a<|.a5 o) ac (r.set i aL) s.heap k:=by
 have QQ:∀{b cw},C b=.a5 cw->b≠a:=by rintro b cw e rfl;rw[ak]at e;exact bQ e rfl
 have Sx:∀{b n},C b=.st n->b≠a:=by rintro b cw e rfl;rw[ak]at e;exact bQ e rfl
 have TQ:∀{b n},C b=.cD n->b≠a:=by rintro b cw e rfl;rw[ak]at e;exact bQ e rfl
 have ea:∀b cw,C b=.a5 cw->cC C a (.a5 o) b=.a5 cw:=λb cw e=>(bW<|QQ e).trans e;have eV:∀b n,C b=.st n->cC C a (.a5 o) b=.st n:=λb cw e=>(bW<|Sx e).trans e;refine⟨I.turn (by rw[ak];trivial) az,⟨λb cw e cd=>⟨e,bW<|by rintro rfl;rw[ak]at cd;exact cd⟩,eV,λb n e=>(bW<|TQ e).trans e⟩,⟨⟨F.bE.kind,F.bE.glob,F.bE.lT,(bW (by intro q;have:=F.bE.loc;rw[q,ak]at this;exact bQ this rfl)).trans F.bE.loc,F.bE.mB,λy a1=>?_,λy j rj G E=>?_⟩,F.gl,F.st,F.cl⟩⟩
 .obtain⟨be,v,b0,bt,dN⟩:=F.bE.cells y a1;exact⟨be,v,b0,(bW<|by rintro rfl;rw[ak]at bt;exact bQ bt rfl).trans bt,dN⟩
 .by_cases q:j=i
  .subst q;rw[rz]at E;simp only[if_true]at E;split at E
   .cases E;exact tx y G
   .exact bY E
  .rw[nr<|ip q]at E;have no:∀{b},C b=.own j->b≠a:=by rintro b e rfl;rw[ak]at e;cases e;exact q rfl
   induction F.bE.slots y j rj G E with
   |un=>exact .un
   |val x y=>exact .val x<|y.mono ea eV
   |ol x b d e f=>exact .ol x ((bW<|no b).trans b) d (e.mono ea eV) f
   |od x b d e f g=>exact .od x ((bW<|no b).trans b) d (e.mono ea eV) f g
theorem QI{cQ:HO Stmt}{i:ā}{w:oa}(aX:c.Ok)(aA:∃x,c.ns.lookup x=some i)(g:mI c A cQ w):mI c A cQ λr J K=>rC r[i]? (w r J K) λv=>w (r.set i<|.val v) J K:=by
 intro O s ac C r J k K Q I F e h;obtain⟨x,aA⟩:=aA;have bn:=F.bE.slots x i;generalize r[i]?=o at e bn;induction o with
 |none=>exact e.elim
 |some aL=>
  have bn:=(bn aL aA rfl).of;induction aL with
  |un=>exact g O s ac C r J k K Q I F e h
  |val v=>exact g O s ac C r J k K Q I F e h
  |ol l=>
   obtain⟨a,Vs,n,b0,bt,dN,gT,kX⟩:=bn;obtain⟨a0,bo,bU⟩:=Hf (aL:=.val<|.lst l) I F bt dN λy a1=>by obtain rfl:=aX.rT _ _ _ a1 aA;exact .val b0<|.lst (c2 _ _ _) (gT.mono (λb o e=>(bW<|by rintro rfl;rw[bt]at e;exact bQ e rfl).trans e)<|λb o e=>(bW<|by rintro rfl;rw[bt]at e;exact bQ e rfl).trans e) kX
   exact g.use a0 bU bo e h
  |od l=>
   obtain⟨a,cx,n,b0,bt,dN,gT,kX,yE⟩:=bn;obtain⟨a0,bo,bU⟩:=Hf (aL:=.val<|.bb l) I F bt dN λy a1=>by obtain rfl:=aX.rT _ _ _ a1 aA;exact .val b0 (.bb (c2 _ _ _) (gT.mono (λb o e=>(bW<|by rintro rfl;rw[bt]at e;exact bQ e rfl).trans e)<|λb o e=>(bW<|by rintro rfl;rw[bt]at e;exact bQ e rfl).trans e) kX yE<|CM I aX.sys<|by rw[bt];trivial)
   exact g.use a0 bU bo e h
theorem kK.dw{o:Z5 cq}{f:HO (B×B)->Prop}(h:kK o f):∃l,o=some (.od l)/\f l:=by
 induction o with
 |none=>exact h.elim
 |some x=>induction x<;>first|exact⟨_,rfl,h⟩|exact h.elim
theorem kK.at{o:Z5 cq}{l:HO (B×B)}{f:HO (B×B)->Prop}(q:o=some (.od l))(h:kK o f):f l:=by rw[q]at h;exact h
theorem Vz{us e:Ā}{x:Str}{np bk pos:Pos}{i:ā}{m9 w:dk}(a4:A.units+16<cLine)(aB:c.ns.lookup x=some i)(bg:(x==("__debug__":Str))=false)(am:(x==("__classdict__":Str))=false)(aq:iz e=false)(g:Good c A e w)(cB:Good c A us m9)(aX:c.Ok):ga c A (.Assign [.Subscript (.Name x np) us bk] e pos) λr J K=>kK r[i]? λ_=>w r J (hv m9 r<|EV i r K):=by intro O s ac C r J k K Q I F ag h;obtain⟨l,bn,ag⟩:=kK.dw ag;refine wpAny_Assign_Subscript (g.use I F ag λv da e V bM bs a0 bU bo cp=>?_)<|qZ aq;obtain⟨a,es,n,b0,bt,dN,gT,kX,yE⟩:=(bU.bE.slots x i _ aB bn).of;refine wpAny_Name (rp bU.bE.kind b0 am<|cB.use a0 bU e λpi d3 e K co b9 cb ee bL ab=>?_) bg;obtain⟨a7,e⟩:=kK.at bn e;have eg:=(bL.kept a _ dN<|by rw[bt];trivial).2.trans bt;obtain⟨hg,es,n,jj,gD,lA,nt,z7,QL⟩:=(ee.bE.slots x i _ aB bn).of;obtain rfl:=cb.uniq hg a (gD.trans eg.symm) (by rw[gD];trivial);refine ay.dw e λdi fC e=>GG a4 cb ⟨lA,nt,QL,z7⟩ a7 ab (bL.hh a0 cp) fC λaR t cx n' J8 Ti QM Me=>?_;obtain⟨dx,y,cS⟩:=Jq aX aB cb ee jj gD (λb o aw e=>(Me.2 b aw).trans e) J8 (λv=>.od v gD J8 Ti e.1 QM) t;exact h _ _ _ e.2 _ co _ dx ((bo.trans bL).zero.trans y) cS .go
theorem UO{prog:Program}{w:World}{O:Zr->Mt->Prop}{s:Mt}{a:Addr}{Vs:HO Zr}{n j:ā}{k:Ă}(aD:k=Int.ofNat j){t:Tok}{V:Zr}{Q:Unit->Mt->Prop}(az:s.heap.get? a=some (cu Vs.toArray n))(b_:j<Vs.length)(hsz:Vs.length<=16777216)(eR:∀aR m,aR.get? a=some (cu (Vs.set j V).toArray m)->Heap.SameBut a s.heap aR->Q () {s with heap:=aR}):wpAny (model prog w) A (setItem (.ref a) (.int k t) V) Q O s:=by
 have aU:(0:Ă)<=k:=by rw[aD];exact mG j
 have G:k<(2^63:Ă):=by rw[aD];exact ix.mpr<|show j<2^63 from gG b_<|aI hsz<|aG rfl
 have iX:=fitsIndex_of aU G;have aj:s.heap.IsList a Vs.toArray:=hR az;unfold setItem;try with_reducible refine gQ ?_
 first|refine bd (b3 ?_)|skip
 refine bd<|u0 aj.typeIs (by decide) ?_;refine bd<|sE (name:=Str.ofString "__setitem__") aj.typeIs slot_list_setitem<|nj slot_list_setitem aj.typeIs entry_list_setitem ?_<|args_list_setitem _ _ _;show wpAny _ _ (Builtin.List.listSubscript? (.int k t)>>=_) _ _ s;refine bd<|wpAny_listSubscript_int iX ?_;clear iX aU G;subst aD;have WW:j<Vs.toArray.size:=by simpa using b_
 show wpAny _ _ ((seqItemAt a j>>=λr=>pure<|r.map (j,·))>>=_) _ _ s;refine bd<|bd<|wpAny_seqItemAt az rfl<|b3 ?_;rw[(Array.getElem?_eq_getElem WW:Vs.toArray[j]?=some Vs.toArray[j])];show wpAny _ _ (setSeqItemAt a j V>>=_) _ _ s;have GH:Vs.toArray.setIfInBounds j V=(Vs.set j V).toArray:=by simp
 obtain⟨m,aN⟩:=A4 (Vs:=Vs) (bC:=Vs.set j V) (n:=n) (f:=(·.setIfInBounds j V)) GH;clear GH;have tH:(s.heap.update a<|Obj.mapSeq (·.setIfInBounds j V)).get? a=some (cu (Vs.set j V).toArray m):=by rw[sH _ az (by rw[aN];rfl),aN]
 refine bd<|wpAny_setSeqItemAt az rfl ?_;first
  |exact bd (b3 (b3 ⟨.none,rfl,b3 (eR _ m tH (uu ..))⟩))
  |exact b3 ⟨.none,rfl,b3 (eR _ m tH (uu ..))⟩
theorem XY{J bG:St}{x pi v:B}(e:Ij J x pi v=some bG):∃n,x=.ref n/\((∃l j,J[n]?=some (.ls l)/\dD (pi=.int (.ofNat j)) (j<l.length) (bG=J.set n (.ls<|l.set j v)))\/∃l di,J[n]?=some (.cO l)/\hZ (eo pi l=true) (gW pi v l=some di) (di.length<=a3) (bG=J.set n (.cO di))):=by
 induction x using B.casesOn with
 |ref n=>
  obtain⟨ct,bn,e⟩:=bind_some<|show(J[n]?).bind _=some bG from e;refine⟨n,rfl,?_⟩;induction ct with
  |ls l=>
   induction pi using B.casesOn with
   |int i=>induction i with
    |ofNat j=>obtain⟨b_,e⟩:=hc<|show(if j<l.length then some (J.set n<|.ls<|l.set j v)else none)=some bG from e;exact .inl ⟨l,j,bn,rfl,b_,(cT e).symm⟩
    |negSucc=>exact bY e
   |_=>exact bY e
  |cO l=>obtain⟨a7,e⟩:=hc<|show(if eo pi l=true then(gW pi v l).bind λl=>i3 l.length (J.set n<|.cO l)else none)=some bG from e;obtain⟨di,ag,e⟩:=bind_some e;obtain⟨aq,e⟩:=t4 e;exact .inr ⟨l,di,bn,a7,ag,aq,e.symm⟩
  |ins=>exact bY e
 |_=>exact bY e
theorem Wo{dB vS e:Ā}{bk pos:Pos}{e3 fH w:dk}(a4:A.units+16<cLine)(aq:iz e=false)(g:Good c A e w)(go:Good c A dB e3)(gJ:Good c A vS fH)(aX:c.Ok):ga c A (.Assign [.Subscript dB vS bk] e pos) λr J K=>w r J (hv e3 r λv=>hv fH r<|HS r K v):=by
 intro O s ac C r J k K Q I F ag h;refine wpAny_Assign_Subscript (g.use I F ag λv da e V bM bs a0 bU bo cp=>go.use a0 bU e λx d3 e X co b9 cb ee bL c7=>gJ.use cb ee e λpi vp e ZT kr f6 fM jI fu ab=>ay.dw e λbG kH e=>?_)<|qZ aq;have HR:=(bL.trans fu).hh a0 cp;have Fk:=fu.hh cb c7;have kI:=((bo.trans bL).trans fu).zero;obtain⟨n,rfl,⟨l,j,bn,rfl,b_,rfl⟩|⟨l,di,bn,a7,k4,g4,rfl⟩⟩:=XY kH
 .obtain⟨a,Vs,BP,rfl,dn,eg,fS,iy⟩:=qt fM Fk bn;obtain⟨t,rfl⟩:=yx ab;clear ab;have aj:=fS.length;have Zs:l.length<=16777216:=iy;refine UO rfl eg (by lia) (by lia) λaR m new nt=>?_;obtain⟨dx,y,cS⟩:=At fM jI dn (λb o aw e=>(nt.2 b aw).trans e) new (.ls dn new (fS.set HR j)<|by rw[List.length_set];exact iy) f6.toks;exact h _ _ _ e _ kr _ dx (kI.trans y) cS .go
 .obtain⟨a,es,BP,rfl,dn,D⟩:=Af fM Fk bn;refine GG a4 fM D a7 ab HR k4 λaR t cx n' jj gD lA nt=>?_;obtain⟨dx,y,cS⟩:=At fM jI dn (λb o aw e=>(nt.2 b aw).trans e) jj (.cO dn jj gD g4 lA) t;exact h _ _ _ e _ kr _ dx (kI.trans y) cS .go
section
variable{prog:Program}{w:World}{A:Around}{s:Mt}{K:Frag}{x ah:Addr}{R:Result->Mt->Prop}
set_option tactic.hygienic true in
theorem Y9{Av ws:Obj}{p':Addr}{name:Str}{cM:Tok}{v:Zr}{es:HO DictEntry}{n:ā}{tG:HO DictEntry}{w0:ā}(D:s.heap.get? p'=some (el tG.toArray w0))(X:K.In s.heap)(I:InstAt s.heap x Av ah (some<|el tG.toArray w0))(bg:Av.dict=some p')(ae:plainOver K ah=true)(dX:takerIn K ah name=some none)(cd:(clsIn K ah).any (·.hasDict)=true)(aj:tG.any (·.refKey)=false)(e:Obj.putName name (PyData.keyHash w.params name) (.str name s.toks) v (el tG.toArray w0)=ws)(bz:ws.data=.dict es.toArray n)(hz:es.length<=1000)(h:∀aR,aR.get? p'=some ws->Heap.SameBut p' s.heap aR->R (.ok<|.ret .none) {s with heap:=aR,toks:=s.toks+1}):codeAny (model prog w) A (.call (.builtin "object.__setattr__") ⟨[.ref x,.str name cM,v],[]⟩) R s:=by
 refine osa_open X I ae dX λb=>?_;obtain⟨kh,aq,lF⟩:=PySem.W.any_some cd;clear cd;have wU:(s.heap.update p'<|Obj.putName name (PyData.keyHash w.params name) (.str name s.toks) v).get? p'=some ws:=by rw[sH _ D (by rw[e];obtain⟨_,_,en,_⟩:=ws;subst bz;rfl),e]
 obtain⟨aA,eS,am,-⟩:=I;obtain⟨ZZ,ZV,Z7,ZE⟩:=Av;dsimp only at eS bg;subst eS bg;refine wpAny_bind<|wpAny_pure<|wpAny_bind<|wpAny_bind<|wpAny_loadPart aA<|wpAny_bind<|(looks_clsIn X aq).here ?_;rw[lF];refine b3 (a:=some p')<|bd<|b3<|bd ?_;unfold nsSet;refine bd<|bd<|wpAny_askSetting<|b3<|bd<|wpAny_mkText<|bd<|wpAny_loadPart D ?_;dsimp only[el];rw[aRefKeyMayBeTheName_at,show tG.toArray.any (·.refKey)=false from Array.any_toList.symm.trans aj,sw];refine wpAny_updatePart D ?_;refine bd<|wpAny_lookBehind wU (by rw[bz];exact pastItsLine_dict<|by rw[eG,kF];exact f1 ‹_›) ?_;exact b3<|h _ wU (uu ..)
end
theorem Ha{P:Params}{C:aY}{an:ā->Str}(inj:∀a b,an a=an b->a=b){a:ā}{v:B}{V:Zr}{t:Tok}(af:bA P C v V){l:HO (ā×B)}{es:HO DictEntry}(h:i1 P C an l es):i1 P C an (putAt a v l) (putL (an a) (PyData.keyHash P<|an a) (.str (an a) t) V es):=by
 induction h with
 |nil=>exact .cons af .nil
 |@cons b w cM W l es bF r ap=>
  show i1 P C an (if b=a then(b,v)::l else(b,w)::putAt a v l)<|if(Value.str (an b) cM).isStr (an a)=true then _ else _;by_cases q:b=a
  .rw[bl q,bl<|show(Value.str (an b) cM).isStr (an a)=true from fL.mpr<|bI an q];exact .cons af r
  .rw[bm q,bm<|show¬(Value.str (an b) cM).isStr (an a)=true from λe=>q<|inj _ _<|fL.mp e];exact .cons bF ap
theorem Tp{P:Params}{C:aY}{an:ā->Str}{l:HO (ā×B)}{es:HO DictEntry}(h:i1 P C an l es):es.length=l.length:=by
 induction h with
 |nil=>rfl
 |cons _ _ ap=>exact bI Nat.succ ap
theorem SM{a:ā}{v:B}{l:HO (ā×B)}:(l.map Prod.fst).Nodup->((putAt a v l).map Prod.fst).Nodup/\∀x,x∈(putAt a v l).map Prod.fst->x=a\/x∈l.map Prod.fst:=by
 induction l with
 |nil=>exact λ_=>⟨hV.mpr ⟨λh=>(nomatch h),q5⟩,λx h=>.inl<|cX.mp h⟩
 |cons p l ap=>
  intro h;show((if p.1=a then(p.1,v)::l else p::putAt a v l).map Prod.fst).Nodup/\∀x,x∈(if p.1=a then(p.1,v)::l else p::putAt a v l).map Prod.fst->x=a\/x∈p.1::l.map Prod.fst;by_cases q:p.1=a
  .rw[bl q];exact⟨h,λ_ h=>.inr h⟩
  .rw[bm q];obtain⟨c3,bh⟩:=hV.mp h;clear h;obtain⟨G,E⟩:=ap bh;clear ap bh;refine⟨hV.mpr ⟨λaN=>(E _ aN).elim q c3,G⟩,λx aA=>?_⟩;cases aA with
   |head=>exact .inr<|.head _
   |tail _ aA=>exact(E x aA).imp id<|.tail _
theorem NZ{a:ā}{v:B}{l:HO (ā×B)}:(putAt a v l).length<=l.length+1:=by
 induction l with
 |nil=>exact dy _
 |cons p l ap=>
  show(if p.1=a then(p.1,v)::l else p::putAt a v l).length<=_;by_cases q:p.1=a
  .rw[bl q];exact j1 _
  .rw[bm q];exact dc ap
theorem ID{P:Params}{C:aY}{an:ā->Str}{l:HO (ā×B)}{es:HO DictEntry}(h:i1 P C an l es):es.any (·.refKey)=false:=by
 induction h with
 |nil=>rfl
 |cons _ _ ap=>exact ap
theorem JJ(aX:c.Ok){O:Zr->Mt->Prop}{s:Mt}{C:aY}{J bG:St}{o v:B}{X V:Zr}{a:ā}{Q:Unit->Mt->Prop}(I:c.I C J s)(d1:bA c.P C o X)(cp:bA c.P C v V)(ak:a<33)(e:nW J o a v=some bG)(h:∀ar d,¬(C d).free->¬(C d).h'->c.I C bG ar->eB C s C ar->(∀b o,b≠d->s.heap.get? b=some o->ar.heap.get? b=some o)->Q () ar):wpAny c.M A (setAttr X (c.N.an a) V) Q O s:=by
 replace e:=o3.of e;obtain⟨n,be,l,rfl,aK,e⟩:=e;obtain⟨dS,e⟩:=hc e;cases e;obtain⟨x,d,es,k,rfl,G,E,aC,ba,cN,d5,fp⟩:=Dg I d1 aK;have iI:=aX.iI be a fp ak;unfold storeOk at iI;rw[eX,eX,eX]at iI;obtain⟨⟨⟨c3,bh⟩,cJ⟩,hJ⟩:=iI;have DL:c.K.In s.heap:=λb o e=>I.mm _ _<|aX.ab b o e;have inst:InstAt s.heap x (k6 (c.N.cl be) d) (c.N.cl be) (some<|el es.toArray k):=⟨aC,rfl,rfl,ba⟩;refine set_plain (K:=c.K) DL inst (eI c3) ?_;have a0:=I.toks<|s.toks+1;refine Y9 (K:=c.K) (p':=d) (tG:=es) (w0:=k) (s:={s with toks:=s.toks+1}) ba DL inst rfl bh (eI cJ) hJ (ID cN) (putName_dict _ _ _ _ _ _) rfl ?_ λaR jj gD=>?_
 .have qk:=Tp<|Ha (a:=a) (t:=s.toks+1) aX.inj cp cN;have er:=NZ (a:=a) (v:=v) (l:=l);exact aI (fT qk) (by lia)
 .have bZ:∀b o,b≠d->s.heap.get? b=some o->aR.get? b=some o:=λb o aw e=>(gD.2 b aw).trans e;have aA:aR.get? x=some (k6 (c.N.cl be) d):=bZ _ _ (by rintro rfl;rw[G]at E;exact bQ E rfl) aC;exact h _ d (by rw[E];exact id) (by rw[E];exact id) (I.Gr (.inr E) bZ (by rw[jj];rfl) (.ins G E aA jj (Ha (a:=a) (t:=s.toks+1) aX.inj cp cN) (SM d5).1 fp)<|s.toks+1+1) (eB.AK (by rw[E];exact id) bZ _) bZ
theorem Qh{dB e:Ā}{x:Str}{bk pos:Pos}{a:ā}{e3 w:dk}(aX:c.Ok)(ak:a<33)(aA:c.N.an a=x)(aq:iz e=false)(g:Good c A e w)(go:Good c A dB e3):ga c A (.Assign [.Attribute dB x bk] e pos) λr J K=>w r J (hv e3 r<|zH a r K):=by intro O s ac C r J k K Q I F ag h;subst aA;exact plainObj_wpAny_Assign_Attribute (g.use I F ag λv da e V bM bs a0 bU bo cp=>go.use a0 bU e λo d3 e X co b9 cb ee bL c7=>ay.dw e λvp fC e=>JJ aX cb c7 (bL.hh a0 cp) ak fC λar d b0 bt fM fu bZ=>h _ _ _ e _ co ar fM ((bo.trans bL).zero.trans fu) (ee.other b0 bZ) .go)<|qZ aq
inductive pF (c:cc) (C:aY) (s:Shared) (a:Addr):B->Prop where
 |lst {l:List B} {Vs:List Value} {n:Nat}:s.heap.get? a=some (cu Vs.toArray n)->bD c.P C l Vs->l.length<=a3->pF c C s a (.lst l)
 |bb {l:List (B×B)} {es:List DictEntry} {n:Nat}:iO c C s a l es n->(a==sysModules)=false->pF c C s a (.bb l)
def UE(c:cc)(C:aY)(s:Mt)(Q:Zr->Mt->Prop)(v:B)(bG:St):Prop:=∀a aO ar,c.I aO bG ar->br C s aO ar->C a=.none->aO a=.ext->pF c aO ar a v->Q (.ref a) ar
def pK(c:cc)(A:Around)(e:Ā)(w:dk):Prop:=∀O s ac C r J k (K:B->St->Prop) (Q:Zr->Mt->Prop),c.I C J s->c.F C ac r s.heap k->w r J K->(∀v bG,K v bG->UE c C s Q v bG)->wpAny c.M A (eval e ac) Q O s
theorem X'{es:HO Ā}{pos:Pos}{eb:nO}(gl:kZ c A es eb)(aj:es.length<=a3):pK c A (.List es pos) λr J K=>eb r J (zN K):=by
 intro O s ac C r J k K Q I F e h;refine wpAny_List<|gl.use I F e λvs da e Vs bM bs a0 bU bo af a6=>?_;rw[<-a6]at aj;refine⟨by rw[af.length];exact f1 aj,?_⟩;have am:C bs.heap.objs.size=.none:=by
  induction q:C bs.heap.objs.size with
  |none=>rfl
  |_=>
   exfalso;obtain⟨o,az⟩:=gZ.mp (I.alloc _<|by rw[q];intro z;exact bQ z rfl);have:=a0.fresh (a:=bs.heap.objs.size)<|dy _;first
    |(have z:=(bo.kept _ o az<|by rw[q];trivial).2;rw[this,q]at z;exact bQ z rfl)
    |(have z:=bo.st _ _ q;rw[this]at z;exact bQ z rfl)
    |(have z:=bo.cD _ _ q;rw[this]at z;exact bQ z rfl)
 have bL:=br.push a0 (cu Vs.toArray 0) .ext;exact h _ _ e _ _ _ (a0.push (cu Vs.toArray 0) rfl .ext<|.inr rfl) (bo.trans bL) am (c2 _ _ _)<|.lst (gU _ rfl) (bL.iG a0 af) aj
theorem F9{pos:Pos}(aX:c.Ok):pK c A (.Dict [] [] pos) λ_ J K=>K (.bb []) J:=by intro O s ac C r J k K Q I F e h;have am:=I.fresh (a:=s.heap.objs.size)<|dy _;refine wpAny_Dict_empty<|h _ _ e _ _ _ (I.push (el #[] 0) rfl .ext<|.inr rfl) (br.push I (el #[] 0) .ext) am (c2 _ _ _)<|.bb (es:=[]) ⟨gU _ rfl,.nil,q5,f8 _⟩ ?_;rw[lK];intro q;obtain⟨o,az⟩:=aX.sys;have:=I.base _ o az;rw[<-q,am]at this;exact bQ this rfl
def hT (C:aY) (a:Addr) (i:ā):aY:=λb=>if b=a then .own i else match C b with
 |.own j=>if j=i then .ext else .own j
 |r=>r
theorem s5(C:aY)(a:Addr)(i:ā):hT C a i a=.own i:=bl rfl
theorem md{C:aY}{a b:Addr}{i:ā}{r:et}(aw:b≠a)(e:C b=r)(bn:∀j,r=.own j->j≠i):hT C a i b=r:=by
 unfold hT;rw[bm aw,e];induction r with
 |own j=>simp only[bm<|bn j rfl]
 |_=>rfl
theorem ry{C:aY}{a b:Addr}{i:ā}{r:et}(aw:b≠a)(e:hT C a i b=r)(bn:r≠.ext):C b=r:=by
 unfold hT at e;rw[bm aw]at e;induction h:C b using et.casesOn with
 |own j=>
  rw[h]at e;simp only at e;split at e
  .exact absurd e.symm bn
  .exact e
 |_=>rw[h]at e;exact e
section
variable{P:Params}{N:g2}{H:Heap}{os:OsState}{C:aY}{J:St}{s:Mt}
theorem Inv.hT(I:Inv P N H os C J s){a:Addr}{i:ā}(ak:C a=.ext):Inv P N H os (hT C a i) J s:=by
 have keep:∀{b:Addr} {r:et},C b=r->r≠.ext->(∀j,r≠.own j)->Internal.hT C a i b=r:=λe G E=>md ((λe h q=>h<|e.symm.trans<|q▸ak) e G) e λj q=>absurd q<|E j;refine⟨λb h=>?_,λb eD e h=>?_,λb o e=>?_,λn ct e=>(I.store n ct e).mono (λb o e=>keep e (λq=>(nomatch q)) λj q=>(nomatch q)) (λb m e=>keep e (λq=>(nomatch q)) λj q=>(nomatch q)) (λb m e=>keep e (λq=>(nomatch q)) λj q=>(nomatch q)) λb o _ e=>e,λb o e=>keep (I.base b o e) (λq=>(nomatch q)) λj q=>(nomatch q),I.gens,I.hQ,λb n e=>?_⟩
 .by_cases q:b=a
  .subst q;exact I.alloc b (by rw[ak];intro z;exact bQ z rfl)
  .refine I.alloc b λz=>h ?_;rw[md q z λj w=>(nomatch w)]
 .by_cases e7:b=a
  .by_cases nJ:eD=a
   .rw[e7,nJ]
   .rw[e7,s5]at e;have:=ry nJ e.symm<|λz=>(nomatch z);have E:=md (i:=i) (a:=a) nJ this;exfalso;unfold Internal.hT at e;rw[bm nJ,this]at e;simp at e
  .by_cases nJ:eD=a
   .rw[nJ,s5]at e;have:=ry e7 e<|λz=>(nomatch z);exfalso;unfold Internal.hT at e;rw[bm e7,this]at e;simp at e
   .have e4:Internal.hT C a i b≠.ext:=λz=>by rw[z]at h;exact h
    have ag:=ry e7 rfl e4;exact I.uniq b eD (ag.trans (ry nJ e.symm e4).symm) (by rw[ag];exact h)
 .by_cases q:b=a
  .subst q;rw[s5]at e;exact bQ e rfl
  .exact I.a5 b o<|ry q e<|λz=>(nomatch z)
 .by_cases q:b=a
  .subst q;rw[s5]at e;rcases e with e|e<;>exact bQ e rfl
  .rcases e with e|e
   .exact I.gA b n<|.inl<|ry q e<|λz=>(nomatch z)
   .exact I.gA b n<|.inr<|ry q e<|λz=>(nomatch z)
end
theorem Eo{C:aY}{s:Mt}{a:Addr}{i:ā}(dq:aY)(eP:Mt)(x:eB dq eP C s)(am:dq a=.none)(ak:C a=.ext):eB dq eP (hT C a i) s:=by
 refine⟨λb o e cd=>?_,(λb n e=>md (by rintro rfl;rw[am]at e;exact bQ e rfl) (x.st b n e) λj q=>(nomatch q):∀b n,dq b=.st n->hT C a i b=.st n),(λb n e=>md (by rintro rfl;rw[am]at e;exact bQ e rfl) (x.cD b n e) λj q=>(nomatch q):∀b n,dq b=.cD n->hT C a i b=.cD n)⟩;obtain⟨ag,a8⟩:=x.h' b o e cd;have aw:b≠a:=by rintro rfl;rw[am]at cd;exact cd
 refine⟨ag,?_⟩;rw[md aw a8 λj q=>?_];rw[q]at cd;exact cd.elim
def EH:B->Z5 cq
 |.lst l=>some<|.ol l
 |.bb l=>some<|.od l
 |_=>none
theorem Fw{C:aY}{ac:Env}{s ar:Mt}{x:Str}{r:aJ}{k i:ā}{a:Addr}{v:B}{aL:cq}{J:St}(aX:c.Ok)(I:c.I C J s)(aT:Bound c C ac s x (.ref a) ar)(F:c.F C ac r s.heap k)(aB:c.ns.lookup x=some i)(ak:C a=.ext)(af:pF c C s a v)(aK:EH v=some aL):c.F (hT C a i) ac (r.set i aL) ar.heap k:=by
 have ea:∀b o,C b=.a5 o->hT C a i b=.a5 o:=λb o e=>md (by rintro rfl;rw[ak]at e;exact bQ e rfl) e λj q=>(nomatch q);have eV:∀b n,C b=.st n->hT C a i b=.st n:=λb n e=>md (by rintro rfl;rw[ak]at e;exact bQ e rfl) e λj q=>(nomatch q);have eu:∀o,s.heap.get? a=some o->ar.heap.get? a=some o:=λo e=>aT.keep a o (λk q=>by rw[ak]at q;exact bQ q rfl) (λy q=>by rw[ak]at q;exact bQ q rfl) e;refine⟨⟨F.bE.kind,F.bE.glob,F.bE.lT,md (by intro q;have:=F.bE.loc;rw[q,ak]at this;exact bQ this rfl) F.bE.loc λj q=>(nomatch q),aT.ns,λy a1=>?_,λy j rj G E=>?_⟩,F.gl,F.st,F.cl⟩
 .obtain⟨be,w,b0,bt,dN⟩:=aT.cells y a1;exact⟨be,w,b0,md (by rintro rfl;rw[ak]at bt;exact bQ bt rfl) bt λj q=>(nomatch q),dN⟩
 .by_cases q:j=i
  .subst q;obtain rfl:=aX.rT _ _ _ G aB;rw[rz]at E;simp only[if_true]at E;split at E
   .cases E;induction af with
    |lst c3 bh cJ=>cases aK;exact .ol aT.new (s5 _ _ _) (eu _ c3) (bh.mono ea eV) cJ
    |bb D g=>cases aK;exact .od aT.new (s5 _ _ _) (eu _ D.at_) (D.rel.mono ea eV) D.a3 D.nodup
   .exact bY E
  .have a1:y≠x:=by rintro rfl;rw[aB]at G;exact q (cT G).symm
   rw[nr<|ip q]at E;have y3:∀{b:Addr} {o:Obj},C b=.own j->s.heap.get? b=some o->ar.heap.get? b=some o:=λb e=>aT.keep _ _ (λk q=>by rw[b]at q;exact bQ q rfl) (λz q=>by rw[b]at q;exact bQ q rfl) e;have He:∀{b:Addr},C b=.own j->hT C a i b=.own j:=λe=>md (by rintro rfl;rw[ak]at e;exact bQ e rfl) e λu7 z=>by cases z;exact q
   induction F.bE.slots y j rj G E with
   |un=>exact .un
   |val p b=>exact .val (aT.old y _ a1 p)<|b.mono ea eV
   |ol p b d e f=>exact .ol (aT.old y _ a1 p) (He b) (y3 b d) (e.mono ea eV) f
   |od p b d e f g=>exact .od (aT.old y _ a1 p) (He b) (y3 b d) (e.mono ea eV) f g
theorem E4{e:Ā}{x:Str}{eK pos:Pos}{i:ā}{w:dk}{O:Zr->Mt->Prop}{s:Mt}{ac:Env}{C:aY}{r:aJ}{J:St}{k:ā}{K:cj->aJ->St->Prop}{Q:Flow->Mt->Prop}(aX:c.Ok)(aw:swapsWith e (some<|.Name x eK) pos.line ac=pure false)(aB:c.ns.lookup x=some i)(aA:c.b6 x=true)(g:pK c A e w)(I:c.I C J s)(F:c.F C ac r s.heap k)(ag:w r J (uR i r K))(h:∀cI b2 bG,K cI b2 bG->xE c C s ac k Q cI b2 bG):wpAny c.M A (exec (.Assign [.Name x eK] e pos) ac) Q O s:=by
 refine wpAny_Assign_Name (g O s ac C r J k _ _ I F ag λv da e a bM bs a0 bo am ak af=>zC a0 (F.ext I bo) aA λar aT=>?_) aw;have key:∀aL,EH v=some aL->K .go (r.set i aL) da->Q .next ar:=λaL aK e=>h _ _ _ e _ _ ar ((aT.I a0).hT ak) (Eo C s (bo.zero.trans aT.ext) am ak) (Fw aX a0 aT (F.ext I bo) aB ak af aK) .go
 induction v using B.casesOn with
 |lst l=>exact key _ rfl e
 |bb l=>exact key _ rfl e
 |_=>exact False.elim e
theorem RG{e:Ā}{x:Str}{eK pos:Pos}{i:ā}{w:dk}(aX:c.Ok)(aq:iz e=false)(aB:c.ns.lookup x=some i)(aA:c.b6 x=true)(g:pK c A e w):ga c A (.Assign [.Name x eK] e pos) λr J K=>w r J (uR i r K):=λO s ac C r J k K Q I F ag h=>E4 aX (qZ aq) aB aA g I F ag h
section
variable{P:Params}{N:g2}{H:Heap}{os:OsState}{C:aY}{J:St}{s:Mt}
theorem Inv.Cq(I:Inv P N H os C J s){a:Addr}(ak:C a=.ext){ct:c4}(aK:∀aO,aO a=.st J.length->(∀b o,C b=.a5 o->aO b=.a5 o)->(∀b n,C b=.st n->aO b=.st n)->lw P N aO s.heap J.length ct):Inv P N H os (cC C a<|.st J.length) (J++[ct]) s:=by
 have ne:∀{b:Addr} {r:et},C b=r->r≠.ext->b≠a:=λe h q=>h<|e.symm.trans<|q▸ak;have G:∀b o,C b=.a5 o->cC C a (.st J.length) b=.a5 o:=λb o e=>(bW<|ne e<|λq=>(nomatch q)).trans e;have E:∀b n,C b=.st n->cC C a (.st J.length) b=.st n:=λb o e=>(bW<|ne e<|λq=>(nomatch q)).trans e;refine⟨λb h=>?_,λb eD e h=>?_,λb o e=>?_,λn z1 e=>?_,λb o e=>G _ _<|I.base b o e,I.gens,I.hQ,λb n e=>?_⟩
 .by_cases q:b=a
  .subst q;exact I.alloc b (by rw[ak];intro z;exact bQ z rfl)
  .rw[bW q]at h;exact I.alloc b h
 .by_cases f_:b=a
  .by_cases e7:eD=a
   .rw[f_,e7]
   .rw[f_,c2,bW e7]at e;exact absurd (I.gA eD J.length<|.inl e.symm)<|mL _
  .rw[bW f_]at e h;by_cases e7:eD=a
   .rw[e7,c2]at e;exact absurd (I.gA b J.length<|.inl e)<|mL _
   .rw[bW e7]at e;exact I.uniq b eD e h
 .by_cases q:b=a
  .subst q;rw[c2]at e;exact bQ e rfl
  .rw[bW q]at e;exact I.a5 b o e
 .by_cases q:n<J.length
  .rw[o7 q]at e;exact(I.store n z1 e).mono G E (λb o e=>(bW<|ne e<|λq=>(nomatch q)).trans e:∀b n,C b=.cD n->cC C a (.st J.length) b=.cD n) λb o _ e=>e
  .have am:n=J.length:=by have:=(g9.mp e).1;rw[c',pv]at this;lia
   subst am;rw[oZ<|dy _,Nat.sub_self]at e;cases e;exact aK _ (c2 _ _ _) G E
 .rw[c',pv];by_cases q:b=a
  .subst q;rw[c2]at e;rcases e with e|e<;>(first|exact bQ e rfl|cases e)
   exact pU _
  .rw[bW q]at e;exact mN<|I.gA b n e
end
def FN:B->Z5 c4
 |.lst l=>some<|.ls l
 |.bb l=>some<|.cO l
 |_=>none
theorem pF.Cq{C:aY}{J:St}{s:Mt}{a:Addr}{v:B}{ct:c4}(I:c.I C J s)(ak:C a=.ext)(af:pF c C s a v)(aK:FN v=some ct):c.I (cC C a<|.st J.length) (J++[ct]) s:=by
 refine Inv.Cq I ak λaO G E aC=>?_;induction af with
 |lst c3 bh cJ=>cases aK;exact .ls G c3 (bh.mono E aC) cJ
 |bb D g=>cases aK;exact .cO G D.at_ (D.rel.mono E aC) D.a3 D.nodup
theorem Uf{J bG:St}{v:B}(e:Fc J v=some bG):∃ct,FN v=some ct/\bG=J++[ct]:=by
 induction v using B.casesOn with
 |lst l=>cases e;exact⟨_,rfl,rfl⟩
 |bb l=>cases e;exact⟨_,rfl,rfl⟩
 |_=>exact bY e
theorem P_{dB e:Ā}{x:Str}{bk pos:Pos}{a:ā}{e3 w:dk}(aX:c.Ok)(ak:a<33)(aA:c.N.an a=x)(aq:iz e=false)(g:pK c A e w)(go:Good c A dB e3):ga c A (.Assign [.Attribute dB x bk] e pos) λr J K=>w r J (Kg e3 a r K):=by intro O s ac C r J k K Q I F ag h;subst aA;refine plainObj_wpAny_Assign_Attribute (g O s ac C r J k _ _ I F ag λv da e ad bM bs a0 bo am JA af=>ay.dw e λZ1 c9 e=>?_)<|qZ aq;obtain⟨ct,PJ,rfl⟩:=Uf c9;have bL:br C s (cC bM ad<|.st da.length) bs:=bo.turn (by rw[am];exact id) JA;exact go.use (af.Cq a0 JA PJ) (F.ext I bL) e λo d3 e X kr f6 fM jI fu c7=>ay.dw e λvp k4 e=>JJ aX fM c7 (.ref<|fu.st _ _<|c2 _ _ _) ak k4 λar d b0 bt hs kI bZ=>h _ _ _ e _ kr ar hs ((bL.trans fu).zero.trans kI) (jI.other b0 bZ) .go
def zh (e:Ā):ZI:=Nat.beq e.ctorIdx 25
theorem zG{value:Ā}{r2:HO Ā}{cL:ā}{bk:Pos}{n:ā}{ac:Env}:swapsWithSole [.Tuple r2 cL bk] value n ac=pure false:=by induction value using PySem.Expr.casesOn<;>exact @rfl _<|pure false
theorem YJ{value:Ā}{r2:HO Ā}{cL:ā}{bk:Pos}{ac:Env}(h:zh value=false):swappedStores [.Tuple r2 cL bk] value ac=pure none:=by exact qY (b:=zh value) (by induction value using PySem.Expr.casesOn<;>first|exact @rfl _ (pure none)|trivial) h
theorem Lp{av:Type}{iE oy pE zY Au:ZI}{N U R aa:av}(aC:pE=false->R=aa)(ba:zY=false)(cN:Au=false):(if iE=true then N else if oy=true then N else if pE=true then N else if zY=true then N else if Au=true then U else R)=N\/(if iE=true then N else if oy=true then N else if pE=true then N else if zY=true then N else if Au=true then U else R)=aa:=by
 subst ba;subst cN;induction iE with
 |true=>exact .inl rfl
 |false=>induction oy with
  |true=>exact .inl rfl
  |false=>induction pE with
   |true=>exact .inl rfl
   |false=>exact .inr<|aC rfl
def vE (x y:Str) (lC jD:ZI):HO Str:=match(if lC=true then some x else none)with
 |none=>(match(if jD=true then some y else none)with|none=>[]|some b=>[b])
 |some a=>a::(match(if jD=true then some y else none)with|none=>[]|some b=>[b])
theorem S_{x y:Str}{f:Z5 (HO Str)->Sem (Option<|HO Str)}:∀lC jD,((vE x y lC jD).length !=2||(vE x y lC jD).eraseDups.length !=(vE x y lC jD).length)=false->f (some<|vE x y lC jD)=f (some [x,y])
 |true,true,_=>rfl
 |true,false,h=>h7 h
 |false,true,h=>h7 h
 |false,false,h=>h7 h
theorem XV{x y:Str}{eK oz bk qA:Pos}{cM p2:ā}{a b:Ā}{ac:Env}(a7:ac.scope.kind=.function)(ak:fG a=false)(aw:fG b=false)(BU:(x==y)=false)(G:(foldedForSure 8 a&&foldedForSure 8 b)=false)(E:(constantsAlone 8 a&&constantsAlone 8 b)=false):swappedStores [.Tuple [.Name x eK,.Name y oz] cM bk] (.Tuple [a,b] p2 qA) ac=pure none\/swappedStores [.Tuple [.Name x eK,.Name y oz] cM bk] (.Tuple [a,b] p2 qA) ac=pure (some [x,y]):=by
 unfold swappedStores;refine Lp (aa:=pure<|some [x,y]) (λh=>?_) ?_ ?_
 .have e:∀(g:Ā->Z5 Str) lC jD,g (.Name x eK)=(if lC=true then some x else none)->g (.Name y oz)=(if jD=true then some y else none)->[Expr.Name x eK,.Name y oz].filterMap g=vE x y lC jD:=λg lC jD b0 bt=>by rw[List.filterMap_cons,b0,List.filterMap_cons,bt,List.filterMap_nil];induction lC<;>induction jD<;>rfl
  rw[e _ (ac.kindOf x==some .local&&eK.line==eK.line) (ac.kindOf y==some .local&&oz.line==eK.line) rfl rfl]at h⊢;exact S_ (f:=pure) _ _ h
 .show(foldedForSure 8 a&&(foldedForSure 8 b&&true))=false;rw[Bool.and_true];exact G
 .show(constantsAlone 8 a&&(constantsAlone 8 b&&true))=false;rw[Bool.and_true];exact E
theorem W2{e:Ā}{r2:HO Ā}{cL:ā}{bk pos:Pos}{l:HO ā}{w:dk}(aX:c.Ok)(cd:A.handled=none)(t:mu c true (.Tuple r2 cL bk) l)(aq:zh e=false)(g:Good c A e w):ga c A (.Assign [.Tuple r2 cL bk] e pos) λr J K=>w r J (C' l r K):=by intro O s ac C r J k K Q I F ag h;exact Assign_Tuple (g.use I F ag λv da e V bM bs a0 bU bo cp=>ay.dw e λtA c9 e=>xc aX cd t a0 bU cp c9 λb9 cb oc ee=>h _ _ _ e _ bM b9 cb (bo.zero.trans oc.ext) ee .go) zG<|YJ aq
def qc (e:Ā):ZI:=Nat.beq e.ctorIdx 7
theorem y2{e:Ā}{de:Env}(h:qc e=false)(x:Zr):foldedSetIterable e de x=pure x:=qY (b:=qc e) (by induction e using PySem.Expr.casesOn<;>first|exact @rfl _ (pure x)|trivial) h
theorem Ks{O:Zr->Mt->Prop}{target:Ā}{I:Addr}{v:Zr}{Q:Unit->Mt->Prop}{s:Mt}(az:dJ λo n vs=>hZ (s.heap.get? I=some o) (o.cls=.type n) (o.data=.fields vs)<|xk n=true)(h:Q () s):wpAny c.M A (letOwnedTupleGo target (.ref I) v) Q O s:=by
 obtain⟨o,n,vs,az,aq,bg,ae⟩:=az;have hO:(["enumerate","zip","dict_itemiterator","dict_reverseitemiterator","odict_iterator","itertools.zip_longest","itertools.pairwise"].contains n)=false:=by unfold xk at ae;simpa using ae
 unfold letOwnedTupleGo;induction target using PySem.Expr.casesOn<;>first
  |exact b3 h
  |(induction v<;>first
   |exact b3 h
   |(refine bd (wpAny_load az ?_);rw[aq,bg];simp only[hO,Bool.false_and];exact b3 h))
theorem YY{P:Params}{C:aY}{x:B}{X:Zr}{bO:HO B}(h:bA P C x X)(e:items x=some bO):∀b,X=.ref b->∃o,C b=.a5 o:=have lD:∀{a b o},C a=.a5 o->Value.ref a=.ref b->∃o,C b=.a5 o:=λh e=>⟨_,Value.ref.inj e▸h⟩;bA.casesOn (motive_1:=λx X _=>items x=some bO->∀b,X=.ref b->∃o,C b=.a5 o) h (λe=>bY e) (λ_ e=>bY e) (λ_ _ e=>bY e) (λ_ _ _ _ b aw=>HE aw rfl) (λh _ _ _ b aw=>lD h aw) (λh _ _ _ b aw=>lD h aw) (λh _ _ _ _ _ b aw=>lD h aw) (λ_ e=>bY e) (λh _ _ _ _ b aw=>lD h aw) e
theorem cc.F.ze{C:aY}{ac:Env}{r:aJ}{h aR:Heap}{k:ā}(F:c.F C ac r h k){d:Addr}(bg:C d=.ext)(bZ:∀b o,b≠d->h.get? b=some o->aR.get? b=some o):c.F C ac r aR k:=by
 have ne:∀{a:Addr} {q:et},C a=q->q≠.ext->a≠d:=λe h q=>h<|e.symm.trans<|q▸bg;have iR:∀y V,gO ac h y V->gO ac aR y V:=λy V af=>by
  rcases af with⟨a,m,aN,e⟩|⟨a,be,aq,o,az,lF⟩
  .exact .inl ⟨a,m,aN.at λo e=>bZ _ _ (ne F.bE.loc<|λz=>(nomatch z)) e,e⟩
  .obtain⟨iQ,oC,dn,eg,fS⟩:=F.bE.cells y a;rw[aq]at dn;cases dn;exact .inr ⟨a,be,aq,o,bZ _ _ (ne eg<|λz=>(nomatch z)) az,lF⟩
 refine⟨⟨F.bE.kind,F.bE.glob,F.bE.lT,F.bE.loc,?_,λy a1=>?_,λy j aL G E=>?_⟩,F.gl,F.st,F.cl⟩
 .obtain⟨m,aN⟩:=F.bE.mB;exact⟨m,aN.at λo e=>bZ _ _ (ne F.bE.loc<|λz=>(nomatch z)) e⟩
 .obtain⟨be,v,b0,bt,o,az,lF⟩:=F.bE.cells y a1;exact⟨be,v,b0,bt,o,bZ _ _ (ne bt<|λz=>(nomatch z)) az,lF⟩
 .induction F.bE.slots y j aL G E with
  |un=>exact .un
  |val a b=>exact .val (iR _ _ a) b
  |ol a b d e f=>exact .ol (iR _ _ a) b (bZ _ _ (ne b<|λz=>(nomatch z)) d) e f
  |od a b d e f g=>exact .od (iR _ _ a) b (bZ _ _ (ne b<|λz=>(nomatch z)) d) e f g
theorem u_{C:aY}{J:St}{s:Mt}{ac:Env}{r:aJ}{k:ā}(I:c.I C J s)(F:c.F C ac r s.heap k){d:Addr}(bg:C d=.ext){aR:Heap}(bZ:∀b o,b≠d->s.heap.get? b=some o->aR.get? b=some o)(t:ā):c.I (cC C d .none) J {s with heap:=aR,toks:=t}/\c.F (cC C d .none) ac r aR k:=by
 have ne:∀{a:Addr} {q:et},C a=q->q≠.ext->a≠d:=λe h q=>h<|e.symm.trans<|q▸bg;have ea:∀b cw,C b=.a5 cw->cC C d .none b=.a5 cw:=λb cw e=>(bW<|ne e<|λz=>(nomatch z)).trans e;have eV:∀b n,C b=.st n->cC C d .none b=.st n:=λb cw e=>(bW<|ne e<|λz=>(nomatch z)).trans e;have g7:=F.ze bg bZ;constructor
 .refine⟨λa h=>?_,λa b e h=>?_,λa o e=>?_,λn ct e=>(I.store n ct e).mono ea eV (λb cw e=>(bW<|ne e<|λz=>(nomatch z)).trans e:∀b n,C b=.cD n->cC C d .none b=.cD n) λa o q e=>bZ a o (by rcases q with q|q<;>exact ne q (λz=>(nomatch z))) e,λa o e=>ea _ _<|I.base a o e,I.gens,I.hQ,λa n e=>?_⟩
  .by_cases q:a=d
   .subst q;rw[c2]at h;exact absurd rfl h
   .rw[bW q]at h;obtain⟨o,az⟩:=gZ.mp<|I.alloc a h;rw[show({s with heap:=aR,toks:=t}:Mt).heap.get? a=some o from bZ a o q az];rfl
  .by_cases f_:a=d
   .subst f_;rw[c2]at h;exact h.elim
   .rw[bW f_]at e h;by_cases e7:b=d
    .subst e7;rw[c2]at e;rw[e]at h;exact h.elim
    .rw[bW e7]at e;exact I.uniq a b e h
  .by_cases q:a=d
   .subst q;rw[c2]at e;exact bQ e rfl
   .rw[bW q]at e;exact bZ a o q<|I.a5 a o e
  .by_cases q:a=d
   .subst q;rw[c2]at e;rcases e with e|e<;>exact bQ e rfl
   .rw[bW q]at e;exact I.gA a n e
 .refine⟨⟨g7.bE.kind,g7.bE.glob,g7.bE.lT,(bW<|ne g7.bE.loc<|λz=>(nomatch z)).trans g7.bE.loc,g7.bE.mB,λy a1=>?_,λy j aL G E=>?_⟩,F.gl,F.st,F.cl⟩
  .obtain⟨be,v,b0,bt,dN⟩:=g7.bE.cells y a1;exact⟨be,v,b0,(bW<|ne bt<|λz=>(nomatch z)).trans bt,dN⟩
  .induction g7.bE.slots y j aL G E with
   |un=>exact .un
   |val x y=>exact .val x<|y.mono ea eV
   |ol x b d e f=>exact .ol x ((bW<|ne b<|λz=>(nomatch z)).trans b) d (e.mono ea eV) f
   |od x b d e f g=>exact .od x ((bW<|ne b<|λz=>(nomatch z)).trans b) d (e.mono ea eV) f g
theorem eB.drop{dq C:aY}{eP s:Mt}(x:eB dq eP C s){d:Addr}(am:dq d=.none)(bg:C d=.ext){aR:Heap}(bZ:∀b o,b≠d->s.heap.get? b=some o->aR.get? b=some o)(t:ā):eB dq eP (cC C d .none) {s with heap:=aR,toks:=t}:=⟨λa o e eu=>have e4:a≠d:=λq=>(by rw[q,am]at eu;exact eu);let⟨ag,a8⟩:=x.h' a o e eu;⟨bZ a o e4 ag,(bW e4).trans a8⟩,λa n e=>(bW<|λq=>by rw[q,am]at e;exact bQ e rfl).trans<|x.st a n e,λa n e=>(bW<|λq=>by rw[q,am]at e;exact bQ e rfl).trans<|x.cD a n e⟩
theorem YM{w:oa}{bk:ZI}{aS:HO ā}{K:cj->aJ->St->Prop}{bO:HO B}{i:ā}{v:B}{r:aJ}{J:St}(h:bO[i]?=some v)(e:oA w bk aS K (bO.drop i) r J):ay (il bk aS v r) λr=>w r J (mS (oA w bk aS K<|bO.drop<|i+1) K):=by have aB:=(g9.mp h).1;rw[xl aB]at e;rw[fr aB]at h;rw[<-cT h];exact e
inductive JI (c:cc) (St:Nat->Heap->Prop) (cE:Addr) (ac:Env) (k:Nat) (bM:aY) (bs:Shared) (bO:List B) (dx:List B->aJ->Internal.St->Prop) (n:Nat) (ar:Shared):Prop
 |mk (i:Nat) (aO:aY) (tA:aJ) (d3:Internal.St) (am:n=bO.length-i) (aB:i<=bO.length) (st:St i ar.heap) (I:c.I aO d3 ar) (x:eB bM bs aO ar) (fX:aO cE=.ext) (F:c.F aO ac tA ar.heap k) (e:dx (bO.drop i) tA d3):JI c St cE ac k bM bs bO dx n ar
theorem Ss{bk:ZI}{target iter:Ā}{aS:HO ā}{body:HO Stmt}{pos:Pos}{fH:dk}{ku:oa}(aX:c.Ok)(cd:A.handled=none)(t:mu c bk target aS)(aK:qc iter=false)(gJ:Good c A iter fH)(lr:mI c A body ku):ga c A (.For target iter body [] pos) λr J K=>fH r J (kFor ku bk aS r K):=by
 intro O s ac C r J k K Q I F ag h;refine wpAny_For (gJ.use I F ag λx da e X bM bs a0 bU bo c7=>ay.dw e λbO c9 e=>wD aX.sys a0 (.val c7) c9 λo f7 P St T a7 st=>?_)<|y2 aK;have cb:=a0.push o a7 .ext<|.inr rfl;have bL:=br.push a0 o .ext;have ee:=bU.ext a0 bL;have Dd:cC bM bs.heap.objs.size .ext bs.heap.objs.size=.ext:=c2 _ _ _;have q6:bM bs.heap.objs.size=.none:=a0.fresh<|dy _;obtain⟨cE,MZ⟩:∃cE,cE=bs.heap.objs.size:=⟨_,rfl⟩;rw[<-MZ]at cb bL ee Dd q6 T⊢;obtain⟨co,VS⟩:∃co,co=cC bM cE .ext:=⟨_,rfl⟩;rw[<-VS]at cb bL ee Dd;obtain⟨b9,zu⟩:∃b9:Mt,b9={bs with heap:=bs.heap.push o}:=⟨_,rfl⟩;rw[<-zu]at cb bL⊢;have ee:c.F co ac r b9.heap k:=by rw[zu];exact ee
 have K7:St 0 b9.heap:=by rw[zu];exact st
 refine codeAny_forLoop_any (A:=A) (JI c St cE ac k bM bs bO<|oA ku bk aS K) ?_ bO.length ⟨0,co,r,da,rfl,f8 _,K7,cb,bL.zero,Dd,ee,e.of⟩;rintro n ar⟨i,aO,tA,d3,rfl,aB,iI,dm,eE,fX,g7,bz⟩;by_cases cW:i<bO.length
 .refine(T.W A cd).item i ar _ _ cW iI λv aR cM ae tK aD=>?_;obtain⟨aW,ym,cp⟩:=T.vals i v cW ae;have bZ:∀b hE,b≠cE->ar.heap.get? b=some hE->aR.get? b=some hE:=λb hE aw e=>aD b hE (by simpa using aw) e;have Ds:(aR.get? cE).isSome=true:=by obtain⟨cw,_,_,g_,-⟩:=T.oO _ _ tK;rw[g_];rfl
  refine ay.dw (YM ym bz) λki k4 NJ=>Ks (T.oO _ _ tK) ?_;refine xc aX cd t (dm.upd (d:=cE) (by rw[fX];trivial) bZ Ds cM) (g7.ze fX bZ) (eE.hh a0 cp) k4 λiw hs rQ mU=>?_;refine lr _ iw ac aO ki d3 k _ _ hs mU NJ λjU W5 WI kH f rY q8 lc ht vA mq=>?_;obtain⟨xB,Ar⟩:=(gZ.mp (hs.alloc cE<|by rw[fX];intro z;exact bQ z rfl):∃xB,iw.heap.get? cE=some xB);have DR:=((eE.upd (d:=cE) (by rw[q6];exact id) bZ cM).trans rQ.ext).trans ht;induction mq with
  |ret af=>exact h _ _ _ kH _ rY q8 lc (bo.zero.trans DR) vA<|.ret af
  |go=>
   refine⟨bO.length-(i+1),Nat.sub_succ_lt_self _ _ cW,i+1,rY,W5,WI,rfl,cW,?_,lc,DR,((ht.h' cE xB Ar<|by rw[fX];trivial).2.trans fX:rY cE=.ext),vA,kH⟩;refine(T.W A cd).frame _ _ _ tK λb aw hE ei=>?_;have a':(∀k,aO b≠.loc k)/\(∀y,aO b≠.kP y)/\(aO b).h':=by
    rcases T.AS b aw with rfl|aw
    .rw[fX];exact⟨λ_ z=>(nomatch z),λ_ z=>(nomatch z),trivial⟩
    .obtain⟨cw,g_⟩:=(YY c7 c9) b aw;rw[eE.oG a0 _ _ g_];exact⟨λ_ z=>(nomatch z),λ_ z=>(nomatch z),trivial⟩
   exact(ht.h' b hE (rQ.sy b hE a'.1 a'.2.1 ei) a'.2.2).1
 .have iB:i=bO.length:=vz aB<|q1 cW;subst iB;rw[List.drop_length]at bz;refine(T.W A cd).done ar _ _ iI λaR cM aD=>wpAny_execs_nil ?_;have bZ:∀b hE,b≠cE->ar.heap.get? b=some hE->aR.get? b=some hE:=λb hE aw e=>aD b hE (by simpa using aw) e;obtain⟨fM,jI⟩:=u_ dm g7 fX bZ cM;exact h _ _ _ bz _ _ _ fM (bo.zero.trans<|eE.drop (d:=cE) q6 fX bZ cM) jI .go
theorem Oo{i j:ā}{v:B}{r b2:aJ}(e:il true [i,j] v r=some b2):dW λa b=>v=.tup [a,b]/\b2=(r.set i<|.val a).set j (.val b):=by
 induction v using B.casesOn with
 |tup l=>
  obtain⟨aj,e⟩:=hc<|show(if l.length=2 then some _ else none)=some b2 from e;induction l using List.casesOn with
  |nil=>cases aj
  |cons a l=>induction l using List.casesOn with
   |nil=>cases aj
   |cons b l=>induction l using List.casesOn with
    |nil=>exact⟨a,b,rfl,(cT e).symm⟩
    |cons=>cases aj
 |_=>exact bY e
theorem To{a b:Ā}{x y:Str}{eK oz bk qA pos:Pos}{cM p2:ā}{i j:ā}{w:dk}(aX:c.Ok)(cd:A.handled=none)(aB:c.ns.lookup x=some i)(b_:c.ns.lookup y=some j)(aA:c.b6 x=true)(a1:c.b6 y=true)(ak:fG a=false)(aw:fG b=false)(BU:(x==y)=false)(G:(foldedForSure 8 a&&foldedForSure 8 b)=false)(E:(constantsAlone 8 a&&constantsAlone 8 b)=false)(g:Good c A (.Tuple [a,b] p2 qA) w):ga c A (.Assign [.Tuple [.Name x eK,.Name y oz] cM bk] (.Tuple [a,b] p2 qA) pos) λr J K=>w r J (C' [i,j] r K):=by
 intro O s ac C r J k K Q I F ag h;rcases XV (eK:=eK) (oz:=oz) (bk:=bk) (qA:=qA) (cM:=cM) (p2:=p2) F.bE.kind ak aw BU G E with bF|bF
 .exact Assign_Tuple (g.use I F ag λv da e V bM bs a0 bU bo cp=>ay.dw e λtA c9 e=>xc aX cd (.tup<|.cons aB aA<|.cons b_ a1 .nil) a0 bU cp c9 λb9 cb oc ee=>h _ _ _ e _ bM b9 cb (bo.zero.trans oc.ext) ee .go) zG bF
 .refine Assign_Tuple_swapped (g.use I F ag λv da e V bM bs a0 bU bo cp=>ay.dw e λtA c9 e=>?_) zG bF;obtain⟨u,v,rfl,rfl⟩:=Oo c9;clear c9;obtain⟨t,Vs,n,rfl,b0,bt,dN⟩:=o9 cp;clear cp;obtain⟨U,Zu,rfl,jj,gT⟩:=bt.of;clear bt;obtain⟨W,bC,rfl,gD,kX⟩:=gT.of;clear gT;obtain rfl:=kX.of;rw[show [x,y].length=[U,W].toArray.size from rfl];refine PyProof.Rows.unpackItems_tuple cd (gs<|a0.a5 _ _ b0) λaR a6=>?_;have bZ:∀b o,bs.heap.get? b=some o->aR.get? b=some o:=λb o e=>a6 b o (gK<|kk e) e;have bL:=br.grow bM bZ bs.toks;show wpAny _ _ (assignInOrder [bindName ac y,bindName ac x] [_,_]) _ _ _;refine bd<|gQ<|wpAny_bindName<|q4 aX (a0.grow bZ bs.toks) (bU.ext a0 bL) b_ a1 gD λf6 fM fu Jx jI=>bd<|gQ<|wpAny_bindName<|q4 aX fM jI aB aA jj λiw hs kI rQ mU=>b3<|h _ _ _ e _ bM iw hs ((bo.trans bL).zero.trans<|fu.trans kI) ?_ .go;have e4:j≠i:=λq=>by subst q;have:=aX.rT _ _ _ aB b_;subst this;simp at BU
  rw[List.set_comm _ _<|ip e4];exact mU
theorem AV{de:Env}(f:Str×NameKind->HO (Str×Addr)->Sem (ForInStep<|List<|Str×Addr))(a7:∀name kind b1,f (name,kind) b1=if kind==.free then(do let a<-cellOf de name;pure<|.yield<|(name,a)::b1)else pure (.yield b1)):∀(names:HO (Str×NameKind)) (ej:HO (Str×Addr)),(∀p∈ej,de.cells.lookup p.1=some p.2)->(∀y∈names,y.2=.free->(de.cells.lookup y.1).isSome=true)->∃cl,forIn names ej f=pure cl/\(∀p∈cl,de.cells.lookup p.1=some p.2)/\(∀p∈ej,p∈cl)/\∀y∈names,y.2=.free->∃a,(y.1,a)∈cl
 |[],ej,ak,_=>⟨ej,by rw[List.forIn_nil],ak,λ_ h=>h,λy h=>by simp at h⟩
 |(n,k)::r,ej,ak,am=>by
  rw[List.forIn_cons,a7];induction aD:k==NameKind.free with
  |false=>
   obtain⟨cl,G,E,aC,ba⟩:=AV f a7 r ej ak λy a1=>am y<|rJ _ a1;refine⟨cl,by simp[G],E,aC,λy a1 e=>?_⟩;rcases ew.mp a1 with rfl|a1
   .subst e;exact h7 aD
   .exact ba y a1 e
  |true=>
   obtain⟨a,e'⟩:=gZ.mp (am (n,k) tM (by simpa using aD:k=.free));obtain⟨cl,G,E,aC,ba⟩:=AV f a7 r ((n,a)::ej) (λp ae=>by
    rcases ew.mp ae with rfl|ae
    .exact e'
    .exact ak p ae) λy a1=>am y (rJ _ a1)
   refine⟨cl,?_,E,λp ae=>aC p<|rJ _ ae,λy a1 e=>?_⟩
   .unfold cellOf;simp only[show de.cells.lookup n=some a from e'];simp[G]
   .rcases ew.mp a1 with rfl|a1
    .exact⟨a,aC _ tM⟩
    .exact ba y a1 e
theorem Hr{g:Str->Z5 Addr}{n:Str}:∀{cl:HO (Str×Addr)},(∀p∈cl,g p.1=some p.2)->(∃a,(n,a)∈cl)->cl.lookup n=g n
 |[],_,h=>by obtain⟨a,h⟩:=h;simp at h
 |(m,b)::r,h,aN=>by
  rw[kO];induction q:n==m with
  |true=>have:=h (m,b) tM;rw[fL.mp q];exact this.symm
  |false=>
   refine Hr (λp ae=>h p<|rJ _ ae) ?_;obtain⟨a,aN⟩:=aN;rcases ew.mp aN with e|aN
   .cases e;simp at q
   .exact⟨a,aN⟩
theorem NV{scope:Scope}{de:Env}(h:∀y∈scope.names,y.2=.free->(de.cells.lookup y.1).isSome=true):∃cl,closureFor scope de=pure cl/\∀y∈scope.names,y.2=.free->cl.lookup y.1=de.cells.lookup y.1:=by obtain⟨cl,G,E,-,ba⟩:=AV (de:=de) (λx r=>match x with|(name,kind)=>if kind==.free then(do let a<-cellOf de name;pure<|.yield<|(name,a)::r)else pure (.yield r)) (λ_ _ _=>rfl) scope.names [] (λp ae=>by simp at ae) h;refine⟨cl,?_,λy a1 e=>Hr (g:=λn=>de.cells.lookup n) E<|ba y a1 e⟩;unfold closureFor;exact(bI (λm=>m>>=λb1=>pure b1) G).trans<|pure_bind _ _
theorem vU{scope:Scope}{cl:HO (Str×Addr)}{ah:Addr}{de:Env}{x:Str}:(compEnvC scope cl ah de).kindOf x=(scope.names.lookup x).map λk=>if(k==.free&&de.scope.kind==.function&&de.kindOf x==some .cell)=true then .cell else k:=by
 show(relabel scope de).names.lookup x=_;unfold relabel;simp only;induction scope.names with
 |nil=>rfl
 |cons p r ap=>
  obtain⟨n,k⟩:=p;rw[gh,kO];induction q:x==n with
  |true=>
   have:=fL.mp q;subst this;by_cases aq:(k==.free&&de.scope.kind==.function&&de.kindOf x==some .cell)=true
   .simp only[aq,if_true,jL,kO,Option.map_some]
   .rw[Bool.not_eq_true]at aq;simp only[aq,tI,if_false,jL,kO,Option.map_some]
  |false=>
   by_cases aq:(k==.free&&de.scope.kind==.function&&de.kindOf n==some .cell)=true
   .simp only[aq,if_true,kO,q];exact ap
   .rw[Bool.not_eq_true]at aq;simp only[aq,tI,if_false,kO,q];exact ap
def cc.comp (c:cc) (ns:bH) (cB b6:Str->ZI):cc:={c with ns:=ns,cB:=cB,b6:=b6,ky:=λ_=>false}
structure o5(c:cc)(ns:bH)(cB b6:Str->Bool)(scope:Scope)(aS:List Nat):Prop where
 ok:(c.comp ns cB b6).Ok
 Bn:∀y∈scope.names,y.2≠.cell
 kind:scope.kind=.function
 xI:∀y∈scope.names,y.2=.local->scope.names.lookup y.1=some .local
 free:∀y∈scope.names,y.2=.free->c.ky y.1=true
 vars:∀x i,ns.lookup x=some i->(scope.names.lookup x=some .local/\i∈aS)\/(scope.names.lookup x=some .free/\c.ns.lookup x=some i)
 gl:∀x,cB x=true->scope.names.lookup x=some .globalImplicit
 st:∀x,b6 x=true->scope.names.lookup x=some .local
def swap (C:aY) (aP ah:Addr) (k:ā):aY:=λb=>if b=ah then .loc k else if b=aP then .ext else C b
theorem vL(C:aY)(aP ah:Addr)(k:ā):swap C aP ah k ah=.loc k:=bl rfl
theorem s8{C:aY}{aP ah:Addr}{k:ā}(h:aP≠ah):swap C aP ah k aP=.ext:=by unfold swap;rw[bm h,bl rfl]
theorem ja{C:aY}{aP ah b:Addr}{k:ā}(G:b≠ah)(E:b≠aP):swap C aP ah k b=C b:=by unfold swap;rw[bm G,bm E]
section
variable{P:Params}{N:g2}{H:Heap}{os:OsState}{C:aY}{J:St}{s:Mt}
theorem Inv.swap(I:Inv P N H os C J s){aP ah:Addr}{k:ā}(cs:C aP=.loc k)(cf:C ah=.ext):Inv P N H os (swap C aP ah k) J s:=by
 have ps:aP≠ah:=by rintro rfl;rw[cs]at cf;exact bQ cf rfl
 have ne:∀{b:Addr} {r:et},C b=r->r≠.ext->(∀j,r≠.loc j)->Internal.swap C aP ah k b=r:=λ{b r} e G E=>(ja (by rintro rfl;exact G<|e.symm.trans cf)<|by rintro rfl;exact E k<|e.symm.trans cs).trans e;have ea:∀b o,C b=.a5 o->Internal.swap C aP ah k b=.a5 o:=λb o e=>ne e (λz=>(nomatch z)) λj z=>(nomatch z);have kM:∀{b:Addr} {r:et},Internal.swap C aP ah k b=r->r≠.ext->(∀j,r≠.loc j)->C b=r:=λ{b r} e G E=>by
  by_cases q:b=ah
  .subst q;rw[vL]at e;exact absurd e.symm<|E k
  .by_cases ff:b=aP
   .subst ff;rw[s8 ps]at e;exact absurd e.symm G
   .rw[ja q ff]at e;exact e
 refine⟨λb h=>?_,λa b e h=>?_,λb o e=>I.a5 b o<|kM e (λz=>(nomatch z)) λj z=>(nomatch z),λn ct e=>(I.store n ct e).mono ea (λb o e=>ne e (λz=>(nomatch z)) λj z=>(nomatch z):∀b o,C b=.st o->Internal.swap C aP ah k b=.st o) (λb o e=>ne e (λz=>(nomatch z)) λj z=>(nomatch z):∀b o,C b=.cD o->Internal.swap C aP ah k b=.cD o) λ_ _ _ e=>e,λb o e=>ea _ _<|I.base b o e,I.gens,I.hQ,λb n e=>I.gA b n ?_⟩
 .by_cases q:b=ah
  .subst q;exact I.alloc b (by rw[cf];intro z;exact bQ z rfl)
  .by_cases ff:b=aP
   .subst ff;exact I.alloc b (by rw[cs];intro z;exact bQ z rfl)
   .rw[ja q ff]at h;exact I.alloc b h
 .have IG:∀b,(∃j,Internal.swap C aP ah k b=.loc j)->Internal.swap C aP ah k b=.loc k->b=ah:=λb _ e=>by
   by_cases q:b=ah
   .exact q
   .by_cases ff:b=aP
    .subst ff;rw[s8 ps]at e;exact bQ e rfl
    .rw[ja q ff]at e;exact absurd (I.uniq b aP (e.trans cs.symm)<|by rw[e];trivial) ff
  by_cases f_:a=ah
  .subst f_;rw[vL]at e;exact(IG b ⟨k,e.symm⟩ e.symm).symm
  .by_cases e7:b=ah
   .subst e7;rw[vL]at e;exact IG a ⟨k,e⟩ e
   .by_cases I5:a=aP
    .subst I5;rw[s8 ps]at h;exact h.elim
    .by_cases nJ:b=aP
     .subst nJ;rw[s8 ps]at e;rw[e]at h;exact h.elim
     .rw[ja f_ I5]at e h;rw[ja e7 nJ]at e;exact I.uniq a b e h
 .rcases e with e|e
  .exact .inl<|kM e (λz=>(nomatch z)) λj z=>(nomatch z)
  .exact .inr<|kM e (λz=>(nomatch z)) λj z=>(nomatch z)
end
def mr (aS:HO ā) (r:aJ):aJ:=aS.foldl (λr i=>r.set i .un) r
theorem v_:∀(aS:HO ā) (r:aJ) (i:ā),i∉aS->(mr aS r)[i]?=r[i]?
 |[],r,i,_=>rfl
 |t::aS,r,i,h=>by simp only[ew,not_or]at h;exact(v_ aS (r.set t .un) i h.2).trans<|nr<|ip h.1
theorem xZ:∀(aS:HO ā) (r:aJ) (i:ā) (aL:cq),r[i]?=some .un\/i∈aS->(mr aS r)[i]?=some aL->aL=.un
 |[],r,i,aL,h,e=>by
  rcases h with h|h
  .rw[show mr [] r=r from rfl,h]at e;cases e;rfl
  .simp at h
 |t::aS,r,i,aL,h,e=>by
  have bz:(mr aS<|r.set t .un)[i]?=some aL:=e;by_cases q:i∈aS
  .exact xZ aS _ i aL (.inr q) bz
  .rw[v_ aS _ i q]at bz;by_cases rv:t=i
   .subst rv;rw[rz]at bz;simp only[if_true]at bz;split at bz<;>(first|exact bY bz|cases bz);rfl
   .rw[nr rv]at bz;rcases h with h|h
    .rw[h]at bz;cases bz;rfl
    .simp[q,ip rv]at h
theorem U5{bk:ZI}{aS:HO ā}{v:B}{r:aJ}:il bk aS v (mr aS r)=il bk aS v r:=by
 have key:∀(fJ:HO ā) (l:HO B) (a b:aJ),l.length=fJ.length->a.length=b.length->(∀i,i∉fJ->a[i]?=b[i]?)->(fJ.zip l).foldl (λr p=>r.set p.1<|cq.val p.2) a=(fJ.zip l).foldl (λr p=>r.set p.1<|cq.val p.2) b:=by
  intro fJ;induction fJ with
  |nil=>intro l a b _ aj h;exact List.ext_getElem? λi=>h i (by simp)
  |cons u fJ ap=>
   intro l a b G aj h;induction l with
   |nil=>cases G
   |cons x l=>
    simp only[List.zip_cons_cons,List.foldl_cons];refine ap l _ _ (by simpa using G) (by simp[aj]) λi aB=>?_;by_cases q:u=i
    .subst q;simp[rz,aj]
    .rw[nr q,nr q];exact h i (by simp[aB,ip q])
 have dS:∀(fJ:HO ā) (r:aJ),(mr fJ r).length=r.length:=by
  intro fJ;induction fJ with
  |nil=>intro r;rfl
  |cons u fJ ap=>intro r;exact(ap<|r.set u .un).trans (by simp)
 induction bk with
 |false=>induction aS using List.casesOn with
  |nil=>rfl
  |cons i t=>induction t with
   |nil=>show some ((r.set i .un).set i<|.val v)=some (r.set i<|.val v);rw[List.set_set]
   |cons=>rfl
 |true=>induction v using B.casesOn with
  |tup l=>
   show(if l.length=aS.length then some _ else none)=(if l.length=aS.length then some _ else none);by_cases aj:l.length=aS.length
   .rw[bl aj,bl aj,key _ _ (mr aS r) r aj (dS _ _) λi aB=>?_];exact v_ aS r i aB
   .rw[bm aj,bm aj]
  |_=>rfl
theorem Kn{bk:ZI}{aS:HO ā}{v:B}{r b2:aJ}(e:il bk aS v r=some b2):∀i,i∉aS->b2[i]?=r[i]?:=by
 have key:∀(fJ:HO ā) (l:HO B) (a:aJ) i,i∉fJ->((fJ.zip l).foldl (λr p=>r.set p.1<|cq.val p.2) a)[i]?=a[i]?:=by
  intro fJ;induction fJ with
  |nil=>intro l a i _;rfl
  |cons u fJ ap=>
   intro l a i aB;simp only[ew,not_or]at aB;induction l with
   |nil=>rfl
   |cons x l=>exact(ap l _ i aB.2).trans<|nr<|ip aB.1
 intro i aB;induction bk with
 |false=>induction aS using List.casesOn with
  |nil=>exact bY e
  |cons j t=>induction t with
   |nil=>cases e;exact nr λq:j=i=>aB<|q▸.head _
   |cons=>exact bY e
 |true=>induction v using B.casesOn with
  |tup l=>obtain⟨aj,e⟩:=hc<|show(if l.length=aS.length then some ((aS.zip l).foldl (λr p=>r.set p.1<|.val p.2) r)else none)=some b2 from e;cases e;exact key _ _ _ i aB
  |_=>exact bY e
theorem EW{C:aY}{ac:Env}{r b2:aJ}{h:Heap}{k:ā}{aS:HO ā}(F:c.F C ac b2 h k)(e:∀i,i∉aS->b2[i]?=r[i]?):c.F C ac (mr aS r) h k:=by
 refine⟨⟨F.bE.kind,F.bE.glob,F.bE.lT,F.bE.loc,F.bE.mB,F.bE.cells,λx i aL G E=>?_⟩,F.gl,F.st,F.cl⟩;by_cases q:i∈aS
 .rw[xZ aS r i aL (.inr q) E];exact .un
 .rw[v_ aS r i q,<-e i q]at E;exact F.bE.slots x i aL G E
theorem Pp{ns:bH}{cB b6:Str->ZI}{scope:Scope}{aS:HO ā}(K:o5 c ns cB b6 scope aS){C:aY}{s:Mt}{ac:Env}{r:aJ}{k:ā}(F:c.F C ac r s.heap k){cl:HO (Str×Addr)}(eS:∀y∈scope.names,y.2=.free->cl.lookup y.1=ac.cells.lookup y.1){ah:Addr}{m:Str->Z5 Zr}(cf:s.heap.Ns ah m)(NU:C ah=.ext):(c.comp ns cB b6).F (swap C ac.locals ah k) (compEnvC scope cl ah ac) (mr aS r) s.heap k:=by
 have ne:∀{b:Addr} {q:et},C b=q->q≠.ext->(∀j,q≠.loc j)->swap C ac.locals ah k b=q:=λ{b q} e G E=>(ja (by rintro rfl;exact G<|e.symm.trans NU)<|by rintro rfl;exact E k<|e.symm.trans F.bE.loc).trans e;have ea:∀b o,C b=.a5 o->swap C ac.locals ah k b=.a5 o:=λb o e=>ne e (λz=>(nomatch z)) λj z=>(nomatch z);have eV:∀b o,C b=.st o->swap C ac.locals ah k b=.st o:=λb o e=>ne e (λz=>(nomatch z)) λj z=>(nomatch z);have free:∀x,scope.names.lookup x=some .free->ac.kindOf x=some .cell/\(compEnvC scope cl ah ac).kindOf x=some .cell/\cl.lookup x=ac.cells.lookup x:=λx aA=>by have aN:=mem_of_lookup aA;have G:=F.cl x<|K.free _ aN rfl;refine⟨G,?_,eS _ aN rfl⟩;rw[vU,aA,G,F.bE.kind];rfl
 have mX:∀x V,scope.names.lookup x=some .free->gO ac s.heap x V->gO (compEnvC scope cl ah ac) s.heap x V:=λx V aA af=>by
  obtain⟨G,E,aC⟩:=free x aA;rcases af with⟨a,-⟩|⟨-,be,aq,bg⟩
  .rw[G]at a;cases a
  .exact .inr ⟨.inl E,be,aC.trans aq,bg⟩
 refine⟨⟨K.kind,F.bE.glob,F.bE.lT,vL _ _ _ _,⟨m,cf⟩,λx aA=>?_,λx i aL G E=>?_⟩,λx aA=>?_,λx aA=>?_,λx aA=>?_⟩
 .rw[vU]at aA;induction aj:scope.names.lookup x with
  |none=>rw[aj]at aA;rcases aA with aA|aA<;>exact bY aA
  |some bZ=>
   have x_:bZ=.free:=by rw[aj]at aA;induction bZ<;>first|rfl|(exact absurd rfl (K.Bn _ (mem_of_lookup aj)))|(rcases aA with aA|aA<;>cases aA)
   subst x_;obtain⟨G,E,aC⟩:=free x aj;obtain⟨be,v,b0,bt,dN⟩:=F.bE.cells x<|.inl G;exact⟨be,v,aC.trans b0,ne bt (λz=>(nomatch z)) λj z=>(nomatch z),dN⟩
 .rcases K.vars x i G with⟨aj,aB⟩|⟨aj,aB⟩
  .rw[xZ aS r i aL (.inr aB) E];exact .un
  .by_cases q:i∈aS
   .rw[xZ aS r i aL (.inr q) E];exact .un
   .rw[v_ aS r i q]at E;induction F.bE.slots x i aL aB E with
    |un=>exact .un
    |val a b=>exact .val (mX _ _ aj a)<|b.mono ea eV
    |ol a b d e f=>exact .ol (mX _ _ aj a) (ne b (λz=>(nomatch z)) λj z=>(nomatch z)) d (e.mono ea eV) f
    |od a b d e f g=>exact .od (mX _ _ aj a) (ne b (λz=>(nomatch z)) λj z=>(nomatch z)) d (e.mono ea eV) f g
 .rw[vU,K.gl x aA];rfl
 .rw[vU,K.st x aA];exact .inl rfl
 .exact cH aA
abbrev o2(c:cc)(A:Around)(ifs:HO Ā)(w:he):Prop:=qm c A (λac=>forIn ifs true λc r=>if r=true then do let ok<-isTrue c ac (eval c ac);pure (ForInStep.yield ok)else pure (ForInStep.yield r)) w
theorem NT:o2 c A [] λ_ J K=>K true J:=λO s ac C r J k K Q I F e h=>wpAny_tests_nil<|h _ _ e C s I<|br.refl C s
theorem Tj{e:Ā}{w:he}(g:j' c A e w):o2 c A [e] λr J K=>w r J λb J=>kN (K true J) (K false J) b:=λO s ac C r J k K Q I F ag h=>wpAny_tests_one (g.use I F ag λb da e bM bs a0 bU bo=>by induction b<;>exact h _ _ e bM bs a0 bo)
theorem Tf{gc target iter:Ā}{ifs:HO Ā}{scope:Scope}{pos:Pos}{it ej:Zr}{de:Env}{R:Result->Mt->Prop}{s:Mt}(I:ā->Mt->Prop)(turn:∀n s,I n s->∀O,wpAny c.M A (pyNext it) (λr bs=>match r with
 |none=>R (.ok .next) bs
 |some v=>wpAny c.M A (letOwnedTupleGo target it v) (λ_ eP=>wpAny c.M A (assign target de v) (λ_ b9=>
  wpAny c.M A (forIn ifs true λc r=>if r=true then do let ok<-isTrue c de (eval c de);pure (ForInStep.yield ok)else pure (ForInStep.yield r)) (λok f6=>if ok=true then wpAny c.M A (eval gc de) (λx iw=>
   wpAny c.M A (call (.builtin "list.append") [ej,x]) (λ_ q8=>∃m,m<n/\I m q8) O iw) O f6
   else∃m,m<n/\I m f6) O b9) O eP) O bs) O s)
 (n:ā) (h:I n s):codeAny c.M A (.compLoop (.ListComp gc [⟨target,iter,ifs,0⟩] scope pos) 0 it ej de) R s:=by
 refine codeAny_loop rfl I (λn s fX=>?_) n h
 show wpAny _ A ((compTurn (.ListComp gc [⟨target,iter,ifs,0⟩] scope pos) 0 it ej de).onRaise<|λx=>do noteFrame x de;theTreesLotGoes x) _ _ s
 refine wpAny_noted ?_
 rw[compTurn_list]
 refine bd<|p7<|bd<|lz (turn n s fX _) (λr bs lX=>?_) λ_ _ aR=>aR
 induction r with
 |none=>exact b3 lX
 |some v=>
  refine bd<|lz lX (λ_ eP Oh=>bd<|lz Oh (λ_ b9 vX=>bd<|lz vX (λVe f6 Go=>?_) λ_ _ aR=>aR) λ_ _ aR=>aR) λ_ _ aR=>aR;induction Ve with
  |false=>exact b3 ⟨rfl,Go⟩
  |true=>exact bd<|bd<|lz Go (λx iw NL=>bd<|lz NL (λ_ q8 MD=>b3<|b3 ⟨rfl,MD⟩) λ_ _ aR=>aR) λ_ _ aR=>aR
abbrev vO:=B->St->(HO B->St->Prop)->Prop
structure y8(c:cc)(A:Around)(cE D:Addr)(t:vO)(K:B->St->Prop)(N:Nat)(ko:Nat->List B->St->Prop)(Pos:Nat->aY->Shared->Prop):Prop where
 next:∀i C J s cg,Pos i C s->c.I C J s->ko i cg J->(i<N/\∃x,t x J (λc6 J=>ko (i+1) (cg++c6) J)/\∀(Q:Option Value->Shared->Prop) O,(∀v aR cM,bA c.P C x v->(∀b o,b≠cE->s.heap.get? b=some o->aR.get? b=some o)->Pos (i+1) C {s with heap:=aR,toks:=cM}->Q (some v) {s with heap:=aR,toks:=cM})->wpAny c.M A (pyNext<|.ref cE) Q O s)\/(K (.lst cg) J/\∀(Q:Option Value->Shared->Prop) O,(∀aR cM,(∀b o,b≠cE->s.heap.get? b=some o->aR.get? b=some o)->Q none {s with heap:=aR,toks:=cM})->wpAny c.M A (pyNext<|.ref cE) Q O s)
 keep:∀i C s aO ar,Pos i C s->(∀a o,a≠D->s.heap.get? a=some o->(C a).kept->(∀k,C a≠.loc k)->ar.heap.get? a=some o/\aO a=C a)->(∀a n,C a=.st n->aO a=.st n)->(∀a o,C a=.a5 o->aO a=.a5 o)->Pos i aO ar
 self:∀i C s Q O,Pos i C s->Q (.ref cE) s->wpAny c.M A (pyIter<|.ref cE) Q O s
 oO:∀i C s,Pos i C s->dJ λo n vs=>hZ (s.heap.get? cE=some o) (o.cls=.type n) (o.data=.fields vs)<|xk n=true
theorem br.drop{dq C:aY}{eP s:Mt}(x:br dq eP C s){d:Addr}(am:dq d=.none)(bg:C d=.ext){aR:Heap}(bZ:∀b o,b≠d->s.heap.get? b=some o->aR.get? b=some o)(t:ā):br dq eP (cC C d .none) {s with heap:=aR,toks:=t}:=⟨λa o e eu=>have e4:a≠d:=λq=>(by rw[q,am]at eu;exact eu);let⟨ag,a8⟩:=x.kept a o e eu;⟨bZ a o e4 ag,(bW e4).trans a8⟩,λa n e=>(bW<|λq=>by rw[q,am]at e;exact bQ e rfl).trans<|x.st a n e,λa n e=>(bW<|λq=>by rw[q,am]at e;exact bQ e rfl).trans<|x.cD a n e⟩
inductive zw (c be:cc) (cE D:Addr) (jS:Env) (b2:aJ) (k:Nat) (l2:aY) (mP:Shared) (N:Nat) (ko:Nat->List B->St->Prop) (Pos:Nat->aY->Shared->Prop) (n:Nat) (ar:Shared):Prop
 |mk (i:Nat) (aO:aY) (d3:St) (cg:List B) (bC:List Value) (m:Nat) (am:n=N-i) (p:Pos i aO ar) (I:c.I aO d3 ar) (x:br l2 mP aO ar) (fX:aO cE=.ext) (b4:aO D=.ext) (F:be.F aO jS b2 ar.heap k) (cs:ar.heap.get? D=some (cu bC.toArray m)) (af:bD c.P aO cg bC) (aB:cg.length<=i) (CX:i<=N) (e:ko i cg d3):zw c be cE D jS b2 k l2 mP N ko Pos n ar
theorem S4{ns:bH}{cB b6:Str->ZI}{scope:Scope}{aS:HO ā}(K:o5 c ns cB b6 scope aS)(cd:A.handled=none){bk:ZI}{target iter gc:Ā}{ifs:HO Ā}{pos:Pos}(hb:mu (c.comp ns cB b6) bk target aS){fH:he}{fc:dk}(gJ:o2 (c.comp ns cB b6) A ifs fH)(ge:Good (c.comp ns cB b6) A gc fc){cE D ah:Addr}{r:aJ}{KK:B->St->Prop}{N k:ā}{ko:ā->HO B->St->Prop}{Pos:ā->aY->Mt->Prop}(S:y8 c A cE D (kB fc fH bk aS r) KK N ko Pos)(c_:N<=a3){jS:Env}(jd:jS.locals=ah)(qM:∀x,b6 x=true->jS.kindOf x=some .local){l2:aY}{mP:Mt}(VM:l2 D=.none)(VF:l2 ah=.none)(DK:l2 cE=.none)(wy:cE≠D){C:aY}{J:St}{s:Mt}{m:ā}{R:Result->Mt->Prop}(I:c.I C J s)(F:(c.comp ns cB b6).F C jS (mr aS r) s.heap k)(fX:C cE=.ext)(b4:C D=.ext)(cs:s.heap.get? D=some (cu [].toArray m))(x:br l2 mP C s)(p:Pos 0 C s)(e:ko 0 [] J)(Qk:∀aO bG ar c6 bC m hG,KK (.lst c6) bG->c.I aO bG ar->br l2 mP aO ar->aO D=.ext->aO ah=.loc k->ar.heap.get? D=some (cu bC.toArray m)->bD c.P aO c6 bC->c6.length<=N->ar.heap.Ns ah hG->R (.ok .next) ar):codeAny c.M A (.compLoop (.ListComp gc [⟨target,iter,ifs,0⟩] scope pos) 0 (.ref cE) (.ref D) jS) R s:=by
 refine Tf (zw c (c.comp ns cB b6) cE D jS (mr aS r) k l2 mP N ko Pos) ?_ N ⟨0,C,J,[],[],m,rfl,p,I,x,fX,b4,F,cs,.nil,dy _,f8 _,e⟩;rintro n ar⟨i,aO,d3,cg,bC,m,rfl,ev,dm,eE,oo,iA,g7,kS,af,aB,CX,bz⟩O;rcases S.next i aO d3 ar _ ev dm bz with⟨cW,aW,ag,am⟩|⟨ag,am⟩
 .refine am _ _ λv aR cM cp aD ae=>ay.dw ag λki c9 fC=>?_;have fu:=eE.upd (d:=cE) (by rw[DK];exact id) aD cM;have Fm:∀a,(∀k,aO a≠.loc k)->a≠jS.locals:=by rintro a h rfl;exact h k g7.bE.loc
  refine Ks (S.oO _ _ _ ae) ?_;refine xc K.ok cd hb (dm.upd (d:=cE) (by rw[oo];trivial) aD (by obtain⟨cw,_,_,g_,-⟩:=S.oO _ _ _ ae;rw[show aR.get? cE=some cw from g_];rfl) cM) (g7.ze oo aD) cp (U5.trans c9) λiw hs rQ mU=>?_;have kI:br l2 mP aO iw:=⟨λa o e' eu=>let⟨b0,bt⟩:=fu.kept a o e' eu;⟨rQ.loc qM a o (λq=>by rw[q,jd,VF]at eu;exact eu) b0,bt⟩,fu.st,fu.cD⟩;have Ng:iw.heap.get? D=some (cu bC.toArray m):=rQ.loc qM D _ (Fm D<|λj q=>by rw[iA]at q;exact bQ q rfl) (aD D _ (ip wy) kS:aR.get? D=some (cu bC.toArray m));obtain⟨xB,Ar⟩:=gZ.mp (hs.alloc cE<|by rw[oo];intro z;exact bQ z rfl);refine gJ.use hs mU fC λb Zw kH rY q8 lc vA ht=>?_;have Ga:Pos (i+1) rY q8:=S.keep _ _ _ _ _ (S.keep _ _ _ _ _ ae (λa o _ e' _ a'=>⟨rQ.loc qM a o (Fm a a') e',rfl⟩) (λ_ _ e=>e) λ_ _ e=>e:Pos (i+1) aO iw) (λa o _ e' eu _=>ht.kept a o e' eu) ht.st<|ht.zero.oG hs;have v2:=ht.kept D _ Ng (by rw[iA];trivial);have wW:=ht.kept cE _ Ar (by rw[oo];trivial);induction b with
  |false=>show∃n',n'<N-i/\zw c (c.comp ns cB b6) cE D jS (mr aS r) k l2 mP N ko Pos n' q8;exact⟨N-(i+1),Nat.sub_succ_lt_self _ _ cW,i+1,rY,_,cg,bC,m,rfl,Ga,lc,kI.trans ht,wW.2.trans oo,v2.2.trans iA,EW vA<|Kn c9,v2.1,ht.iG hs af,iF aB,cW,ha cg▸kH⟩
  |true=>
   refine ge.use lc vA kH λw ZM k4 cz BG yN XK Rq n6 jl=>?_;have E':=n6.kept D _ v2.1 (by rw[v2.2,iA];trivial);have G3:=n6.iG lc<|ht.iG hs af;have Br:BG D=.ext:=E'.2.trans<|v2.2.trans iA;refine wpAny_list_append_plain (items:=bC.toArray) ⟨m,E'.1⟩ (hsz:=by rw[eG,G3.length,kF];exact aI aB<|aI CX c_) λEY Db YR=>?_;obtain⟨Hb,Db⟩:=Db;have bZ:∀b o,b≠D->yN.heap.get? b=some o->EY.get? b=some o:=λb o aw ei=>(YR.2 b aw).trans ei;have Ft:EY.get? D=some (cu (bC++[cz]).toArray Hb):=by rw[Db];simp[cu]
   refine⟨N-(i+1),Nat.sub_succ_lt_self _ _ cW,i+1,BG,_,cg++[w],bC++[cz],Hb,rfl,?_,XK.upd (d:=D) (by rw[Br];trivial) bZ (by rw[Ft];rfl) yN.toks,((kI.trans ht).trans n6).upd (d:=D) (by rw[VM];exact id) bZ yN.toks,(n6.kept cE _ wW.1<|by rw[wW.2,oo];trivial).2.trans<|wW.2.trans oo,Br,EW (Rq.ze Br bZ)<|Kn c9,Ft,G3.append<|.cons jl .nil,by rw[c'];exact dc aB,cW,k4⟩;exact S.keep _ _ _ _ _ (S.keep _ _ _ _ _ Ga (λa o _ e' eu _=>n6.kept a o e' eu) n6.st (n6.zero.oG lc):Pos (i+1) BG yN) (λa o ak e' _ _=>⟨bZ a o ak e',rfl⟩) (λ_ _ e=>e) λ_ _ e=>e
 .refine am _ _ λaR cM aD=>?_;obtain⟨fM,jI⟩:=u_ (c:=c.comp ns cB b6) dm g7 oo aD cM;obtain⟨hG,Nk⟩:=jI.bE.mB;have j3:∀{b b2},aO b=b2->b2≠.ext->b≠cE:=λe h q=>h<|e.symm.trans<|q▸oo;exact Qk (cC aO cE .none) _ _ cg bC m hG ag fM (eE.drop DK oo aD cM) ((bW<|ip wy).trans iA) (jd▸jI.bE.loc) (aD D _ (ip wy) kS) (af.mono (λb o e=>(bW<|j3 e<|λz=>(nomatch z)).trans e) λb o e=>(bW<|j3 e<|λz=>(nomatch z)).trans e) (aI aB CX)<|jd▸Nk
theorem TW(cd:A.handled=none){cE D:Addr}{t:vO}{K:B->St->Prop}{bM:aY}{bO:HO B}{X:Zr}{f7:HO Addr}{P:ā->Zr->Prop}{FT:ā->Heap->Prop}(T:op c bM bO X cE f7 P FT)(b4:D∉f7):y8 c A cE D t K bO.length (λi=>kx t K<|bO.drop i) (λi C s=>FT i s.heap/\i<=bO.length/\(∀b∈f7,(C b).kept/\(∀k,C b≠.loc k)/\∃o,s.heap.get? b=some o)/\(∀a o,bM a=.a5 o->C a=.a5 o)/\(∀a n,bM a=.st n->C a=.st n))where
 next:=by
  rintro i C J s cg⟨iI,aB,aw,ea,eV⟩I e;by_cases cW:i<bO.length
  .rw[xl cW]at e;refine .inl ⟨cW,bO[i],e,λQ O eR=>(T.W A cd).item i s Q O cW iI λv aR cM ae tK aD=>?_⟩;obtain⟨x,G,E⟩:=T.vals i v cW ae;rw[fr cW]at G;cases G;refine eR v aR cM (E.mono ea eV) (λb o e4 ei=>aD b o (by simpa using e4) ei) ⟨tK,cW,λb iU=>?_,ea,eV⟩;obtain⟨b0,bt,o,az⟩:=aw b iU;refine⟨b0,bt,?_⟩;by_cases e7:b=cE
   .subst e7;obtain⟨cw,_,_,g_,-⟩:=T.oO _ _ tK;exact⟨cw,g_⟩
   .exact⟨o,aD b o (by simpa using e7) az⟩
  .have iB:i=bO.length:=vz aB<|q1 cW;subst iB;rw[List.drop_length]at e;exact .inr ⟨e,λQ O eR=>(T.W A cd).done s Q O iI λaR cM aD=>eR aR cM λb o e4 ei=>aD b o (by simpa using e4) ei⟩
 keep:=by
  rintro i C s aO ar⟨iI,aB,aw,ea,eV⟩aD aK a7;refine⟨(T.W A cd).frame _ _ _ iI λb iU o ei=>?_,aB,λb iU=>?_,λa o e=>a7 a o<|ea a o e,λa n e=>aK a n<|eV a n e⟩
  .obtain⟨b0,bt,-⟩:=aw b iU;exact(aD b o (by rintro rfl;exact b4 iU) ei b0 bt).1
  .obtain⟨b0,bt,o,az⟩:=aw b iU;obtain⟨ag,a8⟩:=aD b o (by rintro rfl;exact b4 iU) az b0 bt;rw[a8];exact⟨b0,bt,o,ag⟩
 self:=λi C s Q O p eR=>(T.W A cd).self i s Q O p.1 eR
 oO:=λi C s p=>T.oO i _ p.1
theorem TS{t:vO}{K:B->St->Prop}{n m i:ā}{cg:HO B}{J:St}(q:m=0)(e:n8 t K n m i cg J):gP J[n]? λl=>l.length=i/\K (.lst cg) J:=by subst q;exact e
theorem YO{t:vO}{K:B->St->Prop}{n m i' i:ā}{cg:HO B}{J:St}(q:m=i'+1)(e:n8 t K n m i cg J):gP J[n]? λl=>ay l[i]? λv=>t v J λc6 s=>n8 t K n i' (i+1) (cg++c6) s:=by subst q;exact e
theorem Xu{n i:ā}(h:i<n):n-i=(n-(i+1))+1:=(Nat.succ_pred_eq_of_pos<|Nat.sub_pos_of_lt h).symm
theorem Wr(cd:A.handled=none){cE D:Addr}{t:vO}{K:B->St->Prop}{n cnt:ā}(wy:cE≠D):y8 c A cE D t K cnt (λi=>n8 t K n (cnt-i) i) (λi C s=>∃a,C a=.st n/\s.heap.IsListIter cE a i/\i<=cnt/\C cE=.ext)where
 next:=by
  rintro i C J s cg⟨a,ak,x4,aB,fX⟩I e;by_cases cW:i<cnt
  .obtain⟨l,aj,e⟩:=gP.dw<|YO (Xu cW) e;obtain⟨hg,Vs,k,mh,b0,bt,dN,gT⟩:=qt I (.ref ak) aj;cases mh;refine ay.dw e λv af e=>?_;obtain⟨V,cp,YS⟩:=dN.get af;clear af;exact .inl ⟨cW,v,e,λQ O eR=>wpAny_pyNext_list_item x4 (hR bt) (x:=V) (by simpa using cp) λaR W9 l9=>eR V aR s.toks YS (λb o e4 ei=>l9.extBut b o e4 ei) ⟨a,ak,W9,cW,fX⟩⟩
  .obtain⟨l,aj,iB,e⟩:=gP.dw<|TS (Nat.sub_eq_zero_of_le<|q1 cW) e;obtain⟨hg,Vs,k,mh,b0,bt,dN,gT⟩:=qt I (.ref ak) aj;cases mh;exact .inr ⟨e,λQ O eR=>wpAny_pyNext_list_end cd x4 (hR bt) (by simp[dN.length,iB]) λaR iu=>eR aR s.toks λb o e4 ei=>iu b o e4 ei⟩
 keep:=by rintro i C s aO ar⟨a,ak,⟨o,az,aq,bg⟩,aB,fX⟩aD aK a7;obtain⟨ag,a8⟩:=aD cE o wy az (by rw[fX];trivial) (by rw[fX];intro k z;exact bQ z rfl);exact⟨a,aK a n ak,⟨o,ag,aq,bg⟩,aB,a8.trans fX⟩
 self:=λi C s Q O p eR=>by obtain⟨a,-,x4,-⟩:=p;exact wpAny_pyIter_listiter x4 eR
 oO:=λi C s p=>by obtain⟨a,-,⟨o,az,aq,bg⟩,-⟩:=p;exact⟨o,_,_,az,aq,bg,by decide⟩
def hide (C:aY) (aP:Addr):aY:=λb=>if b=aP then .ext else C b
theorem vV(C:aY)(aP:Addr):hide C aP aP=.ext:=bl rfl
theorem nX{C:aY}{aP b:Addr}(h:b≠aP):hide C aP b=C b:=bm h
theorem br.hide{dq C:aY}{eP s:Mt}(x:br dq eP C s){aP ah:Addr}{k:ā}(cs:dq aP=.loc k)(cf:dq ah=.none):br (hide dq aP) eP (swap C aP ah k) s:=by
 have ps:aP≠ah:=by rintro rfl;rw[cs]at cf;exact bQ cf rfl
 have st:∀{a r},Internal.hide dq aP a=r->r≠.ext->a≠aP:=λe h q=>h<|e.symm.trans<|q▸vV _ _;have bR:∀{a r},dq a=r->r≠.none->a≠ah:=λe h q=>h<|e.symm.trans<|q▸cf;refine⟨λa o e eu=>?_,λa n e=>?_,λa n e=>?_⟩
 .by_cases q:a=aP
  .subst q;exact⟨(x.kept a o e<|by rw[cs];trivial).1,(s8 ps).trans (vV _ _).symm⟩
  .rw[nX q]at eu⊢;obtain⟨ag,a8⟩:=x.kept a o e eu;exact⟨ag,(ja (by rintro rfl;rw[cf]at eu;exact eu) q).trans a8⟩
 .have q:=st e<|λz=>(nomatch z);rw[nX q]at e;exact(ja (bR e<|λz=>(nomatch z)) q).trans<|x.st a n e
 .have q:=st e<|λz=>(nomatch z);rw[nX q]at e;exact(ja (bR e<|λz=>(nomatch z)) q).trans<|x.cD a n e
theorem br.OZ{dq C:aY}{eP s:Mt}{aP ah:Addr}{k:ā}(x:br (Internal.hide dq aP) eP C s)(cs:dq aP=.loc k)(cf:dq ah=.none):br dq eP (swap C ah aP k) s:=by
 have bR:∀{a r},dq a=r->r≠.none->a≠ah:=λe h q=>h<|e.symm.trans<|q▸cf;have uQ:∀{a r},dq a=r->(∀j,r≠.loc j)->a≠aP:=λe h q=>h k<|e.symm.trans<|q▸cs;refine⟨λa o e eu=>?_,λa n e=>?_,λa n e=>?_⟩
 .by_cases q:a=aP
  .subst q;exact⟨(x.kept a o e<|by rw[vV];trivial).1,(vL _ _ _ _).trans cs.symm⟩
  .obtain⟨ag,a8⟩:=x.kept a o e (by rw[nX q];exact eu);rw[nX q]at a8;exact⟨ag,(ja q<|by rintro rfl;rw[cf]at eu;exact eu).trans a8⟩
 .have q:=uQ e<|λj z=>(nomatch z);exact(ja q<|bR e<|λz=>(nomatch z)).trans<|x.st a n<|(nX q).trans e
 .have q:=uQ e<|λj z=>(nomatch z);exact(ja q<|bR e<|λz=>(nomatch z)).trans<|x.cD a n<|(nX q).trans e
theorem xM{C:aY}{aP ah:Addr}{k:ā}(cs:C aP=.loc k)(cf:C ah=.ext){b:Addr}{q:et}(e:C b=q)(G:q≠.ext)(E:∀j,q≠.loc j):swap C aP ah k b=q:=(ja (by rintro rfl;exact G<|e.symm.trans cf)<|by rintro rfl;exact E k<|e.symm.trans cs).trans e
theorem Gs{ns:bH}{cB b6:Str->ZI}{scope:Scope}{aS:HO ā}(K:o5 c ns cB b6 scope aS)(cd:A.handled=none){bk:ZI}{target iter gc:Ā}{ifs:HO Ā}{pos:Pos}(hb:mu (c.comp ns cB b6) bk target aS){fH:he}{fc:dk}(gJ:o2 (c.comp ns cB b6) A ifs fH)(ge:Good (c.comp ns cB b6) A gc fc){cE:Addr}{r:aJ}{KK:B->St->Prop}{N k:ā}{ko:ā->HO B->St->Prop}{Pos:ā->aY->Mt->Prop}(c_:N<=a3){ac:Env}{dq C:aY}{B' J:St}{eP s:Mt}{n7:Zr->Addr->Result->Mt->Prop}{O:Zr->Mt->Prop}(S:y8 c A cE s.heap.objs.size (kB fc fH bk aS r) KK N ko Pos)(mE:c.I dq B' eP)(la:c.F dq ac r eP.heap k)(I:c.I C J s)(x:br dq eP C s)(Kj:dq cE=.none)(fX:C cE=.ext)(hsz:eP.heap.objs.size<=s.heap.objs.size)(p:Pos 0 C s)(e:ko 0 [] J){cl:HO (Str×Addr)}(eS:∀y∈scope.names,y.2=.free->cl.lookup y.1=ac.cells.lookup y.1)(w':∀D ah aO bG ar c6 bC m hG,KK (.lst c6) bG->c.I aO bG ar->br dq eP aO ar->c.F aO ac r ar.heap k->dq D=.none->aO D=.ext->dq ah=.none->aO ah=.ext->ah≠D->ar.heap.get? D=some (cu bC.toArray m)->bD c.P aO c6 bC->c6.length<=N->ar.heap.Ns ah hG->n7 (.ref D) ah (.ok .next) ar):wpAny c.M A (newList []) (λej f6=>wpAny c.M A (newFunctionEnv scope ac.globals cl [] ac.qual none .none (some ac)) (λjS iw=>
 codeAny c.M A (.compStart (.ListComp gc [⟨target,iter,ifs,0⟩] scope pos) 0 (.ref cE) ej {jS with scope:=relabel scope ac}) (n7 ej jS.locals) iw) O f6) O s:=by
 refine uP<|wpAny_newFunctionEnv K.Bn (by intro y a1;simp at a1) (λlX D0 Ea=>?_) K.kind;dsimp only at D0 Ea⊢;obtain⟨D,b4⟩:∃D,D=s.heap.objs.size:=⟨_,rfl⟩;have z_:=I.push (cu [].toArray 0) rfl .ext<|.inr rfl;have lb:=br.push I (cu [].toArray 0) .ext;rw[<-b4]at z_ lb S⊢;have Fj:cE≠D:=λq=>by have:=I.fresh (a:=cE) (by rw[q,<-b4];exact dy _);rw[fX]at this;exact bQ this rfl
 obtain⟨ah,cf⟩:∃ah,ah=(s.heap.push (cu [].toArray 0)).objs.size:=⟨_,rfl⟩;have mF:ah=D+1:=by rw[cf,qT,b4]
 obtain⟨sY,Fu⟩:∃m,lX.Ns ah m:=⟨_,by rw[cf];exact D0⟩;have OR:Heap.SameBut ah ((s.heap.push<|cu [].toArray 0).push (⟨.type "dict",none,.dict #[] 0,#[]⟩:Obj)) lX:=by rw[cf];exact Ea
 have yu:D<=ah:=by rw[mF];exact j1 D
 have u6:D≠ah:=gK (by rw[mF];exact pU D);have bZ:∀b o,b≠ah->((s.heap.push<|cu [].toArray 0).push (⟨.type "dict",none,.dict #[] 0,#[]⟩:Obj)).get? b=some o->lX.get? b=some o:=λb o aw ei=>(OR.2 b aw).trans ei;have Li:c.I (cC (cC C D .ext) ah .ext) J {s with heap:=(s.heap.push<|cu [].toArray 0).push (⟨.type "dict",none,.dict #[] 0,#[]⟩:Obj)}:=cf▸(z_.push (⟨.type "dict",none,.dict #[] 0,#[]⟩:Obj) rfl .ext<|.inr rfl);have Vw:br (cC C D .ext) {s with heap:=s.heap.push (cu [].toArray 0)} (cC (cC C D .ext) ah .ext) {s with heap:=(s.heap.push<|cu [].toArray 0).push (⟨.type "dict",none,.dict #[] 0,#[]⟩:Obj)}:=cf▸(br.push z_ (⟨.type "dict",none,.dict #[] 0,#[]⟩:Obj) .ext);have O1:∀{a:Addr},D<=a->C a=.none:=λh=>I.fresh (by rw[<-b4];exact h);have w6:∀{a b:Addr},C a≠.none->D<=b->a≠b:=λh aw q=>h (by rw[q];exact O1 aw);have JD:cE≠ah:=w6 (by rw[fX];exact λz=>bQ z rfl) yu;have sl:dq ah=.none:=mE.fresh<|aI hsz<|b4▸yu;have C4:dq D=.none:=mE.fresh (by rw[b4];exact hsz);have y9:=Li.upd (d:=ah) (by rw[c2];trivial) bZ (by obtain⟨o,_,_,az,-⟩:=Fu;rw[az];rfl) s.toks;have d6:=((x.trans lb).trans Vw).upd (d:=ah) (by rw[sl];exact id) bZ s.toks;obtain⟨oX,vw⟩:∃oX,oX=cC (cC C D .ext) ah .ext:=⟨_,rfl⟩;have s2:oX ah=.ext:=by rw[vw];exact c2 _ _ _
 have NK:oX D=.ext:=by rw[vw,bW u6];exact c2 _ _ _
 have TR:oX cE=.ext:=by rw[vw,bW JD,bW Fj];exact fX
 have zZ:∀a,(C a≠.none)->oX a=C a:=λa h=>by rw[vw,bW<|w6 h yu,bW<|w6 h<|dy _]
 rw[<-vw]at y9 d6;obtain⟨mc,k7⟩:∃mc:Mt,mc={s with heap:=lX,toks:=s.toks}:=⟨_,rfl⟩;have y9:c.I oX J mc:=by rw[k7];exact y9
 have d6:br dq eP oX mc:=by rw[k7];exact d6
 have xK:=la.ext mE d6;have MA:mc.heap.Ns ah sY:=by rw[k7];exact Fu
 have ps:ac.locals≠ah:=by intro q;have:=la.bE.loc;rw[q,sl]at this;exact bQ this rfl
 have Bc:ac.locals≠D:=by intro q;have:=la.bE.loc;rw[q,C4]at this;exact bQ this rfl
 have Ix:ac.locals≠cE:=by intro q;have:=la.bE.loc;rw[q,Kj]at this;exact bQ this rfl
 have old:∀b o,s.heap.get? b=some o->mc.heap.get? b=some o:=λb o ei=>by rw[k7];exact bZ b o (by rw[mF,b4];exact gK<|mN<|kk ei)<|ie _<|ie _ ei
 have fS:Pos 0 (swap oX ac.locals ah k) mc:=S.keep 0 C s _ _ p (λa o e4 e' eu a'=>have aD:C a≠.none:=λz=>(by rw[z]at eu;exact eu);⟨old a o e',(ja (w6 aD yu) λq=>a' k<|by rw[q];exact(la.ext mE x).bE.loc).trans<|zZ a aD⟩) (λa n e'=>xM xK.bE.loc s2 ((zZ a<|by rw[e'];intro z;exact bQ z rfl).trans e') (λz=>(nomatch z)) λj z=>(nomatch z))<|λa n e'=>xM xK.bE.loc s2 ((zZ a<|by rw[e'];intro z;exact bQ z rfl).trans e') (λz=>(nomatch z)) λj z=>(nomatch z);have Nf:mc.heap.get? D=some (cu [].toArray 0):=by rw[k7];exact bZ D _ u6 (ie _<|by exact b4▸gU _ rfl)
 have Hi:codeAny c.M A (.compLoop (.ListComp gc [⟨target,iter,ifs,0⟩] scope pos) 0 (.ref cE) (.ref D)<|compEnvC scope cl ah ac) (n7 (.ref D) ah) mc:=by refine S4 K cd hb gJ ge S c_ rfl (λy a1=>by rw[vU,K.st y a1];rfl) (l2:=Internal.hide dq ac.locals) (mP:=eP) (by rw[nX Bc.symm];exact C4) (by show Internal.hide dq ac.locals ah=.none;rw[nX ps.symm];exact sl) (by rw[nX Ix.symm];exact Kj) Fj (y9.swap xK.bE.loc s2) (Pp K xK eS MA s2) (by rw[ja JD Ix.symm];exact TR) (by rw[ja u6 Bc.symm];exact NK) Nf (d6.hide la.bE.loc sl) fS e λaO bG ar c6 bC m hG vQ dm eE iA h8 aj af hz am=>?_;obtain⟨_,US,_,_,wb,-⟩:=la.bE.mB;have kS:aO ac.locals=.ext:=(eE.kept ac.locals US wb<|by rw[vV];trivial).2.trans<|vV _ _;have Kx:=eE.OZ (ah:=ah) la.bE.loc sl;exact w' D ah _ _ ar c6 bC m hG vQ (dm.swap h8 kS) Kx (la.ext mE Kx) C4 ((ja Bc.symm u6).trans iA) sl (s8 ps.symm) u6.symm aj (af.mono (λb o ei=>xM h8 kS ei (λz=>(nomatch z)) λj z=>(nomatch z)) λb o ei=>xM h8 kS ei (λz=>(nomatch z)) λj z=>(nomatch z)) hz am
 have:=codeAny_compStart_list (R:=n7 (.ref D) ah) Hi<|S.self 0 _ _ _ _ fS Hi;rw[k7,cf]at this;exact this
def xg(eb:dk)(fc:dk)(fH:he)(bk:ZI)(aS:HO ā):dk:=λr J K=>eb r J<|j2 (kB fc fH bk aS r) K
theorem Ma{C:aY}{J:St}{s:Mt}(I:c.I C J s){x:B}{X:Zr}{bO:HO B}(h:gm c.P C s.heap x X)(e:items x=some bO):bO.length<=a3/\∀b,X=.ref b->(C b).kept/\(∀k,C b≠.loc k)/\∃o,s.heap.get? b=some o:=by
 have lD:∀{b:Addr} {o:Obj},C b=.a5 o->(C b).kept/\(∀k,C b≠.loc k)/\∃o,s.heap.get? b=some o:=λe=>⟨by rw[e];trivial,λk=>(by rw[e];intro z;exact bQ z rfl),_,I.a5 _ _ e⟩;have Fb:∀{b:Addr} {o:Obj},((C b=.a5 o)\/(∃i,C b=.own i)/\s.heap.get? b=some o)->(C b).kept/\(∀k,C b≠.loc k)/\∃o,s.heap.get? b=some o:=λe=>e.elim lD λ⟨⟨_,e⟩,az⟩=>⟨by rw[e];trivial,λk=>(by rw[e];intro z;exact bQ z rfl),_,az⟩;have wE:∀{a b:Addr},((C a).kept/\(∀k,C a≠.loc k)/\∃o,s.heap.get? a=some o)->Value.ref a=.ref b->(C b).kept/\(∀k,C b≠.loc k)/\∃o,s.heap.get? b=some o:=λh e=>Value.ref.inj e▸h;induction x using B.casesOn with
 |tup l=>obtain⟨a,Vs,n,rfl,ag,a8,c0⟩:=h.of;cases e;exact⟨c0,λb=>wE<|lD ag⟩
 |lst l=>obtain⟨a,Vs,n,rfl,ag,a8,c0⟩:=h.of;cases e;exact⟨c0,λb=>wE<|Fb ag⟩
 |str l=>obtain⟨t,rfl,aj⟩:=h.of;cases e;exact⟨by rw[bT];exact aj,λb aw=>by exact HE aw rfl⟩
 |bb l=>obtain⟨a,es,n,rfl,ag,a8,c0,c9⟩:=h.of;obtain⟨-,e⟩:=hc e;cases e;exact⟨by rw[bT];exact c0,λb=>wE<|Fb<|ag.imp And.left id⟩
 |ey a b=>obtain⟨a,t,u,w,rfl,ag,a8,c0,c9⟩:=h.of;cases e;exact⟨by rw[bT,sQ];exact c9,λb=>wE<|lD ag⟩
 |_=>exact bY e
theorem Ci{ns:bH}{cB b6:Str->ZI}{scope:Scope}{aS:HO ā}(aX:c.Ok)(K:o5 c ns cB b6 scope aS)(cd:A.handled=none){bk:ZI}{target iter gc:Ā}{ifs:HO Ā}{pos:Pos}(hb:mu (c.comp ns cB b6) bk target aS){fH:he}{fc eb:dk}(gJ:o2 (c.comp ns cB b6) A ifs fH)(ge:Good (c.comp ns cB b6) A gc fc)(gl:ll c A iter eb){O:Zr->Mt->Prop}{s:Mt}{ac:Env}{C:aY}{r:aJ}{J:St}{k:ā}{KK:B->St->Prop}{n7:Zr->Addr->Result->Mt->Prop}(I:c.I C J s)(F:c.F C ac r s.heap k)(e:xg eb fc fH bk aS r J KK){cl:HO (Str×Addr)}(eS:∀y∈scope.names,y.2=.free->cl.lookup y.1=ac.cells.lookup y.1)(w':∀D ah aO bG ar c6 bC m hG,KK (.lst c6) bG->c.I aO bG ar->br C s aO ar->c.F aO ac r ar.heap k->C D=.none->aO D=.ext->C ah=.none->aO ah=.ext->ah≠D->ar.heap.get? D=some (cu bC.toArray m)->bD c.P aO c6 bC->c6.length<=a3->ar.heap.Ns ah hG->n7 (.ref D) ah (.ok .next) ar):wpAny c.M A (eval iter ac) (λx bs=>wpAny c.M A (pyIter x) (λit b9=>wpAny c.M A (newList []) (λej f6=>wpAny c.M A (newFunctionEnv scope ac.globals cl [] ac.qual none .none (some ac)) (λjS iw=>
 codeAny c.M A (.compStart (.ListComp gc [⟨target,iter,ifs,0⟩] scope pos) 0 it ej {jS with scope:=relabel scope ac}) (n7 ej jS.locals) iw) O f6) O b9) O bs) O s:=by
 refine gl.use I F e λx da a8 X bM bs a0 bU bo c7=>?_;have q6:bM bs.heap.objs.size=.none:=a0.fresh<|dy _;have kM:∀{D:Addr},bM D=.none->C D=.none:=λ{D} h=>by
  induction q:C D with
  |none=>rfl
  |_=>
   exfalso;obtain⟨o,az⟩:=gZ.mp (I.alloc D<|by rw[q];intro z;exact bQ z rfl);first
    |(have z:=(bo.kept _ o az<|by rw[q];trivial).2;rw[h,q]at z;exact bQ z rfl)
    |(have z:=bo.st _ _ q;rw[h]at z;exact bQ z rfl)
    |(have z:=bo.cD _ _ q;rw[h]at z;exact bQ z rfl)
 by_cases aA:∃n,x=.ref n
 .obtain⟨n,rfl⟩:=aA;obtain⟨l,aK,m7⟩:=gP.dw a8;cases c7 with|val c7=>obtain⟨a,Vs,m,rfl,b0,bt,dN,gT⟩:=qt a0 c7 aK;refine wpAny_pyIter_list (hR bt) ?_;refine Gs K cd hb gJ ge (N:=l.length) (ko:=λi=>n8 (kB fc fH bk aS r) KK n (l.length-i) i) gT (Wr cd<|gK<|by rw[qT];exact pU _) a0 bU (a0.push ⟨.type "list_iterator",none,.fields #[.ref a,.int 0 0],#[]⟩ rfl .ext<|.inr rfl) (br.push a0 ⟨.type "list_iterator",none,.fields #[.ref a,.int 0 0],#[]⟩ .ext) q6 (c2 _ _ _) (by rw[qT];exact j1 _) ⟨a,(bW (gK (kk bt):a≠bs.heap.objs.size)).trans b0,⟨_,gU _ rfl,rfl,rfl⟩,f8 _,c2 _ _ _⟩ m7 eS λD ah aO bG ar c6 bC m hG vQ G E aC ba cN d5 fp qk er si s_ m4=>?_;exact w' D ah aO bG ar c6 bC m hG vQ G (bo.trans E) aC (kM ba) cN (kM d5) fp qk er si (aI s_ gT) m4
 .have c0:ay (items x) λbO=>kx (kB fc fH bk aS r) KK bO [] da:=by induction x using B.casesOn<;>first|exact a8|exact absurd ⟨_,rfl⟩ aA
  refine ay.dw c0 λbO c9 fC=>?_;obtain⟨g4,Hk⟩:=Ma a0 c7 c9;refine wD aX.sys a0 c7 c9 λo f7 P St T a7 st=>?_;have w_:∀b∈f7,b<bs.heap.objs.size+1:=λb aw=>by
   rcases T.AS b aw with rfl|aw
   .exact pU _
   .obtain⟨-,-,cw,g_⟩:=Hk b aw;exact mN<|kk g_
  have ea:∀a,bM a≠.none->cC bM bs.heap.objs.size .ext a=bM a:=λa h=>bW (by rintro rfl;exact h q6);refine Gs K cd hb gJ ge (N:=bO.length) (ko:=λi=>kx (kB fc fH bk aS r) KK<|bO.drop i) g4 (TW cd T<|λaN=>mL _ (by have:=w_ _ aN;rwa[qT]at this)) a0 bU (a0.push o a7 .ext<|.inr rfl) (br.push a0 o .ext) q6 (c2 _ _ _) (by rw[qT];exact j1 _) ⟨st,f8 _,λb aw=>?_,λa o e=>(ea a<|by rw[e];intro z;exact bQ z rfl).trans e,λa o e=>(ea a<|by rw[e];intro z;exact bQ z rfl).trans e⟩ fC eS λD ah aO bG ar c6 bC m hG vQ G E aC ba cN d5 fp qk er si s_ m4=>?_
  .rcases T.AS b aw with rfl|aw
   .rw[c2];exact⟨trivial,λk z=>(nomatch z),o,gU _ a7⟩
   .obtain⟨dn,eg,cw,g_⟩:=Hk b aw;rw[ea b<|by intro z;rw[z]at dn;exact dn];exact⟨dn,eg,cw,ie _ g_⟩
  .exact w' D ah aO bG ar c6 bC m hG vQ G (bo.trans E) aC (kM ba) cN (kM d5) fp qk er si (aI s_ g4) m4
theorem C6{ns:bH}{cB b6:Str->ZI}{scope:Scope}{aS:HO ā}(K:o5 c ns cB b6 scope aS){C:aY}{ac:Env}{r:aJ}{h:Heap}{k:ā}(F:c.F C ac r h k):∃cl,closureFor scope ac=pure cl/\∀y∈scope.names,y.2=.free->cl.lookup y.1=ac.cells.lookup y.1:=NV λy a1 e=>by obtain⟨be,v,b0,-,-⟩:=F.bE.cells y.1<|.inl<|F.cl y.1<|K.free y a1 e;rw[b0];rfl
theorem Cf{ns:bH}{cB b6:Str->ZI}{scope:Scope}{aS:HO ā}(aX:c.Ok)(K:o5 c ns cB b6 scope aS)(cd:A.handled=none){bk:ZI}{target iter gc:Ā}{ifs:HO Ā}{pos:Pos}(hb:mu (c.comp ns cB b6) bk target aS){fH:he}{fc eb:dk}(gJ:o2 (c.comp ns cB b6) A ifs fH)(ge:Good (c.comp ns cB b6) A gc fc)(gl:ll c A iter eb)(aK:qc iter=false):pK c A (.ListComp gc [⟨target,iter,ifs,0⟩] scope pos) (λr J K=>jA<|xg eb fc fH bk aS r J K):=by
 intro O s ac C r J k KK Q I F e h;obtain⟨cl,G,E⟩:=C6 K F;rw[eval_ListComp];refine wpAny_comprehension_free (use:=none) rfl (y2 aK) G K.kind K.xI<|Ci aX K cd hb gJ ge gl (n7:=λej ah=>compPost c.M A O none Q ej ah) I F e.of E λD ah aO bG ar c6 bC m hG af dm eE g7 b4 iA cf h8 mF aj jW hz am=>?_;have h:=h _ _ af;clear af;refine⟨hG,am,λtk v6=>?_⟩;have bZ:∀b o,b≠ah->ar.heap.get? b=some o->tk.get? b=some o:=λb o aw ei=>(v6.2 b aw).trans ei;by_cases Ds:(tk.get? ah).isSome=true
 .exact h D aO _ (dm.upd (d:=ah) (by rw[h8];trivial) bZ Ds ar.toks) (eE.upd (d:=ah) (by rw[cf];exact id) bZ ar.toks) b4 iA<|.lst (bZ D _ mF.symm aj) jW hz
 .have j3:∀{b b2},aO b=b2->b2≠.ext->b≠ah:=λe h q=>h<|e.symm.trans<|q▸h8;exact h D _ _ (u_ dm g7 h8 bZ ar.toks).1 (eE.drop cf h8 bZ ar.toks) b4 ((bW mF.symm).trans iA)<|.lst (bZ D _ mF.symm aj) (jW.mono (λb o e=>(bW<|j3 e<|λz=>(nomatch z)).trans e) λb o e=>(bW<|j3 e<|λz=>(nomatch z)).trans e) hz
theorem pF.a5{C:aY}{J:St}{s:Mt}(aX:c.Ok)(I:c.I C J s){D:Addr}{v:B}(b4:C D=.ext)(h:pF c C s D v):∃o,s.heap.get? D=some o/\bA c.P (cC C D<|.a5 o) v (.ref D):=by
 have j3:∀{b b2},C b=b2->b2≠.ext->b≠D:=λe h q=>h<|e.symm.trans<|q▸b4;induction h with
 |lst c3 bh cJ=>exact⟨_,c3,.lst (c2 _ _ _) (bh.mono (λb o e=>(bW<|j3 e<|λz=>(nomatch z)).trans e) λb o e=>(bW<|j3 e<|λz=>(nomatch z)).trans e) cJ⟩
 |bb c3 bh=>exact⟨_,c3.at_,.bb (c2 _ _ _) (c3.rel.mono (λb o e=>(bW<|j3 e<|λz=>(nomatch z)).trans e) λb o e=>(bW<|j3 e<|λz=>(nomatch z)).trans e) c3.a3 c3.nodup bh⟩
theorem zV{e:Ā}{w:dk}(aX:c.Ok)(g:pK c A e w):Good c A e w:=by intro O s ac C r J k K Q I F ag h;refine g O s ac C r J k K Q I F ag λv da e a aO ar dm eE am ak af=>?_;obtain⟨o,G,E⟩:=af.a5 aX dm ak;exact h _ _ e _ _ ar (dm.turn (by rw[ak];trivial) G) (eE.turn (by rw[am];exact id) ak) E
theorem Tg{ns:bH}{cB b6:Str->ZI}{scope:Scope}{aS:HO ā}(aX:c.Ok)(K:o5 c ns cB b6 scope aS)(cd:A.handled=none){bk:ZI}{target iter gc:Ā}{ifs:HO Ā}{pos:Pos}(hb:mu (c.comp ns cB b6) bk target aS){fH:he}{fc eb:dk}(gJ:o2 (c.comp ns cB b6) A ifs fH)(ge:Good (c.comp ns cB b6) A gc fc)(gl:ll c A iter eb)(aK:qc iter=false){x:Str}{eK o':Pos}{i:ā}(aB:c.ns.lookup x=some i)(aA:c.b6 x=true):ga c A (.Assign [.Name x eK] (.ListComp gc [⟨target,iter,ifs,0⟩] scope pos) o') λr J KK=>jA (xg eb fc fH bk aS r J<|pL i r KK):=by
 intro O s ac C r J k KK Q I F a8 h;obtain⟨b,aw⟩:∃b,swapsWith (.ListComp gc [⟨target,iter,ifs,0⟩] scope pos) (some (.Name x eK)) o'.line ac=pure b:=⟨_,rfl⟩;cases b with
 |false=>exact wpAny_Assign_Name ((zV aX<|Cf aX K cd hb gJ ge gl aK).use I F a8 λv da e V bM bs a0 bU bo cp=>q4 aX a0 bU aB aA cp λb9 cb bL oc ee=>h _ _ _ e _ bM b9 cb (bo.zero.trans bL) ee .go) aw
 |true=>obtain⟨cl,G,E⟩:=C6 K F;rw[exec_Assign_Name_used _ _ _ _ aw];refine bd<|p7<|bd ?_;show wpAny _ A (do let _<-comprehension (.ListComp gc [⟨target,iter,ifs,0⟩] scope pos) scope ac _ (newList []) false (eval iter ac) (some<|assign (.Name x eK) ac)) _ _ s;refine bd<|lz (wpAny_comprehension_free (use:=some<|assign (.Name x eK) ac) (Q:=λ_ ar=>Q .next ar) rfl (y2 aK) G K.kind K.xI<|Ci aX K cd hb gJ ge gl (n7:=λej ah=>compPost c.M A O (some<|assign (.Name x eK) ac) (λ_ ar=>Q .next ar) ej ah) I F a8.of E λD ah aO bG ar c6 bC m hG af dm eE g7 b4 iA cf h8 mF aj jW hz am=>?_) (λ_ ar a'=>b3<|b3 a') λ_ _ e=>e;have h:=h _ _ _ af;clear af;obtain⟨o,c3,bh⟩:=(pF.lst aj jW hz).a5 aX dm iA;have bL:=eE.turn (r:=.a5 o) (by rw[b4];exact id) iA;have rs:cC aO D (.a5 o) ah=.ext:=(bW mF).trans h8;refine assign_Name<|q4 aX (dm.turn (d:=D) (by rw[iA];trivial) c3) (F.ext I bL) aB aA bh λf6 fM fu Jx jI=>?_;have hq:f6.heap.Ns ah hG:=am.at' λo e=>Jx.sy ah o (λk z=>by rw[rs]at z;exact bQ z rfl) (λk z=>by rw[rs]at z;exact bQ z rfl) e;refine⟨hG,hq,λtk v6=>?_⟩;have bZ:∀b o,b≠ah->f6.heap.get? b=some o->tk.get? b=some o:=λb o aw ei=>(v6.2 b aw).trans ei;obtain⟨hs,mU⟩:=u_ fM jI rs bZ f6.toks;exact h _ _ _ hs ((bL.zero.trans fu).drop cf rs bZ f6.toks) mU .go
theorem Rt{ns:bH}{cB b6:Str->ZI}{scope:Scope}{aS:HO ā}(aX:c.Ok)(K:o5 c ns cB b6 scope aS)(cd:A.handled=none){bk:ZI}{target iter gc:Ā}{ifs:HO Ā}{pos:Pos}(hb:mu (c.comp ns cB b6) bk target aS){fH:he}{fc eb:dk}(gJ:o2 (c.comp ns cB b6) A ifs fH)(ge:Good (c.comp ns cB b6) A gc fc)(gl:ll c A iter eb)(aK:qc iter=false){x:Str}{eK o':Pos}{i:ā}(aB:c.ns.lookup x=some i)(aA:c.b6 x=true):ga c A (.Assign [.Name x eK] (.ListComp gc [⟨target,iter,ifs,0⟩] scope pos) o') λr J KK=>jA (xg eb fc fH bk aS r J<|uR i r KK):=by
 intro O s ac C r J k KK Q I F a8 h;obtain⟨b,aw⟩:∃b,swapsWith (.ListComp gc [⟨target,iter,ifs,0⟩] scope pos) (some (.Name x eK)) o'.line ac=pure b:=⟨_,rfl⟩;cases b with
 |false=>exact E4 aX aw aB aA (Cf aX K cd hb gJ ge gl aK) I F a8 h
 |true=>obtain⟨cl,G,E⟩:=C6 K F;rw[exec_Assign_Name_used _ _ _ _ aw];refine bd<|p7<|bd ?_;show wpAny _ A (do let _<-comprehension (.ListComp gc [⟨target,iter,ifs,0⟩] scope pos) scope ac _ (newList []) false (eval iter ac) (some<|assign (.Name x eK) ac)) _ _ s;refine bd<|lz (wpAny_comprehension_free (use:=some<|assign (.Name x eK) ac) (Q:=λ_ ar=>Q .next ar) rfl (y2 aK) G K.kind K.xI<|Ci aX K cd hb gJ ge gl (n7:=λej ah=>compPost c.M A O (some<|assign (.Name x eK) ac) (λ_ ar=>Q .next ar) ej ah) I F a8.of E λD ah aO bG ar c6 bC m hG af dm eE g7 b4 iA cf h8 mF aj jW hz am=>?_) (λ_ ar a'=>b3<|b3 a') λ_ _ e=>e;have h:=h _ _ _ af;clear af;refine assign_Name<|zC dm g7 aA λf6 aT=>?_;have rs:hT aO D i ah=.ext:=md mF h8 λj q=>(nomatch q);refine⟨hG,(am.at' λo e=>aT.keep ah o (λk z=>by rw[h8]at z;exact bQ z rfl) (λk z=>by rw[h8]at z;exact bQ z rfl) e:f6.heap.Ns ah hG),λtk v6=>?_⟩;have bZ:∀b o,b≠ah->f6.heap.get? b=some o->tk.get? b=some o:=λb o aw ei=>(v6.2 b aw).trans ei;obtain⟨hs,mU⟩:=u_ ((aT.I dm).hT (i:=i) iA) (Fw (aL:=.ol c6) aX dm aT g7 aB iA (.lst aj jW hz) rfl) rs bZ f6.toks;exact h _ _ _ hs ((Eo (i:=i) C s (eE.zero.trans aT.ext) b4 iA).drop cf rs bZ f6.toks) mU .go
def et.g6:et->ZI
 |.loc _|.kP _|.own _=>true
 |_=>false
def cover (C:aY):aY:=λb=>if(C b).g6 then .ext else C b
def mix (C aO:aY):aY:=λb=>if(C b).g6 then C b else if(aO b).g6 then .ext else aO b
theorem qg{C:aY}{b:Addr}{r:et}(e:C b=r)(h:r.g6=false):cover C b=r:=by unfold cover;rw[e,h];rfl
theorem MK{C:aY}{b:Addr}(h:(C b).g6=true):cover C b=.ext:=by unfold cover;rw[h];rfl
theorem t1{C:aY}{b:Addr}{r:et}(e:cover C b=r)(h:r≠.ext):C b=r/\r.g6=false:=by
 unfold cover at e;split at e
 .exact absurd e.symm h
 .rename_i q;exact⟨e,by rw[e]at q;simpa using q⟩
section
variable{P:Params}{N:g2}{H:Heap}{os:OsState}{C aO:aY}{J bG:St}{s ar:Mt}
theorem Inv.cover(I:Inv P N H os C J s):Inv P N H os (cover C) J s:=by
 have ea:∀b o,C b=.a5 o->Internal.cover C b=.a5 o:=λb o e=>qg e rfl;refine⟨λb h=>I.alloc b λq=>h<|qg q rfl,λa b e h=>?_,λb o e=>I.a5 b o (t1 e<|λz=>(nomatch z)).1,λn ct e=>(I.store n ct e).mono ea (λb o e=>qg e rfl) (λb o e=>qg e rfl) λ_ _ _ e=>e,λb o e=>ea _ _<|I.base b o e,I.gens,I.hQ,λb n e=>I.gA b n ?_⟩
 .have e4:Internal.cover C a≠.ext:=λz=>by rw[z]at h;exact h
  have G:=t1 rfl e4;exact I.uniq a b (G.1.trans (t1 e.symm e4).1.symm) (by rw[G.1];exact h)
 .rcases e with e|e
  .exact .inl (t1 e<|λz=>(nomatch z)).1
  .exact .inr (t1 e<|λz=>(nomatch z)).1
theorem C3{a:Addr}{o:Obj}(ae:∀b,(C b).g6=true->aO b=.ext)(e:aO a=.a5 o):mix C aO a=.a5 o:=by
 unfold mix;by_cases q:(C a).g6=true
 .rw[ae a q]at e;exact bQ e rfl
 .rw[bm q,e];rfl
theorem zv{a:Addr}{n:ā}(ae:∀b,(C b).g6=true->aO b=.ext)(e:aO a=.st n):mix C aO a=.st n:=by
 unfold mix;by_cases q:(C a).g6=true
 .rw[ae a q]at e;exact bQ e rfl
 .rw[bm q,e];rfl
theorem I_{a:Addr}{n:ā}(ae:∀b,(C b).g6=true->aO b=.ext)(e:aO a=.cD n):mix C aO a=.cD n:=by
 unfold mix;by_cases q:(C a).g6=true
 .rw[ae a q]at e;exact bQ e rfl
 .rw[bm q,e];rfl
theorem ui{a:Addr}{r:et}(e:mix C aO a=r)(h:r.g6=false)(E:r≠.ext):aO a=r:=by
 unfold mix at e;split at e
 .rename_i q;rw[e,h]at q;exact cH q
 .split at e
  .exact absurd e.symm E
  .exact e
theorem Inv.mix(I:Inv P N H os C J s)(dm:Inv P N H os aO bG ar)(ae:∀b,(C b).g6=true->aO b=.ext):Inv P N H os (mix C aO) bG ar:=by
 refine⟨λb h=>?_,λa b e h=>?_,λb o e=>dm.a5 b o<|ui e rfl<|λz=>(nomatch z),λn ct e=>(dm.store n ct e).mono (λb o e=>C3 ae e) (λb n e=>zv ae e) (λb n e=>I_ ae e) λ_ _ _ e=>e,λb o e=>C3 ae<|dm.base b o e,dm.gens,dm.hQ,λb n e=>dm.gA b n ?_⟩
 .by_cases q:(C b).g6=true
  .exact dm.alloc b (by rw[ae b q];intro z;exact bQ z rfl)
  .refine dm.alloc b λz=>h ?_;unfold Internal.mix;rw[bm q,z];rfl
 .by_cases f_:(C a).g6=true
  .have e':Internal.mix C aO a=C a:=by unfold Internal.mix;rw[bl f_]
   by_cases e7:(C b).g6=true
   .have ei:Internal.mix C aO b=C b:=by unfold Internal.mix;rw[bl e7]
    exact I.uniq a b (by rw[<-e',<-ei];exact e) (by rw[<-e'];exact h)
   .exfalso;have:(Internal.mix C aO b).g6=false:=by
     unfold Internal.mix;rw[bm e7];split
     .rfl
     .rename_i q;simpa using q
    rw[<-e,e',f_]at this;exact h7 this
  .have e4:Internal.mix C aO a≠.ext:=λz=>by rw[z]at h;exact h
   have ym:(Internal.mix C aO a).g6=false:=by
    unfold Internal.mix;rw[bm f_];split
    .rfl
    .rename_i q;simpa using q
   have ag:=ui rfl ym e4;exact dm.uniq a b (ag.trans (ui e.symm ym e4).symm) (by rw[ag];exact h)
 .rcases e with e|e
  .exact .inl<|ui e rfl<|λz=>(nomatch z)
  .exact .inr<|ui e rfl<|λz=>(nomatch z)
theorem eB.mix(I:Inv P N H os C J s)(x:eB (Internal.cover C) s aO ar):(∀b,(C b).g6=true->aO b=.ext)/\br C s (mix C aO) ar:=by
 have ae:∀b,(C b).g6=true->aO b=.ext/\∀o,s.heap.get? b=some o->ar.heap.get? b=some o:=λb q=>by obtain⟨o,az⟩:=gZ.mp (I.alloc b<|by intro z;rw[z]at q;exact cH q);have aq:=MK q;refine⟨(x.h' b o az<|by rw[aq];trivial).2.trans aq,λcw g_=>(x.h' b cw g_<|by rw[aq];trivial).1⟩
 have hO:∀b,(C b).g6=true->aO b=.ext:=λb q=>(ae b q).1;refine⟨hO,λa o e eu=>?_,λa n e=>zv hO<|x.st a n<|qg e rfl,λa n e=>I_ hO<|x.cD a n<|qg e rfl⟩;by_cases q:(C a).g6=true
 .exact⟨(ae a q).2 o e,by unfold Internal.mix;rw[bl q]⟩
 .have aq:Internal.cover C a=C a:=by unfold Internal.cover;rw[bm q]
  have cd:(Internal.cover C a).h':=by rw[aq];revert q eu;induction C a<;>intro eu q<;>first|trivial|exact eu|exact absurd rfl q
  obtain⟨ag,a8⟩:=x.h' a o e cd;refine⟨ag,?_⟩;unfold Internal.mix;rw[bm q,a8,aq,bm q]
end
theorem Du{names:HO Str}{vals:HO Zr}(am:names.Nodup){i:ā}{n:Str}{v:Zr}(G:names[i]?=some n)(E:vals[i]?=some v):(names.zip vals).lookup n=some v:=by
 induction names generalizing vals i with
 |nil=>exact bY G
 |cons m r ap=>
  induction vals using List.casesOn with
  |nil=>exact bY E
  |cons w ve=>
   rw[List.zip_cons_cons,kO];have hq:=hV.mp am;induction i with
   |zero=>cases G;cases E;rw[jL]
   |succ i=>have G:r[i]?=some n:=G;rw[lK.mpr λe:n=m=>hq.1<|e▸h9 G];exact ap hq.2 G E
theorem UD{names:HO Str}{vals:HO Zr}{n:Str}(h:n∉names.take vals.length):(names.zip vals).lookup n=none:=by
 induction names generalizing vals with
 |nil=>rfl
 |cons m r ap=>
  induction vals with
  |nil=>rfl
  |cons w ve=>rw[List.zip_cons_cons,kO];have h:n∉m::r.take ve.length:=h;rw[lK.mpr λe:n=m=>h<|e▸.head _];exact ap λq=>h<|.tail _ q
theorem Zb{g:Str->Z5 (Str×Zr)}{names:HO Str}:∀{vals:HO Zr},vals.length=names.length->(∀(i:ā) n v,names[i]?=some n->vals[i]?=some v->g n=some (n,v))->names.filterMap g=names.zip vals:=by
 induction names with
 |nil=>intro vals _ _;rfl
 |cons m r ap=>
  intro vals h k;induction vals with
  |nil=>exact Nat.noConfusion h
  |cons w ve=>rw[List.zip_cons_cons,List.filterMap_cons,k 0 m w rfl rfl,ap (Nat.succ.inj h) λi n v G E=>k (i+1) n v G E]
theorem WZ(f:Str×Zr->HO (Str×Zr)->Sem (ForInStep<|List<|Str×Zr))(a7:∀x S,f x S=if(S.lookup x.1).isNone=true then pure (.yield<|S++[(x.1,x.2)])else pure (.yield S)){l:HO (Str×Zr)}:∀{S:HO (Str×Zr)} {m:ā},(l.map (·.1)).Nodup->(∀(i:ā) p,l[i]?=some p->i<m->(S.lookup p.1).isNone=false)->(∀(i:ā) p,l[i]?=some p->m<=i->S.lookup p.1=none)->∀{M:Model} {A:Around} {O:Zr->Mt->Prop} {s:Mt} {Q:HO (Str×Zr)->Mt->Prop},Q (S++l.drop m) s->wpAny M A (forIn l S f) Q O s:=by
 induction l with
 |nil=>intro S m _ _ _ M A O s Q q;rw[List.drop_nil,ha]at q;exact b3 q
 |cons p l ap=>
  intro S m am G E M A O s Q q;rw[List.forIn_cons,a7];have am:=hV.mp am;refine bd ?_;induction m with
  |zero=>
   rw[bl<|by rw[E 0 p rfl<|dy _];rfl];refine b3<|ap (m:=0) am.2 (λi q _ aB=>absurd aB<|Nat.not_lt_zero _) (λi q a' _=>?_) ?_
   .rw[List.lookup_append,E (i+1) q a'<|f8 _,Option.none_or,kO,lK.mpr λe:q.1=p.1=>am.1<|dr.mpr ⟨q,h9 a',e⟩];rfl
   .rw[hK];exact q
  |succ m=>rw[bm<|by rw[G 0 p rfl<|n4 _];exact dR];exact b3<|ap am.2 (λi q a' aB=>G (i+1) q a'<|vh aB) (λi q a' aB=>E (i+1) q a'<|dc aB) q
def Cd (p:Arguments):ZI:=p.posonlyargs.isEmpty&&p.kwonlyargs.isEmpty&&p.vararg.isNone&&p.kwarg.isNone
def me (vals cP:HO Zr) (np:ā):HO Zr:=vals++cP.drop (cP.length-(np-vals.length))
theorem DF{vals cP:HO Zr}{n:ā}(G:vals.length<=n)(E:n<=vals.length+cP.length):(me vals cP n).length=n:=by unfold me;rw[c',vB,Nat.sub_sub_self<|Nat.sub_le_of_le_add (qp .. ▸E),Nat.add_sub_cancel' G]
theorem FI{c:ZI}(h:c=false):decide (c=true)=false:=by rw[h];rfl
theorem RT{names:HO Str}{vals cP:HO Zr}{cS:Prop}(am:names.Nodup)(aj:vals.length<=names.length)(ys:names.length<=vals.length+cP.length)(jP:cP.length<=names.length)(k:(decide (vals.length>names.length)&&true)=false->(!(((names.take<|names.length-(cP.drop<|cP.length-names.length).length).filter λn=>((names.zip vals).lookup n).isNone).isEmpty))=false->((((names.drop<|names.length-(cP.drop<|cP.length-names.length).length).zip<|cP.drop<|cP.length-names.length).map (·.1)).Nodup)->(∀(i:ā) p,((names.drop<|names.length-(cP.drop<|cP.length-names.length).length).zip<|cP.drop<|cP.length-names.length)[i]?=some p->i<vals.length-(names.length-cP.length)->((names.zip vals).lookup p.1).isNone=false)->(∀(i:ā) p,((names.drop<|names.length-(cP.drop<|cP.length-names.length).length).zip<|cP.drop<|cP.length-names.length)[i]?=some p->vals.length-(names.length-cP.length)<=i->(names.zip vals).lookup p.1=none)->((names++[]).filterMap λn=>((names.zip vals++((names.drop<|names.length-(cP.drop<|cP.length-names.length).length).zip<|cP.drop<|cP.length-names.length).drop (vals.length-(names.length-cP.length))).lookup n).map (n,·))=names.zip (me vals cP names.length)->cS):cS:=by
 have c9:cP.drop (cP.length-names.length)=cP:=by rw[Nat.sub_eq_zero_of_le jP];rfl
 rw[c9]at k;have aD:names.length-cP.length<=vals.length:=Nat.sub_le_of_le_add ys;have at_:∀(i:ā) p,((List.drop (names.length-cP.length) names).zip cP)[i]?=some p->names[names.length-cP.length+i]?=some p.1/\cP[i]?=some p.2:=λi p h=>by obtain⟨G,E⟩:=List.getElem?_zip_eq_some.mp h;rw[vg]at G;exact⟨G,E⟩
 have fresh:∀(j:ā) n,names[j]?=some n->vals.length<=j->(names.zip vals).lookup n=none:=λj n b_ af=>by refine UD λaN=>?_;obtain⟨i,aB,e⟩:=List.mem_iff_getElem.mp aN;clear aN;rw[List.length_take]at aB;rw[List.getElem_take]at e;have iB:i<names.length:=gG aB<|Nat.min_le_right _ _;have:=(List.getElem?_inj iB am (j:=j)).mp (by rw[b_,fr iB,e]);exact absurd (gG aB<|Nat.min_le_left _ _)<|Nat.not_lt.mpr<|this▸af
 have Gp:∀(j:ā) n,names[j]?=some n->j<vals.length->((names.zip vals).lookup n).isNone=false:=λj n b_ af=>by rw[Du am b_<|fr af];rfl
 refine k (by rw[eA<|Nat.not_lt.mpr aj];rfl) ?_ ?_ (λi p h aB=>Gp _ _ (at_ i p h).1<|Nat.add_lt_of_lt_sub' aB) (λi p h aB=>fresh _ _ (at_ i p h).1<|Nat.sub_le_iff_le_add'.mp aB) ?_
 .rw[vi.mpr λn k9=>?_]
  .rfl
  .obtain⟨i,aB,e⟩:=List.mem_iff_getElem.mp k9;clear k9;rw[List.length_take]at aB;rw[List.getElem_take]at e;rw[Gp i n (by rw[<-e];exact fr _)<|gG (gG aB<|Nat.min_le_left _ _) aD];exact dR
 .rw[List.map_fst_zip<|by rw[vB];exact fT<|Nat.sub_sub_self jP];exact am.sublist<|List.drop_sublist _ _
 .have mq:=DF aj ys;have aq:vals.length-(names.length-cP.length)=cP.length-(names.length-vals.length):=by rw[Nat.sub_sub_right _ jP,Nat.sub_sub_right _ aj,qp]
  rw[ha];refine Zb mq λi n v G E=>?_;rw[List.lookup_append];unfold me at E;by_cases af:i<vals.length
  .rw[o7 af]at E;rw[Du am G E];rfl
  .have af:=Nat.not_lt.mp af;rw[oZ af,vg]at E;rw[fresh i n G af,Option.none_or,List.zip_eq_zipWith,List.drop_zipWith,<-List.zip_eq_zipWith,List.drop_drop];have iB:=(g9.mp G).1;rw[Du (i:=i-vals.length) (v:=v) (am.sublist<|List.drop_sublist _ _) (by rw[vg,Nat.add_sub_cancel' aD,Nat.add_sub_cancel' af];exact G)<|by rw[vg,aq];exact E];rfl
theorem Y'{s:Mt}{eJ:FuncData}{names:HO Str}{vals cP:HO Zr}(ae:Cd eJ.params=true)(ak:eJ.params.args.map (·.arg)=names)(am:names.Nodup)(aj:vals.length<=names.length)(bg:(eJ.defaults=.none/\cP=[])\/dJ λT o k=>dD (eJ.defaults=.ref T) (s.heap.get? T=some o)<|o.data=.seq cP.toArray k)(ys:names.length<=vals.length+cP.length)(jP:cP.length<=names.length):BindsTo s eJ ⟨vals,[]⟩ (names.zip<|me vals cP names.length):=by
 obtain⟨ln,cL,fm,e⟩:dJ λln cL fm=>eJ.params=⟨[],ln,none,[],cL,none,fm⟩:=by have h:=gY.mp ae;have G:=gY.mp h.1;have E:=gY.mp G.1;have dn:=fU.mp E.1;have eg:=fU.mp E.2;have fS:=pH.mp G.2;have iy:=pH.mp h.2;clear h G E ae ak bg;generalize eJ.params=p at*;obtain⟨OU,ln,mX,y3,cL,eu,fm⟩:=p;exact⟨ln,cL,fm,by rw[show OU=[]from dn,show y3=[]from eg,show mX=none from fS,show eu=none from iy]⟩
 rw[e]at ak;obtain rfl:ln.map (·.arg)=names:=ak;intro M A O Q a';unfold bindArgs;rw[e];obtain⟨yC,rfl,Sg⟩:∃yC:Z5 (Array Zr),(yC.getD #[]).toList=cP/\∀bV,bV yC s->wpAny M A (seqItems? eJ.defaults) bV O s:=by
  rcases bg with⟨G,E⟩|⟨T,o,k,G,E,aC⟩
  .refine⟨none,by rw[E];rfl,λbV h=>?_⟩;rw[G];exact b3 h
  .refine⟨some cP.toArray,rfl,λbV h=>?_⟩;rw[G];exact wpAny_seqItems E aC h
 refine RT am aj ys jP λag a8 c0 c9 m7 fC=>bd<|b3<|bd<|Sg _<|wpAny_ite_false (FI ag)<|wpAny_ite_false (FI a8)<|bd<|WZ _ (λ_ _=>rfl) (m:=vals.length-((ln.map (·.arg)).length-(yC.getD #[]).toList.length)) c0 c9 m7<|bd<|b3 ?_;show wpAny M A (pure _) Q O s;exact b3<|Eq.mpr (bI (λb=>Q b s) fC) a'
theorem wg{x:Str}:∀{names:HO (Str×NameKind)} {n:ā} {ej:HO (Str×Addr)},((∃c,(x,c)∈ej)\/(x,NameKind.cell)∈names)->∃c,(x,c)∈cellsFrom n names ej
 |[],n,ej,h=>by
  rcases h with h|h
  .exact h
  .simp at h
 |(y,k)::r,n,ej,h=>by
  unfold cellsFrom;split
  .rename_i aD;refine wg ?_;rcases h with⟨c,h⟩|h
   .exact .inl ⟨c,rJ _ h⟩
   .rcases ew.mp h with e|h
    .cases e;exact .inl ⟨n,tM⟩
    .exact .inr h
  .rename_i aD;refine wg ?_;rcases h with h|h
   .exact .inl h
   .rcases ew.mp h with e|h
    .cases e;exact absurd rfl aD
    .exact .inr h
theorem BC{b8:Type}{x:Str}{l:HO (Str×b8)}:(∃c,(x,c)∈l)->(l.lookup x).isSome=true:=by
 induction l with
 |nil=>exact λ⟨_,h⟩=>nomatch h
 |cons p r ap=>
  intro h;rw[kO];induction q:x==p.1 using Bool.casesOn with
  |true=>rfl
  |false=>
   refine ap ?_;obtain⟨c,h⟩:=h;cases h with
   |head=>exact absurd (jL x) (by rw[q];exact dR)
   |tail _ h=>exact⟨c,h⟩
theorem MW{cL:Str->Z5 NameKind}{n:Str}{jp:HO (Str×Zr)}:∀{m:Str->Z5 Zr},(∀p∈jp,p.1≠n)->bindL cL jp m n=m n:=by
 induction jp with
 |nil=>exact λ_=>rfl
 |cons p r ap=>
  intro m h;unfold bindL;rw[ap λq a'=>h q<|.tail _ a'];by_cases aD:cL p.1=some .local
  .rw[bl aD];exact bm<|ip<|h p<|.head _
  .rw[bm aD]
theorem Vj{cL:Str->Z5 NameKind}{n:Str}{jp:HO (Str×Zr)}:∀{m:Str->Z5 Zr},(∀p∈jp,p.1≠n)->bindC cL jp m n=m n:=by
 induction jp with
 |nil=>exact λ_=>rfl
 |cons p r ap=>
  intro m h;unfold bindC;rw[ap λq a'=>h q<|.tail _ a'];by_cases aD:cL p.1=some .local
  .rw[bl aD]
  .rw[bm aD];exact bm<|ip<|h p<|.head _
theorem Hn{n:Str}{V:Zr}{r:HO (Str×Zr)}(h:n∉r.map (·.1)):∀p∈r,p.1≠n:=λp ae q=>h<|q▸fw (f:=λx:Str×Zr=>x.1) ae
theorem T4{cL:Str->Z5 NameKind}{n:Str}{V:Zr}(aD:cL n=some .local){jp:HO (Str×Zr)}:∀{m:Str->Z5 Zr},(jp.map (·.1)).Nodup->(n,V)∈jp->bindL cL jp m n=some V:=by
 induction jp with
 |nil=>exact λ_ h=>nomatch h
 |cons p r ap=>
  intro m am h;have am:=hV.mp am;cases h with
  |head=>unfold bindL;rw[MW<|Hn (V:=V) am.1,bl aD];exact bl rfl
  |tail _ h=>unfold bindL;exact ap am.2 h
theorem Qn{cL:Str->Z5 NameKind}{n:Str}{V:Zr}(aD:¬cL n=some .local){jp:HO (Str×Zr)}:∀{m:Str->Z5 Zr},(jp.map (·.1)).Nodup->(n,V)∈jp->bindC cL jp m n=some V:=by
 induction jp with
 |nil=>exact λ_ h=>nomatch h
 |cons p r ap=>
  intro m am h;have am:=hV.mp am;cases h with
  |head=>unfold bindC;rw[Vj<|Hn (V:=V) am.1,bm aD];exact bl rfl
  |tail _ h=>unfold bindC;exact ap am.2 h
def jw (C:aY) (aP:Addr) (b1:HO (Str×Addr)):aY:=λb=>if b=aP then .loc 0 else match b1.find? (λp=>p.2==b&&b1.lookup p.1==some b)with
 |some p=>.kP p.1
 |none=>cover C b
theorem O4(C:aY)(aP:Addr)(b1:HO (Str×Addr)):jw C aP b1 aP=.loc 0:=bl rfl
theorem Lg{C:aY}{aP:Addr}{b1:HO (Str×Addr)}(iq:b1.Pairwise λx y=>x.2≠y.2)(l':∀n c,(n,c)∈b1->aP<c){x:Str}{b:Addr}(h:b1.lookup x=some b):jw C aP b1 b=.kP x:=by
 have aN:=mem_of_lookup h;unfold jw;rw[bm<|Nat.ne_of_gt<|l' x b aN];induction a7:b1.find? (λp=>p.2==b&&b1.lookup p.1==some b)with
 |none=>have:=List.find?_eq_none.mp a7 (x,b) aN;simp[h]at this
 |some p=>have G:=um a7;have E:=ye a7;simp only[eX,fL]at G;have:p.1=x:=name_of_addr iq (n:=p.1) (n':=x) (c:=b) (by rw[<-G.1];exact E) aN;simp[this]
theorem vq{C:aY}{aP:Addr}{b1:HO (Str×Addr)}{b:Addr}{r:et}(e:jw C aP b1 b=r):(b=aP/\r=.loc 0)\/(∃x,b1.lookup x=some b/\r=.kP x)\/cover C b=r:=by
 unfold jw at e;split at e
 .rename_i q;exact .inl ⟨q,e.symm⟩
 .split at e
  .rename_i p a7;have G:=um a7;simp only[eX,fL]at G;exact .inr<|.inl ⟨p.1,G.2,e.symm⟩
  .exact .inr<|.inr e
theorem Oq{C:aY}{aP:Addr}{b1:HO (Str×Addr)}(l':∀n c,(n,c)∈b1->aP<c){b:Addr}(h:b<aP):jw C aP b1 b=cover C b:=by
 unfold jw;rw[bm<|gK h];induction a7:b1.find? (λp=>p.2==b&&b1.lookup p.1==some b)with
 |none=>rfl
 |some p=>have G:=um a7;have E:=ye a7;simp only[eX,fL]at G;have:=l' p.1 p.2 E;rw[G.1]at this;exact absurd this<|Nat.lt_asymm h
theorem Inv.frame{P:Params}{N:g2}{H:Heap}{os:OsState}{C:aY}{J:St}{s bs:Mt}(I:Inv P N H os C J s){b1:HO (Str×Addr)}{m uT:Str->Z5 Zr}(x:InCallC s s.heap.objs.size m b1 uT bs):Inv P N H os (jw C s.heap.objs.size b1) J bs/\eB (Internal.cover C) s (jw C s.heap.objs.size b1) bs:=by
 have keep:=x.toInCall.keep;obtain⟨lX,cM,Fh⟩:=x.toInCall.same;have qB:=I.cover;have oW:∀{b:Addr} {r:et},Internal.cover C b=r->r≠.none->jw C s.heap.objs.size b1 b=r:=λ{b r} e h=>by
  have aw:b<s.heap.objs.size:=by
   induction Nat.lt_or_ge b s.heap.objs.size with
   |inl h=>exact h
   |inr aR=>exact absurd (e.symm.trans<|qB.fresh aR) h
  rw[Oq x.above aw];exact e
 have ea:∀b o,Internal.cover C b=.a5 o->jw C s.heap.objs.size b1 b=.a5 o:=λb o e=>oW e<|λz=>(nomatch z);have eV:∀b o,Internal.cover C b=.st o->jw C s.heap.objs.size b1 b=.st o:=λb o e=>oW e<|λz=>(nomatch z);have qJ:∀b o,Internal.cover C b=.cD o->jw C s.heap.objs.size b1 b=.cD o:=λb o e=>oW e<|λz=>(nomatch z);have np:∀b,(Internal.cover C b).g6=false:=λb=>by
  unfold Internal.cover;split
  .rfl
  .rename_i q;simpa using q
 refine⟨⟨λb h=>?_,λa b e h=>?_,λb o e=>?_,λn ct e=>(qB.store n ct e).mono ea eV qJ λa o _ e=>keep a o e,λb o e=>ea _ _<|qB.base b o e,by rw[Fh];exact I.gens,by rw[Fh];exact I.hQ,λb n e=>?_⟩,λa o e cd=>⟨keep a o e,oW rfl<|λz=>by rw[z]at cd;exact cd⟩,eV,qJ⟩
 .rcases vq (r:=jw C s.heap.objs.size b1 b) rfl with⟨rfl,-⟩|⟨y,a1,-⟩|aq
  .obtain⟨o,_,_,az,-⟩:=x.toInCall.ns;rw[az];rfl
  .obtain⟨o,az,-⟩:=x.cell y b a1;rw[az];rfl
  .obtain⟨o,az⟩:=gZ.mp (qB.alloc b<|by rw[aq];exact h);rw[keep b o az];rfl
 .have ak:=vq (r:=jw C s.heap.objs.size b1 a) rfl;have aw:=vq (r:=jw C s.heap.objs.size b1 b) rfl;rw[<-e]at aw;rcases ak with⟨ak,rI⟩|⟨y,a1,rI⟩|pw
  .rw[rI]at aw;rcases aw with⟨aw,-⟩|⟨z,-,jm⟩|gB
   .rw[ak,aw]
   .exact bQ jm rfl
   .have:=np b;rw[gB]at this;exact h7 this
  .rw[rI]at aw;rcases aw with⟨-,jm⟩|⟨z,hz,jm⟩|gB
   .exact bQ jm rfl
   .cases jm;rw[a1]at hz;cases hz;rfl
   .have:=np b;rw[gB]at this;exact h7 this
  .rcases aw with⟨-,jm⟩|⟨z,-,jm⟩|gB
   .have:=np a;rw[pw,jm]at this;exact h7 this
   .have:=np a;rw[pw,jm]at this;exact h7 this
   .exact qB.uniq a b (pw.trans gB.symm) (by rw[pw];exact h)
 .rcases vq e with⟨-,r⟩|⟨z,-,r⟩|c
  .exact bQ r rfl
  .exact bQ r rfl
  .exact keep b o<|qB.a5 b o c
 .rcases e with e|e<;>rcases vq e with⟨-,r⟩|⟨z,-,r⟩|c
  .exact bQ r rfl
  .exact bQ r rfl
  .exact qB.gA b n<|.inl c
  .exact bQ r rfl
  .exact bQ r rfl
  .exact qB.gA b n<|.inr c
structure Jb(c:cc)(xa:Addr)(eJ:FuncData)(body:List Stmt)(names:List Str)(lJ:Nat)(dflt:List B)(cP:List Value):Prop where
 obj:∃o,c.H.get? xa=some o/\o.data=.func eJ
 glob:eJ.globals=mainGlobals
 lT:eJ.builtins=builtinsNs
 PA:eJ.closure=[]
 Wa:eJ.body=.stmts body
 kind:eJ.scope.kind=.function
 RJ:eJ.scope.isCoroutine=false
 ngen:eJ.scope.isGenerator=false
 lim:c.H.NoLimit
 code:c.H.CodeRec eJ.code eJ.qualname
 plain:Cd eJ.params=true
 L1:eJ.params.args.map (·.arg)=names
 nodup:names.Nodup
 KS:(eJ.defaults=.none/\cP=[])\/dJ λT o k=>dD (eJ.defaults=.ref T) (c.H.get? T=some o)<|o.data=.seq cP.toArray k
 D9:bD c.P (fB c.H) dflt cP
 X8:cP.length<=names.length
 par:∀n∈names,eJ.scope.names.lookup n=some .local\/eJ.scope.names.lookup n=some .cell
 PW:∀y∈eJ.scope.names,y.2≠.free
 vars:∀x i,c.ns.lookup x=some i->(i<names.length->names[i]?=some x)/\i<lJ
 gl:∀x,c.cB x=true->eJ.scope.names.lookup x=some .globalImplicit
 st:∀x,c.b6 x=true->eJ.scope.names.lookup x=some .local\/eJ.scope.names.lookup x=some .cell
 ky:∀x,c.ky x=true->eJ.scope.names.lookup x=some .cell
theorem X7{xa:Addr}{eJ:FuncData}{body:HO Stmt}{names:HO Str}{lJ:ā}{dflt:HO B}{cP:HO Zr}(aX:c.Ok)(D:Jb c xa eJ body names lJ dflt cP)(Wd:A.depth<recursionLimit){ku:oa}(lr:∀de,mI c (A.deeper de) body ku){UJ:HO dE}{vs:HO B}{r:aJ}{J:St}{KK:B->St->Prop}(ag:s6 ⟨names.length,lJ,dflt,UJ⟩ vs=some r)(a8:ku r J λcI _ s=>KK cI.val s){s:Mt}{C:aY}{Vs:HO Zr}{R:Result->Mt->Prop}(I:c.I C J s)(af:bD c.P C vs Vs)(h:∀v bG,KK v bG->∀V aO ar,c.I aO bG ar->br C s aO ar->bA c.P aO v V->R (.ok<|.ret V) ar):codeAny c.M A (.call (.ref xa) ⟨Vs,[]⟩) R s:=by
 unfold s6 at ag;split at ag
 .rename_i s1;simp only at s1 ag;cases ag;have dS:=af.length;have o1:=D.D9.length;obtain⟨o,az,Yy⟩:=D.obj;have g_:=I.mm _ _ az;have Ef:Vs.length<=names.length:=aI (fT dS) s1.1;have k9:names.length<=Vs.length+cP.length:=by rw[dS,o1];exact s1.2
  have KJ:BindsTo s eJ ⟨Vs,[]⟩ (names.zip<|me Vs cP names.length):=by
   refine Y' D.plain D.L1 D.nodup Ef ?_ k9 D.X8;rcases D.KS with h|⟨T,hE,k,G,E,aC⟩
   .exact .inl h
   .exact .inr ⟨T,hE,k,G,I.mm _ _ E,aC⟩
  have mq:(me Vs cP names.length).length=names.length:=DF Ef k9;have C5:∀x∈names.zip (me Vs cP names.length),eJ.scope.names.lookup x.1=some .local\/(eJ.scope.names.lookup x.1=some .cell/\((cellsFrom (s.heap.objs.size+1) eJ.scope.names []).lookup x.1).isSome=true):=λx aA=>by
   rcases D.par x.1 (List.of_mem_zip aA).1 with h|h
   .exact .inl h
   .exact .inr ⟨h,BC<|wg<|.inr<|mem_of_lookup h⟩
  refine codeAny_call_function Wd g_ Yy D.RJ D.ngen D.Wa (D.code.keeps λb o e=>I.mm b o e)<|KJ _ _ _ _ ?_;rw[D.PA];refine wpAny_newFunctionEnv_cells D.kind C5 λde a6 bs x=>⟨(D.lim.keeps λb o e=>I.mm b o e).keeps x.toInCall.keep,codeAny_func ?_⟩;have qM:de.locals=s.heap.objs.size:=by rw[a6];rfl
  have ju:de.cells=cellsFrom (s.heap.objs.size+1) eJ.scope.names []:=by rw[a6];rfl
  have qC:∀y,de.kindOf y=eJ.scope.names.lookup y:=λy=>by rw[a6];rfl
  have Y_:de.scope=eJ.scope:=by rw[a6];rfl
  rw[qM]at x;obtain⟨a0,bo⟩:=I.frame x;have kR:((names.zip<|me Vs cP names.length).map (·.1)).Nodup:=by rw[List.map_fst_zip<|fT mq.symm];exact D.nodup
  have MF:bD c.P C (vs++dflt.drop (dflt.length-(names.length-vs.length))) (me Vs cP names.length):=by
   unfold me;rw[o1,dS];refine af.append (bD.drop ?_ _);exact D.D9.mono (λa o e=>by
    unfold fB at e;split at e
    .rename_i cw g_;cases e;exact I.base _ _ g_
    .exact bQ e rfl) (λa n e=>by unfold fB at e;split at e<;>exact bQ e rfl)
  have bU:c.F (jw C s.heap.objs.size de.cells) de (((vs++dflt.drop (dflt.length-(names.length-vs.length))).map .val)++List.replicate (lJ-names.length) .un) bs.heap 0:=by
   refine⟨⟨by rw[Y_];exact D.kind,by rw[a6];exact D.glob,by rw[a6];exact D.lT,by rw[qM];exact O4 _ _ _,⟨_,by rw[qM];exact x.toInCall.ns⟩,λy a1=>?_,λy i aL G E=>?_⟩,λy a1=>by rw[qC];exact D.gl y a1,λy a1=>by rw[qC];exact D.st y a1,λy a1=>by rw[qC];exact D.ky y a1⟩
   .have aq:eJ.scope.names.lookup y=some .cell:=by
     rw[qC]at a1;rcases a1 with a1|a1
     .exact a1
     .exact absurd rfl<|D.PW _<|mem_of_lookup a1
    obtain⟨be,jX⟩:=gZ.mp (BC (x:=y) (l:=de.cells)<|by rw[ju];exact wg<|.inr<|mem_of_lookup aq);exact⟨be,_,jX,(λh=>Lg x.apart x.above h) jX,x.cell y be jX⟩
   .by_cases aB:i<(vs++dflt.drop (dflt.length-(names.length-vs.length))).length
    .rw[o7 (by simpa using aB),gN]at E;obtain⟨v,AG,e⟩:=wA.mp E;subst e;obtain⟨V,cp,bn⟩:=MF.get AG;have iB:i<names.length:=by have:=(g9.mp cp).1;lia
     have a1:=(D.vars y i G).1 iB;have jB:(y,V)∈names.zip (me Vs cP names.length):=h9 (i:=i) (by rw[List.getElem?_zip_eq_some];exact⟨a1,cp⟩);refine .val ?_<|(λbn=>(bn.mono (λa o e=>qg e rfl) λa n e=>qg e rfl).mono (bo.oG I.cover) bo.st) bn;rcases D.par y (h9 a1)with aD|aD
     .exact .inl ⟨by rw[qC];exact aD,_,by rw[qM];exact x.toInCall.ns,T4 (by rw[qC];exact aD) kR jB⟩
     .obtain⟨be,jX⟩:=gZ.mp (BC (x:=y) (l:=de.cells)<|by rw[ju];exact wg<|.inr<|mem_of_lookup aD);refine .inr ⟨.inl (by rw[qC];exact aD),be,jX,?_⟩;have:=x.cell y be jX;rwa[Qn (by rw[qC,aD];intro z;cases z) kR jB]at this
    .rw[oZ<|by simpa using aB]at E;have:=h9 E;rw[List.mem_replicate]at this;rw[this.2];exact .un
  refine lr de _ bs de _ _ J 0 _ _ a0 bU a8 λcI b2 bG e f co b9 cb bL ee a7=>?_;obtain⟨ae,fu⟩:=eB.mix I<|bo.trans bL;refine h _ _ e _ (mix C co) b9 (I.mix cb ae) fu ?_;induction a7 with
  |go=>exact .none
  |ret cp=>exact cp.mono (λa o e=>C3 ae e) λa n e=>zv ae e
 .exact bY ag
abbrev q7:=HO B->St->(B->St->Prop)->Prop
def nI(c:cc)(A:Around)(F:Zr)(gB:q7):Prop:=∀s C J vs Vs (K:B->St->Prop) (R:Result->Mt->Prop),c.I C J s->bD c.P C vs Vs->gB vs J K->(∀v bG,K v bG->y_ c C s (λV ar=>R (.ok<|.ret V) ar) v bG)->codeAny c.M A (.call F ⟨Vs,[]⟩) R s
def jc (es:HO Ā):ZI:=es.all λe=> !fG e
theorem De{pos:Pos}{ac:Env}:∀{es:HO Ā},jc es=true->(backTo pos<|starEach es ac).any (·.1)=false
 |[],_=>rfl
 |e::r,h=>by unfold jc at h;rw[sU,eX,kn]at h;rw[nd h.1];show(false||(backTo pos<|starEach r ac).any (·.1))=false;rw[De h.2];rfl
theorem D2{F:Zr}{JR:HO Zr}{args:HO Ā}{pos:Pos}{eb:nO}(aX:c.Ok)(aK:jc args=true)(aD:keepIn c.K F=true)(gl:kZ c A args eb)(aU:args=[]->∀r J K,eb r J K->K [] J){O:Zr->Mt->Prop}{s:Mt}{ac:Env}{C:aY}{r:aJ}{J:St}{k:ā}{K:HO B->St->Prop}{Q:Zr->Mt->Prop}(I:c.I C J s)(hi:c.F C ac r s.heap k)(e:eb r J K)(h:∀vs bG,K vs bG->∀Vs aO ar,c.I aO bG ar->br C s aO ar->bD c.P aO vs Vs->wpAny c.M A (call F<|JR++Vs) Q O ar):wpAny c.M A (callWith pos F JR (backTo pos<|starEach args ac) []) Q O s:=by
 have rn:∀{C J s},c.I C J s->c.K.In s.heap:=λI b o e=>I.mm _ _<|aX.ab b o e;induction args with
 |nil=>exact callWith_K0 (rn I) aD<|h _ _ (aU rfl _ _ _ e) [] C s I (br.refl C s) .nil
 |cons a a_=>unfold jc at aK;rw[sU,eX,kn]at aK;exact callWith_K (h₀:=s.heap) (rn I) aD (gl O s ac C r J k pos _ _ I hi e λvs bG e Vs aO ar dm x af _=>⟨rn dm,h vs bG e Vs aO ar dm x af⟩) (u2 aK.1)<|De aK.2
theorem Ep{x:Str}{np pos:Pos}{args:HO Ā}{F:Zr}{eb:nO}{gB:q7}(aX:c.Ok)(d_:c.cB x=true)(af:c.gL x=some F)(bg:(x==("__debug__":Str))=false)(aK:jc args=true)(aD:keepIn c.K F=true)(gl:kZ c A args eb)(aU:args=[]->∀r J K,eb r J K->K [] J)(aq:nI c A F gB):Good c A (.Call (.Name x np) args [] pos) λr J K=>eb r J λvs J=>gB vs J K:=by intro O s ac C r J k K Q I hi e h;refine wpAny_Call_NameR<|JX aX I hi d_ af bg<|D2 aX aK aD gl aU I hi e λvs da e Vs bM bs a0 bo jW=>?_;rw[List.nil_append];exact wpAny_call<|aq bs bM da vs Vs K _ a0 jW e λv bG e V co b9 cb bL cp=>h v bG e V co b9 cb (bo.trans bL) cp
theorem SY{P:Params}{C:aY}{an:ā->Str}{name:Str}(am:∀a,an a≠name){l:HO (ā×B)}{es:HO DictEntry}(h:i1 P C an l es):es.find? (·.key.isStr name)=none/\es.any (·.refKey)=false:=by
 refine⟨?_,ID h⟩;induction h with
 |nil=>rfl
 |@cons b _ cM _ _ _ _ _ ap=>rw[List.find?_cons,show(Value.str (an b) cM).isStr name=false from lK.mpr<|am b];exact ap
theorem method_call{o:Ā}{name:Str}{hS pos:Pos}{args:HO Ā}{ac:Env}{O:Zr->Mt->Prop}{s:Mt}{Q:Zr->Mt->Prop}(aw:lf o=false)(aK:jc args=true)(dS:args.length<30)(lN:(hS.endLine==pos.line)=true)(h:∀sn,wpAny c.M A (eval o ac) (λhu bs=>wpAny c.M A (getMethod hu name sn) (λBE b9=>wpAny c.M A (callWith pos BE.1 BE.2 (backTo pos<|starEach args ac) []) Q O b9) O bs) O s):wpAny c.M A (eval (.Call (.Attribute o name hS) args [] pos) ac) Q O s:=by
 rw[arm_eval_Call,ww aw];have zz:methodCallForm (args.length+([]:HO Keyword).length) (backTo pos<|starEach args ac) (backToKw pos<|keywordEach [] ac)=true:=by
  unfold methodCallForm;have G:(backTo pos<|starEach args ac).all (λx=> !x.1)=true:=by have:=De (pos:=pos) (ac:=ac) aK;rw[List.any_eq_false]at this;rw[d'];intro x aA;simpa using this x aA
  rw[G];simp only[List.length_nil,Nat.add_zero,Bool.true_and];show(true&&decide (args.length+0<30))=true;simpa using dS
 have VD:methodCallPos true o ac hS pos=pure pos:=by unfold methodCallPos;simp[lN]
 refine bd<|lz (h<|do return(<-importBound o ac).getD true) (λhu bs lX=>bd<|p7 ?_) λ_ _ e=>e;unfold methodCall;rw[zz];exact bd<|gQ<|lz lX (λBE b9 vX=>bd<|wpAny_of_eq VD vX) λ_ _ e=>e
theorem Wf{dB:Ā}{name:Str}{hS pos:Pos}{args:HO Ā}{e3:dk}{eb:nO}{cR:ā->Z5 ā}{gB:ā->q7}(aX:c.Ok)(aw:lf dB=false)(dS:args.length<30)(lN:(hS.endLine==pos.line)=true)(aK:jc args=true)(am:∀a,c.N.an a≠name)(go:Good c A dB e3)(gl:kZ c A args eb)(aU:args=[]->∀r J K,eb r J K->K [] J)(aq:∀be f,cR be=some f->∃F,keepIn c.K (.ref F)=true/\findIn c.K (.ref<|c.N.cl be) "__getattribute__"=some (some<|.builtin "object.__getattribute__")/\findIn c.K (.ref<|c.N.cl be) "__getattr__"=some none/\findIn c.K (.ref<|c.N.cl be) name=some (some<|.ref F)/\typeIn c.K (.ref F)=some (.type "function")/\nI c A (.ref F) (gB f)):Good c A (.Call (.Attribute dB name hS) args [] pos) λr J K=>e3 r J λx J=>ay ((BR J x).bind cR) λf=>eb r J λvs J=>gB f (x::vs) J K:=by
 intro O s ac C r J k K Q I hi e h;refine method_call aw aK dS lN λsn=>go.use I hi e λx da e X bM bs a0 bU bo c7=>ay.dw e λf c9 e=>?_;obtain⟨be,c0,m7⟩:=bind_some c9;clear c9;obtain⟨F,fK,gz,j_,Ch,Bd,B4⟩:=aq be f m7;replace c0:=o3.of c0;obtain⟨n,iQ,l,rfl,Zc,c0⟩:=c0;cases c0;obtain⟨a,d,es,bZ,rfl,G,E,aC,ba,cN,d5,fp⟩:=Dg a0 c7 Zc;obtain⟨ea,eV⟩:=SY am cN;refine method_fn (λb o e=>a0.mm _ _ (aX.ab b o e):c.K.In bs.heap) (od:=some<|el es.toArray bZ) ⟨aC,rfl,rfl,ba⟩ gz j_ Ch Bd ?_ ?_
 .show(lookIn name<|el es.toArray bZ).map _=_;rw[Ox ea eV];rfl
 .refine D2 aX aK fK gl aU a0 bU e λvs d3 e Vs co b9 cb bL jW=>?_;show wpAny c.M A (call (.ref F)<|.ref a::Vs) Q O b9;exact wpAny_call<|B4 b9 co d3 (.ref n::vs) (.ref a::Vs) K _ cb (.cons (bL.hh a0 c7) jW) e λv bG e V kr f6 fM fu cp=>h v bG e V kr f6 fM ((bo.trans bL).trans fu) cp
section
variable{P:Params}{N:g2}{H:Heap}{os:OsState}{C:aY}{J:St}{s:Mt}
theorem Inv.NQ(I:Inv P N H os C J s){be:ā}(jX:be<7):Inv P N H os (cC (cC C s.heap.objs.size<|.cD J.length) (s.heap.objs.size+1)<|.st J.length) (J++[.ins be []]) {s with heap:=(s.heap.push<|el #[] 0).push (k6 (N.cl be) s.heap.objs.size)}/\br C s (cC (cC C s.heap.objs.size<|.cD J.length) (s.heap.objs.size+1)<|.st J.length) {s with heap:=(s.heap.push<|el #[] 0).push (k6 (N.cl be) s.heap.objs.size)}:=by
 obtain⟨d,bg⟩:∃d,d=s.heap.objs.size:=⟨_,rfl⟩;rw[<-bg];have e_:∀{a:Addr},d<=a->C a=.none:=λh=>I.fresh (by rw[<-bg];exact h);have keep:∀b o,s.heap.get? b=some o->((s.heap.push<|el #[] 0).push<|k6 (N.cl be) d).get? b=some o:=λb o e=>ie _<|ie _ e;have aA:((s.heap.push<|el #[] 0).push<|k6 (N.cl be) d).get? (d+1)=some (k6 (N.cl be) d):=by rw[show d+1=(s.heap.push<|el #[] 0).objs.size by rw[qT,bg]];exact gU _ rfl
 have tD:((s.heap.push<|el #[] 0).push<|k6 (N.cl be) d).get? d=some (el #[] 0):=ie _ (by rw[bg];exact gU _ rfl);have oW:∀{b:Addr} {r:et},C b=r->r≠.none->cC (cC C d<|.cD J.length) (d+1) (.st J.length) b=r:=λ{b r} e h=>by
  have G:b≠d+1:=by rintro rfl;exact h<|e.symm.trans<|e_<|j1 _
  have E:b≠d:=by rintro rfl;exact h<|e.symm.trans<|e_<|dy _
  rw[bW G,bW E];exact e
 have ea:∀b o,C b=.a5 o->cC (cC C d<|.cD J.length) (d+1) (.st J.length) b=.a5 o:=λb o e=>oW e<|λz=>(nomatch z);have eV:∀b o,C b=.st o->cC (cC C d<|.cD J.length) (d+1) (.st J.length) b=.st o:=λb o e=>oW e<|λz=>(nomatch z);have qJ:∀b o,C b=.cD o->cC (cC C d<|.cD J.length) (d+1) (.st J.length) b=.cD o:=λb o e=>oW e<|λz=>(nomatch z);have kM:∀{b:Addr} {r:et},cC (cC C d<|.cD J.length) (d+1) (.st J.length) b=r->(b=d+1/\r=.st J.length)\/(b=d/\r=.cD J.length)\/C b=r:=λ{b r} e=>by
  by_cases G:b=d+1
  .rw[G,c2]at e;exact .inl ⟨G,e.symm⟩
  .rw[bW G]at e;by_cases E:b=d
   .rw[E,c2]at e;exact .inr<|.inl ⟨E,e.symm⟩
   .rw[bW E]at e;exact .inr<|.inr e
 have pd:cC (cC C d<|.cD J.length) (d+1) (.st J.length) d=.cD J.length:=by rw[bW (gK (pU _):d≠d+1)];exact c2 _ _ _
 refine⟨⟨λb h=>?_,λa b e h=>?_,λb o e=>?_,λn ct e=>?_,λb o e=>ea _ _<|I.base b o e,I.gens,I.hQ,λb n e=>?_⟩,λa o e k=>⟨keep a o e,oW rfl<|λz=>by rw[z]at k;exact k⟩,eV,qJ⟩
 .rcases kM (r:=cC (cC C d<|.cD J.length) (d+1) (.st J.length) b) rfl with⟨rfl,-⟩|⟨G,-⟩|G
  .rw[show({s with heap:=(s.heap.push<|el #[] 0).push (k6 (N.cl be) d)}:Mt).heap.get? (d+1)=_ from aA];rfl
  .rw[G,show({s with heap:=(s.heap.push<|el #[] 0).push (k6 (N.cl be) d)}:Mt).heap.get? d=_ from tD];rfl
  .obtain⟨o,az⟩:=gZ.mp (I.alloc b<|by rw[G];exact h);rw[show({s with heap:=(s.heap.push<|el #[] 0).push (k6 (N.cl be) d)}:Mt).heap.get? b=_ from keep b o az];rfl
 .have ak:=kM (r:=cC (cC C d<|.cD J.length) (d+1) (.st J.length) a) rfl;have aw:=kM (r:=cC (cC C d<|.cD J.length) (d+1) (.st J.length) b) rfl;rw[<-e]at aw;have G8:∀b,C b≠.st J.length:=λb z=>mL _<|I.gA b _<|.inl z;have GC:∀b,C b≠.cD J.length:=λb z=>mL _<|I.gA b _<|.inr z;rcases ak with⟨ak,rI⟩|⟨ak,rI⟩|pw
  .rw[rI]at aw;rcases aw with⟨aw,-⟩|⟨-,jm⟩|gB
   .rw[ak,aw]
   .exact bQ jm rfl
   .exact absurd gB<|G8 b
  .rw[rI]at aw;rcases aw with⟨-,jm⟩|⟨aw,-⟩|gB
   .exact bQ jm rfl
   .rw[ak,aw]
   .exact absurd gB<|GC b
  .rcases aw with⟨-,jm⟩|⟨-,jm⟩|gB
   .exact absurd (pw.trans jm)<|G8 a
   .exact absurd (pw.trans jm)<|GC a
   .exact I.uniq a b (pw.trans gB.symm) (by rw[pw];exact h)
 .rcases kM e with⟨-,r⟩|⟨-,r⟩|c
  .exact bQ r rfl
  .exact bQ r rfl
  .exact keep b o<|I.a5 b o c
 .by_cases q:n<J.length
  .rw[o7 q]at e;exact(I.store n ct e).mono ea eV qJ λa o _ e=>keep a o e
  .have am:n=J.length:=by have:=(g9.mp e).1;rw[c',pv]at this;lia
   subst am;rw[oZ<|dy _,Nat.sub_self]at e;cases e;exact .ins (es:=[]) (c2 _ _ _:cC (cC C d<|.cD J.length) (d+1) (.st J.length) (d+1)=.st J.length) pd aA tD .nil q5 jX
 .rw[c',pv];rcases e with e|e<;>rcases kM e with⟨-,r⟩|⟨-,r⟩|c
  .cases r;exact pU _
  .exact bQ r rfl
  .exact mN<|I.gA b n<|.inl c
  .exact bQ r rfl
  .cases r;exact pU _
  .exact mN<|I.gA b n<|.inr c
end
def Gq(be:ā)(gB:q7):q7:=λvs J K=>gB (.ref J.length::vs) (J++[.ins be []])<|H5 (.ref J.length) K
theorem Rm{be:ā}{A1:Addr}{gB:q7}(aX:c.Ok)(jX:be<7)(aN:makesIn c.K (c.N.cl be)=true)(aB:findIn c.K (.ref<|c.N.cl be) "__init__"=some (some<|.ref A1))(a7:typeIn c.K (.ref A1)=some (.type "function"))(B4:∀args,nI c (A.under<|.builtin "type.__call__" args) (.ref A1) gB):nI c A (.ref<|c.N.cl be) (Gq be gB):=by intro s C J vs Vs K R I af e h;have rn:c.K.In s.heap:=λb o e=>I.mm _ _<|aX.ab b o e;obtain⟨a0,bo⟩:=I.NQ jX;clear jX;obtain⟨cd,g,d,t,os⟩:=s;refine make_core (makes_of rn aN) (looks_findIn rn aB) (λself=>bind_fn rn self a7) (.inl rfl)<|B4 _ _ _ _ (.ref J.length::vs) (.ref (cd.objs.size+1)::Vs) _ _ a0 (.cons (.ref<|c2 _ _ _)<|bo.iG I af) e λw da e V co b9 cb bL cp=>?_;obtain⟨rfl,e⟩:=e;obtain rfl:=cp.of;exact⟨rfl,h _ _ e _ co b9 cb (bo.trans bL)<|.ref<|bL.st _ _<|c2 _ _ _⟩
theorem E1{C:aY}{J:St}{s:Mt}(I:c.I C J s){aR:Heap}{cM:ā}(aD:∀b o,s.heap.get? b=some o->aR.get? b=some o){a:Addr}(ak:s.heap.get? a=none){o:Obj}(az:aR.get? a=some o):c.I (cC C a<|.a5 o) J {s with heap:=aR,toks:=cM}/\br C s (cC C a<|.a5 o) {s with heap:=aR,toks:=cM}:=by
 have am:C a=.none:=by
  induction q:C a with
  |none=>rfl
  |_=>obtain⟨cw,g_⟩:=gZ.mp (I.alloc a<|by rw[q];intro z;exact bQ z rfl);rw[ak]at g_;exact bY g_
 have a0:=I.grow aD cM;have ne:∀{b r},C b=r->r≠.none->b≠a:=λe h q=>h<|e.symm.trans<|q▸am;have ea:∀b cw,C b=.a5 cw->cC C a (.a5 o) b=.a5 cw:=λb cw e=>(bW<|ne e<|λz=>(nomatch z)).trans e;have eV:∀b n,C b=.st n->cC C a (.a5 o) b=.st n:=λb cw e=>(bW<|ne e<|λz=>(nomatch z)).trans e;have qJ:∀b n,C b=.cD n->cC C a (.a5 o) b=.cD n:=λb cw e=>(bW<|ne e<|λz=>(nomatch z)).trans e;refine⟨⟨λb h=>?_,λb eD e h=>?_,λb cw e=>?_,λn ct e=>(a0.store n ct e).mono ea eV qJ λ_ _ _ e=>e,λb cw e=>ea _ _<|I.base b cw e,I.gens,I.hQ,λb n e=>?_⟩,λb cw e k=>⟨aD b cw e,bW<|by rintro rfl;rw[am]at k;exact k⟩,eV,qJ⟩
 .by_cases q:b=a
  .subst q;rw[show({s with heap:=aR,toks:=cM}:Mt).heap.get? b=some o from az];rfl
  .rw[bW q]at h;exact a0.alloc b h
 .by_cases f_:b=a
  .subst f_;rw[c2]at h;exact h.elim
  .rw[bW f_]at e h;by_cases e7:eD=a
   .subst e7;rw[c2]at e;rw[e]at h;exact h.elim
   .rw[bW e7]at e;exact I.uniq b eD e h
 .by_cases q:b=a
  .subst q;rw[c2]at e;cases e;exact az
  .rw[bW q]at e;exact a0.a5 b cw e
 .by_cases q:b=a
  .subst q;rw[c2]at e;rcases e with e|e<;>exact bQ e rfl
  .rw[bW q]at e;exact I.gA b n e
theorem R5{l:HO Ă}{c6:HO B}(h:iZ (l.map .int)=some c6):∃di:HO Ă,c6=di.map .int/\di.Perm l/\di.Pairwise (· <=·):=by obtain⟨cQ,e,G,E⟩:=vu (f:=B.int) (b:=λx y=>decide<|x<y) (ne:=λ_ _=>True) (R:=(· <=·)) (λ_ _ _=>rfl) (λ_ _ h=>Int.le_of_lt<|fj h) (λ_ _ _ h=>Int.not_lt.mp<|ra h) (λ_ _ _ a b=>Int.le_trans (Int.le_of_lt<|fj a) b)<|List.pairwise_of_forall λ_ _=>trivial;exact⟨cQ,cT<|h.symm.trans e,E,G⟩
theorem DJ{a b:bx}(G:¬b<a)(E:¬a<b):a=b:=List.le_antisymm (List.not_lt.mp G)<|List.not_lt.mp E
theorem TO{l:HO bx}{c6:HO B}(h:iZ (l.map .str)=some c6):∃di:HO bx,c6=di.map .str/\di.Perm l/\di.Pairwise (λa b=>¬b<a):=by obtain⟨cQ,e,G,E⟩:=vu (f:=B.str) (b:=λx y=>decide<|x<y) (ne:=λ_ _=>True) (R:=λa b=>¬b<a) (λ_ _ _=>rfl) (λ_ _ h q=>List.lt_irrefl _<|List.lt_trans (fj h) q) (λ_ _ _ h=>ra h) (λ_ _ _ a b q=>b<|List.lt_trans q<|fj a)<|List.pairwise_of_forall λ_ _=>trivial;exact⟨cQ,cT<|h.symm.trans e,E,G⟩
theorem intsAre_of{P:ā->Zr->Prop}:∀{vs:HO Zr} {ns:HO Ă},vs.length=ns.length->(∀(j:ā) v,vs[j]?=some v->dW λn t=>ns[j]?=some n/\v=.int n t)->IntsAre vs ns
 |[],[],_,_=>.nil
 |[],_::_,h,_=>by cases h
 |_::_,[],h,_=>by cases h
 |v::vs,n::ns,h,k=>by obtain⟨m,t,G,E⟩:=k 0 v rfl;simp at G;subst G E;exact .cons _ t (intsAre_of (P:=P) (by simpa using h) λj v b_=>by simpa using k (j+1) v (by simpa using b_))
theorem JF:∀{vs:HO Zr} {ns:HO Str},vs.length=ns.length->(∀(j:ā) v,vs[j]?=some v->dW λn t=>ns[j]?=some n/\v=.str n t)->StrsAre vs ns
 |[],[],_,_=>.nil
 |[],_::_,h,_=>by cases h
 |_::_,[],h,_=>by cases h
 |v::vs,n::ns,h,k=>by obtain⟨m,t,G,E⟩:=k 0 v rfl;simp at G;subst G E;exact .cons _ t (JF (by simpa using h) λj v b_=>by simpa using k (j+1) v (by simpa using b_))
theorem Tn{P:Params}{C:aY}{vs:HO Zr}{ns:HO Ă}(h:IntsAre vs ns):bD P C (ns.map .int) vs:=by
 induction h with
 |nil=>exact .nil
 |cons n t _ ap=>exact .cons (.int n t) ap
theorem Wh{P:Params}{C:aY}{vs:HO Zr}{ns:HO Str}(h:StrsAre vs ns):(∀x∈ns,x.cps.toList.length<=a3)->bD P C (ns.map λx=>.str x.cps.toList) vs:=by
 induction h with
 |nil=>exact λ_=>.nil
 |cons y t _ ap=>exact λh=>.cons (bA.str y.cps.toList t<|h y<|.head _)<|ap λx aA=>h x<|.tail _ aA
theorem Jr:∀{l:HO Str},sortedS l=true->l.Pairwise (λa b=>¬b.cps.toList<a.cps.toList)
 |[],_=>.nil
 |[x],_=>by simp
 |x::y::r,h=>by
  have aR:(!ltCps y.cps.toList x.cps.toList&&risingS y r)=true:=h;rw[eX,kn,ltCps_eq,mD]at aR;have ap:=Jr (l:=y::r) aR.2;rw[sa];refine⟨λz hz=>?_,ap⟩;rcases ew.mp hz with rfl|hz
  .exact aR.1
  .have:=(sa.mp ap).1 z hz;exact List.not_lt.mpr<|List.le_trans (List.not_lt.mp aR.1)<|List.not_lt.mp this
theorem XQ(aX:c.Ok)(eY:A.handled=none){O:Zr->Mt->Prop}{s:Mt}{C:aY}{J:St}{l:HO (B×B)}{V:Zr}{z:B}{Q:Zr->Mt->Prop}(I:c.I C J s)(af:bA c.P C (.bb l) V)(e:k2 .sorted [.bb l]=some z)(h:∀Z aO ar,c.I aO J ar->br C s aO ar->bA c.P aO z Z->Q Z ar):wpAny c.M A (call (.builtin "sorted") [V]) Q O s:=by
 replace e:((items<|.bb l).bind λl=>if l.length<64 then iZ l else none).map B.lst=some z:=e;obtain⟨c6,ag,a8⟩:=map_some e;clear e;subst a8;obtain⟨ks,c0,c9⟩:=bind_some ag;clear ag;split at c9
 .rename_i yw;obtain⟨d,es,n,rfl,D,lo⟩:=ti I aX.sys<|.val af;have g4:l.length<=16777216:=D.a3;obtain⟨aD,c0⟩:=hc<|show(if((l.all λe=>eH e.1==1)||(l.all λe=>eH e.1==2))=true then some (l.map (·.1))else none)=some ks from c0;cases c0;have fin:∀{aR:Heap} {cM:ā} {ej:Array Zr} {out:Array Zr},(∀b o,s.heap.get? b=some o->aR.get? b=some o)->(∀aO,bD c.P aO c6 out.toList)->c6.length<=a3->Q (.ref aR.objs.size) {s with heap:=sortedHeap (aR.push<|seqObj "list" ej.toList.toArray 0) aR.objs.size ej.toList out,toks:=cM}:=λ{aR cM ej out} i8 hz aq=>by
   obtain⟨qR,tH⟩:=sortedHeap_at (out:=out) (vs:=ej.toList) (n:=0)<|gU aR (o:=seqObj "list" ej.toList.toArray 0) rfl;have old:∀b o,s.heap.get? b=some o->(sortedHeap (aR.push<|seqObj "list" ej.toList.toArray 0) aR.objs.size ej.toList out).get? b=some o:=λb o ei=>by have G:=i8 b o ei;have cW:=kk G;rw[sortedHeap_old (gK cW)<|by rw[qT];exact mN cW];exact ie _ G
   have tf:s.heap.get? aR.objs.size=none:=by
    induction q:s.heap.get? aR.objs.size with
    |none=>rfl
    |some o=>exact absurd (kk<|i8 _ _ q)<|mL _
   obtain⟨dm,eE⟩:=E1 (cM:=cM) I old tf tH;exact h _ _ _ dm eE<|.lst (Vs:=out.toList) (n:=qR) (by rw[c2]) (hz _) aq
  refine Calls.call_function_entry kind_sorted plain_sorted entry_sorted (args_sorted1 _) ?_;unfold Builtin.«sorted»;refine bd (m:=checkCount "sorted" 1 1 _)<|b3 ?_;rw[lW]at aD;rcases aD with aD|aD
  .obtain⟨eW,G,E,aC⟩:=F8 D.rel λe a6=>by simpa using d'.mp aD e a6
   have am:(eW.map (·.1)).Nodup:=wS (f:=B.int) (by rw[f2];exact aC▸D.nodup);have b4:s.heap.DictAt (PySem.intKind c.prog c.w) d eW n:=⟨_,_,D.at_,⟨rfl,rfl,rfl⟩,rfl,E,by simpa using G,am⟩;have dS:eW.length=l.length:=by have:=bI List.length aC;simpa using this.symm
   have wC:l.map (·.1)=(eW.map (·.1)).map B.int:=by rw[aC,f2];rfl
   rw[wC]at c9;obtain⟨zU,rfl,ae,aK⟩:=R5 c9;clear c9;refine bd<|kdu_collect (A:=A.in1) (kdl_dict (knd:=PySem.intKind c.prog c.w) lo) eY b4 (by rw[kF];lia) λaR cM ej i8 vW=>?_;have kW:ej.toList.length=eW.length:=by rw[Array.length_toList];exact vW.1
   refine bd (wpAny_newList ?_<|by rw[kW,dS,kF];exact g4);have fX:IntsAre ej.toList (eW.map (·.1)):=intsAre_of (P:=λ_ _=>True) (by rw[kW,bT]) λj v b_=>by obtain⟨k,x,aA,i8⟩:=vW.2 j v (by rw[<-Array.getElem?_toList];exact b_);obtain⟨t,rfl⟩:=Value.isInt_shape i8;clear i8;exact⟨k,t,by rw[gN,aA];rfl,rfl⟩
   refine bd<|gQ<|nj slot_list_sort ⟨_,gU aR (o:=seqObj "list" ej.toList.toArray 0) rfl,rfl⟩ entry_list_sort (list_sort_tree (gU aR (o:=seqObj "list" ej.toList.toArray 0) rfl) fX (by rw[kW,dS];simpa using yw) λout Vr b0 bt dN=>⟨_,rfl,?_⟩)<|args_list_sort _;refine b3 ⟨_,rfl,?_⟩;have zW:Vr=zU:=(bt.trans ae.symm).eq_of_pairwise (λa b _ _ G E=>Int.le_antisymm G E) dN aK;subst zW;exact fin i8 (λaO=>Tn b0) (by rw[bT,ae.length_eq,bT,dS];exact D.a3)
  .obtain⟨eW,G,E,aC,ba⟩:=GX D.rel λe a6=>by simpa using d'.mp aD e a6
   have b4:s.heap.DictAt (PySem.strKind c.prog c.w) d eW n:=⟨_,_,D.at_,⟨rfl,rfl,rfl⟩,rfl,E,by simpa using G,wS (f:=λx:Str=>B.str x.cps.toList)<|by rw[f2];exact aC▸D.nodup⟩;have dS:eW.length=l.length:=by have:=bI List.length aC;simpa using this.symm
   have wC:l.map (·.1)=(eW.map<|λp=>p.1.cps.toList).map B.str:=by rw[aC,f2];rfl
   rw[wC]at c9;obtain⟨zU,rfl,ae,aK⟩:=TO c9;clear c9;refine bd<|kdu_collect (A:=A.in1) (kdl_dict (knd:=PySem.strKind c.prog c.w) lo) eY b4 (by rw[kF];lia) λaR cM ej i8 vW=>?_;have kW:ej.toList.length=eW.length:=by rw[Array.length_toList];exact vW.1
   refine bd (wpAny_newList ?_<|by rw[kW,dS,kF];exact g4);have e5:StrsAre ej.toList (eW.map (·.1)):=JF (by rw[kW,bT]) λj v b_=>by obtain⟨k,x,aA,i8⟩:=vW.2 j v (by rw[<-Array.getElem?_toList];exact b_);obtain⟨t,rfl⟩:=Value.isStrOf_shape i8;clear i8;exact⟨k,t,by rw[gN,aA];rfl,rfl⟩
   refine bd<|gQ<|nj slot_list_sort ⟨_,gU aR (o:=seqObj "list" ej.toList.toArray 0) rfl,rfl⟩ entry_list_sort (list_sort_treeK strKind_oneLt (gU aR (o:=seqObj "list" ej.toList.toArray 0) rfl) e5.keysOf (λZP ZS a_ e=>keyKind_strs<|by rw[<-e];exact e5) (by rw[kW,dS];simpa using yw) λwl dn eg=>⟨_,rfl,?_⟩)<|args_list_sort _;refine b3 ⟨_,rfl,?_⟩;obtain⟨PN,b0,bt,dN⟩:=sorted_out_str e5 dn eg;have zW:PN.map (λx=>x.cps.toList)=zU:=by
    refine List.Perm.eq_of_pairwise (le:=λa b=>¬b<a) (λa b _ _ G E=>DJ G E) ?_ aK ?_
    .rw[List.pairwise_map];exact Jr dN
    .refine(bt.map _).trans ?_;rw[f2];exact ae.symm
   subst zW;refine fin i8 (λaO=>?_) (by rw[bT,bT,bt.length_eq,bT,dS];exact D.a3);have:=Wh (P:=c.P) (C:=aO) b0 λx aA=>by obtain⟨p,hO,rfl⟩:=dr.mp<|bt.mem_iff.mp aA;exact ba p hO
   rwa[f2]
 .exact bY c9
def nL {av:Type} (n:ā) (lt:ā->ā->ZI):KasT av->Z5 av
 |.ret a=>some a
 |.ask i j k=>if i≠j/\i<n/\j<n then nL n lt (k<|lt i j)else none
def l_ (lt:ā->ā->ZI) (x:ā):HO ā->HO ā
 |[]=>[x]
 |y::r=>if lt x y then x::y::r else y::l_ lt x r
def kE (lt:ā->ā->ZI):HO ā->HO ā
 |[]=>[]
 |x::r=>l_ lt x<|kE lt r
def qV (b:HO ZI) (i j:ā):ZI:=if i<j then b.getD (i*(7-i)/2+(j-i-1)) false else if j<i then !(b.getD (j*(7-j)/2+(i-j-1)) false)else false
def CC (n:ā) (lt:ā->ā->ZI):ZI:=(List.range n).all λi=>(List.range n).all λj=>(List.range n).all λk=> !(lt i j&&lt j k)||lt i k
def IU (n:ā) (lt:ā->ā->ZI):ZI:= !CC n lt||nL n lt (kas_sort n)==some (kE lt<|List.range n).toArray
theorem NM:∀n:Fin 5,2<=n.val->∀a b c d e f:ZI,IU n.val (qV [a,b,c,d,e,f])=true:=by decide+kernel
theorem U2{av:Type}{n:ā}{lt lt':ā->ā->ZI}(h:∀i j,i<n->j<n->i≠j->lt i j=lt' i j)(t:KasT av):nL n lt t=nL n lt' t:=by
 induction t with
 |ret a=>rfl
 |ask i j k ap=>
  show(if i≠j/\i<n/\j<n then nL n lt (k<|lt i j)else none)=if i≠j/\i<n/\j<n then nL n lt' (k<|lt' i j)else none;by_cases q:i≠j/\i<n/\j<n
  .rw[bl q,bl q,h i j q.2.1 q.2.2 q.1];exact ap _
  .rw[bm q,bm q]
theorem RX{lt:ā->ā->ZI}{x:ā}{l:HO ā}:(l_ lt x l).Perm (x::l):=by
 induction l with
 |nil=>exact .refl _
 |cons y r ap=>
  show(if lt x y=true then x::y::r else y::l_ lt x r).Perm _;induction lt x y with
  |true=>exact .refl _
  |false=>exact(ap.cons y).trans<|.swap x y r
theorem JT{lt:ā->ā->ZI}{l:HO ā}:(kE lt l).Perm l:=by
 induction l with
 |nil=>exact .refl _
 |cons x r ap=>exact RX.trans<|ap.cons x
theorem AI{lt:ā->ā->ZI}{z:ā}{l:HO ā}:z∈kE lt l↔z∈l:=JT.mem_iff
theorem S7{lt lt':ā->ā->ZI}{x:ā}{l:HO ā}:(∀y∈l,lt x y=lt' x y)->l_ lt x l=l_ lt' x l:=by
 induction l with
 |nil=>exact λ_=>rfl
 |cons y r ap=>intro h;show(if lt x y=true then x::y::r else y::l_ lt x r)=if lt' x y=true then x::y::r else y::l_ lt' x r;rw[h y<|.head _,ap λz hz=>h z<|.tail _ hz]
theorem TU{lt lt':ā->ā->ZI}{l:HO ā}(am:l.Pairwise λx y=>lt x y=lt' x y):kE lt l=kE lt' l:=by
 induction am with
 |nil=>rfl
 |@cons x r h _ ap=>show l_ lt x (kE lt r)=l_ lt' x (kE lt' r);rw[ap];exact S7 λy a1=>h y<|AI.mp a1
theorem L7{v:ā}(h:v<2):v=0\/v=1:=(by decide:∀v,v<2->v=0\/v=1) v h
theorem Ny{lt:ā->ā->ZI}{n:ā}(h:n<2):kE lt (List.range n)=List.range n:=by rcases L7 h with rfl|rfl<;>rfl
theorem SE{f:ā->B}{lt:ā->ā->ZI}{x:ā}{l:HO ā}:(∀y∈l,qe (f x) (f y)=some (lt x y))->qw (f x) (l.map f)=some ((l_ lt x l).map f):=by
 induction l with
 |nil=>exact λ_=>rfl
 |cons y r ap=>intro h;show(match qe (f x) (f y)with|some true=>some (f x::f y::r.map f)|some false=>(qw (f x)<|r.map f).map (f y::·)|none=>none)=some ((if lt x y=true then x::y::r else y::l_ lt x r).map f);rw[h y<|.head _,ap λz hz=>h z<|.tail _ hz];induction lt x y<;>rfl
theorem VZ{f:ā->B}{lt:ā->ā->ZI}{l:HO ā}(am:l.Pairwise λx y=>qe (f x) (f y)=some (lt x y)):iZ (l.map f)=some ((kE lt l).map f):=by
 induction am with
 |nil=>rfl
 |@cons x r h _ ap=>show(iZ<|r.map f).bind (qw<|f x)=_;rw[ap];exact SE λy a1=>h y<|AI.mp a1
theorem SQ{n:ā}(E:2<=n)(ba:n<=4){lt:ā->ā->ZI}(TF:∀i j,i<n->j<n->i≠j->lt j i= !lt i j)(Vx:∀i j k,i<n->j<n->k<n->lt i j=true->lt j k=true->lt i k=true)(Y8:∀i,i<n->lt i i=false):nL n lt (kas_sort n)=some (kE lt<|List.range n).toArray:=by
 have up:∀i j,i<j->j<n->lt i j=qV [lt 0 1,lt 0 2,lt 0 3,lt 1 2,lt 1 3,lt 2 3] i j:=λi j li b_=>by rcases(by decide:∀j<4,∀i<j,(i=0/\j=1)\/(i=0/\j=2)\/(i=0/\j=3)\/(i=1/\j=2)\/(i=1/\j=3)\/(i=2/\j=3)) j (gG b_ ba) i li with e|e|e|e|e|e<;>rw[e.1,e.2]<;>rfl
 have key:∀i j,i<n->j<n->lt i j=qV [lt 0 1,lt 0 2,lt 0 3,lt 1 2,lt 1 3,lt 2 3] i j:=λi j aB b_=>by
  rcases Nat.lt_trichotomy i j with h|h|h
  .exact up i j h b_
  .rw[h,Y8 j b_,qV,bm<|mL _,bm<|mL _]
  .rw[TF j i b_ aB<|gK h,up j i h aB,qV,bl h,qV,bm<|Nat.lt_asymm h,bl h]
 have a7:=NM ⟨n,Nat.lt_succ_of_le ba⟩ E (lt 0 1) (lt 0 2) (lt 0 3) (lt 1 2) (lt 1 3)<|lt 2 3;simp only[IU,lW,kn,fL]at a7;rw[U2<|λi j aB b_ _=>key i j aB b_,TU<|List.nodup_range.imp_of_mem λaB b_ _=>key _ _ (lE.mp aB)<|lE.mp b_];rcases a7 with a7|a7
 .exfalso;have:CC n (qV [lt 0 1,lt 0 2,lt 0 3,lt 1 2,lt 1 3,lt 2 3])=true:=by
   unfold CC;rw[d'];intro i aB;rw[d'];intro j b_;rw[d'];intro k aD;rw[lE]at aB b_ aD;rw[<-key i j aB b_,<-key j k b_ aD,<-key i k aB aD];cases G:lt i j with
   |false=>rfl
   |true=>
    cases E:lt j k with
    |false=>rfl
    |true=>exact Vx i j k aB b_ aD G E
  rw[this]at a7;exact h7 a7
 .exact a7
section
variable{prog:Program}{w:World}{A:Around}{O:Zr->Mt->Prop}{s:Mt}
theorem Yu{a:Addr}{vs:HO Zr}{n:ā}{P:PySem.Fin->Mt->Prop}(az:s.heap.get? a=some (seqObj "list" vs.toArray n))(E:vs.length<2)(h:P (.done<|.ret .none) {s with heap:=sortedHeap s.heap a vs vs.toArray}):wpAny (model prog w) A (Builtin.«list.sort» ⟨[.ref a],[]⟩) P O s:=by
 rw[list_sort_plain];have ak:a<s.heap.objs.size:=kk az;refine bd<|listItems_at az rfl ?_;refine bd<|listUpdate_at az rfl ?_ (by rw[eG,kF];exact oU ‹_›)<|f8 _;obtain⟨ag,vc⟩:∃ag,(s.heap.update a (Obj.mapSeq λ_=>#[])).get? a=some (seqObj "list" #[] ag):=⟨_,get?_update_seq az<|λ_=>#[]⟩;refine bd<|seqEpoch_at vc rfl ?_;refine bd (wpAny_newTuple ?_<|by show vs.length<=_;rw[kF];exact oU ‹_›);refine bd<|wpAny_newList (gQ ?_)<|f8 _;have zf:(((s.heap.update a<|Obj.mapSeq λ_=>#[]).push<|seqObj "tuple" vs.toArray 0).push<|seqObj "list" #[] 0).get? a=some (seqObj "list" #[] ag):=by rw[tV _ _ _ (by rw[size_push',uC];exact gK<|mN ak),tV _ _ _<|by rw[uC];exact gK ak];exact vc
 show wpAny (model prog w) A _ P O {s with heap:=((s.heap.update a<|Obj.mapSeq λ_=>#[]).push<|seqObj "tuple" vs.toArray 0).push (seqObj "list" #[] 0)};dsimp only;have mj:vs.toArray.size<2:=by simpa using E
 rw[if_pos mj,if_pos mj];refine bd<|b3 ?_;rw[StateT.run_pure];refine bd<|b3 ?_;dsimp only;have hz:((vs.toArray.zip vs.toArray).map λp:Zr×Zr=>p.2)=vs.toArray:=by apply Array.toList_inj.mp;rw[Array.toList_map,Array.toList_zip];exact List.map_snd_zip<|dy _
 refine bd<|seqEpoch_at zf rfl ?_;refine bd<|listUpdate_at zf rfl ?_ (hsz2:=by show(((vs.toArray.zip vs.toArray).map λp:Zr×Zr=>p.2)).size<=_;rw[hz,kF];exact oU ‹_›);simp only[bne_self_eq_false,tI,if_false];have:wpAny (model prog w) A (pure (.done<|.ret .none):Sem PySem.Fin) P O {s with heap:=(((s.heap.update a<|Obj.mapSeq λ_=>#[]).push<|seqObj "tuple" vs.toArray 0).push<|seqObj "list" #[] 0).update a (Obj.mapSeq λ_=>(vs.toArray.zip vs.toArray).map λp:Zr×Zr=>p.2)}:=by rw[hz];exact b3 h
 exact this
theorem Ww{av:Type}{n:ā}{lt:ā->ā->ZI}{ask:ā->ā->(ZI->Mt->Prop)->Mt->Prop}{h₀:Heap}(ak:∀i j,i<n->j<n->i≠j->∀ah (s:Mt),s.heap=h₀->ah (lt i j) s->ask i j ah s):∀(t:KasT av) {a:av} {Q:av->Mt->Prop} {s:Mt},s.heap=h₀->nL n lt t=some a->Q a s->t.kasWp ask Q s:=λt=>by
 induction t with
 |ret a=>exact λaK e h=>by rw[cT e];exact h
 |ask i j k ap=>
  intro b Q s aK e h;replace e:(if i≠j/\i<n/\j<n then nL n lt (k<|lt i j)else none)=some b:=e;by_cases q:i≠j/\i<n/\j<n
  .rw[bl q]at e;exact ak i j q.2.1 q.2.2 q.1 _ s aK<|ap (lt i j) aK e h
  .rw[bm q]at e;exact bY e
theorem Td{a:Addr}{vs:HO Zr}{n:ā}{P:PySem.Fin->Mt->Prop}{o6:SortKind}{lt:ā->ā->ZI}{p:HO ā}(az:s.heap.get? a=some (seqObj "list" vs.toArray n))(E:2<=vs.length)(yw:vs.length<64)(aD:∀(v7:Zr->Mt->Prop) (Q:SortKind->Mt->Prop) (ar:Mt),(∀b o,b≠a->s.heap.get? b=some o->ar.heap.get? b=some o)->Q o6 ar->wpAny (model prog w) A (keyKind' vs.toArray) Q v7 ar)(UM:∀i j,i<vs.length->j<vs.length->i≠j->∀ah (ar:Mt),(∀b o,b≠a->s.heap.get? b=some o->ar.heap.get? b=some o)->ah (lt i j) ar->kas_ask prog w A o6 vs i j ah ar)(bn:nL vs.length lt (kas_sort vs.length)=some p.toArray)(h:P (.done<|.ret .none) {s with heap:=sortedHeap s.heap a vs (p.map λi=>vs.getD i Value.none).toArray}):wpAny (model prog w) A (Builtin.«list.sort» ⟨[.ref a],[]⟩) P O s:=by
 rw[list_sort_plain];have ak:a<s.heap.objs.size:=kk az;refine bd<|listItems_at az rfl ?_;refine bd<|listUpdate_at az rfl ?_ (by rw[eG,kF];exact oU ‹_›)<|f8 _;obtain⟨ag,vc⟩:∃ag,(s.heap.update a (Obj.mapSeq λ_=>#[])).get? a=some (seqObj "list" #[] ag):=⟨_,get?_update_seq az<|λ_=>#[]⟩;refine bd<|seqEpoch_at vc rfl ?_;refine bd (wpAny_newTuple ?_<|by show vs.length<=_;rw[kF];exact oU ‹_›);refine bd<|wpAny_newList (gQ ?_)<|f8 _;have zf:(((s.heap.update a<|Obj.mapSeq λ_=>#[]).push<|seqObj "tuple" vs.toArray 0).push<|seqObj "list" #[] 0).get? a=some (seqObj "list" #[] ag):=by rw[tV _ _ _ (by rw[size_push',uC];exact gK<|mN ak),tV _ _ _<|by rw[uC];exact gK ak];exact vc
 have keep:∀b o,b≠a->s.heap.get? b=some o->(((s.heap.update a<|Obj.mapSeq λ_=>#[]).push<|seqObj "tuple" vs.toArray 0).push<|seqObj "list" #[] 0).get? b=some o:=λb o aw ei=>ie _<|ie _<|(Heap.get?_update_other _ _<|ip aw).trans ei;show wpAny (model prog w) A _ P O {s with heap:=((s.heap.update a<|Obj.mapSeq λ_=>#[]).push<|seqObj "tuple" vs.toArray 0).push (seqObj "list" #[] 0)};dsimp only;have k9:¬vs.toArray.size<2:=by rw[List.size_toArray];lia
 rw[bm k9,bm k9];refine bd<|aD _ _ _ keep ?_;obtain⟨k5,nP⟩:∃k5:Mt,k5={s with heap:=((s.heap.update a<|Obj.mapSeq λ_=>#[]).push<|seqObj "tuple" vs.toArray 0).push (seqObj "list" #[] 0)}:=⟨_,rfl⟩;refine bd<|lz (kat_run (ks:=vs) (Q:=λwl ar=>∃q:Array ā,q.size=vs.length/\arrOf wl=q.map (kas_item<|vs.toArray.zip vs.toArray)/\failedOf wl=none/\q=p.toArray/\ar=k5) rfl E yw (λev wl ar e1 fO kD kd=>⟨ev,e1,fO,kD,kd⟩)<|by rw[<-nP];exact(Ww (ask:=kas_ask prog w A o6 vs) (h₀:=k5.heap) (λi j aB b_ li ah ar l9 aq=>UM i j aB b_ li ah ar (λb o aw ei=>by rw[l9,nP];exact keep b o aw ei) aq) (kas_sort vs.length) (Q:=λq Xh=>q=p.toArray/\Xh=k5) (s:=k5) rfl bn ⟨rfl,rfl⟩)) ?_ λ_ _ e=>e;rintro⟨⟨⟩,wl⟩ar⟨q,a',Re,a7,rfl,rfl⟩;dsimp only;have hsz:(List.toArray<|p.map λi=>vs.getD i Value.none).size=vs.length:=by rw[List.size_toArray,List.length_map];simpa using a'
 have GK:ar.heap.get? a=some (seqObj "list" #[] ag):=by rw[nP];exact zf
 rw[kat_snds rfl Re];refine bd<|seqEpoch_at GK rfl ?_;refine bd (listUpdate_at GK rfl ?_ (f8 _)<|aI (fT hsz)<|by rw[kF];exact oU ‹_›);rw[a7];simp only[bne_self_eq_false,tI,if_false];subst nP;exact b3 h
end
theorem Dq{v:B}{k:bx}(e:jy v=some k):∃r,v=.tup (.str k::r):=by
 induction v using B.casesOn with
 |tup l=>induction l with
  |nil=>exact bY e
  |cons x l=>induction x using B.casesOn with
   |str a=>cases e;exact⟨l,rfl⟩
   |_=>exact bY e
 |_=>exact bY e
theorem Mu{C:aY}{v:B}{V:Zr}{k:bx}(h:bA c.P C v V)(e:jy v=some k):gS λt u bC n=>V=.ref t/\C t=.a5 (ed (Value.str ⟨k.toArray⟩ u::bC).toArray n):=by obtain⟨r,rfl⟩:=Dq e;obtain⟨a,Vs,n,rfl,G,E,-⟩:=o9 h;obtain⟨V,bC,rfl,aC,-⟩:=E.k8;obtain⟨u,rfl,-⟩:=aC.of;exact⟨a,u,bC,n,rfl,G⟩
theorem OB{a b:B}{k iL:bx}(G:jy a=some k)(E:jy b=some iL)(e4:k≠iL):qe a b=some (decide<|k<iL):=by obtain⟨r,rfl⟩:=Dq G;obtain⟨b2,rfl⟩:=Dq E;show(if(k==iL)=true then none else some (ji k iL))=_;rw[bm<|by simpa using e4];rfl
theorem Fp{P:Params}{C:aY}{l:HO B}{Vs:HO Zr}(h:bD P C l Vs){i:ā}(aB:i<l.length):bA P C (l.getD i .none) (Vs.getD i .none):=by obtain⟨V,G,E⟩:=h.get (i:=i) (v:=l[i])<|fr aB;rw[lM,lM,G,fr aB];exact E
theorem IS{P:Params}{C:aY}{l:HO B}{Vs:HO Zr}(h:bD P C l Vs):∀{p:HO ā},(∀i∈p,i<l.length)->bD P C (p.map λi=>l.getD i .none) (p.map λi=>Vs.getD i .none)
 |[],_=>.nil
 |i::p,ae=>.cons (Fp h<|ae i tM)<|IS h λj b_=>ae j<|rJ _ b_
theorem BM{av:Type}(d:av):∀(l:HO av),(List.range l.length).map (λi=>l.getD i d)=l:=by
 intro l;apply List.ext_getElem?;intro i;rw[gN];by_cases h:i<l.length
 .rw[List.getElem?_range h,fr h];simp[h]
 .rw[List.getElem?_eq_none (by simpa using h),List.getElem?_eq_none<|by simpa using h];rfl
theorem X5(aX:c.Ok){O:Zr->Mt->Prop}{s:Mt}{C:aY}{J:St}{l:HO B}{V:Zr}{z:B}{Q:Zr->Mt->Prop}(I:c.I C J s)(af:bA c.P C (.lst l) V)(e:k2 .sorted [.lst l]=some z)(h:∀Z aO ar,c.I aO J ar->br C s aO ar->bA c.P aO z Z->Q Z ar):wpAny c.M A (call (.builtin "sorted") [V]) Q O s:=by
 replace e:(if l.length<=4/\(l.all λx=>(jy x).isSome)=true/\(l.map jy).Nodup then(iZ l).map B.lst else none)=some z:=e;split at e
 .rename_i aq;obtain⟨ba,gb,kR⟩:=aq;obtain⟨c6,ag,a8⟩:=map_some e;clear e;subst a8;obtain⟨i6,Vs,NP,rfl,b0,bt,dN⟩:=pk af;clear af;have dS:=bt.length;have A_:Vs.length<=4:=aI (fT dS) ba;have C5:∀i,i<l.length->∃k,jy (l.getD i .none)=some k:=λi aB=>by have:=d'.mp gb l[i]<|List.getElem_mem aB;rw[lM,fr aB];exact gZ.mp this
  obtain⟨key,aD⟩:∃key:ā->bx,∀i,i<l.length->jy (l.getD i .none)=some (key i):=⟨λi=>(jy<|l.getD i .none).getD [],λi aB=>by obtain⟨k,e⟩:=C5 i aB;show _=some ((jy<|l.getD i .none).getD []);rw[e];rfl⟩;have e4:∀i j,i<l.length->j<l.length->i≠j->key i≠key j:=λi j aB b_ li xG=>by
   refine li<|(List.getElem?_inj (l:=l.map jy) (by simpa using aB) kR (j:=j)).mp ?_;have g:∀i,i<l.length->(l.map jy)[i]?=some (some<|key i):=λi aB=>by have:=aD i aB;rw[lM,fr aB]at this;rw[gN,fr aB];exact bI some this
   rw[g i aB,g j b_,xG]
  obtain⟨lt,cW⟩:∃lt:ā->ā->ZI,lt=λi j=>decide (key i<key j):=⟨_,rfl⟩;have Cp:c6=(kE lt<|List.range l.length).map λi=>l.getD i .none:=by have:=VZ (f:=λi=>l.getD i .none) (lt:=lt) (l:=List.range l.length)<|List.Pairwise.imp_of_mem (λ{i j} aB b_ li=>by rw[lE]at aB b_;rw[OB (aD i aB) (aD j b_)<|e4 i j aB b_ li,cW]) List.nodup_range;rw[BM]at this;rw[this]at ag;cases ag;rfl
  have fin:∀{out:Array Zr},(∀aO,(∀a o,C a=.a5 o->aO a=.a5 o)->(∀a n,C a=.st n->aO a=.st n)->bD c.P aO c6 out.toList)->Q (.ref<|s.heap.objs.size+1) {s with heap:=sortedAll s.heap Vs out}:=λ{out} hz=>by
   obtain⟨qR,tH⟩:=sortedAll_at s.heap Vs out;have tf:s.heap.get? (s.heap.objs.size+1)=none:=by
    induction q:s.heap.get? (s.heap.objs.size+1)with
    |none=>rfl
    |some o=>exact absurd (kk q)<|Nat.not_lt.mpr<|j1 _
   obtain⟨dm,eE⟩:=E1 (cM:=s.toks) I (λb o ei=>sortedAll_old ei) tf tH;refine h _ _ _ dm eE<|.lst (Vs:=out.toList) (n:=qR) (by rw[c2]) (hz _ (eE.zero.oG I) eE.st) ?_;rw[Cp,bT,JT.length_eq,sQ];exact aI ba (by decide)
  refine Calls.call_function_entry kind_sorted plain_sorted entry_sorted (args_sorted1 _) ?_;unfold Builtin.«sorted»;refine bd (m:=checkCount "sorted" 1 1 _)<|b3 ?_;refine bd (collect_list (hR (I.a5 _ _ b0):s.heap.IsList i6 Vs.toArray) ?_<|by rw[kF];exact aI A_<|aG rfl);refine bd (wpAny_newList ?_<|by rw[kF];exact aI A_<|aG rfl);have hsz:((s.heap.push<|seqObj "list" #[] 0).update s.heap.objs.size<|Obj.mapSeq (· ++Vs.toArray)).objs.size=s.heap.objs.size+1:=by rw[uC,size_push']
  have wb:(((s.heap.push<|seqObj "list" #[] 0).update s.heap.objs.size<|Obj.mapSeq (· ++Vs.toArray)).push<|seqObj "list" Vs.toArray 0).get? (s.heap.objs.size+1)=some (seqObj "list" Vs.toArray 0):=by rw[<-hsz];exact gU _ rfl
  have keep:∀b o,s.heap.get? b=some o->(((s.heap.push<|seqObj "list" #[] 0).update s.heap.objs.size<|Obj.mapSeq (· ++Vs.toArray)).push<|seqObj "list" Vs.toArray 0).get? b=some o/\b≠s.heap.objs.size+1:=λb o q=>by have cW:b<s.heap.objs.size:=kk q;refine⟨?_,gK<|mN cW⟩;rw[tV _ _ _ (by rw[hsz];exact gK<|mN cW),Heap.get?_update_ne _ _ _ _<|gK cW,tV _ _ _<|gK cW];exact q
  show wpAny _ _ _ _ _ {s with heap:=((s.heap.push<|seqObj "list" #[] 0).update s.heap.objs.size<|Obj.mapSeq (· ++Vs.toArray)).push (seqObj "list" Vs.toArray 0)};rw[hsz];refine bd<|gQ<|nj slot_list_sort ⟨_,wb,rfl⟩ entry_list_sort ?_<|args_list_sort _;by_cases E:Vs.length<2
  .refine Yu wb E ⟨_,rfl,b3 ⟨_,rfl,fin (out:=Vs.toArray) λaO ea eV=>?_⟩⟩;have:c6=l:=by rw[Cp,Ny<|hI (fT dS.symm) E,BM]
   rw[this];simpa using bt.mono ea eV
  .have cM:∀i,i<l.length->gS λt u bC n=>Vs.getD i .none=.ref t/\s.heap.get? t=some (ed (Value.str ⟨(key i).toArray⟩ u::bC).toArray n):=λi aB=>by obtain⟨t,u,bC,n,e,bn⟩:=Mu (Fp bt aB)<|aD i aB;exact⟨t,u,bC,n,e,I.a5 _ _ bn⟩
   have Oc:=SQ (n:=l.length) (lt:=lt) (aI (q1 E) (fT dS)) ba (λi j aB b_ li=>by
    rw[cW];simp only;by_cases q:key i<key j
    .simp only[q,decide_true,Bool.not_true,mD];exact λff=>List.lt_irrefl _<|List.lt_trans q ff
    .simp only[q,decide_false,Bool.not_false,jT];induction D3:decide (key j<key i)with
     |true=>exact fj D3
     |false=>exact absurd (DJ (ra D3) q) (e4 i j aB b_ li))
    (λi j k _ _ _ G E=>by rw[cW]at G E⊢;simp only[jT]at G E⊢;exact List.lt_trans G E) (λi _=>by rw[cW];simp only[mD];exact List.lt_irrefl _)
   refine Td (o6:=tuples'<|Value.type "str" !=Value.type "tuple") (lt:=lt) (p:=kE lt<|List.range l.length) wb (q1 E) (hI A_<|jF rfl) (λv7 bV ar l9 a'=>?_) (λi j aB b_ li ah ar l9 jX=>?_) (by rw[dS];exact Oc) ⟨_,rfl,b3 ⟨_,rfl,fin λaO ea eV=>?_⟩⟩
   .have Uy:∀(is:HO ā),(∀i∈is,i<l.length)->∃tz,tz.length=is.length/\KatTups ar.heap (is.map λi=>Vs.getD i .none) tz/\∀v∈tz,Looks c.M ar.heap (typeOf v) (.type "str"):=by
     intro is;induction is with
     |nil=>intro _;exact⟨[],rfl,trivial,λv af=>by simp at af⟩
     |cons i is ap=>
      intro aB;obtain⟨tz,jU,yh,Df⟩:=ap λj b_=>aB j<|rJ _ b_;obtain⟨t,u,bC,n,qI,az⟩:=cM i<|aB i tM;refine⟨.str ⟨(key i).toArray⟩ u::tz,by simp[jU],?_,λv af=>?_⟩
      .rw[gh,qI];obtain⟨fK,gz⟩:=keep _ _ az;exact KatTups.cons (l9 _ _ gz fK) rfl rfl (by simp) yh
      .rcases ew.mp af with rfl|af
       .exact Looks.of_pure rfl
       .exact Df v af
    obtain⟨tz,jU,yh,Df⟩:=Uy (List.range l.length) λi aB=>lE.mp aB;rw[show(List.range l.length).map (λi=>Vs.getD i Value.none)=Vs by rw[<-dS];exact BM _ _]at yh;exact kat_kind yh (by rw[jU,sQ];lia) Df (by decide) a'
   .rw[dS]at aB b_;obtain⟨t,u,bC,n,qI,az⟩:=cM i aB;obtain⟨dM,h5,LJ,n',QP,g_⟩:=cM j b_;obtain⟨fK,gz⟩:=keep _ _ az;obtain⟨Ym,UL⟩:=keep _ _ g_;unfold kas_ask;rw[qI,QP];refine kat_lt (l9 _ _ gz fK) rfl (l9 _ _ UL Ym) rfl ?_;show KatLex _ _ _ _ _ _ ((Value.str ⟨(key i).toArray⟩ u,Value.str ⟨(key j).toArray⟩ h5)::bC.zip LJ) 0 ar;refine kat_cons<|eqBool_str ?_;rw[show((⟨(key i).toArray⟩:Str)==⟨(key j).toArray⟩)=false by rw[lK];intro q;refine e4 i j aB b_ li ?_;have:=bI (λx:Str=>x.cps.toList) q;simpa using this];refine kat_no ?_;show wpAny c.M _ (oneLt' true _ _) ah _ ar;refine oneLt_str ?_;rw[cW]at jX;simpa using jX
   .rw[Cp];simpa using(IS (p:=kE lt<|List.range l.length) bt λi aB=>lE.mp<|AI.mp aB).mono ea eV
 .exact bY e
theorem Sy(aX:c.Ok)(eY:A.handled=none):o8 c A (.builtin "sorted") (nY .sorted):=by
 intro O s C J v V z Q I af e h;replace e:FS v=some z:=e;induction v using B.casesOn with
 |lst l=>exact X5 aX I af e h
 |bb l=>exact XQ aX eY I af e h
 |_=>exact bY e
theorem h_{c:Prop}[Decidable c]{f:c->ZI}(h:(if h:c then f h else false)=true):∃aU,f aU=true:=by
 by_cases cA:c
 .rw[dif_pos cA]at h;exact⟨cA,h⟩
 .rw[dif_neg cA]at h;exact absurd h dR
def x0 (e:B) (k:ZI->ZI):ZI:=B.casesOn (motive_1:=λ_=>ZI) e false k (λ_=>false) (λ_=>false) (λ_=>false) (λ_=>false) (λ_=>false) (λ_=>false)<|λ_ _=>false
theorem x0.of{e:B}{k:ZI->ZI}(h:x0 e k=true):∃a,e=.bool a/\k a=true:=by induction e using B.casesOn<;>first|exact⟨_,rfl,h⟩|exact absurd h dR
def wJ (e:B) (k:Ă->ZI):ZI:=B.casesOn (motive_1:=λ_=>ZI) e false (λ_=>false) k (λ_=>false) (λ_=>false) (λ_=>false) (λ_=>false) (λ_=>false)<|λ_ _=>false
theorem wJ.of{e:B}{k:Ă->ZI}(h:wJ e k=true):∃a,e=.int a/\k a=true:=by induction e using B.casesOn<;>first|exact⟨_,rfl,h⟩|exact absurd h dR
def wz (e:B) (k:bx->ZI):ZI:=B.casesOn (motive_1:=λ_=>ZI) e false (λ_=>false) (λ_=>false) k (λ_=>false) (λ_=>false) (λ_=>false) (λ_=>false)<|λ_ _=>false
theorem wz.of{e:B}{k:bx->ZI}(h:wz e k=true):∃a,e=.str a/\k a=true:=by induction e using B.casesOn<;>first|exact⟨_,rfl,h⟩|exact absurd h dR
def yR (e:B) (k:HO B->ZI):ZI:=B.casesOn (motive_1:=λ_=>ZI) e false (λ_=>false) (λ_=>false) (λ_=>false) k (λ_=>false) (λ_=>false) (λ_=>false)<|λ_ _=>false
theorem yR.of{e:B}{k:HO B->ZI}(h:yR e k=true):∃a,e=.tup a/\k a=true:=by induction e using B.casesOn<;>first|exact⟨_,rfl,h⟩|exact absurd h dR
def wZ (e:B) (k:HO (B×B)->ZI):ZI:=B.casesOn (motive_1:=λ_=>ZI) e false (λ_=>false) (λ_=>false) (λ_=>false) (λ_=>false) (λ_=>false) k (λ_=>false)<|λ_ _=>false
theorem wZ.of{e:B}{k:HO (B×B)->ZI}(h:wZ e k=true):∃a,e=.bb a/\k a=true:=by induction e using B.casesOn<;>first|exact⟨_,rfl,h⟩|exact absurd h dR
def u' (e:a2) (k:ā->ZI):ZI:=a2.casesOn (motive_1:=λ_=>ZI) e (λ_=>false) k (λ_ _=>false) (λ_ _=>false) (λ_ _ _ _=>false) (λ_ _=>false) (λ_=>false) (λ_=>false) (λ_=>false) (λ_=>false) (λ_ _ _=>false) (λ_=>false) (λ_ _=>false) (λ_=>false) (λ_=>false) (λ_ _ _=>false) (λ_ _=>false) (λ_ _=>false) (λ_ _ _=>false) (λ_ _=>false) (λ_ _=>false) (λ_ _ _ _ _=>false) false
theorem u'.of{e:a2}{k:ā->ZI}(h:u' e k=true):∃a,e=.v a/\k a=true:=by induction e using a2.casesOn<;>first|exact⟨_,rfl,h⟩|exact absurd h dR
def r8 (e:a2) (k:B->ZI):ZI:=a2.casesOn (motive_1:=λ_=>ZI) e k (λ_=>false) (λ_ _=>false) (λ_ _=>false) (λ_ _ _ _=>false) (λ_ _=>false) (λ_=>false) (λ_=>false) (λ_=>false) (λ_=>false) (λ_ _ _=>false) (λ_=>false) (λ_ _=>false) (λ_=>false) (λ_=>false) (λ_ _ _=>false) (λ_ _=>false) (λ_ _=>false) (λ_ _ _=>false) (λ_ _=>false) (λ_ _=>false) (λ_ _ _ _ _=>false) false
theorem r8.of{e:a2}{k:B->ZI}(h:r8 e k=true):∃a,e=.k a/\k a=true:=by induction e using a2.casesOn<;>first|exact⟨_,rfl,h⟩|exact absurd h dR
def sm (e:a2) (k:HO a2->ZI):ZI:=a2.casesOn (motive_1:=λ_=>ZI) e (λ_=>false) (λ_=>false) (λ_ _=>false) (λ_ _=>false) (λ_ _ _ _=>false) (λ_ _=>false) (λ_=>false) (λ_=>false) k (λ_=>false) (λ_ _ _=>false) (λ_=>false) (λ_ _=>false) (λ_=>false) (λ_=>false) (λ_ _ _=>false) (λ_ _=>false) (λ_ _=>false) (λ_ _ _=>false) (λ_ _=>false) (λ_ _=>false) (λ_ _ _ _ _=>false) false
theorem sm.of{e:a2}{k:HO a2->ZI}(h:sm e k=true):∃a,e=.lst a/\k a=true:=by induction e using a2.casesOn<;>first|exact⟨_,rfl,h⟩|exact absurd h dR
def xO (e:a2) (k:HO (a2×a2)->ZI):ZI:=a2.casesOn (motive_1:=λ_=>ZI) e (λ_=>false) (λ_=>false) (λ_ _=>false) (λ_ _=>false) (λ_ _ _ _=>false) (λ_ _=>false) (λ_=>false) (λ_=>false) (λ_=>false) k (λ_ _ _=>false) (λ_=>false) (λ_ _=>false) (λ_=>false) (λ_=>false) (λ_ _ _=>false) (λ_ _=>false) (λ_ _=>false) (λ_ _ _=>false) (λ_ _=>false) (λ_ _=>false) (λ_ _ _ _ _=>false) false
theorem xO.of{e:a2}{k:HO (a2×a2)->ZI}(h:xO e k=true):∃a,e=.bb a/\k a=true:=by induction e using a2.casesOn<;>first|exact⟨_,rfl,h⟩|exact absurd h dR
def yg (e:a2) (k:a2->ZI->HO ā->a2->HO a2->ZI):ZI:=a2.casesOn (motive_1:=λ_=>ZI) e (λ_=>false) (λ_=>false) (λ_ _=>false) (λ_ _=>false) (λ_ _ _ _=>false) (λ_ _=>false) (λ_=>false) (λ_=>false) (λ_=>false) (λ_=>false) (λ_ _ _=>false) (λ_=>false) (λ_ _=>false) (λ_=>false) (λ_=>false) (λ_ _ _=>false) (λ_ _=>false) (λ_ _=>false) (λ_ _ _=>false) (λ_ _=>false) (λ_ _=>false) k false
theorem yg.of{e:a2}{k:a2->ZI->HO ā->a2->HO a2->ZI}(h:yg e k=true):tB λa b c d g=>e=.comp a b c d g/\k a b c d g=true:=by induction e using a2.casesOn<;>first|exact⟨_,_,_,_,_,rfl,h⟩|exact absurd h dR
def e6 (e:Ā) (k:Str->Pos->ZI):ZI:=if h:e.ctorIdx=23 then Expr.Name.elim (motive_1:=λ_=>ZI) e h k else false
theorem e6.of{e:Ā}{k:Str->Pos->ZI}(h:e6 e k=true):dW λa b=>e=.Name a b/\k a b=true:=by obtain⟨aU,h⟩:=h_ h;exact Expr.Name.elim (motive_1:=λe=>∀aU,Expr.Name.elim (motive_1:=λ_=>ZI) e aU k=true->dW λa b=>e=.Name a b/\k a b=true) e aU (λa b _ h=>⟨a,b,rfl,h⟩) aU h
def jJ (e:Ā) (k:Ā->Str->Pos->ZI):ZI:=if h:e.ctorIdx=20 then Expr.Attribute.elim (motive_1:=λ_=>ZI) e h k else false
theorem jJ.of{e:Ā}{k:Ā->Str->Pos->ZI}(h:jJ e k=true):dJ λa b c=>e=.Attribute a b c/\k a b c=true:=by obtain⟨aU,h⟩:=h_ h;exact Expr.Attribute.elim (motive_1:=λe=>∀aU,Expr.Attribute.elim (motive_1:=λ_=>ZI) e aU k=true->dJ λa b c=>e=.Attribute a b c/\k a b c=true) e aU (λa b c _ h=>⟨a,b,c,rfl,h⟩) aU h
def mb (e:Ā) (k:Ā->Ā->Pos->ZI):ZI:=if h:e.ctorIdx=21 then Expr.Subscript.elim (motive_1:=λ_=>ZI) e h k else false
theorem mb.of{e:Ā}{k:Ā->Ā->Pos->ZI}(h:mb e k=true):dJ λa b c=>e=.Subscript a b c/\k a b c=true:=by obtain⟨aU,h⟩:=h_ h;exact Expr.Subscript.elim (motive_1:=λe=>∀aU,Expr.Subscript.elim (motive_1:=λ_=>ZI) e aU k=true->dJ λa b c=>e=.Subscript a b c/\k a b c=true) e aU (λa b c _ h=>⟨a,b,c,rfl,h⟩) aU h
def tg (e:Ā) (k:Z5 Ā->Z5 Ā->Z5 Ā->Pos->ZI):ZI:=if h:e.ctorIdx=26 then Expr.Slice.elim (motive_1:=λ_=>ZI) e h k else false
theorem tg.of{e:Ā}{k:Z5 Ā->Z5 Ā->Z5 Ā->Pos->ZI}(h:tg e k=true):gS λa b c d=>e=.Slice a b c d/\k a b c d=true:=by obtain⟨aU,h⟩:=h_ h;exact Expr.Slice.elim (motive_1:=λe=>∀aU,Expr.Slice.elim (motive_1:=λ_=>ZI) e aU k=true->gS λa b c d=>e=.Slice a b c d/\k a b c d=true) e aU (λa b c d _ h=>⟨a,b,c,d,rfl,h⟩) aU h
def p1 (e:Ā) (k:HO Ā->Pos->ZI):ZI:=if h:e.ctorIdx=24 then Expr.List.elim (motive_1:=λ_=>ZI) e h k else false
theorem p1.of{e:Ā}{k:HO Ā->Pos->ZI}(h:p1 e k=true):dW λa b=>e=.List a b/\k a b=true:=by obtain⟨aU,h⟩:=h_ h;exact Expr.List.elim (motive_1:=λe=>∀aU,Expr.List.elim (motive_1:=λ_=>ZI) e aU k=true->dW λa b=>e=.List a b/\k a b=true) e aU (λa b _ h=>⟨a,b,rfl,h⟩) aU h
def n_ (e:Ā) (k:HO Ā->ā->Pos->ZI):ZI:=if h:e.ctorIdx=25 then Expr.Tuple.elim (motive_1:=λ_=>ZI) e h k else false
theorem n_.of{e:Ā}{k:HO Ā->ā->Pos->ZI}(h:n_ e k=true):dJ λa b c=>e=.Tuple a b c/\k a b c=true:=by obtain⟨aU,h⟩:=h_ h;exact Expr.Tuple.elim (motive_1:=λe=>∀aU,Expr.Tuple.elim (motive_1:=λ_=>ZI) e aU k=true->dJ λa b c=>e=.Tuple a b c/\k a b c=true) e aU (λa b c _ h=>⟨a,b,c,rfl,h⟩) aU h
def s7 (e:Ā) (k:HO (Z5 Ā)->HO Ā->Pos->ZI):ZI:=if h:e.ctorIdx=6 then Expr.Dict.elim (motive_1:=λ_=>ZI) e h k else false
theorem s7.of{e:Ā}{k:HO (Z5 Ā)->HO Ā->Pos->ZI}(h:s7 e k=true):dJ λa b c=>e=.Dict a b c/\k a b c=true:=by obtain⟨aU,h⟩:=h_ h;exact Expr.Dict.elim (motive_1:=λe=>∀aU,Expr.Dict.elim (motive_1:=λ_=>ZI) e aU k=true->dJ λa b c=>e=.Dict a b c/\k a b c=true) e aU (λa b c _ h=>⟨a,b,c,rfl,h⟩) aU h
def xX (e:Ā) (k:Ā->Operator->Ā->Pos->ZI):ZI:=if h:e.ctorIdx=2 then Expr.BinOp.elim (motive_1:=λ_=>ZI) e h k else false
theorem xX.of{e:Ā}{k:Ā->Operator->Ā->Pos->ZI}(h:xX e k=true):gS λa b c d=>e=.BinOp a b c d/\k a b c d=true:=by obtain⟨aU,h⟩:=h_ h;exact Expr.BinOp.elim (motive_1:=λe=>∀aU,Expr.BinOp.elim (motive_1:=λ_=>ZI) e aU k=true->gS λa b c d=>e=.BinOp a b c d/\k a b c d=true) e aU (λa b c d _ h=>⟨a,b,c,d,rfl,h⟩) aU h
def qG (e:Ā) (k:UnaryOp->Ā->Pos->ZI):ZI:=if h:e.ctorIdx=3 then Expr.UnaryOp.elim (motive_1:=λ_=>ZI) e h k else false
theorem qG.of{e:Ā}{k:UnaryOp->Ā->Pos->ZI}(h:qG e k=true):dJ λa b c=>e=.UnaryOp a b c/\k a b c=true:=by obtain⟨aU,h⟩:=h_ h;exact Expr.UnaryOp.elim (motive_1:=λe=>∀aU,Expr.UnaryOp.elim (motive_1:=λ_=>ZI) e aU k=true->dJ λa b c=>e=.UnaryOp a b c/\k a b c=true) e aU (λa b c _ h=>⟨a,b,c,rfl,h⟩) aU h
def tb (e:Ā) (k:Ā->HO CmpOp->HO Ā->Pos->ZI):ZI:=if h:e.ctorIdx=15 then Expr.Compare.elim (motive_1:=λ_=>ZI) e h k else false
theorem tb.of{e:Ā}{k:Ā->HO CmpOp->HO Ā->Pos->ZI}(h:tb e k=true):gS λa b c d=>e=.Compare a b c d/\k a b c d=true:=by obtain⟨aU,h⟩:=h_ h;exact Expr.Compare.elim (motive_1:=λe=>∀aU,Expr.Compare.elim (motive_1:=λ_=>ZI) e aU k=true->gS λa b c d=>e=.Compare a b c d/\k a b c d=true) e aU (λa b c d _ h=>⟨a,b,c,d,rfl,h⟩) aU h
def n0 (e:Ā) (k:BoolOp->HO Ā->Pos->ZI):ZI:=if h:e.ctorIdx=0 then Expr.BoolOp.elim (motive_1:=λ_=>ZI) e h k else false
theorem n0.of{e:Ā}{k:BoolOp->HO Ā->Pos->ZI}(h:n0 e k=true):dJ λa b c=>e=.BoolOp a b c/\k a b c=true:=by obtain⟨aU,h⟩:=h_ h;exact Expr.BoolOp.elim (motive_1:=λe=>∀aU,Expr.BoolOp.elim (motive_1:=λ_=>ZI) e aU k=true->dJ λa b c=>e=.BoolOp a b c/\k a b c=true) e aU (λa b c _ h=>⟨a,b,c,rfl,h⟩) aU h
def ts (e:Ā) (k:Ā->Ā->Ā->Pos->ZI):ZI:=if h:e.ctorIdx=5 then Expr.IfExp.elim (motive_1:=λ_=>ZI) e h k else false
theorem ts.of{e:Ā}{k:Ā->Ā->Ā->Pos->ZI}(h:ts e k=true):gS λa b c d=>e=.IfExp a b c d/\k a b c d=true:=by obtain⟨aU,h⟩:=h_ h;exact Expr.IfExp.elim (motive_1:=λe=>∀aU,Expr.IfExp.elim (motive_1:=λ_=>ZI) e aU k=true->gS λa b c d=>e=.IfExp a b c d/\k a b c d=true) e aU (λa b c d _ h=>⟨a,b,c,d,rfl,h⟩) aU h
def kJ (e:Ā) (k:Ā->HO Ā->HO Keyword->Pos->ZI):ZI:=if h:e.ctorIdx=16 then Expr.Call.elim (motive_1:=λ_=>ZI) e h k else false
theorem kJ.of{e:Ā}{k:Ā->HO Ā->HO Keyword->Pos->ZI}(h:kJ e k=true):gS λa b c d=>e=.Call a b c d/\k a b c d=true:=by obtain⟨aU,h⟩:=h_ h;exact Expr.Call.elim (motive_1:=λe=>∀aU,Expr.Call.elim (motive_1:=λ_=>ZI) e aU k=true->gS λa b c d=>e=.Call a b c d/\k a b c d=true) e aU (λa b c d _ h=>⟨a,b,c,d,rfl,h⟩) aU h
def xV (e:Ā) (k:Ā->HO Comprehension->Scope->Pos->ZI):ZI:=if h:e.ctorIdx=8 then Expr.ListComp.elim (motive_1:=λ_=>ZI) e h k else false
theorem xV.of{e:Ā}{k:Ā->HO Comprehension->Scope->Pos->ZI}(h:xV e k=true):gS λa b c d=>e=.ListComp a b c d/\k a b c d=true:=by obtain⟨aU,h⟩:=h_ h;exact Expr.ListComp.elim (motive_1:=λe=>∀aU,Expr.ListComp.elim (motive_1:=λ_=>ZI) e aU k=true->gS λa b c d=>e=.ListComp a b c d/\k a b c d=true) e aU (λa b c d _ h=>⟨a,b,c,d,rfl,h⟩) aU h
def s3 (e:Ā) (k:Const->ā->Pos->ZI):ZI:=if h:e.ctorIdx=19 then Expr.Constant.elim (motive_1:=λ_=>ZI) e h k else false
theorem s3.of{e:Ā}{k:Const->ā->Pos->ZI}(h:s3 e k=true):dJ λa b c=>e=.Constant a b c/\k a b c=true:=by obtain⟨aU,h⟩:=h_ h;exact Expr.Constant.elim (motive_1:=λe=>∀aU,Expr.Constant.elim (motive_1:=λ_=>ZI) e aU k=true->dJ λa b c=>e=.Constant a b c/\k a b c=true) e aU (λa b c _ h=>⟨a,b,c,rfl,h⟩) aU h
def y5 (e:Stmt) (k:HO Ā->Ā->Pos->ZI):ZI:=if h:e.ctorIdx=5 then Stmt.Assign.elim (motive_2:=λ_=>ZI) e h k else false
theorem y5.of{e:Stmt}{k:HO Ā->Ā->Pos->ZI}(h:y5 e k=true):dJ λa b c=>e=.Assign a b c/\k a b c=true:=by obtain⟨aU,h⟩:=h_ h;exact Stmt.Assign.elim (motive_2:=λe=>∀aU,Stmt.Assign.elim (motive_2:=λ_=>ZI) e aU k=true->dJ λa b c=>e=.Assign a b c/\k a b c=true) e aU (λa b c _ h=>⟨a,b,c,rfl,h⟩) aU h
def r3 (e:Stmt) (k:Ā->Pos->ZI):ZI:=if h:e.ctorIdx=24 then Stmt.Expr.elim (motive_2:=λ_=>ZI) e h k else false
theorem r3.of{e:Stmt}{k:Ā->Pos->ZI}(h:r3 e k=true):dW λa b=>e=.Expr a b/\k a b=true:=by obtain⟨aU,h⟩:=h_ h;exact Stmt.Expr.elim (motive_2:=λe=>∀aU,Stmt.Expr.elim (motive_2:=λ_=>ZI) e aU k=true->dW λa b=>e=.Expr a b/\k a b=true) e aU (λa b _ h=>⟨a,b,rfl,h⟩) aU h
def yZ (e:Stmt) (k:Ā->HO Stmt->HO Stmt->Pos->ZI):ZI:=if h:e.ctorIdx=12 then Stmt.If.elim (motive_2:=λ_=>ZI) e h k else false
theorem yZ.of{e:Stmt}{k:Ā->HO Stmt->HO Stmt->Pos->ZI}(h:yZ e k=true):gS λa b c d=>e=.If a b c d/\k a b c d=true:=by obtain⟨aU,h⟩:=h_ h;exact Stmt.If.elim (motive_2:=λe=>∀aU,Stmt.If.elim (motive_2:=λ_=>ZI) e aU k=true->gS λa b c d=>e=.If a b c d/\k a b c d=true) e aU (λa b c d _ h=>⟨a,b,c,d,rfl,h⟩) aU h
def wI (e:Stmt) (k:Ā->Ā->HO Stmt->HO Stmt->Pos->ZI):ZI:=if h:e.ctorIdx=9 then Stmt.For.elim (motive_2:=λ_=>ZI) e h k else false
theorem wI.of{e:Stmt}{k:Ā->Ā->HO Stmt->HO Stmt->Pos->ZI}(h:wI e k=true):tB λa b c d g=>e=.For a b c d g/\k a b c d g=true:=by obtain⟨aU,h⟩:=h_ h;exact Stmt.For.elim (motive_2:=λe=>∀aU,Stmt.For.elim (motive_2:=λ_=>ZI) e aU k=true->tB λa b c d g=>e=.For a b c d g/\k a b c d g=true) e aU (λa b c d g _ h=>⟨a,b,c,d,g,rfl,h⟩) aU h
def yS (e:Stmt) (k:Z5 Ā->Pos->ZI):ZI:=if h:e.ctorIdx=3 then Stmt.Return.elim (motive_2:=λ_=>ZI) e h k else false
theorem yS.of{e:Stmt}{k:Z5 Ā->Pos->ZI}(h:yS e k=true):dW λa b=>e=.Return a b/\k a b=true:=by obtain⟨aU,h⟩:=h_ h;exact Stmt.Return.elim (motive_2:=λe=>∀aU,Stmt.Return.elim (motive_2:=λ_=>ZI) e aU k=true->dW λa b=>e=.Return a b/\k a b=true) e aU (λa b _ h=>⟨a,b,rfl,h⟩) aU h
def fs {av:Type} (l:HO av) (k:av->ZI):ZI:=match l with|[]=>false|a::l=>l.isEmpty&&k a
theorem fs.of{av:Type}{l:HO av}{k:av->ZI}(h:fs l k=true):∃a,l=[a]/\k a=true:=by
 induction l with
 |nil=>exact cH h
 |cons a l=>have h:=(gY.mp h);exact⟨a,by rw[fU.mp h.1],h.2⟩
def im {av:Type} (l:HO av) (k:av->av->ZI):ZI:=match l with|[]=>false|a::l=>fs l<|k a
theorem im.of{av:Type}{l:HO av}{k:av->av->ZI}(h:im l k=true):dW λa b=>l=[a,b]/\k a b=true:=by
 induction l using List.casesOn with
 |nil=>exact cH h
 |cons a l=>obtain⟨b,rfl,h⟩:=fs.of (k:=k a) h;exact⟨a,b,rfl,h⟩
def w8 {av:Type} (l:HO av) (k:av->av->av->ZI):ZI:=match l with|[]=>false|a::l=>im l<|k a
theorem w8.of{av:Type}{l:HO av}{k:av->av->av->ZI}(h:w8 l k=true):dJ λa b c=>l=[a,b,c]/\k a b c=true:=by
 induction l using List.casesOn with
 |nil=>exact cH h
 |cons a l=>obtain⟨b,c,rfl,h⟩:=im.of (k:=k a) h;exact⟨a,b,c,rfl,h⟩
def mM {av:Type} (o:Z5 av) (k:av->ZI):ZI:=match o with|none=>false|some a=>k a
theorem mM.of{av:Type}{o:Z5 av}{k:av->ZI}(h:mM o k=true):∃a,o=some a/\k a=true:=by
 induction o with
 |none=>exact cH h
 |some a=>exact⟨a,rfl,h⟩
theorem e9{a b c:ZI}(h:(a&&b&&c)=true):dD (a=true) (b=true) (c=true):=by induction a<;>induction b<;>induction c<;>first|(exact cH h;done)|exact⟨rfl,rfl,rfl⟩
theorem ch{a b:ZI}(h:(a&&b)=true):a=true/\b=true:=gY.mp h
theorem fg{a:ZI}(h:(!a)=true):a=false:=by induction a<;>first|rfl|exact cH h
theorem n2{a b:ZI}(h:(a||b)=true):a=true\/b=true:=Bool.or_eq_true_iff.mp h
mutual
def lu:B->B->ZI
 |.none,b=>b.ctorIdx==0
 |.bool x,b=>x0 b λy=>x==y
 |.int x,b=>wJ b λy=>x==y
 |.str x,b=>wz b λy=>x==y
 |.tup l,b=>yR b λm=>xo l m
 |.bb l,b=>wZ b λm=>x5 l m
 |.lst _,_=>false
 |.ref _,_=>false
 |.ey _ _,_=>false
def xo:HO B->HO B->ZI
 |[],m=>m.isEmpty
 |a::r,m=>match m with|[]=>false|b::t=>lu a b&&xo r t
def x5:HO (B×B)->HO (B×B)->ZI
 |[],m=>m.isEmpty
 |(a,c)::r,m=>match m with|[]=>false|(b,d)::t=>lu a b&&(lu c d&&x5 r t)
end
mutual
theorem m0:∀{a b:B},lu a b=true->a=b
 |.none,b,h=>(B.DN<|eI h).symm
 |.bool x,b,h=>by obtain⟨y,rfl,h⟩:=x0.of (k:=λy=>x==y) h;rw[eI h]
 |.int x,b,h=>by obtain⟨y,rfl,h⟩:=wJ.of (k:=λy=>x==y) h;rw[eI h]
 |.str x,b,h=>by obtain⟨y,rfl,h⟩:=wz.of (k:=λy=>x==y) h;rw[eI h]
 |.tup l,b,h=>by obtain⟨m,rfl,h⟩:=yR.of (k:=λm=>xo l m) h;rw[Jg h]
 |.bb l,b,h=>by obtain⟨m,rfl,h⟩:=wZ.of (k:=λm=>x5 l m) h;rw[ES h]
 |.lst _,_,h=>absurd h dR
 |.ref _,_,h=>absurd h dR
 |.ey _ _,_,h=>absurd h dR
theorem Jg:∀{a b:HO B},xo a b=true->a=b
 |[],m,h=>(fU.mp h).symm
 |a::r,[],h=>absurd h dR
 |a::r,b::t,h=>by have h:=ch h;rw[m0 h.1,Jg h.2]
theorem ES:∀{a b:HO (B×B)},x5 a b=true->a=b
 |[],m,h=>(fU.mp h).symm
 |(a,c)::r,[],h=>absurd h dR
 |(a,c)::r,(b,d)::t,h=>by have h:=ch h;have E:=ch h.2;rw[m0 h.1,m0 E.1,ES E.2]
end
structure ft where
 ns:bH
 kinds:List (Str×NameKind)
 fn:Bool
def ft.cB (sp:ft) (x:Str):ZI:=sp.kinds.lookup x==some .globalImplicit
def ft.b6 (sp:ft) (x:Str):ZI:=sp.kinds.lookup x==some .local||(sp.fn&&sp.kinds.lookup x==some .cell)
def ft.ky (sp:ft) (x:Str):ZI:=sp.fn&&sp.kinds.lookup x==some .cell
structure kG where
 pl:List (Str×Nat)
 oQ:List (Str×B)
 gl:List (Str×Nat)
 qj:List Str
 an:Nat->Str
def all2 (f:Ā->a2->ZI):HO Ā->HO a2->ZI
 |[],l=>l.isEmpty
 |a::r,l=>match l with|[]=>false|b::t=>f a b&&all2 f r t
def vK (x:Str):ZI:=x==("__debug__":Str)||x==("__classdict__":Str)
def pZ (sp:ft) (x:Str) (i:ā):ZI:=sp.ns.lookup x==some i&& !vK x
def Hg (v:B):Const->ZI
 |.int i=>lu v<|.int i
 |.bool b=>lu v<|.bool b
 |.none=>lu v .none
 |.str x=>decide (x.cps.toList.length<=1000)&&lu v (.str x.cps.toList)
 |.float _=>false
 |.complex _ _=>false
 |.bytes _=>false
 |.ellipsis=>false
def EB (k:Ă->ZI):Const->ZI
 |.int i=>k i
 |.bool _=>false
 |.none=>false
 |.str _=>false
 |.float _=>false
 |.complex _ _=>false
 |.bytes _=>false
 |.ellipsis=>false
def vInt (e:Ā) (k:Ă->ZI):ZI:=s3 e λc _ _=>EB k c
def rd (e:Ā) (k:Ă->ZI):ZI:=qG e λo e _=>o==.USub&&vInt e k
def DV (T:kG) (sp:ft) (e:Ā) (v:B):ZI:=s3 e (λc _ _=>Hg v c)||rd e (λi=>lu v<|.int<|-i)||e6 e λx _=>sp.cB x&& !vK x&&mM (T.oQ.lookup x) λw=>lu w v
abbrev kv:=ZI->ft->Ā->a2->ZI
def F5 (c:a2):ZI:=u' c λ_=>true
def sv (f:kv) (sp:ft) (e:Ā) (bJ:a2):ZI:=u' bJ (λi=>e6 e λx _=>pZ sp x i)||(!F5 bJ&&f false sp e bJ)
def x7 (x:Z5 Ā) (i:Z5 Ă):ZI:=match x with
 |none=>i.isNone
 |some e=>mM i λj=>vInt e (λi=>i==j)||rd e λi=> -i==j
def yc (f:kv) (sp:ft):HO (Z5 Ā)->HO Ā->HO (a2×a2)->ZI
 |[],vs,l=>vs.isEmpty&&l.isEmpty
 |k::ks,vs,l=>match vs with
  |[]=>false
  |v::vs=>(match l with|[]=>false|(a,b)::l=>mM k λk=>f false sp k a&&(f false sp v b&&yc f sp ks vs l))
def qO:f'->Z5 Str
 |.len=>some "len"|.sorted=>some "sorted"|.tuple=>some "tuple"|.any=>some "any"|.all=>some "all"|.str=>some "str"|.int=>some "int"
 |.p0=>none|.index=>none|.get=>none
def Hx (f:kv) (sp:ft) (b:f') (l:HO a2) (e:Ā):ZI:=kJ e λg args jb pos=>jb.isEmpty&&(match b with
 |.p0=>fs l λc=>im args λag t=>e6 g λx _=>e6 t λy _=>(x=="isinstance"&&y=="str")&&(sp.cB x&&sp.cB y)&&(!fG ag&&f false sp ag c)
 |.index=>im l λo c=>fs args λag=>jJ g λdB x iq=>x=="index"&& !lf dB&&(iq.endLine==pos.line)&&(!fG ag&&f false sp dB o&&f false sp ag c)
 |.get=>w8 l λo c d=>im args λag a8=>jJ g λdB x iq=>(x=="get"&& !lf dB&&(iq.endLine==pos.line))&&(!fG ag&& !fG a8)&&(f false sp dB o&&f false sp ag c&&f false sp a8 d)
 |b=>fs l λc=>fs args λag=>e6 g λx _=>(qO b==some x&&sp.cB x)&&(!fG ag&&f false sp ag c))
def HF:HO Ā->HO Str
 |[]=>[]
 |e::r=>if h:e.ctorIdx=23 then Expr.Name.elim (motive_1:=λ_=>HO Str) e h λx _=>x::HF r else []
def vx (sp:ft):HO Ā->HO ā->ZI
 |[],l=>l.isEmpty
 |e::r,l=>match l with|[]=>false|i::is=>e6 e λx _=>(sp.ns.lookup x==some i&&sp.b6 x)&&vx sp r is
def CE (sp:ft) (bk:ZI) (e:Ā) (aS:HO ā):ZI:=match bk with
 |false=>e6 e λx _=>fs aS λi=>sp.ns.lookup x==some i&&sp.b6 x
 |true=>n_ e λes _ _=>vx sp es aS
def VA (e:Ā):HO Str:=if h:e.ctorIdx=23 then Expr.Name.elim (motive_1:=λ_=>HO Str) e h λx _=>[x]else if h:e.ctorIdx=25 then Expr.Tuple.elim (motive_1:=λ_=>HO Str) e h λes _ _=>HF es else []
def ka (sp:ft) (target:Ā) (aS:HO ā) (scope:Scope):ft:=⟨(VA target).zip aS++scope.names.filterMap (λp=>if p.2==.free then(sp.ns.lookup p.1).map (p.1,·)else none),scope.names,false⟩
def FL (sp:ft) (b1:ft) (aS:HO ā) (scope:Scope):ZI:=scope.names.all (λy=>y.2 !=.cell)&&(scope.kind==.function)&&scope.names.all (λy=>y.2 !=.local||scope.names.lookup y.1==some .local)&&scope.names.all (λy=>y.2 !=.free||sp.ky y.1)&&b1.ns.all (λp=>(scope.names.lookup p.1==some .local&&aS.contains p.2)||(scope.names.lookup p.1==some .free&&sp.ns.lookup p.1==some p.2))&&decide ((b1.ns.map (·.2)).Nodup)
def wY (f:kv) (sp:ft) (e:Ā) (bJ:a2):ZI:=xV e λgc gens scope _=>yg bJ λc bk aS it v1=>fs gens λg=>
 g.is_async==0&&(FL sp (ka sp g.target aS scope) aS scope&&CE (ka sp g.target aS scope) bk g.target aS)&&(!qc g.iter&&sv f sp g.iter it&&f false (ka sp g.target aS scope) gc c)&&(match g.ifs with
  |[]=>v1.isEmpty
  |i::l=>l.isEmpty&&fs v1 λAT=>f true (ka sp g.target aS scope) i AT)
def tL (es:HO Ā):ZI:=decide<|es.length<=1000
def km (T:kG) (f:kv) (sp:ft) (e:Ā) (bJ:a2):ZI:=match bJ with
 |.k v=>DV T sp e v
 |.v i=>e6 e λx _=>pZ sp x i
 |.at c a=>jJ e λo x _=>(!lf o&&T.an a==x)&&(decide (a<33)&&f false sp o c)
 |.ao c i=>mb e λo s _=>yi s&&sv f sp o c&&f false sp s i
 |.aL c a b d=>mb e λo s _=>tg s λlo up st _=>(f false sp o c&&x7 lo a)&&(x7 up b&&x7 st d)
 |.sg c i=>mb e λo s _=>tg s λlo up st _=>mM lo λs=>(up.isNone&&st.isNone)&&(f false sp o c&&f false sp s i)
 |.box c=>sm c λl=>p1 e λes _=>all2 (f false sp) es l&&jc es&&tL es
 |.tup l=>n_ e λes _ _=>all2 (f false sp) es l&&jc es&&tL es
 |.lst l=>p1 e λes _=>all2 (f false sp) es l&&jc es&&tL es
 |.bb l=>s7 e λks vs _=>(ks.isEmpty&&vs.isEmpty&&l.isEmpty)||(!ks.isEmpty&&yc f sp ks vs l&&decide (ks.length<=15))
 |.bin o a b=>xX e λl gg r _=>gg==A6 o&&f false sp l a&&f false sp r b
 |.not c=>qG e λo e _=>o==.Not&&f false sp e c
 |.cmp a l=>tb e λle ops na _=>match l with
  |[]=>false
  |(o,b)::l=>(match l with
   |[]=>fs ops λgg=>fs na λr=>(gg==lh o&&f false sp le a)&&(sv f sp r b&& !behindInMarks gg r)
   |(cw,eD)::l=>l.isEmpty&&im ops λgg Dz=>im na λr b2=>((gg==lh o&&Dz==lh cw)&&(f false sp le a&&f false sp r b&&sv f sp b2 eD))&&(!(o==.isin)&& !(o==.fV)&& !lastMarks [gg,Dz] [r,b2]))
 |.an l=>n0 e λo es _=>o==.And&& !es.isEmpty&&all2 (f false sp) es l
 |.or l=>n0 e λo es _=>o==.Or&& !es.isEmpty&&all2 (f false sp) es l
 |.ite c t o=>ts e λa b d _=>f true sp a c&&f false sp b t&&f false sp d o
 |.call g l=>kJ e λh args jb _=>e6 h λx _=>(jb.isEmpty&&sp.cB x&& !vK x)&&(T.pl.lookup x==some g&&jc args&&all2 (f false sp) args l)
 |.new c l=>kJ e λh args jb _=>e6 h λx _=>(jb.isEmpty&&sp.cB x&& !vK x)&&(T.gl.lookup x==some c&&jc args&&all2 (f false sp) args l)
 |.cR o m l=>kJ e λh args jb pos=>jJ h λdB x iq=>((jb.isEmpty&& !lf dB&&(iq.endLine==pos.line))&&(decide (args.length<30)&&jc args&&T.qj[m]?==some x))&&(f false sp dB o&&all2 (f false sp) args l)
 |.bi b l=>Hx f sp b l e
 |.ey a b=>kJ e λh args jb _=>e6 h λx _=>(jb.isEmpty&&x=="range"&&sp.cB x)&&(fs args (λag=>(!fG ag&&r8 a λv=>lu v<|.int 0)&&f false sp ag b)||im args λag a8=>(!fG ag&& !fG a8)&&(f false sp ag a&&f false sp a8 b))
 |.comp c bk aS it ifs=>wY f sp e<|.comp c bk aS it ifs
 |.bad=>true
def Xo (f:kv) (sp:ft) (e:Ā) (bJ:a2):ZI:=wM e&&f false sp e bJ
def FW (T:kG) (f:kv) (sp:ft) (e:Ā) (bJ:a2):ZI:=Xo f sp e bJ||match bJ with
 |.bad=>true
 |.not c=>qG e λo e _=>o==.Not&&f true sp e c
 |.an l=>n0 e λo es _=>o==.And&& !es.isEmpty&&all2 (f true sp) es l
 |.or l=>n0 e λo es _=>o==.Or&& !es.isEmpty&&all2 (f true sp) es l
 |.ite c t o=>ts e λa b d _=>f true sp a c&&f true sp b t&&f true sp d o
 |.cmp a l=>fs l λp=>tb e λle ops na _=>fs ops λgg=>fs na λr=>(gg==lh p.1&&f false sp le a)&&(sv f sp r p.2&& !behindInMarks gg r)
 |_=>false
def xN (T:kG):ā->kv
 |0=>λ_ _ _ _=>false
 |n+1=>λm sp e bJ=>if m then FW T (xN T n) sp e bJ else km T (xN T n) sp e bJ
def Bk (f:kv) (sp:ft) (e:Ā) (bJ:a2):ZI:=sm bJ (λl=>p1 e λes _=>all2 (f false sp) es l&&jc es&&tL es)||xO bJ λl=>s7 e λks vs _=>ks.isEmpty&&vs.isEmpty&&l.isEmpty
abbrev yy:=ft->HO Stmt->HO dE->ZI
def kL (st:Stmt) (k:Ā->Ā->ZI):ZI:=y5 st λaS e _=>fs aS λt=>k t e
def tj (sp:ft) (st:Stmt) (i:ā) (k:Ā->ZI):ZI:=kL st λt e=>e6 t λx _=>(sp.ns.lookup x==some i&&sp.b6 x)&&k e
def pM (st:Stmt) (m:Str) (k:Ā->Ā->ZI):ZI:=r3 st λc _=>kJ c λg args jb pg=>jJ g λdB x iq=>fs args λe=>(jb.isEmpty&&x==m&&(iq.endLine==pg.line))&&(!fG e&&k dB e)
def og (T:kG) (f:kv) (g:yy) (sp:ft) (st:Stmt) (b1:dE):ZI:=match b1 with
 |.set i bJ=>tj sp st i λe=>if iz e then wY f sp e bJ else f false sp e bJ
 |.own i bJ=>tj sp st i λe=>if iz e then wY f sp e bJ else Bk f sp e bJ
 |.ho l bJ=>kL st λt e=>n_ t λes _ _=>vx sp es l&&((!zh e&&f false sp e bJ)||n_ e λvs _ _=>im vs λa b=>im es λx y=>e6 x λx _=>e6 y λy _=>(!fG a&& !fG b&& !(x==y))&&(!(foldedForSure 8 a&&foldedForSure 8 b)&& !(constantsAlone 8 a&&constantsAlone 8 b)&&f false sp e bJ))
 |.fW o a bJ=>kL st λt e=>jJ t λdB x _=>(T.an a==x&&decide (a<33)&& !iz e)&&(f false sp e bJ&&f false sp dB o)
 |.jq o a bJ=>kL st λt e=>jJ t λdB x _=>(T.an a==x&&decide (a<33)&& !iz e)&&(Bk f sp e bJ&&f false sp dB o)
 |.nq o i bJ=>kL st λt e=>mb t λdB vS _=>(!iz e&&f false sp e bJ)&&(f false sp dB o&&f false sp vS i)
 |.jC i k bJ=>kL st λt e=>mb t λdB us _=>e6 dB λx _=>(pZ sp x i&& !iz e)&&(f false sp e bJ&&f false sp us k)
 |.app i bJ=>pM st "append" λdB e=>e6 dB λx _=>pZ sp x i&&f false sp e bJ
 |.ext i bJ=>pM st "extend" λdB e=>e6 dB λx _=>pZ sp x i&&f false sp e bJ
 |.m8 o bJ=>pM st "append" λdB e=> !lf dB&&f false sp dB o&&f false sp e bJ
 |.ex bJ=>r3 st λe _=> !iz e&&f false sp e bJ
 |.iff c t o=>yZ st λa b d _=>f true sp a c&&g sp b t&&g sp d o
 |.for bk aS it b=>wI st λtarget iter body I9 _=>(I9.isEmpty&&CE sp bk target aS&& !qc iter)&&(f false sp iter it&&g sp body b)
 |.ret bJ=>yS st λo _=>match o with
  |some e=>f false sp e bJ
  |none=>r8 bJ λv=>lu v .none
 |.a5 _=>false
 |.bad=>true
def lD (c:dE) (k:ā->ZI):ZI:=dE.casesOn (motive_1:=λ_=>ZI) c (λ_ _=>false) (λ_ _=>false) (λ_ _=>false) (λ_ _ _=>false) (λ_ _ _=>false) (λ_ _ _=>false) (λ_ _ _=>false) (λ_ _=>false) (λ_ _=>false) (λ_ _=>false) (λ_=>false) (λ_ _ _=>false) (λ_ _ _ _=>false) (λ_=>false) k false
theorem lD.of{c:dE}{k:ā->ZI}(h:lD c k=true):∃i,c=.a5 i/\k i=true:=by induction c using dE.casesOn<;>first|exact⟨_,rfl,h⟩|exact absurd h dR
def tZ (T:kG):ā->yy
 |0=>λ_ _ _=>false
 |n+1=>λsp cQ b1=>match b1 with
  |[]=>cQ.isEmpty
  |c::b1=>lD c (λi=>sp.ns.any (λp=>sp.ns.lookup p.1==some i)&&tZ T n sp cQ b1)||(match cQ with
   |[]=>false
   |st::cQ=>og T (xN T n) (tZ T n) sp st c&&tZ T n sp cQ b1)
set_option tactic.hygienic true
noncomputable abbrev cc.at (b:cc) (sp:ft):cc:={b with ns:=sp.ns,cB:=sp.cB,b6:=sp.b6,ky:=sp.ky}
def sK:f'->Zr
 |.len=>.builtin "len"|.sorted=>.builtin "sorted"|.tuple=>.type "tuple"|.any=>.builtin "any"|.all=>.builtin "all"|.str=>.type "str"|.int=>.type "int"
 |.p0=>.none|.index=>.none|.get=>.none
structure l8(b:cc)(T:kG)(A:Around)(ah:jK):Prop where
 mo:tC ah
 eY:A.handled=none
 a4:A.units+40<cLine
 ok:b.Ok
 an:T.an=b.N.an
 pl:∀x g,T.pl.lookup x=some g->∃a,b.gL x=some (.ref a)/\keepIn b.K (.ref a)=true/\nI b A (.ref a) (ah g)
 oQ:∀x v,T.oQ.lookup x=some v->∃V,b.gL x=some V/\bA b.P (fB b.H) v V
 gl:∀x be,T.gl.lookup x=some be->b.gL x=some (.ref<|b.N.cl be)/\keepIn b.K (.ref<|b.N.cl be)=true/\∀f,l4.AY be=some f->nI b A (.ref<|b.N.cl be) (Gq be<|ah f)
 qj:∀m name,T.qj[m]?=some name->(∀a,b.N.an a≠name)/\∀be f,l4.meths be m=some f->∃F,keepIn b.K (.ref F)=true/\findIn b.K (.ref<|b.N.cl be) "__getattribute__"=some (some<|.builtin "object.__getattribute__")/\findIn b.K (.ref<|b.N.cl be) "__getattr__"=some none/\findIn b.K (.ref<|b.N.cl be) name=some (some<|.ref F)/\typeIn b.K (.ref F)=some (.type "function")/\nI b A (.ref F) (ah f)
 bi:∀fl nm,qO fl=some nm->b.gL nm=none/\b.j7 nm=some (sK fl)
 inst:b.gL "isinstance"=none/\b.j7 "isinstance"=some (.builtin "isinstance")
 ey:b.gL "range"=none/\b.j7 "range"=some (.type "range")
theorem I7:∀{l:bH} {x y:Str} {i:ā},(l.map (·.2)).Nodup->l.lookup x=some i->l.lookup y=some i->x=y
 |[],_,_,_,_,h,_=>by simp at h
 |(n,j)::r,x,y,i,am,G,E=>by
  rw[gh,hV]at am;rw[kO]at G E;have out:∀z,r.lookup z=some i->i≠j:=λz hz q=>am.1 (by have:=fw (f:=λx:Str×ā=>x.2)<|mem_of_lookup hz;rwa[q]at this);induction b0:x==n with
  |true=>
   rw[b0]at G;cases G;induction bt:y==n with
   |true=>rw[fL.mp b0,fL.mp bt]
   |false=>rw[bt]at E;exact absurd rfl<|out y E
  |false=>
   rw[b0]at G;induction bt:y==n with
   |true=>rw[bt]at E;cases E;exact absurd rfl<|out x G
   |false=>rw[bt]at E;exact I7 am.2 G E
theorem cc.Ok.at{b:cc}(aX:b.Ok){sp:ft}(h:(sp.ns.map (·.2)).Nodup):(b.at sp).Ok:=⟨aX.sys,aX.q',aX.Ag,aX.ab,aX.inj,λx y i G E=>I7 h G E,aX.iI,aX.mT⟩
def i9(b:cc)(A:Around)(ah:jK)(f:kv):Prop:=∀sp e bJ,(sp.ns.map (·.2)).Nodup->(f false sp e bJ=true->Good (b.at sp) A e (cm ah bJ))/\(f true sp e bJ=true->j' (b.at sp) A e (vT<|cm ah bJ))
section
variable{b:cc}{T:kG}{A:Around}{ah:jK}{f:kv}{sp:ft}
theorem uY{x:Str}{i:ā}{pos:Pos}(h:pZ sp x i=true):dD (sp.ns.lookup x=some i) ((x==("__debug__":Str))=false) ((x==("__classdict__":Str))=false):=by replace h:=ch h;have E:=pG.mp<|fg h.2;exact⟨eI h.1,E.1,E.2⟩
theorem vInt.of{e:Ā}{k:Ă->ZI}(h:vInt e k=true):dJ λi a p=>e=.Constant (.int i) a p/\k i=true:=by
 replace h:=s3.of (k:=λc _ _=>EB k c) h;obtain⟨c,a,p,rfl,h⟩:=h;induction c with
 |int i=>exact⟨i,a,p,rfl,h⟩
 |_=>exact absurd h dR
theorem rd.of{e:Ā}{k:Ă->ZI}(h:rd e k=true):gS λi a p q=>e=.UnaryOp .USub (.Constant (.int i) a p) q/\k i=true:=by replace h:=qG.of (k:=λo e _=>o==.USub&&vInt e k) h;obtain⟨o,e,q,rfl,h⟩:=h;replace h:=ch h;obtain⟨i,a,p,rfl,E⟩:=vInt.of h.2;rw[eI h.1];exact⟨i,a,p,q,rfl,E⟩
theorem RB(F:l8 b T A ah)(am:(sp.ns.map (·.2)).Nodup){e:Ā}{v:B}(h:DV T sp e v=true):Good (b.at sp) A e λ_ J K=>K v J:=by
 replace h:=n2 h;rcases h with h|h
 .replace h:=n2 h;rcases h with h|h
  .replace h:=s3.of (k:=λc _ _=>Hg v c) h;obtain⟨c,a,p,rfl,h⟩:=h;induction c with
   |int i=>rw[m0 h];exact good_int
   |bool i=>rw[m0 h];exact good_bool
   |none=>rw[m0 h];exact good_none
   |str x=>have h:=ch h;rw[m0 h.2];exact good_str (aI (fj h.1)<|by decide)
   |_=>exact absurd h dR
  .replace h:=rd.of h;obtain⟨i,a,p,q,rfl,h⟩:=h;rw[m0 h];exact IZ good_int
 .replace h:=e6.of (k:=λx _=>sp.cB x&& !vK x&&mM (T.oQ.lookup x) λw=>lu w v) h;obtain⟨x,p,rfl,h⟩:=h;replace h:=e9 h;obtain⟨G,E,aC⟩:=h;replace aC:=mM.of aC;obtain⟨w,bF,aC⟩:=aC;obtain⟨V,b0,bt⟩:=F.oQ _ _ bF;exact ON (F.ok.at am) G b0 (pG.mp<|fg E).1<|m0 aC▸bt
theorem WK{bJ:a2}(h:F5 bJ=false)(r:aJ):Internal.peek r bJ=none:=by induction bJ using a2.casesOn<;>first|rfl|exact h7 h
theorem wv(H:i9 b A ah f)(am:(sp.ns.map (·.2)).Nodup){e:Ā}{bJ:a2}(h:sv f sp e bJ=true):ll (b.at sp) A e (za bJ<|cm ah bJ):=by
 replace h:=n2 h;rcases h with h|h
 .replace h:=u'.of (k:=λi=>e6 e λx _=>pZ sp x i) h;obtain⟨i,rfl,h⟩:=h;replace h:=e6.of (k:=λx _=>pZ sp x i) h;obtain⟨x,p,rfl,h⟩:=h;obtain⟨G,E,aC⟩:=uY (pos:=⟨0,0,0,0⟩) h;clear h;exact SD G E aC
 .replace h:=ch h;exact Nb ((H sp _ _ am).1 h.2) λr=>WK (fg h.1) r
theorem yT(H:i9 b A ah f)(am:(sp.ns.map (·.2)).Nodup){es:HO Ā}:∀{l:HO a2},jc es=true->all2 (f false sp) es l=true->kZ (b.at sp) A es (lq ah l)/\(es=[]->∀r J K,lq ah l r J K->K [] J):=by
 induction es with
 |nil=>intro l _ h;obtain rfl:=fU.mp h;exact⟨NG,λ_ _ _ _ e=>e⟩
 |cons e es ap=>
  intro l aK h;unfold jc at aK;rw[sU,eX,kn]at aK;induction l using List.casesOn with
  |nil=>exact absurd h dR
  |cons c l=>have h:=ch h;exact⟨Yo aK.1 ((H sp _ _ am).1 h.1) (ap aK.2 h.2).1,λq=>nomatch q⟩
theorem PG{es:HO Ā}(h:tL es=true):es.length<=a3:=aI (fj h) (by decide)
theorem B3{x:Z5 Ā}{i:Z5 Ă}{c:cc}(h:x7 x i=true):qL c A x i:=by
 induction x with
 |none=>
  induction i with
  |none=>exact .none
  |some i=>exact absurd h dR
 |some e=>
  replace h:=mM.of (k:=λj=>vInt e (λi=>i==j)||rd e λi=> -i==j) h;obtain⟨j,rfl,h⟩:=h;replace h:=n2 h;rcases h with h|h
  .replace h:=vInt.of h;obtain⟨i,a,p,rfl,h⟩:=h;rw[<-eI h];exact .some good_int
  .replace h:=rd.of h;obtain⟨i,a,p,q,rfl,h⟩:=h;rw[<-eI h];exact .some<|IZ good_int
theorem Nv(H:i9 b A ah f)(am:(sp.ns.map (·.2)).Nodup){ks:HO (Z5 Ā)}:∀{vs:HO Ā} {l:HO (a2×a2)},yc f sp ks vs l=true->dD (vN (b.at sp) A ks vs<|xz ah l) (ks.all (·.isSome)=true) (ks.length=vs.length):=by
 induction ks with
 |nil=>intro vs l h;have h:=ch h;obtain rfl:=fU.mp h.1;obtain rfl:=fU.mp h.2;exact⟨QS,rfl,rfl⟩
 |cons k ks ap=>
  intro vs l h;induction vs using List.casesOn with
  |nil=>exact absurd h dR
  |cons v vs=>induction l using List.casesOn with
   |nil=>exact absurd h dR
   |cons p l=>obtain⟨k,rfl,h⟩:=mM.of (k:=λk=>f false sp k p.1&&(f false sp v p.2&&yc f sp ks vs l)) h;have h:=ch h;have aR:=ch h.2;obtain⟨g,G,E⟩:=ap aR.2;exact⟨Rf ((H sp _ _ am).1 h.1) ((H sp _ _ am).1 aR.1) g,G,bI Nat.succ E⟩
end
set_option tactic.hygienic false
section
variable{b:cc}{T:kG}{A:Around}{ah:jK}{f:kv}{sp:ft}
theorem nU.any{fl:f'}{v:B}{p:Prop}(h:nU fl v p):p:=by
 induction fl using f'.casesOn with
 |index=>exact(kq.dw h).choose_spec.2
 |get=>exact(HV h).choose_spec.2
 |_=>exact h
theorem kp.weak{c:cc}{t:Env->Sem Zr}{w ru:dk}(g:kp c A t w)(h:∀r J K,ru r J K->w r J K):kp c A t ru:=λO s ac C r J k K Q I F e a'=>g O s ac C r J k K Q I F (h _ _ _ e) a'
theorem Q2(fl:f'):(match qO fl with|some nm=>(nm==("__debug__":Str))|none=>false)=false:=by induction fl using f'.casesOn<;>rfl
theorem Uv{c:cc}(aX:c.Ok)(eY:A.handled=none)(fl:f'):cond (qO fl).isNone True (((∃id,sK fl=.builtin id)\/∃T,sK fl=.type T)/\o8 c A (sK fl) (nY fl)):=by
 induction fl using f'.casesOn with
 |len=>exact⟨.inl ⟨_,rfl⟩,LR aX⟩
 |sorted=>exact⟨.inl ⟨_,rfl⟩,Sy aX eY⟩
 |tuple=>exact⟨.inr ⟨_,rfl⟩,XS⟩
 |any=>exact⟨.inl ⟨_,rfl⟩,Lj aX eY⟩
 |all=>exact⟨.inl ⟨_,rfl⟩,LB aX eY⟩
 |str=>exact⟨.inr ⟨_,rfl⟩,RV⟩
 |int=>exact⟨.inr ⟨_,rfl⟩,RR⟩
 |_=>trivial
theorem SR(F:l8 b T A ah)(H:i9 b A ah f)(am:(sp.ns.map (·.2)).Nodup){g:Ā}{args:HO Ā}{pos:Pos}{fl:f'}{l:HO a2}(h:(fs l λc=>fs args λag=>e6 g λx _=>(qO fl==some x&&sp.cB x)&&(!fG ag&&f false sp ag c))=true):Good (b.at sp) A (.Call g args [] pos) (cm ah<|.bi fl l):=by have aX:=F.ok.at am;replace h:=fs.of (l:=l) h;obtain⟨bJ,rfl,h⟩:=h;replace h:=fs.of (l:=args) h;obtain⟨ag,rfl,h⟩:=h;replace h:=e6.of (k:=λx _=>(qO fl==some x&&sp.cB x)&&(!fG ag&&f false sp ag bJ)) h;obtain⟨x,p,rfl,h⟩:=h;replace h:=ch h;have a:=ch h.1;have c:=ch h.2;have aU:=eI a.1;obtain⟨k5,pS⟩:=F.bi _ _ aU;have bg:=Q2 fl;have ok:=Uv aX F.eY fl;rw[aU]at bg ok;exact(MQ aX a.2 k5 pS bg (fg c.1) ((H sp _ _ am).1 c.2) ok.1 ok.2).weak λr J K h=>gy F.mo bJ r J _ _ (λv J h=>nU.any h)<|show cm ah bJ r J (Kv fl (lq ah []) r K)from h
theorem Ob(F:l8 b T A ah)(H:i9 b A ah f)(am:(sp.ns.map (·.2)).Nodup){e:Ā}{fl:f'}{l:HO a2}(h:Hx f sp fl l e=true):Good (b.at sp) A e (cm ah<|.bi fl l):=by
 have aX:=F.ok.at am;replace h:=kJ.of h;obtain⟨g,args,jb,pos,rfl,h⟩:=h;replace h:=ch h;cases fU.mp h.1;replace h:=h.2;induction fl using f'.casesOn with
 |p0=>
  replace h:=fs.of (l:=l) h;obtain⟨c,rfl,h⟩:=h;replace h:=im.of (l:=args) h;obtain⟨ag,t,rfl,h⟩:=h;replace h:=e6.of (e:=g) h;obtain⟨x,p,rfl,h⟩:=h;replace h:=e6.of (e:=t) h;obtain⟨y,q,rfl,h⟩:=h;replace h:=e9 h;obtain⟨G,E,aC⟩:=h;have a:=ch G;have c:=ch E;have d:=ch aC;rcases eI a.1 with rfl;rcases eI a.2 with rfl
  obtain⟨k5,pS⟩:=F.bi .str _ rfl;exact(We aX c.1 F.inst.1 F.inst.2 c.2 k5 pS (fg d.1)<|(H sp _ _ am).1 d.2)
 |index=>
  replace h:=im.of (l:=l) h;obtain⟨o,c,rfl,h⟩:=h;replace h:=fs.of (l:=args) h;obtain⟨ag,rfl,h⟩:=h;replace h:=jJ.of (e:=g) h;obtain⟨dB,x,iq,rfl,h⟩:=h;replace h:=ch h;obtain⟨G,E,aC⟩:=e9 h.1;obtain⟨ba,cN,d5⟩:=e9 h.2;rcases eI G with rfl
  exact(Rb F.a4 (fg E) (by simpa using aC) (fg ba) ((H sp _ _ am).1 cN)<|(H sp _ _ am).1 d5)
 |get=>
  replace h:=w8.of (l:=l) h;obtain⟨o,c,d,rfl,h⟩:=h;replace h:=im.of (l:=args) h;obtain⟨ag,a8,rfl,h⟩:=h;replace h:=jJ.of (e:=g) h;obtain⟨dB,x,iq,rfl,h⟩:=h;replace h:=e9 h;obtain⟨e1,fO,kD⟩:=h;obtain⟨G,E,aC⟩:=e9 e1;clear e1;have cV:=ch fO;obtain⟨ba,cN,d5⟩:=e9 kD;clear kD;rcases eI G with rfl
  exact(Oy aX F.a4 (fg E) (by simpa using aC) (fg cV.1) (fg cV.2) ((H sp _ _ am).1 ba) ((H sp _ _ am).1 cN)<|(H sp _ _ am).1 d5)
 |_=>exact SR F H am h
theorem wG{c:cc}(uO:c.ns=sp.ns)(uJ:c.b6=sp.b6):∀{es:HO Ā} {is:HO ā},vx sp es is=true->oS c es is
 |[],[],_=>.nil
 |[],_::_,h=>absurd h dR
 |e::es,[],h=>absurd h dR
 |e::es,i::is,h=>by replace h:=e6.of (k:=λx _=>(sp.ns.lookup x==some i&&sp.b6 x)&&vx sp es is) h;obtain⟨x,p,rfl,h⟩:=h;replace h:=ch h;have a:=ch h.1;exact .cons (by rw[uO];exact eI a.1) (by rw[uJ];exact a.2)<|wG uO uJ h.2
theorem FJ{c:cc}(uO:c.ns=sp.ns)(uJ:c.b6=sp.b6){bk:ZI}{e:Ā}{aS:HO ā}(h:CE sp bk e aS=true):mu c bk e aS:=by
 induction bk with
 |false=>replace h:=e6.of (e:=e) h;obtain⟨x,p,rfl,h⟩:=h;replace h:=fs.of (l:=aS) h;obtain⟨i,rfl,h⟩:=h;replace h:=ch h;exact .one (by rw[uO];exact eI h.1) (by rw[uJ];exact h.2)
 |true=>replace h:=n_.of (e:=e) h;obtain⟨es,k,p,rfl,h⟩:=h;exact .tup<|wG uO uJ h
structure Xl(c:cc)(A:Around)(e:Expr)(w:dk):Prop where
 good:Good c A e w
 L0:∀{x:Str} {eK o':Pos} {i:Nat},c.ns.lookup x=some i->c.b6 x=true->ga c A (.Assign [.Name x eK] e o') λr J K=>w r J<|pL i r K
 PQ:∀{x:Str} {eK o':Pos} {i:Nat},c.ns.lookup x=some i->c.b6 x=true->ga c A (.Assign [.Name x eK] e o') λr J K=>w r J<|uR i r K
theorem BF(F:l8 b T A ah)(H:i9 b A ah f)(am:(sp.ns.map (·.2)).Nodup){e:Ā}{bJ:a2}(h:wY f sp e bJ=true):Xl (b.at sp) A e (cm ah bJ):=by
 replace h:=xV.of (e:=e) h;obtain⟨gc,gens,scope,pos,rfl,h⟩:=h;replace h:=yg.of (e:=bJ) h;obtain⟨c,bk,aS,it,v1,rfl,h⟩:=h;replace h:=fs.of (l:=gens) h;obtain⟨⟨target,iter,ifs,as⟩,rfl,h⟩:=h;replace h:=ch h;have d5:=h.2;obtain⟨aU,G,aC⟩:=e9 h.1;replace G:=ch G;have E:=G.2;replace G:=G.1;replace aC:=e9 aC;obtain⟨aC,ba,cN⟩:=aC;replace aC:=fg aC;rcases eI aU with rfl
 unfold FL at G;simp only[eX,fL,jT,d',bne_iff_ne,lW,ne_eq]at G;obtain⟨⟨⟨⟨⟨fK,gz⟩,j_⟩,Ch⟩,Bd⟩,B1⟩:=G;have gJ:o2 ((b.at sp).comp (ka sp target aS scope).ns (ka sp target aS scope).cB (ka sp target aS scope).b6) A ifs (sT ah v1):=by
  induction ifs using List.casesOn with
  |nil=>cases fU.mp d5;exact NT
  |cons i l=>replace d5:=ch d5;cases fU.mp d5.1;obtain⟨AT,rfl,fp⟩:=fs.of (l:=v1) d5.2;exact Tj<|(H (ka sp target aS scope) i AT B1).2 fp
 have K:o5 (b.at sp) (ka sp target aS scope).ns (ka sp target aS scope).cB (ka sp target aS scope).b6 scope aS:={ok:=F.ok.at (sp:=⟨(ka sp target aS scope).ns,_,_⟩) B1,Bn:=λy a1=>fK y a1,kind:=gz,xI:=λy a1 e=>(j_ y a1).elim (λh=>absurd e h) λh=>h,free:=λy a1 e=>(Ch y a1).elim (λh=>absurd e h) λh=>h,vars:=λx i aA=>(Bd (x,i)<|mem_of_lookup aA).imp (λh=>⟨h.1,by simpa using h.2⟩) id,gl:=λx aA=>(by have g8:(scope.names.lookup x==some .globalImplicit)=true:=aA;simpa using g8),st:=λx aA=>(by have g8:(scope.names.lookup x==some .local||(false&&scope.names.lookup x==some .cell))=true:=aA;simpa using g8)};have hb:=FJ (c:=(b.at sp).comp (ka sp target aS scope).ns (ka sp target aS scope).cB (ka sp target aS scope).b6) rfl rfl E;have ge:=(H _ _ _ B1).1 cN;have gl:=wv H am ba;have aX:=F.ok.at am;exact⟨zV aX<|Cf aX K F.eY hb gJ ge gl aC,Tg aX K F.eY hb gJ ge gl aC,Rt aX K F.eY hb gJ ge gl aC⟩
end
section
variable{b:cc}{T:kG}{A:Around}{ah:jK}{f:kv}{sp:ft}
theorem WL(H:i9 b A ah f)(am:(sp.ns.map (·.2)).Nodup){pos:Pos}{es:HO Ā}:∀{l:HO a2},es≠[]->all2 (f false sp) es l=true->kp (b.at sp) A (λac=>boolOp pos .And<|evalEach es ac) (qo ah l):=by
 induction es with
 |nil=>exact λh _=>absurd rfl h
 |cons e es ap=>
  intro l _ h;cases l with
  |nil=>exact absurd h dR
  |cons c l=>
   have h:=ch h;have g:=(H sp _ _ am).1 h.1;cases es with
   |nil=>obtain rfl:=fU.mp h.2;exact V1 g
   |cons y es=>cases l with
    |nil=>exact absurd h.2 dR
    |cons d l=>exact Rg g<|ap (List.cons_ne_nil _ _) h.2
theorem RQ(H:i9 b A ah f)(am:(sp.ns.map (·.2)).Nodup){pos:Pos}{es:HO Ā}:∀{l:HO a2},es≠[]->all2 (f false sp) es l=true->kp (b.at sp) A (λac=>boolOp pos .Or<|evalEach es ac) (p9 ah l):=by
 induction es with
 |nil=>exact λh _=>absurd rfl h
 |cons e es ap=>
  intro l _ h;cases l with
  |nil=>exact absurd h dR
  |cons c l=>
   have h:=ch h;have g:=(H sp _ _ am).1 h.1;cases es with
   |nil=>obtain rfl:=fU.mp h.2;exact Y0 g
   |cons y es=>cases l with
    |nil=>exact absurd h.2 dR
    |cons d l=>exact Uq g<|ap (List.cons_ne_nil _ _) h.2
theorem ya{es:HO Ā}{l:HO a2}(H:i9 b A ah f)(am:(sp.ns.map (·.2)).Nodup)(h:(all2 (f false sp) es l&&jc es&&tL es)=true):kZ (b.at sp) A es (lq ah l)/\es.length<=a3:=by obtain⟨G,E,aC⟩:=e9 h;exact⟨(yT H am E G).1,PG aC⟩
theorem OL{F:Zr}{o:Z5 ā}{g:ā->q7}(h:∀f,o=some f->nI b A F (g f)):nI b A F λvs J K=>ay o λf=>g f vs J K:=λs C J vs Vs K R I af e k=>ay.dw e λf q e=>h f q s C J vs Vs K R I af e k
section
variable(F:l8 b T A ah)(H:i9 b A ah f)(am:(sp.ns.map (·.2)).Nodup)
include F H am
theorem Rh{e:Ā}{c:a2}{a:ā}(h:km T f sp e (.at c a)=true):Good (b.at sp) A e (cm ah<|.at c a):=by replace h:=jJ.of (e:=e) h;obtain⟨o,x,p,rfl,h⟩:=h;replace h:=ch h;obtain⟨G,E⟩:=h;replace G:=ch G;replace E:=ch E;exact SP (F.ok.at am) (fg G.1) (fj E.1) (by show b.N.an _=_;rw[<-F.an];exact eI G.2)<|(H sp _ _ am).1 E.2
theorem Mw{e:Ā}{c i:a2}(h:km T f sp e (.ao c i)=true):Good (b.at sp) A e (cm ah<|.ao c i):=by replace h:=mb.of (e:=e) h;obtain⟨o,s,p,rfl,h⟩:=h;obtain⟨G,E,aC⟩:=e9 h;clear h;exact Pc (by have:=F.a4;exact iY ‹_›) G (wv H am E)<|(H sp _ _ am).1 aC
theorem YF{e:Ā}{c:a2}{x y z:Z5 Ă}(h:km T f sp e (.aL c x y z)=true):Good (b.at sp) A e (cm ah<|.aL c x y z):=by replace h:=mb.of (e:=e) h;obtain⟨o,s,p,rfl,h⟩:=h;replace h:=tg.of (e:=s) h;obtain⟨lo,up,st,q,rfl,h⟩:=h;replace h:=ch h;obtain⟨G,E⟩:=h;replace G:=ch G;replace E:=ch E;exact S' ((H sp _ _ am).1 G.1) (B3 G.2) (B3 E.1)<|B3 E.2
theorem QH{e:Ā}{c i:a2}(h:km T f sp e (.sg c i)=true):Good (b.at sp) A e (cm ah<|.sg c i):=by replace h:=mb.of (e:=e) h;obtain⟨o,s,p,rfl,h⟩:=h;replace h:=tg.of (e:=s) h;obtain⟨lo,up,st,q,rfl,h⟩:=h;replace h:=mM.of (o:=lo) h;obtain⟨s,rfl,h⟩:=h;replace h:=ch h;obtain⟨G,E⟩:=h;replace G:=ch G;replace E:=ch E;cases pH.mp G.1;cases pH.mp G.2;exact K9 ((H sp _ _ am).1 E.1)<|(H sp _ _ am).1 E.2
theorem Pu{e:Ā}{c:a2}(h:km T f sp e (.box c)=true):Good (b.at sp) A e (cm ah<|.box c):=by replace h:=sm.of (e:=c) h;obtain⟨l,rfl,h⟩:=h;replace h:=p1.of (e:=e) h;obtain⟨es,p,rfl,h⟩:=h;obtain⟨g,aj⟩:=ya H am h;exact NE g aj
theorem OF{e:Ā}{l:HO (a2×a2)}(h:km T f sp e (.bb l)=true):Good (b.at sp) A e (cm ah<|.bb l):=by
 replace h:=s7.of (e:=e) h;obtain⟨ks,vs,p,rfl,h⟩:=h;replace h:=n2 h;rcases h with h|h
 .obtain⟨G,E,aC⟩:=e9 h;clear h;cases fU.mp G;cases fU.mp E;cases fU.mp aC;exact zV (F.ok.at am)<|F9<|F.ok.at am
 .obtain⟨fK,gz,j_⟩:=e9 h;clear h;obtain⟨g,G,E⟩:=Nv H am gz;exact Yh (by have:=F.a4;exact iY ‹_›) (F.ok.at am).sys G E (by rintro rfl;exact cH fK) (fj j_) g
theorem Sp{e:Ā}{o:kj}{x y:a2}(h:km T f sp e (.bin o x y)=true):Good (b.at sp) A e (cm ah<|.bin o x y):=by
 replace h:=xX.of (e:=e) h;obtain⟨l,gg,r,p,rfl,h⟩:=h;obtain⟨aU,G,E⟩:=e9 h;clear h;rcases eI aU with rfl
 exact YC ((H sp _ _ am).1 G) ((H sp _ _ am).1 E)<|OE _
theorem SF{e:Ā}{c:a2}{l:HO (h0×a2)}(h:km T f sp e (.cmp c l)=true):Good (b.at sp) A e (cm ah<|.cmp c l):=by
 replace h:=tb.of (e:=e) h;obtain⟨le,ops,na,p,rfl,h⟩:=h;induction l using List.casesOn with
 |nil=>exact absurd h dR
 |cons p l=>
 obtain⟨o,d⟩:=p;induction l using List.casesOn with
 |nil=>
  replace h:=fs.of (l:=ops) h;obtain⟨gg,rfl,h⟩:=h;replace h:=fs.of (l:=na) h;obtain⟨r,rfl,h⟩:=h;replace h:=ch h;obtain⟨G,E⟩:=h;replace G:=ch G;replace E:=ch E;rcases eI G.1 with rfl
  exact XB ((H sp _ _ am).1 G.2) (yd F.a4 (F.ok.at am).sys _) (wv H am E.1)<|fg E.2
 |cons p l=>obtain⟨cw,m'⟩:=p;replace h:=ch h;cases fU.mp h.1;replace h:=h.2;replace h:=im.of (l:=ops) h;obtain⟨gg,Dz,rfl,h⟩:=h;replace h:=im.of (l:=na) h;obtain⟨r,b2,rfl,h⟩:=h;replace h:=ch h;obtain⟨G,E⟩:=h;replace G:=ch G;obtain⟨aU,G⟩:=G;replace aU:=ch aU;obtain⟨fK,gz,j_⟩:=e9 G;clear G;obtain⟨ba,cN,d5⟩:=e9 E;clear E;rcases eI aU.1 with rfl;rcases eI aU.2 with rfl;exact S3 ((H sp _ _ am).1 fK) (yd F.a4 (F.ok.at am).sys _) ((H sp _ _ am).1 gz) (wv H am j_) (yd F.a4 (F.ok.at am).sys _) ⟨(by rintro rfl;exact cH ba),(by rintro rfl;exact cH cN)⟩<|fg d5
theorem Xb{e:Ā}{c x y:a2}(h:km T f sp e (.ite c x y)=true):Good (b.at sp) A e (cm ah<|.ite c x y):=by replace h:=ts.of (e:=e) h;obtain⟨u,v,w,p,rfl,h⟩:=h;obtain⟨G,E,aC⟩:=e9 h;clear h;exact NS ((H sp _ _ am).2 G) ((H sp _ _ am).1 E)<|(H sp _ _ am).1 aC
theorem UF{e:Ā}{g:ā}{l:HO a2}(h:km T f sp e (.call g l)=true):Good (b.at sp) A e (cm ah<|.call g l):=by replace h:=kJ.of (e:=e) h;obtain⟨c,args,jb,p,rfl,h⟩:=h;replace h:=e6.of (e:=c) h;obtain⟨x,q,rfl,h⟩:=h;replace h:=ch h;obtain⟨G,E⟩:=h;replace G:=e9 G;obtain⟨aU,G,l0⟩:=G;obtain⟨aC,ba,cN⟩:=e9 E;clear E;cases fU.mp aU;obtain⟨a,b0,bt,dN⟩:=F.pl _ _<|eI aC;obtain⟨g,aj⟩:=yT H am ba cN;exact Ep (F.ok.at am) G b0 (pG.mp<|fg l0).1 ba bt g (aj) dN
theorem Qg{e:Ā}{c:ā}{l:HO a2}(h:km T f sp e (.new c l)=true):Good (b.at sp) A e (cm ah<|.new c l):=by replace h:=kJ.of (e:=e) h;obtain⟨d,args,jb,p,rfl,h⟩:=h;replace h:=e6.of (e:=d) h;obtain⟨x,q,rfl,h⟩:=h;replace h:=ch h;obtain⟨G,E⟩:=h;replace G:=e9 G;obtain⟨aU,G,l0⟩:=G;obtain⟨aC,ba,cN⟩:=e9 E;clear E;cases fU.mp aU;obtain⟨b0,bt,dN⟩:=F.gl _ _<|eI aC;obtain⟨g,aj⟩:=yT H am ba cN;exact Ep (F.ok.at am) G b0 (pG.mp<|fg l0).1 ba bt g aj<|OL dN
theorem YX{e:Ā}{o:a2}{m:ā}{l:HO a2}(h:km T f sp e (.cR o m l)=true):Good (b.at sp) A e (cm ah<|.cR o m l):=by replace h:=kJ.of (e:=e) h;obtain⟨d,args,jb,p,rfl,h⟩:=h;replace h:=jJ.of (e:=d) h;obtain⟨dB,x,iq,rfl,h⟩:=h;replace h:=ch h;obtain⟨G,E⟩:=h;replace G:=ch G;obtain⟨aU,G⟩:=G;obtain⟨AJ,fK,gz⟩:=e9 aU;clear aU;obtain⟨aC,ba,cN⟩:=e9 G;clear G;replace E:=ch E;cases fU.mp AJ;obtain⟨b0,bt⟩:=F.qj _ _<|eI cN;obtain⟨g,aj⟩:=yT H am ba E.2;exact Wf (cR:=λbe=>l4.meths be _) (gB:=ah) (F.ok.at am) (fg fK) (fj aC) (by simpa using gz) ba b0 ((H sp _ _ am).1 E.1) g (aj) bt
theorem XT{e:Ā}{x y:a2}(h:km T f sp e (.ey x y)=true):Good (b.at sp) A e (cm ah<|.ey x y):=by
 replace h:=kJ.of (e:=e) h;obtain⟨d,args,jb,p,rfl,h⟩:=h;replace h:=e6.of (e:=d) h;obtain⟨z,q,rfl,h⟩:=h;replace h:=ch h;obtain⟨G,E⟩:=h;replace G:=e9 G;obtain⟨aU,aC,ba⟩:=G;cases fU.mp aU;rcases eI aC with rfl
 replace E:=n2 E;rcases E with h|h
 .replace h:=fs.of (l:=args) h;obtain⟨ag,rfl,h⟩:=h;replace h:=ch h;obtain⟨G,E⟩:=h;replace G:=ch G;obtain⟨G,aC⟩:=G;replace aC:=r8.of (e:=x) aC;obtain⟨v,rfl,aC⟩:=aC;rcases m0 aC with rfl
  exact TZ (F.ok.at am) ba F.ey.1 F.ey.2 (fg G)<|(H sp _ _ am).1 E
 .replace h:=im.of (l:=args) h;obtain⟨ag,a8,rfl,h⟩:=h;replace h:=ch h;obtain⟨G,E⟩:=h;replace G:=ch G;replace E:=ch E;exact M1 (F.ok.at am) ba F.ey.1 F.ey.2 (fg G.1) (fg G.2) ((H sp _ _ am).1 E.1)<|(H sp _ _ am).1 E.2
end
theorem Za(F:l8 b T A ah)(H:i9 b A ah f)(am:(sp.ns.map (·.2)).Nodup){e:Ā}{bJ:a2}(h:km T f sp e bJ=true):Good (b.at sp) A e (cm ah bJ):=by
 induction bJ using a2.casesOn with
 |k v=>exact RB F am h
 |v i=>replace h:=e6.of (e:=e) h;obtain⟨x,p,rfl,h⟩:=h;obtain⟨G,E,aC⟩:=uY (pos:=⟨0,0,0,0⟩) h;clear h;exact XZ G E aC
 |«at» c a=>exact Rh F H am h
 |ao=>exact Mw F H am h
 |aL=>exact YF F H am h
 |sg=>exact QH F H am h
 |box=>exact Pu F H am h
 |tup l=>replace h:=n_.of (e:=e) h;obtain⟨es,k,p,rfl,h⟩:=h;obtain⟨g,aj⟩:=ya H am h;exact UR g aj
 |lst l=>replace h:=p1.of (e:=e) h;obtain⟨es,p,rfl,h⟩:=h;obtain⟨g,aj⟩:=ya H am h;exact QV g aj
 |bb=>exact OF F H am h
 |bin=>exact Sp F H am h
 |not c=>
  replace h:=qG.of (e:=e) h;obtain⟨o,e,p,rfl,h⟩:=h;replace h:=ch h;rcases eI h.1 with rfl
  exact Mk<|(H sp _ _ am).1 h.2
 |cmp=>exact SF F H am h
 |an l=>replace h:=n0.of (e:=e) h;obtain⟨o,es,p,rfl,h⟩:=h;obtain⟨aU,G,E⟩:=e9 h;clear h;cases eI aU;exact Hm<|WL H am (by rintro rfl;exact cH G) E
 |or l=>replace h:=n0.of (e:=e) h;obtain⟨o,es,p,rfl,h⟩:=h;obtain⟨aU,G,E⟩:=e9 h;clear h;cases eI aU;exact Hm<|RQ H am (by rintro rfl;exact cH G) E
 |ite=>exact Xb F H am h
 |call=>exact UF F H am h
 |new=>exact Qg F H am h
 |cR=>exact YX F H am h
 |bi=>exact Ob F H am h
 |ey=>exact XT F H am h
 |comp=>exact(BF F H am h).good
 |bad=>exact λO s ac C r J k K Q I F e h=>e.elim
def CV(ah:jK):HO a2->he
 |[]=>λ_ J K=>K true J
 |c::l=>λr J K=>vT (cm ah c) r J λb J=>kN (CV ah l r J K) (K false J) b
def CG(ah:jK):HO a2->he
 |[]=>λ_ J K=>K false J
 |c::l=>λr J K=>vT (cm ah c) r J λb J=>kN (K true J) (CG ah l r J K) b
theorem JW{o:Z5 ZI}{p q:Prop}{k:ZI->Prop}(dX:k true->p)(a7:k false->q)(h:ay o k):ay o λb=>kN p q b:=by
 induction o with
 |none=>exact h
 |some b=>induction b using Bool.casesOn;exact a7 h;exact dX h
theorem Ms{o:Z5 ZI}{p ev:Prop}{k:ZI->Prop}(f:p->ev)(h:bj o p (ay o k)):ay o λb=>kN ev (k false) b:=by
 induction o with
 |none=>exact h
 |some b=>induction b using Bool.casesOn;exact h;exact f h
theorem Zg{o:Z5 ZI}{p ev:Prop}{k:ZI->Prop}(f:p->ev)(h:bj o (ay o k) p):ay o λb=>kN (k true) ev b:=by
 induction o with
 |none=>exact h
 |some b=>induction b using Bool.casesOn;exact f h;exact h
theorem Un(cf:tC ah){l:HO a2}:∀{r:aJ} {J:St} {K:ZI->St->Prop},qo ah l r J (λv J=>ay (je v) λb=>K b J)->CV ah l r J K:=by
 induction l with
 |nil=>exact λh=>h.elim
 |cons c l ap=>
  intro r J K h;induction l using List.casesOn with
  |nil=>exact gy cf c _ _ _ _ (λv J h=>JW id id h) h
  |cons d l=>exact gy cf c _ _ _ _ (λv J h=>Ms ap h) h
theorem L'(cf:tC ah){l:HO a2}:∀{r:aJ} {J:St} {K:ZI->St->Prop},p9 ah l r J (λv J=>ay (je v) λb=>K b J)->CG ah l r J K:=by
 induction l with
 |nil=>exact λh=>h.elim
 |cons c l ap=>
  intro r J K h;induction l using List.casesOn with
  |nil=>exact gy cf c _ _ _ _ (λv J h=>JW id id h) h
  |cons d l=>exact gy cf c _ _ _ _ (λv J h=>Zg ap h) h
theorem VU(H:i9 b A ah f)(am:(sp.ns.map (·.2)).Nodup){es:HO Ā}:∀{l:HO a2},all2 (f true sp) es l=true->pm (b.at sp) A .And es (CV ah l):=by
 induction es with
 |nil=>intro l h;obtain rfl:=fU.mp h;exact NY
 |cons e es ap=>
  intro l h;cases l with
  |nil=>exact absurd h dR
  |cons c l=>have h:=ch h;exact Rs ((H sp _ _ am).2 h.1)<|ap h.2
theorem R3(H:i9 b A ah f)(am:(sp.ns.map (·.2)).Nodup){es:HO Ā}:∀{l:HO a2},all2 (f true sp) es l=true->pm (b.at sp) A .Or es (CG ah l):=by
 induction es with
 |nil=>intro l h;obtain rfl:=fU.mp h;exact YQ
 |cons e es ap=>
  intro l h;cases l with
  |nil=>exact absurd h dR
  |cons c l=>have h:=ch h;exact Ye ((H sp _ _ am).2 h.1)<|ap h.2
theorem qm.weak{c:cc}{t:Env->Sem ZI}{w ru:he}(g:qm c A t w)(h:∀r J K,ru r J K->w r J K):qm c A t ru:=λO s ac C r J k K Q I F e a'=>g O s ac C r J k K Q I F (h _ _ _ e) a'
theorem P1(F:l8 b T A ah)(H:i9 b A ah f)(am:(sp.ns.map (·.2)).Nodup){e:Ā}{bJ:a2}(h:FW T f sp e bJ=true):j' (b.at sp) A e (vT<|cm ah bJ):=by
 replace h:=n2 h;rcases h with h|h
 .replace h:=ch h;exact Mj h.1<|(H sp _ _ am).1 h.2
 induction bJ using a2.casesOn with
 |bad=>exact λO s ac C r J k K Q I F e h=>e.elim
 |not c=>
  replace h:=qG.of (e:=e) h;obtain⟨o,e,p,rfl,h⟩:=h;replace h:=ch h;obtain⟨aU,h⟩:=h;rcases eI aU with rfl
  exact Nt<|(H sp _ _ am).2 h
 |an l=>
  replace h:=n0.of (e:=e) h;obtain⟨o,es,p,rfl,h⟩:=h;obtain⟨aU,G,E⟩:=e9 h;clear h;rcases eI aU with rfl
  exact(HB<|VU H am E).weak λr J K e=>Un F.mo e
 |or l=>
  replace h:=n0.of (e:=e) h;obtain⟨o,es,p,rfl,h⟩:=h;obtain⟨aU,G,E⟩:=e9 h;clear h;rcases eI aU with rfl
  exact(HB<|R3 H am E).weak λr J K e=>L' F.mo e
 |ite c x y=>replace h:=ts.of (e:=e) h;obtain⟨u,v,w,p,rfl,h⟩:=h;obtain⟨G,E,aC⟩:=e9 h;clear h;exact Lx ((H sp _ _ am).2 G) ((H sp _ _ am).2 E)<|(H sp _ _ am).2 aC
 |cmp c l=>
  replace h:=fs.of (l:=l) h;obtain⟨⟨o,d⟩,rfl,h⟩:=h;replace h:=tb.of (e:=e) h;obtain⟨le,ops,na,p,rfl,h⟩:=h;replace h:=fs.of (l:=ops) h;obtain⟨gg,rfl,h⟩:=h;replace h:=fs.of (l:=na) h;obtain⟨r,rfl,h⟩:=h;replace h:=ch h;obtain⟨G,E⟩:=h;replace G:=ch G;replace E:=ch E;rcases eI G.1 with rfl
  exact P2 ((H sp _ _ am).1 G.2) (yd F.a4 (F.ok.at am).sys _) (wv H am E.1)<|fg E.2
 |_=>exact absurd h dR
theorem Dh(F:l8 b T A ah):∀n,i9 b A ah<|xN T n
 |0=>λsp e bJ am=>⟨λh=>absurd h dR,λh=>absurd h dR⟩
 |n+1=>λsp e bJ am=>⟨λh=>Za F (Dh F n) am h,λh=>P1 F (Dh F n) am h⟩
end
set_option tactic.hygienic true
def FV(b:cc)(A:Around)(ah:jK)(g:yy):Prop:=∀sp cQ b1,(sp.ns.map (·.2)).Nodup->g sp cQ b1=true->mI (b.at sp) A cQ (ke ah b1)
section
variable{b:cc}{T:kG}{A:Around}{ah:jK}{f:kv}{g:yy}{sp:ft}
theorem JY(F:l8 b T A ah)(H:i9 b A ah f)(am:(sp.ns.map (·.2)).Nodup){e:Ā}{bJ:a2}(h:Bk f sp e bJ=true):pK (b.at sp) A e (cm ah bJ)/\iz e=false:=by
 replace h:=n2 h;rcases h with h|h
 .replace h:=sm.of (e:=bJ) h;obtain⟨l,rfl,h⟩:=h;replace h:=p1.of (e:=e) h;obtain⟨es,p,rfl,h⟩:=h;obtain⟨g,aj⟩:=ya H am h;exact⟨X' g aj,rfl⟩
 .replace h:=xO.of (e:=bJ) h;obtain⟨l,rfl,h⟩:=h;replace h:=s7.of (e:=e) h;obtain⟨ks,vs,p,rfl,h⟩:=h;obtain⟨G,E,aC⟩:=e9 h;clear h;cases fU.mp G;cases fU.mp E;cases fU.mp aC;exact⟨F9<|F.ok.at am,rfl⟩
theorem kL.of{st:Stmt}{k:Ā->Ā->ZI}(h:kL st k=true):dJ λt e p=>st=.Assign [t] e p/\k t e=true:=by replace h:=y5.of (e:=st) h;obtain⟨aS,e,p,rfl,h⟩:=h;replace h:=fs.of (l:=aS) h;obtain⟨t,rfl,h⟩:=h;exact⟨t,e,p,rfl,h⟩
theorem tj.of{st:Stmt}{i:ā}{k:Ā->ZI}(h:tj sp st i k=true):gS λx q e p=>hZ (st=.Assign [.Name x q] e p) (sp.ns.lookup x=some i) (sp.b6 x=true) (k e=true):=by replace h:=kL.of (st:=st) h;obtain⟨t,e,p,rfl,h⟩:=h;replace h:=e6.of (e:=t) h;obtain⟨x,q,rfl,h⟩:=h;replace h:=ch h;obtain⟨G,E⟩:=h;replace G:=ch G;exact⟨x,q,e,p,rfl,eI G.1,G.2,E⟩
theorem pM.of{st:Stmt}{m:Str}{k:Ā->Ā->ZI}(h:pM st m k=true):tB λdB e iq pg p=>hZ (st=.Expr (.Call (.Attribute dB m iq) [e] [] pg) p) ((iq.endLine==pg.line)=true) (fG e=false) (k dB e=true):=by replace h:=r3.of (e:=st) h;obtain⟨c,p,rfl,h⟩:=h;replace h:=kJ.of (e:=c) h;obtain⟨g,args,jb,pg,rfl,h⟩:=h;replace h:=jJ.of (e:=g) h;obtain⟨dB,x,iq,rfl,h⟩:=h;replace h:=fs.of (l:=args) h;obtain⟨e,rfl,h⟩:=h;replace h:=ch h;obtain⟨G,E⟩:=h;replace G:=e9 G;obtain⟨aU,G,aC⟩:=G;replace E:=ch E;cases fU.mp aU;induction eI G;exact⟨dB,e,iq,pg,p,rfl,aC,fg E.1,E.2⟩
section
variable(F:l8 b T A ah)(H:i9 b A ah f)(am:(sp.ns.map (·.2)).Nodup)
include F H am
theorem YN{st:Stmt}{l:HO ā}{bJ:a2}(h:og T f g sp st (.ho l bJ)=true):ga (b.at sp) A st (lS ah<|.ho l bJ):=by
 replace h:=kL.of (st:=st) h;obtain⟨t,e,p,rfl,h⟩:=h;replace h:=n_.of (e:=t) h;obtain⟨es,k,q,rfl,h⟩:=h;replace h:=ch h;obtain⟨aU,h⟩:=h;replace h:=n2 h;rcases h with h|h
 .replace h:=ch h;exact W2 (F.ok.at am) F.eY (.tup<|wG (c:=b.at sp) rfl rfl aU) (fg h.1)<|(H sp _ _ am).1 h.2
 .replace h:=n_.of (e:=e) h;obtain⟨vs,p2,qA,rfl,h⟩:=h;replace h:=im.of (l:=vs) h;obtain⟨v,w,rfl,h⟩:=h;replace h:=im.of (l:=es) h;obtain⟨x,y,rfl,h⟩:=h;replace h:=e6.of (e:=x) h;obtain⟨x,eK,rfl,h⟩:=h;replace h:=e6.of (e:=y) h;obtain⟨y,oz,rfl,h⟩:=h;replace h:=ch h;obtain⟨G,E⟩:=h;replace G:=e9 G;obtain⟨G,aC,ba⟩:=G;replace E:=e9 E;obtain⟨cN,d5,fp⟩:=E;have dX:oS (b.at sp) _ _:=wG (c:=b.at sp) rfl rfl aU;cases dX with|cons e1 fO jD=>
  cases jD with|cons kD kd t6=>
  cases t6 with|nil=>
  exact To (F.ok.at am) F.eY e1 kD fO kd (fg G) (fg aC) (fg ba) (fg cN) (fg d5)<|(H sp _ _ am).1 fp
theorem Wx{st:Stmt}{o:a2}{a:ā}{bJ:a2}(h:og T f g sp st (.fW o a bJ)=true):ga (b.at sp) A st (lS ah<|.fW o a bJ):=by replace h:=kL.of (st:=st) h;obtain⟨t,e,p,rfl,h⟩:=h;replace h:=jJ.of (e:=t) h;obtain⟨dB,x,q,rfl,h⟩:=h;replace h:=ch h;obtain⟨G,E⟩:=h;obtain⟨fK,gz,j_⟩:=e9 G;clear G;replace E:=ch E;exact Qh (F.ok.at am) (fj gz) (by show b.N.an _=_;rw[<-F.an];exact eI fK) (fg j_) ((H sp _ _ am).1 E.1)<|(H sp _ _ am).1 E.2
theorem Tt{st:Stmt}{o:a2}{a:ā}{bJ:a2}(h:og T f g sp st (.jq o a bJ)=true):ga (b.at sp) A st (lS ah<|.jq o a bJ):=by replace h:=kL.of (st:=st) h;obtain⟨t,e,p,rfl,h⟩:=h;replace h:=jJ.of (e:=t) h;obtain⟨dB,x,q,rfl,h⟩:=h;replace h:=ch h;obtain⟨G,E⟩:=h;obtain⟨fK,gz,j_⟩:=e9 G;clear G;replace E:=ch E;exact P_ (F.ok.at am) (fj gz) (by show b.N.an _=_;rw[<-F.an];exact eI fK) (fg j_) (JY F H am E.1).1<|(H sp _ _ am).1 E.2
theorem TH{st:Stmt}{o i bJ:a2}(h:og T f g sp st (.nq o i bJ)=true):ga (b.at sp) A st (lS ah<|.nq o i bJ):=by replace h:=kL.of (st:=st) h;obtain⟨t,e,p,rfl,h⟩:=h;replace h:=mb.of (e:=t) h;obtain⟨dB,vS,q,rfl,h⟩:=h;replace h:=ch h;obtain⟨G,E⟩:=h;replace G:=ch G;replace E:=ch E;exact Wo (by have:=F.a4;exact iY ‹_›) (fg G.1) ((H sp _ _ am).1 G.2) ((H sp _ _ am).1 E.1) ((H sp _ _ am).1 E.2)<|F.ok.at am
theorem Vy{st:Stmt}{i:ā}{k bJ:a2}(h:og T f g sp st (.jC i k bJ)=true):ga (b.at sp) A st (lS ah<|.jC i k bJ):=by replace h:=kL.of (st:=st) h;obtain⟨t,e,p,rfl,h⟩:=h;replace h:=mb.of (e:=t) h;obtain⟨dB,us,q,rfl,h⟩:=h;replace h:=e6.of (e:=dB) h;obtain⟨x,eK,rfl,h⟩:=h;replace h:=ch h;obtain⟨G,E⟩:=h;replace G:=ch G;replace E:=ch E;obtain⟨fK,gz,j_⟩:=uY (pos:=⟨0,0,0,0⟩) G.1;exact Vz (by have:=F.a4;exact iY ‹_›) fK gz j_ (fg G.2) ((H sp _ _ am).1 E.1) ((H sp _ _ am).1 E.2)<|F.ok.at am
theorem PO{st:Stmt}{i:ā}{bJ:a2}(h:og T f g sp st (.app i bJ)=true):ga (b.at sp) A st (lS ah<|.app i bJ):=by replace h:=pM.of (st:=st) h;obtain⟨dB,e,iq,pg,p,rfl,ba,cN,h⟩:=h;replace h:=e6.of (e:=dB) h;obtain⟨x,eK,rfl,h⟩:=h;replace h:=ch h;obtain⟨G,E,aC⟩:=uY (pos:=⟨0,0,0,0⟩) h.1;exact WS G E aC (by simpa using ba) cN ((H sp _ _ am).1 h.2)<|F.ok.at am
theorem LD{st:Stmt}{i:ā}{bJ:a2}(h:og T f g sp st (.ext i bJ)=true):ga (b.at sp) A st (lS ah<|.ext i bJ):=by replace h:=pM.of (st:=st) h;obtain⟨dB,e,iq,pg,p,rfl,ba,cN,h⟩:=h;replace h:=e6.of (e:=dB) h;obtain⟨x,eK,rfl,h⟩:=h;replace h:=ch h;obtain⟨G,E,aC⟩:=uY (pos:=⟨0,0,0,0⟩) h.1;exact Yk G E aC (by simpa using ba) cN ((H sp _ _ am).1 h.2)<|F.ok.at am
theorem VJ{st:Stmt}{o bJ:a2}(h:og T f g sp st (.m8 o bJ)=true):ga (b.at sp) A st (lS ah<|.m8 o bJ):=by replace h:=pM.of (st:=st) h;obtain⟨dB,e,iq,pg,p,rfl,ba,cN,h⟩:=h;replace h:=e9 h;obtain⟨G,E,aC⟩:=h;exact Ri (fg G) (by simpa using ba) cN ((H sp _ _ am).1 E) ((H sp _ _ am).1 aC)<|F.ok.at am
end
theorem Pm(F:l8 b T A ah)(H:i9 b A ah f)(cS:FV b A ah g)(am:(sp.ns.map (·.2)).Nodup){st:Stmt}{b1:dE}(h:og T f g sp st b1=true):ga (b.at sp) A st (lS ah b1):=by
 induction b1 using dE.casesOn with
 |set i bJ=>
  replace h:=tj.of (st:=st) h;obtain⟨x,q,e,p,rfl,G,E,aC⟩:=h;induction aq:iz e using Bool.casesOn with
  |true=>rw[aq]at aC;exact(BF F H am aC).L0 G E
  |false=>rw[aq]at aC;exact Lu (F.ok.at am) aq G E<|(H sp _ _ am).1 aC
 |own i bJ=>
  replace h:=tj.of (st:=st) h;obtain⟨x,q,e,p,rfl,G,E,aC⟩:=h;cases aq:iz e with
  |true=>rw[aq]at aC;exact(BF F H am aC).PQ G E
  |false=>rw[aq]at aC;obtain⟨fK,gz⟩:=JY F H am aC;exact RG (F.ok.at am) gz G E fK
 |ho=>exact YN F H am h
 |fW=>exact Wx F H am h
 |jq=>exact Tt F H am h
 |nq=>exact TH F H am h
 |jC=>exact Vy F H am h
 |app=>exact PO F H am h
 |ext=>exact LD F H am h
 |m8=>exact VJ F H am h
 |ex bJ=>replace h:=r3.of (e:=st) h;obtain⟨e,p,rfl,h⟩:=h;replace h:=ch h;exact LP (fg h.1)<|(H sp _ _ am).1 h.2
 |iff c x y=>replace h:=yZ.of (e:=st) h;obtain⟨u,v,w,p,rfl,h⟩:=h;obtain⟨G,E,aC⟩:=e9 h;clear h;exact Yc ((H sp _ _ am).2 G) (cS sp _ _ am E)<|cS sp _ _ am aC
 |«for» bk aS it qx=>replace h:=wI.of (e:=st) h;obtain⟨hb,iter,body,I9,p,rfl,h⟩:=h;replace h:=ch h;obtain⟨G,E⟩:=h;obtain⟨fK,gz,j_⟩:=e9 G;clear G;replace E:=ch E;cases fU.mp fK;exact Ss (F.ok.at am) F.eY (FJ (c:=b.at sp) rfl rfl gz) (fg j_) ((H sp _ _ am).1 E.1)<|cS sp _ _ am E.2
 |ret bJ=>
  replace h:=yS.of (e:=st) h;obtain⟨o,p,rfl,h⟩:=h;induction o with
  |some e=>exact Vl<|(H sp _ _ am).1 h
  |none=>
   replace h:=r8.of (e:=bJ) h;obtain⟨v,rfl,h⟩:=h;rcases m0 h with rfl
   exact MH
 |a5=>exact absurd h dR
 |bad=>exact λO s ac C r J k K Q I hi e a'=>e.elim
theorem DT(F:l8 b T A ah):∀n,FV b A ah<|tZ T n
 |0=>λsp cQ b1 am h=>absurd h dR
 |n+1=>λsp cQ b1 am h=>by
  have ap:=DT F n;induction b1 using List.casesOn with
  |nil=>cases fU.mp h;exact RO
  |cons c b1=>
   replace h:=n2 h;rcases h with h|h
   .replace h:=lD.of (c:=c) h;obtain⟨i,rfl,h⟩:=h;replace h:=ch h;obtain⟨G,E⟩:=h;obtain⟨p,ae,aB⟩:=tN.mp G;clear G;exact QI (F.ok.at am) ⟨p.1,eI aB⟩<|ap sp _ _ am E
   .induction cQ with
    |nil=>exact absurd h dR
    |cons st cQ=>replace h:=ch h;exact M_ (Pm F (Dh F n) ap am h.1)<|ap sp _ _ am h.2
end
set_option tactic.hygienic false
structure FD(b:cc)(T:kG)(fF:Nat->Addr)(sp:Nat->ft):Prop where
 ok:b.Ok
 an:T.an=b.N.an
 defs:∀f h1,l4.fns f=some h1->gS λeJ body names cP=>hZ (Jb (b.at<|sp f) (fF f) eJ body names h1.lJ h1.dflt cP) (names.length=h1.np) (tZ T 200 (sp f) body h1.body=true)<|((sp f).ns.map (·.2)).Nodup
 pl:∀x g,T.pl.lookup x=some g->b.gL x=some (.ref<|fF g)/\keepIn b.K (.ref<|fF g)=true
 oQ:∀x v,T.oQ.lookup x=some v->∃V,b.gL x=some V/\bA b.P (fB b.H) v V
 gl:∀x be,T.gl.lookup x=some be->b.gL x=some (.ref<|b.N.cl be)/\keepIn b.K (.ref<|b.N.cl be)=true/\∀f,l4.AY be=some f->be<7/\makesIn b.K (b.N.cl be)=true/\findIn b.K (.ref<|b.N.cl be) "__init__"=some (some<|.ref<|fF f)/\typeIn b.K (.ref<|fF f)=some (.type "function")
 qj:∀m name,T.qj[m]?=some name->(∀a,b.N.an a≠name)/\∀be f,l4.meths be m=some f->keepIn b.K (.ref<|fF f)=true/\findIn b.K (.ref<|b.N.cl be) "__getattribute__"=some (some<|.builtin "object.__getattribute__")/\findIn b.K (.ref<|b.N.cl be) "__getattr__"=some none/\findIn b.K (.ref<|b.N.cl be) name=some (some<|.ref<|fF f)/\typeIn b.K (.ref<|fF f)=some (.type "function")
 bi:∀fl nm,qO fl=some nm->b.gL nm=none/\b.j7 nm=some (sK fl)
 inst:b.gL "isinstance"=none/\b.j7 "isinstance"=some (.builtin "isinstance")
 ey:b.gL "range"=none/\b.j7 "range"=some (.type "range")
structure tp(A:Around)(n:Nat):Prop where
 eY:A.handled=none
 depth:A.depth+3*n<=990
 units:A.units+10*n<=9800
theorem tp.of{A jh:Around}{n:ā}(R:tp A (n+1))(G:jh.handled=A.handled)(E:jh.depth<=A.depth+3)(aC:jh.units<=A.units+10):tp jh n:=⟨G.trans R.eY,aI (fP E _) (by rw[rg,qp 3];exact R.depth),aI (fP aC _)<|by rw[rg,qp 10];exact R.units⟩
theorem N3(A:Around)(args:Args):(A.under<|.builtin "type.__call__" args).handled=A.handled/\(A.under<|.builtin "type.__call__" args).depth<=A.depth+1/\(A.under<|.builtin "type.__call__" args).units<=A.units+1:=by
 have a7:(Code.builtin "type.__call__" args).frames=0:=by rfl
 have d_:(Code.builtin "type.__call__" args).isGuard=false:=by show guardIds.contains "type.__call__"=false;decide
 refine⟨rfl,?_,?_⟩
 .show A.depth+(Code.builtin "type.__call__" args).weight<=A.depth+1;unfold Code.weight;rw[a7,d_,(by rfl:(Code.builtin "type.__call__" args).isCaller=false)];split<;>simp
 .show A.units+(Code.builtin "type.__call__" args).cUnits<=A.units+1;have:(Code.builtin "type.__call__" args).cUnits=1+3*(Code.builtin "type.__call__" args).frames:=rfl;rw[this,a7];exact dy _
section
variable{b:cc}{T:kG}{fF:ā->Addr}{sp:ā->ft}
theorem L8(W:FD b T fF sp):∀n A,tp A n->∀f,nI b A (.ref<|fF f) (bc n f):=by
 intro n;induction n with
 |zero=>exact λA R f s C J vs Vs K Q I af e h=>False.elim (by have e:=e.of;with_unfolding_all exact e)
 |succ n ap=>
  intro A R f s C J vs Vs K Q I af e h;refine ay.dw (yH▸e.of) λh1 ag e=>ay.dw e λr c0 m7=>?_;obtain⟨eJ,body,names,cP,D,LK,XX,kR⟩:=W.defs f h1 ag;have lr:∀de,mI (b.at<|sp f) (A.deeper de) body (ke (bc n) h1.body):=λde=>by
   have aa:tp (A.deeper de) n:=R.of rfl (gr (aG rfl:1<=3) _)<|gr (aG rfl:3<=10) _;refine DT (b:=b) (T:=T) (A:=A.deeper de) (ah:=bc n) ⟨bc.m n,R.eY,hI (fP (aI (nz _ _) R.units) 43)<|jF rfl,W.ok,W.an,λx g aA=>⟨fF g,(W.pl x g aA).1,(W.pl x g aA).2,ap _ aa g⟩,W.oQ,λx be aA=>?_,λm name aN=>?_,W.bi,W.inst,W.ey⟩ 200 (sp f) body h1.body kR XX
   .obtain⟨G,E,aC⟩:=W.gl x be aA;refine⟨G,E,λr0 jM=>?_⟩;obtain⟨io,b0,bt,dN⟩:=aC r0 jM;refine Rm W.ok io b0 bt dN λargs=>?_;obtain⟨Mv,BD,RC⟩:=N3 (A.deeper de) args;exact ap _ (R.of Mv (aI BD<|gr (aG rfl:2<=3) _)<|aI RC<|gr (aG rfl:4<=10) _) r0
   .obtain⟨G,E⟩:=W.qj m name aN;refine⟨G,λbe r0 jM=>?_⟩;obtain⟨b0,bt,dN,gT,kX⟩:=E be r0 jM;exact⟨fF r0,b0,bt,dN,gT,kX,ap _ aa r0⟩
  have z3:s6 ⟨names.length,h1.lJ,h1.dflt,h1.body⟩ vs=some r:=by rw[LK];exact c0
  exact X7 (c:=b.at<|sp f) (W.ok.at kR) D (hI (aI (nz _ _) R.depth)<|jF rfl) lr z3 m7 I af h
end
noncomputable abbrev q (s:String):Str:=Str.ofString s
def Kc:HO (Str×ā):=[(q "str_type",3),(q "array_type",4),(q "last_mark",5),(q "needed_to_last",6),(q "one_rest",7),(q "tuple_type",8),(q "sorted_props",9),(q "obj_type",10),(q "func_type",11),(q "new_param",12),(q "new_decl",13),(q "parts_of",14),(q "whole_of_row",15),(q "regular_twin",16),(q "join_bools",17),(q "stays_beside",18),(q "top_of",19),(q "union",20),(q "without",21),(q "add_undef",22),(q "common_family",23),(q "meet_family",24),(q "family",25),(q "plain_shape",26),(q "told_places",29),(q "find_prop",30),(q "is_digits",31),(q "prop_row",32),(q "read_type",33),(q "is_open",34),(q "unit_word",35),(q "key_text",36),(q "is_public",37),(q "is_late_alias",42),(q "undefless",43),(q "optional_form",44),(q "readonly_after",45),(q "template_at",46),(q "member_opt",47),(q "member_kind",48),(q "kindmap_member_flags",49),(q "names_for",50),(q "put_member",52),(q "build_members",53),(q "shape_entries",54),(q "map_array",55),(q "spare_elem",56),(q "map_elem",57),(q "is_primitive",58),(q "known_part",59),(q "bound_tuple",60),(q "lists_have",61),(q "put_each",62),(q "put_cell",63),(q "put_shape",64),(q "put_late",65),(q "plain_put",66),(q "table_read",67),(q "put_name",68),(q "_law_take",73),(q "_law_kind",74),(q "_law_type",75),(q "_law_atom",76),(q "_law_back",77),(q "_law_back_one",78),(q "_law_plan",79),(q "_law_at",80),(q "_law_template",81),(q "_law_object",82),(q "_law_list",83),(q "_law_lone",84),(q "_law_slot",85),(q "_law_told",86),(q "_law_told_list",87),(q "_law_choices",88),(q "_law_rows",89),(q "_law_numbered",90),(q "_law_own",91),(q "_law_free",92),(q "_law_after",93),(q "_law_digits",94),(q "_law_held",95),(q "_law_lies",96),(q "_law_rooms",97),(q "_law_sound",98),(q "_law_round",99),(q "law",100)]
def Fv:HO (Str×B):=[((q "Y_KEY"),((.int 1):B)),((q "Y_BOOL"),((.int 2):B)),((q "Y_STR"),((.int 3):B)),((q "Y_NUM"),((.int 4):B)),((q "Y_ENUM"),((.int 5):B)),((q "Y_UNION"),((.int 6):B)),((q "Y_INTER"),((.int 7):B)),((q "Y_OBJ"),((.int 8):B)),((q "Y_REF"),((.int 9):B)),((q "Y_PARAM"),((.int 10):B)),((q "Y_ARRAY"),((.int 11):B)),((q "Y_TUPLE"),((.int 12):B)),((q "Y_SIG"),((.int 13):B)),((q "Y_KEYOF"),((.int 14):B)),((q "Y_INDEX"),((.int 15):B)),((q "Y_COND"),((.int 16):B)),((q "Y_MAPPED"),((.int 17):B)),((q "Y_TPL"),((.int 18):B)),((q "Y_ALIAS"),((.int 19):B)),((q "ANY"),((.int 0):B)),((q "UNKNOWN"),((.int 1):B)),((q "NEVER"),((.int 2):B)),((q "VOID"),((.int 3):B)),((q "UNDEF"),((.int 4):B)),((q "NULLT"),((.int 5):B)),((q "STRING"),((.int 6):B)),((q "NUMBER"),((.int 7):B)),((q "FALSE_T"),((.int 8):B)),((q "TRUE_T"),((.int 9):B)),((q "OBJECTT"),((.int 10):B)),((q "EMPTY"),((.int 11):B)),((q "BOOLEAN"),((.int 12):B)),((q "ERR"),((.int 13):B)),((q "FRESH_F"),((.int 14):B)),((q "FRESH_T"),((.int 15):B)),((q "P_OPT"),((.int 1):B)),((q "P_READONLY"),((.int 2):B)),((q "P_METHOD"),((.int 4):B)),((q "P_PRIVATE"),((.int 8):B)),((q "P_PROTECTED"),((.int 16):B)),((q "P_GETONLY"),((.int 32):B)),((q "P_ACCESS"),((.int 64):B)),((q "E_NEED"),((.int 0):B)),((q "E_OPT"),((.int 1):B)),((q "E_REST"),((.int 2):B)),((q "E_SPREAD"),((.int 3):B)),((q "D_INTERFACE"),((.int 2):B)),((q "FAM_OTHER"),((.int 0):B)),((q "FAM_STR"),((.int 1):B)),((q "FAM_NUM"),((.int 2):B)),((q "FAM_BOOL"),((.int 3):B)),((q "FAM_OBJ"),((.int 7):B)),((q "MAX_UNION"),((.int 400):B)),((q "FIRST_ROWS"),((.tup [.tup [.int 1,.str [97,110,121]],.tup [.int 1,.str [117,110,107,110,111,119,110]],.tup [.int 1,.str [110,101,118,101,114]],.tup [.int 1,.str [118,111,105,100]],.tup [.int 1,.str [117,110,100,101,102,105,110,101,100]],.tup [.int 1,.str [110,117,108,108]],.tup [.int 1,.str [115,116,114,105,110,103]],.tup [.int 1,.str [110,117,109,98,101,114]],.tup [.int 2,.int 0,.int 0],.tup [.int 2,.int 1,.int 0],.tup [.int 1,.str [111,98,106,101,99,116]],.tup [.int 8,.tup [],.tup [],.tup [],.tup [],.tup [],.int 0],.tup [.int 6,.tup [.int 8,.int 9]],.tup [.int 1,.str [101,114,114,111,114]],.tup [.int 2,.int 0,.int 1],.tup [.int 2,.int 1,.int 1]]):B)),((q "MARKED_ROWS"),((.tup [.int 2,.int 3,.int 4,.int 5,.int 8]):B)),((q "OBJECT_ROWS"),((.tup [.int 8,.int 9,.int 11,.int 12,.int 13]):B)),((q "KEY_FAMILIES"),((.bb [((.int 3),(.int 6)),((.int 4),(.int 5)),((.int 5),(.int 4)),((.int 6),(.int 1)),((.int 7),(.int 2)),((.int 10),(.int 7))]):B)),((q "MOST_PLAIN"),((.int 40):B)),((q "PLAIN_ROWS"),((.tup [.int 1,.int 2,.int 3,.int 4,.int 5]):B)),((q "OPEN_KINDS"),((.tup [.int 10,.int 14,.int 15,.int 16,.int 17,.int 19]):B)),((q "_law_undef"),((.tup [.str [119],.str [117]]):B)),((q "_law_texts"),((.tup [.str [119],.str [83]]):B)),((q "_law_numbers"),((.tup [.str [119],.str [78]]):B))]
def GP:HO (Str×ā):=[((q "TypeTable"),0),((q "Decl"),1),((q "Thin"),2),((q "RefHost"),3),((q "NameHost"),4),((q "Made"),5),((q "Keyed"),6)]
def ri:HO Str:=[q "put",q "list_prop",q "shape",q "add",q "add_index",q "done",q "force",q "put_deferred",q "put_in",q "put_cond"]
def ov:HO Str:=[q "rows",q "index",q "decls",q "bounds",q "defaults",q "names",q "origins",q "renamed",q "shaping",q "putting",q "did",q "kind",q "name",q "params",q "body",q "bases",q "static",q "extends_class",q "abstract",q "members",q "variances",q "busy",q "at",q "file",q "nid",q "tab",q "sindex",q "nindex",q "key",q "prop",q "deep",q "most_rounds",q "most_deep"]
def Jp:HO (Stmt×bH):=[(dA 66 0,([(q "self",0),(q "row",1)]:bH)),(dA 66 2,([(q "self",0),(q "row",1),(q "t",2)]:bH)),(dA 67 0,([(q "self",0),(q "did",1),(q "kind",2),(q "name",3)]:bH)),(aL 69,([(q "tab",0),(q "text",1),(q "fresh",2)]:bH)),(aL 70,([(q "tab",0),(q "elem",1),(q "ro",2)]:bH)),(aL 71,([(q "elems",0),(q "marks",1),(q "found",2),(q "place",3)]:bH)),(aL 72,([(q "tab",0),(q "elems",1),(q "last",2),(q "out",3),(q "place",4),(q "given",5),(q "mark",6)]:bH)),(aL 73,([(q "tab",0),(q "elems",1),(q "last",2),(q "first",3),(q "place",4),(q "held",5),(q "given",6),(q "mark",7)]:bH)),(aL 74,([(q "tab",0),(q "elems",1),(q "ro",2),(q "rows",3),(q "last",4)]:bH)),(aL 75,([(q "props",0),(q "found",1),(q "prop",2)]:bH)),(aL 76,([(q "tab",0),(q "props",1),(q "calls",2),(q "ctors",3),(q "sindex",4),(q "nindex",5),(q "fresh",6)]:bH)),(aL 78,([(q "tab",0),(q "sig",1)]:bH)),(aL 79,([(q "tab",0),(q "name",1),(q "bound",2),(q "default",3),(q "pid",4)]:bH)),(aL 80,([(q "tab",0),(q "kind",1),(q "name",2),(q "decl",3)]:bH)),(aL 81,([(q "tab",0),(q "t",1),(q "row",2)]:bH)),(aL 82,([(q "row",0),(q "kind",1)]:bH)),(aL 83,([(q "tab",0),(q "t",1),(q "row",2)]:bH)),(aL 84,([(q "got",0)]:bH)),(aL 85,([(q "tab",0),(q "got",1),(q "t",2)]:bH)),(aL 86,([(q "got",0),(q "t",1)]:bH)),(aL 87,([(q "tab",0),(q "parts",1),(q "got",2),(q "t",3),(q "part",4),(q "top",5),(q "kept",6)]:bH)),(aL 88,([(q "tab",0),(q "t",1),(q "gone",2)]:bH)),(aL 89,([(q "tab",0),(q "t",1)]:bH)),(aL 90,([(q "tab",0),(q "parts",1),(q "found",2),(q "same",3)]:bH)),(aL 91,([(q "tab",0),(q "parts",1),(q "found",2),(q "part",3),(q "fam",4)]:bH)),(aL 92,([(q "tab",0),(q "t",1),(q "row",2),(q "kind",3),(q "whole",4)]:bH)),(aL 96,([(q "tab",0),(q "t",1),(q "turn",2),(q "row",3)]:bH)),(dA 100 15,([(q "self",0),(q "t",1),(q "name",2)]:bH)),(dA 101 0,([(q "self",0),(q "t",1)]:bH)),(aL 102,([(q "row",0),(q "place",1)]:bH)),(aL 103,([(q "row",0),(q "name",1),(q "prop",2)]:bH)),(aL 104,([(q "name",0),(q "digits",1)]:bH)),(aL 105,([(q "host",0),(q "t",1),(q "name",2),(q "row",3),(q "prop",4)]:bH)),(aL 106,([(q "tab",0),(q "prop",1)]:bH)),(aL 110,([(q "tab",0),(q "t",1),(q "row",2),(q "part",3),(q "elem",4),(q "hole",5)]:bH)),(aL 111,([(q "tab",0),(q "t",1),(q "row",2)]:bH)),(aL 112,([(q "tab",0),(q "t",1)]:bH)),(aL 119,([(q "prop",0)]:bH)),(dA 121 0,([(q "self",0)]:bH)),(dA 121 1,([(q "self",0),(q "tab",1),(q "name",2),(q "t",3),(q "flags",4),(q "old",5),(q "parts",6)]:bH)),(dA 121 2,([(q "self",0),(q "tab",1),(q "number",2),(q "t",3),(q "ro",4),(q "old",5),(q "fresh",6)]:bH)),(dA 121 3,([(q "self",0),(q "tab",1),(q "props",2)]:bH)),(aL 122,([(q "tab",0),(q "t",1),(q "late",2),(q "part",3),(q "row",4),(q "asked",5)]:bH)),(aL 123,([(q "host",0),(q "t",1),(q "tab",2)]:bH)),(aL 124,([(q "tab",0),(q "t",1)]:bH)),(aL 125,([(q "romod",0),(q "ro",1)]:bH)),(aL 126,([(q "host",0),(q "row",1),(q "key",2)]:bH)),(aL 127,([(q "row",0),(q "was",1)]:bH)),(aL 128,([(q "host",0),(q "row",1),(q "key",2),(q "own",3),(q "was",4),(q "tab",5),(q "t",6)]:bH)),(aL 129,([(q "row",0),(q "prop",1),(q "plain",2),(q "was",3),(q "flags",4),(q "ro",5)]:bH)),(aL 130,([(q "host",0),(q "row",1),(q "key",2),(q "name",3)]:bH)),(dA 131 0,([(q "self",0),(q "key",1),(q "prop",2),(q "index",3)]:bH)),(aL 132,([(q "host",0),(q "row",1),(q "made",2),(q "keyed",3),(q "target",4),(q "plain",5),(q "tab",6),(q "text",7),(q "own",8),(q "was",9),(q "kept",10),(q "t",11),(q "ro",12)]:bH)),(aL 133,([(q "host",0),(q "row",1),(q "entries",2),(q "plain",3),(q "made",4),(q "keyed",5),(q "targets",6),(q "target",7)]:bH)),(aL 134,([(q "host",0),(q "t",1),(q "tab",2),(q "entries",3),(q "shape",4),(q "prop",5)]:bH)),(aL 135,([(q "host",0),(q "row",1),(q "t",2),(q "plain",3),(q "tab",4),(q "source",5),(q "elem",6)]:bH)),(aL 136,([(q "host",0),(q "row",1),(q "elem",2)]:bH)),(aL 137,([(q "host",0),(q "row",1),(q "place",2),(q "elem",3),(q "plain",4),(q "key",5),(q "own",6),(q "kind",7),(q "was",8),(q "mark",9)]:bH)),(aL 138,([(q "tab",0),(q "t",1)]:bH)),(aL 140,([(q "host",0),(q "row",1),(q "t",2),(q "source",3),(q "entries",4)]:bH)),(aL 141,([(q "host",0),(q "row",1),(q "source",2),(q "elems",3),(q "places",4),(q "place",5),(q "elem",6),(q "t",7)]:bH)),(aL 142,([(q "host",0),(q "keyed",1),(q "name",2),(q "t",3)]:bH)),(aL 144,([(q "host",0),(q "many",1),(q "mapping",2)]:bH)),(aL 145,([(q "host",0),(q "cell",1),(q "mapping",2)]:bH)),(aL 146,([(q "host",0),(q "row",1),(q "mapping",2),(q "props",3),(q "calls",4),(q "ctors",5),(q "sindex",6)]:bH)),(aL 150,([(q "host",0),(q "t",1),(q "row",2),(q "mapping",3),(q "rest",4)]:bH)),(aL 151,([(q "host",0),(q "t",1),(q "mapping",2),(q "row",3)]:bH)),(aL 153,([(q "tab",0),(q "row",1),(q "other",2),(q "prop",3),(q "cell",4)]:bH)),(aL 154,([(q "host",0),(q "row",1)]:bH)),(dA 155 0,([(q "self",0),(q "tab",1)]:bH)),(dA 155 1,([(q "self",0),(q "t",1),(q "row",2)]:bH)),(dA 155 2,([(q "self",0),(q "row",1)]:bH)),(dA 155 3,([(q "self",0),(q "t",1),(q "mapping",2)]:bH)),(aL 160,([(q "d",0),(q "n",1),(q "at",2)]:bH)),(aL 161,([(q "d",0),(q "atoms",1),(q "got",2),(q "go",3),(q "one",4)]:bH)),(aL 162,([(q "tab",0),(q "over",1),(q "kind",2)]:bH)),(aL 163,([(q "tab",0),(q "over",1),(q "one",2),(q "sort",3),(q "what",4)]:bH)),(aL 164,([(q "tab",0),(q "t",1),(q "row",2)]:bH)),(aL 165,([(q "tab",0),(q "t",1),(q "row",2)]:bH)),(aL 166,([(q "d",0),(q "base",1),(q "coat",2),(q "fixed",3),(q "table",4)]:bH)),(aL 167,([(q "plan",0),(q "key",1),(q "base",2),(q "coat",3),(q "fixed",4),(q "table",5),(q "kind",6)]:bH)),(aL 168,([(q "tab",0),(q "over",1),(q "key",2),(q "plan",3),(q "base",4),(q "coat",5),(q "fixed",6),(q "table",7),(q "x",8),(q "props",9)]:bH)),(aL 169,([(q "d",0),(q "tab",1),(q "names",2),(q "way",3),(q "members",4),(q "go",5),(q "name",6),(q "sign",7),(q "kind",8),(q "which",9),(q "firm",10),(q "cells",11),(q "props",12),(q "opt",13),(q "ro",14),(q "what",15),(q "hid",16),(q "flags",17),(q "calls",18),(q "told",19),(q "t",20),(q "turned",21),(q "decl",22)]:bH)),(aL 170,([(q "d",0),(q "tab",1),(q "ro",2),(q "form",3),(q "marks",4),(q "elems",5),(q "t",6)]:bH)),(aL 171,([(q "d",0),(q "tab",1),(q "n",2),(q "sig",3),(q "t",4)]:bH)),(aL 172,([(q "kind",0),(q "opt",1),(q "was",2),(q "rest",3)]:bH)),(aL 173,([(q "tab",0),(q "over",1),(q "plan",2),(q "mods",3),(q "bound",4),(q "opt",5),(q "ro",6),(q "rows",7),(q "name",8),(q "kind",9),(q "was",10),(q "shut",11),(q "what",12),(q "hid",13),(q "given",14),(q "sign",15),(q "told",16),(q "place",17),(q "cell",18)]:bH)),(aL 174,([(q "tab",0),(q "over",1),(q "plan",2),(q "mods",3),(q "bound",4),(q "opt",5),(q "ro",6),(q "shut",7),(q "spare",8),(q "marks",9),(q "front",10),(q "out",11),(q "place",12),(q "kind",13),(q "sign",14)]:bH)),(aL 175,([(q "bound",0),(q "whole",1),(q "firm",2),(q "short",3),(q "lets",4),(q "zero",5),(q "needs",6),(q "name",7),(q "kind",8),(q "opt",9),(q "ro",10),(q "what",11),(q "hid",12),(q "out",13)]:bH)),(aL 176,([(q "elems",0),(q "out",1),(q "way",2),(q "row",3),(q "kind",4),(q "sign",5)]:bH)),(aL 177,([(q "row",0),(q "slots",1),(q "place",2)]:bH)),(aL 178,([(q "slots",0),(q "key",1),(q "names",2),(q "out",3),(q "name",4),(q "kind",5),(q "opt",6)]:bH)),(aL 179,([(q "kind",0),(q "slots",1),(q "out",2),(q "sort",3),(q "what",4)]:bH)),(aL 180,([(q "plan",0),(q "opt",1),(q "slots",2),(q "sort",3),(q "name",4),(q "kind",5),(q "was",6),(q "given",7),(q "sign",8)]:bH)),(aL 181,([(q "name",0)]:bH)),(aL 182,([(q "one",0),(q "room",1),(q "sort",2),(q "what",3)]:bH)),(aL 183,([(q "kind",0),(q "room",1)]:bH)),(aL 184,([(q "tab",0),(q "row",1),(q "name",2),(q "marks",3),(q "front",4),(q "place",5),(q "out",6),(q "t",7),(q "sign",8)]:bH)),(aL 185,([(q "tab",0),(q "row",1),(q "plan",2),(q "opt",3),(q "choices",4),(q "slots",5),(q "sort",6),(q "names",7),(q "marks",8),(q "front",9),(q "name",10),(q "read",11),(q "room",12)]:bH)),(aL 186,([(q "d",0),(q "tab",1),(q "host",2),(q "over",3),(q "key",4),(q "plan",5),(q "mods",6),(q "naming",7),(q "sort",8),(q "bound",9),(q "template",10),(q "keys",11),(q "row",12),(q "said",13),(q "told",14),(q "prop",15)]:bH)),(aL 187,([(q "script",0),(q "nums",1)]:bH))]
def my (a:ā):Str:=if a<33 then ov.getD a Str.empty else⟨#[0,a]⟩
def xq:kG:=⟨Kc,Fv,GP,ri,my⟩
def qb (f:ā):Stmt:=(Jp.getD f (.Pass ⟨0,0,0,0⟩,[])).1
def z9 (f:ā):bH:=(Jp.getD f (.Pass ⟨0,0,0,0⟩,[])).2
def spT (f:ā):ft:=⟨z9 f,(b'<|qb f).names,true⟩
def xe (f:ā):bS:=uB.getD f ⟨0,0,[],[]⟩
def AC:HO ā:=[122,136,157,179,187,194,201,208,214,219,231,247,255,262,269,276,283,290,297,304,309,314,321,326,333,340,348,467,509,535,542,547,554,561,569,576,583,623,637,644,651,656,668,675,682,689,696,703,710,717,724,738,752,759,766,773,780,787,794,799,806,813,818,825,830,854,861,868,875,889,896,903,910,925,932,937,944,949,956,963,970,975,980,985,992,997,1004,1009,1014,1019,1026,1031,1038,1045,1050,1055,1060,1065,1070,1077,1082]
def ox:HO ā:=[139,160,491,526,913,659,741]
def Zj (f:ā):Zr:=([(3,172),(4,180),(8,209),(10,224),(12,248)].lookup f).elim N λa=>R a
def VK (f:ā):Zr:=if f<26 then eh else if f<27 then Fx else if f<34 then fh else if f<37 then pr else if f<38 then CW else if f<59 then f4 else if f<62 then yk else if f<67 then nZ else if f<73 then m6 else fz
def Qe:HO String:=["TypeTable.__init__","TypeTable.put","Decl.__init__","str_type","array_type","last_mark","needed_to_last","one_rest","tuple_type","sorted_props","obj_type","func_type","new_param","new_decl","parts_of","whole_of_row","regular_twin","join_bools","stays_beside","top_of","union","without","add_undef","common_family","meet_family","family","plain_shape","Thin.list_prop","RefHost.shape","told_places","find_prop","is_digits","prop_row","read_type","is_open","unit_word","key_text","is_public","Made.__init__","Made.add","Made.add_index","Made.done","is_late_alias","undefless","optional_form","readonly_after","template_at","member_opt","member_kind","kindmap_member_flags","names_for","Keyed.__init__","put_member","build_members","shape_entries","map_array","spare_elem","map_elem","is_primitive","known_part","bound_tuple","lists_have","put_each","put_cell","put_shape","put_late","plain_put","table_read","put_name","NameHost.__init__","NameHost.force","NameHost.put_deferred","NameHost.put_in","_law_take","_law_kind","_law_type","_law_atom","_law_back","_law_back_one","_law_plan","_law_at","_law_template","_law_object","_law_list","_law_lone","_law_slot","_law_told","_law_told_list","_law_choices","_law_rows","_law_numbered","_law_own","_law_free","_law_after","_law_digits","_law_held","_law_lies","_law_rooms","_law_sound","_law_round","law"]
def fF (f:ā):Addr:=AC.getD f 0
def FA:HO (String×Zr×Zr×Zr):=(List.range 101).map λf=>(Qe.getD f "",Zj f,R<|fF f-1,VK f)
def QF:Params:={strHash:=λ_=>0,shareClass:=λ_=>0,mergeTok:=λt=>t,idOf:=λ_=>0,idOfShared:=λ_ _=>0,followText:=λ_=>false,idOfImm:=λ_=>0}
def Eh (P:Params) (a:ā):ā×Obj:=(a,(CS P).getD a hz)
def Sv:Frag:=[105,83,84,85,86,87,88,89,90,91,92,93,99,94,95,96,97,98,101,100,102,103,104,106,107,108,341,562,917,916,918,172,180,209,224,220,221,222,223,248,121,135,156,178,186,193,200,207,213,218,230,246,254,261,268,275,282,289,296,303,308,313,320,325,332,339,347,466,508,534,541,546,553,560,568,575,582,622,636,643,650,655,667,674,681,688,695,702,709,716,723,737,751,758,765,772,779,786,793,798,805,812,817,824,829,853,860,867,874,888,895,902,909,924,931,936,943,948,955,962,969,974,979,984,991,996,1003,1008,1013,1018,1025,1030,1037,1044,1049,1054,1059,1064,1069,1076,1081].map<|Eh QF
def Sq (P:Params):Frag:=[139,160,491,526,913,659,741,138,159,490,525,912,658,740].map<|Eh P
def uW (f:ā):Obj:=match FA.getD f ("",N,N,N)with|(q,n1,c,w3)=>CB (qb f) q n1 w3 c
def KF:Frag:=(List.range 101).map λf=>(fF f,uW f)
def rO:Frag:=KF++Sv
def nE (P:Params):Frag:=rO++Sq P
def AA (o:Obj):HO DictEntry:=match o.data with|.dict es _=>es.toList|_=>[]
def Ka (P:Params):HO DictEntry:=AA<|hd P fz 177 186
def CZ (P:Params):HO DictEntry:=AA<|PySem.W.boot_o_0 P
def om (P:Params) (x:Str):Z5 Zr:=((Ka P).find? λe=>e.key.isStr x).map (·.val)
def u3 (P:Params) (x:Str):Z5 Zr:=((CZ P).find? λe=>e.key.isStr x).map (·.val)
theorem Nz(w:World):(nE w.params).map (λp=>(iS w.params).get? p.1)=(nE w.params).map λp=>some p.2:=by kernel_rfl
theorem Bg{w:World}{h:Heap}(cz:∀b o,(iS w.params).get? b=some o->h.get? b=some o):(nE w.params).In h:=Frag.In.keeps (Frag.in_of (as:=(nE w.params).map (·.1)) rfl<|by rw[f2];exact Nz w) cz
def XF:Zr->ZI|.str _ _=>true|_=>false
def Hs (l:HO DictEntry):ZI:=l.all λe=>XF e.key
theorem Uz{l:HO DictEntry}(h:Hs l=true):StrKeys l.toArray:=by intro e a6;have:=d'.mp h e (by simpa using a6);cases aD:e.key<;>rw[aD]at this<;>first|exact⟨_,_,rfl⟩|cases this
theorem B2{h:Heap}{a:Addr}{o:Obj}{l:HO DictEntry}{n:ā}(G:h.get? a=some o)(E:o.data=.dict l.toArray n)(aC:Hs l=true):h.Ns a λx=>(l.find? λe=>e.key.isStr x).map (·.val):=⟨o,_,n,G,E,Uz aC,λx=>by show((l.toArray).find? _).map _=_;rw[List.find?_toArray]⟩
theorem Np(P:Params):(iS P).get? 3=some (hd P fz 177 186):=by kernel_rfl
theorem M4(P:Params):(iS P).get? 0=some (PySem.W.boot_o_0 P):=by kernel_rfl
theorem PY(P:Params):(iS P).get? 2=some (Ax P):=by kernel_rfl
theorem I2(P:Params):(iS P).Ns mainGlobals (om P):=B2 (Np P) (l:=Ka P) (n:=186) (by kernel_rfl) (by kernel_rfl)
def L2 (o:Obj):ā:=match o.data with|.dict _ n=>n|_=>0
theorem P4(P:Params):(PySem.W.boot_o_0 P).data=.dict (CZ P).toArray (L2<|PySem.W.boot_o_0 P):=by kernel_rfl
theorem Us(P:Params):(iS P).Ns builtinsNs (u3 P):=by exact B2 (M4 P) (l:=CZ P) (P4 P) (by kernel_rfl)
theorem lim(P:Params):(iS P).NoLimit:=⟨_,B2 (PY P) (l:=AA<|Ax P) (n:=2) (by kernel_rfl) (by kernel_rfl),by kernel_rfl⟩
theorem DA{n:ā}(h:n<=1000):n<=a3:=by unfold a3;lia
def GV (n:String) (v:Zr):ZI:=match v with|.type m=>m==n|_=>false
theorem Xd{n:String}{v:Zr}(h:GV n v=true):v=.type n:=by
 cases v with
 |type m=>exact bI _<|fL.mp h
 |_=>exact cH h
def vC (n:String) (o:Obj):ZI:=GV n o.cls&&(o.dict.isNone&&o.slots.isEmpty)
theorem Kp{n:String}{o:Obj}(h:vC n o=true):o=⟨.type n,none,o.data,#[]⟩:=by
 have h:=gY.mp h;have E:=gY.mp h.2;cases o with|mk a b d e=>
 obtain rfl:a=.type n:=Xd h.1;obtain rfl:b=none:=pH.mp E.1;obtain rfl:e=#[]:=Array.isEmpty_iff.mp E.2;rfl
theorem BZ{b:ZI}(h:(!b)=true):b=false:=by cases b<;>first|rfl|exact cH h
def nl {av:Type} (o:Z5 av) (f:av->ZI):ZI:=match o with|some a=>f a|none=>false
theorem r4{av:Type}{o:Z5 av}{f:av->ZI}(h:nl o f=true):∃a,o=some a/\f a=true:=by
 cases o with
 |some a=>exact⟨a,rfl,h⟩
 |none=>exact cH h
def TV (n:String) (o:Obj):Z5 (HO Zr×ā):=match o.data with
 |.seq vs k=>if vC n o=true then some (vs.toList,k)else none
 |_=>none
def wt (K:Frag) (n:String) (a:Addr):Z5 (HO Zr×ā):=(K.lookup a).bind<|TV n
theorem F4{K:Frag}{n:String}{a:Addr}{l:HO Zr}{k:ā}(h:wt K n a=some (l,k)):K.lookup a=some ⟨.type n,none,.seq l.toArray k,#[]⟩:=by
 obtain⟨o,ag,a8⟩:=bind_some h;clear h;rw[ag];cases o with|mk x b d e=>cases d with
 |seq vs j=>obtain⟨G,E⟩:=hc<|show(if vC n ⟨x,b,.seq vs j,e⟩=true then some (vs.toList,j)else none)=some (l,k)from a8;cases E;exact bI some<|Kp G
 |_=>exact bY a8
def vf:B->Z5 Ă|.int i=>some i|_=>none
def Zh (p:B×B) (e:DictEntry):ZI:=match p.1 with
 |.int i=>(match p.2 with
  |.int j=>(match e.key with
   |.int pR _=>(match e.val with|.int u7 _=>e.hash==hashInt i&&(i==pR&&j==u7)|_=>false)
   |_=>false)
  |_=>false)
 |_=>false
def B7:HO (B×B)->HO DictEntry->ZI
 |[]=>λes=>es.isEmpty
 |a::r=>λes=>match es with|[]=>false|b::t=>Zh a b&&B7 r t
def V8 (K:Frag) (l:HO (B×B)) (a:Addr):ZI:=nl (K.lookup a) λo=>match o.data with
 |.dict es k=>vC "dict" o&&(B7 l es.toList&&(decide (l.length<=1000)&&(!(a==sysModules)&&decide ((l.map λx=>vf x.1).Nodup))))
 |_=>false
mutual
def lV (K:Frag):B->Zr->ZI
 |.none=>λV=>match V with|.none=>true|_=>false
 |.bool a=>λV=>match V with|.bool b=>a==b|_=>false
 |.int i=>λV=>match V with|.int j _=>i==j|_=>false
 |.str l=>λV=>match V with|.str s _=>decide (l.length<=1000)&&s.cps.toList==l|_=>false
 |.tup l=>λV=>match V with|.ref a=>nl (wt K "tuple" a) λx=>decide (l.length<=1000)&&pD K l x.1|_=>false
 |.bb l=>λV=>match V with|.ref a=>V8 K l a|_=>false
 |.lst _=>λ_=>false
 |.ref _=>λ_=>false
 |.ey _ _=>λ_=>false
def pD (K:Frag):HO B->HO Zr->ZI
 |[]=>λVs=>Vs.isEmpty
 |a::r=>λVs=>match Vs with|[]=>false|b::t=>lV K a b&&pD K r t
end
theorem T5{P:Params}{C:aY}{l:HO (B×B)}:∀{es:HO DictEntry},B7 l es=true->d9 P C l es:=by
 induction l with
 |nil=>intro es h;rw[fU.mp h];exact .nil
 |cons p r ap=>
  intro es h;cases es with
  |nil=>exact cH h
  |cons e t=>
   have h:=gY.mp h;have E:=ap h.2;have G:=h.1;clear ap h;cases p with|mk a b=>
   cases a with
   |int i=>cases b with
    |int j=>cases e with|mk cd K V=>
     cases K with
     |int pR t=>cases V with
      |int u7 u=>have G:=gY.mp<|show(cd==hashInt i&&(i==pR&&j==u7))=true from G;have aC:=gY.mp G.2;obtain rfl:cd=hashInt i:=fL.mp G.1;obtain rfl:i=pR:=fL.mp aC.1;obtain rfl:j=u7:=fL.mp aC.2;exact .cons (.int _ _) (.int _ _) E
      |_=>exact cH G
     |_=>exact cH G
    |_=>exact cH G
   |_=>exact cH G
theorem Gn{K:Frag}{H:Heap}(X:K.In H){a:Addr}{o:Obj}(h:K.lookup a=some o):fB H a=.a5 o:=by unfold fB;rw[X _ _ h]
theorem R7{l:HO (B×B)}(h:(l.map λx=>vf x.1).Nodup):(l.map Prod.fst).Nodup:=by
 have:l.map (λx=>vf x.1)=(l.map Prod.fst).map vf:=by rw[f2];rfl
 rw[this]at h;exact List.Pairwise.of_map vf (λa b n e=>n<|by rw[e]) h
section
variable{P:Params}{K:Frag}{H:Heap}(X:K.In H)
include X
theorem QJ{l:HO B}(ap:∀Vs,pD K l Vs=true->bD P (fB H) l Vs)(V:Zr)(h:lV K (.tup l) V=true):bA P (fB H) (.tup l) V:=by
 cases V with
 |ref a=>obtain⟨x,e,h⟩:=r4<|show nl (wt K "tuple" a) _=true from h;have h:=gY.mp h;exact .tup (Gn X<|F4 e) (ap _ h.2)<|DA<|fj h.1
 |_=>exact cH h
theorem Qb(l:HO (B×B))(V:Zr)(h:lV K (.bb l) V=true):bA P (fB H) (.bb l) V:=by
 cases V with
 |ref a=>
  obtain⟨o,e,h⟩:=r4<|show nl (K.lookup a) _=true from h;cases o with|mk x b d s=>cases d with
  |dict es k=>have h:=gY.mp<|show(vC "dict" ⟨x,b,.dict es k,s⟩&&_)=true from h;rw[Kp h.1]at e;have E:=gY.mp h.2;have aC:=gY.mp E.2;have ba:=gY.mp aC.2;exact .bb (Gn X e) (T5 E.1) (DA<|fj aC.1) (R7<|fj ba.2)<|BZ ba.1
  |_=>exact cH h
 |_=>exact cH h
theorem Zd:∀V,lV K .none V=true->bA P (fB H) .none V:=λV h=>by
 cases V with
 |none=>exact .none
 |_=>exact cH h
theorem LL(b:ZI)(V:Zr)(h:lV K (.bool b) V=true):bA P (fB H) (.bool b) V:=by
 cases V with
 |bool c=>rw[fL.mp<|show(b==c)=true from h];exact .bool c
 |_=>exact cH h
theorem X6(i:Ă)(V:Zr)(h:lV K (.int i) V=true):bA P (fB H) (.int i) V:=by
 cases V with
 |int j t=>rw[fL.mp<|show(i==j)=true from h];exact .int j t
 |_=>exact cH h
theorem Nd(l:bx)(V:Zr)(h:lV K (.str l) V=true):bA P (fB H) (.str l) V:=by
 cases V with
 |str s t=>have h:=gY.mp<|show(decide (l.length<=1000)&&s.cps.toList==l)=true from h;obtain rfl:s.cps.toList=l:=fL.mp h.2;exact .str _ t<|DA<|fj h.1
 |_=>exact cH h
theorem Fq{v:B}{l:HO B}(v':∀V,lV K v V=true->bA P (fB H) v V)(p5:∀Vs,pD K l Vs=true->bD P (fB H) l Vs)(Vs:HO Zr)(h:pD K (v::l) Vs=true):bD P (fB H) (v::l) Vs:=by
 cases Vs with
 |nil=>exact cH h
 |cons V t=>have h:=gY.mp<|show(lV K v V&&pD K l t)=true from h;exact .cons (v' _ h.1)<|p5 _ h.2
theorem FO{v:B}{V:Zr}:lV K v V=true->bA P (fB H) v V:=B.rec (motive_1:=λv=>∀V,lV K v V=true->bA P (fB H) v V) (motive_2:=λl=>∀Vs,pD K l Vs=true->bD P (fB H) l Vs) (motive_3:=λ_=>True) (motive_4:=λ_=>True) (Zd X) (LL X) (X6 X) (Nd X) (λ_ ap=>QJ X ap) (λ_ _ _ h=>cH h) (λl _=>Qb X l) (λ_ _ h=>cH h) (λ_ _ _ h=>cH h) (λVs h=>by rw[fU.mp h];exact .nil) (λ_ _ v' p5=>Fq X v' p5) trivial (λ_ _ _ _=>trivial) (λ_ _ _ _=>trivial) v V
theorem YU{l:HO B}:∀{Vs:HO Zr},pD K l Vs=true->bD P (fB H) l Vs:=by
 induction l with
 |nil=>intro Vs h;rw[fU.mp h];exact .nil
 |cons v l ap=>exact λh=>Fq X (λ_=>FO X) (λ_=>ap) _ h
end
def Ee (x:Str) (v:Zr):ZI:=match v with|.str y _=>y==x|_=>false
def J5 (K:Frag) (kh:Zr) (x:Str):ZI:=match kh with
 |.ref c=>nl (K.lookup c) λo=>match o.data with
  |.fields vs=>nl vs[1]? (Ee x)
  |_=>false
 |_=>false
theorem TX{K:Frag}{H:Heap}(X:K.In H){kh:Zr}{x:Str}(h:J5 K kh x=true):H.CodeRec kh x:=by
 cases kh with
 |ref c=>
  obtain⟨o,e,h⟩:=r4<|show nl (K.lookup c) _=true from h;cases o with|mk a b d s=>cases d with
  |fields vs=>
   obtain⟨y,a8,h⟩:=r4<|show nl vs[1]? (Ee x)=true from h;cases y with
   |str y t=>exact⟨c,_,vs,t,rfl,X _ _ e,rfl,by rw[a8,fL.mp<|show(y==x)=true from h]⟩
   |_=>exact cH h
  |_=>exact cH h
 |_=>exact cH h
def Ll (K:Frag) (n1:Zr):Z5 (HO Zr):=match n1 with
 |.none=>some []
 |.ref T=>(wt K "tuple" T).map (·.1)
 |_=>none
def s4 (f:ā):String×Zr×Zr×Zr:=FA.getD f ("",N,N,N)
def vy (l:HO (Str×NameKind)) (x:Str):ZI:=l.lookup x==some .local||l.lookup x==some .cell
def P5 (f:ā):ZI:=let st:=qb f;let GY:=(b' st).names;let ai:HO Str:=(ln st).args.map (·.arg);let h1:=xe f;(b' st).kind==.function&&(!(b' st).isCoroutine&&(!(b' st).isGenerator&&(J5 rO (s4 f).2.2.1 (Str.ofString (s4 f).1)&&(Cd (ln st)&&(decide ai.Nodup&&(ai.all (vy GY)&&(GY.all (λy=> !(y.2==.free))&&((z9 f).all (λy=>(decide<|y.2<ai.length->ai[y.2]?=some y.1)&&decide (y.2<h1.lJ))&&(decide (ai.length=h1.np)&&(decide ((z9 f).map (·.2)).Nodup&&nl (Ll rO (s4 f).2.1) λcP=>decide (cP.length<=ai.length)&&pD rO h1.dflt cP))))))))))
theorem Lh:(List.range 101).all P5=true:=by kernel_rfl
def Pa (f:ā):ZI:=tZ xq 200 (spT f) (qx<|qb f) (xe f).body
theorem NX:(List.range 101).all Pa=true:=by kernel_rfl
def Rc (P:Frag) (be a:ā):ZI:=storeOk P (ox.getD be 0) (my a)&&attrOk P (ox.getD be 0) (my a)
theorem HT(P:Params):((List.range 7).all λbe=>(List.range 33).all λa=>Rc (nE P) be a)=true:=by kernel_rfl
theorem Zi(P:Params):(Kc.all λx=>om P x.1==some (.ref<|fF x.2)&&keepIn (nE P) (.ref<|fF x.2))=true:=by kernel_rfl
theorem Q0(P:Params):(Fv.all λx=>nl (om P x.1)<|lV rO x.2)=true:=by kernel_rfl
def DI (P:Frag) (be:ā):ZI:=match CU be with
 |some f=>decide (be<7)&&makesIn P (ox.getD be 0)&&findIn P (.ref<|ox.getD be 0) "__init__"==some (some<|.ref<|fF f)&&typeIn P (.ref<|fF f)==some (.type "function")
 |none=>true
theorem TJ(P:Params):(GP.all λx=>om P x.1==some (.ref<|ox.getD x.2 0)&&keepIn (nE P) (.ref<|ox.getD x.2 0)&&DI (nE P) x.2)=true:=by kernel_rfl
def G5 (P:Frag) (name:Str) (be f:ā):ZI:=keepIn P (.ref<|fF f)&&findIn P (.ref<|ox.getD be 0) "__getattribute__"==some (some<|.builtin "object.__getattribute__")&&findIn P (.ref<|ox.getD be 0) "__getattr__"==some none&&findIn P (.ref<|ox.getD be 0) name==some (some<|.ref<|fF f)&&typeIn P (.ref<|fF f)==some (.type "function")
def V' (P:Frag) (m:ā) (name:Str):ZI:=(List.range 7).all λbe=>match B5 be m with|some f=>G5 P name be f|none=>true
theorem L3(P:Params):((List.range 10).all λm=>V' (nE P) m<|ri.getD m Str.empty)=true:=by kernel_rfl
def AW (x:Str):ZI:= !(x.cps.toList.head?==some 0)
theorem OT:(ri.all λx=>AW x&& !ov.contains x)=true:=by kernel_rfl
theorem Dp:(decide ov.Nodup&&ov.all AW&&decide (ov.length=33))=true:=by kernel_rfl
theorem MT(P:Params):([f'.len,.sorted,.tuple,.any,.all,.str,.int].all λb=>match qO b with|some nm=>(om P nm).isNone&&u3 P nm==some (sK b)|none=>true)=true:=by kernel_rfl
theorem EZ(P:Params):((om P "isinstance").isNone&&u3 P "isinstance"==some (.builtin "isinstance")&&((om P "range").isNone&&u3 P "range"==some (.type "range")))=true:=by kernel_rfl
theorem k3{a b:ZI}(h:(a&&b)=true):a=true/\b=true:=gY.mp h
theorem Rk{a b c d e f g h i j k l:ZI}(q:(a&&(b&&(c&&(d&&(e&&(f&&(g&&(h&&(i&&(j&&(k&&l)))))))))))=true):Ho (a=true) (b=true) (c=true) (d=true) (e=true) (f=true) (g=true) (h=true) (i=true) (j=true) (k=true) (l=true):=(k3 q).elim λA q=>(k3 q).elim λaT q=>(k3 q).elim λah q=>(k3 q).elim λD q=>(k3 q).elim λO q=>(k3 q).elim λF q=>(k3 q).elim λcS q=>(k3 q).elim λH q=>(k3 q).elim λI q=>(k3 q).elim λdx q=>(k3 q).elim λK q=>⟨A,aT,ah,D,O,F,cS,H,I,dx,K,q⟩
theorem Ku{av b8:Type}[BEq av][LawfulBEq av]{x:av}{y:b8}:∀{l:HO (av×b8)},l.lookup x=some y->(x,y)∈l
 |[],h=>by cases h
 |(a,b)::r,h=>by
  rw[kO]at h;split at h
  .rename_i q;cases h;rw[fL.mp q];exact .head _
  .exact .tail _<|Ku h
theorem Am{av b8:Type}[BEq av][LawfulBEq av]{l:HO (av×b8)}{p:av×b8->ZI}(h:l.all p=true){x:av}{y:b8}(e:l.lookup x=some y):p (x,y)=true:=d'.mp h _<|Ku e
theorem pW{n:ā}{p:ā->ZI}(h:(List.range n).all p=true){i:ā}(aB:i<n):p i=true:=d'.mp h _<|lE.mpr aB
theorem Do{K aP:Frag}{a:Addr}{o:Obj}(h:K.lookup a=some o):(K++aP).lookup a=some o:=by rw[List.lookup_append,h];rfl
theorem xS{P:Params}{h:Heap}(X:(nE P).In h):rO.In h:=λa o e=>X a o<|Do e
theorem A2{a:ā}(h:a<33):my a=ov.getD a Str.empty:=by unfold my;rw[bl h]
theorem vY{a:ā}(h:¬a<33):my a=⟨#[0,a]⟩:=by unfold my;rw[bm h]
theorem VH:ov.Nodup:=by have:=Dp;simp only[eX,jT]at this;exact this.1.1
theorem Eg:∀x∈ov,AW x=true:=by have:=Dp;simp only[eX,jT]at this;exact d'.mp this.1.2
theorem Di:ov.length=33:=by have:=Dp;simp only[eX,jT]at this;exact this.2
theorem CO{a:ā}(h:a<33):my a∈ov:=by rw[A2 h,lM,fr<|by rw[Di];exact h];exact List.getElem_mem _
theorem NW(a b:ā)(h:my a=my b):a=b:=by
 by_cases ak:a<33<;>by_cases aw:b<33
 .rw[A2 ak,A2 aw,lM,lM,fr (by rw[Di];exact ak),fr<|by rw[Di];exact aw]at h;exact(List.getElem_inj VH).mp h
 .have:=Eg _<|CO ak;rw[h,vY aw]at this;cases this
 .have:=Eg _<|CO aw;rw[<-h,vY ak]at this;cases this
 .rw[vY ak,vY aw]at h;cases h;rfl
theorem M'{x:Str}(h:x∈ri)(a:ā):my a≠x:=by
 have:=d'.mp OT x h;simp only[eX,kn]at this;obtain⟨G,E⟩:=this;intro e;by_cases ak:a<33
 .have:=CO ak;rw[e]at this;rw[List.contains_iff_mem.mpr this]at E;cases E
 .rw[vY ak]at e;rw[<-e]at G;cases G
noncomputable abbrev base (w:World) (H:Heap) (os:OsState) (aH:Around->Prop):cc:={prog:=fe,w:=w,N:=⟨my,λi=>ox.getD i 0⟩,H:=H,os:=os,aH:=aH,ns:=[],cB:=λ_=>false,b6:=λ_=>false,ky:=λ_=>false,gL:=om w.params,j7:=u3 w.params,K:=nE w.params}
section
variable{w:World}{H:Heap}{os:OsState}{aH:Around->Prop}
noncomputable abbrev Gc (w:World) (h:Heap):Prop:=∀b o,(iS w.params).get? b=some o->h.get? b=some o
theorem VO(cz:Gc w H):(base w H os aH).Ok where
 sys:=by obtain⟨o,h⟩:=gZ.mp (show((iS w.params).get? sysModules).isSome=true by kernel_rfl);exact⟨o,cz _ _ h⟩
 q':=(I2 w.params).keeps cz
 Ag:=(Us w.params).keeps cz
 ab:=Bg cz
 inj:=NW
 rT:=λx y i h=>by cases h
 iI:=λbe a G E=>by have:=pW (pW (HT w.params) G) E;exact(gY.mp this).1
 mT:=λbe a G E=>by have:=pW (pW (HT w.params) G) E;exact(gY.mp this).2
theorem QT{f:ā}{h1:bS}(h:l4.fns f=some h1):f<101/\xe f=h1:=by
 have aR:uB[f]?=some h1:=h;have aj:uB.length=101:=by decide+kernel
 have:f<uB.length:=(g9.mp aR).1;exact⟨uE ‹_›,by unfold xe;rw[lM,aR];rfl⟩
theorem JP{l:HO (Str×NameKind)}{x:Str}(h:vy l x=true):l.lookup x=some .local\/l.lookup x=some .cell:=by simpa[vy]using h
theorem WD:∀{f:ā},f<101->KF.lookup (fF f)=some (uW f):=by
 intro f a7;have b7:(AC.length=101/\AC.Nodup):=by decide+kernel
 unfold KF;have inj:∀i j,i<101->j<101->fF i=fF j->i=j:=λi j aB b_ e=>by unfold fF at e;rw[lM,lM,fr<|uE ‹_›,fr<|uE ‹_›]at e;exact(List.getElem_inj b7.2).mp e
 have nb:∀l:HO ā,(∀i∈l,i<101)->f∈l->(l.map λg=>(fF g,uW g)).lookup (fF f)=some (uW f):=by
  intro l;induction l with
  |nil=>intro _ h;cases h
  |cons g r ap=>
   intro aj aN;rw[gh,kO];cases q:(fF f==fF g)with
   |true=>rw[inj f g a7 (aj g<|.head _)<|fL.mp q]
   |false=>
    rcases ew.mp aN with rfl|aN
    .simp at q
    .exact ap (λi aB=>aj i<|.tail _ aB) aN
 exact nb _ (λi aB=>lE.mp aB)<|lE.mpr a7
theorem Ph(cz:Gc w H):FD (base w H os aH) xq fF spT where
 ok:=VO cz
 an:=rfl
 defs:=λf h1 e=>by
  obtain⟨a7,rfl⟩:=QT e;have aq:=pW NX a7;obtain⟨G,E,aC,ba,cN,d5,fp,qk,er,si,s_,m4⟩:=Rk<|pW Lh a7;obtain⟨cP,jP,m4⟩:=r4 m4;have m4:=k3 m4;have X:=Bg cz;refine⟨_,qx<|qb f,(ln<|qb f).args.map (·.arg),cP,⟨⟨uW f,X _ _<|Do<|Do<|WD a7,rfl⟩,rfl,rfl,rfl,rfl,fL.mp G,BZ E,BZ aC,(lim w.params).keeps cz,TX (xS X) ba,cN,rfl,fj d5,?_,YU (xS X) m4.2,fj m4.1,?_,?_,?_,?_,?_,?_⟩,fj si,aq,fj s_⟩
  .show((s4 f).2.1=.none/\cP=[])\/dJ λT o k=>dD ((s4 f).2.1=.ref T) _ _;revert jP;cases(s4 f).2.1 with
   |none=>intro jP;cases jP;exact .inl ⟨rfl,rfl⟩
   |ref T=>intro jP;obtain⟨⟨l,k⟩,bt,rfl⟩:=wA.mp<|show(wt rO "tuple" T).map (·.1)=some cP from jP;exact .inr ⟨T,_,k,rfl,xS X _ _<|F4 bt,rfl⟩
   |_=>exact λh=>bY h
  .exact λn am=>JP<|d'.mp fp n am
  .intro y a1 q;have:=d'.mp qk y a1;rw[q]at this;cases this
  .intro x i aA;have:=k3<|d'.mp er _<|mem_of_lookup aA;exact⟨fj this.1,fj this.2⟩
  .intro x aA;exact fL.mp aA
  .intro x aA;have:vy (b'<|qb f).names x=true:=by unfold vy;simpa[ft.b6,spT]using aA
   exact JP this
  .intro x aA;have:(true&&(b'<|qb f).names.lookup x==some .cell)=true:=aA;simpa using this
 pl:=λx g e=>by have:=Am (Zi w.params) e;simp only[eX,fL]at this;exact this
 oQ:=λx v e=>by obtain⟨V,q,h⟩:=r4<|Am (Q0 w.params) e;exact⟨V,q,FO (xS<|Bg cz) h⟩
 gl:=λx be e=>by have:=Am (TJ w.params) e;simp only[eX,fL]at this;obtain⟨⟨G,E⟩,aC⟩:=this;refine⟨G,E,λf a7=>?_⟩;have jM:CU be=some f:=a7;unfold DI at aC;rw[jM]at aC;simp only[eX,fL,jT]at aC;exact⟨aC.1.1.1,aC.1.1.2,aC.1.2,aC.2⟩
 qj:=λm name e=>by
  have bz:ri[m]?=some name:=e;have aN:m<10:=(g9.mp bz).1;have jB:name∈ri:=h9 bz;refine⟨λa=>M' jB a,λbe f a7=>?_⟩;have jM:B5 be m=some f:=a7;have jX:be<7:=by obtain⟨x,G,E⟩:=wA.mp jM;clear jM;have aC:=d'.mp (rfl:(EX.all λx=>Nat.blt x.1 7)=true) x<|ye G;have ba:(Nat.beq x.1 be&&Nat.beq x.2.1 m)=true:=um (p:=λx:ā×ā×ā=>Nat.beq x.1 be&&Nat.beq x.2.1 m) G;rw[<-Nat.eq_of_beq_eq_true (k3 ba).1];exact ih aC
  have:=pW (pW (L3 w.params) aN) jX;rw[jM]at this;have q:ri.getD m Str.empty=name:=by rw[lM,bz];rfl
  rw[q]at this;unfold G5 at this;simp only[eX,fL]at this;exact⟨this.1.1.1.1,this.1.1.1.2,this.1.1.2,this.1.2,this.2⟩
 bi:=λfl nm e=>by have h:=d'.mp (MT w.params) fl (by cases fl<;>first|decide|cases e);rw[e]at h;simp only[eX,fL,pH]at h;exact h
 inst:=by have h:=EZ w.params;simp only[eX,fL,pH]at h;exact h.1
 ey:=by have h:=EZ w.params;simp only[eX,fL,pH]at h;exact h.2
end
def Answers:Prop:=∀l:HO Ă,bc 100 100 [.lst<|l.map .int] [] λv _=>v=.bool true
set_option tactic.hygienic true in
theorem EE{H:Heap}{a:Addr}{o:Obj}(h:fB H a=.a5 o):H.get? a=some o:=by
 unfold fB at h;split at h
 .rename_i cw e;cases h;exact e
 .cases h
theorem Be(H:Heap)(a:Addr):fB H a=.none\/∃o,fB H a=.a5 o:=by
 unfold fB;split
 .exact .inr ⟨_,rfl⟩
 .exact .inl rfl
theorem Te(P:Params)(N:g2)(s:Mt)(d_:s.gens=#[]):Inv P N s.heap s.os (fB s.heap) [] s where
 alloc:=λa h=>by
  rcases Be s.heap a with e|⟨o,e⟩
  .exact absurd e h
  .rw[EE e];rfl
 uniq:=λa b e h=>by rcases Be s.heap a with q|⟨o,q⟩<;>rw[q]at h<;>cases h
 a5:=λa o e=>EE e
 store:=λn ct h=>by cases h
 base:=λa o e=>by unfold fB;rw[e]
 gens:=d_
 hQ:=rfl
 gA:=λa n h=>by rcases Be s.heap a with q|⟨o,q⟩<;>rw[q]at h<;>rcases h with h|h<;>cases h
theorem W'{P:Params}{h:Heap}{l:HO Ă}:∀{vs:HO Zr},WellAll P h vs (l.map .int)->bD P (fB h) (l.map .int) vs:=by
 induction l with
 |nil=>intro vs h;cases h;exact .nil
 |cons i l ap=>intro vs h;cases h with|cons a r=>cases a;exact .cons (.int i _)<|ap r
theorem Ro:PySem.W.same (.bool true) (.bool true)=true:=by decide+kernel
theorem XN:tp callerA 100:=⟨rfl,by decide,by decide⟩
theorem Oe(w:World):om w.params "law"=some (.ref<|fF 100):=by kernel_rfl
theorem V9(Aj:Answers):WalkO oh loose (λ_ _=>True) Kept jr.row.toRowW pu [] (λf vs=>PySem.call f vs):=by
 intro w eP bs gL j7 cS cz a o w3 kh doc ZR Z0 az bg Z8 ZO q' Xq args vals as GA ZC Zv W7 ZW;obtain⟨sP,ae⟩:=pre_splitW GA;clear GA;obtain⟨d,r,rfl,Jf,bn⟩:=hasAllW_cons sP;clear sP;obtain rfl:=hasAllW_nil bn;obtain⟨bO,rfl,v0⟩:=hasW_list Jf;clear Jf;obtain⟨l,rfl⟩:=items_int v0;clear v0;have aj:l.length<=63:=by
  have nb:∀b:ZI,WTm.holds jr.row.records (.and (.not (.lit<|.bool b))<|.lit<|.bool true) {args:=[WData.list<|l.map .int]}=true->b=false:=λb h=>by
   induction b with
   |false=>rfl
   |true=>exact cH h
  have q:¬(63:Ă)<((l.map WData.int).length:Ă):=ra<|nb _ ae;rw[bT]at q;lia
 have PX:gL=om w.params:=by funext x;exact Heap.Ns.agree cS.T.g ((I2 w.params).keeps cz) x
 have ak:a=fF 100:=by rw[PX]at q';have E:=Oe w;have aC:=q'.symm.trans E;cases aC;rfl
 subst ak;cases W7 with
 |cons G E=>
  cases E;cases G with
  |list mT iB=>
   refine wpAny_call ?_;have W:=Ph (w:=w) (H:=bs.heap) (os:=bs.os) (aH:=λ_=>True) cz;have g4:(l.map B.int).length<=a3:=by rw[bT];unfold a3;exact f1 ‹_›
   refine L8 W 100 callerA XN 100 bs (fB bs.heap) [] [.lst<|l.map .int] _ _ _ (Te _ _ bs Xq) (.cons (.lst (by unfold fB;rw[mT]) (W' iB) g4) .nil) (Aj l) λv bG af V aO ar dm x cp=>?_;subst af;cases cp;refine GoodW.toG ⟨.inl ⟨_,.bool true,[],rfl,raisesW_false allW_false_nil,.bool _,?_,λ_=>⟨.nil,λ_ h=>by cases h⟩⟩,λb o h=>dm.a5 b o<|dm.base b o h,dm.hQ,dm.gens⟩;exact postW_of (r:=jr.row.toRowW) (X:=true) rfl (bI (λb=>some<|WData.bool b) Ro) rfl
theorem promised:jr.row.toRowW.promised:=⟨[.list []],by decide+kernel,by decide+kernel⟩
theorem RA(Aj:Answers):jr.Holds:=head promised<|V9 Aj
theorem fin:jr.Holds:=RA RW
end
end Up.Internal
theorem PySem.Challenge.cw_up0039_01_holds : PySem.Challenge.rw_up0039_01.Holds :=
  Up.Internal.fin
