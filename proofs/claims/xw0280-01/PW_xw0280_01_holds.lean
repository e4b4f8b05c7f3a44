import PyProof.Rows.All
import Wide.All
import OpenK.AllK
import Wide.FinOn
import Open.Line
import PySem.Challenge.RW_xw0280_01
set_option autoImplicit false
set_option linter.all false
set_option genInjectivity false
set_option genSizeOf false
set_option genCtorIdx false
set_option bootstrap.genMatcherCode false
set_option compiler.extract_closed false
set_option hygiene false
set_option Elab.async false
open Nat renaming le_trans→b6,add_le_add→b7,le_refl→d8,lt_of_le_of_lt→g9,lt_of_lt_of_le→i8,le_of_eq→j6,zero_le→j9,mul_le_mul→r9,le_add_right→u3,add_le_add_right→v5,le_add_left→x9,le_sub_one_of_lt→A0,le_of_lt→A9,lt_of_succ_lt_succ→B1,succ_le_succ→E8,le_of_ble_eq_true→F3,not_le→F9,not_lt→I8,zero_add→J0,lt_add_of_pos_right→J7,le_of_succ_le_succ→L2,add_comm→L3,le_of_not_lt→L8,eq_of_beq_eq_true→M7,sub_le_sub_right→N6,succ_add_eq_add_succ→O1,add_assoc→O2,add_le_add_left→O6,le_succ→P8,not_lt_zero→R0,div_add_mod→R3,succ_le_of_lt→S3,le_succ_of_le→S4,lt_irrefl→W7,xor_lt_two_pow→Y3,succ_pos→Z7,sub_le→aw,lt_succ_self→ax,not_succ_le_zero→aK,min_eq_left→aR,xor_mod_two_pow→aZ,ne_of_lt→bA,mod_two_eq_zero_or_one→bW,mod_lt→bX,add_right_comm→bY,xor_assoc→cU,min_eq_right→dx,le_antisymm→dX
open List renaming length_append→d6,mem_singleton→i6,mem_cons→l5,replicate→l6,length_cons→m9,length_replicate→n7,length_map→r7,mem_append_right→s9,getD_eq_getElem?_getD→t5,append_assoc→t6,not_mem_nil→t9,mem_append→y6,append_nil→y7,sublist_append_right→B0,replicate_succ→C1,mem_cons_of_mem→C3,getElem?_eq_some_iff→D4,mem_cons_self→E4,mem_append_left→E5,map_cons→F5,mem_map→F7,nodup_cons→I2,map_append→I3,getElem?_eq_getElem→J1,flatten_cons→J8,take_of_length_le→L4,drop_of_length_le→L5,lookup_cons→L9,all_eq_true→M0,pairwise_cons→M6,range→O3,mem_reverse→P4,size_toArray→S5,pairwise_append→U2,mem_of_mem_take→U3,getElem?_append_right→U4,toArray→V0,length_take→V1,length_drop→V2,filterMap_cons→V8,eq_of_mem_replicate→W8,length_nil→X4,zip_cons_cons→Y4,filter_cons_of_neg→Y7,perm_append_comm→ai,length_set→aS,map_congr_left→ba,drop_left→bZ,getElem?_append_left→cy,any_eq_false→cM,nil_sublist→dy,getElem_mem→dz,cons_append→dA,range_succ→dY,range'→eO,mem_range→eP
open Int renaming le_trans→e6,lt_of_lt_of_le→e7,lt_of_le_of_lt→e8,le_refl→g6,natCast_nonneg→g8,le_sub_one_of_lt→i5,ofNat_lt→j1,add_le_add→j4,emod_nonneg→j5,emod_lt_of_pos→j7,le_of_eq→l7,ofNat_le→m5,sub_le_sub→o8,not_lt→r6,ediv_nonneg→r8,toNat_natCast→t7,mul_nonneg→t8,add_one_le_of_lt→u0,ediv_lt_of_lt_mul→v7,ediv_le_ediv→v8,eq_ofNat_of_zero_le→A1,toNat_le→A2,le_of_lt→A3,lt_irrefl→A6,mul_le_mul→A7,mul_comm→B3,add_assoc→B6,add_nonneg→C4,toNat_of_nonneg→C9,lt_add_of_pos_right→D1,mul_le_mul_of_nonneg_left→D3,add_sub_cancel→D5,le_add_of_nonneg_right→E6,toNat_lt→E9,not_le→G0,add_zero→G8,add_comm→G9,emod_eq_of_lt→J9,ediv_ediv_of_nonneg→K0,natCast_pow→K4,natCast_add→K5,emod_add_ediv_mul→M8,zero_add→N7,toNat_sub→O4,ne_of_gt→Q5,mul_assoc→R5,add_sub_assoc→S6,sub_one_lt_of_le→U5,zero_sub→Z8,mul_one→aL,mul_add→aM,sub_le_self→aT,le_antisymm→aU,add_lt_add_left→bc,sub_zero→bB,pow_succ→bC,lt_trans→bD,sub_add_cancel→cf,add_mul_emod_self_left→cj,add_lt_add_of_lt_of_le→cn,pow_pos→cN,add_mul→cO,zero_ediv→cV,natCast_emod→dB,ediv_le_self→dC,ediv_one→dS
open Bool renaming false_ne_true→e9,and_eq_true_iff→C5,or_eq_true_iff→K7,and_eq_true→M1,true_and→aH,and_false→cq,noConfusion→dD
open PySem.W.Fast renaming tw14364793385576792824→j0,tw12563942051412417395→j2,tw10110043849684766642→j3,te14364793385576792824→W6
open Classical renaming choose_spec→ef
open PySem renaming wpAny_bind→i7,wpAny_pure→m6,wpAny→n9,builtinLookup_eq_fast→r0,typeLookup_type→u5,wpAny_of_eq→x8,model→y8,wpAny_specialOf→A8,checkBuiltinCall→B2,mainGlobals→C8,compareOp→D9,starEach→E0,sizeLine_eq→F0,isSubtype_type→F4,assignEach→F8,entryFor_of_tree→G1,wpAny_standAt→G6,wpAny_ite_false→I1,bm_if_false→J2,holding→J5,argsOk→K1,entryFor→K6,wpAny_isInstance→L6,typeLookup→M2,arm_evalEach_cons→N3,typeIs_int→N8,wpAny_bindName→O7,cellsFrom→O8,wpAny_rule→P9,standAt→Q2,theTreesLotGoes→Q6,sizeLine→Q7,Result→R6,richCompare_gives→R8,wpAny_load→S9,backTo→T6,noteFrame→U6,isTrue→V4,wpAny_holding→V9,swappedStores→W0,plainId_quiet→W1,checkTypeCall→W2,attributeBase→W3,relabel→W9,codeAny_of_tree→X0,isInstance→X5,builtinsNs→X6,wpAny_newObj_type→Y8,object_init_meets→Y9,handleBy→Z0,arm_execs_cons→Z1,strLen_append→az,assignInOrder→aA,BindsTo→aB,codeAny_builtin→aN,assign→aO,arm_eval_BoolOp→aP,table→aV,execs→aW,spliced→bg,treeTable→bE,pyIter→bJ,callType_codes→bK,richCompare→cz,wpAny_release→cP,comprehension→cQ,callWith→cW,binaryOp→cX,clipAt→dE,allTrue→dF
open PySem.W renaming look_both→u1,typeIs_bytes→u2,topFrame→B5,piece_app→B9,deadEnd→E7,instObj→G4,emptyDict→J6,doneF→O5,boot_heap→U7,Looks→bL
open PyProof.Rows renaming subscriptTail→ay
namespace Mine
noncomputable section
set_option genCtorIdx true in
inductive AV where
 |none | bool (b:Bool) | int (i:Int) | str | bytes (l:List Int)
 |tup (l:List AV) | fl (l:List AV) | inst (C:Nat) (fs:List (Nat×AV)) | obj (C n:Nat) | ref (n:Nat) | U
set_option genCtorIdx true in
inductive Cell where
 |dict (fs:List (Nat×AV)) | list (l:List AV) | barr (l:List Int) | gone
noncomputable abbrev Hp:=List Cell
noncomputable abbrev Loc:=List AV
noncomputable abbrev KE:=AV→Hp→Prop
noncomputable abbrev XE:=Nat→Hp→Prop
inductive Hd where
 |retI (i:Int) | retN | inc (x:Nat) (i:Int) | bad
inductive T where
 |nil | cons (h t:T)
 |none_ | bool_ (b:Bool) | int_ (i:Int) | byt (l:List Int) | str_
 |loc (x:Nat) | glb (v:AV)
 |attr (e:T) (f:Nat)
 |bin (o:Nat) (a b:T)
 |not_ (a:T) | neg (a:T) | and_ (a b:T) | or_ (a b:T)
 |cmp (o:Nat) (a b:T)
 |sub (a i:T) | slc (a l u:T)
 |ite_ (c a b:T)
 |tup (es:T) | lst (es:T) | mlst (es:T)
 |comp (elt:T) (x:Nat) (it:T) (cond:T) | compR (elt:T) (x:Nat) (as:T) (cond:T)
 |callF (f:Nat) (as:T) | callC (c:Nat) (as:T) | callM (o:T) (m:Nat) (as:T) | callL (o:T) (m:Nat) (as:T) | callB (b:Nat) (as:T) | isB (a:T)
 |fstr (e:T)
 |asgC (x:Nat) (elt:T) (y:Nat) (it cond:T) | asg (x:Nat) (e:T) | asgT (xs:List Nat) (e:T) | asgA (o:T) (f:Nat) (e:T) | asgS (o i e:T)
 |aug (x:Nat) (op:Nat) (e:T) | augA (o:T) (f:Nat) (op:Nat) (e:T) | augS (o i:T) (op:Nat) (e:T)
 |if_ (c a b:T) | while_ (c b:T) | for_ (xs:List Nat) (it b:T) | forR (x:Nat) (as b:T)
 |ret (e:T) | raise (c:Nat) (as:T) | try_ (b:T) (hs:List (Nat×Hd)) | ex (e:T) | pass | bad
structure Itf where
 call:Nat→List AV→Hp→KE→XE→Prop
 callC:Nat→List AV→Hp→KE→XE→Prop
 mtab:Nat→Nat→Option Nat
noncomputable def lk(fs:List (Nat×AV))(f:Nat):AV:=match fs with
 |[]=>.U
 |p::r=>match Nat.beq p.1 f with
  |true=>p.2
  |false=>lk r f
noncomputable def st(fs:List (Nat×AV))(f:Nat)(v:AV):List (Nat×AV):=match fs with
 |[]=>[(f,v)]
 |p::r=>match Nat.beq p.1 f with
  |true=>(f,v)::r
  |false=>p::st r f v
noncomputable def get(H:Hp)(n:Nat):Cell:=match H with
 |[]=>.gone
 |c::r=>match n with
  |0=>c
  |n+1=>get r n
noncomputable def put(H:Hp)(n:Nat)(c:Cell):Hp:=match H with
 |[]=>[]
 |d::r=>match n with
  |0=>c::r
  |n+1=>d::put r n c
noncomputable def gG(r:Loc)(n:Nat)(F:AV→Prop):Prop:=match r with
 |[]=>False
 |v::r=>match n with
  |0=>(match v with
   |.U=>False
   |v=>F v)
  |n+1=>gG r n F
noncomputable def Y5(r:Loc)(n:Nat)(v:AV)(F:Loc→Prop):Prop:=match r with
 |[]=>F []
 |d::r=>match n with
  |0=>F (v::r)
  |n+1=>Y5 r n v λr=>F (d::r)
noncomputable def Ab(fs:List (Nat×AV))(f:Nat)(F:AV→Prop):Prop:=match fs with
 |[]=>False
 |(k,v)::r=>match Nat.beq k f with
  |true=>(match v with
   |.U=>False
   |v=>F v)
  |false=>Ab r f F
noncomputable def stC(fs:List (Nat×AV))(f:Nat)(w:AV)(F:List (Nat×AV)→Prop):Prop:=match fs with
 |[]=>F [(f,w)]
 |(k,v)::r=>match Nat.beq k f with
  |true=>F ((f,w)::r)
  |false=>stC r f w λr=>F ((k,v)::r)
noncomputable def As(n:Nat)(F:Loc→Prop):Prop:=match n with
 |0=>F []
 |n+1=>As n λr=>F (.U::r)
noncomputable def GW(vs:List AV)(n:Nat)(F:Loc→Prop):Prop:=match vs with
 |[]=>As n F
 |v::r=>GW r n λr=>F (v::r)
noncomputable def bQ(v:AV):Option Bool:=match v with
 |.bool b=>some b
 |.int i=>some (decide (i≠0))
 |_=>Option.none
noncomputable def P3(v:AV):Bool:=match v with
 |.U=>true
 |_=>false
noncomputable def V5{α:Type}(o:Option α)(F:α→Prop):Prop:=match o with
 |some a=>F a
 |Option.none=>False
noncomputable def Z3(v:AV)(F:Bool→Prop):Prop:=V5 (bQ v) F
structure nP(p F:Prop):Prop where
 h:p
 f:F
noncomputable def zR(v:AV)(F:Prop):Prop:=match v with
 |.U=>F
 |_=>False
noncomputable def mB{α:Type}(o:Option α)(F:Prop):Prop:=match o with
 |some _=>False
 |Option.none=>F
noncomputable def CX{α:Type}(l:List α)(F:Prop):Prop:=match l with
 |[]=>F
 |_=>False
structure br(b:Bool)(F G:Prop):Prop where
 t:b=true→F
 f:b=false→G
structure nw(H:Hp)(c:Cell)(F:Nat→Hp→Prop):Prop where
 h:F H.length (H++[c])
structure wr(H:Hp)(n:Nat)(c:Cell)(F:Hp→Prop):Prop where
 h:F (put H n c)
noncomputable def G2(v:AV)(F:Int→Prop):Prop:=match v with
 |.int i=>F i
 |_=>False
noncomputable def onBytes(v:AV)(F:List Int→Prop):Prop:=match v with
 |.bytes i=>F i
 |_=>False
noncomputable def ae(v:AV)(F:List AV→Prop):Prop:=match v with
 |.tup l=>F l
 |_=>False
noncomputable def pV(v:AV)(F:List AV→Prop):Prop:=match v with
 |.fl l=>F l
 |_=>False
noncomputable def qW(v:AV)(F:Nat→Prop):Prop:=match v with
 |.ref n=>F n
 |_=>False
noncomputable def zT(v:AV)(F:Nat→Nat→Prop):Prop:=match v with
 |.obj C n=>F C n
 |_=>False
inductive rdD(H:Hp)(n:Nat)(F:List (Nat×AV)→Prop):Prop
 |mk {fs:List (Nat×AV)} (e:get H n = .dict fs) (f:F fs)
inductive rdL(H:Hp)(n:Nat)(F:List AV→Prop):Prop
 |mk {l:List AV} (e:get H n = .list l) (f:F l)
inductive rdB(H:Hp)(n:Nat)(F:List Int→Prop):Prop
 |mk {l:List Int} (e:get H n = .barr l) (f:F l)
inductive rdLB(H:Hp)(n:Nat)(F:List AV→Prop)(G:List Int→Prop):Prop
 |l {l:List AV} (e:get H n = .list l) (f:F l)
 |b {l:List Int} (e:get H n = .barr l) (f:G l)
noncomputable def pU(v:AV)(H:Hp)(F:Nat→List (Nat×AV)→Prop):Prop:=match v with
 |.inst C fs=>F C fs
 |.obj C n=>rdD H n (F C)
 |_=>False
noncomputable def P5(a b:Int):Int:=((a.toNat&&&b.toNat:Nat):Int)
noncomputable def iU(a b:Int):Int:=((a.toNat|||b.toNat:Nat):Int)
noncomputable def gA(a b:Int):Int:=((a.toNat^^^b.toNat:Nat):Int)
noncomputable def pw(a:Int)(k:Nat):Int:=a^k
noncomputable def hF(a:Int)(k:Nat):Int:=a*2^k
noncomputable def cH(a:Int)(k:Nat):Int:=a/2^k
noncomputable def K8:Nat:=16777216
noncomputable abbrev small(a:Int):Prop:=-18446744073709551616<a∧a<18446744073709551616
noncomputable abbrev within(a b:Int):Prop:=0≤a∧a<b
noncomputable def kV(K:KE)(H:Hp):AV→Prop:=λv=>K v H
noncomputable def Dn(K:KE)(H:Hp):Int→Prop:=λi=>K (.int i) H
noncomputable def Ic(K:KE)(H:Hp):Nat→Prop:=λn=>K (.int n) H
noncomputable def GH(K:KE)(H:Hp):List Int→Prop:=λl=>K (.bytes l) H
noncomputable def yw(K:KE):Nat→Hp→Prop:=λn H=>K (.ref n) H
noncomputable def binI(o:Nat)(a b:Int)(K:AV→Prop):Prop:=match o with
 |0=>K (.int (a+b))
 |1=>K (.int (a-b))
 |2=>nP (small b) (K (.int (a*b)))
 |3=>nP (0<b) (nP (small b) (K (.int (a/b))))
 |4=>nP (0<b) (K (.int (a%b)))
 |5=>nP (small a) (nP (within b 1000) (K (.int (pw a b.toNat))))
 |6=>nP (small a) (nP (within b 1000) (K (.int (hF a b.toNat))))
 |7=>nP (0≤b) (K (.int (cH a b.toNat)))
 |8=>nP (0≤a) (nP (0≤b) (K (.int (P5 a b))))
 |9=>nP (0≤a) (nP (0≤b) (K (.int (iU a b))))
 |10=>nP (0≤a) (nP (0≤b) (K (.int (gA a b))))
 |_=>False
noncomputable def rep{α:Type}(n:Int)(l:List α):List α:=(l6 n.toNat l).flatten
noncomputable def Hj(o:Nat)(a:List Int)(b:AV)(H:Hp)(K:KE):Prop:=match o with
 |0=>onBytes b λb=>nP (a.length+b.length≤K8) (K (.bytes (a++b)) H)
 |2=>G2 b λn=>nP (0<a.length∧a.length≤16) (nP (within n 100000) (K (.bytes (rep n a)) H))
 |_=>False
noncomputable def Hi(o:Nat)(a:List AV)(b:AV)(H:Hp)(K:KE):Prop:=match o with
 |0=>pV b λb=>nP (a.length+b.length≤K8) (K (.fl (a++b)) H)
 |2=>G2 b λn=>nP (a.length=1) (nP (-100000<n) (nP (n<100000) (K (.fl (rep n a)) H)))
 |12=>G2 b λn=>nP (a.length=1) (nP (-100000<n) (nP (n<100000) (nw H (.list (rep n a)) (yw K))))
 |_=>False
noncomputable def GM(b:AV)(H:Hp)(K:KE):List AV→Prop:=λa=>pV b λb=>nP (a.length+b.length≤K8) (K (.fl (a++b)) H)
noncomputable def bin(o:Nat)(a b:AV)(H:Hp)(K:KE):Prop:=match a with
 |.int a=>G2 b λb=>binI o a b (kV K H)
 |.bytes a=>Hj o a b H K
 |.fl a=>Hi o a b H K
 |.ref n=>nP (o=0) (rdL H n (GM b H K))
 |_=>False
noncomputable def lexLt:List Int→List Int→Bool
 |[],[]=>false
 |[],_::_=>true
 |_::_,[]=>false
 |a::r,b::q=>decide (a<b)||(decide (a=b)&&lexLt r q)
noncomputable def yY(o:Nat)(a b:Int)(K:AV→Prop):Prop:=match o with
 |0=>K (.bool (decide (a=b)))
 |1=>K (.bool (decide (a≠b)))
 |2=>K (.bool (decide (a<b)))
 |3=>K (.bool (decide (a≤b)))
 |4=>K (.bool (decide (b<a)))
 |5=>K (.bool (decide (b≤a)))
 |_=>False
noncomputable def za(o:Nat)(a b:List Int)(K:AV→Prop):Prop:=match o with
 |0=>K (.bool (decide (a=b)))
 |1=>K (.bool (decide (a≠b)))
 |2=>K (.bool (lexLt a b))
 |4=>K (.bool (lexLt b a))
 |_=>False
noncomputable def yL(o:Nat)(b:Bool)(K:AV→Prop):Prop:=match o with
 |0=>K (.bool b)
 |1=>K (.bool (!b))
 |_=>False
noncomputable def ak(a b:List Int)(x y:Int):Bool:=if decide (a=b) then decide (x<y) else lexLt a b
noncomputable def eA(a b:List Int)(x y:Int):Bool:=if decide (a=b) then decide (x≤y) else !lexLt b a
noncomputable def wj(o:Nat)(a b:List Int)(x y:Int)(K:AV→Prop):Prop:=match o with
 |2=>K (.bool (ak a b x y))
 |3=>K (.bool (eA a b x y))
 |_=>False
noncomputable def wi(o:Nat)(a b:List AV)(K:AV→Prop):Prop:=match a with
 |[.bytes a,x]=>(match b with
  |[.bytes b,y]=>(match x with
   |.bytes x=>onBytes y λy=>yL o (decide (a=b)&&decide (x=y)) K
   |.int x=>G2 y λy=>wj o a b x y K
   |_=>False)
  |_=>False)
 |_=>False
noncomputable def isNone(v:AV):Bool:=match v with
 |.none=>true
 |_=>false
noncomputable def cmp(o:Nat)(a b:AV)(K:AV→Prop):Prop:=match a with
 |.int a=>G2 b λb=>yY o a b K
 |.bytes a=>onBytes b λb=>za o a b K
 |.bool a=>(match b with
  |.bool b=>yL o (a==b) K
  |_=>False)
 |.none=>nP (isNone b=true) (yL o true K)
 |.tup a=>ae b λb=>wi o a b K
 |_=>False
noncomputable def BH(o:Nat)(a b:AV)(K:AV→Prop):Prop:=match o with
 |6=>nP (isNone b=true) (K (.bool (isNone a)))
 |7=>nP (isNone b=true) (K (.bool (!isNone a)))
 |o=>cmp o a b K
noncomputable abbrev KN:=Loc→Hp→Prop
noncomputable abbrev XS:=Nat→Loc→Hp→Prop
noncomputable def one(vs:List AV)(F:AV→Prop):Prop:=match vs with
 |[v]=>F v
 |_=>False
noncomputable def two(vs:List AV)(F:AV→AV→Prop):Prop:=match vs with
 |[v,w]=>F v w
 |_=>False
noncomputable def qd(c:Cell)(m:Nat):Bool:=match c with
 |.barr _=>Nat.beq m 0||Nat.beq m 1
 |.list _=>Nat.beq m 0||Nat.beq m 2
 |_=>false
noncomputable def FY(m n:Nat)(vs:List AV)(H:Hp)(K:KE):List AV→Prop:=λl=>match m with
 |0=>one vs λv=>nP (l.length<K8) (wr H n (.list (l++[v])) (K .none))
 |2=>CX vs (nP (0<l.length) (wr H n (.list l.dropLast) (K (l.getLastD .U))))
 |_=>False
noncomputable def FZ(m n:Nat)(vs:List AV)(H:Hp)(K:KE):List Int→Prop:=λl=>match m with
 |0=>one vs λv=>G2 v λi=>nP (within i 256) (nP (l.length<K8) (wr H n (.barr (l++[i])) (K .none)))
 |1=>one vs λv=>onBytes v λb=>nP (l.length+b.length≤K8) (wr H n (.barr (l++b)) (K .none))
 |_=>False
noncomputable def yh(m n:Nat)(vs:List AV)(H:Hp)(K:KE):Prop:=rdLB H n (FY m n vs H K) (FZ m n vs H K)
noncomputable def eJ:List AV→Option (List Int)
 |[]=>some []
 |v::r=>match v with
  |.int i=>(match eJ r with
   |some l=>some (i::l)
   |Option.none=>Option.none)
  |_=>Option.none
noncomputable def Dk(F:Nat→Prop):List AV→Prop:=λl=>F l.length
noncomputable def Dl(F:Nat→Prop):List Int→Prop:=λl=>F l.length
noncomputable def Dm(F:List Int→Prop):List Int→Prop:=λks=>nP (∀k∈ks,within k 256) (nP (ks.length≤K8) (F ks))
noncomputable def Dj(F:Int→Prop):List Int→Prop:=λks=>F ks.sum
noncomputable def DQ(v:AV)(H:Hp)(F:Nat→Prop):Prop:=match v with
 |.bytes l=>F l.length
 |.fl l=>F l.length
 |.ref n=>rdLB H n (Dk F) (Dl F)
 |_=>False
noncomputable def wH(v:AV)(H:Hp)(F:List Int→Prop):Prop:=match v with
 |.fl l=>V5 (eJ l) (Dm F)
 |.bytes l=>F l
 |.int n=>nP (within n 100000) (F (l6 n.toNat 0))
 |.ref n=>rdB H n F
 |_=>False
noncomputable def An(v:AV)(H:Hp)(F:List Int→Prop):Prop:=match v with
 |.bytes l=>F l
 |.int n=>nP (within n 100000) (F (l6 n.toNat 0))
 |.ref n=>rdB H n F
 |_=>False
noncomputable def DP(v:AV)(F:Int→Prop):Prop:=match v with
 |.fl l=>V5 (eJ l) (Dj F)
 |.bytes l=>F l.sum
 |_=>False
noncomputable def vw(l:List Int)(F:Int→Prop):Prop:=match l with
 |[]=>False
 |l=>∀m:Int,m∈l→(∀x∈l,x≤m)→F m
noncomputable def Dr(K:KE)(H:Hp):List Int→Prop:=λl=>nw H (.barr l) (yw K)
noncomputable def Gf(F:Int→Prop):List Int→Prop:=λks=>vw ks F
noncomputable def bi(b:Nat)(vs:List AV)(H:Hp)(K:KE):Prop:=match b with
 |0=>one vs λv=>DQ v H (Ic K H)
 |1=>one vs λv=>wH v H (GH K H)
 |2=>(match vs with
  |[]=>nw H (.barr []) (yw K)
  |vs=>one vs λv=>An v H (Dr K H))
 |4=>one vs λv=>DP v (Dn K H)
 |5=>two vs λa b=>G2 a λa=>G2 b λb=>K (.int (if b<a then b else a)) H
 |6=>(match vs with
  |[v]=>pV v λl=>V5 (eJ l) (Gf (Dn K H))
  |vs=>two vs λa b=>G2 a λa=>G2 b λb=>K (.int (if a<b then b else a)) H)
 |_=>False
noncomputable def wJ{α:Type}(l:List α)(i:Int)(F:Prop):Prop:=nP (within i l.length) F
noncomputable def Gk(i:Int)(H:Hp)(K:KE):List AV→Prop:=λl=>wJ l i (K (l.getD i.toNat .U) H)
noncomputable def Gl(i:Int)(H:Hp)(K:KE):List Int→Prop:=λl=>wJ l i (within (l.getD i.toNat 0) 256→K (.int (l.getD i.toNat 0)) H)
noncomputable def Ig(v:AV)(i:Int)(H:Hp)(K:KE):Prop:=match v with
 |.bytes l=>wJ l i (within (l.getD i.toNat 0) 256→K (.int (l.getD i.toNat 0)) H)
 |.tup l=>nP (i<1000)<|wJ l i (K (l.getD i.toNat .U) H)
 |.fl l=>wJ l i (K (l.getD i.toNat .U) H)
 |.ref n=>rdLB H n (Gk i H K) (Gl i H K)
 |_=>False
noncomputable def cut{α:Type}(l:List α)(a b:Int):List α:=(l.drop a.toNat).take (b-a).toNat
noncomputable def II(ks:List Int)(l u:AV)(H:Hp)(K:KE):Prop:=match u with
 |.int b=>(match l with
  |.int a=>nP (0≤a) (nP (0≤b) (K (.bytes (cut ks a b)) H))
  |.none=>nP (0≤b) (K (.bytes (cut ks 0 b)) H)
  |_=>False)
 |.none=>G2 l λa=>nP (0≤a) (K (.bytes (ks.drop a.toNat)) H)
 |_=>False
noncomputable def fB(v:AV)(l u:AV)(H:Hp)(K:KE):Prop:=match v with
 |.bytes ks=>II ks l u H K
 |.fl ks=>nP (isNone l=true) (G2 u λb=>nP (0≤b) (K (.fl (cut ks 0 b)) H))
 |_=>False
noncomputable def I4(n:Nat)(a c:Int):List AV:=match n with
 |0=>[]
 |n+1=>.int a::I4 n (a+c) c
noncomputable abbrev mid(a:Int):Prop:=-1000000000000<a∧a<1000000000000
noncomputable def CN(a b c:Int)(K:List AV→Prop):Prop:=nP (mid a∧mid b) (nP (0<c) (nP (c<100000) (K (I4 ((b-a+c-1)/c).toNat a c))))
noncomputable def Eu(vs:List AV)(K:List AV→Prop):Prop:=match vs with
 |[b]=>G2 b λb=>nP (mid b) (K (I4 b.toNat 0 1))
 |[a,b]=>G2 a λa=>G2 b λb=>nP (mid a∧mid b) (K (I4 (b-a).toNat a 1))
 |[a,b,c]=>G2 a λa=>G2 b λb=>G2 c λc=>CN a b c K
 |_=>False
noncomputable def GE(acc:List AV)(M:List AV→Hp→Prop):KE:=λw H=>nP (acc.length<K8) (M (acc++[w]) H)
noncomputable def GF(ihe:Loc→Hp→KE→Prop)(acc:List AV)(M:List AV→Hp→Prop)(ρ:Loc)(H:Hp):Bool→Prop:=λt=>br t (ihe ρ H (GE acc M)) (M acc H)
noncomputable def GG(ihe:Loc→Hp→KE→Prop)(acc:List AV)(M:List AV→Hp→Prop)(ρ:Loc):KE:=λb H=>Z3 b (GF ihe acc M ρ H)
noncomputable def yx(ihc ihe:Loc→Hp→KE→Prop)(acc:List AV)(M:List AV→Hp→Prop)(H:Hp):Loc→Prop:=λρ=>ihc ρ H (GG ihe acc M ρ)
noncomputable def iN(ihc ihe:Loc→Hp→KE→Prop)(ρ:Loc)(x:Nat)(K:KE):List AV→List AV→Hp→Prop
 |[],acc,H=>K (.fl acc) H
 |v::r,acc,H=>Y5 ρ x v (yx ihc ihe acc (iN ihc ihe ρ x K r) H)
noncomputable def xF:XE:=λ_ _=>False
noncomputable def yj(I:Itf)(C:Nat)(fs:List (Nat×AV))(m:Nat)(F:Nat→Prop):Prop:=zR (lk fs m) (V5 (I.mtab C m) F)
noncomputable abbrev EE:=Loc→Hp→KE→XE→Prop
noncomputable def KD(va:AV)(K:KE)(H:Hp):List AV→Prop:=λl=>K (.tup (va::l)) H
noncomputable def KF(va:AV)(K:KE):KE:=λvr H=>ae vr (KD va K H)
noncomputable def KG(E:EE)(ρ:Loc)(K:KE)(X:XE):KE:=λva H=>E ρ H (KF va K) X
noncomputable def GL(I:Itf)(f:Nat)(K:KE)(H:Hp):Nat→List (Nat×AV)→Prop:=λC fs=>mB (I.mtab C f) (Ab fs f (kV K H))
noncomputable def KM(I:Itf)(f:Nat)(K:KE):KE:=λv H=>pU v H (GL I f K H)
noncomputable def KI(o:Nat)(va:AV)(K:KE):KE:=λvb H=>bin o va vb H K
noncomputable def KJ(o:Nat)(E:EE)(ρ:Loc)(K:KE)(X:XE):KE:=λva H=>E ρ H (KI o va K) X
noncomputable def FW(K:KE)(H:Hp):Bool→Prop:=λb=>K (.bool (!b)) H
noncomputable def Ka(K:KE):KE:=λv H=>Z3 v (FW K H)
noncomputable def FX(K:KE)(H:Hp):Int→Prop:=λi=>K (.int (-i)) H
noncomputable def Kb(K:KE):KE:=λv H=>G2 v (FX K H)
noncomputable def GN(E:EE)(ρ:Loc)(K:KE)(X:XE)(v:AV)(H:Hp):Bool→Prop:=λt=>br t (E ρ H K X) (K v H)
noncomputable def KO(E:EE)(ρ:Loc)(K:KE)(X:XE):KE:=λv H=>Z3 v (GN E ρ K X v H)
noncomputable def FU(E:EE)(ρ:Loc)(K:KE)(X:XE)(v:AV)(H:Hp):Bool→Prop:=λt=>br t (K v H) (E ρ H K X)
noncomputable def JZ(E:EE)(ρ:Loc)(K:KE)(X:XE):KE:=λv H=>Z3 v (FU E ρ K X v H)
noncomputable def Ke(o:Nat)(va:AV)(K:KE):KE:=λvb H=>BH o va vb (kV K H)
noncomputable def Kg(o:Nat)(E:EE)(ρ:Loc)(K:KE)(X:XE):KE:=λva H=>E ρ H (Ke o va K) X
noncomputable def JT(va:AV)(K:KE)(H:Hp):Int→Prop:=λi=>Ig va i H K
noncomputable def JU(va:AV)(K:KE):KE:=λvi H=>G2 vi (JT va K H)
noncomputable def JV(E:EE)(ρ:Loc)(K:KE)(X:XE):KE:=λva H=>E ρ H (JU va K) X
noncomputable def Kj(va vl:AV)(K:KE):KE:=λvu H=>fB va vl vu H K
noncomputable def Kk(E:EE)(va:AV)(ρ:Loc)(K:KE)(X:XE):KE:=λvl H=>E ρ H (Kj va vl K) X
noncomputable def Kl(E F:EE)(ρ:Loc)(K:KE)(X:XE):KE:=λva H=>E ρ H (Kk F va ρ K X) X
noncomputable def Kr(A B:EE)(ρ:Loc)(K:KE)(X:XE)(H:Hp):Bool→Prop:=λt=>br t (A ρ H K X) (B ρ H K X)
noncomputable def Ks(A B:EE)(ρ:Loc)(K:KE)(X:XE):KE:=λv H=>Z3 v (Kr A B ρ K X H)
noncomputable def Gg(K:KE)(H:Hp):List AV→Prop:=λl=>K (.fl l) H
noncomputable def Kh(K:KE):KE:=λv H=>ae v (Gg K H)
noncomputable def Ge(K:KE)(H:Hp):List AV→Prop:=λl=>nw H (.list l) (yw K)
noncomputable def Kd(K:KE):KE:=λv H=>ae v (Ge K H)
noncomputable def Ib(E:EE):Loc→Hp→KE→Prop:=λρ H K=>E ρ H K xF
noncomputable def Dq(A B:EE)(ρ:Loc)(x:Nat)(K:KE)(H:Hp):List AV→Prop:=λl=>iN (Ib A) (Ib B) ρ x K l [] H
noncomputable def KC(A B:EE)(ρ:Loc)(x:Nat)(K:KE):KE:=λv H=>pV v (Dq A B ρ x K H)
noncomputable def Dp(F:List AV→Prop):List AV→Prop:=λvs=>Eu vs F
noncomputable def KB(A B:EE)(ρ:Loc)(x:Nat)(K:KE):KE:=λv H=>ae v (Dp (Dq A B ρ x K H))
noncomputable def Kz(I:Itf)(f:Nat)(K:KE)(X:XE)(H:Hp):List AV→Prop:=λvs=>I.call f vs H K X
noncomputable def kF(I:Itf)(f:Nat)(K:KE)(X:XE):KE:=λv H=>ae v (Kz I f K X H)
noncomputable def Ku(I:Itf)(f:Nat)(K:KE)(X:XE)(H:Hp):List AV→Prop:=λvs=>I.callC f vs H K X
noncomputable def kG(I:Itf)(f:Nat)(K:KE)(X:XE):KE:=λv H=>ae v (Ku I f K X H)
noncomputable def Ga(I:Itf)(f:Nat)(vo:AV)(K:KE)(X:XE)(H:Hp):List AV→Prop:=λvs=>I.call f (vo::vs) H K X
noncomputable def Gb(I:Itf)(f:Nat)(vo:AV)(K:KE)(X:XE):KE:=λv H=>ae v (Ga I f vo K X H)
noncomputable def Gc(I:Itf)(E:EE)(ρ:Loc)(K:KE)(X:XE)(vo:AV)(H:Hp):Nat→Prop:=λf=>E ρ H (Gb I f vo K X) X
noncomputable def Gd(I:Itf)(m:Nat)(E:EE)(ρ:Loc)(K:KE)(X:XE)(vo:AV)(H:Hp):Nat→List (Nat×AV)→Prop:=λC fs=>yj I C fs m (Gc I E ρ K X vo H)
noncomputable def Kc(I:Itf)(m:Nat)(E:EE)(ρ:Loc)(K:KE)(X:XE):KE:=λvo H=>pU vo H (Gd I m E ρ K X vo H)
noncomputable def Gh(m n:Nat)(K:KE)(H:Hp):List AV→Prop:=λvs=>yh m n vs H K
noncomputable def Gi(m n:Nat)(K:KE):KE:=λv H=>ae v (Gh m n K H)
noncomputable def Gj(m:Nat)(E:EE)(ρ:Loc)(K:KE)(X:XE)(H:Hp):Nat→Prop:=λn=>nP (qd (get H n) m=true) (E ρ H (Gi m n K) X)
noncomputable def Ki(m:Nat)(E:EE)(ρ:Loc)(K:KE)(X:XE):KE:=λvo H=>qW vo (Gj m E ρ K X H)
noncomputable def GI(b:Nat)(K:KE)(H:Hp):List AV→Prop:=λvs=>bi b vs H K
noncomputable def KH(b:Nat)(K:KE):KE:=λv H=>ae v (GI b K H)
noncomputable def Gn(K:KE)(H:Hp):List Int→Prop:=λ_=>K (.bool true) H
noncomputable def Ko(K:KE):KE:=λv H=>onBytes v (Gn K H)
noncomputable def GB(K:KE)(H:Hp):Int→Prop:=λi=>nP (small i) (K .str H)
noncomputable def Kv(K:KE):KE:=λv H=>G2 v (GB K H)
noncomputable def R9(I:Itf)(t:T)(ρ:Loc)(H:Hp)(K:KE)(X:XE):Prop:=match t with
 |.nil=>K (.tup []) H
 |.cons a r=>R9 I a ρ H (KG (R9 I r) ρ K X) X
 |.none_=>K .none H
 |.bool_ b=>K (.bool b) H
 |.int_ i=>K (.int i) H
 |.byt l=>K (.bytes l) H
 |.str_=>K .str H
 |.loc x=>gG ρ x (kV K H)
 |.glb v=>K v H
 |.attr e f=>R9 I e ρ H (KM I f K) X
 |.bin o a b=>R9 I a ρ H (KJ o (R9 I b) ρ K X) X
 |.not_ a=>R9 I a ρ H (Ka K) X
 |.neg a=>R9 I a ρ H (Kb K) X
 |.and_ a b=>R9 I a ρ H (KO (R9 I b) ρ K X) X
 |.or_ a b=>R9 I a ρ H (JZ (R9 I b) ρ K X) X
 |.cmp o a b=>R9 I a ρ H (Kg o (R9 I b) ρ K X) X
 |.sub a i=>R9 I a ρ H (JV (R9 I i) ρ K X) X
 |.slc a l u=>R9 I a ρ H (Kl (R9 I l) (R9 I u) ρ K X) X
 |.ite_ c a b=>R9 I c ρ H (Ks (R9 I a) (R9 I b) ρ K X) X
 |.tup es=>R9 I es ρ H K X
 |.lst es=>R9 I es ρ H (Kh K) X
 |.mlst es=>R9 I es ρ H (Kd K) X
 |.comp e x it c=>R9 I it ρ H (KC (R9 I c) (R9 I e) ρ x K) X
 |.compR e x as c=>R9 I as ρ H (KB (R9 I c) (R9 I e) ρ x K) X
 |.callF f as=>R9 I as ρ H (kF I f K X) X
 |.callC c as=>R9 I as ρ H (kG I c K X) X
 |.callM o m as=>R9 I o ρ H (Kc I m (R9 I as) ρ K X) X
 |.callL o m as=>R9 I o ρ H (Ki m (R9 I as) ρ K X) X
 |.callB b as=>R9 I as ρ H (KH b K) X
 |.isB a=>R9 I a ρ H (Ko K) X
 |.fstr e=>R9 I e ρ H (Kv K) X
 |_=>False
noncomputable def sS(ρ:Loc)(xs:List Nat)(vs:List AV)(F:Loc→Prop):Prop:=match xs with
 |[]=>F ρ
 |x::xs=>match vs with
  |[]=>F ρ
  |v::vs=>Y5 ρ x v λρ=>sS ρ xs vs F
noncomputable def T8:Nat→Loc→Hp→Prop:=λ_ _ _=>False
noncomputable def pH(xs:List Nat)(v:AV)(ρ:Loc)(F:Loc→Prop):Prop:=match xs with
 |[x]=>Y5 ρ x v F
 |xs=>ae v λvs=>nP (vs.length=xs.length) (sS ρ xs vs F)
noncomputable def same(o:Option (Nat×List AV))(H:Hp)(F:Prop):Prop:=match o with
 |Option.none=>F
 |some p=>get H p.1 = .list p.2∧F
noncomputable def Ky(ihb:Loc→Hp→KN→Prop)(M:KN)(H:Hp):Loc→Prop:=λρ=>ihb ρ H M
noncomputable def ar(xs:List Nat)(o:Option (Nat×List AV))(ihb:Loc→Hp→KN→Prop)(N:KN):List AV→Loc→Hp→Prop
 |[],ρ,H=>same o H (N ρ H)
 |v::r,ρ,H=>same o H (pH xs v ρ (Ky ihb (ar xs o ihb N r) H))
noncomputable def Km(n:Nat)(F:List AV→Option (Nat×List AV)→Prop):List AV→Prop:=λl=>F l (some (n,l))
noncomputable def kN(N:KN)(H:Hp):Loc→Prop:=λρ=>N ρ H
noncomputable def vn(v:AV)(H:Hp)(F:List AV→Option (Nat×List AV)→Prop):Prop:=match v with
 |.fl l=>F l Option.none
 |.tup l=>F l Option.none
 |.bytes l=>(∀k∈l,within k 256)→F (l.map .int) Option.none
 |.ref n=>rdL H n (Km n F)
 |_=>False
noncomputable def zL(h:Hd)(ρ:Loc)(H:Hp)(N:KN)(R:KE):Prop:=match h with
 |.retI i=>R (.int i) H
 |.retN=>R .none H
 |.inc x i=>gG ρ x λa=>G2 a λa=>Y5 ρ x (.int (a+i)) (kN N H)
 |.bad=>False
noncomputable def rK(c d:Nat):Bool:=Nat.beq c d||(match d with
 |2=>Nat.beq c 3
 |1=>Nat.beq c 2||Nat.beq c 3||Nat.beq c 4||Nat.beq c 5||Nat.beq c 6||Nat.beq c 7
 |0=>true
 |_=>false)
noncomputable def Bv(c:Nat)(ρ:Loc)(H:Hp)(N:KN)(R:KE):List (Nat×Hd)→Prop
 |[]=>False
 |p::r=>br (rK c p.1) (zL p.2 ρ H N R) (Bv c ρ H N R r)
noncomputable def FS(n:Nat)(H:Hp)(F:Hp→Prop):List (Nat×AV)→Prop:=λfs=>wr H n (.dict fs) F
noncomputable def JX(n f:Nat)(w:AV)(H:Hp)(F:Hp→Prop):List (Nat×AV)→Prop:=λfs=>nP (fs.length<900) (stC fs f w (FS n H F))
noncomputable def xl(I:Itf)(v:AV)(f:Nat)(w:AV)(H:Hp)(F:Hp→Prop):Prop:=zT v λC n=>mB (I.mtab C f) (rdD H n (JX n f w H F))
noncomputable def FP(n:Nat)(i:Int)(w:AV)(H:Hp)(F:Hp→Prop):List AV→Prop:=λl=>wJ l i (wr H n (.list (l.set i.toNat w)) F)
noncomputable def FQ(n:Nat)(i:Int)(w:AV)(H:Hp)(F:Hp→Prop):List Int→Prop:=λl=>G2 w λk=>nP (within k 256)<|wJ l i (wr H n (.barr (l.set i.toNat k)) F)
noncomputable def CH(v:AV)(i:Int)(w:AV)(H:Hp)(F:Hp→Prop):Prop:=qW v λn=>rdLB H n (FP n i w H F) (FQ n i w H F)
noncomputable abbrev wU:=Loc→Hp→KN→KE→XS→Prop
noncomputable def xE(X:XS)(ρ:Loc):XE:=λc H=>X c ρ H
noncomputable def FN(S:wU)(N:KN)(R:KE)(X:XS):KN:=λρ H=>S ρ H N R X
noncomputable def Ie(x:Nat)(ρ:Loc)(N:KN):KE:=λv H=>Y5 ρ x v (kN N H)
noncomputable def GO(xs:List Nat)(ρ:Loc)(N:KN)(H:Hp):List AV→Prop:=λvs=>nP (vs.length=xs.length) (sS ρ xs vs (kN N H))
noncomputable def KP(xs:List Nat)(ρ:Loc)(N:KN):KE:=λv H=>ae v (GO xs ρ N H)
noncomputable def GT(I:Itf)(f:Nat)(v:AV)(ρ:Loc)(N:KN):KE:=λvo H=>xl I vo f v H (N ρ)
noncomputable def KQ(I:Itf)(f:Nat)(E:EE)(ρ:Loc)(N:KN)(X:XE):KE:=λv H=>E ρ H (GT I f v ρ N) X
noncomputable def GP(v vo:AV)(ρ:Loc)(N:KN)(H:Hp):Int→Prop:=λi=>CH vo i v H (N ρ)
noncomputable def GQ(v vo:AV)(ρ:Loc)(N:KN):KE:=λvi H=>G2 vi (GP v vo ρ N H)
noncomputable def GR(E:EE)(v:AV)(ρ:Loc)(N:KN)(X:XE):KE:=λvo H=>E ρ H (GQ v vo ρ N) X
noncomputable def GS(E F:EE)(ρ:Loc)(N:KN)(X:XE):KE:=λv H=>E ρ H (GR F v ρ N X) X
noncomputable def GJ(x:Nat)(ρ:Loc)(N:KN)(H:Hp):AV→Prop:=λv=>Y5 ρ x v (kN N H)
noncomputable def GK(o:Nat)(a:Int)(x:Nat)(ρ:Loc)(N:KN)(H:Hp):Int→Prop:=λb=>binI o a b (GJ x ρ N H)
noncomputable def KL(o:Nat)(a:Int)(x:Nat)(ρ:Loc)(N:KN):KE:=λw H=>G2 w (GK o a x ρ N H)
noncomputable def Gx(I:Itf)(f:Nat)(vo:AV)(ρ:Loc)(N:KN)(H:Hp):AV→Prop:=λv=>xl I vo f v H (N ρ)
noncomputable def Gy(I:Itf)(f o:Nat)(a:Int)(vo:AV)(ρ:Loc)(N:KN)(H:Hp):Int→Prop:=λb=>binI o a b (Gx I f vo ρ N H)
noncomputable def Gz(I:Itf)(f o:Nat)(a:Int)(vo:AV)(ρ:Loc)(N:KN):KE:=λw H=>G2 w (Gy I f o a vo ρ N H)
noncomputable def GA(I:Itf)(f o:Nat)(E:EE)(vo:AV)(ρ:Loc)(N:KN)(X:XE)(H:Hp):List (Nat×AV)→Prop:=λfs=>Ab fs f λa=>G2 a λa=>E ρ H (Gz I f o a vo ρ N) X
noncomputable def Kt(I:Itf)(f o:Nat)(E:EE)(ρ:Loc)(N:KN)(X:XE):KE:=λvo H=>zT vo λC n=>mB (I.mtab C f) (rdD H n (GA I f o E vo ρ N X H))
noncomputable def Gp(i:Int)(v:AV)(n:Nat)(ρ:Loc)(N:KN)(H:Hp):List AV→Prop:=λl=>wJ l i (wr H n (.list (l.set i.toNat v)) (N ρ))
noncomputable def Gq(n:Nat)(i:Int)(ρ:Loc)(N:KN)(H:Hp):AV→Prop:=λv=>rdL H n (Gp i v n ρ N H)
noncomputable def Gr(o:Nat)(a:Int)(n:Nat)(i:Int)(ρ:Loc)(N:KN)(H:Hp):Int→Prop:=λb=>binI o a b (Gq n i ρ N H)
noncomputable def Gs(o:Nat)(a:Int)(n:Nat)(i:Int)(ρ:Loc)(N:KN):KE:=λw H=>G2 w (Gr o a n i ρ N H)
noncomputable def Do(E:EE)(o n:Nat)(i:Int)(ρ:Loc)(N:KN)(X:XE)(H:Hp):Int→Prop:=λa=>E ρ H (Gs o a n i ρ N) X
noncomputable def Gu(E:EE)(o n:Nat)(i:Int)(ρ:Loc)(N:KN)(X:XE)(H:Hp):List AV→Prop:=λl=>wJ l i (G2 (l.getD i.toNat .U) (Do E o n i ρ N X H))
noncomputable def Gv(E:EE)(o:Nat)(vo:AV)(ρ:Loc)(N:KN)(X:XE):KE:=λvi H=>qW vo λn=>G2 vi λi=>rdL H n (Gu E o n i ρ N X H)
noncomputable def Gw(A E:EE)(o:Nat)(ρ:Loc)(N:KN)(X:XE):KE:=λvo H=>A ρ H (Gv E o vo ρ N X) X
noncomputable def Gm(A B:wU)(ρ:Loc)(N:KN)(R:KE)(X:XS)(H:Hp):Bool→Prop:=λt=>br t (A ρ H N R X) (B ρ H N R X)
noncomputable def Kn(A B:wU)(ρ:Loc)(N:KN)(R:KE)(X:XS):KE:=λv H=>Z3 v (Gm A B ρ N R X H)
noncomputable def FM(B:wU)(P:Loc→Hp→Prop)(ρ:Loc)(N:KN)(R:KE)(H:Hp):Bool→Prop:=λt=>br t (B ρ H P R T8) (N ρ H)
noncomputable def JS(B:wU)(P:Loc→Hp→Prop)(ρ:Loc)(N:KN)(R:KE):KE:=λv H=>Z3 v (FM B P ρ N R H)
noncomputable def wR(B:wU)(R:KE):Loc→Hp→KN→Prop:=λρ H N=>B ρ H N R T8
noncomputable def GD(B:wU)(xs:List Nat)(ρ:Loc)(N:KN)(R:KE)(H:Hp):List AV→Option (Nat×List AV)→Prop:=λl chk=>ar xs chk (wR B R) N l ρ H
noncomputable def Kx(B:wU)(xs:List Nat)(ρ:Loc)(N:KN)(R:KE):KE:=λv H=>vn v H (GD B xs ρ N R H)
noncomputable def GC(B:wU)(x:Nat)(ρ:Loc)(N:KN)(R:KE)(H:Hp):List AV→Prop:=λl=>ar [x] Option.none (wR B R) N l ρ H
noncomputable def Kw(B:wU)(x:Nat)(ρ:Loc)(N:KN)(R:KE):KE:=λv H=>ae v (Dp (GC B x ρ N R H))
noncomputable def JY(c:Nat)(ρ:Loc)(X:XS):KE:=λ_ H=>X c ρ H
noncomputable def JW(N:KN)(R:KE)(hs:List (Nat×Hd)):XS:=λc ρ H=>Bv c ρ H N R hs
noncomputable def KA(N:KN)(ρ:Loc):KE:=λ_ H=>N ρ H
noncomputable def wpS(I:Itf)(t:T)(ρ:Loc)(H:Hp)(N:KN)(R:KE)(X:XS):Prop:=match t with
 |.nil=>N ρ H
 |.cons a r=>wpS I a ρ H (FN (wpS I r) N R X) R X
 |.asg x e=>R9 I e ρ H (Ie x ρ N) (xE X ρ)
 |.asgC x a y it c=>R9 I (.comp a y it c) ρ H (Ie x ρ N) (xE X ρ)
 |.asgT xs e=>R9 I e ρ H (KP xs ρ N) (xE X ρ)
 |.asgA o f e=>R9 I e ρ H (KQ I f (R9 I o) ρ N (xE X ρ)) (xE X ρ)
 |.asgS o i e=>R9 I e ρ H (GS (R9 I o) (R9 I i) ρ N (xE X ρ)) (xE X ρ)
 |.aug x o e=>gG ρ x λa=>G2 a λa=>R9 I e ρ H (KL o a x ρ N) (xE X ρ)
 |.augA ob f o e=>R9 I ob ρ H (Kt I f o (R9 I e) ρ N (xE X ρ)) (xE X ρ)
 |.augS ob i o e=>R9 I ob ρ H (Gw (R9 I i) (R9 I e) o ρ N (xE X ρ)) (xE X ρ)
 |.if_ c a b=>R9 I c ρ H (Kn (wpS I a) (wpS I b) ρ N R X) (xE X ρ)
 |.while_ c b=>∀P:Loc→Hp→Prop,(∀ρ H,R9 I c ρ H (JS (wpS I b) P ρ N R) xF→P ρ H)→P ρ H
 |.for_ xs it b=>R9 I it ρ H (Kx (wpS I b) xs ρ N R) (xE X ρ)
 |.forR x as b=>R9 I as ρ H (Kw (wpS I b) x ρ N R) (xE X ρ)
 |.ret e=>R9 I e ρ H R (xE X ρ)
 |.raise c as=>R9 I as ρ H (JY c ρ X) (xE X ρ)
 |.try_ b hs=>wpS I b ρ H N R (JW N R hs)
 |.ex e=>R9 I e ρ H (KA N ρ) (xE X ρ)
 |.pass=>N ρ H
 |_=>False
structure Fn where
 np:Nat
 nl:Nat
 body:T
 df:List AV
noncomputable def lY(F:Fn)(vs:List AV):Option (List AV):=match Nat.beq vs.length F.np with
 |true=>some vs
 |false=>match Nat.beq (vs.length+F.df.length) F.np with
  |true=>some (vs++F.df)
  |false=>Option.none
noncomputable def gU(I:Itf)(F:Fn)(vs:List AV)(H:Hp)(K:KE)(X:XE):Prop:=
 V5 (lY F vs) λvs=>GW vs (F.nl-F.np) λρ=>wpS I F.body ρ H (λ_ H=>K .none H) K λc _ H=>X c H
noncomputable def fZ(c n:Nat)(K:KE)(H:Hp):Prop:=K (.obj c n) H∨rdD H n λfs=>wr H n .gone (K (.inst c fs))
end
end Mine
namespace Mine
section
open T renaming cons→c,loc→l,nil→z,int_→i,bin→b,cmp→p,attr→a,asg→s,callM→m,if_→f,callB→u,callF→k,asgA→t,ret→r,ex→e,bad→d,sub→j,glb→g,none_→n,byt→y,lst→L,and_→A,callC→C,bool_→B,or_→O,callL→M,slc→S,not_→N,for_→F,forR→R,while_→W,aug→P,mlst→Q,str_→Z
noncomputable def f0:Fn:=⟨2,3,(c (f (O (p 2 (l 0) (i 0)) (p 4 (l 0) (l 1))) d z) (c (s 2 (u 2 z)) (c (W (p 5 (l 0) (i 128)) (c (e (M (l 2) 0 (c (b 9 (b 8 (l 0) (i 127)) (i 128)) z))) (c (P 0 7 (i 7)) z))) (c (e (M (l 2) 0 (c (l 0) z))) (c (r (u 1 (c (l 2) z))) z))))),[]⟩
noncomputable def f1:Fn:=⟨4,8,(c (f (p 2 (l 1) (i 0)) d z) (c (s 4 (i 0)) (c (s 5 (i 0)) (c (R 6 (c (l 2) z) (c (f (p 5 (l 1) (u 0 (c (l 0) z))) d z) (c (s 7 (j (l 0) (l 1))) (c (P 1 0 (i 1)) (c (P 4 9 (b 6 (b 8 (l 7) (i 127)) (l 5))) (c (f (p 2 (l 7) (i 128)) (c (f (p 4 (l 4) (l 3)) d z) (c (r (.tup (c (l 4) (c (l 1) z)))) z)) z) (c (P 5 0 (i 7)) z))))))) d)))),[]⟩
noncomputable def f2:Fn:=⟨1,1,(c (f (A (p 5 (l 0) (i 0)) (p 2 (l 0) (i 128))) (c (r (u 1 (c (L (c (l 0) z)) z))) z) z) (c (r (k 0 (c (l 0) (c (g (.int 18446744073709551615)) z)))) z)),[]⟩
noncomputable def f3:Fn:=⟨2,2,(c (f (A (p 5 (l 1) (i 0)) (A (p 2 (l 1) (u 0 (c (l 0) z))) (p 2 (j (l 0) (l 1)) (i 128)))) (c (r (.tup (c (j (l 0) (l 1)) (c (b 0 (l 1) (i 1)) z)))) z) z) (c (r (k 1 (c (l 0) (c (l 1) (c (i 10) (c (g (.int 18446744073709551615)) z)))))) z)),[]⟩
noncomputable def f4:Fn:=⟨1,1,(c (f (A (p 5 (l 0) (i 0)) (p 2 (l 0) (i 128))) (c (r (u 1 (c (L (c (l 0) z)) z))) z) z) d),[]⟩
noncomputable def f5:Fn:=⟨2,2,(c (f (A (p 5 (l 1) (i 0)) (A (p 2 (l 1) (u 0 (c (l 0) z))) (p 2 (j (l 0) (l 1)) (i 128)))) (c (r (.tup (c (j (l 0) (l 1)) (c (b 0 (l 1) (i 1)) z)))) z) z) d),[]⟩
noncomputable def f6:Fn:=⟨1,1,(c (f (O (p 2 (l 0) (i 0)) (p 4 (l 0) (g (.int 4294967295)))) d z) (c (r (u 1 (c (L (c (b 8 (l 0) (i 255)) (c (b 8 (b 7 (l 0) (i 8)) (i 255)) (c (b 8 (b 7 (l 0) (i 16)) (i 255)) (c (b 7 (l 0) (i 24)) z))))) z))) z)),[]⟩
noncomputable def f7:Fn:=⟨1,1,(c (f (O (p 2 (l 0) (i 0)) (p 4 (l 0) (g (.int 18446744073709551615)))) d z) (c (r (b 0 (k 6 (c (b 8 (l 0) (g (.int 4294967295))) z)) (k 6 (c (b 7 (l 0) (i 32)) z)))) z)),[]⟩
noncomputable def f8:Fn:=⟨2,2,(c (f (O (p 2 (l 1) (i 0)) (p 4 (b 0 (l 1) (i 4)) (u 0 (c (l 0) z)))) d z) (c (r (b 9 (b 9 (b 9 (j (l 0) (l 1)) (b 6 (j (l 0) (b 0 (l 1) (i 1))) (i 8))) (b 6 (j (l 0) (b 0 (l 1) (i 2))) (i 16))) (b 6 (j (l 0) (b 0 (l 1) (i 3))) (i 24)))) z)),[]⟩
noncomputable def f9:Fn:=⟨2,2,(c (f (O (p 2 (l 1) (i 0)) (p 4 (b 0 (l 1) (i 8)) (u 0 (c (l 0) z)))) d z) (c (r (b 9 (k 8 (c (l 0) (c (l 1) z))) (b 6 (k 8 (c (l 0) (c (b 0 (l 1) (i 4)) z))) (i 32)))) z)),[]⟩
noncomputable def f10:Fn:=⟨0,4,(c (s 0 (b 12 (L (c (i 0) z)) (i 16))) (c (s 1 (i 1)) (c (s 2 (i 8)) (c (W (p 4 (l 2) (i 0)) (c (f (b 8 (l 1) (i 1)) (c (s 1 (b 10 (b 7 (l 1) (i 1)) (g (.int 2197175160)))) z) (c (P 1 7 (i 1)) z)) (c (R 3 (c (i 0) (c (i 16) (c (b 2 (i 2) (l 2)) z))) (c (.asgS (l 0) (b 0 (l 3) (l 2)) (b 10 (j (l 0) (l 3)) (l 1))) z)) (c (P 2 7 (i 1)) z)))) (c (r (l 0)) z))))),[]⟩
noncomputable def f11:Fn:=⟨2,5,(c (s 2 (k 10 z)) (c (s 3 (b 10 (l 1) (g (.int 4294967295)))) (c (F [4] (l 0) (c (P 3 10 (l 4)) (c (s 3 (b 10 (b 7 (l 3) (i 4)) (j (l 2) (b 8 (l 3) (i 15))))) (c (s 3 (b 10 (b 7 (l 3) (i 4)) (j (l 2) (b 8 (l 3) (i 15))))) z)))) (c (r (b 10 (l 3) (g (.int 4294967295)))) z)))),[.int 0]⟩
noncomputable def f12:Fn:=⟨1,1,(c (r (b 8 (b 0 (b 9 (b 7 (l 0) (i 15)) (b 6 (l 0) (i 17))) (g (.int 2726488792))) (g (.int 4294967295)))) z),[]⟩
noncomputable def f13:Fn:=⟨2,2,(c (f (p 0 (l 0) (g (.int 1))) (c (r (k 12 (c (k 11 (c (l 1) z)) z))) z) z) (c (f (p 0 (l 0) (g (.int 2))) (c (r (b 8 (b 0 (b 0 (b 2 (u 4 (c (l 1) z)) (i 251)) (b 2 (u 0 (c (l 1) z)) (i 65537))) (i 7)) (g (.int 4294967295)))) z) z) d)),[]⟩
noncomputable def f14:Fn:=⟨1,5,(c (s 1 (u 0 (c (l 0) z))) (c (s 2 (b 10 (g (.int 3164544308)) (b 8 (b 2 (l 1) (g (.int 3332679571))) (g (.int 4294967295))))) (c (s 3 (i 0)) (c (W (p 3 (b 0 (l 3) (i 4)) (l 1)) (c (s 2 (b 8 (b 2 (b 0 (l 2) (k 8 (c (l 0) (c (l 3) z)))) (g (.int 3332679571))) (g (.int 4294967295)))) (c (P 2 10 (b 7 (l 2) (i 16))) (c (P 3 0 (i 4)) z)))) (c (s 4 (b 1 (l 1) (l 3))) (c (f (p 4 (l 4) (i 0)) (c (f (p 0 (l 4) (i 3)) (c (P 2 0 (b 6 (j (l 0) (b 0 (l 3) (i 2))) (i 16))) z) z) (c (f (p 5 (l 4) (i 2)) (c (P 2 0 (b 6 (j (l 0) (b 0 (l 3) (i 1))) (i 8))) z) z) (c (s 2 (b 8 (b 2 (b 0 (l 2) (j (l 0) (l 3))) (g (.int 3332679571))) (g (.int 4294967295)))) (c (P 2 10 (b 7 (l 2) (g (.int 24)))) z)))) z) (c (r (l 2)) z))))))),[]⟩
noncomputable def f15:Fn:=⟨2,2,(c (f (O (p 2 (l 0) (i 0)) (p 4 (l 0) (g (.int 72057594037927935)))) d z) (c (f (A (p 1 (l 1) (g (.int 0))) (p 1 (l 1) (g (.int 1)))) d z) (c (r (b 9 (b 6 (l 0) (i 8)) (l 1))) z))),[]⟩
noncomputable def f16:Fn:=⟨1,4,(c (s 1 (k 17 (c (l 0) z))) (c (s 2 (k 18 (c (l 0) z))) (c (s 3 (b 8 (l 2) (i 255))) (c (f (p 4 (l 3) (g (.int 1))) d z) (c (r (.tup (c (l 1) (c (b 7 (l 2) (i 8)) (c (l 3) z))))) z))))),[]⟩
noncomputable def f17:Fn:=⟨1,1,(c (f (p 2 (u 0 (c (l 0) z)) (g (.int 8))) (c (.raise 2 (c (.fstr (u 0 (c (l 0) z))) z)) z) z) (c (r (u 1 (c (S (l 0) n (b 1 (u 0 (c (l 0) z)) (g (.int 8)))) z))) z)),[]⟩
noncomputable def f18:Fn:=⟨1,1,(c (f (p 2 (u 0 (c (l 0) z)) (g (.int 8))) d z) (c (r (k 9 (c (l 0) (c (b 1 (u 0 (c (l 0) z)) (g (.int 8))) z)))) z)),[]⟩
noncomputable def f19:Fn:=⟨2,4,(c (s 2 (u 0 (c (l 0) z))) (c (f (p 2 (u 0 (c (l 1) z)) (l 2)) d z) (c (s 3 (i 0)) (c (W (A (p 2 (l 3) (l 2)) (p 0 (j (l 0) (l 3)) (j (l 1) (l 3)))) d) (c (r (l 3)) z))))),[]⟩
noncomputable def f20:Fn:=⟨2,4,(c (.asgT [2,1] (k 3 (c (l 0) (c (l 1) z)))) (c (.asgT [3,1] (k 3 (c (l 0) (c (l 1) z)))) (c (r (.tup (c (C 15 (c (l 2) (c (l 3) z))) (c (l 1) z)))) z))),[]⟩
noncomputable def f21:Fn:=⟨2,3,(c (s 2 (b 0 (u 1 (c (l 0) z)) (u 1 (c (L (c (g (.int 0)) z)) z)))) (c (r (b 0 (l 2) (k 6 (c (k 13 (c (l 1) (c (l 2) z))) z)))) z)),[]⟩
noncomputable def f22:Fn:=⟨3,5,(c (s 3 (b 0 (a (l 1) 3) (a (l 1) 4))) (c (f (p 4 (b 0 (l 3) (g (.int 5))) (u 0 (c (l 0) z))) d z) (c (s 4 (u 1 (c (S (l 0) (a (l 1) 3) (b 0 (l 3) (i 1))) z))) (c (f (p 1 (k 8 (c (l 0) (c (b 0 (l 3) (i 1)) z))) (k 13 (c (l 2) (c (l 4) z)))) d z) (c (f (p 1 (j (l 4) (a (l 1) 4)) (g (.int 0))) d z) (c (r (S (l 4) n (a (l 1) 4))) z)))))),[]⟩
noncomputable def f23:Fn:=⟨1,6,(c (f (p 2 (u 0 (c (l 0) z)) (g (.int 48))) d z) (c (s 1 (u 1 (c (S (l 0) (b 1 (u 0 (c (l 0) z)) (g (.int 48))) n) z))) (c (f (p 1 (k 9 (c (l 1) (c (g (.int 40)) z))) (g (.int 15800726617472432983))) d z) (c (s 2 (S (l 1) n (g (.int 40)))) (c (.asgT [3,4] (k 20 (c (l 2) (c (i 0) z)))) (c (.asgT [5,4] (k 20 (c (l 2) (c (l 4) z)))) (c (f (p 1 (S (l 2) (l 4) n) (u 1 (c (b 1 (g (.int 40)) (l 4)) z))) d z) (c (r (C 19 (c (l 3) (c (l 5) z)))) z)))))))),[]⟩
noncomputable def f24:Fn:=⟨2,2,(c (r (b 0 (j (l 0) (b 4 (l 1) (u 0 (c (l 0) z)))) (b 2 (i 7919) (b 3 (l 1) (u 0 (c (l 0) z)))))) z),[]⟩
noncomputable def f25:Fn:=⟨2,3,(c (r (u 1 (c (.compR (b 4 (b 3 (l 0) (b 5 (i 256) (l 2))) (i 256)) 2 (c (l 1) z) (B true)) z))) z),[]⟩
noncomputable def f26:Fn:=⟨1,2,(c (s 1 (Q z)) (c (W (p 4 (l 0) (i 127)) (c (e (M (l 1) 0 (c (b 0 (b 4 (l 0) (i 128)) (i 128)) z))) (c (s 0 (b 3 (l 0) (i 128))) z))) (c (r (u 1 (c (b 0 (l 1) (L (c (l 0) z))) z))) z))),[]⟩
noncomputable def f27:Fn:=⟨2,6,(c (s 2 (b 0 (l 1) (y [0]))) (c (f (N (l 0)) (c (r (b 0 (l 2) (k 25 (c (b 0 (b 0 (b 2 (u 4 (c (l 2) z)) (i 251)) (b 2 (u 0 (c (l 2) z)) (i 65537))) (i 7)) (c (i 4) z))))) z) z) (c (s 3 (i 4294967295)) (c (F [4] (l 2) (c (s 3 (b 10 (l 3) (l 4))) (c (R 5 (c (i 8) z) (c (s 3 (b 10 (b 3 (l 3) (i 2)) (b 2 (b 4 (l 3) (i 2)) (i 2197175160)))) z)) z))) (c (s 3 (b 1 (i 4294967295) (l 3))) (c (r (b 0 (l 2) (k 25 (c (b 0 (b 0 (b 3 (l 3) (i 32768)) (b 2 (b 4 (l 3) (i 32768)) (i 131072))) (i 2726488792)) (c (i 4) z))))) z)))))),[]⟩
noncomputable def f28:Fn:=⟨1,4,(c (s 1 (y [])) (c (F [2,3] (l 0) (c (s 1 (b 0 (b 0 (b 0 (b 0 (y [0]) (k 26 (c (u 0 (c (l 2) z)) z))) (k 26 (c (u 0 (c (l 3) z)) z))) (l 2)) (l 3))) z)) (c (r (b 0 (b 0 (l 1) (k 25 (c (i 0) (c (i 4) z)))) (k 25 (c (i 1) (c (i 4) z))))) z))),[]⟩
noncomputable def f29:Fn:=⟨3,8,(c (s 3 (b 10 (i 3164544308) (b 4 (b 2 (u 0 (c (l 0) z)) (i 3332679571)) (i 4294967296)))) (c (R 4 (c (i 0) (c (u 0 (c (l 0) z)) (c (i 4) z))) (c (s 6 (S (l 0) (l 4) (b 0 (l 4) (i 4)))) (c (s 3 (b 4 (b 2 (b 0 (l 3) (u 4 (c (.compR (b 2 (j (l 6) (l 7)) (b 5 (i 256) (l 7))) 7 (c (u 0 (c (l 6) z)) z) (B true)) z))) (i 3332679571)) (i 4294967296))) (c (s 3 (b 10 (l 3) (b 3 (l 3) (.ite_ (p 0 (u 0 (c (l 6) z)) (i 4)) (i 65536) (i 16777216))))) z)))) (c (s 5 (b 0 (b 3 (l 3) (i 131072)) (b 2 (b 4 (l 3) (i 131072)) (i 32768)))) (c (r (.compR (b 4 (b 4 (b 0 (l 3) (b 2 (l 7) (l 5))) (i 4294967296)) (l 2)) 7 (c (l 1) z) (B true))) z)))),[]⟩
noncomputable def f30:Fn:=⟨2,7,(c (s 2 (u 6 (c (b 0 (L (c (i 1) z)) (.compR (l 6) 6 (c (i 1) (c (i 31) z)) (p 3 (b 2 (i 100) (l 6)) (b 2 (i 69) (l 0))))) z))) (c (s 3 (b 12 (L (c (i 0) z)) (u 6 (c (i 8) (c (b 3 (b 0 (b 2 (u 0 (c (l 1) z)) (l 0)) (i 7)) (i 8)) z))))) (c (F [4] (l 1) (c (F [5] (k 29 (c (l 4) (c (l 2) (c (b 2 (i 8) (u 0 (c (l 3) z))) z)))) (c (f (p 0 (b 4 (b 3 (j (l 3) (b 3 (l 5) (i 8))) (b 5 (i 2) (b 4 (l 5) (i 8)))) (i 2)) (i 0)) (c (.augS (l 3) (b 3 (l 5) (i 8)) 0 (b 5 (i 2) (b 4 (l 5) (i 8)))) z) z) z)) z)) (c (r (u 1 (c (b 0 (l 3) (L (c (l 2) z))) z))) z)))),[]⟩
noncomputable def f31:Fn:=⟨2,3,(c (F [2] (k 29 (c (l 1) (c (j (l 0) (b 1 (u 0 (c (l 0) z)) (i 1))) (c (b 2 (i 8) (b 1 (u 0 (c (l 0) z)) (i 1))) z)))) (c (f (p 0 (b 4 (b 3 (j (l 0) (b 3 (l 2) (i 8))) (b 5 (i 2) (b 4 (l 2) (i 8)))) (i 2)) (i 0)) (c (r (B false)) z) z) z)) (c (r (B true)) z)),[]⟩
noncomputable def f32:Fn:=⟨3,6,(c (s 3 (y [])) (c (s 4 (y [])) (c (F [5] (l 2) (c (s 4 (b 0 (l 4) (k 25 (c (u 0 (c (l 3) z)) (c (i 4) z))))) (c (f (p 4 (u 0 (c (l 5) z)) (i 0)) (c (s 3 (b 0 (l 3) (k 30 (c (l 0) (c (l 5) z))))) z) z) z))) (c (r (b 0 (b 0 (b 0 (l 3) (l 4)) (k 25 (c (u 0 (c (l 3) z)) (c (i 4) z)))) (u 1 (c (L (c (l 1) z)) z)))) z)))),[]⟩
noncomputable def f33:Fn:=⟨2,3,(c (R 2 (c (i 1) (c (u 0 (c (l 0) z)) z)) (c (f (p 2 (j (l 0) (b 1 (l 2) (i 1))) (i 255)) (c (r (.tup (c (b 0 (S (l 0) n (b 1 (l 2) (i 1))) (u 1 (c (L (c (b 0 (j (l 0) (b 1 (l 2) (i 1))) (i 1)) z)) z))) (c (b 0 (b 1 (i 0) (b 5 (i 2) (i 64))) (i 255)) z)))) z) z) z)) (c (r (.tup (c (l 0) (c (b 1 (i 0) (l 1)) z)))) z)),[]⟩
noncomputable def f34:Fn:=⟨1,1,(c (r (b 0 (j (l 0) (i 0)) (k 25 (c (b 1 (i 0) (j (l 0) (i 1))) (c (i 8) z))))) z),[]⟩
noncomputable def f35:Fn:=⟨2,14,(c (.asgT [11,12,13] (l 0)) (c (s 2 (y [])) (c (s 3 (L z)) (c (s 4 (L z)) (c (s 5 n) (c (f (p 4 (u 0 (c (l 1) z)) (i 0)) (c (s 8 (k 28 (c (L (c (.tup (c (k 34 (c (j (l 1) (i 0)) z)) (c (y []) z))) z)) z))) (c (s 5 (k 33 (c (j (j (l 1) (i 0)) (i 0)) (c (b 1 (i 0) (j (j (l 1) (i 0)) (i 1))) z)))) (c (s 4 (L (c (.tup (c (k 34 (c (l 5) z)) (c (b 0 (y [0]) (k 26 (c (u 0 (c (l 8) z)) z))) z))) z))) (c (s 2 (k 27 (c (l 11) (c (l 8) z)))) (c (s 3 (b 0 (L (c (L (c (j (j (l 1) (i 0)) (i 0)) z)) z)) (b 2 (L (c (L z) z)) (b 1 (b 3 (u 0 (c (l 2) z)) (b 5 (i 2) (l 13))) (i 1))))) z))))) z) (c (s 6 (L z)) (c (f (p 4 (l 12) (i 0)) (c (s 8 (k 32 (c (l 12) (c (l 13) (c (l 3) z))))) (c (s 6 (L (c (.tup (c (y [102,105,108,116,101,114,46,114,97,102,116,107,101,101,112,46,98,108,111,111,109]) (c (b 0 (k 26 (c (u 0 (c (l 2) z)) z)) (k 26 (c (u 0 (c (l 8) z)) z))) z))) z))) (c (s 2 (b 0 (l 2) (k 27 (c (l 11) (c (l 8) z))))) z))) z) (c (s 7 (u 0 (c (l 2) z))) (c (s 8 (k 28 (c (l 6) z))) (c (s 9 (b 0 (k 26 (c (l 7) z)) (k 26 (c (u 0 (c (l 8) z)) z)))) (c (s 2 (b 0 (l 2) (k 27 (c (l 11) (c (l 8) z))))) (c (s 8 (k 28 (c (l 4) z))) (c (s 9 (b 0 (b 0 (l 9) (k 26 (c (u 0 (c (l 2) z)) z))) (k 26 (c (u 0 (c (l 8) z)) z)))) (c (s 10 (u 1 (c (L (c (i 87) (c (i 251) (c (i 128) (c (i 139) (c (i 36) (c (i 117) (c (i 71) (c (i 219) z))))))))) z))) (c (r (.tup (c (b 0 (b 0 (b 0 (b 0 (l 2) (k 27 (c (l 11) (c (l 8) z)))) (l 9)) (u 1 (c (b 1 (i 40) (u 0 (c (l 9) z))) z))) (l 10)) (c (l 7) (c (l 5) z))))) z)))))))))))))))),[]⟩
noncomputable def f36:Fn:=⟨3,3,(c (.try_ (c (f (p 0 (l 1) (i 0)) (c (e (m (l 0) 5 (c (l 2) (c (y []) z)))) z) (c (f (p 0 (l 1) (i 1)) (c (e (m (l 0) 6 z)) z) (c (f (p 0 (l 1) (i 2)) (c (e (m (l 0) 7 z)) z) (c (f (p 0 (l 1) (i 3)) (c (e (m (l 0) 8 (c (l 2) z))) z) (c (e (m (l 0) 9 (c (b 1 (l 1) (i 4)) z))) z)) z)) z)) z)) z) [(7,.retI 1),(2,.retI 2)]) (c (r (i 0)) z)),[]⟩
noncomputable def f37:Fn:=⟨3,8,(c (s 3 (C 20 (c (l 0) (c (C 10 z) z)))) (c (s 4 (u 1 (c (b 2 (L (c (i 97) z)) (b 4 (l 2) (i 8))) z))) (c (s 5 (i 0)) (c (f (O (p 1 (m (l 3) 4 z) (i 0)) (O (p 1 (m (l 3) 10 z) (i 0)) (p 1 (k 36 (c (l 3) (c (i 0) (c (l 4) z)))) (i 2)))) d z) (c (F [6] (l 1) (c (s 7 (k 34 (c (l 6) z))) (c (f (p 1 (k 36 (c (l 3) (c (i 0) (c (l 7) z)))) (i 0)) d z) (c (f (O (p 1 (k 36 (c (l 3) (c (i 0) (c (l 7) z)))) (i 1)) (p 1 (k 36 (c (l 3) (c (i 0) (c (k 34 (c (.tup (c (j (l 6) (i 0)) (c (b 1 (j (l 6) (i 1)) (i 1)) z))) z)) z)))) (i 1))) d z) (c (f (p 1 (k 36 (c (l 3) (c (i 0) (c (l 4) z)))) (i 2)) d z) (c (f (p 5 (b 0 (i 11) (u 0 (c (l 7) z))) (a (l 0) 11)) (c (s 5 (b 0 (i 16) (u 0 (c (l 7) z)))) z) z) z)))))) (c (f (O (p 1 (m (l 3) 4 z) (l 5)) (p 1 (m (l 3) 10 z) (u 0 (c (l 1) z)))) d z) (c (r (l 3)) z))))))),[]⟩
noncomputable def f38:Fn:=⟨3,6,(c (s 3 (k 37 (c (l 0) (c (l 1) (c (l 2) z))))) (c (f (p 6 (l 3) n) d z) (c (.try_ (c (s 5 (m (l 3) 6 z)) z) [(2,.bad)]) (c (f (O (p 1 (m (l 3) 4 z) (u 0 (c (l 5) z))) (N (.isB (l 5)))) d z) (c (F [4] (.tup (c (i 0) (c (i 1) (c (i 2) z)))) (c (f (p 1 (k 36 (c (l 3) (c (l 4) (c (b 2 (y [98]) (b 4 (l 2) (i 13))) z)))) (i 1)) d z) z)) (c (f (O (p 1 (m (l 3) 4 z) (u 0 (c (l 5) z))) (p 1 (m (l 3) 10 z) (u 0 (c (l 1) z)))) d z) (c (r (l 5)) z))))))),[]⟩
noncomputable def f39:Fn:=⟨1,3,(c (s 1 (i 0)) (c (R 2 (c (i 4) z) (c (.try_ (c (f (p 0 (l 2) (i 0)) (c (e (m (l 0) 12 z)) z) (c (f (p 0 (l 2) (i 1)) (c (e (m (l 0) 13 z)) z) (c (f (p 0 (l 2) (i 2)) (c (e (m (l 0) 14 z)) z) (c (e (m (l 0) 15 z)) z)) z)) z)) z) [(6,.inc 1 1)]) z)) (c (r (A (p 0 (l 1) (i 4)) (p 0 (m (l 0) 16 z) (B false)))) z))),[]⟩
noncomputable def f40:Fn:=⟨3,3,(c (f (O (p 1 (l 2) (i 0)) (p 0 (u 0 (c (l 1) z)) (i 0))) (c (r (A (p 0 (m (l 0) 16 z) (B false)) (k 39 (c (l 0) z)))) z) z) (c (r (A (p 0 (m (l 0) 16 z) (B true)) (p 0 (.tup (c (m (l 0) 12 z) (c (m (l 0) 13 z) z))) (j (l 1) (i 0))))) z)),[]⟩
noncomputable def f41:Fn:=⟨5,8,(c (s 5 (b 1 (i 0) (i 1))) (c (f (N (k 40 (c (l 0) (c (l 1) (c (l 5) z))))) d z) (c (R 6 (c (i 4) z) (c (s 7 (b 4 (b 3 (l 2) (b 5 (i 5) (l 6))) (i 5))) (c (f (A (p 4 (l 7) (i 2)) (O (p 1 (l 5) (i 0)) (p 0 (u 0 (c (l 1) z)) (i 0)))) (c (s 7 (b 1 (l 7) (i 3))) z) z) (c (f (p 0 (l 7) (i 0)) (c (e (m (l 0) 17 z)) (c (s 5 (i 0)) z)) (c (f (p 0 (l 7) (i 1)) (c (e (m (l 0) 18 z)) (c (s 5 (b 1 (u 0 (c (l 1) z)) (i 1))) z)) (c (f (p 0 (l 7) (i 2)) (c (e (m (l 0) 19 (c (l 3) z))) (c (s 5 (l 4)) z)) (c (f (p 0 (l 7) (i 3)) (c (e (m (l 0) 14 z)) (c (s 5 (i 1)) z)) (c (e (m (l 0) 15 z)) (c (s 5 (b 1 (i 0) (i 1))) z))) z)) z)) z)) (c (f (N (k 40 (c (l 0) (c (l 1) (c (l 5) z))))) d z) z))))) (c (r (B true)) z)))),[]⟩
noncomputable def f42:Fn:=⟨2,2,(c (.try_ (c (f (l 1) (c (r (m (l 0) 20 z)) z) z) (c (r (m (l 0) 21 z)) z)) [(4,.retN)]) z),[]⟩
noncomputable def f43:Fn:=⟨7,18,(c (.try_ (c (s 10 (C 21 (c (l 1) (c (l 0) (c (C 10 z) z))))) z) [(2,.bad)]) (c (.asgC 7 (.tup (c (k 34 (c (l 17) z)) (c (y []) z))) 17 (l 4) (B true)) (c (s 8 n) (c (f (p 4 (u 0 (c (l 7) z)) (i 0)) (c (s 8 (j (j (l 7) (i 0)) (i 0))) z) z) (c (f (O (p 1 (k 42 (c (l 10) (c (B false) z))) (l 8)) (p 1 (k 42 (c (l 10) (c (B true) z))) (l 8))) d z) (c (R 9 (c (i 2) z) (c (s 11 (b 0 (l 6) (b 2 (i 37) (l 9)))) (c (s 12 (.tup (c (j (L (c (y []) (c (y [97]) (c (y [255]) (c (y [0,0]) z))))) (b 4 (l 11) (i 4))) (c (b 1 (b 1 (i 0) (b 2 (i 256) (b 4 (b 3 (l 11) (i 4)) (i 600)))) (b 4 (b 3 (l 11) (i 5)) (i 2))) z)))) (c (f (A (p 4 (u 0 (c (l 4) z)) (i 0)) (p 0 (b 4 (b 3 (l 11) (i 3)) (i 2)) (i 0))) (c (s 12 (.tup (c (j (j (l 4) (i 0)) (i 0)) (c (u 5 (c (i 0) (c (b 1 (b 0 (j (j (l 4) (i 0)) (i 1)) (b 4 (b 3 (l 11) (i 6)) (i 3))) (i 1)) z))) z)))) z) z) (c (f (A (p 4 (u 0 (c (l 4) z)) (i 0)) (p 0 (b 4 (b 3 (l 11) (i 3)) (i 6)) (i 1))) (c (s 12 (.tup (c (j (l 3) (i 0)) (c (u 5 (c (i 0) (c (b 0 (j (l 3) (i 1)) (b 4 (b 3 (l 11) (i 18)) (i 2))) z))) z)))) z) z) (c (s 13 (k 34 (c (l 12) z))) (c (s 14 (l 2)) (c (s 15 n) (c (s 16 (u 0 (c (.comp (l 17) 17 (l 4) (p 2 (l 17) (l 12))) z))) (c (f (A (p 7 (l 3) n) (p 3 (l 12) (l 3))) (c (s 14 (i 0)) (c (f (A (p 0 (l 16) (i 0)) (O (p 6 (l 5) n) (k 31 (c (l 5) (c (j (l 12) (i 0)) z))))) (c (s 15 (j (l 7) (i 0))) z) z) z)) z) (c (f (O (p 1 (m (l 10) 23 (c (l 13) z)) (l 15)) (p 1 (m (l 10) 22 (c (l 13) z)) (l 14))) d z) z))))))))))) (c (r (k 41 (c (m (l 10) 24 z) (c (l 7) (c (b 3 (l 6) (i 2)) (c (l 13) (c (l 16) z))))))) z))))))),[]⟩
noncomputable def f44:Fn:=⟨1,12,(c (s 1 (C 9 z)) (c (s 2 (y [])) (c (f (p 0 (b 4 (l 0) (i 2)) (i 0)) (c (s 1 (C 10 z)) (c (s 2 (k 25 (c (b 0 (b 2 (i 256) (b 4 (b 3 (l 0) (i 2)) (i 300))) (i 1)) (c (i 8) z)))) z)) z) (c (s 3 (C 12 (c (b 0 (i 1) (b 4 (b 3 (l 0) (i 3)) (i 40))) (c (l 1) z)))) (c (R 4 (c (i 3) z) (c (s 5 (L z)) (c (f (p 0 (l 4) (i 1)) (c (s 5 (L (c (.tup (c (l 2) (c (y []) z))) z))) z) z) (c (F [10,11] (l 5) (c (f (O (p 1 (k 36 (c (l 3) (c (i 0) (c (l 10) z)))) (i 0)) (p 1 (k 36 (c (l 3) (c (i 0) (c (l 10) z)))) (i 1))) d z) z)) (c (s 6 (k 28 (c (l 5) z))) (c (f (O (p 1 (m (l 3) 26 z) (p 0 (u 0 (c (l 5) z)) (i 0))) (p 1 (m (l 3) 25 z) (u 0 (c (l 6) z)))) d z) (c (f (O (p 1 (m (l 3) 6 z) (l 6)) (O (p 1 (k 36 (c (l 3) (c (i 1) (c (l 2) z)))) (i 1)) (p 1 (k 36 (c (l 3) (c (i 0) (c (b 2 (y [98]) (i 9)) z)))) (i 1)))) d z) (c (s 7 (C 13 (c (l 6) (c (l 1) z)))) (c (s 8 (l 2)) (c (s 9 (i 0)) (c (f (p 0 (b 4 (b 3 (l 0) (i 7)) (i 3)) (i 0)) (c (s 8 (b 0 (y [99]) (l 2))) (c (s 9 (u 0 (c (l 5) z))) z)) z) (c (f (A (p 2 (l 4) (i 2)) (O (p 1 (m (l 7) 27 z) (i 1)) (N (k 41 (c (m (l 7) 24 z) (c (l 5) (c (b 3 (l 0) (i 11)) (c (l 8) (c (l 9) z))))))))) d z) (c (e (m (l 3) 28 z)) z))))))))))))) (c (r (B true)) z)))))),[]⟩
noncomputable def f45:Fn:=⟨2,8,(c (s 2 (C 16 (c (l 0) z))) (c (s 3 (C 16 (c (b 0 (i 1) (b 4 (l 1) (i 50))) z))) (c (s 4 (m (l 2) 29 (c (L z) z))) (c (s 5 (m (l 2) 29 (c (L (c (y []) z)) z))) (c (f (O (p 1 (l 4) (k 30 (c (l 0) (c (L z) z)))) (p 1 (l 5) (k 30 (c (l 0) (c (L (c (y []) z)) z))))) d z) (c (s 6 (u 1 (c (L (c (b 4 (l 1) (i 256)) (c (b 4 (b 3 (l 1) (i 3)) (i 256)) (c (i 0) (c (b 4 (l 1) (i 7)) (c (i 1) z)))))) z))) (c (F [7] (.tup (c (y []) (c (y [0]) (c (S (l 6) n (i 1)) (c (S (l 6) (i 1) (i 4)) (c (S (l 6) n (b 0 (i 4) (b 4 (l 1) (i 2)))) z)))))) (c (f (O (m (l 2) 30 (c (l 7) (c (l 4) z))) (O (m (l 3) 30 (c (l 7) (c (l 4) z))) (m (l 3) 30 (c (l 7) (c (y []) z))))) d z) (c (f (O (p 1 (m (l 2) 30 (c (l 7) (c (l 5) z))) (k 31 (c (l 5) (c (l 7) z)))) (p 1 (m (l 3) 30 (c (l 7) (c (l 5) z))) (k 31 (c (l 5) (c (l 7) z))))) d z) z))) (c (r (B true)) z)))))))),[]⟩
noncomputable def f46:Fn:=⟨3,15,(c (s 3 (C 17 (c (C 16 (c (l 0) z)) (c (l 1) z)))) (c (s 4 (Q (c (Q z) z))) (c (R 5 (c (i 4) z) (c (s 11 (b 3 (l 2) (b 5 (i 9) (l 5)))) (c (s 12 (b 0 (b 2 (b 5 (i 2) (l 1)) (b 1 (u 0 (c (l 4) z)) (i 1))) (j (L (c (i 0) (c (b 5 (i 2) (l 1)) (c (b 1 (b 5 (i 2) (l 1)) (i 1)) (c (b 5 (i 2) (b 0 (l 1) (i 1))) (c (b 1 (i 0) (i 1)) (c (i 0) (c (b 5 (i 2) (l 1)) (c (i 0) (c (b 5 (i 2) (b 0 (l 1) (i 1))) z)))))))))) (b 4 (l 11) (i 9))))) (c (s 13 (i 0)) (c (f (p 2 (l 12) (b 2 (b 5 (i 2) (l 1)) (b 1 (u 0 (c (l 4) z)) (i 1)))) (c (s 13 (i 1)) z) z) (c (f (A (p 5 (l 12) (i 0)) (p 1 (k 36 (c (l 3) (c (b 0 (i 4) (l 12)) (c (y []) z)))) (l 13))) d z) (c (W (p 3 (u 0 (c (l 4) z)) (b 3 (l 12) (b 5 (i 2) (l 1)))) (c (e (M (l 4) 0 (c (Q z) z))) z)) (c (f (A (p 0 (b 4 (l 2) (i 2)) (i 1)) (p 0 (b 4 (l 11) (i 3)) (i 1))) (c (e (m (l 3) 8 (c (y []) z))) (c (e (M (j (l 4) (b 1 (u 0 (c (l 4) z)) (i 1))) 0 (c (y []) z))) z)) z) z)))))))) (c (f (p 0 (u 0 (c (j (l 4) (b 1 (u 0 (c (l 4) z)) (i 1))) z)) (i 0)) (c (e (M (l 4) 2 z)) z) z) (c (s 6 (m (l 3) 6 z)) (c (f (p 1 (l 6) (k 32 (c (l 0) (c (l 1) (c (l 4) z))))) d z) (c (F [7] (.tup (c (i 1) (c (i 3) (c (i 4) (c (b 0 (i 4) (b 5 (i 2) (b 0 (l 1) (i 4)))) z))))) (c (f (p 1 (k 36 (c (l 3) (c (l 7) (c (y []) z)))) (i 1)) d z) z)) (c (s 8 (C 18 (c (C 16 (c (b 0 (i 1) (b 4 (l 2) (i 50))) z)) (c (l 6) z)))) (c (s 9 (C 18 (c (C 16 (c (l 0) z)) (c (S (l 6) n (b 4 (l 2) (i 5))) z)))) (c (R 10 (c (b 0 (u 0 (c (l 4) z)) (i 2)) z) (c (s 14 (j (L (c (y []) (c (y [107]) (c (y [0,0]) z)))) (b 4 (b 0 (l 2) (l 10)) (i 3)))) (c (s 13 (p 5 (l 10) (u 0 (c (l 4) z)))) (c (f (A (N (l 13)) (p 4 (u 0 (c (j (l 4) (l 10)) z)) (i 0))) (c (s 13 (k 31 (c (k 30 (c (l 0) (c (j (l 4) (l 10)) z))) (c (l 14) z)))) z) z) (c (F [12] (.tup (c (b 2 (b 5 (i 2) (l 1)) (l 10)) (c (b 1 (b 2 (b 5 (i 2) (l 1)) (b 0 (l 10) (i 1))) (i 1)) z))) (c (f (O (p 1 (m (l 8) 30 (c (l 12) (c (l 14) z))) (l 13)) (p 1 (m (l 9) 30 (c (l 12) (c (l 14) z))) (B true))) d z) z)) z))))) (c (r (B true)) z))))))))))),[]⟩
noncomputable def f47:Fn:=⟨1,22,(c (.asgC 1 (b 4 (l 15) (i 999983)) 15 (S (l 0) n (i 9)) (B true)) (c (f (p 0 (u 0 (c (l 1) z)) (i 0)) (c (s 1 (L (c (i 0) (c (i 126) (c (i 4) (c (i 13) (c (i 58) (c (i 1131) (c (i 40) (c (i 6224) (c (i 595) z))))))))))) z) z) (c (s 2 (k 24 (c (l 1) (c (i 0) z)))) (c (s 3 (k 24 (c (l 1) (c (i 1) z)))) (c (s 4 (k 24 (c (l 1) (c (i 2) z)))) (c (s 5 (j (L (c (i 10) (c (i 0) (c (i 4) (c (i 70) (c (i 1) (c (i 25) z))))))) (b 4 (l 2) (i 6)))) (c (s 6 (j (L (c (i 4) (c (i 11) (c (i 0) (c (i 5) (c (i 2) (c (i 31) (c (i 3) (c (i 1) z))))))))) (b 4 (b 3 (l 2) (i 6)) (i 8)))) (c (s 7 (y [])) (c (f (p 0 (b 4 (l 3) (i 3)) (i 2)) (c (s 7 (j (L (c (y [255]) (c (y [0]) (c (y [97,0]) (c (y [255,255]) (c (y [255,254,255]) (c (y [98]) z))))))) (b 4 (b 3 (l 3) (i 3)) (i 6)))) z) z) (c (s 8 (L (c (.tup (c (l 7) (c (b 1 (b 1 (i 0) (b 2 (i 256) (j (L (c (b 4 (b 3 (l 3) (i 18)) (i 600)) (c (b 1 (b 5 (i 2) (i 56)) (i 1)) z))) (b 4 (b 3 (l 3) (i 7)) (i 2))))) (b 4 (b 3 (l 3) (i 2)) (i 2))) z))) z))) (c (R 9 (c (i 2) z) (c (s 12 (S (l 8) n (l 9))) (c (s 13 (C 11 z)) (c (t (l 13) 11 (j (L (c (i 4096) (c (i 1) (c (i 18) (c (i 19) (c (i 20) (c (i 21) (c (i 22) (c (i 23) z))))))))) (b 4 (b 3 (l 4) (b 0 (i 1) (l 9))) (i 8)))) (c (t (l 13) 31 (b 0 (i 1) (b 4 (b 3 (l 4) (i 8)) (i 3)))) (c (t (l 13) 32 (l 5)) (c (t (l 13) 33 (l 6)) (c (t (l 13) 34 (i 2)) (c (f (A (p 0 (l 9) (i 0)) (p 0 (b 4 (b 3 (l 4) (i 24)) (i 3)) (i 2))) (c (t (l 13) 34 (i 1)) z) z) (c (.asgT [16,17,18] (k 35 (c (.tup (c (p 0 (a (l 13) 34) (i 1)) (c (l 5) (c (l 6) z)))) (c (l 12) z)))) (c (f (p 1 (k 38 (c (l 13) (c (l 12) (c (b 0 (b 3 (l 4) (i 5)) (l 9)) z)))) (l 16)) d z) (c (f (p 0 (l 9) (b 4 (b 3 (l 4) (i 7)) (i 2))) (c (s 19 (k 37 (c (l 13) (c (l 12) (c (b 3 (l 4) (i 9)) z))))) (c (f (O (p 6 (l 19) n) (O (p 1 (k 36 (c (l 19) (c (i 2) (c (y []) z)))) (i 0)) (p 1 (m (l 19) 4 z) (i 0)))) d z) (c (F [20] (.tup (c (i 0) (c (i 1) (c (i 2) z)))) (c (f (p 1 (k 36 (c (l 19) (c (l 20) (c (b 2 (y [98]) (i 9)) z)))) (i 1)) d z) z)) z))) z) (c (R 14 (c (b 0 (i 1) (b 4 (b 0 (b 3 (l 4) (i 3)) (l 9)) (i 2))) z) (c (t (l 13) 35 (p 0 (b 4 (b 0 (b 3 (l 4) (i 72)) (l 14)) (i 2)) (i 0))) (c (f (p 0 (l 14) (i 1)) (c (t (l 13) 32 (j (L (c (i 0) (c (i 7) (c (i 40) z)))) (b 4 (b 3 (l 4) (i 144)) (i 3)))) (c (t (l 13) 33 (i 9)) z)) z) (c (s 21 n) (c (f (A (p 4 (l 5) (i 0)) (A (p 4 (a (l 13) 32) (i 0)) (p 0 (l 9) (i 1)))) (c (s 21 (k 30 (c (l 5) (c (L (c (l 7) z)) z)))) z) z) (c (f (N (k 43 (c (l 13) (c (l 16) (c (l 17) (c (l 18) (c (l 12) (c (l 21) (c (k 24 (c (l 1) (c (b 0 (b 0 (i 3) (b 2 (i 2) (l 9))) (l 14)) z))) z))))))))) d z) z)))))) z))))))))))))) (c (s 10 (k 24 (c (l 1) (c (i 7) z)))) (c (s 11 (k 24 (c (l 1) (c (i 8) z)))) (c (r (A (k 44 (c (l 10) z)) (A (k 45 (c (u 6 (c (i 1) (c (l 5) z))) (c (b 3 (l 10) (i 2)) z))) (k 46 (c (u 6 (c (i 1) (c (l 5) z))) (c (l 6) (c (l 11) z))))))) z)))))))))))))),[]⟩
noncomputable def f48:Fn:=⟨3,3,(c (f (p 2 (l 1) (l 2)) (c (r (.neg (i 1))) z) z) (c (f (p 4 (l 1) (l 2)) (c (r (i 1)) z) z) (c (r (i 0)) z))),[]⟩
noncomputable def f49:Fn:=⟨2,3,(c (R 2 (c (u 0 (c (l 1) z)) z) (c (f (p 1 (j (l 1) (l 2)) (i 255)) (c (r (b 0 (u 1 (c (S (l 1) n (l 2)) z)) (u 1 (c (L (c (b 0 (j (l 1) (l 2)) (i 1)) z)) z)))) z) z) z)) (c (r (u 1 (c (l 1) z))) z)),[]⟩
noncomputable def f50:Fn:=⟨1,1,(c (t (l 0) 36 (C 9 z)) z),[]⟩
noncomputable def f51:Fn:=⟨3,6,(c (s 3 (m (a (l 0) 36) 37 (c (k 17 (c (l 1) z)) (c (k 17 (c (l 2) z)) z)))) (c (f (p 1 (l 3) (i 0)) (c (r (l 3)) z) z) (c (s 4 (k 18 (c (l 1) z))) (c (s 5 (k 18 (c (l 2) z))) (c (f (p 4 (l 4) (l 5)) (c (r (.neg (i 1))) z) z) (c (f (p 2 (l 4) (l 5)) (c (r (i 1)) z) z) (c (r (i 0)) z))))))),[]⟩
noncomputable def f52:Fn:=⟨4,4,(c (f (A (p 2 (u 0 (c (l 3) z)) (u 0 (c (l 2) z))) (p 2 (m (a (l 0) 36) 37 (c (l 2) (c (l 3) z))) (i 0))) (c (r (b 0 (l 3) (k 7 (c (k 15 (c (g (.int 72057594037927935)) (c (g (.int 1)) z))) z)))) z) z) (c (r (u 1 (c (l 1) z))) z)),[]⟩
noncomputable def f53:Fn:=⟨2,3,(c (s 2 (k 17 (c (l 1) z))) (c (r (m (l 0) 38 (c (l 1) (c (l 2) (c (m (a (l 0) 36) 39 (c (l 2) z)) z))))) z)),[]⟩
noncomputable def f54:Fn:=⟨1,1,(c (t (l 0) 34 (g (.int 1))) (c (t (l 0) 40 (i 32768)) (c (t (l 0) 41 (B true)) (c (t (l 0) 42 (B true)) (c (t (l 0) 35 (B false)) (c (t (l 0) 43 (i 4194304)) (c (t (l 0) 44 (i 12)) (c (t (l 0) 45 (.tup (c (i 1) (c (i 2) (c (i 1) (c (i 3) (c (i 1) (c (i 2) (c (i 1) (c (i 4) z)))))))))) (c (t (l 0) 11 (i 4096)) (c (t (l 0) 31 (i 16)) (c (t (l 0) 32 (i 10)) (c (t (l 0) 33 (i 11)) (c (t (l 0) 46 (i 2097152)) (c (t (l 0) 47 (i 7)) (c (t (l 0) 48 (i 4)) (c (t (l 0) 49 (i 12)) (c (t (l 0) 50 (i 10485760)) (c (t (l 0) 51 (i 10)) (c (t (l 0) 52 (i 2)) (c (t (l 0) 53 (i 10)) (c (t (l 0) 54 (i 25)) z))))))))))))))))))))),[]⟩
noncomputable def f55:Fn:=⟨3,3,(c (f (p 2 (l 1) (i 1)) d z) (c (t (l 0) 55 (l 1)) (c (t (l 0) 56 (l 2)) (c (t (l 0) 57 (u 2 z)) (c (t (l 0) 58 (Q (c (i 0) z))) (c (t (l 0) 59 (i 0)) (c (t (l 0) 60 (i 0)) (c (t (l 0) 61 (B false)) (c (t (l 0) 20 (y [])) z))))))))),[]⟩
noncomputable def f56:Fn:=⟨1,1,(c (t (l 0) 57 (u 2 z)) (c (t (l 0) 58 (Q (c (i 0) z))) (c (t (l 0) 59 (i 0)) (c (t (l 0) 60 (i 0)) (c (t (l 0) 61 (B false)) (c (t (l 0) 20 (y [])) z)))))),[]⟩
noncomputable def f57:Fn:=⟨1,1,(c (r (p 0 (a (l 0) 60) (i 0))) z),[]⟩
noncomputable def f58:Fn:=⟨1,1,(c (r (b 0 (b 0 (u 0 (c (a (l 0) 57) z)) (b 2 (i 4) (u 0 (c (a (l 0) 58) z)))) (i 4))) z),[]⟩
noncomputable def f59:Fn:=⟨3,4,(c (f (a (l 0) 61) (c (.raise 7 (c Z z)) z) z) (c (f (A (p 4 (a (l 0) 60) (i 0)) (p 3 (m (a (l 0) 56) 37 (c (l 1) (c (a (l 0) 20) z))) (i 0))) (c (.raise 7 (c Z z)) z) z) (c (s 3 (i 0)) (c (f (p 2 (a (l 0) 59) (a (l 0) 55)) (c (s 3 (k 19 (c (a (l 0) 20) (c (l 1) z)))) z) d) (c (e (M (a (l 0) 57) 1 (c (k 4 (c (l 3) z)) z))) (c (e (M (a (l 0) 57) 1 (c (k 4 (c (b 1 (u 0 (c (l 1) z)) (l 3)) z)) z))) (c (e (M (a (l 0) 57) 1 (c (k 4 (c (u 0 (c (l 2) z)) z)) z))) (c (e (M (a (l 0) 57) 1 (c (S (l 1) (l 3) n) z))) (c (e (M (a (l 0) 57) 1 (c (l 2) z))) (c (.augA (l 0) 59 0 (i 1)) (c (.augA (l 0) 60 0 (i 1)) (c (t (l 0) 20 (u 1 (c (l 1) z))) z)))))))))))),[]⟩
noncomputable def f60:Fn:=⟨1,3,(c (f (a (l 0) 61) (c (.raise 7 (c Z z)) z) z) (c (t (l 0) 61 (B true)) (c (s 1 (u 2 (c (a (l 0) 57) z))) (c (F [2] (a (l 0) 58) (c (e (M (l 1) 1 (c (k 6 (c (l 2) z)) z))) z)) (c (e (M (l 1) 1 (c (k 6 (c (u 0 (c (a (l 0) 58) z)) z)) z))) (c (r (u 1 (c (l 1) z))) z)))))),[]⟩
noncomputable def f61:Fn:=⟨3,7,(c (t (l 0) 62 (u 1 (c (l 1) z))) (c (t (l 0) 56 (l 2)) (c (s 3 (u 0 (c (a (l 0) 62) z))) (c (f (p 2 (l 3) (i 4)) d z) (c (s 4 (k 8 (c (a (l 0) 62) (c (b 1 (l 3) (i 4)) z)))) (c (f (p 2 (l 4) (i 1)) d z) (c (f (p 4 (b 2 (i 4) (b 0 (l 4) (i 1))) (l 3)) d z) (c (t (l 0) 63 (b 1 (l 3) (b 2 (i 4) (b 0 (l 4) (i 1))))) (c (t (l 0) 58 (Q z)) (c (R 5 (c (l 4) z) (c (s 6 (k 8 (c (a (l 0) 62) (c (b 0 (a (l 0) 63) (b 2 (i 4) (l 5))) z)))) (c (f (p 0 (l 5) (i 0)) (c (f (p 1 (l 6) (i 0)) d z) z) d) (c (e (M (a (l 0) 58) 0 (c (l 6) z))) z)))) z)))))))))),[]⟩
noncomputable def f62:Fn:=⟨1,1,(c (r (u 0 (c (a (l 0) 58) z))) z),[]⟩
noncomputable def f63:Fn:=⟨1,1,(c (r (C 14 (c (l 0) z))) z),[]⟩
noncomputable def f64:Fn:=⟨2,8,(c (.asgT [4,5] (k 5 (c (a (l 0) 62) (c (l 1) z)))) (c (.asgT [6,5] (k 5 (c (a (l 0) 62) (c (l 5) z)))) (c (.asgT [7,5] (k 5 (c (a (l 0) 62) (c (l 5) z)))) (c (s 2 (b 0 (l 5) (l 6))) (c (s 3 (b 0 (l 2) (l 7))) (c (f (p 4 (l 3) (a (l 0) 63)) d z) (c (r (.tup (c (l 4) (c (l 5) (c (l 2) (c (l 3) z)))))) z))))))),[]⟩
noncomputable def f65:Fn:=⟨2,2,(c (t (l 0) 64 (l 1)) (c (t (l 0) 56 (a (l 1) 56)) (c (t (l 0) 65 (a (l 1) 63)) (c (t (l 0) 66 (a (l 1) 63)) (c (t (l 0) 67 (i 0)) (c (t (l 0) 68 (y [])) (c (t (l 0) 69 (i 0)) z))))))),[]⟩
noncomputable def f66:Fn:=⟨1,1,(c (t (l 0) 65 (a (a (l 0) 64) 63)) (c (t (l 0) 66 (a (a (l 0) 64) 63)) (c (t (l 0) 68 (y [])) z))),[]⟩
noncomputable def f67:Fn:=⟨1,1,(c (f (p 5 (a (l 0) 65) (a (a (l 0) 64) 63)) (c (.raise 6 (c Z z)) z) z) z),[]⟩
noncomputable def f68:Fn:=⟨1,1,(c (r (p 2 (a (l 0) 65) (a (a (l 0) 64) 63))) z),[]⟩
noncomputable def f69:Fn:=⟨1,1,(c (e (m (l 0) 70 z)) (c (r (a (l 0) 68)) z)),[]⟩
noncomputable def f70:Fn:=⟨1,1,(c (e (m (l 0) 70 z)) (c (r (S (a (a (l 0) 64) 62) (a (l 0) 69) (a (l 0) 66))) z)),[]⟩
noncomputable def f71:Fn:=⟨2,2,(c (e (m (l 0) 71 z)) (c (t (l 0) 67 (l 1)) (c (t (l 0) 66 (j (a (a (l 0) 64) 58) (l 1))) z))),[]⟩
noncomputable def f72:Fn:=⟨1,8,(c (s 1 (a (l 0) 66)) (c (s 2 (a (l 0) 68)) (c (e (m (l 0) 71 z)) (c (f (p 5 (l 1) (a (a (l 0) 64) 63)) (c (r (B false)) z) z) (c (.asgT [4,5,6,7] (m (a (l 0) 64) 72 (c (l 1) z))) (c (f (p 4 (l 4) (u 0 (c (l 2) z))) d z) (c (s 3 (a (a (l 0) 64) 58)) (c (W (A (p 2 (b 0 (a (l 0) 67) (i 1)) (u 0 (c (l 3) z))) (p 3 (j (l 3) (b 0 (a (l 0) 67) (i 1))) (l 1))) d) (c (f (A (p 0 (l 1) (j (l 3) (a (l 0) 67))) (p 1 (l 4) (i 0))) d z) (c (f (A (p 2 (b 0 (a (l 0) 67) (i 1)) (u 0 (c (l 3) z))) (p 2 (j (l 3) (b 0 (a (l 0) 67) (i 1))) (l 7))) d z) (c (t (l 0) 68 (b 0 (S (l 2) n (l 4)) (S (a (a (l 0) 64) 62) (l 5) (l 6)))) (c (t (l 0) 69 (l 6)) (c (t (l 0) 65 (l 1)) (c (t (l 0) 66 (l 7)) (c (r (B true)) z))))))))))))))),[]⟩
noncomputable def f73:Fn:=⟨1,1,(c (e (m (l 0) 73 (c (i 0) z))) (c (e (m (l 0) 74 z)) z)),[]⟩
noncomputable def f74:Fn:=⟨1,1,(c (e (m (l 0) 73 (c (b 1 (u 0 (c (a (a (l 0) 64) 58) z)) (i 1)) z))) (c (e (m (l 0) 74 z)) (c (W (A (m (l 0) 16 z) (p 2 (a (l 0) 66) (a (a (l 0) 64) 63))) d) z))),[]⟩
noncomputable def f75:Fn:=⟨2,2,(c (.try_ (c (e (m (l 0) 75 (c (l 1) z))) z) [(2,.bad)]) z),[]⟩
noncomputable def f76:Fn:=⟨2,8,(c (s 2 (i 0)) (c (s 3 (b 1 (u 0 (c (a (a (l 0) 64) 58) z)) (i 1))) (c (s 4 (i 0)) (c (s 5 (m (l 0) 16 z)) (c (f (l 5) (c (s 4 (m (a (l 0) 56) 37 (c (a (l 0) 68) (c (l 1) z)))) (c (f (p 0 (l 4) (i 0)) (c (r n) z) z) (c (f (p 2 (l 4) (i 0)) (c (s 2 (a (l 0) 67)) z) (c (s 3 (a (l 0) 67)) z)) z))) z) (c (W (p 2 (l 2) (l 3)) d) (c (f (N (A (l 5) (A (p 2 (l 4) (i 0)) (p 0 (l 2) (a (l 0) 67))))) (c (e (m (l 0) 73 (c (l 2) z))) z) z) (c (W (m (l 0) 74 z) (c (f (p 5 (m (a (l 0) 56) 37 (c (a (l 0) 68) (c (l 1) z))) (i 0)) (c (r n) z) z) z)) z)))))))),[]⟩
noncomputable def f77:Fn:=⟨1,1,(c (e (m (l 0) 70 z)) (c (e (m (l 0) 74 z)) z)),[]⟩
noncomputable def f78:Fn:=⟨1,3,(c (e (m (l 0) 70 z)) (c (s 1 (a (l 0) 65)) (c (s 2 (a (l 0) 67)) (c (W (p 5 (j (a (a (l 0) 64) 58) (l 2)) (l 1)) (c (f (p 0 (l 2) (i 0)) (c (e (m (l 0) 71 z)) (c (r n) z)) z) d)) d)))),[]⟩
noncomputable def f79:Fn:=⟨3,3,(c (t (l 0) 3 (l 1)) (c (t (l 0) 4 (l 2)) z)),[]⟩
noncomputable def f80:Fn:=⟨1,1,(c (r (b 0 (k 2 (c (a (l 0) 3) z)) (k 2 (c (a (l 0) 4) z)))) z),[]⟩
noncomputable def f81:Fn:=⟨2,3,(c (f (p 2 (l 1) (i 1)) d z) (c (t (l 0) 76 (l 1)) (c (s 2 (b 3 (b 2 (l 1) (i 69)) (i 100))) (c (f (p 2 (l 2) (i 1)) (c (s 2 (i 1)) z) z) (c (f (p 4 (l 2) (g (.int 30))) (c (s 2 (g (.int 30))) z) z) (c (t (l 0) 77 (l 2)) z)))))),[]⟩
noncomputable def f82:Fn:=⟨2,11,(c (s 2 (b 2 (u 0 (c (l 1) z)) (a (l 0) 76))) (c (f (p 2 (l 2) (g (.int 64))) (c (s 2 (g (.int 64))) z) z) (c (s 3 (b 3 (b 0 (l 2) (i 7)) (i 8))) (c (s 4 (b 2 (l 3) (i 8))) (c (s 5 (u 2 (c (l 3) z))) (c (F [6] (l 1) (c (s 7 (k 14 (c (l 6) z))) (c (s 8 (b 8 (b 9 (b 7 (l 7) (i 17)) (b 6 (l 7) (i 15))) (g (.int 4294967295)))) (c (R 9 (c (a (l 0) 77) z) (c (s 10 (b 4 (l 7) (l 4))) (c (.asgS (l 5) (b 3 (l 10) (i 8)) (b 9 (j (l 5) (b 3 (l 10) (i 8))) (b 6 (i 1) (b 4 (l 10) (i 8))))) (c (s 7 (b 8 (b 0 (l 7) (l 8)) (g (.int 4294967295)))) z)))) z)))) (c (e (M (l 5) 0 (c (a (l 0) 77) z))) (c (r (u 1 (c (l 5) z))) z)))))))),[]⟩
noncomputable def f83:Fn:=⟨3,9,(c (f (p 2 (u 0 (c (l 2) z)) (i 2)) (c (r (B false)) z) z) (c (s 3 (j (l 2) (b 1 (u 0 (c (l 2) z)) (i 1)))) (c (f (p 4 (l 3) (g (.int 30))) d z) (c (s 4 (b 2 (b 1 (u 0 (c (l 2) z)) (i 1)) (i 8))) (c (s 5 (k 14 (c (l 1) z))) (c (s 6 (b 8 (b 9 (b 7 (l 5) (i 17)) (b 6 (l 5) (i 15))) (g (.int 4294967295)))) (c (R 7 (c (l 3) z) (c (s 8 (b 4 (l 5) (l 4))) (c (f (p 0 (b 8 (j (l 2) (b 3 (l 8) (i 8))) (b 6 (i 1) (b 4 (l 8) (i 8)))) (i 0)) (c (r (B false)) z) z) (c (s 5 (b 8 (b 0 (l 5) (l 6)) (g (.int 4294967295)))) z)))) (c (r (B true)) z)))))))),[]⟩
noncomputable def f84:Fn:=⟨3,3,(c (f (O (p 2 (l 2) (i 0)) (p 4 (l 2) (i 31))) d z) (c (t (l 0) 78 (l 1)) (c (t (l 0) 79 (l 2)) (c (t (l 0) 80 (Q z)) (c (t (l 0) 81 (Q z)) (c (t (l 0) 82 (u 2 z)) (c (t (l 0) 61 (B false)) z))))))),[]⟩
noncomputable def f85:Fn:=⟨2,3,(c (f (a (l 0) 61) (c (.raise 7 (c Z z)) z) z) (c (s 2 (b 7 (l 1) (a (l 0) 79))) (c (f (p 2 (l 2) (u 0 (c (a (l 0) 81) z))) (c (.raise 7 (c Z z)) z) z) (c (W (p 2 (u 0 (c (a (l 0) 81) z)) (l 2)) (c (e (m (l 0) 83 z)) z)) z)))),[]⟩
noncomputable def f86:Fn:=⟨2,2,(c (f (a (l 0) 61) (c (.raise 7 (c Z z)) z) z) (c (e (M (a (l 0) 80) 0 (c (u 1 (c (l 1) z)) z))) z)),[]⟩
noncomputable def f87:Fn:=⟨1,1,(c (e (M (a (l 0) 81) 0 (c (u 0 (c (a (l 0) 82) z)) z))) (c (f (p 4 (u 0 (c (a (l 0) 80) z)) (i 0)) (c (e (M (a (l 0) 82) 1 (c (m (a (l 0) 78) 29 (c (a (l 0) 80) z)) z))) (c (t (l 0) 80 (Q z)) z)) z) z)),[]⟩
noncomputable def f88:Fn:=⟨1,3,(c (f (a (l 0) 61) (c (.raise 7 (c Z z)) z) z) (c (f (p 4 (u 0 (c (a (l 0) 80) z)) (i 0)) (c (e (m (l 0) 83 z)) z) z) (c (t (l 0) 61 (B true)) (c (s 1 (u 2 (c (a (l 0) 82) z))) (c (F [2] (a (l 0) 81) (c (e (M (l 1) 1 (c (k 6 (c (l 2) z)) z))) z)) (c (e (M (l 1) 1 (c (k 6 (c (u 0 (c (a (l 0) 82) z)) z)) z))) (c (e (M (l 1) 0 (c (a (l 0) 79) z))) (c (r (u 1 (c (l 1) z))) z)))))))),[]⟩
noncomputable def f89:Fn:=⟨3,5,(c (t (l 0) 78 (l 1)) (c (t (l 0) 62 (u 1 (c (l 2) z))) (c (t (l 0) 79 (i 0)) (c (t (l 0) 84 (i 0)) (c (t (l 0) 10 (i 0)) (c (s 3 (u 0 (c (a (l 0) 62) z))) (c (f (p 5 (l 3) (i 5)) (c (s 4 (k 8 (c (a (l 0) 62) (c (b 1 (l 3) (i 5)) z)))) (c (f (A (p 3 (l 4) (b 1 (l 3) (i 5))) (p 3 (j (a (l 0) 62) (b 1 (l 3) (i 1))) (i 31))) (c (t (l 0) 79 (j (a (l 0) 62) (b 1 (l 3) (i 1)))) (c (t (l 0) 84 (l 4)) (c (t (l 0) 10 (b 3 (b 1 (b 1 (l 3) (i 5)) (l 4)) (i 4))) z))) z) z)) z) z))))))),[]⟩
noncomputable def f90:Fn:=⟨3,7,(c (s 3 (b 7 (l 1) (a (l 0) 79))) (c (f (p 5 (l 3) (a (l 0) 10)) (c (r (B true)) z) z) (c (s 4 (b 0 (a (l 0) 84) (b 2 (i 4) (l 3)))) (c (s 5 (k 8 (c (a (l 0) 62) (c (l 4) z)))) (c (s 6 (k 8 (c (a (l 0) 62) (c (b 0 (l 4) (i 4)) z)))) (c (f (O (p 4 (l 5) (l 6)) (p 4 (l 6) (a (l 0) 84))) d z) (c (f (p 0 (l 5) (l 6)) (c (r (B false)) z) z) (c (f (p 2 (b 1 (l 6) (l 5)) (i 2)) d z) (c (r (m (a (l 0) 78) 30 (c (l 2) (c (S (a (l 0) 62) (l 5) (l 6)) z)))) z))))))))),[]⟩
noncomputable def f91:Fn:=⟨3,3,(c (t (l 0) 85 (l 1)) (c (t (l 0) 86 (l 2)) z)),[]⟩
noncomputable def f92:Fn:=⟨1,2,(c (s 1 (b 0 (m (a (l 0) 85) 87 z) (m (a (l 0) 86) 87 z))) (c (r (b 0 (b 0 (l 1) (u 1 (c (b 1 (g (.int 40)) (u 0 (c (l 1) z))) z))) (k 7 (c (g (.int 15800726617472432983)) z)))) z)),[]⟩
noncomputable def f93:Fn:=⟨3,4,(c (t (l 0) 88 (l 1)) (c (t (l 0) 56 (l 2)) (c (t (l 0) 89 (u 2 z)) (c (t (l 0) 64 (C 12 (c (a (l 1) 31) (c (l 2) z)))) (c (t (l 0) 86 (C 12 (c (i 1) (c (l 2) z)))) (c (t (l 0) 82 n) (c (f (p 4 (a (l 1) 32) (i 0)) (c (s 3 (C 16 (c (a (l 1) 32) z))) (c (t (l 0) 82 (C 17 (c (l 3) (c (a (l 1) 33) z)))) (c (e (m (a (l 0) 82) 9 (c (i 0) z))) z))) z) (c (t (l 0) 90 n) (c (t (l 0) 20 (y [])) (c (t (l 0) 60 (i 0)) (c (t (l 0) 91 (B false)) z))))))))))),[]⟩
noncomputable def f94:Fn:=⟨1,1,(c (r (u 0 (c (a (l 0) 89) z))) z),[]⟩
noncomputable def f95:Fn:=⟨1,1,(c (r (a (l 0) 60)) z),[]⟩
noncomputable def f96:Fn:=⟨3,5,(c (f (a (l 0) 91) (c (.raise 7 (c Z z)) z) z) (c (s 3 (k 17 (c (l 1) z))) (c (f (p 7 (a (l 0) 90) n) (c (f (p 3 (m (a (l 0) 56) 37 (c (l 1) (c (a (l 0) 20) z))) (i 0)) (c (.raise 7 (c Z z)) z) z) d) z) (c (e (m (a (l 0) 64) 5 (c (l 1) (c (l 2) z)))) (c (f (p 7 (a (l 0) 82) n) (c (e (m (a (l 0) 82) 8 (c (l 3) z))) z) z) (c (t (l 0) 20 (u 1 (c (l 1) z))) (c (.augA (l 0) 60 0 (i 1)) (c (f (p 5 (m (a (l 0) 64) 25 z) (a (a (l 0) 88) 11)) (c (e (m (l 0) 92 z)) z) z) z)))))))),[]⟩
noncomputable def f97:Fn:=⟨2,3,(c (s 2 (C 15 (c (u 0 (c (a (l 0) 89) z)) (c (u 0 (c (l 1) z)) z)))) (c (e (M (a (l 0) 89) 1 (c (k 21 (c (l 1) (c (a (a (l 0) 88) 34) z))) z))) (c (r (l 2)) z))),[]⟩
noncomputable def f98:Fn:=⟨1,1,(c (f (m (a (l 0) 64) 26 z) (c (r n) z) z) (c (t (l 0) 90 (m (l 0) 93 (c (m (a (l 0) 64) 6 z) z))) (c (e (m (a (l 0) 64) 28 z)) (c (f (p 7 (a (l 0) 82) n) (c (e (m (a (l 0) 82) 9 (c (u 0 (c (a (l 0) 89) z)) z))) z) z) z)))),[]⟩
noncomputable def f99:Fn:=⟨1,5,(c (f (a (l 0) 91) (c (.raise 7 (c Z z)) z) z) (c (e (m (l 0) 92 z)) (c (t (l 0) 91 (B true)) (c (s 1 (C 12 (c (a (a (l 0) 88) 31) (c (C 9 z) z)))) (c (f (p 7 (a (l 0) 82) n) (c (s 4 (m (l 0) 93 (c (m (a (l 0) 82) 6 z) z))) (c (e (m (l 1) 5 (c (g (.bytes [102,105,108,116,101,114,46,114,97,102,116,107,101,101,112,46,98,108,111,111,109])) (c (m (l 4) 87 z) z)))) z)) z) (c (s 2 (m (l 0) 93 (c (m (l 1) 6 z) z))) (c (f (p 7 (a (l 0) 90) n) (c (e (m (a (l 0) 86) 5 (c (m (a (l 0) 56) 39 (c (a (l 0) 20) z)) (c (m (a (l 0) 90) 87 z) z)))) (c (t (l 0) 90 n) z)) z) (c (s 3 (m (l 0) 93 (c (m (a (l 0) 86) 6 z) z))) (c (e (M (a (l 0) 89) 1 (c (m (C 19 (c (l 2) (c (l 3) z))) 87 z) z))) (c (r (u 1 (c (a (l 0) 89) z))) z)))))))))),[]⟩
noncomputable def f100:Fn:=⟨1,1,(c (f (a (l 0) 91) (c (.raise 7 (c Z z)) z) z) (c (t (l 0) 91 (B true)) (c (t (l 0) 89 (u 2 z)) (c (t (l 0) 90 n) z)))),[]⟩
noncomputable def f101:Fn:=⟨4,5,(c (t (l 0) 62 (u 1 (c (l 1) z))) (c (t (l 0) 88 (l 2)) (c (t (l 0) 56 (l 3)) (c (t (l 0) 94 (k 23 (c (a (l 0) 62) z))) (c (t (l 0) 95 (b 1 (u 0 (c (a (l 0) 62) z)) (g (.int 48)))) (c (t (l 0) 86 (C 13 (c (m (l 0) 96 (c (a (a (l 0) 94) 86) z)) (c (l 3) z)))) (c (t (l 0) 82 n) (c (s 4 (C 13 (c (m (l 0) 96 (c (a (a (l 0) 94) 85) z)) (c (C 9 z) z)))) (c (f (p 4 (a (l 2) 32) (i 0)) (c (t (l 0) 82 (m (l 0) 97 (c (l 4) z))) z) z) (c (f (a (l 2) 35) (c (e (m (l 0) 98 (c (l 4) z))) z) z) z)))))))))),[]⟩
noncomputable def f102:Fn:=⟨2,2,(c (f (p 4 (b 0 (b 0 (a (l 1) 3) (a (l 1) 4)) (g (.int 5))) (a (l 0) 95)) d z) (c (r (k 22 (c (a (l 0) 62) (c (l 1) (c (a (a (l 0) 88) 34) z))))) z)),[]⟩
noncomputable def f103:Fn:=⟨2,4,(c (s 2 (m (l 1) 24 z)) (c (e (m (l 2) 19 (c (g (.bytes [102,105,108,116,101,114,46,114,97,102,116,107,101,101,112,46,98,108,111,111,109])) z))) (c (f (O (N (m (l 2) 16 z)) (p 1 (m (l 2) 12 z) (g (.bytes [102,105,108,116,101,114,46,114,97,102,116,107,101,101,112,46,98,108,111,111,109])))) (c (r n) z) z) (c (.try_ (c (s 3 (m (l 0) 96 (c (m (l 0) 99 (c (m (l 2) 13 z) z)) z))) z) [(2,.bad)]) (c (r (C 18 (c (C 16 (c (a (a (l 0) 88) 32) z)) (c (l 3) z)))) z))))),[]⟩
noncomputable def f104:Fn:=⟨2,4,(c (.asgT [2,3] (k 20 (c (l 1) (c (i 0) z)))) (c (f (p 1 (l 3) (u 0 (c (l 1) z))) d z) (c (r (l 2)) z))),[]⟩
noncomputable def f105:Fn:=⟨2,3,(c (s 2 (m (l 0) 96 (c (m (l 0) 99 (c (l 1) z)) z))) (c (r (m (C 13 (c (l 2) (c (a (l 0) 56) z))) 24 z)) z)),[]⟩
noncomputable def f106:Fn:=⟨1,1,(c (r (C 22 (c (m (a (l 0) 86) 24 z) (c (l 0) z)))) z),[]⟩
noncomputable def f107:Fn:=⟨2,6,(c (s 2 (m (a (l 0) 86) 24 z)) (c (e (m (l 2) 19 (c (l 1) z))) (c (f (N (m (l 2) 16 z)) (c (r n) z) z) (c (s 3 (m (l 2) 13 z)) (c (f (p 7 (a (l 0) 82) n) (c (s 5 (m (l 0) 99 (c (l 3) z))) (c (f (N (m (a (l 0) 82) 30 (c (a (l 5) 3) (c (k 17 (c (l 1) z)) z)))) (c (r n) z) z) z)) z) (c (s 4 (m (l 0) 100 (c (l 3) z))) (c (e (m (l 4) 19 (c (l 1) z))) (c (f (N (m (l 4) 16 z)) (c (r n) z) z) (c (r (.tup (c (m (l 4) 12 z) (c (m (l 4) 13 z) z)))) z))))))))),[]⟩
noncomputable def f108:Fn:=⟨2,3,(c (s 2 (m (a (l 0) 86) 24 z)) (c (e (m (l 2) 19 (c (l 1) z))) (c (f (m (l 2) 16 z) (c (r (a (m (l 0) 99 (c (m (l 2) 13 z) z)) 3)) z) z) (c (r (a (a (a (l 0) 94) 85) 3)) z)))),[]⟩
noncomputable def f109:Fn:=⟨1,2,(c (s 1 (m (l 0) 24 z)) (c (e (m (l 1) 17 z)) (c (f (N (m (l 1) 16 z)) (c (.raise 4 (c Z z)) z) z) (c (r (m (l 1) 12 z)) z)))),[]⟩
noncomputable def f110:Fn:=⟨1,2,(c (s 1 (m (l 0) 24 z)) (c (e (m (l 1) 18 z)) (c (f (N (m (l 1) 16 z)) (c (.raise 4 (c Z z)) z) z) (c (r (m (l 1) 12 z)) z)))),[]⟩
noncomputable def f111:Fn:=⟨2,3,(c (s 2 (m (l 1) 24 z)) (c (e (m (l 2) 19 (c (g (.bytes [102,105,108,116,101,114,46,114,97,102,116,107,101,101,112,46,98,108,111,111,109])) z))) (c (f (O (N (m (l 2) 16 z)) (p 1 (m (l 2) 12 z) (g (.bytes [102,105,108,116,101,114,46,114,97,102,116,107,101,101,112,46,98,108,111,111,109])))) (c (r (a (a (a (l 0) 94) 85) 3)) z) z) (c (r (a (m (l 0) 99 (c (m (l 2) 13 z) z)) 3)) z)))),[]⟩
noncomputable def f112:Fn:=⟨2,9,(c (s 2 (i 0)) (c (s 3 n) (c (s 4 n) (c (s 5 (m (a (l 0) 86) 24 z)) (c (e (m (l 5) 17 z)) (c (W (m (l 5) 16 z) (c (s 6 (m (l 0) 99 (c (m (l 5) 13 z) z))) (c (f (p 1 (a (l 6) 3) (l 2)) d z) (c (s 2 (b 0 (b 0 (a (l 6) 3) (a (l 6) 4)) (g (.int 5)))) (c (s 7 (m (l 0) 100 (c (m (l 5) 13 z) z))) (c (e (m (l 7) 17 z)) (c (W (m (l 7) 16 z) (c (s 8 (m (l 7) 12 z)) (c (e (m (l 0) 101 (c (l 8) (c (l 3) (c (l 4) (c (m (l 5) 12 z) (c (l 6) z))))))) (c (s 3 (l 8)) (c (e (m (l 7) 14 z)) z))))) (c (s 4 (m (l 5) 12 z)) (c (e (m (l 5) 14 z)) z))))))))) (c (f (p 1 (l 2) (m (l 0) 102 (c (l 1) z))) d z) z))))))),[]⟩
noncomputable def f113:Fn:=⟨6,9,(c (.asgT [6,7,8] (k 16 (c (l 1) z))) (c (f (A (p 7 (l 2) n) (p 5 (m (a (l 0) 56) 37 (c (l 2) (c (l 1) z))) (i 0))) d z) (c (f (A (p 7 (l 3) n) (p 3 (m (a (l 0) 56) 37 (c (l 1) (c (l 3) z))) (i 0))) d z) (c (f (p 4 (m (a (l 0) 56) 37 (c (l 1) (c (l 4) z))) (i 0)) d z) (c (f (A (p 7 (a (l 0) 82) n) (N (m (a (l 0) 82) 30 (c (a (l 5) 3) (c (l 6) z))))) d z) z))))),[]⟩
noncomputable def f114:Fn:=⟨3,3,(c (t (l 0) 103 (l 1)) (c (t (l 0) 104 (l 2)) (c (t (l 0) 105 n) (c (t (l 0) 106 (y [])) z)))),[]⟩
noncomputable def f115:Fn:=⟨1,1,(c (r (A (p 7 (a (l 0) 105) n) (m (a (l 0) 105) 16 z))) z),[]⟩
noncomputable def f116:Fn:=⟨1,1,(c (f (N (m (l 0) 16 z)) (c (.raise 6 (c Z z)) z) z) z),[]⟩
noncomputable def f117:Fn:=⟨1,1,(c (e (m (l 0) 70 z)) (c (r (m (a (l 0) 105) 12 z)) z)),[]⟩
noncomputable def f118:Fn:=⟨1,1,(c (e (m (l 0) 70 z)) (c (r (m (a (l 0) 105) 13 z)) z)),[]⟩
noncomputable def f119:Fn:=⟨1,2,(c (s 1 (a (l 0) 105)) (c (t (l 0) 105 n) (c (r (l 1)) z))),[]⟩
noncomputable def f120:Fn:=⟨2,3,(c (f (N (m (a (l 0) 103) 16 z)) (c (r n) z) z) (c (s 2 (m (a (l 0) 103) 13 z)) (c (f (A (p 7 (l 1) n) (p 0 (l 2) (a (l 0) 106))) (c (t (l 0) 105 (l 1)) (c (r n) z)) z) (c (t (l 0) 105 (m (a (l 0) 104) 100 (c (l 2) z))) (c (t (l 0) 106 (l 2)) z))))),[]⟩
noncomputable def f121:Fn:=⟨1,2,(c (W (A (m (a (l 0) 103) 16 z) (N (m (l 0) 16 z))) (c (s 1 (m (l 0) 107 z)) (c (e (m (a (l 0) 103) 14 z)) (c (e (m (l 0) 108 (c (l 1) z))) (c (f (p 7 (a (l 0) 105) n) d z) z))))) z),[]⟩
noncomputable def f122:Fn:=⟨1,2,(c (W (A (m (a (l 0) 103) 16 z) (N (m (l 0) 16 z))) (c (s 1 (m (l 0) 107 z)) (c (e (m (a (l 0) 103) 15 z)) (c (e (m (l 0) 108 (c (l 1) z))) (c (f (p 7 (a (l 0) 105) n) d z) z))))) z),[]⟩
noncomputable def f123:Fn:=⟨1,2,(c (s 1 (m (l 0) 107 z)) (c (e (m (a (l 0) 103) 17 z)) (c (e (m (l 0) 108 (c (l 1) z))) (c (f (p 7 (a (l 0) 105) n) (c (e (m (a (l 0) 105) 17 z)) z) z) (c (e (m (l 0) 109 z)) z))))),[]⟩
noncomputable def f124:Fn:=⟨1,2,(c (s 1 (m (l 0) 107 z)) (c (e (m (a (l 0) 103) 18 z)) (c (e (m (l 0) 108 (c (l 1) z))) (c (f (p 7 (a (l 0) 105) n) (c (e (m (a (l 0) 105) 18 z)) z) z) (c (e (m (l 0) 110 z)) z))))),[]⟩
noncomputable def f125:Fn:=⟨2,3,(c (s 2 (m (l 0) 107 z)) (c (e (m (a (l 0) 103) 19 (c (l 1) z))) (c (e (m (l 0) 108 (c (l 2) z))) (c (f (p 7 (a (l 0) 105) n) (c (e (m (a (l 0) 105) 19 (c (l 1) z))) z) z) (c (e (m (l 0) 109 z)) z))))),[]⟩
noncomputable def f126:Fn:=⟨1,1,(c (e (m (l 0) 70 z)) (c (e (m (a (l 0) 105) 14 z)) (c (e (m (l 0) 109 z)) z))),[]⟩
noncomputable def f127:Fn:=⟨1,1,(c (e (m (l 0) 70 z)) (c (e (m (a (l 0) 105) 15 z)) (c (e (m (l 0) 110 z)) z))),[]⟩
end
end Mine
namespace Mine
theorem eX02{A B G:Prop}(h:A∧B)(k:A→B→G):G:=k h.1 h.2
theorem eX03{A B C G:Prop}(h:A∧B∧C)(k:A→B→C→G):G:=k h.1 h.2.1 h.2.2
theorem eX04{A B C D G:Prop}(h:A∧B∧C∧D)(k:A→B→C→D→G):G:=k h.1 h.2.1 h.2.2.1 h.2.2.2
theorem eX11{α:Type}{A:α→Prop}{G:Prop}(h:∃a,A a)(k:∀a,A a→G):G:=h.elim λa q=>k a q
theorem eX12{α:Type}{A B:α→Prop}{G:Prop}(h:∃a,A a∧B a)(k:∀a,A a→B a→G):G:=h.elim λa q=>k a q.1 q.2
theorem eX13{α:Type}{A B C:α→Prop}{G:Prop}(h:∃a,A a∧B a∧C a)(k:∀a,A a→B a→C a→G):G:=h.elim λa q=>k a q.1 q.2.1 q.2.2
theorem eX21{α β:Type}{A:α→β→Prop}{G:Prop}(h:∃a b,A a b)(k:∀a b,A a b→G):G:=h.elim λa q=>q.elim λb q=>k a b q
theorem eX22{α β:Type}{A B:α→β→Prop}{G:Prop}(h:∃a b,A a b∧B a b)(k:∀a b,A a b→B a b→G):G:=h.elim λa q=>q.elim λb q=>k a b q.1 q.2
theorem eX23{α β:Type}{A B C:α→β→Prop}{G:Prop}(h:∃a b,A a b∧B a b∧C a b)(k:∀a b,A a b→B a b→C a b→G):G:=h.elim λa q=>q.elim λb q=>k a b q.1 q.2.1 q.2.2
theorem eX24{α β:Type}{A B C D:α→β→Prop}{G:Prop}(h:∃a b,A a b∧B a b∧C a b∧D a b)(k:∀a b,A a b→B a b→C a b→D a b→G):G:=h.elim λa q=>q.elim λb q=>k a b q.1 q.2.1 q.2.2.1 q.2.2.2
theorem eX32{α β γ:Type}{A B:α→β→γ→Prop}{G:Prop}(h:∃a b c,A a b c∧B a b c)(k:∀a b c,A a b c→B a b c→G):G:=h.elim λa q=>q.elim λb q=>q.elim λc q=>k a b c q.1 q.2
theorem eX33{α β γ:Type}{A B C:α→β→γ→Prop}{G:Prop}(h:∃a b c,A a b c∧B a b c∧C a b c)(k:∀a b c,A a b c→B a b c→C a b c→G):G:=h.elim λa q=>q.elim λb q=>q.elim λc q=>k a b c q.1 q.2.1 q.2.2
theorem eX34{α β γ:Type}{A B C D:α→β→γ→Prop}{G:Prop}(h:∃a b c,A a b c∧B a b c∧C a b c∧D a b c)(k:∀a b c,A a b c→B a b c→C a b c→D a b c→G):G:=h.elim λa q=>q.elim λb q=>q.elim λc q=>k a b c q.1 q.2.1 q.2.2.1 q.2.2.2
theorem eX41{α β γ δ:Type}{A:α→β→γ→δ→Prop}{G:Prop}(h:∃a b c d,A a b c d)(k:∀a b c d,A a b c d→G):G:=h.elim λa q=>q.elim λb q=>q.elim λc q=>q.elim λd q=>k a b c d q
theorem eX44{α β γ δ:Type}{A B C D:α→β→γ→δ→Prop}{G:Prop}(h:∃a b c d,A a b c d∧B a b c d∧C a b c d∧D a b c d)(k:∀a b c d,A a b c d→B a b c d→C a b c d→D a b c d→G):G:=h.elim λa q=>q.elim λb q=>q.elim λc q=>q.elim λd q=>k a b c d q.1 q.2.1 q.2.2.1 q.2.2.2
theorem eX63{α β γ δ ε ζ:Type}{A B C:α→β→γ→δ→ε→ζ→Prop}{G:Prop}(h:∃a b c d e f,A a b c d e f∧B a b c d e f∧C a b c d e f)(k:∀a b c d e f,A a b c d e f→B a b c d e f→C a b c d e f→G):G:=h.elim λa q=>q.elim λb q=>q.elim λc q=>q.elim λd q=>q.elim λe q=>q.elim λf q=>k a b c d e f q.1 q.2.1 q.2.2
theorem yO{n k:Nat}{z:Int}(h:z=k):((n+k:Nat):Int)-z=n:=by rw[h,K5];exact D5 _ _
theorem He{n k:Nat}{z:Int}(h:z=k):(((n+k:Nat):Int)-z).toNat=n:=by rw[yO h,t7]
theorem Ip{a b:Nat}:((a:Int)+b-a).toNat=b:=by rw[G9,D5,t7]
theorem Lc{a:Nat}{k:Int}:((a:Int)+k-k).toNat=a:=by rw[D5,t7]
theorem IG{x:Int}(h:0≤x):(x+1).toNat=x.toNat+1:=(A1 h).elim λn e=>by rw[e];rfl
theorem Io{n k:Nat}{z:Int}(h:z=k)(h1:0<k):0≤((n+k:Nat):Int)-z∧((n+k:Nat):Int)-z<((n+k:Nat):Int):=by
 rw[yO h];exact⟨g8 _,j1.mpr (J7 h1)⟩
theorem D2{g:Prop}(h:∀G:Prop,(g→G)→G):g:=h g id
theorem eU{n:Nat}{c:Cell}:∀{H:Hp},(put H n c).length=H.length:=by
 intro H
 induction H generalizing n with
 |nil=>rfl
 |cons d r ih=>cases n with
  |zero=>rfl
  |succ n=>exact congrArg (· + 1) (ih (n:=n))
theorem dM{n:Nat}{c:Cell}{H:Hp}(h:n<H.length):get (put H n c) n=c:=by
 induction H generalizing n with
 |nil=>cases h
 |cons d r ih=>cases n with
  |zero=>rfl
  |succ n=>exact ih (B1 h)
theorem N9{n m:Nat}{c:Cell}{H:Hp}(h:m≠n):get (put H n c) m=get H m:=by
 induction H generalizing n m with
 |nil=>rfl
 |cons d r ih=>cases n with
  |zero=>cases m with
   |zero=>exact absurd rfl h
   |succ m=>rfl
  |succ n=>cases m with
   |zero=>rfl
   |succ m=>exact ih (λq=>h (congrArg (· + 1) q))
theorem gL{H G:Hp}{n:Nat}(h:n<H.length):get (H++G) n=get H n:=by
 induction H generalizing n with
 |nil=>cases h
 |cons d r ih=>cases n with
  |zero=>rfl
  |succ n=>exact ih (B1 h)
theorem yF{H G:Hp}{n:Nat}:get (H++G) (H.length+n)=get G n:=by
 induction H with
 |nil=>rw[X4,J0];rfl
 |cons d r ih=>rw[m9,bY];exact ih
theorem pd{H:Hp}{c:Cell}:get (H++[c]) H.length=c:=yF (n:=0)
theorem dO{H:Hp}{n:Nat}(h:get H n≠.gone):n<H.length:=by
 induction H generalizing n with
 |nil=>exact absurd rfl h
 |cons d r ih=>cases n with
  |zero=>exact Z7 _
  |succ n=>exact Nat.succ_lt_succ (ih h)
noncomputable def rU:List Fn→Nat→Option Fn
 |[],_=>none
 |a::_,0=>some a
 |_::r,n+1=>rU r n
noncomputable def jQ:List (Nat×Nat)→Nat→Option Nat
 |[],_=>none
 |p::r,n=>match Nat.beq p.1 n with
  |true=>some p.2
  |false=>jQ r n
noncomputable def xC:List (List (Nat×Nat))→Nat→List (Nat×Nat)
 |[],_=>[]
 |a::_,0=>a
 |_::r,n+1=>xC r n
noncomputable def rg:List (List (Nat×Nat)):=[[],[],[],[],[],[],[],[],[],[(37,48),(39,49)],[(37,51),(38,52),(39,53)],[],[(5,59),(6,60),(25,58),(26,57),(28,56)],[(24,63),(27,62),(72,64)],[(12,69),(13,70),(14,77),(15,78),(16,68),(17,73),(18,74),(19,75),(70,67),(71,66),(73,71),(74,72),(75,76)],[(87,80)],[(29,82),(30,83)],[(6,88),(8,86),(9,85),(83,87)],[(30,90)],[(87,92)],[(4,94),(5,96),(6,99),(7,100),(10,95),(92,98),(93,97)],[(20,110),(21,109),(22,108),(23,107),(24,106),(96,102),(97,103),(98,112),(99,104),(100,105),(101,113),(102,111)],[(12,117),(13,118),(14,126),(15,127),(16,115),(17,123),(18,124),(19,125),(70,116),(107,119),(108,120),(109,121),(110,122)]]
noncomputable def aY(C m:Nat):Option Nat:=jQ (xC rg C) m
noncomputable def yH:List Fn:=[f0,f1,f2,f3,f4,f5,f6,f7,f8,f9,f10,f11,f12,f13,f14,f15,f16,f17,f18,f19,f20,f21,f22,f23,f24,f25,f26,f27,f28,f29,f30,f31,f32,f33,f34,f35,f36,f37,f38,f39,f40,f41,f42,f43,f44,f45,f46,f47,f48,f49,f50,f51,f52,f53,f54,f55,f56,f57,f58,f59,f60,f61,f62,f63,f64,f65,f66,f67,f68,f69,f70,f71,f72,f73,f74,f75,f76,f77,f78,f79,f80,f81,f82,f83,f84,f85,f86,f87,f88,f89,f90,f91,f92,f93,f94,f95,f96,f97,f98,f99,f100,f101,f102,f103,f104,f105,f106,f107,f108,f109,f110,f111,f112,f113,f114,f115,f116,f117,f118,f119,f120,f121,f122,f123,f124,f125,f126,f127]
noncomputable def Dv:List (Nat×Nat):=[(10,50),(11,54),(12,55),(13,61),(14,65),(15,79),(16,81),(17,84),(18,89),(19,91),(20,93),(21,101),(22,114)]
noncomputable abbrev Cl:=Nat→Nat→List AV→Hp→KE→XE→Prop
noncomputable def Iv(c cc:Cl)(r:Nat):Itf:=⟨c r,cc r,aY⟩
structure Lv(c cc:Cl):Prop where
 call:∀{f:Nat} {F:Fn},rU yH f=some F→∀{r:Nat} {vs:List AV} {H:Hp} {K:KE} {X:XE},gU (Iv c cc r) F vs H K X→c (r+1) f vs H K X
 cls:∀{k g:Nat},jQ Dv k=some g→∀{r:Nat} {vs:List AV} {H:Hp} {K:KE} {X:XE},nw H (.dict []) (λn H=>c r g (.obj k n::vs) H (λv H'=>v = .none∧fZ k n K H') X)→cc (r+1) k vs H K X
 cls9:∀{r:Nat} {H:Hp} {K:KE} {X:XE},nw H (.dict []) (λn H=>fZ 9 n K H)→cc (r+1) 9 [] H K X
noncomputable def Spec(p:Cl×Cl):Prop:=∀is:List Int,∃r,r≤149∧p.1 r 47 [.fl (is.map .int)] [] (λv _=>v = .bool true) λ_ _=>False
theorem qP:∃p:Cl×Cl,Lv p.1 p.2∧(Spec p→∀q:Cl×Cl,Lv q.1 q.2→Spec q):=by
 by_cases h:∃p:Cl×Cl,Lv p.1 p.2∧¬Spec p
 ·exact h.elim λp h=>⟨p,h.1,λs=>absurd s h.2⟩
 ·exact⟨(λ_ _ _ _ _ _=>True,λ_ _ _ _ _ _=>True),⟨by intros;trivial,by intros;trivial,by intros;trivial⟩,λ_ q l=>Classical.byContradiction λn=>h ⟨q,l,n⟩⟩
@[irreducible] noncomputable def c:Cl:=(Classical.choose qP).1
@[irreducible] noncomputable def cc:Cl:=(Classical.choose qP).2
theorem L:Lv c cc:=by unfold c cc;exact(ef qP).1
theorem tF(h:∀is:List Int,∃r,r≤149∧c r 47 [.fl (is.map .int)] [] (λv _=>v = .bool true) λ_ _=>False):∀q:Cl×Cl,Lv q.1 q.2→Spec q:=(ef qP).2 (by unfold c at h;exact h)
section
variable{p:Prop}{i:Decidable p}{F G:Prop}{b:Bool}
theorem dQ(h:p)(f:F):br (decide p) F G:=⟨λ_=>f,λe=>absurd h (of_decide_eq_false e)⟩
theorem C6(h:¬p)(g:G):br (decide p) F G:=⟨λe=>absurd (of_decide_eq_true e) h,λ_=>g⟩
theorem R7(f:p→F)(g:¬p→G):br (decide p) F G:=⟨λe=>f (of_decide_eq_true e),λe=>g (of_decide_eq_false e)⟩
theorem O0(h:b=true)(f:F):br b F G:=⟨λ_=>f,(λe=>by rw[h] at e;cases e)⟩
theorem I9(h:b=false)(g:G):br b F G:=⟨(λe=>by rw[h] at e;cases e),λ_=>g⟩
theorem qu(f:b=true→F)(g:b=false→G):br b F G:=⟨f,g⟩
theorem B4:K8=16777216:=rfl
end
section
variable{H:Hp}{n m:Nat}{F:Prop}
theorem qX{l:List AV}(e:get H n = .list l)(h:(Nat.beq m 0||Nat.beq m 2)=true):qd (get H n) m=true:=by rw[e];exact h
theorem xB{l:List Int}(e:get H n = .barr l)(h:(Nat.beq m 0||Nat.beq m 1)=true):qd (get H n) m=true:=by rw[e];exact h
end
theorem gI{a:Int}(b:Int)(k:Nat)(hb:b=2^k-1)(h:0≤a):P5 a b=a%(b+1):=by
 obtain⟨n,rfl⟩:=A1 h
 have e:b=((2^k-1:Nat):Int):=by
  rw[hb,Int.natCast_sub (Nat.one_le_two_pow),K4];rfl
 subst e
 unfold P5
 rw[t7,t7,Nat.and_two_pow_sub_one_eq_mod]
 rw[dB]
 congr 1
 rw[Int.natCast_sub (Nat.one_le_two_pow),K4]
 simp
theorem eC{a:Int}{k:Nat}(h:0≤a):0≤cH a k:=r8 h (A3 (cN (by decide)))
theorem iq{a:Int}{k:Nat}(h:0≤a):0≤hF a k:=t8 h (A3 (cN (by decide)))
theorem xG{a b:Int}:0≤P5 a b:=g8 _
theorem mD{a b:Int}:0≤iU a b:=g8 _
theorem bp{a b:Int}:0≤gA a b:=g8 _
end Mine
namespace Mine
theorem Cp{α:Type}{R:α→α→Prop}{a:α}:List.Pairwise R [a]:=List.pairwise_singleton R a
theorem AY{α:Type}{p:α→Prop}:∀x∈([]:List α),p x:=λ_ m=>absurd m t9
theorem dN{fs:List (Nat×AV)}:Cell.dict fs≠.gone:=nofun
theorem lN{l:List AV}:Cell.list l≠.gone:=nofun
theorem bN{l:List Int}:Cell.barr l≠.gone:=nofun
noncomputable def ng(c:Cell):Bool:=match c with
 |.gone=>false
 |.dict _=>true
 |.list _=>true
 |.barr _=>true
theorem qY{c:Cell}(h:ng c=true):c≠.gone:=λe=>e9 (by rw[e] at h;exact h)
theorem La{v:AV}{b:Bool}(h:isNone v=b):isNone v=b:=h
theorem GU{v:AV}{b:Bool}(h:(!isNone v)=b):(!isNone v)=b:=h
theorem KZ{c d:Nat}{b:Bool}(h:rK c d=b):rK c d=b:=h
theorem Hh{b b':Bool}{F G:Prop}(h:b=!b')(g:br b' G F):br b F G:=by rw[h];exact⟨λe=>g.f (by cases b'<;>first | rfl | cases e),λe=>g.t (by cases b'<;>first | rfl | cases e)⟩
theorem mK{n:Nat}(h:Nat.ble (n+1) 900=true):n<900:=F3 h
theorem iD{i:Int}{n:Nat}(h:(decide (0≤i)&&Nat.ble (i.toNat+1) n)=true):within i n:=by
 rw[M1] at h
 have a:=of_decide_eq_true h.1
 have b:=F3 h.2
 lia -abstractProof
structure Kq(S:List Nat)(H H':Hp):Prop where
 len:H.length≤H'.length
 same:∀{n:Nat},n<H.length→n∉S→get H' n=get H n
namespace Kq
variable{S S':List Nat}{H H' H'':Hp}
theorem refl:Kq S H H:=⟨d8 _,λ_ _=>rfl⟩
theorem app{G:Hp}:Kq S H (H++G):=⟨by rw[d6];exact u3 _ _,λh _=>gL h⟩
theorem trans(a:Kq S H H')(b:Kq S' H' H'')(h:∀m∈S',m∈S∨H.length≤m):Kq S H H'':=
 ⟨b6 a.len b.len,λhn hs=>(b.same (i8 hn a.len) (λq=>(h _ q).elim hs (λq=>absurd q (F9.mpr hn)))).trans (a.same hn hs)⟩
theorem trans0(a:Kq S H H')(b:Kq [] H' H''):Kq S H H'':=a.trans b (λ_ q=>nomatch q)
theorem trans_(a:Kq S H H')(b:Kq S H' H''):Kq S H H'':=a.trans b (λ_ q=>Or.inl q)
theorem mono(a:Kq S H H')(h:∀m∈S,m∈S'):Kq S' H H':=⟨a.len,λhn hs=>a.same hn (λq=>hs (h _ q))⟩
theorem nil(a:Kq [] H H'):Kq S H H':=a.mono (λ_ q=>nomatch q)
theorem put{n:Nat}{c:Cell}(h:n∈S):Kq S H (put H n c):=⟨j6 eU.symm,λ_ hs=>N9 (λq=>hs (q▸h))⟩
theorem ES{n:Nat}{c:Cell}:Kq [n] H (Mine.put H n c):=put (i6.mpr rfl)
theorem putn{n:Nat}{c:Cell}(a:Kq S H H')(h:n∈S∨H.length≤n):Kq S H (Mine.put H' n c):=a.trans ES (λm q=>by rw[i6.mp q];exact h)
theorem dict{n:Nat}{fs:List (Nat×AV)}(a:Kq S H H')(h:get H n = .dict fs)(hs:n∉S):get H' n = .dict fs:=(a.same (dO (by rw[h];exact dN)) hs).trans h
theorem list{n:Nat}{fs:List AV}(a:Kq S H H')(h:get H n = .list fs)(hs:n∉S):get H' n = .list fs:=(a.same (dO (by rw[h];exact lN)) hs).trans h
theorem dict0{n:Nat}{fs:List (Nat×AV)}(a:Kq [] H H')(h:get H n = .dict fs):get H' n = .dict fs:=a.dict h t9
theorem list0{n:Nat}{fs:List AV}(a:Kq [] H H')(h:get H n = .list fs):get H' n = .list fs:=a.list h t9
end Kq
structure Own(S:List Nat)(H0 H:Hp)(ps:List (Nat×Cell)):Prop where
 keep:Kq S H0 H
 cells:∀p∈ps,get H p.1=p.2
 nd:ps.Pairwise (λp q=>p.1≠q.1)
 own:∀p∈ps,p.1∈S∨H0.length≤p.1
namespace Own
variable{S:List Nat}{H0 H H':Hp}{n n0 n1 n2 n3 n4 n5 n6:Nat}{c d c0 c1 c2 c3 c4 c5 c6:Cell}{ps qs:List (Nat×Cell)}
theorem nil:Own S H H []:=⟨Kq.refl,AY,.nil,AY⟩
theorem g0(h:Own S H0 H ((n,c)::ps)):get H n=c:=h.cells (n,c) (.head _)
theorem tl{p:Nat×Cell}(h:Own S H0 H (p::ps)):Own S H0 H ps:=⟨h.keep,λq m=>h.cells q (.tail _ m),(M6.mp h.nd).2,λq m=>h.own q (.tail _ m)⟩
theorem call(h:Own S H0 H ps)(k:Kq [] H H')(hc:∀p∈ps,p.2≠.gone):Own S H0 H' ps:=
 ⟨h.keep.trans0 k,λp m=>(k.same (dO (by rw[h.cells p m];exact hc p m)) t9).trans (h.cells p m),h.nd,h.own⟩
theorem new(h:Own S H0 H ps)(hc:∀p∈ps,p.2≠.gone){F:Nat→Hp→Prop}(f:∀n H',Own S H0 H' ((n,c)::ps)→F n H'):nw H c F:=by
 refine⟨f _ _ ⟨h.keep.trans0 Kq.app,?_,?_,?_⟩⟩
 ·intro p m
  rcases l5.mp m with rfl | m
  ·exact pd
  ·exact(gL (dO (by rw[h.cells p m];exact hc p m))).trans (h.cells p m)
 ·exact .cons (λp m e=>W7 _ (Nat.lt_of_lt_of_eq (dO (by rw[h.cells p m];exact hc p m)) e)) h.nd
 ·intro p m
  rcases l5.mp m with rfl | m
  ·exact Or.inr h.keep.len
  ·exact h.own p m
theorem wrt(h:Own S H0 H ps){as bs:List (Nat×Cell)}(e:ps=as++(n,c)::bs)(hc:c≠.gone){F:Hp→Prop}(f:∀H',Own S H0 H' (as++(n,d)::bs)→F H'):wr H n d F:=by
 subst e
 have hm:(n,c)∈as++(n,c)::bs:=s9 _ (.head _)
 have hn:get H n=c:=h.cells _ hm
 have hl:n<H.length:=dO (by rw[hn];exact hc)
 have hp:=U2.mp h.nd
 have hq:=M6.mp hp.2.1
 refine⟨f _ ⟨h.keep.putn (h.own (n,c) hm),?_,?_,?_⟩⟩
 ·intro p m
  rcases y6.mp m with m | m
  ·exact(N9 (hp.2.2 p m _ (.head _))).trans (h.cells p (E5 _ m))
  ·rcases l5.mp m with rfl | m
   ·exact dM hl
   ·exact(N9 (hq.1 p m).symm).trans (h.cells p (s9 _ (.tail _ m)))
 ·exact U2.mpr ⟨hp.1,.cons hq.1 hq.2,λp m q m'=>by
   rcases l5.mp m' with rfl | m'
   ·exact hp.2.2 p m (n,c) (.head _)
   ·exact hp.2.2 p m q (.tail _ m')⟩
 ·intro p m
  rcases y6.mp m with m | m
  ·exact h.own p (E5 _ m)
  ·rcases l5.mp m with rfl | m
   ·exact h.own (n,c) hm
   ·exact h.own p (s9 _ (.tail _ m))
theorem w0(h:Own S H0 H ((n,c)::ps))(hc:c≠.gone){F:Hp→Prop}(f:∀H',Own S H0 H' ((n,d)::ps)→F H'):wr H n d F:=h.wrt (as:=[]) rfl hc f
theorem w1(h:Own S H0 H ((n0,c0)::(n,c)::ps))(hc:c≠.gone){F:Hp→Prop}(f:∀H',Own S H0 H' ((n0,c0)::(n,d)::ps)→F H'):wr H n d F:=h.wrt (as:=[_]) rfl hc f
theorem w2(h:Own S H0 H ((n0,c0)::(n1,c1)::(n,c)::ps))(hc:c≠.gone){F:Hp→Prop}(f:∀H',Own S H0 H' ((n0,c0)::(n1,c1)::(n,d)::ps)→F H'):wr H n d F:=h.wrt (as:=[_,_]) rfl hc f
theorem w3(h:Own S H0 H ((n0,c0)::(n1,c1)::(n2,c2)::(n,c)::ps))(hc:c≠.gone){F:Hp→Prop}(f:∀H',Own S H0 H' ((n0,c0)::(n1,c1)::(n2,c2)::(n,d)::ps)→F H'):wr H n d F:=h.wrt (as:=[_,_,_]) rfl hc f
theorem v0(h:Own S H0 H ((n,c)::ps))(hc:ng c=true){F:Hp→Prop}(f:∀H',Own S H0 H' ((n,d)::ps)→F H'):wr H n d F:=h.w0 (qY hc) f
theorem v1(h:Own S H0 H ((n0,c0)::(n,c)::ps))(hc:ng c=true){F:Hp→Prop}(f:∀H',Own S H0 H' ((n0,c0)::(n,d)::ps)→F H'):wr H n d F:=h.w1 (qY hc) f
theorem v2(h:Own S H0 H ((n0,c0)::(n1,c1)::(n,c)::ps))(hc:ng c=true){F:Hp→Prop}(f:∀H',Own S H0 H' ((n0,c0)::(n1,c1)::(n,d)::ps)→F H'):wr H n d F:=h.w2 (qY hc) f
theorem v3(h:Own S H0 H ((n0,c0)::(n1,c1)::(n2,c2)::(n,c)::ps))(hc:ng c=true){F:Hp→Prop}(f:∀H',Own S H0 H' ((n0,c0)::(n1,c1)::(n2,c2)::(n,d)::ps)→F H'):wr H n d F:=h.w3 (qY hc) f
theorem g1(h:Own S H0 H ((n0,c0)::(n,c)::ps)):get H n=c:=h.tl.g0
theorem g2(h:Own S H0 H ((n0,c0)::(n1,c1)::(n,c)::ps)):get H n=c:=h.tl.tl.g0
theorem g3(h:Own S H0 H ((n0,c0)::(n1,c1)::(n2,c2)::(n,c)::ps)):get H n=c:=h.tl.tl.tl.g0
theorem g4(h:Own S H0 H ((n0,c0)::(n1,c1)::(n2,c2)::(n3,c3)::(n,c)::ps)):get H n=c:=h.tl.tl.tl.tl.g0
theorem ge0(h:Own [] H0 H ((n,c)::ps)):H0.length≤n:=(h.own (n,c) (.head _)).resolve_left t9
theorem ge1(h:Own [] H0 H ((n0,c0)::(n,c)::ps)):H0.length≤n:=h.tl.ge0
theorem ge2(h:Own [] H0 H ((n0,c0)::(n1,c1)::(n,c)::ps)):H0.length≤n:=h.tl.tl.ge0
theorem one(h:get H n=c):Own [n] H H [(n,c)]:=⟨Kq.refl,λp m=>by rw[i6.mp m];exact h,Cp,λp m=>by rw[i6.mp m];exact Or.inl (.head _)⟩
theorem ge{p:Nat×Cell}(h:Own S H0 H ps)(m:p∈ps)(hs:p.1∉S):H0.length≤p.1:=(h.own p m).elim (λq=>absurd q hs) id
theorem ne01(h:Own S H0 H ((n,c)::(n0,c0)::ps)):n≠n0:=(M6.mp h.nd).1 (n0,c0) (.head _)
theorem ne02(h:Own S H0 H ((n,c)::(n0,c0)::(n1,c1)::ps)):n≠n1:=(M6.mp h.nd).1 (n1,c1) (.tail _ (.head _))
theorem ge3(h:Own [n] H0 H ((n0,c0)::(n1,c1)::(n,c)::ps)):H0.length≤n0∧H0.length≤n1:=
 ⟨h.ge (p:=(n0,c0)) (.head _) (λq=>h.ne02 (i6.mp q)),h.ge (p:=(n1,c1)) (.tail _ (.head _)) (λq=>h.tl.ne01 (i6.mp q))⟩
noncomputable def live(ps:List (Nat×Cell)):Bool:=match ps with
 |[]=>true
 |p::r=>match p.2 with
  |.gone=>false
  |_=>live r
theorem of_live(h:live ps=true):∀p∈ps,p.2≠.gone:=by
 induction ps with
 |nil=>exact AY
 |cons q r ih=>
  intro p m
  unfold live at h
  rcases l5.mp m with rfl | m
  ·intro e;rw[e] at h;cases h
  ·refine ih ?_ p m
   revert h
   cases q.2<;>intro h<;>first | exact h | cases h
end Own
section
variable{H:Hp}{n m:Nat}
theorem jr{fs:List (Nat×AV)}(h:get H n = .dict fs):n<H.length:=dO (by rw[h];exact dN)
theorem mP{fs:List AV}(h:get H n = .list fs):n<H.length:=dO (by rw[h];exact lN)
end
structure Has(d:List Int)(a:Int)(l:List Int):Prop where
 e:∃A B:List Int,d=A++(l++B)∧a=(A.length:Int)
namespace Has
variable{d l m:List Int}{a x:Int}
theorem nn(h:Has d a l):0≤a:=by
 refine eX22 h.e λA B zq1 zq2=>?_;subst zq1;subst zq2
 exact g8 _
theorem le(h:Has d a l):a+l.length≤d.length:=by
 refine eX22 h.e λA B zq3 zq4=>?_;subst zq3;subst zq4
 rw[d6,d6];lia -abstractProof
theorem left(h:Has d a (l++m)):Has d a l:=by
 refine eX22 h.e λA B zq5 zq6=>?_;subst zq5;subst zq6
 exact⟨A,m++B,by rw[t6],rfl⟩
theorem right(h:Has d a (l++m)):Has d (a+l.length) m:=by
 refine eX22 h.e λA B zq7 zq8=>?_;subst zq7;subst zq8
 exact⟨A++l,B,by rw[t6,t6],by rw[d6];rfl⟩
theorem tail(h:Has d a (x::l)):Has d (a+1) l:=right (l:=[x]) h
theorem at'(h:Has d a (x::l)):d.getD a.toNat 0=x:=by
 refine eX22 h.e λA B zq9 zq10=>?_;subst zq9;subst zq10
 rw[t7,t5,U4 (d8 _),Nat.sub_self];rfl
theorem cut(h:Has d a l):Mine.cut d a (a+l.length)=l:=by
 refine eX22 h.e λA B zq11 zq12=>?_;subst zq11;subst zq12
 unfold Mine.cut
 rw[t7,show ((A.length:Int)+l.length-A.length).toNat=l.length by exact Ip,bZ,List.take_left]
theorem cut'{b:Int}(h:Has d a l)(e:b=a+l.length):Mine.cut d a b=l:=e▸h.cut
theorem self:Has l 0 l:=⟨[],[],(y7 l).symm,rfl⟩
end Has
theorem mJ{n:Nat}(h:Nat.ble n 1000=true):n<K8:=by rw[B4];have:=F3 h;lia -abstractProof
theorem uZ{n:Nat}(h:Nat.ble n 1000=true):n≤K8:=A9 (mJ h)
noncomputable def B7(l:List Int):Prop:=∀x∈l,0≤x∧x<256
theorem B7.app{l m:List Int}(a:B7 l)(b:B7 m):B7 (l++m):=λx h=>(y6.mp h).elim (a x) (b x)
theorem B7.cons{x:Int}{l:List Int}(h:0≤x∧x<256)(b:B7 l):B7 (x::l):=λy q=>(l5.mp q).elim (λe=>e▸h) (b y)
theorem B7.nil:B7 []:=λ_ h=>nomatch h
noncomputable def le(n:Int):Nat→List Int
 |0=>[]
 |k+1=>n%256::le (n/256) k
theorem D0{n:Int}{k:Nat}:(le n k).length=k:=by
 induction k generalizing n with
 |zero=>rfl
 |succ k ih=>exact congrArg (· + 1) (ih (n:=n/256))
theorem eG{k:Nat}:∀{n:Int},B7 (le n k):=by
 induction k with
 |zero=>exact B7.nil
 |succ k ih=>exact B7.cons ⟨j5 _ (by decide),j7 _ (by decide)⟩ ih
theorem qg{j k:Nat}:∀{n:Int},le n (j+k)=le n j++le (n/256^j) k:=by
 induction j with
 |zero=>intro n;rw[J0,Int.pow_zero,dS];rfl
 |succ j ih=>
  intro n
  rw[Nat.succ_add]
  show n%256::le (n/256) (j+k)=n%256::(le (n/256) j++_)
  rw[ih,K0 (by decide),bC,B3 (256^j)]
theorem mR{j:Nat}:∀{n:Int},le (n%256^j) j=le n j:=by
 induction j with
 |zero=>intro n;rfl
 |succ j ih=>
  intro n
  show _::le _ j=_::le _ j
  have e1:n%256^(j+1)%256=n%256:=Int.emod_emod_of_dvd n (bC ..▸Int.dvd_mul_left ..)
  have e2:n%256^(j+1)/256=(n/256)%256^j:=by
   rw[bC,B3,Int.emod_def,Int.emod_def,K0 (by decide:(0:Int)≤256),R5]
   exact Int.sub_mul_ediv_left _ _ (by decide)
  rw[e1,e2,ih]
end Mine
namespace Mine
theorem ph{xs:List Nat}{ihb:Loc→Hp→KN→Prop}{N:KN}{l:List Int}{ρ:Loc}{H:Hp}(Inv:List Int→Loc→Hp→Prop)(i:Inv l ρ H)(e:∀ρ H,Inv [] ρ H→N ρ H)
  (s:∀a r ρ H (M:KN),Inv (a::r) ρ H→(∀ρ' H',Inv r ρ' H'→M ρ' H')→pH xs (.int a) ρ λρ=>ihb ρ H M):ar xs none ihb N (l.map .int) ρ H:=by
 induction l generalizing ρ H with
 |nil=>exact e _ _ i
 |cons a r ih=>exact s a r ρ H _ i (λρ' H' q=>ih q)
theorem dw{xs:List Nat}{ihb:Loc→Hp→KN→Prop}{N:KN}{l:List AV}{ρ:Loc}{H:Hp}(Inv:List AV→Loc→Hp→Prop)(i:Inv l ρ H)(e:∀ρ H,Inv [] ρ H→N ρ H)
  (s:∀a r ρ H (M:KN),Inv (a::r) ρ H→(∀ρ' H',Inv r ρ' H'→M ρ' H')→pH xs a ρ λρ=>ihb ρ H M):ar xs none ihb N l ρ H:=by
 induction l generalizing ρ H with
 |nil=>exact e _ _ i
 |cons a r ih=>exact s a r ρ H _ i (λρ' H' q=>ih q)
theorem wb{ihc ihe:Loc→Hp→KE→Prop}{ρ:Loc}{x:Nat}{K:KE}{l acc:List AV}{H:Hp}(Inv:List AV→List AV→Hp→Prop)(i:Inv l acc H)(e:∀acc H,Inv [] acc H→K (.fl acc) H)
  (s:∀v r acc H (M:List AV→Hp→Prop),Inv (v::r) acc H→(∀acc' H',Inv r acc' H'→M acc' H')→Y5 ρ x v λρ'=>ihc ρ' H λb H=>Z3 b λt=>br t (ihe ρ' H λw H=>nP (acc.length<K8) (M (acc++[w]) H)) (M acc H)):iN ihc ihe ρ x K l acc H:=by
 induction l generalizing acc H with
 |nil=>exact e _ _ i
 |cons v r ih=>exact s v r acc H (λacc' H'=>iN ihc ihe ρ x K r acc' H') i (λacc' H' q=>ih q)
theorem jZ{l:List Int}{n:Nat}(h:n<l.length):(l.map AV.int).getD n .U = .int (l.getD n 0):=by
 rw[t5,t5,List.getElem?_map,J1 h];rfl
theorem lW{ihc ihe:Loc→Hp→KE→Prop}{ρ:Loc}{x:Nat}{K:KE}{H:Hp}{n:Nat}(f:Nat→AV)(hn:n≤1000)(s:∀(i:Nat) (acc:List AV) (M:List AV→Hp→Prop),i<n→acc.length<K8→M (acc++[f i]) H→Y5 ρ x (.int i) (yx ihc ihe acc M H)):
  ∀{j i:Nat} {acc:List AV},i+j=n→acc.length=i→K (.fl (acc++(eO i j).map f)) H→iN ihc ihe ρ x K (I4 j i 1) acc H
 |0,_,_,_,_,k=>by rw[List.range'_zero,List.map_nil,y7] at k;exact k
 |j+1,i,acc,e,la,k=>s i acc _ (by exact i8 (J7 (b6 (d8 _) (x9 _ _))) (j6 e)) (by rw[B4];exact g9 (b6 (j6 la) (b6 (u3 _ _) (b6 (j6 e) hn))) (by decide)) (lW f hn s (i:=i+1) (j:=j) (acc:=acc++[f i]) (by lia -abstractProof) (by rw[d6,la];rfl) (by rw[t6];exact k))
theorem oq{α:Type}{f:Nat→α}{n:Nat}:(eO 0 n).map f=(O3 n).map f:=by rw[List.range_eq_range']
theorem kA{ihc ihe:Loc→Hp→KE→Prop}{ρ:Loc}{x:Nat}{K:KE}{H:Hp}{n:Nat}(f:Nat→AV)(hn:n≤1000)(k:K (.fl ((O3 n).map f)) H)(s:∀(i:Nat) (acc:List AV) (M:List AV→Hp→Prop),i<n→acc.length<K8→M (acc++[f i]) H→Y5 ρ x (.int i) (yx ihc ihe acc M H)):iN ihc ihe ρ x K (I4 n 0 1) [] H:=
 lW f hn s (j:=n) (i:=0) (acc:=[]) (J0 n) rfl (by rw[oq];exact k)
noncomputable def body(t:T):T:=match t with
 |.for_ _ _ b=>b
 |.forR _ _ b=>b
 |_=>.bad
noncomputable def nth(t:T)(n:Nat):T:=match t with
 |.cons h t=>(match n with
  |0=>h
  |n+1=>nth t n)
 |_=>.bad
noncomputable def S2(t:T)(n:Nat):T:=match n with
 |0=>t
 |n+1=>(match t with
  |.cons _ r=>S2 r n
  |_=>.nil)
theorem A5{I:Itf}{p q:T}{ρ:Loc}{H:Hp}{N:KN}{R:KE}{Y:XS}(h:wpS I p ρ H (λρ H=>wpS I q ρ H N R Y) R Y):wpS I (.cons p q) ρ H N R Y:=h
noncomputable def ny(g:Int→Bool):Nat→Int→List Int
 |0,_=>[]
 |j+1,i=>bif g i then i::ny g j (i+1) else ny g j (i+1)
theorem yi{g:Int→Bool}{p:Int}{j:Nat}:∀{i:Int},p∈ny g j i↔(i≤p∧p<i+j)∧g p=true:=by
 induction j with
 |zero=>intro i;exact⟨λh=>absurd h t9,λh=>absurd h.1 (by lia -abstractProof)⟩
 |succ j ih=>
  intro i
  have e:p∈ny g (j+1) i↔(p=i∧g i=true)∨p∈ny g j (i+1):=by
   show p∈(bif g i then i::ny g j (i+1) else ny g j (i+1))↔_
   cases h:g i
   ·exact⟨.inr,λz=>z.elim (λz=>absurd z.2 e9) id⟩
   ·rw[cond_true,l5];exact or_congr ⟨λz=>⟨z,rfl⟩,λz=>z.1⟩ Iff.rfl
  rw[e,ih]
  constructor
  ·rintro (⟨rfl,h⟩ | ⟨a,b⟩)
   ·exact⟨by lia -abstractProof,h⟩
   ·exact⟨by lia -abstractProof,b⟩
  ·rintro⟨a,b⟩
   by_cases z:p=i
   ·exact .inl ⟨z,z▸b⟩
   ·exact .inr ⟨by lia -abstractProof,b⟩
theorem wc{ihc ihe:Loc→Hp→KE→Prop}{ρ:Loc}{x:Nat}{K:KE}{H:Hp}(g:Int→Bool)(s:∀(i:Int) (acc:List AV) (M:List AV→Hp→Prop),0≤i∧i<1000→acc.length<K8→(g i=true→M (acc++[.int i]) H)→(g i=false→M acc H)→Y5 ρ x (.int i) (yx ihc ihe acc M H)){j:Nat}:
  ∀{i:Int} {acc:List AV},0≤i→i+j≤1000→acc.length+j≤1000→K (.fl (acc++(ny g j i).map .int)) H→iN ihc ihe ρ x K (I4 j i 1) acc H:=by
 induction j with
 |zero=>intro i acc _ _ _ k;rw[show (ny g 0 i).map AV.int=[] from rfl,y7] at k;exact k
 |succ j ih=>
  intro i acc i0 i1 hl k
  refine s i acc _ (by lia -abstractProof) (by rw[B4];exact g9 (b6 (u3 _ _) hl) (by decide)) (λe=>ih (by exact e6 i0 (E6 (by decide))) (by lia -abstractProof) (by rw[d6];show acc.length+1+j≤_;lia -abstractProof) ?_) (λe=>ih (by exact e6 i0 (E6 (by decide))) (by lia -abstractProof) (by lia -abstractProof) ?_)
  ·rw[show ny g (j+1) i=i::ny g j (i+1) from by show (bif g i then _ else _)=_;rw[e];rfl,F5] at k
   rw[t6];exact k
  ·rw[show ny g (j+1) i=ny g j (i+1) from by show (bif g i then _ else _)=_;rw[e];rfl] at k
   exact k
theorem Kq.own{H H0:Hp}{n:Nat}{H':Hp}(k0:Kq [] H0 H)(hn:H0.length≤n)(k:Kq [n] H H'):Kq [] H0 H':=k0.trans k λx q=>.inr (by rw[i6.mp q];exact hn)
theorem Z5{l:List AV}{p:AV→Prop}{y:Int}{n:Nat}(hl:l.length=n)(hn:0<(n:Int))(h:∀x∈l,p x):p (l.getD (y%n).toNat .U):=by
 have a:=j5 y (Q5 hn)
 have b:(y%n).toNat<l.length:=by rw[hl];exact(E9 a).mpr (j7 _ hn)
 rw[t5,J1 b]
 exact h _ (dz b)
theorem Y2{p:AV→Prop}{a:AV}{l:List AV}(h:p a)(k:∀x∈l,p x):∀x∈a::l,p x:=λx m=>(l5.mp m).elim (λe=>e▸h) (k x)
end Mine
namespace Mine
local macro_rules | `(tactic| walk_at "b")=>`(tactic| first | assumption | with_reducible exact rfl | ((with_reducible first | apply La | apply GU | apply KZ);exact rfl))
local macro_rules | `(tactic| walk_at "f")=>`(tactic| first | with_reducible assumption | decide | ((first | apply r6.mpr | apply G0.mpr);with_reducible assumption) | lia -abstractProof)
local macro_rules | `(tactic| walk_at "t")=>`(tactic| first | with_reducible assumption | decide | ((first | apply r6.mp | apply G0.mp);with_reducible assumption) | lia -abstractProof)
local macro_rules | `(tactic| walk_at "g")=>`(tactic| first | assumption | (apply Own.g0;assumption) | (apply Own.g1;assumption) | (apply Own.g2;assumption) | (apply Own.g3;assumption) | (apply Own.g4;assumption))
local macro_rules | `(tactic| walk_at "s")=>`(tactic| first | with_reducible assumption | decide | with_reducible exact Eq.refl _ | ((with_reducible first | apply mK | apply iD | apply mJ | apply uZ);exact rfl) | ((with_reducible first | apply eC | apply iq);walk_at "s") | (with_reducible first | apply xG | apply mD | apply bp) | (apply xB;walk_at "g";exact rfl) | (apply qX;walk_at "g";exact rfl) | lia -abstractProof | (constructor<;>lia -abstractProof))
local macro_rules | `(tactic| walk_at "w")=>`(tactic| first | (apply Own.new;assumption;exact Own.of_live rfl;intro _ _ _) | ((first | (apply Own.v0;assumption) | (apply Own.v1;assumption) | (apply Own.v2;assumption) | (apply Own.v3;assumption));exact rfl;intro _ _))
local macro_rules | `(tactic| walk_at "1")=>`(tactic| first
 |(apply nP.mk;walk_at "s") | (apply O0;with_reducible exact rfl) | (apply I9;with_reducible exact rfl) | (apply C6;walk_at "f") | (apply dQ;walk_at "t") | (apply I9;walk_at "b") | (apply O0;walk_at "b") | (apply Hh;with_reducible exact rfl)
 |((first | apply rdD.mk | apply rdLB.b | apply rdL.mk | apply rdB.mk);walk_at "g") | (apply rdLB.l;walk_at "g") | walk_at "w" | (apply And.intro;walk_at "g"))
local macro_rules | `(tactic| walk_at "m")=>`(tactic| repeat walk_at "1")
local macro_rules | `(tactic| walk_at "n")=>`(tactic| repeat (first | walk_at "1" | refine λ(_:within _ _)=>?_))
section
variable{r:Nat}{H:Hp}{K:KE}{X:XE}
noncomputable def M9(n:Int):List Int:=if n<128 then [n] else [n%128+128,n/128]
theorem cC{n:Int}(h:n<128):M9 n=[n]:=if_pos h
theorem jc{n:Int}(h:¬n<128):M9 n=[n%128+128,n/128]:=if_neg h
theorem jw{n:Int}(h0:0≤n)(h:n<16384):B7 (M9 n):=by
 by_cases q:n<128
 ·rw[cC q];exact B7.cons (⟨h0,(e8 (i5 q) (by decide))⟩) B7.nil
 ·rw[jc q];exact B7.cons (⟨(e6 (by decide) (j4 (j5 _ (by decide)) (g6 _))),(e8 (j4 (i5 (j7 _ (by decide))) (g6 _)) (by decide))⟩) (B7.cons (⟨(e6 (by decide) (v8 (by decide) (r6.mp q))),(e8 (v8 (by decide) (i5 h)) (by decide))⟩) B7.nil)
theorem eH{n:Int}(h0:0≤n):P5 n 127=n%128:=gI 127 7 (by decide) h0
theorem gJ{n:Int}(h0:0≤n):P5 n 255=n%256:=gI 255 8 (by decide) h0
theorem bx{n:Int}(h0:0≤n):P5 n 4294967295=n%4294967296:=gI 4294967295 32 (by decide) h0
theorem mL{x y:Int}{k:Nat}(hx:0≤x)(h:x<2^k)(hy:0≤y):iU x (y*2^k)=x+y*2^k:=by
 refine eX11 (A1 hx) λa zq1=>?_;subst zq1
 refine eX11 (A1 hy) λb zq2=>?_;subst zq2
 have h':a<2^k:=by
  have:((a:Nat):Int)<((2^k:Nat):Int):=by rw[K4];exact h
  exact j1.mp this
 have e:(b:Int)*2^k=((b*2^k:Nat):Int):=by rw[Int.natCast_mul,K4];rfl
 rw[e]
 unfold iU
 rw[t7,t7,←K5]
 congr 1
 have:=Nat.two_pow_add_eq_or_of_lt h' b
 rw[Nat.or_comm,Nat.mul_comm,L3];exact this.symm
theorem yl{n:Int}(h0:0≤n):iU (P5 n 127) 128=n%128+128:=by
 rw[eH h0]
 exact mL (k:=7) (y:=1) (j5 _ (by decide)) (e8 (i5 (j7 _ (by decide))) (by decide)) (by decide)
theorem c0{n most:Int}(h0:128≤n)(h1:n<16384)(hm:n≤most)(k:∀H',Kq [] H H'→K (.bytes (M9 n)) H'):c (r+1) 0 [.int n,.int most] H K X:=by
 refine L.call rfl ?_
 have e:=yl (n:=n) (e6 (by decide) h0)
 have w:within (iU (P5 n 127) 128) 256:=by rw[e];exact⟨C4 (j5 _ (by decide)) (by decide),Int.add_lt_add_right (j7 _ (by decide)) 128⟩
 have w':within (cH n (7:Int).toNat) 256:=by show within (n/128) 256;exact⟨r8 (e6 (by decide) h0) (by decide),v7 (by decide) (e7 h1 (by decide))⟩
 have e':cH n (7:Int).toNat=n/128:=rfl
 have h:=Own.nil (S:=[]) (H:=H)
 walk_at "m"
 intro P hP
 refine hP _ _ ?_
 walk_at "m"
 refine hP _ _ ?_
 rename_i h'
 rw[e,e'] at *
 walk_at "m"
 rename_i H3 h3
 have:=k _ h3.keep
 rw[jc (r6.mpr h0)] at this
 exact this
theorem c2{n:Int}(h0:0≤n)(h1:n<16384)(k:∀H',Kq [] H H'→K (.bytes (M9 n)) H'):c (r+2) 2 [.int n] H K X:=by
 refine L.call rfl ?_
 by_cases q:n<128
 ·rw[cC q] at k
  walk_at "m"
  refine nP.mk (λk hk=>by rw[i6.mp hk];exact⟨h0,bD q (by decide)⟩) ?_
  walk_at "m"
  exact k _ Kq.refl
 ·walk_at "m"
  exact c0 (r6.mp q) h1 (A3 (e7 h1 (by decide))) k
theorem c4{n:Int}(h0:0≤n)(h1:n<128)(k:K (.bytes [n]) H):c (r+1) 4 [.int n] H K X:=by
 refine L.call rfl ?_
 walk_at "m"
 refine nP.mk (λk hk=>by rw[i6.mp hk];exact⟨h0,bD h1 (by decide)⟩) ?_
 walk_at "m"
 exact k
theorem c6{n:Int}(h0:0≤n)(h1:n<4294967296)(k:K (.bytes (le n 4)) H):c (r+1) 6 [.int n] H K X:=by
 refine L.call rfl ?_
 walk_at "m"
 have e3:cH n 16/1=n/256/256:=by rw[dS,K0 (by decide)];rfl
 have e4:cH n 24=n/256/256/256:=by rw[K0 (by decide),K0 (by decide)];rfl
 rw[dS] at e3
 have e:[P5 n 255,P5 (cH n 8) 255,P5 (cH n 16) 255,cH n 24]=le n 4:=by
  rw[gJ h0,gJ (eC h0),gJ (eC h0),e3,e4]
  show [_,_,_,n/256/256/256]=[_,_,_,n/256/256/256%256]
  rw[J9 (a:=n/256/256/256)]<;>first | rfl | exact v7 (by decide) (v7 (by decide) (v7 (by decide) h1)) | exact r8 (r8 (r8 h0 (by decide)) (by decide)) (by decide)
 refine nP.mk ?_ (nP.mk ?_ ?_)
 ·show ∀k∈[P5 n 255,P5 (cH n 8) 255,P5 (cH n 16) 255,cH n 24],within k 256
  rw[e];exact eG
 ·exact uZ rfl
 ·show K (.bytes [P5 n 255,P5 (cH n 8) 255,P5 (cH n 16) 255,cH n 24]) H
  rw[e];exact k
theorem c7{n:Int}(h0:0≤n)(h1:n<18446744073709551616)(k:K (.bytes (le n 8)) H):c (r+2) 7 [.int n] H K X:=by
 refine L.call rfl ?_
 walk_at "m"
 have e:P5 n 4294967295=n%4294967296:=bx h0
 have e':cH n 32=n/4294967296:=rfl
 refine c6 (by rw[e];exact j5 _ (by decide)) (by rw[e];exact e8 (e6 (l7 e.symm) (e6 (l7 e) (i5 (j7 _ (by decide))))) (by decide)) ?_
 walk_at "m"
 refine c6 (eC h0) (by show cH n 32<_;rw[e'];exact e8 (e6 (l7 e'.symm) (e6 (l7 e') (v8 (by decide) (i5 h1)))) (by decide)) ?_
 refine nP.mk (by rw[D0,D0,B4];decide) ?_
 rw[e]
 have:le n 8=le n 4++le (cH n 32) 4:=qg (j:=4) (k:=4)
 have e2:le (n%4294967296) 4=le n 4:=mR (j:=4)
 rw[e2]
 rw[this] at k
 exact k
theorem dJ{x y:Int}{k:Nat}(hx:0≤x)(h:x<2^k)(hy:0≤y):iU x (hF y k)=x+y*2^k:=mL hx h hy
theorem FC{x y z w:Int}(hx:0≤x∧x<256)(hy:0≤y∧y<256)(hz:0≤z∧z<256)(hw:0≤w):iU (iU (iU x (hF y 8)) (hF z 16)) (hF w 24)=x+y*2^8+z*2^16+w*2^24:=by
 have p:0≤x+y*2^8∧x+y*2^8<2^16:=by exact⟨(j4 hx.1 (t8 (e6 (by decide) hy.1) (e6 (by decide) (g6 _)))),(e8 (j4 (i5 hx.2) (A7 (i5 hy.2) (g6 _) (e6 (by decide) (g6 _)) (by decide))) (by decide))⟩
 have q:0≤x+y*2^8+z*2^16∧x+y*2^8+z*2^16<2^24:=by exact⟨(j4 p.1 (t8 (e6 (by decide) hz.1) (e6 (by decide) (g6 _)))),(e8 (j4 (i5 p.2) (A7 (i5 hz.2) (g6 _) (e6 (by decide) (g6 _)) (by decide))) (by decide))⟩
 rw[dJ hx.1 hx.2 hy.1,dJ p.1 p.2 hz.1,dJ q.1 q.2 hw]
theorem zh{n:Int}:0≤n%256∧n%256<256:=⟨j5 _ (by decide),j7 _ (by decide)⟩
theorem S8{x y z w:Int}:x+y*2^8+z*2^16+w*2^24=x+(y+(z+w*256)*256)*256:=by rw[cO y,cO z,cO (z*256),R5 z,R5 w,R5 w,←B6,←B6];rfl
theorem FH{n:Int}(h0:0≤n)(h1:n<4294967296):n%256+n/256%256*2^8+n/256/256%256*2^16+n/256/256/256%256*2^24=n:=by
 rw[S8,J9 (a:=n/256/256/256) (r8 (r8 (r8 h0 (by decide)) (by decide)) (by decide)) (v7 (by decide) (v7 (by decide) (v7 (by decide) h1))),M8,M8,M8]
theorem Lb{n:Int}(h0:0≤n)(h1:n<16384):n%128+n/128%128*2^7=n:=by
 rw[J9 (a:=n/128) (r8 h0 (by decide)) (v7 (by decide) h1)];exact M8 n _
theorem JQ{d:List Int}{a n:Int}(h:Has d a (le n 4))(h0:0≤n)(h1:n<4294967296):iU (iU (iU (d.getD a.toNat 0) (hF (d.getD (a+1).toNat 0) 8)) (hF (d.getD (a+2).toNat 0) 16)) (hF (d.getD (a+3).toNat 0) 24)=n:=by
 have e3:=h.tail.tail.tail.at'
 have e2:=h.tail.tail.at'
 rw[show a+1+1+1=a+3 from ((B6 (a+1) 1 1).trans (B6 a 1 2))] at e3
 rw[show a+1+1=a+2 from B6 a 1 1] at e2
 rw[h.at',h.tail.at',e2,e3,FC zh zh zh (zh (n:=n/256/256/256)).1]
 exact FH h0 h1
theorem c8{d:List Int}{a n:Int}(h:Has d a (le n 4))(h0:0≤n)(h1:n<4294967296)(k:K (.int n) H):c (r+1) 8 [.bytes d,.int a] H K X:=by
 rw[←JQ h h0 h1] at k
 have i0:=h.nn
 have il:=h.le
 rw[D0] at il
 clear h h0 h1
 refine L.call rfl ?_
 walk_at "n"
 exact k
theorem c9{d:List Int}{a n:Int}(h:Has d a (le n 8))(h0:0≤n)(h1:n<18446744073709551616)(k:K (.int n) H):c (r+2) 9 [.bytes d,.int a] H K X:=by
 refine L.call rfl ?_
 have i0:=h.nn
 have il:=h.le
 rw[D0] at il
 have e:le n 8=le (n%4294967296) 4++le (n/4294967296) 4:=(qg (j:=4) (k:=4)).trans (congrArg (· ++ _) (mR (j:=4)).symm)
 rw[e] at h
 have h2:=h.right
 rw[D0] at h2
 walk_at "m"
 refine c8 h.left (j5 _ (by decide)) (e8 (i5 (j7 _ (by decide))) (by decide)) ?_
 refine c8 h2 (r8 h0 (by decide)) (e8 (v8 (by decide) (i5 h1)) (by decide)) ?_
 walk_at "m"
 have f:iU (n%4294967296) (hF (n/4294967296) 32)=n:=by
  rw[dJ (j5 _ (by decide)) (e8 (i5 (j7 _ (by decide))) (by decide)) (r8 h0 (by decide))];exact M8 n _
 rw[show Int.toNat 32=32 from rfl,f]
 exact k
theorem c3{d:List Int}{a n:Int}(h:Has d a (M9 n))(h0:0≤n)(h1:n<16384)(k:K (.tup [.int n,.int (a+(M9 n).length)]) H):c (r+2) 3 [.bytes d,.int a] H K X:=by
 refine L.call rfl ?_
 have i0:=h.nn
 have il:=h.le
 by_cases q:n<128
 ·rw[cC q] at h k il
  have e0:d.getD a.toNat 0=n:=h.at'
  have il:a+1≤d.length:=il
  walk_at "m"
  rw[e0]
  intro w
  walk_at "m"
  rw[e0]
  intro w
  exact k
 ·rw[jc q] at h k il
  have e0:d.getD a.toNat 0=n%128+128:=h.at'
  have e1:d.getD (a+1).toNat 0=n/128:=h.tail.at'
  have il:a+2≤d.length:=il
  walk_at "m"
  rw[e0]
  intro w
  walk_at "m"
  refine L.call rfl ?_
  walk_at "m"
  have s1:small (P5 (n%128+128) 127):=by rw[eH (w.1)];exact⟨(e7 (by decide) (j5 _ (by decide))),(e8 (i5 (j7 _ (by decide))) (by decide))⟩
  have s2:small (P5 (n/128) 127):=by rw[eH (e6 (by decide) (e6 (e6 (v8 (by decide) (r6.mp q)) (l7 e1.symm)) (l7 e1)))];exact⟨(e7 (by decide) (j5 _ (by decide))),(e8 (i5 (j7 _ (by decide))) (by decide))⟩
  rw[e0]
  intro w
  walk_at "m"
  have g1:iU 0 (hF (P5 (n%128+128) 127) 0)=n%128:=by
   rw[eH (w.1),dJ (by decide) (by decide) (j5 _ (by decide))];rw[Int.add_emod_right,Int.emod_emod,N7];exact aL _
  have g2:iU (n%128) (hF (P5 (n/128) 127) 7)=n:=by
   rw[eH (e6 (by decide) (e6 (e6 (v8 (by decide) (r6.mp q)) (l7 e1.symm)) (l7 e1))),dJ (j5 _ (by decide)) (e8 (e6 (l7 g1.symm) (e6 (l7 g1) (i5 (j7 _ (by decide))))) (by decide)) (j5 _ (by decide))];exact Lb h0 h1
  rw[show Int.toNat 0=0 from rfl,g1,e1]
  intro w
  walk_at "m"
  rw[show (0+7:Int).toNat=7 from rfl,g2]
  walk_at "m"
  have:a+1+1=a+(([n%128+128,n/128]:List Int).length:Int):=by exact B6 a 1 1
  rw[this]
  exact k
theorem c5{d:List Int}{a n:Int}(h:Has d a [n])(h0:0≤n)(h1:n<128)(k:K (.tup [.int n,.int (a+1)]) H):c (r+1) 5 [.bytes d,.int a] H K X:=by
 refine L.call rfl ?_
 have i0:=h.nn
 have il:a+1≤d.length:=h.le
 have e0:d.getD a.toNat 0=n:=h.at'
 walk_at "m"
 rw[e0]
 intro w
 walk_at "m"
 rw[e0]
 intro w
 exact k
noncomputable def kx:List Int:=[0,274646895,549293790,820201905,1098587580,1361435347,1640403810,1905808397,2197175160,2460548119,2722870694,2987750089,3280807620,3553878443,3811616794,4084100981]
theorem c10(k:∀n H',Kq [] H H'→get H' n = .list (kx.map .int)→K (.ref n) H'):c (r+1) 10 [] H K X:=by
 refine L.call rfl ?_
 have h:=Own.nil (S:=[]) (H:=H)
 walk_at "m"
 intro P hP
 iterate 5
  refine hP _ _ ?_
  walk_at "m"
 rename_i h
 exact k _ _ h.keep h.g0
noncomputable def sR(x:Nat):Nat:=(x/2)^^^(x%2*2197175160)
noncomputable def gR(x:Nat):Nat:=sR (sR (sR (sR x)))
theorem jt(x y:Nat):sR (x^^^y)=sR x^^^sR y:=by
 have e:(x^^^y)/2=x/2^^^y/2:=Nat.xor_div_two
 have f:(x^^^y)%2*2197175160=(x%2*2197175160)^^^(y%2*2197175160):=by
  rw[show (x^^^y)%2=x%2^^^y%2 from aZ (n:=1)]
  rcases bW x with hx | hx<;>rcases bW y with hy | hy<;>rw[hx,hy]<;>rfl
 unfold sR
 rw[e,f,cU,cU]
 congr 1
 rw[←cU,←cU,Nat.xor_comm (y/2)]
theorem gV(x:Nat):sR (2*x)=x:=by
 unfold sR
 rw[Nat.mul_mod_right,Nat.zero_mul,Nat.xor_zero,Nat.mul_div_cancel_left _ (by decide)]
theorem qo(x:Nat):gR x=(x/16)^^^gR (x%16):=by
 have e:x=(2*(2*(2*(2*(x/16)))))^^^(x%16):=by
  have g2:2*(2*(2*(2*(x/16))))=2^4*(x/16):=by rw[←Nat.mul_assoc,←Nat.mul_assoc,←Nat.mul_assoc]
  rw[g2]
  have h1:((2^4*(x/16))^^^(x%16))/2^4=x/16:=by
   rw[Nat.xor_div_two_pow,Nat.mul_div_cancel_left _ (by decide),Nat.div_eq_of_lt (bX x (by decide)),Nat.xor_zero]
  have h2:((2^4*(x/16))^^^(x%16))%2^4=x%16:=by
   rw[aZ,Nat.mul_mod_right,Nat.mod_mod,Nat.zero_xor]
  have h3:=R3 ((2^4*(x/16))^^^(x%16)) (2^4)
  rw[h1,h2] at h3
  rw[←h3];exact(R3 x 16).symm
 have:gR x=gR ((2*(2*(2*(2*(x/16)))))^^^(x%16)):=congrArg gR e
 rw[this]
 unfold gR
 rw[jt,jt,jt,jt,gV,gV,gV,gV]
theorem sG:∀x<16,kx.getD x 0=(gR x:Int):=by decide
theorem kC{x:Nat}(h:x<2^32):sR x<2^32:=
 Y3 (g9 (Nat.div_le_self x 2) h) (by have:=bX x (by decide:2>0);have:x%2*2197175160≤1*2197175160:=Nat.mul_le_mul_right _ (A0 this);exact g9 this (by decide))
theorem rx{x:Nat}(h:x<2^32):gR x<2^32:=kC (kC (kC (kC h)))
noncomputable def ky:Nat→List Int→Nat
 |x,[]=>x
 |x,o::l=>ky (gR (gR (x^^^o.toNat))) l
theorem zB{x:Nat}{o:Int}(h:x<2^32)(h0:0≤o∧o<256):x^^^o.toNat<2^32:=Y3 h ((E9 h0.1).mpr (e7 h0.2 (by decide)))
theorem yP{l:List Int}:∀{x:Nat},x<2^32→B7 l→ky x l<2^32:=by
 induction l with
 |nil=>intro x h _;exact h
 |cons o l ih=>intro x h ho;exact ih (rx (rx (zB h (ho _ (E4 ..))))) (λy hy=>ho y (C3 _ hy))
theorem lG{x:Nat}{y:Int}:gA x y=((x^^^y.toNat:Nat):Int):=rfl
theorem mo{x k:Nat}:cH x k=((x/2^k:Nat):Int):=by unfold cH;rw[Int.natCast_ediv,K4];rfl
theorem rk{x:Nat}:P5 x 15=((x%16:Nat):Int):=(gI 15 4 (by decide) (g8 x)).trans (by rw[dB];rfl)
theorem vX(x:Nat):(kx.map AV.int).getD (P5 x 15).toNat .U = .int (gR (x%16)):=by
 have h:x%16<16:=bX _ (by decide)
 rw[rk,t7,jZ h,sG _ h]
noncomputable def yQ(l:List Int):Nat:=ky 4294967295 l^^^4294967295
theorem vY(x:Nat):gA (cH x 4) (gR (x%16))=(gR x:Int):=by rw[qo x,mo];rfl
theorem lq{x n:Nat}(h:n=16):within (P5 x 15) n:=by rw[rk,h];have:=bX x (by decide:16>0);exact⟨g8 _,by exact j1.mpr this⟩
theorem c11{d:List Int}(k:∀H',Kq [] H H'→K (.int (yQ d)) H'):c (r+2) 11 [.bytes d] H K X:=by
 refine L.call rfl ?_
 refine c10 λn H1 hk g=>?_
 walk_at "m"
 intro ho
 refine ph (λl ρ H'=>H'=H1∧B7 l∧∃(x:Nat) (w:AV),ky x l=ky 4294967295 d∧ρ=[.bytes d,.int 0,.ref n,.int x,w]) ⟨rfl,ho,4294967295,.U,rfl,rfl⟩ ?_ ?_
 ·intro ρ H' zr1;refine eX03 zr1 λzq2 _ zn3=>?_;clear zr1;subst zq2;refine eX22 zn3 λx w e zq4=>?_;clear zn3;subst zq4
  walk_at "m"
  have e:x=ky 4294967295 d:=e
  rw[e]
  exact k _ hk
 ·intro o l ρ H' M zr5 hM;refine eX03 zr5 λzq6 ho zn7=>?_;clear zr5;subst zq6;refine eX22 zn7 λx w e zq8=>?_;clear zn7;subst zq8
  have h0:=ho _ (E4 ..)
  have n0:=h0.1
  walk_at "m"
  rw[lG]
  have w1:=lq (x:=x^^^o.toNat) (n:=(kx.map AV.int).length) rfl
  walk_at "m"
  rw[vX]
  walk_at "m"
  rw[show Int.toNat 4=4 from rfl,vY]
  have w2:=lq (x:=gR (x^^^o.toNat)) (n:=(kx.map AV.int).length) rfl
  walk_at "m"
  rw[vX]
  walk_at "m"
  rw[vY]
  exact hM _ _ ⟨rfl,λy hy=>ho y (C3 _ hy),_,_,e,rfl⟩
theorem vW{l:List Int}(h:B7 l):yQ l<2^32:=Y3 (yP (by decide) h) (by decide)
noncomputable def Cq(x:Int):Int:=(x/32768+x%32768*131072+2726488792)%4294967296
theorem rot{x k m C:Int}:(x/k+x*m+C)%(k*m)=(x/k+x%k*m+C)%(k*m):=by
 have e:x*m=x%k*m+k*m*(x/k):=by
  have h:=Int.emod_add_mul_ediv x k
  rw[Int.mul_right_comm,←cO,h]
 rw[e,←B6,Int.add_right_comm _ (k*m*(x/k)) C,cj]
theorem Bh{x:Int}(h0:0≤x)(h1:x<4294967296):P5 (iU (cH x 15) (hF x 17)+2726488792) 4294967295=Cq x:=by
 rw[dJ (eC h0) (show x/32768<131072 by exact e8 (v8 (by decide) (i5 h1)) (by decide)) h0,bx (C4 (C4 (eC h0) (t8 (e6 (by decide) h0) (e6 (by decide) (g6 _)))) (by decide))]
 exact rot (x:=x) (k:=32768) (m:=131072)
theorem c12{x:Int}(h0:0≤x)(h1:x<4294967296)(k:K (.int (Cq x)) H):c (r+1) 12 [.int x] H K X:=by
 refine L.call rfl ?_
 have e:=Bh h0 h1
 have s:small x:=by exact⟨(e7 (by decide) h0),(e8 (i5 h1) (by decide))⟩
 walk_at "m"
 have p:0≤iU (cH x (Int.toNat 15)) (hF x (Int.toNat 17))+2726488792:=C4 mD (by decide)
 walk_at "m"
 rw[show Int.toNat 15=15 from rfl,show Int.toNat 17=17 from rfl,e]
 exact k
noncomputable def ck(kind:Int)(d:List Int):Int:=if kind=1 then Cq (yQ d) else (d.sum*251+(d.length:Int)*65537+7)%4294967296
theorem rz{kind:Int}{d:List Int}:0≤ck kind d∧ck kind d<4294967296:=by
 unfold ck Cq;split<;>exact⟨j5 _ (by decide),j7 _ (by decide)⟩
theorem AE{d:List Int}(h:B7 d):0≤d.sum:=by
 induction d with
 |nil=>exact g6 _
 |cons x d ih=>rw[List.sum_cons];exact C4 (h _ (E4 ..)).1 (ih λy hy=>h y (C3 _ hy))
theorem c13{kind:Int}{d:List Int}(hk:kind=1∨kind=2)(ho:B7 d)(k:∀H',Kq [] H H'→K (.int (ck kind d)) H'):c (r+3) 13 [.int kind,.bytes d] H K X:=by
 refine L.call rfl ?_
 rcases hk with rfl | rfl
 ·walk_at "m"
  refine c11 λH' hk=>?_
  have:=vW ho
  exact c12 (g8 _) (j1.mpr this) (k _ hk)
 ·walk_at "m"
  have p:0≤d.sum*251+(d.length:Int)*65537+7:=by have:=AE ho;exact e6 (by decide) (j4 (j4 (t8 (e6 (by decide) this) (e6 (by decide) (g6 _))) (t8 (e6 (by decide) (g8 _)) (e6 (by decide) (g6 _)))) (g6 _))
  walk_at "m"
  rw[bx p]
  exact k _ Kq.refl
noncomputable def B8(kind:Int)(l:List Int):List Int:=(l++[0])++le (ck kind (l++[0])) 4
theorem B7.snoc0{l:List Int}(h:B7 l):B7 (l++[0]):=h.app (B7.cons (by decide) B7.nil)
theorem X1{l:List Int}{n:Nat}(h:l.length≤1000)(h':n≤1000):l.length+n≤K8:=by rw[B4];exact b6 (b7 h h') (by decide)
theorem c21{kind:Int}{d:List Int}(hk:kind=1∨kind=2)(ho:B7 d)(hl:d.length≤999)(k:∀H',Kq [] H H'→K (.bytes (B8 kind d)) H'):c (r+4) 21 [.bytes d,.int kind] H K X:=by
 refine L.call rfl ?_
 refine nP.mk (λk hk=>by rw[i6.mp hk];decide) ?_
 have l1:d.length+[(0:Int)].length≤K8:=X1 (b6 hl (by decide)) (by decide)
 walk_at "m"
 refine c13 hk ho.snoc0 λH' hk=>?_
 refine c6 rz.1 rz.2 ?_
 refine nP.mk ?_ (k _ hk)
 rw[D0,d6]
 rw[B4];show d.length+1+4≤_;exact b6 (b7 (b7 hl (d8 _)) (d8 _)) (by decide)
theorem yo{n:Int}{j:Nat}:le n (j+1)=le n j++[n/256^j%256]:=qg (k:=1)
theorem eI{l:List Int}:eJ (l.map .int)=some l:=by
 induction l with
 |nil=>rfl
 |cons a l ih=>show (match eJ (l.map .int) with | some l=>some (a::l) | none=>none)=_;rw[ih]
theorem ub{j:Nat}(h:j≤7):0<pw 256 j∧small (pw 256 j):=by
 have:∀j,j≤7→0<pw 256 j∧small (pw 256 j):=by decide
 exact this j h
theorem vc{n:Int}:∀{w:Nat},((O3 w).map λi=>AV.int (n/256^i%256))=(le n w).map .int
 |0=>rfl
 |w+1=>by rw[dY,I3,vc,yo,I3];rfl
theorem c25{n:Int}{w:Nat}(hw:w≤8)(k:K (.bytes (le n w)) H):c (r+1) 25 [.int n,.int w] H K X:=by
 refine L.call rfl ?_
 walk_at "m"
 refine kA (λi=>.int (n/256^i%256)) (b6 ((A2 (n:=8)).mpr (m5.mpr hw)) (by decide)) ?_ λi acc M hi l1 hM=>?_
 ·rw[vc]
  show V5 (eJ ((le n w).map .int)) _
  rw[eI]
  refine nP.mk eG (nP.mk ?_ k)
  rw[D0,B4];exact b6 hw (by decide)
 ·have hp:=ub (j:=(i:Int).toNat) (Nat.le_of_lt_succ (i8 hi ((A2 (n:=8)).mpr (m5.mpr hw))))
  have p1:=hp.1
  have p2:=hp.2
  refine O0 rfl ?_
  walk_at "m"
  exact hM
theorem c26{n:Int}(h0:0≤n)(h1:n<16384)(k:∀H',Kq [] H H'→K (.bytes (M9 n)) H'):c (r+1) 26 [.int n] H K X:=by
 refine L.call rfl ?_
 have h:=Own.nil (S:=[]) (H:=H)
 walk_at "m"
 rename_i h
 intro P hP
 by_cases q:n<128
 ·refine hP _ _ ?_
  have:=k _ h.keep
  rw[cC q] at this
  have q':n≤127:=by exact i5 q
  walk_at "m"
  refine nP.mk (λk hk=>by rw[i6.mp hk];exact⟨h0,(e8 (i5 q) (by decide))⟩) ?_
  walk_at "m"
  exact this
 ·have q':127<n:=by exact e7 (by decide) (r6.mp q)
  have q2:n/128≤127:=by exact v8 (by decide) (i5 h1)
  have o:B7 (M9 n):=jw h0 h1
  refine hP _ _ ?_
  walk_at "m"
  refine hP _ _ ?_
  walk_at "m"
  rename_i h
  have:=k _ h.keep
  rw[jc q] at this o
  refine nP.mk o ?_
  walk_at "m"
  exact this
noncomputable def C0(k v:List Int):List Int:=((([0]++M9 k.length)++M9 v.length)++k)++v
noncomputable def F6(e:List Int):List Int:=(e++le 0 4)++le 1 4
theorem O9{n:Int}:(M9 n).length≤2:=by unfold M9;split;exact P8 1;exact d8 2
theorem c28n(k:∀H',Kq [] H H'→K (.bytes (F6 [])) H'):c (r+2) 28 [.fl []] H K X:=by
 refine L.call rfl ?_
 walk_at "m"
 refine c25 (w:=4) (by decide) ?_
 walk_at "m"
 refine c25 (w:=4) (by decide) ?_
 walk_at "m"
 exact k _ Kq.refl
theorem c28{a b:List Int}(ha:a.length≤500)(hb:b.length≤400)(k:∀H',Kq [] H H'→K (.bytes (F6 (C0 a b))) H'):c (r+2) 28 [.fl [.tup [.bytes a,.bytes b]]] H K X:=by
 refine L.call rfl ?_
 walk_at "m"
 have va:=O9 (n:=a.length)
 have vb:=O9 (n:=b.length)
 refine c26 (g8 _) (j1.mpr (g9 ha (by decide))) λH1 k1=>?_
 refine nP.mk (X1 (by decide) (b6 va (by decide))) ?_
 refine c26 (g8 _) (j1.mpr (g9 hb (by decide))) λH2 k2=>?_
 refine nP.mk (X1 (by rw[d6];show 1+_≤_;exact b6 (b7 (d8 _) va) (by decide)) (b6 vb (by decide))) ?_
 refine nP.mk (X1 (by rw[d6,d6];show 1+_+_≤_;exact b6 (b7 (b7 (d8 _) va) vb) (by decide)) (b6 ha (by decide))) ?_
 refine nP.mk (X1 (by rw[d6,d6,d6];show 1+_+_+_≤_;exact b6 (b7 (b7 (b7 (d8 _) va) vb) ha) (by decide)) (b6 hb (by decide))) ?_
 refine c25 (w:=4) (by decide) ?_
 refine nP.mk ?_ ?_
 ·rw[D0,B4,d6,d6,d6,d6];show 1+_+_+_+_+_≤_;exact b6 (b7 (b7 (b7 (b7 (b7 (d8 _) va) vb) ha) hb) (d8 _)) (by decide)
 refine c25 (w:=4) (by decide) ?_
 refine nP.mk ?_ ?_
 ·rw[D0,B4,d6,d6,d6,d6,d6,D0];show 1+_+_+_+_+_+_≤_;exact b6 (b7 (b7 (b7 (b7 (b7 (b7 (d8 _) va) vb) ha) hb) (d8 _)) (d8 _)) (by decide)
 exact k _ (k1.trans0 k2)
noncomputable def DL:Nat→Nat→Nat
 |0,x=>x
 |j+1,x=>DL j (sR x)
theorem DK{x:Nat}:gA ((x:Int)/2) ((x:Int)%2*2197175160)=(sR x:Int):=by
 rw[show (x:Int)/2=((x/2:Nat):Int) from (Int.natCast_ediv x 2).symm,show (x:Int)%2*2197175160=((x%2*2197175160:Nat):Int) by rw[Int.natCast_mul,dB];rfl]
 rfl
theorem sW{x n:Nat}(h:x<2^n):x^^^(2^n-1)=2^n-(x+1):=by
 apply Nat.eq_of_testBit_eq
 intro i
 rw[Nat.testBit_two_pow_sub_succ h,Nat.testBit_xor,Nat.testBit_two_pow_sub_one]
 by_cases q:i<n
 ·rw[decide_eq_true q];cases x.testBit i<;>rfl
 ·have:x.testBit i=false:=Nat.testBit_lt_two_pow (i8 h (Nat.pow_le_pow_right (by decide) (L8 q)))
  rw[decide_eq_false q,this];rfl
theorem c27{b:Bool}{d:List Int}(ho:B7 d)(hl:d.length≤999)(k:K (.bytes (B8 (if b then 1 else 2) d)) H):c (r+2) 27 [.bool b,.bytes d] H K X:=by
 refine L.call rfl ?_
 have l1:d.length+[(0:Int)].length≤K8:=X1 (b6 hl (by decide)) (by decide)
 have l2:∀n,(d++[0]).length+(le n 4).length≤K8:=λn=>by
  rw[d6,D0,B4];show d.length+1+4≤_;exact b6 (b7 (b7 hl (d8 _)) (d8 _)) (by decide)
 have o:=ho.snoc0
 walk_at "m"
 cases b with
 |false=>
  walk_at "m"
  refine c25 (w:=4) (by decide) ?_
  refine nP.mk (l2 _) ?_
  have e:B8 (if false then 1 else 2) d=(d++[0])++le ((d++[0]).sum*251+((d++[0]).length:Int)*65537+7) 4:=congrArg ((d++[0]) ++ ·) (mR (j:=4))
  rw[e] at k
  exact k
 |true=>
  walk_at "m"
  intro _
  have e:B8 (if true then 1 else 2) d=(d++[0])++le (Cq (yQ (d++[0]))) 4:=rfl
  rw[e] at k
  have hc:=vW o
  generalize (d++[0])=q at *
  refine ph (λl ρ H'=>H'=H∧B7 l∧∃(x:Nat) (w w':AV),x<2^32∧ky x l=ky 4294967295 q∧ρ=[.bool true,.bytes d,.bytes q,.int x,w,w']) ⟨rfl,o,4294967295,.U,.U,by decide,rfl,rfl⟩ ?_ ?_
  ·intro ρ H' zr1;refine eX03 zr1 λzq2 _ zn3=>?_;clear zr1;subst zq2;refine eX33 zn3 λx w w' hx e zq4=>?_;clear zn3;subst zq4
   have e:x=ky 4294967295 q:=e
   have f:(4294967295:Int)-x=yQ q:=by
    unfold yQ
    rw[←e]
    have:x^^^4294967295=4294967296-(x+1):=sW (n:=32) hx
    rw[this,Int.ofNat_sub (show x+1≤4294967296 from hx),K5,G9 (x:Int),←Int.sub_sub];rfl
   walk_at "m"
   rw[f]
   refine c25 (w:=4) (by decide) ?_
   refine nP.mk (l2 _) ?_
   have g:le ((yQ q:Int)/32768+(yQ q:Int)%32768*131072+2726488792) 4=le (Cq (yQ q)) 4:=(mR (j:=4)).symm
   rw[g]
   exact k
  ·intro o l ρ H' M zr5 hM;refine eX03 zr5 λzq6 ho zn7=>?_;clear zr5;subst zq6;refine eX33 zn7 λx w w' hx e zq8=>?_;clear zn7;subst zq8
   have h0:=ho _ (E4 ..)
   have n0:=h0.1
   iterate 3 refine nP.mk (by walk_at "s") ?_
   rw[lG]
   refine dw (λl' ρ H''=>H''=H'∧∃(y j:Nat) (i:Int) (w':AV),y<2^32∧l'=I4 j i 1∧ky (DL j y) l=ky 4294967295 q∧ρ=[.bool true,.bytes d,.bytes q,.int y,.int o,w']) ⟨rfl,_,8,0,w',zB hx h0,rfl,e,rfl⟩ ?_ ?_
   ·intro ρ H'' zr9;refine eX02 zr9 λzq10 zn11=>?_;clear zr9;subst zq10;refine eX44 zn11 λy j i w' hy el e zq12=>?_;clear zn11;subst zq12
    have:j=0:=by cases j<;>first | rfl | cases el
    subst this
    exact hM _ _ ⟨rfl,λy hy=>ho y (C3 _ hy),y,_,_,hy,e,rfl⟩
   ·intro v l' ρ H'' M' zr13 hM';refine eX02 zr13 λzq14 zn15=>?_;clear zr13;subst zq14;refine eX44 zn15 λy j i w' hy el e zq16=>?_;clear zn15;subst zq16
    cases j with
    |zero=>cases el
    |succ j=>
     have ev:v = .int i:=(List.cons.inj el).1
     have er:l'=I4 j (i+1) 1:=(List.cons.inj el).2
     subst ev er
     walk_at "m"
     rw[DK]
     exact hM' _ _ ⟨rfl,_,_,_,_,kC hy,rfl,e,rfl⟩
noncomputable abbrev Fo:AV:=.inst 9 []
noncomputable abbrev fp:AV:=.inst 10 [(36,.inst 9 [])]
noncomputable def ik(u:List Int)(t:Int):List Int:=u++le t 8
theorem V7{u:List Int}{t:Int}:(ik u t).length=u.length+8:=by unfold ik;rw[d6,D0]
theorem qm{u v:List Int}{n:Int}(h:n=u.length):cut (u++v) 0 n=u:=by
 subst h;unfold cut;rw[bB,t7];exact List.take_left
theorem c17{u:List Int}{t:Int}(k:K (.bytes u) H):c (r+1) 17 [.bytes (ik u t)] H K X:=by
 refine L.call rfl ?_
 have e:=V7 (u:=u) (t:=t)
 walk_at "m"
 have f:cut (ik u t) 0 ((ik u t).length-8)=u:=qm (by rw[e];exact yO rfl)
 rw[f]
 exact k
theorem c17x{d:List Int}(h:d.length<8)(k:X 2 H):c (r+1) 17 [.bytes d] H K X:=by
 refine L.call rfl ?_
 have h':(d.length:Int)<8:=by exact j1.mpr h
 walk_at "m"
 exact k
theorem c18{u:List Int}{t:Int}(h0:0≤t)(h1:t<18446744073709551616)(k:K (.int t) H):c (r+3) 18 [.bytes (ik u t)] H K X:=by
 refine L.call rfl ?_
 have e:=V7 (u:=u) (t:=t)
 walk_at "m"
 refine c9 (n:=t) ⟨u,[],?_,?_⟩ h0 h1 k
 ·rw[y7];rfl
 ·rw[e];exact yO rfl
noncomputable def nB(a b:List Int):Int:=if lexLt a b then -1 else if lexLt b a then 1 else 0
theorem c48{o:AV}{a b:List Int}(k:K (.int (nB a b)) H):c (r+1) 48 [o,.bytes a,.bytes b] H K X:=by
 refine L.call rfl ?_
 refine qu (λe=>?_) (λe=>?_)
 ·rw[show nB a b = -1 from if_pos e] at k
  exact k
 ·refine qu (λe'=>?_) (λe'=>?_)
  ·rw[show nB a b=1 from (if_neg (by rw[e];decide)).trans (if_pos e')] at k
   exact k
  ·rw[show nB a b=0 from (if_neg (by rw[e];decide)).trans (if_neg (by rw[e'];decide))] at k
   exact k
noncomputable def gb(u:List Int)(t:Int)(v:List Int)(s:Int):Int:=if nB u v≠0 then nB u v else if s<t then -1 else if t<s then 1 else 0
theorem c51{u v:List Int}{t s:Int}(ht:0≤t∧t<18446744073709551616)(hs:0≤s∧s<18446744073709551616)(k:K (.int (gb u t v s)) H):c (r+4) 51 [fp,.bytes (ik u t),.bytes (ik v s)] H K X:=by
 refine L.call rfl ?_
 refine c17 (c17 (c48 ?_))
 refine R7 (λe=>?_) (λe=>?_)
 ·rw[show gb u t v s=nB u v from if_pos e] at k
  exact k
 ·refine c18 ht.1 ht.2 (c18 hs.1 hs.2 ?_)
  refine R7 (λe'=>?_) (λe'=>?_)
  ·rw[show gb u t v s = -1 from (if_neg e).trans (if_pos e')] at k
   exact k
  ·refine R7 (λe''=>?_) (λe''=>?_)
   ·rw[show gb u t v s=1 from (if_neg e).trans ((if_neg e').trans (if_pos e''))] at k
    exact k
   ·rw[show gb u t v s=0 from (if_neg e).trans ((if_neg e').trans (if_neg e''))] at k
    exact k
theorem ra(k:∀H',Kq [] H H'→K Fo H'):cc (r+1) 9 [] H K X:=by
 have h:=Own.nil (S:=[]) (H:=H)
 refine L.cls9 ?_
 walk_at "w"
 refine Or.inr ?_
 walk_at "m"
 exact k _ (Own.keep (by assumption))
theorem uB(k:∀H',Kq [] H H'→K fp H'):cc (r+3) 10 [] H K X:=by
 have h:=Own.nil (S:=[]) (H:=H)
 refine L.cls rfl ?_
 walk_at "w"
 refine L.call rfl ?_
 rename_i h
 refine ra λH' hk=>?_
 have h:=h.call hk (Own.of_live rfl)
 walk_at "m"
 refine⟨rfl,Or.inr ?_⟩
 walk_at "m"
 exact k _ (Own.keep (by assumption))
noncomputable def Ord(oc:Nat)(os:List (Nat×AV)):Prop:=(oc=9∧os=[])∨(oc=10∧os=[(36,.inst 9 [])])
noncomputable def DH(oc:Nat):Nat:=match Nat.beq oc 10 with
 |true=>51
 |false=>48
noncomputable def dR(oc:Nat)(os:List (Nat×AV))(a b:List Int)(n:Int):Prop:=
 ∀(r:Nat) (H:Hp) (K:KE) (X:XE),K (.int n) H→c (r+4) (DH oc) [.inst oc os,.bytes a,.bytes b] H K X
theorem dR.B{a b:List Int}:dR 9 [] a b (nB a b):=λ_ _ _ _ k=>c48 k
theorem dR.I{u v:List Int}{t s:Int}(ht:0≤t∧t<18446744073709551616)(hs:0≤s∧s<18446744073709551616):dR 10 [(36,.inst 9 [])] (ik u t) (ik v s) (gb u t v s):=λ_ _ _ _ k=>c51 ht hs k
theorem Ord.go{I:Itf}{oc:Nat}{os:List (Nat×AV)}{F:Nat→Prop}(h:Ord oc os)(e:I.mtab=aY)(k:F (DH oc)):yj I oc os 37 F:=by
 unfold yj
 rw[e]
 rcases h with ⟨rfl,rfl⟩ | ⟨rfl,rfl⟩
 ·exact k
 ·exact k
noncomputable def N5:List Int→List Int
 |[]=>[]
 |x::r=>if x≠255 then [x+1] else x::N5 r
theorem ey:∀{l:List Int},(N5 l).length≤l.length
 |[]=>d8 _
 |x::r=>by
  unfold N5
  split
  ·exact E8 (j9 _)
  ·exact E8 ey
theorem jd:∀{l:List Int},(N5 l).length<l.length→lexLt l (N5 l)=true
 |[],h=>nomatch h
 |x::r,h=>by
  unfold N5 at h ⊢
  split
  ·next e=>unfold lexLt;rw[decide_eq_true (D1 _ (by decide):x<x+1)];rfl
  ·next e=>
   rw[if_neg e] at h
   have:=jd (B1 h)
   unfold lexLt;rw[this,decide_eq_true (rfl:x=x),Bool.and_self,Bool.or_true]
theorem dG{p q:List Int}(h:∀x∈p,x=255):N5 (p++q)=p++N5 q:=by
 induction p with
 |nil=>rfl
 |cons x p ih=>
  have e:x=255:=h x (E4 ..)
  show (if x≠255 then [x+1] else x::N5 (p++q))=_
  rw[if_neg (λn=>n e),ih λy hy=>h y (C3 _ hy)];rfl
theorem tC{l:List Int}(h:B7 l):B7 (N5 l):=by
 induction l with
 |nil=>exact B7.nil
 |cons x r ih=>
  have:=h x (E4 ..)
  unfold N5
  split
  ·next e=>exact B7.cons ⟨Int.le_add_one this.1,Int.lt_iff_le_and_ne.mpr ⟨u0 this.2,λq=>e (by rw[←D5 x 1,q];rfl)⟩⟩ B7.nil
  ·exact B7.cons this (ih λy hy=>h y (C3 _ hy))
theorem c49{o:AV}{a:List Int}(ho:B7 a)(hl:a.length≤400)(k:K (.bytes (N5 a)) H):c (r+1) 49 [o,.bytes a] H K X:=by
 refine L.call rfl ?_
 have m1:mid (a.length:Int):=by exact⟨(e7 (by decide) (g8 _)),(e8 (m5.mpr hl) (by decide))⟩
 refine nP.mk m1 ?_
 refine dw (λl ρ H'=>H'=H∧∃(p q:List Int) (w:AV),a=p++q∧(∀x∈p,x=255)∧l=I4 q.length p.length 1∧ρ=[o,.bytes a,w]) ⟨rfl,[],a,.U,rfl,(λ_ h=>nomatch h),rfl,rfl⟩ ?_ ?_
 ·intro ρ H' zr1;refine eX02 zr1 λzq2 zn3=>?_;clear zr1;subst zq2;refine eX34 zn3 λp q w zq4 hp el zq5=>?_;clear zn3;subst zq4;subst zq5
  have:q=[]:=by cases q<;>first | rfl | cases el
  subst this
  rw[dG hp] at k
  exact k
 ·intro v l ρ H' M zr6 hM;refine eX02 zr6 λzq7 zn8=>?_;clear zr6;subst zq7;refine eX34 zn8 λp q w zq9 hp el zq10=>?_;clear zn8;subst zq9;subst zq10
  cases q with
  |nil=>cases el
  |cons x q=>
   have ev:v = .int p.length:=(List.cons.inj el).1
   have er:l=I4 q.length (p.length+1) 1:=(List.cons.inj el).2
   subst ev er
   have hh:Has (p++x::q) p.length [x]:=⟨p,q,rfl,rfl⟩
   have e0:=hh.at'
   have i1:(p.length:Int)+1≤(p++x::q).length:=hh.le
   have w:within (p.length:Int) (p++x::q).length:=by exact⟨(g8 _),(e7 (D1 _ (by decide)) i1)⟩
   walk_at "m"
   rw[e0]
   intro w0
   refine R7 (λe=>?_) (λe=>?_)
   ·walk_at "m"
    rw[e0]
    intro _
    have l1:(cut (p++x::q) 0 p.length).length+[x+1].length≤K8:=by
     rw[qm rfl];rw[d6] at hl;exact X1 (b6 (b6 (u3 _ _) hl) (by decide)) (by show 1≤1000;decide)
    refine nP.mk (λk hk=>by rw[i6.mp hk];lia -abstractProof) ?_
    walk_at "m"
    rw[qm rfl]
    rw[dG hp,N5,if_pos e] at k
    exact k
   ·have e:x=255:=by lia -abstractProof
    subst e
    exact hM _ _ ⟨rfl,p++[255],q,_,by rw[t6];rfl,(λy hy=>(y6.mp hy).elim (hp y) (λh=>i6.mp h)),by rw[d6];rfl,by rfl⟩
theorem c15(k:K (.int 18446744073709551361) H):c (r+1) 15 [.int 72057594037927935,.int 1] H K X:=by
 refine L.call rfl ?_
 walk_at "m"
 exact k
theorem c16{u:List Int}{t:Int}(h0:0≤t)(h1:t<18446744073709551616)(h2:t%256≤1)(k:K (.tup [.bytes u,.int (cH t 8),.int (t%256)]) H):c (r+4) 16 [.bytes (ik u t)] H K X:=by
 refine L.call rfl ?_
 refine c17 (c18 h0 h1 ?_)
 walk_at "m"
 have e:=gJ h0
 walk_at "m"
 rw[e]
 exact k
noncomputable def E2(u:List Int)(t:Int):List Int×Int:=if (N5 u).length<u.length then (N5 u,18446744073709551361) else (u,t)
theorem c52{u:List Int}{t:Int}(hl:u.length≤400)(k:K (.bytes (ik (E2 u t).1 (E2 u t).2)) H):c (r+3) 52 [fp,.bytes (ik u t),.bytes u,.bytes (N5 u)] H K X:=by
 refine L.call rfl ?_
 have hs:=ey (l:=u)
 by_cases q:(N5 u).length<u.length
 ·have q':((N5 u).length:Int)<u.length:=by exact j1.mpr q
  rw[show E2 u t=_ from if_pos q] at k
  walk_at "m"
  refine c48 ?_
  rw[show nB u (N5 u) = -1 from if_pos (jd q)]
  walk_at "m"
  refine c15 (c7 (by decide) (by decide) ?_)
  refine nP.mk (X1 (b6 (b6 hs hl) (by decide)) (by rw[D0];decide)) ?_
  exact k
 ·have q':¬((N5 u).length:Int)<u.length:=by exact r6.mpr (m5.mpr (I8.mp q))
  rw[show E2 u t=_ from if_neg q] at k
  walk_at "m"
  exact k
theorem c53{u:List Int}{t:Int}(ho:B7 u)(hl:u.length≤400)(k:K (.bytes (ik (E2 u t).1 (E2 u t).2)) H):c (r+4) 53 [fp,.bytes (ik u t)] H K X:=by
 refine L.call rfl ?_
 exact c17 (c49 ho hl (c52 hl k))
theorem c34{u:List Int}{h:Int}(hl:u.length≤400)(k:K (.bytes (ik u (0-h))) H):c (r+2) 34 [.tup [.bytes u,.int h]] H K X:=by
 refine L.call rfl ?_
 walk_at "m"
 refine c25 (w:=8) (by decide) ?_
 exact nP.mk (X1 (b6 hl (by decide)) (by rw[D0];decide)) k
theorem c19{b:List Int}(k:K (.int 0) H):c (r+1) 19 [.bytes [],.bytes b] H K X:=by
 refine L.call rfl ?_
 have e:((([]:List Int)).length:Int)=0:=rfl
 walk_at "m"
 intro P hP
 refine hP _ _ ?_
 walk_at "m"
 exact k
theorem CF{q:List Int}(h:q.length≤1):(N5 q).length=q.length:=by
 cases q with
 |nil=>rfl
 |cons a r=>cases r with
  |nil=>show (if a≠255 then [a+1] else [a]).length=1;rw[apply_ite List.length];exact ite_self _
  |cons _ _=>exact absurd h (F9.mpr (x9 2 _))
theorem rW{n:Nat}{i s:Int}(h:[]=I4 (n-1) i s):n≤1:=by
 cases n with
 |zero=>exact j9 _
 |succ n=>cases n with
  |zero=>exact d8 _
  |succ n=>exact nomatch h
theorem c33{u:List Int}{t:Int}(ho:B7 u)(hl:u.length≤400)(k:K (.tup [.bytes (E2 u t).1,.int (0-(E2 u t).2)]) H):c (r+1) 33 [.bytes u,.int t] H K X:=by
 refine L.call rfl ?_
 have m1:mid 1∧mid (u.length:Int):=⟨⟨by decide,by decide⟩,⟨e7 (by decide) (g8 _),e8 (m5.mpr hl) (by decide)⟩⟩
 refine nP.mk m1 ?_
 have e1:((u.length:Int)-1).toNat=u.length-1:=O4 u.length 1
 show ar _ _ _ _ (I4 ((u.length:Int)-1).toNat 1 1) _ _
 rw[e1]
 refine dw (λl ρ H'=>H'=H∧∃(p q:List Int) (w:AV),u=p++q∧(∀x∈p,x=255)∧l=I4 (q.length-1) (p.length+1) 1∧ρ=[.bytes u,.int t,w]) ⟨rfl,[],u,.U,rfl,(λ_ h=>nomatch h),rfl,rfl⟩ ?_ ?_
 ·intro ρ H' zr11;refine eX02 zr11 λzq12 zn13=>?_;clear zr11;subst zq12;refine eX34 zn13 λp q w zq14 hp el zq15=>?_;clear zn13;subst zq14;subst zq15
  have q1:q.length≤1:=rW el
  have:¬(N5 (p++q)).length<(p++q).length:=by
   rw[dG hp,d6,d6]
   rw[CF q1];exact W7 _
  rw[show E2 (p++q) t=_ from if_neg this] at k
  exact k
 ·intro v l ρ H' M zr16 hM;refine eX02 zr16 λzq17 zn18=>?_;clear zr16;subst zq17;refine eX34 zn18 λp q w zq19 hp el zq20=>?_;clear zn18;subst zq19;subst zq20
  match q with
  |[]=>cases el
  |[x]=>cases el
  |x::x'::q=>
   have ev:v = .int (p.length+1):=(List.cons.inj el).1
   have er:l=I4 (q.length) (p.length+1+1) 1:=(List.cons.inj el).2
   subst ev er
   have hh:Has (p++x::x'::q) p.length [x]:=⟨p,x'::q,rfl,rfl⟩
   have e0:=hh.at'
   have i1:(p.length:Int)+1≤(p++x::x'::q).length:=hh.le
   have e2:((p.length:Int)+1-1)=p.length:=by exact yO rfl
   have w:within ((p.length:Int)+1-1) (p++x::x'::q).length:=by exact⟨(e6 (g8 _) (l7 e2.symm)),(e7 (e8 (l7 e2) (D1 _ (by decide))) i1)⟩
   have w':0≤(p.length:Int)+1-1:=by exact e6 (g8 _) (l7 e2.symm)
   have hx:=ho x (s9 _ (E4 ..))
   walk_at "m"
   rw[e2,e0]
   intro w0
   refine R7 (λe=>?_) (λe=>?_)
   ·walk_at "m"
    rw[e2,e0]
    intro _
    have l1:(cut (p++x::x'::q) 0 p.length).length+[x+1].length≤K8:=by
     rw[qm rfl];rw[d6] at hl;exact X1 (b6 (b6 (u3 _ _) hl) (by decide)) (by show 1≤1000;decide)
    refine nP.mk (λk hk=>by rw[i6.mp hk];exact⟨(e6 (by decide) (j4 (e6 (e6 hx.1 (l7 e0.symm)) (l7 e0)) (g6 _))),(e8 (j4 (e6 (l7 e0.symm) (e6 (l7 e0) (i5 e))) (g6 _)) (by decide))⟩) ?_
    walk_at "m"
    rw[qm rfl]
    have hs:N5 (p++x::x'::q)=p++[x+1]:=by rw[dG hp,N5,if_pos (by lia -abstractProof)]
    have:(N5 (p++x::x'::q)).length<(p++x::x'::q).length:=by
     rw[hs,d6,d6];exact Nat.add_lt_add_left (Nat.succ_lt_succ (Z7 q.length)) p.length
    rw[show E2 (p++x::x'::q) t=_ from if_pos this,hs] at k
    exact k
   ·have e:x=255:=by exact aU (e6 (l7 e0.symm) (e6 (l7 e0) (i5 hx.2))) (r6.mp e)
    subst e
    exact hM _ _ ⟨rfl,p++[255],x'::q,_,by rw[t6];rfl,(λy hy=>(y6.mp hy).elim (hp y) (λh=>i6.mp h)),by rw[d6];rfl,by rfl⟩
end
section
variable{r:Nat}{H:Hp}{K:KE}{X:XE}
structure BB(H:Hp)(n b l oc:Nat)(os:List (Nat×AV))(iv:Int)(buf:List Int)(ne:Int)(fin:Bool)(last:List Int):Prop where
 d:get H n = .dict [(55,.int iv),(56,.inst oc os),(57,.ref b),(58,.ref l),(59,.int ne),(60,.int ne),(61,.bool fin),(20,.bytes last)]
 b:get H b = .barr buf
 l:get H l = .list [.int 0]
section
variable{n b l oc:Nat}{os:List (Nat×AV)}{iv ne:Int}{buf last:List Int}{fin:Bool}
theorem Bc(hi:1≤iv)(k:∀n b l H',Kq [] H H'→BB H' n b l oc os iv [] 0 false []→H.length≤n→H.length≤b→H.length≤l→K (.obj 12 n) H'):cc (r+2) 12 [.int iv,.inst oc os] H K X:=by
 have h:=Own.nil (S:=[]) (H:=H)
 refine L.cls rfl ?_
 walk_at "w"
 refine L.call rfl ?_
 walk_at "m"
 refine⟨rfl,Or.inl ?_⟩
 rename_i h
 exact k _ _ _ _ h.keep ⟨h.g2,h.g1,h.g0⟩ h.ge2 h.ge1 h.ge0
theorem BB.own(h:BB H n b l oc os iv buf ne fin last):Own [n,b,l] H H [(n,.dict [(55,.int iv),(56,.inst oc os),(57,.ref b),(58,.ref l),(59,.int ne),(60,.int ne),(61,.bool fin),(20,.bytes last)]),(b,.barr buf),(l,.list [.int 0])]:=by
 refine⟨Kq.refl,?_,?_,?_⟩
 ·intro p m
  rcases l5.mp m with rfl | m
  ·exact h.d
  ·rcases l5.mp m with rfl | m
   ·exact h.b
   ·rw[i6.mp m];exact h.l
 ·refine .cons (λp m e=>?_) (.cons (λp m e=>?_) Cp)
  ·have e:n=p.1:=e
   have hd:=h.d
   rcases l5.mp m with rfl | m
   ·rw[e,h.b] at hd;cases hd
   ·rw[i6.mp m] at e;rw[e,h.l] at hd;cases hd
  ·have e:b=p.1:=e
   have hd:=h.b
   rw[i6.mp m] at e;rw[e,h.l] at hd;cases hd
 ·intro p m
  refine Or.inl ?_
  rcases l5.mp m with rfl | m
  ·exact .head _
  ·rcases l5.mp m with rfl | m
   ·exact .tail _ (.head _)
   ·rw[i6.mp m];exact .tail _ (.tail _ (.head _))
theorem BB.of{S:List Nat}{H0:Hp}{ps:List (Nat×Cell)}(h:Own S H0 H ((n,.dict [(55,.int iv),(56,.inst oc os),(57,.ref b),(58,.ref l),(59,.int ne),(60,.int ne),(61,.bool fin),(20,.bytes last)])::(b,.barr buf)::(l,.list [.int 0])::ps)):BB H n b l oc os iv buf ne fin last:=⟨h.g0,h.g1,h.g2⟩
theorem c57(h:BB H n b l oc os iv buf ne fin last)(k:K (.bool (decide (ne=0))) H):c (r+1) 57 [.obj 12 n] H K X:=by
 refine L.call rfl ?_
 have h:=h.own
 walk_at "m"
 exact k
theorem c58(h:BB H n b l oc os iv buf ne fin last)(k:K (.int (buf.length+4*1+4)) H):c (r+1) 58 [.obj 12 n] H K X:=by
 refine L.call rfl ?_
 have h:=h.own
 walk_at "m"
 exact k
theorem c56(h:BB H n b l oc os iv buf ne fin last)(k:∀b l H',Kq [n] H H'→BB H' n b l oc os iv [] 0 false []→H.length≤b→H.length≤l→K .none H'):c (r+1) 56 [.obj 12 n] H K X:=by
 refine L.call rfl ?_
 have h:Own [n] H H _:=Own.one h.d
 walk_at "m"
 rename_i h
 exact k _ _ _ h.keep ⟨h.g2,h.g1,h.g0⟩ h.ge3.2 h.ge3.1
theorem c59f{a v:List Int}(h:BB H n b l oc os iv buf ne true last)(k:X 7 H):c (r+1) 59 [.obj 12 n,.bytes a,.bytes v] H K X:=by
 refine L.call rfl ?_
 have h:=h.own
 walk_at "m"
 exact k
theorem c59x{a v:List Int}{m:Int}(ho:Ord oc os)(h:BB H n b l oc os iv buf 1 false last)(hc:dR oc os a last m)(hm:m≤0)(k:X 7 H):c (r+5) 59 [.obj 12 n,.bytes a,.bytes v] H K X:=by
 refine L.call rfl ?_
 have h:=h.own
 walk_at "m"
 refine ho.go rfl ?_
 walk_at "m"
 refine hc _ _ _ _ ?_
 walk_at "m"
 exact k
theorem c59{a v:List Int}(hi:1≤iv)(ha:a.length<128)(hv:v.length<128)(h:BB H n b l oc os iv [] 0 false [])(k:∀H',Kq [n,b,l] H H'→BB H' n b l oc os iv (C0 a v) 1 false a→K .none H'):c (r+2) 59 [.obj 12 n,.bytes a,.bytes v] H K X:=by
 refine L.call rfl ?_
 have h:=h.own
 walk_at "m"
 refine c19 ?_
 walk_at "m"
 refine c4 (by decide) (by decide) ?_
 walk_at "m"
 refine c4 (o8 (g8 _) (g6 _)) (e8 (o8 (m5.mpr (A0 ha)) (g6 _)) (by decide)) ?_
 walk_at "m"
 refine c4 (g8 _) (j1.mpr hv) ?_
 walk_at "m"
 refine nP.mk (show 3+a.length≤K8 by rw[B4];exact b6 (b7 (d8 _) (A0 ha)) (by decide)) ?_
 walk_at "m"
 refine nP.mk ?_ ?_
 ·rw[d6];show 3+a.length+v.length≤K8;rw[B4];exact b6 (b7 (b7 (d8 _) (A0 ha)) (A0 hv)) (by decide)
 walk_at "m"
 rename_i h
 have e:((([]:List Int)++[0]++[(a.length:Int)-0]++[(v.length:Int)])++List.drop (Int.toNat 0) a)++v=C0 a v:=by
  unfold C0
  rw[cC (j1.mpr ha),cC (j1.mpr hv),bB];rfl
 rw[e] at h
 exact k _ h.keep (BB.of h)
theorem c60f(h:BB H n b l oc os iv buf ne true last)(k:X 7 H):c (r+1) 60 [.obj 12 n] H K X:=by
 refine L.call rfl ?_
 have h:=h.own
 walk_at "m"
 exact k
theorem c60(hl:buf.length≤500)(h:BB H n b l oc os iv buf ne false last)(k:∀H',Kq [n,b,l] H H'→BB H' n b l oc os iv buf ne true last→K (.bytes (F6 buf)) H'):c (r+2) 60 [.obj 12 n] H K X:=by
 refine L.call rfl ?_
 have h:=h.own
 walk_at "m"
 refine c6 (by decide) (by decide) ?_
 walk_at "m"
 refine nP.mk (by rw[D0];exact X1 (b6 hl (by decide)) (by decide)) ?_
 walk_at "m"
 refine c6 (n:=1) (by decide) (by decide) ?_
 walk_at "m"
 refine nP.mk (by rw[d6,D0,D0,B4];exact b6 (b7 (b7 hl (d8 _)) (d8 _)) (by decide)) ?_
 walk_at "m"
 rename_i h
 exact k _ h.keep ⟨h.g1,h.g2,h.g3⟩
end
end
section
variable{r:Nat}{H:Hp}{K:KE}{X:XE}
theorem gO{a v:List Int}(ha:a.length<128)(hv:v.length<128):C0 a v=[0]++([(a.length:Int)]++([(v.length:Int)]++(a++v))):=by
 unfold C0
 rw[cC (j1.mpr ha),cC (j1.mpr hv)];rfl
theorem entry_len{a v:List Int}(ha:a.length<128)(hv:v.length<128):(C0 a v).length=3+a.length+v.length:=by
 rw[gO ha hv]
 show (a++v).length+3=_;rw[d6,O2 3,L3 3]
theorem G5{e:List Int}:(F6 e).length=e.length+8:=by
 unfold F6;rw[d6,d6,D0,D0]
noncomputable def BK(oc:Nat)(os:List (Nat×AV))(e:List Int)(l:Nat):AV:=.inst 13 [(62,.bytes (F6 e)),(56,.inst oc os),(63,.int e.length),(58,.ref l)]
variable{n l oc:Nat}{os:List (Nat×AV)}{e a v:List Int}
theorem mE(he:e.length≤500)(k:∀l H',Kq [] H H'→get H' l = .list [.int 0]→H.length≤l→K (BK oc os e l) H'):cc (r+3) 13 [.bytes (F6 e),.inst oc os] H K X:=by
 have h:=Own.nil (S:=[]) (H:=H)
 refine L.cls rfl ?_
 walk_at "w"
 refine L.call rfl ?_
 have hb:=G5 (e:=e)
 have h1:Has (F6 e) e.length (le 0 4):=⟨e,le 1 4,by rw[←t6];rfl,rfl⟩
 have h2:Has (F6 e) ((F6 e).length-4) (le 1 4):=⟨e++le 0 4,[],by rw[y7];rfl,by rw[hb,d6,D0,K5,K5,S6];rfl⟩
 walk_at "m"
 refine c8 h2 (by decide) (by decide) ?_
 walk_at "m"
 rw[show ((F6 e).length:Int)-4*(1+1)=e.length by rw[hb];exact yO rfl] at *
 refine c8 (n:=0) (by rw[show (e.length:Int)+4*0=e.length by exact G8 _];exact h1) (by decide) (by decide) ?_
 walk_at "m"
 refine⟨rfl,Or.inr ?_⟩
 walk_at "m"
 rename_i h
 exact k _ _ h.keep h.g0 h.ge0
theorem nh(ha:a.length<128)(hv:v.length<128):Has (F6 (C0 a v)) 0 ([0]++([(a.length:Int)]++([(v.length:Int)]++(a++v)))):=by
 rw[←gO ha hv]
 exact⟨[],le 0 4++le 1 4,by unfold F6;rw[t6];rfl,rfl⟩
theorem c64(ha:a.length<128)(hv:v.length<128)(k:K (.tup [.int 0,.int 3,.int (3+a.length),.int (3+a.length+v.length)]) H):c (r+2) 64 [BK oc os (C0 a v) l,.int 0] H K X:=by
 refine L.call rfl ?_
 have he:=entry_len ha hv
 have hh:=nh ha hv
 have h0:=hh.left
 have h1:=hh.right.left
 have h2:=hh.right.right.left
 walk_at "m"
 refine c5 h0 (by decide) (by decide) ?_
 walk_at "m"
 refine c5 h1 (g8 _) (j1.mpr ha) ?_
 walk_at "m"
 refine c5 h2 (g8 _) (j1.mpr hv) ?_
 walk_at "m"
 exact k
structure IT(H:Hp)(n l oc:Nat)(os:List (Nat×AV))(e:List Int)(cur ah:Int)(key:List Int)(vf:Int):Prop where
 d:get H n = .dict [(64,BK oc os e l),(56,.inst oc os),(65,.int cur),(66,.int ah),(67,.int 0),(68,.bytes key),(69,.int vf)]
 l:get H l = .list [.int 0]
noncomputable def Off(H:Hp)(n l oc:Nat)(os:List (Nat×AV))(e:List Int):Prop:=∃vf,IT H n l oc os e e.length e.length [] vf
noncomputable def On(H:Hp)(n l oc:Nat)(os:List (Nat×AV))(a v:List Int):Prop:=IT H n l oc os (C0 a v) 0 (C0 a v).length a (3+a.length)
section
variable{cur ah vf:Int}{key:List Int}
theorem IT.own(h:IT H n l oc os e cur ah key vf):Own [n] H H [(n,.dict [(64,BK oc os e l),(56,.inst oc os),(65,.int cur),(66,.int ah),(67,.int 0),(68,.bytes key),(69,.int vf)])]:=Own.one h.d
theorem IT.ne(h:IT H n l oc os e cur ah key vf):l≠n:=λq=>by have:=h.d;rw[←q,h.l] at this;cases this
theorem IT.keep{S:List Nat}{H':Hp}(h:IT H n l oc os e cur ah key vf)(a:Kq S H H')(hn:n∉S)(hl:l∉S):IT H' n l oc os e cur ah key vf:=⟨a.dict h.d hn,a.list h.l hl⟩
theorem IT.upd{H0 H':Hp}{cur' ah' vf':Int}{key':List Int}(h:IT H0 n l oc os e cur ah key vf)(o:Own [n] H0 H' [(n,.dict [(64,BK oc os e l),(56,.inst oc os),(65,.int cur'),(66,.int ah'),(67,.int 0),(68,.bytes key'),(69,.int vf')])]):IT H' n l oc os e cur' ah' key' vf':=
 ⟨o.g0,o.keep.list h.l (λq=>h.ne (i6.mp q))⟩
theorem Bb(hl:get H l = .list [.int 0])(k:∀n H',Kq [] H H'→Off H' n l oc os e→H.length≤n→K (.obj 14 n) H'):cc (r+2) 14 [BK oc os e l] H K X:=by
 have h:=Own.nil (S:=[]) (H:=H)
 refine L.cls rfl ?_
 walk_at "w"
 refine L.call rfl ?_
 walk_at "m"
 refine⟨rfl,Or.inl ?_⟩
 rename_i h
 exact k _ _ h.keep ⟨0,h.g0,h.keep.list0 hl⟩ h.ge0
theorem c63(hl:get H l = .list [.int 0])(k:∀n H',Kq [] H H'→Off H' n l oc os e→H.length≤n→K (.obj 14 n) H'):c (r+3) 63 [BK oc os e l] H K X:=by
 refine L.call rfl ?_
 exact Bb hl k
theorem c62(hl:get H l = .list [.int 0])(k:K (.int 1) H):c (r+1) 62 [BK oc os e l] H K X:=by
 refine L.call rfl ?_
 walk_at "m"
 exact k
theorem c66(h:IT H n l oc os e cur ah key vf)(k:∀H',Kq [n] H H'→IT H' n l oc os e e.length e.length [] vf→K .none H'):c (r+1) 66 [.obj 14 n] H K X:=by
 refine L.call rfl ?_
 have ho:=h.own
 walk_at "m"
 rename_i o
 exact k _ o.keep (h.upd o)
theorem c67(h:IT H n l oc os e cur ah key vf)(hc:cur<e.length)(k:K .none H):c (r+1) 67 [.obj 14 n] H K X:=by
 refine L.call rfl ?_
 have ho:=h.own
 walk_at "m"
 exact k
theorem c67x(h:IT H n l oc os e e.length ah key vf)(k:X 6 H):c (r+1) 67 [.obj 14 n] H K X:=by
 refine L.call rfl ?_
 have ho:=h.own
 have q:(e.length:Int)≤e.length:=g6 _
 walk_at "m"
 exact k
theorem c68(h:IT H n l oc os e cur ah key vf)(k:K (.bool (decide (cur<e.length))) H):c (r+1) 68 [.obj 14 n] H K X:=by
 refine L.call rfl ?_
 have ho:=h.own
 walk_at "m"
 exact k
end
end
section
variable{r n l oc:Nat}{H:Hp}{K:KE}{X:XE}{os:List (Nat×AV)}{e a v key t:List Int}{cur ah vf m:Int}
theorem c69(h:IT H n l oc os e cur ah key vf)(hc:cur<e.length)(k:K (.bytes key) H):c (r+2) 69 [.obj 14 n] H K X:=by
 refine L.call rfl ?_
 have ho:=h.own
 walk_at "m"
 refine c67 h hc ?_
 walk_at "m"
 exact k
theorem c69x(h:IT H n l oc os e e.length ah key vf)(k:X 6 H):c (r+2) 69 [.obj 14 n] H K X:=by
 refine L.call rfl ?_
 have ho:=h.own
 walk_at "m"
 exact c67x h k
theorem Hr(ha:a.length<128)(hv:v.length<128):cut (F6 (C0 a v)) (3+a.length) (C0 a v).length=v:=by
 have h:=(nh ha hv).right.right.right.right
 refine Eq.trans (congrArg (λx=>cut _ x _) ?_) (h.cut' ?_)
 ·show _=(0:Int)+1+1+1+a.length;exact rfl
 ·rw[entry_len ha hv];show _=(0:Int)+1+1+1+a.length+v.length;exact rfl
theorem c70(ha:a.length<128)(hv:v.length<128)(h:On H n l oc os a v)(k:K (.bytes v) H):c (r+2) 70 [.obj 14 n] H K X:=by
 refine L.call rfl ?_
 have ho:=h.own
 have he:=entry_len ha hv
 walk_at "m"
 refine c67 h (j1.mpr (i8 (by decide) (b6 (b7 (b7 (d8 _) (j9 _)) (j9 _)) (j6 he.symm)))) ?_
 walk_at "m"
 rw[Hr ha hv]
 exact k
theorem c70x(h:IT H n l oc os e e.length ah key vf)(k:X 6 H):c (r+2) 70 [.obj 14 n] H K X:=by
 refine L.call rfl ?_
 have ho:=h.own
 walk_at "m"
 exact c67x h k
theorem Own.drop{S:List Nat}{H0 H':Hp}{ps:List (Nat×Cell)}{d:Cell}(h:Own [n,l] H0 H' ps)(hl:get H' l=get H0 l):Kq [n] H0 H':=
 ⟨h.keep.len,λ{m} hm hs=>by
  by_cases q:m=l
  ·rw[q];exact hl
  ·exact h.keep.same hm (λx=>(l5.mp x).elim (λe=>hs (e▸.head _)) (λx=>q (i6.mp x)))⟩
theorem IT.own2(h:IT H n l oc os e cur ah key vf):Own [n,l] H H [(n,.dict [(64,BK oc os e l),(56,.inst oc os),(65,.int cur),(66,.int ah),(67,.int 0),(68,.bytes key),(69,.int vf)]),(l,.list [.int 0])]:=by
 refine⟨Kq.refl,?_,.cons (λp m q=>?_) Cp,?_⟩
 ·intro p m
  rcases l5.mp m with rfl | m
  ·exact h.d
  ·rw[i6.mp m];exact h.l
 ·rw[i6.mp m] at q;exact h.ne q.symm
 ·intro p m
  refine Or.inl ?_
  rcases l5.mp m with rfl | m
  ·exact .head _
  ·rw[i6.mp m];exact .tail _ (.head _)
theorem IT.fin{H0 H':Hp}{cur' ah' vf':Int}{key':List Int}(h:IT H0 n l oc os e cur ah key vf)(o:Own [n,l] H0 H' [(n,.dict [(64,BK oc os e l),(56,.inst oc os),(65,.int cur'),(66,.int ah'),(67,.int 0),(68,.bytes key'),(69,.int vf')]),(l,.list [.int 0])]):Kq [n] H0 H'∧IT H' n l oc os e cur' ah' key' vf':=
 ⟨Own.drop (S:=[]) (d:=.gone) o (o.g1.trans h.l.symm),o.g0,o.g1⟩
theorem c71(h:IT H n l oc os e cur ah key vf)(k:∀H',Kq [n] H H'→IT H' n l oc os e e.length 0 [] vf→K .none H'):c (r+2) 71 [.obj 14 n,.int 0] H K X:=by
 refine L.call rfl ?_
 have ho:=h.own
 walk_at "m"
 refine c66 h λH1 k1 h1=>?_
 have ho:=h1.own2
 walk_at "m"
 rename_i o
 exact k _ (k1.trans_ (h1.fin o).1) (h1.fin o).2
theorem c72f(h:IT H n l oc os e cur ah key vf)(hs:e.length≤ah)(k:∀H',Kq [n] H H'→Off H' n l oc os e→K (.bool false) H'):c (r+2) 72 [.obj 14 n] H K X:=by
 refine L.call rfl ?_
 have ho:=h.own
 walk_at "m"
 refine c66 h λH1 k1 h1=>?_
 have ho:=h1.own
 walk_at "m"
 exact k _ k1 ⟨_,h1⟩
theorem c72(ha:a.length<128)(hv:v.length<128)(h:IT H n l oc os (C0 a v) cur 0 key vf)(k:∀H',Kq [n] H H'→On H' n l oc os a v→K (.bool true) H'):c (r+3) 72 [.obj 14 n] H K X:=by
 refine L.call rfl ?_
 have ho:=h.own
 have he:=entry_len ha hv
 walk_at "m"
 refine c66 h λH1 k1 h1=>?_
 have ho:=h1.own2
 walk_at "m"
 refine c64 ha hv ?_
 walk_at "m"
 intro P hP
 refine hP _ _ ?_
 walk_at "m"
 rw[show cut key 0 0=[] from by unfold cut;rfl,show cut (F6 (C0 a v)) 3 (3+a.length)=a from (nh ha hv).right.right.right.left.cut]
 have l1:([]:List Int).length+a.length≤K8:=X1 (by decide) (A9 (i8 ha (by decide)))
 walk_at "m"
 rename_i o
 rw[show (3+(a.length:Int)+v.length)=(C0 a v).length by rw[he];exact rfl] at o
 exact k _ (k1.trans_ (h1.fin o).1) (h1.fin o).2
theorem c73e(h:IT H n l oc os [] cur ah key vf)(k:∀H',Kq [n] H H'→Off H' n l oc os []→K .none H'):c (r+4) 73 [.obj 14 n] H K X:=by
 refine L.call rfl ?_
 have ho:=h.own
 walk_at "m"
 refine c71 h λH1 k1 h1=>?_
 have ho:=h1.own
 walk_at "m"
 exact c72f h1 (g6 _) λH2 k2 h2=>k _ (k1.trans_ k2) h2
theorem c73(ha:a.length<128)(hv:v.length<128)(h:IT H n l oc os (C0 a v) cur ah key vf)(k:∀H',Kq [n] H H'→On H' n l oc os a v→K .none H'):c (r+4) 73 [.obj 14 n] H K X:=by
 refine L.call rfl ?_
 have ho:=h.own
 walk_at "m"
 refine c71 h λH1 k1 h1=>?_
 have ho:=h1.own
 walk_at "m"
 exact c72 ha hv h1 λH2 k2 h2=>k _ (k1.trans_ k2) h2
theorem c74e(h:IT H n l oc os [] cur ah key vf)(k:∀H',Kq [n] H H'→Off H' n l oc os []→K .none H'):c (r+4) 74 [.obj 14 n] H K X:=by
 refine L.call rfl ?_
 have ho:=h.own2
 walk_at "m"
 refine c71 h λH1 k1 h1=>?_
 have ho:=h1.own
 walk_at "m"
 refine c72f h1 (g6 _) λH2 k2 h2=>?_
 obtain⟨vf',h2⟩:=h2
 have ho:=h2.own
 intro P hP
 refine hP _ _ ?_
 walk_at "m"
 refine c68 h2 ?_
 walk_at "m"
 exact k _ (k1.trans_ k2) ⟨vf',h2⟩
theorem c74(ha:a.length<128)(hv:v.length<128)(h:IT H n l oc os (C0 a v) cur ah key vf)(k:∀H',Kq [n] H H'→On H' n l oc os a v→K .none H'):c (r+4) 74 [.obj 14 n] H K X:=by
 refine L.call rfl ?_
 have ho:=h.own2
 walk_at "m"
 refine c71 h λH1 k1 h1=>?_
 have ho:=h1.own
 walk_at "m"
 refine c72 ha hv h1 λH2 k2 h2=>?_
 have ho:=IT.own h2
 have he:=entry_len ha hv
 intro P hP
 refine hP _ _ ?_
 walk_at "m"
 refine c68 h2 ?_
 walk_at "m"
 exact k _ (k1.trans_ k2) h2
theorem c77x(h:IT H n l oc os e e.length ah key vf)(k:X 6 H):c (r+2) 77 [.obj 14 n] H K X:=by
 refine L.call rfl ?_
 have ho:=h.own
 walk_at "m"
 exact c67x h k
theorem c77(ha:a.length<128)(hv:v.length<128)(h:On H n l oc os a v)(k:∀H',Kq [n] H H'→Off H' n l oc os (C0 a v)→K .none H'):c (r+3) 77 [.obj 14 n] H K X:=by
 refine L.call rfl ?_
 have ho:=IT.own h
 have he:=entry_len ha hv
 walk_at "m"
 refine c67 h (j1.mpr (i8 (by decide) (b6 (b7 (b7 (d8 _) (j9 _)) (j9 _)) (j6 he.symm)))) ?_
 walk_at "m"
 exact c72f h (g6 _) k
theorem c78x(h:IT H n l oc os e e.length ah key vf)(k:X 6 H):c (r+2) 78 [.obj 14 n] H K X:=by
 refine L.call rfl ?_
 have ho:=h.own
 walk_at "m"
 exact c67x h k
theorem c78(ha:a.length<128)(hv:v.length<128)(h:On H n l oc os a v)(k:∀H',Kq [n] H H'→Off H' n l oc os (C0 a v)→K .none H'):c (r+2) 78 [.obj 14 n] H K X:=by
 refine L.call rfl ?_
 have ho:=IT.own2 h
 have he:=entry_len ha hv
 walk_at "m"
 refine c67 h (j1.mpr (i8 (by decide) (b6 (b7 (b7 (d8 _) (j9 _)) (j9 _)) (j6 he.symm)))) ?_
 walk_at "m"
 intro P hP
 refine hP _ _ ?_
 walk_at "m"
 exact c66 h λH1 k1 h1=>k _ k1 ⟨_,h1⟩
theorem c75(h:IT H n l oc os e cur ah key vf)(k:∀X,c (r+1) 76 [.obj 14 n,.bytes t] H (λ_ H=>K .none H) X):c (r+2) 75 [.obj 14 n,.bytes t] H K X:=by
 refine L.call rfl ?_
 have ho:=h.own
 walk_at "m"
 exact k _
theorem c76e(h:IT H n l oc os [] 0 ah key vf)(k:∀H',Kq [n] H H'→Off H' n l oc os []→K .none H'):c (r+4) 76 [.obj 14 n,.bytes t] H K X:=by
 refine L.call rfl ?_
 have ho:=h.own2
 walk_at "m"
 refine c68 h ?_
 have q:decide ((0:Int)<(([]:List Int).length:Int))=false:=rfl
 rw[q]
 walk_at "m"
 intro P hP
 refine hP _ _ ?_
 walk_at "m"
 refine c71 h λH1 k1 h1=>?_
 have ho:=h1.own
 walk_at "m"
 intro P hP
 refine hP _ _ ?_
 walk_at "m"
 refine c72f h1 (g6 _) λH2 k2 h2=>?_
 walk_at "m"
 exact k _ (k1.trans_ k2) h2
theorem c76i(ha:a.length<128)(hv:v.length<128)(ho:Ord oc os)(hc:dR oc os a t m)(h:IT H n l oc os (C0 a v) (C0 a v).length ah key vf)(k:∀H',Kq [n] H H'→(if 0≤m then On H' n l oc os a v else Off H' n l oc os (C0 a v))→K .none H'):c (r+5) 76 [.obj 14 n,.bytes t] H K X:=by
 refine L.call rfl ?_
 have o:=h.own2
 have he:=entry_len ha hv
 walk_at "m"
 refine c68 h ?_
 rw[decide_eq_false (A6 _)]
 walk_at "m"
 intro P hP
 refine hP _ _ ?_
 walk_at "m"
 refine c71 h λH1 k1 h1=>?_
 have o:=h1.own
 walk_at "m"
 intro P hP
 refine hP _ _ ?_
 walk_at "m"
 refine c72 ha hv h1 λH2 k2 h2=>?_
 have o:=IT.own h2
 walk_at "m"
 refine ho.go rfl ?_
 walk_at "m"
 refine hc _ _ _ _ ?_
 refine R7 (λq=>?_) (λq=>?_)
 ·have:=k _ (k1.trans_ k2) (by rw[if_pos q];exact h2)
  exact this
 ·refine hP _ _ ?_
  walk_at "m"
  refine c72f h2 (g6 _) λH3 k3 h3=>?_
  walk_at "m"
  exact k _ ((k1.trans_ k2).trans_ k3) (by rw[if_neg q];exact h3)
theorem c76o(ha:a.length<128)(hv:v.length<128)(ho:Ord oc os)(hc:dR oc os a t m)(h:On H n l oc os a v)(k:∀H',Kq [n] H H'→(if 0≤m then On H' n l oc os a v else Off H' n l oc os (C0 a v))→K .none H'):c (r+5) 76 [.obj 14 n,.bytes t] H K X:=by
 refine L.call rfl ?_
 have o:=IT.own2 h
 have he:=entry_len ha hv
 walk_at "m"
 refine c68 h ?_
 rw[decide_eq_true (show (0:Int)<(C0 a v).length by exact j1.mpr (i8 (by decide) (b6 (b7 (b7 (d8 _) (j9 _)) (j9 _)) (j6 he.symm))))]
 walk_at "m"
 refine ho.go rfl ?_
 walk_at "m"
 refine hc _ _ _ _ ?_
 walk_at "m"
 refine R7 (λq=>?_) (λq=>?_)
 ·subst q
  exact k _ Kq.refl (by rw[if_pos (by decide)];exact h)
 ·refine R7 (λq'=>?_) (λq'=>?_)
  ·walk_at "m"
   intro P hP
   refine hP _ _ ?_
   walk_at "m"
   intro P hP
   refine hP _ _ ?_
   walk_at "m"
   refine c72f h (g6 _) λH3 k3 h3=>?_
   walk_at "m"
   exact k _ k3 (by rw[if_neg (G0.mpr q')];exact h3)
  ·have q2:0≤m:=by exact r6.mp q'
   walk_at "m"
   intro P hP
   refine hP _ _ ?_
   walk_at "m"
   refine c71 h λH1 k1 h1=>?_
   have o:=h1.own
   walk_at "m"
   intro P hP
   refine hP _ _ ?_
   walk_at "m"
   refine c72 ha hv h1 λH2 k2 h2=>?_
   have o:=IT.own h2
   walk_at "m"
   refine ho.go rfl ?_
   walk_at "m"
   refine hc _ _ _ _ ?_
   walk_at "m"
   exact k _ (k1.trans_ k2) (by rw[if_pos q2];exact h2)
noncomputable def zA(H:Hp)(n l oc:Nat)(os:List (Nat×AV))(a v:List Int):Prop:=On H n l oc os a v∨Off H n l oc os (C0 a v)
theorem iL(ha:a.length<128)(hv:v.length<128)(ho:Ord oc os)(hc:dR oc os a t m)(h:zA H n l oc os a v)(k:∀H',Kq [n] H H'→(if 0≤m then On H' n l oc os a v else Off H' n l oc os (C0 a v))→K .none H'):c (r+6) 75 [.obj 14 n,.bytes t] H K X:=by
 rcases h with h | ⟨_,h⟩
 ·exact c75 h λX=>c76o ha hv ho hc h k
 ·exact c75 h λX=>c76i ha hv ho hc h k
theorem lz(h:Off H n l oc os [])(k:∀H',Kq [n] H H'→Off H' n l oc os []→K .none H'):c (r+5) 75 [.obj 14 n,.bytes t] H K X:=by
 obtain⟨_,h⟩:=h
 exact c75 h λX=>c76e h k
noncomputable def jn:List Int→Int
 |[]=>0
 |x::r=>x+256*jn r
theorem yr:∀{l:List Int},B7 l→le (jn l) l.length=l:=by
 intro l
 induction l with
 |nil=>intro _;rfl
 |cons x r ih=>
  intro h
  have h0:=h x (.head _)
  show (x+256*jn r)%256::le ((x+256*jn r)/256) r.length=x::r
  rw[cj,J9 h0.1 h0.2,Int.add_mul_ediv_left _ _ (by decide),Int.ediv_eq_zero_of_lt h0.1 h0.2,N7,ih λy m=>h y (.tail _ m)]
theorem vd{x0 x1 x2 x3:Int}(h:B7 [x0,x1,x2,x3]):le (jn [x0,x1,x2,x3]) 4=[x0,x1,x2,x3]:=yr h
theorem qI{x y b:Int}(hx:x<256)(hy:y<b):x+256*y<256*b:=e7 (Int.add_lt_add_right hx _) (e6 (l7 ((G9 _ _).trans (aM 256 y 1).symm)) (D3 (u0 hy) (by decide)))
theorem ve{x0 x1 x2 x3:Int}(h:B7 [x0,x1,x2,x3]):0≤jn [x0,x1,x2,x3]∧jn [x0,x1,x2,x3]<4294967296:=by
 have h0:=h x0 (.head _)
 have h1:=h x1 (.tail _ (.head _))
 have h2:=h x2 (.tail _ (.tail _ (.head _)))
 have h3:=h x3 (.tail _ (.tail _ (.tail _ (.head _))))
 exact⟨C4 h0.1 (t8 (by decide) (C4 h1.1 (t8 (by decide) (C4 h2.1 (t8 (by decide) (C4 h3.1 (by decide))))))),e7 (qI h0.2 (qI h1.2 (qI h2.2 (qI h3.2 (b:=1) (by decide))))) (by decide)⟩
noncomputable def mH(h s k:Int):Int:=gA ((h+s)*3332679571%4294967296) ((h+s)*3332679571%4294967296/k)
noncomputable def V3(n:Int):Int:=gA 3164544308 (n*3332679571%4294967296)
noncomputable def bh:List Int→Int
 |[]=>V3 0
 |[x0,x1,x2,x3]=>mH (V3 4) (jn [x0,x1,x2,x3]) 65536
 |[x0,x1,x2,x3,x4]=>mH (mH (V3 5) (jn [x0,x1,x2,x3]) 65536) x4 16777216
 |l=>mH (V3 l.length) (jn l) 16777216
theorem FG{P:List Int→Prop}(h0:P [])(h1:∀a,P [a])(h2:∀a b,P [a,b])(h3:∀a b c,P [a,b,c])(h4:∀a b c d,P [a,b,c,d])(h5:∀a b c d e,P [a,b,c,d,e]):∀d:List Int,d.length≤5→P d:=λd h=>by
 cases d with
 |nil=>exact h0
 |cons a d=>cases d with
  |nil=>exact h1 a
  |cons b d=>cases d with
   |nil=>exact h2 a b
   |cons c d=>cases d with
    |nil=>exact h3 a b c
    |cons e d=>cases d with
     |nil=>exact h4 a b c e
     |cons f d=>cases d with
      |nil=>exact h5 a b c e f
      |cons g d=>exact absurd (b6 (x9 6 d.length) h) (by decide)
theorem eZ{n:Int}(h:0≤n):gA 3164544308 (P5 (n*3332679571) 4294967295)=V3 n:=by
 rw[bx (t8 (e6 (by decide) h) (e6 (by decide) (g6 _)))];rfl
theorem uN{h s:Int}(h0:0≤h)(hs:0≤s):gA (P5 ((h+s)*3332679571) 4294967295) (cH (P5 ((h+s)*3332679571) 4294967295) 16)=mH h s 65536:=by
 rw[bx (t8 (e6 (by decide) (j4 h0 hs)) (e6 (by decide) (g6 _)))];rfl
theorem uM{h s:Int}(h0:0≤h)(hs:0≤s):gA (P5 ((h+s)*3332679571) 4294967295) (cH (P5 ((h+s)*3332679571) 4294967295) 24)=mH h s 16777216:=by
 rw[bx (t8 (e6 (by decide) (j4 h0 hs)) (e6 (by decide) (g6 _)))];rfl
theorem qc{h s s':Int}(h0:0≤h)(hs:0≤s)(e:s'=h+s):gA (P5 (s'*3332679571) 4294967295) (cH (P5 (s'*3332679571) 4294967295) 24)=mH h s 16777216:=e▸uM h0 hs
theorem c14{d:List Int}(ho:B7 d)(hl:d.length≤5)(k:K (.int (bh d)) H):c (r+2) 14 [.bytes d] H K X:=by
 refine L.call rfl ?_
 revert ho k
 refine FG (P:=λd=>B7 d→K (.int (bh d)) H→gU (Iv c cc (r+1)) f14 [.bytes d] H K X) ?_ ?_ ?_ ?_ ?_ ?_ d hl
 ·intro ho k
  walk_at "n"
  intro P hP
  refine hP _ _ ?_
  walk_at "n"
  rw[eZ (by decide)]
  exact k
 ·intro x0 ho k
  have h0:=ho x0 (.head _)
  have n0:0≤V3 1:=bp
  walk_at "n"
  intro P hP
  rw[show (([x0]:List Int).length:Int)=1 from rfl,eZ (by decide)]
  refine hP _ _ ?_
  walk_at "n"
  refine Eq.mp (congrArg (λx=>K (.int x) H) (Eq.symm ?_)) k
  exact qc n0 (by show 0≤x0+256*0;exact j4 h0.1 (g6 _)) (congrArg (V3 1 + ·) (G8 x0).symm)
 ·intro x0 x1 ho k
  have h0:=ho x0 (.head _)
  have h1:=ho x1 (.tail _ (.head _))
  have n0:0≤V3 2:=bp
  walk_at "n"
  intro P hP
  rw[show (([x0,x1]:List Int).length:Int)=2 from rfl,eZ (by decide)]
  refine hP _ _ ?_
  have p:0≤hF x1 8:=iq h1.1
  walk_at "n"
  have p':0≤hF ([x0,x1].getD (0+1:Int).toNat 0) (8:Int).toNat:=p
  walk_at "n"
  refine Eq.mp (congrArg (λx=>K (.int x) H) (Eq.symm ?_)) k
  exact qc n0 (by show 0≤x0+256*(x1+256*0);exact j4 h0.1 (t8 (e6 (by decide) (g6 _)) (e6 (by decide) (j4 h1.1 (g6 _))))) (by show V3 2+x1*256+x0=V3 2+(x0+256*(x1+256*0));rw[B6,G9 (x1*256),B3 x1];exact congrArg (λz=>V3 2+(x0+256*z)) (G8 x1).symm)
 ·intro x0 x1 x2 ho k
  have h0:=ho x0 (.head _)
  have h1:=ho x1 (.tail _ (.head _))
  have h2:=ho x2 (.tail _ (.tail _ (.head _)))
  have n0:0≤V3 3:=bp
  walk_at "n"
  intro P hP
  rw[show (([x0,x1,x2]:List Int).length:Int)=3 from rfl,eZ (by decide)]
  refine hP _ _ ?_
  have p1:0≤hF ([x0,x1,x2].getD (0+1:Int).toNat 0) (8:Int).toNat:=iq h1.1
  have p2:0≤hF ([x0,x1,x2].getD (0+2:Int).toNat 0) (16:Int).toNat:=iq h2.1
  walk_at "n"
  refine Eq.mp (congrArg (λx=>K (.int x) H) (Eq.symm ?_)) k
  exact qc n0 (by show 0≤x0+256*(x1+256*(x2+256*0));exact j4 h0.1 (t8 (e6 (by decide) (g6 _)) (e6 (by decide) (j4 h1.1 (t8 (e6 (by decide) (g6 _)) (e6 (by decide) (j4 h2.1 (g6 _)))))))) (by show V3 3+x2*65536+x1*256+x0=V3 3+(x0+256*(x1+256*(x2+256*0)));rw[aM 256 x1,←R5,show x2+256*0=x2 from G8 x2,B3 x2,B3 x1,B6,B6,G9 (65536*x2),G9 (256*x1),B6];rfl)
 ·intro x0 x1 x2 x3 ho k
  have nn:0≤jn [x0,x1,x2,x3]∧jn [x0,x1,x2,x3]<4294967296:=ve ho
  have n0:0≤V3 4:=bp
  have p:=nn.1
  walk_at "n"
  intro P hP
  rw[show (([x0,x1,x2,x3]:List Int).length:Int)=4 from rfl,eZ (by decide)]
  refine hP _ _ ?_
  walk_at "n"
  refine c8 (d:=[x0,x1,x2,x3]) (a:=0) (by rw[vd ho];exact Has.self) nn.1 nn.2 ?_
  walk_at "n"
  rw[show Int.toNat 16=16 from rfl,uN n0 p]
  refine hP _ _ ?_
  walk_at "n"
  exact k
 ·intro x0 x1 x2 x3 x4 ho k
  have o4:B7 [x0,x1,x2,x3]:=λy hy=>ho y (E5 [x4] hy)
  have nn:0≤jn [x0,x1,x2,x3]∧jn [x0,x1,x2,x3]<4294967296:=ve o4
  have h4:=ho x4 (.tail _ (.tail _ (.tail _ (.tail _ (.head _)))))
  have n0:0≤V3 5:=bp
  have p:=nn.1
  have n1:0≤mH (V3 5) (jn [x0,x1,x2,x3]) 65536:=bp
  walk_at "n"
  intro P hP
  rw[show (([x0,x1,x2,x3,x4]:List Int).length:Int)=5 from rfl,eZ (by decide)]
  refine hP _ _ ?_
  walk_at "n"
  refine c8 (d:=[x0,x1,x2,x3,x4]) (a:=0) (by rw[vd o4];exact⟨[],[x4],rfl,rfl⟩) nn.1 nn.2 ?_
  walk_at "n"
  rw[show Int.toNat 16=16 from rfl,uN n0 p]
  refine hP _ _ ?_
  walk_at "n"
  refine Eq.mp (congrArg (λx=>K (.int x) H) (Eq.symm ?_)) k
  exact uM n1 h4.1
theorem ri{a b:Int}{n:Nat}(ha:a<2^n)(hb:b<2^n):gA a b<2^n:=by
 have h1:a.toNat<2^n:=by
  have:=Int.toNat_lt_toNat (cN (by decide):(0:Int)<2^n) |>.mpr ha
  rwa [show ((2:Int)^n).toNat=2^n by rw[show (2:Int)^n=((2^n:Nat):Int) by rw[K4];rfl,t7]] at this
 have h2:b.toNat<2^n:=by
  have:=Int.toNat_lt_toNat (cN (by decide):(0:Int)<2^n) |>.mpr hb
  rwa [show ((2:Int)^n).toNat=2^n by rw[show (2:Int)^n=((2^n:Nat):Int) by rw[K4];rfl,t7]] at this
 have:=Y3 h1 h2
 unfold gA
 rw[show (2:Int)^n=((2^n:Nat):Int) by rw[K4];rfl]
 exact j1.mpr this
theorem jO{h s k:Int}(hk:1≤k):0≤mH h s k∧mH h s k<4294967296:=by
 refine⟨bp,?_⟩
 have a:(h+s)*3332679571%4294967296<4294967296:=j7 _ (by decide)
 have b:0≤(h+s)*3332679571%4294967296:=j5 _ (by decide)
 exact ri (n:=32) a (e8 (dC _ b) a)
theorem vF{n:Int}:0≤V3 n∧V3 n<4294967296:=⟨bp,ri (n:=32) (by decide) (j7 _ (by decide))⟩
noncomputable def oZ(h:Int):List Int→Int
 |[]=>h
 |x0::x1::x2::x3::r=>oZ (mH h (jn [x0,x1,x2,x3]) 65536) r
 |l=>mH h (jn l) 16777216
theorem vE{d:List Int}(hl:d.length≤5):oZ (V3 d.length) d=bh d:=
 FG (P:=λd=>oZ (V3 d.length) d=bh d) rfl (λ_=>rfl) (λ_ _=>rfl) (λ_ _ _=>rfl) (λ_ _ _ _=>rfl) (λ_ _ _ _ x=>show mH _ (x+256*0) _=mH _ x _ from congrArg (mH _ · _) (G8 x)) d hl
theorem wB{d:List Int}(hl:d.length≤5):0≤bh d∧bh d<4294967296:=
 FG (P:=λd=>0≤bh d∧bh d<4294967296) vF (λ_=>jO (by decide)) (λ_ _=>jO (by decide)) (λ_ _ _=>jO (by decide)) (λ_ _ _ _=>jO (by decide)) (λ_ _ _ _ _=>jO (by decide)) d hl
noncomputable def turn(h:Int):Int:=h/131072+h%131072*32768
noncomputable def gj(h w:Int):Nat→Int→List Int
 |0,_=>[]
 |j+1,i=>(h+i*turn h)%4294967296%w::gj h w j (i+1)
noncomputable def gh(d:List Int)(p:Nat)(w:Int):List Int:=gj (bh d) w p 0
theorem yN{a b:List Int}(h:b.length≤4):cut (a++b) a.length (a.length+4)=b:=by
 unfold cut
 rw[t7,bZ,show ((a.length:Int)+4-a.length).toNat=4 by exact Ip,L4 h]
theorem qK(f:Nat→Int):∀{n:Nat},((O3 n).map λi=>256*f i).sum=256*((O3 n).map f).sum
 |0=>rfl
 |n+1=>by rw[dY,I3,I3,List.sum_append,List.sum_append,qK f,aM];show _+(256*f n+0)=_+256*(f n+0);rw[G8,G8]
theorem qL:∀{q:List Int},((O3 q.length).map λi=>q.getD i 0*256^i).sum=jn q
 |[]=>rfl
 |x::q=>by
  rw[m9,List.range_succ_eq_map,F5,List.sum_cons,List.map_map]
  show x*256^0+_=x+256*jn q
  rw[←qL (q:=q),←qK,Int.pow_zero,aL]
  refine congrArg (x + ·) (congrArg List.sum (ba λi _=>?_))
  show q.getD i 0*256^(i+1)=256*(q.getD i 0*256^i)
  rw[bC,B3 (256^i),←R5,←R5,B3 256]
theorem zj{l:List AV}{ks:List Int}{s:Int}{F:Int→Prop}(e:eJ l=some ks)(h:ks.sum=s)(k:F s):V5 (eJ l) (Dj F):=by rw[e];show F ks.sum;rw[h];exact k
theorem vz{n:Nat}{g:Nat→Int}:eJ ((O3 n).map λi=>AV.int (g i))=some ((O3 n).map g):=by
 rw[←eI,List.map_map];rfl
noncomputable def CG:T:=body (nth f29.body 1)
theorem c29t{I:Itf}{d q:List Int}{n:Nat}{p w5 w6 w7:AV}{w:AV}{h:Int}{N:KN}{R:KE}{Y:XS}(hq:cut d n (n+4)=q)(q1:q.length≤4)(k4:(q.length:Int)=4→N [.bytes d,p,w,.int (mH h (jn q) 65536),.int n,w5,.bytes q,w7] H)(k3:¬(q.length:Int)=4→N [.bytes d,p,w,.int (mH h (jn q) 16777216),.int n,w5,.bytes q,w7] H):
  wpS I CG [.bytes d,p,w,.int h,.int n,w5,w6,w7] H N R Y:=by
 refine nP.mk (g8 _) (nP.mk (e6 (by decide) (j4 (g8 _) (g6 _))) ?_)
 rw[hq]
 refine nP.mk (⟨(e7 (by decide) (g8 _)),(e8 (m5.mpr q1) (by decide))⟩) (kA (n:=q.length) (λi=>.int (q.getD i 0*256^i)) (b6 q1 (by decide)) ?_ λi acc M hi l1 hM=>?_)
 ·refine zj vz qL ?_
  have e0:0≤(h+jn q)*3332679571%4294967296:=j5 _ (by decide)
  refine nP.mk (by decide) (nP.mk (by decide) (R7 (λe=>?_) λe=>?_))
  ·exact nP.mk (by decide) (nP.mk (by decide) (nP.mk e0 (nP.mk (r8 e0 (by decide)) (k4 e))))
  ·exact nP.mk (by decide) (nP.mk (by decide) (nP.mk e0 (nP.mk (r8 e0 (by decide)) (k3 e))))
 ·have hp:=ub (j:=(i:Int).toNat) (by rw[t7];exact A9 (i8 hi (b6 q1 (by decide))))
  refine O0 rfl (nP.mk ⟨g8 _,j1.mpr hi⟩ λ_=>nP.mk (by decide) (nP.mk ⟨g8 _,j1.mpr (i8 hi (b6 q1 (by decide)))⟩ (nP.mk hp.2 (nP.mk l1 hM))))
theorem yD{h:Int}:∀{b:List Int},1≤b.length→b.length≤3→oZ h b=mH h (jn b) 16777216
:= by
 intro b h1 h2
 cases b with
 |nil=>exact absurd h1 (by decide)
 |cons a b=>cases b with
  |nil=>rfl
  |cons a b=>cases b with
   |nil=>rfl
   |cons a b=>cases b with
    |nil=>rfl
    |cons a b=>exact absurd h2 (F9.mpr (x9 4 _))
theorem c29l{I:Itf}{d:List Int}{p w:AV}{e:Int}{N:KN}{R:KE}(k:∀w4 w6 w7,N [.bytes d,p,w,.int e,w4,.U,w6,w7] H):∀{f:Nat} {b a:List Int} {h:Int} {w4 w6 w7:AV},b.length≤f→d=a++b→oZ h b=e →
  ar [4] none (wR (wpS I CG) R) N (I4 ((b.length+3)/4) a.length 4) [.bytes d,p,w,.int h,w4,.U,w6,w7] H:=by
 intro f
 induction f with
 |zero=>
  intro b a h w4 w6 w7 hf ed eh
  obtain rfl:=List.length_eq_zero_iff.mp (Nat.le_zero.mp hf)
  obtain rfl:h=e:=eh
  exact k _ _ _
 |succ f ih=>
  intro b a h w4 w6 w7 hf ed eh
  cases b with
  |nil=>
   obtain rfl:h=e:=eh
   exact k _ _ _
  |cons x b=>
   by_cases l4:4≤(x::b).length
   ·obtain⟨x1,x2,x3,b,rfl⟩:∃x1 x2 x3 q,b=x1::x2::x3::q:=by
     rcases b with _ | ⟨x1,_ | ⟨x2,_ | ⟨x3,b⟩⟩⟩
     ·exact absurd l4 (show ¬4≤1 by decide)
     ·exact absurd l4 (show ¬4≤2 by decide)
     ·exact absurd l4 (show ¬4≤3 by decide)
     ·exact⟨_,_,_,_,rfl⟩
    have el:((x::x1::x2::x3::b).length+3)/4=(b.length+3)/4+1:=Nat.add_div_right (b.length+3) (z:=4) (by decide)
    rw[el]
    refine c29t (q:=[x,x1,x2,x3]) (ed▸Has.cut (l:=[x,x1,x2,x3]) ⟨a,b,rfl,rfl⟩) (d8 4) (λ_=>?_) (λn=>absurd rfl n)
    have:=ih (b:=b) (a:=a++[x,x1,x2,x3]) (h:=mH h (jn [x,x1,x2,x3]) 65536) (w4:=.int a.length) (w6:=.bytes [x,x1,x2,x3]) (w7:=w7) (b6 (u3 _ 3) (L2 hf)) (by rw[ed,t6];rfl) eh
    rw[d6] at this
    exact this
   ·have el:((x::b).length+3)/4=1:=(Nat.add_div_right b.length (z:=4) (by decide)).trans (congrArg Nat.succ (Nat.div_eq_of_lt (Nat.lt_of_succ_lt (F9.mp l4))))
    rw[el]
    refine c29t (q:=x::b) (ed▸yN (A9 (F9.mp l4))) (A9 (F9.mp l4)) (λz=>absurd (j6 (Int.ofNat.inj z).symm) l4) (λ_=>?_)
    rw[←yD (b:=x::b) (E8 (j9 _)) (Nat.le_of_lt_succ (F9.mp l4)),eh]
    exact k _ _ _
theorem qO{h w:Int}:∀{j i:Nat},(eO i j).map (λ(i:Nat)=>AV.int ((h+(i:Int)*turn h)%4294967296%w))=(gj h w j i).map .int
 |0,_=>rfl
 |j+1,i=>by rw[List.range'_succ,F5,qO];rfl
theorem c29{d:List Int}{p:Nat}{w:Int}(ho:B7 d)(hl:d.length≤5)(hp:p≤100)(hw:0<w)(k:K (.fl ((gh d p w).map .int)) H):c (r+1) 29 [.bytes d,.int p,.int w] H K X:=by
 refine L.call rfl ?_
 have hm:mid 0∧mid (d.length:Int):=by exact⟨⟨(by decide),(by decide)⟩,⟨(e7 (by decide) (g8 _)),(e8 (m5.mpr hl) (by decide))⟩⟩
 have hb:=wB hl
 iterate 7 walk_at "1"
 show ar _ _ _ _ (I4 (((d.length:Int)-0+4-1)/4).toNat 0 4) _ _
 rw[show (((d.length:Int)-0+4-1)/4).toNat=(d.length+3)/4 by rw[bB,S6];rfl]
 refine c29l (a:=[]) (h:=V3 d.length) (e:=bh d) (λw4 w6 w7=>?_) (d8 _) rfl (vE hl)
 have st:small (bh d/131072+bh d%131072*32768):=by exact⟨(e7 (by decide) (j4 (r8 hb.1 (by decide)) (t8 (e6 (by decide) (j5 _ (by decide))) (e6 (by decide) (g6 _))))),(e8 (j4 (v8 (by decide) (i5 hb.2)) (A7 (i5 (j7 _ (by decide))) (g6 _) (e6 (by decide) (g6 _)) (by decide))) (by decide))⟩
 have m1:mid (p:Int):=by exact⟨(e7 (by decide) (g8 _)),(e8 (m5.mpr hp) (by decide))⟩
 walk_at "m"
 refine kA (n:=p) (λi=>.int ((bh d+(i:Int)*turn (bh d))%4294967296%w)) (b6 hp (by decide)) ?_ λi acc M hi l1 hM=>?_
 ·rw[←oq,show (eO 0 p).map _=(gh d p w).map AV.int from qO]
  exact k
 ·exact O0 rfl (nP.mk st (nP.mk (by decide) (nP.mk hw (nP.mk l1 hM))))
noncomputable def bG(b:Int):Int:=if b*69/100<1 then 1 else if 30<b*69/100 then 30 else b*69/100
theorem aj{b:Int}:1≤bG b∧bG b≤30:=by
 unfold bG;split
 ·exact⟨(by decide),(by decide)⟩
 ·split
  ·decide
  ·next q q'=>exact⟨r6.mp q,r6.mp q'⟩
noncomputable def BL(b:Int):AV:=.inst 16 [(76,.int b),(77,.int (bG b))]
theorem fI{b:Int}(h0:1≤b)(k:∀H',Kq [] H H'→K (BL b) H'):cc (r+2) 16 [.int b] H K X:=by
 have h:=Own.nil (S:=[]) (H:=H)
 refine L.cls rfl ?_
 walk_at "w"
 refine L.call rfl ?_
 walk_at "m"
 unfold BL bG at k
 refine R7 (λq=>?_) (λq=>?_)
 ·rw[if_pos q] at k
  walk_at "m"
  refine⟨rfl,Or.inr ?_⟩
  walk_at "m"
  exact k _ (Own.keep (by assumption))
 ·rw[if_neg q] at k
  refine R7 (λq'=>?_) (λq'=>?_)
  ·rw[if_pos q'] at k
   walk_at "m"
   refine⟨rfl,Or.inr ?_⟩
   walk_at "m"
   exact k _ (Own.keep (by assumption))
  ·rw[if_neg q'] at k
   walk_at "m"
   refine⟨rfl,Or.inr ?_⟩
   walk_at "m"
   exact k _ (Own.keep (by assumption))
noncomputable def Q9(l:List Int)(s:Int):Bool:=decide (l.getD (s/8).toNat 0/2^(s%8).toNat%2≠0)
noncomputable def sT(b:Int)(k:Nat):Int:=if b/2^k%2=0 then b+2^k else b
noncomputable def jT(l:List Int)(s:Int):List Int:=l.set (s/8).toNat (sT (l.getD (s/8).toNat 0) (s%8).toNat)
noncomputable def jS(l:List Int):List Int→List Int
 |[]=>l
 |s::ss=>jS (jT l s) ss
theorem Aj:∀b:Nat,b<256→∀k:Nat,k<8→((P5 b (hF 1 k)=0)=((b:Int)/2^k%2=0))∧iU b (hF 1 k)=sT b k∧sT b k<256:=by
 have:∀b:Nat,b<256→∀k:Nat,k<8→(decide (P5 b (hF 1 k)=0)=decide ((b:Int)/2^k%2=0))∧iU b (hF 1 k)=sT b k∧sT b k<256:=by decide +kernel
 intro b hb k hk
 have h:=this b hb k hk
 refine⟨?_,h.2⟩
 have h1:=h.1
 by_cases q:P5 b (hF 1 k)=0
 ·rw[decide_eq_true q] at h1;exact propext ⟨λ_=>of_decide_eq_true h1.symm,λ_=>q⟩
 ·rw[decide_eq_false q] at h1;exact propext ⟨λx=>absurd x q,λx=>absurd x (of_decide_eq_false h1.symm)⟩
theorem sP{b:Int}{k:Nat}(h:0≤b∧b<256)(hk:k<8):(P5 b (hF 1 k)=0)=(b/2^k%2=0):=by
 refine eX11 (A1 h.1) λn zq1=>?_;subst zq1
 exact(Aj n (j1.mp h.2) k hk).1
theorem pG{b:Int}{k:Nat}(h:0≤b∧b<256)(hk:k<8):iU b (hF 1 k)=sT b k∧0≤sT b k∧sT b k<256:=by
 refine eX11 (A1 h.1) λn zq2=>?_;subst zq2
 have:=(Aj n (j1.mp h.2) k hk).2
 exact⟨this.1,this.1▸mD,this.2⟩
theorem tw{h:Int}(h0:0≤h)(h1:h<4294967296):P5 (iU (cH h 17) (hF h 15)) 4294967295=turn h:=by
 have p:0≤iU (cH h 17) (hF h 15):=mD
 rw[bx p,show iU (cH h 17) (hF h 15)=cH h 17+h*2^15 from mL (eC h0) (show h/131072<32768 by exact e8 (v8 (by decide) (i5 h1)) (by decide)) h0]
 have e:=rot (x:=h) (k:=131072) (m:=32768) (C:=0)
 rw[G8,G8] at e
 refine e.trans (J9 (C4 (r8 h0 (by decide)) (t8 (j5 _ (by decide)) (by decide))) ?_)
 have a:h/131072<32768:=v7 (by decide) h1
 have b:=j7 h (show (0:Int)<131072 by decide)
 exact e7 (cn a (Int.mul_le_mul_of_nonneg_right (show h%131072≤131071 from Int.le_of_lt_add_one b) (by decide))) (by decide)
noncomputable def lets(held d:List Int)(p:Nat):Bool:=(gh d p (8*((held.length:Int)-1))).all (Q9 held)
theorem jf{h w:Int}{i:Int}(hw:0<w):0≤(h+i*turn h)%4294967296%w∧(h+i*turn h)%4294967296%w<w:=⟨j5 _ (Q5 hw),j7 _ hw⟩
theorem uA{h i:Int}:((h+i*turn h)%4294967296+turn h)%4294967296=(h+(i+1)*turn h)%4294967296:=by
 rw[Int.emod_add_emod,cO,Int.one_mul,B6]
theorem qJ{h:Int}(h0:0≤h)(h1:h<4294967296):0≤turn h∧turn h<4294967296:=by unfold turn;exact⟨(j4 (r8 h0 (by decide)) (t8 (e6 (by decide) (j5 _ (by decide))) (e6 (by decide) (g6 _)))),(e8 (j4 (v8 (by decide) (i5 h1)) (A7 (i5 (j7 _ (by decide))) (g6 _) (e6 (by decide) (g6 _)) (by decide))) (by decide))⟩
theorem gM{l:List Int}(h:B7 l){i:Nat}(hi:i<l.length):0≤l.getD i 0∧l.getD i 0<256:=by
 rw[t5,J1 hi];exact h _ (dz hi)
theorem Ex{s W:Int}{n:Nat}(h:0≤s∧s<W)(hn:W≤8*(n:Int)):within (s/8) n∧(s/8).toNat<n∧within (s%8) 1000∧(s%8).toNat<8:=
 have a0:0≤s/8:=r8 h.1 (by decide)
 have a1:s/8<n:=v7 (by decide) (B3 (n:Int) 8▸e7 h.2 hn)
 have b0:0≤s%8:=j5 _ (by decide)
 have b1:s%8<8:=j7 _ (by decide)
 ⟨⟨a0,a1⟩,(E9 a0).mpr a1,⟨b0,bD b1 (by decide)⟩,(E9 b0).mpr b1⟩
noncomputable def EG:T:=body (nth f83.body 6)
theorem c83l{I:Itf}{W h:Int}{bv dv pv:AV}{held:List Int}{N:KN}{R:KE}(hh:B7 held)(w0:0<W)(w1:W≤8*(held.length:Int))(t0:0≤turn h){j:Nat}:∀{i:Nat} {w7 w8:AV},((gj h W j i).all (Q9 held)=true→∀v w7 w8,N [bv,dv,.bytes held,pv,.int W,v,.int (turn h),w7,w8] H)→((gj h W j i).all (Q9 held)=false→R (.bool false) H) →
  ar [7] none (wR (wpS I EG) R) N (I4 j i 1) [bv,dv,.bytes held,pv,.int W,.int ((h+(i:Int)*turn h)%4294967296),.int (turn h),w7,w8] H:=by
 induction j with
 |zero=>intro i w7 w8 k1 _;exact k1 rfl _ _ _
 |succ j ih=>
  intro i w7 w8 k1 k2
  have hs:=jf (h:=h) (i:=i) w0
  refine eX04 (Ex hs w1) λa1 a2 a3 a4=>?_
  have p0:0≤(h+i*turn h)%4294967296:=j5 _ (by decide)
  have e:(gj h W (j+1) i).all (Q9 held)=(Q9 held ((h+i*turn h)%4294967296%W)&&(gj h W j (i+1:Nat)).all (Q9 held)):=rfl
  have bl:=sP (gM hh a2) a4
  refine nP.mk w0 (nP.mk (by decide) (nP.mk (by decide) (nP.mk a1 λq=>nP.mk (by decide) (nP.mk (by decide) (nP.mk a3 (nP.mk q.1 (nP.mk (iq (by decide)) (R7 (λz=>?_) λz=>?_))))))))
  ·refine k2 (e.trans ?_)
   unfold Q9
   rw[decide_eq_false λn=>n (bl▸z)];rfl
  ·refine nP.mk (C4 p0 t0) (nP.mk (by decide) ?_)
   rw[bx (C4 p0 t0),uA]
   have bt:Q9 held ((h+i*turn h)%4294967296%W)=true:=decide_eq_true λn=>z (bl▸n)
   rw[bt,aH] at e
   rw[e] at k1 k2
   exact ih (i:=i+1) k1 k2
theorem c83{b:Int}{d held:List Int}{p:Nat}(ho:B7 d)(hl:d.length≤5)(hh:B7 held)(h2:2≤held.length)(hm:held.length≤1000)(hp:held.getD (held.length-1) 0=p)(p1:p≤30)(k:K (.bool (lets held d p)) H):c (r+3) 83 [BL b,.bytes d,.bytes held] H K X:=by
 have hb:=wB hl
 have ht:=qJ hb.1 hb.2
 have hw:0<8*((held.length:Int)-1):=by exact e7 (by decide) (A7 (g6 _) (o8 (m5.mpr h2) (g6 _)) (by decide) (e6 (by decide) (g6 _)))
 have e:((held.length:Int)-1).toNat=held.length-1:=O4 held.length 1
 have s1:small (bh d):=by exact⟨(e7 (by decide) hb.1),(e8 (i5 hb.2) (by decide))⟩
 have n1:=hb.1
 refine L.call rfl ?_
 walk_at "m"
 rw[e,hp]
 intro _
 walk_at "m"
 refine c14 ho hl ?_
 walk_at "m"
 rw[show Int.toNat 17=17 from rfl,show Int.toNat 15=15 from rfl,tw hb.1 hb.2]
 walk_at "m"
 rw[B3 ((held.length:Int)-1) 8]
 have go:=c83l (I:=Iv c cc (r+2)) (H:=H) (h:=bh d) (bv:=BL b) (dv:=.bytes d) (pv:=.int p) (N:=λρ H=>wpS (Iv c cc (r+2)) (S2 f83.body 7) ρ H (λ_ H=>K .none H) K λc _ H=>X c H) (R:=K) hh hw (D3 (aT _ (by decide)) (by decide)) ht.1 (j:=p) (i:=0) (w7:=.U) (w8:=.U) (λz v w7 w8=>by rw[show lets held d p=true from z] at k;exact k) (λz=>by rw[show lets held d p=false from z] at k;exact k)
 rw[show (bh d+((0:Nat):Int)*turn (bh d))%4294967296=bh d by rw[Int.natCast_zero,Int.zero_mul,G8];exact J9 hb.1 hb.2] at go
 exact go
theorem bR{h w:Int}(hw:0<w):∀{j:Nat} {i:Int},∀x∈gj h w j i,0≤x∧x<w
 |0,_,x,m=>nomatch m
 |j+1,i,x,m=>by
  rcases l5.mp m with rfl | m
  ·exact jf hw
  ·exact bR hw x m
theorem CO{j:Nat}(h:j<8):0<pw 2 j∧small (pw 2 j):=by
 have:∀j,j<8→0<pw 2 j∧small (pw 2 j):=by decide
 exact this j h
noncomputable def EI:T:=body (nth f31.body 0)
theorem c31l{I:Itf}{W:Int}{held:List Int}{dv:AV}{N:KN}{R:KE}(w1:W≤8*(held.length:Int)):∀{l:List Int} {w2:AV},(∀x∈l,0≤x∧x<W)→(l.all (Q9 held)=true→∀w2,N [.bytes held,dv,w2] H)→(l.all (Q9 held)=false→R (.bool false) H) →
  ar [2] none (wR (wpS I EI) R) N (l.map .int) [.bytes held,dv,w2] H:=by
 intro l
 induction l with
 |nil=>intro w2 _ k1 _;exact k1 rfl _
 |cons s l ih=>
  intro w2 hs k1 k2
  refine eX04 (Ex (hs s (.head _)) w1) λa1 a2 a3 a4=>?_
  have pp:=CO a4
  have e:(s::l).all (Q9 held)=(Q9 held s&&l.all (Q9 held)):=rfl
  refine nP.mk (by decide) (nP.mk (by decide) (nP.mk a1 λq=>nP.mk (by decide) (nP.mk (by decide) (nP.mk a3 (nP.mk pp.1 (nP.mk pp.2 (nP.mk (by decide) (R7 (λz=>?_) λz=>?_))))))))
  ·exact k2 (e.trans (by rw[show Q9 held s=false from decide_eq_false λn=>n z];rfl))
  ·rw[show Q9 held s=true from decide_eq_true z,aH] at e
   rw[e] at k1 k2
   exact ih (λx hx=>hs x (.tail _ hx)) k1 k2
theorem c31{d held:List Int}{p:Nat}(ho:B7 d)(hl:d.length≤5)(hh:B7 held)(h2:2≤held.length)(hm:held.length≤1000)(hp:held.getD (held.length-1) 0=p)(p1:p≤30)(k:K (.bool (lets held d p)) H):c (r+2) 31 [.bytes held,.bytes d] H K X:=by
 refine L.call rfl ?_
 have e:((held.length:Int)-1).toNat=held.length-1:=O4 held.length 1
 have hw:0<8*((held.length:Int)-1):=by exact e7 (by decide) (A7 (g6 _) (o8 (m5.mpr h2) (g6 _)) (by decide) (e6 (by decide) (g6 _)))
 walk_at "m"
 rw[e,hp]
 intro _
 walk_at "m"
 refine c29 ho hl (b6 p1 (by decide)) hw ?_
 exact c31l (N:=λρ H=>wpS (Iv c cc (r+1)) (S2 f31.body 1) ρ H (λ_ H=>K .none H) K λc _ H=>X c H) (R:=K) (w2:=.U) (D3 (aT _ (by decide)) (by decide)) (bR hw) (λz w2=>by rw[show lets held d p=true from z] at k;exact k) (λz=>by rw[show lets held d p=false from z] at k;exact k)
theorem gE{l:List Int}{s:Int}:(jT l s).length=l.length:=aS
theorem gD{l:List Int}{s:Int}(h:B7 l)(hs:0≤s∧s<8*(l.length:Int)):B7 (jT l s):=by
 intro x hx
 rcases List.mem_or_eq_of_mem_set hx with m | rfl
 ·exact h x m
 ·exact(pG (gM h ((E9 (r8 hs.1 (by decide))).mpr (v7 (by decide) (e7 hs.2 (l7 (B3 _ _)))))) (g9 ((A2 (n:=7)).mpr (i5 (j7 _ (by decide)))) (by decide))).2
theorem eF{ss:List Int}:∀{l:List Int},(jS l ss).length=l.length:=by
 induction ss with
 |nil=>intro l;rfl
 |cons s ss ih=>intro l;exact ih.trans gE
theorem jR{ss:List Int}:∀{l:List Int},B7 l→(∀x∈ss,0≤x∧x<8*(l.length:Int))→B7 (jS l ss):=by
 induction ss with
 |nil=>intro l h _;exact h
 |cons s ss ih=>intro l h hs;exact ih (gD h (hs s (.head _))) (λx hx=>by rw[gE];exact hs x (.tail _ hx))
noncomputable def EH:T:=body (nth (body (nth f82.body 5)) 2)
theorem c82l{I:Itf}{W h:Int}{n o:Nat}{a0 a1 a2 a3 a6:AV}{N:KN}{R:KE}(w0:0<W)(w1:W≤8*(n:Int))(t0:0≤turn h){j:Nat}:∀{i:Nat} {w9 w10:AV} {l:List Int} {H:Hp},get H o = .barr l→l.length=n→B7 l→(∀H' v w9 w10,Kq [o] H H'→get H' o = .barr (jS l (gj h W j i))→N [a0,a1,a2,a3,.int W,.ref o,a6,v,.int (turn h),w9,w10] H') →
  ar [9] none (wR (wpS I EH) R) N (I4 j i 1) [a0,a1,a2,a3,.int W,.ref o,a6,.int ((h+(i:Int)*turn h)%4294967296),.int (turn h),w9,w10] H:=by
 induction j with
 |zero=>intro i w9 w10 l H g _ _ k;exact k _ _ _ _ Kq.refl g
 |succ j ih=>
  intro i w9 w10 l H g hl ol k
  have hs:=jf (h:=h) (i:=i) w0
  refine eX04 (Ex hs w1) λa1 a2 a3 a4=>?_
  have p0:0≤(h+i*turn h)%4294967296:=j5 _ (by decide)
  rw[←hl] at a1 a2
  have bl:=pG (gM ol a2) a4
  refine nP.mk w0 (nP.mk (by decide) (nP.mk (by decide) ?_))
  refine rdLB.b g (nP.mk a1 λq=>nP.mk (by decide) (nP.mk (by decide) (nP.mk a3 (nP.mk q.1 (nP.mk (iq (by decide)) ?_)))))
  refine nP.mk (by decide) (nP.mk (by decide) (rdLB.b g (nP.mk (bl.1▸bl.2) (nP.mk a1 (Own.w0 (Own.one g) bN λH1 h1=>?_)))))
  refine nP.mk (C4 p0 t0) (nP.mk (by decide) ?_)
  rw[bx (C4 p0 t0),uA]
  refine ih (i:=i+1) (h1.g0.trans (congrArg (λx=>Cell.barr (l.set _ x)) bl.1)) ((aS).trans hl) (gD (s:=(h+i*turn h)%4294967296%W) ol (by rw[hl];exact⟨hs.1,e7 hs.2 w1⟩)) λH' v w9 w10 k' g'=>k _ _ _ _ (h1.keep.trans_ k') g'
theorem c82k{kv w7 w8 w9 w10:AV}{b wn ln:Int}{n:Nat}{o:Nat}{d l:List Int}{N:KN}{R:KE}{Y:XS}(ho:B7 d)(hd:d.length≤5)(hn:0<n)(hn':n≤900)(hl:l.length=n)(ol:B7 l)(g:get H o = .barr l)
  (k:∀H' w7 w8 w9 w10,Kq [o] H H'→get H' o = .barr (jS l (gh d (bG b).toNat (8*(n:Int))))→N [BL b,kv,.int wn,.int ln,.int (8*(n:Int)),.ref o,.bytes d,w7,w8,w9,w10] H') :
  wpS (Iv c cc (r+2)) (body (nth f82.body 5)) [BL b,kv,.int wn,.int ln,.int (8*(n:Int)),.ref o,.bytes d,w7,w8,w9,w10] H N R Y:=by
 refine c14 ho hd ?_
 have hb:=wB hd
 have s1:small (bh d):=by exact⟨(e7 (by decide) hb.1),(e8 (i5 hb.2) (by decide))⟩
 have n1:=hb.1
 have hp:=aj (b:=b)
 have ep:bG b=((bG b).toNat:Int):=by exact(C9 (e6 (by decide) hp.1)).symm
 walk_at "m"
 rw[show Int.toNat 17=17 from rfl,show Int.toNat 15=15 from rfl,tw hb.1 hb.2]
 have ht:=qJ hb.1 hb.2
 walk_at "m"
 have hw:0<8*(n:Int):=by exact e7 (by decide) (A7 (g6 _) (m5.mpr (S3 hn)) (by decide) (e6 (by decide) (g6 _)))
 have go:=c82l (I:=Iv c cc (r+2)) (h:=bh d) (a0:=BL b) (a1:=kv) (a2:=.int wn) (a3:=.int ln) (a6:=.bytes d) (N:=N) (R:=R) (w9:=w9) (w10:=w10) hw (g6 _) ht.1 (j:=(bG b).toNat) (i:=0) g hl ol λH' v w9 w10 k' g'=>k _ _ _ _ _ k' g'
 rw[show (bh d+((0:Nat):Int)*turn (bh d))%4294967296=bh d by rw[Int.natCast_zero,Int.zero_mul,G8];exact J9 hb.1 hb.2] at go
 exact go
noncomputable def CZ(o:Option (Nat×List AV))(H:Hp):Prop:=match o with
 |none=>True
 |some p=>get H p.1 = .list p.2
theorem eR{o:Option (Nat×List AV)}{H:Hp}{F:Prop}(h:CZ o H)(f:F):same o H F:=by
 cases o with
 |none=>exact f
 |some p=>exact⟨h,f⟩
noncomputable def gB(b:Int)(n:Nat)(l:List Int):List (List Int)→List Int
 |[]=>l
 |d::ks=>gB b n (jS l (gh d (bG b).toNat (8*(n:Int)))) ks
theorem dt{b:Int}{n:Nat}{ks:List (List Int)}:∀{l:List Int},(gB b n l ks).length=l.length:=by
 induction ks with
 |nil=>intro l;rfl
 |cons d ks ih=>intro l;exact ih.trans eF
theorem oU{b:Int}{n:Nat}(hn:0<n){ks:List (List Int)}:∀{l:List Int},l.length=n→B7 l→B7 (gB b n l ks):=by
 induction ks with
 |nil=>intro l _ h;exact h
 |cons d ks ih=>intro l hl h;exact ih (eF.trans hl) (jR h (λx hx=>by rw[hl];exact bR (e7 (by decide) (A7 (g6 _) (m5.mpr (S3 hn)) (by decide) (e6 (by decide) (g6 _)))) x hx))
noncomputable def N0(k:Nat)(b:Int):Nat:=if (k:Int)*b<64 then 8 else (((k:Int)*b+7)/8).toNat
noncomputable def P6(b:Int)(ks:List (List Int)):List Int:=gB b (N0 ks.length b) (l6 (N0 ks.length b) 0) ks++[bG b]
theorem eS{n:Nat}:B7 (l6 n 0):=λx h=>by rw[(List.mem_replicate.mp h).2];decide
noncomputable def au(ks:List (List Int)):Prop:=∀d∈ks,B7 d∧d.length≤5
theorem c82c{kv:AV}{chk:Option (Nat×List AV)}{b wn ln:Int}{n:Nat}{o:Nat}{ks:List (List Int)}{N:KN}{R:KE}(hk:au ks)(hn:0<n)(hn':n≤900):
  ∀{l:List Int} {w6 w7 w8 w9 w10:AV} {H:Hp},l.length=n→B7 l→get H o = .barr l→(∀H',Kq [o] H H'→CZ chk H') →
  (∀H' w6 w7 w8 w9 w10,Kq [o] H H'→get H' o = .barr (gB b n l ks)→N [BL b,kv,.int wn,.int ln,.int (8*(n:Int)),.ref o,w6,w7,w8,w9,w10] H') →
  ar [6] chk (λρ H N=>wpS (Iv c cc (r+2)) (body (nth f82.body 5)) ρ H N R T8) N (ks.map .bytes) [BL b,kv,.int wn,.int ln,.int (8*(n:Int)),.ref o,w6,w7,w8,w9,w10] H:=by
 induction ks with
 |nil=>intro l w6 w7 w8 w9 w10 H hl ol g hc k;exact eR (hc _ Kq.refl) (k _ _ _ _ _ _ Kq.refl g)
 |cons d ks ih=>
  intro l w6 w7 w8 w9 w10 H hl ol g hc k
  have hd:=hk d (.head _)
  refine eR (hc _ Kq.refl) ?_
  refine c82k hd.1 hd.2 hn hn' hl ol g λH1 _ _ _ _ k1 g1=>?_
  exact ih (λx hx=>hk x (.tail _ hx)) (eF.trans hl) (jR ol (λx hx=>by rw[hl];exact bR (e7 (by decide) (A7 (g6 _) (m5.mpr (S3 hn)) (by decide) (e6 (by decide) (g6 _)))) x hx)) g1 (λH' k'=>hc _ (k1.trans_ k')) λH2 w6 w7 w8 w9 w10 k2 g2=>k _ _ _ _ _ _ (k1.trans_ k2) g2
theorem bq{k:Nat}{b:Int}(h0:1≤b)(h1:b≤100)(hk:k≤64):8≤N0 k b∧N0 k b≤900:=by
 have h:(k:Int)*b≤64*100:=A7 (m5.mpr hk) h1 (e6 (by decide) h0) (by decide)
 unfold N0
 split<;>lia -abstractProof
theorem c82r{b:Int}{m:Nat}{ks:List (List Int)}(h0:1≤b)(h1:b≤100)(hk:au ks)(hl:ks.length≤64)(g:get H m = .list (ks.map .bytes))(k:∀H',Kq [] H H'→K (.bytes (P6 b ks)) H'):c (r+3) 82 [BL b,.ref m] H K X:=by
 refine L.call rfl ?_
 have h:=Own.nil (S:=[]) (H:=H)
 have hn:=bq h0 h1 hl
 have hp:=aj (b:=b)
 have sb:small b:=by exact⟨(e7 (by decide) h0),(e8 h1 (by decide))⟩
 walk_at "m"
 rw[r7]
 have fin:∀(n:Nat) (hN:n=N0 ks.length b) (wn:Int) (o:Nat) (H1:Hp),Own [] H H1 [(o,.barr (l6 n 0))]→ar [6] (some (m,ks.map .bytes)) (λρ H N=>wpS (Iv c cc (r+2)) (body (nth f82.body 5)) ρ H N K T8)
   (λρ H=>wpS (Iv c cc (r+2)) (.cons (.ex (.callL (.loc 5) 0 (.cons (.attr (.loc 0) 77) .nil))) (.cons (.ret (.callB 1 (.cons (.loc 5) .nil))) .nil)) ρ H (λ_ H=>K .none H) K λc _ H=>X c H)
   (ks.map .bytes) [BL b,.ref m,.int wn,.int n,.int (8*(n:Int)),.ref o,.U,.U,.U,.U,.U] H1:=by
  intro n hN wn o H1 h
  have ne:m≠o:=λe=>W7 _ (i8 (mP g) (e▸h.ge0))
  have g1:get H1 m = .list (ks.map .bytes):=h.keep.list0 g
  refine c82c hk (i8 (i8 (by decide) hn.1) (j6 hN.symm)) (b6 (j6 hN) hn.2) n7 eS h.g0 (λH' k'=>k'.list g1 (λq=>ne (i6.mp q))) λH2 w6 w7 w8 w9 w10 k2 g2=>?_
  have h2:Own [] H H2 [(o,.barr (gB b n (l6 n 0) ks))]:=⟨h.keep.trans k2 (λx q=>by rw[i6.mp q];exact Or.inr h.ge0),λp q=>by rw[i6.mp q];exact g2,Cp,λp q=>by rw[i6.mp q];exact Or.inr h.ge0⟩
  have l1:(gB b n (l6 n 0) ks).length<K8:=by rw[dt,n7,B4];exact g9 (j6 hN) (g9 hn.2 (by decide))
  walk_at "m"
  subst hN
  exact k _ (Own.keep (by assumption))
 refine R7 (λq=>?_) (λq=>?_)
 ·have e:N0 ks.length b=8:=if_pos q
  walk_at "m"
  rename_i h
  have g1:=h.keep.list0 g
  walk_at "m"
  exact fin 8 e.symm _ _ _ h
 ·have e:N0 ks.length b=(((ks.length:Int)*b+7)/8).toNat:=if_neg q
  have e2:((ks.length:Int)*b+7)/8=(N0 ks.length b:Nat):=by rw[e];exact(C9 (e6 (by decide) (v8 (by decide) (j4 (r6.mp q) (g6 _))))).symm
  have w1:within (((ks.length:Int)*b+7)/8) 100000:=by exact⟨(e6 (by decide) (e6 (e6 (v8 (by decide) (j4 (r6.mp q) (g6 _))) (l7 e2)) (l7 e2.symm))),(e8 (v8 (by decide) (j4 (A7 (m5.mpr hl) h1 (e6 (by decide) h0) (by decide)) (g6 _))) (by decide))⟩
  walk_at "m"
  rename_i h
  rw[e2] at *
  rw[B3 (N0 ks.length b:Int) 8]
  have g1:=h.keep.list0 g
  walk_at "m"
  exact fin _ rfl _ _ _ h
theorem c82f{b:Int}{ks:List (List Int)}(h0:1≤b)(h1:b≤100)(hk:au ks)(hl:ks.length≤64)(k:∀H',Kq [] H H'→K (.bytes (P6 b ks)) H'):c (r+3) 82 [BL b,.fl (ks.map .bytes)] H K X:=by
 refine L.call rfl ?_
 have h:=Own.nil (S:=[]) (H:=H)
 have hn:=bq h0 h1 hl
 have hp:=aj (b:=b)
 have sb:small b:=by exact⟨(e7 (by decide) h0),(e8 h1 (by decide))⟩
 walk_at "m"
 rw[r7]
 have fin:∀(n:Nat) (hN:n=N0 ks.length b) (wn:Int) (o:Nat) (H1:Hp),Own [] H H1 [(o,.barr (l6 n 0))]→ar [6] none (λρ H N=>wpS (Iv c cc (r+2)) (body (nth f82.body 5)) ρ H N K T8)
   (λρ H=>wpS (Iv c cc (r+2)) (.cons (.ex (.callL (.loc 5) 0 (.cons (.attr (.loc 0) 77) .nil))) (.cons (.ret (.callB 1 (.cons (.loc 5) .nil))) .nil)) ρ H (λ_ H=>K .none H) K λc _ H=>X c H)
   (ks.map .bytes) [BL b,.fl (ks.map .bytes),.int wn,.int n,.int (8*(n:Int)),.ref o,.U,.U,.U,.U,.U] H1:=by
  intro n hN wn o H1 h
  refine c82c hk (i8 (i8 (by decide) hn.1) (j6 hN.symm)) (b6 (j6 hN) hn.2) n7 eS h.g0 (λH' k'=>trivial) λH2 w6 w7 w8 w9 w10 k2 g2=>?_
  have h2:Own [] H H2 [(o,.barr (gB b n (l6 n 0) ks))]:=⟨h.keep.trans k2 (λx q=>by rw[i6.mp q];exact Or.inr h.ge0),λp q=>by rw[i6.mp q];exact g2,Cp,λp q=>by rw[i6.mp q];exact Or.inr h.ge0⟩
  have l1:(gB b n (l6 n 0) ks).length<K8:=by rw[dt,n7,B4];exact g9 (j6 hN) (g9 hn.2 (by decide))
  walk_at "m"
  subst hN
  exact k _ (Own.keep (by assumption))
 refine R7 (λq=>?_) (λq=>?_)
 ·have e:N0 ks.length b=8:=if_pos q
  walk_at "m"
  rename_i h
  exact fin 8 e.symm _ _ _ h
 ·have e:N0 ks.length b=(((ks.length:Int)*b+7)/8).toNat:=if_neg q
  have e2:((ks.length:Int)*b+7)/8=(N0 ks.length b:Nat):=by rw[e];exact(C9 (e6 (by decide) (v8 (by decide) (j4 (r6.mp q) (g6 _))))).symm
  have w1:within (((ks.length:Int)*b+7)/8) 100000:=by exact⟨(e6 (by decide) (e6 (e6 (v8 (by decide) (j4 (r6.mp q) (g6 _))) (l7 e2)) (l7 e2.symm))),(e8 (v8 (by decide) (j4 (A7 (m5.mpr hl) h1 (e6 (by decide) h0) (by decide)) (g6 _))) (by decide))⟩
  walk_at "m"
  rename_i h
  rw[e2] at *
  rw[B3 (N0 ks.length b:Int) 8]
  exact fin _ rfl _ _ _ h
theorem og{n:Nat}:rep (n:Int) [AV.int 0]=(l6 n 0).map .int:=by
 unfold rep
 rw[t7]
 induction n with
 |zero=>rfl
 |succ n ih=>rw[C1,C1,J8,ih];rfl
noncomputable def CD:T:=body (nth (body (nth f30.body 2)) 0)
theorem tN{l:List Int}{i:Nat}:l.set i (l.getD i 0)=l:=by
 apply List.ext_getElem
 ·rw[aS]
 ·intro j h1 h2
  rw[List.getElem_set]
  split
  ·next e=>subst e;rw[t5,J1 h2];rfl
  ·rfl
theorem c30l{I:Itf}{W:Int}{n o:Nat}{a0 a1 a2 a4 a6:AV}{N:KN}{R:KE}(w1:W≤8*(n:Int)){ss:List Int}:∀{w5:AV} {l:List Int} {H:Hp},(∀x∈ss,0≤x∧x<W)→get H o = .list (l.map .int)→l.length=n→B7 l→(∀H' w5,Kq [o] H H'→get H' o = .list ((jS l ss).map .int)→N [a0,a1,a2,.ref o,a4,w5,a6] H') →
  ar [5] none (wR (wpS I CD) R) N (ss.map .int) [a0,a1,a2,.ref o,a4,w5,a6] H:=by
 induction ss with
 |nil=>intro w5 l H _ g _ _ k;exact k _ _ Kq.refl g
 |cons s ss ih=>
  intro w5 l H hs g hl ol k
  have hs1:=hs s (.head _)
  refine eX04 (Ex hs1 w1) λa1 a2 a3 a4=>?_
  rw[←hl] at a1 a2
  have lm:(l.map AV.int).length=l.length:=r7 _
  have a1':within (s/8) (l.map AV.int).length:=lm▸a1
  have pp:=CO a4
  have ex:(l.map AV.int).getD (s/8).toNat .U = .int (l.getD (s/8).toNat 0):=jZ a2
  have oc:B7 (jT l s):=gD ol (by rw[hl];exact⟨hs1.1,e7 hs1.2 w1⟩)
  have nx:∀{w5:AV} {H1:Hp},Kq [o] H H1→get H1 o = .list ((jT l s).map .int)→ar [5] none (wR (wpS I CD) R) N (ss.map .int) [_,_,_,.ref o,_,w5,_] H1:=λk1 g1=>ih (λx hx=>hs x (.tail _ hx)) g1 (gE.trans hl) oc λH' w5 k' g'=>k _ _ (k1.trans_ k') g'
  refine nP.mk (by decide) (nP.mk (by decide) (rdLB.l g (nP.mk a1' ?_)))
  rw[ex]
  refine nP.mk (by decide) (nP.mk (by decide) (nP.mk a3 (nP.mk pp.1 (nP.mk pp.2 (nP.mk (by decide) (R7 (λz=>?_) λz=>?_))))))
  ·refine nP.mk (by decide) (nP.mk (by decide) (.mk g (nP.mk a1' ?_)))
   rw[ex]
   refine nP.mk (by decide) (nP.mk (by decide) (nP.mk a3 (.mk g (nP.mk a1' (Own.w0 (Own.one g) lN λH1 h1=>nx h1.keep (h1.g0.trans (congrArg Cell.list ?_)))))))
   unfold jT sT
   rw[if_pos (show l.getD (s/8).toNat 0/2^(s%8).toNat%2=0 from z),List.map_set];rfl
  ·refine nx Kq.refl (g.trans (congrArg (λ(x:List Int)=>Cell.list (x.map .int)) ?_))
   unfold jT sT
   rw[if_neg (show ¬l.getD (s/8).toNat 0/2^(s%8).toNat%2=0 from z),tN]
theorem c30k{kv w5 w6:AV}{b:Int}{n:Nat}{o:Nat}{d l:List Int}{N:KN}{R:KE}{Y:XS}(ho:B7 d)(hd:d.length≤5)(hn:0<n)(hn':n≤900)(hl:l.length=n)(ol:B7 l)(g:get H o = .list (l.map .int))
  (k:∀H' w5,Kq [o] H H'→get H' o = .list ((jS l (gh d (bG b).toNat (8*(n:Int)))).map .int)→N [.int b,kv,.int (bG b),.ref o,.bytes d,w5,w6] H') :
  wpS (Iv c cc (r+1)) (body (nth f30.body 2)) [.int b,kv,.int (bG b),.ref o,.bytes d,w5,w6] H N R Y:=by
 have hp:=aj (b:=b)
 have hw:0<8*(n:Int):=by exact e7 (by decide) (A7 (g6 _) (m5.mpr (S3 hn)) (by decide) (e6 (by decide) (g6 _)))
 have ep:bG b=((bG b).toNat:Nat):=by exact(C9 (e6 (by decide) hp.1)).symm
 walk_at "m"
 show Ic _ _ (l.map AV.int).length
 rw[r7,hl]
 walk_at "m"
 rw[ep]
 refine c29 (p:=(bG b).toNat) ho hd (A2.mpr (e6 hp.2 (by decide))) hw ?_
 rw[←ep]
 exact c30l (g6 _) (bR hw) g hl ol λH' w5 k' g'=>k _ _ k' g'
theorem c30c{kv:AV}{chk:Option (Nat×List AV)}{b:Int}{n:Nat}{o:Nat}{ks:List (List Int)}{N:KN}{R:KE}(hk:au ks)(hn:0<n)(hn':n≤900):
  ∀{l:List Int} {w4 w5 w6:AV} {H:Hp},l.length=n→B7 l→get H o = .list (l.map .int)→(∀H',Kq [o] H H'→CZ chk H') →
  (∀H' w4 w5 w6,Kq [o] H H'→get H' o = .list ((gB b n l ks).map .int)→N [.int b,kv,.int (bG b),.ref o,w4,w5,w6] H') →
  ar [4] chk (wR (wpS (Iv c cc (r+1)) (body (nth f30.body 2))) R) N (ks.map .bytes) [.int b,kv,.int (bG b),.ref o,w4,w5,w6] H:=by
 induction ks with
 |nil=>intro l w4 w5 w6 H hl ol g hc k;exact eR (hc _ Kq.refl) (k _ _ _ _ Kq.refl g)
 |cons d ks ih=>
  intro l w4 w5 w6 H hl ol g hc k
  have hd:=hk d (.head _)
  refine eR (hc _ Kq.refl) ?_
  refine c30k hd.1 hd.2 hn hn' hl ol g λH1 _ k1 g1=>?_
  exact ih (λx hx=>hk x (.tail _ hx)) (eF.trans hl) (jR ol (λx hx=>by rw[hl];exact bR (e7 (by decide) (A7 (g6 _) (m5.mpr (S3 hn)) (by decide) (e6 (by decide) (g6 _)))) x hx)) g1 (λH' k'=>hc _ (k1.trans_ k')) λH2 w4 w5 w6 k2 g2=>k _ _ _ _ (k1.trans_ k2) g2
theorem yJ{g:Int→Bool}{j:Nat}:∀{i:Int},(ny g j i).length≤j:=by
 induction j with
 |zero=>intro i;exact d8 0
 |succ j ih=>
  intro i
  show (bif g i then i::ny g j (i+1) else ny g j (i+1)).length≤j+1
  cases g i
  ·exact S4 ih
  ·exact E8 ih
theorem sE{b:Int}{ps:List Int}{F:Int→Prop}(h:∀p,p∈ps↔(1≤p∧p<1+(30:Nat))∧decide (100*p≤69*b)=true)(f:F (bG b)):vw (1::ps) F:=by
 intro m hm hx
 have key:∀{q:Int},1≤q→q≤30→100*q≤69*b→q≤m:=λa c d=>hx _ (.tail _ ((h _).mpr ⟨⟨a,by exact e8 c (by decide)⟩,decide_eq_true d⟩))
 have m1:=hx 1 (.head _)
 have lo:m=1∨(m≤30∧100*m≤69*b):=(l5.mp hm).imp id λz=>⟨by have:=((h m).mp z).1;exact i5 this.2,of_decide_eq_true ((h m).mp z).2⟩
 have mv:100*m≤69*b→m≤b*69/100:=λh=>Int.le_ediv_of_mul_le (by decide) (by rw[B3 m,B3 b];exact h)
 have:m=bG b:=by
  unfold bG
  split
  ·next q=>exact lo.elim id λe=>absurd (e8 (e6 m1 (mv e.2)) q) (A6 1)
  ·next q=>
   split
   ·next q'=>
    have a:=key (q:=30) (by decide) (by decide) (by rw[B3 69,B3 100];exact Int.mul_le_of_le_ediv (by decide) (A3 q'))
    exact lo.elim (λe=>absurd (e▸a) (by decide)) λe=>aU e.1 a
   ·next q'=>
    have a:=key (q:=b*69/100) (r6.mp q) (r6.mp q') (by rw[B3 69];exact Int.mul_ediv_self_le (by decide))
    exact lo.elim (λe=>aU (e6 (l7 e) (r6.mp q)) a) λe=>aU (mv e.2) a
 rw[this]
 exact f
theorem Jv{I:Itf}{b:Int}{kv w2 w3 w4 w5 w6:AV}{N:KN}{R:KE}{Y:XS}(sb:small b)(k:N [.int b,kv,.int (bG b),w3,w4,w5,w6] H):wpS I (nth f30.body 0) [.int b,kv,w2,w3,w4,w5,w6] H N R Y:=by
 refine nP.mk (by decide) (wc (λp=>decide (100*p≤69*b)) (λi acc M hi l1 m1 m2=>?_) (j:=30) (i:=1) (acc:=[]) (by decide) (by decide) (by decide) ?_)
 ·exact nP.mk (⟨(e7 (by decide) hi.1),(e8 (i5 hi.2) (by decide))⟩) (nP.mk sb (qu (λe=>nP.mk l1 (m1 e)) λe=>m2 e))
 ·refine nP.mk (by rw[B4];show 1+((ny _ 30 1).map AV.int).length≤_;rw[r7];exact b6 (O6 (yJ (j:=30)) 1) (by decide)) ?_
  show V5 (eJ ((1::ny _ 30 1).map .int)) _
  rw[eI]
  exact sE (λp=>yi) k
theorem Jg{I:Itf}{b:Int}{ks:List (List Int)}{n:Nat}{kv w2 w3 w4 w5 w6:AV}{N:KN}{R:KE}{Y:XS}(sb:small b)(hv:kv = .fl (ks.map .bytes)∨∃m,kv = .ref m∧get H m = .list (ks.map .bytes))(e3:(if 8<((ks.length:Int)*b+7)/8 then ((ks.length:Int)*b+7)/8 else 8)=(n:Int))(hn:n≤900)(k:∀o H',Own [] H H' [(o,.list ((l6 n 0).map .int))]→N [.int b,kv,w2,.ref o,w4,w5,w6] H'):wpS I (nth f30.body 1) [.int b,kv,w2,w3,w4,w5,w6] H N R Y:=by
 rw[←r7 (f:=AV.bytes)] at e3
 rcases hv with rfl | ⟨m,rfl,g⟩
 ·refine nP.mk sb (nP.mk (by decide) (nP.mk (by decide) (nP.mk rfl ?_)))
  rw[e3]
  refine nP.mk (e7 (by decide) (g8 _)) (nP.mk (j1.mpr (g9 hn (by decide))) ?_)
  rw[og]
  exact Own.new Own.nil (Own.of_live rfl) k
 ·refine rdLB.l g (nP.mk sb (nP.mk (by decide) (nP.mk (by decide) (nP.mk rfl ?_))))
  rw[e3]
  refine nP.mk (e7 (by decide) (g8 _)) (nP.mk (j1.mpr (g9 hn (by decide))) ?_)
  rw[og]
  exact Own.new Own.nil (Own.of_live rfl) k
theorem c30{b:Int}{kv:AV}{ks:List (List Int)}(h0:1≤b)(h1:b≤100)(hk:au ks)(hl:ks.length≤64)(hv:kv = .fl (ks.map .bytes)∨∃m,kv = .ref m∧get H m = .list (ks.map .bytes))(k:∀H',Kq [] H H'→K (.bytes (P6 b ks)) H'):c (r+2) 30 [.int b,kv] H K X:=by
 have hn:=bq h0 h1 hl
 have hp:=aj (b:=b)
 have sb:small b:=by exact⟨(e7 (by decide) h0),(e8 h1 (by decide))⟩
 have e3:(if 8<((ks.length:Int)*b+7)/8 then ((ks.length:Int)*b+7)/8 else 8)=((N0 ks.length b:Nat):Int):=by
  unfold N0
  split<;>split<;>lia -abstractProof
 refine L.call rfl ?_
 have go:wpS (Iv c cc (r+1)) f30.body [.int b,kv,.U,.U,.U,.U,.U] H (λ_ H=>K .none H) K λc _ H=>X c H:=by
  refine A5 (Jv sb (A5 (Jg sb hv e3 hn.2 λo H1 h=>A5 ?_)))
  have fin:∀(chk:Option (Nat×List AV)),(∀H',Kq [o] H1 H'→CZ chk H')→ar [4] chk (wR (wpS (Iv c cc (r+1)) (body (nth f30.body 2))) K)
    (λρ H=>wpS (Iv c cc (r+1)) (S2 f30.body 3) ρ H (λ_ H=>K .none H) K λc _ H=>X c H) (ks.map .bytes) [.int b,kv,.int (bG b),.ref o,.U,.U,.U] H1:=λchk hc=>by
   refine c30c hk (i8 (by decide) hn.1) hn.2 n7 eS h.g0 hc λH2 w4 w5 w6 k2 g2=>?_
   have ll:(gB b (N0 ks.length b) (l6 (N0 ks.length b) 0) ks).length=N0 ks.length b:=dt.trans n7
   refine nP.mk rfl (.mk g2 (nP.mk (by rw[r7,ll,B4];show _+1≤_;exact b6 (b7 hn.2 (d8 _)) (by decide)) ?_))
   show V5 (eJ ((gB b (N0 ks.length b) (l6 (N0 ks.length b) 0) ks).map AV.int++[bG b].map AV.int)) _
   rw[←I3,eI]
   have oo:B7 (gB b (N0 ks.length b) (l6 (N0 ks.length b) 0) ks++[bG b]):=(oU (i8 (by decide) hn.1) n7 eS).app (B7.cons (⟨(e6 (by decide) hp.1),(e8 hp.2 (by decide))⟩) B7.nil)
   refine nP.mk oo (nP.mk (by rw[d6,ll,B4];show _+1≤_;exact b6 (b7 hn.2 (d8 _)) (by decide)) (k _ (h.keep.own h.ge0 k2)))
  rcases hv with rfl | ⟨m,rfl,g⟩
  ·exact fin none λ_ _=>trivial
  ·have g1:=h.keep.list0 g
   have ne:m≠o:=λe=>W7 _ (i8 (mP g) (e▸h.ge0))
   exact .mk g1 (fin (some (m,_)) λH' k'=>k'.list g1 λq=>ne (i6.mp q))
 exact go
end
section
variable{r:Nat}{H:Hp}{K:KE}{X:XE}
noncomputable def jq(b:Int):List (List Int)→List Int
 |[]=>[]
 |d::ks=>P6 b (d::ks)
noncomputable def C7(b:Int):List (List (List Int))→List Int
 |[]=>[]
 |ks::cl=>jq b ks++C7 b cl
noncomputable def D8(b:Int)(o:Nat):List (List (List Int))→List Int
 |[]=>[]
 |ks::cl=>(o:Int)::D8 b (o+(jq b ks).length) cl
theorem ig{b:Int}{ks:List (List Int)}:∀{cl:List (List (List Int))},C7 b (cl++[ks])=C7 b cl++jq b ks
 |[]=>y7 _
 |k::cl=>by show jq b k++C7 b (cl++[ks])=_;rw[ig,←t6];rfl
theorem iK{b:Int}{ks:List (List Int)}:∀{cl:List (List (List Int))} {o:Nat},D8 b o (cl++[ks])=D8 b o cl++[((o+(C7 b cl).length:Nat):Int)]
 |[],o=>rfl
 |k::cl,o=>by
  show (o:Int)::D8 b _ (cl++[ks])=_
  rw[iK]
  show _::(_++_)=_::(_++[((o+(jq b k++C7 b cl).length:Nat):Int)])
  rw[d6,O2]
theorem M3{b:Int}:∀{cl:List (List (List Int))} {o:Nat},(D8 b o cl).length=cl.length
 |[],_=>rfl
 |_::_,_=>congrArg (· + 1) M3
noncomputable def Good(cl:List (List (List Int))):Prop:=∀ks∈cl,au ks∧ks.length≤64
theorem mY{b:Int}{ks:List (List Int)}(h0:1≤b)(h1:b≤100)(hk:ks.length≤64):(jq b ks).length≤901:=by
 cases ks with
 |nil=>exact j9 _
 |cons d ks=>
  have:=bq h0 h1 hk
  show (P6 b (d::ks)).length≤901
  unfold P6
  rw[d6,dt,n7];show _+1≤901;exact b7 this.2 (d8 _)
theorem eV{b:Int}(h0:1≤b)(h1:b≤100):∀{cl:List (List (List Int))},Good cl→(C7 b cl).length≤901*cl.length
 |[],_=>j9 _
 |ks::cl,h=>by
  have a:=mY h0 h1 (h ks (.head _)).2
  have b:=eV h0 h1 (cl:=cl) (λx hx=>h x (.tail _ hx))
  show (jq _ ks++C7 _ cl).length≤_
  rw[d6,m9];exact b6 (b7 a b) (j6 ((L3 _ _).trans (Nat.mul_succ _ _).symm))
theorem Good.snoc{cl:List (List (List Int))}{ks:List (List Int)}(h:Good cl)(hk:au ks∧ks.length≤64):Good (cl++[ks]):=λx hx=>(y6.mp hx).elim (h x) (λq=>by rw[i6.mp q];exact hk)
noncomputable abbrev fj(n ko oo fo:Nat)(b lg:Int)(cl:List (List (List Int)))(ks:List (List Int))(fin:Bool):List (Nat×Cell):=
 [(n,.dict [(78,BL b),(79,.int lg),(80,.ref ko),(81,.ref oo),(82,.ref fo),(61,.bool fin)]),(ko,.list (ks.map .bytes)),(oo,.list ((D8 b 0 cl).map .int)),(fo,.barr (C7 b cl))]
variable{n ko oo fo:Nat}{b lg:Int}{cl:List (List (List Int))}{ks:List (List Int)}{fin:Bool}
theorem Own.swap{S:List Nat}{H0 H:Hp}{p q:Nat×Cell}{ps:List (Nat×Cell)}(h:Own S H0 H (p::q::ps)):Own S H0 H (q::p::ps):=by
 have a:=M6.mp h.nd
 have b:=M6.mp a.2
 refine⟨h.keep,λx m=>h.cells x ?_,.cons (λx m=>?_) (.cons (λx m=>a.1 x (.tail _ m)) b.2),λx m=>h.own x ?_⟩
 ·rcases l5.mp m with rfl | m
  ·exact .tail _ (.head _)
  ·rcases l5.mp m with rfl | m
   ·exact .head _
   ·exact .tail _ (.tail _ m)
 ·rcases l5.mp m with rfl | m
  ·exact(a.1 q (.head _)).symm
  ·exact b.1 x m
 ·rcases l5.mp m with rfl | m
  ·exact .tail _ (.head _)
  ·rcases l5.mp m with rfl | m
   ·exact .head _
   ·exact .tail _ (.tail _ m)
theorem Own.re{S:List Nat}{H0 H:Hp}{ps:List (Nat×Cell)}(h:Own S H0 H ps):Own (ps.map Prod.fst) H H ps:=
 ⟨Kq.refl,h.cells,h.nd,λp m=>Or.inl (F7.mpr ⟨p,m,rfl⟩)⟩
theorem Own.seq{S:List Nat}{H0 H H':Hp}{ps qs:List (Nat×Cell)}(h:Own S H0 H ps)(k:Own (ps.map Prod.fst) H H' qs):Own S H0 H' qs:=by
 have hT:∀m∈ps.map Prod.fst,m∈S∨H0.length≤m:=λm q=>by
  refine eX12 (F7.mp q) λp mp zq1=>?_;subst zq1
  exact h.own p mp
 exact⟨h.keep.trans k.keep hT,k.cells,k.nd,λp m=>(k.own p m).elim (hT _) (λq=>Or.inr (b6 h.keep.len q))⟩
theorem Own.subl{S:List Nat}{H0 H:Hp}{ps qs:List (Nat×Cell)}(h:Own S H0 H ps)(s:qs.Sublist ps):Own S H0 H qs:=
 ⟨h.keep,λx m=>h.cells x (s.subset m),h.nd.sublist s,λx m=>h.own x (s.subset m)⟩
theorem Own.rot{S:List Nat}{H0 H:Hp}{p q s t:Nat×Cell}(h:Own S H0 H [p,q,s,t]):Own S H0 H [t,s,q,p]:=by
 have nd:=h.nd
 refine⟨h.keep,λx m=>h.cells x (P4.mp m),?_,λx m=>h.own x (P4.mp m)⟩
 exact(List.pairwise_reverse.mpr (nd.imp Ne.symm):([p,q,s,t].reverse).Pairwise _)
theorem uE(h0:0≤lg)(h1:lg≤31)(k:∀n ko oo fo H',Own [] H H' (fj n ko oo fo b lg [] [] false)→K (.obj 17 n) H'):cc (r+2) 17 [BL b,.int lg] H K X:=by
 have h:=Own.nil (S:=[]) (H:=H)
 refine L.cls rfl ?_
 walk_at "w"
 refine L.call rfl ?_
 walk_at "m"
 refine⟨rfl,Or.inl ?_⟩
 rename_i h
 exact k _ _ _ _ _ h.rot
theorem c86f{d:List Int}(h:Own [n,ko,oo,fo] H H (fj n ko oo fo b lg cl ks true))(k:X 7 H):c (r+1) 86 [.obj 17 n,.bytes d] H K X:=by
 refine L.call rfl ?_
 walk_at "m"
 exact k
theorem c86{d:List Int}(hl:ks.length≤64)(h:Own [n,ko,oo,fo] H H (fj n ko oo fo b lg cl ks false))(k:∀H',Own [n,ko,oo,fo] H H' (fj n ko oo fo b lg cl (ks++[d]) false)→K .none H'):c (r+1) 86 [.obj 17 n,.bytes d] H K X:=by
 refine L.call rfl ?_
 have l1:(ks.map AV.bytes).length<K8:=by rw[r7,B4];exact g9 hl (by decide)
 walk_at "m"
 rename_i h
 rw[show ks.map AV.bytes++[AV.bytes d]=(ks++[d]).map AV.bytes by rw[I3];rfl] at h
 exact k _ h
theorem c87(b0:1≤b)(b1:b≤100)(hg:Good cl)(hc:cl.length≤60)(hk:au ks∧ks.length≤64)(h:Own [n,ko,oo,fo] H H (fj n ko oo fo b lg cl ks false))(k:∀H' ko',Own [n,ko,oo,fo] H H' (fj n ko' oo fo b lg (cl++[ks]) [] false)→K .none H'):c (r+4) 87 [.obj 17 n] H K X:=by
 refine L.call rfl ?_
 have ho:=eV b0 b1 hg
 have l1:((D8 b 0 cl).map AV.int).length<K8:=by rw[r7,M3,B4];exact g9 hc (by decide)
 walk_at "m"
 rename_i h2
 rw[show (D8 b 0 cl).map AV.int++[AV.int ((C7 b cl).length:Int)]=(D8 b 0 (cl++[ks])).map AV.int by rw[iK,I3,J0];rfl] at h2
 cases ks with
 |nil=>
  have q:¬(0:Int)<(([]:List (List Int)).map AV.bytes).length:=by decide
  walk_at "m"
  rw[show C7 b cl=C7 b (cl++[[]]) by rw[ig];exact(y7 _).symm] at h2
  exact k _ _ h2
 |cons d ks=>
  have q:(0:Int)<((d::ks).map AV.bytes).length:=by rw[r7,m9];exact j1.mpr (i8 (by decide) (b6 (d8 _) (x9 _ _)))
  have fl:=mY b0 b1 hk.2
  walk_at "m"
  refine c82r b0 b1 hk.1 hk.2 h2.g1 λH3 k3=>?_
  have h3:=h2.call k3 (Own.of_live rfl)
  have l2:(C7 b cl).length+(P6 b (d::ks)).length≤K8:=by
   have:(P6 b (d::ks)).length≤901:=fl
   rw[B4];exact b6 (b7 (b6 ho (r9 (d8 _) hc)) this) (by decide)
  walk_at "m"
  rename_i h4
  rw[show C7 b cl++P6 b (d::ks)=C7 b (cl++[d::ks]) by rw[ig];rfl] at h4
  exact k _ _ (h4.swap.subl (.cons₂ _ (.cons₂ _ (.cons _ (.cons₂ _ (.cons₂ _ .slnil))))))
noncomputable def fi(cl:List (List (List Int)))(ks:List (List Int))(j:Nat):List (List (List Int))×List (List Int):=match j with
 |0=>(cl,ks)
 |j+1=>fi (cl++[ks]) [] j
theorem c85f{f:Int}(h:Own [n,ko,oo,fo] H H (fj n ko oo fo b lg cl ks true))(k:X 7 H):c (r+1) 85 [.obj 17 n,.int f] H K X:=by
 refine L.call rfl ?_
 walk_at "m"
 exact k
theorem c85x{f:Int}(h0:0≤lg)(hf:cH f lg.toNat<cl.length)(h:Own [n,ko,oo,fo] H H (fj n ko oo fo b lg cl ks false))(k:X 7 H):c (r+1) 85 [.obj 17 n,.int f] H K X:=by
 refine L.call rfl ?_
 have q:cH f lg.toNat<((D8 b 0 cl).map AV.int).length:=by rw[r7,M3];exact hf
 walk_at "m"
 exact k
theorem c85{f:Int}{j:Nat}(b0:1≤b)(b1:b≤100)(h0:0≤lg)(hg:Good cl)(hk:au ks∧ks.length≤64)(hf:cH f lg.toNat=((cl.length+j:Nat):Int))(hj:cl.length+j≤60)(h:Own [n,ko,oo,fo] H H (fj n ko oo fo b lg cl ks false))(k:∀H' ko',Own [n,ko,oo,fo] H H' (fj n ko' oo fo b lg (fi cl ks j).1 (fi cl ks j).2 false)→K .none H'):c (r+5) 85 [.obj 17 n,.int f] H K X:=by
 refine L.call rfl ?_
 have q:¬cH f lg.toNat<((D8 b 0 cl).map AV.int).length:=by rw[r7,M3];exact r6.mpr (e6 (m5.mpr (u3 _ _)) (l7 hf.symm))
 walk_at "m"
 rw[hf]
 intro P hP
 generalize hn:cl.length+j=N at *
 have loop:∀(j:Nat) (cl:List (List (List Int))) (ks:List (List Int)) (H1:Hp) (ko1:Nat),cl.length+j=N→Good cl→au ks∧ks.length≤64→Own [n,ko,oo,fo] H H1 (fj n ko1 oo fo b lg cl ks false) →
   (∀H' ko',Own [n,ko,oo,fo] H H' (fj n ko' oo fo b lg (fi cl ks j).1 (fi cl ks j).2 false)→K .none H')→P [.obj 17 n,.int f,.int (N:Int)] H1:=by
  intro j
  induction j with
  |zero=>
   intro cl ks H1 ko1 hn hg hk h k
   have q:¬(((D8 b 0 cl).map AV.int).length:Int)<N:=by rw[r7,M3];exact r6.mpr (m5.mpr (j6 hn.symm))
   refine hP _ _ ?_
   walk_at "m"
   exact k _ _ h
  |succ j ih=>
   intro cl ks H1 ko1 hn hg hk h k
   have q:(((D8 b 0 cl).map AV.int).length:Int)<N:=by rw[r7,M3];exact j1.mpr (i8 (J7 (b6 (d8 _) (x9 _ _))) (j6 hn))
   refine hP _ _ ?_
   walk_at "m"
   refine c87 b0 b1 hg (b6 (b6 (u3 _ _) (j6 hn)) hj) hk h.re λH2 ko2 h2=>?_
   exact ih (cl++[ks]) [] H2 ko2 (by rw[d6];exact(bY _ _ _).trans hn) (hg.snoc hk) ⟨AY,j9 _⟩ (h.seq h2) k
 exact loop j cl ks H ko hn hg hk h k
end
section
variable{r n ko oo fo:Nat}{H:Hp}{K:KE}{X:XE}{b lg b' f ma ms ia is:Int}{cl:List (List (List Int))}{ks:List (List Int)}{fin:Bool}{d:List Int}
noncomputable def iP:List Int→List Int
 |[]=>[]
 |x::l=>le x 4++iP l
noncomputable def S7(b lg:Int)(cl:List (List (List Int))):List Int:=((C7 b cl++iP (D8 b 0 cl))++le (C7 b cl).length 4)++[lg]
theorem bk{l:List Int}:(iP l).length=4*l.length:=by
 induction l with
 |nil=>rfl
 |cons x l ih=>show (le x 4++iP l).length=_;rw[d6,D0,ih,m9];exact L3 _ _
theorem lx{b:Int}:∀{cl:List (List (List Int))} {o:Nat},∀x∈D8 b o cl,0≤x∧x≤((o+(C7 b cl).length:Nat):Int)
 |[],_,x,m=>nomatch m
 |ks::cl,o,x,m=>by
  show 0≤x∧x≤((o+(jq b ks++C7 b cl).length:Nat):Int)
  rw[d6]
  rcases l5.mp m with rfl | m
  ·exact⟨(g8 _),(m5.mpr (u3 _ _))⟩
  ·rw[←O2];have:=lx x m;exact⟨this.1,this.2⟩
theorem c88c{S:List Nat}{H0:Hp}{o:Nat}{s:AV}{d c1:Cell}{L0:List AV}{ps:List (Nat×Cell)}{N:KN}{R:KE}:∀{l acc:List Int} {w:AV} {H:Hp},Own S H0 H ((o,.barr acc)::(n,d)::(ko,c1)::(oo,.list L0)::ps)→acc.length+4*l.length≤100000→(∀x∈l,0≤x∧x<4294967296) →
  (∀H' w,Own S H0 H' ((o,.barr (acc++iP l))::(n,d)::(ko,c1)::(oo,.list L0)::ps)→N [s,.ref o,w] H') →
  ar [2] (some (oo,L0)) (λρ H N=>wpS (Iv c cc (r+1)) (body (nth f88.body 4)) ρ H N R T8) N (l.map .int) [s,.ref o,w] H:=by
 intro l
 induction l with
 |nil=>intro acc w H h _ _ k;exact⟨h.g3,k _ _ (by rw[show acc++iP []=acc from y7 _];exact h)⟩
 |cons x l ih=>
  intro acc w H h hl hx k
  have hx1:=hx x (.head _)
  rw[m9] at hl
  refine⟨h.g3,?_⟩
  have l1:acc.length+(le x 4).length≤K8:=by rw[D0,B4];exact b6 (b7 (b6 (u3 _ _) hl) (d8 _)) (by decide)
  walk_at "m"
  refine c6 hx1.1 hx1.2 ?_
  walk_at "m"
  rename_i h2
  exact ih h2 (by rw[d6,D0,O2,L3 4];exact hl) (λy hy=>hx y (.tail _ hy)) λH' w h'=>k _ _ (by rw[t6] at h';exact h')
noncomputable def Q8(cl:List (List (List Int)))(ks:List (List Int)):List (List (List Int)):=match ks with
 |[]=>cl
 |d::ks=>cl++[d::ks]
theorem c88f(h:Own [n,ko,oo,fo] H H (fj n ko oo fo b lg cl ks true))(k:X 7 H):c (r+1) 88 [.obj 17 n] H K X:=by
 refine L.call rfl ?_
 walk_at "m"
 exact k
theorem c88(b0:1≤b)(b1:b≤100)(h0:0≤lg)(hg31:lg≤31)(hg:Good cl)(hc:cl.length≤60)(hk:au ks∧ks.length≤64)(h:Own [n,ko,oo,fo] H H (fj n ko oo fo b lg cl ks false))(k:∀H' ko',Own [n,ko,oo,fo] H H' (fj n ko' oo fo b lg (Q8 cl ks) [] true)→K (.bytes (S7 b lg (Q8 cl ks))) H'):c (r+5) 88 [.obj 17 n] H K X:=by
 refine L.call rfl ?_
 have fin:∀(cl:List (List (List Int))) (ko':Nat) (H1:Hp),Good cl→cl.length≤61→Own [n,ko,oo,fo] H H1 (fj n ko' oo fo b lg cl [] false)→(∀H' ko',Own [n,ko,oo,fo] H H' (fj n ko' oo fo b lg cl [] true)→K (.bytes (S7 b lg cl)) H') →
   wpS (Iv c cc (r+4)) (.cons (nth f88.body 2) (.cons (nth f88.body 3) (.cons (nth f88.body 4) (.cons (nth f88.body 5) (.cons (nth f88.body 6) (.cons (nth f88.body 7) .nil)))))) [.obj 17 n,.U,.U] H1 (λ_ H=>K .none H) K (λc _ H=>X c H):=by
  intro cl ko' H1 hg hc h k
  have ho:=eV b0 b1 hg
  have hs:=M3 (b:=b) (cl:=cl) (o:=0)
  walk_at "m"
  rename_i h2
  refine c88c h2 (by rw[hs];exact b6 (b7 (b6 ho (r9 (d8 _) hc)) (r9 (d8 _) hc)) (by decide)) (λx hx=>by have:=lx x hx;exact⟨this.1,(e8 this.2 (e8 (m5.mpr (b7 (d8 _) (b6 ho (r9 (d8 _) hc)))) (by decide)))⟩) λH3 w h3=>?_
  have l1:(C7 b cl++iP (D8 b 0 cl)).length+(le ((C7 b cl).length:Int) 4).length≤K8:=by rw[D0,d6,bk,hs,B4];exact b6 (b7 (b7 (b6 ho (r9 (d8 _) hc)) (r9 (d8 _) hc)) (d8 _)) (by decide)
  have l2:((C7 b cl++iP (D8 b 0 cl))++le ((C7 b cl).length:Int) 4).length<K8:=by rw[d6,D0,d6,bk,hs,B4];exact g9 (b7 (b7 (b6 ho (r9 (d8 _) hc)) (r9 (d8 _) hc)) (d8 _)) (by decide)
  walk_at "m"
  refine c6 (g8 _) (j1.mpr (g9 ho (g9 (r9 (d8 _) hc) (by decide)))) ?_
  walk_at "m"
  rename_i h4
  exact k _ _ h4.tl
 cases ks with
 |nil=>
  have q:¬(0:Int)<(([]:List (List Int)).map AV.bytes).length:=by decide
  iterate 5 walk_at "1"
  exact fin cl ko H hg (b6 hc (by decide)) h k
 |cons d ks=>
  have q:(0:Int)<((d::ks).map AV.bytes).length:=by rw[r7,m9];exact j1.mpr (i8 (by decide) (b6 (d8 _) (x9 _ _)))
  iterate 6 walk_at "1"
  refine c87 b0 b1 hg hc hk h λH2 ko2 h2=>?_
  exact fin _ ko2 H2 (hg.snoc hk) (by rw[d6];show cl.length+1≤61;exact b7 hc (d8 _)) h2 k
noncomputable def iJ(v:AV)(H:Hp)(ks:List (List Int)):Prop:=v = .fl (ks.map .bytes)∨∃m,v = .ref m∧get H m = .list (ks.map .bytes)
noncomputable def pM(H:Hp):List AV→List (List (List Int))→Prop
 |[],cl=>cl=[]
 |v::vs,cl=>∃ks cl',cl=ks::cl'∧iJ v H ks∧pM H vs cl'
theorem iJ.keep{v:AV}{H H':Hp}{ks:List (List Int)}(h:iJ v H ks)(k:Kq [] H H'):iJ v H' ks:=h.imp id λh=>eX12 h λm e g=>⟨m,e,k.list0 g⟩
theorem pM.keep{H H':Hp}(k:Kq [] H H'):∀{vs:List AV} {cl:List (List (List Int))},pM H vs cl→pM H' vs cl:=by
 intro vs
 induction vs with
 |nil=>exact id
 |cons v vs ih=>intro cl h;exact eX23 h λks cl' e a h=>⟨ks,cl',e,a.keep k,ih h⟩
theorem c32c{chk:Option (Nat×List AV)}{kv:AV}{N:KN}{R:KE}(b0:1≤b)(b1:b≤100):∀{vs:List AV} {cl:List (List (List Int))} {out st:List Int} {w:AV} {H:Hp},pM H vs cl→Good cl→out.length+901*cl.length≤200000→st.length+4*cl.length≤200000→(∀H',Kq [] H H'→CZ chk H') →
  (∀H' w,Kq [] H H'→N [.int b,.int lg,kv,.bytes (out++C7 b cl),.bytes (st++iP (D8 b out.length cl)),w] H') →
  ar [5] chk (λρ H N=>wpS (Iv c cc (r+2)) (body (nth f32.body 2)) ρ H N R T8) N vs [.int b,.int lg,kv,.bytes out,.bytes st,w] H:=by
 intro vs
 induction vs with
 |nil=>
  intro cl out st w H hr _ _ _ hc k
  have hr:cl=[]:=hr
  subst hr
  refine eR (hc _ Kq.refl) ?_
  have:=k H w Kq.refl
  rw[show out++C7 b []=out from y7 _,show st++iP (D8 b out.length [])=st from y7 _] at this
  exact this
 |cons v vs ih=>
  intro cl out st w H hr hg h1 h2 hc k
  obtain⟨ks,cl',rfl,hv,hr'⟩:=hr
  refine eR (hc _ Kq.refl) ?_
  rw[m9] at h1 h2
  have l1:st.length+(le (out.length:Int) 4).length≤K8:=by rw[D0,B4];exact b6 (b7 (b6 (u3 _ _) h2) (d8 _)) (by decide)
  have hk:=hg ks (.head _)
  have go:∀H',Kq [] H H'→ar [5] chk (λρ H N=>wpS (Iv c cc (r+2)) (body (nth f32.body 2)) ρ H N R T8) N vs [.int b,.int lg,kv,.bytes (out++jq b ks),.bytes (st++le (out.length:Int) 4),v] H':=by
   intro H' k'
   have fl:=mY b0 b1 hk.2
   refine ih (hr'.keep k') (λx hx=>hg x (.tail _ hx)) (by rw[d6,O2];exact b6 (O6 (b6 (v5 fl _) (j6 (L3 _ _))) _) h1) (by rw[d6,D0,O2,L3 4];exact h2) (λH2 k2=>hc _ (k'.trans0 k2)) λH2 w k2=>?_
   have:=k H2 w (k'.trans0 k2)
   rw[t6,t6,d6]
   exact this
  have e:(v = .fl (ks.map .bytes)∨∃m,v = .ref m∧get H m = .list (ks.map .bytes)):=hv
  cases ks with
  |nil=>
   have q:¬(0:Int)<(([]:List (List Int)).map AV.bytes).length:=by decide
   rw[show out++jq b []=out from y7 _] at go
   rcases hv with rfl | ⟨m,rfl,g⟩
   ·walk_at "m"
    refine c25 (w:=4) (by decide) ?_
    walk_at "m"
    exact go _ Kq.refl
   ·walk_at "m"
    refine c25 (w:=4) (by decide) ?_
    walk_at "m"
    exact go _ Kq.refl
  |cons d ks=>
   have q:(0:Int)<((d::ks).map AV.bytes).length:=by rw[r7,m9];exact j1.mpr (i8 (by decide) (b6 (d8 _) (x9 _ _)))
   have fl:=mY b0 b1 hk.2
   have l2:out.length+(P6 b (d::ks)).length≤K8:=by
    have:(P6 b (d::ks)).length≤901:=fl
    rw[B4];exact b6 (b7 (b6 (u3 _ _) h1) this) (by decide)
   rcases hv with rfl | ⟨m,rfl,g⟩
   ·walk_at "m"
    refine c25 (w:=4) (by decide) ?_
    walk_at "m"
    refine c30 b0 b1 hk.1 hk.2 e λH' k'=>?_
    walk_at "m"
    exact go _ k'
   ·walk_at "m"
    refine c25 (w:=4) (by decide) ?_
    walk_at "m"
    refine c30 b0 b1 hk.1 hk.2 e λH' k'=>?_
    walk_at "m"
    exact go _ k'
theorem c32{kv:AV}{vs:List AV}(b0:1≤b)(b1:b≤100)(h0:0≤lg)(h1:lg≤31)(hg:Good cl)(hc:cl.length≤60)(hr:pM H vs cl)(hv:kv = .fl vs∨∃m,kv = .ref m∧get H m = .list vs)(k:∀H',Kq [] H H'→K (.bytes (S7 b lg cl)) H'):c (r+3) 32 [.int b,.int lg,kv] H K X:=by
 have ho:=eV b0 b1 hg
 have hs:=M3 (b:=b) (cl:=cl) (o:=0)
 have l1:(C7 b cl).length+(iP (D8 b 0 cl)).length≤K8:=by rw[bk,hs,B4];exact b6 (b7 (b6 ho (r9 (d8 _) hc)) (r9 (d8 _) hc)) (by decide)
 have l2:(C7 b cl++iP (D8 b 0 cl)).length+(le ((C7 b cl).length:Int) 4).length≤K8:=by rw[D0,d6,bk,hs,B4];exact b6 (b7 (b7 (b6 ho (r9 (d8 _) hc)) (r9 (d8 _) hc)) (d8 _)) (by decide)
 have l3:((C7 b cl++iP (D8 b 0 cl))++le ((C7 b cl).length:Int) 4).length+[lg].length≤K8:=by rw[d6,D0,d6,bk,hs,B4];show _+1≤_;exact b6 (b7 (b7 (b7 (b6 ho (r9 (d8 _) hc)) (r9 (d8 _) hc)) (d8 _)) (d8 _)) (by decide)
 have fin:∀H' w,Kq [] H H'→wpS (Iv c cc (r+2)) (.cons (nth f32.body 3) .nil) [.int b,.int lg,kv,.bytes ([]++C7 b cl),.bytes ([]++iP (D8 b 0 cl)),w] H' (λ_ H=>K .none H) K (λc _ H=>X c H):=by
  intro H' w k'
  rw[List.nil_append,List.nil_append]
  walk_at "m"
  refine c25 (w:=4) (by decide) ?_
  walk_at "m"
  refine nP.mk (λk hk=>by rw[i6.mp hk];exact⟨h0,(e8 h1 (by decide))⟩) ?_
  walk_at "m"
  exact k _ k'
 refine L.call rfl ?_
 rcases hv with rfl | ⟨m,rfl,g⟩
 ·walk_at "m"
  exact c32c b0 b1 hr hg (by show 0+_≤_;exact b6 (b7 (d8 _) (r9 (d8 _) hc)) (by decide)) (by show 0+_≤_;exact b6 (b7 (d8 _) (r9 (d8 _) hc)) (by decide)) (λ_ _=>trivial) fin
 ·walk_at "m"
  exact c32c b0 b1 hr hg (by show 0+_≤_;exact b6 (b7 (d8 _) (r9 (d8 _) hc)) (by decide)) (by show 0+_≤_;exact b6 (b7 (d8 _) (r9 (d8 _) hc)) (by decide)) (λH' k'=>k'.list0 g) fin
theorem mh:((S7 b lg cl).length:Int)=(C7 b cl).length+4*cl.length+5:=by
 unfold S7
 rw[d6,d6,d6,D0,bk,M3];show ((_+4+1:Nat):Int)=_;exact rfl
noncomputable def FR(b':Int)(d:List Int)(lg start count:Int):AV:=.inst 18 [(78,BL b'),(62,.bytes d),(79,.int lg),(84,.int start),(10,.int count)]
theorem c89s{d:List Int}(hd:d.length<5)(k:∀H',Kq [] H H'→K (FR b' d 0 0 0) H'):cc (r+3) 18 [BL b',.bytes d] H K X:=by
 have h:=Own.nil (S:=[]) (H:=H)
 refine L.cls rfl ?_
 walk_at "w"
 refine L.call rfl ?_
 have q:¬(5:Int)≤d.length:=by exact G0.mpr (j1.mpr hd)
 walk_at "m"
 refine⟨rfl,Or.inr ?_⟩
 walk_at "m"
 exact k _ (Own.keep (by assumption))
theorem c89(b0:1≤b)(b1:b≤100)(h0:0≤lg)(h1:lg≤31)(hg:Good cl)(hc:cl.length≤60)(k:∀H',Kq [] H H'→K (FR b' (S7 b lg cl) lg (C7 b cl).length cl.length) H'):cc (r+3) 18 [BL b',.bytes (S7 b lg cl)] H K X:=by
 have h:=Own.nil (S:=[]) (H:=H)
 have ho:=eV b0 b1 hg
 have hl:=mh (b:=b) (lg:=lg) (cl:=cl)
 have hs:=M3 (b:=b) (cl:=cl) (o:=0)
 refine L.cls rfl ?_
 walk_at "w"
 refine L.call rfl ?_
 have hh:Has (S7 b lg cl) ((S7 b lg cl).length-5) (le (C7 b cl).length 4):=⟨C7 b cl++iP (D8 b 0 cl),[lg],by unfold S7;rw[t6],by rw[hl,d6,bk,hs];exact yO rfl⟩
 have h2:Has (S7 b lg cl) ((S7 b lg cl).length-1) [lg]:=⟨(C7 b cl++iP (D8 b 0 cl))++le (C7 b cl).length 4,[],by rw[y7];rfl,by rw[hl,d6,d6,D0,bk,hs];exact S6 _ 5 1⟩
 have e:=h2.at'
 walk_at "m"
 refine c8 hh (g8 _) (j1.mpr (g9 ho (g9 (r9 (d8 _) hc) (by decide)))) ?_
 walk_at "n"
 rw[e] at *
 walk_at "n"
 rw[e] at *
 walk_at "n"
 rw[show ((S7 b lg cl).length:Int)-5-(C7 b cl).length=4*cl.length by rw[hl,D5,G9,D5],Int.mul_ediv_cancel_left _ (by decide)] at *
 walk_at "n"
 refine⟨rfl,Or.inr ?_⟩
 walk_at "m"
 exact k _ (Own.keep (by assumption))
noncomputable def fL(b:Int)(d:List Int):List (List (List Int))→Nat→Bool
 |[],_=>true
 |ks::_,0=>(match ks with
  |[]=>false
  |e::ks=>lets (P6 b (e::ks)) d (bG b).toNat)
 |_::cl,i+1=>fL b d cl i
theorem xh{l m:List Int}:iP (l++m)=iP l++iP m:=by
 induction l with
 |nil=>rfl
 |cons x l ih=>show le x 4++iP (l++m)=_;rw[ih,←t6];rfl
theorem gw{q:List (List (List Int))}:∀{p:List (List (List Int))},C7 b (p++q)=C7 b p++C7 b q
 |[]=>rfl
 |ks::p=>by show jq b ks++C7 b (p++q)=_;rw[gw,←t6];rfl
theorem jy{q:List (List (List Int))}:∀{p:List (List (List Int))} {o:Nat},D8 b o (p++q)=D8 b o p++D8 b (o+(C7 b p).length) q
 |[],o=>rfl
 |ks::p,o=>by
  show (o:Int)::D8 b _ (p++q)=(o:Int)::(_++D8 b (o+(jq b ks++C7 b p).length) q)
  rw[jy,d6,O2]
theorem W4{ks:List (List Int)}:(P6 b ks).length=N0 ks.length b+1:=by
 unfold P6;rw[d6,dt,n7];rfl
theorem iE{ks:List (List Int)}:(P6 b ks).getD ((P6 b ks).length-1) 0=bG b:=by
 have h:Has (P6 b ks) (N0 ks.length b) [bG b]:=⟨gB b (N0 ks.length b) (l6 (N0 ks.length b) 0) ks,[],by rw[y7];rfl,by rw[dt,n7]⟩
 have:=h.at'
 rw[W4,Nat.add_sub_cancel]
 rw[t7] at this
 exact this
theorem U0{ks:List (List Int)}(b0:1≤b)(b1:b≤100)(hk:ks.length≤64):B7 (P6 b ks):=by
 have hn:=bq b0 b1 hk
 have hp:=aj (b:=b)
 exact(oU (i8 (by decide) hn.1) n7 eS).app (B7.cons (⟨(e6 (by decide) hp.1),(e8 hp.2 (by decide))⟩) B7.nil)
theorem mI{d:List Int}{ks:List (List Int)}{q:List (List (List Int))}:∀{p:List (List (List Int))},fL b d (p++ks::q) p.length=fL b d [ks] 0
 |[]=>by cases ks<;>rfl
 |_::p=>mI (p:=p)
theorem jP{d:List Int}:∀{cl:List (List (List Int))} {i:Nat},cl.length≤i→fL b d cl i=true
 |[],_,_=>rfl
 |_::cl,0,h=>nomatch h
 |_::cl,i+1,h=>jP (cl:=cl) (L2 h)
theorem c90w{D d:List Int}{S cnt lo hi i f:Int}(h0:0≤lg)(hf:cH f lg.toNat=i)(i0:0≤i)(ic:i<cnt)(c1:cnt≤1000)(hA:Has D (S+4*i) (le lo 4))(hB:Has D (S+4*i+4) (le hi 4))(l0:0≤lo)(l1:lo≤hi)(h1:hi≤S)(s1:S<4294967296)(kz:lo=hi→K (.bool false) H)(kp:¬lo=hi→2≤hi-lo∧c (r+3) 83 [BL b',.bytes d,.bytes (cut D lo hi)] H K X):c (r+4) 90 [FR b' D lg S cnt,.int f,.bytes d] H K X:=by
 have l2:lo<4294967296:=e8 (e6 l1 h1) s1
 have h2:0≤hi:=e6 l0 l1
 have si:small i:=⟨e7 (by decide) i0,bD (e7 ic c1) (by decide)⟩
 refine L.call rfl ?_
 refine nP.mk h0 ?_
 rw[hf]
 refine C6 (G0.mpr ic) (nP.mk si ?_)
 refine c8 hA l0 l2 (c8 hB h2 (e8 h1 s1) ?_)
 refine C6 (r6.mpr l1) (C6 (r6.mpr h1) (R7 (λe=>kz e) λe=>?_))
 refine eX02 (kp e) λe2 k=>?_
 exact C6 (r6.mpr e2) (nP.mk l0 (nP.mk h2 k))
theorem DR{ks:List (List Int)}{p q:List (List (List Int))}:Has (S7 b lg (p++ks::q)) ((C7 b (p++ks::q)).length+4*(p.length:Int)) (le (C7 b p).length 4++(iP (D8 b ((C7 b p).length+(jq b ks).length) q)++le (C7 b (p++ks::q)).length 4)):=by
 have es:D8 b 0 (p++ks::q)=D8 b 0 p++(((C7 b p).length:Int)::D8 b ((C7 b p).length+(jq b ks).length) q):=by rw[jy,J0];rfl
 refine⟨C7 b (p++ks::q)++iP (D8 b 0 p),[lg],?_,by rw[d6,bk,M3];exact rfl⟩
 unfold S7
 rw[es,xh]
 simp only[iP,t6]
theorem Hm{ks:List (List Int)}{p q:List (List (List Int))}:Has (S7 b lg (p++ks::q)) ((C7 b (p++ks::q)).length+4*(p.length:Int)+4) (le ((C7 b p).length+(jq b ks).length:Nat) 4):=by
 have h:=(DR (b:=b) (lg:=lg) (ks:=ks) (p:=p) (q:=q)).right
 rw[D0] at h
 cases q with
 |nil=>
  have e:(C7 b (p++[ks])).length=(C7 b p).length+(jq b ks).length:=by rw[gw,d6];show _+(jq b ks++[]).length=_;rw[y7]
  rw[e] at h ⊢
  exact h
 |cons k2 q=>exact h.left.left
theorem Hl{ks:List (List Int)}{p q:List (List (List Int))}:Has (S7 b lg (p++ks::q)) (C7 b p).length (jq b ks):=by
 refine⟨C7 b p,C7 b q++(iP (D8 b 0 (p++ks::q))++(le (C7 b (p++ks::q)).length 4++[lg])),?_,rfl⟩
 unfold S7
 rw[show C7 b (p++ks::q)=C7 b p++(jq b ks++C7 b q) from gw]
 simp only[t6]
theorem c90{d:List Int}{f:Int}{i:Nat}(b0:1≤b)(b1:b≤100)(h0:0≤lg)(hg:Good cl)(hc:cl.length≤60)(hd:B7 d)(hl:d.length≤5)(hf:cH f lg.toNat=(i:Int))(k:K (.bool (fL b d cl i)) H):c (r+4) 90 [FR b' (S7 b lg cl) lg (C7 b cl).length cl.length,.int f,.bytes d] H K X:=by
 by_cases hi:i<cl.length
 ·obtain⟨p,ks,q,rfl,rfl⟩:∃p ks q,cl=p++ks::q∧i=p.length:=⟨cl.take i,cl[i],cl.drop (i+1),by rw[List.getElem_cons_drop,List.take_append_drop],(List.length_take_of_le (A9 hi)).symm⟩
  rw[mI] at k
  have hk:=hg ks (s9 _ (.head _))
  have ho:=eV b0 b1 hg
  have lo:(C7 b (p++ks::q)).length=(C7 b p).length+((jq b ks).length+(C7 b q).length):=by rw[show C7 b (p++ks::q)=C7 b p++(jq b ks++C7 b q) from gw,d6,d6]
  refine c90w h0 hf (g8 _) (j1.mpr hi) (m5.mpr (b6 hc (by decide))) DR.left Hm (g8 _) (m5.mpr (u3 _ _)) (m5.mpr (b6 (O6 (u3 _ _) _) (j6 lo.symm))) (j1.mpr (g9 ho (g9 (r9 (d8 _) hc) (by decide)))) (λe=>?_) λe=>?_
  ·cases ks with
   |nil=>exact k
   |cons e' ks=>exact absurd (Int.ofNat.inj e) (bA (J7 (Nat.lt_of_lt_of_eq (Z7 _) (W4 (b:=b) (ks:=e'::ks)).symm)))
  ·cases ks with
   |nil=>exact absurd rfl e
   |cons e' ks=>
    have fl:(jq b (e'::ks)).length=N0 (e'::ks).length b+1:=W4
    have hn:=bq b0 b1 hk.2
    have hp:=aj (b:=b)
    refine⟨by rw[K5,G9,D5];exact m5.mpr (b6 (by decide) (b6 (b7 hn.1 (d8 _)) (j6 fl.symm))),?_⟩
    rw[Hl.cut' (by exact rfl)]
    exact c83 (p:=(bG b).toNat) hd hl (U0 b0 b1 hk.2) (by show 2≤(jq b (e'::ks)).length;exact b6 (by decide) (b6 (b7 hn.1 (d8 _)) (j6 fl.symm))) (by show (jq b (e'::ks)).length≤1000;exact b6 (b6 (j6 fl) (b7 hn.2 (d8 _))) (by decide)) (iE.trans ((C9 (e6 (by decide) hp.1)).symm)) ((A2 (n:=30)).mpr hp.2) k
 ·rw[jP (I8.mp hi)] at k
  refine L.call rfl ?_
  refine nP.mk h0 ?_
  rw[hf]
  exact dQ (m5.mpr (I8.mp hi)) k
theorem c90s{d e:List Int}{f:Int}(hf:0≤f)(k:K (.bool true) H):c (r+4) 90 [FR b' e 0 0 0,.int f,.bytes d] H K X:=by
 refine L.call rfl ?_
 have hs:(0:Int)≤cH f (Int.toNat 0):=eC hf
 walk_at "m"
 exact k
theorem c83s{d held:List Int}(h:held.length<2)(k:K (.bool false) H):c (r+1) 83 [BL b,.bytes d,.bytes held] H K X:=by
 refine L.call rfl ?_
 have h':(held.length:Int)<2:=by exact j1.mpr h
 walk_at "m"
 exact k
theorem eL{ks:List (List Int)}:(P6 b ks).getD ((P6 b ks).length-1) 0=((bG b).toNat:Nat):=by
 have:=aj (b:=b)
 rw[iE];exact(C9 (e6 (by decide) this.1)).symm
theorem iF{ks:List (List Int)}(b0:1≤b)(b1:b≤100)(hk:ks.length≤64):2≤(P6 b ks).length∧(P6 b ks).length≤1000:=by
 have:=bq b0 b1 hk
 rw[W4];exact⟨(b6 (by decide) (b7 this.1 (d8 _))),(b6 (b7 this.2 (d8 _)) (by decide))⟩
theorem DG{d:List Int}:lets (P6 b []) d (bG b).toNat=false:=by
 have hp:=aj (b:=b)
 obtain⟨j,e⟩:∃j,(bG b).toNat=j+1:=⟨(bG b).toNat-1,(Nat.sub_add_cancel ((Int.le_toNat (n:=1) (e6 (by decide) hp.1)).mpr hp.1)).symm⟩
 have n8:N0 0 b=8:=by unfold N0;rw[if_pos (by rw[show ((0:Nat):Int)*b=0 from Int.zero_mul b];decide)]
 have hs:=jf (h:=bh d) (i:=0) (w:=8*(((P6 b []).length:Int)-1)) (by rw[W4];show 0<8*(((N0 0 b+1:Nat):Int)-1);rw[n8];decide)
 unfold lets gh
 rw[e]
 show (Q9 (P6 b []) _&&_)=false
 generalize (bh d+0*turn (bh d))%4294967296%(8*(((P6 b []).length:Int)-1))=s at *
 have hs2:s<64:=by
  have:=hs.2
  rw[W4] at this
  have h8:(8:Int)*(((N0 0 b+1:Nat):Int)-1)=64:=by rw[n8];rfl
  exact h8▸this
 have:Q9 (P6 b []) s=false:=by
  refine decide_eq_false (λn=>n ?_)
  have g:(P6 b []).getD (s/8).toNat 0=0:=by
   show (l6 (N0 0 b) 0++[bG b]).getD _ _=_
   rw[n8,t5,cy (by rw[n7];exact g9 ((A2 (n:=7)).mpr (v8 (by decide) (i5 hs2))) (by decide)),List.getElem?_replicate]
   split<;>rfl
  rw[g,cV];rfl
 rw[this];rfl
theorem c45{x:Int}(b0:1≤b)(b1:b≤100)(hx:0≤x)(k:∀H',Kq [] H H'→K (.bool true) H'):c (r+4) 45 [.int b,.int x] H K X:=by
 refine L.call rfl ?_
 walk_at "m"
 refine fI b0 λH1 k1=>?_
 walk_at "m"
 refine fI (b:=1+x%50) (j4 (g6 _) (j5 _ (by decide))) λH2 k2=>?_
 walk_at "m"
 have kn:au []:=AY
 have k1':au [[]]:=λd m=>by rw[i6.mp m];exact⟨B7.nil,j9 _⟩
 refine c82f (ks:=[]) b0 b1 kn (j9 _) λH3 k3=>?_
 walk_at "m"
 refine c82f (ks:=[[]]) b0 b1 k1' (by decide) λH4 k4=>?_
 walk_at "m"
 refine c30 (ks:=[]) b0 b1 kn (j9 _) (Or.inl rfl) λH5 k5=>?_
 refine C6 (λn=>n rfl) ?_
 refine c30 (ks:=[[]]) b0 b1 k1' (by decide) (Or.inl rfl) λH6 k6=>?_
 refine C6 (λn=>n rfl) ?_
 walk_at "m"
 have ow:B7 [x%256,x/3%256,0,x%7,1]:=by
  intro k hk
  rcases l5.mp hk with rfl | hk
  ·exact⟨(j5 _ (by decide)),(e8 (i5 (j7 _ (by decide))) (by decide))⟩
  ·rcases l5.mp hk with rfl | hk
   ·exact⟨(j5 _ (by decide)),(e8 (i5 (j7 _ (by decide))) (by decide))⟩
   ·rcases l5.mp hk with rfl | hk
    ·exact⟨(by decide),(by decide)⟩
    ·rcases l5.mp hk with rfl | hk
     ·exact⟨(j5 _ (by decide)),(e8 (i5 (j7 _ (by decide))) (by decide))⟩
     ·rw[i6.mp hk];exact⟨(by decide),(by decide)⟩
 have lw:([x%256,x/3%256,0,x%7,1]:List Int).length≤5:=d8 5
 refine nP.mk ow ?_
 walk_at "1"
 generalize ([x%256,x/3%256,0,x%7,1]:List Int)=word at *
 iterate 5 walk_at "1"
 have oc:∀i j,B7 (cut word i j)∧(cut word i j).length≤5:=λi j=>
  ⟨λy hy=>ow y (List.mem_of_mem_drop (U3 hy)),by unfold cut;rw[V1,V2];exact b6 (Nat.min_le_right _ _) (b6 (aw _ _) lw)⟩
 have kd:Kq [] H H6:=((((k1.trans0 k2).trans0 k3).trans0 k4).trans0 k5).trans0 k6
 refine dw (λl ρ H'=>H'=H6∧(∀v∈l,∃d,v = .bytes d∧B7 d∧d.length≤5)∧∃w7,ρ=[.int b,.int x,BL b,BL (1+x%50),.bytes (P6 b []),.bytes (P6 b [[]]),.bytes word,w7]) ⟨rfl,?_,.U,rfl⟩ ?_ ?_
 ·intro v hv
  rcases l5.mp hv with rfl | hv
  ·exact⟨[],rfl,B7.nil,by decide⟩
  ·rcases l5.mp hv with rfl | hv
   ·exact⟨[0],rfl,B7.cons (by decide) B7.nil,by decide⟩
   ·rcases l5.mp hv with rfl | hv
    ·exact⟨_,rfl,oc _ _⟩
    ·rcases l5.mp hv with rfl | hv
     ·exact⟨_,rfl,oc _ _⟩
     ·rw[i6.mp hv];exact⟨_,rfl,oc _ _⟩
 ·intro ρ H' zr1;refine eX03 zr1 λzq2 _ zn3=>?_;clear zr1;subst zq2;refine eX11 zn3 λw7 zq4=>?_;clear zn3;subst zq4
  exact k _ kd
 ·intro v l ρ H' M zr5 hM;refine eX03 zr5 λzq6 hv zn7=>?_;clear zr5;subst zq6;refine eX11 zn7 λw7 zq8=>?_;clear zn7;subst zq8
  refine eX13 (hv v (.head _)) λd zq1 od ld=>?_;subst zq1
  have a1:=iF (b:=b) (ks:=[]) b0 b1 (by decide)
  have a2:=iF (b:=b) (ks:=[[]]) b0 b1 (by decide)
  have hp:=aj (b:=b)
  walk_at "m"
  refine c83 (p:=(bG b).toNat) od ld (U0 b0 b1 (by decide)) a1.1 a1.2 eL ((A2 (n:=30)).mpr hp.2) ?_
  rw[DG]
  walk_at "m"
  refine c83 (p:=(bG b).toNat) od ld (U0 b0 b1 (by decide)) a1.1 a1.2 eL ((A2 (n:=30)).mpr hp.2) ?_
  rw[DG]
  walk_at "m"
  refine c83s (by decide) ?_
  walk_at "m"
  refine c83 (p:=(bG b).toNat) od ld (U0 b0 b1 (by decide)) a2.1 a2.2 eL ((A2 (n:=30)).mpr hp.2) ?_
  refine c31 (p:=(bG b).toNat) od ld (U0 b0 b1 (by decide)) a2.1 a2.2 eL ((A2 (n:=30)).mpr hp.2) ?_
  refine I9 (by rw[beq_self_eq_true];rfl) ?_
  walk_at "m"
  refine c83 (p:=(bG b).toNat) od ld (U0 b0 b1 (by decide)) a2.1 a2.2 eL ((A2 (n:=30)).mpr hp.2) ?_
  refine c31 (p:=(bG b).toNat) od ld (U0 b0 b1 (by decide)) a2.1 a2.2 eL ((A2 (n:=30)).mpr hp.2) ?_
  refine I9 (by rw[beq_self_eq_true];rfl) ?_
  exact hM _ _ ⟨rfl,λv hv'=>hv v (.tail _ hv'),_,rfl⟩
theorem Own.part{S:List Nat}{H0 H H':Hp}{as qs qs':List (Nat×Cell)}(h:Own S H0 H (as++qs))(la:Own.live as=true)(k:Own (qs.map Prod.fst) H H' qs'):Own S H0 H' (as++qs'):=by
 have nd:=U2.mp h.nd
 have hT:∀m∈qs.map Prod.fst,m∈S∨H0.length≤m:=λm q=>by
  refine eX12 (F7.mp q) λp mp zq1=>?_;subst zq1
  exact h.own p (s9 _ mp)
 have lt:∀p∈as,p.1<H.length:=λp m=>dO (by rw[h.cells p (E5 _ m)];exact Own.of_live la p m)
 have ni:∀p∈as,p.1∉qs.map Prod.fst:=λp m q=>by
  refine eX12 (F7.mp q) λx mx e=>?_
  exact nd.2.2 p m x mx e.symm
 refine⟨h.keep.trans k.keep hT,?_,?_,?_⟩
 ·intro p m
  rcases y6.mp m with m | m
  ·exact(k.keep.same (lt p m) (ni p m)).trans (h.cells p (E5 _ m))
  ·exact k.cells p m
 ·refine U2.mpr ⟨nd.1,k.nd,λp m q mq e=>?_⟩
  rcases k.own q mq with h1 | h1
  ·exact ni p m (e▸h1)
  ·exact W7 _ (i8 (lt p m) (e▸h1))
 ·intro p m
  rcases y6.mp m with m | m
  ·exact h.own p (E5 _ m)
  ·exact(k.own p m).elim (hT _) (λq=>Or.inr (b6 h.keep.len q))
theorem xg{j:Nat}(b0:1≤b)(b1:b≤100)(h0:0≤lg)(hg:Good cl)(hk:au ks∧ks.length≤64)(f0:0≤f)(hf:cH f lg.toNat=((cl.length+j:Nat):Int))(hj:cl.length+j≤60)(h:Own [n,ko,oo,fo] H H (fj n ko oo fo b lg cl ks false))(k:∀H' ko',Own [n,ko,oo,fo] H H' (fj n ko' oo fo b lg (fi cl ks j).1 (fi cl ks j).2 false)→K (.int 0) H'):c (r+6) 36 [.obj 17 n,.int (4+f),.bytes d] H K X:=by
 refine L.call rfl ?_
 walk_at "m"
 exact c85 (f:=4+f-4) b0 b1 h0 hg hk (by rw[show 4+f-4=f by exact(by rw[G9];exact D5 _ _)];exact hf) hj h λH' ko' h'=>k _ _ h'
theorem tB(h0:0≤lg)(f0:0≤f)(hf:cH f lg.toNat<cl.length)(h:Own [n,ko,oo,fo] H H (fj n ko oo fo b lg cl ks false))(k:K (.int 1) H):c (r+2) 36 [.obj 17 n,.int (4+f),.bytes d] H K X:=by
 refine L.call rfl ?_
 walk_at "m"
 refine c85x (f:=4+f-4) h0 (by rw[show 4+f-4=f by exact(by rw[G9];exact D5 _ _)];exact hf) h ?_
 walk_at "m"
 exact k
theorem CE{w:Int}(hw:w=1∨w=3∨4≤w)(h:Own [n,ko,oo,fo] H H (fj n ko oo fo b lg cl ks true))(k:K (.int 1) H):c (r+2) 36 [.obj 17 n,.int w,.bytes d] H K X:=by
 refine L.call rfl ?_
 rcases hw with rfl | rfl | hw
 ·walk_at "m"
  refine c88f h ?_
  walk_at "m"
  exact k
 ·walk_at "m"
  refine c86f h ?_
  walk_at "m"
  exact k
 ·walk_at "m"
  refine c85f h ?_
  walk_at "m"
  exact k
noncomputable abbrev Rs:=List (Nat×List (List Int))
noncomputable def cx(rs:Rs):List AV:=(rs.map (λp=>AV.ref p.1)).reverse
noncomputable def xi(rs:Rs):List (Nat×Cell):=rs.map (λp=>(p.1,.list (p.2.map .bytes)))
noncomputable def kQ(rs:Rs):List (List (List Int)):=(rs.map Prod.snd).reverse
theorem bS:∀{rs:Rs},Own.live (xi rs)=true
 |[]=>rfl
 |_::rs=>bS (rs:=rs)
theorem Z2{rs:Rs}:(cx rs).length=rs.length:=by unfold cx;rw[List.length_reverse,r7]
theorem cD{rs:Rs}:(kQ rs).length=rs.length:=by unfold kQ;rw[List.length_reverse,r7]
theorem jz{rs:Rs}{p:Nat×List (List Int)}:cx (p::rs)=cx rs++[.ref p.1]:=by unfold cx;rw[F5,List.reverse_cons]
theorem jA{rs:Rs}{p:Nat×List (List Int)}:kQ (p::rs)=kQ rs++[p.2]:=by unfold kQ;rw[F5,List.reverse_cons]
theorem T9{ps qs:List (Nat×Cell)}(h:Own.live ps=true)(h':Own.live qs=true):Own.live (ps++qs)=true:=by
 induction ps with
 |nil=>exact h'
 |cons p ps ih=>
  obtain⟨n,c⟩:=p
  cases c<;>first | exact ih h | cases h
theorem jE{lg:Int}(h0:0≤lg)(h1:lg≤36):1≤pw 2 lg.toNat∧pw 2 lg.toNat≤68719476736:=by
 have:∀j,j≤36→1≤pw 2 j∧pw 2 j≤68719476736:=by decide
 exact this _ ((A2 (n:=36)).mpr h1)
theorem xw{lg:Int}(h0:0≤lg):pw 2 (lg+1).toNat=2*pw 2 lg.toNat:=by
 rw[show (lg+1).toNat=lg.toNat+1 by exact IG h0];unfold pw;rw[bC,B3]
theorem tL{f:Int}{k:Nat}:cH f k=f/pw 2 k:=rfl
theorem qk{P f:Int}{a:Int}(hP:1≤P)(h0:P*a≤f)(h1:f<P*a+P):f/P=a:=by
 have e:f=P*a+(f-P*a):=by rw[G9,cf]
 rw[e,G9,Int.add_mul_ediv_left _ _ (Q5 hP),Int.ediv_eq_zero_of_lt (Int.sub_nonneg_of_le h0) (Int.sub_left_lt_of_lt_add h1),N7]
theorem getD_last{rs:Rs}{p:Nat×List (List Int)}:(cx (p::rs)).getD rs.length .U = .ref p.1:=by
 rw[jz,t5,U4 (by rw[Z2];exact d8 _),Z2,Nat.sub_self];rfl
theorem Fx{P Q y:Int}(hP:1≤P)(hQ:Q=2*P)(y0:0≤y):∃e:Int,([AV.int 0,.int P,.int (P-1),.int Q,.int (0-1),.int 0,.int P,.int 0,.int Q].getD (y%9).toNat .U) = .int e∧(e = -1∨∃δ:Nat,δ≤2∧P*δ≤e∧e<P*δ+P):=by
 subst hQ
 have d0:P*((0:Nat):Int)=0:=Int.mul_zero P
 have d1:P*((1:Nat):Int)=P:=aL P
 have d2:P*((2:Nat):Int)=2*P:=B3 P 2
 refine Z5 (p:=λx=>∃e:Int,x = .int e∧(e = -1∨∃δ:Nat,δ≤2∧P*δ≤e∧e<P*δ+P)) (n:=9) rfl (by decide) (Y2 ?_ (Y2 ?_ (Y2 ?_ (Y2 ?_ (Y2 ?_ (Y2 ?_ (Y2 ?_ (Y2 ?_ (Y2 ?_ nofun)))))))))
 ·exact⟨0,rfl,Or.inr ⟨0,by decide,by exact l7 d0,by exact e7 (by decide) (j4 (l7 d0.symm) hP)⟩⟩
 ·exact⟨P,rfl,Or.inr ⟨1,by decide,by exact l7 d1,by rw[d1];exact D1 _ hP⟩⟩
 ·exact⟨P-1,rfl,Or.inr ⟨0,by decide,by exact e6 (l7 d0) (o8 hP (g6 _)),by rw[d0,N7];exact U5 (g6 _)⟩⟩
 ·exact⟨2*P,rfl,Or.inr ⟨2,by decide,by exact l7 d2,by rw[d2];exact D1 _ hP⟩⟩
 ·exact⟨-1,rfl,Or.inl rfl⟩
 ·exact⟨0,rfl,Or.inr ⟨0,by decide,by exact l7 d0,by exact e7 (by decide) (j4 (l7 d0.symm) hP)⟩⟩
 ·exact⟨P,rfl,Or.inr ⟨1,by decide,by exact l7 d1,by rw[d1];exact D1 _ hP⟩⟩
 ·exact⟨0,rfl,Or.inr ⟨0,by decide,by exact l7 d0,by exact e7 (by decide) (j4 (l7 d0.symm) hP)⟩⟩
 ·exact⟨2*P,rfl,Or.inr ⟨2,by decide,by exact l7 d2,by rw[d2];exact D1 _ hP⟩⟩
noncomputable def grow(rs:Rs):List Nat→Rs
 |[]=>rs
 |m::ms=>grow ((m,[])::rs) ms
theorem wL{S:List Nat}{H0 H:Hp}{rs:Rs}{as bs:List (Nat×Cell)}(h:Own S H0 H (as++(xi rs++bs))):pM H (cx rs) (kQ rs):=by
 have gen:∀(l:Rs),(∀p∈l,get H p.1 = .list (p.2.map .bytes))→pM H (l.map (λp=>AV.ref p.1)) (l.map Prod.snd):=by
  intro l
  induction l with
  |nil=>intro _;rfl
  |cons p l ih=>intro hp;exact⟨_,_,rfl,Or.inr ⟨p.1,rfl,hp p (.head _)⟩,ih λq m=>hp q (.tail _ m)⟩
 have:=gen rs.reverse (λp m=>by
  have m:=P4.mp m
  exact h.cells (p.1,.list (p.2.map .bytes)) (s9 _ (E5 _ (F7.mpr ⟨p,m,rfl⟩))))
 rw[List.map_reverse,List.map_reverse] at this
 exact this
theorem bj{α:Type}{l:List α}{i:Int}{n:Nat}(hl:l.length=n)(h:0≤i∧i<n):within i l.length:=by rw[hl];exact h
noncomputable abbrev zy(H0 H:Hp)(sp n ko oo fo:Nat)(b lg:Int)(rs:Rs)(cl:List (List (List Int)))(ks:List (List Int))(fin:Bool):Prop:=
 Own [] H0 H (((sp,.list (cx rs))::xi rs)++fj n ko oo fo b lg cl ks fin)
theorem c46a{H0:Hp}{sp n ko oo fo m:Nat}{ks:List (List Int)}{rest:Rs}{x y:Int}{tr u6 u7 u8 u9 u10 w12 w13 u14:AV}{N:KN}{R:KE}(hx:0≤x)(hy:0≤y)(hl:ks.length≤60)(hr:rest.length≤50)
  (h:zy H0 H sp n ko oo fo b lg ((m,ks)::rest) (kQ rest) ks false)
  (k:∀H' ks',ks'=ks∨ks'=ks++[[]]→zy H0 H' sp n ko oo fo b lg ((m,ks')::rest) (kQ rest) ks' false→N [.int b,.int lg,.int x,.obj 17 n,.ref sp,tr,u6,u7,u8,u9,u10,.int y,w12,w13,u14] H') :
  wpS (Iv c cc (r+6)) (.cons (nth (body (nth f46.body 2)) 6) .nil) [.int b,.int lg,.int x,.obj 17 n,.ref sp,tr,u6,u7,u8,u9,u10,.int y,w12,w13,u14] H N R T8:=by
 have hc:∀F:Nat×Cell,True:=λ_=>trivial
 refine nP.mk (by decide) ?_
 refine R7 (λq=>?_) (λq=>?_)
 ·refine nP.mk (by decide) ?_
  refine R7 (λq'=>?_) (λq'=>?_)
  ·-- a key is added to both
   have hf:get H n = .dict [(78,BL b),(79,.int lg),(80,.ref ko),(81,.ref oo),(82,.ref fo),(61,.bool false)]:=h.cells _ (s9 _ (.head _))
   walk_at "1"
   refine c86 (b6 hl (by decide)) (Own.re (Own.subl h (B0 _ _))) λH1 h1=>?_
   have h2:=Own.part h (show Own.live ((sp,.list (cx ((m,ks)::rest)))::xi ((m,ks)::rest))=true from bS) h1
   have e1:(((cx ((m,ks)::rest)).length:Int)-1).toNat=rest.length:=by rw[Z2,m9];exact He rfl
   have w1:within (((cx ((m,ks)::rest)).length:Int)-1) (cx ((m,ks)::rest)).length:=by rw[Z2,m9];exact Io rfl (by decide)
   walk_at "m"
   rw[e1,getD_last]
   have l1:(ks.map AV.bytes).length<K8:=by rw[r7,B4];exact g9 hl (by decide)
   walk_at "m"
   rename_i h3
   refine k _ (ks++[[]]) (Or.inr rfl) ?_
   rw[show ks.map AV.bytes++[AV.bytes []]=(ks++[[]]).map AV.bytes by rw[I3];rfl] at h3
   exact h3
  ·exact k _ ks (Or.inl rfl) h
 ·exact C6 q (k _ ks (Or.inl rfl) h)
theorem c46w{H0:Hp}{sp n ko oo fo:Nat}{cl:List (List (List Int))}{ks:List (List Int)}{x f D:Int}{tr u6 u7 u8 u9 u10 w11 w13 u14:AV}{N:KN}{R:KE}(g0:0≤lg)(g1:lg≤31)(hD:f/pw 2 lg.toNat=D)(hD1:D≤100):
  ∀(j:Nat) (rs:Rs) (H:Hp),(rs.length:Int)+j=D+1∨(D+1≤rs.length∧j=0)→zy H0 H sp n ko oo fo b lg rs cl ks false →
  (∀H' (ms:List Nat),ms.length=j→zy H0 H' sp n ko oo fo b lg (grow rs ms) cl ks false→N [.int b,.int lg,.int x,.obj 17 n,.ref sp,tr,u6,u7,u8,u9,u10,w11,.int f,w13,u14] H') →
  wpS (Iv c cc (r+6)) (nth (body (nth f46.body 2)) 5) [.int b,.int lg,.int x,.obj 17 n,.ref sp,tr,u6,u7,u8,u9,u10,w11,.int f,w13,u14] H N R T8:=by
 intro j rs H hj h k P hP
 have hp:=jE g0 (e6 g1 (by decide):lg≤36)
 have p1:0<pw 2 lg.toNat:=by exact e7 (by decide) hp.1
 have p2:small (pw 2 lg.toNat):=by exact⟨(e7 (by decide) hp.1),(e8 hp.2 (by decide))⟩
 have p3:within lg 1000:=by exact⟨g0,(e8 g1 (by decide))⟩
 induction j generalizing rs H with
 |zero=>
  have q:¬((cx rs).length:Int)≤D:=by rw[Z2];exact G0.mpr (hj.elim (λe=>l7 e.symm) λe=>e.1)
  refine hP _ _ ?_
  walk_at "1"
  walk_at "1"
  walk_at "1"
  walk_at "1"
  walk_at "1"
  rw[hD]
  exact C6 q (k _ [] rfl h)
 |succ j ih=>
  have q:((cx rs).length:Int)≤D:=by rw[Z2];exact Int.le_of_lt_add_one (hj.elim (λe=>e7 (D1 _ (j1.mpr (Z7 j))) (l7 e)) λe=>nomatch e.2)
  have l1:(cx rs).length<K8:=by rw[B4];exact j1.mp (e8 (e6 q hD1) (by decide))
  refine hP _ _ ?_
  walk_at "1"
  walk_at "1"
  walk_at "1"
  walk_at "1"
  walk_at "1"
  rw[hD]
  refine dQ q ?_
  refine nP.mk (qX h.g0 rfl) ?_
  refine Own.new h (Own.of_live (T9 (show Own.live ((sp,.list (cx rs))::xi rs)=true from bS) rfl)) λm H1 h1=>?_
  refine rdLB.l h1.g1 ?_
  refine nP.mk l1 ?_
  refine Own.w1 h1 lN λH2 h2=>?_
  rw[←jz (p:=(m,[]))] at h2
  refine ih ((m,[])::rs) H2 ?_ h2.swap λH' ms hm h'=>k H' (m::ms) (by rw[m9,hm]) h'
  rcases hj with hj | hj
  ·exact Or.inl (by rw[m9];exact(congrArg Int.ofNat (O1 ..)).trans hj)
  ·exact nomatch hj.2
theorem pb:∀(ms:List Nat) (m:Nat) (ks:List (List Int)) (rest:Rs),∃m' ks' rest',grow ((m,ks)::rest) ms=(m',ks')::rest'∧fi (kQ rest) ks ms.length=(kQ rest',ks')∧rest'.length=rest.length+ms.length∧(∀B:List (List Int)→Prop,B []→B ks→(∀p∈rest,B p.2)→B ks'∧∀p∈rest',B p.2)
 |[],m,ks,rest=>⟨m,ks,rest,rfl,rfl,rfl,λB _ h2 h3=>⟨h2,h3⟩⟩
 |m2::ms,m,ks,rest=>by
  refine eX34 (pb ms m2 [] ((m,ks)::rest)) λm' ks' rest' e1 e2 e3 e4=>?_
  refine⟨m',ks',rest',e1,?_,?_,λB h1 h2 h3=>e4 B h1 h1 λp hp=>?_⟩
  ·rw[jA] at e2;exact e2
  ·rw[e3,m9,m9];exact O1 _ _
  ·rcases l5.mp hp with rfl | hp
   ·exact h2
   ·exact h3 p hp
theorem ER{j:Nat}(h:j<4):0<pw 9 j∧small (pw 9 j):=by
 have:∀j,j<4→0<pw 9 j∧small (pw 9 j):=by decide
 exact this j h
noncomputable def iO(t:Nat)(ks:List (List Int)):Prop:=(∀d∈ks,d=[])∧ks.length≤t
theorem iO.keys{t:Nat}{ks:List (List Int)}(h:iO t ks)(ht:t≤60):au ks∧ks.length≤64:=⟨λd m=>by rw[h.1 d m];exact⟨B7.nil,j9 _⟩,by have:=h.2;exact b6 (b6 this ht) (by decide)⟩
theorem c46t{H0:Hp}{sp n ko oo fo m t:Nat}{ks:List (List Int)}{rest:Rs}{x:Int}{u6 u7 u8 u9 u10 w11 w12 w13 u14:AV}{N:KN}{R:KE}(b0:1≤b)(b1:b≤100)(g0:0≤lg)(g1:lg≤31)(hx:0≤x)(ht:t<4)(hk:iO t ks)(hr:∀p∈rest,iO t p.2)(hl:rest.length≤2*t)
  (h:zy H0 H sp n ko oo fo b lg ((m,ks)::rest) (kQ rest) ks false)
  (k:∀H' ko' m' ks' rest' w11 w12 w13,iO (t+1) ks'→(∀p∈rest',iO (t+1) p.2)→rest'.length≤2*(t+1)→zy H0 H' sp n ko' oo fo b lg ((m',ks')::rest') (kQ rest') ks' false→N [.int b,.int lg,.int x,.obj 17 n,.ref sp,.int t,u6,u7,u8,u9,u10,w11,w12,w13,u14] H') :
  wpS (Iv c cc (r+6)) (body (nth f46.body 2)) [.int b,.int lg,.int x,.obj 17 n,.ref sp,.int t,u6,u7,u8,u9,u10,w11,w12,w13,u14] H N R T8:=by
 have hp:=jE g0 (e6 g1 (by decide):lg≤36)
 have hp':=jE (lg:=lg+1) (e6 g0 (E6 (by decide))) (e6 (j4 g1 (g6 _)) (by decide))
 have p0:0<pw 2 lg.toNat:=by exact e7 (by decide) hp.1
 have p1:small (pw 2 lg.toNat):=by exact⟨(e7 (by decide) hp.1),(e8 hp.2 (by decide))⟩
 have p3:within lg 1000:=by exact⟨g0,(e8 g1 (by decide))⟩
 have p3':within (lg+1) 1000:=by exact⟨(e6 (by decide) (j4 g0 (g6 _))),(e8 (j4 g1 (g6 _)) (by decide))⟩
 have p9:=ER (j:=((t:Nat):Int).toNat) (by rw[t7];exact ht)
 have p9a:=p9.1
 have p9b:=p9.2
 have hy:0≤x/pw 9 ((t:Nat):Int).toNat:=r8 hx (A3 p9a)
 have el:((cx ((m,ks)::rest)).length:Int)-1=rest.length:=by rw[Z2,m9];exact yO rfl
 have sl:small (((cx ((m,ks)::rest)).length:Int)-1):=by rw[el];exact⟨(e7 (by decide) (g8 _)),(e8 (m5.mpr (b6 hl (r9 (d8 _) (A0 ht)))) (by decide))⟩
 walk_at "m"
 refine eX12 (Fx hp.1 (xw g0) hy) λe ee he=>?_
 refine nP.mk (bj (n:=9) rfl ⟨j5 _ (by decide),j7 _ (by decide)⟩) ?_
 rw[ee,el]
 have hg:Good (kQ ((m,ks)::rest)):=by
  intro q hq
  rw[kQ] at hq
  refine eX12 (F7.mp (P4.mp hq)) λp mp zq1=>?_;subst zq1
  rcases l5.mp mp with rfl | mp
  ·exact hk.keys (A9 (i8 ht (by decide)))
  ·exact(hr p mp).keys (A9 (i8 ht (by decide)))
 have hgr:Good (kQ rest):=λq hq=>hg q (by rw[jA];exact E5 _ hq)
 have hf:get H n = .dict [(78,BL b),(79,.int lg),(80,.ref ko),(81,.ref oo),(82,.ref fo),(61,.bool false)]:=h.cells _ (s9 _ (.head _))
 have hsub:=Own.re (Own.subl h (B0 _ (fj n ko oo fo b lg (kQ rest) ks false)))
 rcases he with rfl | ⟨δ,d2,dl,dh⟩
 ·have dr:=t8 (show (0:Int)≤pw 2 lg.toNat by exact A3 p0) (g8 rest.length)
  have q1:pw 2 lg.toNat*(rest.length:Int) + -1<pw 2 lg.toNat*(((cx ((m,ks)::rest)).length:Int)-1):=by rw[el];exact U5 (g6 _)
  have hD:(pw 2 lg.toNat*(rest.length:Int) + -1)/pw 2 lg.toNat=(rest.length:Int)-1:=by
   refine qk hp.1 ?_ ?_
   ·rw[Int.mul_sub,aL];exact Int.sub_le_sub_left hp.1 _
   ·rw[Int.mul_sub,aL,cf];exact U5 (g6 _)
  have hm:=h.g0
  walk_at "m"
  have rst:∀{w13:AV},wpS (Iv c cc (r+6)) (nth (body (nth f46.body 2)) 5) [.int b,.int lg,.int x,.obj 17 n,.ref sp,.int t,u6,u7,u8,u9,u10,.int (x/pw 9 ((t:Nat):Int).toNat),.int (pw 2 lg.toNat*(rest.length:Int) + -1),w13,u14] H (λρ H=>wpS (Iv c cc (r+6)) (.cons (nth (body (nth f46.body 2)) 6) .nil) ρ H N R T8) R T8:=by
   intro w13
   refine c46w g0 g1 hD (e6 (o8 (m5.mpr (b6 hl (r9 (d8 _) (A0 ht)))) (g6 _)) (by decide)) 0 ((m,ks)::rest) H (Or.inr ⟨e6 (l7 (cf _ 1)) (m5.mpr (P8 _)),rfl⟩) h λH2 ms hms h3=>?_
   have:ms=[]:=List.eq_nil_of_length_eq_zero hms
   subst this
   refine c46a hx hy (by have:=hk.2;exact b6 (b6 this (A0 ht)) (by decide)) (b6 (b6 hl (r9 (d8 _) (A0 ht))) (by decide)) h3 λH3 ks2 hks h4=>?_
   refine k _ _ _ _ _ _ _ _ ?_ (λp hp=>⟨(hr p hp).1,S4 (hr p hp).2⟩) (b6 hl (Nat.mul_le_mul_left 2 (P8 t))) h4
   rcases hks with rfl | rfl
   ·exact⟨hk.1,S4 hk.2⟩
   ·refine⟨λd hd=>(y6.mp hd).elim (hk.1 d) (λq=>i6.mp q),?_⟩
    rw[d6];exact E8 hk.2
  by_cases z:rest.length=0
  ·have q2:¬0≤pw 2 lg.toNat*(rest.length:Int) + -1:=by rw[z,show pw 2 lg.toNat*((0:Nat):Int)=0 from Int.mul_zero _];decide
   refine C6 q2 (C6 q2 ?_)
   exact rst
  ·have d1:pw 2 lg.toNat*1≤pw 2 lg.toNat*(rest.length:Int):=D3 (m5.mpr (Nat.pos_of_ne_zero z)) (A3 p0)
   have q2:0≤pw 2 lg.toNat*(rest.length:Int) + -1:=by exact j4 (e6 (A7 hp.1 (g6 _) (by decide) (e6 (by decide) hp.1)) d1) (g6 _)
   refine dQ q2 ?_
   refine tB g0 q2 (by rw[tL,hD,cD];exact U5 (g6 _)) hsub ?_
   walk_at "1"
   exact rst
 ·-- a turn onward
  have dn:=t8 (show (0:Int)≤pw 2 lg.toNat by exact A3 p0) (g8 δ)
  have dr:=t8 (show (0:Int)≤pw 2 lg.toNat by exact A3 p0) (g8 rest.length)
  have q1:¬pw 2 lg.toNat*(rest.length:Int)+e<pw 2 lg.toNat*(((cx ((m,ks)::rest)).length:Int)-1):=by rw[el];exact r6.mpr (E6 (e6 dn dl))
  have q2:0≤pw 2 lg.toNat*(rest.length:Int)+e:=by exact e6 (t8 (e6 (by decide) hp.1) (e6 (by decide) (e6 (g8 _) (l7 el.symm)))) (r6.mp q1)
  have hD:(pw 2 lg.toNat*(rest.length:Int)+e)/pw 2 lg.toNat=(((kQ rest).length+δ:Nat):Int):=by
   rw[cD]
   refine qk hp.1 ?_ ?_
   ·rw[K5,aM];exact Int.add_le_add_left dl _
   ·rw[K5,aM,B6];exact bc dh _
  have hm:=h.g0
  walk_at "m"
  refine xg b0 b1 g0 hgr (hk.keys (A9 (i8 ht (by decide)))) q2 hD (by rw[cD];exact b6 (b7 (b6 hl (r9 (d8 _) (A0 ht))) d2) (by decide)) hsub λH1 ko1 h1=>?_
  have h2:=Own.part h (show Own.live ((sp,.list (cx ((m,ks)::rest)))::xi ((m,ks)::rest))=true from bS) h1
  walk_at "1"
  refine c46w g0 g1 hD (by rw[cD];exact m5.mpr (b6 (b7 (b6 hl (r9 (d8 _) (A0 ht))) d2) (by decide))) δ ((m,ks)::rest) H1 (Or.inl (by rw[cD,m9];exact congrArg Int.ofNat (Nat.succ_add _ _))) h2 λH2 ms hms h3=>?_
  refine eX34 (pb ms m ks rest) λm' ks' rest' e1 e2 e3 e4=>?_
  rw[hms] at e2 e3
  rw[e1,e2] at h3
  have e5:=e4 (iO t) ⟨AY,j9 _⟩ hk hr
  refine c46a hx hy (by have:=e5.1.2;exact b6 (b6 this (A0 ht)) (by decide)) (b6 (b6 (j6 e3) (b7 (b6 hl (r9 (d8 _) (A0 ht))) d2)) (by decide)) h3 λH3 ks2 hks h4=>?_
  refine k _ _ _ _ _ _ _ _ ?_ (λp hp=>⟨(e5.2 p hp).1,S4 (e5.2 p hp).2⟩) (b6 (j6 e3) (b7 hl d2)) h4
  rcases hks with rfl | rfl
  ·exact⟨e5.1.1,S4 e5.1.2⟩
  ·refine⟨λd hd=>(y6.mp hd).elim (e5.1.1 d) (λq=>i6.mp q),?_⟩
   rw[d6];exact E8 e5.1.2
theorem tJ{cl:List (List (List Int))}{ks:List (List Int)}:(Q8 cl ks).length≤cl.length+1:=by
 cases ks with
 |nil=>exact P8 _
 |cons d ks=>show (cl++[_]).length≤_;rw[d6];exact d8 _
theorem rL{cl:List (List (List Int))}{ks:List (List Int)}(h:Good cl)(hk:au ks∧ks.length≤64):Good (Q8 cl ks):=by
 cases ks with
 |nil=>exact h
 |cons d ks=>exact h.snoc hk
theorem Ck{H:Hp}{ks:List (List Int)}{q:List (List (List Int))}:∀{p:List (List (List Int))} {vs:List AV},pM H vs (p++ks::q)→iJ (vs.getD p.length .U) H ks:=by
 intro p
 induction p with
 |nil=>
  intro vs h
  cases vs with
  |nil=>exact absurd h (List.cons_ne_nil _ _)
  |cons v vs=>exact eX23 h λ_ _ e a _=>(List.cons.inj e).1▸a
 |cons x p ih=>
  intro vs h
  cases vs with
  |nil=>exact absurd h (List.cons_ne_nil _ _)
  |cons v vs=>exact eX23 h λ_ _ e _ h=>ih (by rw[show p++ks::q=_ from (List.cons.inj e).2];exact h)
theorem FK{y:Int}:∃d,[AV.bytes [],AV.bytes [107],AV.bytes [0,0]].getD (y%3).toNat .U = .bytes d∧B7 d∧d.length≤5:=Z5 (p:=λx=>∃d,x = .bytes d∧B7 d∧d.length≤5) (n:=3) rfl (by decide) (Y2 ⟨[],rfl,B7.nil,by decide⟩ (Y2 ⟨[107],rfl,B7.cons (by decide) B7.nil,by decide⟩ (Y2 ⟨[0,0],rfl,B7.cons (by decide) (B7.cons (by decide) B7.nil),by decide⟩ nofun)))
theorem tM{i:Nat}{e:Int}(g0:0≤lg)(g1:lg≤31)(h0:0≤e)(h1:e<pw 2 lg.toNat):cH (pw 2 lg.toNat*(i:Int)+e) lg.toNat=(i:Int):=by
 have hp:=jE g0 (e6 g1 (by decide):lg≤36)
 rw[tL]
 exact qk hp.1 (E6 h0) (bc h1 _)
theorem c46i{b' b2:Int}{d d2:List Int}{cs:List (List (List Int))}{i:Nat}{a1 a2 a3 a4 a5 w7 w11 w12:AV}{N:KN}{R:KE}(b0:1≤b)(b1:b≤100)(g0:0≤lg)(g1:lg≤31)(hg:Good cs)(hc:cs.length≤60)(hi:i≤62)(od:B7 d)(ld:d.length≤5)
  (k:∀w12,N [.int b,.int lg,a1,a2,a3,a4,a5,w7,FR b' (S7 b lg cs) lg (C7 b cs).length cs.length,FR b2 d2 0 0 0,.int i,w11,w12,.bool (fL b d cs i),.bytes d] H) :
  wpS (Iv c cc (r+6)) (nth (body (nth f46.body 9)) 3) [.int b,.int lg,a1,a2,a3,a4,a5,w7,FR b' (S7 b lg cs) lg (C7 b cs).length cs.length,FR b2 d2 0 0 0,.int i,w11,w12,.bool (fL b d cs i),.bytes d] H N R T8:=by
 have hp:=jE g0 (e6 g1 (by decide):lg≤36)
 have p0:0<pw 2 lg.toNat:=by exact e7 (by decide) hp.1
 have p1:small (pw 2 lg.toNat):=by exact⟨(e7 (by decide) hp.1),(e8 hp.2 (by decide))⟩
 have p3:within lg 1000:=by exact⟨g0,(e8 g1 (by decide))⟩
 have nn:=t8 (show (0:Int)≤pw 2 lg.toNat by exact A3 p0) (g8 i)
 have e2:pw 2 lg.toNat*((i:Int)+1)-1=pw 2 lg.toNat*(i:Int)+(pw 2 lg.toNat-1):=by rw[aM,aL];exact S6 _ _ 1
 have one:∀(f:Int) (w:AV) (M:KN),0≤f→cH f lg.toNat=(i:Int)→M [.int b,.int lg,a1,a2,a3,a4,a5,w7,FR b' (S7 b lg cs) lg (C7 b cs).length cs.length,FR b2 d2 0 0 0,.int i,w11,.int f,.bool (fL b d cs i),.bytes d] H →
   pH [12] (.int f) [.int b,.int lg,a1,a2,a3,a4,a5,w7,FR b' (S7 b lg cs) lg (C7 b cs).length cs.length,FR b2 d2 0 0 0,.int i,w11,w,.bool (fL b d cs i),.bytes d] λρ=>wpS (Iv c cc (r+6)) (body (nth (body (nth f46.body 9)) 3)) ρ H M R T8:=by
  intro f w M f0 fs hM
  refine c90 b0 b1 g0 hg hc od ld fs ?_
  refine I9 (by cases fL b d cs i<;>rfl) ?_
  refine c90s f0 ?_
  refine I9 rfl ?_
  exact hM
 walk_at "m"
 refine one (pw 2 lg.toNat*(i:Int)) w12 _ nn (by rw[←G8 (pw 2 lg.toNat*(i:Int))];exact tM g0 g1 (g6 0) p0) ?_
 refine one (pw 2 lg.toNat*((i:Int)+1)-1) (.int (pw 2 lg.toNat*(i:Int))) _ (by rw[e2];exact e6 (e6 (j4 nn (o8 hp.1 (g6 _))) (l7 e2.symm)) (l7 e2)) (by rw[e2];exact tM g0 g1 (o8 hp.1 (g6 _)) (by lia -abstractProof)) (k _)
theorem c46f{H1:Hp}{x b' b2:Int}{d2:List Int}{sp n ko oo fo:Nat}{rsF:Rs}{cs:List (List (List Int))}{tr w7 w11 w12 w13:AV}(b0:1≤b)(b1:b≤100)(g0:0≤lg)(g1:lg≤31)(hx:0≤x)(hg:Good cs)(hc:cs.length≤60)(hs:cs=kQ rsF)
  (h:zy H1 H sp n ko oo fo b lg rsF cs [] true) (k:∀H',Kq [] H H'→K (.bool true) H') :
  wpS (Iv c cc (r+6)) (S2 f46.body 9) [.int b,.int lg,.int x,.obj 17 n,.ref sp,tr,.bytes (S7 b lg cs),w7,FR b' (S7 b lg cs) lg (C7 b cs).length cs.length,FR b2 d2 0 0 0,.U,w11,w12,w13,.U] H (λ_ H=>K .none H) K (λc _ H=>X c H):=by
 have e0:(cx rsF).length=cs.length:=by rw[Z2,hs,cD]
 have m0:mid (((cx rsF).length:Int)+2):=by rw[e0];exact⟨(e7 (by decide) (j4 (g8 _) (g6 _))),(e8 (j4 (m5.mpr hc) (g6 _)) (by decide))⟩
 have hr:pM H (cx rsF) cs:=by rw[hs];exact wL (as:=[(sp,.list (cx rsF))]) (bs:=fj n ko oo fo b lg cs [] true) h
 walk_at "1"
 walk_at "1"
 have et:(((cx rsF).length:Int)+2).toNat=cs.length+2:=by rw[e0];exact t7 _
 show ar _ _ _ _ (I4 (((cx rsF).length:Int)+2).toNat 0 1) _ _
 rw[et]
 refine dw (λl ρ H'=>(Kq [] H H'∧get H' sp = .list (cx rsF)∧pM H' (cx rsF) cs)∧∃(i j:Nat) (w10 w12 w13 w14:AV),i+j=cs.length+2∧l=I4 j i 1∧ρ=[.int b,.int lg,.int x,.obj 17 n,.ref sp,tr,.bytes (S7 b lg cs),w7,FR b' (S7 b lg cs) lg (C7 b cs).length cs.length,FR b2 d2 0 0 0,w10,w11,w12,w13,w14])
  ⟨⟨Kq.refl,h.g0,hr⟩,0,cs.length+2,.U,w12,w13,.U,by exact J0 _,rfl,rfl⟩ ?_ ?_
 ·intro ρ H' zr1;refine eX02 zr1 λzn2 zn3=>?_;clear zr1;refine eX02 zn2 λk1 _=>?_;clear zn2;refine eX63 zn3 λi j w10 w12 w13 w14 e el zq4=>?_;clear zn3;subst zq4
  exact k _ k1
 ·intro v l ρ H' M zr5 hM;refine eX02 zr5 λzn6 zn7=>?_;clear zr5;refine eX03 zn6 λk1 gs hr=>?_;clear zn6;refine eX63 zn7 λi j w10 w12 w13 w14 e el zq8=>?_;clear zn7;subst zq8
  cases j with
  |zero=>cases el
  |succ j=>
   have ev:v = .int i:=(List.cons.inj el).1
   have er:l=I4 j (i+1) 1:=(List.cons.inj el).2
   subst ev er
   refine eX13 (FK (y:=x+(i:Int))) λd ed od ld=>?_
   have fin:∀(H2:Hp) (w12:AV) (bb:Bool),bb=fL b d cs i→Kq [] H' H2→wpS (Iv c cc (r+6)) (.cons (nth (body (nth f46.body 9)) 3) .nil) [.int b,.int lg,.int x,.obj 17 n,.ref sp,tr,.bytes (S7 b lg cs),w7,FR b' (S7 b lg cs) lg (C7 b cs).length cs.length,FR b2 d2 0 0 0,.int i,w11,w12,.bool bb,.bytes d] H2 M K T8:=λH2 w12 bb hb k2=>by
    subst hb
    exact c46i b0 b1 g0 g1 hg hc (b6 (u3 _ _) (b6 (j6 e) (b7 hc (d8 _)))) od ld λw12=>hM _ _ ⟨⟨k1.trans0 k2,k2.list0 gs,hr.keep k2⟩,i+1,j,_,_,_,_,by exact(O1 i j).trans e,rfl,rfl⟩
   walk_at "1"
   refine nP.mk (bj (n:=3) rfl ⟨j5 _ (by decide),j7 _ (by decide)⟩) ?_
   rw[ed]
   walk_at "1"
   by_cases hi:i<cs.length
   ·obtain⟨p,ks,q,rfl,rfl⟩:∃p ks q,cs=p++ks::q∧p.length=i:=⟨cs.take i,cs[i],cs.drop (i+1),by rw[List.getElem_cons_drop,List.take_append_drop],by exact List.length_take_of_le (A9 hi)⟩
    have hk:iJ ((cx rsF).getD (p.length:Int).toNat .U) H' ks:=Ck hr
    have hks:au ks∧ks.length≤64:=hg ks (s9 _ (.head _))
    have qn:¬((cx rsF).length:Int)≤(p.length:Int):=by rw[e0];exact G0.mpr (j1.mpr hi)
    have qw:within (p.length:Int) (cx rsF).length:=by rw[e0];exact⟨(g8 _),(j1.mpr hi)⟩
    have hm:fL b d (p++ks::q) p.length=fL b d [ks] 0:=mI
    refine O0 (by rw[decide_eq_false qn];rfl) ?_
    refine rdLB.l gs (nP.mk qw ?_)
    have hk2:=hk
    generalize (cx rsF).getD (p.length:Int).toNat .U=v at hk2 ⊢
    cases ks with
    |nil=>
     rcases hk2 with rfl | ⟨m,rfl,g⟩
     ·exact C6 (A6 0) (fin _ w12 _ ((decide_eq_false qn).trans hm.symm) Kq.refl)
     ·exact .l g (C6 (A6 0) (fin _ w12 _ ((decide_eq_false qn).trans hm.symm) Kq.refl))
    |cons y ks=>
     have l0:(0:Int)<(((y::ks).map AV.bytes).length:Nat):=by rw[r7,m9];exact j1.mpr (i8 (by decide) (b6 (d8 _) (x9 _ _)))
     rcases hk2 with rfl | ⟨m,rfl,g⟩
     ·refine dQ l0 (.l gs (nP.mk qw (c30 b0 b1 hks.1 hks.2 hk λH2 k2=>?_)))
      exact c31 od ld (U0 b0 b1 hks.2) (iF b0 b1 hks.2).1 (iF b0 b1 hks.2).2 eL (by have:=aj (b:=b);exact(A2 (n:=30)).mpr this.2) (fin _ w12 _ hm.symm k2)
     ·refine .l g (dQ l0 (.l gs (nP.mk qw (c30 b0 b1 hks.1 hks.2 hk λH2 k2=>?_))))
      exact c31 od ld (U0 b0 b1 hks.2) (iF b0 b1 hks.2).1 (iF b0 b1 hks.2).2 eL (by have:=aj (b:=b);exact(A2 (n:=30)).mpr this.2) (fin _ w12 _ hm.symm k2)
   ·have qn:((cx rsF).length:Int)≤(i:Int):=by rw[e0];exact m5.mpr (I8.mp hi)
    have hq:(!decide (((cx rsF).length:Int)≤(i:Int)))=false:=by rw[decide_eq_true qn];rfl
    refine I9 hq (I9 hq ?_)
    exact fin _ _ _ ((decide_eq_true qn).trans (jP (b:=b) (d:=d) (cl:=cs) (i:=i) (I8.mp hi)).symm) Kq.refl
theorem c46e{H1:Hp}{x:Int}{sp n ko oo fo:Nat}{rsF:Rs}{cl:List (List (List Int))}{ks:List (List Int)}{tr w11 w12 w13:AV}(b0:1≤b)(b1:b≤100)(g0:0≤lg)(g1:lg≤31)(hx:0≤x)(hg:Good cl)(hc:cl.length≤59)(hk:au ks∧ks.length≤64)(hs:Q8 cl ks=kQ rsF)
  (h:zy H1 H sp n ko oo fo b lg rsF cl ks false) (k:∀H',Kq [] H1 H'→K (.bool true) H') :
  wpS (Iv c cc (r+6)) (S2 f46.body 4) [.int b,.int lg,.int x,.obj 17 n,.ref sp,tr,.U,.U,.U,.U,.U,w11,w12,w13,.U] H (λ_ H=>K .none H) K (λc _ H=>X c H):=by
 have hl:=tJ (cl:=cl) (ks:=ks)
 have hgs:Good (Q8 cl ks):=rL hg hk
 have hp:=jE (lg:=lg+4) (e6 g0 (E6 (by decide))) (e6 (j4 g1 (g6 _)) (by decide))
 have p3:within (lg+4) 1000:=by exact⟨(e6 (by decide) (j4 g0 (g6 _))),(e8 (j4 g1 (g6 _)) (by decide))⟩
 have hf:get H n = .dict [(78,BL b),(79,.int lg),(80,.ref ko),(81,.ref oo),(82,.ref fo),(61,.bool false)]:=h.cells _ (s9 _ (.head _))
 have hsub:=Own.re (Own.subl h (B0 _ (fj n ko oo fo b lg cl ks false)))
 walk_at "1"
 refine c88 b0 b1 g0 g1 hg (b6 hc (by decide)) hk hsub λH2 ko2 h1=>?_
 have h2:=Own.part h (show Own.live ((sp,.list (cx rsF))::xi rsF)=true from bS) h1
 have hr:pM H2 (cx rsF) (Q8 cl ks):=by rw[hs];exact wL (as:=[(sp,.list (cx rsF))]) (bs:=fj n ko2 oo fo b lg (Q8 cl ks) [] true) h2
 refine c32 b0 b1 g0 g1 hgs (b6 hl (b7 hc (d8 _))) hr (Or.inr ⟨sp,rfl,h2.g0⟩) λH3 k3=>?_
 refine C6 (λn=>n rfl) ?_
 have h3:=h2.call k3 (Own.of_live (T9 (show Own.live ((sp,.list (cx rsF))::xi rsF)=true from bS) rfl))
 have hs3:=Own.re (Own.subl h3 (B0 _ (fj n ko2 oo fo b lg (Q8 cl ks) [] true)))
 iterate 2 walk_at "1"
 refine dw (λl ρ H'=>H'=H3∧(∀v∈l,∃w,v = .int w∧(w=1∨w=3∨4≤w))∧∃w7,ρ=[.int b,.int lg,.int x,.obj 17 n,.ref sp,tr,.bytes (S7 b lg (Q8 cl ks)),w7,.U,.U,.U,w11,w12,w13,.U]) ⟨rfl,?_,.U,rfl⟩ ?_ ?_
 ·intro v hv
  rcases l5.mp hv with rfl | hv
  ·exact⟨_,rfl,Or.inl rfl⟩
  ·rcases l5.mp hv with rfl | hv
   ·exact⟨_,rfl,Or.inr (Or.inl rfl)⟩
   ·rcases l5.mp hv with rfl | hv
    ·exact⟨_,rfl,Or.inr (Or.inr (by decide))⟩
    ·rw[i6.mp hv];exact⟨_,rfl,Or.inr (Or.inr (e6 (by decide) (j4 (g6 _) hp.1)))⟩
 ·intro ρ H' zr9;refine eX03 zr9 λzq10 _ zn11=>?_;clear zr9;subst zq10;refine eX11 zn11 λw7 zq12=>?_;clear zn11;subst zq12
  have x5:0≤x%5∧x%5<5:=by exact⟨(j5 _ (by decide)),(e8 (i5 (j7 _ (by decide))) (by decide))⟩
  walk_at "m"
  refine fI (b:=1+x%50) (j4 (g6 _) (j5 _ (by decide))) λH4 k4=>?_
  refine c89 b0 b1 g0 g1 hgs (b6 hl (b7 hc (d8 _))) λH5 k5=>?_
  walk_at "m"
  refine fI b0 λH6 k6=>?_
  walk_at "m"
  refine c89s (by unfold cut;rw[V1];exact g9 (Nat.min_le_left _ _) (by rw[bB];exact(E9 (j5 _ (by decide))).mpr (j7 _ (by decide)))) λH7 k7=>?_
  have h7:=h3.call (((k4.trans0 k5).trans0 k6).trans0 k7) (Own.of_live (T9 (show Own.live ((sp,.list (cx rsF))::xi rsF)=true from bS) rfl))
  exact c46f b0 b1 g0 g1 hx hgs (b6 hl (b7 hc (d8 _))) hs h7 (λH' k'=>k _ (h7.keep.trans0 k'))
 ·intro v l ρ H' M zr13 hM;refine eX03 zr13 λzq14 hv zn15=>?_;clear zr13;subst zq14;refine eX11 zn15 λw7 zq16=>?_;clear zn15;subst zq16
  refine eX12 (hv v (.head _)) λw zq1 hw=>?_;subst zq1
  refine CE hw hs3 ?_
  walk_at "1"
  exact hM _ _ ⟨rfl,λv q=>hv v (.tail _ q),_,rfl⟩
theorem c46{x:Int}(b0:1≤b)(b1:b≤100)(g0:0≤lg)(g1:lg≤31)(hx:0≤x)(k:∀H',Kq [] H H'→K (.bool true) H'):c (r+7) 46 [.int b,.int lg,.int x] H K X:=by
 refine L.call rfl ?_
 refine fI b0 λH1 k1=>?_
 refine uE g0 g1 λn ko oo fo H2 h2=>?_
 walk_at "w"
 walk_at "w"
 rename_i m H3 h3 sp H4 h4
 have h5:zy H1 H4 sp n ko oo fo b lg [(m,[])] (kQ []) [] false:=h4
 walk_at "1"
 have s0:iO 0 []:=⟨AY,d8 0⟩
 refine c46t (t:=0) (rest:=[]) b0 b1 g0 g1 hx (by decide) s0 nofun (d8 0) h5 λH6 ko m1 ks1 rs1 w1 w2 w3 s1 r1 l1 h6=>?_
 refine c46t (t:=1) b0 b1 g0 g1 hx (by decide) s1 r1 l1 h6 λH7 ko m2 ks2 rs2 w1 w2 w3 s2 r2 l2 h7=>?_
 refine c46t (t:=2) b0 b1 g0 g1 hx (by decide) s2 r2 l2 h7 λH8 ko m3 ks3 rs3 w1 w2 w3 s3 r3 l3 h8=>?_
 refine c46t (t:=3) b0 b1 g0 g1 hx (by decide) s3 r3 l3 h8 λH9 ko m4 ks4 rs4 w1 w2 w3 s4 r4 l4 h9=>?_
 have e1:(((cx ((m4,ks4)::rs4)).length:Int)-1).toNat=rs4.length:=by rw[Z2,m9];exact He rfl
 have w1:within (((cx ((m4,ks4)::rs4)).length:Int)-1) (cx ((m4,ks4)::rs4)).length:=by rw[Z2,m9];exact Io rfl (by decide)
 walk_at "m"
 rw[e1,getD_last]
 have hg:Good (kQ rs4):=by
  intro q hq
  refine eX12 (F7.mp (P4.mp hq)) λp mp zq2=>?_;subst zq2
  exact(r4 p mp).keys (by decide)
 refine rdLB.l h9.g1 ?_
 cases hks:ks4 with
 |nil=>
  subst hks
  refine dQ rfl ?_
  have p0:0<(cx ((m4,[])::rs4)).length:=by rw[Z2,m9];exact i8 (by decide) (b6 (d8 _) (x9 _ _))
  walk_at "m"
  rename_i h10
  rw[show (cx ((m4,[])::rs4)).dropLast=cx rs4 by rw[jz,List.dropLast_concat]] at h10
  exact c46e (rsF:=rs4) b0 b1 g0 g1 hx hg (by rw[cD];exact b6 l4 (by decide)) (s4.keys (by decide)) rfl (h10.subl (.cons₂ _ (.cons _ (List.Sublist.refl _)))) λH' k'=>k _ (k1.trans0 k')
 |cons d ks5=>
  subst hks
  refine C6 (by rw[r7,m9];exact λe=>Nat.succ_ne_zero _ (Int.ofNat.inj e)) ?_
  exact c46e (rsF:=(m4,d::ks5)::rs4) b0 b1 g0 g1 hx hg (by rw[cD];exact b6 l4 (by decide)) (s4.keys (by decide)) (by rw[jA];rfl) h9 λH' k'=>k _ (k1.trans0 k')
theorem c24{l:List Int}{i:Int}(h:∀x∈l,0≤x∧x<1000000)(l0:0<l.length)(l1:l.length≤9)(i0:0≤i)(i1:i≤8)(k:∀v,0≤v→v<2000000→K (.int v) H):c (r+1) 24 [.fl (l.map .int),.int i] H K X:=by
 refine L.call rfl ?_
 have e:(l.map AV.int).length=l.length:=r7 _
 have m1:0≤i%(l.length:Int):=j5 _ (Q5 (j1.mpr l0))
 have m2:i%(l.length:Int)<l.length:=j7 _ (j1.mpr l0)
 have d1:0≤i/(l.length:Int):=r8 i0 (m5.mpr (A9 l0))
 have d2:i/(l.length:Int)≤i:=dC _ i0
 have x:=h _ (dz (h:=show (i%(l.length:Int)).toNat<l.length by exact(E9 m1).mpr m2))
 rw[List.getElem_eq_getD 0] at x
 have w:within (i%((l.map AV.int).length:Int)) (l.map AV.int).length:=by rw[e];exact⟨m1,m2⟩
 refine nP.mk (by rw[e];exact j1.mpr l0) (nP.mk w ?_)
 rw[e,jZ ((E9 m1).mpr m2)]
 walk_at "m"
 exact k _ (C4 x.1 (t8 (by decide) (by rw[e];exact d1))) (by rw[e];exact e7 (cn x.2 (D3 (e6 d2 i1) (by decide))) (by decide))
noncomputable def HD(a s:Int):AV:=.inst 15 [(3,.int a),(4,.int s)]
theorem uC{a s:Int}(k:∀H',Kq [] H H'→K (HD a s) H'):cc (r+2) 15 [.int a,.int s] H K X:=by
 have h:=Own.nil (S:=[]) (H:=H)
 refine L.cls rfl ?_
 walk_at "w"
 refine L.call rfl ?_
 walk_at "m"
 refine⟨rfl,Or.inr ?_⟩
 walk_at "m"
 exact k _ (Own.keep (by assumption))
noncomputable def X2(a s:Int):List Int:=M9 a++M9 s
theorem c80{a s:Int}(a0:0≤a)(a1:a<16384)(s0:0≤s)(s1:s<16384)(k:∀H',Kq [] H H'→K (.bytes (X2 a s)) H'):c (r+3) 80 [HD a s] H K X:=by
 refine L.call rfl ?_
 refine c2 a0 a1 λH1 k1=>c2 s0 s1 λH2 k2=>?_
 refine nP.mk ?_ (k _ (k1.trans0 k2))
 rw[B4];exact b6 (b7 O9 O9) (by decide)
theorem c20{d:List Int}{p a s:Int}(h:Has d p (X2 a s))(a0:0≤a)(a1:a<16384)(s0:0≤s)(s1:s<16384)(k:∀H',Kq [] H H'→K (.tup [HD a s,.int (p+(X2 a s).length)]) H'):c (r+3) 20 [.bytes d,.int p] H K X:=by
 refine L.call rfl ?_
 refine c3 h.left a0 a1 (nP.mk rfl (c3 h.right s0 s1 (nP.mk rfl ?_)))
 refine uC λH1 k1=>?_
 have:=k _ k1
 rw[show (p+(M9 a).length+(M9 s).length:Int)=p+(X2 a s).length by unfold X2;rw[d6];exact B6 _ _ _]
 exact this
theorem c22{d l:List Int}{a kind:Int}(hk:kind=1∨kind=2)(ho:B7 l)(hl:l.length≤900)(h:Has d a (B8 kind l))(k:∀H',Kq [] H H'→K (.bytes l) H'):c (r+4) 22 [.bytes d,HD a l.length,.int kind] H K X:=by
 refine L.call rfl ?_
 have hle:=h.le
 have hnn:=h.nn
 have el:(B8 kind l).length=l.length+5:=by unfold B8;rw[d6,d6,D0];rfl
 rw[el] at hle
 have e1:cut d a (a+(l.length:Int)+1)=l++[0]:=h.left.cut' (by rw[d6];show _=a+((l.length+1:Nat):Int);exact B6 _ _ _)
 have h2:Has d (a+(l.length:Int)+1) (le (ck kind (l++[0])) 4):=by
  have:=h.right
  rw[show (a+((l++[(0:Int)]).length:Int))=a+(l.length:Int)+1 by rw[d6];exact(B6 a l.length 1).symm] at this
  exact this
 have q:¬((d.length:Int)<a+(l.length:Int)+5):=r6.mpr (e6 (l7 (B6 _ _ 5)) hle)
 walk_at "m"
 rw[e1]
 refine c8 h2 rz.1 rz.2 (c13 hk ho.snoc0 λH1 k1=>?_)
 refine C6 (λn=>n rfl) ?_
 have w:within (l.length:Int) (l++[(0:Int)]).length:=by rw[d6];exact⟨g8 _,by show _<((l.length+1:Nat):Int);exact j1.mpr (J7 (by decide))⟩
 have e2:(l++[(0:Int)]).getD (l.length:Int).toNat 0=0:=by rw[t7,t5,U4 (d8 _),Nat.sub_self];rfl
 refine nP.mk w ?_
 rw[e2]
 intro _
 refine C6 (λn=>n rfl) ?_
 walk_at "m"
 rw[qm rfl]
 exact k _ k1
noncomputable def FT(m i:AV):AV:=.inst 19 [(85,m),(86,i)]
theorem uD(k:∀H',Kq [] H H'→K (FT (HD ma ms) (HD ia is)) H'):cc (r+2) 19 [HD ma ms,HD ia is] H K X:=by
 have h:=Own.nil (S:=[]) (H:=H)
 refine L.cls rfl ?_
 walk_at "w"
 refine L.call rfl ?_
 walk_at "m"
 refine⟨rfl,Or.inr ?_⟩
 walk_at "m"
 exact k _ (Own.keep (by assumption))
noncomputable def yG(ma ms ia is:Int):List Int:=(X2 ma ms++X2 ia is)++l6 (40-(X2 ma ms++X2 ia is).length) 0
noncomputable def ru(ma ms ia is:Int):List Int:=yG ma ms ia is++le 15800726617472432983 8
theorem bz{a s:Int}:(X2 a s).length≤4:=by
 unfold X2;rw[d6];exact b7 O9 O9
theorem mW:(X2 ma ms++X2 ia is).length≤8:=by
 rw[d6];exact b7 bz bz
theorem jo:(yG ma ms ia is).length=40:=by
 have:=mW (ma:=ma) (ms:=ms) (ia:=ia) (is:=is)
 unfold yG;rw[d6,n7];exact Nat.add_sub_of_le (b6 this (by decide))
structure Small4(ma ms ia is:Int):Prop where
 a:0≤ma∧ma<16384
 b:0≤ms∧ms<16384
 c:0≤ia∧ia<16384
 d:0≤is∧is<16384
theorem c92(h:Small4 ma ms ia is)(k:∀H',Kq [] H H'→K (.bytes (ru ma ms ia is)) H'):c (r+4) 92 [FT (HD ma ms) (HD ia is)] H K X:=by
 refine L.call rfl ?_
 refine c80 h.a.1 h.a.2 h.b.1 h.b.2 λH1 k1=>c80 h.c.1 h.c.2 h.d.1 h.d.2 λH2 k2=>?_
 have l:=mW (ma:=ma) (ms:=ms) (ia:=ia) (is:=is)
 have l':=l
 rw[d6] at l'
 have e:(40-((X2 ma ms++X2 ia is).length:Int)).toNat=40-(X2 ma ms++X2 ia is).length:=O4 40 _
 have z:(X2 ma ms++X2 ia is).length+(l6 (40-(X2 ma ms++X2 ia is).length) (0:Int)).length≤K8:=by rw[n7,B4];exact b6 (b7 l (b6 (j6 e.symm) (b6 (j6 e) (b6 (aw _ _) (d8 _))))) (by decide)
 refine nP.mk (by rw[B4];exact b6 l' (by decide)) (nP.mk (⟨(e6 (by decide) (o8 (g6 _) (m5.mpr l))),(e8 (o8 (g6 _) (g8 _)) (by decide))⟩) ?_)
 rw[e]
 refine nP.mk z ?_
 refine c7 (by decide) (by decide) ?_
 exact nP.mk (by rw[B4,D0];exact b6 (v5 (j6 jo) 8) (by decide)) (k _ (k1.trans0 k2))
theorem c23{d A:List Int}(h:Small4 ma ms ia is)(e:d=A++ru ma ms ia is)(k:∀H',Kq [] H H'→K (FT (HD ma ms) (HD ia is)) H'):c (r+4) 23 [.bytes d] H K X:=by
 refine L.call rfl ?_
 have l40:=jo (ma:=ma) (ms:=ms) (ia:=ia) (is:=is)
 have l48:(ru ma ms ia is).length=48:=by unfold ru;rw[d6,D0,l40]
 have ld:d.length=A.length+48:=by rw[e,d6,l48]
 have hd:d.drop ((d.length:Int)-48).toNat=ru ma ms ia is:=by rw[e,show (((A++ru ma ms ia is).length:Int)-48).toNat=A.length by rw[d6,l48];exact He rfl,bZ]
 have q:¬(d.length:Int)<48:=by exact r6.mpr (m5.mpr (b6 (b6 (d8 _) (x9 _ _)) (j6 ld.symm)))
 have i1:within ((d.length:Int)-48) (d.length+1):=⟨Int.sub_nonneg_of_le (r6.mp q),e8 (aT _ (by decide)) (Int.lt_succ _)⟩
 walk_at "m"
 rw[hd]
 have hm:Has (ru ma ms ia is) 40 (le 15800726617472432983 8):=⟨yG ma ms ia is,[],by rw[y7];rfl,by rw[l40];rfl⟩
 refine c9 hm (by decide) (by decide) (C6 (λn=>n rfl) ?_)
 have e1:cut (ru ma ms ia is) 0 40=yG ma ms ia is:=qm (by rw[l40];rfl)
 walk_at "m"
 rw[e1]
 have hh:Has (yG ma ms ia is) 0 (X2 ma ms++X2 ia is):=(Has.self (l:=yG ma ms ia is)).left
 refine c20 hh.left h.a.1 h.a.2 h.b.1 h.b.2 λH1 k1=>nP.mk rfl ?_
 refine c20 hh.right h.c.1 h.c.2 h.d.1 h.d.2 λH2 k2=>nP.mk rfl ?_
 have l8:=mW (ma:=ma) (ms:=ms) (ia:=ia) (is:=is)
 have el:(0+((X2 ma ms).length:Int)+(X2 ia is).length)=((X2 ma ms++X2 ia is).length:Nat):=by rw[d6,N7];rfl
 rw[el]
 have ed:(yG ma ms ia is).drop ((X2 ma ms++X2 ia is).length:Int).toNat=l6 (40-(X2 ma ms++X2 ia is).length) 0:=by rw[t7];exact bZ
 have et:(40-((X2 ma ms++X2 ia is).length:Int)).toNat=40-(X2 ma ms++X2 ia is).length:=O4 40 _
 refine nP.mk (g8 _) (nP.mk (⟨(e6 (by decide) (o8 (g6 _) (e6 (l7 el.symm) (e6 (l7 el) (m5.mpr l8))))),(e8 (o8 (g6 _) (g8 _)) (by decide))⟩) ?_)
 rw[ed,et]
 refine C6 (λn=>n rfl) ?_
 exact uD λH3 k3=>k _ ((k1.trans0 k2).trans0 k3)
end
section
variable{r:Nat}{H:Hp}{K:KE}{X:XE}
theorem Own.perm{S:List Nat}{H0 H:Hp}{ps qs:List (Nat×Cell)}(h:Own S H0 H ps)(p:ps.Perm qs):Own S H0 H qs:=
 ⟨h.keep,λx m=>h.cells x (p.mem_iff.mpr m),p.pairwise h.nd (λe q=>e q.symm),λx m=>h.own x (p.mem_iff.mpr m)⟩
theorem Own.mid{S:List Nat}{H0 H H':Hp}{as qs qs' bs:List (Nat×Cell)}(h:Own S H0 H (as++(qs++bs)))(la:Own.live as=true)(lb:Own.live bs=true)(k:Own (qs.map Prod.fst) H H' qs'):Own S H0 H' (as++(qs'++bs)):=by
 have h1:Own S H0 H ((as++bs)++qs):=h.perm (by rw[t6];exact(List.Perm.append_left as ai))
 exact(h1.part (T9 la lb) k).perm (by rw[t6];exact(List.Perm.append_left as ai))
theorem Own.add{S:List Nat}{H0 H H':Hp}{ps qs:List (Nat×Cell)}(h:Own S H0 H ps)(l:Own.live ps=true)(k:Own [] H H' qs):Own S H0 H' (ps++qs):=
 Own.part (as:=ps) (qs:=[]) (by rw[y7];exact h) l k
theorem Own.unS{S:List Nat}{H0 H:Hp}{n:Nat}{d:Cell}{ps:List (Nat×Cell)}(h:Own (n::S) H0 H ps)(m:(n,d)∈ps)(e:get H0 n=d):Kq S H0 H:=
 ⟨h.keep.len,λ{x} hx hs=>by
  by_cases q:x=n
  ·rw[q,h.cells _ m];exact e.symm
  ·exact h.keep.same hx (λz=>(l5.mp z).elim q hs)⟩
section
variable{n b l oc:Nat}{os:List (Nat×AV)}{iv ne:Int}{buf last:List Int}{fin:Bool}
noncomputable abbrev bV(n b l oc:Nat)(os:List (Nat×AV))(iv:Int)(buf:List Int)(ne:Int)(fin:Bool)(last:List Int):List (Nat×Cell):=
 [(n,.dict [(55,.int iv),(56,.inst oc os),(57,.ref b),(58,.ref l),(59,.int ne),(60,.int ne),(61,.bool fin),(20,.bytes last)]),(b,.barr buf),(l,.list [.int 0])]
theorem BB.to{S:List Nat}{H':Hp}(h:BB H' n b l oc os iv buf ne fin last)(k:Kq S H H')(hn:n∈S∨H.length≤n)(hb:b∈S∨H.length≤b)(hl:l∈S∨H.length≤l):Own S H H' (bV n b l oc os iv buf ne fin last):=
 ⟨k,h.own.cells,h.own.nd,λp m=>by
  rcases l5.mp m with rfl | m
  ·exact hn
  ·rcases l5.mp m with rfl | m
   ·exact hb
   ·rw[i6.mp m];exact hl⟩
theorem BB.at{S:List Nat}{H0:Hp}{as bs:List (Nat×Cell)}(h:Own S H0 H (as++(bV n b l oc os iv buf ne fin last++bs))):BB H n b l oc os iv buf ne fin last:=
 ⟨h.cells _ (s9 _ (.head _)),h.cells _ (s9 _ (.tail _ (.head _))),h.cells _ (s9 _ (.tail _ (.tail _ (.head _))))⟩
theorem jl(hi:1≤iv)(k:∀n b l H',Own [] H H' (bV n b l oc os iv [] 0 false [])→K (.obj 12 n) H'):cc (r+2) 12 [.int iv,.inst oc os] H K X:=
 Bc hi λn b l H' k1 h a1 a2 a3=>k n b l H' (h.to k1 (.inr a1) (.inr a2) (.inr a3))
end
noncomputable def G7(ck bs iv fb lg:Int)(pr:Bool):List (Nat×AV):=[(34,.int ck),(40,.int 32768),(41,.bool true),(42,.bool true),(35,.bool pr),(43,.int 4194304),(44,.int 12),(45,.tup [.int 1,.int 2,.int 1,.int 3,.int 1,.int 2,.int 1,.int 4]),(11,.int bs),(31,.int iv),(32,.int fb),(33,.int lg),
 (46,.int 2097152),(47,.int 7),(48,.int 4),(49,.int 12),(50,.int 10485760),(51,.int 10),(52,.int 2),(53,.int 10),(54,.int 25)]
theorem xI(k:∀n H',Own [] H H' [(n,.dict (G7 1 4096 16 10 11 false))]→K (.obj 11 n) H'):cc (r+2) 11 [] H K X:=by
 have h:=Own.nil (S:=[]) (H:=H)
 refine L.cls rfl ?_
 walk_at "w"
 refine L.call rfl ?_
 walk_at "m"
 refine⟨rfl,Or.inl ?_⟩
 rename_i h
 exact k _ _ h
noncomputable def FO(bits lg:Int)(fv:AV)(fs:List (Nat×Cell))(cl:List (List (List Int)))(ks:List (List Int))(fin:Bool):Prop:=
 (bits≤0∧fv = .none∧fs=[])∨(1≤bits∧∃n ko oo fo,fv = .obj 17 n∧fs=fj n ko oo fo bits lg cl ks fin)
noncomputable def kP(no o nb ni:Nat)(fv wt:AV)(last:List Int)(Y6:Int)(cl:Bool):List (Nat×AV):=[(88,.obj 11 no),(56,fp),(89,.ref o),(64,.obj 12 nb),(86,.obj 12 ni),(82,fv),(90,wt),(20,.bytes last),(60,.int Y6),(91,.bool cl)]
end
section
variable{r no n o nb ni nm bm lm bi li j:Nat}{H H0:Hp}{K R:KE}{X:XE}{ck bs iv fb lg Y6 t s ln ne0 ne h x b:Int}{pr cl cr:Bool}{fv wt wt0 hv ov wv tv w7 w8 w9 w10:AV}{out last d u v buf kl ib out0 buf0 kl0 sh D:List Int}{Y:XS}{N:KN}{ks ks0:List (List Int)}{cs cs0:List (List (List Int))}{as fs:List (Nat×Cell)}{hl vs l:List AV}
theorem Own.rev3{S:List Nat}{H0 H:Hp}{p q s:Nat×Cell}{ps:List (Nat×Cell)}(h:Own S H0 H (p::q::s::ps)):Own S H0 H (s::q::p::ps):=
 h.perm (((List.Perm.swap q p (s::ps)).trans (.cons q (.swap s p ps))).trans (.swap s q (p::ps)))
theorem FO.live{fv:AV}{fs:List (Nat×Cell)}{cl:List (List (List Int))}{ks:List (List Int)}{fin:Bool}(h:FO fb lg fv fs cl ks fin):Own.live fs=true:=by
 rcases h with ⟨_,_,rfl⟩ | ⟨_,_,_,_,_,_,rfl⟩<;>rfl
theorem lR:Good []:=λ_ h=>absurd h t9
theorem oY:au []∧([]:List (List Int)).length≤64:=⟨λ_ h=>absurd h t9,j9 _⟩
inductive TB(H0 H:Hp)(no n:Nat)(ck bs iv fb lg:Int)(pr:Bool)(out buf:List Int)(ne:Int)(kl:List Int)(wt:AV)(last:List Int)(Y6:Int)(cl:List (List (List Int)))(ks:List (List Int)):Prop
 |mk (o nb bb lb ni bi li:Nat) (fv:AV) (fs:List (Nat×Cell)) (hf:FO fb lg fv fs cl ks false) (h:Own [no] H0 H ((no,.dict (G7 ck bs iv fb lg pr))::(n,.dict (kP no o nb ni fv wt last Y6 false))::(o,.barr out) ::
  (bV nb bb lb 10 [(36,.inst 9 [])] iv buf ne false kl++(bV ni bi li 10 [(36,.inst 9 [])] 1 [] 0 false []++fs))))
theorem Ba(g0:0≤lg)(g1:lg≤31)(f1:fb≤100)(i1:1≤iv)(ho:get H no = .dict (G7 ck bs iv fb lg pr))(k:∀n H',TB H H' no n ck bs iv fb lg pr [] [] 0 [] .none [] 0 [] []→K (.obj 20 n) H'):cc (r+7) 20 [.obj 11 no,fp] H K X:=by
 have h:Own [no] H H [(no,.dict (G7 ck bs iv fb lg pr))]:=Own.one ho
 refine L.cls rfl ?_
 walk_at "w"
 refine L.call rfl ?_
 walk_at "m"
 rename_i h
 refine jl i1 λnb bb lb H1 k1=>?_
 have h1:Own [no] H H1 (_::_::_::bV nb bb lb 10 [(36,.inst 9 [])] iv [] 0 false []):=h.add rfl k1
 walk_at "m"
 rename_i h2
 refine jl (by decide) λni bi li H2 k2=>?_
 have h3:Own [no] H H2 (_::_::_::(bV nb bb lb 10 [(36,.inst 9 [])] iv [] 0 false []++bV ni bi li 10 [(36,.inst 9 [])] 1 [] 0 false [])):=h2.add rfl k2
 walk_at "m"
 rename_i h4
 refine R7 (λq=>?_) (λq=>?_)
 ·refine rdD.mk h4.g2 (fI (u0 q) λH3 k3=>?_)
  have h5:=h4.call k3 (Own.of_live rfl)
  walk_at "1"
  refine uE g0 g1 λnf ko oo fo H4 k4=>?_
  have h6:Own [no] H H4 (_::_::_::((bV nb bb lb 10 [(36,.inst 9 [])] iv [] 0 false []++bV ni bi li 10 [(36,.inst 9 [])] 1 [] 0 false [])++fj nf ko oo fo fb lg [] [] false)):=h5.add rfl k4
  walk_at "m"
  rename_i h7
  have h7':Own [no] H _ ((_::_::_::(bV nb bb lb 10 [(36,.inst 9 [])] iv [] 0 false []++bV ni bi li 10 [(36,.inst 9 [])] 1 [] 0 false []))++fj nf ko oo fo fb lg [] [] false):=h7
  refine rdD.mk (h7'.cells _ (s9 _ (.head _))) ?_
  refine c85 (j:=0) (u0 q) f1 g0 lR oY (by show 0/(2:Int)^lg.toNat=0;exact cV _) (j9 _) (Own.re (Own.subl h7' (B0 _ _))) λH5 ko' k5=>?_
  have h8:Own [no] H H5 (_::_::_::((bV nb bb lb 10 [(36,.inst 9 [])] iv [] 0 false []++bV ni bi li 10 [(36,.inst 9 [])] 1 [] 0 false [])++fj nf ko' oo fo fb lg [] [] false)):=Own.part h7' rfl k5
  walk_at "m"
  refine⟨rfl,Or.inl ?_⟩
  rename_i h9
  exact k _ _ ⟨_,_,_,_,_,_,_,_,_,.inr ⟨by exact u0 q,_,_,_,_,rfl,rfl⟩,h9.rev3⟩
 ·walk_at "m"
  refine⟨rfl,Or.inl ?_⟩
  rename_i h5
  exact k _ _ ⟨_,_,_,_,_,_,_,_,[],.inl ⟨by exact r6.mp q,rfl,rfl⟩,h5.rev3⟩
theorem c94(hn:get H n = .dict (kP no o nb ni fv wt last Y6 cl))(ho:get H o = .barr out)(k:K (.int out.length) H):c (r+1) 94 [.obj 20 n] H K X:=by
 refine L.call rfl ?_
 walk_at "m"
 exact k
theorem c95(hn:get H n = .dict (kP no o nb ni fv wt last Y6 cl))(k:K (.int Y6) H):c (r+1) 95 [.obj 20 n] H K X:=by
 refine L.call rfl ?_
 walk_at "m"
 exact k
theorem c96c(hn:get H n = .dict (kP no o nb ni fv wt last Y6 true))(k:X 7 H):c (r+1) 96 [.obj 20 n,.bytes d,.bytes []] H K X:=by
 refine L.call rfl ?_
 walk_at "m"
 exact k
theorem c99c(hn:get H n = .dict (kP no o nb ni fv wt last Y6 true))(k:X 7 H):c (r+1) 99 [.obj 20 n] H K X:=by
 refine L.call rfl ?_
 walk_at "m"
 exact k
theorem c100c(hn:get H n = .dict (kP no o nb ni fv wt last Y6 true))(k:X 7 H):c (r+1) 100 [.obj 20 n] H K X:=by
 refine L.call rfl ?_
 walk_at "m"
 exact k
theorem c96s(hn:get H n = .dict (kP no o nb ni fv wt last Y6 false))(hd:d.length<8)(k:X 2 H):c (r+2) 96 [.obj 20 n,.bytes d,.bytes []] H K X:=by
 refine L.call rfl ?_
 walk_at "m"
 exact c17x hd k
theorem c97{ps:List (Nat×Cell)}(hk:ck=1∨ck=2)(hd:B7 d)(hl:d.length≤999)(hz:out.length≤100000)(hp:Own.live ps=true)
  (h:Own [no] H0 H ((no,.dict (G7 ck bs iv fb lg pr))::(n,.dict (kP no o nb ni fv wt last Y6 cl))::(o,.barr out)::ps))
  (k:∀H',Own [no] H0 H' ((no,.dict (G7 ck bs iv fb lg pr))::(n,.dict (kP no o nb ni fv wt last Y6 cl))::(o,.barr (out++B8 ck d))::ps)→K (HD out.length d.length) H'):c (r+5) 97 [.obj 20 n,.bytes d] H K X:=by
 refine L.call rfl ?_
 walk_at "m"
 refine uC λH1 k1=>?_
 have h1:=h.call k1 (Own.of_live hp)
 walk_at "m"
 refine c21 hk hd hl λH2 k2=>?_
 have h2:=h1.call k2 (Own.of_live hp)
 have el:(B8 ck d).length=d.length+5:=by unfold B8;rw[d6,d6,D0];rfl
 have z:out.length+(B8 ck d).length≤K8:=by rw[el,B4];exact b6 (b7 hz (b6 (j6 el.symm) (b6 (j6 el) (b7 hl (d8 _))))) (by decide)
 walk_at "m"
 exact k _ (by assumption)
noncomputable def I6(lg:Int)(out:List Int):Nat:=out.length/2^lg.toNat
theorem gg:I6 lg out≤out.length:=Nat.div_le_self _ _
theorem vN(g0:0≤lg)(f1:fb≤100)(hk:au ks∧ks.length≤64)(ho:out.length≤60)(hf:FO fb lg fv fs [] ks false)(la:Own.live as=true)
  (h:Own [no] H0 H ((no,.dict (G7 ck bs iv fb lg pr))::(n,.dict (kP no o nb ni fv wt last Y6 cl))::(o,.barr out)::(as++fs)))
  (k:∀H' fs',FO fb lg fv fs' (fi [] ks (I6 lg out)).1 (fi [] ks (I6 lg out)).2 false→Own [no] H0 H' ((no,.dict (G7 ck bs iv fb lg pr))::(n,.dict (kP no o nb ni fv wt last Y6 cl))::(o,.barr out)::(as++fs'))→N [.obj 20 n] H') :
  wpS (Iv c cc (r+6)) (nth f98.body 3) [.obj 20 n] H N K Y:=by
 rcases hf with ⟨b0,rfl,rfl⟩ | ⟨b1,nf,ko,oo,fo,rfl,rfl⟩
 ·walk_at "m"
  refine k _ [] (.inl ⟨b0,rfl,rfl⟩) h
 ·have h':Own [no] H0 H ((_::_::_::as)++fj nf ko oo fo fb lg [] ks false):=h
  have la':Own.live ((no,.dict (G7 ck bs iv fb lg pr))::(n,.dict (kP no o nb ni (.obj 17 nf) wt last Y6 cl))::(o,.barr out)::as)=true:=la
  walk_at "m"
  refine rdD.mk (h'.cells _ (s9 _ (.head _))) ?_
  walk_at "m"
  refine c85 (j:=I6 lg out) b1 f1 g0 lR hk (by rw[mo];show _=((0+I6 lg out:Nat):Int);rw[J0];rfl) (by rw[X4,J0];exact b6 gg ho) (Own.re (Own.subl h' (B0 _ _))) λH5 ko' k5=>?_
  exact k _ _ (.inr ⟨b1,_,_,_,_,rfl,rfl⟩) (Own.part h' la' k5)
theorem Bz{kv vv bv:AV}(hl:ks.length≤63)(hf:FO fb lg fv fs cs ks false)(la:Own.live as=true)
  (h:Own [no] H0 H ((no,.dict (G7 ck bs iv fb lg pr))::(n,.dict (kP no o nb ni fv wt last Y6 cl))::(o,.barr out)::(as++fs)))
  (k:∀H' fs',FO fb lg fv fs' cs (ks++[u]) false→Own [no] H0 H' ((no,.dict (G7 ck bs iv fb lg pr))::(n,.dict (kP no o nb ni fv wt last Y6 cl))::(o,.barr out)::(as++fs'))→N [.obj 20 n,kv,vv,.bytes u,bv] H') :
  wpS (Iv c cc (r+2)) (nth f96.body 4) [.obj 20 n,kv,vv,.bytes u,bv] H N K Y:=by
 rcases hf with ⟨b0,rfl,rfl⟩ | ⟨b1,nf,ko,oo,fo,rfl,rfl⟩
 ·walk_at "m"
  refine k _ [] (.inl ⟨b0,rfl,rfl⟩) h
 ·have h':Own [no] H0 H ((_::_::_::as)++fj nf ko oo fo fb lg cs ks false):=h
  have la':Own.live ((no,.dict (G7 ck bs iv fb lg pr))::(n,.dict (kP no o nb ni (.obj 17 nf) wt last Y6 cl))::(o,.barr out)::as)=true:=la
  walk_at "m"
  refine rdD.mk (h'.cells _ (s9 _ (.head _))) ?_
  walk_at "m"
  refine c86 (b6 hl (by decide)) (Own.re (Own.subl h' (B0 _ _))) λH5 k5=>?_
  exact k _ _ (.inr ⟨b1,_,_,_,_,rfl,rfl⟩) (Own.part h' la' k5)
theorem BB.re{n b l oc:Nat}{os:List (Nat×AV)}{iv ne:Int}{buf last:List Int}{fin:Bool}{H':Hp}(h:BB H' n b l oc os iv buf ne fin last)(k:Kq [n,b,l] H H'):Own [n,b,l] H H' (bV n b l oc os iv buf ne fin last):=h.to k (.inl (.head _)) (.inl (.tail _ (.head _))) (.inl (.tail _ (.tail _ (.head _))))
theorem Own.mid3{S:List Nat}{H':Hp}{p q s:Nat×Cell}{qs qs' bs:List (Nat×Cell)}(h:Own S H0 H (p::q::s::(qs++bs)))(la:Own.live [p,q,s]=true)(lb:Own.live bs=true)(k:Own (qs.map Prod.fst) H H' qs'):Own S H0 H' (p::q::s::(qs'++bs)):=Own.mid (as:=[p,q,s]) h la lb k
theorem BB.at3{S:List Nat}{p q s:Nat×Cell}{n b l oc:Nat}{os:List (Nat×AV)}{iv ne:Int}{buf last:List Int}{fin:Bool}{bs:List (Nat×Cell)}(h:Own S H0 H (p::q::s::(bV n b l oc os iv buf ne fin last++bs))):BB H n b l oc os iv buf ne fin last:=BB.at (as:=[p,q,s]) h
theorem c98e{buf kl:List Int}(t:TB H0 H no n ck bs iv fb lg pr out buf 0 kl wt last Y6 cs ks)(k:K .none H):c (r+2) 98 [.obj 20 n] H K X:=by
 refine D2 λ_ kk=>?_
 obtain⟨o,nb,bb,lb,ni,bi,li,fv,fs,hf,h⟩:=id t
 refine kk ?_
 refine L.call rfl ?_
 walk_at "m"
 refine c57 (BB.at3 h) ?_
 walk_at "m"
 exact k
theorem c98{buf kl:List Int}(hck:ck=1∨ck=2)(g0:0≤lg)(f1:fb≤100)(hk:au ks∧ks.length≤64)(hb:buf.length≤40)(hob:B7 (F6 buf))(t:TB H0 H no n ck bs iv fb lg pr [] buf 1 kl wt last Y6 [] ks)
  (k:∀H',TB H0 H' no n ck bs iv fb lg pr (B8 ck (F6 buf)) [] 0 [] (HD 0 (F6 buf).length) last Y6 (fi [] ks (I6 lg (B8 ck (F6 buf)))).1 (fi [] ks (I6 lg (B8 ck (F6 buf)))).2→K .none H'):c (r+7) 98 [.obj 20 n] H K X:=by
 refine D2 λ_ kk=>?_
 obtain⟨o,nb,bb,lb,ni,bi,li,fv,fs,hf,h⟩:=id t
 refine kk ?_
 have hl:=G5 (e:=buf)
 have el:(B8 ck (F6 buf)).length=(F6 buf).length+5:=by unfold B8;rw[d6,d6,D0];rfl
 have lv:Own.live (bV ni bi li 10 [(36,.inst 9 [])] 1 [] 0 false []++fs)=true:=T9 rfl hf.live
 refine L.call rfl ?_
 walk_at "m"
 refine c57 (BB.at3 h) (C6 (by decide) ?_)
 walk_at "m"
 refine c60 (b6 hb (by decide)) (BB.at3 h) λH1 k1 b1=>?_
 have h1:=h.mid3 rfl lv (b1.re k1)
 refine c97 hck hob (b6 (b6 (j6 hl) (b7 hb (d8 _))) (by decide)) (j9 _) (T9 rfl lv) h1 λH2 h2=>?_
 walk_at "m"
 rename_i h3
 refine c56 (BB.at3 h3) λb' l' H4 k4 b4 e1 e2=>?_
 have h4:=h3.mid3 rfl lv (qs':=bV nb b' l' 10 [(36,.inst 9 [])] iv [] 0 false []) (b4.to (k4.mono λm q=>by rw[i6.mp q];exact .head _) (.inl (.head _)) (.inr e1) (.inr e2))
 refine vN g0 f1 hk (as:=bV nb b' l' 10 [(36,.inst 9 [])] iv [] 0 false []++bV ni bi li 10 [(36,.inst 9 [])] 1 [] 0 false []) (out:=B8 ck (F6 buf)) (b6 (b6 (j6 el) (b7 (b6 (j6 hl) (b7 hb (d8 _))) (d8 _))) (by decide)) hf rfl h4 λH5 fs' f5 h5=>?_
 exact k _ ⟨_,_,_,_,_,_,_,_,_,f5,h5⟩
noncomputable def en(u:List Int)(t:Int):List Int:=C0 (ik u t) []
theorem aQ(hu:u.length≤40):(en u t).length=u.length+11:=by
 unfold en;rw[entry_len (by rw[V7];exact g9 (b7 hu (d8 _)) (by decide)) (by decide),V7,X4];exact L3 3 (u.length+8)
theorem ku(hu:u.length≤40)(ho:B7 u):B7 (en u t):=by
 unfold en;rw[gO (by rw[V7];exact g9 (b7 hu (d8 _)) (by decide)) (by decide)]
 have:B7 [((ik u t).length:Int)]:=B7.cons ⟨g8 _,by rw[V7];exact j1.mpr (g9 (b7 hu (d8 _)) (by decide))⟩ B7.nil
 exact(B7.cons (by decide) B7.nil).app (this.app ((B7.cons (by decide) B7.nil).app ((ho.app eG).app B7.nil)))
theorem Z6{e:List Int}(h:B7 e):B7 (F6 e):=(h.app eG).app eG
theorem c96a(hck:ck=1∨ck=2)(g0:0≤lg)(f1:fb≤100)(i1:1≤iv)(hu:u.length≤5)(ho:B7 u)(w:TB H0 H no n ck bs iv fb lg pr [] [] 0 [] .none [] 0 [] [])
  (ka:¬bs≤((en u t).length:Int)+4*1+4→∀H',TB H0 H' no n ck bs iv fb lg pr [] (en u t) 1 (ik u t) .none (ik u t) 1 [] [u]→K .none H')
  (kb:bs≤((en u t).length:Int)+4*1+4→∀H',TB H0 H' no n ck bs iv fb lg pr (B8 ck (F6 (en u t))) [] 0 [] (HD 0 (F6 (en u t)).length) (ik u t) 1 (fi [] [u] (I6 lg (B8 ck (F6 (en u t))))).1 (fi [] [u] (I6 lg (B8 ck (F6 (en u t))))).2→K .none H'):c (r+9) 96 [.obj 20 n,.bytes (ik u t),.bytes []] H K X:=by
 refine D2 λ_ kk=>?_
 obtain⟨o,nb,bb,lb,ni,bi,li,fv,fs,hf,h⟩:=id w
 refine kk ?_
 have lv:Own.live (bV ni bi li 10 [(36,.inst 9 [])] 1 [] 0 false []++fs)=true:=T9 rfl hf.live
 refine L.call rfl ?_
 walk_at "m"
 refine c17 ?_
 walk_at "m"
 refine c59 i1 (by rw[V7];exact g9 (b7 hu (d8 _)) (by decide)) (by decide) (BB.at3 h) λH1 k1 b1=>?_
 have h1:=h.mid3 rfl lv (b1.re k1)
 refine Bz (as:=bV nb bb lb 10 [(36,.inst 9 [])] iv (en u t) 1 false (ik u t)++bV ni bi li 10 [(36,.inst 9 [])] 1 [] 0 false []) (j9 _) hf rfl h1 λH2 fs' f2 h2=>?_
 walk_at "m"
 rename_i H3 h3
 refine c58 (BB.at3 h3) ?_
 walk_at "m"
 refine R7 (λq=>?_) (λq=>?_)
 ·refine rdD.mk h3.g1 ?_
  have hk:au [u]∧[u].length≤64:=⟨λd m=>by rw[i6.mp m];exact⟨ho,hu⟩,x9 1 63⟩
  exact c98 hck g0 f1 hk (by rw[aQ (b6 hu (by decide))];exact b6 (b7 hu (d8 _)) (by decide)) (Z6 (ku (b6 hu (by decide)) ho)) ⟨_,_,_,_,_,_,_,_,_,f2,h3⟩ (kb q)
 ·exact ka q _ ⟨_,_,_,_,_,_,_,_,_,f2,h3⟩
theorem c96x(ht:0≤t∧t<18446744073709551616)(hs:0≤s∧s<18446744073709551616)(hm:gb v s u t≤0)(w:TB H0 H no n ck bs iv fb lg pr out buf 1 (ik u t) .none (ik u t) Y6 cs ks)(k:X 7 H):c (r+6) 96 [.obj 20 n,.bytes (ik v s),.bytes []] H K X:=by
 refine D2 λ_ kk=>?_
 obtain⟨o,nb,bb,lb,ni,bi,li,fv,fs,hf,h⟩:=id w
 refine kk ?_
 refine L.call rfl ?_
 walk_at "m"
 refine c17 ?_
 walk_at "m"
 exact c59x (.inr ⟨rfl,rfl⟩) (BB.at3 h) (dR.I hs ht) hm k
theorem c96y{a b:Int}(ht:0≤t∧t<18446744073709551616)(hs:0≤s∧s<18446744073709551616)(hm:gb v s u t≤0)(w:TB H0 H no n ck bs iv fb lg pr out buf 0 kl (HD a b) (ik u t) Y6 cs ks)(k:X 7 H):c (r+6) 96 [.obj 20 n,.bytes (ik v s),.bytes []] H K X:=by
 refine D2 λ_ kk=>?_
 obtain⟨o,nb,bb,lb,ni,bi,li,fv,fs,hf,h⟩:=id w
 refine kk ?_
 refine L.call rfl ?_
 walk_at "m"
 refine c17 ?_
 walk_at "m"
 refine c51 hs ht ?_
 walk_at "m"
 exact k
inductive TD(H:Hp)(n:Nat)(out:List Int)(Y6:Int):Prop
 |mk (no o nb ni:Nat) (fv wt:AV) (last:List Int) (hn:get H n = .dict (kP no o nb ni fv wt last Y6 true)) (ho:get H o = .barr out)
theorem c100{ne:Int}(w:TB H0 H no n ck bs iv fb lg pr out buf ne kl wt last Y6 cs ks)(k:∀H',Own [no] H0 H' [(no,.dict (G7 ck bs iv fb lg pr))]→TD H' n [] Y6→K .none H'):c (r+1) 100 [.obj 20 n] H K X:=by
 refine D2 λ_ kk=>?_
 obtain⟨o,nb,bb,lb,ni,bi,li,fv,fs,hf,h⟩:=id w
 refine kk ?_
 have h:Own [no] H0 H [_,_]:=h.subl (.cons₂ _ (.cons₂ _ (dy _)))
 refine L.call rfl ?_
 walk_at "m"
 rename_i h
 exact k _ (h.subl (.cons _ (.cons₂ _ (dy _)))) ⟨_,_,_,_,_,_,_,h.g2,h.g0⟩
noncomputable def kg:List Int:=[102,105,108,116,101,114,46,114,97,102,116,107,101,101,112,46,98,108,111,111,109]
noncomputable def N1(fb lg:Int)(out:List Int)(cs:List (List (List Int))):List Int:=if 1≤fb then C0 kg (X2 out.length (S7 fb lg cs).length) else []
noncomputable def t1(ck fb lg:Int)(out:List Int)(cs:List (List (List Int))):List Int:=if 1≤fb then out++B8 ck (S7 fb lg cs) else out
noncomputable def t2(ck fb lg:Int)(out:List Int)(cs:List (List (List Int))):List Int:=t1 ck fb lg out cs++B8 ck (F6 (N1 fb lg out cs))
noncomputable def fF(ck fb lg:Int)(out:List Int)(cs:List (List (List Int)))(ib:List Int):List Int:=
 (t2 ck fb lg out cs++B8 ck (F6 ib))++ru (t1 ck fb lg out cs).length (F6 (N1 fb lg out cs)).length (t2 ck fb lg out cs).length (F6 ib).length
theorem K2{k:Int}{l:List Int}:(B8 k l).length=l.length+5:=by unfold B8;rw[d6,d6,D0];rfl
theorem Own.comm3{S:List Nat}{p q s:Nat×Cell}{as bs:List (Nat×Cell)}(h:Own S H0 H (p::q::s::(as++bs))):Own S H0 H (p::q::s::(bs++as)):=h.perm (.cons _ (.cons _ (.cons _ ai)))
theorem By(hck:ck=1∨ck=2)(g0:0≤lg)(g1:lg≤31)(f1:fb≤100)(i1:1≤iv)(hg:Good cs)(hc:cs.length≤60)(hk:au ks∧ks.length≤64)(hz:out.length≤100)(hs:(S7 fb lg (Q8 cs ks)).length≤900)(hso:1≤fb→B7 (S7 fb lg (Q8 cs ks)))
  (hf:FO fb lg fv fs cs ks false)
  (h:Own [no] H0 H ((no,.dict (G7 ck bs iv fb lg pr))::(n,.dict (kP no o nb ni fv wt last Y6 true))::(o,.barr out)::(bV nm bm lm 9 [] iv [] 0 false []++(bV ni bi li 10 [(36,.inst 9 [])] 1 [] 0 false []++fs))))
  (k:∀H' ne kl w,Own [no] H0 H' ((no,.dict (G7 ck bs iv fb lg pr))::(n,.dict (kP no o nb ni fv wt last Y6 true))::(o,.barr (t1 ck fb lg out (Q8 cs ks)))::(bV nm bm lm 9 [] iv (N1 fb lg out (Q8 cs ks)) ne false kl++bV ni bi li 10 [(36,.inst 9 [])] 1 [] 0 false []))→N [.obj 20 n,.obj 12 nm,.U,.U,w] H') :
  wpS (Iv c cc (r+6)) (nth f99.body 4) [.obj 20 n,.obj 12 nm,.U,.U,.U] H N K Y:=by
 rcases hf with ⟨b0,rfl,rfl⟩ | ⟨b1,nf,ko,oo,fo,rfl,rfl⟩
 ·have e1:t1 ck fb lg out (Q8 cs ks)=out:=if_neg (G0.mpr (e8 b0 (by decide)))
  have e2:N1 fb lg out (Q8 cs ks)=[]:=if_neg (G0.mpr (e8 b0 (by decide)))
  rw[e1,e2] at k
  walk_at "m"
  exact k _ 0 [] _ h
 ·have e1:t1 ck fb lg out (Q8 cs ks)=out++B8 ck (S7 fb lg (Q8 cs ks)):=if_pos b1
  have e2:N1 fb lg out (Q8 cs ks)=C0 kg (X2 out.length (S7 fb lg (Q8 cs ks)).length):=if_pos b1
  rw[e1,e2] at k
  have h':Own [no] H0 H ((_::_::_::(bV nm bm lm 9 [] iv [] 0 false []++bV ni bi li 10 [(36,.inst 9 [])] 1 [] 0 false []))++fj nf ko oo fo fb lg cs ks false):=h
  walk_at "m"
  refine rdD.mk (h'.cells _ (s9 _ (.head _))) ?_
  refine c88 b1 f1 g0 g1 hg hc hk (Own.re (Own.subl h' (B0 _ _))) λH1 ko' k1=>?_
  have h1:Own [no] H0 H1 (_::_::_::(bV nm bm lm 9 [] iv [] 0 false []++bV ni bi li 10 [(36,.inst 9 [])] 1 [] 0 false [])):=(Own.part h' rfl k1).subl (List.sublist_append_left _ _)
  refine c97 hck (hso b1) (b6 hs (by decide)) (b6 hz (by decide)) rfl h1 λH2 h2=>?_
  walk_at "m"
  refine c80 (g8 _) (j1.mpr (g9 hz (by decide))) (g8 _) (j1.mpr (g9 hs (by decide))) λH3 k3=>?_
  have h3:=h2.call k3 (Own.of_live rfl)
  refine c59 i1 (by decide) (g9 bz (by decide)) (BB.at3 h3) λH4 k4 b4=>?_
  exact k _ _ _ _ (h3.mid3 rfl rfl (b4.re k4))
noncomputable def sC(wt:AV)(u:List Int)(t ln:Int):List Int:=if isNone wt=true then [] else C0 (ik (E2 u t).1 (E2 u t).2) (X2 0 ln)
theorem Ar(ho:B7 u)(hl:u.length≤40)(l0:0≤ln)(l1:ln<16384)(hw:wt = .none∨(wt=HD 0 ln∧last=ik u t)){m1 w4:AV}{M I:Int}
  (h:Own [no] H0 H ((no,.dict (G7 ck bs iv fb lg pr))::(n,.dict (kP no o nb ni fv wt last Y6 true))::(o,.barr out)::(bV ni bi li 10 [(36,.inst 9 [])] 1 [] 0 false []++[])))
  (k:∀H' ne kl wt',Own [no] H0 H' ((no,.dict (G7 ck bs iv fb lg pr))::(n,.dict (kP no o nb ni fv wt' last Y6 true))::(o,.barr out)::(bV ni bi li 10 [(36,.inst 9 [])] 1 (sC wt u t ln) ne false kl++[]))→N [.obj 20 n,m1,HD M I,.U,w4] H') :
  wpS (Iv c cc (r+6)) (nth f99.body 6) [.obj 20 n,m1,HD M I,.U,w4] H N K Y:=by
 rcases hw with rfl | ⟨rfl,rfl⟩
 ·walk_at "m"
  exact k _ 0 [] _ h
 ·have tl:(E2 u t).1.length≤40:=by
   unfold E2;split
   ·exact b6 ey hl
   ·exact hl
  walk_at "m"
  refine c53 ho (b6 hl (by decide)) ?_
  walk_at "m"
  refine c80 (by decide) (by decide) l0 l1 λH3 k3=>?_
  have h3:=h.call k3 (Own.of_live rfl)
  refine c59 (by decide) (by rw[V7];exact g9 (b7 tl (d8 _)) (by decide)) (g9 bz (by decide)) (BB.at3 h3) λH4 k4 b4=>?_
  have h4:=h3.mid3 rfl rfl (b4.re k4)
  walk_at "m"
  exact k _ _ _ _ (by assumption)
theorem lU{a v:List Int}(ha:a.length<128)(hv:v.length<128)(oa:B7 a)(ov:B7 v):B7 (C0 a v):=by
 rw[gO ha hv]
 have h1:B7 [(a.length:Int)]:=B7.cons ⟨g8 _,by exact j1.mpr (i8 ha (by decide))⟩ B7.nil
 have h2:B7 [(v.length:Int)]:=B7.cons ⟨g8 _,by exact j1.mpr (i8 hv (by decide))⟩ B7.nil
 exact(B7.cons (by decide) B7.nil).app (h1.app (h2.app (oa.app ov)))
theorem rp{a s:Int}(a0:0≤a)(a1:a<16384)(s0:0≤s)(s1:s<16384):B7 (X2 a s):=(jw a0 a1).app (jw s0 s1)
theorem vP:B7 kg:=by unfold B7 kg;decide
theorem cI{a s:Int}:(X2 a s).length<128:=g9 bz (by decide)
theorem jm(hz:out.length≤100)(hs:(S7 fb lg cs).length≤900):B7 (F6 (N1 fb lg out cs))∧(N1 fb lg out cs).length≤28:=by
 unfold N1
 split
 ·refine⟨Z6 (lU (by decide) cI vP (rp (g8 _) (j1.mpr (g9 hz (by decide))) (g8 _) (j1.mpr (g9 hs (by decide))))),?_⟩
  rw[entry_len (by decide) cI]
  exact O6 bz 24
 ·exact⟨Z6 B7.nil,j9 _⟩
theorem gc(hl:u.length≤40):(E2 u t).1.length≤40:=by
 unfold E2;split
 ·exact b6 ey hl
 ·exact hl
theorem nR(ho:B7 u):B7 (E2 u t).1:=by
 unfold E2;split
 ·exact tC ho
 ·exact ho
theorem qh(ho:B7 u)(hl:u.length≤40)(l0:0≤ln)(l1:ln<16384):B7 (F6 (sC wt u t ln))∧(sC wt u t ln).length≤60:=by
 unfold sC
 split
 ·exact⟨Z6 B7.nil,j9 _⟩
 ·have hi:(ik (E2 u t).1 (E2 u t).2).length≤48:=by rw[V7];exact v5 (gc hl) 8
  refine⟨Z6 (lU (g9 hi (by decide)) cI ((nR ho).app eG) (rp (by decide) (by decide) l0 l1)),?_⟩
  rw[entry_len (g9 hi (by decide)) cI]
  have:=bz (a:=0) (s:=ln)
  exact b6 (b7 (b7 (d8 _) hi) this) (by decide)
theorem pP(hz:out.length≤100)(hs:(S7 fb lg cs).length≤900):(t1 ck fb lg out cs).length≤1005:=by
 unfold t1
 split
 ·rw[d6,K2];exact b7 hz (b7 hs (d8 _))
 ·exact b6 hz (by decide)
theorem c99(hck:ck=1∨ck=2)(g0:0≤lg)(g1:lg≤31)(f1:fb≤100)(i1:1≤iv)(hg:Good cs)(hc:cs.length≤60)(hk:au ks∧ks.length≤64)(hz:out.length≤100)(hs:(S7 fb lg (Q8 cs ks)).length≤900)(hso:1≤fb→B7 (S7 fb lg (Q8 cs ks)))
  (ho:B7 u) (hl:u.length≤40) (l0:0≤ln) (l1:ln<16384) (hw:wt = .none∨(wt=HD 0 ln∧last=ik u t))
  (w0:TB H0 H no n ck bs iv fb lg pr out0 buf0 ne0 kl0 wt0 last Y6 cs0 ks0)
  (cl:∀{K:KE} {X:XE},(∀H',TB H0 H' no n ck bs iv fb lg pr out [] 0 [] wt last Y6 cs ks→K .none H')→c (r+9) 98 [.obj 20 n] H K X)
  (k:∀H',Own [no] H0 H' [(no,.dict (G7 ck bs iv fb lg pr))]→TD H' n (fF ck fb lg out (Q8 cs ks) (sC wt u t ln)) Y6→K (.bytes (fF ck fb lg out (Q8 cs ks) (sC wt u t ln))) H'):c (r+10) 99 [.obj 20 n] H K X:=by
 refine D2 λ_ kk=>?_
 obtain⟨_,_,_,_,_,_,_,_,_,_,h0⟩:=id w0
 refine kk ?_
 have mr:=jm (lg:=lg) hz hs
 have ix:=qh (wt:=wt) (t:=t) ho hl l0 l1
 have l1':=pP (ck:=ck) hz hs
 have lm:=G5 (e:=N1 fb lg out (Q8 cs ks))
 have li:=G5 (e:=sC wt u t ln)
 have l2:(t2 ck fb lg out (Q8 cs ks)).length≤1100:=by unfold t2;rw[d6,K2,lm];exact b6 (b7 l1' (b7 (b7 mr.2 (d8 _)) (d8 _))) (by decide)
 unfold fF t2 at k
 unfold t2 at l2
 refine L.call rfl ?_
 walk_at "m"
 refine cl λH1 w1=>?_
 refine D2 λ_ kk=>?_
 obtain⟨o,nb,bb,lb,ni,bi,li,fv,fs,hf,h⟩:=id w1
 refine kk ?_
 have h1:=h.subl (.cons₂ _ (.cons₂ _ (.cons₂ _ (B0 _ _))))
 clear h h0
 walk_at "m"
 refine ra λH2 k2=>?_
 rename_i h3
 have h4:=h3.call k2 (Own.of_live (show Own.live ([_,_,_]++(bV ni bi li 10 [(36,.inst 9 [])] 1 [] 0 false []++fs))=true from T9 rfl (T9 rfl hf.live)))
 refine jl i1 λnm bm lm H3 k3=>?_
 have h5:Own [no] H0 H3 (_::_::_::((bV ni bi li 10 [(36,.inst 9 [])] 1 [] 0 false []++fs)++bV nm bm lm 9 [] iv [] 0 false [])):=h4.add (show Own.live ([_,_,_]++(bV ni bi li 10 [(36,.inst 9 [])] 1 [] 0 false []++fs))=true from T9 rfl (T9 rfl hf.live)) k3
 refine By hck g0 g1 f1 i1 hg hc hk hz hs hso hf h5.comm3 λH4 ne kl w h6=>?_
 walk_at "m"
 refine c60 (b6 mr.2 (by decide)) (BB.at3 h6) λH5 k5 b5=>?_
 have h7:=h6.mid3 rfl rfl (b5.re k5)
 refine c97 hck mr.1 (b6 (j6 G5) (b6 (v5 mr.2 8) (by decide))) (b6 l1' (by decide)) rfl h7 λH6 h8=>?_
 have h9:=h8.subl (.cons₂ _ (.cons₂ _ (.cons₂ _ (B0 (bV nm bm _ 9 [] iv _ ne true kl) _))))
 refine Ar ho hl l0 l1 hw h9 λH7 ne' kl' wt' h10=>?_
 walk_at "m"
 refine c60 (b6 ix.2 (by decide)) (BB.at3 h10) λH8 k8 b8=>?_
 have h11:=h10.mid3 rfl rfl (b8.re k8)
 refine c97 hck ix.1 (b6 (j6 G5) (b6 (v5 ix.2 8) (by decide))) (b6 l2 (by decide)) rfl h11 λH9 h12=>?_
 walk_at "m"
 refine uD λHa ka=>?_
 refine c92 ⟨⟨g8 _,by exact j1.mpr (g9 l1' (by decide))⟩,⟨g8 _,j1.mpr (g9 (b6 (j6 G5) (v5 mr.2 8)) (by decide))⟩,⟨g8 _,by exact j1.mpr (g9 l2 (by decide))⟩,⟨g8 _,j1.mpr (g9 (b6 (j6 G5) (v5 ix.2 8)) (by decide))⟩⟩ λHb kb=>?_
 have h13:=(h12.call ka (Own.of_live rfl)).call kb (Own.of_live rfl)
 have z:(t1 ck fb lg out (Q8 cs ks)++B8 ck (F6 (N1 fb lg out (Q8 cs ks)))++B8 ck (F6 (sC wt u t ln))).length+(ru (t1 ck fb lg out (Q8 cs ks)).length (F6 (N1 fb lg out (Q8 cs ks))).length (t1 ck fb lg out (Q8 cs ks)++B8 ck (F6 (N1 fb lg out (Q8 cs ks)))).length (F6 (sC wt u t ln)).length).length≤K8:=by
  have:(ru (t1 ck fb lg out (Q8 cs ks)).length (F6 (N1 fb lg out (Q8 cs ks))).length (t1 ck fb lg out (Q8 cs ks)++B8 ck (F6 (N1 fb lg out (Q8 cs ks)))).length (F6 (sC wt u t ln)).length).length=48:=by unfold ru;rw[d6,D0,jo]
  rw[this,d6,K2,B4]
  exact b6 (v5 (b7 l2 (v5 (b6 (j6 G5) (v5 ix.2 8)) 5)) 48) (by decide)
 walk_at "m"
 rename_i h14
 exact k _ (h14.subl (.cons₂ _ (dy _))) ⟨_,_,_,_,_,_,_,h14.g1,h14.g2⟩
theorem HZ(w:TD H n out Y6)(k:K (.int 1) H):c (r+2) 36 [.obj 20 n,.int 0,.bytes d] H K X:=by
 refine D2 λ_ kk=>?_
 obtain⟨no,o,nb,ni,fv,wt,last,hn,ho⟩:=id w
 refine kk ?_
 refine L.call rfl ?_
 walk_at "m"
 refine c96c hn ?_
 walk_at "m"
 exact k
theorem HX(w:TD H n out Y6)(k:K (.int 1) H):c (r+2) 36 [.obj 20 n,.int 1,.bytes d] H K X:=by
 refine D2 λ_ kk=>?_
 obtain⟨no,o,nb,ni,fv,wt,last,hn,ho⟩:=id w
 refine kk ?_
 refine L.call rfl ?_
 walk_at "m"
 refine c99c hn ?_
 walk_at "m"
 exact k
theorem HW(w:TD H n out Y6)(k:K (.int 1) H):c (r+2) 36 [.obj 20 n,.int 2,.bytes d] H K X:=by
 refine D2 λ_ kk=>?_
 obtain⟨no,o,nb,ni,fv,wt,last,hn,ho⟩:=id w
 refine kk ?_
 refine L.call rfl ?_
 walk_at "m"
 refine c100c hn ?_
 walk_at "m"
 exact k
theorem HY(hd:d.length<8)(w:TB H0 H no n ck bs iv fb lg pr out buf ne kl wt last Y6 cs ks)(k:K (.int 2) H):c (r+3) 36 [.obj 20 n,.int 0,.bytes d] H K X:=by
 refine D2 λ_ kk=>?_
 obtain⟨o,nb,bb,lb,ni,bi,li,fv,fs,hf,h⟩:=id w
 refine kk ?_
 have hn:=h.g1
 refine L.call rfl ?_
 walk_at "m"
 refine c96s hn hd ?_
 walk_at "m"
 exact k
theorem EP(w:TB H0 H no n ck bs iv fb lg pr out buf ne kl wt last Y6 cs ks)(k:∀H',Own [no] H0 H' [(no,.dict (G7 ck bs iv fb lg pr))]→TD H' n [] Y6→K (.int 0) H'):c (r+2) 36 [.obj 20 n,.int 2,.bytes d] H K X:=by
 refine D2 λ_ kk=>?_
 obtain⟨_,_,_,_,_,_,_,_,_,_,h⟩:=id w
 refine kk ?_
 have hn:=h.g1
 refine L.call rfl ?_
 walk_at "m"
 exact c100 w λH' h1 w1=>k H' h1 w1
theorem Jj(hck:ck=1∨ck=2)(g0:0≤lg)(f1:fb≤100)(i1:1≤iv)(hu:u.length≤5)(ho:B7 u)(w:TB H0 H no n ck bs iv fb lg pr [] [] 0 [] .none [] 0 [] [])
  (ka:¬bs≤((en u t).length:Int)+4*1+4→∀H',TB H0 H' no n ck bs iv fb lg pr [] (en u t) 1 (ik u t) .none (ik u t) 1 [] [u]→K (.int 0) H')
  (kb:bs≤((en u t).length:Int)+4*1+4→∀H',TB H0 H' no n ck bs iv fb lg pr (B8 ck (F6 (en u t))) [] 0 [] (HD 0 (F6 (en u t)).length) (ik u t) 1 (fi [] [u] (I6 lg (B8 ck (F6 (en u t))))).1 (fi [] [u] (I6 lg (B8 ck (F6 (en u t))))).2→K (.int 0) H'):c (r+10) 36 [.obj 20 n,.int 0,.bytes (ik u t)] H K X:=by
 refine D2 λ_ kk=>?_
 obtain⟨_,_,_,_,_,_,_,_,_,_,h⟩:=id w
 refine kk ?_
 have hn:=h.g1
 refine L.call rfl ?_
 walk_at "m"
 exact c96a hck g0 f1 i1 hu ho w (λq H' w'=>ka q H' w') (λq H' w'=>kb q H' w')
theorem Ji(ht:0≤t∧t<18446744073709551616)(hs:0≤s∧s<18446744073709551616)(hm:gb v s u t≤0)(w:TB H0 H no n ck bs iv fb lg pr out buf 1 (ik u t) .none (ik u t) Y6 cs ks)(k:K (.int 1) H):c (r+7) 36 [.obj 20 n,.int 0,.bytes (ik v s)] H K X:=by
 refine D2 λ_ kk=>?_
 obtain⟨_,_,_,_,_,_,_,_,_,_,h⟩:=id w
 refine kk ?_
 have hn:=h.g1
 refine L.call rfl ?_
 walk_at "m"
 refine c96x ht hs hm w ?_
 walk_at "m"
 exact k
theorem Jh{a b:Int}(ht:0≤t∧t<18446744073709551616)(hs:0≤s∧s<18446744073709551616)(hm:gb v s u t≤0)(w:TB H0 H no n ck bs iv fb lg pr out buf 0 kl (HD a b) (ik u t) Y6 cs ks)(k:K (.int 1) H):c (r+7) 36 [.obj 20 n,.int 0,.bytes (ik v s)] H K X:=by
 refine D2 λ_ kk=>?_
 obtain⟨_,_,_,_,_,_,_,_,_,_,h⟩:=id w
 refine kk ?_
 have hn:=h.g1
 refine L.call rfl ?_
 walk_at "m"
 refine c96y ht hs hm w ?_
 walk_at "m"
 exact k
theorem mQ:∀{l:List Int},lexLt l l=false
 |[]=>rfl
 |a::l=>by unfold lexLt;rw[decide_eq_false (A6 a),mQ (l:=l),cq];rfl
theorem gS:nB u u=0:=by unfold nB;rw[mQ];rfl
theorem qp(h:t≤s):gb u s u t≤0:=by
 unfold gb
 rw[gS,if_neg (λn=>n rfl)]
 split
 ·decide
 ·rw[if_neg (r6.mpr h)];exact g6 0
theorem Et(w:TB H0 H no n ck bs iv fb lg pr out buf ne kl wt last Y6 cs ks)(k:K (.int out.length) H):c (r+1) 94 [.obj 20 n] H K X:=by
 refine D2 λ_ kk=>?_
 obtain⟨_,_,_,_,_,_,_,_,_,_,h⟩:=id w
 refine kk ?_
 exact c94 h.g1 h.g2 k
theorem Es(w:TB H0 H no n ck bs iv fb lg pr out buf ne kl wt last Y6 cs ks)(k:K (.int Y6) H):c (r+1) 95 [.obj 20 n] H K X:=by
 refine D2 λ_ kk=>?_
 obtain⟨_,_,_,_,_,_,_,_,_,_,h⟩:=id w
 refine kk ?_
 exact c95 h.g1 k
theorem TB.g(w:TB H0 H no n ck bs iv fb lg pr out buf ne kl wt last Y6 cs ks):get H no = .dict (G7 ck bs iv fb lg pr)∧∃o nb ni fv,get H n = .dict (kP no o nb ni fv wt last Y6 false):=by
 refine D2 λ_ kk=>?_
 obtain⟨_,_,_,_,_,_,_,_,_,_,h⟩:=id w
 refine kk ?_
 exact⟨h.g0,_,_,_,_,h.g1⟩
theorem Own.base{S:List Nat}{H1 H':Hp}{ps:List (Nat×Cell)}(k:Kq [] H H1)(h:Own S H1 H' ps):Own S H H' ps:=
 ⟨(k.nil (S:=S)).trans h.keep (λ_ q=>.inl q),h.cells,h.nd,λp m=>(h.own p m).imp id λq=>b6 k.len q⟩
theorem TB.base{H1:Hp}(k:Kq [] H0 H1)(w:TB H1 H no n ck bs iv fb lg pr out buf ne kl wt last Y6 cs ks):TB H0 H no n ck bs iv fb lg pr out buf ne kl wt last Y6 cs ks:=by
 refine D2 λ_ kk=>?_
 obtain⟨_,_,_,_,_,_,_,_,_,hf,h⟩:=id w
 refine kk ?_
 exact⟨_,_,_,_,_,_,_,_,_,hf,h.base k⟩
theorem AR{k:Nat}:rep (k:Int) [AV.int 97]=(l6 k 97).map .int:=by
 unfold rep
 rw[t7]
 induction k with
 |zero=>rfl
 |succ n ih=>rw[C1,C1,J8,ih];rfl
theorem c37l(hu:u.length≤5)(hh:0≤0-h∧0-h<18446744073709551615)(hsh:sh.length<8)(w:TB H0 H no n ck bs iv fb lg pr out buf ne kl wt (ik u (0-h)) 1 cs ks)
  (ag:∀{s:Int} {K:KE} {X:XE},0-h≤s→s<18446744073709551616→K (.int 1) H→c (r+10) 36 [.obj 20 n,.int 0,.bytes (ik u s)] H K X)
  (hz:(out.length:Int)=if bs≤11+((ik u (0-h)).length:Int) then 16+((ik u (0-h)).length:Int) else 0)
  (k:N [.obj 11 no,hv,.int x,.obj 20 n,.bytes sh,.int out.length,.tup [.bytes u,.int h],.bytes (ik u (0-h))] H) :
  wpS (Iv c cc (r+10)) (S2 (body (nth f37.body 4)) 2) [.obj 11 no,hv,.int x,.obj 20 n,.bytes sh,.int 0,.tup [.bytes u,.int h],.bytes (ik u (0-h))] H N R Y:=by
 have ho:=w.g.1
 refine ag (g6 _) (e7 hh.2 (by decide)) (C6 (λn=>n rfl) ?_)
 walk_at "m"
 refine c34 (b6 hu (by decide)) (ag (Int.sub_le_sub_left (aT h (by decide)) 0) (by rw[Z8,Int.neg_sub];exact bc (Z8 h▸hh.2) 1) (C6 (λn=>n rfl) ?_))
 refine HY hsh w (C6 (λn=>n rfl) ?_)
 walk_at "m"
 refine R7 (λq=>?_) (λq=>?_)
 ·rw[if_pos q] at hz
  rw[hz] at k
  walk_at "m"
  exact k
 ·rw[if_neg q] at hz
  rw[hz] at k
  exact k
structure Op(ck iv fb lg:Int):Prop where
 ck:ck=1∨ck=2
 g0:0≤lg
 g1:lg≤31
 f1:fb≤100
 i1:1≤iv
noncomputable def o0(ck:Int)(u:List Int)(t:Int):List Int:=B8 ck (F6 (en u t))
theorem ip(hu:u.length≤40):(o0 ck u t).length=u.length+24:=by unfold o0;rw[K2,G5,aQ hu]
noncomputable def T1(H0 H:Hp)(no n:Nat)(ck bs iv fb lg:Int)(pr:Bool)(u:List Int)(t:Int):Prop:=
 (¬bs≤((en u t).length:Int)+4*1+4∧TB H0 H no n ck bs iv fb lg pr [] (en u t) 1 (ik u t) .none (ik u t) 1 [] [u]) ∨
 (bs≤((en u t).length:Int)+4*1+4∧TB H0 H no n ck bs iv fb lg pr (o0 ck u t) [] 0 [] (HD 0 (F6 (en u t)).length) (ik u t) 1 (fi [] [u] (I6 lg (o0 ck u t))).1 (fi [] [u] (I6 lg (o0 ck u t))).2)
theorem c37p{hv:AV}(o:Op ck iv fb lg)(hx:0≤x)(hb:P3 hv=false)(ho:get H no = .dict (G7 ck bs iv fb lg pr)) (k:∀n H' sh,sh.length<8→TB H H' no n ck bs iv fb lg pr [] [] 0 [] .none [] 0 [] [] →
  wpS (Iv c cc (r+11)) (S2 f37.body 4) [.obj 11 no,hv,.int x,.obj 20 n,.bytes sh,.int 0,.U,.U] H' (λ_ H=>K .none H) K λc _ H=>X c H):c (r+12) 37 [.obj 11 no,hv,.int x] H K X:=by
 refine L.call rfl ?_
 refine uB λH1 k1=>?_
 refine Ba o.g0 o.g1 o.f1 o.i1 (k1.dict0 ho) λn H2 w=>?_
 have w:=w.base k1
 refine eX02 w.g λ_ zn1=>?_;refine eX41 zn1 λ_ _ _ _ hn=>?_;clear zn1
 have m8:0≤x%8∧x%8<8:=⟨j5 _ (by decide),j7 _ (by decide)⟩
 refine eX11 (A1 m8.1) λj hj=>?_
 rw[hj] at m8
 walk_at "m"
 rw[hj,AR]
 show V5 (eJ _) _
 rw[eI]
 have lr:(l6 j (97:Int)).length<8:=by rw[n7];exact j1.mp m8.2
 refine nP.mk (λk hk=>by rw[W8 hk];decide) (nP.mk (by rw[B4];exact A9 (i8 lr (by decide))) ?_)
 refine rdD.mk hn (Et w (C6 (λn=>n rfl) ?_))
 refine rdD.mk hn (Es w (C6 (λn=>n rfl) ?_))
 refine HY lr w (C6 (λn=>n rfl) ?_)
 exact k _ _ _ lr w
theorem c37n(o:Op ck iv fb lg)(hx:0≤x)(ho:get H no = .dict (G7 ck bs iv fb lg pr))(k:∀n H',TB H H' no n ck bs iv fb lg pr [] [] 0 [] .none [] 0 [] []→K (.obj 20 n) H'):c (r+12) 37 [.obj 11 no,.fl [],.int x] H K X:=by
 refine c37p o hx rfl ho λn H' sh hsh w=>?_
 refine eX02 w.g λ_ zn2=>?_;refine eX41 zn2 λ_ _ _ _ hn=>?_;clear zn2
 refine rdD.mk hn (Et w (C6 (λn=>n rfl) ?_))
 refine rdD.mk hn (Es w (C6 (λn=>n rfl) ?_))
 exact k _ _ w
theorem c37(o:Op ck iv fb lg)(hx:0≤x)(hu:u.length≤5)(ou:B7 u)(hh:0≤0-h∧0-h<18446744073709551615)(ho:get H no = .dict (G7 ck bs iv fb lg pr))(k:∀n H',T1 H H' no n ck bs iv fb lg pr u (0-h)→K (.obj 20 n) H'):c (r+12) 37 [.obj 11 no,.fl [.tup [.bytes u,.int h]],.int x] H K X:=by
 refine c37p o hx rfl ho λn H' sh hsh w=>?_
 have ek:((ik u (0-h)).length:Int)=u.length+8:=by rw[V7];rfl
 have ee:((en u (0-h)).length:Int)=u.length+11:=by rw[aQ (b6 hu (by decide))];rfl
 have hg:0≤0-h∧0-h<18446744073709551616:=⟨hh.1,by exact e7 hh.2 (by decide)⟩
 refine c34 (b6 hu (by decide)) (Jj o.ck o.g0 o.f1 o.i1 hu ou w (λq H2 w2=>C6 (λn=>n rfl) ?_) (λq H2 w2=>C6 (λn=>n rfl) ?_))
 ·refine c37l hu hh hsh w2 (λa b k=>Ji hg ⟨by exact e6 hh.1 a,b⟩ (qp a) w2 k) (by rw[if_neg (by rw[ek];exact λz=>q (by rw[ee];exact e6 z (l7 (Int.add_left_comm 11 (u.length:Int) 8))))];rfl) ?_
  refine eX02 w2.g λ_ zn3=>?_;refine eX41 zn3 λ_ _ _ _ hn=>?_;clear zn3
  refine rdD.mk hn (Et w2 (C6 (λn=>n rfl) ?_))
  refine rdD.mk hn (Es w2 (C6 (λn=>n rfl) ?_))
  exact k _ _ (.inl ⟨q,w2⟩)
 ·refine c37l hu hh hsh w2 (λa b k=>Jh hg ⟨by exact e6 hh.1 a,b⟩ (qp a) w2 k) (by rw[if_pos (by rw[ek];rw[ee] at q;exact e6 q (l7 (Int.add_left_comm 11 (u.length:Int) 8).symm)),ek];show ((o0 ck u (0-h)).length:Int)=_;rw[ip (b6 hu (by decide))];lia -abstractProof) ?_
  refine eX02 w2.g λ_ zn4=>?_;refine eX41 zn4 λ_ _ _ _ hn=>?_;clear zn4
  refine rdD.mk hn (Et w2 (C6 (λn=>n rfl) ?_))
  refine rdD.mk hn (Es w2 (C6 (λn=>n rfl) ?_))
  exact k _ _ (.inr ⟨q,w2⟩)
theorem nk:∀{j:Nat} {cl:List (List (List Int))},fi cl [] j=(cl++l6 j [],[])
 |0,cl=>by rw[List.replicate_zero,y7];rfl
 |j+1,cl=>by
  show fi (cl++[[]]) [] j=_
  rw[nk,t6];rfl
noncomputable def gu(u:List Int)(j:Nat):List (List (List Int)):=[u]::l6 (j-1) []
theorem tK:Q8 (fi [] [u] j).1 (fi [] [u] j).2=gu u j:=by
 cases j with
 |zero=>rfl
 |succ j=>show Q8 (fi [[u]] [] j).1 (fi [[u]] [] j).2=_;rw[nk];rfl
theorem BS(hu:u.length≤5)(ou:B7 u)(hj:j≤60):Good (fi [] [u] j).1∧(fi [] [u] j).1.length≤60∧au (fi [] [u] j).2∧(fi [] [u] j).2.length≤64:=by
 have k1:au [u]:=λd m=>by rw[i6.mp m];exact⟨ou,hu⟩
 cases j with
 |zero=>exact⟨lR,j9 _,k1,x9 1 63⟩
 |succ j=>
  show Good (fi [[u]] [] j).1∧(fi [[u]] [] j).1.length≤60∧au (fi [[u]] [] j).2∧(fi [[u]] [] j).2.length≤64
  rw[nk]
  refine⟨λks m=>?_,?_,oY⟩
  ·rcases y6.mp m with m | m
   ·rw[i6.mp m];exact⟨k1,x9 1 63⟩
   ·rw[W8 m];exact oY
  ·rw[d6,n7];exact b6 (j6 (L3 1 j)) hj
theorem oA:∀{k:Nat},C7 b (l6 k [])=[]
 |0=>rfl
 |k+1=>oA (k:=k)
theorem oz:C7 b (gu u j)=P6 b [u]:=by
 show P6 b [u]++C7 b (l6 (j-1) [])=_
 rw[oA,y7]
theorem qN:∀{l:List Int},B7 (iP l)
 |[]=>B7.nil
 |_::l=>eG.app (qN (l:=l))
theorem jg{cl:List (List (List Int))}(g0:0≤lg)(g1:lg≤31)(h:B7 (C7 b cl)):B7 (S7 b lg cl):=((h.app qN).app eG).app (B7.cons ⟨g0,by exact e8 g1 (by decide)⟩ B7.nil)
theorem gk:(gu u j).length=j-1+1:=congrArg (· + 1) n7
theorem mj(b1:b≤100)(hj:j≤60):(S7 b lg (gu u j)).length≤400:=by
 have e:=mh (b:=b) (lg:=lg) (cl:=gu u j)
 rw[gk,oz,W4] at e
 have hn:N0 [u].length b≤30:=by
  show N0 1 b≤30
  unfold N0;split
  ·decide
  ·exact(A2 (n:=30)).mpr (e6 (v8 (by decide) (Int.add_le_add_right (e6 (l7 (Int.one_mul b)) b1) 7)) (by decide))
 exact m5.mp (e6 (l7 e) (e6 (Int.add_le_add_right (j4 (m5.mpr (E8 hn)) (D3 (m5.mpr (E8 (b6 (aw _ _) hj))) (by decide))) 5) (by decide)))
theorem mi(b0:1≤b)(b1:b≤100)(g0:0≤lg)(g1:lg≤31):B7 (S7 b lg (gu u j)):=jg g0 g1 (by rw[oz];exact U0 b0 b1 (x9 1 63))
theorem hW:(S7 b lg []).length≤400:=by
 have e:=mh (b:=b) (lg:=lg) (cl:=[])
 exact m5.mp (e6 (l7 e) (show ((0:Nat):Int)+4*((0:Nat):Int)+5≤((400:Nat):Int) by decide))
noncomputable def AC(ck fb lg:Int):List Int:=fF ck fb lg [] [] []
noncomputable def xf(ck fb lg:Int)(u:List Int)(t:Int):List Int:=fF ck fb lg (o0 ck u t) (gu u (I6 lg (o0 ck u t))) (sC (HD 0 (F6 (en u t)).length) u t (F6 (en u t)).length)
theorem EO(o:Op ck iv fb lg)(w:TB H0 H no n ck bs iv fb lg pr [] [] 0 [] .none [] 0 [] [])(k:∀H',Own [no] H0 H' [(no,.dict (G7 ck bs iv fb lg pr))]→TD H' n (AC ck fb lg) 0→K (.bytes (AC ck fb lg)) H'):c (r+10) 99 [.obj 20 n] H K X:=
 c99 (u:=[]) (t:=0) (ln:=0) o.ck o.g0 o.g1 o.f1 o.i1 lR (j9 _) oY (j9 _) (b6 hW (by decide)) (λ_=>jg o.g0 o.g1 B7.nil) B7.nil (j9 _) (by decide) (by decide) (.inl rfl) w (λk=>c98e w (k _ w)) k
theorem Jf(o:Op ck iv fb lg)(hu:u.length≤5)(ou:B7 u)(w:T1 H0 H no n ck bs iv fb lg pr u t)(k:∀H',Own [no] H0 H' [(no,.dict (G7 ck bs iv fb lg pr))]→TD H' n (xf ck fb lg u t) 1→K (.bytes (xf ck fb lg u t)) H'):c (r+10) 99 [.obj 20 n] H K X:=by
 have lo:=ip (ck:=ck) (t:=t) (u:=u) (b6 hu (by decide))
 have hj:I6 lg (o0 ck u t)≤60:=b6 gg (b6 (b6 (j6 lo) (b7 hu (d8 _))) (by decide))
 refine eX03 (BS hu ou hj) λa1 a2 a3=>?_
 have lb:(F6 (en u t)).length≤60:=by rw[G5,aQ (b6 hu (by decide))];exact b6 (b7 (b7 hu (d8 _)) (d8 _)) (by decide)
 have fin:∀{out buf kl:List Int} {ne:Int} {wt:AV} {cs:List (List (List Int))} {ks:List (List Int)},TB H0 H no n ck bs iv fb lg pr out buf ne kl wt (ik u t) 1 cs ks→(∀{K:KE} {X:XE},(∀H',TB H0 H' no n ck bs iv fb lg pr (o0 ck u t) [] 0 [] (HD 0 (F6 (en u t)).length) (ik u t) 1 (fi [] [u] (I6 lg (o0 ck u t))).1 (fi [] [u] (I6 lg (o0 ck u t))).2→K .none H')→c (r+9) 98 [.obj 20 n] H K X)→c (r+10) 99 [.obj 20 n] H K X:=λw cl=>by
  refine c99 (u:=u) (t:=t) (ln:=(F6 (en u t)).length) o.ck o.g0 o.g1 o.f1 o.i1 a1 a2 a3 (b6 (b6 (j6 lo) (b7 hu (d8 _))) (by decide)) ?_ ?_ ou (b6 hu (by decide)) (g8 _) (j1.mpr (g9 lb (by decide))) (.inr ⟨rfl,rfl⟩) w cl ?_<;>rw[tK]
  ·exact b6 (mj o.f1 hj) (by decide)
  ·exact λb1=>mi b1 o.f1 o.g0 o.g1
  ·exact k
 rcases w with ⟨_,w⟩ | ⟨_,w⟩
 ·exact fin w λk=>c98 (r:=r+2) (ks:=[u]) o.ck o.g0 o.f1 ⟨λd m=>by rw[i6.mp m];exact⟨ou,hu⟩,x9 1 63⟩ (by rw[aQ (b6 hu (by decide))];exact b6 (b7 hu (d8 _)) (by decide)) (Z6 (ku (b6 hu (by decide)) ou)) w k
 ·exact fin w λk=>c98e (r:=r+7) w (k _ w)
theorem c38t(hx:0≤x)(w:TD H n D Y6)(he:(hl.length:Int)=Y6)(k:K (.bytes D) H):
  wpS (Iv c cc (r+12)) (S2 f38.body 3) [ov,.fl hl,.int x,.obj 20 n,.U,.bytes D] H N K Y:=by
 refine D2 λ_ kk=>?_
 obtain⟨no,o,nb,ni,fv,wt,last,hn,ho⟩:=id w
 refine kk ?_
 have m:0≤x%13∧x%13<13:=⟨j5 _ (by decide),j7 _ (by decide)⟩
 refine rdD.mk hn (c94 hn ho (C6 (λn=>n rfl) ?_))
 walk_at "m"
 refine HZ w ?_
 walk_at "m"
 refine HX w ?_
 walk_at "m"
 refine HW w ?_
 walk_at "m"
 refine c94 hn ho (C6 (λn=>n rfl) ?_)
 walk_at "m"
 refine c95 hn (C6 (λn=>n he.symm) ?_)
 exact k
theorem c38n(o:Op ck iv fb lg)(hx:0≤x)(ho:get H no = .dict (G7 ck bs iv fb lg pr))(k:∀H',Kq [] H H'→K (.bytes (AC ck fb lg)) H'):c (r+13) 38 [.obj 11 no,.fl [],.int x] H K X:=by
 refine L.call rfl ?_
 refine c37n o hx ho λn H1 w=>?_
 refine eX02 w.g λ_ zn1=>?_;refine eX41 zn1 λ_ _ _ _ hn=>?_;clear zn1
 walk_at "m"
 refine EO o w λH2 h2 w2=>?_
 exact c38t hx w2 rfl (k _ (h2.unS (.head _) ho))
theorem c38(o:Op ck iv fb lg)(hx:0≤x)(hu:u.length≤5)(ou:B7 u)(hh:0≤0-h∧0-h<18446744073709551615)(ho:get H no = .dict (G7 ck bs iv fb lg pr))(k:∀H',Kq [] H H'→K (.bytes (xf ck fb lg u (0-h))) H'):c (r+13) 38 [.obj 11 no,.fl [.tup [.bytes u,.int h]],.int x] H K X:=by
 refine L.call rfl ?_
 refine c37 o hx hu ou hh ho λn H1 w=>?_
 obtain⟨_,_,_,_,_,_,_,hn⟩:∃o nb ni fv wt last Y6,get H1 n = .dict (kP no o nb ni fv wt last Y6 false):=by
  rcases w with ⟨_,w⟩ | ⟨_,w⟩
  ·refine eX02 w.g λ_ zn2=>?_;refine eX41 zn2 λ_ _ _ _ hn=>?_;clear zn2;exact⟨_,_,_,_,_,_,_,hn⟩
  ·refine eX02 w.g λ_ zn3=>?_;refine eX41 zn3 λ_ _ _ _ hn=>?_;clear zn3;exact⟨_,_,_,_,_,_,_,hn⟩
 walk_at "m"
 refine Jf o hu ou w λH2 h2 w2=>?_
 exact c38t hx w2 rfl (k _ (h2.unS (.head _) ho))
noncomputable def kd(b:Bool):Int:=if b then 1 else 2
theorem lO:kd cr=1∨kd cr=2:=by cases cr;exact .inr rfl;exact .inl rfl
theorem Aa(g0:0≤lg)(g1:lg≤31)(f1:fb≤100)(hg:Good cs)(hc:cs.length≤60)(hs:(S7 fb lg cs).length≤900)(hso:1≤fb→B7 (S7 fb lg cs))(hz:out.length≤100)(hr:pM H vs cs){ixv:AV}
  (k:∀H' l w8,Kq [] H H'→(∀{H:Hp} {K:KE} {X:XE},(∀H',Kq [] H H'→K (.bytes (F6 (N1 fb lg out cs))) H')→c (r+3) 28 [.fl l] H K X)→N [wv,hv,.bytes (t1 (kd cr) fb lg out cs),.fl vs,ixv,tv,.fl l,w7,w8,w9,w10,.bool cr,.int fb,.int lg] H') :
  wpS (Iv c cc (r+3)) (nth f35.body 7) [wv,hv,.bytes out,.fl vs,ixv,tv,.fl [],w7,w8,w9,w10,.bool cr,.int fb,.int lg] H N R Y:=by
 by_cases b1:1≤fb
 ·have e1:t1 (kd cr) fb lg out cs=out++B8 (kd cr) (S7 fb lg cs):=if_pos b1
  have e2:N1 fb lg out cs=C0 kg (X2 out.length (S7 fb lg cs).length):=if_pos b1
  rw[e1,e2] at k
  refine dQ (e7 (by decide) b1) ?_
  refine c32 b1 f1 g0 g1 hg hc hr (.inl rfl) λH1 k1=>?_
  refine c26 (g8 _) (j1.mpr (g9 hz (by decide))) λH2 k2=>c26 (g8 _) (j1.mpr (g9 hs (by decide))) λH3 k3=>?_
  refine nP.mk (by rw[B4];exact b6 (b7 O9 O9) (by decide)) ?_
  refine c27 (hso b1) (b6 hs (by decide)) ?_
  refine nP.mk (by rw[K2,B4];exact b6 (b7 hz (b7 hs (d8 _))) (by decide)) ?_
  exact k _ _ _ ((k1.trans0 k2).trans0 k3) λq=>c28 (by decide) (b6 bz (by decide)) q
 ·have e1:t1 (kd cr) fb lg out cs=out:=if_neg b1
  have e2:N1 fb lg out cs=[]:=if_neg b1
  rw[e1,e2] at k
  refine C6 (r6.mpr (i5 (G0.mp b1))) ?_
  exact k _ _ _ Kq.refl λq=>c28n q
end
section
variable{r j:Nat}{H H0:Hp}{K R:KE}{X:XE}{Y:XS}{N:KN}{fb lg t h:Int}{cr:Bool}{u out ib:List Int}{vs l li:List AV}{cs:List (List (List Int))}{wv hv tv w7 w8 w9 w10:AV}
theorem uS:le 15800726617472432983 8=[87,251,128,139,36,117,71,219]:=by decide
theorem xe{k:Int}:((((t2 k fb lg out cs++B8 k (F6 ib))++(((M9 (t1 k fb lg out cs).length++M9 (F6 (N1 fb lg out cs)).length)++M9 (t2 k fb lg out cs).length)++M9 (F6 ib).length))++l6 (40-(((M9 (t1 k fb lg out cs).length++M9 (F6 (N1 fb lg out cs)).length)++M9 (t2 k fb lg out cs).length)++M9 (F6 ib).length).length) 0)++[87,251,128,139,36,117,71,219])=fF k fb lg out cs ib:=by
 unfold fF ru yG X2
 rw[uS]
 simp only[t6]
theorem c27k{d:List Int}(ho:B7 d)(hl:d.length≤999)(k:K (.bytes (B8 (kd cr) d)) H):c (r+2) 27 [.bool cr,.bytes d] H K X:=c27 ho hl k
theorem Cz(a b c d:Int):(M9 a).length+(M9 b).length≤K8∧(M9 a++M9 b).length+(M9 c).length≤K8∧(M9 a++M9 b++M9 c).length+(M9 d).length≤K8∧(M9 a++M9 b++M9 c++M9 d).length≤8:=by
 have v1:=O9 (n:=a);have v2:=O9 (n:=b);have v3:=O9 (n:=c);have v4:=O9 (n:=d)
 refine⟨?_,?_,?_,?_⟩<;>simp only[d6,B4]
 ·exact b6 (b7 v1 v2) (by decide)
 ·exact b6 (b7 (b7 v1 v2) v3) (by decide)
 ·exact b6 (b7 (b7 (b7 v1 v2) v3) v4) (by decide)
 ·exact b7 (b7 (b7 v1 v2) v3) v4
theorem ED{n:Nat}(h:n≤8):(40-(n:Int)).toNat=40-n:=O4 40 n
theorem EA{n:Nat}(h:n≤8):within (40-(n:Int)) 100000:=by exact⟨(e6 (by decide) (o8 (g6 _) (m5.mpr h))),(e8 (o8 (g6 _) (g8 _)) (by decide))⟩
theorem c35t(hz:out.length≤100)(hs:(S7 fb lg cs).length≤900)(hib:B7 (F6 ib))(hil:(F6 ib).length≤100)
  (hm:∀{H:Hp} {K:KE} {X:XE},(∀H',Kq [] H H'→K (.bytes (F6 (N1 fb lg out cs))) H')→c (r+3) 28 [.fl l] H K X)
  (hi:∀{H:Hp} {K:KE} {X:XE},(∀H',Kq [] H H'→K (.bytes (F6 ib)) H')→c (r+3) 28 [.fl li] H K X)
  (ht:tv = .none∨∃a b,tv = .tup [.bytes a,.int b])
  (k:∀H',Kq [] H H'→K (.tup [.bytes (fF (kd cr) fb lg out cs ib),.int (t1 (kd cr) fb lg out cs).length,tv]) H') :
  wpS (Iv c cc (r+3)) (S2 f35.body 8) [wv,hv,.bytes (t1 (kd cr) fb lg out cs),.fl vs,.fl li,tv,.fl l,w7,w8,w9,w10,.bool cr,.int fb,.int lg] H N K Y:=by
 have mr:=jm (lg:=lg) hz hs
 have ml:=G5 (e:=N1 fb lg out cs)
 have l1:=pP (ck:=kd cr) hz hs
 have l2:(t2 (kd cr) fb lg out cs).length≤1100:=by unfold t2;rw[d6,K2,ml];exact b6 (b7 l1 (b7 (b7 mr.2 (d8 _)) (d8 _))) (by decide)
 have v:=Cz (t1 (kd cr) fb lg out cs).length (F6 (N1 fb lg out cs)).length (t2 (kd cr) fb lg out cs).length (F6 ib).length
 walk_at "m"
 refine hm λH1 k1=>?_
 walk_at "m"
 refine c26 (g8 _) (j1.mpr (g9 l1 (by decide))) λH2 k2=>c26 (g8 _) (j1.mpr (g9 (b6 (j6 ml) (b7 mr.2 (d8 _))) (by decide))) λH3 k3=>?_
 refine nP.mk v.1 (c27k mr.1 (b6 (b6 (j6 ml) (b7 mr.2 (d8 _))) (by decide)) (nP.mk (by rw[K2,B4];exact b6 (b7 l1 (b7 (b6 (j6 ml) (b7 mr.2 (d8 _))) (d8 _))) (by decide)) (hi λH4 k4=>?_)))
 refine c26 (g8 _) (show ((t2 (kd cr) fb lg out cs).length:Int)<16384 by exact j1.mpr (g9 l2 (by decide))) λH5 k5=>nP.mk v.2.1 ?_
 refine c26 (g8 _) (j1.mpr (g9 hil (by decide))) λH6 k6=>nP.mk v.2.2.1 ?_
 refine nP.mk (by decide) (nP.mk (by rw[B4];decide) ?_)
 refine c27k hib (b6 hil (by decide)) ?_
 have e40:(40-((M9 (t1 (kd cr) fb lg out cs).length++M9 (F6 (N1 fb lg out cs)).length++M9 (t1 (kd cr) fb lg out cs++B8 (kd cr) (F6 (N1 fb lg out cs))).length++M9 (F6 ib).length).length:Int)).toNat=40-(M9 (t1 (kd cr) fb lg out cs).length++M9 (F6 (N1 fb lg out cs)).length++M9 (t1 (kd cr) fb lg out cs++B8 (kd cr) (F6 (N1 fb lg out cs))).length++M9 (F6 ib).length).length:=ED v.2.2.2
 have l3:(t2 (kd cr) fb lg out cs).length+(B8 (kd cr) (F6 ib)).length≤2000:=by rw[K2];exact b6 (b7 l2 (b7 hil (d8 _))) (by decide)
 refine nP.mk (show (t2 (kd cr) fb lg out cs).length+(B8 (kd cr) (F6 ib)).length≤K8 by rw[B4];exact b6 l3 (by decide)) ?_
 refine nP.mk (by rw[d6,B4];exact b6 (b7 l3 v.2.2.2) (by decide)) ?_
 refine nP.mk (EA v.2.2.2) ?_
 rw[e40]
 have fin:=k _ (((((k1.trans0 k2).trans0 k3).trans0 k4).trans0 k5).trans0 k6)
 rw[←xe] at fin
 refine nP.mk ?_ (nP.mk ?_ ?_)
 ·rw[d6,d6,n7,B4]
  exact b6 (b7 (b7 l3 v.2.2.2) (aw 40 _)) (by decide)
 ·rw[d6,d6,d6,n7,B4]
  exact b6 (v5 (b7 (b7 l3 v.2.2.2) (aw 40 _)) 8) (by decide)
 ·rcases ht with rfl | ⟨a,b,rfl⟩
  ·exact fin
  ·exact fin
theorem c35n(g0:0≤lg)(g1:lg≤31)(f1:fb≤100)(k:∀H',Kq [] H H'→K (.tup [.bytes (AC (kd cr) fb lg),.int (t1 (kd cr) fb lg [] []).length,.none]) H'):c (r+5) 35 [.tup [.bool cr,.int fb,.int lg],.fl []] H K X:=by
 refine L.call rfl ?_
 walk_at "m"
 refine Aa (r:=r+1) g0 g1 f1 lR (j9 _) (b6 hW (by decide)) (λ_=>jg g0 g1 B7.nil) (j9 _) (show pM H [] [] from rfl) λH1 l w8 k1 hm=>?_
 exact c35t (r:=r+1) (j9 _) (b6 hW (by decide)) (Z6 B7.nil) (by decide) hm (λq=>c28n q) (.inl rfl) λH2 k2=>k _ (k1.trans0 k2)
theorem tX:∀{k:Nat},(l6 k [AV.fl []]).flatten=l6 k (.fl [])
 |0=>rfl
 |k+1=>by rw[C1,C1,J8,tX];rfl
theorem rD:∀{k:Nat},pM H (l6 k (.fl [])) (l6 k [])
 |0=>rfl
 |k+1=>⟨[],_,rfl,.inl rfl,rD (k:=k)⟩
theorem xj:pM H (AV.fl [AV.bytes u]::l6 (j-1) (.fl [])) (gu u j):=show ∃ks cl',_∧_∧_ from ⟨[u],_,rfl,.inl rfl,rD⟩
theorem gq(hu:u.length≤5)(ou:B7 u):Good (gu u j):=λks m=>by
 rcases l5.mp m with rfl | m
 ·exact⟨λd m=>by rw[i6.mp m];exact⟨ou,hu⟩,x9 1 63⟩
 ·rw[W8 m];exact oY
theorem c35(g0:0≤lg)(g1:lg≤31)(f1:fb≤100)(hu:u.length≤5)(ou:B7 u)
  (k:∀H',Kq [] H H'→K (.tup [.bytes (xf (kd cr) fb lg u (0-h)),.int (t1 (kd cr) fb lg (o0 (kd cr) u (0-h)) (gu u (I6 lg (o0 (kd cr) u (0-h))))).length,.tup [.bytes (E2 u (0-h)).1,.int (0-(E2 u (0-h)).2)]]) H'):c (r+5) 35 [.tup [.bool cr,.int fb,.int lg],.fl [.tup [.bytes u,.int h]]] H K X:=by
 have lo:=ip (ck:=kd cr) (t:=0-h) (u:=u) (b6 hu (by decide))
 have hj:I6 lg (o0 (kd cr) u (0-h))≤60:=b6 gg (b6 (b6 (j6 lo) (b7 hu (d8 _))) (by decide))
 have lb:(F6 (en u (0-h))).length=u.length+19:=by rw[G5,aQ (b6 hu (by decide))]
 have hp:=jE g0 (e6 g1 (by decide):lg≤36)
 have p0:0<pw 2 lg.toNat:=by exact e7 (by decide) hp.1
 have p1:small (pw 2 lg.toNat):=by exact⟨(e7 (by decide) hp.1),(e8 hp.2 (by decide))⟩
 have p3:within lg 1000:=by exact⟨g0,(e8 g1 (by decide))⟩
 have tl:=gc (t:=0-h) (show u.length≤40 by exact b6 hu (by decide))
 refine L.call rfl ?_
 walk_at "m"
 refine dQ (show (0:Int)<1 by decide) ?_
 walk_at "m"
 refine c34 (u:=u) (h:=h) (b6 hu (by decide)) ?_
 refine c28 (by rw[V7];exact b6 (b7 hu (d8 _)) (by decide)) (by decide) λH1 k1=>?_
 walk_at "m"
 refine c33 ou (b6 hu (by decide)) ?_
 refine c34 (u:=(E2 u (0-h)).1) (h:=0-(E2 u (0-h)).2) (b6 tl (by decide)) ?_
 walk_at "m"
 refine c26 (g8 _) (show ((F6 (en u (0-h))).length:Int)<16384 by exact j1.mpr (g9 (b6 (j6 lb) (b7 hu (d8 _))) (by decide))) λH2 k2=>?_
 have vl:=O9 (n:=((F6 (en u (0-h))).length:Int))
 refine nP.mk (by rw[B4];exact b6 (O6 vl 1) (by decide)) ?_
 refine c27k (Z6 (ku (b6 hu (by decide)) ou)) (show (F6 (en u (0-h))).length≤999 by exact b6 (b6 (j6 lb) (b7 hu (d8 _))) (by decide)) ?_
 have eq:((o0 (kd cr) u (0-h)).length:Int)/pw 2 lg.toNat=(I6 lg (o0 (kd cr) u (0-h)):Nat):=mo
 have q2:((o0 (kd cr) u (0-h)).length:Int)/pw 2 lg.toNat-1<100000:=by rw[eq];exact e8 (o8 (e6 (l7 eq.symm) (e6 (l7 eq) (m5.mpr hj))) (g6 _)) (by decide)
 have q3 : -100000<((o0 (kd cr) u (0-h)).length:Int)/pw 2 lg.toNat-1:=by rw[eq];exact e7 (by decide) (o8 (g8 _) (g6 _))
 have er:rep (((o0 (kd cr) u (0-h)).length:Int)/pw 2 lg.toNat-1) [AV.fl []]=l6 (I6 lg (o0 (kd cr) u (0-h))-1) (.fl []):=by
  unfold rep
  rw[eq,show ((I6 lg (o0 (kd cr) u (0-h)):Nat):Int)-1=((I6 lg (o0 (kd cr) u (0-h)):Nat):Int)-1 from rfl,show (((I6 lg (o0 (kd cr) u (0-h)):Nat):Int)-1).toNat=I6 lg (o0 (kd cr) u (0-h))-1 from O4 _ 1,tX]
 walk_at "m"
 refine nP.mk q3 (nP.mk q2 ?_)
 show bin 0 _ (AV.fl (rep (((o0 (kd cr) u (0-h)).length:Int)/pw 2 lg.toNat-1) [AV.fl []])) _ _
 rw[er]
 refine nP.mk (by rw[n7,B4];show 1+_≤_;exact b6 (b7 (d8 _) (b6 (aw _ _) hj)) (by decide)) ?_
 rw[show 0-(0-(E2 u (0-h)).2)=(E2 u (0-h)).2 by rw[Z8,Z8,Int.neg_neg]]
 refine Aa (r:=r+1) (out:=o0 (kd cr) u (0-h)) (cs:=gu u (I6 lg (o0 (kd cr) u (0-h)))) g0 g1 f1 (gq hu ou) (by rw[gk];exact v5 (N6 hj 1) 1) (b6 (mj f1 hj) (by decide)) (λb1=>mi b1 f1 g0 g1) (b6 (b6 (j6 lo) (b7 hu (d8 _))) (by decide)) xj λH3 l w8 k3 hm=>?_
 have ib:=qh (wt:=HD 0 (F6 (en u (0-h))).length) (t:=0-h) ou (b6 hu (by decide)) (g8 (F6 (en u (0-h))).length) (j1.mpr (g9 (b6 (j6 lb) (b7 hu (d8 _))) (by decide)))
 refine c35t (r:=r+1) (out:=o0 (kd cr) u (0-h)) (cs:=gu u (I6 lg (o0 (kd cr) u (0-h)))) (ib:=sC (HD 0 (F6 (en u (0-h))).length) u (0-h) (F6 (en u (0-h))).length) (b6 (b6 (j6 lo) (b7 hu (d8 _))) (by decide)) (b6 (mj f1 hj) (by decide)) ib.1 (by rw[G5];have:=ib.2;exact b6 (b7 ib.2 (d8 _)) (by decide)) hm (λq=>c28 (by rw[V7];exact b6 (b7 tl (d8 _)) (by decide)) (b6 (bz (a:=0) (s:=(F6 (en u (0-h))).length)) (by decide)) q) (.inr ⟨_,_,rfl⟩) λH4 k4=>?_
 exact k _ (((k1.trans0 k2).trans0 k3).trans0 k4)
end
section
variable{C n r l oc:Nat}{g:Nat→Nat}{ne bb b:Bool}{a v t:List Int}{P:Bool→Hp→Prop}{H H0:Hp}{K R:KE}{X:XE}{N:KN}{Y:XS}{pl x y m:Int}{os:List (Nat×AV)}
structure Wk(C n:Nat)(g:Nat→Nat)(ne bb:Bool)(a v t:List Int)(P:Bool→Hp→Prop):Prop where
 tab:∀m,12≤m∧m≤19→aY C m=some (g m)
 dict:∀{b H},P b H→∃fs,get H n = .dict fs∧∀m,12≤m∧m≤19→lk fs m = .U
 valid:∀{r b H} {K:KE} {X:XE},P b H→K (.bool b) H→c (r+20) (g 16) [.obj C n] H K X
 key:∀{r H} {K:KE} {X:XE},P true H→K (.bytes a) H→c (r+20) (g 12) [.obj C n] H K X
 value:∀{r H} {K:KE} {X:XE},P true H→K (.bytes v) H→c (r+20) (g 13) [.obj C n] H K X
 out:∀{r H} {K:KE} {X:XE},P false H→X 6 H→c (r+20) (g 12) [.obj C n] H K X∧c (r+20) (g 13) [.obj C n] H K X∧c (r+20) (g 14) [.obj C n] H K X∧c (r+20) (g 15) [.obj C n] H K X
 step:∀{r H} {K:KE} {X:XE},P true H→(∀H',P false H'→K .none H')→c (r+20) (g 14) [.obj C n] H K X∧c (r+20) (g 15) [.obj C n] H K X
 ends:∀{r b H} {K:KE} {X:XE},P b H→(∀H',P ne H'→K .none H')→c (r+20) (g 17) [.obj C n] H K X∧c (r+20) (g 18) [.obj C n] H K X
 seek:∀{r b H} {K:KE} {X:XE},P b H→(∀H',P (ne&&bb) H'→K .none H')→c (r+20) (g 19) [.obj C n,.bytes t] H K X
theorem Y0{I:Itf}{fs:List (Nat×AV)}{m f:Nat}{F:Nat→Prop}(e:lk fs m = .U)(h:I.mtab C m=some f)(k:F f):yj I C fs m F:=by
 unfold yj;rw[e,h];exact k
theorem Wk.go{m:Nat}{b:Bool}{F:Nat→Prop}(w:Wk C n g ne bb a v t P)(p:P b H)(h:12≤m∧m≤19)(k:F (g m)):rdD H n λfs=>yj (Iv c cc r) C fs m F:=by
 refine eX12 (w.dict p) λfs e u=>?_
 exact .mk e (Y0 (u m h) (w.tab m h) k)
theorem c39(w:Wk C n g ne bb a v t P)(p:P false H)(k:K (.bool true) H):c (r+21) 39 [.obj C n] H K X:=by
 refine L.call rfl ?_
 walk_at "m"
 refine w.go p (m:=12) (by decide) (w.out p ?_).1
 walk_at "m"
 refine w.go p (m:=13) (by decide) (w.out p ?_).2.1
 walk_at "m"
 refine w.go p (m:=14) (by decide) (w.out p ?_).2.2.1
 walk_at "m"
 refine w.go p (m:=15) (by decide) (w.out p ?_).2.2.2
 walk_at "m"
 refine w.go p (m:=16) (by decide) (w.valid p ?_)
 exact k
noncomputable def Rw(ne:Bool)(a v:List Int):List AV:=match ne with
 |true=>[.tup [.bytes a,.bytes v]]
 |false=>[]
theorem c40f{l:List AV}(w:Wk C n g ne bb a v t P)(p:P false H)(h:pl≠0∨l=[])(k:K (.bool true) H):c (r+22) 40 [.obj C n,.fl l,.int pl] H K X:=by
 refine L.call rfl ?_
 by_cases q:pl=0
 ·obtain rfl:=h.resolve_left (λn=>n q)
  refine I9 (decide_eq_false (λn=>n q)) ?_
  walk_at "m"
  refine w.go p (m:=16) (by decide) (w.valid p ?_)
  walk_at "m"
  exact c39 w p k
 ·refine O0 (decide_eq_true q) (O0 (decide_eq_true q) ?_)
  refine w.go p (m:=16) (by decide) (w.valid p ?_)
  walk_at "m"
  exact c39 w p k
theorem c40t(w:Wk C n g ne bb a v t P)(p:P true H)(k:K (.bool true) H):c (r+22) 40 [.obj C n,.fl [.tup [.bytes a,.bytes v]],.int 0] H K X:=by
 refine L.call rfl ?_
 walk_at "m"
 refine C6 (show ¬(1:Int)=0 by decide) ?_
 walk_at "m"
 refine w.go p (m:=16) (by decide) (w.valid p ?_)
 walk_at "m"
 refine w.go p (m:=12) (by decide) (w.key p ?_)
 refine w.go p (m:=13) (by decide) (w.value p ?_)
 walk_at "m"
 have e:(decide (a=a)&&decide (v=v))=true:=by rw[decide_eq_true rfl,decide_eq_true rfl];rfl
 show K (.bool (decide (a=a)&&decide (v=v))) H
 rw[e];exact k
theorem c40(w:Wk C n g ne bb a v t P)(p:P b H)(h:b=(decide (pl=0)&&ne))(k:K (.bool true) H):c (r+22) 40 [.obj C n,.fl (Rw ne a v),.int pl] H K X:=by
 by_cases q:pl=0
 ·subst q
  rw[decide_eq_true rfl,aH] at h
  subst h
  cases b with
  |true=>exact c40t w p k
  |false=>exact c40f w p (.inr rfl) k
 ·rw[decide_eq_false q,Bool.false_and] at h
  subst h
  exact c40f w p (.inl q) k
theorem c41d{i bf dd:Int}(w:Wk C n g ne bb a v t P)(p:P b H)(hb:bb=decide (bf=0))(d0:0≤dd)(d4:dd≤4)(d3:3≤dd→b=true)
  (k:∀H' b' pl',P b' H'→b'=(decide (pl'=0)&&ne)→N [.obj C n,.fl (Rw ne a v),.int x,.bytes t,.int bf,.int pl',.int i,.int dd] H') :
  wpS (Iv c cc (r+22)) (S2 (body (nth f41.body 2)) 2) [.obj C n,.fl (Rw ne a v),.int x,.bytes t,.int bf,.int pl,.int i,.int dd] H N R Y:=by
 have fin:∀{H':Hp} {b':Bool} {pl':Int},P b' H'→b'=(decide (pl'=0)&&ne)→wpS (Iv c cc (r+22)) (S2 (body (nth f41.body 2)) 3) [.obj C n,.fl (Rw ne a v),.int x,.bytes t,.int bf,.int pl',.int i,.int dd] H' N R Y:=λp' h'=>by
  refine c40 w p' h' (I9 rfl ?_)
  exact k _ _ _ p' h'
 have h5:∀n:Nat,n<5→(n:Int)=0∨(n:Int)=1∨(n:Int)=2∨(n:Int)=3∨(n:Int)=4:=by decide
 have h5:dd=0∨dd=1∨dd=2∨dd=3∨dd=4:=(A1 d0).elim λn e=>e▸h5 n (j1.mp (e▸e8 d4 (by decide)))
 rcases h5 with rfl | rfl | rfl | rfl | rfl
 ·refine dQ rfl ?_
  refine w.go p (m:=17) (by decide) (w.ends p λH' p'=>?_).1
  exact fin p' (aH _).symm
 ·refine C6 (by decide) (dQ rfl ?_)
  refine w.go p (m:=18) (by decide) (w.ends p λH' p'=>?_).2
  exact fin (pl':=((Rw ne a v).length:Int)-1) p' (by cases ne<;>rfl)
 ·refine C6 (by decide) (C6 (by decide) (dQ rfl ?_))
  refine w.go p (m:=19) (by decide) (w.seek p λH' p'=>?_)
  exact fin p' (by rw[hb,Bool.and_comm])
 ·have:=d3 (by decide)
  subst this
  refine C6 (by decide) (C6 (by decide) (C6 (by decide) (dQ rfl ?_)))
  refine w.go p (m:=14) (by decide) (w.step p λH' p'=>?_).1
  exact fin p' rfl
 ·have:=d3 (by decide)
  subst this
  refine C6 (by decide) (C6 (by decide) (C6 (by decide) (C6 (by decide) ?_)))
  refine w.go p (m:=15) (by decide) (w.step p λH' p'=>?_).2
  exact fin p' rfl
theorem c41t{i bf:Int}{w7:AV}(w:Wk C n g ne bb a v t P)(p:P b H)(hp:b=(decide (pl=0)&&ne))(hb:bb=decide (bf=0))(hi:i=0∨i=1∨i=2∨i=3)(hx:0≤x)
  (k:∀H' b' pl' w7,P b' H'→b'=(decide (pl'=0)&&ne)→N [.obj C n,.fl (Rw ne a v),.int x,.bytes t,.int bf,.int pl',.int i,w7] H') :
  wpS (Iv c cc (r+22)) (body (nth f41.body 2)) [.obj C n,.fl (Rw ne a v),.int x,.bytes t,.int bf,.int pl,.int i,w7] H N R T8:=by
 have hw:within i 1000:=by lia -abstractProof
 have h5:0<pw 5 i.toNat∧small (pw 5 i.toNat):=by rcases hi with rfl | rfl | rfl | rfl<;>decide
 have p0:=h5.1
 have p1:=h5.2
 have y0:0≤x/pw 5 i.toNat%5:=j5 _ (by decide)
 have y1:x/pw 5 i.toNat%5<5:=j7 _ (by decide)
 walk_at "m"
 generalize x/pw 5 i.toNat%5=e at y0 y1
 refine R7 (λq=>?_) (λq=>?_)
 ·have lo:wpS (Iv c cc (r+22)) (S2 (body (nth f41.body 2)) 2) [.obj C n,.fl (Rw ne a v),.int x,.bytes t,.int bf,.int pl,.int i,.int (e-3)] H N R T8:=c41d w p hb (o8 (u0 q) (g6 _)) (e6 (o8 (i5 y1) (g6 _)) (by decide)) (λh=>absurd (e6 h (Int.sub_le_sub_right (i5 y1) 3)) (by decide)) λH' b' pl' p' h'=>k _ _ _ _ p' h'
  by_cases z:pl=0
  ·refine I9 (decide_eq_false (λn=>n z)) ?_
   cases ne with
   |true=>
    refine C6 (show ¬(1:Int)=0 by decide) ?_
    exact c41d w p hb y0 (i5 y1) (λ_=>by rw[hp,decide_eq_true z];rfl) λH' b' pl' p' h'=>k _ _ _ _ p' h'
   |false=>exact dQ (show (0:Int)=0 from rfl) lo
  ·exact O0 (decide_eq_true z) (O0 (decide_eq_true z) lo)
 ·refine C6 q ?_
  exact c41d w p hb y0 (e6 (r6.mp q) (by decide)) (λh=>absurd (e7 (by decide:(2:Int)<3) h) q) λH' b' pl' p' h'=>k _ _ _ _ p' h'
theorem c41{bf:Int}(w:Wk C n g ne bb a v t P)(p:P false H)(hb:bb=decide (bf=0))(hx:0≤x)(k:∀H' b',P b' H'→K (.bool true) H'):c (r+23) 41 [.obj C n,.fl (Rw ne a v),.int x,.bytes t,.int bf] H K X:=by
 refine L.call rfl ?_
 refine c40 w p rfl (I9 rfl ?_)
 walk_at "1"
 refine c41t w p (i:=0) rfl hb (.inl rfl) hx λH1 b1 p1 w1 h1 e1=>?_
 refine c41t w h1 (i:=1) e1 hb (.inr (.inl rfl)) hx λH2 b2 p2 w2 h2 e2=>?_
 refine c41t w h2 (i:=2) e2 hb (.inr (.inr (.inl rfl))) hx λH3 b3 p3 w3 h3 e3=>?_
 refine c41t w h3 (i:=3) e3 hb (.inr (.inr (.inr rfl))) hx λH4 b4 p4 w4 h4 e4=>?_
 exact k _ _ h4
noncomputable def gC(C m:Nat):Nat:=(aY C m).getD 0
theorem mS{p:Nat→Prop}{a b:Nat}(h:p a)(k:∀m,a+1≤m∧m≤b→p m):∀m,a≤m∧m≤b→p m:=λm q=>(Nat.eq_or_lt_of_le q.1).elim (λe=>e▸h) λl=>k m ⟨l,q.2⟩
theorem m7{p:Nat→Prop}(h0:p 96)(h1:p 97)(h2:p 98)(h3:p 99)(h4:p 100)(h5:p 101)(h6:p 102):∀m,96≤m∧m≤102→p m:=mS h0 (mS h1 (mS h2 (mS h3 (mS h4 (mS h5 (mS h6 λm q=>absurd (b6 q.1 q.2) (by decide)))))))
theorem m8{p:Nat→Prop}(h12:p 12)(h13:p 13)(h14:p 14)(h15:p 15)(h16:p 16)(h17:p 17)(h18:p 18)(h19:p 19):∀m,12≤m∧m≤19→p m:=mS h12 (mS h13 (mS h14 (mS h15 (mS h16 (mS h17 (mS h18 (mS h19 λm q=>absurd (b6 q.1 q.2) (by decide))))))))
theorem zK:∀m,12≤m∧m≤19→aY 14 m=some (gC 14 m):=m8 rfl rfl rfl rfl rfl rfl rfl rfl
theorem vU{e:List Int}{cur ah vf:Int}{key:List Int}(h:IT H n l oc os e cur ah key vf):∃fs,get H n = .dict fs∧∀m,12≤m∧m≤19→lk fs m = .U:=⟨_,h.d,m8 rfl rfl rfl rfl rfl rfl rfl rfl⟩
noncomputable def P0(H0:Hp)(n l oc:Nat)(os:List (Nat×AV))(b:Bool)(H:Hp):Prop:=b=false∧Kq [] H0 H∧H0.length≤n∧Off H n l oc os []
theorem IB:Wk 14 n (gC 14) false bb a v t (P0 H0 n l oc os) where
 tab:=zK
 dict:=λ⟨_,_,_,_,h⟩=>vU h
 valid:=λ⟨e,_,_,_,h⟩ k=>c68 h (by rw[e] at k;exact k)
 key:=λ⟨e,_⟩=>nomatch e
 value:=λ⟨e,_⟩=>nomatch e
 out:=λ⟨_,_,_,_,h⟩ k=>⟨c69x h k,c70x h k,c77x h k,c78x h k⟩
 step:=λ⟨e,_⟩=>nomatch e
 ends:=λ⟨_,k0,hn,_,h⟩ k=>⟨c73e h λH' k1 o=>k _ ⟨rfl,k0.own hn k1,hn,o⟩,c74e h λH' k1 o=>k _ ⟨rfl,k0.own hn k1,hn,o⟩⟩
 seek:=λ⟨_,k0,hn,h⟩ k=>lz h λH' k1 o=>k _ ⟨rfl,k0.own hn k1,hn,o⟩
noncomputable def P1(H0:Hp)(n l oc:Nat)(os:List (Nat×AV))(a v:List Int)(b:Bool)(H:Hp):Prop:=Kq [] H0 H∧H0.length≤n∧match b with
 |true=>On H n l oc os a v
 |false=>Off H n l oc os (C0 a v)
theorem P1.it{b:Bool}(h:P1 H0 n l oc os a v b H):∃cur ah key vf,IT H n l oc os (C0 a v) cur ah key vf:=by
 cases b with
 |true=>exact⟨_,_,_,_,h.2.2⟩
 |false=>obtain⟨vf,h⟩:=h.2.2;exact⟨_,_,_,_,h⟩
theorem IA(ha:a.length<128)(hv:v.length<128)(ho:Ord oc os)(hc:dR oc os a t m)(hb:bb=decide (0≤m)):Wk 14 n (gC 14) true bb a v t (P1 H0 n l oc os a v) where
 tab:=zK
 dict:=λp=>let ⟨_,_,_,_,h⟩:=p.it;vU h
 valid:=λ{r b H K X} p k=>by
  cases b with
  |true=>exact c68 p.2.2 (by rw[decide_eq_true (by rw[entry_len ha hv];exact j1.mpr (i8 (by decide) (b7 (b7 (d8 _) (j9 _)) (j9 _))))];exact k)
  |false=>obtain⟨vf,h⟩:=p.2.2;exact c68 h (by rw[decide_eq_false (A6 _)];exact k)
 key:=λp k=>c69 p.2.2 (by rw[entry_len ha hv];exact j1.mpr (i8 (by decide) (b7 (b7 (d8 _) (j9 _)) (j9 _)))) k
 value:=λp k=>c70 ha hv p.2.2 k
 out:=λ⟨_,_,_,h⟩ k=>⟨c69x h k,c70x h k,c77x h k,c78x h k⟩
 step:=λ⟨k0,hn,h⟩ k=>⟨c77 ha hv h λH' k1 o=>k _ ⟨k0.own hn k1,hn,o⟩,c78 ha hv h λH' k1 o=>k _ ⟨k0.own hn k1,hn,o⟩⟩
 ends:=λp k=>let ⟨_,_,_,_,h⟩:=p.it;⟨c73 ha hv h λH' k1 o=>k _ ⟨p.1.own p.2.1 k1,p.2.1,o⟩,c74 ha hv h λH' k1 o=>k _ ⟨p.1.own p.2.1 k1,p.2.1,o⟩⟩
 seek:=λ{r b H K X} p k=>by
  refine iL ha hv ho hc (by cases b;exact .inr p.2.2;exact .inl p.2.2) λH' k1 o=>k _ ⟨p.1.own p.2.1 k1,p.2.1,?_⟩
  rw[hb,aH]
  by_cases q:0≤m
  ·rw[if_pos q] at o;rw[decide_eq_true q];exact o
  ·rw[if_neg q] at o;rw[decide_eq_false q];exact o
end
section
variable{n b l oc r:Nat}{os:List (Nat×AV)}{a v key last buf d:List Int}{H H0:Hp}{K:KE}{X:XE}{m iv ne:Int}{fin:Bool}
theorem b0(hi:1≤iv)(ha:a.length<128)(h:BB H n b l oc os iv [] 0 false [])(k:∀H',Kq [n,b,l] H H'→BB H' n b l oc os iv (C0 a []) 1 false a→K (.int 0) H'):c (r+3) 36 [.obj 12 n,.int 0,.bytes a] H K X:=by
 have hn:=h.d
 refine L.call rfl ?_
 walk_at "m"
 exact c59 hi ha (by decide) h λH' k1 h1=>k _ k1 h1
theorem Le(ho:Ord oc os)(h:BB H n b l oc os iv buf 1 false last)(hc:dR oc os a last m)(hm:m≤0)(k:K (.int 1) H):c (r+6) 36 [.obj 12 n,.int 0,.bytes a] H K X:=by
 have hn:=h.d
 refine L.call rfl ?_
 walk_at "m"
 refine c59x ho h hc hm ?_
 walk_at "m"
 exact k
theorem Lf(h:BB H n b l oc os iv buf ne true last)(k:K (.int 1) H):c (r+2) 36 [.obj 12 n,.int 0,.bytes a] H K X:=by
 have hn:=h.d
 refine L.call rfl ?_
 walk_at "m"
 refine c59f h ?_
 walk_at "m"
 exact k
theorem Ld(h:BB H n b l oc os iv buf ne true last)(k:K (.int 1) H):c (r+2) 36 [.obj 12 n,.int 1,.bytes a] H K X:=by
 have hn:=h.d
 refine L.call rfl ?_
 walk_at "m"
 refine c60f h ?_
 walk_at "m"
 exact k
end
section
variable{n b l oc r no lm:Nat}{os fs:List (Nat×AV)}{e last t d out ib:List Int}{H H0 H1:Hp}{K R:KE}{X:XE}{N:KN}{iv x i bf be a ck bs fb lg fr l':Int}{ne pr:Bool}{w6 w7 w8 w9 w10 w11 w5 ft:AV}{Y:XS}{cs:List (List (List Int))}
noncomputable def rb(ne:Bool)(e:List Int):List Int:=match ne with
 |true=>C0 e []
 |false=>[]
noncomputable def nE(ne:Bool):Int:=match ne with
 |true=>1
 |false=>0
theorem tZ(he:e.length≤100):(rb ne e).length≤103:=by
 cases ne with
 |true=>show (C0 e []).length≤103;rw[entry_len (g9 he (by decide)) (by decide),X4];exact b7 (b7 (d8 _) he) (d8 _)
 |false=>exact j9 _
theorem BB.at0{S:List Nat}{buf:List Int}{k:Int}{fin:Bool}(h:Own S H0 H (bV n b l oc os iv buf k fin last)):BB H n b l oc os iv buf k fin last:=BB.at (as:=[]) (bs:=[]) h
theorem c44b(he:e.length≤100)(h:Own [] H0 H (bV n b l oc os iv (rb ne e) (nE ne) false last))
  (k:∀H' last,Own [] H0 H' (bV n b l oc os iv (rb ne e) (nE ne) true last)→wpS (Iv c cc (r+24)) (S2 (body (nth f44.body 4)) 6) [.int x,.inst oc os,.bytes e,.obj 12 n,.int i,.fl (Rw ne e []),.bytes (F6 (rb ne e)),w7,w8,w9,w10,w11] H' N R T8) :
  wpS (Iv c cc (r+24)) (S2 (body (nth f44.body 4)) 3) [.int x,.inst oc os,.bytes e,.obj 12 n,.int i,.fl (Rw ne e []),w6,w7,w8,w9,w10,w11] H N R T8:=by
 have go:∀H1,Kq [] H H1→wpS (Iv c cc (r+24)) (S2 (body (nth f44.body 4)) 4) [.int x,.inst oc os,.bytes e,.obj 12 n,.int i,.fl (Rw ne e []),.bytes (F6 (rb ne e)),w7,w8,w9,w10,w11] H1 N R T8:=λH1 k1=>by
  have h1:=h.call k1 (Own.of_live rfl)
  have lr:=tZ (ne:=ne) he
  walk_at "m"
  refine c57 (BB.at0 h1) ?_
  have q1:(decide (nE ne=0)==decide (((Rw ne e []).length:Int)=0))=true:=by cases ne<;>rfl
  walk_at "m"
  refine c58 (BB.at0 h1) ?_
  refine C6 (λq=>q ?_) ?_
  ·rw[G5];exact B6 _ _ _
  refine rdD.mk h1.g0 (c60 (b6 lr (by decide)) (BB.at0 h1) λH2 k2 b2=>?_)
  have h2:=Own.seq h1 (b2.re k2)
  refine C6 (λq=>q rfl) ?_
  refine Ld b2 (C6 (λq=>q rfl) ?_)
  walk_at "m"
  refine Lf b2 (C6 (λq=>q rfl) ?_)
  exact k _ _ h2
 cases ne with
 |true=>exact c28 (b6 he (by decide)) (by decide) λH1 k1=>go H1 k1
 |false=>exact c28n λH1 k1=>go H1 k1
theorem c44w(ho:Ord oc os)(he:e.length<128)(hc:ne=true→∃m,dR oc os e t m∧decide (bf=0)=decide (0≤m))(hx:0≤x)(k0:Kq [] H H1)(hn:H.length≤n)(h:Off H1 n l oc os (rb ne e))(k:∀H',Kq [] H H'→K (.bool true) H'):c (r+23) 41 [.obj 14 n,.fl (Rw ne e []),.int x,.bytes t,.int bf] H1 K X:=by
 cases ne with
 |true=>
  refine eX12 (hc rfl) λm hm hb=>?_
  exact c41 (IA (t:=t) (H0:=H) he (by decide) ho hm hb) ⟨k0,hn,h⟩ rfl hx λH' b' p=>k _ p.1
 |false=>exact c41 (IB (a:=e) (v:=[]) (t:=t) (bb:=decide (bf=0)) (H0:=H)) ⟨rfl,k0,hn,h⟩ rfl hx λH' b' p=>k _ p.2.1
theorem c44c(ho:Ord oc os)(he:e.length≤100)(hcE:dR oc os e e 0)(hcT:dR oc os e ([99]++e) (-1))(hx:0≤x)(h:Own [] H0 H (bV n b l oc os iv (rb ne e) (nE ne) true last))
  (k:∀H' b' l' w7 w8 w9,Own [] H0 H' (bV n b' l' oc os iv [] 0 false [])→N [.int x,.inst oc os,.bytes e,.obj 12 n,.int i,.fl (Rw ne e []),.bytes (F6 (rb ne e)),w7,w8,w9,w10,w11] H') :
  wpS (Iv c cc (r+25)) (S2 (body (nth f44.body 4)) 6) [.int x,.inst oc os,.bytes e,.obj 12 n,.int i,.fl (Rw ne e []),.bytes (F6 (rb ne e)),w7,w8,w9,w10,w11] H N R T8:=by
 have lr:=tZ (ne:=ne) he
 refine mE (b6 lr (by decide)) λl2 H1 k1 g1 _=>?_
 have h1:=h.call k1 (Own.of_live rfl)
 have fin:∀{H2:Hp} {w7 w8 w9:AV},Kq [] H1 H2→wpS (Iv c cc (r+25)) (S2 (body (nth f44.body 4)) 11) [.int x,.inst oc os,.bytes e,.obj 12 n,.int i,.fl (Rw ne e []),.bytes (F6 (rb ne e)),w7,w8,w9,w10,w11] H2 N R T8:=λ{H2 w7 w8 w9} k2=>by
  have h2:=h1.call k2 (Own.of_live rfl)
  refine rdD.mk h2.g0 (c56 (BB.at0 h2) λb' l' H3 k3 b3 e1 e2=>?_)
  exact k _ _ _ _ _ _ (Own.seq h2 (b3.to (k3.mono λm q=>by rw[i6.mp q];exact .head _) (.inl (.head _)) (.inr e1) (.inr e2)))
 have walk:∀{t:List Int} {bf:Int},(ne=true→∃m,dR oc os e t m∧decide (bf=0)=decide (0≤m))→wpS (Iv c cc (r+25)) (S2 (body (nth f44.body 4)) 10) [.int x,.inst oc os,.bytes e,.obj 12 n,.int i,.fl (Rw ne e []),.bytes (F6 (rb ne e)),BK oc os (rb ne e) l2,.bytes t,.int bf,w10,w11] H1 N R T8:=λ{t bf} hc=>by
  by_cases q:i<2
  ·refine dQ q ?_
   refine c62 g1 (C6 (λq=>q rfl) ?_)
   refine c63 g1 λn3 H3 k3 o3 e3=>?_
   have x11:0≤x/11:=r8 hx (by decide)
   walk_at "m"
   refine c44w ho (g9 he (by decide)) hc x11 k3 e3 o3 λH4 k4=>I9 rfl ?_
   exact fin k4
  ·refine C6 q (C6 q ?_)
   exact fin Kq.refl
 walk_at "m"
 refine R7 (λq=>?_) (λq=>?_)
 ·refine nP.mk (by rw[B4];show 1+e.length≤_;exact b6 (b7 (d8 _) he) (by decide)) ?_
  exact walk (t:=[99]++e) (bf:=((Rw ne e []).length:Int)) λhn=>⟨-1,hcT,by rw[hn];rfl⟩
 ·exact walk (t:=e) (bf:=0) λ_=>⟨0,hcE,rfl⟩
structure BO(oc:Nat)(os:List (Nat×AV))(e:List Int):Prop where
 ho:Ord oc os
 he:e.length≤100
 hE:dR oc os e e 0
 hT:dR oc os e ([99]++e) (-1)
theorem c44n(o:BO oc os e)(hx:0≤x)(hi:i≠1)(h:Own [] H0 H (bV n b l oc os iv [] 0 false []))
  (k:∀H' b' l' w5 w6 w7 w8 w9 w10 w11,Own [] H0 H' (bV n b' l' oc os iv [] 0 false [])→N [.int x,.inst oc os,.bytes e,.obj 12 n,.int i,w5,w6,w7,w8,w9,w10,w11] H') :
  wpS (Iv c cc (r+25)) (body (nth f44.body 4)) [.int x,.inst oc os,.bytes e,.obj 12 n,.int i,w5,w6,w7,w8,w9,w10,w11] H N R T8:=by
 refine C6 hi ?_
 exact c44b (r:=r+1) (ne:=false) o.he h λH1 last h1=>c44c o.ho o.he o.hE o.hT hx h1 λH2 b' l' w7 w8 w9 h2=>k _ _ _ _ _ _ _ _ _ _ h2
theorem c44y(o:BO oc os e)(hx:0≤x)(i1:1≤iv)(h:Own [] H0 H (bV n b l oc os iv [] 0 false []))
  (k:∀H' b' l' w5 w6 w7 w8 w9 w10 w11,Own [] H0 H' (bV n b' l' oc os iv [] 0 false [])→N [.int x,.inst oc os,.bytes e,.obj 12 n,.int 1,w5,w6,w7,w8,w9,w10,w11] H') :
  wpS (Iv c cc (r+25)) (body (nth f44.body 4)) [.int x,.inst oc os,.bytes e,.obj 12 n,.int 1,w5,w6,w7,w8,w9,w10,w11] H N R T8:=by
 refine dQ rfl ?_
 refine nP.mk rfl ?_
 refine b0 i1 (g9 o.he (by decide)) (BB.at0 h) λH1 k1 b1=>C6 (λq=>q rfl) ?_
 refine Le o.ho b1 o.hE (g6 0) (C6 (λq=>q rfl) ?_)
 exact c44b (r:=r+1) (ne:=true) o.he (Own.seq h (b1.re k1)) λH1 last h1=>c44c o.ho o.he o.hE o.hT hx h1 λH2 b' l' w7 w8 w9 h2=>k _ _ _ _ _ _ _ _ _ _ h2
theorem c44g(o:BO oc os e)(hx:0≤x)(k:∀H',Kq [] H H'→K (.bool true) H'):
  wpS (Iv c cc (r+25)) (S2 f44.body 3) [.int x,.inst oc os,.bytes e,.U,.U,.U,.U,.U,.U,.U,.U,.U] H N K Y:=by
 have x3:0≤x/3%40:=j5 _ (by decide)
 walk_at "m"
 refine jl (j4 (g6 _) (j5 _ (by decide))) λn b l H1 h1=>?_
 walk_at "1"
 refine c44n (w5:=.U) o hx (i:=0) (by decide) h1 λH2 b2 l2 a5 a6 a7 a8 a9 a10 a11 h2=>?_
 refine c44y (w5:=a5) o hx (j4 (g6 _) (j5 _ (by decide))) h2 λH3 b3 l3 a5 a6 a7 a8 a9 a10 a11 h3=>?_
 refine c44n (w5:=a5) o hx (i:=2) (by decide) h3 λH4 b4 l4 a5 a6 a7 a8 a9 a10 a11 h4=>?_
 exact k _ h4.keep
theorem c44(hx:0≤x)(k:∀H',Kq [] H H'→K (.bool true) H'):c (r+26) 44 [.int x] H K X:=by
 refine L.call rfl ?_
 refine ra λH1 k1=>?_
 walk_at "m"
 refine R7 (λq=>?_) (λq=>?_)
 ·refine uB λH2 k2=>?_
  have t0:0≤x/2%300:=j5 _ (by decide)
  have t1:x/2%300<300:=j7 _ (by decide)
  walk_at "m"
  refine c25 (w:=8) (by decide) ?_
  have hg:0≤256*(x/2%300)+1∧256*(x/2%300)+1<18446744073709551616:=by exact⟨(e6 (by decide) (j4 (t8 (e6 (by decide) (g6 _)) (e6 (by decide) (j5 _ (by decide)))) (g6 _))),(e8 (j4 (A7 (g6 _) (i5 t1) (e6 (by decide) (j5 _ (by decide))) (by decide)) (g6 _)) (by decide))⟩
  have cE:dR 10 [(36,.inst 9 [])] (ik [] (256*(x/2%300)+1)) (ik [] (256*(x/2%300)+1)) 0:=by
   have:=dR.I (u:=[]) (v:=[]) hg hg
   rw[show gb [] (256*(x/2%300)+1) [] (256*(x/2%300)+1)=0 by unfold gb;rw[gS,if_neg (λn=>n rfl),if_neg (A6 _),if_neg (A6 _)]] at this
   exact this
  have cT:dR 10 [(36,.inst 9 [])] (ik [] (256*(x/2%300)+1)) (ik [99] (256*(x/2%300)+1)) (-1):=dR.I (u:=[]) (v:=[99]) hg hg
  exact c44g ⟨.inr ⟨rfl,rfl⟩,by rw[D0];decide,cE,cT⟩ hx λH' k'=>k _ ((k1.trans0 k2).trans0 k')
 ·exact c44g ⟨.inl ⟨rfl,rfl⟩,by decide,dR.B (a:=[]) (b:=[]),dR.B (a:=[]) (b:=[99])⟩ hx λH' k'=>k _ (k1.trans0 k')
theorem aq{f:Nat}{v:AV}{F:AV→Prop}(h:P3 v=false)(k:F v):∀{fs:List (Nat×AV)},lk fs f=v→Ab fs f F
 |[],q=>by cases q;cases h
 |p::fs,q=>by
  unfold lk at q
  unfold Ab
  cases z:Nat.beq p.1 f with
  |true=>
   rw[z] at q
   rw[show p.2=v from q]
   revert h k
   cases v<;>intro h k<;>first | exact k | cases h
  |false=>rw[z] at q;exact aq h k q
structure TF(fs:List (Nat×AV))(d:List Int)(no:Nat)(ft:AV)(be:Int):Prop where
 a:lk fs 62 = .bytes d
 b:lk fs 88 = .obj 11 no
 c:lk fs 56=fp
 f:lk fs 94=ft
 e:lk fs 95 = .int be
 u:∀m,96≤m∧m≤102→lk fs m = .U
theorem c102{e:List Int}(t:TF fs d no ft be)(hn:get H n = .dict fs)(ho:get H no = .dict (G7 ck bs iv fb lg pr))(hk:ck=1∨ck=2)(oe:B7 e)(le:e.length≤900)(h:Has d a (B8 ck e))(hb:a+(e.length:Int)+5≤be)(k:∀H',Kq [] H H'→K (.bytes e) H'):c (r+5) 102 [.obj 21 n,HD a e.length] H K X:=by
 refine L.call rfl ?_
 refine .mk hn (aq rfl ?_ t.e)
 refine C6 (r6.mpr hb) ?_
 refine .mk hn (aq rfl ?_ t.a)
 refine .mk hn (aq rfl ?_ t.b)
 refine .mk ho ?_
 exact c22 hk oe le h k
theorem c104{a s:Int}(a0:0≤a)(a1:a<16384)(s0:0≤s)(s1:s<16384)(k:∀H',Kq [] H H'→K (HD a s) H'):c (r+4) 104 [.obj 21 n,.bytes (X2 a s)] H K X:=by
 refine L.call rfl ?_
 refine c20 (p:=0) (Has.self (l:=X2 a s)) a0 a1 s0 s1 λH1 k1=>nP.mk rfl ?_
 refine C6 (λq=>q (N7 _)) ?_
 exact k _ k1
theorem TF.go{m f:Nat}{F:Nat→Prop}(t:TF fs d no ft be)(hn:get H n = .dict fs)(h:96≤m∧m≤102)(e:aY 21 m=some f)(k:F f):rdD H n λfs=>yj (Iv Mine.c cc r) 21 fs m F:=.mk hn (Y0 (t.u m h) e k)
theorem c105(t:TF fs d no ft be)(hn:get H n = .dict fs)(ho:get H no = .dict (G7 ck bs iv fb lg pr))(hk:ck=1∨ck=2)(oe:B7 (F6 e))(le:e.length≤100)(a1:a<10000)(h:Has d a (B8 ck (F6 e)))(hb:a+((F6 e).length:Int)+5≤be)(k:∀nI l H',Kq [] H H'→Off H' nI l 10 [(36,.inst 9 [])] e→H.length≤nI→K (.obj 14 nI) H'):c (r+6) 105 [.obj 21 n,.bytes (X2 a (F6 e).length)] H K X:=by
 have lb:=G5 (e:=e)
 refine L.call rfl ?_
 refine t.go hn (m:=96) (by decide) rfl ?_
 refine t.go hn (m:=99) (by decide) rfl ?_
 refine c104 h.nn (e7 a1 (by decide)) (g8 _) (j1.mpr (g9 (b6 (j6 lb) (b7 le (d8 _))) (by decide))) λH1 k1=>?_
 have n1:=k1.dict0 hn
 refine c102 t n1 (k1.dict0 ho) hk oe (b6 (b6 (j6 lb) (b7 le (d8 _))) (by decide)) h hb λH2 k2=>?_
 have n2:=k2.dict0 n1
 refine .mk n2 (aq rfl ?_ t.c)
 refine mE (b6 le (by decide)) λl H3 k3 g3 _=>?_
 walk_at "m"
 refine c63 g3 λnI H4 k4 o4 e4=>?_
 exact k _ _ _ (((k1.trans0 k2).trans0 k3).trans0 k4) o4 (b6 ((k1.trans0 k2).trans0 k3).len e4)
theorem Has.ap{d l m:List Int}{a:Int}(h:Has d a l):Has (d++m) a l:=by
 refine eX22 h.e λA B zq1 zq2=>?_;subst zq1;subst zq2
 exact⟨A,B++m,by simp only[t6],rfl⟩
theorem Has.end'{d l:List Int}:Has (d++l) d.length l:=⟨d,[],by rw[y7],rfl⟩
theorem nU:(fF ck fb lg out cs ib).length=(t2 ck fb lg out cs).length+(F6 ib).length+53:=by
 unfold fF ru
 rw[d6,d6,d6,jo,D0,K2];exact O2 _ _ _
theorem AA:Has (fF ck fb lg out cs ib) (t2 ck fb lg out cs).length (B8 ck (F6 ib)):=Has.end'.ap
theorem Az:Has (fF ck fb lg out cs ib) (t1 ck fb lg out cs).length (B8 ck (F6 (N1 fb lg out cs))):=(Has.end' (d:=t1 ck fb lg out cs)).ap.ap
theorem AD{l:List Int}{a:Int}(h:Has out a l):Has (t1 ck fb lg out cs) a l:=by
 unfold t1
 split
 ·exact h.ap
 ·exact h
theorem Ay{l:List Int}{a:Int}(h:Has out a l):Has (fF ck fb lg out cs ib) a l:=(AD h).ap.ap.ap
theorem AB(h:1≤fb):Has (fF ck fb lg out cs ib) out.length (B8 ck (S7 fb lg cs)):=by
 have:Has (t1 ck fb lg out cs) out.length (B8 ck (S7 fb lg cs)):=by unfold t1;rw[if_pos h];exact Has.end'
 exact this.ap.ap.ap
theorem pA:nB kg kg=0:=gS
theorem c103n(t:TF fs d no ft be)(hn:get H n = .dict fs)(g:get H lm = .list [.int 0])(h:fb≤0)(k:∀H',Kq [] H H'→K .none H'):c (r+8) 103 [.obj 21 n,BK 9 [] (N1 fb lg out cs) lm] H K X:=by
 have e:N1 fb lg out cs=[]:=if_neg (G0.mpr (e8 h (by decide)))
 rw[e]
 refine L.call rfl ?_
 refine c63 g λnI H1 k1 o1 e1=>?_
 refine eX11 (id o1) λ_ i1=>?_
 refine .mk i1.d (lz o1 λH2 k2 o2=>?_)
 refine eX11 o2 λ_ i2=>?_;clear o2
 refine .mk i2.d (c68 i2 ?_)
 rw[decide_eq_false (A6 _)]
 refine O0 rfl (O0 rfl ?_)
 exact k _ (k1.own e1 k2)
theorem c103{bb:Int}(t:TF fs d no ft be)(hn:get H n = .dict fs)(g:get H lm = .list [.int 0])(ho:get H no = .dict (G7 ck bs iv fr l' pr))(hk:ck=1∨ck=2)(h:1≤fb)(f1:fb≤100)(g0:0≤lg)(g1:lg≤31)(hr:1≤fr)(hg:Good cs)(hc:cs.length≤60)(hz:out.length≤100)(hs:(S7 fb lg cs).length≤900)(hso:B7 (S7 fb lg cs))
  (hd:Has d out.length (B8 ck (S7 fb lg cs))) (hb:(out.length:Int)+((S7 fb lg cs).length:Int)+5≤be) (k:∀H',Kq [] H H'→K (FR fr (S7 fb lg cs) lg (C7 fb cs).length cs.length) H'):c (r+8) 103 [.obj 21 n,BK 9 [] (N1 fb lg out cs) lm] H K X:=by
 have e:N1 fb lg out cs=C0 kg (X2 out.length (S7 fb lg cs).length):=if_pos h
 have hv:(X2 out.length (S7 fb lg cs).length).length<128:=cI
 rw[e]
 refine L.call rfl ?_
 refine c63 g λnI H1 k1 o1 e1=>?_
 refine eX11 (id o1) λ_ i1=>?_
 refine .mk i1.d (iL (m:=0) (by decide) hv (.inl ⟨rfl,rfl⟩) (by rw[←pA];exact dR.B) (.inr o1) λH2 k2 o2=>?_)
 have o2:On H2 nI lm 9 [] kg (X2 out.length (S7 fb lg cs).length):=o2
 have k3:=k1.own e1 k2
 refine .mk o2.d (c68 o2 ?_)
 rw[decide_eq_true (by rw[entry_len (by decide) hv];exact j1.mpr (i8 (by decide) (b7 (b7 (d8 _) (j9 _)) (j9 _))))]
 refine I9 rfl ?_
 refine .mk o2.d (c69 o2 (by rw[entry_len (by decide) hv];exact j1.mpr (i8 (by decide) (b7 (b7 (d8 _) (j9 _)) (j9 _)))) ?_)
 refine C6 (λq=>q rfl) ?_
 refine t.go (k3.dict0 hn) (m:=96) (by decide) rfl ?_
 refine t.go (k3.dict0 hn) (m:=99) (by decide) rfl ?_
 refine .mk o2.d (c70 (by decide) hv o2 ?_)
 refine c104 (g8 _) (j1.mpr (g9 hz (by decide))) (g8 _) (j1.mpr (g9 hs (by decide))) λH4 k4=>?_
 have k5:=k3.trans0 k4
 refine c102 t (k5.dict0 hn) (k5.dict0 ho) hk hso hs hd hb λH6 k6=>?_
 have k7:=k5.trans0 k6
 refine .mk (k7.dict0 hn) (aq rfl ?_ t.b)
 refine .mk (k7.dict0 ho) ?_
 refine fI hr λH8 k8=>?_
 walk_at "m"
 exact c89 h f1 g0 g1 hg hc λH9 k9=>k _ ((k7.trans0 k8).trans0 k9)
end
section
variable{r n no lm j li:Nat}{fs ol:List (Nat×AV)}{d out u l ib A:List Int}{ft fv:AV}{be ck bs iv fb lg fr ma ms ia is t l' b s q:Int}{pr:Bool}{H H0:Hp}{K:KE}{X:XE}{cs:List (List (List Int))}
theorem c111(w:TF fs d no (FT (HD ma ms) (HD ia is)) be)(hn:get H n = .dict fs)(g:get H lm = .list [.int 0])(hz:out.length≤100)(hs:(S7 fb lg cs).length≤900)(hm:fb≤0→ma=out.length)(k:∀H',Kq [] H H'→K (.int out.length) H'):c (r+8) 111 [.obj 21 n,BK 9 [] (N1 fb lg out cs) lm] H K X:=by
 refine L.call rfl ?_
 refine c63 g λnI H1 k1 o1 e1=>?_
 by_cases h:1≤fb
 ·have e:N1 fb lg out cs=C0 kg (X2 out.length (S7 fb lg cs).length):=if_pos h
  have hv:(X2 out.length (S7 fb lg cs).length).length<128:=cI
  rw[e] at o1
  obtain⟨_,i1⟩:=id o1
  refine .mk i1.d (iL (m:=0) (by decide) hv (.inl ⟨rfl,rfl⟩) (by rw[←pA];exact dR.B) (.inr o1) λH2 k2 o2=>?_)
  have o2:On H2 nI lm 9 [] kg (X2 out.length (S7 fb lg cs).length):=o2
  have k3:=k1.own e1 k2
  refine .mk o2.d (c68 o2 ?_)
  rw[decide_eq_true (by rw[entry_len (by decide) hv];exact j1.mpr (i8 (by decide) (b7 (b7 (d8 _) (j9 _)) (j9 _))))]
  refine I9 rfl ?_
  refine .mk o2.d (c69 o2 (by rw[entry_len (by decide) hv];exact j1.mpr (i8 (by decide) (b7 (b7 (d8 _) (j9 _)) (j9 _)))) ?_)
  refine C6 (λq=>q rfl) ?_
  refine w.go (k3.dict0 hn) (m:=99) (by decide) rfl ?_
  refine .mk o2.d (c70 (by decide) hv o2 ?_)
  refine c104 (g8 _) (j1.mpr (g9 hz (by decide))) (g8 _) (j1.mpr (g9 hs (by decide))) λH4 k4=>?_
  exact k _ (k3.trans0 k4)
 ·have e:N1 fb lg out cs=[]:=if_neg h
  rw[e] at o1
  obtain⟨_,i1⟩:=id o1
  refine .mk i1.d (lz o1 λH2 k2 o2=>?_)
  have k3:=k1.own e1 k2
  obtain⟨_,i2⟩:=o2
  refine .mk i2.d (c68 i2 ?_)
  rw[decide_eq_false (A6 _)]
  refine O0 rfl (O0 rfl ?_)
  refine .mk (k3.dict0 hn) (aq rfl ?_ w.f)
  rw[←hm (i5 (G0.mp h))] at k
  exact k _ k3
theorem xA:∀b:Nat,b<256→∀k:Nat,k<8→sT b k/2^k%2≠0∧∀j:Nat,j<8→(b:Int)/2^j%2≠0→sT b k/2^j%2≠0:=by decide +kernel
theorem pe{x:Int}{i j:Nat}(h:i<l.length):(l.set i x).getD j 0=if i=j then x else l.getD j 0:=by
 rw[t5,List.getElem?_set,t5]
 by_cases e:i=j
 ·rw[if_pos e,if_pos e,if_pos h];rfl
 ·rw[if_neg e,if_neg e]
theorem kE(h:B7 l)(hs:0≤s∧s<8*(l.length:Int)):Q9 (jT l s) s=true∧(0≤q→Q9 l q=true→Q9 (jT l s) q=true):=by
 have hi:(s/8).toNat<l.length:=by exact(E9 (r8 hs.1 (by decide))).mpr (v7 (by decide) (e7 hs.2 (l7 (B3 _ _))))
 have o:=gM h hi
 refine eX11 (A1 o.1) λx hx=>?_
 have a:=xA x (by lia -abstractProof) (s%8).toNat (g9 ((A2 (n:=7)).mpr (i5 (j7 _ (by decide)))) (by decide))
 unfold Q9 jT
 refine⟨decide_eq_true ?_,λq0 hq=>decide_eq_true ?_⟩
 ·rw[pe hi,if_pos rfl,hx];exact a.1
 ·rw[pe hi]
  have hq:=of_decide_eq_true hq
  split
  ·next e=>
   rw[hx]
   rw[←e,hx] at hq
   exact a.2 _ (g9 ((A2 (n:=7)).mpr (i5 (j7 _ (by decide)))) (by decide)) hq
  ·exact hq
theorem kD:∀{ss:List Int} {l:List Int},B7 l→(∀x∈ss,0≤x∧x<8*(l.length:Int))→(∀x∈ss,Q9 (jS l ss) x=true)∧∀q,0≤q→Q9 l q=true→Q9 (jS l ss) q=true
 |[],_,_,_=>⟨λ_ h=>absurd h t9,λ_ _ h=>h⟩
 |s::ss,l,h,hs=>by
  have h1:=hs s (.head _)
  have ih:=kD (ss:=ss) (l:=jT l s) (gD h h1) (λx m=>by rw[gE];exact hs x (.tail _ m))
  refine⟨λx m=>?_,λq q0 hq=>ih.2 q q0 ((kE h h1).2 q0 hq)⟩
  rcases l5.mp m with rfl | m
  ·exact ih.2 _ h1.1 (kE (q:=0) h h1).1
  ·exact ih.1 x m
theorem sx(b0:1≤b)(b1:b≤100):lets (P6 b [u]) u (bG b).toNat=true:=by
 have hn:=bq (k:=1) b0 b1 (by decide)
 have e1:P6 b [u]=jS (l6 (N0 1 b) 0) (gh u (bG b).toNat (8*(N0 1 b:Int)))++[bG b]:=rfl
 have el:((P6 b [u]).length:Int)-1=N0 1 b:=by rw[W4];show ((N0 1 b+1:Nat):Int)-1=_;exact yO rfl
 have sp:∀x∈gh u (bG b).toNat (8*(N0 1 b:Int)),0≤x∧x<8*(N0 1 b:Int):=λx m=>bR (e7 (by decide) (A7 (g6 _) (e6 (e6 (m5.mpr hn.1) (l7 el.symm)) (l7 el)) (by decide) (e6 (by decide) (g6 _)))) x m
 have all:=(kD (l:=l6 (N0 1 b) 0) eS (λx m=>by rw[n7];exact sp x m)).1
 unfold lets
 rw[el,M0]
 intro x m
 have a:=all x m
 have hx:=sp x m
 unfold Q9 at a ⊢
 rw[e1,t5,cy (by rw[eF,n7];exact(E9 (r8 hx.1 (by decide))).mpr (v7 (by decide) (e7 hx.2 (l7 (B3 _ _))))),←t5]
 exact a
theorem zb:gb u t (E2 u t).1 (E2 u t).2≤0:=by
 unfold E2
 split
 ·next h=>
  have e:nB u (N5 u) = -1:=by unfold nB;rw[jd h];rfl
  show gb u t (N5 u) _≤0
  unfold gb
  rw[e,if_pos (by decide)];decide
 ·exact qp (g6 t)
theorem mc(h:0≤t∧t<18446744073709551616):0≤(E2 u t).2∧(E2 u t).2<18446744073709551616:=by
 unfold E2
 split
 ·exact⟨show (0:Int)≤18446744073709551361 by decide,show (18446744073709551361:Int)<18446744073709551616 by decide⟩
 ·exact h
noncomputable def FV(fb lg fr:Int)(u:List Int)(j:Nat)(fv:AV):Prop:=fv = .none∨(1≤fb∧fv=FR fr (S7 fb lg (gu u j)) lg (C7 fb (gu u j)).length (gu u j).length)
theorem c113{s:Int}(w:TF fs d no ft be)(hv:lk fs 82=fv)(hf:FV fb lg fr u j fv)(f1:fb≤100)(g0:0≤lg)(hj:j≤60)(hn:get H n = .dict fs)(hu:u.length≤5)(ou:B7 u)(ht:0≤t∧t<18446744073709551616)(h2:t%256≤1)(k:K .none H):c (r+6) 113 [.obj 21 n,.bytes (ik u t),.none,.none,.bytes (ik (E2 u t).1 (E2 u t).2),HD 0 s] H K X:=by
 refine L.call rfl ?_
 refine c16 ht.1 ht.2 h2 (nP.mk rfl ?_)
 walk_at "m"
 refine aq rfl ?_ w.c
 refine c51 ht (mc ht) ?_
 refine C6 (r6.mpr zb) ?_
 rcases hf with rfl | ⟨b1,rfl⟩
 ·refine .mk hn (aq rfl ?_ hv)
  walk_at "m"
  exact k
 ·refine .mk hn (aq rfl ?_ hv)
  walk_at "m"
  refine aq rfl ?_ hv
  refine c90 (i:=0) b1 f1 g0 (gq hu ou) (by rw[gk];exact v5 (N6 hj 1) 1) ou hu (cV _) ?_
  rw[show fL fb u (gu u j) 0=true from sx b1 f1]
  refine I9 rfl ?_
  exact k
theorem c112n(w:TF fs d no (FT (HD ma ms) (HD ia is)) be)(hi:lk fs 86=BK 10 [(36,.inst 9 [])] [] li)(gi:get H li = .list [.int 0])(hn:get H n = .dict fs)(g:get H lm = .list [.int 0])(hs:(S7 fb lg []).length≤900)(hm:fb≤0→ma=0)(k:∀H',Kq [] H H'→K .none H'):c (r+9) 112 [.obj 21 n,BK 9 [] (N1 fb lg [] []) lm] H K X:=by
 refine L.call rfl ?_
 walk_at "m"
 refine aq rfl ?_ hi
 walk_at "m"
 refine c63 gi λnI H1 k1 o1 e1=>?_
 refine eX11 (id o1) λ_ i1=>?_
 have d1:=i1.d
 walk_at "m"
 refine c73e i1 λH2 k2 o2=>?_
 refine eX11 (id o2) λ_ i2=>?_
 have d2:=i2.d
 intro P hP
 refine hP _ _ ?_
 walk_at "m"
 refine c68 i2 ?_
 rw[decide_eq_false (A6 _)]
 refine I9 rfl ?_
 have k3:=k1.own e1 k2
 have n3:=k3.dict0 hn
 walk_at "m"
 refine Y0 (w.u 102 (by decide)) rfl ?_
 refine c111 w n3 (k3.list0 g) (j9 _) hs hm λH4 k4=>C6 (λq=>q rfl) ?_
 exact k _ (k3.trans0 k4)
noncomputable def KY(u:List Int)(t:Int):List Int:=C0 (ik (E2 u t).1 (E2 u t).2) (X2 0 (F6 (en u t)).length)
theorem c112(w:TF fs d no (FT (HD ma ms) (HD ia is)) be)(hi:lk fs 86=BK 10 [(36,.inst 9 [])] (KY u t) li)(gi:get H li = .list [.int 0])(hn:get H n = .dict fs)(ho:get H no = .dict (G7 ck bs iv fr l' pr))(hk:ck=1∨ck=2)(g:get H lm = .list [.int 0])
  (hv:lk fs 82=fv) (hf:FV fb lg fr u j fv) (f1:fb≤100) (g0:0≤lg) (hj:j≤60) (hu:u.length≤5) (ou:B7 u) (ht:0≤t∧t<18446744073709551616) (h2:t%256≤1)
  (hs:(S7 fb lg cs).length≤900) (hm:fb≤0→ma=(o0 ck u t).length) (hd:Has d 0 (o0 ck u t)) (hb:((o0 ck u t).length:Int)≤be) (k:∀H',Kq [] H H'→K .none H'):c (r+9) 112 [.obj 21 n,BK 9 [] (N1 fb lg (o0 ck u t) cs) lm] H K X:=by
 have lb:(F6 (en u t)).length=u.length+19:=by rw[G5,aQ (b6 hu (by decide))]
 have lo:=ip (ck:=ck) (t:=t) (show u.length≤40 by exact b6 hu (by decide))
 have la:(ik (E2 u t).1 (E2 u t).2).length<128:=by rw[V7];have:=gc (t:=t) (show u.length≤40 by exact b6 hu (by decide));exact g9 (b7 this (d8 _)) (by decide)
 have lv:(X2 0 (F6 (en u t)).length).length<128:=cI
 refine L.call rfl ?_
 walk_at "m"
 refine aq rfl ?_ hi
 walk_at "m"
 refine c63 gi λnI H1 k1 o1 e1=>?_
 obtain⟨_,i1⟩:=id o1
 have d1:=i1.d
 walk_at "m"
 refine c73 la lv i1 λH2 k2 o2=>?_
 have d2:=o2.d
 have k3:=k1.own e1 k2
 have n3:=k3.dict0 hn
 intro P hP
 refine hP _ _ ?_
 walk_at "m"
 refine c68 o2 ?_
 rw[decide_eq_true (by rw[entry_len la lv];exact j1.mpr (i8 (by decide) (b7 (b7 (d8 _) (j9 _)) (j9 _))))]
 refine O0 rfl ?_
 walk_at "m"
 refine Y0 (w.u 99 (by decide)) rfl ?_
 refine .mk d2 (c70 la lv o2 ?_)
 refine c104 (a:=0) (by decide) (by decide) (g8 _) (j1.mpr (g9 (b6 (j6 lb) (b7 hu (d8 _))) (by decide))) λH3 k4=>?_
 have k5:=k3.trans0 k4
 have n5:=k5.dict0 hn
 have o3:=o2.keep k4 t9 t9
 have d3:=o3.d
 walk_at "m"
 refine Y0 (w.u 100 (by decide)) rfl ?_
 refine .mk d3 (c70 la lv o3 ?_)
 refine c105 (e:=en u t) (a:=0) w n5 (k5.dict0 ho) hk (Z6 (ku (b6 hu (by decide)) ou)) (by rw[aQ (b6 hu (by decide))];exact b6 (b7 hu (d8 _)) (by decide)) (by decide) hd (by rw[lo] at hb;rw[lb,N7];exact hb) λnJ lJ H4 k6 o4 e4=>?_
 obtain⟨_,i4⟩:=id o4
 have d4:=i4.d
 have Ac:(ik u t).length<128:=by rw[V7];exact g9 (b7 hu (d8 _)) (by decide)
 walk_at "m"
 refine c73 Ac (by decide) i4 λH5 k7 o5=>?_
 have d5:=o5.d
 have ll:li<H3.length:=mP o3.l
 have l3:nI<H3.length:=jr o3.d
 have o6:=o3.keep k6 t9 t9
 have o7:=o6.keep k7 (λq=>absurd e4 (F9.mpr (i6.mp q▸l3))) (λq=>absurd e4 (F9.mpr (i6.mp q▸ll)))
 have k8:Kq [] H H5:=k5.trans (k6.own e4 k7) (λ_ q=>nomatch q)
 have n8:=k8.dict0 hn
 have d7:=o7.d
 intro P2 hP2
 refine hP2 _ _ ?_
 walk_at "m"
 refine c68 o5 ?_
 rw[decide_eq_true (by rw[entry_len Ac (by decide)];exact j1.mpr (i8 (by decide) (b7 (b7 (d8 _) (j9 _)) (d8 _))))]
 refine O0 rfl ?_
 walk_at "m"
 refine c69 o5 (by rw[entry_len Ac (by decide)];exact j1.mpr (i8 (by decide) (b7 (b7 (d8 _) (j9 _)) (d8 _)))) ?_
 walk_at "m"
 refine Y0 (w.u 101 (by decide)) rfl ?_
 refine .mk d7 (c69 o7 (by rw[entry_len la lv];exact j1.mpr (i8 (by decide) (b7 (b7 (d8 _) (j9 _)) (j9 _)))) ?_)
 refine c113 w hv hf f1 g0 hj n8 hu ou ht h2 ?_
 walk_at "m"
 refine c77 Ac (by decide) o5 λH6 k9 o9=>?_
 obtain⟨_,i9⟩:=o9
 have d9:=i9.d
 have o10:=o7.keep k9 (λq=>absurd e4 (F9.mpr (i6.mp q▸l3))) (λq=>absurd e4 (F9.mpr (i6.mp q▸ll)))
 have d10:=o10.d
 refine hP2 _ _ ?_
 walk_at "m"
 refine c68 i9 ?_
 rw[decide_eq_false (A6 _)]
 refine I9 rfl ?_
 walk_at "m"
 refine c69 o10 (by rw[entry_len la lv];exact j1.mpr (i8 (by decide) (b7 (b7 (d8 _) (j9 _)) (j9 _)))) ?_
 walk_at "m"
 refine c77 la lv o10 λH7 k11 o11=>?_
 obtain⟨_,i11⟩:=o11
 have d11:=i11.d
 have k10:Kq [] H H6:=k5.trans ((k6.own e4 k7).own e4 k9) (λ_ q=>nomatch q)
 have k12:=k10.own e1 k11
 have n12:=k12.dict0 hn
 refine hP _ _ ?_
 walk_at "m"
 refine c68 i11 ?_
 rw[decide_eq_false (A6 _)]
 refine I9 rfl ?_
 walk_at "m"
 refine Y0 (w.u 102 (by decide)) rfl ?_
 refine c111 w n12 (k12.list0 g) (b6 (b6 (j6 lo) (b7 hu (d8 _))) (by decide)) hs hm λH8 k13=>C6 (λq=>q (by rw[lo,lb,N7];rfl)) ?_
 exact k _ (k12.trans0 k13)
noncomputable def EC(d:List Int)(no:Nat)(ma ms ia is be:Int)(ib:List Int)(li:Nat)(fv:AV):List (Nat×AV):=[(62,.bytes d),(88,.obj 11 no),(56,fp),(94,FT (HD ma ms) (HD ia is)),(95,.int be),(86,BK 10 [(36,.inst 9 [])] ib li),(82,fv)]
theorem rG{ma ms ia is be:Int}{li:Nat}{fv:AV}:TF (EC d no ma ms ia is be ib li fv) d no (FT (HD ma ms) (HD ia is)) be:=
 ⟨rfl,rfl,rfl,rfl,rfl,m7 rfl rfl rfl rfl rfl rfl rfl⟩
theorem EB{ma ms ia is be:Int}:TF [(62,.bytes d),(88,.obj 11 no),(56,fp),(94,FT (HD ma ms) (HD ia is)),(95,.int be)] d no (FT (HD ma ms) (HD ia is)) be:=
 ⟨rfl,rfl,rfl,rfl,rfl,m7 rfl rfl rfl rfl rfl rfl rfl⟩
theorem Own.mk1{cl:Cell}(k:Kq [] H0 H)(g:get H n=cl)(e:H0.length≤n):Own [] H0 H [(n,cl)]:=
 ⟨k,λp m=>by rw[i6.mp m];exact g,Cp,λp m=>by rw[i6.mp m];exact .inr e⟩
structure TT(H:Hp)(n no:Nat)(ol:List (Nat×AV))(d:List Int)(ma ms ia is be:Int)(ib:List Int)(li:Nat)(fv:AV):Prop where
 d:get H n = .dict (EC d no ma ms ia is be ib li fv)
 o:get H no = .dict ol
 i:get H li = .list [.int 0]
noncomputable def Cs(fb lg fr:Int)(cs:List (List (List Int))):AV:=if 1≤fr∧1≤fb then FR fr (S7 fb lg cs) lg (C7 fb cs).length cs.length else .none
theorem c101(hck:ck=1∨ck=2)(g0:0≤lg)(g1:lg≤31)(f1:fb≤100)(hg:Good cs)(hc:cs.length≤60)(hz:out.length≤100)(hs:(S7 fb lg cs).length≤900)(hso:1≤fb→B7 (S7 fb lg cs))(hib:B7 (F6 ib))(hil:ib.length≤100)
  (ho:get H no = .dict (G7 ck bs iv fr l' pr)) (ht:d=fF ck fb lg out cs ib)
  (h4:Small4 (t1 ck fb lg out cs).length (F6 (N1 fb lg out cs)).length (t2 ck fb lg out cs).length (F6 ib).length)
  (vf:∀{H:Hp} {n li lm:Nat} {K:KE} {X:XE},TT H n no (G7 ck bs iv fr l' pr) d (t1 ck fb lg out cs).length (F6 (N1 fb lg out cs)).length (t2 ck fb lg out cs).length (F6 ib).length ((t2 ck fb lg out cs).length+(F6 ib).length+5) ib li (Cs fb lg fr cs)→get H lm = .list [.int 0]→(∀H',Kq [] H H'→K .none H')→c (r+9) 112 [.obj 21 n,BK 9 [] (N1 fb lg out cs) lm] H K X)
  (k:∀n li H',Kq [] H H'→TT H' n no (G7 ck bs iv fr l' pr) d (t1 ck fb lg out cs).length (F6 (N1 fb lg out cs)).length (t2 ck fb lg out cs).length (F6 ib).length ((t2 ck fb lg out cs).length+(F6 ib).length+5) ib li (Cs fb lg fr cs)→K (.obj 21 n) H'):cc (r+11) 21 [.bytes d,.obj 11 no,fp] H K X:=by
 have mr:=jm (lg:=lg) hz hs
 have ml:=G5 (e:=N1 fb lg out cs)
 have bl:=G5 (e:=ib)
 have td:d.length=(t2 ck fb lg out cs).length+(F6 ib).length+53:=by rw[ht];exact nU
 have eb:(d.length:Int)-48=(t2 ck fb lg out cs).length+(F6 ib).length+5:=by rw[td];exact S6 ((t2 ck fb lg out cs).length+(F6 ib).length:Nat) 53 48
 have h:Own [no] H H [(no,.dict (G7 ck bs iv fr l' pr))]:=Own.one ho
 refine L.cls rfl ?_
 refine Own.new h (Own.of_live rfl) (λn Ha ha=>?_)
 refine L.call rfl ?_
 walk_at "m"
 rename_i h1
 refine c23 h4 (show d=_ from ht) λH1 k1=>?_
 have h2:=h1.call k1 (Own.of_live rfl)
 walk_at "m"
 rename_i h3
 rw[eb] at h3
 refine c102 EB h3.g0 h3.g1 hck hib (b6 (b6 (j6 bl) (b7 hil (d8 _))) (by decide)) (ht▸AA) (g6 _) λH3 k3=>?_
 have h4':=h3.call k3 (Own.of_live rfl)
 refine mE (b6 hil (by decide)) λli H4 k4 gi ei=>?_
 have h5:Own [no] H H4 [_,_,_]:=h4'.add rfl (Own.mk1 k4 gi ei)
 walk_at "m"
 rename_i h6
 refine c102 rG h6.g0 h6.g1 hck mr.1 (b6 (b6 (j6 ml) (b7 mr.2 (d8 _))) (by decide)) (ht▸Az) (by have:=nU (ck:=ck) (fb:=fb) (lg:=lg) (out:=out) (cs:=cs) (ib:=ib);unfold t2;rw[d6,K2];lia -abstractProof) λH5 k5=>?_
 refine ra λH6 k6=>?_
 refine mE (b6 mr.2 (by decide)) λlm H7 k7 gm em=>?_
 have h8:Own [no] H H7 [_,_,_,_]:=(h6.call (k5.trans0 k6) (Own.of_live rfl)).add rfl (Own.mk1 k7 gm em)
 have fin:∀{H2:Hp} {fv:AV} {Y:XS},fv=Cs fb lg fr cs→Own [no] H H2 [(n,.dict (EC d no (t1 ck fb lg out cs).length (F6 (N1 fb lg out cs)).length (t2 ck fb lg out cs).length (F6 ib).length ((t2 ck fb lg out cs).length+(F6 ib).length+5) ib li fv)),(no,.dict (G7 ck bs iv fr l' pr)),(li,.list [.int 0]),(lm,.list [.int 0])] →
   wpS (Iv c cc (r+9)) (S2 f101.body 9) [.obj 21 n,.bytes d,.obj 11 no,fp,BK 9 [] (N1 fb lg out cs) lm] H2 (λ_ H=>AV.none = .none∧fZ 21 n K H) (λv H=>v = .none∧fZ 21 n K H) Y:=λ{H2 fv Y} e h=>by
  subst e
  have t2:∀{H3},Kq [] H2 H3→K (.obj 21 n) H3:=λ{H3} k3=>by
   have h3:=h.call k3 (Own.of_live rfl)
   exact k _ _ _ (h3.unS (.tail _ (.head _)) ho) ⟨h3.g0,h3.g1,h3.g2⟩
  have o2:=h.g1
  refine .mk o2 (qu (λq=>?_) λq=>?_)
  ·refine .mk h.g0 (Y0 rfl rfl ?_)
   exact vf ⟨h.g0,h.g1,h.g2⟩ h.g3 λH3 k3=>⟨rfl,.inl (t2 k3)⟩
  ·exact⟨rfl,.inl (t2 Kq.refl)⟩
 refine .mk h8.g1 (R7 (λq=>?_) λq=>?_)
 ·refine .mk h8.g0 (Y0 rfl rfl ?_)
  by_cases b1:1≤fb
  ·refine c103 (bb:=0) rG h8.g0 h8.g3 h8.g1 hck b1 f1 g0 g1 (u0 q) hg hc hz hs (hso b1) (ht▸AB b1) (by unfold t2 t1;rw[if_pos b1,d6,d6,K2];lia -abstractProof) λH9 k9=>?_
   have h9:=h8.call k9 (Own.of_live rfl)
   refine .mk h9.g0 (nP.mk (mK rfl) (Own.w0 h9 dN λHb hb=>fin (if_pos ⟨by exact u0 q,b1⟩).symm hb))
  ·refine c103n rG h8.g0 h8.g3 (i5 (G0.mp b1)) λH9 k9=>?_
   have h9:=h8.call k9 (Own.of_live rfl)
   refine .mk h9.g0 (nP.mk (mK rfl) (Own.w0 h9 dN λHb hb=>fin (if_neg λq=>b1 q.2).symm hb))
 ·exact fin (if_neg λq'=>q (e7 (by decide) q'.1)).symm h8
end
section
variable{r n no nt nO nI li lI m l oc:Nat}{os fs ol:List (Nat×AV)}{e pl pl' a v k1 v1 key k0 t d ib:List Int}{cur ah vf z y ma ms ia is be:Int}{H H' H0:Hp}{K:KE}{X:XE}{iv iv' hv fv:AV}{b bb:Bool}
theorem IT.kp(h:IT H n l oc os e cur ah key vf)(k:Kq [m] H H')(g:get H m = .dict fs)(q:n≠m):IT H' n l oc os e cur ah key vf:=
 h.keep k (λx=>q (i6.mp x)) (λx=>by rw[←i6.mp x,h.l] at g;cases g)
theorem Off.kp(h:Off H n l oc os e)(k:Kq [m] H H')(g:get H m = .dict fs)(q:n≠m):Off H' n l oc os e:=by
 obtain⟨vf,h⟩:=h
 exact⟨vf,h.kp k g q⟩
theorem zA.kp(h:zA H n l oc os a v)(k:Kq [m] H H')(g:get H m = .dict fs)(q:n≠m):zA H' n l oc os a v:=h.imp (·.kp k g q) (·.kp k g q)
theorem zA.it(h:zA H n l oc os a v):∃cur ah key vf,IT H n l oc os (C0 a v) cur ah key vf:=h.elim (λh=>⟨_,_,_,_,h⟩) λ⟨_,h⟩=>⟨_,_,_,_,h⟩
noncomputable def EF(nO nt:Nat)(iv:AV)(pl:List Int):List (Nat×AV):=[(103,.obj 14 nO),(104,.obj 21 nt),(105,iv),(106,.bytes pl)]
theorem AZ(k:∀n H',Kq [] H H'→H.length≤n→get H' n = .dict (EF nO nt .none [])→K (.obj 22 n) H'):cc (r+2) 22 [.obj 14 nO,.obj 21 nt] H K X:=by
 have h:=Own.nil (S:=[]) (H:=H)
 refine L.cls rfl ?_
 refine Own.new h (Own.of_live rfl) (λn Ha ha=>?_)
 refine L.call rfl ?_
 walk_at "m"
 rename_i h1
 exact⟨rfl,.inl (k _ _ h1.keep h1.ge0 h1.g0)⟩
structure TS(H0 H:Hp)(n nO nt:Nat)(iv:AV)(pl:List Int):Prop where
 k:Kq [] H0 H
 hn:H0.length≤n
 hO:H0.length≤nO
 ne:nO≠n
 d:get H n = .dict (EF nO nt iv pl)
theorem TS.set(w:TS H0 H n nO nt iv pl)(h:Own [n] H H' [(n,.dict (EF nO nt iv' pl'))]):TS H0 H' n nO nt iv' pl':=⟨w.k.own w.hn h.keep,w.hn,w.hO,w.ne,h.g0⟩
theorem TS.out(w:TS H0 H n nO nt iv pl)(k:Kq [m] H H')(hm:H0.length≤m)(q:n≠m):TS H0 H' n nO nt iv pl:=⟨w.k.own hm k,w.hn,w.hO,w.ne,k.dict w.d (λx=>q (i6.mp x))⟩
theorem c119(w:TS H0 H n nO nt iv pl)(u:iv = .none∨∃nI,iv = .obj 14 nI)(k:∀H',Kq [n] H H'→TS H0 H' n nO nt .none pl→K iv H'):c (r+1) 119 [.obj 22 n] H K X:=by
 have h:Own [n] H H [_]:=Own.one w.d
 refine L.call rfl ?_
 rcases u with rfl | ⟨_,rfl⟩
 all_goals
  walk_at "m"
  rename_i h1
  exact k _ h1.keep (w.set h1)
noncomputable abbrev oI:List (Nat×AV):=[(36,.inst 9 [])]
structure OT(H0:Hp)(nt:Nat)(a v k0:List Int):Prop where
 la:a.length<128
 lv:v.length<128
 l0:k0.length<128
 tf:∃fs,get H0 nt = .dict fs∧lk fs 100 = .U
 bi:∀{r:Nat} {H:Hp} {K:KE} {X:XE},Kq [] H0 H→(∀nI lI H',Kq [] H H'→Off H' nI lI 10 oI (C0 k0 [])→H.length≤nI→K (.obj 14 nI) H')→c (r+6) 105 [.obj 21 nt,.bytes v] H K X
structure TN(H0 H:Hp)(n nO nI lI:Nat)(k0:List Int):Prop where
 h:H0.length≤nI
 n1:n≠nI
 n2:nO≠nI
 a:zA H nI lI 10 oI k0 []
theorem TS.kp0(w:TS H0 H n nO nt iv pl)(k:Kq [] H H'):TS H0 H' n nO nt iv pl:=⟨w.k.trans0 k,w.hn,w.hO,w.ne,k.dict0 w.d⟩
theorem TN.set(w:TN H0 H n nO nI lI k0)(k:Kq [m] H H')(g:get H m = .dict fs)(q:nI≠m):TN H0 H' n nO nI lI k0:=⟨w.h,w.n1,w.n2,w.a.kp k g q⟩
theorem c120f(w:TS H0 H n nO nt iv pl)(o:Off H nO li 10 oI e)(k:K .none H):c (r+2) 120 [.obj 22 n,hv] H K X:=by
 refine eX11 o λ_ o=>?_
 refine L.call rfl ?_
 refine .mk w.d (.mk o.d (c68 o ?_))
 rw[decide_eq_false (A6 _)]
 exact O0 rfl k
theorem c120(ot:OT H0 nt a v k0)(w:TS H0 H n nO nt .none pl)(o:On H nO li 10 oI a v)(hh:hv = .none∨∃nI lI,hv = .obj 14 nI∧pl=v∧TN H0 H n nO nI lI k0)
  (k:∀nI lI H',TS H0 H' n nO nt (.obj 14 nI) v→On H' nO li 10 oI a v→TN H0 H' n nO nI lI k0→K .none H'):c (r+7) 120 [.obj 22 n,hv] H K X:=by
 refine L.call rfl ?_
 refine .mk w.d (.mk o.d (c68 o ?_))
 rw[decide_eq_true (by rw[entry_len ot.la ot.lv];exact j1.mpr (i8 (by decide) (b7 (b7 (d8 _) (j9 _)) (j9 _))))]
 refine I9 rfl (.mk w.d (.mk o.d (c70 ot.la ot.lv o ?_)))
 rcases hh with rfl | ⟨nI,lI,rfl,rfl,tn⟩
 ·refine eX12 ot.tf λfs tf tu=>?_
  refine nP.mk rfl (I9 rfl (I9 rfl ?_))
  refine .mk w.d (.mk (w.k.dict0 tf) (Y0 tu rfl ?_))
  refine ot.bi w.k λnI lI H1 k1 o1 e1=>?_
  have g1:=k1.dict0 w.d
  have h:Own [n] H1 H1 [_]:=Own.one g1
  walk_at "m"
  rename_i h1
  have ne:nO≠nI:=λq=>absurd e1 (F9.mpr (q▸jr o.d))
  have ne':nI≠n:=λq=>absurd e1 (F9.mpr (q▸jr w.d))
  exact k nI lI _ ((w.kp0 k1).set h1) ((o.keep k1 t9 t9).kp h1.keep g1 w.ne) ⟨b6 w.k.len e1,ne'.symm,ne,.inr (o1.kp h1.keep g1 ne')⟩
 ·have h:Own [n] H H [_]:=Own.one w.d
  have g:=w.d
  walk_at "m"
  rename_i h1
  exact k nI lI _ (w.set h1) (o.kp h1.keep w.d w.ne) (tn.set h1.keep w.d tn.n1.symm)
noncomputable def dr(b:Bool)(x:Nat):Nat:=match b with
 |true=>x
 |false=>x+1
noncomputable def EK(m:Nat):T:=.cons (.while_ (.and_ (.callM (.attr (.loc 0) 103) 16 .nil) (.not_ (.callM (.loc 0) 16 .nil))) (.cons (.asg 1 (.callM (.loc 0) 107 .nil)) (.cons (.ex (.callM (.attr (.loc 0) 103) m .nil)) (.cons (.ex (.callM (.loc 0) 108 (.cons (.loc 1) .nil))) (.cons (.if_ (.cmp 7 (.attr (.loc 0) 105) .none_) .bad .nil) .nil))))) .nil
theorem c115n(w:TS H0 H n nO nt .none pl)(k:K (.bool false) H):c (r+1) 115 [.obj 22 n] H K X:=by
 refine L.call rfl ?_
 exact .mk w.d (nP.mk rfl (I9 rfl k))
theorem c115(w:TS H0 H n nO nt (.obj 14 nI) pl)(i:IT H nI lI 10 oI e cur ah key vf)(k:K (.bool (decide (cur<e.length))) H):c (r+2) 115 [.obj 22 n] H K X:=by
 refine L.call rfl ?_
 exact .mk w.d (nP.mk rfl (O0 rfl (.mk w.d (.mk i.d (c68 i k)))))
theorem AI(w:TS H0 H n nO nt iv pl)(o:Off H nO li 10 oI e)(k:K .none H):c (r+2) (dr b 121) [.obj 22 n] H K X:=by
 refine eX11 o λ_ o=>?_
 refine L.call (F:=⟨1,2,EK (dr b 14),[]⟩) (by cases b<;>rfl) ?_
 intro P hP
 refine hP _ _ (.mk w.d (.mk o.d (c68 o ?_)))
 rw[decide_eq_false (A6 _)]
 exact I9 rfl (I9 rfl k)
theorem U8(ha:a.length<128)(hv:v.length<128):decide ((0:Int)<(C0 a v).length)=true:=decide_eq_true (by rw[entry_len ha hv];exact j1.mpr (i8 (by decide) (b7 (b7 (d8 _) (j9 _)) (j9 _))))
theorem zM(ot:OT H0 nt a v k0)(w:TS H0 H n nO nt (.obj 14 nI) pl)(o:On H nO li 10 oI a v)(i:On H nI lI 10 oI k0 [])(k:K .none H):c (r+3) (dr b 121) [.obj 22 n] H K X:=by
 refine L.call (F:=⟨1,2,EK (dr b 14),[]⟩) (by cases b<;>rfl) ?_
 intro P hP
 refine hP _ _ (.mk w.d (.mk o.d (c68 o ?_)))
 rw[U8 ot.la ot.lv]
 refine O0 rfl (.mk w.d (c115 w i ?_))
 rw[U8 ot.l0 (by decide)]
 exact I9 rfl k
theorem HS(ha:a.length<128)(hv:v.length<128)(h:On H n l oc os a v)(k:∀H',Kq [n] H H'→Off H' n l oc os (C0 a v)→K .none H'):c (r+3) (dr b 77) [.obj 14 n] H K X:=by
 cases b with
 |true=>exact c77 ha hv h k
 |false=>exact c78 ha hv h k
theorem vI{I:Itf}{F:Nat→Prop}{x y:Nat}(hI:I.mtab=aY)(e:lk fs (dr b x) = .U)(g:aY 14 (dr b x)=some (dr b y))(k:F (dr b y)):yj I 14 fs (dr b x) F:=Y0 e (by rw[hI];exact g) k
theorem tI(ot:OT H0 nt a v k0)(w:TS H0 H n nO nt (.obj 14 nI) pl)(o:On H nO li 10 oI a v)(i:Off H nI lI 10 oI (C0 k0 []))(k:∀H',TS H0 H' n nO nt .none pl→Off H' nO li 10 oI (C0 a v)→K .none H'):c (r+8) (dr b 121) [.obj 22 n] H K X:=by
 refine eX11 i λ_ i=>?_
 refine L.call (F:=⟨1,2,EK (dr b 14),[]⟩) (by cases b<;>rfl) ?_
 intro P hP
 refine hP _ _ (.mk w.d (.mk o.d (c68 o ?_)))
 rw[U8 ot.la ot.lv]
 refine O0 rfl (.mk w.d (c115 w i ?_))
 rw[decide_eq_false (A6 _)]
 refine O0 rfl (.mk w.d (c119 w (.inr ⟨_,rfl⟩) λH1 k1 w1=>?_))
 have o1:=o.kp k1 w.d w.ne
 refine .mk w1.d (.mk o1.d (vI rfl (by cases b<;>rfl) (y:=77) (by cases b<;>rfl) (HS ot.la ot.lv o1 λH2 k2 o2=>?_)))
 have w2:=w1.out k2 w.hO w.ne.symm
 refine .mk w2.d (c120f w2 o2 ?_)
 refine .mk w2.d (nP.mk rfl (I9 rfl ?_))
 refine eX11 (id o2) λ_ o3=>?_
 refine hP _ _ (.mk w2.d (.mk o3.d (c68 o3 ?_)))
 rw[decide_eq_false (A6 _)]
 exact I9 rfl (I9 rfl (k _ w2 o2))
noncomputable def HQ(m s:Nat):T:=(.cons (.asg 1 (.callM (.loc 0) 107 .nil)) (.cons (.ex (.callM (.attr (.loc 0) 103) m .nil)) (.cons (.ex (.callM (.loc 0) 108 (.cons (.loc 1) .nil))) (.cons (.if_ (.cmp 7 (.attr (.loc 0) 105) .none_) (.cons (.ex (.callM (.attr (.loc 0) 105) m .nil)) .nil) .nil) (.cons (.ex (.callM (.loc 0) s .nil)) .nil)))))
theorem DD(ha:a.length<128)(hv:v.length<128)(h:IT H n l oc os (C0 a v) cur ah key vf)(k:∀H',Kq [n] H H'→On H' n l oc os a v→K .none H'):c (r+4) (dr b 73) [.obj 14 n] H K X:=by
 cases b with
 |true=>exact c73 ha hv h k
 |false=>exact c74 ha hv h k
theorem vH{I:Itf}{F:Nat→Prop}{x y:Nat}(hI:I.mtab=aY)(e:lk fs (dr b x) = .U)(g:aY 22 (dr b x)=some (dr b y))(k:F (dr b y)):yj I 22 fs (dr b x) F:=Y0 e (by rw[hI];exact g) k
theorem Ae{w u:AV}{F:AV→Prop}{ρ:Loc}(h:P3 u=false)(k:F u):gG (w::u::ρ) 1 F:=by
 revert h k
 cases u<;>intro h k<;>first | exact k | cases h
theorem Ad{w x u:AV}{F:AV→Prop}{ρ:Loc}(h:P3 u=false)(k:F u):gG (w::x::u::ρ) 2 F:=Ae (w:=x) (ρ:=ρ) h k
noncomputable def In(H0 H:Hp)(n nO:Nat)(iv:AV)(pl v k0:List Int):Prop:=iv = .none∨∃nI lI,iv = .obj 14 nI∧pl=v∧TN H0 H n nO nI lI k0
theorem In.u(h:In H0 H n nO iv pl v k0):P3 iv=false:=by rcases h with rfl | ⟨_,_,rfl,_⟩<;>rfl
theorem In.x(h:In H0 H n nO iv pl v k0):iv = .none∨∃nI,iv = .obj 14 nI:=h.imp id λzt80=>eX22 zt80 λnI _ e _=>⟨nI,e⟩
theorem In.kn(h:In H0 H n nO iv pl v k0)(k:Kq [n] H H')(g:get H n = .dict fs):In H0 H' n nO iv pl v k0:=h.imp id λzt84=>eX23 zt84 λnI lI e q t=>⟨nI,lI,e,q,t.set k g t.n1.symm⟩
theorem In.ko(h:In H0 H n nO iv pl v k0)(k:Kq [nO] H H')(g:get H nO = .dict fs):In H0 H' n nO iv pl v k0:=h.imp id λzt91=>eX23 zt91 λnI lI e q t=>⟨nI,lI,e,q,t.set k g t.n2.symm⟩
theorem GY(ot:OT H0 nt a v k0)(w:TS H0 H n nO nt iv pl)(o:IT H nO li 10 oI (C0 a v) cur ah key vf)(hi:In H0 H n nO iv pl v k0)
  (k:∀nI lI H',TS H0 H' n nO nt (.obj 14 nI) v→On H' nO li 10 oI a v→TN H0 H' n nO nI lI k0→On H' nI lI 10 oI k0 []→K .none H'):c (r+8) (dr b 123) [.obj 22 n] H K X:=by
 refine L.call (F:=⟨1,2,HQ (dr b 17) (dr b 109),[]⟩) (by cases b<;>rfl) ?_
 refine .mk w.d (c119 w hi.x λH1 k1 w1=>?_)
 have o1:=o.kp k1 w.d w.ne
 have i1:=hi.kn k1 w.d
 refine .mk w1.d (.mk o1.d (vI rfl (by cases b<;>rfl) (y:=73) (by cases b<;>rfl) (DD ot.la ot.lv o1 λH2 k2 o2=>?_)))
 have w2:=w1.out k2 w.hO w.ne.symm
 have i2:=i1.ko k2 o1.d
 refine .mk w2.d (Ae (w:=.obj 22 n) (ρ:=[]) hi.u (c120 ot w2 o2 i2 λnI lI H3 w3 o3 t3=>?_))
 refine .mk w3.d (nP.mk rfl (O0 rfl ?_))
 refine eX41 t3.a.it λ_ _ _ _ i3=>?_
 refine .mk w3.d (.mk i3.d (vI rfl (by cases b<;>rfl) (y:=73) (by cases b<;>rfl) (DD ot.l0 (by decide) i3 λH4 k4 i4=>?_)))
 have w4:=w3.out k4 t3.h t3.n1
 have o4:=o3.kp k4 i3.d t3.n2
 refine .mk w4.d (vH rfl (by cases b<;>rfl) (y:=121) (by cases b<;>rfl) (zM ot w4 o4 i4 ?_))
 exact k _ _ _ w4 o4 ⟨t3.h,t3.n1,t3.n2,.inl i4⟩ i4
theorem c125(ot:OT H0 nt a v k0)(w:TS H0 H n nO nt iv pl)(o:zA H nO li 10 oI a v)(hi:In H0 H n nO iv pl v k0)(hc:dR 10 oI a t z)(hd:dR 10 oI k0 t y)
  (k:∀nI lI H',TS H0 H' n nO nt (.obj 14 nI) v→On H' nO li 10 oI a v→TN H0 H' n nO nI lI k0→On H' nI lI 10 oI k0 []→0≤z→0≤y→K .none H')
  (k':∀pl H',TS H0 H' n nO nt .none pl→Off H' nO li 10 oI (C0 a v)→¬(0≤z∧0≤y)→K .none H'):c (r+9) 125 [.obj 22 n,.bytes t] H K X:=by
 refine L.call rfl ?_
 refine .mk w.d (c119 w hi.x λH1 k1 w1=>?_)
 have o1:=o.kp k1 w.d w.ne
 have i1:=hi.kn k1 w.d
 refine eX41 (id o1.it) λ_ _ _ _ q1=>?_
 refine .mk w1.d (.mk q1.d (iL ot.la ot.lv (.inr ⟨rfl,rfl⟩) hc o1 λH2 k2 o2=>?_))
 have w2:=w1.out k2 w.hO w.ne.symm
 have i2:=i1.ko k2 q1.d
 by_cases hz:0≤z
 ·rw[if_pos hz] at o2
  refine .mk w2.d (Ad (w:=.obj 22 n) (x:=.bytes t) (ρ:=[]) hi.u (c120 ot w2 o2 i2 λnI lI H3 w3 o3 t3=>?_))
  refine .mk w3.d (nP.mk rfl (O0 rfl ?_))
  refine eX41 (id t3.a.it) λ_ _ _ _ i3=>?_
  refine .mk w3.d (.mk i3.d (iL ot.l0 (by decide) (.inr ⟨rfl,rfl⟩) hd t3.a λH4 k4 i4=>?_))
  have w4:=w3.out k4 t3.h t3.n1
  have o4:=o3.kp k4 i3.d t3.n2
  by_cases hy:0≤y
  ·rw[if_pos hy] at i4
   exact .mk w4.d (zM (b:=true) ot w4 o4 i4 (k _ _ _ w4 o4 ⟨t3.h,t3.n1,t3.n2,.inl i4⟩ i4 hz hy))
  ·rw[if_neg hy] at i4
   exact .mk w4.d (tI (b:=true) ot w4 o4 i4 λH5 w5 o5=>k' _ _ w5 o5 λq=>hy q.2)
 ·rw[if_neg hz] at o2
  refine .mk w2.d (Ad (w:=.obj 22 n) (x:=.bytes t) (ρ:=[]) hi.u (c120f w2 o2 ?_))
  refine .mk w2.d (nP.mk rfl (I9 rfl ?_))
  exact .mk w2.d (AI (b:=true) w2 o2 (k' _ _ w2 o2 λq=>hz q.1))
theorem GZ(h:IT H n l oc os [] cur ah key vf)(k:∀H',Kq [n] H H'→Off H' n l oc os []→K .none H'):c (r+4) (dr b 73) [.obj 14 n] H K X:=by
 cases b with
 |true=>exact c73e h k
 |false=>exact c74e h k
theorem Hc(w:TS H0 H n nO nt .none pl)(o:Off H nO li 10 oI [])(k:∀H',TS H0 H' n nO nt .none pl→Off H' nO li 10 oI []→K .none H'):c (r+8) (dr b 123) [.obj 22 n] H K X:=by
 refine L.call (F:=⟨1,2,HQ (dr b 17) (dr b 109),[]⟩) (by cases b<;>rfl) ?_
 refine .mk w.d (c119 w (.inl rfl) λH1 k1 w1=>?_)
 refine eX11 (o.kp k1 w.d w.ne) λ_ o1=>?_
 refine .mk w1.d (.mk o1.d (vI rfl (by cases b<;>rfl) (y:=73) (by cases b<;>rfl) (GZ o1 λH2 k2 o2=>?_)))
 have w2:=w1.out k2 w.hO w.ne.symm
 refine .mk w2.d (c120f w2 o2 ?_)
 refine .mk w2.d (nP.mk rfl (I9 rfl ?_))
 exact .mk w2.d (vH rfl (by cases b<;>rfl) (y:=121) (by cases b<;>rfl) (AI w2 o2 (k _ w2 o2)))
theorem c125n(w:TS H0 H n nO nt .none pl)(o:Off H nO li 10 oI [])(k:∀H',TS H0 H' n nO nt .none pl→Off H' nO li 10 oI []→K .none H'):c (r+8) 125 [.obj 22 n,.bytes t] H K X:=by
 refine L.call rfl ?_
 refine .mk w.d (c119 w (.inl rfl) λH1 k1 w1=>?_)
 have o1:=o.kp k1 w.d w.ne
 refine eX11 (id o1) λ_ q1=>?_
 refine .mk w1.d (.mk q1.d (lz o1 λH2 k2 o2=>?_))
 have w2:=w1.out k2 w.hO w.ne.symm
 refine .mk w2.d (c120f w2 o2 ?_)
 refine .mk w2.d (nP.mk rfl (I9 rfl ?_))
 exact .mk w2.d (AI (b:=true) w2 o2 (k _ w2 o2))
theorem c116(w:TS H0 H n nO nt (.obj 14 nI) pl)(i:IT H nI lI 10 oI e cur ah key vf)(hc:decide (cur<e.length)=true)(k:K .none H):c (r+3) 116 [.obj 22 n] H K X:=by
 refine L.call rfl ?_
 refine .mk w.d (c115 w i ?_)
 rw[hc]
 exact I9 rfl k
theorem c116x(w:TS H0 H n nO nt .none pl)(k:X 6 H):c (r+2) 116 [.obj 22 n] H K X:=by
 refine L.call rfl ?_
 exact .mk w.d (c115n w (O0 rfl k))
theorem tx(w:TS H0 H n nO nt .none pl)(k:X 6 H):c (r+3) 117 [.obj 22 n] H K X∧c (r+3) 118 [.obj 22 n] H K X∧c (r+3) 126 [.obj 22 n] H K X∧c (r+3) 127 [.obj 22 n] H K X:=by
 refine⟨?_,?_,?_,?_⟩
 all_goals
  refine L.call rfl ?_
  exact .mk w.d (c116x w k)
theorem c117(l0:k0.length<128)(w:TS H0 H n nO nt (.obj 14 nI) pl)(i:On H nI lI 10 oI k0 [])(k:K (.bytes k0) H):c (r+4) 117 [.obj 22 n] H K X:=by
 refine L.call rfl ?_
 refine .mk w.d (c116 w i (U8 l0 (by decide)) ?_)
 exact .mk w.d (.mk i.d (c69 i (of_decide_eq_true (U8 l0 (by decide))) k))
theorem c118(l0:k0.length<128)(w:TS H0 H n nO nt (.obj 14 nI) pl)(i:On H nI lI 10 oI k0 [])(k:K (.bytes []) H):c (r+4) 118 [.obj 22 n] H K X:=by
 refine L.call rfl ?_
 refine .mk w.d (c116 w i (U8 l0 (by decide)) ?_)
 exact .mk w.d (.mk i.d (c70 l0 (by decide) i k))
noncomputable def IH(m s:Nat):T:=(.cons (.ex (.callM (.loc 0) 70 .nil)) (.cons (.ex (.callM (.attr (.loc 0) 105) m .nil)) (.cons (.ex (.callM (.loc 0) s .nil)) .nil)))
theorem c126(ot:OT H0 nt a v k0)(w:TS H0 H n nO nt (.obj 14 nI) pl)(o:On H nO li 10 oI a v)(t:TN H0 H n nO nI lI k0)(i:On H nI lI 10 oI k0 [])(k:∀H',TS H0 H' n nO nt .none pl→Off H' nO li 10 oI (C0 a v)→K .none H'):c (r+9) (dr b 126) [.obj 22 n] H K X:=by
 refine L.call (F:=⟨1,1,IH (dr b 14) (dr b 109),[]⟩) (by cases b<;>rfl) ?_
 refine .mk w.d (c116 w i (U8 ot.l0 (by decide)) ?_)
 refine .mk w.d (.mk i.d (vI rfl (by cases b<;>rfl) (y:=77) (by cases b<;>rfl) (HS ot.l0 (by decide) i λH1 k1 i1=>?_)))
 have w1:=w.out k1 t.h t.n1
 have o1:=o.kp k1 i.d t.n2
 exact .mk w1.d (vH rfl (by cases b<;>rfl) (y:=121) (by cases b<;>rfl) (tI ot w1 o1 i1 k))
theorem zJ:∀m,12≤m∧m≤19→aY 22 m=some (gC 22 m):=m8 rfl rfl rfl rfl rfl rfl rfl rfl
theorem TS.dc(w:TS H0 H n nO nt iv pl):∃fs,get H n = .dict fs∧∀m,12≤m∧m≤19→lk fs m = .U:=⟨_,w.d,m8 rfl rfl rfl rfl rfl rfl rfl rfl⟩
noncomputable def Q0(H0:Hp)(n nO nt li:Nat)(b:Bool)(H:Hp):Prop:=b=false∧∃pl,TS H0 H n nO nt .none pl∧Off H nO li 10 oI []
noncomputable def Q1(H0:Hp)(n nO nt li:Nat)(a v k0:List Int)(b:Bool)(H:Hp):Prop:=match b with
 |true=>∃nI lI,TS H0 H n nO nt (.obj 14 nI) v∧On H nO li 10 oI a v∧TN H0 H n nO nI lI k0∧On H nI lI 10 oI k0 []
 |false=>∃pl,TS H0 H n nO nt .none pl∧Off H nO li 10 oI (C0 a v)
theorem Iz:Wk 22 n (gC 22) false bb a v t (Q0 H0 n nO nt li) where
 tab:=zJ
 dict:=λzt22=>eX02 zt22 λ_ zn23=>eX12 zn23 λ_ w _=>w.dc
 valid:=λzt26 k=>eX02 zt26 λe zn27=>eX12 zn27 λ_ w _=>c115n w (by rw[e] at k;exact k)
 key:=λzt30=>eX02 zt30 λe _=>nomatch e
 value:=λzt31=>eX02 zt31 λe _=>nomatch e
 out:=λzt32 k=>eX02 zt32 λ_ zn33=>eX12 zn33 λ_ w _=>tx w k
 step:=λzt36=>eX02 zt36 λe _=>nomatch e
 ends:=λzt37 k=>eX02 zt37 λ_ zn38=>eX12 zn38 λ_ w o=>⟨Hc (b:=true) w o λ_ w o=>k _ ⟨rfl,_,w,o⟩,Hc (b:=false) w o λ_ w o=>k _ ⟨rfl,_,w,o⟩⟩
 seek:=λzt41 k=>eX02 zt41 λ_ zn42=>eX12 zn42 λ_ w o=>c125n w o λ_ w o=>k _ ⟨rfl,_,w,o⟩
theorem Q1.al(h:Q1 H0 n nO nt li a v k0 b H):∃iv pl,TS H0 H n nO nt iv pl∧zA H nO li 10 oI a v∧In H0 H n nO iv pl v k0:=by
 cases b with
 |true=>refine eX24 h λnI lI w o t _=>?_;clear h;exact⟨_,_,w,.inl o,.inr ⟨_,_,rfl,rfl,t⟩⟩
 |false=>refine eX12 h λpl w o=>?_;clear h;exact⟨_,_,w,.inr o,.inl rfl⟩
theorem Iy(ot:OT H0 nt a v k0)(hc:dR 10 oI a t z)(hd:dR 10 oI k0 t y)(hb:bb=(decide (0≤z)&&decide (0≤y))):Wk 22 n (gC 22) true bb k0 [] t (Q1 H0 n nO nt li a v k0) where
 tab:=zJ
 dict:=λp=>eX22 p.al λ_ _ w _=>w.dc
 valid:=λ{r b H K X} p k=>by
  cases b with
  |true=>
   refine eX24 p λ_ _ w _ _ i=>?_;clear p
   exact c115 w i (by rw[U8 ot.l0 (by decide)];exact k)
  |false=>
   refine eX12 p λ_ w _=>?_;clear p
   exact c115n w k
 key:=λzt45 k=>eX24 zt45 λ_ _ w _ _ i=>c117 ot.l0 w i k
 value:=λzt56 k=>eX24 zt56 λ_ _ w _ _ i=>c118 ot.l0 w i k
 out:=λzt67 k=>eX12 zt67 λ_ w _=>tx w k
 step:=λzt69 k=>eX24 zt69 λ_ _ w o t i=>⟨c126 (b:=true) ot w o t i λ_ w o=>k _ ⟨_,w,o⟩,c126 (b:=false) ot w o t i λ_ w o=>k _ ⟨_,w,o⟩⟩
 ends:=λp k=>eX23 p.al λ_ _ w o i=>let ⟨_,_,_,_,q⟩:=o.it;⟨GY (b:=true) ot w q i λ_ _ _ w o t i=>k _ ⟨_,_,w,o,t,i⟩,GY (b:=false) ot w q i λ_ _ _ w o t i=>k _ ⟨_,_,w,o,t,i⟩⟩
 seek:=λp k=>eX23 p.al λ_ _ w o i=>c125 ot w o i hc hd
  (λ_ _ _ w o t i hz hy=>k _ (by rw[hb,decide_eq_true hz,decide_eq_true hy];exact⟨_,_,w,o,t,i⟩))
  (λ_ _ w o q=>k _ (by rw[hb,←Bool.decide_and,decide_eq_false q];exact⟨_,w,o⟩))
theorem Off.kz(h:Off H n l oc os e)(k:Kq [] H H'):Off H' n l oc os e:=by
 refine eX11 h λvf h=>?_
 exact⟨vf,h.keep k t9 t9⟩
theorem c106(w:TT H nt no ol d ma ms ia is be ib li fv)(k:∀n nO H',TS H H' n nO nt .none []→Off H' nO li 10 oI ib→K (.obj 22 n) H'):c (r+4) 106 [.obj 21 nt] H K X:=by
 refine L.call rfl ?_
 refine .mk w.d (c63 w.i λnO H1 k1 o1 e1=>AZ λn H2 k2 e2 d2=>?_)
 refine eX11 (id o1) λ_ q=>?_
 exact k _ _ _ ⟨k1.trans0 k2,b6 k1.len e2,e1,λq'=>absurd e2 (F9.mpr (q'▸jr q.d)),d2⟩ (o1.kz k2)
noncomputable def Ij(m:Nat):T:=(.cons (.asg 1 (.callM (.loc 0) 24 .nil)) (.cons (.ex (.callM (.loc 1) m .nil)) (.cons (.if_ (.not_ (.callM (.loc 1) 16 .nil)) (.cons (.raise 4 (.cons .str_ .nil)) .nil) .nil) (.cons (.ret (.callM (.loc 1) 12 .nil)) .nil))))
theorem Il(w:TT H nt no ol d ma ms ia is be [] li fv)(k:∀H',Kq [] H H'→X 4 H'):c (r+9) (dr b 109) [.obj 21 nt] H K X:=by
 refine L.call (F:=⟨1,2,Ij (dr b 17),[]⟩) (by cases b<;>rfl) ?_
 refine .mk w.d (c106 w λn nO H1 w1 o1=>?_)
 refine .mk w1.d (vH rfl (by cases b<;>rfl) (y:=123) (by cases b<;>rfl) (Hc w1 o1 λH2 w2 o2=>?_))
 exact .mk w2.d (c115n w2 (O0 rfl (k _ w2.k)))
theorem Ik(ot:OT H nt a v k0)(w:TT H nt no ol d ma ms ia is be (C0 a v) li fv)(k:∀H',Kq [] H H'→K (.bytes k0) H'):c (r+10) (dr b 109) [.obj 21 nt] H K X:=by
 refine L.call (F:=⟨1,2,Ij (dr b 17),[]⟩) (by cases b<;>rfl) ?_
 refine .mk w.d (c106 w λn nO H1 w1 o1=>?_)
 refine eX11 o1 λ_ q1=>?_;clear o1
 refine .mk w1.d (vH rfl (by cases b<;>rfl) (y:=123) (by cases b<;>rfl) (GY ot w1 q1 (.inl rfl) λnI lI H2 w2 o2 t2 i2=>?_))
 refine .mk w2.d (c115 w2 i2 ?_)
 rw[U8 ot.l0 (by decide)]
 exact I9 rfl (.mk w2.d (c117 ot.l0 w2 i2 (k _ w2.k)))
theorem c42n(w:TT H nt no ol d ma ms ia is be [] li fv)(k:∀H',Kq [] H H'→K .none H'):c (r+10) 42 [.obj 21 nt,.bool b] H K X:=by
 refine L.call rfl ?_
 cases b with
 |true=>exact O0 rfl (.mk w.d (Il (b:=false) w λH' k'=>O0 rfl (k _ k')))
 |false=>exact I9 rfl (.mk w.d (Il (b:=true) w λH' k'=>O0 rfl (k _ k')))
theorem c42y(ot:OT H nt a v k0)(w:TT H nt no ol d ma ms ia is be (C0 a v) li fv)(k:∀H',Kq [] H H'→K (.bytes k0) H'):c (r+11) 42 [.obj 21 nt,.bool b] H K X:=by
 refine L.call rfl ?_
 cases b with
 |true=>exact O0 rfl (.mk w.d (Ik (b:=false) ot w k))
 |false=>exact I9 rfl (.mk w.d (Ik (b:=true) ot w k))
end
section
variable{b lt pr:Bool}{r n nt no nO nI li lI l j:Nat}{ol:List (Nat×AV)}{d ib u v w:List Int}{ck bs iv fb lg fr l' ma ms ia is be t s z y h q x i:Int}{H H' H0:Hp}{K R:KE}{X:XE}{fv hv w8 w9 w10 w11 w12 w13 w14 w15 w16 tv:AV}{hl rl:List AV}{N:KN}{Y:XS}
theorem TT.ot(hck:ck=1∨ck=2)(hu:u.length≤5)(ou:B7 u)(w:TT H nt no (G7 ck bs iv fr l' pr) d ma ms ia is be ib li fv)(hd:Has d 0 (o0 ck u t))(hb:((o0 ck u t).length:Int)≤be):OT H nt (ik (E2 u t).1 (E2 u t).2) (X2 0 (F6 (en u t)).length) (ik u t) where
 la:=by rw[V7];have:=gc (t:=t) (show u.length≤40 by exact b6 hu (by decide));exact g9 (b7 this (d8 _)) (by decide)
 lv:=cI
 l0:=by rw[V7];exact g9 (b7 hu (d8 _)) (by decide)
 tf:=⟨_,w.d,rfl⟩
 bi:=λ{r H1 K X} k0 k=>c105 (a:=0) rG (k0.dict0 w.d) (k0.dict0 w.o) hck (Z6 (ku (b6 hu (by decide)) ou)) (by rw[aQ (b6 hu (by decide))];exact b6 (b7 hu (d8 _)) (by decide)) (by decide) hd (by rw[ip (b6 hu (by decide))] at hb;rw[G5,aQ (b6 hu (by decide)),N7];exact hb) k
noncomputable def Ii(b:Bool)(k0:List Int):AV:=match b with
 |true=>.tup [.bytes k0,.bytes []]
 |false=>.none
noncomputable def Iu(fb lg fr:Int)(u:List Int)(j:Nat)(fv:AV)(v:List Int)(lt:Bool):Prop:=(fv = .none∧lt=true)∨(1≤fb∧fv=FR fr (S7 fb lg (gu u j)) lg (C7 fb (gu u j)).length (gu u j).length∧lt=lets (P6 fb [u]) v (bG fb).toNat)
theorem c107n(w:TT H nt no ol d ma ms ia is be [] li fv)(k:∀H',Kq [] H H'→K .none H'):c (r+9) 107 [.obj 21 nt,.bytes v] H K X:=by
 refine L.call rfl ?_
 refine .mk w.d (c63 w.i λnO H1 k1 o1 e1=>?_)
 obtain⟨_,q1⟩:=id o1
 refine .mk q1.d (lz o1 λH2 k2 o2=>?_)
 obtain⟨_,q2⟩:=o2
 refine .mk q2.d (c68 q2 ?_)
 rw[decide_eq_false (A6 _)]
 exact O0 rfl (k _ (k1.own e1 k2))
theorem c108n(w:TT H nt no ol d ma ms ia is be [] li fv)(k:∀H',Kq [] H H'→K (.int ma) H'):c (r+9) 108 [.obj 21 nt,.bytes v] H K X:=by
 refine L.call rfl ?_
 refine .mk w.d (c63 w.i λnO H1 k1 o1 e1=>?_)
 obtain⟨_,q1⟩:=id o1
 refine .mk q1.d (lz o1 λH2 k2 o2=>?_)
 obtain⟨_,q2⟩:=o2
 refine .mk q2.d (c68 q2 ?_)
 rw[decide_eq_false (A6 _)]
 have k3:=k1.own e1 k2
 refine I9 rfl (.mk (k3.dict0 w.d) ?_)
 exact k _ k3
theorem c108{a k0:List Int}{sz:Int}(s0:0≤sz)(s1:sz<16384)(ot:OT H nt a (X2 0 sz) k0)(w:TT H nt no ol d ma ms ia is be (C0 a (X2 0 sz)) li fv)(hc:dR 10 oI a v z)(k:∀H',Kq [] H H'→K (.int (if 0≤z then 0 else ma)) H'):c (r+9) 108 [.obj 21 nt,.bytes v] H K X:=by
 refine L.call rfl ?_
 refine .mk w.d (c63 w.i λnO H1 k1 o1 e1=>?_)
 obtain⟨_,q1⟩:=id o1
 refine .mk q1.d (iL ot.la ot.lv (.inr ⟨rfl,rfl⟩) hc (.inr o1) λH2 k2 o2=>?_)
 have k3:=k1.own e1 k2
 by_cases hz:0≤z
 ·rw[if_pos hz] at o2 k
  refine .mk o2.d (c68 o2 ?_)
  rw[U8 ot.la ot.lv]
  refine O0 rfl (.mk (k3.dict0 w.d) (Y0 rfl rfl (.mk o2.d (c70 ot.la ot.lv o2 (c104 (g6 0) (by decide) s0 s1 λH4 k4=>?_)))))
  exact k _ (k3.trans0 k4)
 ·rw[if_neg hz] at o2 k
  obtain⟨_,q2⟩:=o2
  refine .mk q2.d (c68 q2 ?_)
  rw[decide_eq_false (A6 _)]
  refine I9 rfl (.mk (k3.dict0 w.d) ?_)
  exact k _ k3
theorem c107{a k0:List Int}{sz:Int}(s0:0≤sz)(s1:sz<16384)(ot:OT H nt a (X2 0 sz) k0)(w:TT H nt no ol d ma ms ia is be (C0 a (X2 0 sz)) li fv)(hc:dR 10 oI a (ik v s) z)(hd:dR 10 oI k0 (ik v s) y)(hf:Iu fb lg fr u j fv v lt)
  (f1:fb≤100) (g0:0≤lg) (hj:j≤60) (hu:u.length≤5) (ou:B7 u) (hv:v.length≤5) (ov:B7 v)
  (k:∀H',Kq [] H H'→K (Ii (decide (0≤z)&&(lt&&decide (0≤y))) k0) H'):c (r+9) 107 [.obj 21 nt,.bytes (ik v s)] H K X:=by
 refine L.call rfl ?_
 refine .mk w.d (c63 w.i λnO H1 k1 o1 e1=>?_)
 obtain⟨_,q1⟩:=id o1
 refine .mk q1.d (iL ot.la ot.lv (.inr ⟨rfl,rfl⟩) hc (.inr o1) λH2 k2 o2=>?_)
 have k3:=k1.own e1 k2
 by_cases hz:0≤z
 ·rw[if_pos hz] at o2
  rw[decide_eq_true hz] at k
  refine .mk o2.d (c68 o2 ?_)
  rw[U8 ot.la ot.lv]
  refine I9 rfl (.mk o2.d (c70 ot.la ot.lv o2 ?_))
  have tail:∀{H4:Hp} {w5:AV} {N:KN} {Y:XS},lt=true→Kq [] H H4→wpS (Iv c cc (r+8)) (S2 f107.body 5) [.obj 21 nt,.bytes (ik v s),.obj 14 nO,.bytes (X2 0 sz),.U,w5] H4 N K Y:=λ{H4 w5 N Y} e k4=>by
   rw[e] at k
   refine .mk (k4.dict0 w.d) (Y0 rfl rfl (ot.bi k4 λnI lI H5 k5 o5 e5=>?_))
   obtain⟨_,q5⟩:=id o5
   refine .mk q5.d (iL ot.l0 (by decide) (.inr ⟨rfl,rfl⟩) hd (.inr o5) λH6 k6 o6=>?_)
   have k7:=(k4.trans0 k5).own (b6 k4.len e5) k6
   by_cases hy:0≤y
   ·rw[if_pos hy] at o6
    rw[decide_eq_true hy] at k
    refine .mk o6.d (c68 o6 ?_)
    rw[U8 ot.l0 (by decide)]
    refine I9 rfl (.mk o6.d (c69 o6 (of_decide_eq_true (U8 ot.l0 (by decide))) (.mk o6.d (c70 ot.l0 (by decide) o6 ?_))))
    exact k _ k7
   ·rw[if_neg hy] at o6
    rw[decide_eq_false hy] at k
    obtain⟨_,q6⟩:=o6
    refine .mk q6.d (c68 q6 ?_)
    rw[decide_eq_false (A6 _)]
    exact O0 rfl (k _ k7)
  rcases hf with ⟨rfl,e⟩ | ⟨b1,rfl,e⟩
  ·exact .mk (k3.dict0 w.d) (nP.mk rfl (I9 rfl (tail e k3)))
  ·refine .mk (k3.dict0 w.d) (nP.mk rfl (O0 rfl (.mk (k3.dict0 w.d) (Y0 rfl rfl (c104 (g6 0) (by decide) s0 s1 λH4 k4=>?_)))))
   have k5:=k3.trans0 k4
   refine .mk (k5.dict0 w.d) (c17 (c90 (i:=0) b1 f1 g0 (gq hu ou) (by rw[gk];exact v5 (N6 hj 1) 1) ov hv (cV _) ?_))
   rw[show fL fb v (gu u j) 0=lt from e.symm]
   cases lt with
   |true=>exact I9 rfl (tail rfl k5)
   |false=>exact O0 rfl (k _ k5)
 ·rw[if_neg hz] at o2
  rw[decide_eq_false hz] at k
  obtain⟨_,q2⟩:=o2
  refine .mk q2.d (c68 q2 ?_)
  rw[decide_eq_false (A6 _)]
  exact O0 rfl (k _ k3)
theorem lM{x y:Int}{u v:List Int}:lexLt (x::u) (y::v)=true↔x<y∨x=y∧lexLt u v=true:=by
 show (decide (x<y)||(decide (x=y)&&lexLt u v))=true↔_
 rw[Bool.or_eq_true,M1,decide_eq_true_eq,decide_eq_true_eq]
theorem uX:∀{u v w:List Int},lexLt u v=true→lexLt v w=true→lexLt u w=true:=by
 intro u
 induction u with
 |nil=>
  intro v w a b
  cases w with
  |nil=>cases v with
   |nil=>exact a
   |cons _ _=>exact b
  |cons _ _=>rfl
 |cons x u ih=>
  intro v w a b
  cases v with
  |nil=>exact absurd a e9
  |cons y v=>cases w with
   |nil=>exact absurd b e9
   |cons z w=>
    refine lM.mpr ((lM.mp a).elim (λa=>(lM.mp b).elim (λb=>.inl (bD a b)) λb=>.inl (b.1▸a)) λa=>(lM.mp b).elim (λb=>.inl (a.1▸b)) λb=>.inr ⟨a.1.trans b.1,ih a.2 b.2⟩)
theorem Bl(a:lexLt u v=true):lexLt v u=false:=by
 cases e:lexLt v u with
 |false=>rfl
 |true=>exact absurd (uX a e) (by rw[mQ];exact nofun)
theorem rj:∀{u v:List Int},lexLt u v=false→u≠v→lexLt v u=true:=by
 intro u
 induction u with
 |nil=>
  intro v a n
  cases v with
  |nil=>exact absurd rfl n
  |cons _ _=>exact absurd a.symm e9
 |cons x u ih=>
  intro v a n
  cases v with
  |nil=>rfl
  |cons y v=>
   have a:¬(x<y∨x=y∧lexLt u v=true):=λq=>e9 (a.symm.trans (lM.mpr q))
   refine lM.mpr ?_
   by_cases e:x=y
   ·exact .inr ⟨e.symm,ih (Bool.eq_false_iff.mpr λq=>a (.inr ⟨e,q⟩)) λk=>n (by rw[e,k])⟩
   ·exact .inl (Int.lt_iff_le_and_ne.mpr ⟨r6.mp λq=>a (.inl q),λq=>e q.symm⟩)
theorem wm(a:lexLt u v=true):gb u t v s = -1:=by
 have e:nB u v = -1:=by unfold nB;rw[a];rfl
 unfold gb
 rw[e,if_pos (by decide)]
theorem wo(a:lexLt v u=true):gb u t v s=1:=by
 have e:nB u v=1:=by unfold nB;rw[Bl a,a];rfl
 unfold gb
 rw[e,if_pos (by decide)]
theorem qq:decide (0≤gb u t v s)=!ak u v (0-t) (0-s):=by
 unfold ak
 by_cases e:u=v
 ·subst e
  rw[decide_eq_true rfl,if_pos rfl,←decide_not]
  refine decide_eq_decide.mpr ?_
  unfold gb
  rw[gS,if_neg (λn=>n rfl)]
  split
  ·next h=>exact⟨λa=>absurd a (by decide),λa=>absurd (Int.sub_lt_sub_left h 0) a⟩
  ·next h=>exact⟨λ_ n=>h (Int.lt_of_sub_lt_sub_left n),λ_=>by split<;>decide⟩
 ·rw[decide_eq_false e,if_neg (λn=>nomatch n)]
  cases z:lexLt u v with
  |true=>rw[wm z];rfl
  |false=>rw[wo (rj z e)];rfl
theorem rP:eA v u y x=!ak u v x y:=by
 unfold eA ak
 by_cases e:u=v
 ·subst e
  rw[decide_eq_true rfl,if_pos rfl,if_pos rfl,←decide_not]
  exact decide_eq_decide.mpr r6.symm
 ·rw[decide_eq_false e,decide_eq_false λk=>e k.symm,if_neg (λn=>nomatch n),if_neg (λn=>nomatch n)]
theorem Aw(h:0≤gb u t v s):0≤gb (E2 u t).1 (E2 u t).2 v s:=by
 unfold E2
 split
 ·next g=>
  have a:=jd g
  have b:lexLt v (N5 u)=true:=by
   by_cases e:u=v
   ·exact e▸a
   ·refine uX (rj ?_ e) a
    cases z:lexLt u v with
    |false=>rfl
    |true=>rw[wm z] at h;exact absurd h (by decide)
  show 0≤gb (N5 u) _ v s
  rw[wo b]
  decide
 ·exact h
structure Sg(v:List Int)(q:Int):Prop where
 o:B7 v
 l:v.length≤5
 a:0≤0-q
 b:0-q<18446744073709551616
noncomputable def tb:T:=body (nth f43.body 5)
theorem FJ:∃d,[AV.bytes [],AV.bytes [97],AV.bytes [255],AV.bytes [0,0]].getD (y%4).toNat .U = .bytes d∧B7 d∧d.length≤5:=
 Z5 (p:=λx=>∃d,x = .bytes d∧B7 d∧d.length≤5) (n:=4) rfl (by decide) (Y2 ⟨_,rfl,by unfold B7;decide,by decide⟩ (Y2 ⟨_,rfl,by unfold B7;decide,by decide⟩ (Y2 ⟨_,rfl,by unfold B7;decide,by decide⟩ (Y2 ⟨_,rfl,by unfold B7;decide,by decide⟩ nofun))))
theorem xd:(E2 u t).1.length≤u.length:=by
 unfold E2;split
 ·exact ey
 ·exact d8 _
theorem c43a(y0:0≤x+37*i)(k:∀v q,Sg v q→N [.obj 11 no,.bytes d,.int ma,tv,.fl hl,hv,.int x,.fl rl,w8,.int i,w10,.int (x+37*i),.tup [.bytes v,.int q],w13,w14,w15,w16,.U] H):
  wpS (Iv c cc r) (nth tb 1) [.obj 11 no,.bytes d,.int ma,tv,.fl hl,hv,.int x,.fl rl,w8,.int i,w10,.int (x+37*i),w12,w13,w14,w15,w16,.U] H N R Y:=by
 generalize x+37*i=y at y0 k
 refine nP.mk (by decide) ?_
 refine nP.mk (bj (n:=4) rfl ⟨j5 _ (by decide),j7 _ (by decide)⟩) ?_
 refine eX13 (FJ (y:=y)) λv e o l=>?_
 rw[e]
 walk_at "m"
 exact k _ _ ⟨o,l,by exact o8 (g6 _) (o8 (o8 (g6 _) (t8 (e6 (by decide) (g6 _)) (e6 (by decide) (j5 _ (by decide))))) (j5 _ (by decide))),by exact e8 (o8 (g6 _) (o8 (o8 (g6 _) (A7 (g6 _) (i5 (j7 _ (by decide))) (e6 (by decide) (j5 _ (by decide))) (by decide))) (i5 (j7 _ (by decide))))) (by decide)⟩
theorem c43b(y0:0≤y)(hu:u.length≤5)(ou:B7 u)(hh:0≤0-h∧0-h<18446744073709551615)(g:Sg v q)(k:∀v q,Sg v q→N [.obj 11 no,.bytes d,.int ma,tv,.fl [.tup [.bytes u,.int h]],hv,.int x,.fl rl,w8,.int i,w10,.int y,.tup [.bytes v,.int q],w13,w14,w15,w16,.U] H):
  wpS (Iv c cc r) (nth tb 2) [.obj 11 no,.bytes d,.int ma,tv,.fl [.tup [.bytes u,.int h]],hv,.int x,.fl rl,w8,.int i,w10,.int y,.tup [.bytes v,.int q],w13,w14,w15,w16,.U] H N R Y:=by
 refine dQ (show (0:Int)<1 by decide) ?_
 walk_at "m"
 refine R7 (λp=>?_) (λp=>k _ _ g)
 walk_at "m"
 exact k _ _ ⟨ou,hu,by split<;>lia -abstractProof,by split<;>lia -abstractProof⟩
theorem c43c(y0:0≤y)(hu:u.length≤5)(ou:B7 u)(ht:0≤t∧t<18446744073709551616)(g:Sg v q)(k:∀v q,Sg v q→N [.obj 11 no,.bytes d,.int ma,.tup [.bytes u,.int (0-t)],.fl [w9],hv,.int x,.fl rl,w8,.int i,w10,.int y,.tup [.bytes v,.int q],w13,w14,w15,w16,.U] H):
  wpS (Iv c cc r) (nth tb 3) [.obj 11 no,.bytes d,.int ma,.tup [.bytes u,.int (0-t)],.fl [w9],hv,.int x,.fl rl,w8,.int i,w10,.int y,.tup [.bytes v,.int q],w13,w14,w15,w16,.U] H N R Y:=by
 refine dQ (show (0:Int)<1 by decide) ?_
 walk_at "m"
 refine R7 (λp=>?_) (λp=>k _ _ g)
 walk_at "m"
 exact k _ _ ⟨ou,hu,by split<;>lia -abstractProof,by split<;>lia -abstractProof⟩
end
section
variable{b lt pr:Bool}{r n nt no li j:Nat}{ol:List (Nat×AV)}{d ib u v a k0:List Int}{ck bs iv fb lg fr l' ma ms ia is be t s z y h q x i bf w sz:Int}{H H' H0:Hp}{K R:KE}{X:XE}{fv hv w8 w9 w10 w11 w12 w13 w14 w15 w16 tv w7 w17:AV}{hl rl:List AV}{N:KN}{Y:XS}
theorem c43d(k:∀bf,decide (bf=0)=(!ak u v h q)→N [.obj 11 no,.bytes d,.int ma,tv,.fl [.tup [.bytes u,.int h]],hv,.int x,.fl rl,w8,.int i,w10,w11,.tup [.bytes v,.int q],w13,w14,w15,.int bf,.U] H):
  wpS (Iv c cc r) (nth tb 7) [.obj 11 no,.bytes d,.int ma,tv,.fl [.tup [.bytes u,.int h]],hv,.int x,.fl rl,w8,.int i,w10,w11,.tup [.bytes v,.int q],w13,w14,w15,w16,.U] H N R Y:=by
 refine qu (λe=>?_) λe=>?_
 ·exact nP.mk (mJ rfl) (k 1 (by rw[e];rfl))
 ·exact k 0 (by rw[e];rfl)
noncomputable def Ia(b:Bool)(m:Int):Int:=match b with
 |true=>0
 |false=>m
noncomputable def Ir(fb:Int)(u:List Int)(hv:AV)(v:List Int)(lt:Bool):Prop:=(hv = .none∧lt=true)∨(1≤fb∧hv = .bytes (P6 fb [u])∧lt=lets (P6 fb [u]) v (bG fb).toNat)
theorem c43e(f1:fb≤100)(g:Sg v q)(hf:Ir fb u hv v lt)(hb:decide (bf=0)=(!ak u v h q))(k:N [.obj 11 no,.bytes d,.int ma,.tup [.bytes a,.int w],.fl [.tup [.bytes u,.int h]],hv,.int x,.fl [.tup [.bytes k0,.bytes []]],w8,.int i,w10,w11,.tup [.bytes v,.int q],w13,.int (Ia (eA v a q w) ma),Ii (eA v a q w&&(lt&&!ak u v h q)) k0,.int bf,.U] H):
  wpS (Iv c cc (r+3)) (nth tb 8) [.obj 11 no,.bytes d,.int ma,.tup [.bytes a,.int w],.fl [.tup [.bytes u,.int h]],hv,.int x,.fl [.tup [.bytes k0,.bytes []]],w8,.int i,w10,w11,.tup [.bytes v,.int q],w13,.int ma,.none,.int bf,.U] H N R Y:=by
 refine nP.mk rfl (O0 rfl (qu (λe=>?_) λe=>?_))
 ·rw[e] at k
  rw[←hb] at k
  refine qu (λe2=>?_) λe2=>?_
  ·rw[e2,Bool.and_true] at k
   rcases hf with ⟨rfl,rfl⟩ | ⟨b1,rfl,e3⟩
   ·exact nP.mk rfl (O0 rfl (O0 rfl (nP.mk (iD rfl) k)))
   ·have hp:=aj (b:=fb)
    have hn:=bq (k:=1) b1 f1 (by decide)
    refine nP.mk rfl (I9 rfl (nP.mk (by decide) (nP.mk (iD rfl) ?_)))
    refine c31 (p:=(bG fb).toNat) g.o g.l (U0 (ks:=[u]) b1 f1 (x9 1 63)) (by rw[W4];show 2≤N0 1 fb+1;exact b6 (by decide) (b7 hn.1 (d8 _))) (by rw[W4];show N0 1 fb+1≤1000;exact b6 (b7 hn.2 (d8 _)) (by decide)) (iE.trans ((C9 (e6 (by decide) hp.1)).symm)) ((A2 (n:=30)).mpr hp.2) ?_
    rw[←e3]
    cases lt with
    |true=>exact O0 rfl (nP.mk (iD rfl) k)
    |false=>exact I9 rfl k
  ·rw[e2,cq] at k
   exact I9 e2 k
 ·rw[e] at k
  exact k
theorem TT.kz(w:TT H nt no ol d ma ms ia is be ib li fv)(k:Kq [] H H'):TT H' nt no ol d ma ms ia is be ib li fv:=⟨k.dict0 w.d,k.dict0 w.o,k.list0 w.i⟩
theorem OT.kz(w:OT H nt a v k0)(k:Kq [] H H'):OT H' nt a v k0:=⟨w.la,w.lv,w.l0,let ⟨fs,e,q⟩:=w.tf;⟨fs,k.dict0 e,q⟩,λk' q=>w.bi (k.trans0 k') q⟩
noncomputable def HF(fb lg fr:Int)(u:List Int)(j:Nat)(hv fv:AV):Prop:=(hv = .none∧fv = .none)∨(1≤fb∧hv = .bytes (P6 fb [u])∧fv=FR fr (S7 fb lg (gu u j)) lg (C7 fb (gu u j)).length (gu u j).length)
theorem HF.at'(h:HF fb lg fr u j hv fv)(v:List Int):∃lt,Ir fb u hv v lt∧Iu fb lg fr u j fv v lt:=by
 rcases h with ⟨e,g⟩ | ⟨b1,e,g⟩
 ·exact⟨true,.inl ⟨e,rfl⟩,.inl ⟨g,rfl⟩⟩
 ·exact⟨_,.inr ⟨b1,e,rfl⟩,.inr ⟨b1,g,rfl⟩⟩
theorem AW:(if 0≤z then 0 else ma)=Ia (decide (0≤z)) ma:=by
 split
 ·next q=>rw[decide_eq_true q];rfl
 ·next q=>rw[decide_eq_false q];rfl
theorem uF:0-(0-q)=q:=by rw[Z8,Z8,Int.neg_neg]
structure L1(H:Hp)(nt no:Nat)(ol:List (Nat×AV))(d:List Int)(ma ms ia is be:Int)(li:Nat)(u:List Int)(t:Int)(fb lg fr:Int)(j:Nat)(hv fv:AV):Prop where
 w:TT H nt no ol d ma ms ia is be (C0 (ik (E2 u t).1 (E2 u t).2) (X2 0 (F6 (en u t)).length)) li fv
 o:OT H nt (ik (E2 u t).1 (E2 u t).2) (X2 0 (F6 (en u t)).length) (ik u t)
 f:HF fb lg fr u j hv fv
 f1:fb≤100
 g0:0≤lg
 hj:j≤60
 hu:u.length≤5
 ou:B7 u
theorem L1.kz(p:L1 H nt no ol d ma ms ia is be li u t fb lg fr j hv fv)(k:Kq [] H H'):L1 H' nt no ol d ma ms ia is be li u t fb lg fr j hv fv:=⟨p.w.kz k,p.o.kz k,p.f,p.f1,p.g0,p.hj,p.hu,p.ou⟩
theorem s0{I:Itf}(i0:0≤i)(i1:i≤1)(k:N [.obj 11 no,.bytes d,.int ma,tv,.fl hl,hv,.int x,.fl rl,w8,.int i,w10,.int (x+37*i),w12,w13,w14,w15,w16,.U] H):wpS I (nth tb 0) [.obj 11 no,.bytes d,.int ma,tv,.fl hl,hv,.int x,.fl rl,w8,.int i,w10,w11,w12,w13,w14,w15,w16,.U] H N R Y:=nP.mk (⟨(e7 (by decide) i0),(e8 i1 (by decide))⟩) k
theorem s4(hv':v.length≤400)(k:N [.obj 11 no,.bytes d,.int ma,tv,.fl hl,hv,.int x,.fl rl,w8,.int i,w10,w11,.tup [.bytes v,.int q],.bytes (ik v (0-q)),w14,w15,w16,.U] H):wpS (Iv c cc (r+2)) (nth tb 4) [.obj 11 no,.bytes d,.int ma,tv,.fl hl,hv,.int x,.fl rl,w8,.int i,w10,w11,.tup [.bytes v,.int q],w13,w14,w15,w16,.U] H N R Y:=c34 hv' k
theorem s5{I:Itf}(k:N [.obj 11 no,.bytes d,.int ma,tv,.fl hl,hv,.int x,.fl rl,w8,.int i,w10,w11,w12,w13,.int ma,w15,w16,.U] H):wpS I (nth tb 5) [.obj 11 no,.bytes d,.int ma,tv,.fl hl,hv,.int x,.fl rl,w8,.int i,w10,w11,w12,w13,w14,w15,w16,.U] H N R Y:=k
theorem s6{I:Itf}(k:N [.obj 11 no,.bytes d,.int ma,tv,.fl hl,hv,.int x,.fl rl,w8,.int i,w10,w11,w12,w13,w14,.none,w16,.U] H):wpS I (nth tb 6) [.obj 11 no,.bytes d,.int ma,tv,.fl hl,hv,.int x,.fl rl,w8,.int i,w10,w11,w12,w13,w14,w15,w16,.U] H N R Y:=k
theorem c43t(p:L1 H nt no ol d ma ms ia is be li u (0-h) fb lg fr j hv fv)(hx:0≤x)(i0:0≤i)(i1:i≤1)(hh:0≤0-h∧0-h<18446744073709551615)
  (k:∀v q bf H' w11 w12 w14 w15,Sg v q→decide (bf=0)=(!ak u v h q)→Kq [] H H'→N [.obj 11 no,.bytes d,.int ma,.tup [.bytes (E2 u (0-h)).1,.int (0-(E2 u (0-h)).2)],.fl [.tup [.bytes u,.int h]],hv,.int x,.fl [.tup [.bytes (ik u (0-h)),.bytes []]],.bytes (ik u (0-h)),.int i,.obj 21 nt,w11,w12,.bytes (ik v (0-q)),w14,w15,.int bf,.U] H') :
  wpS (Iv c cc (r+9)) tb [.obj 11 no,.bytes d,.int ma,.tup [.bytes (E2 u (0-h)).1,.int (0-(E2 u (0-h)).2)],.fl [.tup [.bytes u,.int h]],hv,.int x,.fl [.tup [.bytes (ik u (0-h)),.bytes []]],.bytes (ik u (0-h)),.int i,.obj 21 nt,w11,w12,w13,w14,w15,w16,.U] H N R Y:=by
 have tl:=b6 (xd (u:=u) (t:=0-h)) p.hu
 have tr:=mc (u:=u) (t:=0-h) ⟨hh.1,by exact e7 hh.2 (by decide)⟩
 have y0:0≤x+37*i:=by exact j4 hx (t8 (e6 (by decide) (g6 _)) (e6 (by decide) i0))
 have lb:(F6 (en u (0-h))).length=u.length+19:=by rw[G5,aQ (by have:=p.hu;exact b6 this (by decide))]
 have hu:=p.hu
 refine A5 (s0 i0 i1 (A5 (c43a y0 λv q g=>A5 (c43b y0 p.hu p.ou hh g λv q g=>A5 (c43c y0 tl (nR p.ou) tr g λv q g=>?_)))))
 refine eX12 (p.f.at' v) λlt f2 f3=>?_
 refine A5 (s4 (b6 g.l (by decide)) (A5 (s5 (A5 (s6 (A5 (c43d λbf hb=>A5 (c43e p.f1 g f2 hb (A5 ?_)))))))))
 have hs:0≤0-q∧0-q<18446744073709551616:=⟨g.a,g.b⟩
 have hz:decide (0≤gb (E2 u (0-h)).1 (E2 u (0-h)).2 v (0-q))=eA v (E2 u (0-h)).1 q (0-(E2 u (0-h)).2):=by rw[qq,rP,uF]
 have hy:decide (0≤gb u (0-h) v (0-q))=!ak u v h q:=by rw[qq,uF,uF]
 refine .mk p.w.d (c107 (g8 _) (j1.mpr (g9 (b6 (j6 lb) (b7 hu (d8 _))) (by decide))) p.o p.w (dR.I tr hs) (dR.I ⟨hh.1,by exact e7 hh.2 (by decide)⟩ hs) f3 p.f1 p.g0 p.hj p.hu p.ou g.l g.o λH1 k1=>?_)
 rw[hz,hy]
 have p1:=p.kz k1
 generalize (eA v (E2 u (0-h)).1 q (0-(E2 u (0-h)).2)&&(lt&&!ak u v h q))=B
 have e1:(decide (ik u (0-h)=ik u (0-h))&&decide (([]:List Int)=[]))=true:=by rw[decide_eq_true rfl];rfl
 cases B
 all_goals
  first | refine nP.mk rfl (I9 rfl ?_) | refine I9 (by rw[e1];rfl) ?_
  refine .mk p1.w.d (c108 (g8 _) (j1.mpr (g9 (b6 (j6 lb) (b7 hu (d8 _))) (by decide))) p1.o p1.w (dR.I tr hs) λH2 k2=>?_)
  rw[AW,hz]
  exact C6 (λn=>n rfl) (k _ _ _ _ _ _ _ _ g hb (k1.trans0 k2))
theorem n1(hu:u.length≤400)(k:N [.obj 11 no,.bytes d,.int ma,tv,.fl [.tup [.bytes u,.int h]],hv,.int x,.fl [.tup [.bytes (ik u (0-h)),.bytes []]],w8,w9,w10,w11,w12,w13,w14,w15,w16,w17] H):wpS (Iv c cc (r+2)) (nth f43.body 1) [.obj 11 no,.bytes d,.int ma,tv,.fl [.tup [.bytes u,.int h]],hv,.int x,w7,w8,w9,w10,w11,w12,w13,w14,w15,w16,w17] H N R Y:=O0 rfl (c34 (u:=u) (h:=h) hu (nP.mk (mJ rfl) k))
theorem JP{I:Itf}(k:N [.obj 11 no,.bytes d,.int ma,tv,.fl [],hv,.int x,.fl [],w8,w9,w10,w11,w12,w13,w14,w15,w16,w17] H):wpS I (nth f43.body 1) [.obj 11 no,.bytes d,.int ma,tv,.fl [],hv,.int x,w7,w8,w9,w10,w11,w12,w13,w14,w15,w16,w17] H N R Y:=k
theorem n2{I:Itf}(k:N [.obj 11 no,.bytes d,.int ma,tv,.fl hl,hv,.int x,w7,.none,w9,w10,w11,w12,w13,w14,w15,w16,w17] H):wpS I (nth f43.body 2) [.obj 11 no,.bytes d,.int ma,tv,.fl hl,hv,.int x,w7,w8,w9,w10,w11,w12,w13,w14,w15,w16,w17] H N R Y:=k
theorem n3{I:Itf}(k:N [.obj 11 no,.bytes d,.int ma,tv,.fl hl,hv,.int x,.fl [.tup [.bytes k0,.bytes []]],.bytes k0,w9,w10,w11,w12,w13,w14,w15,w16,w17] H):wpS I (nth f43.body 3) [.obj 11 no,.bytes d,.int ma,tv,.fl hl,hv,.int x,.fl [.tup [.bytes k0,.bytes []]],w8,w9,w10,w11,w12,w13,w14,w15,w16,w17] H N R Y:=dQ (show (0:Int)<1 by decide) (nP.mk (iD rfl) (nP.mk (by decide) (nP.mk (iD rfl) k)))
theorem JO{I:Itf}(k:N [.obj 11 no,.bytes d,.int ma,tv,.fl hl,hv,.int x,.fl [],w8,w9,w10,w11,w12,w13,w14,w15,w16,w17] H):wpS I (nth f43.body 3) [.obj 11 no,.bytes d,.int ma,tv,.fl hl,hv,.int x,.fl [],w8,w9,w10,w11,w12,w13,w14,w15,w16,w17] H N R Y:=C6 (show ¬(0:Int)<0 by decide) k
end
section
variable{r nt no li j:Nat}{ol:List (Nat×AV)}{d u a v t k0:List Int}{ma ms ia is be h q x bf z y i fb lg fr:Int}{H H':Hp}{K R:KE}{X:XE}{fv hv tv w7 w8 w9 w10 w11 w12 w13 w14 w15 w16 w17:AV}{hl rl:List AV}{N:KN}{Y:XS}
theorem n4(ot:OT H nt a v k0)(w:TT H nt no ol d ma ms ia is be (C0 a v) li fv)(k:∀H',Kq [] H H'→N [.obj 11 no,.bytes d,.int ma,tv,.fl hl,hv,.int x,w7,.bytes k0,w9,.obj 21 nt,w11,w12,w13,w14,w15,w16,w17] H'):wpS (Iv c cc (r+11)) (nth f43.body 4) [.obj 11 no,.bytes d,.int ma,tv,.fl hl,hv,.int x,w7,.bytes k0,w9,.obj 21 nt,w11,w12,w13,w14,w15,w16,w17] H N R Y:=
 c42y (b:=false) ot w λH1 k1=>C6 (λn=>n rfl) (c42y (b:=true) (ot.kz k1) (w.kz k1) λH2 k2=>C6 (λn=>n rfl) (k _ (k1.trans0 k2)))
theorem JN(w:TT H nt no ol d ma ms ia is be [] li fv)(k:∀H',Kq [] H H'→N [.obj 11 no,.bytes d,.int ma,tv,.fl hl,hv,.int x,w7,.none,w9,.obj 21 nt,w11,w12,w13,w14,w15,w16,w17] H'):wpS (Iv c cc (r+11)) (nth f43.body 4) [.obj 11 no,.bytes d,.int ma,tv,.fl hl,hv,.int x,w7,.none,w9,.obj 21 nt,w11,w12,w13,w14,w15,w16,w17] H N R Y:=
 c42n (b:=false) w λH1 k1=>nP.mk rfl (I9 rfl (c42n (b:=true) (w.kz k1) λH2 k2=>nP.mk rfl (I9 rfl (k _ (k1.trans0 k2)))))
theorem n5{I:Itf}(k:wpS I tb [.obj 11 no,.bytes d,.int ma,tv,.fl hl,hv,.int x,w7,w8,.int 0,w10,w11,w12,w13,w14,w15,w16,w17] H (λρ H=>Y5 ρ 9 (.int 1) λρ=>wpS I tb ρ H N R T8) R T8):wpS I (nth f43.body 5) [.obj 11 no,.bytes d,.int ma,tv,.fl hl,hv,.int x,w7,w8,w9,w10,w11,w12,w13,w14,w15,w16,w17] H N R Y:=nP.mk (by decide) k
theorem CS{i:AV}{F:Loc→Prop}(k:F [.obj 11 no,.bytes d,.int ma,tv,.fl hl,hv,.int x,w7,w8,i,w10,w11,w12,w13,w14,w15,w16,w17]):Y5 [.obj 11 no,.bytes d,.int ma,tv,.fl hl,hv,.int x,w7,w8,w9,w10,w11,w12,w13,w14,w15,w16,w17] 9 i F:=k
theorem n6(ot:OT H nt a v k0)(w:TT H nt no ol d ma ms ia is be (C0 a v) li fv)(hc:dR 10 oI a t z)(hd:dR 10 oI k0 t y)(hb:decide (bf=0)=(decide (0≤z)&&decide (0≤y)))(hx:0≤x)(k:∀H',Kq [] H H'→R (.bool true) H'):wpS (Iv c cc (r+23)) (nth f43.body 6) [.obj 11 no,.bytes d,.int ma,tv,.fl hl,hv,.int x,.fl [.tup [.bytes k0,.bytes []]],w8,w9,.obj 21 nt,w11,w12,.bytes t,w14,w15,.int bf,w17] H N R Y:=by
 refine .mk w.d (c106 w λn nO H1 w1 o1=>nP.mk (by decide) (nP.mk (by decide) ?_))
 have p:Q1 H n nO nt li a v k0 false H1:=⟨_,w1,o1⟩
 refine c41 (Iy ot hc hd hb) p rfl (r8 hx (by decide:(0:Int)≤2)) λH' b' p'=>?_
 refine eX22 p'.al λ_ _ w2 _=>?_
 exact k _ w2.k
theorem JM(w:TT H nt no ol d ma ms ia is be [] li fv)(hx:0≤x)(k:∀H',Kq [] H H'→R (.bool true) H'):wpS (Iv c cc (r+23)) (nth f43.body 6) [.obj 11 no,.bytes d,.int ma,tv,.fl hl,hv,.int x,.fl [],w8,w9,.obj 21 nt,w11,w12,.bytes t,w14,w15,.int bf,w17] H N R Y:=by
 refine .mk w.d (c106 w λn nO H1 w1 o1=>nP.mk (by decide) (nP.mk (by decide) ?_))
 have p:Q0 H n nO nt li false H1:=⟨rfl,_,w1,o1⟩
 refine c41 (a:=[]) (v:=[]) (bb:=decide (bf=0)) (Iz) p rfl (r8 hx (by decide:(0:Int)≤2)) λH' b' p'=>?_
 refine eX02 p' λ_ zn1=>?_;clear p';refine eX12 zn1 λ_ w2 _=>?_;clear zn1
 exact k _ w2.k
theorem IR{I:Itf}(k:N [.obj 11 no,.bytes d,.int ma,tv,.fl [],hv,.int x,.fl rl,w8,.int i,w10,w11,w12,w13,w14,w15,w16,.U] H):wpS I (nth tb 2) [.obj 11 no,.bytes d,.int ma,tv,.fl [],hv,.int x,.fl rl,w8,.int i,w10,w11,w12,w13,w14,w15,w16,.U] H N R Y:=C6 (show ¬(0:Int)<0 by decide) (C6 (show ¬(0:Int)<0 by decide) k)
theorem IQ{I:Itf}(k:N [.obj 11 no,.bytes d,.int ma,tv,.fl [],hv,.int x,.fl rl,w8,.int i,w10,w11,w12,w13,w14,w15,w16,.U] H):wpS I (nth tb 3) [.obj 11 no,.bytes d,.int ma,tv,.fl [],hv,.int x,.fl rl,w8,.int i,w10,w11,w12,w13,w14,w15,w16,.U] H N R Y:=C6 (show ¬(0:Int)<0 by decide) (C6 (show ¬(0:Int)<0 by decide) k)
theorem IP{I:Itf}(k:N [.obj 11 no,.bytes d,.int ma,tv,.fl [],hv,.int x,.fl rl,w8,.int i,w10,w11,w12,w13,w14,w15,.int 0,.U] H):wpS I (nth tb 7) [.obj 11 no,.bytes d,.int ma,tv,.fl [],hv,.int x,.fl rl,w8,.int i,w10,w11,w12,w13,w14,w15,w16,.U] H N R Y:=k
theorem IM{I:Itf}(k:N [.obj 11 no,.bytes d,.int ma,.none,.fl hl,hv,.int x,.fl rl,w8,.int i,w10,w11,w12,w13,w14,w15,w16,.U] H):wpS I (nth tb 8) [.obj 11 no,.bytes d,.int ma,.none,.fl hl,hv,.int x,.fl rl,w8,.int i,w10,w11,w12,w13,w14,w15,w16,.U] H N R Y:=nP.mk rfl (I9 rfl (I9 rfl k))
theorem IL{t:List Int}(w:TT H nt no ol d ma ms ia is be [] li fv)(k:∀H',Kq [] H H'→N [.obj 11 no,.bytes d,.int ma,.none,.fl hl,hv,.int x,.fl rl,w8,.int i,.obj 21 nt,w11,w12,.bytes t,.int ma,.none,w16,.U] H'):
  wpS (Iv c cc (r+9)) (nth tb 9) [.obj 11 no,.bytes d,.int ma,.none,.fl hl,hv,.int x,.fl rl,w8,.int i,.obj 21 nt,w11,w12,.bytes t,.int ma,.none,w16,.U] H N R Y:=
 .mk w.d (c107n w λH1 k1=>nP.mk rfl (I9 rfl (.mk (w.kz k1).d (c108n (w.kz k1) λH2 k2=>C6 (λn=>n rfl) (k _ (k1.trans0 k2))))))
theorem c43tn(w:TT H nt no ol d ma ms ia is be [] li fv)(hx:0≤x)(i0:0≤i)(i1:i≤1)
  (k:∀t H' w11 w12 w14 w15,Kq [] H H'→N [.obj 11 no,.bytes d,.int ma,.none,.fl [],hv,.int x,.fl [],.none,.int i,.obj 21 nt,w11,w12,.bytes t,w14,w15,.int 0,.U] H') :
  wpS (Iv c cc (r+9)) tb [.obj 11 no,.bytes d,.int ma,.none,.fl [],hv,.int x,.fl [],.none,.int i,.obj 21 nt,w11,w12,w13,w14,w15,w16,.U] H N R Y:=
 A5 (s0 i0 i1 (A5 (c43a (j4 hx (t8 (e6 (by decide) (g6 _)) (e6 (by decide) i0))) λv q g=>A5 (IR (A5 (IQ (A5 (s4 (b6 g.l (by decide)) (A5 (s5 (A5 (s6 (A5 (IP (A5 (IM (A5 (IL w λH1 k1=>k _ _ _ _ _ _ k1))))))))))))))))))
theorem n0{w7:AV}{P:Nat→Hp→Prop}(op:∀{H1:Hp} {K:KE} {X:XE},Kq [] H H1→(∀nt H',Kq [] H1 H'→P nt H'→K (.obj 21 nt) H')→cc (r+23) 21 [.bytes d,.obj 11 no,fp] H1 K X)
  (k:∀nt H',Kq [] H H'→P nt H'→N [.obj 11 no,.bytes d,.int ma,tv,.fl hl,hv,.int x,w7,w8,w9,.obj 21 nt,w11,w12,w13,w14,w15,w16,w17] H') :
  wpS (Iv c cc (r+23)) (nth f43.body 0) [.obj 11 no,.bytes d,.int ma,tv,.fl hl,hv,.int x,w7,w8,w9,w10,w11,w12,w13,w14,w15,w16,w17] H N R Y:=
 uB λH1 k1=>op k1 λnt H2 k2 p=>k _ _ (k1.trans0 k2) p
theorem c43n(hx:0≤x)(op:∀{H1:Hp} {K:KE} {X:XE},Kq [] H H1→(∀nt H',Kq [] H1 H'→(∃li,TT H' nt no ol d ma ms ia is be [] li fv)→K (.obj 21 nt) H')→cc (r+23) 21 [.bytes d,.obj 11 no,fp] H1 K X)
  (k:∀H',Kq [] H H'→K (.bool true) H'):c (r+24) 43 [.obj 11 no,.bytes d,.int ma,.none,.fl [],hv,.int x] H K X:=by
 refine L.call rfl ?_
 have go:wpS (Iv c cc (r+23)) f43.body [.obj 11 no,.bytes d,.int ma,.none,.fl [],hv,.int x,.U,.U,.U,.U,.U,.U,.U,.U,.U,.U,.U] H (λ_ H=>K .none H) K λc _ H=>X c H:=by
  refine A5 (n0 op λnt H1 k1 ⟨li,w⟩=>A5 (JP (A5 (n2 (A5 (JO (A5 (JN w λH2 k2=>A5 (n5 ?_)))))))))
  have w2:=w.kz k2
  refine c43tn w2 hx (g6 0) (by decide) λt H3 v11 v12 v14 v15 k3=>CS (c43tn (w2.kz k3) hx (by decide) (by decide) λt H4 v11 v12 v14 v15 k4=>A5 (JM ((w2.kz k3).kz k4) hx λH5 k5=>?_))
  exact k _ ((((k1.trans0 k2).trans0 k3).trans0 k4).trans0 k5)
 exact go
theorem c43(hx:0≤x)(hh:0≤0-h∧0-h<18446744073709551615)(op:∀{H1:Hp} {K:KE} {X:XE},Kq [] H H1→(∀nt H',Kq [] H1 H'→(∃ms ia is be li fv,L1 H' nt no ol d ma ms ia is be li u (0-h) fb lg fr j hv fv)→K (.obj 21 nt) H')→cc (r+23) 21 [.bytes d,.obj 11 no,fp] H1 K X)(hu:u.length≤5)
  (k:∀H',Kq [] H H'→K (.bool true) H'):c (r+24) 43 [.obj 11 no,.bytes d,.int ma,.tup [.bytes (E2 u (0-h)).1,.int (0-(E2 u (0-h)).2)],.fl [.tup [.bytes u,.int h]],hv,.int x] H K X:=by
 have tr:=mc (u:=u) (t:=0-h) ⟨hh.1,by exact e7 hh.2 (by decide)⟩
 refine L.call rfl ?_
 have go:wpS (Iv c cc (r+23)) f43.body [.obj 11 no,.bytes d,.int ma,.tup [.bytes (E2 u (0-h)).1,.int (0-(E2 u (0-h)).2)],.fl [.tup [.bytes u,.int h]],hv,.int x,.U,.U,.U,.U,.U,.U,.U,.U,.U,.U,.U] H (λ_ H=>K .none H) K λc _ H=>X c H:=by
  refine A5 (n0 op λnt H1 k1 ⟨_,_,_,_,li,_,p⟩=>A5 (n1 (b6 hu (by decide)) (A5 (n2 (A5 (n3 (A5 (n4 p.o p.w λH2 k2=>A5 (n5 ?_)))))))))
  have p2:=p.kz k2
  refine c43t p2 hx (g6 0) (by decide) hh λv q bf H3 v11 v12 v14 v15 g hb k3=>CS (c43t (p2.kz k3) hx (by decide) (by decide) hh λv q bf H4 v11 v12 v14 v15 g hb k4=>A5 ?_)
  have p4:=(p2.kz k3).kz k4
  have hs:0≤0-q∧0-q<18446744073709551616:=⟨g.a,g.b⟩
  have hy:decide (0≤gb u (0-h) v (0-q))=!ak u v h q:=by rw[qq,uF,uF]
  refine n6 p4.o p4.w (dR.I tr hs) (dR.I ⟨hh.1,by exact e7 hh.2 (by decide)⟩ hs) ?_ hx λH5 k5=>?_
  ·rw[hb,←hy]
   cases e:decide (0≤gb u (0-h) v (0-q)) with
   |true=>rw[decide_eq_true (Aw (of_decide_eq_true e))];rfl
   |false=>rw[cq]
  ·exact k _ ((((k1.trans0 k2).trans0 k3).trans0 k4).trans0 k5)
 exact go
end
section
variable{r nt no j n:Nat}{d u l is:List Int}{ck bs iv fb lg fr l' t h x i e g ma a b:Int}{pr cr:Bool}{H H':Hp}{K R:KE}{X:XE}{hv tv w0 w1 w2 w3 w4 w5 w6 w7 w8 w9 w10 w11 w12 w13 w14 w15 w16 w17 w18 w19 w20 w21:AV}{hl:List AV}{I:Itf}{N:KN}{Y:XS}
theorem tG{out ib:List Int}{cs:List (List (List Int))}(hz:out.length≤100)(hs:(S7 fb lg cs).length≤900)(hil:ib.length≤100):Small4 (t1 ck fb lg out cs).length (F6 (N1 fb lg out cs)).length (t2 ck fb lg out cs).length (F6 ib).length:=by
 have mr:=jm (lg:=lg) hz hs
 have ml:=G5 (e:=N1 fb lg out cs)
 have bl:=G5 (e:=ib)
 have l1:=pP (ck:=ck) hz hs
 have l2:(t2 ck fb lg out cs).length≤1100:=by unfold t2;rw[d6,K2,ml];exact b6 (b7 l1 (b7 (b7 mr.2 (d8 _)) (d8 _))) (by decide)
 exact⟨⟨g8 _,by exact j1.mpr (g9 l1 (by decide))⟩,⟨g8 _,by exact j1.mpr (g9 (b6 (j6 ml) (b7 mr.2 (d8 _))) (by decide))⟩,⟨g8 _,by exact j1.mpr (g9 l2 (by decide))⟩,⟨g8 _,by exact j1.mpr (g9 (b6 (j6 bl) (b7 hil (d8 _))) (by decide))⟩⟩
theorem JB(hck:ck=1∨ck=2)(g0:0≤lg)(g1:lg≤31)(f1:fb≤100)(ho:get H no = .dict (G7 ck bs iv fr l' pr))
  (k:∀nt H',Kq [] H H'→(∃li,TT H' nt no (G7 ck bs iv fr l' pr) (AC ck fb lg) (t1 ck fb lg [] []).length (F6 (N1 fb lg [] [])).length (t2 ck fb lg [] []).length (F6 []).length ((t2 ck fb lg [] []).length+(F6 []).length+5) [] li (Cs fb lg fr []))→K (.obj 21 nt) H'):cc (r+11) 21 [.bytes (AC ck fb lg),.obj 11 no,fp] H K X:=
 c101 (cs:=[]) (out:=[]) (ib:=[]) hck g0 g1 f1 lR (j9 _) (j9 _) (b6 hW (by decide)) (λ_=>jg g0 g1 B7.nil) (Z6 B7.nil) (j9 _) ho rfl (tG (j9 _) (b6 hW (by decide)) (j9 _))
  (λw gm k=>c112n rG rfl w.i w.d gm (b6 hW (by decide)) (λq=>by unfold t1;rw[if_neg (G0.mpr (e8 q (by decide)))];rfl) k)
  λn li H' k' w=>k n H' k' ⟨li,w⟩
theorem vm{a s:Int}{ln:Int}:sC (HD a s) u t ln=C0 (ik (E2 u t).1 (E2 u t).2) (X2 0 ln):=if_neg nofun
noncomputable def Cr(fb fr:Int)(u:List Int):AV:=if 1≤fr∧1≤fb then .bytes (P6 fb [u]) else .none
theorem JA(hck:ck=1∨ck=2)(g0:0≤lg)(g1:lg≤31)(f1:fb≤100)(hu:u.length≤5)(ou:B7 u)(ht:0≤t∧t<18446744073709551616)(h2:t%256≤1)(hh:hv=Cr fb fr u)(ho:get H no = .dict (G7 ck bs iv fr l' pr)){ma:Int}(em:ma=(t1 ck fb lg (o0 ck u t) (gu u (I6 lg (o0 ck u t)))).length)
  (k:∀nt H',Kq [] H H'→(∃ms ia is be li fv,L1 H' nt no (G7 ck bs iv fr l' pr) (xf ck fb lg u t) ma ms ia is be li u t fb lg fr (I6 lg (o0 ck u t)) hv fv)→K (.obj 21 nt) H'):cc (r+11) 21 [.bytes (xf ck fb lg u t),.obj 11 no,fp] H K X:=by
 have lo:=ip (ck:=ck) (t:=t) (show u.length≤40 by exact b6 hu (by decide))
 have hj:I6 lg (o0 ck u t)≤60:=b6 gg (b6 (b6 (j6 lo) (b7 hu (d8 _))) (by decide))
 have ib:=qh (wt:=HD 0 (F6 (en u t)).length) (t:=t) ou (b6 hu (by decide)) (g8 (F6 (en u t)).length) (by rw[G5,aQ (b6 hu (by decide))];exact j1.mpr (g9 (b7 (b7 hu (d8 _)) (d8 _)) (by decide)))
 rw[vm] at ib
 have sp:=mj (u:=u) (lg:=lg) f1 hj
 have e3:(o0 ck u t).length≤(t1 ck fb lg (o0 ck u t) (gu u (I6 lg (o0 ck u t)))).length:=by
  unfold t1;split
  ·rw[d6];exact u3 _ _
  ·exact d8 _
 have e4:((o0 ck u t).length:Int)≤(t2 ck fb lg (o0 ck u t) (gu u (I6 lg (o0 ck u t)))).length+(F6 (C0 (ik (E2 u t).1 (E2 u t).2) (X2 0 (F6 (en u t)).length))).length+5:=by unfold t2;rw[d6];lia -abstractProof
 have hd:Has (xf ck fb lg u t) 0 (o0 ck u t):=Ay Has.self
 have hf:HF fb lg fr u (I6 lg (o0 ck u t)) (Cr fb fr u) (Cs fb lg fr (gu u (I6 lg (o0 ck u t)))):=by
  unfold Cs Cr
  by_cases q:1≤fr∧1≤fb
  ·rw[if_pos q,if_pos q];exact .inr ⟨q.2,rfl,rfl⟩
  ·rw[if_neg q,if_neg q];exact .inl ⟨rfl,rfl⟩
 subst em hh
 refine c101 (cs:=gu u (I6 lg (o0 ck u t))) (out:=o0 ck u t) (ib:=C0 (ik (E2 u t).1 (E2 u t).2) (X2 0 (F6 (en u t)).length)) hck g0 g1 f1 (gq hu ou) (by rw[gk];exact v5 (N6 hj 1) 1) (b6 (b6 (j6 lo) (b7 hu (d8 _))) (by decide)) (b6 sp (by decide)) (λb1=>mi b1 f1 g0 g1) ib.1 (b6 ib.2 (by decide)) ho (by unfold xf;rw[vm]) (tG (b6 (b6 (j6 lo) (b7 hu (d8 _))) (by decide)) (b6 sp (by decide)) (b6 ib.2 (by decide))) (λw gm k=>?_)
  λn li H' k' w=>k n H' k' ⟨_,_,_,_,li,_,w,w.ot hck hu ou hd e4,hf,f1,g0,hj,hu,ou⟩
 exact c112 (j:=I6 lg (o0 ck u t)) rG rfl w.i w.d w.o hck gm rfl (hf.imp (λq=>q.2) λq=>⟨q.1,q.2.2⟩) f1 g0 hj hu ou ht h2 (b6 sp (by decide)) (λq=>by unfold t1;rw[if_neg (G0.mpr (e8 q (by decide)))]) hd e4 k
structure TU(i fb lg:Int)(u:List Int)(cr:Bool)(hl:List AV)(D:List Int)(ma:Int)(tv:AV):Prop where
 tb:∀{r:Nat} {H:Hp} {K:KE} {X:XE},(∀H',Kq [] H H'→K (.tup [.bytes D,.int ma,tv]) H')→c (r+5) 35 [.tup [.bool cr,.int fb,.int lg],.fl hl] H K X
 bu:∀{r no:Nat} {bs iv x:Int} {pr:Bool} {H:Hp} {K:KE} {X:XE},1≤iv→0≤x→get H no = .dict (G7 (kd cr) bs iv fb lg pr)→(∀H',Kq [] H H'→K (.bytes D) H')→c (r+13) 38 [.obj 11 no,.fl hl,.int x] H K X
 go:∀{r no:Nat} {bs iv x:Int} {pr:Bool} {H:Hp} {K:KE} {X:XE},1≤iv→0≤x→get H no = .dict (G7 (kd cr) bs iv fb lg pr)→(∀n H',(∀{r:Nat} {d:List Int} {K:KE} {X:XE},(∀H'' Y6,get H'' no = .dict (G7 (kd cr) bs iv fb lg pr)→TD H'' n [] Y6→K (.int 0) H'')→c (r+2) 36 [.obj 20 n,.int 2,.bytes d] H' K X)→K (.obj 20 n) H')→c (r+12) 37 [.obj 11 no,.fl hl,.int x] H K X
 op:∀{r no:Nat} {bs iv fr l' x:Int} {pr:Bool} {hv:AV} {H:Hp} {K:KE} {X:XE},0≤x→(i=1→hv=Cr fb fr u)→get H no = .dict (G7 (kd cr) bs iv fr l' pr)→(∀H',Kq [] H H'→K (.bool true) H')→c (r+24) 43 [.obj 11 no,.bytes D,.int ma,tv,.fl hl,hv,.int x] H K X
theorem IF(g0:0≤lg)(g1:lg≤31)(f1:fb≤100):TU 0 fb lg u cr [] (AC (kd cr) fb lg) (t1 (kd cr) fb lg [] []).length .none where
 tb k:=c35n g0 g1 f1 k
 bu i1 hx ho k:=c38n ⟨lO,g0,g1,f1,i1⟩ hx ho k
 go i1 hx ho k:=c37n ⟨lO,g0,g1,f1,i1⟩ hx ho λn H' w=>k n H' λq=>EP w λH'' o td=>q _ _ o.g0 td
 op hx _ ho k:=c43n hx (λk1 q=>JB (r:=_+12) lO g0 g1 f1 (k1.dict0 ho) q) k
theorem IE(g0:0≤lg)(g1:lg≤31)(f1:fb≤100)(hu:u.length≤5)(ou:B7 u)(hh:0≤0-h∧0-h<18446744073709551615)(h2:(0-h)%256≤1):
  TU 1 fb lg u cr [.tup [.bytes u,.int h]] (xf (kd cr) fb lg u (0-h)) (t1 (kd cr) fb lg (o0 (kd cr) u (0-h)) (gu u (I6 lg (o0 (kd cr) u (0-h))))).length (.tup [.bytes (E2 u (0-h)).1,.int (0-(E2 u (0-h)).2)]) where
 tb k:=c35 g0 g1 f1 hu ou k
 bu i1 hx ho k:=c38 ⟨lO,g0,g1,f1,i1⟩ hx hu ou hh ho k
 go i1 hx ho k:=c37 ⟨lO,g0,g1,f1,i1⟩ hx hu ou hh ho λn H' w=>k n H' λq=>w.elim (λw=>EP w.2 λH'' o td=>q _ _ o.g0 td) λw=>EP w.2 λH'' o td=>q _ _ o.g0 td
 op hx hv ho k:=c43 hx hh (λk1 q=>JA (r:=_+12) lO g0 g1 f1 hu ou ⟨hh.1,by exact e7 hh.2 (by decide)⟩ h2 (hv rfl) (k1.dict0 ho) rfl q) hu k
noncomputable def lb:T:=body (nth f47.body 10)
noncomputable def ab:T:=body (nth lb 11)
theorem a0(g0:0≤g)(ho:get H no = .dict (G7 ck bs iv fr l' pr))(k:∀H' pr,get H' no = .dict (G7 ck bs iv fr l' pr)→N [w0,.fl (l.map .int),w2,w3,.int e,.int fb,.int lg,.bytes u,w8,.int i,w10,w11,.fl hl,.obj 11 no,.int g,w15,.bytes d,.int ma,tv,w19,w20,w21] H'):wpS (Iv c cc r) (nth ab 0) [w0,.fl (l.map .int),w2,w3,.int e,.int fb,.int lg,.bytes u,w8,.int i,w10,w11,.fl hl,.obj 11 no,.int g,w15,.bytes d,.int ma,tv,w19,w20,w21] H N R Y:=by
 have h:Own [no] H H [_]:=Own.one ho
 walk_at "m"
 rename_i h1
 exact k _ _ h1.g0
theorem KW{y:Int}:∃v,[AV.int 0,AV.int 7,AV.int 40].getD (y%3).toNat .U = .int v:=Z5 (p:=λx=>∃v,x = .int v) (n:=3) rfl (by decide) (Y2 ⟨_,rfl⟩ (Y2 ⟨_,rfl⟩ (Y2 ⟨_,rfl⟩ nofun)))
theorem a1(ho:get H no = .dict (G7 ck bs iv fr l' pr))(k:∀H' fr l',get H' no = .dict (G7 ck bs iv fr l' pr)→N [w0,.fl (l.map .int),w2,w3,.int e,.int fb,.int lg,.bytes u,w8,.int i,w10,w11,.fl hl,.obj 11 no,.int g,w15,.bytes d,.int ma,tv,w19,w20,w21] H'):wpS (Iv c cc r) (nth ab 1) [w0,.fl (l.map .int),w2,w3,.int e,.int fb,.int lg,.bytes u,w8,.int i,w10,w11,.fl hl,.obj 11 no,.int g,w15,.bytes d,.int ma,tv,w19,w20,w21] H N R Y:=by
 refine R7 (λq=>?_) λq=>k _ _ _ ho
 have h:Own [no] H H [_]:=Own.one ho
 refine nP.mk (by decide) (nP.mk (by decide) (nP.mk (by decide) (nP.mk (bj (n:=3) rfl ⟨j5 _ (by decide),j7 _ (by decide)⟩) ?_)))
 refine eX11 (KW (y:=e/144)) λv ev=>?_
 rw[ev]
 walk_at "m"
 rename_i h1
 exact k _ _ _ h1.g0
theorem a2(k:N [w0,.fl (l.map .int),w2,w3,.int e,.int fb,.int lg,.bytes u,w8,.int i,w10,w11,.fl hl,.obj 11 no,w14,w15,.bytes d,.int ma,tv,w19,w20,.none] H):wpS I (nth ab 2) [w0,.fl (l.map .int),w2,w3,.int e,.int fb,.int lg,.bytes u,w8,.int i,w10,w11,.fl hl,.obj 11 no,w14,w15,.bytes d,.int ma,tv,w19,w20,w21] H N R Y:=k
theorem a3(f1:fb≤100)(hu:u.length≤5)(ou:B7 u)(ho:get H no = .dict (G7 ck bs iv fr l' pr))(k:∀H' hv,Kq [] H H'→P3 hv=false→(i=1→hv=Cr fb fr u)→N [w0,.fl (l.map .int),w2,w3,.int e,.int fb,.int lg,.bytes u,w8,.int i,w10,w11,.fl hl,.obj 11 no,w14,w15,.bytes d,.int ma,tv,w19,w20,hv] H'):wpS (Iv c cc (r+2)) (nth ab 3) [w0,.fl (l.map .int),w2,w3,.int e,.int fb,.int lg,.bytes u,w8,.int i,w10,w11,.fl hl,.obj 11 no,w14,w15,.bytes d,.int ma,tv,w19,w20,.none] H N R Y:=by
 refine R7 (λb1=>.mk ho (R7 (λq=>R7 (λq1=>?_) λq1=>?_) λq=>?_)) λb1=>?_
 ·refine(c30 (ks:=[u]) (u0 b1) f1 (λd m=>by rw[i6.mp m];exact⟨ou,hu⟩) (x9 1 63) (.inl rfl) λH' k'=>?_)
  exact k _ _ k' rfl λ_=>(if_pos (show 1≤fr∧1≤fb from ⟨by exact u0 q,by exact u0 b1⟩)).symm
 ·exact k _ _ Kq.refl rfl λz=>absurd z q1
 ·exact C6 q (k _ _ Kq.refl rfl λ_=>(if_neg λz=>q (e7 (by decide) z.1)).symm)
 ·exact C6 b1 (k _ _ Kq.refl rfl λ_=>(if_neg λz=>b1 (e7 (by decide) z.2)).symm)
structure Nm(l:List Int):Prop where
 h:∀x∈l,0≤x∧x<1000000
 a:0<l.length
 b:l.length≤9
theorem FE{F:AV→Prop}(h:P3 tv=false)(k:F tv):gG [w0,.fl (l.map .int),w2,w3,.int e,.int fb,.int lg,.bytes u,w8,.int i,w10,w11,.fl hl,.obj 11 no,.int g,w15,.bytes d,.int ma,tv,w19,w20,hv] 18 F:=by
 revert h k
 cases tv<;>intro h k<;>first | exact k | cases h
theorem FD{F:AV→Prop}(h:P3 hv=false)(k:F hv):gG [w0,.fl (l.map .int),w2,w3,.int e,.int fb,.int lg,.bytes u,w8,.int i,w10,w11,.fl hl,.obj 11 no,.int g,w15,.bytes d,.int ma,tv,w19,w20,hv] 21 F:=by
 revert h k
 cases hv<;>intro h k<;>first | exact k | cases h
theorem a4(nm:Nm l)(i0:0≤i)(i1:i≤1)(g0:0≤g)(g1:g≤1)(tu:TU i fb lg u cr hl d ma tv)(ho:get H no = .dict (G7 (kd cr) bs iv fr l' pr))(ut:P3 tv=false)(uh:P3 hv=false)(hh:i=1→hv=Cr fb fr u)(k:∀H',Kq [] H H'→N [w0,.fl (l.map .int),w2,w3,.int e,.int fb,.int lg,.bytes u,w8,.int i,w10,w11,.fl hl,.obj 11 no,.int g,w15,.bytes d,.int ma,tv,w19,w20,hv] H'):wpS (Iv c cc (r+24)) (nth ab 4) [w0,.fl (l.map .int),w2,w3,.int e,.int fb,.int lg,.bytes u,w8,.int i,w10,w11,.fl hl,.obj 11 no,.int g,w15,.bytes d,.int ma,tv,w19,w20,hv] H N R Y:=by
 refine FE (w0:=w0) (l:=l) (w2:=w2) (w3:=w3) (e:=e) (fb:=fb) (lg:=lg) (u:=u) (w8:=w8) (i:=i) (w10:=w10) (w11:=w11) (hl:=hl) (no:=no) (g:=g) (w15:=w15) (d:=d) (ma:=ma) (tv:=tv) (w19:=w19) (w20:=w20) (hv:=hv) ut ?_
 refine FD (w0:=w0) (l:=l) (w2:=w2) (w3:=w3) (e:=e) (fb:=fb) (lg:=lg) (u:=u) (w8:=w8) (i:=i) (w10:=w10) (w11:=w11) (hl:=hl) (no:=no) (g:=g) (w15:=w15) (d:=d) (ma:=ma) (tv:=tv) (w19:=w19) (w20:=w20) (hv:=hv) uh ?_
 refine nP.mk (⟨(e7 (by decide) i0),(e8 i1 (by decide))⟩) (c24 nm.h nm.a nm.b (e6 (by decide) (j4 (j4 (g6 _) (t8 (e6 (by decide) (g6 _)) (e6 (by decide) i0))) g0)) (e6 (j4 (j4 (g6 _) (A7 (g6 _) i1 (e6 (by decide) i0) (by decide))) g1) (by decide)) λv v0 v1=>?_)
 exact tu.op v0 hh ho λH' k'=>I9 rfl (k _ k')
theorem c47a(nm:Nm l)(i0:0≤i)(i1:i≤1)(g0:0≤g)(g1:g≤1)(tu:TU i fb lg u cr hl d ma tv)(f1:fb≤100)(hu:u.length≤5)(ou:B7 u)(ut:P3 tv=false)(ho:get H no = .dict (G7 (kd cr) bs iv fr l' pr))(k:∀H' fr l' pr w21,get H' no = .dict (G7 (kd cr) bs iv fr l' pr)→N [w0,.fl (l.map .int),w2,w3,.int e,.int fb,.int lg,.bytes u,w8,.int i,w10,w11,.fl hl,.obj 11 no,.int g,w15,.bytes d,.int ma,tv,w19,w20,w21] H'):wpS (Iv c cc (r+24)) ab [w0,.fl (l.map .int),w2,w3,.int e,.int fb,.int lg,.bytes u,w8,.int i,w10,w11,.fl hl,.obj 11 no,.int g,w15,.bytes d,.int ma,tv,w19,w20,w21] H N R Y:=
 A5 (a0 g0 ho λH1 _ h1=>A5 (a1 h1 λH2 _ _ h2=>A5 (a2 (A5 (a3 f1 hu ou h2 λH3 hv k3 uh hh=>A5 (a4 nm i0 i1 g0 g1 tu (k3.dict0 h2) ut uh hh λH4 k4=>k _ _ _ _ _ (k4.dict0 (k3.dict0 h2))))))))
theorem uc{v:AV}{F:Loc→Prop}(k:F [w0,.fl (l.map .int),w2,w3,.int e,.int fb,.int lg,.bytes u,w8,.int i,w10,w11,.fl hl,.obj 11 no,v,w15,.bytes d,.int ma,tv,w19,w20,w21]):Y5 [w0,.fl (l.map .int),w2,w3,.int e,.int fb,.int lg,.bytes u,w8,.int i,w10,w11,.fl hl,.obj 11 no,w14,w15,.bytes d,.int ma,tv,w19,w20,w21] 14 v F:=k
theorem vM{x:Nat}{ihb:Loc→Hp→KN→Prop}{v:AV}{r:List AV}{ρ:Loc}(h:Y5 ρ x v λρ=>ihb ρ H (ar [x] none ihb N r)):ar [x] none ihb N (v::r) ρ H:=h
theorem Ai{xs:List Nat}{ihb:Loc→Hp→KN→Prop}{ρ:Loc}(h:N ρ H):ar xs none ihb N [] ρ H:=h
theorem FI{Inv:Hp→Prop}(i0:0≤i)(h0:Inv H)(step:∀(g:Int) (w21:AV) (H:Hp) (M:KN),0≤g→g≤1→Inv H→(∀H' w21,Inv H'→M [w0,.fl (l.map .int),w2,w3,.int e,.int fb,.int lg,.bytes u,w8,.int i,w10,w11,.fl hl,.obj 11 no,.int g,w15,.bytes d,.int ma,tv,w19,w20,w21] H')→wpS I ab [w0,.fl (l.map .int),w2,w3,.int e,.int fb,.int lg,.bytes u,w8,.int i,w10,w11,.fl hl,.obj 11 no,.int g,w15,.bytes d,.int ma,tv,w19,w20,w21] H M R T8)
  (k:∀H' w14 w21,Inv H'→N [w0,.fl (l.map .int),w2,w3,.int e,.int fb,.int lg,.bytes u,w8,.int i,w10,w11,.fl hl,.obj 11 no,w14,w15,.bytes d,.int ma,tv,w19,w20,w21] H'):wpS I (nth lb 11) [w0,.fl (l.map .int),w2,w3,.int e,.int fb,.int lg,.bytes u,w8,.int i,w10,w11,.fl hl,.obj 11 no,w14,w15,.bytes d,.int ma,tv,w19,w20,w21] H N R Y:=by
 have e2:1+(e/3+i)%2=1∨1+(e/3+i)%2=2:=(Int.emod_two_eq (e/3+i)).imp (congrArg (1 + ·)) (congrArg (1 + ·))
 refine nP.mk (by decide) (nP.mk (by decide) (nP.mk (by decide) (nP.mk (⟨(e7 (by decide) (j4 (g6 _) (j5 _ (by decide)))),(e8 (j4 (g6 _) (i5 (j7 _ (by decide)))) (by decide))⟩) ?_)))
 rcases e2 with q | q<;>rw[q]
 ·refine vM (uc ?_)
  refine step 0 _ _ _ (by decide) (by decide) h0 λH1 w21 h1=>?_
  exact Ai (k _ _ _ h1)
 ·refine vM (uc ?_)
  refine step 0 _ _ _ (by decide) (by decide) h0 λH1 w21 h1=>?_
  refine vM (uc ?_)
  refine step 1 _ _ _ (by decide) (by decide) h1 λH2 w21 h2=>?_
  exact Ai (k _ _ _ h2)
theorem zl{p:AV→Prop}{a b c d e f:AV}(h1:p a)(h2:p b)(h3:p c)(h4:p d)(h5:p e)(h6:p f):∀x∈[a,b,c,d,e,f],p x:=Y2 h1 (Y2 h2 (Y2 h3 (Y2 h4 (Y2 h5 (Y2 h6 nofun)))))
theorem KS{y:Int}:∃v,[AV.int 4096,AV.int 1,AV.int 18,AV.int 19,AV.int 20,AV.int 21,AV.int 22,AV.int 23].getD (y%8).toNat .U = .int v:=Z5 (p:=λx=>∃v,x = .int v) (n:=8) rfl (by decide) (Y2 ⟨_,rfl⟩ (Y2 ⟨_,rfl⟩ (zl ⟨_,rfl⟩ ⟨_,rfl⟩ ⟨_,rfl⟩ ⟨_,rfl⟩ ⟨_,rfl⟩ ⟨_,rfl⟩)))
theorem l0{ks:List AV}(i0:0≤i)(q:cut ks 0 i=hl)(k:N [w0,.fl (l.map .int),w2,w3,.int e,.int fb,.int lg,.bytes u,.fl ks,.int i,w10,w11,.fl hl,w13,w14,w15,w16,w17,w18,w19,w20,w21] H):wpS I (nth lb 0) [w0,.fl (l.map .int),w2,w3,.int e,.int fb,.int lg,.bytes u,.fl ks,.int i,w10,w11,w12,w13,w14,w15,w16,w17,w18,w19,w20,w21] H N R Y:=by
 subst q
 exact nP.mk rfl (nP.mk i0 k)
theorem lA(i0:0≤i)(i1:i≤1)(e0:0≤e)(k:∀no bs iv cr H',1≤iv→get H' no = .dict (G7 (kd cr) bs iv fb lg false)→wpS (Iv c cc (r+2)) (S2 lb 8) [w0,.fl (l.map .int),w2,w3,.int e,.int fb,.int lg,.bytes u,w8,.int i,w10,w11,.fl hl,.obj 11 no,w14,w15,w16,w17,w18,w19,w20,w21] H' N R Y):wpS (Iv c cc (r+2)) (S2 lb 1) [w0,.fl (l.map .int),w2,w3,.int e,.int fb,.int lg,.bytes u,w8,.int i,w10,w11,.fl hl,w13,w14,w15,w16,w17,w18,w19,w20,w21] H N R Y:=by
 have v0:0≤e/8%3:=j5 _ (by decide)
 refine xI λno H1 h1=>?_
 refine nP.mk (e7 (by decide) (j4 (g6 _) i0)) (nP.mk (⟨(e7 (by decide) (j4 (g6 _) i0)),(e8 (j4 (g6 _) i1) (by decide))⟩) (nP.mk (by decide) (nP.mk (bj (n:=8) rfl ⟨j5 _ (by decide),j7 _ (by decide)⟩) ?_)))
 refine eX11 (KS (y:=e/(1+i))) λv ev=>?_
 rw[ev]
 walk_at "m"
 rename_i h2
 refine R7 (λq=>?_) λq=>C6 q ?_
 ·refine nP.mk (by decide) (nP.mk (by decide) (nP.mk (by decide) (R7 (λq2=>?_) λq2=>?_)))
  ·refine .mk h2.g0 (nP.mk (mK rfl) (Own.w0 h2 dN λH3 h3=>?_))
   exact k no v _ true _ (j4 (g6 _) (j5 _ (by decide))) h3.g0
  ·exact k no v _ false _ (j4 (g6 _) (j5 _ (by decide))) h2.g0
 ·exact k no v _ false _ (j4 (g6 _) (j5 _ (by decide))) h2.g0
theorem l8(tu:TU i fb lg u cr hl d ma tv)(ho:get H no = .dict (G7 (kd cr) bs iv fb lg pr))(k:∀H',Kq [] H H'→N [w0,.fl (l.map .int),w2,w3,.int e,.int fb,.int lg,.bytes u,w8,.int i,w10,w11,.fl hl,.obj 11 no,w14,w15,.bytes d,.int ma,tv,w19,w20,w21] H'):wpS (Iv c cc (r+5)) (nth lb 8) [w0,.fl (l.map .int),w2,w3,.int e,.int fb,.int lg,.bytes u,w8,.int i,w10,w11,.fl hl,.obj 11 no,w14,w15,w16,w17,w18,w19,w20,w21] H N R Y:=by
 refine .mk ho ?_
 have kd1:decide (kd cr=1)=cr:=by cases cr<;>rfl
 show c (r+5) 35 [.tup [.bool (decide (kd cr=1)),.int fb,.int lg],.fl hl] H _ _
 rw[kd1]
 exact tu.tb λH' k'=>nP.mk rfl (k _ k')
theorem l9(i0:0≤i)(e0:0≤e)(v1:1≤iv)(tu:TU i fb lg u cr hl d ma tv)(ho:get H no = .dict (G7 (kd cr) bs iv fb lg pr))(k:∀H',Kq [] H H'→N [w0,.fl (l.map .int),w2,w3,.int e,.int fb,.int lg,.bytes u,w8,.int i,w10,w11,.fl hl,.obj 11 no,w14,w15,.bytes d,.int ma,tv,w19,w20,w21] H'):wpS (Iv c cc (r+13)) (nth lb 9) [w0,.fl (l.map .int),w2,w3,.int e,.int fb,.int lg,.bytes u,w8,.int i,w10,w11,.fl hl,.obj 11 no,w14,w15,.bytes d,.int ma,tv,w19,w20,w21] H N R Y:=
 nP.mk (by decide) (nP.mk (by decide) (tu.bu v1 (j4 (r8 e0 (by decide)) i0) ho λH' k'=>C6 (λn=>n rfl) (k _ k')))
theorem JR(e0:0≤e)(v1:1≤iv)(tu:TU i fb lg u cr hl d ma tv)(ho:get H no = .dict (G7 (kd cr) bs iv fb lg pr))(k:∀H' w19 w20,get H' no = .dict (G7 (kd cr) bs iv fb lg pr)→N [w0,.fl (l.map .int),w2,w3,.int e,.int fb,.int lg,.bytes u,w8,.int i,w10,w11,.fl hl,.obj 11 no,w14,w15,.bytes d,.int ma,tv,w19,w20,w21] H'):wpS (Iv c cc (r+12)) (nth lb 10) [w0,.fl (l.map .int),w2,w3,.int e,.int fb,.int lg,.bytes u,w8,.int i,w10,w11,.fl hl,.obj 11 no,w14,w15,.bytes d,.int ma,tv,w19,w20,w21] H N R Y:=by
 refine nP.mk (by decide) (nP.mk (by decide) (nP.mk (by decide) (R7 (λq=>?_) λq=>k _ _ _ ho)))
 refine nP.mk (by decide) (nP.mk (by decide) (tu.go v1 (r8 e0 (by decide)) ho λn H1 q=>?_))
 refine nP.mk rfl (I9 rfl (q λH2 Y6 g2 td=>C6 (λn=>n rfl) ?_))
 obtain⟨_,o,_,_,_,_,_,hn,hO⟩:=id td
 refine .mk hn (c94 hn hO (C6 (λn=>n rfl) ?_))
 refine nP.mk (by decide) (nP.mk (by decide) (HZ td (C6 (λn=>n rfl) ?_)))
 refine nP.mk (by decide) (nP.mk (by decide) (HX td (C6 (λn=>n rfl) ?_)))
 refine nP.mk (by decide) (nP.mk (by decide) (HW td (C6 (λn=>n rfl) ?_)))
 exact k _ _ _ g2
theorem c47t(nm:Nm l)(i0:0≤i)(i1:i≤1)(e0:0≤e)(f1:fb≤100)(hu:u.length≤5)(ou:B7 u){D:Bool→List Int}{mA:Bool→Int}{tV:Bool→AV}(tu:∀cr,TU i fb lg u cr hl (D cr) (mA cr) (tV cr))(ut:∀cr,P3 (tV cr)=false){ks:List AV}(q:cut ks 0 i=hl)
  (k:∀H' w12 w13 w14 w15 w16 w17 w18 w19 w20 w21,N [w0,.fl (l.map .int),w2,w3,.int e,.int fb,.int lg,.bytes u,.fl ks,.int i,w10,w11,w12,w13,w14,w15,w16,w17,w18,w19,w20,w21] H'):wpS (Iv c cc (r+24)) lb [w0,.fl (l.map .int),w2,w3,.int e,.int fb,.int lg,.bytes u,.fl ks,.int i,w10,w11,w12,w13,w14,w15,w16,w17,w18,w19,w20,w21] H N R Y:=
 A5 (l0 i0 q (lA i0 i1 e0 λno bs iv cr H1 v1 h1=>A5 (l8 (tu cr) h1 λH2 k2=>A5 (l9 i0 e0 v1 (tu cr) (k2.dict0 h1) λH3 k3=>A5 (JR e0 v1 (tu cr) (k3.dict0 (k2.dict0 h1)) λH4 w19 w20 h4=>A5
  (FI (Inv:=λH=>∃fr l' pr,get H no = .dict (G7 (kd cr) bs iv fr l' pr)) i0 ⟨_,_,_,h4⟩ (λg w21 H M g0 g1 ⟨_,_,_,h⟩ hM=>c47a nm i0 i1 g0 g1 (tu cr) f1 hu ou (ut cr) h λH' fr l' pr w21 h'=>hM _ _ ⟨fr,l',pr,h'⟩) λH' w14 w21 _=>k _ _ _ _ _ _ _ _ _ _ _))))))
theorem KV{y:Int}:∃v,[AV.int 10,AV.int 0,AV.int 4,AV.int 70,AV.int 1,AV.int 25].getD (y%6).toNat .U = .int v∧v≤100:=Z5 (p:=λx=>∃v,x = .int v∧v≤100) (n:=6) rfl (by decide) (zl ⟨_,rfl,by decide⟩ ⟨_,rfl,by decide⟩ ⟨_,rfl,by decide⟩ ⟨_,rfl,by decide⟩ ⟨_,rfl,by decide⟩ ⟨_,rfl,by decide⟩)
theorem KR{y:Int}:∃v,[AV.int 4,AV.int 11,AV.int 0,AV.int 5,AV.int 2,AV.int 31,AV.int 3,AV.int 1].getD (y%8).toNat .U = .int v∧0≤v∧v≤31:=Z5 (p:=λx=>∃v,x = .int v∧0≤v∧v≤31) (n:=8) rfl (by decide) (Y2 ⟨_,rfl,by decide,by decide⟩ (Y2 ⟨_,rfl,by decide,by decide⟩ (zl ⟨_,rfl,by decide,by decide⟩ ⟨_,rfl,by decide,by decide⟩ ⟨_,rfl,by decide,by decide⟩ ⟨_,rfl,by decide,by decide⟩ ⟨_,rfl,by decide,by decide⟩ ⟨_,rfl,by decide,by decide⟩)))
theorem KU{y:Int}:∃v,[AV.bytes [255],AV.bytes [0],AV.bytes [97,0],AV.bytes [255,255],AV.bytes [255,254,255],AV.bytes [98]].getD (y%6).toNat .U = .bytes v∧v.length≤5∧B7 v:=Z5 (p:=λx=>∃v,x = .bytes v∧v.length≤5∧B7 v) (n:=6) rfl (by decide) (zl ⟨_,rfl,by decide,by unfold B7;decide⟩ ⟨_,rfl,by decide,by unfold B7;decide⟩ ⟨_,rfl,by decide,by unfold B7;decide⟩ ⟨_,rfl,by decide,by unfold B7;decide⟩ ⟨_,rfl,by decide,by unfold B7;decide⟩ ⟨_,rfl,by decide,by unfold B7;decide⟩)
theorem KX{y a b:Int}(ha:0≤a)(ha':a≤72057594037927935)(hb:0≤b)(hb':b≤72057594037927935):∃v,[AV.int a,AV.int b].getD (y%2).toNat .U = .int v∧0≤v∧v≤72057594037927935:=Z5 (p:=λx=>∃v,x = .int v∧0≤v∧v≤72057594037927935) (n:=2) rfl (by decide) (Y2 ⟨a,rfl,ha,ha'⟩ (Y2 ⟨b,rfl,hb,hb'⟩ nofun))
theorem p0(k:∀l:List Int,(∀x∈l,0≤x∧x<1000000)→l.length≤9→N [.fl (is.map .int),.fl (l.map .int),.U,.U,.U,.U,.U,.U,.U,.U,.U,.U,.U,.U,.U,.U,.U,.U,.U,.U,.U,.U] H):wpS I (nth f47.body 0) [.fl (is.map .int),.U,.U,.U,.U,.U,.U,.U,.U,.U,.U,.U,.U,.U,.U,.U,.U,.U,.U,.U,.U,.U] H N R Y:=by
 refine nP.mk rfl (nP.mk (by decide) ?_)
 have ec:cut (is.map AV.int) 0 9=(cut is 0 9).map AV.int:=by unfold cut;rw[List.map_take,List.map_drop]
 rw[ec]
 refine wb (λrest acc H'=>H'=H∧∃p q:List Int,rest=q.map .int∧acc=p.map .int∧(∀x∈p,0≤x∧x<1000000)∧p.length+q.length≤9) ⟨rfl,[],_,rfl,rfl,λ_ m=>absurd m t9,?_⟩ ?_ ?_
 ·unfold cut
  rw[V1,X4]
  exact b6 (j6 (J0 _)) (Nat.min_le_left _ _)
 ·intro acc H1 zr1;refine eX02 zr1 λzq2 zn3=>?_;clear zr1;subst zq2;refine eX24 zn3 λp q _ zq4 hp hl=>?_;clear zn3;subst zq4
  exact k p hp (b6 (u3 _ _) hl)
 ·intro v rs acc H1 M zr5 hM;refine eX02 zr5 λzq6 zn7=>?_;clear zr5;subst zq6;refine eX24 zn7 λp q eq zq8 hp hl=>?_;clear zn7;subst zq8
  cases q with
  |nil=>cases eq
  |cons y q=>
   refine eX02 (List.cons.inj eq) λzq1 zq2=>?_;subst zq1;subst zq2
   rw[m9] at hl
   refine O0 rfl (nP.mk (by decide) (nP.mk (by rw[r7,B4];exact g9 (b6 (u3 _ _) hl) (by decide)) (hM _ _ ⟨rfl,p++[y%999983],q,rfl,by rw[I3];rfl,λx m=>?_,by rw[d6];exact b6 (j6 (O1 p.length q.length)) hl⟩)))
   rcases y6.mp m with m | m
   ·exact hp x m
   ·rw[i6.mp m];exact⟨(j5 _ (by decide)),(e8 (i5 (j7 _ (by decide))) (by decide))⟩
theorem p1(hp:∀x∈l,0≤x∧x<1000000)(hl:l.length≤9)(k:∀l,Nm l→N [.fl (is.map .int),.fl (l.map .int),.U,.U,.U,.U,.U,.U,.U,.U,.U,.U,.U,.U,.U,.U,.U,.U,.U,.U,.U,.U] H):wpS I (nth f47.body 1) [.fl (is.map .int),.fl (l.map .int),.U,.U,.U,.U,.U,.U,.U,.U,.U,.U,.U,.U,.U,.U,.U,.U,.U,.U,.U,.U] H N R Y:=by
 refine R7 (λq=>?_) λq=>k l ⟨hp,by rw[r7] at q;lia -abstractProof,hl⟩
 exact k [0,126,4,13,58,1131,40,6224,595] ⟨by decide,by decide,by decide⟩
theorem p2(nm:Nm l)(k:∀x,0≤x→N [.fl (is.map .int),.fl (l.map .int),.int x,.U,.U,.U,.U,.U,.U,.U,.U,.U,.U,.U,.U,.U,.U,.U,.U,.U,.U,.U] H):wpS (Iv c cc (r+1)) (nth f47.body 2) [.fl (is.map .int),.fl (l.map .int),.U,.U,.U,.U,.U,.U,.U,.U,.U,.U,.U,.U,.U,.U,.U,.U,.U,.U,.U,.U] H N R Y:=c24 nm.h nm.a nm.b (by decide) (by decide) λv v0 _=>k v v0
theorem p3(nm:Nm l)(k:∀x,0≤x→N [.fl (is.map .int),.fl (l.map .int),.int a,.int x,.U,.U,.U,.U,.U,.U,.U,.U,.U,.U,.U,.U,.U,.U,.U,.U,.U,.U] H):wpS (Iv c cc (r+1)) (nth f47.body 3) [.fl (is.map .int),.fl (l.map .int),.int a,.U,.U,.U,.U,.U,.U,.U,.U,.U,.U,.U,.U,.U,.U,.U,.U,.U,.U,.U] H N R Y:=c24 nm.h nm.a nm.b (by decide) (by decide) λv v0 _=>k v v0
theorem p4(nm:Nm l)(k:∀x,0≤x→N [.fl (is.map .int),.fl (l.map .int),.int a,.int b,.int x,.U,.U,.U,.U,.U,.U,.U,.U,.U,.U,.U,.U,.U,.U,.U,.U,.U] H):wpS (Iv c cc (r+1)) (nth f47.body 4) [.fl (is.map .int),.fl (l.map .int),.int a,.int b,.U,.U,.U,.U,.U,.U,.U,.U,.U,.U,.U,.U,.U,.U,.U,.U,.U,.U] H N R Y:=c24 nm.h nm.a nm.b (by decide) (by decide) λv v0 _=>k v v0
theorem p5(k:∀fb,fb≤100→N [.fl (is.map .int),.fl (l.map .int),.int a,.int b,.int e,.int fb,.U,.U,.U,.U,.U,.U,.U,.U,.U,.U,.U,.U,.U,.U,.U,.U] H):wpS I (nth f47.body 5) [.fl (is.map .int),.fl (l.map .int),.int a,.int b,.int e,.U,.U,.U,.U,.U,.U,.U,.U,.U,.U,.U,.U,.U,.U,.U,.U,.U] H N R Y:=by
 refine nP.mk (by decide) (nP.mk (bj (n:=6) rfl ⟨j5 _ (by decide),j7 _ (by decide)⟩) ?_)
 refine eX12 (KV (y:=a)) λv ev hv=>?_
 rw[ev]
 exact k v hv
theorem p6(k:∀lg,0≤lg→lg≤31→N [.fl (is.map .int),.fl (l.map .int),.int a,.int b,.int e,.int fb,.int lg,.U,.U,.U,.U,.U,.U,.U,.U,.U,.U,.U,.U,.U,.U,.U] H):wpS I (nth f47.body 6) [.fl (is.map .int),.fl (l.map .int),.int a,.int b,.int e,.int fb,.U,.U,.U,.U,.U,.U,.U,.U,.U,.U,.U,.U,.U,.U,.U,.U] H N R Y:=by
 refine nP.mk (by decide) (nP.mk (by decide) (nP.mk (by decide) (nP.mk (bj (n:=8) rfl ⟨j5 _ (by decide),j7 _ (by decide)⟩) ?_)))
 refine eX13 (KR (y:=a/6)) λv ev h0 h1=>?_
 rw[ev]
 exact k v h0 h1
theorem p7(k:N [.fl (is.map .int),.fl (l.map .int),.int a,.int b,.int e,.int fb,.int lg,.bytes [],.U,.U,.U,.U,.U,.U,.U,.U,.U,.U,.U,.U,.U,.U] H):wpS I (nth f47.body 7) [.fl (is.map .int),.fl (l.map .int),.int a,.int b,.int e,.int fb,.int lg,.U,.U,.U,.U,.U,.U,.U,.U,.U,.U,.U,.U,.U,.U,.U] H N R Y:=k
theorem p8(k:∀u,u.length≤5→B7 u→N [.fl (is.map .int),.fl (l.map .int),.int a,.int b,.int e,.int fb,.int lg,.bytes u,.U,.U,.U,.U,.U,.U,.U,.U,.U,.U,.U,.U,.U,.U] H):wpS I (nth f47.body 8) [.fl (is.map .int),.fl (l.map .int),.int a,.int b,.int e,.int fb,.int lg,.bytes [],.U,.U,.U,.U,.U,.U,.U,.U,.U,.U,.U,.U,.U,.U] H N R Y:=by
 refine nP.mk (by decide) (R7 (λq=>?_) λq=>k [] (by decide) B7.nil)
 refine nP.mk (by decide) (nP.mk (by decide) (nP.mk (by decide) (nP.mk (bj (n:=6) rfl ⟨j5 _ (by decide),j7 _ (by decide)⟩) ?_)))
 refine eX13 (KU (y:=b/3)) λv ev h0 h1=>?_
 rw[ev]
 exact k v h0 h1
theorem p9(k:∀h,0≤0-h∧0-h<18446744073709551615→(0-h)%256≤1→N [.fl (is.map .int),.fl (l.map .int),.int a,.int b,.int e,.int fb,.int lg,.bytes u,.fl [.tup [.bytes u,.int h]],.U,.U,.U,.U,.U,.U,.U,.U,.U,.U,.U,.U,.U] H):wpS I (nth f47.body 9) [.fl (is.map .int),.fl (l.map .int),.int a,.int b,.int e,.int fb,.int lg,.bytes u,.U,.U,.U,.U,.U,.U,.U,.U,.U,.U,.U,.U,.U,.U] H N R Y:=by
 have e56:pw 2 (Int.toNat 56)=72057594037927936:=by decide
 refine nP.mk (by decide) (nP.mk (by decide) (nP.mk (by decide) (nP.mk (by decide) (nP.mk (by decide) ?_))))
 refine nP.mk (by decide) (nP.mk (by decide) (nP.mk (by decide) (nP.mk (bj (n:=2) rfl ⟨j5 _ (by decide),j7 _ (by decide)⟩) ?_)))
 rw[e56]
 refine eX13 (KX (y:=b/7) (a:=b/18%600) (b:=72057594037927936-1) (j5 _ (by decide)) (e6 (i5 (j7 _ (by decide))) (by decide)) (by decide) (by decide)) λv ev h0 h1=>?_
 rw[ev]
 refine nP.mk (⟨(e7 (by decide) h0),(e8 h1 (by decide))⟩) (nP.mk (by decide) (nP.mk (by decide) (nP.mk (by decide) ?_)))
 exact k _ (⟨(o8 (g6 _) (o8 (o8 (g6 _) (t8 (e6 (by decide) (g6 _)) (e6 (by decide) h0))) (j5 _ (by decide)))),(e8 (o8 (g6 _) (o8 (o8 (g6 _) (A7 (g6 _) h1 (e6 (by decide) h0) (by decide))) (i5 (j7 _ (by decide))))) (by decide))⟩) (by lia -abstractProof)
theorem Jz(k:wpS I lb [.fl (is.map .int),.fl (l.map .int),.int a,.int b,.int e,.int fb,.int lg,.bytes u,.fl [.tup [.bytes u,.int h]],.int 0,.U,.U,.U,.U,.U,.U,.U,.U,.U,.U,.U,.U] H (λρ H=>Y5 ρ 9 (.int 1) λρ=>wpS I lb ρ H N R T8) R T8):wpS I (nth f47.body 10) [.fl (is.map .int),.fl (l.map .int),.int a,.int b,.int e,.int fb,.int lg,.bytes u,.fl [.tup [.bytes u,.int h]],.U,.U,.U,.U,.U,.U,.U,.U,.U,.U,.U,.U,.U] H N R Y:=nP.mk (by decide) k
theorem CQ{v:AV}{F:Loc→Prop}(k:F [.fl (is.map .int),.fl (l.map .int),.int a,.int b,.int e,.int fb,.int lg,.bytes u,.fl [.tup [.bytes u,.int h]],v,w10,w11,w12,w13,w14,w15,w16,w17,w18,w19,w20,w21]):Y5 [.fl (is.map .int),.fl (l.map .int),.int a,.int b,.int e,.int fb,.int lg,.bytes u,.fl [.tup [.bytes u,.int h]],w9,w10,w11,w12,w13,w14,w15,w16,w17,w18,w19,w20,w21] 9 v F:=k
theorem Jy(nm:Nm l)(k:∀x,0≤x→N [.fl (is.map .int),.fl (l.map .int),.int a,.int b,.int e,.int fb,.int lg,.bytes u,.fl [.tup [.bytes u,.int h]],w9,.int x,w11,w12,w13,w14,w15,w16,w17,w18,w19,w20,w21] H):wpS (Iv c cc (r+1)) (nth f47.body 11) [.fl (is.map .int),.fl (l.map .int),.int a,.int b,.int e,.int fb,.int lg,.bytes u,.fl [.tup [.bytes u,.int h]],w9,w10,w11,w12,w13,w14,w15,w16,w17,w18,w19,w20,w21] H N R Y:=c24 nm.h nm.a nm.b (by decide) (by decide) λv v0 _=>k v v0
theorem Jx(nm:Nm l)(k:∀x,0≤x→N [.fl (is.map .int),.fl (l.map .int),.int a,.int b,.int e,.int fb,.int lg,.bytes u,.fl [.tup [.bytes u,.int h]],w9,w10,.int x,w12,w13,w14,w15,w16,w17,w18,w19,w20,w21] H):wpS (Iv c cc (r+1)) (nth f47.body 12) [.fl (is.map .int),.fl (l.map .int),.int a,.int b,.int e,.int fb,.int lg,.bytes u,.fl [.tup [.bytes u,.int h]],w9,w10,w11,w12,w13,w14,w15,w16,w17,w18,w19,w20,w21] H N R Y:=c24 nm.h nm.a nm.b (by decide) (by decide) λv v0 _=>k v v0
theorem Jw{y z:Int}(f1:fb≤100)(g0:0≤lg)(g1:lg≤31)(y0:0≤y)(z0:0≤z)(k:∀H',R (.bool true) H'):wpS (Iv c cc (r+26)) (nth f47.body 13) [.fl (is.map .int),.fl (l.map .int),.int a,.int b,.int e,.int fb,.int lg,.bytes u,.fl [.tup [.bytes u,.int h]],w9,.int y,.int z,w12,w13,w14,w15,w16,w17,w18,w19,w20,w21] H N R Y:=by
 have m1:1≤(if 1<fb then fb else 1)∧(if 1<fb then fb else 1)≤100:=by split<;>lia -abstractProof
 refine c44 y0 λH1 _=>O0 rfl (nP.mk (by decide) (nP.mk (by decide) (c45 m1.1 m1.2 (r8 y0 (by decide)) λH2 _=>O0 rfl ?_)))
 exact c46 m1.1 m1.2 g0 g1 z0 λH3 _=>k _
theorem c47(is:List Int){H:Hp}{K:KE}{X:XE}(k:∀H',K (.bool true) H'):c 27 47 [.fl (is.map .int)] H K X:=by
 refine L.call (r:=26) rfl ?_
 have go:wpS (Iv c cc 26) f47.body [.fl (is.map .int),.U,.U,.U,.U,.U,.U,.U,.U,.U,.U,.U,.U,.U,.U,.U,.U,.U,.U,.U,.U,.U] H (λ_ H=>K .none H) K λc _ H=>X c H:=by
  refine A5 (p0 λl hp hl=>A5 (p1 hp hl λl nm=>A5 (p2 (r:=25) nm λa a0=>A5 (p3 (r:=25) nm λb b0=>A5 (p4 (r:=25) nm λe e0=>A5 (p5 λfb f1=>A5 (p6 λlg g0 g1=>A5 (p7 (A5 (p8 λu hu ou=>A5 (p9 λh hh h2=>A5 (Jz ?_))))))))))))
  refine c47t (r:=2) (u:=u) (hl:=[]) nm (g6 0) (by decide) e0 f1 hu ou (λcr=>IF (cr:=cr) g0 g1 f1) (λ_=>rfl) rfl λH1 _ _ _ _ _ _ _ _ _ _=>CQ ?_
  refine c47t (r:=2) (u:=u) nm (by decide) (g6 1) e0 f1 hu ou (λcr=>IE (cr:=cr) g0 g1 f1 hu ou hh h2) (λ_=>rfl) rfl λH2 _ _ _ _ _ _ _ _ _ _=>?_
  exact A5 (Jy (r:=25) nm λy y0=>A5 (Jx (r:=25) nm λz z0=>A5 (Jw (r:=0) f1 g0 g1 y0 z0 k)))
 exact go
theorem law_spec{q:Cl×Cl}(l:Lv q.1 q.2)(is:List Int):∃r,r≤149∧q.1 r 47 [.fl (is.map .int)] [] (λv _=>v = .bool true) λ_ _=>False:=tF (λis=>⟨27,by decide,c47 is λ_=>rfl⟩) q l is
end
end Mine
section
open PySem PySem.W PyProof.Rows
namespace Mine.Z
structure Prg where
 prog:Program
 K:Frag
 fa:Nat→Addr
 ca:Nat→Addr
 ce:Nat→Addr
 an:Nat→Str
 nA:Nat
 mtab:Nat→Nat→Option Nat
noncomputable def bI(b:Array UInt8):List Int:=b.toList.map λc=>(c.toNat:Int)
structure Vw where
 h:Heap
 S:Addr→Prop
 μ:Nat→Addr
 k:Nat
structure Sg where
 S:Addr→Prop
 μ:Nat→Addr
 H:Hp
 s:Shared
noncomputable abbrev Sg.v(g:Sg):Vw:=⟨g.s.heap,g.S,g.μ,g.H.length⟩
noncomputable def Fl(P:Prg):List (Nat×AV)→List Value→(Str→Option Value)→Prop
 |[],[],m=>∀x,m x=none
 |p::r,w::ws,m=>p.1<P.nA∧m (P.an p.1)=some w∧Fl P r ws λx=>if x=P.an p.1 then none else m x
 |_,_,_=>False
mutual
inductive VR(P:Prg)(V:Vw):AV→Value→Prop
 |none:VR P V .none .none
 |bool (b:Bool):VR P V (.bool b) (.bool b)
 |int (i:Int) (t:Tok):VR P V (.int i) (.int i t)
 |str (x:Str) (t:Tok):VR P V .str (.str x t)
 |bytes (b:Array UInt8) (t:Tok) (z:b.size≤K8):VR P V (.bytes (bI b)) (.bytes b t)
 |tup (l:List AV) (vs:List Value) (a:Addr):V.S a→V.h.get? a=some { cls:=.type "tuple",data:=.seq vs.toArray }→VRs P V l vs→VR P V (.tup l) (.ref a)
 |fl (l:List AV) (vs:List Value) (a:Addr) (n:Nat):V.S a→V.h.get? a=some { cls:=.type "list",data:=.seq vs.toArray n }→VRs P V l vs→l.length≤K8→VR P V (.fl l) (.ref a)
 |inst (C:Nat) (fs:List (Nat×AV)) (x d:Addr) (m:Str→Option Value) (ws:List Value):V.S x→V.h.get? x=some (G4 (P.ca C) d)→V.S d→V.h.Ns1 d m→VRs P V (fs.map Prod.snd) ws→Fl P fs ws m→VR P V (.inst C fs) (.ref x)
 |obj (C n:Nat) (x:Addr):n<V.k→V.S x→V.h.get? x=some (G4 (P.ca C) (V.μ n))→VR P V (.obj C n) (.ref x)
 |ref (n:Nat):n<V.k→VR P V (.ref n) (.ref (V.μ n))
inductive VRs(P:Prg)(V:Vw):List AV→List Value→Prop
 |nil:VRs P V [] []
 |cons {v:AV} {l:List AV} {w:Value} {vs:List Value}:VR P V v w→VRs P V l vs→VRs P V (v::l) (w::vs)
end
noncomputable def FR(P:Prg)(V:Vw)(fs:List (Nat×AV))(m:Str→Option Value):Prop:=∃ws,VRs P V (fs.map Prod.snd) ws∧Fl P fs ws m
structure Kp(V V':Vw):Prop where
 le:V.k≤V'.k
 mu:∀n,n<V.k→V'.μ n=V.μ n
 ss:∀a,V.S a→V'.S a
 kp:∀a,V.S a→V'.h.get? a=V.h.get? a
section
variable{P:Prg}{V V':Vw}
theorem VR.kp(Y:Kp V V'){v:AV}{w:Value}(x:VR P V v w):VR P V' v w:=
 VR.rec (motive_1:=λv w _=>VR P V' v w) (motive_2:=λl ws _=>VRs P V' l ws) .none .bool .int .str .bytes (λl vs a s g _ r=>.tup l vs a (Y.ss a s) ((Y.kp a s).trans g) r) (λl vs a n s g _ z r=>.fl l vs a n (Y.ss a s) ((Y.kp a s).trans g) r z)
  (λC fs x d m ws s g s' n _ f r=>.inst C fs x d m ws (Y.ss x s) ((Y.kp x s).trans g) (Y.ss d s') (n.at λo e=>(Y.kp d s').trans e) r f) (λC n x l s g=>.obj C n x (i8 l Y.le) (Y.ss x s) ((Y.kp x s).trans (g.trans (by rw[Y.mu n l]))))
  (λn l=>Y.mu n l▸.ref n (i8 l Y.le)) .nil (λ_ _ a b=>.cons a b) x
theorem VRs.kp(Y:Kp V V'){v:List AV}{w:List Value}(x:VRs P V v w):VRs P V' v w:=by
 induction v generalizing w with
 |nil=>cases x;exact .nil
 |cons a l ih=>cases x with | cons p q=>exact .cons (p.kp Y) (ih q)
theorem FR.kp(Y:Kp V V'){fs:List (Nat×AV)}{m:Str→Option Value}(h:FR P V fs m):FR P V' fs m:=eX12 h λws a b=>⟨ws,a.kp Y,b⟩
end
noncomputable def S0(c:Cell):Nat:=match c with
 |.dict _=>0
 |.list _=>1
 |.barr _=>2
 |.gone=>3
noncomputable def fN(c:Cell):Bool:=Nat.beq (S0 c) 3
noncomputable def CR(P:Prg)(V:Vw)(a:Addr)(c:Cell):Prop:=match c with
 |.dict fs=>(∃o,V.h.get? a=some o∧o.cls = .type "dict")∧∃m,V.h.Ns1 a m∧FR P V fs m∧fs.length≤1000
 |.list l=>∃vs n,V.h.get? a=some { cls:=.type "list",data:=.seq vs n }∧VRs P V l vs.toList∧l.length≤K8
 |.barr l=>∃b,V.h.get? a=some { cls:=.type "bytearray",data:=.bytearray b }∧bI b=l∧b.size≤K8
 |.gone=>True
noncomputable def P7(H:Hp)(n:Nat):Prop:=n<H.length∧fN (get H n)=false
structure R(P:Prg)(base:Heap)(g:Sg):Prop where
 kb:P.K.In base
 lim:base.NoLimit
 gm:∃mg,base.Ns C8 mg
 bm:∃mb,base.Ns X6 mb
 stays:base.StaysIn g.s.heap
 sp:∀a,g.S a→∃o,g.s.heap.get? a=some o∧∀vs,o.data≠.fields vs
 cell:∀n,n<g.H.length→CR P g.v (g.μ n) (get g.H n)
 sep:∀n,P7 g.H n→¬g.S (g.μ n)∧base.get? (g.μ n)=none
 inj:∀n m,P7 g.H n→P7 g.H m→g.μ n=g.μ m→n=m
 gens:g.s.gens = #[]
noncomputable def Ag(o:Obj):Prop:=∃es ep,o.data = .dict es ep
structure Stp(X:Addr→Prop)(g g':Sg):Prop where
 len:g.H.length≤g'.H.length
 mu:∀n,n<g.H.length→g'.μ n=g.μ n
 nw:∀n,g.H.length≤n→P7 g'.H n→g.s.heap.get? (g'.μ n)=none
 kd:∀n,n<g.H.length→S0 (get g'.H n)=S0 (get g.H n)∨S0 (get g'.H n)=3
 pi:∀a,g.S a→g'.S a
 pn:∀a,g'.S a→g.S a∨g.s.heap.get? a=none
 pk:∀a,g.S a→g'.s.heap.get? a=g.s.heap.get? a
 dom:∀a o,g.s.heap.get? a=some o→∃o',g'.s.heap.get? a=some o'
 out:∀b o,g.s.heap.get? b=some o→¬g.S b→(∀n,P7 g.H n→b≠g.μ n)→¬X b→∃sl,g'.s.heap.get? b=some { o with slots:=sl }∧(¬Ag o→sl=o.slots)
 gens:g'.s.gens=g.s.gens
 os:g'.s.os=g.s.os
section
variable{X Y:Addr→Prop}{g g' g'':Sg}
theorem Stp.kp(y:Stp X g g'):Kp g.v g'.v:=⟨y.len,y.mu,y.pi,y.pk⟩
theorem Stp.refl:Stp X g g:=
 ⟨d8 _,λ_ _=>rfl,λn h l=>absurd l.1 (I8.mpr h),λ_ _=>.inl rfl,λ_ x=>x,λ_ x=>.inl x,λ_ _=>rfl,λ_ o e=>⟨o,e⟩,λ_ o e _ _ _=>⟨o.slots,e,λ_=>rfl⟩,rfl,rfl⟩
theorem Stp.less(y:Stp X g g')(h:∀a o,g.s.heap.get? a=some o→X a→Y a):Stp Y g g':=
 ⟨y.len,y.mu,y.nw,y.kd,y.pi,y.pn,y.pk,y.dom,λb o e a c d=>y.out b o e a c λq=>d (h b o e q),y.gens,y.os⟩
theorem Stp.weak(y:Stp X g g')(h:∀a,X a→Y a):Stp Y g g':=y.less λa _ _=>h a
theorem P7.back(y:Stp X g g'){n:Nat}(l:n<g.H.length)(v:P7 g'.H n):P7 g.H n:=
 ⟨l,by cases q:fN (get g.H n) with | false=>rfl | true=>have:=(y.kd n l).elim (λe=>e.trans (M7 q)) id;have w:=v.2;unfold fN at w;rw[this] at w;cases w⟩
theorem Stp.nn(y:Stp X g g'):∀a,g'.s.heap.get? a=none→g.s.heap.get? a=none:=λa e=>by
 cases q:g.s.heap.get? a with
 |none=>rfl
 |some o=>refine eX11 (y.dom a o q) λo' e'=>?_;rw[e] at e';cases e'
theorem P7.far(y:Stp X g g'){a:Addr}(ha:∃o,g.s.heap.get? a=some o)(hn:¬g.S a)(hm:∀n,P7 g.H n→a≠g.μ n):¬g'.S a∧∀n,P7 g'.H n→a≠g'.μ n:=by
 refine eX11 ha λo e=>?_;clear ha
 refine⟨λx=>?_,λn l q=>?_⟩
 ·rcases y.pn a x with x | x
  ·exact hn x
  ·rw[e] at x;cases x
 ·by_cases w:n<g.H.length
  ·rw[y.mu n w] at q;exact hm n (P7.back y w l) q
  ·have:=y.nw n (L8 w) l;rw[←q,e] at this;exact nomatch this
theorem Stp.trans(y:Stp X g g')(z:Stp X g' g''):Stp X g g'':=by
 refine⟨b6 y.len z.len,λn h=>(z.mu n (i8 h y.len)).trans (y.mu n h),λn h l=>?_,λn h=>(z.kd n (i8 h y.len)).elim (λe=>(y.kd n h).imp e.trans e.trans) .inr,λa x=>z.pi a (y.pi a x),λa x=>?_,
  λa x=>(z.pk a (y.pi a x)).trans (y.pk a x),λa o e=>eX11 (y.dom a o e) λo' e'=>z.dom a o' e',λb o e h1 h2 h3=>?_,z.gens.trans y.gens,z.os.trans y.os⟩
 ·by_cases q:n<g'.H.length
  ·rw[z.mu n q];exact y.nw n h (P7.back z q l)
  ·exact y.nn _ (z.nw n (L8 q) l)
 ·exact(z.pn a x).elim (y.pn a) λx=>.inr (y.nn a x)
 ·refine eX12 (y.out b o e h1 h2 h3) λsl e₁ q₁=>?_
  refine eX02 (P7.far y ⟨o,e⟩ h1 h2) λf1 f2=>?_
  refine eX12 (z.out b _ e₁ f1 f2 h3) λsl' e₂ q₂=>?_
  exact⟨sl',e₂,λq=>(q₂ q).trans (q₁ q)⟩
end
structure Grow(s s':Shared):Prop where
 kp:∀b o,s.heap.get? b=some o→s'.heap.get? b=some o
 gens:s'.gens=s.gens
 os:s'.os=s.os
section
variable{P:Prg}{base:Heap}{g:Sg}{s s₁ s':Shared}{X:Addr→Prop}
theorem Grow.refl:Grow s s:=⟨λ_ _ e=>e,rfl,rfl⟩
theorem Grow.trans(x:Grow s s₁)(y:Grow s₁ s'):Grow s s':=⟨λb o e=>y.kp b o (x.kp b o e),y.gens.trans x.gens,y.os.trans x.os⟩
theorem Grow.toks{t:Nat}:Grow s { s with toks:=t }:=⟨λ_ _ e=>e,rfl,rfl⟩
theorem Grow.push(o:Obj){t:Nat}:Grow s { s with heap:=s.heap.push o,toks:=t }:=⟨λ_ _ e=>Heap.get?_push_of_some o e,rfl,rfl⟩
theorem fD{h:Heap}{tk:Nat}(k:∀b o,s.heap.get? b=some o→h.get? b=some o):Grow s { s with heap:=h,toks:=tk }:=⟨k,rfl,rfl⟩
theorem M4{h:Heap}:h.get? h.objs.size=none:=Heap.get?_none_of_le (d8 _)
theorem CR.kp{V V':Vw}(Y:Kp V V'){a:Addr}(ha:∀o,V.h.get? a=some o→V'.h.get? a=some o){c:Cell}(x:CR P V a c):CR P V' a c:=by
 cases c with
 |dict fs=>
  refine eX02 x λzn1 zn2=>?_;clear x;refine eX12 zn1 λo e q=>?_;clear zn1;refine eX13 zn2 λm n f z=>?_;clear zn2
  exact⟨⟨o,ha o e,q⟩,m,n.at ha,f.kp Y,z⟩
 |list l=>refine eX23 x λvs n e v z=>?_;clear x;exact⟨vs,n,ha _ e,v.kp Y,z⟩
 |barr l=>refine eX12 x λb e q=>?_;clear x;exact⟨b,ha _ e,q⟩
 |gone=>trivial
theorem R.ltF(r:R P base g){n:Nat}(l:P7 g.H n):∃o,g.s.heap.get? (g.μ n)=some o∧∀vs,o.data≠.fields vs:=by
 have c:=r.cell n l.1
 have q:=l.2
 cases e:get g.H n with
 |dict fs=>
  rw[e] at c
  refine eX02 c λ_ zn3=>?_;clear c;refine eX12 zn3 λm zn4 _=>?_;clear zn3;refine eX33 zn4 λo es ep e d _=>?_;clear zn4
  exact⟨o,e,λvs z=>by rw[d] at z;cases z⟩
 |list l=>rw[e] at c;refine eX22 c λvs n e _=>?_;clear c;exact⟨_,e,nofun⟩
 |barr l=>rw[e] at c;refine eX12 c λb e _=>?_;clear c;exact⟨_,e,nofun⟩
 |gone=>rw[e] at q;cases q
theorem R.lt(r:R P base g){n:Nat}(l:P7 g.H n):∃o,g.s.heap.get? (g.μ n)=some o:=eX12 (r.ltF l) λo e _=>⟨o,e⟩
theorem R.far(r:R P base g){a:Addr}(n:g.s.heap.get? a=none):¬g.S a∧(∀k,P7 g.H k→a≠g.μ k)∧base.get? a=none:=by
 refine⟨λx=>?_,λk l q=>?_,?_⟩
 ·refine eX12 (r.sp a x) λo e _=>?_;rw[n] at e;cases e
 ·refine eX11 (r.lt l) λo e=>?_;rw[←q,n] at e;cases e
 ·cases q:base.get? a with
  |none=>rfl
  |some o=>have:=r.stays a o q;rw[n] at this;cases this
theorem R.cells(r:R P base g){V':Vw}(Y:Kp g.v V')(kp:∀n,P7 g.H n→∀o,g.s.heap.get? (g.μ n)=some o→V'.h.get? (g.μ n)=some o)(n:Nat)(h:n<g.H.length):CR P V' (g.μ n) (get g.H n):=by
 cases z:fN (get g.H n) with
 |true=>
  cases q:get g.H n with
  |gone=>trivial
  |_=>rw[q] at z;exact absurd z e9
 |false=>exact(r.cell n h).kp Y (kp n ⟨h,z⟩)
theorem R.same(r:R P base g)(st:base.StaysIn s'.heap)(pk:∀a,g.S a→s'.heap.get? a=g.s.heap.get? a)(kp:∀n,P7 g.H n→∀o,g.s.heap.get? (g.μ n)=some o→s'.heap.get? (g.μ n)=some o)(hg:s'.gens=g.s.gens):R P base ⟨g.S,g.μ,g.H,s'⟩:=
 ⟨r.kb,r.lim,r.gm,r.bm,st,λa x=>eX12 (r.sp a x) λo e q=>⟨o,(pk a x).trans e,q⟩,r.cells ⟨d8 _,λ_ _=>rfl,λ_ x=>x,pk⟩ kp,r.sep,r.inj,hg.trans r.gens⟩
theorem Grow.kpS(y:Grow g.s s')(r:R P base g):∀a,g.S a→s'.heap.get? a=g.s.heap.get? a:=λa x=>by
 refine eX12 (r.sp a x) λo e _=>?_
 rw[y.kp a o e,e]
theorem R.grow(r:R P base g)(y:Grow g.s s'):R P base ⟨g.S,g.μ,g.H,s'⟩:=r.same (λb o e=>y.kp b o (r.stays b o e)) (y.kpS r) (λ_ _ _ e=>y.kp _ _ e) y.gens
theorem Stp.grow(r:R P base g)(y:Grow g.s s'):Stp X g ⟨g.S,g.μ,g.H,s'⟩:=
 ⟨d8 _,λ_ _=>rfl,λn h l=>absurd l.1 (I8.mpr h),λ_ _=>.inl rfl,λ_ x=>x,λ_ x=>.inl x,y.kpS r,λa o e=>⟨o,y.kp a o e⟩,λb o e _ _ _=>⟨o.slots,y.kp b o e,λ_=>rfl⟩,y.gens,y.os⟩
end
end Mine.Z
namespace Mine.Z
open PySem.Sem (wp)
noncomputable def kZ:Code→Bool
 |.builtin id _=>Builtin.Bytes.decodersThatHold.contains id
 |_=>false
noncomputable def ND(Γ:Ctx):Prop:=kZ Γ.code=false∧∀x∈Γ.below,kZ x.1=false
noncomputable def A4{α:Type}(M:Model)(A:Around)(t:Sem α)(Q:α→Shared→Prop)(E:Value→Shared→Prop)(s:Shared):Prop:=
 ∀Γ p,Γ.In A→ND Γ→wp M Γ t (λa _ s'=>Q a s') (λe _ s'=>E e s') p s
noncomputable def M5(M:Model)(A:Around)(c:Code)(R:R6→Shared→Prop)(s:Shared):Prop:=
 ∀Γ p,Γ.code=c→Γ.Below A→ND Γ→wpCode M Γ R p s
section
variable{M:Model}{A:Around}{E E':Value→Shared→Prop}{s:Shared}{env:Env}{α β:Type}
theorem v9{t:Sem α}{Q:α→Shared→Prop}(h:n9 M A t Q E s):A4 M A t Q E s:=λΓ p i _=>h Γ p i
theorem oV{c:Code}{R:R6→Shared→Prop}(h:codeAny M A c R s):M5 M A c R s:=λΓ p e i _=>h Γ p e i
theorem K3{t:Sem α}{Q Q':α→Shared→Prop}(h:A4 M A t Q E s)(hQ:∀a s',Q a s'→Q' a s')(hE:∀e s',E e s'→E' e s'):A4 M A t Q' E' s:=
 λΓ p i d=>Sem.wp_mono M Γ _ (λ_ _ _ x=>hQ _ _ x) (λ_ _ _ x=>hE _ _ x) _ _ (h Γ p i d)
theorem bw{c:Code}{R R':R6→Shared→Prop}(h:M5 M A c R s)(hR:∀r s',R r s'→R' r s'):M5 M A c R' s:=
 λΓ p e i d=>wpCode_mono hR (h Γ p e i d)
theorem s8{a:α}{Q:α→Shared→Prop}(h:Q a s):A4 M A (pure a) Q E s:=λ_ _ _ _=>h
theorem X9{t:Sem α}{a:α}{Q:α→Shared→Prop}(e:t=pure a)(h:Q a s):A4 M A t Q E s:=e▸s8 h
theorem j8{m:Sem α}{f:α→Sem β}{Q:β→Shared→Prop}(h:A4 M A m (λa s'=>A4 M A (f a) Q E s') E s):A4 M A (m>>=f) Q E s:=λΓ p i d=>by
 rw[Sem.wp_bind']
 exact Sem.wp_mono M Γ _ (λ_ p' _ x=>x Γ p' i d) (λ_ _ _ x=>x) _ _ (h Γ p i d)
theorem D6{m:Sem α}{f:α→Sem β}{R:α→Shared→Prop}{Q:β→Shared→Prop}(h:A4 M A m R E s)(k:∀a s',R a s'→A4 M A (f a) Q E s'):A4 M A (m>>=f) Q E s:=
 j8 (K3 h k λ_ _ x=>x)
theorem C2{vs:List Value}{m:Sem α}{Q:α→Shared→Prop}(h:A4 M A m Q E s):A4 M A (J5 vs m) Q E s:=λΓ p i d=>by
 rw[Sem.wp_holding];exact h Γ p i d
theorem Fz{pos:Pos}{Q:Unit→Shared→Prop}(h:Q () s):A4 M A (Q2 pos) Q E s:=λ_ _ _ _=>h
theorem D7{pos:Pos}{f:Unit→Sem β}{Q:β→Shared→Prop}(h:A4 M A (f ()) Q E s):A4 M A (Q2 pos>>=f) Q E s:=j8 (Fz h)
theorem sd{vs:List Value}{m:Sem Value}{Q:Value→Shared→Prop}(h:A4 M A m Q E s):A4 M A (operate vs m) Q E s:=λΓ p i d=>by
 rw[Sem.wp_operate];exact h Γ p i d
theorem Da{m:Sem α}{f:Value→Sem α}{Q:α→Shared→Prop}(h:A4 M A m Q (λe s'=>A4 M A (f e) Q E s') s):A4 M A (m.tryCatch f) Q E s:=λΓ p i d=>by
 rw[Sem.wp_tryCatch]
 exact Sem.wp_mono M Γ _ (λ_ _ _ x=>x) (λ_ p' _ x=>x Γ p' i d) _ _ (h Γ p i d)
theorem xJ{f:Code×Pos→Bool}{Q:Bool→Shared→Prop}(hg:A.guards=some [])(hf:∀c p,c.isGuard=false→kZ c=false→f (c,p)=false)(h:Q false s):A4 M A (do return (←stack).any f) Q E s:=λΓ p i d=>by
 show Q (((Γ.code,p)::Γ.below).any f) s
 have g:=i.2.2.2.1 [] hg
 have e:((Γ.code,p)::Γ.below).any f=false:=by
  rw[cM]
  intro x hx
  rw[←guardsOf_cons Γ.code p] at g
  have n1:x.1.isGuard=false:=by
   cases q:x.1.isGuard with
   |false=>rfl
   |true=>
    have:x.1∈guardsOf ((Γ.code,p)::Γ.below):=List.mem_filter.mpr ⟨List.mem_map_of_mem hx,q⟩
    rw[g] at this;cases this
  have n2:kZ x.1=false:=by
   rcases l5.mp hx with q | q
   ·rw[q];exact d.1
   ·exact d.2 x q
  rw[hf x.1 x.2 n1 n2];exact e9
 rw[e];exact h
theorem Dc{v:Value}{Q:Value→Shared→Prop}(h:A4 M A (truthy v) (λb s₁=>Q (.bool (!b)) s₁) E s):A4 M A (unaryOp .Not v) Q E s:=by
 unfold unaryOp
 refine C2 ?_
 show A4 M A (do return .bool (!(←truthy v))) Q E s
 exact D6 h λb s₁ h=>s8 h
theorem yd{l op r pos}{Q:Value→Shared→Prop}(h:A4 M A (eval l env) (λa s₁=>A4 M A (eval r env) (λb s₂=>A4 M A (cX op a b) Q E s₂) E s₁) E s):A4 M A (eval (.BinOp l op r pos) env) Q E s:=by
 rw[eval_BinOp];exact D6 h λa s₁ h=>D6 (C2 h) λb s₂ h=>D7 (sd h)
theorem lD{op x pos}{Q:Value→Shared→Prop}(h:A4 M A (eval x env) (λv s₁=>A4 M A (unaryOp op v) Q E s₁) E s):A4 M A (eval (.UnaryOp op x pos) env) Q E s:=by
 rw[arm_eval_UnaryOp];exact D6 h λv s₁ h=>D7 (C2 h)
theorem yc{test body orelse pos}{Q:Value→Shared→Prop}(h:A4 M A (V4 test env (eval test env)) (λc s₂=>if c then A4 M A (eval body env) Q E s₂ else A4 M A (eval orelse env) Q E s₂) E s):
  A4 M A (eval (.IfExp test body orelse pos) env) Q E s:=by
 rw[arm_eval_IfExp];exact D6 h λc s₂ h=>by cases c<;>exact h
theorem lE{op e pos}{Q:Value→Shared→Prop}(h:A4 M A (eval e env) Q E s):A4 M A (eval (.BoolOp op [e] pos) env) Q E s:=h
theorem lF{e₁ e₂ rest pos}{Q:Value→Shared→Prop}
  (h:A4 M A (eval e₁ env) (λv s₁=>A4 M A (truthy v) (λc s₂=>if c then A4 M A (eval (.BoolOp .And (e₂::rest) pos) env) Q E s₂ else Q v s₂) E s₁) E s):A4 M A (eval (.BoolOp .And (e₁::e₂::rest) pos) env) Q E s:=by
 rw[aP,N3,N3]
 refine D6 h λv s₁ h=>D7 (D6 (C2 h) λc s₂ h=>?_)
 cases c with
 |false=>exact s8 h
 |true=>rw[if_pos rfl,aP,N3] at h;exact h
theorem oL{e₁ e₂ rest pos}{Q:Value→Shared→Prop}
  (h:A4 M A (eval e₁ env) (λv s₁=>A4 M A (truthy v) (λc s₂=>if c then Q v s₂ else A4 M A (eval (.BoolOp .Or (e₂::rest) pos) env) Q E s₂) E s₁) E s):A4 M A (eval (.BoolOp .Or (e₁::e₂::rest) pos) env) Q E s:=by
 rw[aP,N3,N3]
 refine D6 h λv s₁ h=>D7 (D6 (C2 h) λc s₂ h=>?_)
 cases c with
 |true=>exact s8 h
 |false=>rw[if_neg e9,aP,N3] at h;exact h
theorem xN{x pos whole}{Q:Bool→Shared→Prop}(h:A4 M A (V4 x env (eval x env)) (λc s'=>Q (!c) s') E s):A4 M A (V4 (.UnaryOp .Not x pos) env whole) Q E s:=by
 rw[arm_isTrue_UnaryOp];exact D6 h λc s' h=>s8 h
theorem uH{op values pos whole}{Q:Bool→Shared→Prop}(h:A4 M A (dF op values env) Q E s):A4 M A (V4 (.BoolOp op values pos) env whole) Q E s:=by rw[arm_isTrue_BoolOp];exact h
theorem sj{Q:Bool→Shared→Prop}(h:Q true s):A4 M A (dF .And [] env) Q E s:=s8 h
theorem sg{Q:Bool→Shared→Prop}(h:Q false s):A4 M A (dF .Or [] env) Q E s:=s8 h
theorem jM{x rest}{Q:Bool→Shared→Prop}(h:A4 M A (V4 x env (eval x env)) (λb s₁=>if b then A4 M A (dF .And rest env) Q E s₁ else Q false s₁) E s):A4 M A (dF .And (x::rest) env) Q E s:=by
 rw[arm_allTrue_cons]
 refine D6 h λb s₁ h=>?_
 cases b with
 |false=>exact s8 h
 |true=>exact h
theorem mG{x rest}{Q:Bool→Shared→Prop}(h:A4 M A (V4 x env (eval x env)) (λb s₁=>if b then Q true s₁ else A4 M A (dF .Or rest env) Q E s₁) E s):A4 M A (dF .Or (x::rest) env) Q E s:=by
 rw[arm_allTrue_cons]
 refine D6 h λb s₁ h=>?_
 cases b with
 |true=>exact s8 h
 |false=>exact h
theorem Be{test body orelse pos whole}{Q:Bool→Shared→Prop}
  (h:A4 M A (V4 test env (eval test env)) (λc s₂=>if c then A4 M A (V4 body env (eval body env)) Q E s₂ else A4 M A (V4 orelse env (eval orelse env)) Q E s₂) E s):A4 M A (V4 (.IfExp test body orelse pos) env whole) Q E s:=by
 rw[arm_isTrue_IfExp];exact D6 h λc s₂ h=>by cases c<;>exact h
theorem xM{e:PySem.Expr}{whole:Sem Value}{Q:Bool→Shared→Prop}(h:A4 M A whole (λv s₁=>A4 M A (truthy v) Q E s₁) E s)(he:V4 e env whole=(do let v ←whole;Q2 e.pos;J5 [v] (truthy v))):A4 M A (V4 e env whole) Q E s:=by
 rw[he];exact D6 h λv s₁ h=>D7 (C2 h)
theorem Dd{l op r pos}{Q:Value→Shared→Prop}(h:A4 M A (eval l env) (λa s₁=>A4 M A (eval r env) (λb s₂=>A4 M A (D9 op a b) Q E s₂) E s₁) E s)(hm:behindInMarks op r=false):A4 M A (eval (.Compare l [op] [r] pos) env) Q E s:=by
 rw[eval_Compare1,markedBehindIn_of_false hm];exact D6 h λa s₁ h=>D6 (C2 h) λb s₂ h=>D7 (sd h)
theorem xO{l op r pos whole}{Q:Bool→Shared→Prop}
  (h:A4 M A (eval l env) (λa s₁=>A4 M A (eval r env) (λb s₂=>A4 M A (D9 op a b) (λc s₃=>A4 M A (truthy c) Q E s₃) E s₂) E s₁) E s) (hm:behindInMarks op r=false):A4 M A (V4 (.Compare l [op] [r] pos) env whole) Q E s:=by
 rw[isTrue_Compare1,markedBehindIn_of_false hm];exact D6 h λa s₁ h=>D6 (C2 h) λb s₂ h=>D7 (D6 (sd h) λc s₃ h=>C2 h)
theorem zY{pos:Pos}{Q:List Value→Shared→Prop}(h:Q [] s):A4 M A (bg (T6 pos (E0 [] env))) Q E s:=s8 h
theorem qb{pos:Pos}{e:PySem.Expr}{rest:List PySem.Expr}{Q:List Value→Shared→Prop}
  (h:A4 M A (eval e env) (λv s₁=>A4 M A (bg (T6 pos (E0 rest env))) (λvs s₂=>Q (v::vs) s₂) E s₁) E s) (he:E0 (e::rest) env=(false,eval e env)::E0 rest env):A4 M A (bg (T6 pos (E0 (e::rest) env))) Q E s:=by
 rw[he]
 show A4 M A (do
  let v ←eval e env
  let here ←(pure [v]:Sem (List Value))
  return here++(←J5 here (bg (T6 pos (E0 rest env))))) Q E s
 exact D6 h λv s₁ h=>j8 (s8 (D6 (C2 h) λvs s₂ h=>s8 h))
theorem xZ{elts:List PySem.Expr}{k:Nat}{pos:Pos}{Q:Value→Shared→Prop}
  (h:A4 M A (bg (T6 pos (E0 elts env))) (λvs s₁=>vs.length≤Q7∧Q (.ref s₁.heap.objs.size) { s₁ with heap:=s₁.heap.push { cls:=.type "tuple",data:=.seq vs.toArray } }) E s):A4 M A (eval (.Tuple elts k pos) env) Q E s:=by
 rw[arm_eval_Tuple]
 exact D7 (D6 h λvs s₁ h=>v9 (Y8 h.2 (by show vs.toArray.size≤Q7;rw[S5];exact h.1)))
theorem uK{elts:List PySem.Expr}{pos:Pos}{Q:Value→Shared→Prop}
  (h:A4 M A (bg (T6 pos (E0 elts env))) (λvs s₁=>vs.length≤Q7∧Q (.ref s₁.heap.objs.size) { s₁ with heap:=s₁.heap.push { cls:=.type "list",data:=.seq vs.toArray } }) E s):A4 M A (eval (.List elts pos) env) Q E s:=by
 rw[arm_eval_List]
 exact D7 (D6 h λvs s₁ h=>v9 (Y8 h.2 (by show vs.toArray.size≤Q7;rw[S5];exact h.1)))
theorem zZ{value fB pos}{Q:Value→Shared→Prop}(h:A4 M A (eval value env) (λo s₁=>A4 M A (eval fB env) (λi s₂=>A4 M A (ay value fB o i) Q E s₂) E s₁) E s):A4 M A (eval (.Subscript value fB pos) env) Q E s:=by
 rw[arm_eval_Subscript];exact D6 h λo s₁ h=>D6 (C2 h) λi s₂ h=>D7 h
theorem pZ{x:Option PySem.Expr}:valueOrNone (evalOpt x env)=evalPart x env:=by cases x<;>rfl
theorem yb{lower upper:Option PySem.Expr}{p:Pos}{Q:Value→Shared→Prop}
  (h:A4 M A (evalPart lower env) (λl s₁=>A4 M A (evalPart upper env) (λu s₃=>Q (.ref s₃.heap.objs.size) { s₃ with heap:=s₃.heap.push { cls:=.type "slice",data:=.fields #[l,u,.none] } }) E s₁) E s):A4 M A (eval (.Slice lower upper none p) env) Q E s:=by
 rw[arm_eval_Slice,pZ,pZ,pZ]
 exact D6 h λl s₁ h=>D6 (C2 h) λu s₃ h=>j8 (C2 (s8 (v9 (Y8 h))))
end
section
variable{prog:Program}{w:World}{A:Around}{E:Value→Shared→Prop}{s:Shared}{env:Env}
theorem Bg{value:PySem.Expr}{attr:Str}{pos:Pos}{Q:Value→Shared→Prop}(hb:W3 value attr env (eval value env)=eval value env)
  (h:A4 (y8 prog w) A (eval value env) (λo s₁=>A4 (y8 prog w) A (getAttr o attr true) Q E s₁) E s):A4 (y8 prog w) A (eval (.Attribute value attr pos) env) Q E s:=by
 rw[arm_eval_Attribute,hb]
 exact D6 h λo s₁ h=>D7 (D6 (C2 h) λr s₂ h=>j8 (v9 (wpAny_letTemporaryGo (s8 h))))
end
end Mine.Z
namespace Mine.Z
open PySem.Sem (wp)
section
variable{M:Model}{A:Around}{E E':Value→Shared→Prop}{s:Shared}{env:Env}{α β:Type}
noncomputable def nr(M:Model)(A:Around)(R:R6→Shared→Prop):PySem.Fin→Shared→Prop:=λfin s'=>match fin with
 |.done f=>R (.ok f) s'
 |.again c'=>c'.quiet=true∧kZ c'=false∧M5 M A c' R s'
theorem V6{c:Code}{R:R6→Shared→Prop}(hd:kZ c=false)(h:A4 M (A.under c) (M.den c) (nr M A R) (λe s'=>R (.error e) s') s):M5 M A c R s:=λΓ p hc i d=>by
 rw[wpCode_iff_wp,hc]
 refine Sem.wp_mono M Γ _ (λfin p' s' h'=>?_) (λ_ _ _ h'=>h') p s (h Γ p (hc▸i.in) d)
 cases fin with
 |done f=>exact h'
 |again c'=>exact⟨h'.1,h'.2.2 (Γ.goto c') p' rfl (i.goto c') ⟨h'.2.1,d.2⟩⟩
theorem oH{Γ:Ctx}{c:Code}{h:Option Value}{p:Pos}(d:ND Γ)(hc:kZ c=false):ND (Γ.enter c h p):=by
 refine⟨hc,λx hx=>?_⟩
 have:x∈(Γ.code,p)::Γ.below:=hx
 rcases l5.mp this with q | q
 ·rw[q];exact d.1
 ·exact d.2 x q
noncomputable def gZ(Q:Value→Shared→Prop)(E:Value→Shared→Prop):R6→Shared→Prop:=λr s'=>match r with
 |.ok (.ret v)=>Q v s'
 |.ok _=>False
 |.error e=>E e s'
theorem pY{c:Code}{Q:Value→Shared→Prop}(hd:kZ c=false)(hc:M5 M A c (gZ Q E) s):A4 M A (runValue c) Q E s:=λΓ p i d=>by
 rw[Sem.wp_runValue]
 exact wpCode_mono (λr s' x=>x) (hc _ p rfl (i.enter c none p (by intro x;cases x)) (oH d hd))
theorem zX{c:Code}{h:Option Value}{Q:Flow→Shared→Prop}(hd:kZ c=false)(hc:M5 M (A.mark h) c (λr s'=>match r with | .ok f=>Q f s' | .error e=>E e s') s)(hnb:h≠some byPass):A4 M A (run c h) Q E s:=λΓ p i d=>by
 rw[Sem.wp_run];exact hc _ p rfl (i.enter c h p hnb) (oH d hd)
theorem cS{f:Value}{pos:List Value}{kw:List (Str×Value)}{Q:Value→Shared→Prop}(hc:M5 M A (.call f ⟨pos,kw⟩) (gZ Q E) s):A4 M A (call f pos kw) Q E s:=pY rfl hc
theorem Bd{vs:List Value}{m:Sem α}{Q:α→Shared→Prop}(h:A4 M A m Q E s):A4 M A (m.keep vs) Q E s:=λΓ p i d=>by rw[Sem.wp_keep];exact h Γ p i d
theorem xK{vs:List Value}{Q:Unit→Shared→Prop}(h:Q () s):A4 M A (J5 vs point) Q E s:=v9 (V9 (wpAny_point h))
theorem pX{t:Sem Value}{Q:Value→Shared→Prop}(h:A4 M A t Q E s):A4 M A (t>>=λr=>J5 [r] point>>=λ_=>pure r) Q E s:=D6 h λr s₂ hr=>j8 (xK (s8 hr))
theorem qa{f:Value}{args:List (Bool×Sem Value)}{Q:Args→Shared→Prop}(hp:args.any (·.1)=false)(h:A4 M A (bg args) (λvs s'=>Q ⟨vs,[]⟩ s') E s):A4 M A (evalArgs f true args []) Q E s:=by
 have go:A4 M A (bg args>>=λvs=>(pure (vs,none):Sem (List Value×Option Value))>>=λx=>J5 (x.1++x.2.toList) do
  let readLate (keep:List Value):Sem (List Value):=do
   let some s:=x.2 | return x.1
   if ←notIterableAtAll s then
    rule "call.star.not-iterable"
    raiseError "TypeError" s!"{← functionStr f} argument after * must be an iterable, not {← typeNameOf s}"
   J5 keep (collect s)
  if ([]:List (Option Str×Sem Value)).all (·.1.isSome) then
   let kw:=(([]:List (Option Str×Sem Value)).filterMap (·.1)).zip (←evalAll (([]:List (Option Str×Sem Value)).map (·.2)))
   return ⟨←readLate (kw.map (·.2)),kw⟩
  let d ←mergedKeywords f []
  let pos ←readLate [.ref d]
  return ⟨pos,←J5 (.ref d::pos) (keywordsIn f d)⟩) Q E s:=by
  refine D6 h λvs s' h=>j8 (s8 (C2 ?_))
  exact j8 (s8 (j8 (s8 (s8 h))))
 unfold evalArgs
 cases args with
 |nil=>exact go
 |cons a r=>
  obtain⟨b,x⟩:=a
  cases b with
  |false=>exact go
  |true=>simp at hp
noncomputable def Keeps(M:Model)(f:Value)(h:Heap):Prop:=∃k,(k=Keeper.frame∨k=Keeper.machine∨k=Keeper.boundFrame)∧bL M h (keeperOf f) k
theorem aF{id:String}{h:Heap}:Keeps M (.builtin id) h:=⟨.machine,.inr (.inl rfl),bL.of_pure rfl⟩
theorem fM{T:String}{h:Heap}:Keeps M (.type T) h:=⟨.machine,.inr (.inl rfl),bL.of_pure rfl⟩
theorem jW{K:Frag}{f:Value}{h:Heap}(hk:keepIn K f=true)(X:K.In h):Keeps M f h:=keeps_K hk h X
theorem Fy{α:Type}{c:Prop}{i:Decidable c}{x y:Sem α}{Q:α→Shared→Prop}(h1:A4 M A x Q E s)(h2:A4 M A y Q E s):A4 M A (if c then x else y) Q E s:=by
 by_cases q:c
 ·rw[if_pos q];exact h1
 ·rw[if_neg q];exact h2
theorem Q3{pos:Pos}{f:Value}{first:List Value}{args:List (Bool×Sem Value)}{Q:Value→Shared→Prop}(hp:args.any (·.1)=false)
  (h:A4 M A (bg args) (λvs s₁=>Keeps M f s₁.heap∧A4 M A (call f (first++vs)) Q E s₁) E s):A4 M A (cW pos f first args []) Q E s:=by
 unfold cW
 refine D6 (C2 (qa (Q:=λa s₁=>Keeps M f s₁.heap∧A4 M A (call f (first++a.pos) a.kw) Q E s₁) hp h)) λa s₁ h=>D7 ?_
 refine D2 λ_ kk=>?_
 obtain⟨⟨k,hk,L⟩,h⟩:=h
 refine kk ?_
 have e:(args.any (·.1)||([]:List (Option Str×Sem Value)).any (·.1.isNone))=false:=by rw[hp];rfl
 simp only[e]
 refine j8 (v9 (L.here ?_))
 have marked (mk:Value):A4 M A (callMarked mk f (first++a.pos) a.kw) Q E s₁:=by unfold callMarked;exact Bd h
 rcases hk with rfl | rfl | rfl<;>first | exact pX h | exact Fy (pX h) (pX (marked _))
theorem pK{es:List PySem.Expr}{pos:Pos}(h:∀e∈es,∀r,E0 (e::r) env=(false,eval e env)::E0 r env):(T6 pos (E0 es env)).any (·.1)=false:=by
 induction es with
 |nil=>rfl
 |cons e r ih=>
  rw[h e (.head _) r]
  show (false||(T6 pos (E0 r env)).any (·.1))=false
  rw[ih λx hx=>h x (.tail _ hx)];rfl
theorem eW{y:Str}{p pos:Pos}{es:List PySem.Expr}{Q:Value→Shared→Prop}(h:A4 M A (eval (.Name y p) env) (λf s₁=>A4 M A (cW pos f [] (T6 pos (E0 es env)) []) Q E s₁) E s):
  A4 M A (eval (.Call (.Name y p) es [] pos) env) Q E s:=D6 (f:=λf=>cW pos f [] (T6 pos (E0 es env)) (backToKw pos (keywordEach [] env))) h λf s₁ h=>h
theorem rf{o:PySem.Expr}{name:Str}{apos pos:Pos}{es:List PySem.Expr}{Q:Value→Shared→Prop}(hb:W3 o name env (eval o env)=eval o env)(hn:es.length<29)(hl:(apos.endLine==pos.line)=true)(hs:(T6 pos (E0 es env)).any (·.1)=false)
  (h:A4 M A (eval o env) (λov s₁=>A4 M A (getMethod ov name (do return (←importBound o env).getD true)) (λfx s₂=>A4 M A (cW pos fx.1 fx.2 (T6 pos (E0 es env)) []) Q E s₂) E s₁) E s) :
  A4 M A (eval (.Call (.Attribute o name apos) es [] pos) env) Q E s:=by
 rw[arm_eval_Call,hb]
 refine D6 h λov s₁ h=>D7 ?_
 have form:methodCallForm (es.length+([]:List Keyword).length) (T6 pos (E0 es env)) (backToKw pos (keywordEach [] env))=true:=by
  unfold methodCallForm
  have a1:(T6 pos (E0 es env)).all (λx=>!x.1)=true:=by
   rw[M0];intro x hx;rw[cM] at hs
   have:=hs x hx;simpa using this
  rw[a1]
  have:decide (es.length+([]:List Keyword).length+0<30)=true:=by simp;lia -abstractProof
  exact this
 unfold methodCall
 rw[form]
 refine D6 (C2 h) λfx s₂ h=>?_
 unfold methodCallPos
 rw[hl]
 exact j8 (s8 h)
theorem X8{c:Prop}[Decidable c]{x y:Sem α}{Q:α→Shared→Prop}(hc:¬c)(h:A4 M A y Q E s):A4 M A (if c then x else y) Q E s:=by rw[if_neg hc];exact h
theorem jK{c:Prop}[Decidable c]{x y:Sem α}{Q:α→Shared→Prop}(hc:c)(h:A4 M A x Q E s):A4 M A (if c then x else y) Q E s:=by rw[if_pos hc];exact h
theorem dj{T:String}{name:Str}{f:Option Value}{v:Value}{Q:Option Value→Shared→Prop}(hT:s.TypeIs v T)(hl:M2 (.type T) name=pure f)(h:Q f s):A4 M A (specialOf v name) Q E s:=v9 (A8 hT hl h)
theorem kU{T:String}{name:Str}{id:String}{self:Value}{args:List Value}{Q:Option Value→Shared→Prop}(hT:s.TypeIs self T)(S:Slot T name id)(h:A4 M A (call (.builtin id) (self::args)) (λr=>Q (some r)) E s):A4 M A (callSpecial? self name args) Q E s:=by
 unfold callSpecial?
 refine j8 (dj hT S.lookup ?_)
 refine C2 (j8 (X9 (S.bind self) ?_))
 exact D6 h λr s₁ h=>s8 h
end
section
variable{prog:Program}{w:World}{A:Around}{E:Value→Shared→Prop}{s:Shared}
theorem sf{id:String}{args:Args}{b:Builtin}{R:R6→Shared→Prop}(hd:Builtin.Bytes.decodersThatHold.contains id=false)(hq:plainId id=true)(hb:K6 aV id=some b)
  (h:A4 (y8 prog w) A.in1 (B2 id args) (λ_ s₁=>A4 (y8 prog w) A.in1 (b args) (nr (y8 prog w) A R) (λe s'=>R (.error e) s') s₁) (λe s'=>R (.error e) s') s) :
  M5 (y8 prog w) A (.call (.builtin id) args) R s:=by
 refine V6 rfl ?_
 show A4 _ A.in1 (do B2 id args;again (.builtin id args)) _ _ s
 refine D6 h λ_ s₁ h=>s8 ⟨W1 hq args,hd,V6 hd ?_⟩
 show A4 _ _ (match K6 aV id with | some b=>b args | none=>unsupported ((withoutEnding? id "#data").getD id)) _ _ s₁
 rw[hb,Around.under_plainId hq args];exact h
theorem xT{id:String}{args:Args}{b:Builtin}{R:R6→Shared→Prop}(hd:Builtin.Bytes.decodersThatHold.contains id=false)(hb:K6 aV id=some b)
  (h:A4 (y8 prog w) (A.under (.builtin id args)) (b args) (nr (y8 prog w) A R) (λe s'=>R (.error e) s') s):M5 (y8 prog w) A (.builtin id args) R s:=by
 refine V6 hd ?_
 show A4 _ _ (match K6 aV id with | some b=>b args | none=>unsupported ((withoutEnding? id "#data").getD id)) _ _ s
 rw[hb];exact h
theorem ir{T:String}{name:Str}{id:String}{b:Builtin}{self:Value}{rest:List Value}{Q:Value→Shared→Prop}(hd:Builtin.Bytes.decodersThatHold.contains id=false)(h:Slot T name id)(hT:s.TypeIs self T)(hb:K6 aV id=some b)
  (ha:K1 id ⟨self::rest,[]⟩) (hc:A4 (y8 prog w) A.in1 (b ⟨self::rest,[]⟩) (nr (y8 prog w) A (gZ Q E)) E s):A4 (y8 prog w) A (call (.builtin id) (self::rest)) Q E s:=
 cS (sf hd h.plain hb (v9 (h.check _ _ _ _ _ _ _ _ hT ha hc)))
end
end Mine.Z
section
set_option maxRecDepth 100000
namespace Mine.Z
open PySem.Builtin
open PySem.Sem (wp)
theorem kT:Slot "bytearray" "__len__" "bytearray.__len__":=
 .of (owner:="bytearray") (n:="__len__") (by rw[u5,r0];kernel_rfl) (by decide +kernel) (by decide +kernel) (by decide +kernel)
  (by first | exact .inl (by decide +kernel) | exact .inr (by decide +kernel)) (by rw[F4];kernel_rfl)
theorem X7:Manifest.owners.lookup (String.ofList ['y','a','r','r','a','e','t','y','b'].reverse)=some Manifest.sig_bytearray:=by kernel_rfl
theorem kr:K6 aV "bytearray.__len__" = some Builtin.«bytearray.__len__»:=G1 (by kernel_rfl)
theorem ja(a:Value):K1 "bytearray.__len__" ⟨[a],[]⟩:=by
 unfold K1;rw[signature?_of (id:="bytearray.__len__") (n:=['_','_','n','e','l','_','_']) (o:=['y','a','r','r','a','e','t','y','b']) (by kernel_rfl) X7];kernel_rfl
theorem cG:Slot "bytearray" "__getitem__" "bytearray.__getitem__":=
 .of (owner:="bytearray") (n:="__getitem__") (by rw[u5,r0];kernel_rfl) (by decide +kernel) (by decide +kernel) (by decide +kernel)
  (by first | exact .inl (by decide +kernel) | exact .inr (by decide +kernel)) (by rw[F4];kernel_rfl)
theorem fR:K6 aV "bytearray.__getitem__" = some Builtin.«bytearray.__getitem__»:=G1 (by kernel_rfl)
theorem fw(a b:Value):K1 "bytearray.__getitem__" ⟨[a,b],[]⟩:=by
 unfold K1;rw[signature?_of (id:="bytearray.__getitem__") (n:=['_','_','m','e','t','i','t','e','g','_','_']) (o:=['y','a','r','r','a','e','t','y','b']) (by kernel_rfl) X7];kernel_rfl
theorem cF:Slot "bytearray" "__setitem__" "bytearray.__setitem__":=
 .of (owner:="bytearray") (n:="__setitem__") (by rw[u5,r0];kernel_rfl) (by decide +kernel) (by decide +kernel) (by decide +kernel)
  (by first | exact .inl (by decide +kernel) | exact .inr (by decide +kernel)) (by rw[F4];kernel_rfl)
theorem fQ:K6 aV "bytearray.__setitem__" = some Builtin.«bytearray.__setitem__»:=G1 (by kernel_rfl)
theorem fu(a b c:Value):K1 "bytearray.__setitem__" ⟨[a,b,c],[]⟩:=by
 unfold K1;rw[signature?_of (id:="bytearray.__setitem__") (n:=['_','_','m','e','t','i','t','e','s','_','_']) (o:=['y','a','r','r','a','e','t','y','b']) (by kernel_rfl) X7];kernel_rfl
theorem de:Slot "bytearray" "append" "bytearray.append":=
 .of (owner:="bytearray") (n:="append") (by rw[u5,r0];kernel_rfl) (by decide +kernel) (by decide +kernel) (by decide +kernel)
  (by first | exact .inl (by decide +kernel) | exact .inr (by decide +kernel)) (by rw[F4];kernel_rfl)
theorem gQ:K6 aV "bytearray.append" = some Builtin.«bytearray.append»:=G1 (by kernel_rfl)
theorem fX(a b:Value):K1 "bytearray.append" ⟨[a,b],[]⟩:=by
 unfold K1;rw[signature?_of (id:="bytearray.append") (n:=['d','n','e','p','p','a']) (o:=['y','a','r','r','a','e','t','y','b']) (by kernel_rfl) X7];kernel_rfl
theorem da:Slot "bytearray" "extend" "bytearray.extend":=
 .of (owner:="bytearray") (n:="extend") (by rw[u5,r0];kernel_rfl) (by decide +kernel) (by decide +kernel) (by decide +kernel)
  (by first | exact .inl (by decide +kernel) | exact .inr (by decide +kernel)) (by rw[F4];kernel_rfl)
theorem gP:K6 aV "bytearray.extend" = some Builtin.«bytearray.extend»:=G1 (by kernel_rfl)
theorem fW(a b:Value):K1 "bytearray.extend" ⟨[a,b],[]⟩:=by
 unfold K1;rw[signature?_of (id:="bytearray.extend") (n:=['d','n','e','t','x','e']) (o:=['y','a','r','r','a','e','t','y','b']) (by kernel_rfl) X7];kernel_rfl
noncomputable abbrev aa(b:Array UInt8):Obj:={ cls:=.type "bytearray",data:=.bytearray b }
section
variable{M:Model}{prog:Program}{w:World}{A:Around}{E:Value→Shared→Prop}{s:Shared}{a:Addr}{b:Array UInt8}
theorem jL{self:Value}{Q:Bool→Shared→Prop}(hg:A.guards=some [])(h:Q false s):A4 M A (Bytes.exported self) Q E s:=by
 refine xJ hg (λc p g d=>?_) h
 cases c with
 |builtin i args=>
  have n:∀x,guardIds.contains x=true→i≠x:=λx q e=>by
   subst e
   rw[show guardIds.contains i=false from g] at q;cases q
  have n1:=n "bytearray.__contains__" (by decide +kernel)
  have n2:=n "bytearray.__mod__" (by decide +kernel)
  have n3:=n "bytearray.__rmod__" (by decide +kernel)
  have n4:=n "_struct.pack_into.held" (by decide +kernel)
  have n5:=n "bytearray.find.held" (by decide +kernel)
  delta Bytes.exported.match_1
  refine(dif_neg n1).trans ((dif_neg n2).trans ((dif_neg n3).trans ((dif_neg n4).trans ((dif_neg n5).trans ?_))))
  obtain⟨pos,kw⟩:=args
  cases pos with
  |nil=>rfl
  |cons v r=>
   show (Bytes.sameRef v self&&Bytes.decodersThatHold.contains i)=false
   rw[show Bytes.decodersThatHold.contains i=false from d,cq]
 |_=>rfl
theorem fC{Q:Unit→Shared→Prop}(hg:A.guards=some [])(ho:s.heap.get? a=some (aa b))(h:Q () s):A4 M A (Bytes.checkResize (.ref a)) Q E s:=by
 unfold Bytes.checkResize
 refine j8 (j8 (jL hg ?_))
 show A4 M A (do return decide ((←Bytes.exportsOf (.ref a))>0)) _ E s
 refine j8 (j8 (v9 (S9 ho (s8 (s8 ?_)))))
 exact s8 h
theorem aC{f:Array UInt8→Array UInt8}{Q:Unit→Shared→Prop}(ho:s.heap.get? a=some (aa b))(hz:(f b).size≤K8)(h:Q () { s with heap:=s.heap.update a (Obj.mapBytearray f) }):n9 M A (Bytes.write (.ref a) f) Q E s:=by
 unfold Bytes.write updateBytearray
 refine i7 (S9 ho (i7 (wpAny_update ho ?_)))
 refine wpAny_lookBehind (o:=aa (f b)) (Heap.get?_update_self _ ho rfl) ?_ h
 show (if (f b).size>Q7 then _ else _)=none
 rw[if_neg (by rw[F0];unfold K8 at hz;lia -abstractProof)]
theorem tc{i:Int}{u:Tok}{Q:UInt8→Shared→Prop}(h0:0≤i)(h1:i<256)(h:Q i.toNat.toUInt8 s):n9 M A (Bytes.byteValue (.int i u)) Q E s:=by
 unfold Bytes.byteValue
 refine i7 (x8 (rfl:asIndex (.int i u)=pure i) ?_)
 show n9 M A (if (decide (i<0)||decide (i≥256))=true then _ else _) Q E s
 rw[if_neg (by simp;lia -abstractProof)]
 exact m6 h
theorem y9(ho:s.heap.get? a=some (aa b)):s.TypeIs (.ref a) "bytearray":=⟨_,ho,rfl⟩
theorem uJ{i:Int}{u:Tok}{Q:Value→Shared→Prop}(hg:A.guards=some [])(ho:s.heap.get? a=some (aa b))(h0:0≤i)(h1:i<256)(hz:b.size<K8)
  (h:Q .none { s with heap:=s.heap.update a (Obj.mapBytearray (·.push i.toNat.toUInt8)) }):A4 (y8 prog w) A (call (.builtin "bytearray.append") [.ref a,.int i u]) Q E s:=by
 refine ir (by decide +kernel) de (y9 ho) gQ (fX _ _) ?_
 unfold «bytearray.append»
 refine j8 (X9 (a:=(.ref a,.int i u)) rfl ?_)
 dsimp only
 refine j8 (v9 (tc h0 h1 ?_))
 refine j8 (fC hg ho ?_)
 refine j8 (v9 (aC ho (by rw[Array.size_push];lia -abstractProof) ?_))
 exact s8 h
theorem cY{Q:Array UInt8→Shared→Prop}(ho:s.heap.get? a=some (aa b))(h:Q b s):n9 M A (Bytes.payload (.ref a)) Q E s:=by
 unfold Bytes.payload Bytes.payload?
 exact i7 (i7 (S9 ho (m6 (m6 h))))
theorem dq:M2 (.type "bytes") "__buffer__" = pure (some (.builtin "bytes.__buffer__")):=by rw[u5,r0];kernel_rfl
theorem uU:M2 (.type "bytes") "__release_buffer__" = pure none:=by rw[u5,r0];kernel_rfl
theorem iA:M2 (.type "bytearray") "__buffer__" = pure (some (.builtin "bytearray.__buffer__")):=by rw[u5,r0];kernel_rfl
theorem sq:M2 (.type "bytearray") "__release_buffer__" = pure (some (.builtin "bytearray.__release_buffer__")):=by rw[u5,r0];kernel_rfl
end
section
variable{prog:Program}{w:World}{A:Around}{E:Value→Shared→Prop}{s:Shared}
theorem dI{T newId initId:String}{args:List Value}{Q:Value→Shared→Prop}(ft:TypeCalled T newId initId)(hct:W2 T ⟨args,[]⟩=pure ())
  (h:A4 (y8 prog w) A.in1 (call (.builtin newId) (.type T::args)) (λobj s₁=>s₁.TypeIs obj T∧A4 (y8 prog w) A.in1 (call (.builtin initId) (obj::args)) (λr s₂=>r = .none∧Q obj s₂) E s₁) E s) :
  A4 (y8 prog w) A (call (.type T) args) Q E s:=by
 refine cS (V6 rfl ?_)
 show A4 _ _ (callAny (.type T) _) _ _ _
 have hd:Builtin.Bytes.decodersThatHold.contains "type.__call__" = false:=by decide +kernel
 refine s8 ⟨Code.quiet_builtin _ (by decide +kernel),hd,xT hd F.entry_type_call ?_⟩
 rw[Around.under_plain (weight_type_call_type T args []) rfl]
 unfold «type.__call__»
 dsimp only
 simp only[ft.notType,Bool.false_eq_true,if_false]
 simp only[ft.canCreate]
 refine eX21 ft.mro λc tl hm=>?_
 refine X8 e9 ?_
 refine j8 (X9 hct ?_)
 refine j8 (X9 hm ?_)
 refine X8 e9 ?_
 refine j8 (X9 ft.made ?_)
 refine j8 (s8 ?_)
 refine D6 (C2 h) λobj s₁ h=>?_
 refine j8 (v9 (L6 h.1 ft.sub ?_))
 refine X8 e9 ?_
 refine D6 (C2 (kU (Q:=λr s₂=>r=some .none∧Q obj s₂) h.1 ft.init (K3 h.2 (λr s₂ q=>⟨by rw[q.1],q.2⟩) λ_ _ x=>x))) λr s₂ q=>?_
 obtain⟨rfl,q⟩:=q
 refine X8 (by decide) ?_
 exact s8 q
theorem pJ:mroOf (.type "bytearray")=pure [.type "bytearray",.type "object"]:=by rw[mroOf_type];kernel_rfl
theorem iX:M2 (.type "bytearray") "__new__" = pure (some (.builtin "bytearray.__new__")):=by rw[u5,r0];kernel_rfl
theorem U1:Slot "bytearray" "__init__" "bytearray.__init__":=
 .of (owner:="bytearray") (n:="__init__") (by rw[u5,r0];kernel_rfl) (by decide +kernel) (by decide +kernel) (by decide +kernel)
   (by first | exact .inl (by decide +kernel) | exact .inr (by decide +kernel)) (by rw[F4];kernel_rfl)
theorem gY:isSubtype (.type "bytearray") (.type "bytearray")=pure true:=by rw[F4];kernel_rfl
theorem cK:TypeCalled "bytearray" "bytearray.__new__" "bytearray.__init__":=
 ⟨by decide +kernel,by decide +kernel,⟨_,_,pJ⟩,madeBy_type pJ iX (by decide +kernel),by decide +kernel,gY,U1⟩
theorem X3:K6 aV "bytearray.__init__" = some Builtin.«bytearray.__init__»:=G1 (by kernel_rfl)
theorem km:K6 aV "bytearray.__new__" = some Builtin.«list.__new__»:=entryFor_alias (id':="list.__new__") (by kernel_rfl) rfl (by decide +kernel) (by kernel_rfl)
theorem eN:plainId "bytearray.__new__" = true:=by decide +kernel
theorem wC:W2 "bytearray" ⟨[],[]⟩=pure ():=by kernel_rfl
theorem kL(a:Value):W2 "bytearray" ⟨[a],[]⟩=pure ():=by kernel_rfl
theorem wD:B2 "bytearray.__new__" ⟨[.type "bytearray"],[]⟩=pure ():=by kernel_rfl
theorem kM(a:Value):B2 "bytearray.__new__" ⟨[.type "bytearray",a],[]⟩=pure ():=by kernel_rfl
theorem qz:("bytearray.__new__".splitOn ".__new__").headD "" = "bytearray":=by rw[split_bytearray];rfl
theorem aG{l:List Value}(hn:B2 "bytearray.__new__" ⟨.type "bytearray" :: l,[]⟩=pure ()){Q₁:Value→Shared→Prop}
  (h:Q₁ (.ref s.heap.objs.size) { s with heap:=s.heap.push (aa #[]) }) :
  codeAny (y8 prog w) A (.call (.builtin "bytearray.__new__") ⟨.type "bytearray" :: l,[]⟩) (gZ Q₁ E) s:=by
 refine X0 ?_
 show n9 _ A.in1 (do B2 "bytearray.__new__" ⟨.type "bytearray" :: l,[]⟩;again (.builtin "bytearray.__new__" ⟨.type "bytearray" :: l,[]⟩)) _ _ s
 refine i7 (x8 hn (m6 ⟨W1 eN _,codeAny_builtin_stack km rfl λp st=>?_⟩))
 rw[Around.under_plainId eN _]
 have hsub:=gY
 have hown:=qz
 refine D2 λ_ kk=>?_
 obtain⟨hp,g,d,tk,os⟩:=s
 refine kk ?_
 simp only[hown]
 wp_walk
 exact h
theorem iz:M2 (.type "bytes") "__index__" = pure none:=by rw[u5,r0];kernel_rfl
theorem dV:M2 (.type "bytearray") "__index__" = pure none:=by rw[u5,r0];kernel_rfl
theorem qA:Builtin.Bytes.bindOptional "bytearray.__init__" "bytearray" ["source","encoding","errors"] [] []=pure [none,none,none]:=by kernel_rfl
theorem fU(v:Value):Builtin.Bytes.bindOptional "bytearray.__init__" "bytearray" ["source","encoding","errors"] [v] []=pure [some v,none,none]:=by kernel_rfl
variable{a:Addr}{b:Array UInt8}
theorem nH{M:Model}{Q:Nat→Shared→Prop}(ho:s.heap.get? a=some (aa b))(h:Q 0 s):n9 M A (Bytes.exportsOf (.ref a)) Q E s:=by
 unfold Bytes.exportsOf
 exact i7 (S9 ho (m6 h))
theorem cZ{M:Model}{Q:Bool→Shared→Prop}(ho:s.heap.get? a=some (aa b))(h:Q false s):n9 M A (Bytes.ownRelease (.ref a)) Q E s:=by
 unfold Bytes.ownRelease Bytes.slotIsOwn
 refine i7 (i7 (A8 (y9 ho) sq ?_))
 have e:("bytearray.__release_buffer__".dropRight ("__release_buffer__".length+1)) = "bytearray":=by decide +kernel
 show n9 M A (if (!("bytearray.__release_buffer__".endsWith ("." ++ "__release_buffer__")))=true then pure false else X5 (.ref a) (.type ("bytearray.__release_buffer__".dropRight ("__release_buffer__".length+1)))) _ E s
 rw[e,if_neg (by decide +kernel)]
 exact L6 (y9 ho) gY (m6 h)
theorem jj{Q:Bool→Shared→Prop}{M:Model}(hg:A.guards=some [])(ho:s.heap.get? a=some (aa b))(h:Q false s):A4 M A (Bytes.exported (.ref a) <||> do
      let __do_lift ←Bytes.exportsOf (Value.ref a)
      pure (decide (__do_lift>0))) Q E s:=by
 refine j8 (jL hg ?_)
 show A4 M A (do
      let __do_lift ←Bytes.exportsOf (Value.ref a)
      pure (decide (__do_lift>0))) Q E s
 exact j8 (v9 (nH ho (s8 h)))
theorem qB(a:Value):K1 "bytearray.__init__" ⟨[a],[]⟩:=by
 unfold K1;rw[signature?_of (id:="bytearray.__init__") (n:=['_','_','t','i','n','i','_','_']) (o:=['y','a','r','r','a','e','t','y','b']) (by kernel_rfl) X7];kernel_rfl
theorem fV(a v:Value):K1 "bytearray.__init__" ⟨[a,v],[]⟩:=by
 unfold K1;rw[signature?_of (id:="bytearray.__init__") (n:=['_','_','t','i','n','i','_','_']) (o:=['y','a','r','r','a','e','t','y','b']) (by kernel_rfl) X7];kernel_rfl
theorem xS(hg:A.guards=some []){Q:Value→Shared→Prop}(ho:s.heap.get? a=some (aa #[]))(k:Q .none { s with heap:=s.heap.update a (Obj.mapBytearray λ_=>#[]) }):A4 (y8 prog w) A (call (.builtin "bytearray.__init__") [.ref a]) Q E s:=by
 refine ir (by decide +kernel) U1 (y9 ho) X3 (qB _) ?_
 unfold «bytearray.__init__»
 dsimp only
 refine j8 (v9 (cZ ho ?_))
 refine X8 e9 ?_
 refine j8 (X9 qA ?_)
 dsimp only
 refine j8 (X9 (a:=()) rfl (j8 (X9 (a:=()) rfl ?_)))
 refine j8 (jj hg ho (X8 e9 (j8 (v9 (aC ho (j9 _) ?_)))))
 exact s8 k
theorem rE{M:Model}{c:Array UInt8}{t:Tok}{Q:Bool→Shared→Prop}(h:Q false s):n9 M A (Bytes.ownRelease (.bytes c t)) Q E s:=by
 unfold Bytes.ownRelease Bytes.slotIsOwn
 exact i7 (i7 (A8 (u2 s c t) uU (m6 (m6 h))))
theorem ls{M:Model}{c:Array UInt8}{t:Tok}{Q:Bool→Shared→Prop}(h:Q true s):n9 M A (Bytes.slotIsOwn (.bytes c t) "__buffer__") Q E s:=by
 unfold Bytes.slotIsOwn
 refine i7 (A8 (u2 s c t) dq ?_)
 have e:("bytes.__buffer__".dropRight ("__buffer__".length+1)) = "bytes":=by decide +kernel
 show n9 M A (if (!("bytes.__buffer__".endsWith ("." ++ "__buffer__")))=true then pure false else X5 (.bytes c t) (.type ("bytes.__buffer__".dropRight ("__buffer__".length+1)))) _ E s
 rw[e,if_neg (by decide +kernel)]
 exact L6 (u2 s c t) F.sub_bytes_bytes h
theorem rF{M:Model}{Q:Bool→Shared→Prop}(ho:s.heap.get? a=some (aa b))(h:Q true s):n9 M A (Bytes.slotIsOwn (.ref a) "__buffer__") Q E s:=by
 unfold Bytes.slotIsOwn
 refine i7 (A8 (y9 ho) iA ?_)
 have e:("bytearray.__buffer__".dropRight ("__buffer__".length+1)) = "bytearray":=by decide +kernel
 show n9 M A (if (!("bytearray.__buffer__".endsWith ("." ++ "__buffer__")))=true then pure false else X5 (.ref a) (.type ("bytearray.__buffer__".dropRight ("__buffer__".length+1)))) _ E s
 rw[e,if_neg (by decide +kernel)]
 exact L6 (y9 ho) gY h
theorem te{M:Model}{id:String}{f:Bool}{c:Array UInt8}{t:Tok}{Q:Option (Array UInt8)→Shared→Prop}(h:Q (some c) s):n9 M A (Bytes.buffer? id (.bytes c t) f) Q E s:=by
 unfold Bytes.buffer?
 refine i7 (A8 (u2 s c t) dq ?_)
 dsimp only
 refine i7 (ls ?_)
 rw[if_neg (by decide)]
 refine i7 (A8 (u2 s c t) dq ?_)
 refine i7 (rE ?_)
 rw[if_neg (by decide)]
 exact i7 (x8 (a:=c) rfl (m6 h))
theorem th{M:Model}{id:String}{f:Bool}{Q:Option (Array UInt8)→Shared→Prop}(ho:s.heap.get? a=some (aa b))(h:Q (some b) s):n9 M A (Bytes.buffer? id (.ref a) f) Q E s:=by
 unfold Bytes.buffer?
 refine i7 (A8 (y9 ho) iA ?_)
 dsimp only
 refine i7 (rF ho ?_)
 rw[if_neg (by decide)]
 refine i7 (A8 (y9 ho) iA ?_)
 refine i7 (cZ ho ?_)
 rw[if_neg (by decide)]
 exact i7 (cY ho (m6 h))
theorem xQ(hg:A.guards=some []){c:Array UInt8}{t:Tok}{Q:Value→Shared→Prop}(ho:s.heap.get? a=some (aa #[]))(hz:c.size≤K8)(k:Q .none { s with heap:=(s.heap.update a (Obj.mapBytearray λ_=>#[])).update a (Obj.mapBytearray λ_=>c) }):A4 (y8 prog w) A (call (.builtin "bytearray.__init__") [.ref a,.bytes c t]) Q E s:=by
 refine ir (by decide +kernel) U1 (y9 ho) X3 (fV _ _) ?_
 unfold «bytearray.__init__»
 dsimp only
 refine j8 (v9 (cZ ho ?_))
 refine X8 e9 ?_
 refine j8 (X9 (fU _) ?_)
 dsimp only
 refine j8 (X9 (a:=()) rfl (j8 (X9 (a:=()) rfl ?_)))
 refine j8 (jj hg ho (X8 e9 (j8 (v9 (aC ho (j9 _) ?_)))))
 have ho':(s.heap.update a (Obj.mapBytearray λ_=>#[])).get? a=some (aa #[]):=Heap.get?_update_self (Obj.mapBytearray λ_=>#[]) ho rfl
 refine j8 (X9 (a:=none) rfl (X8 e9 ?_))
 refine j8 (X9 (a:=()) rfl ?_)
 refine j8 (dj (u2 _ c t) iz (X8 e9 ?_))
 refine j8 (v9 (te ?_))
 dsimp only
 refine j8 (v9 (P9 (j8 (v9 (aC ho' hz ?_)))))
 exact s8 k
theorem xR(hg:A.guards=some []){c:Array UInt8}{x:Addr}{Q:Value→Shared→Prop}(ho:s.heap.get? a=some (aa #[]))(hx:s.heap.get? x=some (aa c))(hne:x≠a)(hz:c.size≤K8)(k:Q .none { s with heap:=(s.heap.update a (Obj.mapBytearray λ_=>#[])).update a (Obj.mapBytearray λ_=>c) }):A4 (y8 prog w) A (call (.builtin "bytearray.__init__") [.ref a,.ref x]) Q E s:=by
 refine ir (by decide +kernel) U1 (y9 ho) X3 (fV _ _) ?_
 unfold «bytearray.__init__»
 dsimp only
 refine j8 (v9 (cZ ho ?_))
 refine X8 e9 ?_
 refine j8 (X9 (fU _) ?_)
 dsimp only
 refine j8 (X9 (a:=()) rfl (j8 (X9 (a:=()) rfl ?_)))
 refine j8 (jj hg ho (X8 e9 (j8 (v9 (aC ho (j9 _) ?_)))))
 have ho':(s.heap.update a (Obj.mapBytearray λ_=>#[])).get? a=some (aa #[]):=Heap.get?_update_self (Obj.mapBytearray λ_=>#[]) ho rfl
 have hx':(s.heap.update a (Obj.mapBytearray λ_=>#[])).get? x=some (aa c):=(Heap.get?_update_ne _ _ _ _ hne).trans hx
 have hs:n9 (y8 prog w) A.in1 (asStr? (.ref x)) (λr s'=>r=none∧s' = { s with heap:=s.heap.update a (Obj.mapBytearray λ_=>#[]) }) E { s with heap:=s.heap.update a (Obj.mapBytearray λ_=>#[]) }:=by
  unfold asStr?
  exact i7 (S9 hx' (m6 ⟨rfl,rfl⟩))
 refine D6 (v9 hs) λr s' q=>?_
 refine eX02 q λzq2 zq3=>?_;clear q;subst zq2;subst zq3
 refine X8 e9 ?_
 refine j8 (X9 (a:=()) rfl ?_)
 refine j8 (dj (y9 hx') dV (X8 e9 ?_))
 refine j8 (v9 (th hx' ?_))
 dsimp only
 refine j8 (v9 (P9 (j8 (v9 (aC ho' hz ?_)))))
 exact s8 k
theorem Dy{n:Int}(h0:0≤n)(hn:n<100000):¬(!Bytes.fitsIndex n)=true:=by simp only[Bytes.fitsIndex];simp;exact⟨(e6 (by decide) h0),(e8 (i5 hn) (by decide))⟩
theorem Dx{n:Int}(hn:n<100000):¬(n==2^63-1)=true:=by simp;lia -abstractProof
theorem Dw{n:Int}(hn:n<100000):¬Bytes.tooLong n.toNat=true:=by simp only[Bytes.tooLong,F0];simp;exact A3 (e7 hn (by decide))
theorem tW{n:Int}(hn:n<100000):(Array.replicate n.toNat (0:UInt8)).size≤K8:=by simp[K8];exact A3 (e7 hn (by decide))
theorem xP(hg:A.guards=some []){n:Int}{t:Tok}{Q:Value→Shared→Prop}(ho:s.heap.get? a=some (aa #[]))(h0:0≤n)(hn:n<100000)(k:∀h',h'.objs.size=s.heap.objs.size→(∀y,y≠a→h'.get? y=s.heap.get? y)→h'.get? a=some (aa (Array.replicate n.toNat 0))→Q .none { s with heap:=h' }):A4 (y8 prog w) A (call (.builtin "bytearray.__init__") [.ref a,.int n t]) Q E s:=by
 refine ir (by decide +kernel) U1 (y9 ho) X3 (fV _ _) ?_
 have hi1:=Dy h0 hn
 have hi2:¬n<0:=r6.mpr h0
 have hi3:=Dx hn
 have hi4:=Dw hn
 unfold «bytearray.__init__»
 dsimp only
 refine j8 (v9 (cZ ho ?_))
 refine X8 e9 ?_
 refine j8 (X9 (fU _) ?_)
 dsimp only
 refine j8 (X9 (a:=()) rfl (j8 (X9 (a:=()) rfl ?_)))
 refine j8 (jj hg ho (X8 e9 (j8 (v9 (aC ho (j9 _) ?_)))))
 have ho':(s.heap.update a (Obj.mapBytearray λ_=>#[])).get? a=some (aa #[]):=Heap.get?_update_self (Obj.mapBytearray λ_=>#[]) ho rfl
 refine j8 (X9 (a:=none) rfl (X8 e9 ?_))
 refine j8 (X9 (a:=()) rfl ?_)
 refine j8 (dj (N8 _ n t) F.slot_int_index.lookup (jK rfl ?_))
 refine j8 (X9 (a:=Except.ok n) rfl ?_)
 dsimp only
 refine X8 hi1 (X8 hi2 (X8 hi3 (X8 hi4 ?_)))
 refine j8 (v9 (P9 ?_))
 by_cases q:n>0
 ·refine jK q (j8 (v9 (aC ho' (tW hn) ?_)))
  refine s8 (k _ (by rw[Heap.size_update,Heap.size_update]) (λy hy=>(Heap.get?_update_ne _ _ _ _ hy).trans (Heap.get?_update_ne _ _ _ _ hy)) (Heap.get?_update_self (Obj.mapBytearray λ_=>Array.replicate n.toNat 0) ho' rfl))
 ·refine X8 q (s8 (k _ (by rw[Heap.size_update]) (λy hy=>Heap.get?_update_ne _ _ _ _ hy) ?_))
  have:n.toNat=0:=by exact dX ((A2 (n:=0)).mpr (r6.mp q)) (j9 _)
  rw[this];exact ho'
end
section
variable{prog:Program}{w:World}{A:Around}{E:Value→Shared→Prop}{s:Shared}{a:Addr}{b:Array UInt8}
theorem qZ{h:Heap}{o:Obj}{f:Obj→Obj}{y:Addr}{p:Obj}(e:h.get? y=some p):((h.push o).update h.objs.size f).get? y=some p:=by
 refine(Heap.get?_update_ne _ _ _ _ ?_).trans (Heap.get?_push_of_some _ e)
 intro q;subst q
 rw[Heap.get?_none_of_le (d8 _)] at e;cases e
theorem xY(hg:A.guards=some []){Q:Value→Shared→Prop}(h:∀h',(∀y o,s.heap.get? y=some o→h'.get? y=some o)→h'.get? s.heap.objs.size=some (aa #[])→Q (.ref s.heap.objs.size) { s with heap:=h' }):
  A4 (y8 prog w) A (call (.type "bytearray") []) Q E s:=by
 have ho:(s.heap.push (aa #[])).get? s.heap.objs.size=some (aa #[]):=Heap.get?_push_size _ rfl
 refine dI cK wC (cS (oV (aG wD ⟨y9 (s:={ s with heap:=s.heap.push (aa #[]) }) ho,?_⟩)))
 exact xS (A:=A.in1) (Q:=λr s₂=>r = .none∧Q (.ref s.heap.objs.size) s₂) (s:={ s with heap:=s.heap.push (aa #[]) }) hg ho ⟨rfl,h _ (λy o e=>qZ e) (Heap.get?_update_self (Obj.mapBytearray λ_=>#[]) ho rfl)⟩
theorem CB{h:Heap}{c:Array UInt8}(ho:h.get? a=some (aa #[])):((h.update a (Obj.mapBytearray λ_=>#[])).update a (Obj.mapBytearray λ_=>c)).get? a=some (aa c):=
 Heap.get?_update_self (Obj.mapBytearray λ_=>c) (Heap.get?_update_self (Obj.mapBytearray λ_=>#[]) ho rfl) rfl
theorem oG{h:Heap}{o:Obj}{f g:Obj→Obj}{y:Addr}{p:Obj}(e:h.get? y=some p):(((h.push o).update h.objs.size f).update h.objs.size g).get? y=some p:=by
 refine(Heap.get?_update_ne _ _ _ _ ?_).trans (qZ e)
 intro q;subst q
 rw[Heap.get?_none_of_le (d8 _)] at e;cases e
theorem xW(hg:A.guards=some []){c:Array UInt8}{t:Tok}{Q:Value→Shared→Prop}(hz:c.size≤K8)(h:∀h',(∀y o,s.heap.get? y=some o→h'.get? y=some o)→h'.get? s.heap.objs.size=some (aa c)→Q (.ref s.heap.objs.size) { s with heap:=h' }):
  A4 (y8 prog w) A (call (.type "bytearray") [.bytes c t]) Q E s:=by
 have ho:(s.heap.push (aa #[])).get? s.heap.objs.size=some (aa #[]):=Heap.get?_push_size _ rfl
 refine dI cK (kL _) (cS (oV (aG (kM _) ⟨y9 (s:={ s with heap:=s.heap.push (aa #[]) }) ho,?_⟩)))
 exact xQ (A:=A.in1) (Q:=λr s₂=>r = .none∧Q (.ref s.heap.objs.size) s₂) (s:={ s with heap:=s.heap.push (aa #[]) }) hg ho hz ⟨rfl,h _ (λy o e=>oG e) (CB ho)⟩
theorem xX(hg:A.guards=some []){c:Array UInt8}{x:Addr}{Q:Value→Shared→Prop}(hx:s.heap.get? x=some (aa c))(hz:c.size≤K8)(h:∀h',(∀y o,s.heap.get? y=some o→h'.get? y=some o)→h'.get? s.heap.objs.size=some (aa c)→Q (.ref s.heap.objs.size) { s with heap:=h' }):
  A4 (y8 prog w) A (call (.type "bytearray") [.ref x]) Q E s:=by
 have ho:(s.heap.push (aa #[])).get? s.heap.objs.size=some (aa #[]):=Heap.get?_push_size _ rfl
 have ne:x≠s.heap.objs.size:=λq=>by subst q;rw[Heap.get?_none_of_le (d8 _)] at hx;cases hx
 refine dI cK (kL _) (cS (oV (aG (kM _) ⟨y9 (s:={ s with heap:=s.heap.push (aa #[]) }) ho,?_⟩)))
 exact xR (A:=A.in1) (Q:=λr s₂=>r = .none∧Q (.ref s.heap.objs.size) s₂) (s:={ s with heap:=s.heap.push (aa #[]) }) hg ho (Heap.get?_push_of_some _ hx) ne hz ⟨rfl,h _ (λy o e=>oG e) (CB ho)⟩
theorem xV(hg:A.guards=some []){n:Int}{t:Tok}{Q:Value→Shared→Prop}(h0:0≤n)(hn:n<100000)(h:∀h',(∀y o,s.heap.get? y=some o→h'.get? y=some o)→h'.get? s.heap.objs.size=some (aa (Array.replicate n.toNat 0))→Q (.ref s.heap.objs.size) { s with heap:=h' }):
  A4 (y8 prog w) A (call (.type "bytearray") [.int n t]) Q E s:=by
 have ho:(s.heap.push (aa #[])).get? s.heap.objs.size=some (aa #[]):=Heap.get?_push_size _ rfl
 refine dI cK (kL _) (cS (oV (aG (kM _) ⟨y9 (s:={ s with heap:=s.heap.push (aa #[]) }) ho,?_⟩)))
 refine xP (A:=A.in1) (Q:=λr s₂=>r = .none∧Q (.ref s.heap.objs.size) s₂) (s:={ s with heap:=s.heap.push (aa #[]) }) hg ho h0 hn λh' h1 h2 h3=>⟨rfl,h _ (λy o e=>?_) h3⟩
 refine(h2 y λq=>?_).trans (Heap.get?_push_of_some _ e)
 subst q
 rw[Heap.get?_none_of_le (d8 _)] at e;cases e
theorem oR:M2 (.type "bytes") "__bytes__" = pure (some (.builtin "bytes.__bytes__")):=by rw[u5,r0];kernel_rfl
theorem oS:M2 (.type "bytearray") "__bytes__" = pure none:=by rw[u5,r0];kernel_rfl
theorem oQ:M2 (.type "int") "__bytes__" = pure none:=by rw[u5,r0];kernel_rfl
theorem zf{c:Array UInt8}{t:Tok}{Q:Value→Shared→Prop}(h:Q (.bytes c t) s):n9 (y8 prog w) A (call (.type "bytes") [.bytes c t]) Q E s:=by
 refine bK (Q₁:=λobj s₁=>s₁.TypeIs obj "bytes"∧Q obj s₁) F.bm_called (F.bm_typeCall _) F.entry_object_init ?_ λobj s₁ h₁=>?_
 ·refine X0 ?_
  show n9 _ A.in1.in1 (do B2 "bytes.__new__" ⟨[.type "bytes",.bytes c t],[]⟩;again (.builtin "bytes.__new__" ⟨[.type "bytes",.bytes c t],[]⟩)) _ _ s
  refine i7 (x8 (F.bm_newCall _) (m6 ⟨W1 F.bm_plain _,aN F.bm_entry ?_⟩))
  rw[Around.under_plainId F.bm_plain _]
  unfold «bytes.__new__»
  refine i7 (x8 (a:=true) rfl ?_)
  refine J2 rfl ?_
  refine i7 (x8 F.bm_sub ?_)
  refine J2 rfl ?_
  refine i7 (x8 (F.bm_bind _) ?_)
  refine i7 (x8 (a:=()) rfl ?_)
  refine i7 (x8 (a:=()) rfl ?_)
  refine J2 rfl ?_
  refine i7 (A8 (u2 s c t) oR ?_)
  refine i7 (P9 (i7 (x8 (a:=.type "bytes") rfl (bm_if_true (by decide) ?_))))
  exact m6 ⟨u2 _ _ _,h⟩
 ·exact⟨h₁.1,F.args_object_init_2 obj _,Y9 F.bm_called.init.lookup F.bm_called.made (by decide) prog w A.in1 _ s₁ ⟨h₁.1,rfl,h₁.2⟩⟩
theorem ze{n:Int}{t:Tok}{Q:Value→Shared→Prop}(h0:0≤n)(hn:n<100000)(h:Q (.bytes (Array.replicate n.toNat 0) s.toks) { s with toks:=s.toks+1 }):n9 (y8 prog w) A (call (.type "bytes") [.int n t]) Q E s:=by
 refine bK (Q₁:=λobj s₁=>s₁.TypeIs obj "bytes"∧Q obj s₁) F.bm_called (F.bm_typeCall _) F.entry_object_init ?_ λobj s₁ h₁=>?_
 ·refine X0 ?_
  show n9 _ A.in1.in1 (do B2 "bytes.__new__" ⟨[.type "bytes",.int n t],[]⟩;again (.builtin "bytes.__new__" ⟨[.type "bytes",.int n t],[]⟩)) _ _ s
  refine i7 (x8 (F.bm_newCall _) (m6 ⟨W1 F.bm_plain _,aN F.bm_entry ?_⟩))
  rw[Around.under_plainId F.bm_plain _]
  unfold «bytes.__new__»
  refine i7 (x8 (a:=true) rfl ?_)
  refine J2 rfl ?_
  refine i7 (x8 F.bm_sub ?_)
  refine J2 rfl ?_
  refine i7 (x8 (F.bm_bind _) ?_)
  refine i7 (x8 (a:=()) rfl ?_)
  refine i7 (x8 (a:=()) rfl ?_)
  refine J2 rfl ?_
  refine i7 (A8 (N8 s n t) oQ ?_)
  refine i7 (x8 (a:=false) rfl (J2 rfl ?_))
  refine i7 (A8 (N8 s n t) F.slot_int_index.lookup (J2 rfl ?_))
  refine i7 (x8 (a:=Except.ok n) rfl ?_)
  refine I1 (by simp only[Bytes.fitsIndex];simp;exact⟨(e6 (by decide) h0),(e8 (i5 hn) (by decide))⟩) ?_
  refine I1 (by simp;exact h0) (I1 (by simp;exact A3 (e7 hn (by decide))) (I1 (by simp only[Bytes.tooLong,F0];simp;exact A3 (e7 hn (by decide))) ?_))
  refine i7 (P9 (i7 (wpAny_mkBytes ?_ (by simp[F0];exact A3 (e7 hn (by decide))))))
  exact m6 ⟨u2 _ _ _,h⟩
 ·exact⟨h₁.1,F.args_object_init_2 obj _,Y9 F.bm_called.init.lookup F.bm_called.made (by decide) prog w A.in1 _ s₁ ⟨h₁.1,rfl,h₁.2⟩⟩
theorem zg{t:Tok}{Q:Value→Shared→Prop}(ho:s.heap.get? a=some (aa b))(hz:b.size≤K8)(h:Q (.bytes b s.toks) { s with toks:=s.toks+1 }):n9 (y8 prog w) A (call (.type "bytes") [.ref a]) Q E s:=by
 refine bK (Q₁:=λobj s₁=>s₁.TypeIs obj "bytes"∧Q obj s₁) F.bm_called (F.bm_typeCall _) F.entry_object_init ?_ λobj s₁ h₁=>?_
 ·refine X0 ?_
  show n9 _ A.in1.in1 (do B2 "bytes.__new__" ⟨[.type "bytes",.ref a],[]⟩;again (.builtin "bytes.__new__" ⟨[.type "bytes",.ref a],[]⟩)) _ _ s
  refine i7 (x8 (F.bm_newCall _) (m6 ⟨W1 F.bm_plain _,aN F.bm_entry ?_⟩))
  rw[Around.under_plainId F.bm_plain _]
  unfold «bytes.__new__»
  refine i7 (x8 (a:=true) rfl ?_)
  refine J2 rfl ?_
  refine i7 (x8 F.bm_sub ?_)
  refine J2 rfl ?_
  refine i7 (x8 (F.bm_bind _) ?_)
  refine i7 (x8 (a:=()) rfl ?_)
  refine i7 (x8 (a:=()) rfl ?_)
  refine J2 rfl ?_
  refine i7 (A8 (y9 ho) oS ?_)
  refine i7 (i7 (i7 (S9 ho (m6 (m6 (J2 rfl ?_))))))
  refine i7 (A8 (y9 ho) dV (bm_if_true rfl ?_))
  show n9 _ _ (Bytes.buffer? "bytes.__new__" (.ref a) true>>=_) _ _ _
  refine i7 (th ho ?_)
  refine i7 (P9 (i7 (wpAny_mkBytes ?_ (by rw[F0];unfold K8 at hz;exact hz))))
  exact m6 ⟨u2 _ _ _,h⟩
 ·exact⟨h₁.1,F.args_object_init_2 obj _,Y9 F.bm_called.init.lookup F.bm_called.made (by decide) prog w A.in1 _ s₁ ⟨h₁.1,rfl,h₁.2⟩⟩
theorem fK(i:Int)(u:Tok)(h0:0≤i)(h1:i<b.size)(hz:b.size≤K8):
  Meets («bytearray.__getitem__» ⟨[.ref a,.int i u],[]⟩) (λ_ R s=>s.heap.get? a=some (aa b)∧R (.ok (.ret (.int ((b.toList.getD i.toNat 0).toNat:Int) s.toks))) { s with toks:=s.toks+1 }):=
 .of_wp λprog w A R s h=>by
  refine eX02 h λhl h=>?_
  unfold «bytearray.__getitem__»
  refine i7 (x8 (a:=(.ref a,[.int i u])) rfl ?_)
  dsimp only
  refine i7 ?_
  unfold Bytes.subscript?
  refine i7 (A8 (N8 s i u) F.slot_int_index.lookup ?_)
  have hr:Bytes.fitsIndex i=true:=by simp only[Bytes.fitsIndex,M1,decide_eq_true_eq];unfold K8 at hz;lia -abstractProof
  refine I1 (by decide) (i7 (x8 (a:=i) rfl ?_))
  refine I1 (by rw[hr];decide) (m6 ?_)
  dsimp only
  refine i7 (cY hl ?_)
  have e:(seqIndex? i b.size).bind (b[·]?)=some (b.toList.getD i.toNat 0):=by
   have hl:i.toNat<b.size:=by exact(E9 h0).mpr h1
   have:seqIndex? i b.size=some i.toNat:=by
    have hn:¬i<0:=by exact r6.mpr h0
    simp[seqIndex?,hn,h0,h1]
   rw[this];simp[hl]
  rw[e]
  exact i7 (wpAny_mkInt (m6 ⟨_,rfl,h⟩))
theorem mX{i:Int}{u:Tok}{Q:Value→Shared→Prop}(ho:s.heap.get? a=some (aa b))(h0:0≤i)(h1:i<b.size)(hz:b.size≤K8)
  (h:Q (.int ((b.toList.getD i.toNat 0).toNat:Int) s.toks) { s with toks:=s.toks+1 }):n9 (y8 prog w) A (getItem (.ref a) (.int i u)) Q E s:=
 getItem_meets (y9 ho) (by decide) cG fR (fw _ _) (fK i u h0 h1 hz) ⟨ho,h⟩
theorem uY{Q:Value→Shared→Prop}(ho:s.heap.get? a=some (aa b))(hz:b.size≤K8)(h:Q (.int b.size (s.toks+1)) { s with toks:=s.toks+1+1 }):n9 (y8 prog w) A (call (.builtin "len") [.ref a]) Q E s:=by
 have g:Meets («bytearray.__len__» ⟨[.ref a],[]⟩) (λ_ R s=>s.heap.get? a=some (aa b)∧R (.ok (.ret (.int b.size s.toks))) { s with toks:=s.toks+1 }):=.of_wp λprog w A R s h=>by
  refine eX02 h λhl h=>?_
  unfold «bytearray.__len__»
  refine i7 (x8 (a:=(.ref a,[])) rfl ?_)
  dsimp only
  exact i7 (cY hl (i7 (wpAny_mkInt (m6 ⟨_,rfl,h⟩))))
 exact call_len_meets (y9 ho) kT kr (ja _) g (by exact r6.mpr (g8 _)) (by unfold K8 at hz;exact G0.mpr (e8 (m5.mpr hz) (by decide))) (λQ' q=>⟨ho,q⟩) h
theorem mw{i k:Int}{u t:Tok}{Q:Unit→Shared→Prop}(ho:s.heap.get? a=some (aa b))(h0:0≤i)(h1:i<b.size)(hz:b.size≤K8)(k0:0≤k)(k1:k<256)
  (h:Q () { s with heap:=s.heap.update a (Obj.mapBytearray (·.setIfInBounds i.toNat k.toNat.toUInt8)) }):n9 (y8 prog w) A (setItem (.ref a) (.int i u) (.int k t)) Q E s:=by
 have g:Meets («bytearray.__setitem__» ⟨[.ref a,.int i u,.int k t],[]⟩) (λ_ R s=>s.heap.get? a=some (aa b)∧R (.ok (.ret .none)) { s with heap:=s.heap.update a (Obj.mapBytearray (·.setIfInBounds i.toNat k.toNat.toUInt8)) }):=.of_wp λprog w A R s h=>by
  refine eX02 h λhl h=>?_
  unfold «bytearray.__setitem__»
  dsimp only
  refine I1 rfl ?_
  refine i7 ?_
  unfold Bytes.subscript?
  refine i7 (A8 (N8 s i u) F.slot_int_index.lookup ?_)
  have hr:Bytes.fitsIndex i=true:=by simp only[Bytes.fitsIndex,M1,decide_eq_true_eq];unfold K8 at hz;lia -abstractProof
  refine I1 (by decide) (i7 (x8 (a:=i) rfl ?_))
  refine I1 (by rw[hr];decide) (m6 ?_)
  dsimp only
  refine i7 (tc k0 k1 (i7 (cY hl ?_)))
  have:seqIndex? i b.size=some i.toNat:=by
   have hn:¬i<0:=by exact r6.mpr h0
   simp[seqIndex?,hn,h0,h1]
  rw[this]
  dsimp only
  refine i7 (aC hl (by rw[Array.size_setIfInBounds];exact hz) ?_)
  exact m6 ⟨_,rfl,h⟩
 unfold setItem
 refine V9 (i7 (wpAny_sequenceKey (y9 ho) (by decide) ?_))
 refine i7 (wpAny_callSpecial?_slot (name:=Str.ofString "__setitem__") (y9 ho) cF (call_meets cF (y9 ho) fQ (fu _ _ _) g ⟨ho,?_⟩))
 exact m6 h
theorem Cy{α:Type}{M:Model}{t:Sem α}{Q:Except Value α→Shared→Prop}(h:n9 M A t (λa=>Q (.ok a)) (λe=>Q (.error e)) s):n9 M A t.attempt Q E s:=λΓ p i=>by
 rw[Sem.wp_attempt];exact h Γ p i
theorem xa{M:Model}{id:String}{f:Int}{c:Array UInt8}{t:Tok}{Q:Option (Array UInt8×Option Value)→Shared→Prop}(h:Q (some (c,none)) s):n9 M A (Bytes.takeBufferQuiet? id (.bytes c t) f) Q E s:=by
 unfold Bytes.takeBufferQuiet?
 refine i7 (Cy ?_)
 unfold Bytes.takeBuffer?
 refine i7 (A8 (u2 s c t) dq ?_)
 dsimp only
 refine i7 (ls ?_)
 rw[if_neg (by decide)]
 refine i7 (A8 (u2 s c t) dq ?_)
 refine i7 (te ?_)
 exact m6 (m6 h)
theorem uI{c:Array UInt8}{t:Tok}{Q:Value→Shared→Prop}(hg:A.guards=some [])(ho:s.heap.get? a=some (aa b))(hz:b.size+c.size≤K8)
  (h:Q .none { s with heap:=s.heap.update a (Obj.mapBytearray (· ++ c)) }):A4 (y8 prog w) A (call (.builtin "bytearray.extend") [.ref a,.bytes c t]) Q E s:=by
 refine ir (by decide +kernel) da (y9 ho) gP (fW _ _) ?_
 unfold «bytearray.extend»
 refine j8 (X9 (a:=(.ref a,.bytes c t)) rfl ?_)
 dsimp only
 refine j8 (dj (u2 s c t) dq (jK rfl ?_))
 refine j8 (v9 (P9 (j8 (v9 (cY ho ?_)))))
 refine j8 (v9 (xa ?_))
 dsimp only
 refine jK rfl ?_
 show A4 _ _ (if (!c.isEmpty)=true then Bytes.checkResize (.ref a)>>=λ_=>Bytes.write (.ref a) (· ++ c)>>=λ_=>ret .none else Bytes.write (.ref a) (· ++ c)>>=λ_=>ret .none) _ _ _
 have fin:A4 (y8 prog w) A.in1 (Bytes.write (.ref a) (· ++ c)>>=λ_=>ret .none) (nr (y8 prog w) A (gZ Q E)) E s:=j8 (v9 (aC ho (by rw[Array.size_append];exact hz) (s8 h)))
 split
 ·exact j8 (fC hg ho fin)
 ·exact fin
theorem hV:typeOf (.builtin "bytearray.append")=pure (.type "method_descriptor"):=by show builtinType _=_;rw[builtinType_eq_fast];kernel_rfl
theorem hU:typeOf (.builtin "bytearray.extend")=pure (.type "method_descriptor"):=by show builtinType _=_;rw[builtinType_eq_fast];kernel_rfl
theorem dT:PlainAttrs "bytearray":=
 ⟨⟨"bytearray.__getattribute__",by rw[u5,r0];kernel_rfl,by decide +kernel⟩,by rw[u5,r0];kernel_rfl⟩
theorem kX{pl:Sem Bool}{Q:Value×List Value→Shared→Prop}(ho:s.heap.get? a=some (aa b))(h:Q (.builtin "bytearray.append",[.ref a]) s):n9 (y8 prog w) A (getMethod (.ref a) "append" pl) Q E s:=
 getMethod_builtin (y9 ho) dT de hV (λx e=>by cases e;exact⟨_,ho,rfl⟩) h
theorem kW{pl:Sem Bool}{Q:Value×List Value→Shared→Prop}(ho:s.heap.get? a=some (aa b))(h:Q (.builtin "bytearray.extend",[.ref a]) s):n9 (y8 prog w) A (getMethod (.ref a) "extend" pl) Q E s:=
 getMethod_builtin (y9 ho) dT da hU (λx e=>by cases e;exact⟨_,ho,rfl⟩) h
end
section
variable{prog:Program}{w:World}{A:Around}{E:Value→Shared→Prop}{s:Shared}
theorem Je(a b:Value):W2 "range" ⟨[a,b],[]⟩=pure ():=by kernel_rfl
theorem Jd(a b c:Value):W2 "range" ⟨[a,b,c],[]⟩=pure ():=by kernel_rfl
theorem IU(a b:Value):B2 "range.__new__" ⟨[.type "range",a,b],[]⟩=pure ():=by kernel_rfl
theorem IS(a b c:Value):B2 "range.__new__" ⟨[.type "range",a,b,c],[]⟩=pure ():=by kernel_rfl
theorem ua:isSubtype (.type "range") (.type "range")=pure true:=by rw[F4];kernel_rfl
theorem qT:plainId "range.__new__" = true:=by decide +kernel
theorem EN(o:Value)(l:List Value)(h:l.length≤3):K1 "object.__init__" ⟨o::l,[]⟩:=by
 cases l with
 |nil=>unfold K1;kernel_rfl
 |cons a l=>
  cases l with
  |nil=>unfold K1;kernel_rfl
  |cons b l=>
   cases l with
   |nil=>unfold K1;kernel_rfl
   |cons c l=>
    cases l with
    |nil=>unfold K1;kernel_rfl
    |cons d l=>exact absurd h (by rw[m9,m9,m9,m9];lia -abstractProof)
theorem fG{l:List Value}{S:PySem.Spec}{Q:Value→Shared→Prop}(h0:l.length≤3)(h1:W2 "range" ⟨l,[]⟩=pure ())(h2:B2 "range.__new__" ⟨.type "range" :: l,[]⟩=pure ())
  (g:Meets («range.__new__» ⟨.type "range" :: l,[]⟩) S) (h:S A.in1 (wants (λobj s₁=>s₁.TypeIs obj "range"∧Q obj s₁) E) s):n9 (y8 prog w) A (call (.type "range") l) Q E s:=by
 refine bK (Q₁:=λobj s₁=>s₁.TypeIs obj "range"∧Q obj s₁) F.called_range h1 F.entry_object_init ?_ λobj s₁ h₁=>?_
 ·refine X0 ?_
  show n9 _ A.in1.in1 (do B2 "range.__new__" ⟨.type "range" :: l,[]⟩;again (.builtin "range.__new__" ⟨.type "range" :: l,[]⟩)) _ _ s
  refine i7 (x8 h2 (m6 ⟨W1 qT _,aN F.entry_range_new ?_⟩))
  rw[Around.under_plainId qT _]
  exact g prog w A.in1 _ s h
 ·exact⟨h₁.1,EN obj l h0,Y9 F.called_range.init.lookup F.called_range.made (by decide) prog w A.in1 _ s₁ ⟨h₁.1,rfl,h₁.2⟩⟩
theorem px{a:Int}(h:mid a):Range.rangeFitsLong a=true:=by
 unfold mid at h
 simp[Range.rangeFitsLong];exact⟨(e6 (by decide) (u0 h.1)),(e8 (i5 h.2) (by decide))⟩
theorem hX{n:Int}(h : -10000000000000<n∧n<10000000000000):Range.rangeFitsLong n=true:=by
 simp[Range.rangeFitsLong];exact⟨(e6 (by decide) (u0 h.1)),(e8 (i5 h.2) (by decide))⟩
theorem jB{a b c:Int}(ha:mid a)(hb:mid b)(hc:0<c)(hc2:c<100000):Range.small a b c=true:=by
 have sz : -10000000000000<Range.rangeSize a b c∧Range.rangeSize a b c<10000000000000:=by
  unfold mid at ha hb
  unfold Range.rangeSize
  rw[if_pos hc]
  split
  ·have h1:(b-a-1)/c≤b-a-1:=dC _ (by lia -abstractProof)
   have h2:0≤(b-a-1)/c:=r8 (by lia -abstractProof) (by exact A3 hc)
   exact⟨(e7 (by decide) (j4 h2 (g6 _))),(e8 (j4 (e6 h1 (o8 (o8 (i5 hb.2) (u0 ha.1)) (g6 _))) (g6 _)) (by decide))⟩
  ·exact⟨(by decide),(by decide)⟩
 unfold Range.small
 rw[px ha,px hb,hX (n:=c) (by exact⟨(e7 (by decide) (u0 hc)),(e8 (i5 hc2) (by decide))⟩),hX sz,if_pos hc,hX (n:=b+(c-1)) (by unfold mid at hb;exact⟨(e7 (by decide) (j4 (u0 hb.1) (o8 (u0 hc) (g6 _)))),(e8 (j4 (i5 hb.2) (o8 (i5 hc2) (g6 _))) (by decide))⟩)]
 simp
theorem tS{a b:Int}:(Range.rangeSize a b 1).toNat=(b-a).toNat:=by
 unfold Range.rangeSize
 rw[if_pos (by decide)]
 split
 ·rw[dS];exact congrArg Int.toNat (D5 _ _)
 ·lia -abstractProof
theorem AQ{a b c:Int}(hc:0<c):(Range.rangeSize a b c).toNat=((b-a+c-1)/c).toNat:=by
 unfold Range.rangeSize
 rw[if_pos hc]
 have e:b-a+c-1=(b-a-1)+c:=by lia -abstractProof
 split
 ·rw[e,Int.add_ediv_of_dvd_right (Int.dvd_refl c),Int.ediv_self (by lia -abstractProof)]
 ·have:(b-a+c-1)/c≤0:=by
   have h1:b-a+c-1<c:=by lia -abstractProof
   have:=v7 (a:=b-a+c-1) (b:=1) (c:=c) hc (by lia -abstractProof)
   exact i5 this
  exact dX (j9 _) ((A2 (n:=0)).mpr this)
noncomputable abbrev RK(s:Shared)(F:List AV→Prop)(Q:Value→Shared→Prop):Prop:=
 ∀a c l h' tk I,F (I4 (Int.toNat l) a c)→(∀y o,s.heap.get? y=some o→h'.get? y=some o)→s.heap.get? I=none→IsRangeIter h' I a l c→Q (.ref I) { s with heap:=h',toks:=tk }
theorem hZ{F:List AV→Prop}{Q:Value→Shared→Prop}(k:RK s F Q)(a b c:Int)(t u v:Tok)(tk:Nat)(sm:Range.small a b c=true)(f:F (I4 (Range.rangeSize a b c).toNat a c)):
  n9 (y8 prog w) A (bJ (.ref s.heap.objs.size)) Q E { s with heap:=s.heap.push { cls:=.type "range",data:=.fields #[.int a t,.int b u,.int c v] },toks:=tk }:=by
 refine wpAny_pyIter_range (Heap.get?_push_size _ rfl) sm ?_
 refine k a c (Range.rangeSize a b c) _ tk _ f (λy o e=>Heap.get?_push_of_some _ (Heap.get?_push_of_some _ e)) ?_ (Heap.get?_push_size _ rfl)
 show s.heap.get? (s.heap.push _).objs.size=none
 exact Heap.get?_none_of_le (by rw[Heap.size_push];exact u3 _ _)
theorem xu{b:Int}{u:Tok}{F:List AV→Prop}{Q:Value→Shared→Prop}(k:RK s F Q)(h1:mid b)(h:F (I4 b.toNat 0 1)):
  n9 (y8 prog w) A (call (.type "range") [.int b u]) (λx s₁=>n9 (y8 prog w) A (bJ x) Q E s₁) E s:=by
 refine fG (l:=[.int b u]) (by show 1≤3;decide) (PySem.F.typeCall_range_1 _) (PySem.F.newCall_range_1 _) (AutoRange.range___new___type_int_0 b u ua) ⟨⟨_,Heap.get?_push_size _ rfl,rfl⟩,?_⟩
 refine hZ k 0 b 1 _ _ _ _ (jB (by unfold mid;exact⟨(by decide),(by decide)⟩) h1 (by decide) (by decide)) ?_
 rw[tS,bB];exact h
theorem xt{a b:Int}{t u:Tok}{F:List AV→Prop}{Q:Value→Shared→Prop}(k:RK s F Q)(h0:mid a)(h1:mid b)(h:F (I4 (b-a).toNat a 1)):
  n9 (y8 prog w) A (call (.type "range") [.int a t,.int b u]) (λx s₁=>n9 (y8 prog w) A (bJ x) Q E s₁) E s:=by
 refine fG (l:=[.int a t,.int b u]) (by show 2≤3;decide) (Je _ _) (IU _ _) (AutoRange.range___new___type_int_int_0 a b t u ua) ⟨⟨_,Heap.get?_push_size _ rfl,rfl⟩,?_⟩
 refine hZ k a b 1 _ _ _ _ (jB h0 h1 (by decide) (by decide)) ?_
 rw[tS];exact h
theorem xq{a b c:Int}{t u v:Tok}{F:List AV→Prop}{Q:Value→Shared→Prop}(k:RK s F Q)(h:CN a b c F):
  n9 (y8 prog w) A (call (.type "range") [.int a t,.int b u,.int c v]) (λx s₁=>n9 (y8 prog w) A (bJ x) Q E s₁) E s:=by
 refine D2 λ_ kk=>?_
 obtain⟨⟨h0,h1⟩,h2,h3,h⟩:=h
 refine kk ?_
 refine fG (l:=[.int a t,.int b u,.int c v]) (by show 3≤3;decide) (Jd _ _ _) (IS _ _ _) (AutoRange.range___new___type_int_int_int_1 a b c t u v ua (by simp;lia -abstractProof)) ⟨PyProof.noPylong_small (by lia -abstractProof),⟨_,Heap.get?_push_size _ rfl,rfl⟩,?_⟩
 refine hZ k a b c _ _ _ _ (jB h0 h1 h2 h3) ?_
 rw[AQ h2];exact h
end
end Mine.Z
end
namespace Mine.Z
noncomputable def lget(r:Loc)(n:Nat):AV:=match r with
 |[]=>.U
 |v::r=>match n with
  |0=>v
  |n+1=>lget r n
noncomputable def dk(r:Loc)(n:Nat)(v:AV):Loc:=match r with
 |[]=>[]
 |d::r=>match n with
  |0=>v::r
  |n+1=>d::dk r n v
theorem ti{v:AV}{F:AV→Prop}(h:match v with | .U=>False | v=>F v):P3 v=false∧F v:=by
 cases v<;>first | exact⟨rfl,h⟩ | exact h.elim
theorem jV{F:AV→Prop}{r:Loc}{n:Nat}(h:gG r n F):P3 (lget r n)=false∧F (lget r n):=by
 induction r generalizing n with
 |nil=>exact h.elim
 |cons v r ih=>cases n with
  |zero=>exact ti h
  |succ n=>exact ih h
theorem aJ{v:AV}:∀{r:Loc} {n:Nat} {F:Loc→Prop},Y5 r n v F→F (dk r n v)
 |[],_,_,h=>h
 |_::_,0,_,h=>h
 |_::r,n+1,_,h=>aJ (r:=r) h
theorem qf{F:AV→Prop}:∀{fs:List (Nat×AV)} {f:Nat},Ab fs f F→P3 (lk fs f)=false∧F (lk fs f)
 |[],_,h=>h.elim
 |(k,v)::r,f,h=>by
  unfold Ab at h
  unfold lk
  dsimp only
  cases q:Nat.beq k f with
  |true=>rw[q] at h;exact ti h
  |false=>rw[q] at h;exact qf (F:=F) h
theorem tE{w:AV}:∀{fs:List (Nat×AV)} {f:Nat} {F:List (Nat×AV)→Prop},stC fs f w F→F (st fs f w)
 |[],_,_,h=>h
 |(k,v)::r,f,F,h=>by
  unfold stC at h
  unfold st
  dsimp only
  cases q:Nat.beq k f with
  |true=>rw[q] at h;exact h
  |false=>rw[q] at h;exact tE (fs:=r) h
theorem oO{n:Nat}{c:AV}:∀{r:Loc},(dk r n c).length=r.length:=by
 intro r
 induction r generalizing n with
 |nil=>rfl
 |cons d r ih=>cases n with
  |zero=>rfl
  |succ n=>exact congrArg (· + 1) (ih (n:=n))
theorem jU{n:Nat}{c:AV}{r:Loc}(h:n<r.length):lget (dk r n c) n=c:=by
 induction r generalizing n with
 |nil=>cases h
 |cons d r ih=>cases n with
  |zero=>rfl
  |succ n=>exact ih (B1 h)
theorem gF{n m:Nat}{c:AV}{r:Loc}(h:m≠n):lget (dk r n c) m=lget r m:=by
 induction r generalizing n m with
 |nil=>rfl
 |cons d r ih=>cases n with
  |zero=>cases m with
   |zero=>exact absurd rfl h
   |succ m=>rfl
  |succ n=>cases m with
   |zero=>rfl
   |succ m=>exact ih (λq=>h (congrArg (· + 1) q))
theorem iy{n:Nat}{c d:AV}:∀{r:Loc},dk (dk r n c) n d=dk r n d:=by
 intro r
 induction r generalizing n with
 |nil=>rfl
 |cons e r ih=>cases n with
  |zero=>rfl
  |succ n=>exact congrArg (e :: ·) (ih (n:=n))
structure Cx where
 w:World
 base:Heap
 A:Around
 outer:List Env
 env:Env
 vt:List Str
noncomputable abbrev I5(P:Prg)(C:Cx):Model:=y8 P.prog C.w
noncomputable def FA(env:Env)(a:Addr):Prop:=a=env.locals∨∃x,(x,a)∈env.cells
noncomputable def nX:Addr→Prop:=λ_=>False
theorem DB{env:Env}(a:Addr)(x:nX a):FA env a:=x.elim
noncomputable def pL(P:Prg)(C:Cx)(ρ:Loc)(g:Sg):Prop:=
 ∃m,g.s.heap.Ns C.env.locals m∧∀i x,C.vt[i]?=some x →
  (C.env.kindOf x=some .local→P3 (lget ρ i)=false→∃w,m x=some w∧VR P g.v (lget ρ i) w) ∧
  (C.env.kindOf x=some .cell→∃c,C.env.cells.lookup x=some c∧∃cv,g.s.heap.IsCell c cv∧(P3 (lget ρ i)=false→∃w,cv=some w∧VR P g.v (lget ρ i) w))
structure Rm(P:Prg)(r:Nat)(C:Cx)(g:Sg):Prop where
 rr:R P C.base g
 hd:C.A.handled=none
 fr:C.A.frames=some C.outer
 ff:g.s.heap.FunFrames C.base C.outer
 fo:∀L,L∈C.outer.filterMap (·.frame)→¬g.S L∧∀n,P7 g.H n→L≠g.μ n
 fc:∀L,L∈C.outer.filterMap (·.frame)→∀o,g.s.heap.get? L=some o→Ag o
 gd:C.A.guards=some []
 dp:C.A.depth+4*r≤900
 un:C.A.units+60*r≤9000
structure St(P:Prg)(r:Nat)(C:Cx)(ρ:Loc)(g:Sg):Prop where
 rm:Rm P r C g
 kind:C.env.scope.kind = .function
 gl:C.env.globals=C8
 bl:C.env.builtins=X6
 own:∀a,FA C.env a→¬g.S a∧(∀n,P7 g.H n→a≠g.μ n)∧C.base.get? a=none
 oex:∀a,FA C.env a→∃o,g.s.heap.get? a=some o
 vars:pL P C ρ g
 nd:C.vt.Nodup
 rl:C.vt.length=ρ.length
 cd:∀x x' c,(x,c)∈C.env.cells→(x',c)∈C.env.cells→x=x'
 cl:∀x c,(x,c)∈C.env.cells→c≠C.env.locals
noncomputable def Co(P:Prg)(s0 h:Heap)(c:Nat)(e:Value):Prop:=∃a,e = .ref a∧s0.get? a=none∧c<8 ∧
 ((∃t,h.get? a=some { cls:=.ref (P.ce c),data:=.fields #[.ref t,.none,.none,.none,.bool false,.none] })∨h.Traced s0 a (.ref (P.ce c)))
inductive PG(P:Prg)(base:Heap)(g:Sg){α:Type}(Rel:Sg→α→Prop):α→Shared→Prop
 |mk {a:α} (g':Sg) (y:Stp nX g g') (r:R P base g') (k:Rel g' a):PG P base g Rel a g'.s
inductive VK(P:Prg)(K:KE)(g:Sg)(v:Value):Prop
 |mk {av:AV} (x:VR P g.v av v) (k:K av g.H)
inductive LK(P:Prg)(K:KE)(n:Nat)(g:Sg)(vs:List Value):Prop
 |mk {avs:List AV} (x:VRs P g.v avs vs) (n:vs.length=n) (k:K (.tup avs) g.H)
inductive BK(K:KE)(g:Sg)(b:Bool):Prop
 |mk {av:AV} (x:bQ av=some b) (k:K av g.H)
inductive XK(P:Prg)(h0:Heap)(K:XE)(g:Sg)(e:Value):Prop
 |mk {c:Nat} (x:Co P h0 g.s.heap c e) (k:K c g.H)
noncomputable abbrev J4(P:Prg)(base:Heap)(g:Sg)(K:KE):Value→Shared→Prop:=PG P base g (VK P K)
noncomputable abbrev af(P:Prg)(base:Heap)(g:Sg)(X:XE):Value→Shared→Prop:=PG P base g (XK P g.s.heap X)
noncomputable abbrev Go(P:Prg)(C:Cx)(g:Sg)(t:Sem Value)(K:KE)(X:XE):Prop:=A4 (I5 P C) C.A t (J4 P C.base g K) (af P C.base g X) g.s
noncomputable abbrev It(P:Prg)(C:Cx)(g:Sg)(n:Nat)(t:Sem (List Value))(K:KE)(X:XE):Prop:=A4 (I5 P C) C.A t (PG P C.base g (LK P K n)) (af P C.base g X) g.s
noncomputable abbrev Ht(P:Prg)(C:Cx)(g:Sg)(t:Sem Bool)(K:KE)(X:XE):Prop:=A4 (I5 P C) C.A t (PG P C.base g (BK K)) (af P C.base g X) g.s
theorem gN{base h h':Heap}:∀{l:List Env},h.FunFrames base l→(∀L,L∈l.filterMap (·.frame)→∀o,h.get? L=some o→∃sl,h'.get? L=some { o with slots:=sl })→h'.FunFrames base l:=by
 intro l
 induction l with
 |nil=>exact λ_ _=>trivial
 |cons env rest ih=>exact λf k=>f.2.1.elim λL q=>q.elim λo q=>(k L (by simp[q.1]) o q.2.2.1).elim λsl e=>⟨f.1,⟨L,_,q.1,q.2.1,e,q.2.2.2⟩,ih f.2.2 λL' hL=>k L' (by rw[V8,q.1];exact C3 _ hL)⟩
theorem Q4{base h:Heap}:∀{l:List Env},h.FunFrames base l→∀L,L∈l.filterMap (·.frame)→∃o,h.get? L=some o:=λhl L hL=>eX02 (hl.mem hL) λ_ zn1=>eX12 zn1 λo e _=>⟨o,e⟩
theorem zW{h h':Heap}{a:Addr}{m:Str→Option Value}(x:h.Ns a m)(k:∀o,h.get? a=some o→∃sl,h'.get? a=some { o with slots:=sl }):h'.Ns a m:=by
 refine eX33 x λo es ep e d r=>?_;clear x
 refine eX11 (k o e) λsl e'=>?_
 exact⟨_,es,ep,e',d,r⟩
theorem zd{h h':Heap}{a:Addr}{m:Option Value}(x:h.IsCell a m)(k:∀o,h.get? a=some o→∃sl,h'.get? a=some { o with slots:=sl }):h'.IsCell a m:=by
 refine eX12 x λo e d=>?_;clear x
 refine eX11 (k o e) λsl e'=>?_
 exact⟨_,e',d⟩
theorem Z4{l:List (Str×Addr)}{x:Str}{c:Addr}(e:l.lookup x=some c):(x,c)∈l:=by
 induction l with
 |nil=>cases e
 |cons p r ih=>
  obtain⟨y,d⟩:=p
  rw[L9] at e
  split at e
  ·rename_i q;cases e;rw[beq_iff_eq.mp q];exact .head _
  ·exact .tail _ (ih e)
section
variable{P:Prg}{r r':Nat}{C C':Cx}{ρ:Loc}{g₀ g g':Sg}{K:KE}{X:XE}{E:Value→Shared→Prop}{Y:Addr→Prop}
theorem Rm.step(T:Rm P r C g)(y:Stp nX g g')(rr:R P C.base g'):Rm P r C g':=by
 have sl:∀L,L∈C.outer.filterMap (·.frame)→∀o,g.s.heap.get? L=some o→∃sl,g'.s.heap.get? L=some { o with slots:=sl }:=λL hL o e=>eX12 (y.out L o e (T.fo L hL).1 (T.fo L hL).2 id) λsl e' _=>⟨sl,e'⟩
 refine⟨rr,T.hd,T.fr,gN T.ff sl,λL hL=>P7.far y (Q4 T.ff L hL) (T.fo L hL).1 (T.fo L hL).2,λL hL o' e'=>?_,T.gd,T.dp,T.un⟩
 refine eX11 (Q4 T.ff L hL) λo e=>?_
 refine eX11 (sl L hL o e) λsl e2=>?_
 rw[e'] at e2;cases e2
 exact T.fc L hL o e
theorem pL.step(h:pL P C ρ g)(kp:Kp g.v g'.v)(keep:∀a,FA C.env a→∀o,g.s.heap.get? a=some o→∃sl,g'.s.heap.get? a=some { o with slots:=sl }):pL P C ρ g':=by
 refine eX12 h λm n q=>?_;clear h
 refine⟨m,zW n (keep _ (.inl rfl)),λi x e=>⟨λk u=>?_,λk=>?_⟩⟩
 ·refine eX12 ((q i x e).1 k u) λw a b=>?_
  exact⟨w,a,b.kp kp⟩
 ·refine eX12 ((q i x e).2 k) λc a zn1=>?_;refine eX12 zn1 λcv ic b=>?_;clear zn1
  exact⟨c,a,cv,zd ic (keep c (.inr ⟨x,Z4 a⟩)),λu=>eX12 (b u) λw a b=>⟨w,a,b.kp kp⟩⟩
theorem St.step(T:St P r C ρ g)(y:Stp nX g g')(rr:R P C.base g'):St P r C ρ g':=by
 refine⟨T.rm.step y rr,T.kind,T.gl,T.bl,λa x=>?_,λa x=>eX11 (T.oex a x) λo e=>y.dom a o e,T.vars.step y.kp λa x o e=>let ⟨sl,e',_⟩:=y.out a o e (T.own a x).1 (T.own a x).2.1 id;⟨sl,e'⟩,T.nd,T.rl,T.cd,T.cl⟩
 have z:=P7.far y (T.oex a x) (T.own a x).1 (T.own a x).2.1
 exact⟨z.1,z.2,(T.own a x).2.2⟩
theorem Co.pre{s0 s1 h:Heap}{c:Nat}{e:Value}(d:∀a,s1.get? a=none→s0.get? a=none)(x:Co P s1 h c e):Co P s0 h c e:=by
 refine eX13 x λa zq2 n zy1=>eX02 zy1 λlt q=>?_;clear x;subst zq2
 refine⟨a,rfl,d a n,lt,q.imp id ?_⟩
 intro zr3;refine eX41 zr3 λoe vs T oT zy2=>eX13 zy2 λts h1 h2 zy3=>eX04 zy3 λh3 h4 h5 h6=>?_;clear zr3
 exact⟨oe,vs,T,oT,ts,h1,h2,h3,h4,d T h5,h6⟩
theorem PG.pre{base:Heap}{α:Type}{Rel:Sg→α→Prop}{a:α}{s:Shared}(y:Stp nX g₀ g)(h:PG P base g Rel a s):PG P base g₀ Rel a s:=by
 cases h with | mk g' z r k=>exact .mk g' (y.trans z) r k
theorem PX.pre{base:Heap}{e:Value}{s:Shared}(y:Stp nX g₀ g)(h:af P base g X e s):af P base g₀ X e s:=by
 cases h with | mk g' z r k=>cases k with | mk x k=>exact .mk g' (y.trans z) r (.mk (x.pre y.nn) k)
structure Ok(P:Prg)(r:Nat)(C:Cx)(ρ:Loc)(X:XE)(E:Value→Shared→Prop)(Y:Addr→Prop)(g₀ g:Sg):Prop where
 y:Stp Y g₀ g
 T:St P r C ρ g
 er:∀e s,af P C.base g X e s→E e s
theorem Ok.step(o:Ok P r C ρ X E Y g₀ g)(hY:∀a,nX a→Y a)(y:Stp nX g g')(rr:R P C.base g'):Ok P r C ρ X E Y g₀ g':=⟨o.y.trans (y.weak hY),o.T.step y rr,λe s h=>o.er e s (PX.pre y h)⟩
theorem Ok.start(T:St P r C ρ g):Ok P r C ρ X (af P C.base g X) nX g g:=⟨.refl,T,λ_ _ h=>h⟩
theorem go{α:Type}{Rel:Sg→α→Prop}{t:Sem α}{Rr:α→Shared→Prop}(o:Ok P r C ρ X E Y g₀ g)(h:A4 (I5 P C) C.A t (PG P C.base g Rel) (af P C.base g X) g.s)
  (k:∀g' a,Stp nX g g'→Ok P r C ρ X E Y g₀ g'→Rel g' a→Rr a g'.s):A4 (I5 P C) C.A t Rr E g.s:=
 K3 h (λa s z=>by cases z with | mk g' y rr q=>exact k g' a y (o.step (λ_ x=>x.elim) y rr) q) o.er
theorem cJ{t:Sem Value}{Rr:Value→Shared→Prop}(o:Ok P r C ρ X E Y g₀ g)(h:Go P C g t K X)
  (k:∀g' av v,Stp nX g g'→Ok P r C ρ X E Y g₀ g'→VR P g'.v av v→K av g'.H→Rr v g'.s):A4 (I5 P C) C.A t Rr E g.s:=
 go o h λg' a y o q=>by cases q with | mk x q=>exact k g' _ a y o x q
theorem sU{n:Nat}{t:Sem (List Value)}{Rr:List Value→Shared→Prop}(o:Ok P r C ρ X E Y g₀ g)(h:It P C g n t K X)
  (k:∀g' avs vs,Stp nX g g'→Ok P r C ρ X E Y g₀ g'→VRs P g'.v avs vs→vs.length=n→K (.tup avs) g'.H→Rr vs g'.s):A4 (I5 P C) C.A t Rr E g.s:=
 go o h λg' a y o q=>by cases q with | mk x n q=>exact k g' _ a y o x n q
theorem sV{t:Sem Bool}{Rr:Bool→Shared→Prop}(o:Ok P r C ρ X E Y g₀ g)(h:Ht P C g t K X)
  (k:∀g' av b,Stp nX g g'→Ok P r C ρ X E Y g₀ g'→bQ av=some b→K av g'.H→Rr b g'.s):A4 (I5 P C) C.A t Rr E g.s:=
 go o h λg' a y o q=>by cases q with | mk x q=>exact k g' _ a y o x q
theorem fin{α:Type}{Rel:Sg→α→Prop}{t:Sem α}(o:Ok P r C ρ X E nX g₀ g)(h:A4 (I5 P C) C.A t (PG P C.base g Rel) (af P C.base g X) g.s):A4 (I5 P C) C.A t (PG P C.base g₀ Rel) E g.s:=K3 h (λ_ _ z=>z.pre o.y) o.er
variable{s':Shared}{v:Value}{av:AV}
theorem R.val(rr:R P C.base g)(w:Grow g.s s')(h:VR P ⟨s'.heap,g.S,g.μ,g.H.length⟩ av v)(k:K av g.H):J4 P C.base g K v s':=.mk ⟨g.S,g.μ,g.H,s'⟩ (Stp.grow rr w) (rr.grow w) (.mk h k)
theorem Ok.val(o:Ok P r C ρ X E nX g₀ g)(w:Grow g.s s')(h:VR P ⟨s'.heap,g.S,g.μ,g.H.length⟩ av v)(k:K av g.H):J4 P C.base g₀ K v s':=(o.T.rm.rr.val w h k).pre o.y
theorem Ok.v0(o:Ok P r C ρ X E nX g₀ g)(h:VR P g.v av v)(k:K av g.H):J4 P C.base g₀ K v g.s:=.mk g o.y o.T.rm.rr (.mk h k)
theorem Ok.b0{b:Bool}(o:Ok P r C ρ X E nX g₀ g)(h:bQ av=some b)(k:K av g.H):PG P C.base g₀ (BK K) b g.s:=.mk g o.y o.T.rm.rr (.mk h k)
theorem St.kin(T:St P r C ρ g):P.K.In g.s.heap:=T.rm.rr.kb.keeps T.rm.rr.stays
end
noncomputable def nv(μ:Nat→Addr)(k:Nat)(a:Addr):Nat→Addr:=λn=>if n=k then a else μ n
theorem eE{μ:Nat→Addr}{k n:Nat}{a:Addr}(h:n<k):nv μ k a n=μ n:=if_neg (bA h)
theorem jN{μ:Nat→Addr}{k:Nat}{a:Addr}:nv μ k a k=a:=if_pos rfl
noncomputable def S1(S:Addr→Prop)(a:Addr):Addr→Prop:=λb=>S b∨b=a
section
variable{P:Prg}{base:Heap}{g:Sg}{s':Shared}{K:KE}{a:Addr}{o:Obj}{c:Cell}{av:AV}{v:Value}{n:Nat}
theorem R.more(r:R P base g)(hn:¬g.S a)(hl:∀n,P7 g.H n→a≠g.μ n)(hg:g.s.heap.get? a=some o)(nf:∀vs,o.data≠.fields vs):R P base ⟨S1 g.S a,g.μ,g.H,g.s⟩:=by
 refine⟨r.kb,r.lim,r.gm,r.bm,r.stays,λb x=>?_,r.cells (V':=⟨g.s.heap,S1 g.S a,g.μ,g.H.length⟩) ⟨d8 _,λ_ _=>rfl,λ_ x=>.inl x,λ_ _=>rfl⟩ λ_ _ _ e=>e,λn l=>⟨λx=>?_,(r.sep n l).2⟩,r.inj,r.gens⟩
 ·rcases x with x | x
  ·exact r.sp b x
  ·subst x;exact⟨o,hg,nf⟩
 ·rcases x with x | x
  ·exact(r.sep n l).1 x
  ·exact hl n l x.symm
theorem Stp.more{X:Addr→Prop}{g₀:Sg}(y:Stp X g₀ g)(h:g₀.s.heap.get? a=none):Stp X g₀ ⟨S1 g.S a,g.μ,g.H,g.s⟩:=
 ⟨y.len,y.mu,y.nw,y.kd,λa x=>.inl (y.pi a x),λa x=>x.elim (y.pn a) λe=>.inr (e▸h),y.pk,y.dom,y.out,y.gens,y.os⟩
theorem R.newS(r:R P base g)(w:Grow g.s s')(hn:g.s.heap.get? a=none)(hg:s'.heap.get? a=some o)(nf:∀vs,o.data≠.fields vs):
  R P base ⟨S1 g.S a,g.μ,g.H,s'⟩∧∀X,Stp X g ⟨S1 g.S a,g.μ,g.H,s'⟩:=by
 refine eX03 (r.far hn) λf1 f2 _=>?_
 exact⟨(r.grow w).more f1 f2 hg nf,λX=>(Stp.grow r w).more hn⟩
theorem R.newC(r:R P base g)(w:Grow g.s s')(hn:g.s.heap.get? a=none)(hg:s'.heap.get? a=some o)
  (hc:Kp g.v ⟨s'.heap,g.S,nv g.μ g.H.length a,g.H.length+1⟩→CR P ⟨s'.heap,g.S,nv g.μ g.H.length a,g.H.length+1⟩ a c) :
  R P base ⟨g.S,nv g.μ g.H.length a,g.H++[c],s'⟩∧∀X,Stp X g ⟨g.S,nv g.μ g.H.length a,g.H++[c],s'⟩:=by
 refine eX03 (r.far hn) λf1 f2 bn=>?_
 have kp:Kp g.v ⟨s'.heap,g.S,nv g.μ g.H.length a,g.H.length+1⟩:=⟨P8 _,λ_ h=>eE h,λ_ x=>x,w.kpS r⟩
 have ln:(g.H++[c]).length=g.H.length+1:=d6
 have lv:∀n,n≠g.H.length→P7 (g.H++[c]) n→P7 g.H n:=λn q l=>by
  have:n<g.H.length:=by have:=l.1;lia -abstractProof
  exact⟨this,by rw[←gL this];exact l.2⟩
 refine⟨⟨r.kb,r.lim,r.gm,r.bm,λb o e=>w.kp b o (r.stays b o e),(r.grow w).sp,λn h=>?_,λn l=>?_,λn m ln lm e=>?_,w.gens.trans r.gens⟩,λX=>
  ⟨by rw[ln];exact P8 _,λ_ h=>eE h,λn h l=>?_,λn h=>.inl (congrArg S0 (gL h)),λ_ x=>x,λb x=>.inl x,w.kpS r,λb o e=>⟨o,w.kp b o e⟩,λb o e _ _ _=>⟨o.slots,w.kp b o e,λ_=>rfl⟩,w.gens,w.os⟩⟩
 ·show CR P ⟨s'.heap,g.S,nv g.μ g.H.length a,(g.H++[c]).length⟩ (nv g.μ g.H.length a n) (get (g.H++[c]) n)
  rw[ln]
  by_cases q:n=g.H.length
  ·subst q;rw[pd,jN];exact hc kp
  ·have lt:n<g.H.length:=by rw[ln] at h;lia -abstractProof
   rw[gL lt,eE lt]
   exact(r.cell n lt).kp kp (w.kp _)
 ·show ¬g.S (nv g.μ g.H.length a n)∧base.get? (nv g.μ g.H.length a n)=none
  by_cases q:n=g.H.length
  ·subst q;rw[jN];exact⟨f1,bn⟩
  ·have l':=lv n q l
   rw[eE l'.1];exact r.sep n l'
 ·have e:nv g.μ g.H.length a n=nv g.μ g.H.length a m:=e
  by_cases q:n=g.H.length<;>by_cases q':m=g.H.length
  ·rw[q,q']
  ·have:=lv m q' lm;rw[q,jN,eE this.1] at e;exact absurd e (f2 m this)
  ·have:=lv n q ln;rw[q',jN,eE this.1] at e;exact absurd e.symm (f2 n this)
  ·have l1:=lv n q ln;have l2:=lv m q' lm
   rw[eE l1.1,eE l2.1] at e;exact r.inj n m l1 l2 e
 ·have:n=g.H.length:=by have:=l.1;rw[ln] at this;lia -abstractProof
  subst this;show g.s.heap.get? (nv _ _ _ _)=none;rw[jN];exact hn
theorem R.valS(r:R P base g)(w:Grow g.s s')(hn:g.s.heap.get? a=none)(hg:s'.heap.get? a=some o)(nf:∀vs,o.data≠.fields vs)
  (h:Kp g.v ⟨s'.heap,S1 g.S a,g.μ,g.H.length⟩→VR P ⟨s'.heap,S1 g.S a,g.μ,g.H.length⟩ av v) (k:K av g.H):J4 P base g K v s':=by
 refine eX02 (r.newS w hn hg nf) λr' y=>?_
 exact .mk _ (y _) r' (.mk (h (y nX).kp) k)
theorem R.valC(r:R P base g)(w:Grow g.s s')(hn:g.s.heap.get? a=none)(hg:s'.heap.get? a=some o)
  (hc:Kp g.v ⟨s'.heap,g.S,nv g.μ g.H.length a,g.H.length+1⟩→CR P ⟨s'.heap,g.S,nv g.μ g.H.length a,g.H.length+1⟩ a c) (k:K (.ref g.H.length) (g.H++[c])):J4 P base g K (.ref a) s':=by
 refine eX02 (r.newC w hn hg hc) λr' y=>?_
 refine .mk _ (y _) r' (.mk (av:=.ref g.H.length) ?_ k)
 have:=VR.ref (P:=P) (V:=⟨s'.heap,g.S,nv g.μ g.H.length a,(g.H++[c]).length⟩) g.H.length (by rw[d6];exact ax _)
 rw[show (Vw.μ ⟨s'.heap,g.S,nv g.μ g.H.length a,(g.H++[c]).length⟩ g.H.length)=a from jN] at this
 exact this
theorem R.upd(r:R P base g)(ln:P7 g.H n)(kp:∀y,y≠g.μ n→s'.heap.get? y=g.s.heap.get? y)(hg:s'.gens=g.s.gens)(ho:s'.os=g.s.os)(hk:S0 c=S0 (get g.H n))(nw:∃o,s'.heap.get? (g.μ n)=some o)
  (hc:Kp g.v ⟨s'.heap,g.S,g.μ,g.H.length⟩→CR P ⟨s'.heap,g.S,g.μ,g.H.length⟩ (g.μ n) c):R P base ⟨g.S,g.μ,put g.H n c,s'⟩∧∀X,Stp X g ⟨g.S,g.μ,put g.H n c,s'⟩:=by
 have sn:∀a,g.S a→a≠g.μ n:=λa x q=>(r.sep n ln).1 (q▸x)
 have kk:Kp g.v ⟨s'.heap,g.S,g.μ,g.H.length⟩:=⟨d8 _,λ_ _=>rfl,λ_ x=>x,λa x=>kp a (sn a x)⟩
 have pl:(put g.H n c).length=g.H.length:=eU
 have lv:∀m,P7 (put g.H n c) m→P7 g.H m:=λm l=>⟨by rw[←pl];exact l.1,by
  by_cases q:m=n
  ·rw[q];exact ln.2
  ·rw[←N9 q];exact l.2⟩
 refine⟨⟨r.kb,r.lim,r.gm,r.bm,λb o e=>?_,λa x=>?_,λm h=>?_,λm l=>r.sep m (lv m l),λm m' l l'=>r.inj m m' (lv m l) (lv m' l'),hg.trans r.gens⟩,λX=>
  ⟨j6 pl.symm,λ_ _=>rfl,λm h l=>absurd (lv m l).1 (I8.mpr h),λm h=>?_,λ_ x=>x,λ_ x=>.inl x,kk.kp,λa o e=>?_,λb o e h1 h2 _=>⟨o.slots,(kp b (h2 n ln)).trans e,λ_=>rfl⟩,hg,ho⟩⟩
 ·refine(kp b λq=>?_).trans (r.stays b o e)
  rw[q,(r.sep n ln).2] at e;exact nomatch e
 ·refine eX12 (r.sp a x) λo e q=>?_
  exact⟨o,(kp a (sn a x)).trans e,q⟩
 ·have h:m<(put g.H n c).length:=h
  show CR P ⟨s'.heap,g.S,g.μ,(put g.H n c).length⟩ (g.μ m) (get (put g.H n c) m)
  rw[pl] at h ⊢
  by_cases q:m=n
  ·subst q;rw[dM ln.1];exact hc kk
  ·rw[N9 q]
   cases z:fN (get g.H m) with
   |true=>
    cases y:get g.H m with
    |gone=>trivial
    |_=>rw[y] at z;exact absurd z e9
   |false=>exact(r.cell m h).kp kk λo e=>(kp (g.μ m) λw=>q (r.inj m n ⟨h,z⟩ ln w)).trans e
 ·show S0 (get (put g.H n c) m)=S0 (get g.H m)∨_
  by_cases q:m=n
  ·subst q;rw[dM ln.1];exact .inl hk
  ·rw[N9 q];exact .inl rfl
 ·by_cases q:a=g.μ n
  ·rw[q];exact nw
  ·exact⟨o,(kp a q).trans e⟩
theorem dK{c:Cell}(hn:n<g.H.length)(e:get g.H n=c)(q:fN c=false):P7 g.H n:=⟨hn,by rw[e];exact q⟩
theorem R.valU(r:R P base g)(ln:P7 g.H n)(kp:∀y,y≠g.μ n→s'.heap.get? y=g.s.heap.get? y)(hg:s'.gens=g.s.gens)(ho:s'.os=g.s.os)(hk:S0 c=S0 (get g.H n))(nw:∃o,s'.heap.get? (g.μ n)=some o)
  (hc:Kp g.v ⟨s'.heap,g.S,g.μ,g.H.length⟩→CR P ⟨s'.heap,g.S,g.μ,g.H.length⟩ (g.μ n) c) (hv:Kp g.v ⟨s'.heap,g.S,g.μ,g.H.length⟩→VR P ⟨s'.heap,g.S,g.μ,g.H.length⟩ av v) (k:K av (put g.H n c)):J4 P base g K v s':=by
 refine eX02 (r.upd ln kp hg ho hk nw hc) λr' y=>?_
 refine .mk _ (y _) r' (.mk (av:=av) ?_ k)
 show VR P ⟨s'.heap,g.S,g.μ,(put g.H n c).length⟩ av v
 rw[eU];exact hv ⟨d8 _,λ_ _=>rfl,λ_ x=>x,(y nX).pk⟩
end
end Mine.Z
namespace Mine.Z
noncomputable abbrev PE:=PySem.Expr
inductive Tx where
 |e (x:PE) | b (o:BoolOp) (l:List PE) | es (l:List PE) | s (x:Stmt) | ss (l:List Stmt)
noncomputable section
noncomputable def hG(z:Tx)(F:PE→Bool):Bool:=match z with
 |.e x=>F x
 |_=>false
noncomputable def nu(z:Tx)(F:Stmt→Bool):Bool:=match z with
 |.s x=>F x
 |_=>false
noncomputable def E3{α:Type}(l:List α)(F:α→List α→Bool):Bool:=match l with
 |x::r=>F x r
 |[]=>false
noncomputable def N2{α:Type}(l:List α):Bool:=match l with
 |[]=>true
 |_=>false
noncomputable def iV{α:Type}(o:Option α):Bool:=match o with
 |none=>true
 |_=>false
noncomputable def fq{α:Type}(o:Option α)(F:α→Bool):Bool:=match o with
 |some a=>F a
 |none=>false
structure U where
 ps:Pos
 kn:Nat
 c:Const
 s:Str
 x:PE
 y:PE
 z:PE
 o:Operator
 u:UnaryOp
 b:BoolOp
 l:List PE
 q:List CmpOp
 i:Option PE
 j:Option PE
 k:Option PE
 w:List Keyword
 n:Int
 g:List Comprehension
 a:Scope
 d:List Stmt
 e:List Stmt
 f:List Stmt
 h:List ExceptHandler
noncomputable def dU:U:=⟨default,default,default,default,default,default,default,default,default,default,default,default,default,default,default,default,default,default,default,default,default,default,default⟩
noncomputable def zU:Nat×U:=(99,dU)
noncomputable def Z9{α:Type}(d:α):List α→Nat→α
 |[],_=>d
 |a::_,0=>a
 |_::r,n+1=>Z9 d r n
noncomputable def xv(e:PE):Nat×U:=@PySem.Expr.casesOn (λ_=>Nat×U) e
 (λb l ps=>(5,⟨ps,dU.kn,dU.c,dU.s,dU.x,dU.y,dU.z,dU.o,dU.u,b,l,dU.q,dU.i,dU.j,dU.k,dU.w,dU.n,dU.g,dU.a,dU.d,dU.e,dU.f,dU.h⟩))
 (λ_ _ _=>zU)
 (λx o y ps=>(3,⟨ps,dU.kn,dU.c,dU.s,x,y,dU.z,o,dU.u,dU.b,dU.l,dU.q,dU.i,dU.j,dU.k,dU.w,dU.n,dU.g,dU.a,dU.d,dU.e,dU.f,dU.h⟩))
 (λu x ps=>(4,⟨ps,dU.kn,dU.c,dU.s,x,dU.y,dU.z,dU.o,u,dU.b,dU.l,dU.q,dU.i,dU.j,dU.k,dU.w,dU.n,dU.g,dU.a,dU.d,dU.e,dU.f,dU.h⟩))
 (λ_ _ _ _=>zU)
 (λx y z ps=>(9,⟨ps,dU.kn,dU.c,dU.s,x,y,z,dU.o,dU.u,dU.b,dU.l,dU.q,dU.i,dU.j,dU.k,dU.w,dU.n,dU.g,dU.a,dU.d,dU.e,dU.f,dU.h⟩))
 (λ_ _ _=>zU)
 (λ_ _ _=>zU)
 (λx g a ps=>(15,⟨ps,dU.kn,dU.c,dU.s,x,dU.y,dU.z,dU.o,dU.u,dU.b,dU.l,dU.q,dU.i,dU.j,dU.k,dU.w,dU.n,g,a,dU.d,dU.e,dU.f,dU.h⟩))
 (λ_ _ _ _=>zU)
 (λ_ _ _ _ _=>zU)
 (λ_ _ _ _=>zU)
 (λ_ _=>zU)
 (λ_ _=>zU)
 (λ_ _=>zU)
 (λx q l ps=>(6,⟨ps,dU.kn,dU.c,dU.s,x,dU.y,dU.z,dU.o,dU.u,dU.b,l,q,dU.i,dU.j,dU.k,dU.w,dU.n,dU.g,dU.a,dU.d,dU.e,dU.f,dU.h⟩))
 (λx l w ps=>(12,⟨ps,dU.kn,dU.c,dU.s,x,dU.y,dU.z,dU.o,dU.u,dU.b,l,dU.q,dU.i,dU.j,dU.k,w,dU.n,dU.g,dU.a,dU.d,dU.e,dU.f,dU.h⟩))
 (λx n i ps=>(14,⟨ps,dU.kn,dU.c,dU.s,x,dU.y,dU.z,dU.o,dU.u,dU.b,dU.l,dU.q,i,dU.j,dU.k,dU.w,n,dU.g,dU.a,dU.d,dU.e,dU.f,dU.h⟩))
 (λl ps=>(13,⟨ps,dU.kn,dU.c,dU.s,dU.x,dU.y,dU.z,dU.o,dU.u,dU.b,l,dU.q,dU.i,dU.j,dU.k,dU.w,dU.n,dU.g,dU.a,dU.d,dU.e,dU.f,dU.h⟩))
 (λc kn ps=>(0,⟨ps,kn,c,dU.s,dU.x,dU.y,dU.z,dU.o,dU.u,dU.b,dU.l,dU.q,dU.i,dU.j,dU.k,dU.w,dU.n,dU.g,dU.a,dU.d,dU.e,dU.f,dU.h⟩))
 (λx s ps=>(2,⟨ps,dU.kn,dU.c,s,x,dU.y,dU.z,dU.o,dU.u,dU.b,dU.l,dU.q,dU.i,dU.j,dU.k,dU.w,dU.n,dU.g,dU.a,dU.d,dU.e,dU.f,dU.h⟩))
 (λx y ps=>(7,⟨ps,dU.kn,dU.c,dU.s,x,y,dU.z,dU.o,dU.u,dU.b,dU.l,dU.q,dU.i,dU.j,dU.k,dU.w,dU.n,dU.g,dU.a,dU.d,dU.e,dU.f,dU.h⟩))
 (λ_ _=>zU)
 (λs ps=>(1,⟨ps,dU.kn,dU.c,s,dU.x,dU.y,dU.z,dU.o,dU.u,dU.b,dU.l,dU.q,dU.i,dU.j,dU.k,dU.w,dU.n,dU.g,dU.a,dU.d,dU.e,dU.f,dU.h⟩))
 (λl ps=>(11,⟨ps,dU.kn,dU.c,dU.s,dU.x,dU.y,dU.z,dU.o,dU.u,dU.b,l,dU.q,dU.i,dU.j,dU.k,dU.w,dU.n,dU.g,dU.a,dU.d,dU.e,dU.f,dU.h⟩))
 (λl kn ps=>(10,⟨ps,kn,dU.c,dU.s,dU.x,dU.y,dU.z,dU.o,dU.u,dU.b,l,dU.q,dU.i,dU.j,dU.k,dU.w,dU.n,dU.g,dU.a,dU.d,dU.e,dU.f,dU.h⟩))
 (λi j k ps=>(8,⟨ps,dU.kn,dU.c,dU.s,dU.x,dU.y,dU.z,dU.o,dU.u,dU.b,dU.l,dU.q,i,j,k,dU.w,dU.n,dU.g,dU.a,dU.d,dU.e,dU.f,dU.h⟩))
noncomputable def sv(e:Stmt):Nat×U:=@PySem.Stmt.casesOn (λ_=>Nat×U) e
 (λ_ _ _ _ _ _ _ _ _ _=>zU)
 (λ_ _ _ _ _ _ _ _ _ _=>zU)
 (λ_ _ _ _ _ _ _ _ _ _ _=>zU)
 (λi ps=>(5,⟨ps,dU.kn,dU.c,dU.s,dU.x,dU.y,dU.z,dU.o,dU.u,dU.b,dU.l,dU.q,i,dU.j,dU.k,dU.w,dU.n,dU.g,dU.a,dU.d,dU.e,dU.f,dU.h⟩))
 (λ_ _=>zU)
 (λl x ps=>(0,⟨ps,dU.kn,dU.c,dU.s,x,dU.y,dU.z,dU.o,dU.u,dU.b,l,dU.q,dU.i,dU.j,dU.k,dU.w,dU.n,dU.g,dU.a,dU.d,dU.e,dU.f,dU.h⟩))
 (λ_ _ _ _ _ _ _=>zU)
 (λx o y ps=>(1,⟨ps,dU.kn,dU.c,dU.s,x,y,dU.z,o,dU.u,dU.b,dU.l,dU.q,dU.i,dU.j,dU.k,dU.w,dU.n,dU.g,dU.a,dU.d,dU.e,dU.f,dU.h⟩))
 (λ_ _ _ _ _=>zU)
 (λx y d e ps=>(4,⟨ps,dU.kn,dU.c,dU.s,x,y,dU.z,dU.o,dU.u,dU.b,dU.l,dU.q,dU.i,dU.j,dU.k,dU.w,dU.n,dU.g,dU.a,d,e,dU.f,dU.h⟩))
 (λ_ _ _ _ _=>zU)
 (λx d e ps=>(3,⟨ps,dU.kn,dU.c,dU.s,x,dU.y,dU.z,dU.o,dU.u,dU.b,dU.l,dU.q,dU.i,dU.j,dU.k,dU.w,dU.n,dU.g,dU.a,d,e,dU.f,dU.h⟩))
 (λx d e ps=>(2,⟨ps,dU.kn,dU.c,dU.s,x,dU.y,dU.z,dU.o,dU.u,dU.b,dU.l,dU.q,dU.i,dU.j,dU.k,dU.w,dU.n,dU.g,dU.a,d,e,dU.f,dU.h⟩))
 (λ_ _ _=>zU)
 (λ_ _ _=>zU)
 (λ_ _ _=>zU)
 (λi j ps=>(6,⟨ps,dU.kn,dU.c,dU.s,dU.x,dU.y,dU.z,dU.o,dU.u,dU.b,dU.l,dU.q,i,j,dU.k,dU.w,dU.n,dU.g,dU.a,dU.d,dU.e,dU.f,dU.h⟩))
 (λd h e f ps=>(7,⟨ps,dU.kn,dU.c,dU.s,dU.x,dU.y,dU.z,dU.o,dU.u,dU.b,dU.l,dU.q,dU.i,dU.j,dU.k,dU.w,dU.n,dU.g,dU.a,d,e,f,h⟩))
 (λ_ _ _ _ _=>zU)
 (λ_ _ _=>zU)
 (λ_ _=>zU)
 (λ_ _ _ _=>zU)
 (λ_ _=>zU)
 (λ_ _=>zU)
 (λx ps=>(8,⟨ps,dU.kn,dU.c,dU.s,x,dU.y,dU.z,dU.o,dU.u,dU.b,dU.l,dU.q,dU.i,dU.j,dU.k,dU.w,dU.n,dU.g,dU.a,dU.d,dU.e,dU.f,dU.h⟩))
 (λps=>(9,⟨ps,dU.kn,dU.c,dU.s,dU.x,dU.y,dU.z,dU.o,dU.u,dU.b,dU.l,dU.q,dU.i,dU.j,dU.k,dU.w,dU.n,dU.g,dU.a,dU.d,dU.e,dU.f,dU.h⟩))
 (λ_=>zU)
 (λ_=>zU)
noncomputable def xr(u:U):List PE:=[.Constant u.c u.kn u.ps,.Name u.s u.ps,.Attribute u.x u.s u.ps,.BinOp u.x u.o u.y u.ps,.UnaryOp u.u u.x u.ps,.BoolOp u.b u.l u.ps,.Compare u.x u.q u.l u.ps,.Subscript u.x u.y u.ps,.Slice u.i u.j u.k u.ps,.IfExp u.x u.y u.z u.ps,.Tuple u.l u.kn u.ps,.List u.l u.ps,.Call u.x u.l u.w u.ps,.JoinedStr u.l u.ps,.FormattedValue u.x u.n u.i u.ps,.ListComp u.x u.g u.a u.ps]
noncomputable def sr(u:U):List Stmt:=[.Assign u.l u.x u.ps,.AugAssign u.x u.o u.y u.ps,.If u.x u.d u.e u.ps,.While u.x u.d u.e u.ps,.For u.x u.y u.d u.e u.ps,.Return u.i u.ps,.Raise u.i u.j u.ps,.Try u.d u.h u.e u.f u.ps,.Expr u.x u.ps,.Pass u.ps]
theorem aX(e:PE):Z9 e (xr (xv e).2) (xv e).1=e:=by cases e<;>rfl
theorem fz(e:Stmt):Z9 e (sr (sv e).2) (sv e).1=e:=by cases e<;>rfl
noncomputable def hJ(v:Nat×U)(k:Nat)(F:U→Bool):Bool:=Nat.beq v.1 k&&F v.2
theorem J3{α:Type}{v:Nat×U}{k:Nat}{F:U→Bool}{rs:U→List α}{e:α}{M:α→Prop}(q:Z9 e (rs v.2) v.1=e)(h:hJ v k F=true)(kk:∀u,F u=true→M (Z9 e (rs u) k)):M e:=by
 have h:=C5.mp h
 rw[M7 h.1] at q
 exact q▸kk v.2 h.2
noncomputable abbrev bM(e:PE)(F:Const→Bool):Bool:=hJ (xv e) 0 λu=>F u.c
theorem R4{e:PE}{F:Const→Bool}{M:PE→Prop}(h:bM e F=true)(kk:∀c k pos,F c=true→M (.Constant c k pos)):M e:=
 J3 (aX e) (rs:=xr) h λu f=>kk _ _ _ f
noncomputable abbrev cA(e:PE)(F:Str→Pos→Bool):Bool:=hJ (xv e) 1 λu=>F u.s u.ps
theorem N4{e:PE}{F:Str→Pos→Bool}{M:PE→Prop}(h:cA e F=true)(kk:∀y p,F y p=true→M (.Name y p)):M e:=
 J3 (aX e) (rs:=xr) h λu f=>kk _ _ f
noncomputable abbrev lp(e:PE)(F:PE→Str→Pos→Bool):Bool:=hJ (xv e) 2 λu=>F u.x u.s u.ps
theorem eu{e:PE}{F:PE→Str→Pos→Bool}{M:PE→Prop}(h:lp e F=true)(kk:∀o n p,F o n p=true→M (.Attribute o n p)):M e:=
 J3 (aX e) (rs:=xr) h λu f=>kk _ _ _ f
noncomputable abbrev Cw(e:PE)(F:PE→Operator→PE→Bool):Bool:=hJ (xv e) 3 λu=>F u.x u.o u.y
theorem wZ{e:PE}{F:PE→Operator→PE→Bool}{M:PE→Prop}(h:Cw e F=true)(kk:∀x p y pos,F x p y=true→M (.BinOp x p y pos)):M e:=
 J3 (aX e) (rs:=xr) h λu f=>kk _ _ _ _ f
noncomputable abbrev Ez(e:PE)(F:UnaryOp→PE→Bool):Bool:=hJ (xv e) 4 λu=>F u.u u.x
theorem sX{e:PE}{F:UnaryOp→PE→Bool}{M:PE→Prop}(h:Ez e F=true)(kk:∀o x pos,F o x=true→M (.UnaryOp o x pos)):M e:=
 J3 (aX e) (rs:=xr) h λu f=>kk _ _ _ f
noncomputable abbrev zD(e:PE)(F:BoolOp→List PE→Bool):Bool:=hJ (xv e) 5 λu=>F u.b u.l
theorem ta{e:PE}{F:BoolOp→List PE→Bool}{M:PE→Prop}(h:zD e F=true)(kk:∀o l pos,F o l=true→M (.BoolOp o l pos)):M e:=
 J3 (aX e) (rs:=xr) h λu f=>kk _ _ _ f
noncomputable abbrev Cv(e:PE)(F:PE→List CmpOp→List PE→Bool):Bool:=hJ (xv e) 6 λu=>F u.x u.q u.l
theorem wY{e:PE}{F:PE→List CmpOp→List PE→Bool}{M:PE→Prop}(h:Cv e F=true)(kk:∀x p y pos,F x p y=true→M (.Compare x p y pos)):M e:=
 J3 (aX e) (rs:=xr) h λu f=>kk _ _ _ _ f
noncomputable abbrev sY(e:PE)(F:PE→PE→Bool):Bool:=hJ (xv e) 7 λu=>F u.x u.y
theorem jb{e:PE}{F:PE→PE→Bool}{M:PE→Prop}(h:sY e F=true)(kk:∀x y pos,F x y=true→M (.Subscript x y pos)):M e:=
 J3 (aX e) (rs:=xr) h λu f=>kk _ _ _ f
noncomputable abbrev Ct(e:PE)(F:Option PE→Option PE→Option PE→Bool):Bool:=hJ (xv e) 8 λu=>F u.i u.j u.k
theorem wW{e:PE}{F:Option PE→Option PE→Option PE→Bool}{M:PE→Prop}(h:Ct e F=true)(kk:∀a b c pos,F a b c=true→M (.Slice a b c pos)):M e:=
 J3 (aX e) (rs:=xr) h λu f=>kk _ _ _ _ f
noncomputable abbrev HN(e:PE)(F:PE→PE→PE→Bool):Bool:=hJ (xv e) 9 λu=>F u.x u.y u.z
theorem Aq{e:PE}{F:PE→PE→PE→Bool}{M:PE→Prop}(h:HN e F=true)(kk:∀x y z pos,F x y z=true→M (.IfExp x y z pos)):M e:=
 J3 (aX e) (rs:=xr) h λu f=>kk _ _ _ _ f
noncomputable abbrev wV(e:PE)(F:List PE→Bool):Bool:=hJ (xv e) 10 λu=>F u.l
theorem lZ{e:PE}{F:List PE→Bool}{M:PE→Prop}(h:wV e F=true)(kk:∀l k pos,F l=true→M (.Tuple l k pos)):M e:=
 J3 (aX e) (rs:=xr) h λu f=>kk _ _ _ f
noncomputable abbrev Ap(e:PE)(F:List PE→Bool):Bool:=hJ (xv e) 11 λu=>F u.l
theorem qG{e:PE}{F:List PE→Bool}{M:PE→Prop}(h:Ap e F=true)(kk:∀l pos,F l=true→M (.List l pos)):M e:=
 J3 (aX e) (rs:=xr) h λu f=>kk _ _ f
noncomputable abbrev qH(e:PE)(F:PE→List PE→List Keyword→Pos→Bool):Bool:=hJ (xv e) 12 λu=>F u.x u.l u.w u.ps
theorem jv{e:PE}{F:PE→List PE→List Keyword→Pos→Bool}{M:PE→Prop}(h:qH e F=true)(kk:∀f l k p,F f l k p=true→M (.Call f l k p)):M e:=
 J3 (aX e) (rs:=xr) h λu f=>kk _ _ _ _ f
noncomputable abbrev zC(e:PE)(F:List PE→Bool):Bool:=hJ (xv e) 13 λu=>F u.l
theorem sZ{e:PE}{F:List PE→Bool}{M:PE→Prop}(h:zC e F=true)(kk:∀l pos,F l=true→M (.JoinedStr l pos)):M e:=
 J3 (aX e) (rs:=xr) h λu f=>kk _ _ f
noncomputable abbrev Cu(e:PE)(F:PE→Int→Option PE→Bool):Bool:=hJ (xv e) 14 λu=>F u.x u.n u.i
theorem wX{e:PE}{F:PE→Int→Option PE→Bool}{M:PE→Prop}(h:Cu e F=true)(kk:∀x c f pos,F x c f=true→M (.FormattedValue x c f pos)):M e:=
 J3 (aX e) (rs:=xr) h λu f=>kk _ _ _ _ f
noncomputable abbrev nG(e:PE)(F:PE→List Comprehension→Scope→Bool):Bool:=hJ (xv e) 15 λu=>F u.x u.g u.a
theorem ju{e:PE}{F:PE→List Comprehension→Scope→Bool}{M:PE→Prop}(h:nG e F=true)(kk:∀x l sc pos,F x l sc=true→M (.ListComp x l sc pos)):M e:=
 J3 (aX e) (rs:=xr) h λu f=>kk _ _ _ _ f
noncomputable abbrev zP(e:Stmt)(F:List PE→PE→Bool):Bool:=hJ (sv e) 0 λu=>F u.l u.x
theorem ez{e:Stmt}{F:List PE→PE→Bool}{M:Stmt→Prop}(h:zP e F=true)(kk:∀l v pos,F l v=true→M (.Assign l v pos)):M e:=
 J3 (fz e) (rs:=sr) h λu f=>kk _ _ _ f
noncomputable abbrev tQ(e:Stmt)(F:PE→Operator→PE→Bool):Bool:=hJ (sv e) 1 λu=>F u.x u.o u.y
theorem jh{e:Stmt}{F:PE→Operator→PE→Bool}{M:Stmt→Prop}(h:tQ e F=true)(kk:∀t o v pos,F t o v=true→M (.AugAssign t o v pos)):M e:=
 J3 (fz e) (rs:=sr) h λu f=>kk _ _ _ _ f
noncomputable abbrev HU(e:Stmt)(F:PE→List Stmt→List Stmt→Bool):Bool:=hJ (sv e) 2 λu=>F u.x u.d u.e
theorem AO{e:Stmt}{F:PE→List Stmt→List Stmt→Bool}{M:Stmt→Prop}(h:HU e F=true)(kk:∀q x y pos,F q x y=true→M (.If q x y pos)):M e:=
 J3 (fz e) (rs:=sr) h λu f=>kk _ _ _ _ f
noncomputable abbrev CK(e:Stmt)(F:PE→List Stmt→List Stmt→Bool):Bool:=hJ (sv e) 3 λu=>F u.x u.d u.e
theorem xn{e:Stmt}{F:PE→List Stmt→List Stmt→Bool}{M:Stmt→Prop}(h:CK e F=true)(kk:∀q x y pos,F q x y=true→M (.While q x y pos)):M e:=
 J3 (fz e) (rs:=sr) h λu f=>kk _ _ _ _ f
noncomputable abbrev zO(e:Stmt)(F:PE→PE→List Stmt→List Stmt→Bool):Bool:=hJ (sv e) 4 λu=>F u.x u.y u.d u.e
theorem nZ{e:Stmt}{F:PE→PE→List Stmt→List Stmt→Bool}{M:Stmt→Prop}(h:zO e F=true)(kk:∀t i b y pos,F t i b y=true→M (.For t i b y pos)):M e:=
 J3 (fz e) (rs:=sr) h λu f=>kk _ _ _ _ _ f
noncomputable abbrev xo(e:Stmt)(F:Option PE→Bool):Bool:=hJ (sv e) 5 λu=>F u.i
theorem mz{e:Stmt}{F:Option PE→Bool}{M:Stmt→Prop}(h:xo e F=true)(kk:∀o pos,F o=true→M (.Return o pos)):M e:=
 J3 (fz e) (rs:=sr) h λu f=>kk _ _ f
noncomputable abbrev qS(e:Stmt)(F:Option PE→Option PE→Bool):Bool:=hJ (sv e) 6 λu=>F u.i u.j
theorem pR{e:Stmt}{F:Option PE→Option PE→Bool}{M:Stmt→Prop}(h:qS e F=true)(kk:∀o c pos,F o c=true→M (.Raise o c pos)):M e:=
 J3 (fz e) (rs:=sr) h λu f=>kk _ _ _ f
noncomputable abbrev zN(e:Stmt)(F:List Stmt→List ExceptHandler→List Stmt→List Stmt→Bool):Bool:=hJ (sv e) 7 λu=>F u.d u.h u.e u.f
theorem tO{e:Stmt}{F:List Stmt→List ExceptHandler→List Stmt→List Stmt→Bool}{M:Stmt→Prop}(h:zN e F=true)(kk:∀x h a b pos,F x h a b=true→M (.Try x h a b pos)):M e:=
 J3 (fz e) (rs:=sr) h λu f=>kk _ _ _ _ _ f
noncomputable abbrev HV(e:Stmt)(F:PE→Bool):Bool:=hJ (sv e) 8 λu=>F u.x
theorem AP{e:Stmt}{F:PE→Bool}{M:Stmt→Prop}(h:HV e F=true)(kk:∀v pos,F v=true→M (.Expr v pos)):M e:=
 J3 (fz e) (rs:=sr) h λu f=>kk _ _ f
noncomputable abbrev tP(e:Stmt)(F:Bool):Bool:=hJ (sv e) 9 λu=>F
theorem rM{e:Stmt}{F:Bool}{M:Stmt→Prop}(h:tP e F=true)(kk:∀pos,F=true→M (.Pass pos)):M e:=
 J3 (fz e) (rs:=sr) h λu f=>kk _ f
noncomputable def Hk(z:Tx)(F:BoolOp→List PE→Bool):Bool:=match z with
 |.e x=>zD x F
 |.b o l=>F o l
 |_=>false
noncomputable abbrev tR(s:Stmt)(F:PE→PE→Bool):Bool:=zP s λl v=>E3 l λt r=>N2 r&&F t v
noncomputable abbrev IK(s:Stmt)(F:PE→List Stmt→Bool):Bool:=CK s λq x y=>N2 y&&F q x
noncomputable abbrev CM(s:Stmt)(F:PE→PE→List Stmt→Bool):Bool:=zO s λt i b y=>N2 y&&F t i b
noncomputable abbrev AN(s:Stmt)(F:PE→Bool):Bool:=qS s λo c=>iV c&&fq o F
noncomputable abbrev EL(s:Stmt)(F:List Stmt→List ExceptHandler→Bool):Bool:=zN s λx h a b=>N2 a&&(N2 b&&F x h)
noncomputable abbrev CL(s:Stmt):Bool:=tP s true
noncomputable def iC(names:List (Str×NameKind))(x:Str):Bool:=match names.lookup x with
 |some .local=>true
 |some .cell=>true
 |_=>false
noncomputable def mU(names:List (Str×NameKind))(x:Str):Bool:=decide (names.lookup x=some .globalImplicit)
noncomputable def hH(vt:List Str)(i:Nat)(x:Str):Bool:=decide (vt[i]?=some x)
noncomputable def jG(x:Str):Bool:=!(x==("__debug__" : Str))
noncomputable def oC(o:Nat)(p:Operator):Bool:=match p with
 |.Add=>Nat.beq o 0 | .Sub=>Nat.beq o 1 | .Mult=>Nat.beq o 2||Nat.beq o 12 | .FloorDiv=>Nat.beq o 3 | .Mod=>Nat.beq o 4 | .Pow=>Nat.beq o 5 | .LShift=>Nat.beq o 6 | .RShift=>Nat.beq o 7
 |.BitAnd=>Nat.beq o 8 | .BitOr=>Nat.beq o 9 | .BitXor=>Nat.beq o 10 | _=>false
noncomputable def wk(o:Nat)(p:CmpOp):Bool:=match p with
 |.Eq=>Nat.beq o 0 | .NotEq=>Nat.beq o 1 | .Lt=>Nat.beq o 2 | .LtE=>Nat.beq o 3 | .Gt=>Nat.beq o 4 | .GtE=>Nat.beq o 5 | .Is=>Nat.beq o 6 | .IsNot=>Nat.beq o 7 | _=>false
noncomputable def nM(v:AV)(w:Value):Bool:=match w with
 |.int j _=>(match v with
  |.int i=>decide (i=j)
  |_=>false)
 |.bytes b _=>(match v with
  |.bytes l=>decide (bI b=l)&&decide (b.size≤K8)
  |_=>false)
 |_=>false
noncomputable def vJ(K:Frag)(x:Str)(v:AV):Bool:=fq (nsIn K C8 x) λo=>fq o (nM v)
noncomputable def zQ(K:Frag)(x:Str)(a:Addr):Bool:=decide (nsIn K C8 x=some (some (.ref a)))
noncomputable def qy(K:Frag)(x:Str)(v:Value):Bool:=decide (nsIn K C8 x=some none)&&decide (nsIn K X6 x=some (some v))
noncomputable def nj(e:PE):Bool:=!Nat.beq (xv e).1 12||qH e λf l k _=>lp f (λ_ _ _=>true)||cA f λ_ _=>!(N2 l&&N2 k)
noncomputable def dH(e:PE):Bool:=Nat.beq (xv e).1 99
noncomputable abbrev lP:PE→Bool:=dH
noncomputable def aI(e:PE):Bool:=!Nat.beq (xv e).1 8
noncomputable def di(e:PE):Bool:=!Nat.beq (xv e).1 15&&!Nat.beq (xv e).1 99
noncomputable def uz(e:PE):Bool:=!Nat.beq (xv e).1 10
noncomputable def gX(b:Nat):Value:=match b with
 |0=>.builtin "len" | 1=>.type "bytes" | 2=>.type "bytearray" | 4=>.builtin "sum" | 5=>.builtin "min" | _=>.builtin "max"
noncomputable def G3(outer names:List (Str×NameKind)):List (Str×NameKind):=
 names.map λp=>if p.2 == .free&&outer.lookup p.1==some .cell then (p.1,.cell) else p
noncomputable def fS(vt:List Str)(outer names:List (Str×NameKind))(z:Str):Bool:=
 names.all λp=>match p.2 with
  |.local=>decide (names.lookup p.1=some .local)&&(decide (p.1=z)||!vt.contains p.1)
  |.cell=>false
  |.free=>decide (outer.lookup p.1=some .cell)&&vt.contains p.1
  |_=>true
noncomputable def vy(k:ScopeKind):Bool:=match k with
 |.function=>true
 |_=>false
noncomputable def Ah(o:BoolOp):Bool:=match o with
 |.And=>true
 |_=>false
noncomputable def Dt(o:UnaryOp):Bool:=match o with
 |.Not=>true
 |_=>false
noncomputable def Du(o:UnaryOp):Bool:=match o with
 |.USub=>true
 |_=>false
noncomputable def HR(t:T):Nat:=match t with
 |.none_=>0
 |.bool_ b=>(match b with
  |true=>1
  |false=>2)
 |_=>2
noncomputable def vq(t:T):Bool:=Nat.beq (HR t) 0
noncomputable def sD(t:T):Bool:=Nat.beq (HR t) 1
noncomputable def lit(c:Const)(d:Const):Bool:=decide (c=d)
noncomputable def Hg(c:Const)(l:List Int):Bool:=match c with
 |.bytes b=>decide (b.map (λc=>(c.toNat:Int))=l)&&decide (b.length≤K8)
 |_=>false
noncomputable def EJ(c:Const):Bool:=match c with
 |.str _=>true
 |_=>false
noncomputable def tD(c:Const):Bool:=match c with
 |.str x=>decide (x.length≤1000)
 |_=>false
noncomputable def gT(e:PE)(names:List (Str×NameKind))(F:Str→List PE→Bool):Bool:=qH e λf l k _=>N2 k&&cA f λy _=>mU names y&&(jG y&&F y l)
noncomputable def rA(P:Prg)(m:Nat)(e:PE)(F:PE→List PE→Bool):Bool:=qH e λf l k p=>N2 k&&lp f λo n ap=>decide (P.an m=n)&&(Nat.blt m P.nA&&(nj o&&(Nat.beq ap.endLine p.line&&(Nat.blt l.length 29&&F o l))))
noncomputable def Y6(P:Prg)(x:Str)(a:Addr):Bool:=zQ P.K x a&&keepIn P.K (.ref a)
noncomputable def rH(vt:List Str)(names:List (Str×NameKind))(xs:List Nat)(ts:List PE):Bool:=match xs with
 |[]=>N2 ts
 |x::xs=>E3 ts λt r=>cA t (λy _=>hH vt x y&&iC names y)&&rH vt names xs r
noncomputable def Fp(xs:List Nat)(F:Nat→Bool):Bool:=E3 xs λx r=>N2 r&&F x
noncomputable def rn(e:PE):Bool:=Nat.beq (xv e).1 1
noncomputable def pO(vt:List Str)(names:List (Str×NameKind))(xs:List Nat)(tg:PE):Bool:=match rn tg with
 |true=>cA tg λy _=>Fp xs λx=>hH vt x y&&iC names y
 |false=>wV tg λts=>rH vt names xs ts&&(Nat.ble 2 xs.length&&Nat.ble xs.length 100)
noncomputable def pQ(names:List (Str×NameKind))(z:Str)(p:Pos)(v:PE):Bool:=decide (names.lookup z=some .local)&&((p.line==v.pos.line)&&nG v λ_ _ sc=>!(sc.names.any λ(n,k)=>n==z&&(k == .local||k == .cell)))
noncomputable def Iq(vt:List Str)(names:List (Str×NameKind))(h:Hd)(l:List Stmt):Bool:=match h with
 |.retI i=>E3 l λx r=>N2 r&&xo x λo=>fq o λe=>bM e λc=>lit c (.int i)
 |.retN=>E3 l λx r=>N2 r&&xo x λo=>iV o||fq o λe=>bM e λc=>lit c .none
 |.inc x i=>E3 l λs r=>N2 r&&tQ s λt o v=>oC 0 o&&(cA t (λy _=>hH vt x y&&iC names y)&&bM v λc=>lit c (.int i))
 |.bad=>true
noncomputable def Iw(h:ExceptHandler)(F:PE→List Stmt→Bool):Bool:=match h with
 |⟨t,n,b,_⟩=>iV n&&fq t λe=>F e b
noncomputable def Hf(P:Prg)(vt:List Str)(names:List (Str×NameKind))(hs:List (Nat×Hd))(l:List ExceptHandler):Bool:=match hs with
 |[]=>N2 l
 |p::r=>E3 l λh more=>Iw h (λe b=>cA e λy _=>Nat.blt p.1 8&&(mU names y&&(jG y&&(zQ P.K y (P.ce p.1)&&(!N2 b&&Iq vt names p.2 b)))))&&Hf P vt names r more
noncomputable def mZ(vt:List Str)(names:List (Str×NameKind))(x:Nat)(l:List Comprehension)(sc:Scope)(F:PE→Bool)(G:List PE→Bool):Bool:=
 E3 l λc r=>N2 r&&(decide (c.is_async=0)&&cA c.target λz _=>hH vt x z&&(vy sc.kind&&(fS vt names sc.names z&&(decide ((G3 names sc.names).lookup z=some .local)&&(F c.iter&&G c.ifs)))))
noncomputable def ck(P:Prg)(vt:List Str)(t:T)(names:List (Str×NameKind))(z:Tx):Bool:=match t with
 |.nil=>(match z with
  |.es l=>N2 l
  |.ss l=>N2 l
  |_=>false)
 |.cons a b=>(match z with
  |.es l=>E3 l λx r=>!dH x&&(ck P vt a names (.e x)&&ck P vt b names (.es r))
  |.ss l=>E3 l λx r=>ck P vt a names (.s x)&&ck P vt b names (.ss r)
  |_=>false)
 |.none_=>hG z λe=>bM e λc=>lit c .none
 |.bool_ b=>hG z λe=>bM e λc=>lit c (.bool b)
 |.int_ i=>hG z λe=>bM e λc=>lit c (.int i)
 |.byt l=>hG z λe=>bM e λc=>Hg c l
 |.str_=>hG z λe=>bM e EJ
 |.loc x=>hG z λe=>cA e λy _=>hH vt x y&&(iC names y&&jG y)
 |.glb v=>hG z λe=>cA e λy _=>vJ P.K y v&&(mU names y&&jG y)
 |.attr a f=>hG z λe=>lp e λo n _=>decide (P.an f=n)&&(Nat.blt f P.nA&&(nj o&&ck P vt a names (.e o)))
 |.bin o a b=>hG z λe=>Cw e λx p y=>oC o p&&(ck P vt a names (.e x)&&ck P vt b names (.e y))
 |.not_ a=>hG z λe=>Ez e λo x=>Dt o&&ck P vt a names (.e x)
 |.neg a=>hG z λe=>Ez e λo x=>Du o&&ck P vt a names (.e x)
 |.and_ a b=>Hk z λo l=>Ah o&&E3 l λx l=>ck P vt a names (.e x)&&E3 l λy l=>match N2 l with
  |true=>ck P vt b names (.e y)
  |false=>ck P vt b names (.b o (y::l))
 |.or_ a b=>Hk z λo l=>!Ah o&&E3 l λx l=>ck P vt a names (.e x)&&E3 l λy l=>match N2 l with
  |true=>ck P vt b names (.e y)
  |false=>ck P vt b names (.b o (y::l))
 |.cmp o a b=>hG z λe=>Cv e λx ps ys=>E3 ps λp r=>N2 r&&E3 ys λy r=>N2 r&&(wk o p&&(!lP y&&(ck P vt a names (.e x)&&ck P vt b names (.e y))))
 |.sub a i=>hG z λe=>sY e λx y=>aI y&&(ck P vt a names (.e x)&&ck P vt i names (.e y))
 |.slc a l u=>hG z λe=>sY e λx y=>Ct y λlo hi st=>iV st&&(ck P vt a names (.e x)&&((match iV lo with
   |true=>vq l
   |false=>fq lo λq=>ck P vt l names (.e q))&&(match iV hi with
   |true=>vq u
   |false=>fq hi λq=>ck P vt u names (.e q))))
 |.ite_ c a b=>hG z λe=>HN e λx y z=>ck P vt c names (.e x)&&(ck P vt a names (.e y)&&ck P vt b names (.e z))
 |.tup es=>hG z λe=>wV e λl=>Nat.ble l.length 1000&&ck P vt es names (.es l)
 |.lst es=>hG z λe=>Ap e λl=>Nat.ble l.length 1000&&ck P vt es names (.es l)
 |.mlst es=>hG z λe=>Ap e λl=>Nat.ble l.length 1000&&ck P vt es names (.es l)
 |.callF f as=>hG z λe=>gT e names λy l=>Y6 P y (P.fa f)&&ck P vt as names (.es l)
 |.callC c as=>hG z λe=>gT e names λy l=>Y6 P y (P.ca c)&&ck P vt as names (.es l)
 |.callM o m as=>hG z λe=>rA P m e λx l=>ck P vt o names (.e x)&&ck P vt as names (.es l)
 |.callL o m as=>hG z λe=>rA P m e λx l=>ck P vt o names (.e x)&&ck P vt as names (.es l)
 |.callB b as=>hG z λe=>gT e names λy l=>qy P.K y (gX b)&&ck P vt as names (.es l)
 |.isB a=>hG z λe=>gT e names λy l=>qy P.K y (.builtin "isinstance")&&E3 l λx l=>!dH x&&(ck P vt a names (.e x)&&E3 l λq r=>N2 r&&cA q λz _=>qy P.K z (.type "bytes")&&(mU names z&&jG z))
 |.fstr a=>hG z λe=>zC e λl=>E3 l λx l=>bM x tD&&E3 l λy l=>Cu y (λy c f=>decide (c = -1)&&(iV f&&ck P vt a names (.e y)))&&E3 l λz l=>bM z tD&&N2 l
 |.comp a x it c=>hG z λe=>nG e λy l sc=>mZ vt names x l sc (λi=>!lP i&&ck P vt it names (.e i)) (λifs=>(match N2 ifs with
   |true=>sD c
   |false=>E3 ifs λq r=>N2 r&&ck P vt c (G3 names sc.names) (.e q))&&ck P vt a (G3 names sc.names) (.e y))
 |.compR a x as c=>hG z λe=>nG e λy l sc=>mZ vt names x l sc (λi=>gT i names λn l=>qy P.K n (.type "range")&&ck P vt as names (.es l)) (λifs=>(match N2 ifs with
   |true=>sD c
   |false=>E3 ifs λq r=>N2 r&&ck P vt c (G3 names sc.names) (.e q))&&ck P vt a (G3 names sc.names) (.e y))
 |.asg x e=>nu z λs=>tR s λt v=>cA t (λy _=>hH vt x y&&iC names y)&&(di v&&ck P vt e names (.e v))
 |.asgC x a y it c=>nu z λs=>tR s λt v=>cA t (λn p=>hH vt x n&&pQ names n p v)&&nG v λel l sc=>mZ vt names y l sc (λi=>!lP i&&ck P vt it names (.e i)) (λifs=>(match N2 ifs with
   |true=>sD c
   |false=>E3 ifs λq r=>N2 r&&ck P vt c (G3 names sc.names) (.e q))&&ck P vt a (G3 names sc.names) (.e el))
 |.asgT xs e=>nu z λs=>tR s λt v=>wV t (λts=>rH vt names xs ts&&Nat.ble xs.length 100)&&(di v&&(uz v&&ck P vt e names (.e v)))
 |.asgA o f e=>nu z λs=>tR s λt v=>di v&&(ck P vt e names (.e v)&&lp t λx n _=>decide (P.an f=n)&&(Nat.blt f P.nA&&ck P vt o names (.e x)))
 |.asgS o i e=>nu z λs=>tR s λt v=>di v&&(ck P vt e names (.e v)&&sY t λx y=>aI y&&(ck P vt o names (.e x)&&ck P vt i names (.e y)))
 |.aug x o e=>nu z λs=>tQ s λt p v=>oC o p&&(ck P vt e names (.e v)&&cA t λy _=>hH vt x y&&iC names y)
 |.augA ob f o e=>nu z λs=>tQ s λt p v=>oC o p&&(ck P vt e names (.e v)&&lp t λx n _=>decide (P.an f=n)&&(Nat.blt f P.nA&&ck P vt ob names (.e x)))
 |.augS ob i o e=>nu z λs=>tQ s λt p v=>oC o p&&(ck P vt e names (.e v)&&sY t λx y=>aI y&&(ck P vt ob names (.e x)&&ck P vt i names (.e y)))
 |.if_ c a b=>nu z λs=>HU s λq x y=>ck P vt c names (.e q)&&(ck P vt a names (.ss x)&&ck P vt b names (.ss y))
 |.while_ c b=>nu z λs=>IK s λq x=>ck P vt c names (.e q)&&ck P vt b names (.ss x)
 |.for_ xs it b=>nu z λs=>CM s λtg i body=>pO vt names xs tg&&(!lP i&&(ck P vt it names (.e i)&&ck P vt b names (.ss body)))
 |.forR x as b=>nu z λs=>CM s λtg i body=>pO vt names [x] tg&&(gT i names (λn l=>qy P.K n (.type "range")&&ck P vt as names (.es l))&&ck P vt b names (.ss body))
 |.ret e=>nu z λs=>xo s λo=>match iV o with
  |true=>vq e
  |false=>fq o λv=>ck P vt e names (.e v)
 |.raise c as=>nu z λs=>AN s λe=>gT e names λy l=>Nat.blt c 8&&(Y6 P y (P.ce c)&&(Nat.beq l.length 1&&ck P vt as names (.es l)))
 |.try_ b hs=>nu z λs=>EL s λx h=>ck P vt b names (.ss x)&&Hf P vt names hs h
 |.ex e=>nu z λs=>HV s λv=>di v&&ck P vt e names (.e v)
 |.pass=>nu z CL
 |.bad=>(match z with
  |.ss _=>true
  |_=>false)
end
end Mine.Z
namespace Mine.Z
structure POK(P:Prg):Prop where
 a0:P.an 0 = "append"
 a1:P.an 1 = "extend"
 a2:P.an 2 = "pop"
 inj:∀f g,f<P.nA→g<P.nA→P.an f=P.an g→f=g
 m0:∀C f,f<P.nA→P.mtab C f=none→findIn P.K (.ref (P.ca C)) (P.an f)=some none
 m1:∀C f g,P.mtab C f=some g→findIn P.K (.ref (P.ca C)) (P.an f)=some (some (.ref (P.fa g)))∧isFn P.K (.ref (P.fa g))=true∧keepIn P.K (.ref (P.fa g))=true
 cg:∀C x,plainGet P.K (P.ca C) x=true
 ch:∀C,hasDictIn P.K (P.ca C)=true
 cs:∀C,findIn P.K (.ref (P.ca C)) "__setattr__" = some (some (.builtin "object.__setattr__"))
 cp:∀C,plainOver P.K (P.ca C)=true
noncomputable def fE(P:Prg)(a:Addr)(r:Nat)(vs:List AV)(H:Hp)(K:KE)(X:XE):Prop:=
 ∀(C:Cx) (S:Addr→Prop) (μ:Nat→Addr) (s:Shared) (pvs:List Value),Rm P r C ⟨S,μ,H,s⟩→VRs P ⟨s.heap,S,μ,H.length⟩ vs pvs →
  M5 (I5 P C) C.A (.call (.ref a) ⟨pvs,[]⟩) (gZ (J4 P C.base ⟨S,μ,H,s⟩ K) (af P C.base ⟨S,μ,H,s⟩ X)) s
noncomputable abbrev bo(P:Prg)(r:Nat):Itf:=⟨λf=>fE P (P.fa f) r,λc=>fE P (P.ca c) r,P.mtab⟩
noncomputable def Tr(K:KE):Prop:=∀v H,K v H→bQ v≠none
structure ME(P:Prg)(r:Nat)(t:T)(C:Cx)(x:PE):Prop where
 se:∀{ρ:Loc} {g:Sg} {K:KE} {X:XE},St P r C ρ g→R9 (bo P r) t ρ g.H K X→Go P C g (eval x C.env) K X
 sb:∀{ρ:Loc} {g:Sg} {K:KE} {X:XE},St P r C ρ g→Tr K→R9 (bo P r) t ρ g.H K X→Ht P C g (V4 x C.env (eval x C.env)) K X
structure MB(P:Prg)(r:Nat)(t:T)(C:Cx)(o:BoolOp)(l:List PE):Prop where
 so:∀{ρ:Loc} {g:Sg} {K:KE} {X:XE} {pos:Pos},St P r C ρ g→R9 (bo P r) t ρ g.H K X→Go P C g (eval (.BoolOp o l pos) C.env) K X
 st:∀{ρ:Loc} {g:Sg} {K:KE} {X:XE},St P r C ρ g→Tr K→R9 (bo P r) t ρ g.H K X→Ht P C g (dF o l C.env) K X
structure ML(P:Prg)(r:Nat)(t:T)(C:Cx)(l:List PE):Prop where
 st:∀e∈l,dH e=false
 se:∀{ρ:Loc} {g:Sg} {K:KE} {X:XE} {pos:Pos},St P r C ρ g→R9 (bo P r) t ρ g.H K X→It P C g l.length (bg (T6 pos (E0 l C.env))) K X
noncomputable def Top(outer:List Env)(env:Env):Prop:=(∃o',outer=env::o')∧env.frame=some env.locals
noncomputable def Ao(P:Prg)(N:KN)(Rk:KE)(ρ:Loc)(g:Sg)(f:Flow):Prop:=match f with
 |.next=>N ρ g.H
 |.ret v=>VK P Rk g v
 |_=>False
inductive PostS(P:Prg)(r:Nat)(C:Cx)(g:Sg)(N:KN)(Rk:KE):Flow→Shared→Prop
 |mk {f:Flow} (g':Sg) (ρ:Loc) (y:Stp (FA C.env) g g') (T:St P r C ρ g') (k:Ao P N Rk ρ g' f):PostS P r C g N Rk f g'.s
inductive PostSX(P:Prg)(r:Nat)(C:Cx)(g:Sg)(X:XS):Value→Shared→Prop
 |mk {e:Value} (g':Sg) (ρ:Loc) {c:Nat} (y:Stp (FA C.env) g g') (T:St P r C ρ g') (x:Co P g.s.heap g'.s.heap c e) (k:X c ρ g'.H):PostSX P r C g X e g'.s
noncomputable abbrev Hs(P:Prg)(r:Nat)(C:Cx)(g:Sg)(t:Sem Flow)(N:KN)(Rk:KE)(X:XS):Prop:=A4 (I5 P C) C.A t (PostS P r C g N Rk) (PostSX P r C g X) g.s
structure MS(P:Prg)(r:Nat)(t:T)(C:Cx)(x:Stmt):Prop where
 h:∀{ρ:Loc} {g:Sg} {N:KN} {Rk:KE} {X:XS},Top C.outer C.env→St P r C ρ g→wpS (bo P r) t ρ g.H N Rk X→Hs P r C g (exec x C.env) N Rk X
structure MSS(P:Prg)(r:Nat)(t:T)(C:Cx)(x:List Stmt):Prop where
 h:∀{ρ:Loc} {g:Sg} {N:KN} {Rk:KE} {X:XS},Top C.outer C.env→St P r C ρ g→wpS (bo P r) t ρ g.H N Rk X→Hs P r C g (aW x C.env) N Rk X
noncomputable def Cm(P:Prg)(r:Nat)(t:T)(C:Cx)(z:Tx):Prop:=match z with
 |.e x=>ME P r t C x
 |.b o l=>MB P r t C o l
 |.es l=>ML P r t C l
 |.s x=>MS P r t C x
 |.ss l=>MSS P r t C l
noncomputable abbrev Al(P:Prg)(r:Nat)(t:T):Prop:=∀(C:Cx) (z:Tx),ck P C.vt t C.env.scope.names z=true→Cm P r t C z
section
variable{a b:Bool}{G:Prop}
theorem s7(h:(a&&b)=true)(k:a=true→b=true→G):G:=by
 rw[M1] at h;exact k h.1 h.2
theorem iQ(h:(!a)=true):a=false:=by cases a<;>first | rfl | exact absurd h e9
theorem W5{m n:Nat}(h:Nat.beq m n=true):m=n:=M7 h
theorem I7{z:Tx}{F:PE→Bool}{M:Tx→Prop}(h:hG z F=true)(k:∀x,F x=true→M (.e x)):M z:=by
 cases z<;>first | exact absurd h e9 | exact k _ h
theorem T7{z:Tx}{F:Stmt→Bool}{M:Tx→Prop}(h:nu z F=true)(k:∀x,F x=true→M (.s x)):M z:=by
 cases z<;>first | exact absurd h e9 | exact k _ h
theorem wF{z:Tx}{F:BoolOp→List PE→Bool}{M:Tx→Prop}(h:Hk z F=true)(k1:∀o l pos,F o l=true→M (.e (.BoolOp o l pos)))(k2:∀o l,F o l=true→M (.b o l)):M z:=by
 cases z with
 |e x=>exact ta (M:=λx=>M (.e x)) h k1
 |b o l=>exact k2 o l h
 |_=>exact absurd h e9
theorem L7{α:Type}{l:List α}{F:α→List α→Bool}{M:List α→Prop}(h:E3 l F=true)(k:∀x r,F x r=true→M (x::r)):M l:=by
 cases l<;>first | exact absurd h e9 | exact k _ _ h
theorem K9{α:Type}{l:List α}{M:List α→Prop}(h:N2 l=true)(k:M []):M l:=by
 cases l<;>first | exact k | exact absurd h e9
theorem eY{α:Type}{l:Option α}{M:Option α→Prop}(h:iV l=true)(k:M none):M l:=by
 cases l<;>first | exact k | exact absurd h e9
theorem gx{α:Type}{l:Option α}{F:α→Bool}{M:Option α→Prop}(h:fq l F=true)(k:∀x,F x=true→M (some x)):M l:=by
 cases l<;>first | exact absurd h e9 | exact k _ h
theorem ao{α:Type}{l:List α}{F:α→Bool}{M:List α→Prop}(h:E3 l (λx r=>N2 r&&F x)=true)(k:∀x,F x=true→M [x]):M l:=
 L7 h λx r h=>s7 h λh1 h2=>K9 (M:=λr=>M (x::r)) h1 (k x h2)
theorem mT{names:List (Str×NameKind)}{x:Str}(c:iC names x=true):names.lookup x=some .local∨names.lookup x=some .cell:=by
 unfold iC at c
 cases q:names.lookup x with
 |none=>rw[q] at c;exact absurd c e9
 |some k=>rw[q] at c;cases k<;>first | exact .inl rfl | exact .inr rfl | exact absurd c e9
theorem mC{x:Str}(c:jG x=true):(x==("__debug__" : Str))=false:=iQ c
end
section
variable{P:Prg}{r:Nat}{C:Cx}{ρ:Loc}{g:Sg}{K:KE}{X:XE}{E:Value→Shared→Prop}{s':Shared}{v:Value}{av:AV}
theorem St.val(T:St P r C ρ g)(w:Grow g.s s')(h:VR P ⟨s'.heap,g.S,g.μ,g.H.length⟩ av v)(k:K av g.H):J4 P C.base g K v s':=T.rm.rr.val w h k
theorem St.v0(T:St P r C ρ g)(h:VR P g.v av v)(k:K av g.H):J4 P C.base g K v g.s:=T.rm.rr.val .refl h k
theorem bP{prog:Program}{w:World}{A:Around}{s:Shared}{V:Vw}{b:Bool}{Q:Bool→Shared→Prop}(x:VR P V av v)(e:bQ av=some b)(q:Q b s):A4 (y8 prog w) A (truthy v) Q E s:=by
 refine v9 ?_
 cases x<;>first | (cases e;done) | skip
 ·cases e;exact wpAny_truthy_bool q
 ·rename_i i t
  refine PySem.P.truthy_int ?_
  have:(i != 0)=b:=by
   unfold bQ at e;dsimp only at e;cases e
   rw[Bool.eq_iff_iff,bne_iff_ne,decide_eq_true_eq]
  rw[this];exact q
theorem ME.of{t:T}{x:PE}(se:∀{ρ:Loc} {g:Sg} {K:KE} {X:XE},St P r C ρ g→R9 (bo P r) t ρ g.H K X→Go P C g (eval x C.env) K X)
  (he:V4 x C.env (eval x C.env)=(do let v ←eval x C.env;Q2 x.pos;J5 [v] (truthy v))):ME P r t C x:=by
 refine⟨se,λT hK h=>xM (cJ (Ok.start T) (se T h) λg1 av v z o vr q=>?_) he⟩
 cases e:bQ av with
 |none=>exact absurd e (hK _ _ q)
 |some b=>exact bP vr e (o.b0 e q)
theorem BV:Al P r .none_:=λC z c=>I7 c λe c=>R4 c λd k pos c=>by
 obtain rfl:=of_decide_eq_true c
 exact ME.of (λT h=>v9 (wpAny_Constant_none (T.v0 .none h))) rfl
theorem Cb{b:Bool}:Al P r (.bool_ b):=λC z c=>I7 c λe c=>R4 c λd k pos c=>by
 obtain rfl:=of_decide_eq_true c
 exact ME.of (λT h=>v9 (wpAny_Constant_bool (T.v0 (.bool _) h))) rfl
theorem Eh{i:Int}:Al P r (.int_ i):=λC z c=>I7 c λe c=>R4 c λd k pos c=>by
 obtain rfl:=of_decide_eq_true c
 exact ME.of (λT h=>v9 (wpAny_Constant_int (T.val .toks (.int _ _) h))) rfl
theorem bO{V:Vw}{b:Array UInt8}{t:Tok}{l:List Int}(e:bI b=l)(z:b.size≤K8):VR P V (.bytes l) (.bytes b t):=e▸.bytes b t z
theorem El{l:List Int}:Al P r (.byt l):=λC z c=>I7 c λe c=>R4 c λd k pos c=>by
 cases d with
 |bytes b=>exact s7 c λc1 c2=>ME.of (λT h=>λ_ _ _ _=>T.val .toks (bO (of_decide_eq_true c1) (of_decide_eq_true c2)) h) rfl
 |_=>exact absurd c e9
theorem DX:Al P r .str_:=λC z c=>I7 c λe c=>R4 c λd k pos c=>by
 cases d with
 |str b=>exact ME.of (λT h=>v9 (wpAny_Constant_str (T.val .toks (.str _ _) h))) rfl
 |_=>exact absurd c e9
theorem St.read(T:St P r C ρ g){i:Nat}{x:Str}(hi:hH C.vt i x=true)(hk:iC C.env.scope.names x=true)(u:P3 (lget ρ i)=false){Q:Value→Shared→Prop}{M:Model}{A':Around}
  (h:∀v,VR P g.v (lget ρ i) v→Q v g.s):n9 M A' (loadName C.env x) Q E g.s:=by
 refine eX12 T.vars λm n q=>?_
 have hi:=of_decide_eq_true hi
 rcases mT hk with k | k
 ·refine eX12 ((q i x hi).1 k u) λv a b=>?_
  exact wpAny_loadName_local T.kind k n a (h v b)
 ·refine eX12 ((q i x hi).2 k) λc a zn1=>?_;refine eX12 zn1 λcv ic b=>?_;clear zn1
  refine eX12 (b u) λv e z=>?_
  subst e
  exact wpAny_loadName_cell T.kind k a ic (h v z)
theorem Ee{x:Nat}:Al P r (.loc x):=λC z c=>I7 c λe c=>N4 c λy p c=>s7 c λc1 c=>s7 c λc2 c3=>
 ME.of (λT h=>eX02 (jV h) λu h=>v9 (wpAny_Name (T.read c1 c2 u λv vr=>T.v0 vr h) (mC c3))) rfl
theorem nK{V:Vw}(c:nM av v=true):VR P V av v:=by
 unfold nM at c
 cases v with
 |int j t=>cases av with
  |int i=>obtain rfl:=of_decide_eq_true c;exact .int _ _
  |_=>exact absurd c e9
 |bytes b t=>cases av with
  |bytes l=>exact s7 c λc1 c2=>bO (of_decide_eq_true c1) (of_decide_eq_true c2)
  |_=>exact absurd c e9
 |_=>exact absurd c e9
theorem St.glob(T:St P r C ρ g){x:Str}{pos:Pos}(hk:mU C.env.scope.names x=true)(hd:jG x=true)(hn:nsIn P.K C8 x=some (some v)){Q:Value→Shared→Prop}{M:Model}{A':Around}
  (h:Q v g.s):n9 M A' (eval (.Name x pos) C.env) Q E g.s:=by
 refine eX11 T.rm.rr.gm λmg w=>?_
 refine Calls.Name_function_global T.kind (of_decide_eq_true hk) (Calls.loadGlobal_global (mg:=mg) ?_ (mg_of T.rm.rr.kb w hn) h) (mC hd)
 rw[T.gl];exact w.keeps T.rm.rr.stays
theorem DI{K:Frag}{h:Heap}{a:Addr}{mg:Str→Option Value}{n:Str}{v:Value}(X:K.In h)(G:h.Ns a mg)(e:nsIn K a n=some (some v)):mg n=some v:=by
 refine eX34 G λo es ep ho hd _ hf=>?_;clear G
 cases hl:K.lookup a with
 |none=>unfold nsIn at e;rw[hl] at e;exact nomatch e
 |some o'=>
  obtain rfl:o'=o:=Option.some.inj ((X _ _ hl).symm.trans ho)
  unfold nsIn at e
  rw[hl] at e
  cases o' with | mk c1 i1 d1 sl1=>
  cases hd
  revert e
  show (match es.toList.find? (·.key.isStr n) with | some e=>some (some e.val) | none=>if es.toList.any (·.refKey) then none else some none)=some (some v)→_
  cases he:es.toList.find? (·.key.isStr n) with
  |none=>
   intro e
   by_cases q:es.toList.any (·.refKey)=true
   ·exact nomatch (if_pos q).symm.trans e
   ·exact nomatch (if_neg q).symm.trans e
  |some en=>
   intro e
   rw[←Option.some.inj (Option.some.inj e),←hf]
   unfold nsFind findBy
   rw[←Array.find?_toList,he]
   rfl
theorem St.globB(T:St P r C ρ g){x:Str}{pos:Pos}(hk:mU C.env.scope.names x=true)(hd:jG x=true)(hn:qy P.K x v=true){Q:Value→Shared→Prop}{M:Model}
  (h:Q v g.s):n9 M C.A (eval (.Name x pos) C.env) Q E g.s:=by
 refine eX11 T.rm.rr.gm λmg w=>?_
 refine eX11 T.rm.rr.bm λmb b=>?_
 refine s7 hn λn1 n2=>Calls.Name_function_global T.kind (of_decide_eq_true hk) (Calls.loadGlobal_builtin (mg:=mg) (mb:=mb) ?_ (mg_none_of T.rm.rr.kb w (of_decide_eq_true n1)) ?_ (DI T.rm.rr.kb b (of_decide_eq_true n2)) h) (mC hd)
 ·rw[T.gl];exact w.keeps T.rm.rr.stays
 ·rw[T.bl];exact b.keeps T.rm.rr.stays
theorem Ei{v:AV}:Al P r (.glb v):=λC z c=>I7 c λe c=>N4 c λy p c=>s7 c λc1 c=>s7 c λc2 c3=>by
 unfold vJ at c1
 cases q:nsIn P.K C8 y with
 |none=>rw[q] at c1;exact absurd c1 e9
 |some o=>
  rw[q] at c1
  cases o with
  |none=>exact absurd c1 e9
  |some w=>exact ME.of (λT h=>v9 (T.glob c2 c3 q (T.v0 (nK c1) h))) rfl
theorem iB{h:Heap}{d:Addr}{o:Obj}{m:Str→Option Value}(n:h.Ns d m)(e:h.get? d=some o)(x:Str):lookIn x o=some (m x):=by
 refine eX34 n λo' es ep ho hd hk hf=>?_;clear n
 rw[e] at ho
 cases ho
 unfold lookIn
 rw[hd]
 dsimp only
 have:=hf x
 unfold nsFind findBy at this
 rw[←Array.find?_toList] at this
 cases q:es.toList.find? (·.key.isStr x) with
 |some en=>rw[q] at this;dsimp only;rw[←this];rfl
 |none=>
  rw[q] at this
  dsimp only
  rw[if_neg,←this];· rfl
  rw[Bool.not_eq_true,cM]
  intro b hb
  refine eX21 (hk b (Array.mem_toList_iff.mp hb)) λy t hy=>?_
  simp[DictEntry.refKey,hy]
theorem VR.handed{V:Vw}(x:VR P V av v):handedIn v=true:=by cases x<;>rfl
theorem VR.ne{V:Vw}(x:VR P V av v):P3 av=false:=by cases x<;>rfl
theorem uV(O:POK P){V:Vw}{fs:List (Nat×AV)}{ws:List Value}{m:Str→Option Value}{f:Nat}(a:VRs P V (fs.map Prod.snd) ws)(h:Fl P fs ws m)(hf:f<P.nA):
  (P3 (lk fs f)=false∧∃u,m (P.an f)=some u∧VR P V (lk fs f) u)∨(lk fs f = .U∧m (P.an f)=none):=by
 induction fs generalizing ws m with
 |nil=>cases a;exact .inr ⟨rfl,h _⟩
 |cons p r ih=>
  cases a with | cons a b=>
  refine eX03 h λh1 h2 h3=>?_;clear h
  show (P3 (match Nat.beq p.1 f with | true=>p.2 | false=>lk r f)=false∧∃u,m (P.an f)=some u∧VR P V (match Nat.beq p.1 f with | true=>p.2 | false=>lk r f) u)∨((match Nat.beq p.1 f with | true=>p.2 | false=>lk r f) = .U∧_)
  cases q:Nat.beq p.1 f with
  |true=>rw[←W5 q];exact .inl ⟨a.ne,_,h2,a⟩
  |false=>
   have:=ih b h3
   rw[if_neg λz'=>by rw[O.inj _ _ hf h1 z',Nat.beq_refl] at q;cases q] at this
   exact this
@[elab_as_elim] theorem VR.flds{base:Heap}{F:Nat→List (Nat×AV)→Prop}{M:Value→Prop}(rr:R P base g)(x:VR P g.v av v)(h:pU av g.H F)
  (k:∀c fs x d m,g.s.heap.get? x=some (G4 (P.ca c) d)→g.s.heap.Ns d m→FR P g.v fs m→F c fs→M (.ref x)):M v:=by
 cases x with
 |inst c fs x d m ws hs hx hd hn hv hf=>exact k c fs x d m hx hn.ns ⟨ws,hv,hf⟩ h
 |obj c n x hl hs hx=>
  cases h with | mk e q=>
  have cl:=rr.cell n hl
  rw[e] at cl
  refine eX02 cl λ_ zn2=>?_;clear cl;refine eX13 zn2 λm hn F _=>?_;clear zn2
  exact k c _ x _ m hx hn.ns F q
 |_=>exact h.elim
theorem ij{β:Type}{o:Option β}{F:Prop}(h:mB o F):o=none∧F:=by
 cases o<;>first | exact⟨rfl,h⟩ | exact h.elim
theorem yE(O:POK P)(T:St P r C ρ g){x d:Addr}{c:Nat}{fs:List (Nat×AV)}{m:Str→Option Value}{f:Nat}(hx:g.s.heap.get? x=some (G4 (P.ca c) d))(n:g.s.heap.Ns d m)(F:FR P g.v fs m)
  (hf:f<P.nA) (hm:P.mtab c f=none) (h:Ab fs f λv=>K v g.H) {expr:Bool}:n9 (I5 P C) C.A (getAttr (.ref x) (P.an f) expr) (J4 P C.base g K) E g.s:=by
 refine eX02 (qf h) λu h=>?_
 refine eX12 F λws F1 F2=>?_;clear F
 refine eX32 (id n) λo es ep ho r'=>?_
 have I:InstAt g.s.heap x (G4 (P.ca c) d) (P.ca c) (some o):=⟨hx,rfl,rfl,ho⟩
 rcases uV O F1 F2 hf with ⟨_,y,e1,e2⟩ | ⟨e,_⟩
 ·exact get_value T.kin I (plainGet_of (O.cg c (P.an f))).1 (findObj_own (attr:=none) (O.ch c) (O.m0 c f hf hm) rfl (by rw[iB n ho,e1])) e2.handed (T.val .toks e2 h)
 ·rw[e] at u;exact nomatch u
theorem iH{o:PE}(c:nj o=true){n:Str}{env:Env}{t:Sem Value}:W3 o n env t=t:=by
 rcases K7.mp c with c | c
 ·cases o<;>first | exact absurd c e9 | rfl
 ·refine jv (M:=λo=>W3 o n env t=t) c λf l k p c=>?_
  rcases K7.mp c with c | c
  ·exact eu (M:=λf=>W3 (.Call f l k p) n env t=t) c λ_ _ _ _=>rfl
  refine N4 (M:=λf=>W3 (.Call f l k p) n env t=t) c λx q c=>?_
  cases l with
  |nil=>cases k with
   |nil=>exact absurd c e9
   |cons _ _=>rfl
  |cons _ _=>rfl
theorem wQ{a b:Nat}(c:Nat.blt a b=true):a<b:=F3 c
theorem Ce(O:POK P){a:T}{f:Nat}(ia:Al P r a):Al P r (.attr a f):=λC z c=>I7 c λe c=>eu c λo n p c=>s7 c λc1 c=>s7 c λc2 c=>s7 c λc3 c4=>by
 obtain rfl:=of_decide_eq_true c1
 refine ME.of (λT h=>Bg (iH c3) (cJ (Ok.start T) ((ia C (.e o) c4).se T h) λg1 av v z1 o1 vr q=>?_)) rfl
 refine VR.flds o1.T.rm.rr vr q λcc fs x d m hx hn F q=>?_
 refine eX02 (ij q) λhm q=>?_
 exact fin o1 (v9 (yE O o1.T hx hn F (wQ c2) hm q))
end
end Mine.Z
namespace Mine.Z
section
variable{P:Prg}{V:Vw}{av:AV}{w:Value}
@[elab_as_elim] theorem VR.int_el{F:Int→Prop}{M:Value→Prop}(x:VR P V av w)(h:G2 av F)(k:∀i t,F i→M (.int i t)):M w:=by
 cases x<;>first | exact h.elim | exact k _ _ h
@[elab_as_elim] theorem VR.bytes_el{F:List Int→Prop}{M:Value→Prop}(x:VR P V av w)(h:onBytes av F)(k:∀b t,b.size≤K8→F (bI b)→M (.bytes b t)):M w:=by
 cases x<;>first | exact h.elim | exact k _ _ (by assumption) h
@[elab_as_elim] theorem VR.fl_el{F:List AV→Prop}{M:Value→Prop}(x:VR P V av w)(h:pV av F)(k:∀l vs a n,V.S a→V.h.get? a=some { cls:=.type "list",data:=.seq (V0 vs) n }→VRs P V l vs→l.length≤K8→F l→M (.ref a)):M w:=by
 cases x<;>first | exact h.elim | exact k _ _ _ _ (by assumption) (by assumption) (by assumption) (by assumption) h
@[elab_as_elim] theorem VR.tup_el{F:List AV→Prop}{M:Value→Prop}(x:VR P V av w)(h:ae av F)(k:∀l vs a,V.S a→V.h.get? a=some { cls:=.type "tuple",data:=.seq (V0 vs) }→VRs P V l vs→F l→M (.ref a)):M w:=by
 cases x<;>first | exact h.elim | exact k _ _ _ (by assumption) (by assumption) (by assumption) h
@[elab_as_elim] theorem VR.ref_el{F:Nat→Prop}{M:Value→Prop}(x:VR P V av w)(h:qW av F)(k:∀n,n<V.k→F n→M (.ref (V.μ n))):M w:=by
 cases x<;>first | exact h.elim | exact k _ (by assumption) h
end
theorem bF{a:Int}(h:small a):a.natAbs<2^64:=by unfold small at h;lia -abstractProof
theorem jC{a:Int}(h:small a):Builtin.Int.intBits a≤64:=intBits_le_64 (by unfold small at h;exact e8 (by decide) h.1) (by unfold small at h;exact e7 h.2 (by decide))
theorem ly{a:Int}(h:small a):a.natAbs.log2<9000:=by
 have h2:=bF h
 rcases Nat.eq_zero_or_pos a.natAbs with h0 | hp
 ·rw[h0];decide
 ·exact i8 ((Nat.log2_lt (Nat.ne_of_gt hp)).mpr h2) (by decide)
theorem lT{a b:Int}(h:0<b):a.fdiv b=a/b:=Int.fdiv_eq_ediv_of_nonneg a (A3 h)
theorem sF{a b:Int}(h:0<b):a.fmod b=a%b:=Int.fmod_eq_emod_of_nonneg a (A3 h)
theorem ue(n:Nat):(0:Int)<2^n:=cN (by decide)
theorem sQ{x y:Int}(hx:0≤x)(hy:0≤y):Builtin.bitOr x y=((x.toNat|||y.toNat:Nat):Int):=by
 rw[bitOr_and,bitAnd_pp hx hy]
 have:=nat_or_add_and x.toNat y.toNat
 lia -abstractProof
theorem Bk{M N X A p q r t u v w x:Nat}(e1:2*u+w=M)(e2:2*v+x=N)(e3:2*p+r=X)(e4:2*q+t=A)(ih:p+2*q=u+v)(k:r+2*t=w+x):X+2*A=M+N:=by
 subst e1 e2 e3 e4
 rw[Nat.mul_add 2 (2*q) t,Nat.add_add_add_comm,←Nat.mul_add,ih,k,Nat.mul_add,Nat.add_add_add_comm]
theorem iR(m:Nat):∀n:Nat,(m^^^n)+2*(m&&&n)=m+n:=by
 induction m using Nat.strongRecOn with
 |ind m ih=>
  intro n
  by_cases h0:m=0
  ·subst h0;rw[Nat.zero_xor,Nat.zero_and,J0];rfl
  ·have ih':=ih (m/2) (Nat.div_lt_self (Nat.pos_of_ne_zero h0) (by decide)) (n/2)
   rw[←Nat.xor_div_two,←Nat.and_div_two] at ih'
   have key:∀a<2,∀b<2,(a^^^b)+2*(a&&&b)=a+b:=by decide
   have k:=key (m%2) (bX _ (by decide)) (n%2) (bX _ (by decide))
   rw[←show (m^^^n)%2=(m%2)^^^(n%2) from aZ (n:=1),←show (m&&&n)%2=(m%2)&&&(n%2) from Nat.and_mod_two_pow (n:=1)] at k
   exact Bk (R3 m 2) (R3 n 2) (R3 _ 2) (R3 _ 2) ih' k
theorem qx{x y:Int}(hx:0≤x)(hy:0≤y):Builtin.bitXor x y=((x.toNat^^^y.toNat:Nat):Int):=by
 rw[bitXor_and,bitAnd_pp hx hy]
 have:=iR x.toNat y.toNat
 lia -abstractProof
section
variable{P:Prg}{r:Nat}{C:Cx}{ρ:Loc}{g:Sg}{K:KE}{X:XE}{E:Value→Shared→Prop}{s s':Shared}{v u:Value}{av bv:AV}
theorem gW{prog:Program}{w:World}{A:Around}{o:Nat}{p:Operator}{a b:Int}{t u:Tok}{F:AV→Prop}{Q:Value→Shared→Prop}(c:oC o p=true)(h:binI o a b F)(k:∀i:Int,F (.int i)→Q (.int i s.toks) { s with toks:=s.toks+1 }):
  n9 (y8 prog w) A (cX p (.int a t) (.int b u)) Q E s∧n9 (y8 prog w) A (inplaceOp p (.int a t) (.int b u)) Q E s:=by
 cases p with
 |Add=>obtain rfl:=W5 c;exact⟨PySem.P.add_int (k _ h),PySem.P.iadd_int (k _ h)⟩
 |Sub=>obtain rfl:=W5 c;exact⟨PySem.P.sub_int (k _ h),PySem.P.isub_int (k _ h)⟩
 |Mult=>
  rcases K7.mp c with c | c
  ·obtain rfl:=W5 c
   exact⟨PySem.P.mul_int (k _ h.f) (.of_right (jC h.h)),PySem.P.imul_int (k _ h.f) (.of_right (jC h.h))⟩
  ·obtain rfl:=W5 c;exact h.elim
 |FloorDiv=>
  obtain rfl:=W5 c
  refine D2 λ_ kk=>?_
  obtain⟨h1,h2,h⟩:=h
  refine kk ?_
  rw[←lT h1] at h
  exact⟨floordiv_int (Q5 h1) (k _ h) (.inl (PyProof.noPylong_of_log2 (ly h2))),ifloordiv_int (Q5 h1) (k _ h) (.inl (PyProof.noPylong_of_log2 (ly h2)))⟩
 |Mod=>
  obtain rfl:=W5 c
  obtain⟨h1,h⟩:=h
  rw[←sF h1] at h
  exact⟨mod_int' (Q5 h1) (k _ h),imod_int (Q5 h1) (k _ h)⟩
 |Pow=>
  obtain rfl:=W5 c
  refine D2 λ_ kk=>?_
  obtain⟨h1,⟨h2,h3⟩,h⟩:=h
  refine kk ?_
  exact⟨pow_int_small h2 (by exact A3 (e7 h3 (by decide))) (bF h1) (k _ h),ipow_int_small h2 (by exact A3 (e7 h3 (by decide))) (bF h1) (k _ h)⟩
 |LShift=>
  obtain rfl:=W5 c
  refine D2 λ_ kk=>?_
  obtain⟨h1,⟨h2,h3⟩,h⟩:=h
  refine kk ?_
  exact⟨lshift_int_small h2 (by exact A3 (e7 h3 (by decide))) (bF h1) (k _ h),ilshift_int_small h2 (by exact A3 (e7 h3 (by decide))) (bF h1) (k _ h)⟩
 |RShift=>
  obtain rfl:=W5 c
  obtain⟨h1,h⟩:=h
  unfold cH at h
  rw[←lT (ue _)] at h
  exact⟨rshift_int h1 (k _ h),irshift_int h1 (k _ h)⟩
 |BitAnd=>
  obtain rfl:=W5 c
  refine D2 λ_ kk=>?_
  obtain⟨h1,h2,h⟩:=h
  refine kk ?_
  unfold P5 at h
  rw[←bitAnd_pp h1 h2] at h
  exact⟨and_int (k _ h),iand_int (k _ h)⟩
 |BitOr=>
  obtain rfl:=W5 c
  refine D2 λ_ kk=>?_
  obtain⟨h1,h2,h⟩:=h
  refine kk ?_
  unfold iU at h
  rw[←sQ h1 h2] at h
  exact⟨or_int (k _ h),ior_int (k _ h)⟩
 |BitXor=>
  obtain rfl:=W5 c
  refine D2 λ_ kk=>?_
  obtain⟨h1,h2,h⟩:=h
  refine kk ?_
  unfold gA at h
  rw[←qx h1 h2] at h
  exact⟨xor_int (k _ h),ixor_int (k _ h)⟩
 |_=>exact absurd c e9
section
variable{V:Vw}
theorem VRs.len{l:List AV}{vs:List Value}(x:VRs P V l vs):l.length=vs.length:=by
 induction l generalizing vs with
 |nil=>cases x;rfl
 |cons v l ih=>cases x with | cons a b=>exact congrArg (· + 1) (ih b)
theorem VRs.app{l':List AV}{vs':List Value}(y:VRs P V l' vs'){l:List AV}{vs:List Value}(x:VRs P V l vs):VRs P V (l++l') (vs++vs'):=by
 induction l generalizing vs with
 |nil=>cases x;exact y
 |cons v l ih=>cases x with | cons a b=>exact .cons a (ih b)
theorem VRs.rep{l:List AV}{vs:List Value}(y:VRs P V l vs):∀n:Nat,VRs P V (l6 n l).flatten (l6 n vs).flatten
 |0=>.nil
 |n+1=>by rw[C1,C1,J8,J8];exact VRs.app (VRs.rep y n) y
end
theorem lS{vs:List Value}:∀(n:Nat) (acc:Array Value),List.foldl (λx1 x2=>x1++x2) acc (l6 n vs.toArray)=acc++(l6 n vs).flatten.toArray
 |0,acc=>rfl
 |n+1,acc=>by rw[C1,List.foldl_cons,lS n,C1,J8];simp[Array.append_assoc]
theorem wG(b c:Array UInt8):bI (b++c)=bI b++bI c:=by unfold bI;simp
theorem Y1(b:Array UInt8):(bI b).length=b.size:=by unfold bI;simp
theorem BP(b:Array UInt8)(n:Nat):bI (l6 n b.toList).flatten.toArray=(l6 n (bI b)).flatten:=by
 unfold bI
 simp[List.map_flatten,List.map_replicate]
theorem pj{α:Type}{l:List α}(h:l.length=1):∀n:Nat,(l6 n l).flatten.length=n
 |0=>rfl
 |n+1=>by rw[C1,J8,d6,pj h n,h,L3]
theorem mul_list{prog:Program}{w:World}{A:Around}{l:Addr}{vs:List Value}{m:Nat}{x:Int}{u:Tok}{Q:Value→Shared→Prop}(hl:IsL s.heap l vs.toArray m)(h1:vs.length=1)(h0 : -100000<x)(h2:x<100000)
  (h:Q (.ref s.heap.objs.size) { s with heap:=s.heap.push { cls:=.type "list",data:=.seq (l6 x.toNat vs).flatten.toArray } }) :
  n9 (y8 prog w) A (cX .Mult (.ref l) (.int x u)) Q E s:=by
 have e:List.foldl (λx1 x2=>x1++x2) #[] (l6 (if vs.toArray.isEmpty=true then 0 else x.toNat) vs.toArray)=(l6 x.toNat vs).flatten.toArray:=by
  have:vs.toArray.isEmpty=false:=by cases vs with | nil=>cases h1 | cons a r=>rfl
  rw[this,lS];simp
 have sz:vs.toArray.size=1:=by simpa using h1
 refine wpAny_binaryOp_repeat_ref (T:="list") (U:="int") (by decide) ⟨_,hl,rfl⟩ (λs'=>N8 s' x u) noFill_list_mul F.fills_int_mul F.slot_int_rmul repeat_list F.slot_int_index.lookup
  (call_meets F.slot_int_rmul (N8 s x u) F.entry_int_rmul (F.args_int_rmul_2 _ _) (int___rmul___int_list x u l vs.toArray m)
   ⟨hl,rfl,⟨_,hl,rfl⟩,call_meets F.slot_list_mul ⟨_,hl,rfl⟩ F.entry_list_mul (F.args_list_mul_2 _ _)
    (AutoListH.list___mul___list_int_3 l vs.toArray m x u (by simp[Builtin.List.listFitsIndex];exact⟨(e6 (by decide) (u0 h0)),(e8 (i5 h2) (by decide))⟩) (by rw[sz];exact I8.mpr (b6 (r9 (d8 _) ((A2 (n:=99999)).mpr (i5 h2))) (by decide))) (by rw[sz];simp[Builtin.List.listTooLong,Q7];exact A3 (e7 h2 (by decide))))
    ⟨hl,?_⟩⟩)
 rw[e];exact h
theorem jx{n:Nat}(h:n≤K8):n≤Q7:=by rw[F0];exact h
theorem du(rr:R P C.base g){n:Nat}(hn:n<g.H.length){l:List AV}(e:get g.H n = .list l):∃vs m,g.s.heap.get? (g.μ n)=some { cls:=.type "list",data:=.seq (V0 vs) m }∧VRs P g.v l vs∧l.length≤K8:=by
 have:=rr.cell n hn
 rw[e] at this
 refine eX21 this λvs m h=>?_;clear this
 exact⟨vs.toList,m,by rw[Array.toArray_toList];exact h.1,h.2⟩
theorem wK(T:St P r C ρ g){l l':List AV}{vs vs':List Value}{x x':Addr}{m m':Nat}(hx:g.s.heap.get? x=some { cls:=.type "list",data:=.seq vs.toArray m })(hx':g.s.heap.get? x'=some { cls:=.type "list",data:=.seq vs'.toArray m' })
  (hv:VRs P g.v l vs) (hv':VRs P g.v l' vs') (h1:l.length+l'.length≤K8) (k:K (.fl (l++l')) g.H):n9 (I5 P C) C.A (cX .Add (.ref x) (.ref x')) (J4 P C.base g K) E g.s:=by
 refine PySem.P.add_list hx hx' (T.rm.rr.valS (Grow.push _) M4 (Heap.get?_push_size _ rfl) (λ_ q=>nomatch q) (λkp=>?_) k) (jx (by rw[hv.len,hv'.len] at h1;simpa using h1))
 exact VR.fl (l++l') (vs++vs') g.s.heap.objs.size 0 (.inr rfl) (by rw[List.append_toArray];exact Heap.get?_push_size _ rfl) (VRs.app (hv'.kp kp) (hv.kp kp)) (by rw[d6];exact h1)
theorem sM(T:St P r C ρ g){x:Array UInt8}{t u:Tok}{n:Int}(h1:0<(bI x).length∧(bI x).length≤16)(h2:within n 100000)(k:K (.bytes (Mine.rep n (bI x))) g.H):n9 (I5 P C) C.A (cX .Mult (.bytes x t) (.int n u)) (J4 P C.base g K) E g.s:=by
 rw[Y1] at h1
 have l0:x.toList.length=x.size:=Array.length_toList
 have hn:=h2.1
 have hn':=h2.2
 have:=bytes_mul_any (prog:=P.prog) (w:=C.w) (A:=C.A) (E:=E) (s:=g.s) (b:=x.toList) (n:=n) (t:=t) (u:=u) (Q:=J4 P C.base g K) (by intro q;rw[q] at l0;simp at l0;lia -abstractProof) (by exact e6 (by decide) hn) (by exact A3 (e7 hn' (by decide))) (by exact b6 (j6 l0) h1.2) (λt' k'=>T.val .toks (bO (BP _ _) (by
  have q:((l6 n.toNat x.toList).flatten.toArray).size=n.toNat*x.toList.length:=by simp
  have:n.toNat*x.toList.length≤n.toNat*16:=Nat.mul_le_mul_left _ (by exact b6 (j6 l0) h1.2)
  rw[q];unfold K8;exact b6 this (b6 (r9 ((A2 (n:=99999)).mpr (i5 h2.2)) (d8 _)) (by decide)))) k)
 rw[Array.toArray_toList] at this
 exact this
theorem BM(T:St P r C ρ g){o:Nat}{p:Operator}(c:oC o p=true)(va:VR P g.v av v)(vb:VR P g.v bv u)(h:bin o av bv g.H K):
  n9 (I5 P C) C.A (cX p v u) (J4 P C.base g K) E g.s:=by
 cases va with
 |int i t=>exact vb.int_el h λj u h=>(gW (F:=λv=>K v g.H) c h λi k=>T.val .toks (.int _ _) k).1
 |bytes x t z=>
  cases p with
  |Add=>
   obtain rfl:=W5 c
   refine vb.bytes_el h λy u z' h=>?_
   obtain⟨h1,h⟩:=h
   rw[Y1,Y1] at h1
   exact KBy.add_bytes h1 λt' k'=>T.val .toks (bO (wG _ _) (by rw[Array.size_append];exact h1)) h
  |Mult=>
   rcases K7.mp c with c | c
   ·obtain rfl:=W5 c
    refine vb.int_el h λn u h=>?_
    exact sM T h.h h.f.h h.f.f
   ·obtain rfl:=W5 c;exact h.elim
  |_=>first | (exact absurd c e9) | (obtain rfl:=W5 c;exact h.elim)
 |fl l vs x m hs hx hv hz=>
  cases p with
  |Add=>
   obtain rfl:=W5 c
   exact vb.fl_el h λl' vs' x' m' hs' hx' hv' hz' h=>wK T hx hx' hv hv' h.h h.f
  |Mult=>
   have fin:∀{n:Int} {u:Tok},l.length=1→-100000<n→n<100000→(∀s',Grow g.s s'→s'.heap.get? g.s.heap.objs.size=some { cls:=.type "list",data:=.seq (l6 n.toNat vs).flatten.toArray }→J4 P C.base g K (.ref g.s.heap.objs.size) s') →
     n9 (I5 P C) C.A (cX .Mult (.ref x) (.int n u)) (J4 P C.base g K) E g.s:=λh1 h2 h3 k=>mul_list hx (by rw[←hv.len];exact h1) h2 h3 (k _ (Grow.push _) (Heap.get?_push_size _ rfl))
   have rl:∀{n:Int},l.length=1→n<100000→(l6 n.toNat l).flatten.length≤K8:=λh1 h3=>by rw[pj h1];unfold K8;exact A2.mpr (A3 (e7 h3 (by decide)))
   rcases K7.mp c with c | c
   ·obtain rfl:=W5 c
    refine vb.int_el h λn u h=>?_
    refine D2 λ_ kk=>?_
    obtain⟨h1,h2,h3,h⟩:=h
    refine kk ?_
    exact fin h1 h2 h3 λs' w e=>T.rm.rr.valS w M4 e (λ_ q=>nomatch q) (λkp=>.fl _ _ _ 0 (.inr rfl) e ((hv.kp kp).rep _) (rl h1 h3)) h
   ·obtain rfl:=W5 c
    refine vb.int_el h λn u h=>?_
    refine D2 λ_ kk=>?_
    obtain⟨h1,h2,h3,⟨h⟩⟩:=h
    refine kk ?_
    exact fin h1 h2 h3 λs' w e=>T.rm.rr.valC (c:=.list (l6 n.toNat l).flatten) w M4 e (λkp=>⟨_,0,e,by simpa using (hv.kp kp).rep n.toNat,rl h1 h3⟩) h
  |_=>first | (exact absurd c e9) | (obtain rfl:=W5 c;exact h.elim)
 |ref n hn=>
  obtain⟨rfl,h⟩:=h
  cases h with | mk e h=>
  refine eX23 (du T.rm.rr hn e) λvs m hx hv hz=>?_
  cases p with
  |Add=>exact vb.fl_el h λl' vs' x' m' hs' hx' hv' hz' h=>wK T hx hx' hv hv' h.h h.f
  |_=>exact absurd c e9
 |_=>exact h.elim
theorem Em{o:Nat}{a b:T}(ia:Al P r a)(ib:Al P r b):Al P r (.bin o a b):=λC z c=>I7 c λe c=>wZ c λx p y pos c=>s7 c λc1 c=>s7 c λc2 c3=>
 ME.of (λT h=>yd (cJ (Ok.start T) ((ia C (.e x) c2).se T h) λg1 av v z1 o1 vr q=>cJ o1 ((ib C (.e y) c3).se o1.T q) λg2 bv u z2 o2 vr' q'=>fin o2 (v9 (BM o2.T c1 (vr.kp z2.kp) vr' q')))) rfl
end
end Mine.Z
section
set_option maxRecDepth 100000
namespace Mine.Z
open PySem.Builtin PySem.SeqAt
open AutoSeq1 (wpAny_loadPart')
theorem fA:Slot "bytes" (cmpInfo .Lt).2.1 "bytes.__lt__":=
 .of (owner:="bytes") (n:="__lt__") (by rw[u5,r0];kernel_rfl) (by decide +kernel) (by decide +kernel) (by decide +kernel)
  (by first | exact .inl (by decide +kernel) | exact .inr (by decide +kernel)) (by rw[F4];kernel_rfl)
theorem eM:K6 aV "bytes.__lt__" = some Builtin.«bytes.__lt__»:=G1 (by kernel_rfl)
theorem dW(a b:Value):K1 "bytes.__lt__" ⟨[a,b],[]⟩:=by
 unfold K1;rw[signature?_of (id:="bytes.__lt__") (n:=['_','_','t','l','_','_']) (o:=['s','e','t','y','b']) (by kernel_rfl) FB.owner_bytes];kernel_rfl
theorem kS:Slot "bytes" (cmpInfo .Gt).2.1 "bytes.__gt__":=
 .of (owner:="bytes") (n:="__gt__") (by rw[u5,r0];kernel_rfl) (by decide +kernel) (by decide +kernel) (by decide +kernel)
  (by first | exact .inl (by decide +kernel) | exact .inr (by decide +kernel)) (by rw[F4];kernel_rfl)
theorem kj:K6 aV "bytes.__gt__" = some Builtin.«bytes.__gt__»:=G1 (by kernel_rfl)
theorem iZ(a b:Value):K1 "bytes.__gt__" ⟨[a,b],[]⟩:=by
 unfold K1;rw[signature?_of (id:="bytes.__gt__") (n:=['_','_','t','g','_','_']) (o:=['s','e','t','y','b']) (by kernel_rfl) FB.owner_bytes];kernel_rfl
theorem kR:Slot "bytes" (cmpInfo .LtE).2.1 "bytes.__le__":=
 .of (owner:="bytes") (n:="__le__") (by rw[u5,r0];kernel_rfl) (by decide +kernel) (by decide +kernel) (by decide +kernel)
  (by first | exact .inl (by decide +kernel) | exact .inr (by decide +kernel)) (by rw[F4];kernel_rfl)
theorem kh:K6 aV "bytes.__le__" = some Builtin.«bytes.__le__»:=G1 (by kernel_rfl)
theorem iY(a b:Value):K1 "bytes.__le__" ⟨[a,b],[]⟩:=by
 unfold K1;rw[signature?_of (id:="bytes.__le__") (n:=['_','_','e','l','_','_']) (o:=['s','e','t','y','b']) (by kernel_rfl) FB.owner_bytes];kernel_rfl
theorem oB:∀a b:List UInt8,(Bytes.order a b == .lt)=lexLt (a.map λc=>(c.toNat:Int)) (b.map λc=>(c.toNat:Int))
 |[],[] | [],_::_ | _::_,[]=>rfl
 |x::a,y::b=>by
  simp only[Bytes.order,F5,lexLt]
  by_cases h1:x<y
  ·have:(x.toNat:Int)<y.toNat:=by have:=UInt8.lt_iff_toNat_lt.mp h1;exact j1.mpr this
   simp[h1,this]
  ·have n1:¬(x.toNat:Int)<y.toNat:=λq=>h1 (UInt8.lt_iff_toNat_lt.mpr (by lia -abstractProof))
   by_cases h2:x>y
   ·have n2:¬(x.toNat:Int)=y.toNat:=by have:=UInt8.lt_iff_toNat_lt.mp h2;lia -abstractProof
    rw[if_neg h1,if_pos h2,decide_eq_false n1,decide_eq_false n2];rfl
   ·have:x=y:=UInt8.le_antisymm (UInt8.not_lt.mp h2) (UInt8.not_lt.mp h1)
    subst this
    rw[if_neg h1,if_neg h2,oB a b,decide_eq_false n1];simp
theorem jF:∀a b:List UInt8,(Bytes.order a b == .gt)=lexLt (b.map λc=>(c.toNat:Int)) (a.map λc=>(c.toNat:Int))
 |[],[] | [],_::_ | _::_,[]=>rfl
 |x::a,y::b=>by
  simp only[Bytes.order,F5,lexLt]
  by_cases h1:x<y
  ·have n1:¬(y.toNat:Int)<x.toNat:=by have:=UInt8.lt_iff_toNat_lt.mp h1;exact r6.mpr (m5.mpr (A9 this))
   have n2:¬(y.toNat:Int)=x.toNat:=by have:=UInt8.lt_iff_toNat_lt.mp h1;lia -abstractProof
   rw[if_pos h1,decide_eq_false n1,decide_eq_false n2];rfl
  ·by_cases h2:x>y
   ·have n2:(y.toNat:Int)<x.toNat:=by have:=UInt8.lt_iff_toNat_lt.mp h2;exact j1.mpr this
    rw[if_neg h1,if_pos h2,decide_eq_true n2];rfl
   ·have:x=y:=UInt8.le_antisymm (UInt8.not_lt.mp h2) (UInt8.not_lt.mp h1)
    subst this
    have n1:¬(x.toNat:Int)<x.toNat:=by lia -abstractProof
    rw[if_neg h1,if_neg h2,jF a b,decide_eq_false n1];simp
theorem eK(b c:Array UInt8)(t u:Tok):Gives («bytes.__lt__» ⟨[.bytes b t,.bytes c u],[]⟩) (.val (.bool (lexLt (bI b) (bI c)))):=by
 refine .of_wp λM A E s Q hq=>?_
 show n9 M A (X5 (.bytes c u) (.type "bytes")>>=λr=>_) _ E s
 refine i7 (L6 (u2 s c u) F.sub_bytes_bytes ?_)
 exact m6 ⟨_,rfl,by unfold bI at hq;rw[←oB] at hq;exact hq⟩
theorem jY(b c:Array UInt8)(t u:Tok):Gives («bytes.__gt__» ⟨[.bytes b t,.bytes c u],[]⟩) (.val (.bool (lexLt (bI c) (bI b)))):=by
 refine .of_wp λM A E s Q hq=>?_
 show n9 M A (X5 (.bytes c u) (.type "bytes")>>=λr=>_) _ E s
 refine i7 (L6 (u2 s c u) F.sub_bytes_bytes ?_)
 exact m6 ⟨_,rfl,by unfold bI at hq;rw[←jF] at hq;exact hq⟩
theorem jX(b c:Array UInt8)(t u:Tok):Gives («bytes.__le__» ⟨[.bytes b t,.bytes c u],[]⟩) (.val (.bool (!lexLt (bI c) (bI b)))):=by
 refine .of_wp λM A E s Q hq=>?_
 show n9 M A (X5 (.bytes c u) (.type "bytes")>>=λr=>_) _ E s
 refine i7 (L6 (u2 s c u) F.sub_bytes_bytes ?_)
 exact m6 ⟨_,rfl,by unfold bI at hq;rw[←jF] at hq;exact hq⟩
section
variable{prog:Program}{w:World}{A:Around}{E:Value→Shared→Prop}{s:Shared}{b c:Array UInt8}{t u:Tok}
theorem uT{Q:Value→Shared→Prop}(h:Q (.bool (lexLt (bI b) (bI c))) s):n9 (y8 prog w) A (D9 .Lt (.bytes b t) (.bytes c u)) Q E s:=
 compareOp_gives (op:=.Lt) (u2 s b t) (u2 s c u) fA eM (dW _ _) (eK b c t u) (λe=>nomatch e) h
theorem vG{Q:Value→Shared→Prop}(h:Q (.bool (lexLt (bI c) (bI b))) s):n9 (y8 prog w) A (D9 .Gt (.bytes b t) (.bytes c u)) Q E s:=
 compareOp_gives (op:=.Gt) (u2 s b t) (u2 s c u) kS kj (iZ _ _) (jY b c t u) (λe=>nomatch e) h
theorem om{Q:Value→Shared→Prop}(h:Q (.bool (b.toList==c.toList)) s):n9 (y8 prog w) A (cz .Eq (.bytes b t) (.bytes c u)) Q E s:=
 R8 (u2 s b t) (u2 s c u) FB.slot_bytes_eq FB.entry_bytes_eq (FB.args_bytes_eq_2 _ _) (gives_bytes_eq b c t u) (λx=>nomatch x) h
theorem oh{Q:Value→Shared→Prop}(h:Q (.bool (lexLt (bI b) (bI c))) s):n9 (y8 prog w) A (cz .Lt (.bytes b t) (.bytes c u)) Q E s:=
 R8 (u2 s b t) (u2 s c u) fA eM (dW _ _) (eK b c t u) (λx=>nomatch x) h
theorem oj{Q:Value→Shared→Prop}(h:Q (.bool (!lexLt (bI c) (bI b))) s):n9 (y8 prog w) A (cz .LtE (.bytes b t) (.bytes c u)) Q E s:=
 R8 (u2 s b t) (u2 s c u) kR kh (iY _ _) (jX b c t u) (λx=>nomatch x) h
theorem rN{a d:Int}{Q:Value→Shared→Prop}(h:Q (.bool (decide (a<d))) s):n9 (y8 prog w) A (cz .Lt (.int a t) (.int d u)) Q E s:=
 R8 (N8 s a t) (N8 s d u) F.slot_int_lt F.entry_int_lt (F.args_int_lt_2 _ _) (gives_int_lt a d t u) (λx=>nomatch x) h
theorem rO{a d:Int}{Q:Value→Shared→Prop}(h:Q (.bool (decide (a≤d))) s):n9 (y8 prog w) A (cz .LtE (.int a t) (.int d u)) Q E s:=
 R8 (N8 s a t) (N8 s d u) F.slot_int_le F.entry_int_le (F.args_int_le_2 _ _) (gives_int_le a d t u) (λx=>nomatch x) h
theorem iW{Q:Bool→Shared→Prop}(h:Q (b.toList==c.toList) s):n9 (y8 prog w) A (eqBool (.bytes b t) (.bytes c u)) Q E s:=by
 unfold eqBool
 refine V9 ?_
 refine wpAny_ite_split (λhab=>?_) (λ_=>?_)
 ·have e:=eq_of_beq hab
  injection e with e1 e2
  subst e1
  rw[beq_self_eq_true] at h
  exact i7 (P9 (m6 h))
 ·exact i7 (om (wpAny_truthy_bool h))
end
theorem dP{A:Around}{s:Shared}(b c:Array UInt8)(t u:Tok):EqAt A s (.bytes b t) (.bytes c u) (b.toList==c.toList):=λprog w E Q h=>iW h
theorem xx(l k:Addr)(n n2:Nat)(b c:Array UInt8)(t u:Tok)(x y:Int)(t' u':Tok):
  Meets (Builtin.«tuple.__lt__» ⟨[.ref l,.ref k],[]⟩)
   (λA R s=>s.heap.get? l=some { cls:=.type "tuple",data:=.seq #[.bytes b t,.int x t'] n }∧s.heap.get? k=some { cls:=.type "tuple",data:=.seq #[.bytes c u,.int y u'] n2 } ∧
    R (.ok (.ret (.bool (if b.toList==c.toList then decide (x<y) else lexLt (bI b) (bI c))))) s):=
 .of_wp λprog w A R s h=>by
  refine D2 λ_ kk=>?_
  obtain⟨hp,g,d,tk,os⟩:=s;refine eX03 h λhl hb h=>?_
  refine kk ?_
  have f2:=AutoSeq1.sub_tuple_tuple
  wp_walk using wpAny_loadPart' hl,wpAny_loadPart' hb,wpAny_forIn_list _ (λrest r s'=>r.1=none∧s'=⟨hp,g,d,tk,os⟩∧(rest=[(.bytes b t,.bytes c u),(.int x t',.int y u')]∨(rest=[(.int x t',.int y u')]∧(b.toList==c.toList)=true)∨(rest=[]∧(b.toList==c.toList)=true∧(x==y)=true))) _
  case turn=>
   rintro⟨v,u⟩ rest r s' ⟨hr,rfl,q⟩
   rcases q with q | ⟨q,q1⟩ | ⟨q,_⟩
   ·cases q
    refine i7 (dP _ _ _ _ prog w _ _ ?_)
    cases hy:b.toList==c.toList with
    |true=>
     wp_walk
     exact⟨rfl,rfl,.inr (.inl ⟨rfl,rfl⟩)⟩
    |false=>
     rw[hy] at h
     wp_walk using oh
     exact⟨_,rfl,h⟩
   ·cases q
    refine i7 (EqAt.int_int _ _ _ _ prog w _ _ ?_)
    rw[q1] at h
    cases hy:x==y with
    |true=>
     wp_walk
     exact⟨rfl,rfl,.inr (.inr ⟨rfl,q1,rfl⟩)⟩
    |false=>
     wp_walk using rN
     exact⟨_,rfl,h⟩
   ·cases q
  case fin=>
   rintro⟨b1,b2⟩ s' ⟨hb',rfl,q⟩
   simp only at hb'
   subst hb'
   rcases q with q | ⟨q,q1⟩ | ⟨_,q1,q2⟩
   ·cases q
   ·cases q
   rw[q1] at h
   have:¬x<y:=by rw[beq_iff_eq] at q2;exact r6.mpr (l7 q2.symm)
   rw[decide_eq_false this] at h
   wp_walk
   exact⟨_,rfl,h⟩
  case h=>
   exact⟨rfl,rfl,.inl rfl⟩
theorem xy(l k:Addr)(n n2:Nat)(b c:Array UInt8)(t u:Tok)(x y:Int)(t' u':Tok):
  Meets (Builtin.«tuple.__le__» ⟨[.ref l,.ref k],[]⟩)
   (λA R s=>s.heap.get? l=some { cls:=.type "tuple",data:=.seq #[.bytes b t,.int x t'] n }∧s.heap.get? k=some { cls:=.type "tuple",data:=.seq #[.bytes c u,.int y u'] n2 } ∧
    R (.ok (.ret (.bool (if b.toList==c.toList then decide (x≤y) else !lexLt (bI c) (bI b))))) s):=
 .of_wp λprog w A R s h=>by
  refine D2 λ_ kk=>?_
  obtain⟨hp,g,d,tk,os⟩:=s;refine eX03 h λhl hb h=>?_
  refine kk ?_
  have f2:=AutoSeq1.sub_tuple_tuple
  wp_walk using wpAny_loadPart' hl,wpAny_loadPart' hb,wpAny_forIn_list _ (λrest r s'=>r.1=none∧s'=⟨hp,g,d,tk,os⟩∧(rest=[(.bytes b t,.bytes c u),(.int x t',.int y u')]∨(rest=[(.int x t',.int y u')]∧(b.toList==c.toList)=true)∨(rest=[]∧(b.toList==c.toList)=true∧(x==y)=true))) _
  case turn=>
   rintro⟨v,u⟩ rest r s' ⟨hr,rfl,q⟩
   rcases q with q | ⟨q,q1⟩ | ⟨q,_⟩
   ·cases q
    refine i7 (dP _ _ _ _ prog w _ _ ?_)
    cases hy:b.toList==c.toList with
    |true=>
     wp_walk
     exact⟨rfl,rfl,.inr (.inl ⟨rfl,rfl⟩)⟩
    |false=>
     rw[hy] at h
     wp_walk using oj
     exact⟨_,rfl,h⟩
   ·cases q
    refine i7 (EqAt.int_int _ _ _ _ prog w _ _ ?_)
    rw[q1] at h
    cases hy:x==y with
    |true=>
     wp_walk
     exact⟨rfl,rfl,.inr (.inr ⟨rfl,q1,rfl⟩)⟩
    |false=>
     wp_walk using rO
     exact⟨_,rfl,h⟩
   ·cases q
  case fin=>
   rintro⟨b1,b2⟩ s' ⟨hb',rfl,q⟩
   simp only at hb'
   subst hb'
   rcases q with q | ⟨q,q1⟩ | ⟨_,q1,q2⟩
   ·cases q
   ·cases q
   rw[q1] at h
   have:x≤y:=by rw[beq_iff_eq] at q2;exact l7 q2
   rw[decide_eq_true this] at h
   wp_walk
   exact⟨_,rfl,h⟩
  case h=>
   exact⟨rfl,rfl,.inl rfl⟩
theorem yk{prog:Program}{w:World}{A:Around}{E:Value→Shared→Prop}{s:Shared}{Q:Value→Shared→Prop}{l k:Addr}{n n2:Nat}{b c:Array UInt8}{t u:Tok}{x y:Int}{t' u':Tok}(hu:A.units<cLine)
  (hl:s.heap.get? l=some { cls:=.type "tuple",data:=.seq #[.bytes b t,.int x t'] n }) (hk:s.heap.get? k=some { cls:=.type "tuple",data:=.seq #[.bytes c u,.int y u'] n2 })
  (h:Q (.bool (if b.toList==c.toList then decide (x<y) else lexLt (bI b) (bI c))) s):n9 (y8 prog w) A (D9 .Lt (.ref l) (.ref k)) Q E s:=
 richCompare_meets_room (op:=.Lt) ⟨_,hl,rfl⟩ ⟨_,hk,rfl⟩ F.slot_tuple_lt F.entry_tuple_lt (F.args_tuple_lt_2 _ _) (xx l k n n2 b c t u x y t' u') ⟨hl,hk,nofun,h⟩ hu
theorem yq{prog:Program}{w:World}{A:Around}{E:Value→Shared→Prop}{s:Shared}{Q:Value→Shared→Prop}{l k:Addr}{n n2:Nat}{b c:Array UInt8}{t u:Tok}{x y:Int}{t' u':Tok}(hu:A.units<cLine)
  (hl:s.heap.get? l=some { cls:=.type "tuple",data:=.seq #[.bytes b t,.int x t'] n }) (hk:s.heap.get? k=some { cls:=.type "tuple",data:=.seq #[.bytes c u,.int y u'] n2 })
  (h:Q (.bool (if b.toList==c.toList then decide (x≤y) else !lexLt (bI c) (bI b))) s):n9 (y8 prog w) A (D9 .LtE (.ref l) (.ref k)) Q E s:=
 richCompare_meets_room (op:=.LtE) ⟨_,hl,rfl⟩ ⟨_,hk,rfl⟩ F.slot_tuple_le F.entry_tuple_le (F.args_tuple_le_2 _ _) (xy l k n n2 b c t u x y t' u') ⟨hl,hk,nofun,h⟩ hu
theorem BQ{b c:Array UInt8}(e:bI b=bI c):b=c:=by
 unfold bI at e
 have:b.toList=c.toList:=List.map_inj_right (f:=λc:UInt8=>(c.toNat:Int)) (λx y h=>UInt8.toNat_inj.mp (Int.ofNat.inj h)) |>.mp e
 exact Array.toList_inj.mp this
theorem iI(b c:Array UInt8):decide (bI b=bI c)=(b.toList==c.toList):=by
 rw[Bool.eq_iff_iff,decide_eq_true_eq,beq_iff_eq]
 exact⟨λe=>by rw[BQ e],λe=>by unfold bI;rw[e]⟩
section
variable{P:Prg}{r:Nat}{C:Cx}{ρ:Loc}{g:Sg}{K:KE}{X:XE}{E:Value→Shared→Prop}{s:Shared}{v u:Value}{av bv:AV}{V:Vw}
theorem lQ(x:VR P V av v):(v == .none)=isNone av:=by
 cases x<;>first | rfl | exact beq_eq_false_iff_ne.mpr nofun
theorem jk(x:VR P V av v)(h:isNone av=true):v = .none:=by cases x<;>first | rfl | exact absurd h e9
theorem tz{A:Around}{b1 b2 b3 b4:Array UInt8}{t1 t2 t3 t4:Tok}{x x':Addr}(un:A.units<cLine)(hx:s.heap.get? x=some { cls:=.type "tuple",data:=.seq [Value.bytes b1 t1,Value.bytes b2 t2].toArray })(hx':s.heap.get? x'=some { cls:=.type "tuple",data:=.seq [Value.bytes b3 t3,Value.bytes b4 t4].toArray }):
  RcAt A s (.ref x) (.ref x') (decide (bI b1=bI b3)&&decide (bI b2=bI b4))∧RcNeAt A s (.ref x) (.ref x') (!(decide (bI b1=bI b3)&&decide (bI b2=bI b4))):=by
 rw[iI,iI]
 have E1:∀j (h1:j < #[Value.bytes b1 t1,Value.bytes b2 t2].size) (h2:j < #[Value.bytes b3 t3,Value.bytes b4 t4].size),EqAt A.in1 s #[Value.bytes b1 t1,Value.bytes b2 t2][j] #[Value.bytes b3 t3,Value.bytes b4 t4][j] (if j=0 then b1.toList==b3.toList else b2.toList==b4.toList):=λj h1 h2=>by
  cases j with
  |zero=>exact dP _ _ _ _
  |succ j=>cases j with
   |zero=>exact dP _ _ _ _
   |succ j=>exact absurd h1 (I8.mpr (x9 2 j))
 have R1:=RcAt.tuples (A:=A) (s:=s) (l:=x) (b:=x') (e:=λj=>if j=0 then b1.toList==b3.toList else b2.toList==b4.toList) ⟨_,hx,rfl,_,rfl⟩ ⟨_,hx',rfl,_,rfl⟩ un E1
 have R2:=RcNeAt.tuples (A:=A) (s:=s) (l:=x) (b:=x') (e:=λj=>if j=0 then b1.toList==b3.toList else b2.toList==b4.toList) ⟨_,hx,rfl,_,rfl⟩ ⟨_,hx',rfl,_,rfl⟩ un E1
 have e:((O3 (min [Value.bytes b1 t1,Value.bytes b2 t2].toArray.size [Value.bytes b3 t3,Value.bytes b4 t4].toArray.size)).all (λj=>if j=0 then b1.toList==b3.toList else b2.toList==b4.toList)&&[Value.bytes b1 t1,Value.bytes b2 t2].toArray.size==[Value.bytes b3 t3,Value.bytes b4 t4].toArray.size)=((b1.toList==b3.toList)&&(b2.toList==b4.toList)):=by
  simp[dY]
 rw[e] at R1 R2
 exact⟨R1,R2⟩
theorem VRs.one{M:List Value→Prop}{a:AV}{vs:List Value}(x:VRs P V [a] vs)(k:∀v,VR P V a v→M [v]):M vs:=by
 cases x with | cons p q=>cases q;exact k _ p
theorem VRs.two{M:List Value→Prop}{a b:AV}{vs:List Value}(x:VRs P V [a,b] vs)(k:∀v w,VR P V a v→VR P V b w→M [v,w]):M vs:=by
 cases x with | cons p q=>exact q.one (M:=λvs=>M (_::vs)) λw q=>k _ w p q
noncomputable def pS(o:Nat):CmpOp:=match o with
 |0=>.Eq | 1=>.NotEq | 2=>.Lt | 3=>.LtE | 4=>.Gt | 5=>.GtE | 6=>.Is | _=>.IsNot
theorem CW{o:Nat}{p:CmpOp}(c:wk o p=true):p=pS o:=by
 cases p<;>first | exact absurd c e9 | (cases W5 c;rfl)
section
variable{o:Nat}{J:AV→Prop}{M:Nat→Prop}
theorem qj{b:Bool}(h:yL o b J)(k0:J (.bool b)→M 0)(k1:J (.bool (!b))→M 1):M o:=by
 cases o with
 |zero=>exact k0 h
 |succ o=>cases o with
  |zero=>exact k1 h
  |succ o=>exact h.elim
theorem yW{a b:List Int}{x y:Int}(h:wj o a b x y J)(k2:J (.bool (ak a b x y))→M 2)(k3:J (.bool (eA a b x y))→M 3):M o:=by
 cases o with
 |zero=>exact h.elim
 |succ o=>cases o with
  |zero=>exact h.elim
  |succ o=>cases o with
   |zero=>exact k2 h
   |succ o=>cases o with
    |zero=>exact k3 h
    |succ o=>exact h.elim
theorem yZ{a b:List Int}(h:za o a b J)(k0:J (.bool (decide (a=b)))→M 0)(k1:J (.bool (decide (a≠b)))→M 1)(k2:J (.bool (lexLt a b))→M 2)(k4:J (.bool (lexLt b a))→M 4):M o:=by
 cases o with
 |zero=>exact k0 h
 |succ o=>cases o with
  |zero=>exact k1 h
  |succ o=>cases o with
   |zero=>exact k2 h
   |succ o=>cases o with
    |zero=>exact h.elim
    |succ o=>cases o with
     |zero=>exact k4 h
     |succ o=>exact h.elim
theorem yX{a b:Int}(h:yY o a b J)(k0:J (.bool (decide (a=b)))→M 0)(k1:J (.bool (decide (a≠b)))→M 1)(k2:J (.bool (decide (a<b)))→M 2)(k3:J (.bool (decide (a≤b)))→M 3)(k4:J (.bool (decide (b<a)))→M 4)(k5:J (.bool (decide (b≤a)))→M 5):M o:=by
 cases o with
 |zero=>exact k0 h
 |succ o=>cases o with
  |zero=>exact k1 h
  |succ o=>cases o with
   |zero=>exact k2 h
   |succ o=>cases o with
    |zero=>exact k3 h
    |succ o=>cases o with
     |zero=>exact k4 h
     |succ o=>cases o with
      |zero=>exact k5 h
      |succ o=>exact h.elim
theorem yT{a b:AV}(h:BH o a b J)(k6:nP (isNone b=true) (J (.bool (isNone a)))→M 6)(k7:nP (isNone b=true) (J (.bool (!isNone a)))→M 7)(k:cmp o a b J→M o):M o:=by
 cases o with
 |zero=>exact k h
 |succ o=>cases o with
  |zero=>exact k h
  |succ o=>cases o with
   |zero=>exact k h
   |succ o=>cases o with
    |zero=>exact k h
    |succ o=>cases o with
     |zero=>exact k h
     |succ o=>cases o with
      |zero=>exact k h
      |succ o=>cases o with
       |zero=>exact k6 h
       |succ o=>cases o with
        |zero=>exact k7 h
        |succ o=>exact k h
end
theorem BG{o:Nat}{a b:AV}{J M:AV→Prop}(h:cmp o a b J)(ki:∀i,G2 b (λb=>yY o i b J)→M (.int i))(kb:∀i,onBytes b (λb=>za o i b J)→M (.bytes i))(kc:∀x,cmp o (.bool x) b J→M (.bool x))(kn:nP (isNone b=true) (yL o true J)→M .none)(kt:∀l,ae b (λb=>wi o l b J)→M (.tup l)):M a:=by
 cases a<;>first | exact h.elim | exact ki _ h | exact kb _ h | exact kc _ h | exact kn h | exact kt _ h
@[elab_as_elim] theorem VR.bool_el{o:Nat}{x:Bool}{J:AV→Prop}{M:Value→Prop}(y:VR P V av v)(h:cmp o (.bool x) av J)(k:∀b,yL o (x==b) J→M (.bool b)):M v:=by
 cases y<;>first | exact h.elim | exact k _ h
theorem sN{l:List AV}{J:List Int→AV→Prop}{M:List AV→Prop} (h:match l with
  |[.bytes b,y]=>J b y
  |_=>False) (k:∀b y,J b y→M [.bytes b,y]):M l:=by
 cases l with
 |nil=>exact h.elim
 |cons a l=>cases l with
  |nil=>cases a<;>exact h.elim
  |cons y l=>cases l with
   |nil=>cases a<;>first | exact h.elim | exact k _ _ h
   |cons z l=>cases a<;>exact h.elim
noncomputable def wh(o:Nat)(a b:List Int)(x y:AV)(J:AV→Prop):Prop:=match x with
 |.bytes x=>onBytes y λy=>yL o (decide (a=b)&&decide (x=y)) J
 |.int x=>G2 y λy=>wj o a b x y J
 |_=>False
theorem yU{o:Nat}{a b:List Int}{x y:AV}{J:AV→Prop}{M:AV→Prop}(h:wh o a b x y J)(kb:∀x,onBytes y (λy=>yL o (decide (a=b)&&decide (x=y)) J)→M (.bytes x))(ki:∀x,G2 y (λy=>wj o a b x y J)→M (.int x)):M x:=by
 cases x<;>first | exact h.elim | exact ki _ h | exact kb _ h
theorem yV{o:Nat}{l l':List AV}{J:AV→Prop}{M:List AV→List AV→Prop}(h:wi o l l' J)(k:∀a x b y,wh o a b x y J→M [.bytes a,x] [.bytes b,y]):M l l':=by
 cases l with
 |nil=>exact h.elim
 |cons a l=>cases l with
  |nil=>cases a<;>exact h.elim
  |cons y l=>cases l with
   |nil=>cases a with
    |bytes a=>exact sN (J:=λb z=>wh o a b y z J) (M:=M [.bytes a,y]) h λb z h=>k a y b z h
    |_=>exact h.elim
   |cons z l=>cases a<;>exact h.elim
theorem VR.bool_inv{x:Bool}(y:VR P V (.bool x) v):v = .bool x:=by cases y;rfl
@[elab_as_elim] theorem VRs.by_el{a:List Int}{x:AV}{vs:List Value}{M:List Int→List Value→Prop}(y:VRs P V [.bytes a,x] vs)(k:∀b t w,VR P V x w→M (bI b) [.bytes b t,w]):M a vs:=
 y.two (M:=M a) λ_ w p q=>p.bytes_el (F:=λa'=>a'=a) (M:=λv=>M a [v,w]) rfl λb t _ e=>e▸k b t w q
theorem yR(T:St P r C ρ g){o:Nat}{l l':List AV}{vs vs':List Value}{x x':Addr}(hx:g.s.heap.get? x=some { cls:=.type "tuple",data:=.seq vs.toArray })(hx':g.s.heap.get? x'=some { cls:=.type "tuple",data:=.seq vs'.toArray })
  (hv:VRs P g.v l vs) (hv':VRs P g.v l' vs') (h:wi o l l' λv=>K v g.H):n9 (I5 P C) C.A (D9 (pS o) (.ref x) (.ref x')) (J4 P C.base g K) E g.s:=by
 have un:C.A.units<cLine:=g9 (b6 (u3 _ _) T.rm.un) (by decide)
 refine yV (M:=λl l'=>VRs P g.v l vs→VRs P g.v l' vs'→n9 (I5 P C) C.A (D9 (pS o) (.ref x) (.ref x')) (J4 P C.base g K) E g.s) h (λa y b y' h hv hv'=>?_) hv hv'
 refine VRs.by_el (M:=λa vs=>wh o a b y y' (λv=>K v g.H)→g.s.heap.get? x=some { cls:=.type "tuple",data:=.seq vs.toArray }→n9 (I5 P C) C.A (D9 (pS o) (.ref x) (.ref x')) (J4 P C.base g K) E g.s) hv (λb1 t1 v p h hx=>?_) h hx
 refine VRs.by_el (M:=λb vs=>wh o (bI b1) b y y' (λv=>K v g.H)→g.s.heap.get? x'=some { cls:=.type "tuple",data:=.seq vs.toArray }→n9 (I5 P C) C.A (D9 (pS o) (.ref x) (.ref x')) (J4 P C.base g K) E g.s) hv' (λb3 t3 v' p' h hx'=>?_) h hx'
 refine yU (M:=λy=>VR P g.v y v→n9 (I5 P C) C.A (D9 (pS o) (.ref x) (.ref x')) (J4 P C.base g K) E g.s) h (λz h p=>?_) (λz h p=>?_) p
 ·revert hx hx'
  refine p.bytes_el (F:=λz=>onBytes y' λy=>yL o (decide (bI b1=bI b3)&&decide (z=y)) λv=>K v g.H) h λb2 t2 _ h hx=>p'.bytes_el h λb4 t4 _ h hx'=>?_
  exact qj (M:=λo=>n9 (I5 P C) C.A (D9 (pS o) (.ref x) (.ref x')) (J4 P C.base g K) E g.s) h (λh=>(tz un hx hx').1 _ C.w _ _ (T.v0 (.bool _) h)) (λh=>(tz un hx hx').2 _ C.w _ _ (T.v0 (.bool _) h))
 ·revert hx hx'
  refine p.int_el (F:=λz=>G2 y' λy=>wj o (bI b1) (bI b3) z y λv=>K v g.H) h λi2 t2 h hx=>p'.int_el h λi4 t4 h hx'=>?_
  exact yW (M:=λo=>n9 (I5 P C) C.A (D9 (pS o) (.ref x) (.ref x')) (J4 P C.base g K) E g.s) h (λh=>yk un hx hx' (T.v0 (.bool _) (by rw[←iI];exact h))) (λh=>yq un hx hx' (T.v0 (.bool _) (by rw[←iI];exact h)))
theorem yS(T:St P r C ρ g){o:Nat}(va:VR P g.v av v)(vb:VR P g.v bv u)(h:cmp o av bv λv=>K v g.H):n9 (I5 P C) C.A (D9 (pS o) v u) (J4 P C.base g K) E g.s:=by
 have B:∀{x:Bool},K (.bool x) g.H→J4 P C.base g K (.bool x) g.s:=λk=>T.v0 (.bool _) k
 refine BG (M:=λa=>VR P g.v a v→n9 (I5 P C) C.A (D9 (pS o) v u) (J4 P C.base g K) E g.s) h (λi h va=>?_) (λl h va=>?_) (λx h va=>?_) (λh va=>?_) (λl h va=>?_) va
 ·refine va.int_el (F:=λi=>G2 bv λb=>yY o i b λv=>K v g.H) h λi t h=>vb.int_el h λj u h=>?_
  exact yX (M:=λo=>n9 (I5 P C) C.A (D9 (pS o) (.int i t) (.int j u)) (J4 P C.base g K) E g.s) h (λh=>PySem.P.eq_int (B h)) (λh=>PySem.P.ne_int (B (by have h:K (.bool (decide (¬i=j))) g.H:=h;rw[decide_not] at h;exact h))) (λh=>PySem.P.lt_int (B h)) (λh=>PySem.P.le_int (B h)) (λh=>PySem.P.gt_int (B h)) (λh=>PySem.P.ge_int (B h))
 ·refine va.bytes_el (F:=λi=>onBytes bv λb=>za o i b λv=>K v g.H) h λx t z h=>vb.bytes_el h λy u z' h=>?_
  exact yZ (M:=λo=>n9 (I5 P C) C.A (D9 (pS o) (.bytes x t) (.bytes y u)) (J4 P C.base g K) E g.s) h (λh=>eq_bytes (by rw[←iI];exact B h)) (λh=>ne_bytes (by have h:K (.bool (decide (¬bI x=bI y))) g.H:=h;rw[decide_not,iI] at h;exact B h)) (λh=>uT (B h)) (λh=>vG (B h))
 ·obtain rfl:v = .bool x:=va.bool_inv
  refine vb.bool_el h λb h=>?_
  exact qj (M:=λo=>n9 (I5 P C) C.A (D9 (pS o) (.bool x) (.bool b)) (J4 P C.base g K) E g.s) h (λh=>eq_bool (B h)) (λh=>ne_bool (B h))
 ·obtain rfl:=jk vb h.h
  obtain rfl:=jk va rfl
  exact qj (M:=λo=>n9 (I5 P C) C.A (D9 (pS o) .none .none) (J4 P C.base g K) E g.s) h.f (λh=>EqNone.eq_none_none (B h)) (λh=>EqNone.ne_none_none (B h))
 ·exact va.tup_el (F:=λl=>ae bv λb=>wi o l b λv=>K v g.H) h λl vs x _ hx hv h=>vb.tup_el h λl' vs' x' _ hx' hv' h=>yR T hx hx' hv hv' h
theorem wg(T:St P r C ρ g){o:Nat}{p:CmpOp}(c:wk o p=true)(va:VR P g.v av v)(vb:VR P g.v bv u)(h:BH o av bv λv=>K v g.H):
  n9 (I5 P C) C.A (D9 p v u) (J4 P C.base g K) E g.s:=by
 obtain rfl:=CW c
 refine yT (M:=λo=>n9 (I5 P C) C.A (D9 (pS o) v u) (J4 P C.base g K) E g.s) h (λh=>?_) (λh=>?_) (yS T va vb)
 ·obtain rfl:=jk vb h.h
  exact is_none (by rw[lQ va];exact T.v0 (.bool _) h.f)
 ·obtain rfl:=jk vb h.h
  exact isNot_none (by rw[lQ va];exact T.v0 (.bool _) h.f)
end
end Mine.Z
end
namespace Mine.Z
open PySem.SeqAt
section
variable{P:Prg}{r:Nat}{C:Cx}{ρ:Loc}{g:Sg}{K:KE}{X:XE}{E:Value→Shared→Prop}{s:Shared}{v u:Value}{av bv:AV}{V:Vw}
theorem oM{op:CmpOp}{y:PE}(c:lP y=false):behindInMarks op y=false:=by
 cases y<;>first | rfl | cases c
theorem je{env:Env}{e:PE}{rest:List PE}(c:dH e=false):E0 (e::rest) env=(false,eval e env)::E0 rest env:=by
 cases e<;>first | rfl | cases c
theorem fP{env:Env}{es:List PE}{pos:Pos}(c:∀e∈es,dH e=false):(T6 pos (E0 es env)).any (·.1)=false:=pK λe he r'=>je (c e he)
theorem Tr.of{F:AV→Hp→Bool→Prop}:Tr (λv H=>Z3 v (F v H)):=λv H h e=>by
 have h:V5 (bQ v) _:=h
 rw[e] at h;exact h
theorem fy{v:AV}{b:Bool}{F:Bool→Prop}(e:bQ v=some b)(h:Z3 v F):F b:=by
 have h:V5 (bQ v) _:=h
 rw[e] at h;exact h
theorem AH{x:List Stmt}(h:x=[]):MSS P r .nil C x:=by
 subst h
 exact⟨λtp T h=>s8 (.mk (f:=.next) _ _ .refl T h)⟩
theorem Eb:Al P r .nil:=λC z c=>by
 cases z with
 |es l=>exact K9 (M:=ML P r .nil C) c ⟨nofun,λT h=>zY (.mk _ .refl T.rm.rr (.mk .nil rfl h))⟩
 |ss l=>exact K9 (M:=MSS P r .nil C) c (AH rfl)
 |_=>exact absurd c e9
theorem yf{a b:T}{x:PE}{l:List PE}(c:dH x=false)(ia:ME P r a C x)(ib:ML P r b C l):ML P r (.cons a b) C (x::l):=by
 refine⟨λe m=>(l5.mp m).elim (λq=>q▸c) (ib.st e),λT h=>?_⟩
 refine qb (cJ (Ok.start T) (ia.se T h) λg1 av v z1 o1 vr q=>sU o1 (ib.se o1.T q) λg2 avs vs z2 o2 vr' n q'=>?_) (je c)
 exact .mk g2 o2.y o2.T.rm.rr (.mk (.cons (vr.kp z2.kp) vr') (by rw[m9,n];rfl) q')
theorem uL{a b:T}{x:Stmt}{l:List Stmt}(ia:MS P r a C x)(ib:MSS P r b C l):MSS P r (.cons a b) C (x::l):=by
 refine⟨λtp T h=>?_⟩
 rw[Z1]
 refine D6 (ia.h tp T h) λf s1 q=>?_
 cases q with | mk g1 ρ1 y1 T1 q=>
 cases f with
 |next=>
  refine K3 (ib.h tp T1 q) (λf s z=>?_) λe s z=>?_
  ·cases z with | mk g2 ρ2 y2 T2 q2=>exact .mk g2 ρ2 (y1.trans y2) T2 q2
  ·cases z with | mk g2 ρ2 y2 T2 x q2=>exact .mk g2 ρ2 (y1.trans y2) T2 (x.pre y1.nn) q2
 |ret v=>exact s8 (.mk g1 ρ1 y1 T1 q)
 |_=>exact q.elim
theorem BZ{a b:T}(ia:Al P r a)(ib:Al P r b):Al P r (.cons a b):=λC z c=>by
 cases z with
 |es l=>exact L7 (M:=ML P r (.cons a b) C) c λx l c=>s7 c λc1 c=>s7 c λc2 c3=>yf (iQ c1) (ia C (.e x) c2) (ib C (.es l) c3)
 |ss l=>exact L7 (M:=MSS P r (.cons a b) C) c λx l c=>s7 c λc1 c2=>uL (ia C (.s x) c1) (ib C (.ss l) c2)
 |_=>exact absurd c e9
theorem my{c:Value}{vs:Array Value}{n:Nat}:∀ws,({ cls:=c,data:=.seq vs n }:Obj).data≠.fields ws:=λ_ q=>nomatch q
theorem sO{a b:Nat}(c:Nat.ble a b=true):a≤b:=F3 c
theorem gH{n:Nat}(h:n≤1000):n≤Q7∧n≤K8:=⟨b6 h (by rw[F0];decide),b6 h (by decide)⟩
theorem DU{es:T}(i:Al P r es):Al P r (.tup es):=λC z c=>I7 c λe c=>lZ c λl k pos c=>s7 c λc1 c2=>
 ME.of (λT h=>xZ (sU (Ok.start T) ((i C (.es l) c2).se T h) λg1 avs vs z1 o1 vr n q=>⟨by rw[n];exact(gH (sO c1)).1,
  (o1.T.rm.rr.valS (Grow.push _) M4 (Heap.get?_push_size _ rfl) my (λkp=>.tup _ _ _ (.inr rfl) (Heap.get?_push_size _ rfl) (vr.kp kp)) q).pre o1.y⟩)) rfl
theorem Ed{es:T}(i:Al P r es):Al P r (.lst es):=λC z c=>I7 c λe c=>qG c λl pos c=>s7 c λc1 c2=>
 ME.of (λT h=>uK (sU (Ok.start T) ((i C (.es l) c2).se T h) λg1 avs vs z1 o1 vr n q=>⟨by rw[n];exact(gH (sO c1)).1,
  (o1.T.rm.rr.valS (Grow.push _) M4 (Heap.get?_push_size _ rfl) my (λkp=>.fl _ _ _ 0 (.inr rfl) (Heap.get?_push_size _ rfl) (vr.kp kp) (by rw[vr.len,n];exact(gH (sO c1)).2)) q).pre o1.y⟩)) rfl
theorem BW{es:T}(i:Al P r es):Al P r (.mlst es):=λC z c=>I7 c λe c=>qG c λl pos c=>s7 c λc1 c2=>
 ME.of (λT h=>uK (sU (Ok.start T) ((i C (.es l) c2).se T h) λg1 avs vs z1 o1 vr n q=>⟨by rw[n];exact(gH (sO c1)).1,by
  obtain⟨q⟩:=q
  exact(o1.T.rm.rr.valC (c:=.list avs) (Grow.push _) M4 (Heap.get?_push_size _ rfl) (λkp=>⟨_,0,Heap.get?_push_size _ rfl,by simpa using vr.kp kp,by rw[vr.len,n];exact(gH (sO c1)).2⟩) q).pre o1.y⟩)) rfl
theorem bT{v:AV}{F:Bool→Prop}{G:Prop}(h:Z3 v F)(k:∀b,bQ v=some b→F b→G):G:=by
 have h:V5 (bQ v) F:=h
 cases e:bQ v with
 |none=>rw[e] at h;exact h.elim
 |some b=>rw[e] at h;exact k b e h
theorem Ea{a:T}(ia:Al P r a):Al P r (.not_ a):=λC z c=>I7 c λe c=>sX c λo x pos c=>s7 c λc1 c2=>by
 cases o with
 |Not=>
  refine⟨λT h=>lD (cJ (Ok.start T) ((ia C (.e x) c2).se T h) λg1 av v z1 o1 vr q=>bT q λb e q=>Dc (bP vr e (o1.v0 (.bool _) q))),λT hK h=>?_⟩
  exact xN (sV (Ok.start T) ((ia C (.e x) c2).sb T Tr.of h) λg1 av b z1 o1 e q=>o1.b0 (av:=.bool (!b)) rfl (fy e q))
 |_=>exact absurd c1 e9
theorem Ec{a:T}(ia:Al P r a):Al P r (.neg a):=λC z c=>I7 c λe c=>sX c λo x pos c=>s7 c λc1 c2=>by
 cases o with
 |USub=>exact ME.of (λT h=>lD (cJ (Ok.start T) ((ia C (.e x) c2).se T h) λg1 av v z1 o1 vr q=>vr.int_el q λi t q=>v9 (PySem.P.neg_int (o1.val .toks (.int _ _) q)))) rfl
 |_=>exact absurd c1 e9
theorem Ek{o:Nat}{a b:T}(ia:Al P r a)(ib:Al P r b):Al P r (.cmp o a b):=λC z c=>I7 c λe c=>wY c λx ps ys pos c=>
 ao (M:=λps=>ME P r (.cmp o a b) C (.Compare x ps ys pos)) c λp c=>ao (M:=λys=>ME P r (.cmp o a b) C (.Compare x [p] ys pos)) c λy c=>s7 c λc1 c=>s7 c λc0 c=>s7 c λc2 c3=>by
  refine⟨λT h=>?_,λT hK h=>?_⟩
  ·exact Dd (cJ (Ok.start T) ((ia C (.e x) c2).se T h) λg1 av v z1 o1 vr q=>cJ o1 ((ib C (.e y) c3).se o1.T q) λg2 bv u z2 o2 vr' q'=>fin o2 (v9 (wg o2.T c1 (vr.kp z2.kp) vr' q'))) (oM (iQ c0))
  ·refine xO (cJ (Ok.start T) ((ia C (.e x) c2).se T h) λg1 av v z1 o1 vr q=>cJ o1 ((ib C (.e y) c3).se o1.T q) λg2 bv u z2 o2 vr' q'=>cJ o2 (v9 (wg o2.T c1 (vr.kp z2.kp) vr' q')) λg3 cv w z3 o3 vr3 q3=>?_) (oM (iQ c0))
   cases e:bQ cv with
   |none=>exact absurd e (hK _ _ q3)
   |some b=>exact bP vr3 e (o3.b0 e q3)
theorem Ef{c a b:T}(ic:Al P r c)(ia:Al P r a)(ib:Al P r b):Al P r (.ite_ c a b):=λC z k=>I7 k λe k=>Aq k λx y z pos k=>s7 k λc1 k=>s7 k λc2 c3=>by
 refine⟨λT h=>yc (sV (Ok.start T) ((ic C (.e x) c1).sb T Tr.of h) λg1 av b z1 o1 e q=>?_),λT hK h=>Be (sV (Ok.start T) ((ic C (.e x) c1).sb T Tr.of h) λg1 av b z1 o1 e q=>?_)⟩
 ·have q:=fy e q
  cases b with
  |true=>exact fin o1 ((ia C (.e y) c2).se o1.T (q.t rfl))
  |false=>exact fin o1 ((ib C (.e z) c3).se o1.T (q.f rfl))
 ·have q:=fy e q
  cases b with
  |true=>exact fin o1 ((ia C (.e y) c2).sb o1.T hK (q.t rfl))
  |false=>exact fin o1 ((ib C (.e z) c3).sb o1.T hK (q.f rfl))
theorem pD{a b:T}{o:BoolOp}{l:List PE}{M:List PE→Prop}(ia:Al P r a)(ib:Al P r b)
  (c:E3 l (λx l=>ck P C.vt a C.env.scope.names (.e x)&&E3 l λy l=>match N2 l with
   |true=>ck P C.vt b C.env.scope.names (.e y)
   |false=>ck P C.vt b C.env.scope.names (.b o (y::l)))=true)
  (k1:∀x y,ME P r a C x→ME P r b C y→M [x,y]) (k2:∀x y z l,ME P r a C x→MB P r b C o (y::z::l)→M (x::y::z::l)):M l:=
 L7 c λx l c=>s7 c λc1 c=>L7 (M:=λl=>M (x::l)) c λy l c=>by
  cases l with
  |nil=>exact k1 x y (ia C (.e x) c1) (ib C (.e y) c)
  |cons z l=>exact k2 x y z l (ia C (.e x) c1) (ib C (.b o (y::z::l)) c)
theorem Am{a b:T}{l:List PE}(ia:Al P r a)(ib:Al P r b) (c:E3 l (λx l=>ck P C.vt a C.env.scope.names (.e x)&&E3 l λy l=>match N2 l with
   |true=>ck P C.vt b C.env.scope.names (.e y)
   |false=>ck P C.vt b C.env.scope.names (.b .And (y::l)))=true):MB P r (.and_ a b) C .And l:=by
 refine pD (M:=MB P r (.and_ a b) C .And) ia ib c (λx y ia ib=>⟨λT h=>lF (cJ (Ok.start T) (ia.se T h) λg1 av v z1 o1 vr q=>bT q λt e q=>bP vr e ?_),λT hK h=>?_⟩)
  λx y z l ia ib=>⟨λT h=>lF (cJ (Ok.start T) (ia.se T h) λg1 av v z1 o1 vr q=>bT q λt e q=>bP vr e ?_),λT hK h=>?_⟩
 ·cases t with
  |false=>exact o1.v0 vr (q.f rfl)
  |true=>exact lE (fin o1 (ib.se o1.T (q.t rfl)))
 ·refine jM (sV (Ok.start T) (ia.sb T Tr.of h) λg1 av b z1 o1 e q=>?_)
  have q:=fy e q
  cases b with
  |false=>exact o1.b0 e (q.f rfl)
  |true=>exact jM (sV o1 (ib.sb o1.T hK (q.t rfl)) λg2 av b z2 o2 e q=>by
    cases b with
    |false=>exact o2.b0 e q
    |true=>exact sj (o2.b0 e q))
 ·cases t with
  |false=>exact o1.v0 vr (q.f rfl)
  |true=>exact fin o1 (ib.so o1.T (q.t rfl))
 ·refine jM (sV (Ok.start T) (ia.sb T Tr.of h) λg1 av b z1 o1 e q=>?_)
  have q:=fy e q
  cases b with
  |false=>exact o1.b0 e (q.f rfl)
  |true=>exact fin o1 (ib.st o1.T hK (q.t rfl))
theorem DO{a b:T}{l:List PE}(ia:Al P r a)(ib:Al P r b) (c:E3 l (λx l=>ck P C.vt a C.env.scope.names (.e x)&&E3 l λy l=>match N2 l with
   |true=>ck P C.vt b C.env.scope.names (.e y)
   |false=>ck P C.vt b C.env.scope.names (.b .Or (y::l)))=true):MB P r (.or_ a b) C .Or l:=by
 refine pD (M:=MB P r (.or_ a b) C .Or) ia ib c (λx y ia ib=>⟨λT h=>oL (cJ (Ok.start T) (ia.se T h) λg1 av v z1 o1 vr q=>bT q λt e q=>bP vr e ?_),λT hK h=>?_⟩)
  λx y z l ia ib=>⟨λT h=>oL (cJ (Ok.start T) (ia.se T h) λg1 av v z1 o1 vr q=>bT q λt e q=>bP vr e ?_),λT hK h=>?_⟩
 ·cases t with
  |true=>exact o1.v0 vr (q.t rfl)
  |false=>exact lE (fin o1 (ib.se o1.T (q.f rfl)))
 ·refine mG (sV (Ok.start T) (ia.sb T Tr.of h) λg1 av b z1 o1 e q=>?_)
  have q:=fy e q
  cases b with
  |true=>exact o1.b0 e (q.t rfl)
  |false=>exact mG (sV o1 (ib.sb o1.T hK (q.f rfl)) λg2 av b z2 o2 e q=>by
    cases b with
    |true=>exact o2.b0 e q
    |false=>exact sg (o2.b0 e q))
 ·cases t with
  |true=>exact o1.v0 vr (q.t rfl)
  |false=>exact fin o1 (ib.so o1.T (q.f rfl))
 ·refine mG (sV (Ok.start T) (ia.sb T Tr.of h) λg1 av b z1 o1 e q=>?_)
  have q:=fy e q
  cases b with
  |true=>exact o1.b0 e (q.t rfl)
  |false=>exact fin o1 (ib.st o1.T hK (q.f rfl))
theorem MB.me{t:T}{o:BoolOp}{l:List PE}{pos:Pos}(h:MB P r t C o l):ME P r t C (.BoolOp o l pos):=⟨λT q=>h.so T q,λT hK q=>uH (h.st T hK q)⟩
theorem Er{a b:T}(ia:Al P r a)(ib:Al P r b):Al P r (.and_ a b):=λC z c=>wF (M:=Cm P r (.and_ a b) C) c
 (λo l pos c=>s7 c λc1 c=>by cases o with
  |And=>exact(Am ia ib c).me
  |Or=>cases c1) (λo l c=>s7 c λc1 c=>by cases o with
  |And=>exact Am ia ib c
  |Or=>cases c1)
theorem Hn{a b:T}(ia:Al P r a)(ib:Al P r b):Al P r (.or_ a b):=λC z c=>wF (M:=Cm P r (.or_ a b) C) c
 (λo l pos c=>s7 c λc1 c=>by cases o with
  |Or=>exact(DO ia ib c).me
  |And=>cases c1) (λo l c=>s7 c λc1 c=>by cases o with
  |Or=>exact DO ia ib c
  |And=>cases c1)
theorem eQ{fB:PE}{o i:Value}(c:aI fB=true):subscripted fB false o i=operate [o,i] (getItem o i):=by
 cases fB<;>first | (exact absurd c e9) | rfl
theorem nV{lo hi:Option PE}{p:Pos}{o i:Value}:subscripted (.Slice lo hi none p) false o i=operate [i,o] (getItem o i):=rfl
theorem VRs.get{l:List AV}{vs:List Value}{i:Nat}(x:VRs P V l vs)(h:i<l.length):∃v,vs[i]?=some v∧VR P V (l.getD i .U) v:=by
 induction l generalizing vs i with
 |nil=>cases h
 |cons a l ih=>cases x with | cons p q=>cases i with
  |zero=>exact⟨_,rfl,p⟩
  |succ i=>exact ih q (B1 h)
theorem VRs.take{l:List AV}{vs:List Value}(x:VRs P V l vs)(n:Nat):VRs P V (l.take n) (vs.take n):=by
 induction l generalizing vs n with
 |nil=>cases x;cases n<;>exact .nil
 |cons a l ih=>cases x with | cons p q=>cases n with
  |zero=>exact .nil
  |succ n=>exact .cons p (ih q n)
theorem rB(b:Array UInt8)(j:Nat):((b.toList.getD j 0).toNat:Int)=(bI b).getD j 0:=KBw.getD_ints b.toList j
theorem rC{b:Array UInt8}{j:Nat}:within ((bI b).getD j 0) 256:=KBw.getD_in (ks:=KBw.bInts b) (j:=j) λk hk=>KBw.ints_in hk
theorem lL(T:St P r C ρ g){l:List AV}{vs:List Value}{a:Addr}{n:Nat}{i:Int}{t:Tok}{x y:PE}(c:aI y=true)(hq:g.s.heap.get? a=some { cls:=.type "list",data:=.seq vs.toArray n })(hv:VRs P g.v l vs)(hz:l.length≤K8)
  (h:wJ l i (K (l.getD i.toNat .U) g.H)):n9 (I5 P C) C.A (ay x y (.ref a) (.int i t)) (J4 P C.base g K) E g.s:=by
 refine D2 λ_ kk=>?_
 obtain⟨⟨h0,h1⟩,h⟩:=h
 refine kk ?_
 refine eX12 (hv.get (i:=i.toNat) (by exact(E9 h0).mpr h1)) λw' e' q'=>?_
 exact tail_any (T:="list") ⟨_,hq,rfl⟩ slot_list_getitem.lookup (wpAny_getItem_list (items:=vs.toArray) ⟨_,hq,rfl,_,rfl⟩ h0 (by unfold K8 at hz;exact e7 h1 (e6 (m5.mpr hz) (by decide))) (by simpa using e') (T.v0 q' h)) (eQ c)
theorem Bt(T:St P r C ρ g){x y:PE}{i:Int}{tt:Tok}(c:aI y=true)(va:VR P g.v av v)(h:Ig av i g.H K):
  n9 (I5 P C) C.A (ay x y v (.int i tt)) (J4 P C.base g K) E g.s:=by
 cases va with
 |bytes q t z=>
  refine D2 λ_ kk=>?_
  obtain⟨⟨h0,h1⟩,h⟩:=h
  refine kk ?_
  rw[Y1] at h1
  refine tail_any (u2 g.s q t) FB.slot_bytes_getitem.lookup ?_ (eQ c)
  have e:q.toList.toArray=q:=Array.toArray_toList
  have w:n9 (y8 P.prog C.w) C.A (getItem (.bytes q.toList.toArray t) (.int i tt)) (J4 P C.base g K) E g.s:=
   getItem_bytes (l:=q.toList) (by unfold K8 at z;simp;exact b6 z (by decide)) h0 (by simpa using h1) (by rw[rB];exact T.val .toks (.int _ _) (h rC))
  rw[e] at w
  exact w
 |tup l vs q hs hq hv=>
  refine D2 λ_ kk=>?_
  obtain⟨h2,⟨h0,h1⟩,h⟩:=h
  refine kk ?_
  refine eX12 (hv.get (i:=i.toNat) (by exact(E9 h0).mpr h1)) λw' e' q'=>?_
  have ln:=hv.len
  refine tail_any (T:="tuple") ⟨_,hq,rfl⟩ slot_tuple_getitem.lookup (getItem_tuple (items:=vs.toArray) ⟨_,hq,rfl,_,rfl⟩ (by exact e6 (by decide) h0) (by exact e7 h2 (by decide)) (j:=i.toNat) ?_ (by simpa using e') (T.v0 q' h)) (eQ c)
  have hn:¬i<0:=by exact r6.mpr h0
  simp[seqIndex?,hn,h0];exact e7 h1 (m5.mpr (j6 ln))
 |fl l vs q n hs hq hv hz=>exact lL T c hq hv hz h
 |ref n hn=>
  cases h with
  |l e h=>
   refine eX23 (du T.rm.rr hn e) λvs m hq hv hz=>?_
   exact lL T c hq hv hz h
  |b e h=>
   have cl:=T.rm.rr.cell n hn
   rw[e] at cl
   refine eX13 cl λq hq zq1 hz=>?_;clear cl;subst zq1
   refine D2 λ_ kk=>?_
   obtain⟨⟨h0,h1⟩,h⟩:=h
   refine kk ?_
   rw[Y1] at h1
   exact tail_any (y9 hq) cG.lookup (mX hq h0 h1 hz (by rw[rB];exact T.val .toks (.int _ _) (h rC))) (eQ c)
 |_=>exact h.elim
theorem DW{a i:T}(ia:Al P r a)(ib:Al P r i):Al P r (.sub a i):=λC z c=>I7 c λe c=>jb c λx y pos c=>s7 c λc1 c=>s7 c λc2 c3=>
 ME.of (λT h=>zZ (cJ (Ok.start T) ((ia C (.e x) c2).se T h) λg1 av v z1 o1 vr q=>cJ o1 ((ib C (.e y) c3).se o1.T q) λg2 bv u z2 o2 vr' q'=>vr'.int_el q' λi t q'=>fin o2 (v9 (Bt o2.T c1 (vr.kp z2.kp) q')))) rfl
inductive Part:AV→Option Int→Prop
 |none:Part .none none
 |int (i:Int):Part (.int i) (some i)
theorem part_of{o:Option Int}(p:Part av o)(x:VR P V av v):IsPart v o:=by
 cases p with
 |none=>cases x;exact .none
 |int i=>cases x;exact .int _ _
theorem yM{α:Type}(l:List α)(a b:Nat):(l.drop (min a l.length)).take (min b l.length-min a l.length)=(l.drop a).take (b-a):=by
 by_cases q:a≤l.length
 ·rw[aR q]
  by_cases q':b≤l.length
  ·rw[aR q']
  ·have q':=Nat.le_of_not_le q'
   rw[dx q',L4 (j6 V2),L4 (by rw[V2];exact N6 q' a)]
 ·have q:=Nat.le_of_not_le q
  rw[dx q,L5 (d8 _),L5 q,List.take_nil,List.take_nil]
theorem vV{α:Type}(l:List α)(a b:Int)(h0:0≤a)(h1:0≤b):(l.drop (min a.toNat l.length)).take (min b.toNat l.length-min a.toNat l.length)=cut l a b:=by
 refine eX11 (A1 h0) λa zq1=>?_;subst zq1
 refine eX11 (A1 h1) λb zq2=>?_;subst zq2
 unfold cut
 rw[O4,t7,t7]
 exact yM l a b
theorem vS{α:Type}(ks:List α)(n:Nat):(ks.drop (min n ks.length)).take (ks.length-min n ks.length)=ks.drop n:=by
 rw[L4 (by rw[V2];exact d8 _)]
 by_cases q:n≤ks.length
 ·rw[aR q]
 ·rw[dx (show ks.length≤n by exact A9 (F9.mp q)),L5 (d8 _),L5 (show ks.length≤n by exact A9 (F9.mp q))]
theorem js(n:Nat){i:Int}(h:0≤i):dE n i=min i.toNat n:=by
 have:=clipAt_nat n i.toNat
 rw[C9 h] at this
 exact this
noncomputable abbrev gv(s:Shared)(vl vu:Value):Shared:={ s with heap:=s.heap.push { cls:=.type "slice",data:=.fields #[vl,vu,.none] } }
theorem mn(T:St P r C ρ g){b:Array UInt8}{t:Tok}{o1 o2:Option Int}{ks:List Int}{l h:AV}{vl vu:Value}{x:PE}{lo hi:Option PE}{p:Pos}(z:b.size≤K8)(p1:Part l o1)(p2:Part h o2)(pl:VR P g.v l vl)(pu:VR P g.v h vu)
  (e:((bI b).drop (o1.elim 0 (dE (bI b).length))).take (o2.elim (bI b).length (dE (bI b).length)-o1.elim 0 (dE (bI b).length))=ks) (k:K (.bytes ks) g.H) :
  n9 (I5 P C) C.A (ay x (.Slice lo hi none p) (.bytes b t) (.ref g.s.heap.objs.size)) (J4 P C.base g K) E (gv g.s vl vu):=by
 refine tail_any (u2 _ b t) FB.slot_bytes_getitem.lookup (getItem_meets (u2 _ _ _) (by decide) FB.slot_bytes_getitem FB.entry_bytes_getitem (FB.args_bytes_getitem_2 _ _) (KBc.meets_slice2 b t _ (part_of p1 pl) (part_of p2 pu))
  ⟨Heap.IsSliceOf.new _ _ _ _,jx (b6 (KBc.size_picked_le b o1 o2) z),λt' k'=>?_⟩) nV
 exact T.val (Grow.push _) (bO ((KBc.ints_picked (b:=b) (ks:=bI b) rfl o1 o2).trans e) (b6 (KBc.size_picked_le b o1 o2) z)) k
theorem tH(T:St P r C ρ g){l u:AV}{vl vu:Value}{x:PE}{lo hi:Option PE}{p:Pos}(va:VR P g.v av v)(pl:VR P g.v l vl)(pu:VR P g.v u vu)(h:fB av l u g.H K):
  n9 (I5 P C) C.A (ay x (.Slice lo hi none p) v (.ref g.s.heap.objs.size)) (J4 P C.base g K) E (gv g.s vl vu):=by
 cases va with
 |bytes b t z=>
  cases u with
  |int j=>cases l with
   |int i=>
    refine D2 λ_ kk=>?_
    obtain⟨h0,h1,h⟩:=h
    refine kk ?_
    refine mn T z (.int _) (.int _) pl pu ?_ h
    rw[←vV _ _ _ h0 h1]
    show ((bI b).drop (dE _ _)).take (dE _ _-dE _ _)=_
    rw[js _ h0,js _ h1]
   |none=>
    obtain⟨h1,h⟩:=h
    refine mn T z .none (.int _) pl pu ?_ h
    rw[←vV _ _ _ (g6 0) h1]
    show ((bI b).drop 0).take (dE _ _-0)=_
    rw[js _ h1];simp
   |_=>exact h.elim
  |none=>cases l with
   |int i=>
    obtain⟨h0,h⟩:=h
    refine mn T z (.int _) .none pl pu ?_ h
    show ((bI b).drop (dE _ _)).take (_-dE _ _)=_
    rw[js _ h0]
    exact vS _ _
   |_=>exact h.elim
  |_=>exact h.elim
 |fl ks vs q n hs hq hv hz=>
  obtain⟨h0,h⟩:=h
  cases l with
  |none=>cases u with
   |int i=>
    obtain⟨h1,h⟩:=h
    have kp:(gv g.s vl vu).heap.get? q=some { cls:=.type "list",data:=.seq vs.toArray n }:=Heap.get?_push_of_some _ hq
    have hl:vs.length≤Q7:=by rw[←hv.len];exact jx hz
    refine tail_any (T:="list") ⟨_,kp,rfl⟩ list_getitem_lookup (wpAny_getItem_list_slice ⟨_,kp,rfl,_,rfl⟩ (Heap.IsSliceOf.new ..) (part_of .none pl) (part_of (.int i) pu) .none (by decide) ?_ (by simpa using hl)) nV
    have e:slicePick vs.toArray none (some i) none=(vs.take i.toNat).toArray:=by
     have:=slicePick_upto' vs.toArray i.toNat
     rw[C9 h1] at this
     simpa using this
    rw[e]
    have sz:(gv g.s vl vu).heap.objs.size=g.s.heap.objs.size+1:=Heap.size_push ..
    refine T.rm.rr.valS (a:=(gv g.s vl vu).heap.objs.size) (o:={ cls:=.type "list",data:=.seq (vs.take i.toNat).toArray }) ((Grow.push _).trans (Grow.push _)) (Heap.get?_none_of_le (by rw[sz];exact P8 _)) (Heap.get?_push_size _ rfl) my (λkp=>.fl _ _ _ 0 (.inr rfl) (Heap.get?_push_size _ rfl) ?_ ?_) h
    ·have:=(hv.kp kp).take i.toNat
     unfold cut;simpa using this
    ·unfold cut;simp;lia -abstractProof
   |_=>exact h.elim
  |_=>exact absurd h0 e9
 |_=>exact h.elim
theorem nT{t:T}(h:vq t=true):t = .none_:=by
 cases t<;>first | rfl | exact absurd h e9 | skip
 rename_i b;cases b<;>exact absurd h e9
theorem qU{t:T}{o:Option PE}(it:Al P r t) (c:(match iV o with
   |true=>vq t
   |false=>fq o λq=>ck P C.vt t C.env.scope.names (.e q))=true) (T:St P r C ρ g) (h:R9 (bo P r) t ρ g.H K X):Go P C g (evalPart o C.env) K X:=by
 cases o with
 |none=>
  obtain rfl:=nT c
  exact s8 (T.v0 .none h)
 |some y=>exact(it C (.e y) c).se T h
theorem DY{a l u:T}(ia:Al P r a)(il:Al P r l)(iu:Al P r u):Al P r (.slc a l u):=λC z c=>I7 c λe c=>jb c λx y pos c=>wW (M:=λy=>ME P r (.slc a l u) C (.Subscript x y pos)) c λlo hi st p c=>s7 c λc0 c=>s7 c λc1 c=>s7 c λc2 c3=>
 eY (M:=λst=>ME P r (.slc a l u) C (.Subscript x (.Slice lo hi st p) pos)) c0 (ME.of (λT h=>zZ (cJ (Ok.start T) ((ia C (.e x) c1).se T h) λg1 av v z1 o1 vr q=>yb (cJ o1 (qU il c2 o1.T q) λg2 lv lw z2 o2 vr2 q2=>cJ o2 (qU iu c3 o2.T q2) λg3 uv uw z3 o3 vr3 q3=>
  K3 (v9 (tH o3.T ((vr.kp z2.kp).kp z3.kp) (vr2.kp z3.kp) vr3 q3)) (λ_ _ z=>z.pre o3.y) o3.er))) rfl)
end
section
variable{P:Prg}{r:Nat}{C:Cx}{ρ:Loc}{g:Sg}{K:KE}{X:XE}{E:Value→Shared→Prop}{s:Shared}{v u:Value}{av bv:AV}{V:Vw}
theorem mV{l:List AV}{vs:List Value}{ks:List Int}(x:VRs P V l vs)(e:eJ l=some ks):IntsAre vs ks:=by
 induction l generalizing vs ks with
 |nil=>cases x;cases e;exact .nil
 |cons a l ih=>cases x with | cons p q=>
  cases p with
  |int i t=>
   have e:(match eJ l with | some l=>some (i::l) | none=>none)=some ks:=e
   cases z:eJ l with
   |none=>rw[z] at e;cases e
   |some k2=>rw[z] at e;cases e;exact .cons _ _ (ih q z)
  |_=>cases e
theorem qC{ks:List Int}(h:∀k∈ks,within k 256):bI (byteArr ks)=ks:=by
 unfold bI byteArr
 simp only[List.map_map]
 conv=>rhs;rw[←List.map_id ks]
 refine ba λk hk=>?_
 have:=h k hk
 simp only[Function.comp,id]
 have e:(k.toNat.toUInt8).toNat=k.toNat:=by
  show k.toNat%256=k.toNat
  lia -abstractProof
 rw[e];exact C9 this.1
theorem tY(n:Nat):bI (Array.replicate n 0)=l6 n 0:=by unfold bI;simp
theorem dg{α G:Prop}{β:Type}{o:Option β}{F:β→Prop}(h:V5 o F)(k:∀a,o=some a→F a→G):G:=by
 cases o with
 |none=>exact h.elim
 |some a=>exact k a rfl h
theorem fH{vs:List AV}{ws:List Value}{F:AV→Prop}{M:List Value→Prop}(h:one vs F)(x:VRs P V vs ws)(k:∀a w,VR P V a w→F a→M [w]):M ws:=by
 cases x with
 |nil=>exact h.elim
 |cons p q=>cases q with
  |nil=>exact k _ _ p h
  |cons _ _=>exact h.elim
theorem Au{vs:List AV}{ws:List Value}{F:AV→AV→Prop}{M:List Value→Prop}(h:two vs F)(x:VRs P V vs ws)(k:∀a b w w',VR P V a w→VR P V b w'→F a b→M [w,w']):M ws:=by
 cases x with
 |nil=>exact h.elim
 |cons p q=>cases q with
  |nil=>exact h.elim
  |cons p' q=>cases q with
   |nil=>exact k _ _ _ _ p p' h
   |cons _ _=>exact h.elim
theorem gy(T:St P r C ρ g){b:Array UInt8}{l:List Int}(e:bI b=l)(z:b.size≤K8)(k:K (.ref g.H.length) (g.H++[.barr l])){h':Heap}(h1:∀y o,g.s.heap.get? y=some o→h'.get? y=some o)(h2:h'.get? g.s.heap.objs.size=some (aa b)):
  J4 P C.base g K (.ref g.s.heap.objs.size) { g.s with heap:=h' }:=
 T.rm.rr.valC (c:=.barr l) (s':={ g.s with heap:=h' }) ⟨h1,rfl,rfl⟩ M4 h2 (λ_=>⟨b,h2,e,z⟩) k
theorem rJ{prog:Program}{w:World}{A:Around}{b:Array UInt8}{t:Tok}{Q:Value→Shared→Prop}(hh:A.handled=none)(z:b.size≤K8)(h:∀h' tk t',(∀c o,s.heap.get? c=some o→h'.get? c=some o)→Q (.int (bI b).sum t') { s with heap:=h',toks:=tk }):
  n9 (y8 prog w) A (call (.builtin "sum") [.bytes b t]) Q E s:=by
 have hin:∀k∈bI b,0≤k∧k<256:=λk hk=>KBw.ints_in hk
 refine call_sum_walk (KBw.pyIter_bytes ?_)
 refine⟨s.heap.objs.size,[s.heap.objs.size],[s.heap.objs.size],b.size,_,_,λj=>(bI b).getD j 0,rfl,KBw.walks (A:=A.in1) hh s.heap.objs.size b t,⟨_,Heap.get?_push_size _ rfl,rfl,rfl⟩,λa ha=>?_,?_,λj hj=>?_,λh' tk t' hk'=>?_⟩
 ·rw[i6.mp ha]
  exact Heap.lt_size (Heap.get?_push_size _ rfl)
 ·intro i v zr1;refine eX22 zr1 λc u hc zq2=>?_;clear zr1;subst zq2
  refine⟨u,?_⟩
  show Value.int (c.toNat:Int) u=Value.int ((bI b).getD i 0) u
  rw[t5,show (bI b)[i]?=some (c.toNat:Int) from KBw.ints_get hc]
  rfl
 ·have l2:=Y1 b
  have h1:=KBw.getD_in (ks:=bI b) (j:=j) hin
  have h3:=KBmo.sum_bound (ks:=(bI b).take (j+1)) λk hk=>hin k (U3 hk)
  have h4:((bI b).take (j+1)).length≤b.size:=by rw[V1,l2];exact Nat.min_le_right _ _
  unfold InLong
  rw[KBmo.pre_take (bI b) (j+1) (by rw[l2];exact hj)]
  unfold K8 at z
  refine⟨⟨?_,?_⟩,?_,?_⟩<;>(try dsimp only)<;>lia -abstractProof
 ·have e:preSum (λj=>(bI b).getD j 0) b.size=(bI b).sum:=by
   rw[←Y1 b,KBmo.pre_take _ _ (d8 _),List.take_length]
  rw[e]
  exact h h' tk t' λa o ha=>hk' a o (λhm=>absurd (Heap.lt_size ha) (by rw[i6.mp hm];exact W7 _)) (Heap.get?_push_of_some _ ha)
theorem Bm(T:St P r C ρ g)(x:VR P g.v av v)(h:DQ av g.H λn=>K (.int n) g.H):n9 (I5 P C) C.A (call (.builtin "len") [v]) (J4 P C.base g K) E g.s:=by
 have ll:∀{l:List AV} {vs:List Value} {a:Addr} {n:Nat},g.s.heap.get? a=some { cls:=.type "list",data:=.seq (V0 vs) n }→VRs P g.v l vs→l.length≤K8→K (.int l.length) g.H→n9 (I5 P C) C.A (call (.builtin "len") [.ref a]) (J4 P C.base g K) E g.s:=λ{l vs a n} hx hw hz h=>by
  have e:=hw.len
  refine PyProof.Rows.len_list (items:=vs.toArray) ⟨_,hx,rfl,_,rfl⟩ (by simp;unfold K8 at hz;exact j1.mpr (g9 (j6 e.symm) (g9 hz (by decide)))) (T.val (s':={ g.s with toks:=g.s.toks+1+1 }) .toks ?_ h)
  rw[e,S5];exact .int _ _
 cases x with
 |bytes x t z=>
  refine len_bytes (by unfold K8 at z;exact b6 z (by decide)) (T.val (s':={ g.s with toks:=g.s.toks+1+1 }) .toks ?_ h)
  rw[Y1];exact .int _ _
 |fl l vs a n hs hx hw hz=>exact ll hx hw hz h
 |ref n hn=>
  cases h with
  |l e h=>
   refine eX23 (du T.rm.rr hn e) λvs m hq hv hz=>?_
   exact ll hq hv hz h
  |b e h=>
   have cl:=T.rm.rr.cell n hn
   rw[e] at cl
   refine eX13 cl λx hx zq1 hz=>?_;clear cl;subst zq1
   refine uY hx hz (T.val (s':={ g.s with toks:=g.s.toks+1+1 }) .toks ?_ h)
   rw[Y1];exact .int _ _
 |_=>exact h.elim
theorem tU{n:Int}(h:within n 100000):(Array.replicate n.toNat (0:UInt8)).size≤K8:=tW h.2
theorem wz(T:St P r C ρ g)(x:VR P g.v av v)(h:wH av g.H λl=>K (.bytes l) g.H):n9 (I5 P C) C.A (call (.type "bytes") [v]) (J4 P C.base g K) E g.s:=by
 cases x with
 |fl l vs a n hs hx hw hz=>
  refine dg (α:=True) h λks e h=>?_
  refine D2 λ_ kk=>?_
  obtain⟨h1,h2,h⟩:=h
  refine kk ?_
  have ia:=mV hw e
  exact call_bytes_ints (ns:=ks) ⟨_,hx,rfl,_,rfl⟩ ia h1 (by rw[ia.length];exact jx h2) T.rm.hd λh' t k kp=>T.val (fD kp) (bO (qC h1) (by rw[byteArr_size];exact h2)) h
 |bytes x t z=>exact zf (T.v0 (.bytes _ _ z) h)
 |int n t=>exact ze h.h.1 h.h.2 (T.val .toks (bO (tY _) (tU h.h)) h.f)
 |ref n hn=>
  cases h with | mk e h=>
  have cl:=T.rm.rr.cell n hn
  rw[e] at cl
  refine eX13 cl λx hx zq2 hz=>?_;clear cl;subst zq2
  exact zg (t:=0) hx hz (T.val .toks (.bytes _ _ hz) h)
 |_=>exact h.elim
theorem zi(T:St P r C ρ g)(x:VR P g.v av v)(h:An av g.H λl=>nw g.H (.barr l) λn H=>K (.ref n) H):Go P C g (call (.type "bytearray") [v]) K X:=by
 cases x with
 |bytes x t z=>exact xW T.rm.gd z λh' h1 h2=>gy T rfl z h.h h1 h2
 |int n t=>exact xV T.rm.gd h.h.1 h.h.2 λh' h1 h2=>gy T (tY _) (tU h.h) h.f.h h1 h2
 |ref n hn=>
  cases h with | mk e h=>
  have cl:=T.rm.rr.cell n hn
  rw[e] at cl
  refine eX13 cl λx hx zq3 hz=>?_;clear cl;subst zq3
  exact xX T.rm.gd hx hz λh' h1 h2=>gy T rfl hz h.h h1 h2
 |_=>exact h.elim
theorem AF(T:St P r C ρ g)(x:VR P g.v av v)(h:DP av λi=>K (.int i) g.H):n9 (I5 P C) C.A (call (.builtin "sum") [v]) (J4 P C.base g K) E g.s:=by
 cases x with
 |fl l vs a n hs hx hw hz=>
  refine dg (α:=True) h λks e h=>?_
  have ia:=mV hw e
  refine eX11 ia.allInts.items λxs hxs=>?_
  refine sum_intListG (xs:=xs) T.rm.hd ⟨_,hx,rfl,_,by rw[hxs]⟩ λh' tk t' kp=>?_
  have e2:preSum (numAt xs) xs.size=ks.sum:=by
   rw[preSum_eq,L4 (by simp),←nums_intItems,←hxs]
   show (numsOf vs.toArray.toList).sum=_
   rw[show vs.toArray.toList=vs from rfl,ia.numsOf]
  rw[e2]
  exact T.val (fD kp) (.int _ _) h
 |bytes x t z=>exact rJ T.rm.hd z λh' tk t' kp=>T.val (fD kp) (.int _ _) h
 |_=>exact h.elim
theorem Bj(T:St P r C ρ g)(x:VR P g.v av v)(h:pV av λl=>V5 (eJ l) λks=>vw ks λm=>K (.int m) g.H):n9 (I5 P C) C.A (call (.builtin "max") [v]) (J4 P C.base g K) E g.s:=by
 refine x.fl_el h λl vs a n hs hx hw hz h=>dg (α:=True) h λks e h=>?_
 cases ks with
 |nil=>exact h.elim
 |cons k0 ks=>
  have ia:=mV hw e
  refine eX11 ia.allInts.items λxs hxs=>?_
  have en:numsOf (intItems xs).toList=k0::ks:=by rw[←hxs];exact ia.numsOf
  rw[nums_intItems] at en
  have hsz:0<xs.size:=by
   rw[←Array.length_toList]
   have:=congrArg List.length en
   rw[r7] at this
   rw[this];exact Z7 _
  refine max_intList (xs:=xs) T.rm.hd ⟨_,hx,rfl,_,by rw[hxs]⟩ hsz λv h' tk hv' kp=>?_
  refine eX11 (intItems_at hv') λt zq1=>?_;subst zq1
  refine eX02 (argBest_gt (numAt xs) (xs.size-1)) λh1 h2=>?_
  refine T.val (fD kp) (.int _ _) (h _ ?_ λx hx=>?_)
  ·rw[←en,numAt_eq];exact getD_mem (by rw[r7,Array.length_toList];lia -abstractProof)
  ·rw[←en] at hx
   refine eX12 (mem_getD hx) λj hj zq2=>?_;subst zq2
   rw[r7,Array.length_toList] at hj
   rw[←numAt_eq];exact h2 j (by exact A0 hj)
theorem DN(T:St P r C ρ g){b:Nat}{l:List AV}{vs:List Value}(hv:VRs P g.v l vs)(h:bi b l g.H K):Go P C g (call (gX b) vs) K X:=by
 match b,h with
 |0,h=>exact fH (M:=λvs=>Go P C g (call (gX 0) vs) K X) h hv λa w x h=>v9 (Bm T x h)
 |1,h=>exact fH (M:=λvs=>Go P C g (call (gX 1) vs) K X) h hv λa w x h=>v9 (wz T x h)
 |2,h=>
  cases hv with
  |nil=>exact xY T.rm.gd λh' h1 h2=>gy T rfl (j9 _) h.h h1 h2
  |cons p q=>exact fH (M:=λvs=>Go P C g (call (gX 2) vs) K X) h (.cons p q) λa w x h=>zi T x h
 |4,h=>exact fH (M:=λvs=>Go P C g (call (gX 4) vs) K X) h hv λa w x h=>v9 (AF T x h)
 |5,h=>
  refine Au (M:=λvs=>Go P C g (call (gX 5) vs) K X) h hv λa b w w' x y h=>x.int_el h λi t h=>y.int_el h λj t' h=>v9 (min_two_ints T.rm.hd λh' tk kp=>?_)
  by_cases q:j<i
  ·rw[if_pos q] at h ⊢;exact T.val (fD kp) (.int _ _) h
  ·rw[if_neg q] at h ⊢;exact T.val (fD kp) (.int _ _) h
 |6,h=>
  cases hv with
  |nil=>exact h.elim
  |cons p q=>cases q with
   |nil=>exact v9 (Bj T p h)
   |cons p' q=>cases q with
    |cons _ _=>exact h.elim
    |nil=>
     refine p.int_el h λi t h=>p'.int_el h λj t' h=>v9 (max_two_ints T.rm.hd λh' tk kp=>?_)
     by_cases q:i<j
     ·rw[if_pos (show j>i from q)];rw[if_pos q] at h;exact T.val (fD kp) (.int _ _) h
     ·rw[if_neg (show ¬j>i from q)];rw[if_neg q] at h;exact T.val (fD kp) (.int _ _) h
 |3,h=>exact h.elim
 |n+7,h=>exact h.elim
end
section
variable{P:Prg}{r:Nat}{C:Cx}{ρ:Loc}{g g₀:Sg}{K:KE}{X:XE}{E:Value→Shared→Prop}{s:Shared}{v u:Value}{av bv:AV}{V:Vw}
theorem bU{e:PE}{names:List (Str×NameKind)}{F:Str→List PE→Bool}{M:PE→Prop}(h:gT e names F=true)(k:∀y p l pos,mU names y=true→jG y=true→F y l=true→M (.Call (.Name y p) l [] pos)):M e:=
 jv (by unfold gT at h;exact h) λf l kw pos h=>s7 h λh1 h=>N4 (M:=λf=>M (.Call f l kw pos)) h λy p h=>s7 h λh2 h=>s7 h λh3 h=>K9 (M:=λkw=>M (.Call (.Name y p) l kw pos)) h1 (k y p l pos h2 h3 h)
structure CA(P:Prg)(m:Nat)(o:PE)(l:List PE)(n:Str)(ap pos:Pos):Prop where
 n:P.an m=n
 m:m<P.nA
 b:nj o=true
 z:l.length<29
 l:(ap.endLine==pos.line)=true
theorem pF{m:Nat}{e:PE}{F:PE→List PE→Bool}{M:PE→Prop}(h:rA P m e F=true)(k:∀o n ap l pos,CA P m o l n ap pos→F o l=true→M (.Call (.Attribute o n ap) l [] pos)):M e:=
 jv (by unfold rA at h;exact h) λf l kw pos h=>s7 h λh1 h=>eu (M:=λf=>M (.Call f l kw pos)) h λo n ap h=>s7 h λh2 h=>s7 h λh3 h=>s7 h λh4 h=>s7 h λh5 h=>s7 h λh6 h=>
  K9 (M:=λkw=>M (.Call (.Attribute o n ap) l kw pos)) h1 (k o n ap l pos ⟨of_decide_eq_true h2,wQ h3,h4,wQ h6,by rw[W5 h5];exact beq_self_eq_true _⟩ h)
theorem pE{c:Code}(o:Ok P r C ρ X E nX g₀ g)(h:M5 (I5 P C) C.A c (gZ (J4 P C.base g K) (af P C.base g X)) g.s):M5 (I5 P C) C.A c (gZ (J4 P C.base g₀ K) E) g.s:=
 bw h λr s' x=>by
  cases r with
  |error e=>exact o.er _ _ x
  |ok f=>cases f with
   |ret v=>exact PG.pre o.y x
   |_=>exact x.elim
theorem oy{as:T}{a:Addr}{y:Str}{p pos:Pos}{l:List PE}(c1:mU C.env.scope.names y=true)(c2:jG y=true)(c3:Y6 P y a=true)(i:ML P r as C l)(T:St P r C ρ g)
  (h:R9 (bo P r) as ρ g.H (λv H=>ae v λvs=>fE P a r vs H K X) X):Go P C g (eval (.Call (.Name y p) l [] pos) C.env) K X:=by
 refine s7 c3 λd1 d2=>eW (v9 (T.glob c1 c2 (of_decide_eq_true d1) ?_))
 exact Q3 (fP i.st) (sU (Ok.start T) (i.se T h) λg1 avs vs z1 o1 vr n q=>⟨jW d2 o1.T.kin,cS (pE o1 (q C g1.S g1.μ g1.s vs o1.T.rm vr))⟩)
theorem zv{f:Nat}{as:T}(i:Al P r as):Al P r (.callF f as):=λC z c=>I7 c λe c=>bU c λy p l pos c1 c2 c=>s7 c λc3 c4=>ME.of (λT h=>oy c1 c2 c3 (i C (.es l) c4) T h) rfl
theorem zw{f:Nat}{as:T}(i:Al P r as):Al P r (.callC f as):=λC z c=>I7 c λe c=>bU c λy p l pos c1 c2 c=>s7 c λc3 c4=>ME.of (λT h=>oy c1 c2 c3 (i C (.es l) c4) T h) rfl
theorem vk{b:Nat}{h:Heap}{M:Model}:Keeps M (gX b) h:=by
 unfold gX
 split<;>first | exact aF | exact fM
theorem zx{b:Nat}{as:T}(i:Al P r as):Al P r (.callB b as):=λC z c=>I7 c λe c=>bU c λy p l pos c1 c2 c=>s7 c λc3 c4=>
 ME.of (λT h=>eW (v9 (T.globB c1 c2 c3 (Q3 (fP (i C (.es l) c4).st) (sU (Ok.start T) ((i C (.es l) c4).se T h) λg1 avs vs z1 o1 vr n q=>⟨vk,fin o1 (DN o1.T vr q)⟩))))) rfl
theorem Eg{a:T}(i:Al P r a):Al P r (.isB a):=λC z c=>I7 c λe c=>bU c λy p l pos c1 c2 c=>s7 c λc3 c=>L7 (M:=λl=>ME P r (.isB a) C (.Call (.Name y p) l [] pos)) c λx l c=>s7 c λc4 c=>s7 c λc5 c=>
 ao (M:=λl=>ME P r (.isB a) C (.Call (.Name y p) (x::l) [] pos)) c λq c=>N4 (M:=λq=>ME P r (.isB a) C (.Call (.Name y p) [x,q] [] pos)) c λz zp c=>s7 c λc6 c=>s7 c λc7 c8=>by
  refine ME.of (λT h=>eW (v9 (T.globB c1 c2 c3 ?_))) rfl
  refine Q3 (pK λe he r'=>je ((l5.mp he).elim (λq=>q▸iQ c4) λq=>i6.mp q▸rfl)) ?_
  refine qb (cJ (Ok.start T) ((i C (.e x) c5).se T h) λg1 av v z1 o1 vr q=>?_) (je (iQ c4))
  refine qb (v9 (o1.T.globB c7 c8 c6 (zY ⟨aF,?_⟩))) rfl
  exact vr.bytes_el q λb t z q=>v9 (call_isinstance_yes (Tx:="bytes") (u2 _ _ _) F.isi_meta_bytes F.sub_bytes_bytes (o1.v0 (.bool _) q))
theorem uj{v:AV}{F:Prop}(h:zR v F):v = .U∧F:=by
 cases v<;>first | exact⟨rfl,h⟩ | exact h.elim
theorem uO(O:POK P)(T:St P r C ρ g){x d:Addr}{c:Nat}{fs:List (Nat×AV)}{m:Str→Option Value}{f k:Nat}{pl:Sem Bool}{Q:Value×List Value→Shared→Prop}(hx:g.s.heap.get? x=some (G4 (P.ca c) d))(n:g.s.heap.Ns d m)(F:FR P g.v fs m)
  (hf:f<P.nA) (hm:P.mtab c f=some k) (u:lk fs f = .U) (h:Q (.ref (P.fa k),[.ref x]) g.s):n9 (I5 P C) C.A (getMethod (.ref x) (P.an f) pl) Q E g.s:=by
 refine eX03 (O.m1 c f k hm) λh1 h2 h3=>?_
 refine eX12 F λws F1 F2=>?_;clear F
 refine eX32 (id n) λo es ep ho r'=>?_
 have I:InstAt g.s.heap x (G4 (P.ca c) d) (P.ca c) (some o):=⟨hx,rfl,rfl,ho⟩
 have pg:=plainGet_of (O.cg c (P.an f))
 refine method_fn T.kin I pg.1 pg.2 h1 (beq_iff_eq.mp h2) ?_ h
 show (lookIn (P.an f) o).map (·.isSome)=some false
 rcases uV O F1 F2 hf with ⟨e,_⟩ | ⟨_,e⟩
 ·rw[u] at e;cases e
 ·rw[iB n ho,e];rfl
theorem zt(O:POK P){o:T}{m:Nat}{as:T}(io:Al P r o)(is:Al P r as):Al P r (.callM o m as):=λC z c=>I7 c λe c=>pF c λx nm ap l pos ca c=>s7 c λc7 c8=>by
 have ia:=is C (.es l) c8
 obtain rfl:=ca.n
 have hs:=fP (env:=C.env) (pos:=pos) ia.st
 refine ME.of (λT h=>rf (iH ca.b) ca.z ca.l hs (cJ (Ok.start T) ((io C (.e x) c7).se T h) λg1 av v z1 o1 vr q=>?_)) rfl
 have vr':=vr
 revert vr'
 refine VR.flds o1.T.rm.rr vr q λcc fs x d mm hx hn F q vr=>?_
 refine eX02 (uj q) λu q=>?_
 refine dg (α:=True) q λk hm q=>v9 (uO O o1.T hx hn F ca.m hm u ?_)
 exact Q3 hs (sU o1 (ia.se o1.T q) λg2 avs vs z2 o2 vr2 n q2=>⟨jW (O.m1 cc m k hm).2.2 o2.T.kin,cS (pE o2 (q2 C g2.S g2.μ g2.s _ o2.T.rm (.cons (vr.kp z2.kp) vr2)))⟩)
theorem iM{f:Array Value→Array Value}{items:Array Value}{n:Nat}:∃n',Obj.mapSeq f { cls:=.type "list",data:=.seq items n } = { cls:=.type "list",data:=.seq (f items) n' }:=⟨_,rfl⟩
theorem VRs.init{l:List AV}{vs:List Value}(x:VRs P V l vs):VRs P V l.dropLast vs.dropLast:=by
 induction l generalizing vs with
 |nil=>cases x;exact .nil
 |cons a l ih=>cases x with | cons p q=>cases q with
  |nil=>exact .nil
  |cons p' q'=>exact .cons p (ih (.cons p' q'))
theorem VRs.last{l:List AV}{vs:List Value}(x:VRs P V l vs)(h:0<l.length):∃u,vs[vs.length-1]?=some u∧VR P V (l.getLastD .U) u:=by
 induction l generalizing vs with
 |nil=>cases h
 |cons a l ih=>cases x with | cons p q=>cases q with
  |nil=>exact⟨_,rfl,p⟩
  |cons p' q'=>
   refine eX12 (ih (.cons p' q') (Z7 _)) λu e w=>?_
   exact⟨u,e,w⟩
theorem pI(T:St P r C ρ g){n:Nat}{x:Array UInt8}{f:Array UInt8→Array UInt8}{l:List Int}{v:Value}{av:AV}(hn:n<g.H.length)(e:get g.H n = .barr (bI x))(hx:g.s.heap.get? (g.μ n)=some (aa x))(el:bI (f x)=l)(z:(f x).size≤K8)
  (hv:∀V,VR P V av v) (k:K av (put g.H n (.barr l))):J4 P C.base g K v { g.s with heap:=g.s.heap.update (g.μ n) (Obj.mapBytearray f) }:=by
 have w:=Heap.get?_update_self (Obj.mapBytearray f) hx rfl
 exact T.rm.rr.valU (c:=.barr l) (dK hn e rfl) (λy hy=>Heap.get?_update_ne _ _ _ _ hy) rfl rfl (congrArg S0 e).symm ⟨_,w⟩ (λkp=>⟨_,w,el,z⟩) (λ_=>hv _) k
theorem AS{x:Array UInt8}{i:Int}(h:within i 256):bI (x.push i.toNat.toUInt8)=bI x++[i]:=by
 have:=qC (ks:=[i]) (λk hk=>by rw[i6.mp hk];exact h)
 unfold bI at this ⊢
 simp[byteArr] at this ⊢
 exact this
theorem uQ(T:St P r C ρ g){m n:Nat}{l:List AV}{vs:List Value}(hm:m=0∨m=1)(hn:n<g.H.length)(k:S0 (get g.H n)=2)(hv:VRs P g.v l vs)(h:yh m n l g.H K):
  Go P C g (call (.builtin (if m=0 then "bytearray.append" else "bytearray.extend")) (.ref (g.μ n)::vs)) K X:=by
 cases h with
 |l e h=>rw[e] at k;cases k
 |b e h=>
  have cl:=T.rm.rr.cell n hn
  rw[e] at cl
  refine eX13 cl λx hx zq1 hz=>?_;clear cl;subst zq1
  rcases hm with rfl | rfl
  ·refine fH (M:=λvs=>Go P C g (call (.builtin "bytearray.append") (.ref (g.μ n)::vs)) K X) h hv λa w p h=>p.int_el h λi t h=>?_
   refine D2 λ_ kk=>?_
   obtain⟨h0,h1,⟨h⟩⟩:=h
   refine kk ?_
   rw[Y1] at h1
   exact uJ T.rm.gd hx h0.1 h0.2 h1 (pI T hn e hx (AS h0) (by rw[Array.size_push];exact h1) (λ_=>.none) h)
  ·refine fH (M:=λvs=>Go P C g (call (.builtin "bytearray.extend") (.ref (g.μ n)::vs)) K X) h hv λa w p h=>p.bytes_el h λb t z h=>?_
   obtain⟨h1,⟨h⟩⟩:=h
   rw[Y1,Y1] at h1
   exact uI T.rm.gd hx h1 (pI T hn e hx (wG _ _) (by rw[Array.size_append];exact h1) (λ_=>.none) h)
theorem uP(T:St P r C ρ g){m n:Nat}{l:List AV}{vs:List Value}(hm:m=0∨m=2)(hn:n<g.H.length)(k:S0 (get g.H n)=1)(hv:VRs P g.v l vs)(h:yh m n l g.H K):
  Go P C g (call (.builtin (if m=0 then "list.append" else "list.pop")) (.ref (g.μ n)::vs)) K X:=by
 cases h with
 |b e h=>rw[e] at k;cases k
 |l e h=>
  have kd:=(congrArg S0 e).symm
  have cl:=T.rm.rr.cell n hn
  rw[e] at cl
  refine eX23 cl λxs k hx hw hz=>?_;clear cl
  have lv:=dK hn e rfl
  have ln:=hw.len
  rcases hm with rfl | rfl
  ·refine fH (M:=λvs=>Go P C g (call (.builtin "list.append") (.ref (g.μ n)::vs)) K X) h hv λa u p h=>?_
   obtain⟨h1,⟨h⟩⟩:=h
   refine eX11 (iM (f:=(·.push u)) (items:=xs) (n:=k)) λn' e'=>?_
   have w:(g.s.heap.update (g.μ n) (Obj.mapSeq λx=>x.push u)).get? (g.μ n)=some { cls:=.type "list",data:=.seq (xs.push u) n' }:=by
    rw[←e'];exact Heap.get?_update_self (Obj.mapSeq (·.push u)) hx rfl
   refine v9 (call_meets F.slot_list_append ⟨_,hx,rfl⟩ F.entry_list_append (F.args_list_append_2 _ _) (list_append (g.μ n) xs k u (by rw[←Array.length_toList,←ln,F0];unfold K8 at hz;exact hz)) ⟨hx,?_⟩)
   refine T.rm.rr.valU (c:=.list (_++[a])) lv (λy hy=>Heap.get?_update_ne _ _ _ _ hy) rfl rfl kd ⟨_,w⟩ (λkp=>⟨_,_,w,?_,by rw[d6];exact h1⟩) (λ_=>.none) h
   rw[Array.toList_push];exact VRs.app (.cons (p.kp kp) .nil) (hw.kp kp)
  ·cases hv with
   |cons _ _=>exact h.elim
   |nil=>
    obtain⟨h1,⟨h⟩⟩:=h
    refine eX12 (hw.last h1) λu e1 q=>?_
    rw[Array.length_toList] at e1
    refine v9 (Copied.pop_at hx (y:=u) (by simpa using e1) (λh' sb w=>?_) (by rw[←Array.length_toList,←ln,F0];unfold K8 at hz;exact hz))
    refine T.rm.rr.valU (c:=.list (List.dropLast _)) lv (λy hy=>sb.2 y hy) rfl rfl kd ⟨_,w⟩ (λkp=>⟨_,_,w,?_,by rw[List.length_dropLast];exact b6 (aw _ _) hz⟩) (λkp=>q.kp kp) h
    rw[Array.toList_pop];exact(hw.kp kp).init
theorem ui{m a b:Nat}(h:(Nat.beq m a||Nat.beq m b)=true):m=a∨m=b:=(K7.mp h).imp W5 W5
theorem zu(O:POK P){o:T}{m:Nat}{as:T}(io:Al P r o)(is:Al P r as):Al P r (.callL o m as):=λC z c=>I7 c λe c=>pF c λx nm ap l pos ca c=>s7 c λc7 c8=>by
 have ia:=is C (.es l) c8
 obtain rfl:=ca.n
 have hs:=fP (env:=C.env) (pos:=pos) ia.st
 refine ME.of (λ{ρ g K X} T h=>rf (iH ca.b) ca.z ca.l hs (cJ (Ok.start T) ((io C (.e x) c7).se T h) λg1 av v z1 o1 vr q=>vr.ref_el q λn hn q=>?_)) rfl
 obtain⟨hm,q⟩:=q
 have cl:=o1.T.rm.rr.cell n hn
 have kd:∀{g2:Sg} {avs:List AV},Stp nX g1 g2→yh m n avs g2.H K→S0 (get g2.H n)=S0 (get g1.H n):=λz2 h=>(z2.kd n hn).resolve_right λe=>by
  cases h with
  |l e' _=>rw[e'] at e;cases e
  |b e' _=>rw[e'] at e;cases e
 cases e:get g1.H n with
 |barr ks=>
  rw[e] at hm cl
  refine eX13 cl λb hx _ _=>?_;clear cl
  have hm:m=0∨m=1:=ui hm
  have main:A4 (I5 P C) C.A (cW pos (.builtin (if m=0 then "bytearray.append" else "bytearray.extend")) [.ref (g1.μ n)] (T6 pos (E0 l C.env)) []) (J4 P C.base g K) (af P C.base g X) g1.s:=Q3 hs (sU o1 (ia.se o1.T q) λg2 avs vs z2 o2 vr2 k q2=>⟨aF,by
   rw[←z2.mu n hn]
   exact fin o2 (uQ o2.T hm (i8 hn z2.len) ((kd z2 q2).trans (congrArg S0 e)) vr2 q2)⟩)
  rcases hm with rfl | rfl
  ·rw[O.a0];exact v9 (kX hx main)
  ·rw[O.a1];exact v9 (kW hx main)
 |list ks=>
  rw[e] at hm cl
  refine eX23 cl λxs k hx _ _=>?_;clear cl
  have hm:m=0∨m=2:=ui hm
  have main:A4 (I5 P C) C.A (cW pos (.builtin (if m=0 then "list.append" else "list.pop")) [.ref (g1.μ n)] (T6 pos (E0 l C.env)) []) (J4 P C.base g K) (af P C.base g X) g1.s:=Q3 hs (sU o1 (ia.se o1.T q) λg2 avs vs z2 o2 vr2 k q2=>⟨aF,by
   rw[←z2.mu n hn]
   exact fin o2 (uP o2.T hm (i8 hn z2.len) ((kd z2 q2).trans (congrArg S0 e)) vr2 q2)⟩)
  rcases hm with rfl | rfl
  ·rw[O.a0];exact v9 (getMethod_builtin ⟨_,hx,rfl⟩ PySem.F.plainAttrs_list PySem.F.slot_list_append PySem.F.type_list_append (λa e=>by cases e;exact⟨_,hx,rfl⟩) main)
  ·rw[O.a2];exact v9 (Copied.getMethod_pop_at hx rfl rfl main)
 |_=>rw[e] at hm;exact absurd hm e9
end
noncomputable abbrev Sg.to(g:Sg)(s:Shared):Sg:=⟨g.S,g.μ,g.H,s⟩
section
variable{P:Prg}{r:Nat}{C:Cx}{ρ ρ':Loc}{g g₀ g':Sg}{K:KE}{X:XE}{E:Value→Shared→Prop}{s s':Shared}{v u:Value}{av bv:AV}{V:Vw}{a:Addr}{N:KN}{Rk:KE}{XX:XS}{Y:Addr→Prop}
theorem R.priv{base:Heap}(r:R P base g)(hx:¬g.S a)(hm:∀n,P7 g.H n→a≠g.μ n)(hb:base.get? a=none)(kp:∀y,y≠a→s'.heap.get? y=g.s.heap.get? y)(nw:∃o,s'.heap.get? a=some o)(hg:s'.gens=g.s.gens)(ho:s'.os=g.s.os):
  R P base (g.to s')∧∀Y:Addr→Prop,Y a→Stp Y g (g.to s'):=by
 have sn:∀b,g.S b→s'.heap.get? b=g.s.heap.get? b:=λb x=>kp b λq=>hx (q▸x)
 refine⟨r.same (λb o e=>(kp b λq=>?_).trans (r.stays b o e)) sn (λn l o e=>(kp _ λq=>hm n l q.symm).trans e) hg,λY ya=>
  ⟨d8 _,λ_ _=>rfl,λn h l=>absurd l.1 (I8.mpr h),λ_ _=>.inl rfl,λ_ x=>x,λ_ x=>.inl x,sn,λb o e=>?_,λb o e _ _ h3=>⟨o.slots,(kp b λq=>h3 (q▸ya)).trans e,λ_=>rfl⟩,hg,ho⟩⟩
 ·rw[q,hb] at e;exact nomatch e
 ·by_cases q:b=a
  ·rw[q];exact nw
  ·exact⟨o,(kp b q).trans e⟩
theorem kY{base h h':Heap}(kp:∀y,y≠a→h'.get? y=h.get? y)(nw:∃o,h'.get? a=some o∧∀vs,o.data≠.fields vs){l:List Env}(x:h.FunFrames base l):h'.FunFrames base l:=by
 induction l with
 |nil=>trivial
 |cons env rest ih=>
  refine eX03 x λhk zn1 hr=>?_;clear x;refine eX24 zn1 λL o hf hn ho hd=>?_;clear zn1
  refine⟨hk,?_,ih hr⟩
  by_cases q:L=a
  ·refine eX12 nw λo' e q'=>?_;clear nw
   exact⟨L,o',hf,hn,by rw[q];exact e,q'⟩
  ·exact⟨L,o,hf,hn,(kp L q).trans ho,hd⟩
theorem pN{vt:List Str}(nd:vt.Nodup){i j:Nat}{x:Str}(hi:vt[i]?=some x)(hj:vt[j]?=some x):i=j:=by
 obtain⟨li,ei⟩:=D4.mp hi
 obtain⟨lj,ej⟩:=D4.mp hj
 exact(List.getElem_inj nd (h₀:=li) (h₁:=lj)).mp (ei.trans ej.symm)
theorem St.bound(T:St P r C ρ g){i:Nat}(fa:FA C.env a)(kp:∀y,y≠a→s'.heap.get? y=g.s.heap.get? y)(nw:∃o,s'.heap.get? a=some o∧∀vs,o.data≠.fields vs)(nd:∀o o',g.s.heap.get? a=some o→s'.heap.get? a=some o'→Ag o→Ag o')(hg:s'.gens=g.s.gens)(ho:s'.os=g.s.os)
  (vars:Kp g.v (g.to s').v→pL P C (dk ρ i av) (g.to s')):(∀Y:Addr→Prop,Y a→Stp Y g (g.to s'))∧St P r C (dk ρ i av) (g.to s'):=by
 refine eX03 (T.own a fa) λo1 o2 o3=>?_
 refine eX02 (T.rm.rr.priv (s':=s') o1 o2 o3 kp (eX12 nw λo e _=>⟨o,e⟩) hg ho) λrr y=>?_
 have yy:=y (FA C.env) fa
 refine⟨y,⟨rr,T.rm.hd,T.rm.fr,kY kp nw T.rm.ff,T.rm.fo,λL hL o' e'=>?_,T.rm.gd,T.rm.dp,T.rm.un⟩,T.kind,T.gl,T.bl,T.own,λb x=>eX11 (T.oex b x) λo e=>yy.dom b o e,vars yy.kp,T.nd,by rw[oO];exact T.rl,T.cd,T.cl⟩
 refine eX11 (Q4 T.rm.ff L hL) λo e=>?_
 by_cases q:L=a
 ·subst q;exact nd o o' e e' (T.rm.fc L hL o e)
 ·have e':s'.heap.get? L=some o':=e'
  rw[kp L q,e] at e';cases e';exact T.rm.fc L hL _ e
theorem ID{vt:List Str}{i:Nat}{x:Str}(h:hH vt i x=true):vt[i]?=some x:=of_decide_eq_true h
theorem St.storeL(T:St P r C ρ g){i:Nat}{x:Str}{M:Model}{A':Around}{Q:Unit→Shared→Prop}(hi:C.vt[i]?=some x)(k:C.env.scope.names.lookup x=some .local)(vr:VR P g.v av v)
  (h:∀s',(∀Y:Addr→Prop,Y C.env.locals→Stp Y g (g.to s'))→St P r C (dk ρ i av) (g.to s')→Q () s'):n9 M A' (storeName C.env x v) Q E g.s:=by
 refine eX12 T.vars λm n q=>?_
 have il:i<ρ.length:=by rw[←T.rl];exact(D4.mp hi).1
 refine wpAny_storeName_local (m:=m) k n (λh' n' sb=>?_) (by rw[T.kind];rfl)
 refine eX33 (id n') λo' es' ep' e' d' _=>?_
 refine eX02 (T.bound (i:=i) (s':={ g.s with heap:=h',toks:=g.s.toks+1 }) (av:=av) (.inl rfl) sb.2 ⟨o',e',λvs z=>by rw[d'] at z;cases z⟩ (λo o2 _ q _=>by rw[show h'.get? C.env.locals=some o2 from q] at e';cases e';exact⟨_,_,d'⟩) rfl rfl λkp=>by
  refine⟨_,n',λj x' e=>⟨λk' u=>?_,λk'=>?_⟩⟩
  ·by_cases z:j=i
   ·subst z
    rw[hi] at e;cases e
    rw[jU il] at u ⊢
    exact⟨v,if_pos rfl,vr.kp kp⟩
   ·rw[gF z] at u ⊢
    refine eX12 ((q j x' e).1 k' u) λw' e1 e2=>?_
    exact⟨w',by rw[if_neg λw:x'=x=>z (pN T.nd (w▸e) hi)];exact e1,e2.kp kp⟩
  ·refine eX12 ((q j x' e).2 k') λc e1 zn2=>?_;refine eX12 zn2 λcv ic e2=>?_;clear zn2
   have nz:j≠i:=λw=>by subst w;rw[hi] at e;cases e;rw[show C.env.kindOf x=some .local from k] at k';exact nomatch k'
   rw[gF nz]
   refine eX12 ic λoc ec dc=>?_;clear ic
   exact⟨c,e1,cv,⟨oc,(sb.2 c (T.cl x' c (Z4 e1))).trans ec,dc⟩,λu=>eX12 (e2 u) λw' a1 a2=>⟨w',a1,a2.kp kp⟩⟩) λy t=>?_
 exact h _ y t
theorem St.store(T:St P r C ρ g){i:Nat}{x:Str}{M:Model}{A':Around}{Q:Unit→Shared→Prop}(hi:hH C.vt i x=true)(hk:iC C.env.scope.names x=true)(vr:VR P g.v av v)
  (h:∀s',Stp (FA C.env) g (g.to s')→St P r C (dk ρ i av) (g.to s')→Q () s'):n9 M A' (storeName C.env x v) Q E g.s:=by
 have hi:=ID hi
 rcases mT hk with k | k
 ·exact T.storeL hi k vr λs' y t=>h s' (y _ (.inl rfl)) t
 refine eX12 T.vars λm n q=>?_
 have il:i<ρ.length:=by rw[←T.rl];exact(D4.mp hi).1
 refine eX12 ((q i x hi).2 k) λc e1 zn3=>?_;refine eX12 zn3 λcv ic e2=>?_;clear zn3
 refine wpAny_storeName_cell T.kind k e1 ic λh' ic' sb=>?_
 refine eX12 (id ic') λo' e' d'=>?_
 have mem:=Z4 e1
 refine eX02 (T.bound (i:=i) (s':={ g.s with heap:=h' }) (av:=av) (.inr ⟨x,mem⟩) sb.2 ⟨o',e',λvs z=>by rw[d'] at z;cases z⟩ (λo o2 q _ z=>by refine eX12 ic λo3 e3 d3=>?_;clear ic;rw[e3] at q;cases q;refine eX21 z λ_ _ z=>?_;rw[d3] at z;cases z) rfl rfl λkp=>by
  have nl:C.env.locals≠c:=λz=>T.cl x c mem z.symm
  refine eX32 (id n) λon es ep en r'=>?_
  refine⟨m,⟨on,es,ep,(sb.2 _ nl).trans en,r'⟩,λj x' e=>⟨λk' u=>?_,λk'=>?_⟩⟩
  ·have nz:j≠i:=λw=>by subst w;rw[hi] at e;cases e;rw[show C.env.kindOf x=some .cell from k] at k';exact nomatch k'
   rw[gF nz] at u ⊢
   refine eX12 ((q j x' e).1 k' u) λw' a1 a2=>?_
   exact⟨w',a1,a2.kp kp⟩
  ·by_cases z:j=i
   ·subst z
    rw[hi] at e;cases e
    rw[jU il]
    exact⟨c,e1,some v,ic',λ_=>⟨v,rfl,vr.kp kp⟩⟩
   ·rw[gF z]
    refine eX12 ((q j x' e).2 k') λc' d1 zn4=>?_;refine eX12 zn4 λcv' ic2 d2=>?_;clear zn4
    have ne:c'≠c:=λw=>z (pN T.nd (T.cd x' x c (w▸Z4 d1) mem▸e) hi)
    refine eX12 ic2 λoc ec dc=>?_;clear ic2
    exact⟨c',d1,cv',⟨oc,(sb.2 c' ne).trans ec,dc⟩,λu=>eX12 (d2 u) λw' a1 a2=>⟨w',a1,a2.kp kp⟩⟩) λy t=>?_
 exact h _ (y _ (.inr ⟨x,mem⟩)) t
theorem Cn(O:POK P){f:Nat}(x:VR P V av u)(hf:f<P.nA){fs:List (Nat×AV)}{ws:List Value}{m:Str→Option Value}(h1:VRs P V (fs.map Prod.snd) ws)(h2:Fl P fs ws m):
  ∃ws',VRs P V ((st fs f av).map Prod.snd) ws'∧Fl P (st fs f av) ws' λy=>if y=P.an f then some u else m y:=by
 induction fs generalizing ws m with
 |nil=>
  cases h1
  refine⟨[u],.cons x .nil,hf,if_pos rfl,λy=>?_⟩
  by_cases q:y=P.an f
  ·exact if_pos q
  ·show (if y=P.an f then none else if y=P.an f then some u else m y)=none
   rw[if_neg q,if_neg q];exact h2 y
 |cons p r ih=>
  cases h1 with | cons a b=>
  refine eX03 h2 λc1 c2 c3=>?_;clear h2
  show ∃ws',VRs P V ((match Nat.beq p.1 f with | true=>(f,av)::r | false=>p::st r f av).map Prod.snd) ws'∧Fl P (match Nat.beq p.1 f with | true=>(f,av)::r | false=>p::st r f av) ws' _
  cases q:Nat.beq p.1 f with
  |true=>
   have q:=W5 q
   refine⟨_,.cons x b,hf,if_pos rfl,?_⟩
   have e:(λy=>if y=P.an f then none else (λy=>if y=P.an f then some u else m y) y)=λy=>if y=P.an p.1 then none else m y:=by
    funext y
    rw[q]
    by_cases z:y=P.an f
    ·rw[if_pos z,if_pos z]
    ·rw[if_neg z,if_neg z];exact if_neg z
   show Fl P r _ _
   rw[e];exact c3
  |false=>
   have ne:P.an p.1≠P.an f:=λz=>by rw[O.inj _ _ c1 hf z,Nat.beq_refl] at q;exact nomatch q
   refine eX12 (ih b c3) λws' d1 d2=>?_
   refine⟨_,.cons a d1,c1,(if_neg ne).trans c2,?_⟩
   have e:(λy=>if y=P.an p.1 then none else (λy=>if y=P.an f then some u else m y) y)=λy=>if y=P.an f then some u else (λy=>if y=P.an p.1 then none else m y) y:=by
    funext y
    by_cases z:y=P.an p.1
    ·rw[if_pos z,z,if_neg ne];exact(if_pos rfl).symm
    ·rw[if_neg z]
     show _=if y=P.an f then some u else if y=P.an p.1 then none else m y
     rw[if_neg z]
   show Fl P (st r f av) ws' _
   rw[e];exact d2
theorem AG(fs:List (Nat×AV))(f:Nat)(v:AV):(Mine.st fs f v).length≤fs.length+1:=by
 induction fs with
 |nil=>exact d8 _
 |cons p r ih=>
  show (match Nat.beq p.1 f with | true=>(f,v)::r | false=>p::st r f v).length≤_
  cases Nat.beq p.1 f with
  |true=>exact P8 _
  |false=>exact E8 ih
theorem oF{α:Type}[BEq α][LawfulBEq α]:∀{l1 l2:List α},l1.Nodup→(∀x∈l1,x∈l2)→l1.length≤l2.length
 |[],_,_,_=>j9 _
 |x::r,l2,nd,sub=>by
  have h1:=List.length_erase_of_mem (sub x (.head _))
  have h2:0<l2.length:=List.length_pos_of_mem (sub x (.head _))
  have ih:=oF (l1:=r) (l2:=l2.erase x) (I2.mp nd).2 λy hy=>
   (List.mem_erase_of_ne λe:y=x=>(I2.mp nd).1 (e▸hy)).mpr (sub y (.tail _ hy))
  rw[m9];lia -abstractProof
theorem wM{fs:List (Nat×AV)}{ws:List Value}{m:Str→Option Value}(h:Fl P fs ws m){x:Str}(ne:m x≠none):x∈fs.map (λp=>P.an p.1):=by
 induction fs generalizing ws m with
 |nil=>cases ws with
  |nil=>exact absurd (h x) ne
  |cons _ _=>exact h.elim
 |cons p r ih=>cases ws with
  |nil=>exact h.elim
  |cons w ws=>
   by_cases q:x=P.an p.1
   ·rw[q];exact E4
   ·exact C3 _ (ih h.2.2 (by rw[if_neg q];exact ne))
noncomputable def yv(e:DictEntry):Str:=match e.key with
 |.str n _=>n
 |_=>""
theorem uy{h:Heap}{d:Addr}{fs:List (Nat×AV)}{ws:List Value}{m:Str→Option Value}(x:h.Ns1 d m)(F:Fl P fs ws m){o:Obj}{es:Array DictEntry}{ep:Nat}(ho:h.get? d=some o)(hd:o.data = .dict es ep):es.size≤fs.length:=by
 refine eX34 x λo' es' ep' ho' hd' sk zy4=>eX02 zy4 λuk hf=>?_;clear x
 rw[ho] at ho';cases ho'
 rw[hd] at hd';cases hd'
 have ke:∀e∈es.toList,∀y,e.key.isStr y=true↔yv e=y:=λe he y=>by
  refine eX21 (sk e (Array.mem_toList_iff.mp he)) λn t q=>?_
  unfold yv
  rw[q]
  show (n==y)=true↔n=y
  exact beq_iff_eq
 have l1:es.size=(es.toList.map yv).length:=by simp
 have l2:fs.length=(fs.map (λp=>P.an p.1)).length:=by simp
 rw[l1,l2]
 refine oF ?_ λy hy=>?_
 ·rw[List.nodup_iff_pairwise_ne,List.pairwise_map]
  exact List.Pairwise.imp_of_mem (λ{a b} ha hb q e=>q (yv a) ((ke a ha _).mpr rfl) ((ke b hb _).mpr e.symm)) uk
 ·refine eX12 (F7.mp hy) λe he zq1=>?_;subst zq1
  refine wM F λz=>?_
  rw[←hf] at z
  unfold nsFind findBy at z
  rw[←Array.find?_toList,Option.map_eq_none_iff,List.find?_eq_none] at z
  exact z e he ((ke e he _).mpr rfl)
theorem qQ(O:POK P)(rr:R P C.base g){f:Nat}{F:Hp→Prop}{Q:Unit→Shared→Prop}(x:VR P g.v bv v)(hf:f<P.nA)(vr:VR P g.v av u)(h:xl (bo P r) bv f av g.H F)
  (k:∀g',R P C.base g'→(∀Y,Stp Y g g')→F g'.H→Q () g'.s):n9 (I5 P C) C.A (setAttr v (P.an f) u) Q E g.s:=by
 cases x with
 |obj c n x hn hs hx=>
  refine eX02 (ij h) λhm h=>?_
  cases h with | mk hg h=>
  obtain⟨hz,h⟩:=h
  obtain⟨h⟩:=tE h
  have kd:=(congrArg S0 hg).symm
  have cl:=rr.cell n hn
  rw[hg] at cl
  refine eX02 cl λzn5 zn6=>?_;clear cl;refine eX12 zn5 λo ho hc=>?_;clear zn5;refine eX13 zn6 λm hm1 zn7 hz'=>?_;clear zn6;refine eX12 zn7 λws F1 F2=>?_;clear zn7
  have kin:P.K.In g.s.heap:=rr.kb.keeps rr.stays
  have I:InstAt g.s.heap x (G4 (P.ca c) (g.μ n)) (P.ca c) (some o):=⟨hx,rfl,rfl,ho⟩
  have ht:takerIn P.K (P.ca c) (P.an f)=some none:=by unfold takerIn;rw[O.m0 c f hf hm];rfl
  refine set_plain kin I (O.cs c) ?_
  have kin':P.K.In ({ g.s with toks:=g.s.toks+1 }:Shared).heap:=kin
  have I':InstAt ({ g.s with toks:=g.s.toks+1 }:Shared).heap x (G4 (P.ca c) (g.μ n)) (P.ca c) (some o):=I
  refine osa_open kin' I' (O.cp c) ht λb=>?_
  refine eX12 (any_some (show (clsIn P.K (P.ca c)).any (·.hasDict)=true from O.ch c)) λcd hcd hd'=>?_
  dsimp only
  refine i7 (m6 (i7 (i7 (wpAny_loadPart hx (i7 ((looks_clsIn kin' hcd).here ?_))))))
  rw[hd']
  refine m6 (a:=some (g.μ n)) (i7 (m6 (i7 (wpAny_nsSet1EFk (s:={ g.s with toks:=g.s.toks+1 }) hm1 λh' n' sb same=>?_))))
  refine eX13 (same o ho) λo' e' c' _=>?_
  have lv:=dK hn hg rfl
  refine eX02 (rr.upd (s':={ g.s with heap:=h',toks:=g.s.toks+1+1 }) (c:=.dict (Mine.st _ f av)) lv sb.2 rfl rfl kd ⟨_,e'⟩ (λkk=>⟨⟨o',e',c'.trans hc⟩,_,n',Cn O (vr.kp kk) hf (F1.kp kk) F2,b6 (AG _ f av) (b6 (E8 (A9 hz)) (by decide))⟩)) λr' y'=>?_
  have cl':=r'.cell n (show n<(put g.H n _).length by rw[eU];exact hn)
  rw[show get (Sg.H ⟨g.S,g.μ,put g.H n _,_⟩) n=_ from dM hn] at cl'
  refine eX02 cl' λ_ zn8=>?_;clear cl';refine eX13 zn8 λm' nn zn9 zz=>?_;clear zn8;refine eX12 zn9 λws' _ FF=>?_;clear zn9
  refine eX33 (id nn) λo2 es ep e2 d2 _=>?_
  have sz:=uy nn FF e2 d2
  refine i7 (wpAny_lookBehind e2 (by rw[d2];exact pastItsLine_dict (by rw[F0];exact b6 sz (b6 zz (by decide)))) ?_)
  exact m6 (k _ r' y' h)
 |_=>exact h.elim
theorem VRs.set{l:List AV}{vs:List Value}(q:VR P V av v)(x:VRs P V l vs)(i:Nat):VRs P V (l.set i av) (vs.set i v):=by
 induction l generalizing vs i with
 |nil=>cases x;exact .nil
 |cons a l ih=>cases x with | cons p p'=>cases i with
  |zero=>exact .cons q p'
  |succ i=>exact .cons p (ih p' i)
theorem BN{b:Array UInt8}{i:Nat}{k:Int}(hb:within k 256):bI (b.setIfInBounds i k.toNat.toUInt8)=(bI b).set i k:=by
 have:=qC (ks:=[k]) (λy hy=>by rw[i6.mp hy];exact hb)
 have e:((k.toNat.toUInt8).toNat:Int)=k:=by
  unfold bI byteArr at this
  simpa using this
 unfold bI
 rw[Array.toList_setIfInBounds,List.map_set,e]
theorem nW(rr:R P C.base g){n:Nat}{l:List AV}{t:Tok}{i:Int}{F:Hp→Prop}{Q:Unit→Shared→Prop}(hn:n<g.H.length)(hg:get g.H n = .list l)(vr:VR P g.v av u)(h:wJ l i (wr g.H n (.list (l.set i.toNat av)) F))
  (k:∀g',R P C.base g'→(∀Y,Stp Y g g')→F g'.H→Q () g'.s):n9 (I5 P C) C.A (setItem (.ref (g.μ n)) (.int i t) u) Q E g.s:=by
 refine D2 λ_ kk=>?_
 obtain⟨⟨h0,h1⟩,⟨h⟩⟩:=h
 refine kk ?_
 have kd:=(congrArg S0 hg).symm
 have cl:=rr.cell n hn
 rw[hg] at cl
 refine eX23 cl λxs m hx hw hz=>?_;clear cl
 have ln:=hw.len
 rw[Array.length_toList] at ln
 have lv:=dK hn hg rfl
 unfold setItem
 refine V9 (i7 (wpAny_sequenceKey (T:="list") ⟨_,hx,rfl⟩ (by decide) ?_))
 refine i7 (wpAny_callSpecial?_slot (name:=Str.ofString "__setitem__") (T:="list") ⟨_,hx,rfl⟩ slot_list_setitem (wpAny_call_entry slot_list_setitem ⟨_,hx,rfl⟩ entry_list_setitem ?_ (args_list_setitem _ _ _)))
 show n9 _ _ (Builtin.List.listSubscript? (.int i t)>>=_) _ _ g.s
 refine i7 (wpAny_listSubscript_int (fitsIndex_of h0 (by unfold K8 at hz;exact e7 h1 (e6 (m5.mpr hz) (by decide)))) ?_)
 refine eX11 (A1 h0) λj zq2=>?_;subst zq2
 have hj:j<xs.size:=by have e:l.length=xs.size:=ln;omega
 have hx':xs[j]?=some xs[j]:=Array.getElem?_eq_getElem hj
 show n9 _ _ ((seqItemAt (g.μ n) j>>=λr=>pure (r.map (j,·)))>>=_) _ _ g.s
 refine i7 (i7 (wpAny_seqItemAt hx rfl (m6 ?_)))
 rw[hx']
 show n9 _ _ (setSeqItemAt (g.μ n) j u>>=_) _ _ g.s
 refine eX11 (iM (f:=(·.setIfInBounds j u)) (items:=xs) (n:=m)) λn' e'=>?_
 have w:(g.s.heap.update (g.μ n) (Obj.mapSeq λx=>x.setIfInBounds j u)).get? (g.μ n)=some { cls:=.type "list",data:=.seq (xs.setIfInBounds j u) n' }:=by
  rw[←e'];exact Heap.get?_update_self (Obj.mapSeq (·.setIfInBounds j u)) hx rfl
 refine eX02 (rr.upd (s':={ g.s with heap:=g.s.heap.update (g.μ n) (Obj.mapSeq λx=>x.setIfInBounds j u) }) (c:=.list (l.set j av)) lv (λy hy=>Heap.get?_update_ne _ _ _ _ hy) rfl rfl kd ⟨_,w⟩ (λkp=>⟨_,_,w,by rw[Array.toList_setIfInBounds];exact VRs.set (vr.kp kp) (hw.kp kp) j,by rw[aS];exact hz⟩)) λr4 y4=>?_
 refine i7 (wpAny_setSeqItemAt hx rfl ?_)
 have fin:=k _ r4 y4 h
 first
  |exact i7 (m6 (m6 ⟨.none,rfl,m6 fin⟩))
  |exact m6 ⟨.none,rfl,m6 fin⟩
theorem xk(rr:R P C.base g){t:Tok}{i:Int}{F:Hp→Prop}{Q:Unit→Shared→Prop}(x:VR P g.v bv v)(vr:VR P g.v av u)(h:CH bv i av g.H F)
  (k:∀g',R P C.base g'→(∀Y,Stp Y g g')→F g'.H→Q () g'.s):n9 (I5 P C) C.A (setItem v (.int i t) u) Q E g.s:=by
 refine x.ref_el h λn hn h=>?_
 cases h with
 |l e h=>exact nW rr hn e vr h k
 |b e h=>
  refine vr.int_el h λkk t2 h=>?_
  have kd:=(congrArg S0 e).symm
  have cl:=rr.cell n hn
  rw[e] at cl
  refine eX13 cl λb hx zq10 hz=>?_;clear cl;subst zq10
  obtain⟨hb,⟨h0,h1⟩,⟨h⟩⟩:=h
  rw[Y1] at h1
  refine mw hx h0 h1 hz hb.1 hb.2 ?_
  have w:=Heap.get?_update_self (Obj.mapBytearray (·.setIfInBounds i.toNat kk.toNat.toUInt8)) hx rfl
  refine eX02 (rr.upd (s':={ g.s with heap:=g.s.heap.update (g.μ n) (Obj.mapBytearray (·.setIfInBounds i.toNat kk.toNat.toUInt8)) }) (c:=.barr ((bI b).set i.toNat kk)) (dK hn e rfl) (λy hy=>Heap.get?_update_ne _ _ _ _ hy) rfl rfl kd ⟨_,w⟩ (λkp=>⟨_,w,BN hb,by rw[Array.size_setIfInBounds];exact hz⟩)) λr4 y4=>?_
  exact k _ r4 y4 h
end
section
variable{M:Model}{A:Around}{E:Value→Shared→Prop}{s:Shared}{α:Type}{env:Env}
theorem lC{m:Sem α}{k:Value→Sem Unit}{Q:α→Shared→Prop}(h:A4 M A m Q (λe s'=>A4 M A (k e) (λ_ s''=>E e s'') E s') s):A4 M A (m.onRaise k) Q E s:=λΓ p i d=>by
 rw[Sem.wp_onRaise]
 exact Sem.wp_mono M Γ m (λ_ _ _ h'=>h') (λe p' s' h'=>h' Γ p' i d) p s (h Γ p i d)
theorem cR{m:Sem α}{k:Value→Sem Unit}{Q:α→Shared→Prop}(h:A4 M A m Q (λ_ _=>False) s):A4 M A (m.onRaise k) Q E s:=lC (K3 h (λ_ _ x=>x) λ_ _ x=>x.elim)
theorem gz{t v:PE}{pos:Pos}{Q:Flow→Shared→Prop}(h1:swapsWith v (some t) pos.line env=pure false)(h2:W0 [t] v env=pure none)(h3:F8 [t] env=[(false,aO t env)])
  (h:A4 M A (eval v env) (λx s₁=>A4 M A (aO t env x) (λ_=>Q .next) E s₁) E s):A4 M A (exec (.Assign [t] v pos) env) Q E s:=by
 rw[arm_exec_Assign]
 refine D7 (j8 (X9 (show swapsWithSole [t] v pos.line env=pure false from h1) (X8 e9 ?_)))
 refine D6 h λx s₁ h=>j8 (X9 h2 ?_)
 rw[h3]
 exact j8 (K3 h (λ_ _ z=>s8 z) λ_ _ z=>z)
theorem ew{v:PE}{t:Option PE}{l:Nat}(c:di v=true):swapsWith v t l env=pure false:=by
 cases v<;>first | exact absurd c e9 | rfl
theorem oK{x:Sem Value}{Q:Flow→Shared→Prop}(h:A4 M A x (λv s₁=>A4 M A (raiseStmt env (some (pure v)) none) Q E s₁) E s):A4 M A (raiseStmt env (some x) none) Q E s:=by
 unfold raiseStmt
 exact D6 h λv s₁ h=>h
theorem qD{x y:PE}{p:Pos}{v:Value}(c:aI y=true):aO (.Subscript x y p) env v=(do
  let ov ←J5 [v] (eval x env)
  let iv ←J5 [v,ov] (eval y env)
  Q2 p
  J5 [v,ov,iv] (setItem ov iv v)
  release [v,ov,iv] []):=by
 cases y<;>first | exact absurd c e9 | rfl
theorem zk{x y v:PE}{p pos:Pos}{op:Operator}(c:aI y=true):exec (.AugAssign (.Subscript x y p) op v pos) env=(do
  Q2 pos
  let ov ←eval x env
  let iv ←J5 [ov] (eval y env)
  let new ←J5 [ov,iv] do
   Q2 p
   let old ←getItem ov iv
   let v ←J5 [old] (eval v env)
   Q2 pos
   operate [old,v] (inplaceOp op old v)
  Q2 p
  J5 [new,ov,iv] (setItem ov iv new)
  release [new,ov,iv] []
  pure .next):=by
 cases y<;>first | exact absurd c e9 | rfl
end
section
variable{P:Prg}{r:Nat}{C:Cx}{ρ ρ':Loc}{g g₀ g':Sg}{K:KE}{X:XE}{E:Value→Shared→Prop}{s s':Shared}{v u:Value}{av bv:AV}{V:Vw}{a:Addr}{N:KN}{Rk:KE}{XX:XS}
theorem PX.toS(T:St P r C ρ g)(e:Value)(s:Shared)(h:af P C.base g (λc H=>XX c ρ H) e s):PostSX P r C g XX e s:=by
 cases h with | mk g' y rr k=>cases k with | mk x k=>exact .mk g' ρ (y.weak DB) (T.step y rr) x k
theorem Ok.sta(T:St P r C ρ g):Ok P r C ρ (λc H=>XX c ρ H) (PostSX P r C g XX) (FA C.env) g g:=⟨.refl,T,PX.toS T⟩
theorem Ok.next{f:Flow}(o:Ok P r C ρ X E (FA C.env) g₀ g)(y:Stp (FA C.env) g g')(T:St P r C ρ' g')(k:Ao P N Rk ρ' g' f):PostS P r C g₀ N Rk f g'.s:=.mk g' ρ' (o.y.trans y) T k
theorem Dz{t:Sem Flow}{X':XE}(o:Ok P r C ρ X' (PostSX P r C g₀ XX) (FA C.env) g₀ g)(h:Hs P r C g t N Rk XX):A4 (I5 P C) C.A t (PostS P r C g₀ N Rk) (PostSX P r C g₀ XX) g.s:=by
 refine K3 h (λf s z=>?_) λe s z=>?_
 ·cases z with | mk g2 ρ2 y2 T2 q=>exact .mk g2 ρ2 (o.y.trans y2) T2 q
 ·cases z with | mk g2 ρ2 y2 T2 x q=>exact .mk g2 ρ2 (o.y.trans y2) T2 (x.pre o.y.nn) q
theorem Ep{x:Nat}{e:T}(i:Al P r e):Al P r (.asg x e):=λC z c=>T7 c λs c=>ez c λl v pos c=>ao (M:=λl=>MS P r (.asg x e) C (.Assign l v pos)) c λt c=>s7 c λc1 c=>s7 c λc3 c4=>
 N4 (M:=λt=>MS P r (.asg x e) C (.Assign [t] v pos)) c1 λy p c1=>s7 c1 λc1 c2=>by
  refine⟨λ{ρ g N Rk X} tp T h=>?_⟩
  refine gz (ew c3) (by unfold W0;rfl) rfl (cJ (Ok.sta T) ((i C (.e v) c4).se T h) λg1 av w z1 o1 vr q=>?_)
  exact D7 (v9 (O7 (o1.T.store c1 c2 vr λs2 y2 T2=>o1.next y2 T2 (aJ q))))
theorem DZ{e:T}(i:Al P r e):Al P r (.ret e):=λC z c=>T7 c λs c=>mz c λo pos c=>by
 refine⟨λ{ρ g N Rk X} tp T h=>?_⟩
 cases o with
 |none=>
  obtain rfl:=nT c
  exact D7 (s8 ((Ok.sta (XX:=X) T).next (f:=.ret .none) .refl T (.mk .none h)))
 |some v=>exact D7 (D6 (cJ (Rr:=λv s1=>PostS P r C g N Rk (.ret v) s1) (Ok.sta T) ((i C (.e v) c).se T h) λg1 av w z1 o1 vr q=>o1.next .refl o1.T (.mk vr q)) λv s1 q=>s8 q)
theorem BU:Al P r .pass:=λC z c=>T7 c λs c=>rM c λpos _=>by
 refine⟨λ{ρ g N Rk X} tp T h=>?_⟩
 exact D7 (s8 (.mk (f:=.next) g ρ .refl T h))
theorem En:Al P r .bad:=λC z c=>by
 cases z with
 |ss l=>exact⟨λ_ _ h=>h.elim⟩
 |_=>exact absurd c e9
theorem Ho{c a b:T}(ic:Al P r c)(ia:Al P r a)(ib:Al P r b):Al P r (.if_ c a b):=λC z k=>T7 k λs k=>AO k λq x y pos k=>s7 k λc1 k=>s7 k λc2 c3=>by
 refine⟨λ{ρ g N Rk X} tp T h=>?_⟩
 rw[arm_exec_If]
 refine D7 (j8 (sV (Ok.sta T) ((ic C (.e q) c1).sb T Tr.of h) λg1 av b z1 o1 e w=>?_))
 have w:=fy e w
 cases b with
 |true=>exact Dz o1 ((ia C (.ss x) c2).h tp o1.T (w.t rfl))
 |false=>exact Dz o1 ((ib C (.ss y) c3).h tp o1.T (w.f rfl))
theorem Hq{e:T}(i:Al P r e):Al P r (.ex e):=λC z c=>T7 c λs c=>AP c λv pos c=>s7 c λc1 c2=>by
 refine⟨λ{ρ g N Rk X} tp T h=>?_⟩
 rw[arm_exec_Expr]
 have hi:interactive C.env=false:=by unfold interactive;rw[T.kind];rfl
 refine D7 ?_
 rw[hi]
 refine X8 e9 (j8 (X9 (ew c1) (X8 e9 ?_)))
 exact j8 (cJ (Ok.sta T) ((i C (.e v) c2).se T h) λg1 av w z1 o1 vr q=>v9 (wpAny_dropValue (o1.next (f:=.next) .refl o1.T q)))
theorem Ax(o:Ok P r C ρ X E (FA C.env) g₀ g){t:Nat}:Ok P r C ρ X E (FA C.env) g₀ (g.to { g.s with toks:=t }):=o.step DB (Stp.grow o.T.rm.rr .toks) (o.T.rm.rr.grow .toks)
theorem Eo{x o:Nat}{e:T}(i:Al P r e):Al P r (.aug x o e):=λC z c=>T7 c λs c=>jh c λt p v pos c=>s7 c λc1 c=>s7 c λc2 c=>N4 (M:=λt=>MS P r (.aug x o e) C (.AugAssign t p v pos)) c λy yp c=>s7 c λc3 c4=>by
 refine⟨λ{ρ g N Rk X} tp T h=>?_⟩
 refine eX02 (jV h) λu h=>?_
 rw[arm_exec_AugAssign]
 refine D7 (j8 (v9 (T.read c3 c4 u λold vr0=>vr0.int_el h λa t0 h=>?_)))
 refine j8 (C2 (cJ (Ok.sta T) ((i C (.e v) c2).se T h) λg1 av w z1 o1 vr q=>vr.int_el q λb t1 q=>D7 ?_))
 refine j8 (sd (v9 (gW c1 q λk kq=>?_).2))
 have o2:=Ax o1 (t:=g1.s.toks+1)
 exact D7 (j8 (v9 (O7 (o2.T.store c3 c4 (.int k _) λs2 y3 T3=>s8 (o2.next y3 T3 (aJ kq))))))
theorem Cj(O:POK P){o:T}{f:Nat}{e:T}(io:Al P r o)(ie:Al P r e):Al P r (.asgA o f e):=λC z c=>T7 c λs c=>ez c λl v pos c=>ao (M:=λl=>MS P r (.asgA o f e) C (.Assign l v pos)) c λt c=>s7 c λc1 c=>s7 c λc2 c=>
 eu (M:=λt=>MS P r (.asgA o f e) C (.Assign [t] v pos)) c λx n p c=>s7 c λc3 c=>s7 c λc4 c5=>by
  refine⟨λ{ρ g N Rk X} tp T h=>?_⟩
  obtain rfl:=of_decide_eq_true c3
  refine gz (ew c1) (by unfold W0;rfl) rfl (cJ (Ok.sta T) ((ie C (.e v) c2).se T h) λg1 av w z1 o1 vr q=>?_)
  show A4 _ _ (do
   let ov ←J5 [w] (eval x C.env)
   Q2 p.atName
   J5 [w,ov] (setAttr ov (P.an f) w)
   release [w,ov] []) _ _ _
  refine j8 (C2 (cJ o1 ((io C (.e x) c5).se o1.T q) λg2 ov vo z2 o2 vr2 q2=>D7 ?_))
  exact j8 (C2 (v9 (qQ O o2.T.rm.rr vr2 (wQ c4) (vr.kp z2.kp) q2 λg3 r3 y3 q3=>v9 (cP (o2.next (f:=.next) (y3 _) (o2.T.step (y3 nX) r3) q3)))))
theorem Cg{o i e:T}(io:Al P r o)(ii:Al P r i)(ie:Al P r e):Al P r (.asgS o i e):=λC z c=>T7 c λs c=>ez c λl v pos c=>ao (M:=λl=>MS P r (.asgS o i e) C (.Assign l v pos)) c λt c=>s7 c λc1 c=>s7 c λc2 c=>
 jb (M:=λt=>MS P r (.asgS o i e) C (.Assign [t] v pos)) c λx y p c=>s7 c λc3 c=>s7 c λc4 c5=>by
  refine⟨λ{ρ g N Rk X} tp T h=>?_⟩
  refine gz (ew c1) (by unfold W0;rfl) rfl (cJ (Ok.sta T) ((ie C (.e v) c2).se T h) λg1 av w z1 o1 vr q=>?_)
  rw[qD c3]
  refine j8 (C2 (cJ o1 ((io C (.e x) c4).se o1.T q) λg2 ov vo z2 o2 vr2 q2=>?_))
  refine j8 (C2 (cJ o2 ((ii C (.e y) c5).se o2.T q2) λg3 iv vi z3 o3 vr3 q3=>vr3.int_el q3 λi t q3=>D7 ?_))
  exact j8 (C2 (v9 (xk o3.T.rm.rr (vr2.kp z3.kp) ((vr.kp z2.kp).kp z3.kp) q3 λg4 r4 y4 q4=>v9 (cP (o3.next (f:=.next) (y4 _) (o3.T.step (y4 nX) r4) q4)))))
theorem Cd(O:POK P){ob:T}{f o:Nat}{e:T}(io:Al P r ob)(ie:Al P r e):Al P r (.augA ob f o e):=λC z c=>T7 c λs c=>jh c λt p v pos c=>s7 c λc1 c=>s7 c λc2 c=>
 eu (M:=λt=>MS P r (.augA ob f o e) C (.AugAssign t p v pos)) c λx n ap c=>s7 c λc3 c=>s7 c λc4 c5=>by
  refine⟨λ{ρ g N Rk X} tp T h=>?_⟩
  obtain rfl:=of_decide_eq_true c3
  rw[arm_exec_AugAssign_2]
  refine D7 (j8 (cJ (Ok.sta T) ((io C (.e x) c5).se T h) λg1 ov vo z1 o1 vr q=>j8 (C2 (D7 ?_))))
  have gf:Go P C g1 (getAttr vo (P.an f) true) (λa H=>H=g1.H∧G2 a λa=>R9 (bo P r) e ρ H (λw H=>G2 w λb=>binI o a b λv=>xl (bo P r) ov f v H (N ρ)) λc H=>X c ρ H) λc H=>X c ρ H:=by
   cases vr with
   |obj cc k x hk hs hx=>
    refine eX02 (ij q) λhm q=>?_
    cases q with | mk hg q=>
    have cl:=o1.T.rm.rr.cell k hk
    rw[hg] at cl
    refine eX02 cl λ_ zn1=>?_;clear cl;refine eX13 zn1 λm hn F _=>?_;clear zn1
    refine eX02 (qf q) λu q=>?_
    refine eX12 F λws F1 F2=>?_;clear F
    refine eX32 (id hn.ns) λod es ep ho r'=>?_
    rcases uV O F1 F2 (wQ c4) with ⟨_,y,e1,e2⟩ | ⟨e,_⟩
    ·exact v9 (get_value o1.T.kin (⟨hx,rfl,rfl,ho⟩:InstAt g1.s.heap x (G4 (P.ca cc) (g1.μ k)) (P.ca cc) (some od)) (plainGet_of (O.cg cc (P.an f))).1 (findObj_own (attr:=none) (O.ch cc) (O.m0 cc f (wQ c4) hm) rfl (by rw[iB hn.ns ho,e1])) e2.handed (o1.T.val .toks e2 ⟨rfl,q⟩))
    ·rw[e] at u;exact nomatch u
   |_=>exact q.elim
  refine j8 (cJ o1 gf λg2 av old z2 o2 vr2 q2=>?_)
  refine eX02 q2 λe2 q2=>?_
  refine vr2.int_el q2 λa t1 q2=>j8 (C2 (cJ o2 ((ie C (.e v) c2).se o2.T q2) λg3 wv wu z3 o3 vr3 q3=>vr3.int_el q3 λb t2 q3=>D7 ?_))
  refine sd (v9 (gW c1 q3 λkk kq=>?_).2)
  have o4:=Ax o3 (t:=g3.s.toks+1)
  refine D7 (j8 (C2 (v9 (qQ (g:=g3.to { g3.s with toks:=g3.s.toks+1 }) O o4.T.rm.rr ((vr.kp z2.kp).kp z3.kp) (wQ c4) (.int kk _) kq λg5 r5 y5 q5=>?_))))
  exact j8 (v9 (cP (s8 (o4.next (f:=.next) (y5 _) (o4.T.step (y5 nX) r5) q5))))
theorem Cc{ob i:T}{o:Nat}{e:T}(io:Al P r ob)(ii:Al P r i)(ie:Al P r e):Al P r (.augS ob i o e):=λC z c=>T7 c λs c=>jh c λt p v pos c=>s7 c λc1 c=>s7 c λc2 c=>
 jb (M:=λt=>MS P r (.augS ob i o e) C (.AugAssign t p v pos)) c λx y ap c=>s7 c λc3 c=>s7 c λc4 c5=>by
  refine⟨λ{ρ g N Rk X} tp T h=>?_⟩
  rw[zk c3]
  refine D7 (j8 (cJ (Ok.sta T) ((io C (.e x) c4).se T h) λg1 ov vo z1 o1 vr q=>?_))
  refine j8 (C2 (cJ o1 ((ii C (.e y) c5).se o1.T q) λg2 iv vi z2 o2 vr2 q2=>?_))
  refine(vr.kp z2.kp).ref_el q2 λn hn q2=>vr2.int_el q2 λix t q2=>?_
  cases q2 with | mk e q2=>
  refine eX23 (du o2.T.rm.rr hn e) λxs m hx hw hz=>?_
  refine D2 λ_ kk=>?_
  obtain⟨⟨h0,h1⟩,q2⟩:=q2
  refine kk ?_
  refine eX12 (hw.get (i:=ix.toNat) (by exact(E9 h0).mpr h1)) λu e3 vu=>?_
  refine j8 (C2 (D7 (j8 (v9 (wpAny_getItem_list (items:=xs.toArray) ⟨_,hx,rfl,_,rfl⟩ h0 (by unfold K8 at hz;exact e7 h1 (e6 (m5.mpr hz) (by decide))) (by simpa using e3) ?_)))))
  refine vu.int_el q2 λa t1 q2=>j8 (C2 (cJ o2 ((ie C (.e v) c2).se o2.T q2) λg3 wv wu z3 o3 vr3 q3=>vr3.int_el q3 λb t2 q3=>D7 ?_))
  refine sd (v9 (gW c1 q3 λkk kq=>?_).2)
  have o4:=Ax o3 (t:=g3.s.toks+1)
  cases kq with | mk hg' kq=>
  show A4 _ _ _ _ _ _
  refine D7 (j8 (C2 (v9 ?_)))
  rw[show g2.v.μ n=g3.μ n from (z3.mu n hn).symm]
  refine nW (g:=g3.to { g3.s with toks:=g3.s.toks+1 }) o4.T.rm.rr (i8 hn z3.len) hg' (.int kk _) kq λg5 r5 y5 q5=>?_
  exact j8 (v9 (cP (s8 (o4.next (f:=.next) (y5 _) (o4.T.step (y5 nX) r5) q5))))
end
section
variable{P:Prg}{r:Nat}{C:Cx}{ρ ρ₀:Loc}{g g₀ g':Sg}{K:KE}{X:XE}{E:Value→Shared→Prop}{s s':Shared}{v u:Value}{av bv:AV}{V V':Vw}{a I:Addr}{N:KN}{Rk:KE}{XX:XS}{Y:Addr→Prop}
theorem ext{D:Addr→Prop}(T₀:Rm P r C g₀)(y:Stp Y g₀ g)(T:St P r C ρ g)(nS:∀a,g.S a→¬D a)(nC:∀n,P7 g.H n→¬D (g.μ n))(nF:∀a,FA C.env a→¬D a)(n0:∀a,D a→g₀.s.heap.get? a=none)
  (kp:∀b x,¬D b→b∉C.outer.filterMap (·.frame)→g.s.heap.get? b=some x→s'.heap.get? b=some x)
  (fk:∀b x,b∈C.outer.filterMap (·.frame)→g.s.heap.get? b=some x→∃sl,s'.heap.get? b=some { x with slots:=sl })
  (hg:s'.gens=g.s.gens) (ho:s'.os=g.s.os):Stp Y g₀ (g.to s')∧St P r C ρ (g.to s')∧Kp g.v (g.to s').v:=by
 have up:∀b x,¬D b→g.s.heap.get? b=some x→∃sl,s'.heap.get? b=some { x with slots:=sl }:=λb x n e=>by
  by_cases m:b∈C.outer.filterMap (·.frame)
  ·exact fk b x m e
  ·exact⟨x.slots,kp b x n m e⟩
 have pk:∀b,g.S b→s'.heap.get? b=g.s.heap.get? b:=λb x=>by
  refine eX12 (T.rm.rr.sp b x) λz e d=>?_
  rw[e,kp b z (nS b x) (λm=>(T.rm.fo b m).1 x) e]
 have kk:Kp g.v (g.to s').v:=⟨d8 _,λ_ _=>rfl,λ_ x=>x,pk⟩
 have rr:R P C.base (g.to s'):=T.rm.rr.same (λb z e=>kp b z (λq=>by have:=T₀.rr.stays b z e;rw[n0 b q] at this;cases this) (λm=>by rw[(T.rm.ff.mem m).1] at e;cases e) (T.rm.rr.stays b z e)) pk
  (λn l x e=>kp _ x (nC n l) (λm=>(T.rm.fo _ m).2 n l rfl) e) hg
 refine⟨⟨y.len,y.mu,y.nw,y.kd,y.pi,y.pn,λa x=>(pk a (y.pi a x)).trans (y.pk a x),λa x e=>?_,λb x e h1 h2 h3=>?_,hg.trans y.gens,ho.trans y.os⟩,
  ⟨⟨rr,T.rm.hd,T.rm.fr,gN T.rm.ff λL hL x e=>fk L x hL e,T.rm.fo,λL hL x' e'=>?_,T.rm.gd,T.rm.dp,T.rm.un⟩,T.kind,T.gl,T.bl,T.own,λa fa=>?_,T.vars.step kk λa fa z e=>up a z (nF a fa) e,T.nd,T.rl,T.cd,T.cl⟩,kk⟩
 ·refine eX11 (y.dom a x e) λx' e'=>?_
  refine eX11 (up a x' (λn=>by rw[n0 a n] at e;cases e) e') λsl e2=>?_
  exact⟨_,e2⟩
 ·refine eX12 (y.out b x e h1 h2 h3) λsl e' q=>?_
  have nb:¬D b:=λn=>by rw[n0 b n] at e;exact nomatch e
  by_cases m:b∈C.outer.filterMap (·.frame)
  ·refine eX11 (fk b _ m e') λsl' e2=>?_
   exact⟨sl',e2,λd=>absurd (T₀.fc b m x e) d⟩
  ·exact⟨sl,kp b _ nb m e',q⟩
 ·refine eX11 (Q4 T.rm.ff L hL) λx e=>?_
  refine eX11 (fk L x hL e) λsl e2=>?_
  rw[e'] at e2;cases e2
  have:=T.rm.fc L hL x e
  exact this
 ·refine eX11 (T.oex a fa) λz e=>?_
  refine eX11 (up a z (nF a fa) e) λsl e2=>?_
  exact⟨_,e2⟩
structure Own(C:Cx)(g:Sg)(h0:Heap)(I:Addr):Prop where
 s:¬g.S I
 c:∀n,P7 g.H n→I≠g.μ n
 b:C.base.get? I=none
 f:∀a,FA C.env a→a≠I
 o:∀L,L∈C.outer.filterMap (·.frame)→L≠I
 n:h0.get? I=none
theorem Own.ext(o:Own C g g₀.s.heap I)(T₀:Rm P r C g₀)(y:Stp Y g₀ g)(T:St P r C ρ g)(kp:∀b x,b≠I→g.s.heap.get? b=some x→s'.heap.get? b=some x)(hg:s'.gens=g.s.gens)(ho:s'.os=g.s.os):
  Stp Y g₀ (g.to s')∧St P r C ρ (g.to s')∧Kp g.v (g.to s').v:=
 Z.ext (D:=λa=>a=I) T₀ y T (λa x q=>o.s (q▸x)) (λn l q=>o.c n l q.symm) o.f (λa q=>q▸o.n) (λb x n _ e=>kp b x n e) (λb x m e=>⟨x.slots,kp b x (o.o b m) e⟩) hg ho
theorem Own.step(o:Own C g s.heap I)(y:Stp Y g g')(ex:∃x,g.s.heap.get? I=some x):Own C g' s.heap I:=by
 refine eX02 (P7.far y ex o.s o.c) λa b=>?_
 exact⟨a,b,o.b,o.f,o.o,o.n⟩
theorem Own.new(T:St P r C ρ g)(y:Stp Y g₀ g)(n:g.s.heap.get? I=none):Own C g g₀.s.heap I:=by
 refine eX03 (T.rm.rr.far n) λf1 f2 f3=>?_
 refine⟨f1,f2,f3,λa fa q=>?_,λL hL q=>?_,y.nn I n⟩
 ·refine eX11 (T.oex a fa) λo e=>?_;rw[q,n] at e;cases e
 ·refine eX11 (Q4 T.rm.ff L hL) λo e=>?_;rw[q,n] at e;cases e
theorem Own.to(o:Own C g s.heap I):Own C (g.to s') s.heap I:=⟨o.s,o.c,o.b,o.f,o.o,o.n⟩
theorem Own.stay(o:Own C g s.heap I)(y:Stp Y g g')(nY:¬Y I){ob:Obj}(nd:¬Ag ob)(e:g.s.heap.get? I=some ob):g'.s.heap.get? I=some ob:=by
 refine eX12 (y.out _ _ e o.s o.c nY) λsl e' k=>?_
 rw[k nd] at e';exact e'
noncomputable def HT(o:Option (Nat×List AV))(H:Hp):Prop:=match o with
 |none=>True
 |some p=>get H p.1 = .list p.2
inductive Itr(P:Prg)(V:Vw)(I:Addr):Option (Nat×List AV)→List AV→Prop
 |l {l:List AV} {vs:List Value} {a:Addr} {n i:Nat} (s:V.S a) (g:V.h.get? a=some { cls:=.type "list",data:=.seq vs.toArray n }) (v:VRs P V l vs) (t:V.h.IsListIter I a i):Itr P V I none (l.drop i)
 |t {l:List AV} {vs:List Value} {a:Addr} {i:Nat} (s:V.S a) (g:V.h.get? a=some { cls:=.type "tuple",data:=.seq vs.toArray }) (v:VRs P V l vs) (t:V.h.IsTupleIter I a i):Itr P V I none (l.drop i)
 |b {b:Array UInt8} {t:Tok} {i:Nat} (t:KBw.IsBytesIter V.h I b t i):Itr P V I none (((bI b).drop i).map .int)
 |r {x left step:Int} (t:IsRangeIter V.h I x left step):Itr P V I none (I4 left.toNat x step)
 |c {n:Nat} {l:List AV} {i:Nat} (h:n<V.k) (t:V.h.IsListIter I (V.μ n) i):Itr P V I (some (n,l)) (l.drop i)
theorem Itr.kp{o:Option (Nat×List AV)}{rest:List AV}(Y:Kp V V')(e:∀o,V.h.get? I=some o→V'.h.get? I=some o)(x:Itr P V I o rest):Itr P V' I o rest:=by
 cases x with
 |l s g v t=>refine eX12 t λo x4 x5=>?_;clear t;exact .l (Y.ss _ s) ((Y.kp _ s).trans g) (v.kp Y) ⟨o,e o x4,x5⟩
 |t s g v t=>refine eX12 t λo x4 x5=>?_;clear t;exact .t (Y.ss _ s) ((Y.kp _ s).trans g) (v.kp Y) ⟨o,e o x4,x5⟩
 |b t=>refine eX12 t λo x4 x5=>?_;clear t;exact .b ⟨o,e o x4,x5⟩
 |r t=>exact .r (e _ t)
 |c h t=>refine eX13 t λo x4 x5 x6=>?_;clear t;exact .c (i8 h Y.le) ⟨o,e o x4,x5,by rw[Y.mu _ h];exact x6⟩
noncomputable abbrev Ak:List String:=["enumerate","zip","dict_itemiterator","dict_reverseitemiterator","odict_iterator","itertools.zip_longest","itertools.pairwise"]
theorem Itr.cls{o:Option (Nat×List AV)}{rest:List AV}(x:Itr P V I o rest):∃ob T,V.h.get? I=some ob∧ob.cls = .type T∧Ak.contains T=false∧¬Ag ob:=by
 have nd:∀{ob:Obj} {vs:Array Value},ob.data = .fields vs→¬Ag ob:=λe zt1=>eX21 zt1 λ_ _ z=>by rw[e] at z;cases z
 cases x with
 |l s g v t=>refine eX13 t λo x4 x5 x7=>?_;clear t;exact⟨o,_,x4,x5,by decide,nd x7⟩
 |t s g v t=>refine eX13 t λo x4 x5 x7=>?_;clear t;exact⟨o,_,x4,x5,by decide,nd x7⟩
 |b t=>refine eX13 t λo x4 x5 x7=>?_;clear t;exact⟨o,_,x4,x5,by decide,nd x7⟩
 |r t=>exact⟨_,_,t,rfl,by decide,nd rfl⟩
 |c h t=>refine eX13 t λo x4 x5 x7=>?_;clear t;exact⟨o,_,x4,x5,by decide,nd x7⟩
theorem lV{α:Type}{l:List α}{i:Nat}{v:α}{r:List α}(e:l.drop i=v::r):l[i]?=some v∧l.drop (i+1)=r:=by
 have h:i<l.length:=by
  rcases Nat.lt_or_ge i l.length with h | h
  ·exact h
  ·rw[L5 h] at e;cases e
 rw[List.drop_eq_getElem_cons h] at e
 injection e with e1 e2
 exact⟨by rw[J1 h,e1],e2⟩
theorem drop_nil{α:Type}{l:List α}{i:Nat}(e:l.drop i=[]):l.length≤i:=by
 have:=congrArg List.length e
 rw[V2] at this;exact Nat.le_of_sub_eq_zero this
theorem VRs.nth{l:List AV}{vs:List Value}{i:Nat}(x:VRs P V l vs)(e:l[i]?=some av):∃u,vs[i]?=some u∧VR P V av u:=by
 obtain⟨h,q⟩:=D4.mp e
 refine eX12 (x.get h) λu e1 w=>?_
 rw[t5,e] at w
 exact⟨u,e1,w⟩
theorem jD{l:List AV}{vs:List Value}{i:Nat}(x:VRs P V l vs){G:Prop}(h0:l.drop i=[]→vs.toArray[i]?=none→G)(h1:∀v r u,l.drop i=v::r→vs.toArray[i]?=some u→VR P V v u→l.drop (i+1)=r→G):G:=by
 cases q:l.drop i with
 |nil=>exact h0 q (Array.getElem?_eq_none (by rw[S5,←x.len];exact drop_nil q))
 |cons v r=>
  refine eX02 (lV q) λe1 e2=>?_
  refine eX12 (x.nth e1) λu e3 vr=>?_
  exact h1 v r u q (by simpa using e3) vr e2
theorem Itr.next{o:Option (Nat×List AV)}{rest:List AV}{Q:Option Value→Shared→Prop}(hh:C.A.handled=none)(it:Itr P g.v I o rest)(rr:R P C.base g)(sI:¬g.S I)(sm:HT o g.H)
  (h0:rest=[]→∀h',Heap.ExtBut I g.s.heap h'→Q none { g.s with heap:=h' })
  (h1:∀v l,rest=v::l→∀h' tk u,Heap.SameBut I g.s.heap h'→VR P g.v v u→Itr P ⟨h',g.S,g.μ,g.H.length⟩ I o l→Q (some u) { g.s with heap:=h',toks:=tk }):n9 (I5 P C) C.A (pyNext (.ref I)) Q E g.s:=by
 have kp:∀{h':Heap},Heap.SameBut I g.s.heap h'→Kp g.v ⟨h',g.S,g.μ,g.H.length⟩:=λsb=>⟨d8 _,λ_ _=>rfl,λ_ x=>x,λa x=>sb.2 a λq=>sI (q▸x)⟩
 cases it with
 |l s q v t=>
  refine jD v (λe z=>wpAny_pyNext_list_end hh t ⟨_,q,rfl,_,rfl⟩ z (h0 e)) λw r u e e3 vr e2=>wpAny_pyNext_list_item (x:=u) t ⟨_,q,rfl,_,rfl⟩ e3 λh' it' sb=>?_
  exact h1 w r e h' g.s.toks u sb vr (e2▸.l s (((kp sb).kp _ s).trans q) (v.kp (kp sb)) it')
 |t s q v t=>
  refine jD v (λe z=>wpAny_pyNext_tuple_end hh t ⟨_,q,rfl,_,rfl⟩ z (h0 e)) λw r u e e3 vr e2=>wpAny_pyNext_tuple_item (x:=u) t ⟨_,q,rfl,_,rfl⟩ e3 λh' it' sb=>?_
  exact h1 w r e h' g.s.toks u sb vr (e2▸.t s (((kp sb).kp _ s).trans q) (v.kp (kp sb)) it')
 |c hn t=>
  refine eX23 (du rr hn sm) λvs m q v _=>?_
  refine jD v (λe z=>wpAny_pyNext_list_end hh t ⟨_,q,rfl,_,rfl⟩ z (h0 e)) λw r u e e3 vr e2=>wpAny_pyNext_list_item (x:=u) t ⟨_,q,rfl,_,rfl⟩ e3 λh' it' sb=>?_
  exact h1 w r e h' g.s.toks u sb vr (e2▸.c hn it')
 | @b b t i x4=>
  cases q:(bI b).drop i with
  |nil=>
   refine KBw.next_end hh x4 ?_ (h0 (by rw[q];rfl))
   have:=drop_nil q
   rw[Y1] at this
   simpa using this
  |cons v r=>
   refine eX02 (lV q) λe1 e2=>?_
   have hi:i<b.size:=by rw[←Y1];exact(D4.mp e1).1
   have hc:b[i]?=some b[i]:=Array.getElem?_eq_getElem hi
   have:=KBw.ints_get hc
   rw[show (KBw.bInts b)[i]?=some v from e1] at this
   cases this
   refine KBw.next_item x4 hc λh' it' sb=>?_
   exact h1 (.int (b[i].toNat:Int)) (r.map .int) (by rw[q];rfl) h' (g.s.toks+1) _ sb (.int _ _) (e2▸.b it')
 | @r x left step x4=>
  by_cases q:0<left
  ·refine wpAny_pyNext_range_item x4 q λh' it' sb=>?_
   obtain⟨j,e⟩:∃j:Nat,left=j+1:=⟨(left-1).toNat,by lia -abstractProof⟩
   subst e
   exact h1 (.int x) (I4 j (x+step) step) rfl h' (g.s.toks+1) _ sb (.int _ _) (by
    have:=Itr.r (P:=P) (V:=⟨h',g.S,g.μ,g.H.length⟩) it'
    rw[show ((j:Int)+1-1).toNat=j by exact Lc] at this
    exact this)
  ·refine wpAny_pyNext_range_end hh x4 (by exact r6.mp q) (h0 ?_)
   rw[show left.toNat=0 by exact dX ((A2 (n:=0)).mpr (r6.mp q)) (j9 _)];rfl
theorem lu:∀{xs:List Nat} {ts:List PE},rH C.vt C.env.scope.names xs ts=true→(F8 ts C.env).length=xs.length∧(F8 ts C.env).findIdx? (·.1)=none
 |[],ts,c=>K9 (M:=λts=>(F8 ts C.env).length=0∧(F8 ts C.env).findIdx? (·.1)=none) c ⟨rfl,rfl⟩
 |x::xs,ts,c=>L7 (M:=λts=>(F8 ts C.env).length=(x::xs).length∧(F8 ts C.env).findIdx? (·.1)=none) c λt r c=>s7 c λc1 c2=>N4 (M:=λt=>(F8 (t::r) C.env).length=(x::xs).length∧(F8 (t::r) C.env).findIdx? (·.1)=none) c1 λy p _=>by
   refine eX02 (lu c2) λe1 e2=>?_
   show ((false,aO (.Name y p) C.env)::F8 r C.env).length=_∧((false,aO (.Name y p) C.env)::F8 r C.env).findIdx? (·.1)=none
   refine⟨by rw[m9,m9,e1],?_⟩
   rw[List.findIdx?_cons]
   simp[e2]
theorem St.bindAll{M:Model}{A:Around}{Q:Unit→Shared→Prop}{F:Loc→Prop}{xs:List Nat}{ts:List PE}{avs:List AV}{vs:List Value}(T:St P r C ρ g)(c:rH C.vt C.env.scope.names xs ts=true)(vr:VRs P g.v avs vs)(ln:avs.length=xs.length)(hb:sS ρ xs avs F)
  (h:∀ρ' s',Stp (FA C.env) g (g.to s')→St P r C ρ' (g.to s')→F ρ'→Q () s'):n9 M A (aA ((F8 ts C.env).map (·.2)) vs) Q E g.s:=by
 induction xs generalizing ts avs vs ρ g with
 |nil=>
  cases avs with
  |cons _ _=>cases ln
  |nil=>exact K9 (M:=λts=>n9 M A (aA ((F8 ts C.env).map (·.2)) vs) Q E g.s) c (m6 (h ρ g.s .refl T hb))
 |cons x xs ih=>
  refine L7 (M:=λts=>n9 M A (aA ((F8 ts C.env).map (·.2)) vs) Q E g.s) c λt l c=>s7 c λc1 c2=>N4 (M:=λt=>n9 M A (aA ((F8 (t::l) C.env).map (·.2)) vs) Q E g.s) c1 λy p c1=>s7 c1 λc0 c1=>?_
  cases vr with
  |nil=>cases ln
  | @cons v _ w us a b=>
   show n9 M A (J5 us (do Q2 p;bindName C.env y w)>>=λ_=>aA ((F8 l C.env).map (·.2)) us) Q E g.s
   refine i7 (V9 (i7 (G6 (O7 (T.store c0 c1 a λs1 y1 T1=>?_)))))
   exact ih (g:=g.to s1) T1 c2 (b.kp y1.kp) (Nat.succ.inj ln) (aJ hb) λρ2 s2 y2 T2 q=>h ρ2 s2 (y1.trans y2) T2 q
theorem kO(T:St P r C ρ g){xs:List Nat}{ts:List PE}{k:Nat}{p:Pos}{avs:List AV}{vs:List Value}{Q:Unit→Shared→Prop}{F:Loc→Prop}(c:rH C.vt C.env.scope.names xs ts=true)(hx:g.s.heap.get? a=some { cls:=.type "tuple",data:=.seq vs.toArray })(hv:VRs P g.v avs vs)
  (hb:nP (avs.length=xs.length) (sS ρ xs avs F)) (h:∀ρ' s',Stp (FA C.env) g (g.to s')→St P r C ρ' (g.to s')→F ρ'→Q () s'):n9 (I5 P C) C.A (aO (.Tuple ts k p) C.env (.ref a)) Q E g.s:=by
 refine eX02 (lu c) λe1 e2=>?_
 refine i7 (G6 (wpAny_unpack_tuple (items:=vs.toArray) T.rm.hd ⟨_,hx,rfl,_,rfl⟩ (by rw[e1,←hb.h,hv.len];simp) e2 λh' eb=>?_))
 have w:Grow g.s { g.s with heap:=h' }:=⟨λb o e=>eb b o (λq=>by subst q;rw[M4] at e;cases e) e,rfl,rfl⟩
 have y1:Stp nX g (g.to { g.s with heap:=h' }):=Stp.grow T.rm.rr w
 exact St.bindAll (T.step y1 (T.rm.rr.grow w)) c (hv.kp y1.kp) hb.h hb.f λρ2 s2 y2 T2=>h ρ2 s2 ((y1.weak DB).trans y2) T2
theorem rV{v:PE}{ts:List PE}{k:Nat}{p:Pos}{env:Env}(c:uz v=true):W0 [.Tuple ts k p] v env=pure none:=by
 unfold W0
 cases v<;>first | rfl | exact absurd c e9
theorem Cf{xs:List Nat}{e:T}(i:Al P r e):Al P r (.asgT xs e):=λC z c=>T7 c λs c=>ez c λl v pos c=>ao (M:=λl=>MS P r (.asgT xs e) C (.Assign l v pos)) c λt c=>s7 c λc1 c=>s7 c λc2 c=>s7 c λc3 c4=>
 lZ (M:=λt=>MS P r (.asgT xs e) C (.Assign [t] v pos)) c1 λts k p c1=>s7 c1 λc5 c6=>by
  refine⟨λ{ρ g N Rk X} tp T h=>?_⟩
  refine gz (ew c2) (rV c3) rfl (cJ (Ok.sta T) ((i C (.e v) c4).se T h) λg1 av w z1 o1 vr q=>vr.tup_el q λl vs a hs hx hv q=>?_)
  exact v9 (kO o1.T c5 hx hv q λρ2 s2 y2 T2 q=>o1.next (f:=.next) y2 T2 q)
noncomputable def nq(P:Prg)(r:Nat)(C:Cx)(g:Sg)(N:KN)(Rk:KE):R6→Shared→Prop:=λx s'=>match x with
 |.ok f=>PostS P r C g N Rk f s'
 |.error _=>False
theorem PS.pre{f:Flow}(y:Stp (FA C.env) g g')(h:PostS P r C g' N Rk f s):PostS P r C g N Rk f s:=by
 cases h with | mk g2 ρ2 y2 T2 q=>exact .mk g2 ρ2 (y.trans y2) T2 q
theorem RS.pre{x:R6}(y:Stp (FA C.env) g g')(h:nq P r C g' N Rk x s):nq P r C g N Rk x s:=by
 cases x with
 |ok f=>exact PS.pre y h
 |error e=>exact h
theorem pW{base:Heap}{e:Value}(h:af P base g xF e s):False:=by cases h with | mk _ _ _ k=>cases k with | mk _ k=>exact k
theorem xD{e:Value}(h:PostSX P r C g T8 e s):False:=by cases h with | mk _ _ _ _ _ k=>exact k
theorem xU(q:PostS P r C g N Rk .next s):M5 (I5 P C) C.A (.block [] C.env) (nq P r C g N Rk) s:=by
 refine V6 rfl ?_
 show A4 _ C.A (do return PySem.Fin.done (←(aW [] C.env).onRaise (λx=>do U6 x C.env;Q6 x))) _ _ s
 exact j8 (cR (s8 (s8 q)))
theorem oJ{c:Code}(hd:kZ c=false)(h:M5 (I5 P C) C.A c (nq P r C g N Rk) s):A4 (I5 P C) C.A (runOwn c C.env) (PostS P r C g N Rk) E s:=by
 unfold runOwn
 refine cR (zX hd (bw h λx s z=>?_) (by intro x;cases x))
 cases x<;>exact z
theorem turn{b:T}{body:List Stmt}{N':KN}{F:Flow→Sem PySem.Fin}(ib:MSS P r b C body)(tp:Top C.outer C.env)(y:Stp (FA C.env) g₀ g)(T:St P r C ρ g)(h:wpS (bo P r) b ρ g.H N' Rk T8)
  (hn:∀g1 ρ1,Stp (FA C.env) g g1→St P r C ρ1 g1→N' ρ1 g1.H→A4 (I5 P C) C.A (F .next) (nr (I5 P C) C.A (nq P r C g₀ N Rk)) (λ_ _=>False) g1.s) (hr:∀v,F (.ret v)=pure (.done (.ret v))) :
  A4 (I5 P C) C.A (aW body C.env>>=F) (nr (I5 P C) C.A (nq P r C g₀ N Rk)) (λ_ _=>False) g.s:=by
 refine j8 (K3 (ib.h tp T h) (λf s z=>?_) λ_ _ z=>xD z)
 cases z with | mk g1 ρ1 y1 T1 q=>
 cases f with
 |next=>exact hn g1 ρ1 y1 T1 q
 |ret v=>rw[hr];exact s8 (PostS.mk g1 ρ1 (y.trans y1) T1 q)
 |_=>exact q.elim
theorem zm{c b:T}(ic:Al P r c)(ib:Al P r b):Al P r (.while_ c b):=λC z k=>T7 k λs k=>xn k λq x y pos k=>s7 k λc0 k=>s7 k λc1 c2=>K9 (M:=λy=>MS P r (.while_ c b) C (.While q x y pos)) c0 (by
 refine⟨λ{ρ g N Rk X} tp T h=>?_⟩
 rw[arm_exec_While]
 have main:∀(S:Addr→Prop) (μ:Nat→Addr) (s:Shared),St P r C ρ ⟨S,μ,g.H,s⟩→M5 (I5 P C) C.A (.whileLoop q x [] C.env) (nq P r C ⟨S,μ,g.H,s⟩ N Rk) s:=by
  refine h (λρ H=>∀(S:Addr→Prop) (μ:Nat→Addr) (s:Shared),St P r C ρ ⟨S,μ,H,s⟩→M5 (I5 P C) C.A (.whileLoop q x [] C.env) (nq P r C ⟨S,μ,H,s⟩ N Rk) s) ?_
  intro ρ H hh S μ s T
  refine V6 rfl ?_
  show A4 _ C.A ((whileTurn q x [] C.env).onRaise (λx=>do U6 x C.env;Q6 x)) _ _ s
  refine cR ?_
  unfold whileTurn
  refine j8 (sV (g:=⟨S,μ,H,s⟩) (E:=λ_ _=>False) (X:=xF) ⟨Stp.refl (X:=FA C.env),T,λ_ _ z=>pW z⟩ ((ic C (.e q) c1).sb T Tr.of hh) λg1 av bb z1 o1 e w=>?_)
  have w:=fy e w
  cases bb with
  |false=>exact X8 e9 (j8 (s8 (s8 (o1.next (f:=.next) .refl o1.T (w.f rfl)))))
  |true=>
   refine jK rfl (turn (ib C (.ss x) c2) tp o1.y o1.T (w.t rfl) (λg2 ρ2 y2 T2 q2=>?_) λv=>rfl)
   exact s8 ⟨rfl,rfl,bw (q2 g2.S g2.μ g2.s T2) λx s3 z=>RS.pre (o1.y.trans y2) z⟩
 exact D7 (oJ rfl (main g.S g.μ g.s T)))
theorem xb{tg:PE}{xs:List Nat}{vt:List Str}{names:List (Str×NameKind)}{v:Value}{M:Model}{A:Around}{Q:Unit→Shared→Prop}{o:Obj}{T:String}(c:pO vt names xs tg=true)(ho:s.heap.get? I=some o)(hc:o.cls = .type T)(hT:Ak.contains T=false)(h:Q () s):n9 M A (letOwnedTupleGo tg (.ref I) v) Q E s:=by
 cases tg with
 |Name y p=>exact m6 h
 |Tuple ts k p=>
  unfold letOwnedTupleGo
  dsimp only
  cases v with
  |ref a=>
   refine i7 (S9 ho ?_)
   rw[hc]
   cases o.data with
   |fields vs=>
    dsimp only
    rw[hT,Bool.false_and,if_neg e9]
    exact m6 h
   |_=>exact m6 h
  |_=>exact m6 h
 |_=>exact absurd c e9
theorem DM(T:St P r C ρ g){xs:List Nat}{tg:PE}{F:Loc→Prop}{Q:Unit→Shared→Prop}(c:pO C.vt C.env.scope.names xs tg=true)(vr:VR P g.v av u)(hb:pH xs av ρ F)
  (h:∀ρ' s',Stp (FA C.env) g (g.to s')→St P r C ρ' (g.to s')→F ρ'→Q () s'):n9 (I5 P C) C.A (aO tg C.env u) Q E g.s:=by
 unfold pO at c
 cases q:rn tg with
 |true=>
  rw[q] at c
  refine N4 (M:=λtg=>n9 (I5 P C) C.A (aO tg C.env u) Q E g.s) c λy p c=>?_
  cases xs with
  |nil=>exact absurd c e9
  |cons x r=>cases r with
   |nil=>exact s7 c λc2 c3=>i7 (G6 (O7 (T.store c2 c3 vr λs' y' T'=>h _ s' y' T' (aJ hb))))
   |cons _ _=>exact absurd c e9
 |false=>
  rw[q] at c
  refine lZ (M:=λtg=>n9 (I5 P C) C.A (aO tg C.env u) Q E g.s) c λts k p c=>s7 c λc1 c=>s7 c λc2 c3=>?_
  refine vr.tup_el (M:=λu=>n9 (I5 P C) C.A (aO (.Tuple ts k p) C.env u) Q E g.s) (F:=λvs=>nP (vs.length=xs.length) (sS ρ xs vs F)) ?_ λl vs a hs hx hv q=>kO T c1 hx hv q h
  cases xs with
  |nil=>exact absurd c2 e9
  |cons x r=>cases r with
   |nil=>exact absurd c2 e9
   |cons _ _=>exact hb
theorem qR{o:Option (Nat×List AV)}{H:Hp}{F:Prop}(h:same o H F):HT o H∧F:=by
 cases o with
 |none=>exact⟨trivial,h⟩
 |some p=>exact h
theorem vL{xs:List Nat}{tg:PE}{body:List Stmt}{b:T}{o:Option (Nat×List AV)}(ib:MSS P r b C body)(tp:Top C.outer C.env)(c:pO C.vt C.env.scope.names xs tg=true)(T₀:St P r C ρ₀ g₀):
  ∀(rest:List AV) (ρ:Loc) (g:Sg),Stp (FA C.env) g₀ g→St P r C ρ g→Own C g g₀.s.heap I→Itr P g.v I o rest →
   ar xs o (λρ H N=>wpS (bo P r) b ρ H N Rk T8) N rest ρ g.H→M5 (I5 P C) C.A (.forLoop tg (.ref I) body [] C.env) (nq P r C g₀ N Rk) g.s:=by
 intro rest
 induction rest with
 |nil=>
  intro ρ g y T ow it h
  refine eX02 (qR h) λsm h=>?_
  refine V6 rfl ?_
  show A4 _ C.A ((forTurn tg (.ref I) body [] C.env).onRaise (λx=>do U6 x C.env;Q6 x)) _ _ g.s
  refine cR ?_
  unfold forTurn
  refine D7 (j8 (cR (v9 (it.next T.rm.hd T.rm.rr ow.s sm (λ_ h' eb=>?_) λv l e=>nomatch e))))
  refine eX03 (ow.ext (s':={ g.s with heap:=h' }) T₀.rm y T eb rfl rfl) λy' T' _=>?_
  exact s8 ⟨rfl,rfl,xU (.mk (f:=.next) _ ρ y' T' h)⟩
 |cons v l ih=>
  intro ρ g y T ow it h
  refine eX02 (qR h) λsm h=>?_
  refine V6 rfl ?_
  show A4 _ C.A ((forTurn tg (.ref I) body [] C.env).onRaise (λx=>do U6 x C.env;Q6 x)) _ _ g.s
  refine cR ?_
  unfold forTurn
  refine D7 (j8 (cR (v9 (it.next T.rm.hd T.rm.rr ow.s sm nofun λv' l' e h' tk u sb vr it'=>?_))))
  cases e
  refine eX03 (ow.ext (s':={ g.s with heap:=h',toks:=tk }) T₀.rm y T (λb x hb e=>(sb.2 b hb).trans e) rfl rfl) λy' T' kk=>?_
  dsimp only
  refine eX24 it'.cls λob Tn ho hc hT nf=>?_
  refine j8 (v9 (xb c ho hc hT ?_))
  refine j8 (v9 (DM (g:=g.to { g.s with heap:=h',toks:=tk }) T' c (vr.kp kk) h λρ2 s2 y2 T2 hb=>?_))
  refine turn ib tp (y'.trans y2) T2 hb (λg3 ρ3 y3 T3 q3=>?_) λv=>rfl
  have y23:=y2.trans y3
  have ow1:Own C (g.to { g.s with heap:=h',toks:=tk }) g₀.s.heap I:=ow.to
  exact s8 ⟨rfl,rfl,ih ρ3 g3 (y'.trans y23) T3 (ow1.step y23 ⟨ob,ho⟩) (it'.kp y23.kp λx e=>ow1.stay y23 (λfa=>ow.f I fa rfl) (by
   have:(some x:Option Obj)=some ob:=e.symm.trans ho
   cases this;exact nf) e) q3⟩
theorem fe{i:PE}{env:Env}{x:Value}(c:lP i=false):foldedSetIterable i env x=pure x:=by
 cases i<;>first | rfl | exact absurd c dD
theorem yz{F:List AV→Option (Nat×List AV)→Prop}{Q:Value→Shared→Prop}(T:St P r C ρ g)(vr:VR P g.v av v)(h:vn av g.H F)
  (k:∀s' I o rest,Grow g.s s'→g.s.heap.get? I=none→Itr P (g.to s').v I o rest→F rest o→(∀ob,s'.heap.get? I=some ob→∀t:Shared,t.heap.get? I=some ob→True)→Q (.ref I) s'):n9 (I5 P C) C.A (bJ v) Q E g.s:=by
 cases vr with
 |fl l vs a n hs hx hv hz=>
  refine wpAny_pyIter_list (items:=vs.toArray) ⟨_,hx,rfl,_,rfl⟩ ?_
  have w:Grow g.s { g.s with heap:=g.s.heap.push { cls:=.type "list_iterator",data:=.fields #[.ref a,.int 0 0] } }:=Grow.push _
  exact k _ _ none l w M4 (.l (i:=0) hs (w.kp _ _ hx) (hv.kp (Stp.grow (X:=nX) T.rm.rr w).kp) ⟨_,Heap.get?_push_size _ rfl,rfl,rfl⟩) h λ_ _ _ _=>trivial
 |tup l vs a hs hx hv=>
  refine wpAny_pyIter_tuple (items:=vs.toArray) ⟨_,hx,rfl,_,rfl⟩ ?_
  have w:Grow g.s { g.s with heap:=g.s.heap.push { cls:=.type "tuple_iterator",data:=.fields #[.ref a,.int 0 0] } }:=Grow.push _
  exact k _ _ none l w M4 (.t (i:=0) hs (w.kp _ _ hx) (hv.kp (Stp.grow (X:=nX) T.rm.rr w).kp) ⟨_,Heap.get?_push_size _ rfl,rfl,rfl⟩) h λ_ _ _ _=>trivial
 |bytes x t z=>
  refine KBw.pyIter_bytes ?_
  exact k _ _ none _ (Grow.push _) M4 (.b (i:=0) ⟨_,Heap.get?_push_size _ rfl,rfl,rfl⟩) (h λk hk=>KBw.ints_in hk) λ_ _ _ _=>trivial
 |ref n hn=>
  cases h with | mk e h=>
  refine eX23 (du T.rm.rr hn e) λvs m hx hv _=>?_
  refine wpAny_pyIter_list (items:=vs.toArray) ⟨_,hx,rfl,_,rfl⟩ ?_
  exact k _ _ (some (n,_)) _ (Grow.push _) M4 (.c (i:=0) hn ⟨_,Heap.get?_push_size _ rfl,rfl,rfl⟩) h λ_ _ _ _=>trivial
 |_=>exact h.elim
theorem vK{xs:List Nat}{tg:PE}{body:List Stmt}{b:T}{o:Option (Nat×List AV)}{rest:List AV}(ib:MSS P r b C body)(tp:Top C.outer C.env)(c:pO C.vt C.env.scope.names xs tg=true)(T₀:St P r C ρ g₀)(y:Stp (FA C.env) g₀ g)(T:St P r C ρ g)(w:Grow g.s s')(n:g.s.heap.get? I=none)
  (it:Itr P (g.to s').v I o rest) (h:ar xs o (λρ H N=>wpS (bo P r) b ρ H N Rk T8) N rest ρ g.H):A4 (I5 P C) C.A (runOwn (.forLoop tg (.ref I) body [] C.env) C.env) (PostS P r C g₀ N Rk) E s':=
 oJ rfl (vL ib tp c T₀ rest ρ (g.to s') (y.trans (Stp.grow T.rm.rr w)) (T.step (Stp.grow T.rm.rr w) (T.rm.rr.grow w)) (Own.new T y n).to it h)
theorem Ej{xs:List Nat}{it b:T}(ie:Al P r it)(ib:Al P r b):Al P r (.for_ xs it b):=λC z c=>T7 c λs c=>nZ c λtg i body y pos c=>s7 c λc0 c=>s7 c λc1 c=>s7 c λc2 c=>s7 c λc3 c4=>K9 (M:=λy=>MS P r (.for_ xs it b) C (.For tg i body y pos)) c0 (by
 refine⟨λ{ρ g N Rk X} tp T h=>?_⟩
 rw[arm_exec_For]
 refine D7 (j8 (cJ (Ok.sta T) ((ie C (.e i) c3).se T h) λg1 av v z1 o1 vr q=>j8 (X9 (fe (iQ c2)) (D7 (j8 (C2 (v9 ?_)))))))
 exact yz o1.T vr q λs' I o rest w n it q _=>vK (ib C (.ss body) c4) tp c1 T o1.y o1.T w n it q)
theorem tT{F:List AV→Prop}{vs:List AV}{ws:List Value}{Q:Value→Shared→Prop}(x:VRs P g.v vs ws)(h:Eu vs F)(k:RK g.s F Q):n9 (I5 P C) C.A (call (.type "range") ws) (λx s₁=>n9 (I5 P C) C.A (bJ x) Q E s₁) E g.s:=by
 cases x with
 |nil=>exact h.elim
 |cons p q=>cases q with
  |nil=>exact p.int_el h λb t h=>xu k h.h h.f
  |cons p' q=>cases q with
   |nil=>exact p.int_el h λa t h=>p'.int_el h λb t h=>xt k h.h.1 h.h.2 h.f
   |cons p2 q=>cases q with
    |nil=>exact p.int_el h λa t h=>p'.int_el h λb t h=>p2.int_el h λc t h=>xq k h
    |cons _ _=>exact h.elim
theorem BY{x:Nat}{as b:T}(ie:Al P r as)(ib:Al P r b):Al P r (.forR x as b):=λC z c=>T7 c λs c=>nZ c λtg i body y pos c=>s7 c λc0 c=>s7 c λc1 c=>s7 c λc3 c4=>K9 (M:=λy=>MS P r (.forR x as b) C (.For tg i body y pos)) c0
 (bU (M:=λi=>MS P r (.forR x as b) C (.For tg i body [] pos)) c3 λn p l cpos d1 d2 c=>s7 c λd3 d4=>by
 refine⟨λ{ρ g N Rk X} tp T h=>?_⟩
 rw[arm_exec_For]
 refine D7 (j8 (eW (v9 (T.globB d1 d2 d3 (Q3 (fP (ie C (.es l) d4).st) (sU (Ok.sta T) ((ie C (.es l) d4).se T h) λg1 avs vs z1 o1 vr n q=>⟨fM,?_⟩))))))
 refine K3 (v9 (tT (C:=C) (E:=PostSX P r C g X) (Q:=λit s2=>A4 (I5 P C) C.A (runOwn (.forLoop tg it body [] C.env) C.env) (PostS P r C g N Rk) (PostSX P r C g X) s2) vr q λa c l h' tk I f gr n it=>?_)) (λx s2 z=>j8 (X9 (fe rfl) (D7 (j8 (C2 (v9 z)))))) λ_ _ z=>z
 exact vK (ib C (.ss body) c4) tp c1 T o1.y o1.T (fD gr) n (.r it) f)
end
noncomputable def DJ:List Value:=[.type "Exception",.type "BaseException",.type "object"]
structure ExcOK(P:Prg)(c:Nat):Prop where
 ex:∃nm q N bs bm hdct sn sub ab col dd k0 k1 k2 k3 k5 o es ep,P.K.lookup (P.ce c)=some (excClassObj nm q (P.ce c) N bs bm hdct sn sub ab col dd k0 k1 k2 k3 k5 "Exception.__new__") ∧
  P.K.lookup N=some o∧o.data = .dict es ep∧StrKeys es∧nsFind es "__init__" = none∧bm.contains (.type "BaseException")=true∧∀h,P.K.In h→OwnTail h DJ bm
structure HdlOK(P:Prg):Prop where
 m:∀c d,c<8→d<8→exmOne P.K (.ref (P.ce c)) (.ref (P.ce d))=some (rK c d)
noncomputable def sA:List Addr→Heap→Heap
 |[],h=>h
 |a::l,h=>(sA l h).update a λo=>{ o with data:=.freed }
theorem nN(h:Heap)(a:Addr):(h.update a λo=>{ o with data:=.freed }).get? a=none:=by
 cases h with | mk objs=>
 show Heap.get? ⟨objs.modify a λo=>{ o with data:=.freed },_⟩ a=none
 unfold Heap.get?
 rw[Array.getElem?_modify,if_pos rfl]
 cases objs[a]?<;>rfl
theorem eX{h:Heap}{b:Addr}:∀{l:List Addr},b∈l→(sA l h).get? b=none
 |a::l,m=>by
  by_cases q:a=b
  ·subst q;exact nN _ _
  ·exact(Heap.get?_update_other _ _ q).trans (eX ((l5.mp m).resolve_left λz=>q z.symm))
theorem gK{h:Heap}{b:Addr}:∀{l:List Addr},b∉l→(sA l h).get? b=h.get? b
 |[],_=>rfl
 |a::l,m=>(Heap.get?_update_other _ _ λ(z:a=b)=>m (by rw[z];exact E4)).trans (gK λz=>m (C3 _ z))
theorem funFrames_base{h base base':Heap}:∀{l:List Env},h.FunFrames base l→(∀L,L∈l.filterMap (·.frame)→base'.get? L=none)→h.FunFrames base' l:=by
 intro l
 induction l with
 |nil=>exact λ_ _=>trivial
 |cons env rest ih=>exact λf k=>f.2.1.elim λL q=>q.elim λo q=>⟨f.1,⟨L,o,q.1,k L (by simp[q.1]),q.2.2⟩,ih f.2.2 λL' hL=>k L' (by rw[V8,q.1];exact C3 _ hL)⟩
section
variable{P:Prg}{r:Nat}{C:Cx}{ρ ρ₀:Loc}{g g₀ g':Sg}{K:KE}{X:XE}{E:Value→Shared→Prop}{s s':Shared}{v u:Value}{av bv:AV}{V V':Vw}{a I:Addr}{N:KN}{Rk:KE}{XX:XS}{Y:Addr→Prop}{A:Around}{M:Model}
theorem zq{c:Nat}{as:T}(X:c<8→ExcOK P c)(i:Al P r as):Al P r (.raise c as):=λC z k=>T7 k λs k=>pR k λex cs pos k=>s7 k λk0 k=>eY (M:=λcs=>MS P r (.raise c as) C (.Raise ex cs pos)) k0 (gx (M:=λex=>MS P r (.raise c as) C (.Raise ex none pos)) k λe k=>
 bU (M:=λe=>MS P r (.raise c as) C (.Raise (some e) none pos)) k λy np l cpos d1 d2 k=>s7 k λk1 k=>s7 k λk2 k=>s7 k λk3 k4=>s7 k2 λe1 e2=>by
  refine⟨λ{ρ g N Rk X'} tp T h=>?_⟩
  have i:=i C (.es l) k4
  rw[arm_exec_Raise]
  refine D7 (oK ?_)
  show A4 _ C.A (do let v ←eval (.Call (.Name y np) l [] cpos) C.env;Q2 pos;pure v) _ _ g.s
  refine j8 (eW (v9 (T.glob d1 d2 (of_decide_eq_true e1) ?_)))
  refine Q3 (fP i.st) (sU (Ok.sta T) (i.se T h) λg1 avs vs z1 o1 vr n q=>⟨jW e2 o1.T.kin,?_⟩)
  refine D2 λ_ kk=>?_
  obtain⟨nm,q',Nn,bs,bm,hdct,sn,sub,ab,col,dd,k0,k1',k2',k3',k5,o,es,ep,f1,f2,f3,f4,f5,f6,f7⟩:=(X (wQ k1)).ex
  refine kk ?_
  have kin:=o1.T.kin
  refine v9 (wpAny_call_exc_subT (h:=g1.s.heap) (g:=g1.s.gens) (d:=g1.s.drawn) (t:=g1.s.toks) (os:=g1.s.os) PySem.F.excBase_Exception (f7 _ kin) (kin _ _ f1) (mN:=nsFind es) ⟨o,es,ep,kin _ _ f2,f3,f4,λ_=>rfl⟩ f5 (λh' e made=>?_) (by show vs.length≤Q7;rw[n,W5 k3,F0];decide))
  refine D7 (s8 ?_)
  refine eX13 made.there λt ht _ _=>?_
  refine v9 (wpAny_raiseStmt_made_sub f6 T.rm.hd (m6 ⟨e,t,rfl,made.keeps _ _ (kin _ _ f1),ht,?_⟩))
  have w:Grow g1.s { g1.s with heap:=h' }:=⟨made.keeps,rfl,rfl⟩
  exact .mk (g1.to { g1.s with heap:=h' }) ρ (o1.y.trans (Stp.grow o1.T.rm.rr w)) (o1.T.step (Stp.grow o1.T.rm.rr w) (o1.T.rm.rr.grow w)) ⟨e,rfl,o1.y.nn e made.new,wQ k1,.inl ⟨t,ht⟩⟩ q)
theorem tj{Q:Unit→Shared→Prop}{c:Nat}{e:Value}(tp:Top C.outer C.env)(T₀:St P r C ρ₀ g₀)(y:Stp Y g₀ g)(T:St P r C ρ g)(x:Co P g₀.s.heap g.s.heap c e)
  (h:∀a s',e = .ref a→g₀.s.heap.get? a=none→c<8→Stp Y g₀ (g.to s')→St P r C ρ (g.to s')→s'.heap.Traced g₀.s.heap a (.ref (P.ce c))→Q () s'):n9 M C.A (leaving C.env e) Q E g.s:=by
 refine eX02 tp λzn3 fr=>?_;clear tp;refine eX11 zn3 λo' eo=>?_;clear zn3
 obtain⟨a,rfl,an,lt,x⟩:=x
 have main:∀(D:List Addr),(∀b,b∈D→g₀.s.heap.get? b=none)→(∀b,b∈D→∀o,g.s.heap.get? b=some o→∃vs,o.data = .fields vs)→a∈D →
   ∀h',Heap.Left (sA (D++C.outer.filterMap (·.frame)) g.s.heap) C.outer a (.ref (P.ce c)) g.s.heap h'→Q () { g.s with heap:=h' }:=by
  intro D n1 n2 aD h' ⟨l1,l2,l3,l4⟩
  have nf:∀b x,g.s.heap.get? b=some x→(∀vs,x.data≠.fields vs)→¬b∈D:=λb x e d n=>eX11 (n2 b n x e) λvs q=>d vs q
  refine eX03 (ext (D:=λb=>b∈D) (s':={ g.s with heap:=h' }) T₀.rm y T (λb x=>eX12 (T.rm.rr.sp b x) λo e d=>nf b o e d) (λn l=>let ⟨o,e,d⟩:=T.rm.rr.ltF l;nf _ o e d) (λb fa q=>by
   refine eX11 (T₀.oex b fa) λo e=>?_
   rw[n1 b q] at e;cases e) n1 (λb x nb nf e=>l1 b x ((gK λz=>(y6.mp z).elim nb nf).trans e)) (λb x m e=>l4 b x e (by
   refine D2 λ_ kk=>?_
   obtain⟨_,o,e',d⟩:=T.rm.ff.mem m
   refine kk ?_
   rw[e] at e';cases e';exact d)) rfl rfl) λy' T' _=>?_
  refine h a _ rfl an lt y' T' ?_
  refine D2 λ_ kk=>?_
  obtain⟨oe,vs,Tt,oT,ts,q1,q2,q3,q4,q5,q6,q7,q8,q9⟩:=l3
  refine kk ?_
  refine⟨oe,vs,Tt,oT,ts,q1,q2,q3,q4,?_,q6,q7,q8,q9⟩
  cases z:g₀.s.heap.get? Tt with
  |none=>rfl
  |some o=>
   refine eX11 (y.dom Tt o z) λo2 e2=>?_
   by_cases m:Tt∈D
   ·rw[n1 Tt m] at z;exact nomatch z
   ·by_cases m2:Tt∈C.outer.filterMap (·.frame)
    ·refine D2 λ_ kk=>?_
     obtain⟨_,o3,e3,d3⟩:=l2.mem m2
     refine kk ?_
     rw[q7] at e3;cases e3
     exact absurd q8 (d3 _)
    ·rw[gK λz=>(y6.mp z).elim m m2,e2] at q5;exact nomatch q5
 have ff:∀(D:List Addr),g.s.heap.FunFrames (sA (D++C.outer.filterMap (·.frame)) g.s.heap) C.outer:=λD=>funFrames_base T.rm.ff λL hL=>eX (y6.mpr (.inr hL))
 have st:∀(l:List Addr),(sA l g.s.heap).StaysIn g.s.heap:=λl b o e=>by
  by_cases m:b∈l
  ·rw[eX m] at e;cases e
  ·rw[gK m] at e;exact e
 have hf:=T.rm.fr
 rw[eo] at ff main hf
 rcases x with ⟨t,x⟩ | ⟨oe,vs,Tt,oT,ts,q1,q2,q3,q4,q5,q6,q7,q8,q9⟩
 ·refine wpAny_leaving_first hf (ff [a]) fr x (st _) (eX (y6.mpr (.inl (.head _)))) rfl rfl (main [a] (λb m=>?_) (λb m o e=>?_) (.head _))
  ·rw[i6.mp m];exact an
  ·rw[i6.mp m,x] at e;cases e;exact⟨_,rfl⟩
 ·refine wpAny_leaving_next hf (ff [a,Tt]) fr ⟨oe,vs,Tt,oT,ts,q1,q2,q3,q4,eX (y6.mpr (.inl (.tail _ (.head _)))),q6,q7,q8,q9⟩ (st _) (eX (y6.mpr (.inl (.head _)))) (main [a,Tt] (λb m=>?_) (λb m o e=>?_) (.head _))
  ·rcases l5.mp m with q | q
   ·rw[q];exact an
   ·rw[i6.mp q];exact q5
  ·rcases l5.mp m with q | q
   ·rw[q,q1] at e;cases e;exact⟨_,q3⟩
   ·rw[i6.mp q,q7] at e;cases e;exact⟨_,q8⟩
theorem BD{cls:Value}{Q:Unit→Shared→Prop}(T₀:St P r C ρ₀ g₀)(y:Stp Y g₀ g)(T:St P r C ρ g)(x:g.s.heap.Traced g₀.s.heap a cls)
  (h:∀s',Stp Y g₀ (g.to s')→St P r C ρ (g.to s')→Q () s'):n9 M A (setFlight (.ref a) none) Q E g.s:=by
 refine eX41 x λoe vs Tt oT zy5=>eX13 zy5 λts q1 q2 zy6=>eX04 zy6 λq3 q4 q5 zy7=>eX04 zy7 λq6 q7 q8 q9=>?_;clear x
 refine wpAny_setFlight_none q1 q3 q4 q7 q8 (Array.getElem?_eq_some_iff.mp q9).1 ?_
 have ot:∀b,b≠Tt→(g.s.heap.update Tt (Obj.mapFields (·.setIfInBounds 3 .none))).get? b=g.s.heap.get? b:=λb n=>Heap.get?_update_other _ _ (Ne.symm n)
 have nf:∀b x,g.s.heap.get? b=some x→(∀vs,x.data≠.fields vs)→b≠Tt:=λb x e d n=>by rw[n,q7] at e;cases e;exact d _ q8
 refine eX03 (ext (D:=λb=>b=Tt) (s':={ g.s with heap:=g.s.heap.update Tt (Obj.mapFields (·.setIfInBounds 3 .none)) }) T₀.rm y T (λb x=>eX12 (T.rm.rr.sp b x) λo e d=>nf b o e d) (λn l=>let ⟨o,e,d⟩:=T.rm.rr.ltF l;nf _ o e d) (λb fa q=>by
   refine eX11 (T₀.oex b fa) λo e=>?_
   rw[q,q5] at e;cases e) (λb q=>by rw[q];exact q5) (λb x n _ e=>(ot b n).trans e) (λb x m e=>⟨x.slots,(ot b (by
   refine eX02 (T.rm.ff.mem m) λ_ zn7=>?_;refine eX12 zn7 λo e' d=>?_;clear zn7
   exact nf b o e' d)).trans e⟩) rfl rfl) λy' T' _=>?_
 exact h _ y' T'
theorem zE(T:St P r C ρ g){t:Nat}:St P r C ρ (g.to { g.s with toks:=t }):=T.step (Stp.grow T.rm.rr .toks) (T.rm.rr.grow .toks)
set_option maxHeartbeats 2000000 in
theorem vC{x k:Nat}{i:Int}{y:Str}{npos pos p':Pos}{p:Operator}(T:St P r C ρ g)(c1:oC 0 p=true)(c2:hH C.vt x y=true)(c4:iC C.env.scope.names y=true)(u:P3 (lget ρ x)=false)(q:G2 (lget ρ x) λa=>Y5 ρ x (.int (a+i)) λρ=>N ρ g.H):
  n9 (I5 P C) A (exec (.AugAssign (.Name y npos) p (.Constant (.int i) k p') pos) C.env) (λf s'=>f = .next∧PostS P r C g N Rk .next s') E g.s:=by
 rw[arm_exec_AugAssign]
 refine i7 (G6 (i7 (T.read c2 c4 u λold vr0=>?_)))
 refine vr0.int_el q λa t0 q=>?_
 have q:N (dk ρ x (.int (a+i))) g.H:=aJ q
 refine i7 (V9 ?_)
 refine wpAny_Constant_int ?_
 refine i7 (G6 ?_)
 have hb:binI 0 a i (λv=>v = .int (a+i)):=rfl
 refine i7 (wpAny_operateT ?_)
 refine(gW c1 hb λk kq=>?_).2
 injection kq with kq
 subst kq
 refine i7 (G6 ?_)
 refine i7 (O7 ?_)
 refine(zE T (t:=g.s.toks+1+1)).store c2 c4 (.int (a+i) _) λs2 y3 T3=>?_
 exact m6 ⟨rfl,PostS.mk (f:=.next) (g.to s2) _ ((Stp.grow T.rm.rr .toks).trans y3) T3 q⟩
theorem zo{h:Hd}{body:List Stmt}(T:St P r C ρ g)(c:Iq C.vt C.env.scope.names h body=true)(q:zL h ρ g.H N Rk):
  n9 (I5 P C) A (aW body C.env) (PostS P r C g N Rk) E g.s:=by
 have rt:∀{t:Nat} {v:Value} {av:AV},VR P (g.to { g.s with toks:=t }).v av v→Rk av g.H→PostS P r C g N Rk (.ret v) { g.s with toks:=t }:=λx k=>.mk (g.to { g.s with toks:=_ }) ρ (Stp.grow T.rm.rr .toks) (zE T) (.mk x k)
 cases h with
 |retI i=>
  refine ao (M:=λbody=>n9 (I5 P C) A (aW body C.env) (PostS P r C g N Rk) E g.s) c λx c=>mz (M:=λx=>n9 (I5 P C) A (aW [x] C.env) (PostS P r C g N Rk) E g.s) c λo pos c=>
   gx (M:=λo=>n9 (I5 P C) A (aW [.Return o pos] C.env) (PostS P r C g N Rk) E g.s) c λe c=>R4 (M:=λe=>n9 (I5 P C) A (aW [.Return (some e) pos] C.env) (PostS P r C g N Rk) E g.s) c λd k p c=>?_
  obtain rfl:=of_decide_eq_true c
  rw[Z1,arm_exec_Return]
  exact i7 (i7 (G6 (i7 (wpAny_Constant_int (m6 (m6 (rt (av:=.int i) (.int _ _) q)))))))
 |retN=>
  refine ao (M:=λbody=>n9 (I5 P C) A (aW body C.env) (PostS P r C g N Rk) E g.s) c λx c=>mz (M:=λx=>n9 (I5 P C) A (aW [x] C.env) (PostS P r C g N Rk) E g.s) c λo pos c=>?_
  cases o with
  |none=>
   rw[Z1,arm_exec_Return]
   exact i7 (i7 (G6 (m6 (m6 (rt (av:=.none) .none q)))))
  |some e=>
   refine R4 (F:=λc=>lit c .none) (M:=λe=>n9 (I5 P C) A (aW [.Return (some e) pos] C.env) (PostS P r C g N Rk) E g.s) c λd k p c=>?_
   obtain rfl:=of_decide_eq_true c
   rw[Z1,arm_exec_Return]
   exact i7 (i7 (G6 (i7 (wpAny_Constant_none (m6 (m6 (rt (av:=.none) .none q)))))))
 |inc x i=>
  refine ao (M:=λbody=>n9 (I5 P C) A (aW body C.env) (PostS P r C g N Rk) E g.s) c λst c=>jh (M:=λx=>n9 (I5 P C) A (aW [x] C.env) (PostS P r C g N Rk) E g.s) c λt op v pos c=>s7 c λc1 c=>s7 c λc2 c3=>
   N4 (M:=λt=>n9 (I5 P C) A (aW [.AugAssign t op v pos] C.env) (PostS P r C g N Rk) E g.s) c2 λy p c2=>s7 c2 λc2 c4=>R4 (M:=λv=>n9 (I5 P C) A (aW [.AugAssign (.Name y p) op v pos] C.env) (PostS P r C g N Rk) E g.s) c3 λd k p' c3=>?_
  obtain rfl:=of_decide_eq_true c3
  refine eX02 (jV q) λu q=>?_
  rw[Z1]
  refine i7 (wpAny_mono (vC (Rk:=Rk) T c1 c2 c4 u q) (λf s' z=>?_) λ_ _ z=>z)
  obtain⟨rfl,z⟩:=z
  exact m6 z
 |bad=>exact q.elim
theorem GV{c:Nat}(HO:HdlOK P)(T₀:St P r C ρ₀ g₀)(y:Stp (FA C.env) g₀ g)(T:St P r C ρ g)(x:g.s.heap.Traced g₀.s.heap a (.ref (P.ce c)))(lt:c<8){hs:List (Nat×Hd)}{l:List ExceptHandler}
  (k:Hf P C.vt C.env.scope.names hs l=true) (h:Bv c ρ g.H N Rk hs):n9 (I5 P C) C.A (Z0 (.ref a) C.env l) (PostS P r C g₀ N Rk) E g.s:=by
 induction hs generalizing l with
 |nil=>exact h.elim
 |cons p r ih=>
  refine L7 (M:=λl=>n9 (I5 P C) C.A (Z0 (.ref a) C.env l) (PostS P _ C g₀ N Rk) E g.s) k λhd more k=>s7 k λk k5=>?_
  refine D2 λ_ kk=>?_
  obtain⟨t,n,body,pos⟩:=hd
  refine kk ?_
  refine s7 k λk0 k=>eY (M:=λn=>n9 (I5 P C) C.A (Z0 (.ref a) C.env (⟨t,n,body,pos⟩::more)) (PostS P _ C g₀ N Rk) E g.s) k0 (gx (M:=λt=>n9 (I5 P C) C.A (Z0 (.ref a) C.env (⟨t,none,body,pos⟩::more)) (PostS P _ C g₀ N Rk) E g.s) k λe k=>
   N4 (M:=λe=>n9 (I5 P C) C.A (Z0 (.ref a) C.env (⟨some e,none,body,pos⟩::more)) (PostS P _ C g₀ N Rk) E g.s) k λyn np k=>s7 k λk1 k=>s7 k λk2 k=>s7 k λk3 k=>s7 k λk4 k=>s7 k λk6 k7=>?_)
  refine wpAny_handleBy_cons (codeAny_handlers_test (T.glob k2 k3 (of_decide_eq_true k4) ?_)) (by intro z;cases z)
  refine eX41 (id x) λoe vs Tt oT zy8=>eX13 zy8 λts q1 q2 q3=>?_
  have lk:bL (y8 P.prog C.w) g.s.heap (typeOf (.ref a)) (.ref (P.ce c)):=q2▸(bL.ld q1).andThen .now
  refine(exm_one T.kin lk (HO.m c p.1 lt (wQ k1))).here ?_
  cases sb:rK c p.1 with
  |true=>
   cases body with
   |nil=>cases k6
   |cons b0 bl=>
    refine codeAny_handlers_suite (BD T₀ y T x λs' y' T'=>?_)
    refine wpAny_mono (zo (E:=λ_ _=>False) T' k7 (h.t sb)) (λf s2 z=>?_) λ_ _ z=>z.elim
    cases z with | mk g2 ρ2 y2 T2 q=>exact .mk g2 ρ2 (y'.trans y2) T2 q
  |false=>exact ih k5 (h.f sb)
theorem iw{α:Type}{m:Sem α}{Q:Except Value α→Shared→Prop}(h:A4 M A m (λa s'=>Q (.ok a) s') (λe s'=>Q (.error e) s') s):A4 M A m.attempt Q E s:=
 Da (j8 (K3 h (λ_ _ z=>s8 z) λ_ _ z=>s8 z))
theorem rY{env:Env}{body orelse:Sem Flow}{h₀:ExceptHandler}{hs:List ExceptHandler}{Q:Flow→Shared→Prop}
  (h:A4 M A body (λf s₁=>match f with | .next=>A4 M A orelse Q E s₁ | f=>Q f s₁) (λe s₁=>A4 M A (leaving env e) (λ_ s₂=>A4 M A (Z0 e env (h₀::hs)) Q E s₂) E s₁) s) :
  A4 M A (tryStmt false body (h₀::hs) orelse [] env) Q E s:=by
 refine j8 (iw (K3 h (λf s₁ h₁=>?_) λe s₁ h₁=>?_))
 ·cases f<;>first | exact h₁ | exact s8 h₁
 ·have eq:(do U6 e env;setFlight e none;Z0 e env (h₀::hs):Sem Flow)=(leaving env e>>=λ_=>Z0 e env (h₀::hs)):=(Sem.bind_assoc (U6 e env) (λ_=>setFlight e none) (λ_=>Z0 e env (h₀::hs))).symm
  show A4 M A (do U6 e env;setFlight e none;Z0 e env (h₀::hs)) Q E s₁
  rw[eq]
  exact j8 h₁
theorem DV{b:T}{hs:List (Nat×Hd)}(HO:HdlOK P)(i:Al P r b):Al P r (.try_ b hs):=λC z c=>T7 c λs c=>tO c λx l a b' pos c=>s7 c λc1 c=>s7 c λc2 c=>s7 c λc3 c4=>K9 (M:=λa=>MS P r (.try_ b hs) C (.Try x l a b' pos)) c1 (K9 (M:=λb'=>MS P r (.try_ b hs) C (.Try x l [] b' pos)) c2 (by
 refine⟨λ{ρ g N Rk X} tp T h=>?_⟩
 rw[arm_exec_Try]
 refine D7 ?_
 have hb:=(i C (.ss x) c3).h tp T h
 cases l with
 |nil=>cases hs with
  |cons _ _=>exact absurd c4 e9
  |nil=>
   refine j8 (iw (K3 hb (λf s₁ z=>?_) λe s₁ z=>?_))
   ·have z':=z
    cases z with | mk g1 ρ1 y1 T1 q=>cases f<;>first | exact s8 z' | exact q.elim
   ·cases z with | mk g1 ρ1 y1 T1 ex q=>exact q.elim
 |cons h0 l=>
  refine rY (K3 hb (λf s₁ z=>?_) λe s₁ z=>?_)
  ·have z':=z
   cases z with | mk g1 ρ1 y1 T1 q=>cases f<;>first | exact s8 z' | exact z' | exact q.elim
  ·cases z with | mk g1 ρ1 y1 T1 ex q=>
   refine v9 (tj tp T y1 T1 ex λa s' ea an lt y' T' tr=>?_)
   subst ea
   exact v9 (GV HO T y' T' tr lt c4 q)))
theorem fJ{out:Str}{x:Sem Value}{rest:List (Sem Value)}{Q:Value→Shared→Prop}(h:A4 M A x (λv s₁=>∃y t,v = .str y t∧(out++y).length≤Q7∧A4 M A (joinParts (out++y) rest) Q E s₁) E s):A4 M A (joinParts out (x::rest)) Q E s:=by
 rw[joinParts]
 refine j8 (K3 h (λv s₁ h₁=>?_) λ_ _ e=>e)
 refine eX23 h₁ λy t zq2 hz hr=>?_;clear h₁;subst zq2
 have hz':¬(out.length+y.length>Q7):=by rw[←az];exact I8.mpr hz
 refine j8 (s8 ?_)
 show A4 M A (if out.length+y.length>Q7 then _ else _) Q E s₁
 rw[if_neg hz']
 first | exact hr | exact j8 (s8 hr)
theorem qM{c:Const}{G:Const→Prop}(h:tD c=true)(k:∀x,x.length≤1000→G (.str x)):G c:=by
 cases c<;>first | exact absurd h e9 | exact k _ (of_decide_eq_true h)
theorem BX{a:T}(i:Al P r a):Al P r (.fstr a):=λC z c=>I7 c λe c=>sZ c λl pos c=>L7 (M:=λl=>ME P r (.fstr a) C (.JoinedStr l pos)) c λp1 l c=>s7 c λc1 c=>L7 (M:=λl=>ME P r (.fstr a) C (.JoinedStr (p1::l) pos)) c λp2 l c=>s7 c λc2 c=>
 L7 (M:=λl=>ME P r (.fstr a) C (.JoinedStr (p1::p2::l) pos)) c λp3 l c=>s7 c λc3 c4=>K9 (M:=λl=>ME P r (.fstr a) C (.JoinedStr (p1::p2::p3::l) pos)) c4
 (R4 (M:=λp1=>ME P r (.fstr a) C (.JoinedStr [p1,p2,p3] pos)) c1 λd1 z1 z2 c1=>qM (G:=λd1=>ME P r (.fstr a) C (.JoinedStr [.Constant d1 z1 z2,p2,p3] pos)) c1 λx hx=>
 R4 (M:=λp3=>ME P r (.fstr a) C (.JoinedStr [_,p2,p3] pos)) c3 λd3 z4 z5 c3=>qM (G:=λd3=>ME P r (.fstr a) C (.JoinedStr [_,p2,.Constant d3 z4 z5] pos)) c3 λz hz=>
 wX (M:=λp2=>ME P r (.fstr a) C (.JoinedStr [_,p2,_] pos)) c2 λy cv f z3 c=>s7 c λc1 c=>s7 c λc2 c3=>eY (M:=λf=>ME P r (.fstr a) C (.JoinedStr [_,.FormattedValue y cv f z3,_] pos)) c2 (by
  obtain rfl:=of_decide_eq_true c1
  refine ME.of (λ{ρ g K X} T h=>?_) rfl
  show A4 _ C.A (joinParts Str.empty [eval (.Constant (.str x) z1 z2) C.env,eval (.FormattedValue y (-1) none z3) C.env,eval (.Constant (.str z) z4 z5) C.env]) _ _ g.s
  have e0:(Str.empty++x).length=x.length:=by rw[az];show 0+x.length=x.length;exact J0 _
  refine fJ (v9 (wpAny_Constant_str ⟨x,_,rfl,by rw[e0,F0];exact b6 hx (by decide),fJ ?_⟩))
  show A4 _ C.A (do let v ←eval y C.env;Q2 z3;formatted z3 (←J5 [v] (converted (-1) v)) none) _ _ _
  have o0:Ok P r C ρ X (af P C.base g X) nX g (g.to { g.s with toks:=g.s.toks+1 }):=(Ok.start T).step (λ_ x=>x) (Stp.grow T.rm.rr .toks) (T.rm.rr.grow .toks)
  refine j8 (cJ (g:=g.to { g.s with toks:=g.s.toks+1 }) o0 ((i C (.e y) c3).se o0.T h) λg1 av v w1 o1 vr q=>D7 ?_)
  show A4 _ _ (do let v' ←J5 [v] (pure v);formatField v' Str.empty) _ _ g1.s
  refine j8 (C2 (s8 (vr.int_el q λii t q=>?_)))
  have lg:ii.natAbs.log2<64:=by
   have:=bF q.h
   by_cases h0:ii.natAbs=0
   ·rw[h0];decide
   ·exact(Nat.log2_lt h0).mpr this
  have le:=int_text_length_le (k:=64) (by decide) lg
  have e1:((Str.empty++x)++Str.ofString (toString ii)).length≤1065:=by rw[az,e0,PySem.ofString_length];exact b7 hx le
  refine v9 (wpAny_formatField_int (by exact i8 lg (by decide)) ⟨_,_,rfl,by rw[F0];exact b6 e1 (by decide),?_⟩)
  refine fJ (v9 (wpAny_Constant_str ⟨z,_,rfl,by rw[az,F0];exact b6 (b7 e1 hz) (by decide),?_⟩))
  exact v9 (wpAny_mkStr (o1.val .toks (.str _ _) q.f) (by rw[az,F0];exact b6 (b7 e1 hz) (by decide)))))
end
section
variable{M:Model}{A:Around}{E:Value→Shared→Prop}{s:Shared}{env:Env}{α:Type}
theorem rZ{c:Prop}[Decidable c]{pos:Pos}{k:PUnit→Sem α}{Q:α→Shared→Prop}(h:A4 M A (k ()) Q E s):A4 M A (if c then (Q2 pos>>=k) else k ()) Q E s:=by
 split
 ·exact D7 h
 ·exact h
noncomputable def fh(M:Model)(A:Around)(E:Value→Shared→Prop)(use:Option (Value→Sem Unit))(Q:Value→Shared→Prop)(acc:Value)(C:Addr)(r:R6)(s':Shared):Prop:=match r with
 |.ok _=>(match use with
  |none=>∃m,s'.heap.Ns C m∧∀h' m',h'.Ns C m'→Heap.SameBut C s'.heap h'→Q acc { s' with heap:=h' }
  |some u=>A4 M A (u acc) (λ_ s''=>∃m,s''.heap.Ns C m∧∀h' m',h'.Ns C m'→Heap.SameBut C s''.heap h'→Q .none { s'' with heap:=h' }) E s')
 |.error _=>False
theorem iS{e:PE}{scope:Scope}{pos:Pos}{newAcc first:Sem Value}{g:Comprehension}{gs:List Comprehension}{cl:List (Str×Addr)}{use:Option (Value→Sem Unit)}{Q:Value→Shared→Prop}
  (hcl:clausesOf e=g::gs) (hs:∀x,foldedSetIterable g.iter env x=pure x) (hclos:closureFor scope env=pure cl) (hkind:scope.kind = .function) (hnames:∀x∈scope.names,x.2 = .local→scope.names.lookup x.1=some .local)
  (h:A4 M A first (λx s₁=>A4 M A (bJ x) (λit s₂=>A4 M A newAcc (λacc s₃=>
   A4 M A (newFunctionEnv scope env.globals cl [] env.qual none .none (some env)) (λcenv s₄=>
    M5 M A (.compStart e 0 it acc { cenv with scope:=W9 scope env }) (fh M A E use Q acc cenv.locals) s₄) E s₃) E s₂) E s₁) E s) :
  A4 M A (cQ e scope env pos newAcc false first use) Q E s:=by
 unfold cQ
 rw[hclos,hcl]
 refine D6 h λx s₁ h₁=>D7 (j8 (X9 (hs x) (D6 (C2 h₁) λit s₂ h₂=>rZ (D6 h₂ λacc s₃ h₃=>j8 (s8 (D6 h₃ λcenv s₄ h₄=>?_))))))
 dsimp only
 have hv:∀x∈(scope.names.filter λx=>(x.2 == .local||x.2 == .cell)&&x.1 != (".0" : Str)).reverse,x.2 = .local →
   Env.kindOf { cenv with scope:=W9 scope env } x.1=some .local:=λx hx hl=>lookup_relabel_local (hnames x (List.mem_filter.mp (P4.mp hx)).1 hl)
 refine C2 (j8 (iw (C2 (zX rfl ?_ (by intro x;cases x)))))
 refine bw (R:=fh M A E use Q acc cenv.locals) h₄ λr s' hr=>?_
 cases r with
 |error x=>exact hr.elim
 |ok f=>
  cases use with
  |none=>
   refine eX12 hr λm hn hr=>?_
   exact j8 (C2 (v9 (wpAny_comp_letGo (cenv:={ cenv with scope:=W9 scope env }) hkind _ s' m hv hn λh' m' hm' hs'=>s8 (hr h' m' hm' hs'))))
  |some u=>
   refine j8 (v9 (P9 (D6 (C2 hr) λ_ s'' hr'=>?_)))
   refine eX12 hr' λm hn hr'=>?_
   exact j8 (v9 (wpAny_comp_letGo (cenv:={ cenv with scope:=W9 scope env }) hkind _ s'' m (λx hx hl=>hv x ((y6.mp hx).elim List.mem_of_mem_drop U3) hl) hn λh' m' hm' hs'=>s8 (hr' h' m' hm' hs')))
noncomputable def fT(cells:List (Str×Addr)):List (Str×NameKind)→List (Str×Addr)→List (Str×Addr)
 |[],acc=>acc
 |p::r,acc=>fT cells r (if (p.2==NameKind.free)=true then (p.1,(cells.lookup p.1).getD 0)::acc else acc)
theorem lh{scope:Scope}(h:∀x∈scope.names,x.2 = .free→(env.cells.lookup x.1).isSome=true):closureFor scope env=pure (fT env.cells scope.names []):=by
 simp only[closureFor]
 have go:∀(names:List (Str×NameKind)) (acc:List (Str×Addr)),(∀x∈names,x.2 = .free→(env.cells.lookup x.1).isSome=true) →
   (forIn names acc λx r=>match x with
    |(name,kind)=>if (kind==NameKind.free)=true then do let a ←cellOf env name;pure (ForInStep.yield ((name,a)::r)) else pure (ForInStep.yield r):Sem (List (Str×Addr)))=pure (fT env.cells names acc):=by
  intro names
  induction names with
  |nil=>intro acc _;rfl
  |cons p r ih=>
   intro acc hh
   obtain⟨n,k⟩:=p
   rw[List.forIn_cons,fT]
   dsimp only
   by_cases q:(k==NameKind.free)=true
   ·rw[if_pos q,if_pos q]
    have z:=hh (n,k) (.head _) (by simpa using q)
    unfold cellOf
    cases zz:env.cells.lookup n with
    |none=>rw[show (n,k).1=n from rfl,zz] at z;exact absurd z e9
    |some a=>exact ih _ λx hx=>hh x (.tail _ hx)
   ·rw[if_neg q,if_neg q]
    exact ih _ λx hx=>hh x (.tail _ hx)
 have:=go scope.names [] h
 first | exact this | (rw[this];rfl)
theorem pC{cells:List (Str×Addr)}{names:List (Str×NameKind)}{acc:List (Str×Addr)}(h:∀x∈names,x.2 = .free→(cells.lookup x.1).isSome=true)(ha:∀p∈acc,cells.lookup p.1=some p.2):∀p∈fT cells names acc,cells.lookup p.1=some p.2:=by
 induction names generalizing acc with
 |nil=>exact ha
 |cons q r ih=>
  refine ih (λx hx=>h x (.tail _ hx)) λp hp=>?_
  split at hp
  ·rename_i k
   rcases l5.mp hp with e | e
   ·subst e
    refine eX11 (Option.isSome_iff_exists.mp (h q (.head _) (by simpa using k))) λa ea=>?_
    dsimp only
    rw[ea];rfl
   ·exact ha p e
  ·exact ha p hp
theorem wx{cells:List (Str×Addr)}{names:List (Str×NameKind)}{acc:List (Str×Addr)}{p:Str×Addr}(h:p∈acc):p∈fT cells names acc:=by
 induction names generalizing acc with
 |nil=>exact h
 |cons q r ih=>
  refine ih ?_
  split
  ·exact .tail _ h
  ·exact h
theorem wq{cells:List (Str×Addr)}{x:Str}{names:List (Str×NameKind)}{acc:List (Str×Addr)}(h:(x,NameKind.free)∈names):∃c,(x,c)∈fT cells names acc:=by
 induction names generalizing acc with
 |nil=>cases h
 |cons q r ih=>
  rcases l5.mp h with e | e
  ·subst e
   show ∃c,(x,c)∈fT cells r (if (NameKind.free==NameKind.free)=true then (x,(cells.lookup x).getD 0)::acc else acc)
   rw[if_pos (show (NameKind.free==NameKind.free)=true from rfl)]
   exact⟨_,wx (.head _)⟩
  ·exact ih e
theorem uR{l:List (Str×Addr)}{x:Str}{c:Addr}(h:(x,c)∈l):∃d,l.lookup x=some d:=by
 cases e:l.lookup x with
 |some d=>exact⟨d,rfl⟩
 |none=>
  have:=List.lookup_eq_none_iff.mp e _ h
  simp at this
theorem rI{c:PE}{Q:Bool→Shared→Prop}(h:A4 M A (V4 c env (eval c env)) Q E s):
  A4 M A (forIn [c] true λc r=>if r=true then do let ok ←V4 c env (eval c env);pure (ForInStep.yield ok) else pure (ForInStep.yield r)) Q E s:=by
 simp only[List.forIn_cons,List.forIn_nil,if_true]
 exact j8 (j8 (K3 h (λb s' hb=>s8 (s8 hb)) λ_ _ x=>x))
end
section
variable{P:Prg}{r:Nat}{C:Cx}{ρ ρ₀:Loc}{g g₀ g₁:Sg}{K:KE}{X:XE}{E:Value→Shared→Prop}{s s' s₂:Shared}{v u:Value}{av bv:AV}{V V':Vw}{a I D L:Addr}{N:KN}{Rk:KE}{XX:XS}{Y:Addr→Prop}
inductive CompEnd(P:Prg)(r:Nat)(C:Cx)(g:Sg)(D:Addr)(K:KE):R6→Shared→Prop
 |mk {f:Flow} (g':Sg) {ρ:Loc} {acc:List AV} {vs:List Value} {n:Nat} (y:Stp nX g g') (T:St P r C ρ g') (o:Own C g' g.s.heap D) (d:g'.s.heap.get? D=some { cls:=.type "list",data:=.seq vs.toArray n }) (v:VRs P g'.v acc vs) (z:acc.length≤K8) (k:K (.fl acc) g'.H):CompEnd P r C g D K (.ok f) g'.s
inductive IfsOk(P:Prg)(r:Nat)(C:Cx):T→List PE→Prop
 |nil:IfsOk P r C (.bool_ true) []
 |one {c:T} {q:PE} (m:ME P r c C q):IfsOk P r C c [q]
noncomputable abbrev cL(P:Prg)(r:Nat)(a c:T)(ρ:Loc)(x:Nat)(K:KE):List AV→List AV→Hp→Prop:=iN (λρ H K=>R9 (bo P r) c ρ H K xF) (λρ H K=>R9 (bo P r) a ρ H K xF) ρ x K
theorem sH{a c:T}{x:Nat}{z:Str}{zp:Pos}{elt iter:PE}{ifs:List PE}{sc:Scope}{pos:Pos}{ρ₀:Loc}(ia:ME P r a C elt)(ic:IfsOk P r C c ifs)(T₀:Rm P r C g₀)
  (hz:C.vt[x]?=some z) (kz:C.env.scope.names.lookup z=some .local) (nC:g₀.s.heap.get? C.env.locals=none) (ne:D≠I) (rest:List AV) :
  ∀(ρ:Loc) (g:Sg) (acc:List AV) (vs:List Value) (n:Nat),(∀v,dk ρ x v=dk ρ₀ x v)→Stp nX g₀ g→St P r C ρ g →
   Own C g g₀.s.heap I→Own C g g₀.s.heap D→Itr P g.v I none rest→g.s.heap.get? D=some { cls:=.type "list",data:=.seq vs.toArray n }→VRs P g.v acc vs→acc.length≤K8 →
   cL P r a c ρ₀ x K rest acc g.H→M5 (I5 P C) C.A (.compLoop (.ListComp elt [⟨.Name z zp,iter,ifs,0⟩] sc pos) 0 (.ref I) (.ref D) C.env) (CompEnd P r C g₀ D K) g.s:=by
 induction rest with
 |nil=>
  intro ρ g acc vs n el y T oI oD it hD hv hl h
  refine V6 rfl ?_
  show A4 _ C.A ((compTurn (.ListComp elt [⟨.Name z zp,iter,ifs,0⟩] sc pos) 0 (.ref I) (.ref D) C.env).onRaise (λx=>do U6 x C.env;Q6 x)) _ _ g.s
  refine cR ?_
  rw[compTurn_list]
  refine D7 (j8 (v9 (it.next T.rm.hd T.rm.rr oI.s trivial (λ_ h' eb=>?_) nofun)))
  refine eX03 (oI.ext (s':={ g.s with heap:=h' }) T₀ y T eb rfl rfl) λy' T' kk=>?_
  exact s8 (CompEnd.mk (g.to { g.s with heap:=h' }) y' T' oD.to (eb D _ ne hD) (hv.kp kk) hl h)
 |cons v l ih=>
  intro ρ g acc vs n el y T oI oD it hD hv hl h
  refine V6 rfl ?_
  show A4 _ C.A ((compTurn (.ListComp elt [⟨.Name z zp,iter,ifs,0⟩] sc pos) 0 (.ref I) (.ref D) C.env).onRaise (λx=>do U6 x C.env;Q6 x)) _ _ g.s
  refine cR ?_
  rw[compTurn_list]
  refine D7 (j8 (v9 (it.next T.rm.hd T.rm.rr oI.s trivial nofun λv' l' e h' tk u sb vr it'=>?_)))
  cases e
  refine eX03 (oI.ext (s':={ g.s with heap:=h',toks:=tk }) T₀ y T (λb x hb e=>(sb.2 b hb).trans e) rfl rfl) λy1 T1 kk=>?_
  dsimp only
  refine j8 (X9 (show letOwnedTupleGo (.Name z zp) (.ref I) u=pure () from rfl) ?_)
  refine j8 (v9 (i7 (G6 (O7 (T1.storeL hz kz (vr.kp kk) λs2 y2 T2=>?_)))))
  have y2C:=y2 (λa=>a=C.env.locals) rfl
  have y2':Stp nX g₀ (g.to s2):=((y1.weak (Y:=λa=>a=C.env.locals) λ_ q=>q.elim).trans y2C).less λa o e q=>by rw[q,nC] at e;exact nomatch e
  have ndD:∀{n:Nat} {vs:Array Value},¬Ag { cls:=.type "list",data:=.seq vs n }:=λzt8=>eX21 zt8 λ_ _ z=>by cases z
  have oD1:Own C (g.to { g.s with heap:=h',toks:=tk }) g₀.s.heap D:=oD.to
  have oI1:Own C (g.to { g.s with heap:=h',toks:=tk }) g₀.s.heap I:=oI.to
  have hD2:=oD1.stay y2C (λe=>oD.f C.env.locals (.inl rfl) e.symm) ndD ((sb.2 D ne).trans hD)
  refine eX24 it'.cls λob Tn ho hc hT nf=>?_
  have ho2:=oI1.stay y2C (λe=>oI.f C.env.locals (.inl rfl) e.symm) nf ho
  have same:∀{h:Heap} (x:Obj),h.get? I=some ob→h.get? I=some x→x=ob:=λx a b=>by rw[a] at b;cases b;rfl
  have it2:=it'.kp y2C.kp λx e=>by rw[same x ho e];exact ho2
  rw[el v] at T2
  have h:=aJ h
  have turn:∀(g3:Sg),Stp nX (g.to s2) g3→R P C.base g3→∀b:Bool,br b (R9 (bo P r) a (dk ρ₀ x v) g3.H (λw H=>nP (acc.length<K8) (cL P r a c ρ₀ x K l (acc++[w]) H)) xF) (cL P r a c ρ₀ x K l acc g3.H) →
    A4 (I5 P C) C.A (if b=true then (do (do let _ ←call (.builtin "list.append") [.ref D,←eval elt C.env]);again (.compLoop (.ListComp elt [⟨.Name z zp,iter,ifs,0⟩] sc pos) 0 (.ref I) (.ref D) C.env)) else again (.compLoop (.ListComp elt [⟨.Name z zp,iter,ifs,0⟩] sc pos) 0 (.ref I) (.ref D) C.env)) (nr (I5 P C) C.A (CompEnd P r C g₀ D K)) (λ_ _=>False) g3.s:=by
   intro g3 y3 r3 b hb
   have T3:=T2.step y3 r3
   have oI2:Own C (g.to s2) g₀.s.heap I:=oI.to
   have oD2:Own C (g.to s2) g₀.s.heap D:=oD.to
   have hD3:=oD2.stay y3 id ndD hD2
   have ho3:=oI2.stay y3 id nf ho2
   have it3:=it2.kp y3.kp λx e=>by rw[same x ho2 e];exact ho3
   have oI3:=oI2.step y3 ⟨_,ho2⟩
   have oD3:=oD2.step y3 ⟨_,hD2⟩
   have hv3:=((hv.kp kk).kp y2C.kp).kp y3.kp
   cases b with
   |false=>exact X8 e9 (s8 ⟨rfl,rfl,ih (dk ρ₀ x v) g3 acc vs n (λv'=>iy) (y2'.trans y3) T3 oI3 oD3 it3 hD3 hv3 hl (hb.f rfl)⟩)
   |true=>
    refine jK rfl (j8 (j8 (cJ (E:=λ_ _=>False) (X:=xF) ⟨Stp.refl (X:=nX),T3,λ_ _ z=>pW z⟩ (ia.se T3 (hb.t rfl)) λg4 av4 u4 y4 o4 v4 q4=>?_)))
    have hD4:=oD3.stay y4 id ndD hD3
    have ho4:=oI3.stay y4 id nf ho3
    have it4:=it3.kp y4.kp λx e=>by rw[same x ho3 e];exact ho4
    have oI4:=oI3.step y4 ⟨_,ho3⟩
    have oD4:=oD3.step y4 ⟨_,hD3⟩
    have hvs:=hv3.kp y4.kp
    refine j8 (v9 (wpAny_list_append_plain ⟨n,hD4⟩ (λh5 pl sb5=>?_) (by rw[S5,←hvs.len];exact jx (A9 q4.h))))
    refine eX11 pl λn5 hD5=>?_;clear pl
    refine eX03 (oD4.ext (s':={ g4.s with heap:=h5 }) T₀ ((y2'.trans y3).trans y4) o4.T (λb x hb e=>(sb5.2 b hb).trans e) rfl rfl) λy5 T5 kk5=>?_
    refine s8 (s8 ⟨rfl,rfl,?_⟩)
    refine ih (dk ρ₀ x v) (g4.to { g4.s with heap:=h5 }) (acc++[av4]) (vs++[u4]) n5 (λv'=>iy) y5 T5 oI4.to oD4.to (it4.kp kk5 λx e=>(sb5.2 I λq=>ne q.symm).trans e) ?_ (VRs.app (.cons (v4.kp kk5) .nil) (hvs.kp kk5)) (by rw[d6];exact q4.h) q4.f
    rw[show (V0 (vs++[u4]))=(V0 vs).push u4 by simp];exact hD5
  cases ic with
  |nil=>
   refine j8 (s8 ?_)
   have:=turn (g.to s2) .refl T2.rm.rr true h
   first | exact this | exact jK rfl (by simpa using this)
  |one ic=>
   exact j8 (rI (sV (g:=g.to s2) (E:=λ_ _=>False) (X:=xF) ⟨Stp.refl (X:=nX),T2,λ_ _ z=>pW z⟩ (ic.sb T2 Tr.of h) λg3 av3 b y3 o3 e q3=>turn g3 y3 o3.T.rm.rr b (fy e q3)))
theorem aE{env:Env}{sc:Scope}(hk:env.scope.kind = .function):(W9 sc env).names=G3 env.scope.names sc.names:=by
 unfold W9 G3
 refine ba λp _=>?_
 obtain⟨n,k⟩:=p
 dsimp only
 rw[hk]
 simp[Env.kindOf]
theorem ry{outer names:List (Str×NameKind)}{y:Str}{k:NameKind}(e:(G3 outer names).lookup y=some k):∃k0,(y,k0)∈names∧(k0=k∨(k0 = .free∧k = .cell)):=by
 refine eX12 (F7.mp (by
  have:∀{l:List (Str×NameKind)},l.lookup y=some k→(y,k)∈l:=λ{l} e=>by
   induction l with
   |nil=>cases e
   |cons p l ih=>
    obtain⟨n,k0⟩:=p
    rw[L9] at e
    split at e
    ·rename_i z;cases e;rw[beq_iff_eq.mp z];exact .head _
    ·exact .tail _ (ih e)
  exact this e)) λp m q=>?_
 split at q
 ·rename_i z
  cases q
  rw[M1] at z
  exact⟨p.2,m,.inr ⟨by simpa using z.1,rfl⟩⟩
 ·cases q
  exact⟨_,m,.inl rfl⟩
theorem bH{vt:List Str}{outer names:List (Str×NameKind)}{z:Str}(c:fS vt outer names z=true){y:Str}{k:NameKind}(h:(y,k)∈names):
  (k = .local→names.lookup y=some .local∧(y=z∨y∉vt))∧k≠.cell∧(k = .free→outer.lookup y=some .cell∧y∈vt):=by
 unfold fS at c
 have:=M0.mp c _ h
 dsimp only at this
 refine⟨λe=>?_,λe=>?_,λe=>?_⟩
 ·subst e;simpa using this
 ·subst e;exact absurd this e9
 ·subst e;simpa using this
noncomputable abbrev Cx.comp(C:Cx)(sc:Scope)(L:Addr):Cx:={ C with env:=compEnvC sc (fT C.env.cells sc.names []) L C.env }
theorem fO(T:St P r C ρ g){sc:Scope}{z:Str}(ck:fS C.vt C.env.scope.names sc.names z=true):∀p∈sc.names,p.2 = .free→(C.env.cells.lookup p.1).isSome=true:=λp hp e=>by
 refine eX02 ((bH ck (y:=p.1) (k:=p.2) hp).2.2 e) λe1 e2=>?_
 refine eX11 (List.mem_iff_getElem?.mp e2) λi hi=>?_
 refine eX12 T.vars λm n q=>?_
 refine eX12 ((q i p.1 hi).2 e1) λc ec _=>?_
 rw[ec];rfl
theorem Rm.env(T:Rm P r C g){e:Env}{vt:List Str}:Rm P r { C with env:=e,vt:=vt } g:=⟨T.rr,T.hd,T.fr,T.ff,T.fo,T.fc,T.gd,T.dp,T.un⟩
theorem St.comp(T:St P r C ρ g){sc:Scope}{x:Nat}{z:Str}(hz:C.vt[x]?=some z)(hk:sc.kind = .function)(ck:fS C.vt C.env.scope.names sc.names z=true)(kz:(G3 C.env.scope.names sc.names).lookup z=some .local)
  (w:Grow g.s s') (nC:g.s.heap.get? L=none) (hC:s'.heap.Ns L λ_=>none):St P r (C.comp sc L) (dk ρ x .U) (g.to s'):=by
 have T':=T.step (Stp.grow T.rm.rr w) (T.rm.rr.grow w)
 have nm:(W9 sc C.env).names=G3 C.env.scope.names sc.names:=aE T.kind
 have mem:∀p∈fT C.env.cells sc.names [],C.env.cells.lookup p.1=some p.2:=pC (fO T ck) (λ_ h=>nomatch h)
 have old:∀a y,(y,a)∈fT C.env.cells sc.names []→FA C.env a:=λa y h=>.inr ⟨y,Z4 (mem _ h)⟩
 refine⟨T'.rm.env,hk,T.gl,T.bl,λa fa=>?_,λa fa=>?_,⟨_,hC,λi y e=>⟨λk u=>?_,λk=>?_⟩⟩,T.nd,by rw[oO];exact T.rl,λy y' c h1 h2=>T.cd y y' c (Z4 (mem _ h1)) (Z4 (mem _ h2)),λy c h e=>?_⟩
 ·rcases fa with e | ⟨y,h⟩
  ·subst e
   exact T.rm.rr.far nC
  ·exact T.own a (old a y h)
 ·rcases fa with e | ⟨y,h⟩
  ·refine eX32 hC λo es ep e' _=>?_;clear hC
   exact⟨o,by rw[e];exact e'⟩
  ·exact T'.oex a (old a y h)
 ·have k':(W9 sc C.env).names.lookup y=some .local:=k
  rw[nm] at k'
  refine eX12 (ry k') λk0 m q=>?_
  rcases q with rfl | ⟨_,q⟩
  ·rcases ((bH ck m).1 rfl).2 with e1 | e1
   ·subst e1
    have:=pN T.nd hz e
    subst this
    rw[jU (by rw[←T.rl];exact(D4.mp hz).1)] at u;exact nomatch u
   ·exact absurd (List.mem_iff_getElem?.mpr ⟨i,e⟩) e1
  ·cases q
 ·have k':(W9 sc C.env).names.lookup y=some .cell:=k
  rw[nm] at k'
  refine eX12 (ry k') λk0 m q=>?_
  rcases q with rfl | ⟨rfl,_⟩
  ·exact absurd rfl (bH ck m).2.1
  ·have e1:=((bH ck m).2.2 rfl).1
   have ne:i≠x:=λw=>by
    subst w;rw[hz] at e;cases e;rw[kz] at k';exact nomatch k'
   refine eX12 T'.vars λm' n' q'=>?_
   refine eX12 ((q' i y e).2 e1) λc ec zn1=>?_;refine eX12 zn1 λcv ic b=>?_;clear zn1
   refine eX11 (wq (cells:=C.env.cells) (acc:=[]) m) λd hd=>?_
   refine eX11 (uR hd) λd' hd'=>?_
   have:=mem _ (Z4 hd')
   dsimp only at this
   rw[ec] at this;cases this
   rw[gF ne]
   exact⟨c,hd',cv,ic,b⟩
 ·have e:c=L:=e
  refine eX11 (T.oex c (old c y h)) λo q=>?_
  rw[e,nC] at q;exact nomatch q
structure ItOK(P:Prg)(r:Nat)(C:Cx)(ρ:Loc)(a c:T)(x:Nat)(K:KE)(g:Sg)(it:Value)(s₂:Shared):Prop where
 is:∃(g₁:Sg) (I:Addr) (rest:List AV),it = .ref I∧Stp nX g g₁∧St P r C ρ g₁∧Grow g₁.s s₂∧g₁.s.heap.get? I=none∧Itr P (g₁.to s₂).v I none rest∧cL P r a c ρ x K rest [] g₁.H ∧
  ∀(t:Shared) (Q E:Value→Shared→Prop),(∀o,s₂.heap.get? I=some o→t.heap.get? I=some o)→Q (.ref I) t→n9 (I5 P C) C.A (bJ (.ref I)) Q E t
theorem wa{a c:T}{x:Nat}{z:Str}{zp:Pos}{elt iter:PE}{ifs:List PE}{sc:Scope}{pos:Pos}{rest:List AV}{RR:Value→Addr→R6→Shared→Prop}
  (ia:∀L,ME P r a (C.comp sc L) elt) (ic:∀L,IfsOk P r (C.comp sc L) c ifs) (T:St P r C ρ g) (w:Grow g.s s₂) (nI:g.s.heap.get? I=none) (itr:Itr P (g.to s₂).v I none rest)
  (self:∀(t:Shared) (Q E:Value→Shared→Prop),(∀o,s₂.heap.get? I=some o→t.heap.get? I=some o)→Q (.ref I) t→n9 (I5 P C) C.A (bJ (.ref I)) Q E t)
  (hz:C.vt[x]?=some z) (hk:sc.kind = .function) (ck:fS C.vt C.env.scope.names sc.names z=true) (kz:(G3 C.env.scope.names sc.names).lookup z=some .local)
  (h:cL P r a c ρ x K rest [] g.H) (hR:∀D L x s',g.s.heap.get? D=none→g.s.heap.get? L=none→CompEnd P r (C.comp sc L) g D K x s'→RR (.ref D) L x s') :
  A4 (I5 P C) C.A (newList []) (λacc s₃=>A4 (I5 P C) C.A (newFunctionEnv sc C.env.globals (fT C.env.cells sc.names []) [] C.env.qual none .none (some C.env)) (λcenv s₄=>
   M5 (I5 P C) C.A (.compStart (.ListComp elt [⟨.Name z zp,iter,ifs,0⟩] sc pos) 0 (.ref I) acc { cenv with scope:=W9 sc C.env }) (RR acc cenv.locals) s₄) E s₃) E s₂:=by
 refine v9 (Y8 (v9 (wpAny_newFunctionEnv (λy hy=>(bH ck (y:=y.1) (k:=y.2) hy).2.1) (by intro y hy;simp at hy) (λh₁ hns₁ hsb₁=>?_) hk)))
 dsimp only at hns₁ hsb₁ ⊢
 generalize hH2:s₂.heap.push { cls:=.type "list",dict:=Option.none,data:=.seq ([]:List Value).toArray }=H2 at hns₁ hsb₁ ⊢
 have hC:H2.objs.size=s₂.heap.objs.size+1:=by rw[←hH2,Heap.size_push]
 have hDC:s₂.heap.objs.size≠H2.objs.size:=by rw[hC];exact bA (ax _)
 have below:∀b,b<s₂.heap.objs.size→b≠H2.objs.size:=λb hb=>bA (by rw[hC];exact Nat.lt_succ_of_lt hb)
 have old:∀b o,s₂.heap.get? b=some o→h₁.get? b=some o:=λb o e=>hsb₁.extBut b o (below b (Heap.lt_size e)) (Heap.get?_push_of_some _ (hH2▸Heap.get?_push_of_some _ e))
 have hacc:h₁.get? s₂.heap.objs.size=some { cls:=.type "list",data:=.seq (V0 []) }:=hsb₁.extBut _ _ hDC (Heap.get?_push_of_some _ (hH2▸Heap.get?_push_size _ rfl))
 have nn:∀a,s₂.heap.objs.size≤a→g.s.heap.get? a=none:=λa le=>by
  cases q:g.s.heap.get? a with
  |none=>rfl
  |some o=>exact absurd (Heap.lt_size (w.kp a o q)) (I8.mpr le)
 have nC:g.s.heap.get? H2.objs.size=none:=nn _ (by rw[hC];exact P8 _)
 have nD:g.s.heap.get? s₂.heap.objs.size=none:=nn _ (d8 _)
 refine eX22 itr.cls λoi _ hI _=>?_
 have lI:I<s₂.heap.objs.size:=Heap.lt_size hI
 have w4:∀tk,Grow g.s { s₂ with heap:=h₁,toks:=tk }:=λtk=>w.trans ⟨old,rfl,rfl⟩
 have ns0:h₁.Ns H2.objs.size λ_=>none:=by simpa using hns₁
 have loop:∀tk,M5 (I5 P C) C.A (.compLoop (.ListComp elt [⟨.Name z zp,iter,ifs,0⟩] sc pos) 0 (.ref I) (.ref s₂.heap.objs.size) (compEnvC sc (fT C.env.cells sc.names []) H2.objs.size C.env)) (RR (.ref s₂.heap.objs.size) H2.objs.size) { s₂ with heap:=h₁,toks:=tk }:=λtk=>by
  have Tc:=T.comp hz hk ck kz (w4 tk) nC ns0
  have own:∀J,g.s.heap.get? J=none→J≠H2.objs.size→Own (C.comp sc H2.objs.size) (g.to { s₂ with heap:=h₁,toks:=tk }) g.s.heap J:=λJ nJ ne=>by
   have o:=Own.new T (.refl (X:=nX)) nJ
   refine⟨o.s,o.c,o.b,λa fa q=>?_,o.o,nJ⟩
   rcases fa with e | ⟨y,m⟩
   ·exact ne (q.symm.trans e)
   ·refine eX11 (T.oex a (.inr ⟨y,Z4 ((pC (acc:=[]) (fO T ck) (λ_ h=>nomatch h)) (y,a) m)⟩)) λo2 e2=>?_
    rw[q,nJ] at e2;exact nomatch e2
  refine bw (sH (C:=C.comp sc H2.objs.size) (g₀:=g) (D:=s₂.heap.objs.size) (I:=I) (ia _) (ic _) T.rm.env hz (by show (W9 sc C.env).names.lookup z=_;rw[aE T.kind];exact kz) nC (Nat.ne_of_gt lI)
   rest (dk ρ x .U) (g.to { s₂ with heap:=h₁,toks:=tk }) [] [] 0 (λv=>iy) (Stp.grow T.rm.rr (w4 tk)) Tc (own I nI (below I lI)) (own _ nD hDC) (Itr.kp (V:=(g.to s₂).v) (V':=(g.to { s₂ with heap:=h₁,toks:=tk }).v) ⟨d8 _,λ_ _=>rfl,λ_ x=>x,λa x=>?_⟩ (old I) itr) hacc .nil (j9 _) h) λx s' q=>hR _ _ x s' nD nC q
  refine eX12 (T.rm.rr.sp a x) λo e _=>?_
  exact(old a o (w.kp a o e)).trans (w.kp a o e).symm
 refine V6 rfl ?_
 show A4 _ C.A ((compStart (.ListComp elt [⟨.Name z zp,iter,ifs,0⟩] sc pos) 0 (.ref I) (.ref s₂.heap.objs.size) (compEnvC sc (fT C.env.cells sc.names []) H2.objs.size C.env)).onRaise (λx=>do U6 x (compEnvC sc (fT C.env.cells sc.names []) H2.objs.size C.env);Q2 theWindowsPlace)) _ _ _
 refine cR ?_
 unfold compStart
 show A4 _ _ (ask>>=_) _ _ _
 refine j8 (v9 (wpAny_askSetting ?_))
 split
 ·first
   |exact j8 (s8 (s8 (And.intro rfl ⟨rfl,loop _⟩)))
   |exact s8 (And.intro rfl ⟨rfl,loop _⟩)
 ·refine j8 (v9 (P9 ?_))
  show A4 _ _ (Q2 iter.pos>>=_) _ _ _
  exact D7 (j8 (v9 (self _ _ _ (old I) (s8 (And.intro rfl ⟨rfl,loop _⟩)))))
theorem lX{x:R6}(nD:g.s.heap.get? D=none)(h:CompEnd P r C g D K x s'){G:Prop}
  (k:∀g' av m,g'.s=s'→Stp nX g g'→R P C.base g'→VR P g'.v av (.ref D)→K av g'.H→s'.heap.Ns C.env.locals m→¬g'.S C.env.locals→(∀n,P7 g'.H n→C.env.locals≠g'.μ n)→C.base.get? C.env.locals=none→G):G:=by
 cases h with | mk g' y T o d v z q=>
 refine eX03 (T.own C.env.locals (.inl rfl)) λc1 c2 c3=>?_
 refine eX12 T.vars λm hm _=>?_
 refine k ⟨S1 g'.S D,g'.μ,g'.H,g'.s⟩ _ m rfl (y.more nD) (T.rm.rr.more o.s o.c d my) (.fl _ _ D _ (.inr rfl) d (v.kp (V:=g'.v) (V':=⟨g'.s.heap,S1 g'.S D,g'.μ,g'.H.length⟩) ⟨d8 _,λ_ _=>rfl,λ_ x=>.inl x,λ_ _=>rfl⟩) z) q hm (λq=>?_) c2 c3
 rcases q with q | q
 ·exact c1 q
 ·exact o.f C.env.locals (.inl rfl) q
structure CT(vt:List Str)(names:List (Str×NameKind))(x:Nat)(z:Str)(sc:Scope):Prop where
 hz:vt[x]?=some z
 hk:sc.kind = .function
 ck:fS vt names sc.names z=true
 kz:(G3 names sc.names).lookup z=some .local
theorem iG{vt:List Str}{names:List (Str×NameKind)}{x:Nat}{l:List Comprehension}{sc:Scope}{F:PE→Bool}{G:List PE→Bool}{M:List Comprehension→Prop}(h:mZ vt names x l sc F G=true)
  (k:∀z zp iter ifs,CT vt names x z sc→F iter=true→G ifs=true→M [⟨.Name z zp,iter,ifs,0⟩]):M l:=by
 refine ao (M:=M) h λc h=>?_
 refine D2 λ_ kk=>?_
 obtain⟨t,iter,ifs,as⟩:=c
 refine kk ?_
 refine s7 h λh1 h=>N4 (M:=λt=>M [⟨t,iter,ifs,as⟩]) h λz zp h=>s7 h λh2 h=>s7 h λh3 h=>s7 h λh4 h=>s7 h λh5 h=>s7 h λh6 h7=>?_
 obtain rfl:as=0:=of_decide_eq_true h1
 exact k z zp iter ifs ⟨of_decide_eq_true h2,by cases q:sc.kind<;>first | rfl | (rw[q] at h3;cases h3),h4,of_decide_eq_true h5⟩ h6 h7
theorem tA{t:T}(h:sD t=true):t = .bool_ true:=by
 cases t<;>first | exact absurd h e9 | skip
 rename_i b;cases b<;>first | rfl | exact absurd h e9
theorem Bs{c:T}{ifs:List PE}{sc:Scope}(i:Al P r c)(hk:C.env.scope.kind = .function) (h:(match N2 ifs with
   |true=>sD c
   |false=>E3 ifs λq r=>N2 r&&ck P C.vt c (G3 C.env.scope.names sc.names) (.e q))=true) (L:Addr):IfsOk P r (C.comp sc L) c ifs:=by
 cases ifs with
 |nil=>obtain rfl:=tA h;exact .nil
 |cons q l=>exact ao (M:=IfsOk P r (C.comp sc L) c) h λq h=>.one (i (C.comp sc L) (.e q) (by show ck P C.vt c (W9 sc C.env).names (.e q)=true;rw[aE hk];exact h))
theorem kB{a c:T}{x:Nat}{elt iter:PE}{z:Str}{zp:Pos}{ifs:List PE}{sc:Scope}{pos p':Pos}{use:Option (Value→Sem Unit)}{Q:Value→Shared→Prop}
  (ia:Al P r a) (ic:Al P r c) (t:CT C.vt C.env.scope.names x z sc) (T:St P r C ρ g) (hs:∀env y,foldedSetIterable iter env y=pure y)
  (c1:(match N2 ifs with
   |true=>sD c
   |false=>E3 ifs λq r=>N2 r&&ck P C.vt c (G3 C.env.scope.names sc.names) (.e q))=true) (c2:ck P C.vt a (G3 C.env.scope.names sc.names) (.e elt)=true)
  (h:A4 (I5 P C) C.A (eval iter C.env) (λx' s₁=>A4 (I5 P C) C.A (bJ x') (λit s₂=>ItOK P r C ρ a c x K g it s₂) E s₁) E g.s)
  (hR:∀g1 D L r' s',Stp nX g g1→St P r C ρ g1→g1.s.heap.get? D=none→g1.s.heap.get? L=none→CompEnd P r (C.comp sc L) g1 D K r' s'→fh (I5 P C) C.A E use Q (.ref D) L r' s') :
  A4 (I5 P C) C.A (cQ (.ListComp elt [⟨.Name z zp,iter,ifs,0⟩] sc pos) sc C.env p' (newList []) false (eval iter C.env) use) Q E g.s:=by
 refine iS (gs:=[]) (g:=⟨.Name z zp,iter,ifs,0⟩) rfl (hs C.env) (lh (fO T t.ck)) t.hk (λy hy hl=>((bH t.ck (y:=y.1) (k:=y.2) hy).1 hl).1) ?_
 refine K3 h (λx' s₁ h=>K3 h (λit s₂ h=>?_) λ_ _ e=>e) λ_ _ e=>e
 refine eX34 h.is λg1 I rest zq1 y T1 zy9=>eX04 zy9 λw nI itr zy10=>eX02 zy10 λq self=>?_;subst zq1
 exact wa (RR:=fh (I5 P C) C.A E use Q) (λL=>ia (C.comp sc L) (.e elt) (by show ck P C.vt a (W9 sc C.env).names (.e elt)=true;rw[aE T.kind];exact c2)) (λL=>Bs ic T.kind c1 L) T1 w nI itr self t.hz t.hk t.ck t.kz q λD L r' s' nD nC ce=>hR g1 D L r' s' y T1 nD nC ce
theorem pz{sc:Scope}{r':R6}(y:Stp nX g g₁)(nD:g₁.s.heap.get? D=none)(nL:g₁.s.heap.get? L=none)(ce:CompEnd P r (C.comp sc L) g₁ D K r' s'):fh (I5 P C) C.A (af P C.base g X) none (J4 P C.base g K) (.ref D) L r' s':=by
 cases r' with
 |error e=>cases ce
 |ok f=>
  refine lX nD ce λg' av m es y' rr vr k hm o1 o2 o3=>⟨m,hm,λh' m' hm' sb=>?_⟩
  subst es
  have ex:∃o,h'.get? L=some o:=eX32 hm' λo es ep e' _=>⟨o,e'⟩
  refine eX02 (rr.priv (s':={ g'.s with heap:=h' }) o1 o2 o3 sb.2 ex rfl rfl) λrr' y2=>?_
  have y3:Stp nX g₁ (g'.to { g'.s with heap:=h' }):=((y'.weak (Y:=λa=>a=L) λ_ q=>q.elim).trans (y2 _ rfl)).less λa o e q=>by rw[q,nL] at e;exact nomatch e
  exact .mk _ (y.trans y3) rr' (.mk (vr.kp (y2 (λa=>a=L) rfl).kp) k)
theorem vZ{sc:Scope}{r':R6}{i:Nat}{n:Str}{p:Pos}(kt:C.env.scope.names.lookup n=some .local)(hi:hH C.vt i n=true)(y:Stp nX g g₁)(T:St P r C ρ g₁)(nD:g₁.s.heap.get? D=none)(nL:g₁.s.heap.get? L=none)
  (ce:CompEnd P r (C.comp sc L) g₁ D (λv H=>Y5 ρ i v λρ=>N ρ H) r' s'):fh (I5 P C) C.A (PostSX P r C g XX) (some (aO (.Name n p) C.env)) (λ_ s'=>PostS P r C g N Rk .next s') (.ref D) L r' s':=by
 cases r' with
 |error e=>cases ce
 |ok f=>
  refine lX nD ce λg' av m es y' rr vr k hm o1 o2 o3=>?_
  subst es
  have T2:=T.step y' rr
  have nfa:¬FA C.env L:=λfa=>by refine eX11 (T.oex L fa) λo e=>?_;rw[nL] at e;cases e
  refine v9 (i7 (G6 (O7 (T2.store hi (by unfold iC;rw[kt]) vr λs2 y2 T3=>?_))))
  have hm2:s2.heap.Ns L m:=zW hm λo e=>eX12 (y2.out L o e o1 o2 nfa) λsl e' _=>⟨sl,e'⟩
  refine⟨m,hm2,λh' m' hm' sb=>?_⟩
  have own:Own C (g'.to s2) g₁.s.heap L:=⟨o1,o2,o3,λa fa q=>nfa (q▸fa),(λL' hL q=>by refine eX11 (Q4 T.rm.ff L' hL) λo e=>?_;rw[q,nL] at e;cases e),nL⟩
  refine eX03 (own.ext (s':={ s2 with heap:=h' }) T.rm ((y'.weak DB).trans y2) T3 (λb x hb e=>(sb.2 b hb).trans e) rfl rfl) λy4 T4 _=>?_
  exact PostS.mk (f:=.next) _ _ ((y.weak DB).trans y4) T4 (aJ k)
theorem Af{it a c:T}{x:Nat}{iter:PE}(o:Ok P r C ρ X E Y g g)(i:ME P r it C iter)(h:R9 (bo P r) it ρ g.H (λv H=>pV v λl=>cL P r a c ρ x K l [] H) X):
  A4 (I5 P C) C.A (eval iter C.env) (λx' s₁=>A4 (I5 P C) C.A (bJ x') (λit s₂=>ItOK P r C ρ a c x K g it s₂) E s₁) E g.s:=by
 refine cJ o (i.se o.T h) λg1 av v z1 o1 vr q=>vr.fl_el q λl vs a n hs hx hv hz q=>?_
 refine v9 (wpAny_pyIter_list (items:=vs.toArray) ⟨_,hx,rfl,_,rfl⟩ ?_)
 have w:Grow g1.s { g1.s with heap:=g1.s.heap.push { cls:=.type "list_iterator",data:=.fields #[.ref a,.int 0 0] } }:=Grow.push _
 have hit:({ g1.s with heap:=g1.s.heap.push { cls:=.type "list_iterator",data:=.fields #[.ref a,.int 0 0] } }:Shared).heap.get? g1.s.heap.objs.size=some { cls:=.type "list_iterator",data:=.fields #[.ref a,.int 0 0] }:=Heap.get?_push_size _ rfl
 exact⟨g1,_,l,rfl,z1,o1.T,w,M4,.l (i:=0) hs (w.kp _ _ hx) (hv.kp (Stp.grow (X:=nX) o1.T.rm.rr w).kp) ⟨_,hit,rfl,rfl⟩,q,λt Q E kp hq=>wpAny_pyIter_listiter (l:=a) (i:=0) ⟨_,kp _ hit,rfl,rfl⟩ hq⟩
theorem Ds{as a c:T}{x:Nat}{y:Str}{p pos:Pos}{l:List PE}(o:Ok P r C ρ X E Y g g)(d1:mU C.env.scope.names y=true)(d2:jG y=true)(d3:qy P.K y (.type "range")=true)(i:ML P r as C l)(h:R9 (bo P r) as ρ g.H (λv H=>ae v λvs=>Eu vs λl=>cL P r a c ρ x K l [] H) X):
  A4 (I5 P C) C.A (eval (.Call (.Name y p) l [] pos) C.env) (λx' s₁=>A4 (I5 P C) C.A (bJ x') (λit s₂=>ItOK P r C ρ a c x K g it s₂) E s₁) E g.s:=by
 refine eW (v9 (o.T.globB d1 d2 d3 (Q3 (fP i.st) (sU o (i.se o.T h) λg1 avs vs z1 o1 vr n q=>⟨fM,?_⟩))))
 have q:Eu avs (λl=>cL P r a c ρ x K l [] g1.H):=q
 refine K3 (v9 (tT (C:=C) (E:=E) (Q:=λit s₂=>ItOK P r C ρ a c x K g it s₂) vr q λa c l h' tk I f gr n it=>?_)) (λx' s2 z=>v9 z) λ_ _ z=>z
 exact⟨g1,I,_,rfl,z1,o1.T,fD gr,n,.r it,f,λt Q E kp hq=>wpAny_pyIter_rangeiter (kp _ it) hq⟩
theorem Ca{a it c:T}{x:Nat}(ia:Al P r a)(ii:Al P r it)(ic:Al P r c):Al P r (.comp a x it c):=λC z k=>I7 k λe k=>ju k λelt l sc pos k=>iG (M:=λl=>ME P r (.comp a x it c) C (.ListComp elt l sc pos)) k λz zp iter ifs t k1 k2=>s7 k1 λk3 k4=>s7 k2 λk5 k6=>by
 refine ME.of (λ{ρ g K X} T h=>?_) rfl
 rw[eval_ListComp]
 exact kB (use:=none) ia ic t T (λ_ _=>fe (iQ k3)) k5 k6 (Af (Ok.start T) (ii C (.e iter) k4) h) λg1 D L r' s' y T1 nD nL ce=>pz y nD nL ce
theorem zr{a as c:T}{x:Nat}(ia:Al P r a)(ii:Al P r as)(ic:Al P r c):Al P r (.compR a x as c):=λC z k=>I7 k λe k=>ju k λelt l sc pos k=>iG (M:=λl=>ME P r (.compR a x as c) C (.ListComp elt l sc pos)) k λz zp iter ifs t k1 k2=>s7 k2 λk5 k6=>
 bU (M:=λiter=>ME P r (.compR a x as c) C (.ListComp elt [⟨.Name z zp,iter,ifs,0⟩] sc pos)) k1 λy p l cpos d1 d2 k=>s7 k λd3 d4=>by
 refine ME.of (λ{ρ g K X} T h=>?_) rfl
 rw[eval_ListComp]
 exact kB (use:=none) ia ic t T (λ_ _=>rfl) k5 k6 (Ds (Ok.start T) d1 d2 d3 (ii C (.es l) d4) h) λg1 D L r' s' y T1 nD nL ce=>pz y nD nL ce
theorem Ci{n:Nat}{a it c:T}{x:Nat}(ia:Al P r a)(ii:Al P r it)(ic:Al P r c):Al P r (.asgC n a x it c):=λC z k=>T7 k λs k=>ez k λl v spos k=>ao (M:=λl=>MS P r (.asgC n a x it c) C (.Assign l v spos)) k λt k=>s7 k λk1 k=>
 N4 (M:=λt=>MS P r (.asgC n a x it c) C (.Assign [t] v spos)) k1 λy yp k1=>s7 k1 λk1 k2=>by
 revert k2
 refine ju (M:=λv=>pQ C.env.scope.names y yp v=true→MS P r (.asgC n a x it c) C (.Assign [.Name y yp] v spos)) k λelt l sc pos k=>iG (M:=λl=>pQ C.env.scope.names y yp (.ListComp elt l sc pos)=true→MS P r (.asgC n a x it c) C (.Assign [.Name y yp] (.ListComp elt l sc pos) spos)) k λz zp iter ifs t k4 k5 k2=>
  s7 k2 λkt k2=>s7 k2 λkl kn=>s7 k4 λk6 k7=>s7 k5 λk8 k9=>⟨λ{ρ g N Rk X} tp T h=>?_⟩
 have kt:=of_decide_eq_true kt
 have hsw:swapsWith (.ListComp elt [⟨.Name z zp,iter,ifs,0⟩] sc pos) (some (.Name y yp)) spos.line C.env=pure true:=by
  unfold swapsWith
  show (pure (C.env.blockKind == .function&&C.env.kindOf y==some .local&&yp.line==pos.line&&!(sc.names.any λ(n,k)=>n==y&&(k == .local||k == .cell))):Sem Bool)=pure true
  have b1:C.env.blockKind = .function:=by unfold Env.blockKind;rw[T.kind];rfl
  have b2:C.env.kindOf y=some .local:=kt
  rw[b1,b2,show (yp.line==pos.line)=true from kl,show (!(sc.names.any λ(n,k)=>n==y&&(k == .local||k == .cell)))=true from kn];rfl
 rw[exec_Assign_Name_used _ _ _ _ hsw]
 refine D7 (j8 ?_)
 show A4 _ C.A (do let _ ←cQ (.ListComp elt [⟨.Name z zp,iter,ifs,0⟩] sc pos) sc C.env _ (newList []) false (eval iter C.env) (some (aO (.Name y yp) C.env))) _ _ g.s
 exact j8 (K3 (kB (use:=some (aO (.Name y yp) C.env)) (Q:=λ_ s'=>PostS P r C g N Rk .next s') (E:=PostSX P r C g X) ia ic t T (λ_ _=>fe (iQ k6)) k8 k9 (Af (Ok.sta T) (ii C (.e iter) k7) h) λg1 D L r' s' y1 T1 nD nL ce=>vZ kt k1 y1 T1 nD nL ce) (λ_ s' hq=>s8 (s8 hq)) λ_ _ e=>e)
end
theorem all{P:Prg}{r:Nat}(O:POK P)(X:∀c,c<8→ExcOK P c)(HO:HdlOK P)(t:T):Al P r t:=by
 induction t with
 |nil=>exact Eb
 |cons a b x y=>exact BZ x y
 |none_=>exact BV
 |bool_ b=>exact Cb
 |int_ i=>exact Eh
 |byt l=>exact El
 |str_=>exact DX
 |loc x=>exact Ee
 |glb v=>exact Ei
 |attr e f x=>exact Ce O x
 |bin o a b x y=>exact Em x y
 |not_ a x=>exact Ea x
 |neg a x=>exact Ec x
 |and_ a b x y=>exact Er x y
 |or_ a b x y=>exact Hn x y
 |cmp o a b x y=>exact Ek x y
 |sub a i x y=>exact DW x y
 |slc a l u x y z=>exact DY x y z
 |ite_ c a b x y z=>exact Ef x y z
 |tup es x=>exact DU x
 |lst es x=>exact Ed x
 |mlst es x=>exact BW x
 |comp e x it c a b d=>exact Ca a b d
 |compR e x it c a b d=>exact zr a b d
 |callF f as x=>exact zv x
 |callC c as x=>exact zw x
 |callM o m as x y=>exact zt O x y
 |callL o m as x y=>exact zu O x y
 |callB b as x=>exact zx x
 |isB a x=>exact Eg x
 |fstr es x=>exact BX x
 |asgC n e x it c a b d=>exact Ci a b d
 |asg x e a=>exact Ep a
 |asgT xs e a=>exact Cf a
 |asgA o f e x y=>exact Cj O x y
 |asgS o i e x y z=>exact Cg x y z
 |aug x op e a=>exact Eo a
 |augA o f op e x y=>exact Cd O x y
 |augS o i op e x y z=>exact Cc x y z
 |if_ c a b x y z=>exact Ho x y z
 |while_ c b x y=>exact zm x y
 |for_ xs it b x y=>exact Ej x y
 |forR n as b x y=>exact BY x y
 |ret e x=>exact DZ x
 |raise c as x=>exact zq (X c) x
 |try_ b hs x=>exact DV HO x
 |ex e x=>exact Hq x
 |pass=>exact BU
 |bad=>exact En
section
variable{prog:Program}{w:World}{A:Around}{s:Shared}{R:R6→Shared→Prop}
theorem Bf{body:List Stmt}{env:Env}
  (h:A4 (y8 prog w) (A.deeper env) (aW body env) (λf s'=>R (.ok (.ret (match f with | .ret v=>v | _=>.none))) s')
   (λe s'=>A4 (y8 prog w) (A.deeper env) (leaving env e) (λ_ s''=>R (.error e) s'') (λe' s''=>R (.error e') s'') s') s) :
  M5 (y8 prog w) A (.func body env) R s:=by
 refine V6 rfl ?_
 show A4 _ (A.deeper env) (do point;match ←(aW body env).onRaise (leaving env) with | .ret v=>ret v | _=>ret .none) _ _ s
 refine j8 (v9 (wpAny_point (j8 (lC (K3 h (λf s' h'=>?_) λ_ _ h'=>h')))))
 cases f<;>exact s8 h'
theorem iT{a:Addr}{args:Args}{o:Obj}{fd:FuncData}{body:List Stmt}(hroom:A.depth<recursionLimit)(ho:s.heap.get? a=some o)
  (hd':o.data = .func fd) (hco:fd.scope.isCoroutine=false) (hgen:fd.scope.isGenerator=false) (hbody:fd.body = .stmts body) (hcd:s.heap.CodeRec fd.code fd.qualname)
  (h:n9 (y8 prog w) A.in1 (bindArgs fd args) (λbinds s₁=>
   n9 (y8 prog w) A.in1 (newFunctionEnv fd.scope fd.globals fd.closure binds (fd.qualname ++ ".<locals>.") (some a) fd.code none fd.builtins)
    (λenv s₂=>s₂.heap.NoLimit∧M5 (y8 prog w) A (.func body env) R s₂) (λe s'=>R (.error e) s') s₁) (λe s'=>R (.error e) s') s) :
  M5 (y8 prog w) A (.call (.ref a) args) R s:=by
 refine V6 rfl ?_
 show A4 _ A.in1 (callAny (.ref a) args) _ _ s
 refine j8 (v9 (S9 ho ?_))
 refine eX44 hcd λc oc vs tq hc hoc hdc hq=>?_;clear hcd
 simp only[hd',callFunction,hco,hgen,hbody,hc]
 rw[hc] at h
 refine j8 (m:=field (.ref c) 1) (v9 (wpAny_field hoc hdc hq (j8 (s8 ?_))))
 exact j8 (v9 (wpAny_mono h (λbinds s₁ h₁=>j8 (v9 (wpAny_mono h₁ (λenv s₂ h₂=>j8 (v9 (wpAny_enterFrame h₂.1 hroom
  (s8 ⟨rfl,rfl,h₂.2⟩)))) λ_ _ h'=>h'))) λ_ _ h'=>h'))
end
section
variable{P:Prg}{r:Nat}{C:Cx}{ρ ρ₀:Loc}{g g₀ g₁:Sg}{K:KE}{X:XE}{E:Value→Shared→Prop}{s s' s₂:Shared}{v u:Value}{av bv:AV}{V V':Vw}{a I D L:Addr}{N:KN}{Rk:KE}{XX:XS}{Y:Addr→Prop}{m cm:Str→Option Value}
noncomputable abbrev Cx.fn(C:Cx)(env:Env)(vt:List Str):Cx:=⟨C.w,C.base,C.A.deeper env,env::C.outer,env,vt⟩
theorem St.enter{env:Env}{vt:List Str}(T:Rm P (r+1) C g)(ic:InCallC g.s env.locals m env.cells cm s')(fl:env.frame=some env.locals)(hk:env.scope.kind = .function)(hg:env.globals=C8)(hb:env.builtins=X6)
  (nd:vt.Nodup) (rl:vt.length=ρ.length) (cu:∀x c,(x,c)∈env.cells→env.cells.lookup x=some c)
  (dm:∀i x,vt[i]?=some x→(env.kindOf x=some .local→P3 (lget ρ i)=false→∃w,m x=some w∧VR P g.v (lget ρ i) w) ∧
   (env.kindOf x=some .cell→∃c,env.cells.lookup x=some c∧(P3 (lget ρ i)=false→∃w,cm x=some w∧VR P g.v (lget ρ i) w))) :
  St P r (C.fn env vt) ρ (g.to s')∧Grow g.s s'∧Top (env::C.outer) env:=by
 have keep:=ic.toInCall.keep
 have w:Grow g.s s':=by
  refine eX21 ic.toInCall.same λh tk e=>?_
  subst e
  exact⟨keep,rfl,rfl⟩
 have newAt:∀a,env.locals≤a→g.s.heap.get? a=none:=λa le=>Heap.get?_none_of_le (b6 ic.toInCall.fresh le)
 have faN:∀a,FA env a→g.s.heap.get? a=none:=λa fa=>by
  rcases fa with q | ⟨x,q⟩
  ·rw[q];exact newAt _ (d8 _)
  ·exact newAt _ (A9 (ic.above x a q))
 have lo:=faN _ (.inl rfl)
 have kk:Kp g.v (g.to s').v:=(Stp.grow (X:=nX) T.rr w).kp
 have ns:=ic.toInCall.ns
 have mem:∀L,L∈(env::C.outer).filterMap (·.frame)→L=env.locals∨L∈C.outer.filterMap (·.frame):=λL hL=>by
  rw[V8,fl] at hL
  exact l5.mp hL
 refine⟨⟨⟨T.rr.grow w,T.hd,Around.frames_deeper T.fr,?_,λL hL=>?_,λL hL o e=>?_,T.gd,by have:=T.dp;show C.A.depth+1+4*r≤900;lia -abstractProof,by have:=T.un;show C.A.units+3+60*r≤9000;lia -abstractProof⟩,hk,hg,hb,λa fa=>T.rr.far (faN a fa),λa fa=>?_,⟨m,ns,λi x e=>⟨λk u=>?_,λk=>?_⟩⟩,nd,rl,
  λx x' c h1 h2=>name_of_addr ic.apart h1 h2,λx c h=>Nat.ne_of_gt (ic.above x c h)⟩,w,⟨C.outer,rfl⟩,fl⟩
 ·exact Heap.FunFrames.cons (by rw[hk];decide) fl ns (T.rr.far lo).2.2 (T.ff.of_keeps λb o e _=>⟨o,keep b o e,rfl⟩)
 ·rcases mem L hL with q | q
  ·rw[q];exact⟨(T.rr.far lo).1,(T.rr.far lo).2.1⟩
  ·exact T.fo L q
 ·rcases mem L hL with q | q
  ·refine eX33 ns λo2 es ep e2 d _=>?_;clear ns
   rw[q] at e
   cases e2.symm.trans e
   exact⟨es,ep,d⟩
  ·refine eX11 (Q4 T.ff L q) λo2 e2=>?_
   cases (keep L o2 e2).symm.trans e
   exact T.fc L q _ e2
 ·rcases fa with q | ⟨x,q⟩
  ·refine eX32 ns λo2 es ep e2 _=>?_;clear ns
   rw[q];exact⟨o2,e2⟩
  ·refine eX12 (ic.cell x a (cu x a q)) λo e _=>?_
   exact⟨o,e⟩
 ·refine eX12 ((dm i x e).1 k u) λw' e1 e2=>?_
  exact⟨w',e1,e2.kp kk⟩
 ·refine eX12 ((dm i x e).2 k) λc e1 e2=>?_
  exact⟨c,e1,cm x,ic.cell x c e1,λu=>eX12 (e2 u) λw' a1 a2=>⟨w',a1,a2.kp kk⟩⟩
theorem sL{a:Addr}{o:Obj}{fd:FuncData}{body:List Stmt}{t:T}{vt:List Str}{args:Args}{binds:List (Str×Value)}(ib:Al P r t)
  (T:Rm P (r+1) C g) (ho:g.s.heap.get? a=some o) (hd':o.data = .func fd) (hco:fd.scope.isCoroutine=false) (hgen:fd.scope.isGenerator=false) (hbody:fd.body = .stmts body)
  (hcd:g.s.heap.CodeRec fd.code fd.qualname) (hcl:fd.closure=[]) (bt:aB g.s fd args binds) (hk:fd.scope.kind = .function) (fg:fd.globals=C8) (fb:fd.builtins=X6)
  (hkind:∀x∈binds,fd.scope.names.lookup x.1=some .local∨(fd.scope.names.lookup x.1=some .cell∧((O8 (g.s.heap.objs.size+1) fd.scope.names []).lookup x.1).isSome=true))
  (nd:vt.Nodup) (rl:vt.length=ρ.length)
  (cu:∀x c,(x,c)∈O8 (g.s.heap.objs.size+1) fd.scope.names []→(O8 (g.s.heap.objs.size+1) fd.scope.names []).lookup x=some c)
  (dm:∀i x,vt[i]?=some x →
   (fd.scope.names.lookup x=some .local→P3 (lget ρ i)=false→∃w,bindL (λx=>fd.scope.names.lookup x) binds (λ_=>none) x=some w∧VR P g.v (lget ρ i) w) ∧
   (fd.scope.names.lookup x=some .cell→∃c,(O8 (g.s.heap.objs.size+1) fd.scope.names []).lookup x=some c∧(P3 (lget ρ i)=false→∃w,bindC (λx=>fd.scope.names.lookup x) binds (λ_=>none) x=some w∧VR P g.v (lget ρ i) w)))
  (cB:ck P vt t fd.scope.names (.ss body)=true) (h:wpS (bo P r) t ρ g.H (λ_ H=>K .none H) K λc _ H=>X c H) :
  M5 (I5 P C) C.A (.call (.ref a) args) (gZ (J4 P C.base g K) (af P C.base g X)) g.s:=by
 refine iT (g9 (b6 (u3 _ _) T.dp) (by decide)) ho hd' hco hgen hbody hcd (bt _ _ _ _ ?_)
 rw[hcl]
 refine wpAny_newFunctionEnv_cells hk hkind λenv e s' ic=>?_
 have ek:env.scope=fd.scope:=by rw[e];rfl
 have ec:env.cells=O8 (g.s.heap.objs.size+1) fd.scope.names []:=by rw[e];rfl
 have kd:env.kindOf=λx=>fd.scope.names.lookup x:=by funext y;rw[e];rfl
 refine eX03 (St.enter (vt:=vt) (ρ:=ρ) T ic (by rw[e];rfl) (by rw[ek];exact hk) ((show env.globals=fd.globals by rw[e];rfl).trans fg) ((show env.builtins=fd.builtins by rw[e];rfl).trans fb) nd rl (by rw[ec];exact cu) (by rw[kd,ec];exact dm)) λT1 w tp=>?_
 have new:∀a,FA env a→g.s.heap.get? a=none:=λa fa=>by
  refine Heap.get?_none_of_le ?_
  rcases fa with q | ⟨x,q⟩
  ·rw[q];exact ic.toInCall.fresh
  ·exact b6 ic.toInCall.fresh (A9 (ic.above x a q))
 have out:∀{g2:Sg},Stp (FA env) (g.to s') g2→Stp nX g g2:=λy=>((Stp.grow (X:=FA env) T.rr w).trans y).less λa o e fa=>by rw[new a fa] at e;cases e
 refine⟨T1.rm.rr.lim.keeps T1.rm.rr.stays,Bf ?_⟩
 have m:=ib (C.fn env vt) (.ss body) (by show ck P vt t env.scope.names _=true;rw[ek];exact cB)
 refine K3 (m.h tp T1 h) (λf s2 z=>?_) (λe s2 z=>?_)
 ·cases z with | mk g2 ρ2 y T2 q=>
  cases f with
  |next=>exact .mk g2 (out y) T2.rm.rr (.mk .none q)
  |ret v=>exact .mk g2 (out y) T2.rm.rr q
  |_=>exact q.elim
 ·cases z with | mk g2 ρ2 y T2 x q=>
  exact v9 (tj tp T1 y T2 x λa s' ea an lt y' T' tr=>.mk (g2.to s') (out y') T'.rm.rr (.mk (Co.pre (Stp.grow (X:=nX) T.rr w).nn ⟨a,ea,an,lt,.inr tr⟩) q))
theorem kH{kf:Str→Option NameKind}{x:Str}:∀{l:List (Str×Value)} {m:Str→Option Value},(∀p∈l,p.1≠x)→bindL kf l m x=m x
 |[],_,_=>rfl
 |(n,v)::r,m,h=>by
  rw[bindL,kH λp hp=>h p (.tail _ hp)]
  split
  ·exact if_neg λe=>h (n,v) (.head _) e.symm
  ·rfl
theorem kJ{kf:Str→Option NameKind}{x:Str}:∀{l:List (Str×Value)} {m:Str→Option Value},(∀p∈l,p.1≠x)→bindC kf l m x=m x
 |[],_,_=>rfl
 |(n,v)::r,m,h=>by
  rw[bindC,kJ λp hp=>h p (.tail _ hp)]
  split
  ·rfl
  ·exact if_neg λe=>h (n,v) (.head _) e.symm
theorem qF{names:List Str}{vs:List Value}{p:Str×Value}(h:p∈names.zip vs):p.1∈names:=(List.of_mem_zip (a:=p.1) (b:=p.2) h).1
theorem kI{kf:Str→Option NameKind}{x:Str}{w:Value}{names:List Str}{vs:List Value}{m:Str→Option Value}{i:Nat}(nd:names.Nodup)(e1:names[i]?=some x)(e2:vs[i]?=some w):
  (kf x=some .local→bindL kf (names.zip vs) m x=some w)∧(kf x≠some .local→bindC kf (names.zip vs) m x=some w):=by
 induction names generalizing vs m i with
 |nil=>cases e1
 |cons n ns ih=>cases vs with
  |nil=>cases e2
  |cons v vs=>cases i with
   |zero=>
    cases e1;cases e2
    have hs:∀p∈ns.zip vs,p.1≠x:=λp hp e=>(I2.mp nd).1 (by have:=qF hp;rw[e] at this;exact this)
    refine⟨λk=>?_,λk=>?_⟩
    ·rw[Y4,bindL,kH hs,if_pos k]
     exact if_pos rfl
    ·rw[Y4,bindC,kJ hs,if_neg k]
     exact if_pos rfl
   |succ i=>
    rw[Y4,bindL,bindC]
    exact⟨(ih (I2.mp nd).2 e1 e2).1,(ih (I2.mp nd).2 e1 e2).2⟩
theorem qt{names:List (Str×NameKind)}{n:Nat}{acc:List (Str×Addr)}(nd:((names.map (·.1))++(acc.map (·.1))).Nodup):((O8 n names acc).map (·.1)).Nodup∧(∀p∈acc,p∈O8 n names acc)∧(∀x,names.lookup x=some .cell→x∈(O8 n names acc).map (·.1)):=by
 induction names generalizing n acc with
 |nil=>exact⟨by rw[O8];simpa using nd,λp h=>by rw[O8];exact h,λx e=>by cases e⟩
 |cons p r ih=>
  obtain⟨m,k⟩:=p
  rw[O8]
  rw[F5,dA,I2] at nd
  by_cases q:(k==NameKind.cell)=true
  ·rw[if_pos q]
   refine eX03 (ih (n:=n+1) (acc:=(m,n)::acc) ((List.perm_middle.nodup_iff).mpr (I2.mpr nd))) λa b c=>?_
   refine⟨a,λp h=>b p (.tail _ h),λx e=>?_⟩
   rw[L9] at e
   split at e
   ·rename_i z
    rw[beq_iff_eq.mp z]
    exact F7.mpr ⟨(m,n),b _ (.head _),rfl⟩
   ·exact c x e
  ·rw[if_neg q]
   refine eX03 (ih (n:=n) nd.2) λa b c=>?_
   refine⟨a,b,λx e=>?_⟩
   rw[L9] at e
   split at e
   ·cases e;exact absurd rfl q
   ·exact c x e
theorem mM{α:Type}{l:List (Str×α)}(nd:(l.map (·.1)).Nodup){x:Str}{c:α}(h:(x,c)∈l):l.lookup x=some c:=by
 induction l with
 |nil=>cases h
 |cons p r ih=>
  obtain⟨y,d⟩:=p
  rw[F5,I2] at nd
  rw[L9]
  rcases l5.mp h with e | e
  ·cases e;rw[beq_self_eq_true]
  ·have ne:x≠y:=λq=>nd.1 (q▸F7.mpr ⟨(x,c),e,rfl⟩)
   rw[show (x==y)=false by simpa using ne]
   exact ih nd.2 e
theorem BC{all:List (Str×Value)}:∀{names:List Str} {vs:List Value},vs.length=names.length→(∀p∈names.zip vs,all.lookup p.1=some p.2)→names.filterMap (λn=>(all.lookup n).map (n,·))=names.zip vs:=by
 intro names
 induction names with
 |nil=>intro vs _ _;cases vs<;>rfl
 |cons n ns ih=>
  intro vs h k
  cases vs with
  |nil=>exact nomatch h
  |cons v vs=>
   rw[Y4,V8,k (n,v) (.head _)]
   dsimp only[Option.map_some]
   rw[ih (Nat.succ.inj h) λp hp=>k p (.tail _ hp)]
noncomputable def wO:Str:=Str.ofString "data"
noncomputable def wN:Str:=Str.ofString "start"
noncomputable def Bi(z:FuncData×Arg×Arg×List PE×Addr):FuncData:={z.1 with params:=⟨[],[⟨wO,z.2.1.annotation,z.2.1.pos⟩,⟨wN,z.2.2.1.annotation,z.2.2.1.pos⟩],none,[],[],none,z.2.2.2.1⟩,defaults:=.ref z.2.2.2.2}
theorem vQ{fd:FuncData}:∀{p:Arguments} {d:Value},p=fd.params→d=fd.defaults→{fd with params:=p,defaults:=d}=fd:=by
 intro p d h k;cases h;cases k;rfl
theorem rh{fd:FuncData}{a b:Arg}{ds:List PE}{T:Addr}(hp:fd.params=⟨[],[a,b],none,[],[],none,ds⟩)(hd:fd.defaults = .ref T)(n1:a.arg=wO)(n2:b.arg=wN):Bi (fd,a,b,ds,T)=fd:=by
 cases a
 cases b
 cases n1
 cases n2
 exact vQ hp.symm hd.symm
theorem DF{z:FuncData×Arg×Arg×List PE×Addr}{d v:Value}{o:Obj}{n:Nat}
  (ho:s.heap.get? z.2.2.2.2=some o) (hs:o.data = .seq #[d] n):aB s (Bi z) ⟨[v],[]⟩ ([wO,wN].zip [v,d]):=
 aB.of_defaults rfl ho hs rfl rfl
theorem DE{z:FuncData×Arg×Arg×List PE×Addr}{d v w:Value}{o:Obj}{n:Nat}
  (ho:s.heap.get? z.2.2.2.2=some o) (hs:o.data = .seq #[d] n):aB s (Bi z) ⟨[v,w],[]⟩ ([wO,wN].zip [v,w]):=
 aB.of_defaults rfl ho hs rfl rfl
noncomputable def Df(z:FuncData×List Arg×List PE):FuncData:={z.1 with params:=⟨[],z.2.1,none,[],[],none,z.2.2⟩,defaults:=.none}
theorem yg{fd:FuncData}{as:List Arg}{ds:List PE}(hp:fd.params=⟨[],as,none,[],[],none,ds⟩)(hd:fd.defaults = .none):Df (fd,as,ds)=fd:=vQ hp.symm hd.symm
theorem vp{α:Type}{c:Prop}{i:Decidable c}{x y z:α}(h:¬c)(k:y=z):ite c x y=z:=(if_neg h).trans k
noncomputable def xH(z:FuncData×List Arg×List PE):List Str:=z.2.1.map (·.arg)
theorem plain1{z:FuncData×List Arg×List PE}{vs:List Value}(h1:¬(decide (vs.length>(xH z).length)&&true)=true)
  (h2:¬((!(((xH z).take (xH z).length).filter (λn=>(((xH z).zip vs).lookup n).isNone)).isEmpty)=true))
  (h4:(xH z++[]).filterMap (λn=>(((xH z).zip vs).lookup n).map (n,·))=(xH z).zip vs):bindArgs (Df z) ⟨vs,[]⟩=pure ((xH z).zip vs):=by
 refine vp h1 ?_
 dsimp only
 rw[show List.drop _ (none.getD (#[]:Array Value)).toList=[] from List.drop_nil,List.zip_nil_right]
 exact vp h2 (congrArg Sem.pure h4)
theorem kK{fd:FuncData}{as:List Arg}{ds:List PE}{vs:List Value}(hp:fd.params=⟨[],as,none,[],[],none,ds⟩)(hd:fd.defaults = .none)(hl:vs.length=(as.map (·.arg)).length)(nd:(as.map (·.arg)).Nodup):
  bindArgs fd ⟨vs,[]⟩=pure ((as.map (·.arg)).zip vs):=by
 have mf:((as.map (·.arg)).zip vs).map (·.1)=as.map (·.arg):=List.map_fst_zip (j6 hl.symm)
 have lk:∀p∈(as.map (·.arg)).zip vs,((as.map (·.arg)).zip vs).lookup p.1=some p.2:=λp h=>mM (by rw[mf];exact nd) h
 rw[←yg hp hd]
 refine plain1 (z:=(fd,as,ds)) ?_ ?_ ?_
 ·rw[Bool.and_true,decide_eq_true_eq]
  exact I8.mpr (j6 hl)
 ·refine λq=>absurd (List.isEmpty_iff.mpr (List.filter_eq_nil_iff.mpr λx hx=>?_)) (Bool.eq_false_iff.mp (Bool.not_eq_true' _▸q))
  have hx:=U3 hx
  rw[show xH (fd,as,ds)=as.map (·.arg) from rfl] at hx ⊢
  rw[←mf] at hx
  refine eX12 (F7.mp hx) λp hp zq1=>?_;subst zq1
  rw[lk p hp];exact e9
 ·rw[y7];exact BC hl lk
end
noncomputable section
noncomputable def pT(v:Value)(F:Addr→Bool):Bool:=match v with
 |.ref a=>F a
 |_=>false
noncomputable def um(v:Value)(F:Str→Bool):Bool:=match v with
 |.str x _=>F x
 |_=>false
noncomputable def uu(d:Data)(F:Array Value→Bool):Bool:=match d with
 |.fields vs=>F vs
 |_=>false
noncomputable def uq(d:Data)(F:List Value→Bool):Bool:=match d with
 |.seq vs _=>F vs.toList
 |_=>false
noncomputable def zV(d:Data)(F:FuncData→Bool):Bool:=match d with
 |.func fd=>F fd
 |_=>false
noncomputable def zS(d:FuncBody)(F:List Stmt→Bool):Bool:=match d with
 |.stmts b=>F b
 |_=>false
noncomputable def we(K:Frag)(cd:Value)(q:Str):Bool:=pT cd λc=>fq (K.lookup c) λo=>uu o.data λvs=>fq vs[1]? λv=>um v λx=>decide (x=q)
noncomputable def ql(K:Frag)(df:List AV)(names:List Str)(d:Value):Bool:=match df with
 |[]=>decide (d = .none)
 |v::r=>N2 r&&(decide (names=[wO,wN])&&pT d λT=>fq (K.lookup T) λo=>uq o.data λl=>E3 l λw r=>N2 r&&nM v w)
noncomputable def qV(p:Arguments)(names:List Str):Bool:=match p with
 |⟨po,as,va,ko,kd,kw,_⟩=>N2 po&&(iV va&&(N2 ko&&(N2 kd&&(iV kw&&decide (as.map (·.arg)=names)))))
noncomputable def DA(P:Prg)(F:Fn)(vt:List Str)(fd:FuncData):Bool:=
 !fd.scope.isCoroutine&&(!fd.scope.isGenerator&&(N2 fd.closure&&(vy fd.scope.kind&&(Nat.beq fd.globals C8&&(Nat.beq fd.builtins X6&&(we P.K fd.code fd.qualname &&
 (decide vt.Nodup&&(Nat.beq vt.length F.nl&&(Nat.ble F.np F.nl&&(decide (fd.scope.names.map (·.1)).Nodup&&((vt.take F.np).all (iC fd.scope.names)&&(qV fd.params (vt.take F.np)&&(ql P.K F.df (vt.take F.np) fd.defaults &&
 zS fd.body λb=>ck P vt F.body fd.scope.names (.ss b))))))))))))))
noncomputable def BA(P:Prg)(a:Addr)(F:Fn)(vt:List Str):Bool:=fq (P.K.lookup a) λo=>zV o.data (DA P F vt)
end
theorem lB{v:Value}{F:Addr→Bool}{G:Prop}(h:pT v F=true)(k:∀a,v = .ref a→F a=true→G):G:=by
 cases v<;>first | exact absurd h e9 | exact k _ rfl h
theorem rQ{v:Value}{F:Str→Bool}{G:Prop}(h:um v F=true)(k:∀a t,v = .str a t→F a=true→G):G:=by
 cases v<;>first | exact absurd h e9 | exact k _ _ rfl h
theorem rS{v:Data}{F:Array Value→Bool}{G:Prop}(h:uu v F=true)(k:∀a,v = .fields a→F a=true→G):G:=by
 cases v<;>first | exact absurd h e9 | exact k _ rfl h
theorem rR{v:Data}{F:List Value→Bool}{G:Prop}(h:uq v F=true)(k:∀a t,v = .seq ⟨a⟩ t→F a=true→G):G:=by
 cases v<;>first | exact absurd h e9 | exact k _ _ rfl h
theorem ur{v:Data}{F:FuncData→Bool}{G:Prop}(h:zV v F=true)(k:∀a,v = .func a→F a=true→G):G:=by
 cases v<;>first | exact absurd h e9 | exact k _ rfl h
theorem uo{v:FuncBody}{F:List Stmt→Bool}{G:Prop}(h:zS v F=true)(k:∀a,v = .stmts a→F a=true→G):G:=by
 cases v<;>first | exact absurd h e9 | exact k _ rfl h
theorem mO{K:Frag}{a:Addr}{F:Obj→Bool}{G:Prop}(h:fq (K.lookup a) F=true)(k:∀o,K.lookup a=some o→F o=true→G):G:=
 gx (M:=λl=>K.lookup a=l→G) h (λo f e=>k o e f) rfl
theorem vx{k:ScopeKind}(h:vy k=true):k = .function:=by
 cases k<;>first | rfl | exact absurd h e9
noncomputable def nQ:Nat→Loc
 |0=>[]
 |n+1=>.U::nQ n
theorem xc{n:Nat}{F:Loc→Prop}(h:As n F):F (nQ n):=by
 induction n generalizing F with
 |zero=>exact h
 |succ n ih=>exact ih (F:=λr=>F (.U::r)) h
theorem Bx{vs:List AV}{n:Nat}{F:Loc→Prop}(h:GW vs n F):F (vs++nQ n):=by
 induction vs generalizing F with
 |nil=>exact xc h
 |cons v r ih=>exact ih (F:=λr=>F (v::r)) h
theorem oW{vs ws:Loc}{i:Nat}:lget (vs++ws) i=if i<vs.length then lget vs i else lget ws (i-vs.length):=by
 induction vs generalizing i with
 |nil=>simp
 |cons v r ih=>
  cases i with
  |zero=>simp[lget]
  |succ i=>
   rw[dA,lget,ih,lget,m9]
   simp only[Nat.add_lt_add_iff_right,Nat.add_sub_add_right]
theorem su{n i:Nat}:lget (nQ n) i = .U:=by
 induction n generalizing i with
 |zero=>rfl
 |succ n ih=>cases i with
  |zero=>rfl
  |succ i=>exact ih
theorem tm{n:Nat}:(nQ n).length=n:=by
 induction n with
 |zero=>rfl
 |succ n ih=>exact congrArg (· + 1) ih
theorem VRs.lget{P:Prg}{V:Vw}{l:List AV}{vs:List Value}{i:Nat}(x:VRs P V l vs)(h:i<l.length):∃u,vs[i]?=some u∧VR P V (Z.lget l i) u:=by
 induction l generalizing vs i with
 |nil=>cases h
 |cons a l ih=>cases x with | cons p q=>cases i with
  |zero=>exact⟨_,rfl,p⟩
  |succ i=>exact ih q (B1 h)
section
variable{P:Prg}{r:Nat}{C:Cx}{g:Sg}{K:KE}{X:XE}
theorem ug{p:Arguments}{names:List Str}{M:Prop}(c:qV p names=true)(k:∀as ds,p=⟨[],as,none,[],[],none,ds⟩→names=as.map (·.arg)→M):M:=by
 refine D2 λ_ kk=>?_
 obtain⟨po,as,va,ko,kd,kw,ds⟩:=p
 refine kk ?_
 refine s7 c λp1 c1=>s7 c1 λp2 c1=>s7 c1 λp3 c1=>s7 c1 λp4 c1=>s7 c1 λp5 c1=>?_
 obtain rfl:po=[]:=K9 (M:=λpo=>po=[]) p1 rfl
 obtain rfl:va=none:=eY (M:=λpo=>po=none) p2 rfl
 obtain rfl:ko=[]:=K9 (M:=λpo=>po=[]) p3 rfl
 obtain rfl:kd=[]:=K9 (M:=λpo=>po=[]) p4 rfl
 obtain rfl:kw=none:=eY (M:=λpo=>po=none) p5 rfl
 exact k as ds rfl (of_decide_eq_true c1).symm
theorem BJ{F:Fn}{fd:FuncData}{names:List Str}{vs ws:List AV}{pvs:List Value}(hd:F.df=[])(c1:qV fd.params names=true)(c2:fd.defaults = .none)(nd:names.Nodup)(nl:names.length=F.np)(vr:VRs P g.v vs pvs)(e:lY F vs=some ws):
  ∃us,aB g.s fd ⟨pvs,[]⟩ (names.zip us)∧VRs P g.v ws us∧ws.length=F.np:=by
 refine ug c1 λas ds hp en=>?_
 subst en
 unfold lY at e
 rw[hd] at e
 cases q:Nat.beq vs.length F.np with
 |true=>
  rw[q] at e
  obtain rfl:vs=ws:=Option.some.inj e
  exact⟨pvs,aB.of_eq (kK hp c2 (by rw[←vr.len,W5 q,nl]) nd),vr,W5 q⟩
 |false=>rw[q,show Nat.beq (vs.length+([]:List AV).length) F.np=false from q] at e;exact nomatch e
theorem BI{vs ws:List AV}{pvs:List Value}{F:Fn}{dv:AV}{fd:FuncData}{w:Value}(hd:F.df=[dv])(n2:F.np=2)(w1:nM dv w=true)(h1:∀v,aB g.s fd ⟨[v],[]⟩ ([wO,wN].zip [v,w]))(h2:∀u v,aB g.s fd ⟨[u,v],[]⟩ ([wO,wN].zip [u,v]))(vr:VRs P g.v vs pvs)(e:lY F vs=some ws):
  ∃us,aB g.s fd ⟨pvs,[]⟩ ([wO,wN].zip us)∧VRs P g.v ws us∧ws.length=F.np:=by
 unfold lY at e
 rw[hd,n2] at e
 rw[n2]
 cases vr with
 |nil=>exact nomatch e
 |cons p vr=>cases vr with
  |nil=>
   obtain rfl:=Option.some.inj e
   exact⟨_,h1 _,.cons p (.cons (nK w1) .nil),rfl⟩
  |cons p' vr=>cases vr with
   |nil=>
    obtain rfl:=Option.some.inj e
    exact⟨_,h2 _ _,.cons p (.cons p' .nil),rfl⟩
   |cons _ _=>exact nomatch e
theorem Av:∀{as:List Arg},as.map (·.arg)=[wO,wN]→∃a b,as=[a,b]∧a.arg=wO∧b.arg=wN:=by
 intro as h
 cases as with
 |nil=>exact nomatch h
 |cons a as=>cases as with
  |nil=>exact nomatch (List.cons.inj h).2
  |cons b as=>cases as with
   |nil=>exact⟨a,b,rfl,(List.cons.inj h).1,(List.cons.inj (List.cons.inj h).2).1⟩
   |cons c as=>exact nomatch (List.cons.inj (List.cons.inj h).2).2
theorem binds{F:Fn}{fd:FuncData}{names:List Str}{vs ws:List AV}{pvs:List Value}(kin:P.K.In g.s.heap)(c1:qV fd.params names=true)(c2:ql P.K F.df names fd.defaults=true)(nd:names.Nodup)(nl:names.length=F.np)(vr:VRs P g.v vs pvs)(e:lY F vs=some ws):
  ∃us,aB g.s fd ⟨pvs,[]⟩ (names.zip us)∧VRs P g.v ws us∧ws.length=F.np:=by
 unfold ql at c2
 cases hd:F.df with
 |nil=>rw[hd] at c2;exact BJ hd c1 (of_decide_eq_true c2) nd nl vr e
 |cons dv dr=>
  rw[hd] at c2
  refine s7 c2 λd1 c=>s7 c λd2 c=>lB c λT eT c=>mO c λo ho c=>rR c λl n hs c=>L7 (M:=λl=>o.data = .seq ⟨l⟩ n→_) c (λw r c hs=>s7 c λr1 cw=>?_) hs
  obtain rfl:dr=[]:=K9 (M:=λpo=>po=[]) d1 rfl
  obtain rfl:r=[]:=K9 (M:=λpo=>po=[]) r1 rfl
  refine ug c1 λas ds hp en=>?_
  obtain rfl:=of_decide_eq_true d2
  refine eX23 (Av en.symm) λa b zq2 n1 n2=>?_;subst zq2
  exact BI hd nl.symm cw (λv=>rh hp eT n1 n2▸DF (kin _ _ ho) hs) (λu v=>rh hp eT n1 n2▸DE (kin _ _ ho) hs) vr e
theorem wd{K:Frag}{h:Heap}{cd:Value}{q:Str}(kin:K.In h)(c:we K cd q=true):h.CodeRec cd q:=
 lB c λa e c=>mO c λo ho c=>rS c λvs ed c=>gx (M:=λl=>vs[1]?=l→h.CodeRec cd q) c (λv c ev=>rQ c λx t ex c=>⟨a,_,_,t,e,kin _ _ ho,ed,by rw[ev,ex,of_decide_eq_true c]⟩) rfl
theorem yI(O:POK P)(X':∀c,c<8→ExcOK P c)(HO:HdlOK P){a:Addr}{F:Fn}{vt:List Str}{fd:FuncData}{o:Obj}(ho:P.K.lookup a=some o)(ed:o.data = .func fd)(c:DA P F vt fd=true){vs:List AV}{H:Hp}(h:gU (bo P r) F vs H K X):fE P a (r+1) vs H K X:=by
 intro C S μ s pvs T vr
 refine s7 c λc1 c=>s7 c λc2 c=>s7 c λc3 c=>s7 c λc4 c=>s7 c λc5 c=>s7 c λc6 c=>s7 c λc7 c=>s7 c λc8 c=>s7 c λc9 c=>s7 c λc10 c=>s7 c λc11 c=>s7 c λc12 c=>s7 c λc13 c=>s7 c λc14 c15=>uo c15 λbody hb c15=>?_
 have kin:P.K.In s.heap:=T.rr.kb.keeps T.rr.stays
 have vl:vt.length=F.nl:=W5 c9
 have npl:F.np≤F.nl:=sO c10
 have nd:vt.Nodup:=of_decide_eq_true c8
 have ndt:(vt.take F.np).Nodup:=nd.sublist (List.take_sublist _ _)
 have cells:=qt (names:=fd.scope.names) (n:=s.heap.objs.size+1) (acc:=[]) (by simpa using of_decide_eq_true c11)
 refine dg (α:=True) h λws e h=>?_
 refine eX13 (binds (g:=⟨S,μ,H,s⟩) kin c13 c14 ndt (by rw[V1,vl];exact aR npl) vr e) λus bt vu wl=>?_
 have at_:∀{i:Nat} {x:Str},vt[i]?=some x→P3 (lget (ws++nQ (F.nl-F.np)) i)=false→(vt.take F.np)[i]?=some x∧∃u,us[i]?=some u∧VR P (Sg.v ⟨S,μ,H,s⟩) (lget (ws++nQ (F.nl-F.np)) i) u:=λ{i x} hi u=>by
  by_cases lt:i<F.np
  ·refine⟨by rw[List.getElem?_take_of_lt lt];exact hi,?_⟩
   refine eX12 (vu.lget (wl.symm▸lt)) λu e1 e2=>?_
   exact⟨u,e1,by rw[oW,if_pos (wl.symm▸lt)];exact e2⟩
  ·rw[oW,if_neg (wl.symm▸lt),su] at u;exact nomatch u
 have cl:∀{x:Str},fd.scope.names.lookup x=some .cell→∃c,(O8 (s.heap.objs.size+1) fd.scope.names []).lookup x=some c:=λ{x} q=>by
  refine eX12 (F7.mp (cells.2.2 x q)) λp m e=>?_
  exact⟨p.2,mM cells.1 (by rw[←e];exact m)⟩
 refine sL (g:=⟨S,μ,H,s⟩) (vt:=vt) (ρ:=ws++nQ (F.nl-F.np)) (t:=F.body) (body:=body) (fd:=fd) (binds:=(vt.take F.np).zip us) (all O X' HO F.body) T (kin _ _ ho) ed (iQ c1) (iQ c2) hb (wd kin c7) (K9 (M:=λl=>l=[]) c3 rfl) bt (vx c4) (W5 c5) (W5 c6)
  (λx hx=>?_) nd (by rw[d6,tm,wl,vl];exact(Nat.add_sub_cancel' npl).symm) (λx c m=>mM cells.1 m) (λi x hi=>⟨λk u=>?_,λk=>?_⟩) c15 (Bx h)
 ·rcases mT (M0.mp c12 x.1 (qF hx)) with q | q
  ·exact .inl q
  ·refine eX11 (cl q) λc e=>?_
   exact .inr ⟨q,by rw[e];rfl⟩
 ·refine eX02 (at_ hi u) λe1 zn1=>?_;refine eX12 zn1 λu' e2 e3=>?_;clear zn1
  exact⟨u',(kI (kf:=λx=>fd.scope.names.lookup x) ndt e1 e2).1 k,e3⟩
 ·refine eX11 (cl k) λc e=>?_
  refine⟨c,e,λu=>?_⟩
  refine eX02 (at_ hi u) λe1 zn2=>?_;refine eX12 zn2 λu' e2 e3=>?_;clear zn2
  exact⟨u',(kI (kf:=λx=>fd.scope.names.lookup x) ndt e1 e2).2 (λz=>nomatch (show some NameKind.cell=some .local from k.symm.trans z)),e3⟩
theorem vO(O:POK P)(X':∀c,c<8→ExcOK P c)(HO:HdlOK P){a:Addr}{F:Fn}{vt:List Str}(ck:BA P a F vt=true){vs:List AV}{H:Hp}(h:gU (bo P r) F vs H K X):fE P a (r+1) vs H K X:=
 mO ck λ_ ho c=>ur c λ_ ed c=>yI O X' HO ho ed c h
end
end Mine.Z
section
set_option maxRecDepth 100000
namespace Mine.Z
open PySem.SeqAt
section
variable{prog:Program}{w:World}{A:Around}{E:Value→Shared→Prop}{α:Type}{h:Heap}{g:Array GenState}{d:Drawn}{tk:Nat}{os:OsState}
theorem eD{t:Sem α}{r:α}{M:Model}{Q:α→Shared→Prop}(x:bL M h t r)(q:Q r ⟨h,g,d,tk,os⟩):A4 M A t Q E ⟨h,g,d,tk,os⟩:=v9 (x.at q)
theorem mF{id:String}{args:Args}{b:Builtin}{R:R6→Shared→Prop}{s:Shared}(hd:Builtin.Bytes.decodersThatHold.contains id=false)(hq:(Code.builtin id args).quiet=true)(hb:K6 aV id=some b)
  (h:A4 (y8 prog w) A.in1 (B2 id args) (λ_ s₁=>A4 (y8 prog w) (A.under (.builtin id args)) (b args) (nr (y8 prog w) A R) (λe s'=>R (.error e) s') s₁) (λe s'=>R (.error e) s') s) :
  M5 (y8 prog w) A (.call (.builtin id) args) R s:=by
 refine V6 rfl ?_
 show A4 _ A.in1 (do B2 id args;again (.builtin id args)) _ _ s
 refine D6 h λ_ s₁ h=>s8 ⟨hq,hd,V6 hd ?_⟩
 show A4 _ _ (match K6 aV id with | some b=>b args | none=>unsupported ((withoutEnding? id "#data").getD id)) _ _ s₁
 rw[hb];exact h
theorem uG{C:Addr}{rest:List Value}{init:Value}{R:R6→Shared→Prop}(Y:Makes (y8 prog w) h C)(hi:bL (y8 prog w) h (M2 (.ref C) "__init__") (some init))
  (hb:∀self,bL (y8 prog w) h (bindSpecial init self) (init,[self])) (hne:(some init != some (Value.builtin "object.__init__"))=true∨rest=[])
  (hq:M5 (y8 prog w) (A.under (.builtin "type.__call__" ⟨.ref C::rest,[]⟩)) (.call init ⟨.ref (h.objs.size+1)::rest,[]⟩) (InitBack (h.objs.size+1) R) ⟨(h.push J6).push (G4 C h.objs.size),g,d,tk,os⟩) :
  M5 (y8 prog w) A (.call (.ref C) ⟨rest,[]⟩) R ⟨h,g,d,tk,os⟩:=by
 have Y':=Y
 refine D2 λ_ kk=>?_
 obtain⟨⟨oc,od,cd,sl,hC,e1,e2,e4⟩,made,base,self,top,call,typ⟩:=Y
 refine kk ?_
 refine V6 rfl ?_
 show A4 _ A.in1 (callAny (.ref C) _) _ _ _
 refine j8 (v9 (S9 hC ?_))
 dsimp only
 show A4 _ _ (callAny.viaDunder (.ref C) _) _ _ _
 unfold callAny.viaDunder
 refine j8 (eD call ?_)
 dsimp only
 rw[tc_bind]
 refine j8 (s8 (j8 (s8 ?_)))
 refine s8 (a:=PySem.Fin.again (.call (.builtin "type.__call__") ⟨.ref C::rest,[]⟩)) ⟨rfl,rfl,?_⟩
 refine mF (by decide +kernel) (Code.quiet_builtin _ (by decide +kernel)) entry_typeCall (v9 (check_slot tc_kind tc_split typ (tc_args _ _ _) ?_))
 unfold Builtin.«type.__call__»
 have hm:bL (y8 prog w) h (mroOf (.ref C)) cd.mro:=((bL.ld (part:=none) hC).andThen .now).andThen .now
 refine X8 (by show ¬(false=true);decide) ?_
 refine j8 (eD hm ?_)
 rw[e4]
 refine X8 (by decide) ?_
 refine j8 (eD made ?_)
 dsimp only
 refine j8 (s8 ?_)
 refine j8 (C2 (v9 (wpAny_call (new_K Y' hi (hne.imp id λq=>⟨q,rfl⟩) ?_))))
 have k:∀b o,h.get? b=some o→((h.push J6).push (G4 C h.objs.size)).get? b=some o:=λb o e=>Heap.get?_push_of_some _ (Heap.get?_push_of_some _ e)
 have hx:((h.push J6).push (G4 C h.objs.size)).get? (h.objs.size+1)=some (G4 C h.objs.size):=by
  have:=Heap.get?_push_size (h.push J6) (o:=G4 C h.objs.size) rfl
  rwa [Heap.size_push] at this
 have t1:bL (y8 prog w) ((h.push J6).push (G4 C h.objs.size)) (typeOf (.ref (h.objs.size+1))) (.ref C):=(bL.ld hx).andThen .now
 unfold X5 callSpecial? specialOf
 refine j8 (j8 (eD t1 (eD (self.keeps k) ?_)))
 refine X8 (by decide) ?_
 refine j8 (C2 (j8 (j8 (eD t1 (eD (hi.keeps k) ?_)))))
 dsimp only
 refine C2 (j8 (eD ((hb (.ref (h.objs.size+1))).keeps k) ?_))
 dsimp only
 refine j8 (K3 (cS (Q:=λv s'=>v = .none∧R (.ok (.ret (.ref (h.objs.size+1)))) s') (E:=λe s'=>R (.error e) s') ?_) (λv s' q=>?_) λ_ _ z=>z)
 ·refine bw hq λr s' z=>?_
  rcases r with e | (v | _ | _ | _)<;>first | exact z | exact z.elim
 ·obtain⟨rfl,q⟩:=q
  exact s8 (X8 (by decide) (s8 q))
end
noncomputable section
noncomputable def pB(K:Frag)(c:Addr)(g:Option Addr):Bool:=makesIn K c&&match g with
 |some g=>decide (findIn K (.ref c) "__init__" = some (some (.ref g)))&&decide (typeIn K (.ref g)=some (.type "function"))
 |none=>decide (findIn K (.ref c) "__init__" = some (some (.builtin "object.__init__")))
end
section
variable{P:Prg}{r n:Nat}{base:Heap}{C:Cx}{g g₀:Sg}{K:KE}{X:XE}{fs:List (Nat×AV)}
theorem R.still(rr:R P base g)(hn:n<g.H.length)(hg:get g.H n = .dict fs):R P base ⟨S1 g.S (g.μ n),g.μ,put g.H n .gone,g.s⟩∧∃m,g.s.heap.Ns1 (g.μ n) m∧FR P ⟨g.s.heap,S1 g.S (g.μ n),g.μ,(put g.H n .gone).length⟩ fs m:=by
 have ln:P7 g.H n:=dK hn hg rfl
 have cl:=rr.cell n hn
 rw[hg] at cl
 refine eX02 cl λzn2 zn3=>?_;clear cl;refine eX12 zn2 λo ho hc=>?_;clear zn2;refine eX13 zn3 λm hm F hz=>?_;clear zn3
 have pl:(put g.H n .gone).length=g.H.length:=eU
 have kp:Kp g.v ⟨g.s.heap,S1 g.S (g.μ n),g.μ,(put g.H n .gone).length⟩:=⟨j6 pl.symm,λ_ _=>rfl,λ_ x=>.inl x,λ_ _=>rfl⟩
 have lv:∀k,P7 (put g.H n .gone) k→k≠n∧P7 g.H k:=λk l=>by
  have ne:k≠n:=λq=>by
   have:=l.2
   rw[q,dM hn] at this;exact nomatch this
  exact⟨ne,by have:=l.1;rw[pl] at this;exact this,by have:=l.2;rw[N9 ne] at this;exact this⟩
 refine⟨⟨rr.kb,rr.lim,rr.gm,rr.bm,rr.stays,λa x=>?_,λk h=>?_,λk l=>⟨λx=>?_,(rr.sep k (lv k l).2).2⟩,λk k' l l' e=>rr.inj k k' (lv k l).2 (lv k' l').2 e,rr.gens⟩,m,hm,F.kp kp⟩
 ·rcases x with x | x
  ·exact rr.sp a x
  ·subst x
   refine eX33 hm λo' es ep e d _=>?_;clear hm
   exact⟨o',e,λvs q=>by rw[d] at q;cases q⟩
 ·show CR P _ (g.μ k) (get (put g.H n .gone) k)
  by_cases q:k=n
  ·rw[q,dM hn];trivial
  ·rw[N9 q]
   exact(rr.cell k (by rw[←pl];exact h)).kp kp λ_ e=>e
 ·refine eX02 (lv k l) λne l2=>?_
  rcases x with x | x
  ·exact(rr.sep k l2).1 x
  ·exact ne (rr.inj k n l2 ln x)
theorem Stp.still{Y:Addr→Prop}(y:Stp Y g₀ g)(hn:g₀.H.length≤n)(lt:n<g.H.length)(hg:get g.H n = .dict fs):Stp Y g₀ ⟨S1 g.S (g.μ n),g.μ,put g.H n .gone,g.s⟩:=by
 have pl:(put g.H n .gone).length=g.H.length:=eU
 have ln:P7 g.H n:=dK lt hg rfl
 refine⟨by show _≤(put g.H n .gone).length;rw[pl];exact y.len,y.mu,λk h l=>?_,λk h=>?_,λa x=>.inl (y.pi a x),λa x=>x.elim (y.pn a) λe=>.inr (e▸y.nw n hn ln),y.pk,y.dom,y.out,y.gens,y.os⟩
 ·have ne:k≠n:=λq=>by
   have:=l.2
   rw[q,show fN (get (put g.H n .gone) n)=true by rw[dM lt];rfl] at this;exact nomatch this
  exact y.nw k h ⟨by have:=l.1;rw[←pl];exact this,by have:=l.2;rw[show get (put g.H n .gone) k=get g.H k from N9 ne] at this;exact this⟩
 ·show S0 (get (put g.H n .gone) k)=_∨S0 (get (put g.H n .gone) k)=3
  rw[N9 (bA (i8 h hn))];exact y.kd k h
noncomputable abbrev De(s:Shared)(C:Addr):Shared:={ s with heap:=(s.heap.push J6).push (G4 C s.heap.objs.size) }
theorem oN(rr:R P base g){C:Addr}:
  ∃S' μ',Stp nX g ⟨S',μ',g.H++[.dict []],De g.s C⟩∧R P base ⟨S',μ',g.H++[.dict []],De g.s C⟩∧S' (g.s.heap.objs.size+1)∧(De g.s C).heap.get? (g.s.heap.objs.size+1)=some (G4 C (μ' g.H.length)):=by
 have a1:({ g.s with heap:=g.s.heap.push J6 }:Shared).heap.get? g.s.heap.objs.size=some J6:=Heap.get?_push_size _ rfl
 refine eX02 (rr.newC (c:=.dict []) (s':={ g.s with heap:=g.s.heap.push J6 }) (Grow.push _) M4 a1 λkp=>⟨⟨J6,a1,rfl⟩,λ_=>none,⟨J6,#[],0,a1,rfl,by intro e he;simp at he,.nil,λx=>rfl⟩,⟨[],.nil,λ_=>rfl⟩,j9 _⟩) λr1 y1=>?_
 have sz:(g.s.heap.push J6).objs.size=g.s.heap.objs.size+1:=Heap.size_push ..
 have a2:(De g.s C).heap.get? (g.s.heap.objs.size+1)=some (G4 C g.s.heap.objs.size):=by
  have:=Heap.get?_push_size (g.s.heap.push J6) (o:=G4 C g.s.heap.objs.size) rfl
  rwa [sz] at this
 refine eX02 (r1.newS (a:=g.s.heap.objs.size+1) (o:=G4 C g.s.heap.objs.size) (s':=De g.s C) (Grow.push _) (by rw[←sz];exact M4) a2 (λvs e=>by cases e)) λr2 y2=>?_
 exact⟨_,_,(y1 nX).trans (y2 nX),r2,.inr rfl,a2.trans (congrArg (λa=>some (G4 C a)) jN.symm)⟩
theorem rq{c n:Nat}{x:Addr}(y:Stp nX g₀ g)(rr:R P base g)(le:g₀.H.length≤n)(lt:n<g.H.length)(hS:g.S x)(hx:g.s.heap.get? x=some (G4 (P.ca c) (g.μ n)))(h:fZ c n K g.H):J4 P base g₀ K (.ref x) g.s:=by
 rcases h with h | h
 ·exact .mk g y rr (.mk (.obj c n x lt hS hx) h)
 ·cases h with | mk e h=>
  refine eX02 (rr.still lt e) λr2 zn4=>?_;refine eX12 zn4 λm hm zn5=>?_;clear zn4;refine eX12 zn5 λws F1 F2=>?_;clear zn5
  exact .mk (⟨S1 g.S (g.μ n),g.μ,put g.H n .gone,g.s⟩:Sg) (y.still le lt e) r2 (.mk (.inst c _ x _ m ws (.inl hS) hx (.inr rfl) hm F1 F2) h.h)
theorem Rm.to{A':Around}(T:Rm P (r+1) C g)(y:Stp nX g₀ g)(e1:A'.handled=C.A.handled)(e2:A'.frames=C.A.frames)(e3:A'.guards=C.A.guards)(e4:A'.depth=C.A.depth+1)(e5:A'.units=C.A.units+1):Rm P r ⟨C.w,C.base,A',C.outer,C.env,C.vt⟩ g:=
 ⟨T.rr,e1.trans T.hd,e2.trans T.fr,T.ff,T.fo,T.fc,e3.trans T.gd,by have:=T.dp;show A'.depth+_≤_;lia -abstractProof,by have:=T.un;show A'.units+_≤_;lia -abstractProof⟩
theorem sJ{k:Nat}{f:Addr}(ck:pB P.K (P.ca k) (some f)=true){vs:List AV}{H:Hp}(h:fE P f r (.obj k H.length::vs) (H++[.dict []]) (λv H'=>v = .none∧fZ k H.length K H') X):fE P (P.ca k) (r+1) vs H K X:=by
 intro C S μ s pvs T vr
 refine s7 ck λc1 c=>s7 c λc2 c3=>?_
 have kin:P.K.In s.heap:=T.rr.kb.keeps T.rr.stays
 refine eX24 (oN (C:=P.ca k) T.rr) λS1 μ1 y1 r1 hS hx=>?_
 have T1:=(T.step y1 r1).to (A':=C.A.under (.builtin "type.__call__" ⟨.ref (P.ca k)::pvs,[]⟩)) y1 rfl rfl (by
  show pushGuards (if guardIds.contains "type.__call__" then [Code.builtin "type.__call__" ⟨.ref (P.ca k)::pvs,[]⟩] else []) C.A.guards=C.A.guards
  rw[show guardIds.contains "type.__call__" = false by decide +kernel];rfl) rfl rfl
 have ln:(H++[Cell.dict []]).length=H.length+1:=d6
 have l1:H.length<(H++[Cell.dict []]).length:=ln.symm▸ax _
 have z:=h _ S1 μ1 _ (.ref (s.heap.objs.size+1)::pvs) T1 (.cons (.obj k H.length _ l1 hS hx) (vr.kp y1.kp))
 refine D2 λ_ kk=>?_
 obtain⟨hp,gn,dr,tk,os⟩:=s
 refine kk ?_
 refine uG (makes_of kin c1) (looks_findIn kin (of_decide_eq_true c2)) (λself=>bind_fn kin self (of_decide_eq_true c3)) (.inl rfl) (bw z λx s2 q=>?_)
 cases x with
 |error e=>exact PX.pre y1 q
 |ok f=>
  cases f with
  |ret v=>
   cases q with | mk g2 y2 r2 q=>cases q with | mk x q=>
   obtain⟨rfl,q⟩:=q
   cases x
   refine⟨rfl,rq (y1.trans y2) r2 (d8 _) (i8 l1 y2.len) (y2.pi _ hS) ?_ q⟩
   rw[y2.pk _ hS,hx,y2.mu _ l1]
  |_=>exact q.elim
theorem qr{k:Nat}{H:Hp}(ck:pB P.K (P.ca k) none=true)(h:fZ k H.length K (H++[.dict []])):fE P (P.ca k) (r+1) [] H K X:=by
 intro C S μ s pvs T vr
 cases vr
 refine s7 ck λc1 c2=>?_
 have kin:P.K.In s.heap:=T.rr.kb.keeps T.rr.stays
 refine eX24 (oN (C:=P.ca k) T.rr) λS1 μ1 y1 r1 hS hx=>?_
 have ln:(H++[Cell.dict []]).length=H.length+1:=d6
 have q:=rq y1 r1 (d8 _) (ln.symm▸ax _) hS hx h
 refine D2 λ_ kk=>?_
 obtain⟨hp,gn,dr,tk,os⟩:=s
 refine kk ?_
 have Y:=makes_of (M:=I5 P C) kin c1
 refine uG Y (looks_findIn kin (of_decide_eq_true c2)) (λself=>bL.of_pure (oi_bind self)) (.inr rfl) (oV ?_)
 have t1:bL (I5 P C) ((hp.push J6).push (G4 (P.ca k) hp.objs.size)) (typeOf (.ref (hp.objs.size+1))) (.ref (P.ca k)):=(bL.ld hx).andThen .now
 have t2:bL (I5 P C) ((hp.push J6).push (G4 (P.ca k) hp.objs.size)) (X5 (.ref (hp.objs.size+1)) (.type "object")) true:=t1.andThen (Y.top.keeps λb o e=>Heap.get?_push_of_some _ (Heap.get?_push_of_some _ e))
 refine codeAny_call_builtin oi_plain entry_oi (@check_slot (I5 P C) _ _ _ "object.__init__" "object" "__init__" (.ref (hp.objs.size+1)) [] [] _ oi_kind oi_split t2 (oi_args (.ref (hp.objs.size+1))) ?_)
 rw[oi_run]
 exact m6 (And.intro rfl q)
end
end Mine.Z
end
end
section
set_option maxRecDepth 100000
namespace Mine.Hd
open PySem PySem.W
noncomputable abbrev pw:Program:=PySem.Challenge.pw_xw0280_01
noncomputable def AX:List Stmt→Nat→Stmt
 |[],_=>.Pass ⟨0,0,0,0⟩
 |s::_,0=>s
 |_::r,n+1=>AX r n
noncomputable def vT:Nat→List Stmt→List Stmt
 |0,l=>l
 |_+1,[]=>[]
 |n+1,_::r=>vT n r
noncomputable def zG:Nat→List Stmt→List Stmt
 |0,_=>[]
 |_+1,[]=>[]
 |n+1,s::r=>s::zG n r
noncomputable def body:List Stmt:=pw.main.body
noncomputable def st(i:Nat):Stmt:=AX body i
noncomputable def cb:Stmt→List Stmt
 |.ClassDef _ _ _ b _ _ _ _ _ _ _=>b
 |_=>[]
noncomputable def mt(i j:Nat):Stmt:=AX (cb (st i)) j
noncomputable def S8(i c:Nat):List Stmt:=zG c (vT i body)
noncomputable def N:Value:=.none
noncomputable def vb(b:Bool):Value:=.bool b
noncomputable def I(i:Int):Value:=.int i 0
noncomputable def J(i:Int)(t:Nat):Value:=.int i t
noncomputable def S(x:String)(t:Nat):Value:=.str (Str.ofString x) t
noncomputable def R(a:Nat):Value:=.ref a
noncomputable def T(x:String):Value:=.type x
noncomputable def B(x:String):Value:=.builtin x
noncomputable def e(P:Params)(x:String)(t:Nat)(v:Value):DictEntry:={ hash:=PyData.keyHash P (Str.ofString x),key:=.str (Str.ofString x) t,val:=v }
noncomputable def ss:Nat→List String→List Value
 |_,[]=>[]
 |n,x::r=>S x n::ss (n+1) r
noncomputable def tup(l:List Value):Obj:={ cls:=.type "tuple",data:=.seq ⟨l⟩ }
noncomputable def fl(l:List Value):Obj:={ cls:=.none,data:=.fields ⟨l⟩ }
noncomputable def gn(c:Value)(l:List Value):Obj:={ cls:=c,data:=.fields ⟨l⟩ }
noncomputable def cd(a b:String)(t l n1 n4 a8:Nat)(b9:Bool)(a11:Nat)(v13 v14 v15:Value)(t16:Nat):Obj:=
 { cls:=.type "code",data:=.fields ⟨[S a t,S b (t+1),S "/claim/cut.py" (t+2),I l,I n1,I 0,I 0,I n4,R a8,vb b9,I 181,R a11,N,v13,v14,v15,I t16,I l,S "/claim/cut.py" (t16+1)]⟩ }
noncomputable def dc(c:Value)(l:List DictEntry)(n:Nat):Obj:={ cls:=c,data:=.dict ⟨l⟩ n }
noncomputable def fr(s:Stmt)(q:String)(d:Value):Obj:=match s with
 |.FunctionDef n a b _ _ _ sc _ _ _=>{ cls:=.none,data:=.func { name:=n,qualname:=Str.ofString q,params:=a,body:=.stmts b,scope:=sc,globals:=0,closure:=[],defaults:=d,kwdefaults:=.none } }
 |_=>tup []
noncomputable def fo(s:Stmt)(q:String)(d m c:Value):Obj:=match s with
 |.FunctionDef n a b _ _ _ sc _ _ _=>{ cls:=.type "function",data:=.func { name:=n,qualname:=Str.ofString q,params:=a,body:=.stmts b,scope:=sc,globals:=3,closure:=[],defaults:=d,kwdefaults:=.none,pyModule:=m,code:=c } }
 |_=>tup []
noncomputable def ck(n:String)(bs mro:List Value)(ns:Nat)(q:String)(sub:List Value)(sl:List (Option Value)):Obj:=
 { cls:=.type "type",data:=.cls { name:=Str.ofString n,bases:=bs,mro:=mro,ns:=ns,qualname:=Str.ofString q,subclasses:=sub },slots:=⟨sl⟩ }
noncomputable def fm(l:List (Option Value)):Obj:={ cls:=.type "frame",data:=.plain,slots:=⟨l⟩ }
noncomputable def Ey:Bool→List Obj→List Obj
 |_,[]=>[]
 |true,a::r=>a::Ey false r
 |false,_::r=>Ey true r
noncomputable def bt:Nat→List Obj→BT
 |0,_=>.nil
 |_+1,[]=>.nil
 |k+1,o::r=>.node o (bt k (Ey true r)) (bt k (Ey false r))
noncomputable def zH:Nat→List Obj→List Obj
 |0,_=>[]
 |_+1,[]=>[]
 |n+1,s::r=>s::zH n r
noncomputable def zF:Nat→List Value→List Value
 |0,_=>[]
 |_+1,[]=>[]
 |n+1,s::r=>s::zF n r
noncomputable def zI:Nat→List DictEntry→List DictEntry
 |0,_=>[]
 |_+1,[]=>[]
 |n+1,s::r=>s::zI n r
noncomputable def CP:Nat→Obj→List Obj→List Obj
 |_,_,[]=>[]
 |0,o,_::r=>o::r
 |n+1,o,x::r=>x::CP n o r
noncomputable def upd:List (Nat×Obj)→List Obj→List Obj
 |[],l=>l
 |p::r,l=>upd r (CP p.1 p.2 l)
noncomputable def ann:Option Value:=some (.ref 6)
noncomputable def env:Env:={ scope:=pw.main.scope,locals:=mainNs,globals:=mainNs,cells:=[],code:=.ref 13,frame:=some 14 }
noncomputable def cE:Code:=.body (behindTheImports pw) env
noncomputable def m0:Value:=S "raftkeep.blocks" 753
noncomputable def m1:Value:=S "raftkeep.tables" 1328
noncomputable def m2:Value:=S "raftkeep.keys" 479
noncomputable def m3:Value:=S "raftkeep.errors" 194
noncomputable def m4:Value:=S "raftkeep.octets" 328
noncomputable def gp:Obj:=gn (T "builtin_function_or_method") [(B "type.__prepare__"),(T "type")]
noncomputable def gi(n:Nat):Obj:=gn (T "builtin_function_or_method") [B "object.__init_subclass__",R n]
noncomputable def fk(a b:Nat)(m:Value):Obj:=fm [some (R a),some (R 3),some (R b),none,some m,none,some (R 0)]
noncomputable def pf(P:Params)(k:Nat)(m:Value)(l:Int)(r:List DictEntry):List DictEntry:=e P "__module__" k m::e P "__firstlineno__" (k+4) (J l (k+3))::r
noncomputable def pq(P:Params)(k:Nat)(m:Value)(q:String)(l:Int)(r:List DictEntry):List DictEntry:=e P "__module__" k m::e P "__qualname__" (k+2) (S q (k+1))::e P "__firstlineno__" (k+4) (J l (k+3))::r
noncomputable def gl(P:Params)(v:Value):List DictEntry:=[
e P "__name__" 165 v,
e P "__doc__" 166 N,
e P "__package__" 167 N,
e P "__loader__" 168 (B "__main__.__loader__#opaque"),
e P "__spec__" 169 N,
e P "__annotations__" 170 (R 6),
e P "__builtins__" 171 (R 4),
e P "__file__" 173 (S "/claim/cut.py" 172),
e P "__cached__" 174 N,
e P "_wall" 193 (R 21),
e P "KeepError" 215 (R 31),
e P "StoreError" 231 (R 44),
e P "Corrupt" 247 (R 56),
e P "ShortOctets" 263 (R 68),
e P "NotFound" 279 (R 80),
e P "BadOption" 295 (R 92),
e P "IterMisuse" 311 (R 104),
e P "BuildOrder" 327 (R 116),
e P "MAX_32" 331 (J 4294967295 330),
e P "MAX_64" 333 (J 18446744073709551615 332),
e P "CHECK_CRC" 335 (J 1 334),
e P "CHECK_SUM" 337 (J 2 336),
e P "CRC_POLY" 339 (J 2197175160 338),
e P "MASK_DELTA" 341 (J 2726488792 340),
e P "HASH_SEED" 343 (J 3164544308 342),
e P "HASH_MUL" 345 (J 3332679571 344),
e P "HASH_SHIFT" 347 (J 24 346),
e P "write_groups" 356 (R 125),
e P "read_groups" 370 (R 132),
e P "put_varint" 377 (R 139),
e P "read_varint" 385 (R 146),
e P "put_varint32" 392 (R 153),
e P "read_varint32" 400 (R 160),
e P "put_fixed32" 407 (R 167),
e P "put_fixed64" 414 (R 174),
e P "read_fixed32" 422 (R 181),
e P "read_fixed64" 430 (R 188),
e P "make_crc_table" 440 (R 195),
e P "crc32c" 452 (R 203),
e P "mask" 459 (R 210),
e P "checksum" 467 (R 217),
e P "bloom_hash" 478 (R 224),
e P "KIND_DELETE" 482 (J 0 481),
e P "KIND_VALUE" 484 (J 1 483),
e P "KIND_SEEK" 486 (J 1 485),
e P "MAX_SEQ" 488 (J 72057594037927935 487),
e P "TAG_LENGTH" 490 (J 8 489),
e P "pack_tag" 498 (R 231),
e P "split_ikey" 508 (R 238),
e P "user_of" 515 (R 245),
e P "tag_of" 522 (R 252),
e P "Order" 575 (R 290),
e P "BytesOrder" 618 (R 325),
e P "InternalOrder" 690 (R 379),
e P "Options" 752 (R 412),
e P "TRAILER" 756 (J 5 755),
e P "PLAIN_TYPE" 758 (J 0 757),
e P "MOST_PROBES" 760 (J 30 759),
e P "LEAST_FILTER_BITS" 762 (J 64 761),
e P "WORD" 764 (J 4294967295 763),
e P "shared_prefix" 774 (R 423),
e P "BlockBuilder" 851 (R 475),
e P "Block" 928 (R 524),
e P "BlockIter" 1072 (R 636),
e P "Handle" 1117 (R 671),
e P "read_handle" 1127 (R 682),
e P "seal_block" 1136 (R 689),
e P "open_block" 1147 (R 696),
e P "Bloom" 1210 (R 727),
e P "FilterBuilder" 1278 (R 776),
e P "FilterReader" 1327 (R 804),
e P "MAGIC" 1331 (J 15800726617472432983 1330),
e P "FOOTER" 1333 (J 48 1332),
e P "HANDLES_ROOM" 1335 (J 40 1334),
e P "FILTER_KEY" 1337 (.bytes #[102,105,108,116,101,114,46,114,97,102,116,107,101,101,112,46,98,108,111,111,109] 1336),
e P "Footer" 1383 (R 839),
e P "read_footer" 1395 (R 850),
e P "TableBuilder" 1494 (R 916),
e P "Table" 1652 (R 1021),
e P "TwoLevelIter" 1785 (R 1133),
e P "_law_draw" 1795 (R 1144),
e P "_law_fix" 1801 (R 1149),
e P "_law_var" 1809 (R 1156),
e P "_law_sealed" 1821 (R 1163),
e P "_law_block" 1831 (R 1170),
e P "_law_spots" 1837 (R 1175),
e P "_law_filter" 1843 (R 1180),
e P "_law_lets" 1852 (R 1187),
e P "_law_spans" 1864 (R 1194),
e P "_law_top" 1873 (R 1201),
e P "_law_key" 1880 (R 1208),
e P "_law_table" 1900 (R 1215),
e P "_law_told" 1909 (R 1222),
e P "_law_filled" 1923 (R 1229),
e P "_law_built" 1935 (R 1236),
e P "_law_nowhere" 1944 (R 1243),
e P "_law_stands" 1953 (R 1250),
e P "_law_walked" 1967 (R 1257),
e P "_law_end" 1975 (R 1264),
e P "_law_opened" 1981 (R 1269),
e P "_law_blocks" 1999 (R 1276),
e P "_law_lamps" 2013 (R 1283),
e P "_law_filters" 2034 (R 1290),
e P "law" 2040 (R 1295)]
noncomputable def cls:List Value:=[(I 1),(I 0),(R 20),(I 5),(I 0),(R 27),(I 7),(I 0),(R 40),(I 9),(I 0),(R 52),(I 11),(I 0),(R 64),(I 13),(I 0),(R 76),(I 15),(I 0),(R 88),(I 17),(I 0),(R 100),(I 19),(I 0),(R 112),(I 31),(I 0),(R 124),(I 40),(I 0),(R 131),(I 57),(I 0),(R 138),(I 61),(I 0),(R 145),(I 65),(I 0),(R 152),(I 69),(I 0),(R 159),(I 73),(I 0),(R 166),(I 77),(I 0),(R 173),(I 81),(I 0),(R 180),(I 85),(I 0),(R 187),(I 89),(I 0),(R 194),(I 102),(I 0),(R 202),(I 110),(I 0),(R 209),(I 112),(I 0),(R 216),(I 118),(I 0),(R 223),(I 141),(I 0),(R 230),(I 147),(I 0),(R 237),(I 154),(I 0),(R 244),(I 158),(I 0),(R 251),(I 162),(I 0),(R 258),(I 179),(I 0),(R 300),(I 200),(I 0),(R 333),(I 232),(I 0),(R 387),(I 282),(I 0),(R 422),(I 290),(I 0),(R 429),(I 347),(I 0),(R 485),(I 392),(I 0),(R 534),(I 510),(I 0),(R 646),(I 521),(I 0),(R 681),(I 525),(I 0),(R 688),(I 528),(I 0),(R 695),(I 538),(I 0),(R 702),(I 583),(I 0),(R 737),(I 627),(I 0),(R 786),(I 662),(I 0),(R 814),(I 674),(I 0),(R 849),(I 686),(I 0),(R 856),(I 764),(I 0),(R 926),(I 888),(I 0),(R 1031),(I 976),(I 0),(R 1143),(I 978),(I 0),(R 1148),(I 980),(I 0),(R 1155),(I 986),(I 0),(R 1162),(I 997),(I 0),(R 1169),(I 1002),(I 0),(R 1174),(I 1010),(I 0),(R 1179),(I 1018),(I 0),(R 1186),(I 1023),(I 0),(R 1193),(I 1031),(I 0),(R 1200),(I 1036),(I 0),(R 1207),(I 1038),(I 0),(R 1214),(I 1063),(I 0),(R 1221),(I 1080),(I 0),(R 1228),(I 1099),(I 0),(R 1235),(I 1115),(I 0),(R 1242),(I 1130),(I 0),(R 1249),(I 1134),(I 0),(R 1256),(I 1160),(I 0),(R 1263),(I 1167),(I 0),(R 1268),(I 1196),(I 0),(R 1275),(I 1225),(I 0),(R 1282),(I 1239),(I 0),(R 1289),(I 1274),(I 0),(R 1294)]
noncomputable def md(P:Params)(n:Nat)(v:Value):Obj:=dc (T "dict") (zI n (gl P v)) n
noncomputable def cl(n:Nat):Obj:=fl (zF n cls)
noncomputable def g5(s:Stmt)(a q:String)(d m:Value)(t l n1 n4 a8:Nat)(ns:List String):List Obj:=
 [tup (ss (t+3) ns),tup [],fr s q d,cd a q t l n1 n4 a8 true (a8+1) (R (a8+2)) (R (a8+3)) (R (a8+4)) (t+3+ns.length),fo s q d m (R (a8+5))]
noncomputable def g7(s:Stmt)(a q:String)(d m:Value)(t l n1 n4 a8:Nat)(ns:List String):List Obj:=tup []::fl []::g5 s a q d m t l n1 n4 a8 ns
noncomputable def ob(P:Params):List Obj:=List.flatten [
[boot_o_0 P,
boot_o_1 P,
dc N [e P "type.__subclasses__.Exception.0" 212 (I 31),e P "type.__subclasses__.Exception.n" 213 (I 1)] 2,
md P 104 (S "law_xw0280_01" 1786),
boot_o_4 P,
boot_o_5 P,
boot_o_6 P,
boot_o_7 P,
boot_o_8 P,
boot_o_9 P,
boot_o_10 P,
tup [],
cl 216,
cd "<module>" "<module>" 182 1 0 0 11 false 12 N N N 185,
fk 13 3 (S "__main__" 164)],
g7 (st 0) "_wall" "_wall" N (S "__main__" 164) 187 1 1 3 15 ["k"],
[tup [(T "Exception")],
gp,
dc (T "dict") (pq P 203 m3 "KeepError" 5 [e P "__static_attributes__" 208 (R 29)]) 4,
tup [],
fl [],
cd "KeepError" "KeepError" 198 5 0 0 25 false 26 N N N 201,
fk 27 24 m3,
tup [],
dc (T "dict") (pf P 203 m3 5 [e P "__static_attributes__" 208 (R 29),e P "__weakref__" 210 (R 32),e P "__doc__" 211 N]) 3,
ck "KeepError" [(T "Exception")] [(R 31),(T "Exception"),(T "BaseException"),(T "object")] 30 "KeepError" [(R 44)] [some (R 22),none,some (S "KeepError" 196),some (S "KeepError" 204),some (B "Exception.__new__"),some (vb true)],
gn (T "getset_descriptor") [(S "__weakref__" 209),(R 31),(B "ExceptionGroup.__weakref__"),N],
gn (T "super") [(R 31),(R 31),(R 31)],
gi 31,
tup [(R 31)],
gp,
dc (T "dict") (pq P 223 m3 "StoreError" 7 [e P "__static_attributes__" 228 (R 42)]) 4,
tup [],
fl [],
cd "StoreError" "StoreError" 218 7 0 0 38 false 39 N N N 221,
fk 40 37 m3,
tup [],
dc (T "dict") (pf P 223 m3 7 [e P "__static_attributes__" 228 (R 42),e P "__doc__" 229 N]) 2,
ck "StoreError" [(R 31)] [(R 44),(R 31),(T "Exception"),(T "BaseException"),(T "object")] 43 "StoreError" [(R 56),(R 80),(R 92),(R 104),(R 116)] [some (R 35),none,some (S "StoreError" 216),some (S "StoreError" 224),some (B "Exception.__new__"),some (vb true)],
gn (T "super") [(R 44),(R 44),(R 44)],
gi 44,
tup [(R 44)],
gp,
dc (T "dict") (pq P 239 m3 "Corrupt" 9 [e P "__static_attributes__" 244 (R 54)]) 4,
tup [],
fl [],
cd "Corrupt" "Corrupt" 234 9 0 0 50 false 51 N N N 237,
fk 52 49 m3,
tup [],
dc (T "dict") (pf P 239 m3 9 [e P "__static_attributes__" 244 (R 54),e P "__doc__" 245 N]) 2,
ck "Corrupt" [(R 44)] [(R 56),(R 44),(R 31),(T "Exception"),(T "BaseException"),(T "object")] 55 "Corrupt" [(R 68)] [some (R 47),none,some (S "Corrupt" 232),some (S "Corrupt" 240),some (B "Exception.__new__"),some (vb true)],
gn (T "super") [(R 56),(R 56),(R 56)],
gi 56,
tup [(R 56)],
gp,
dc (T "dict") (pq P 255 m3 "ShortOctets" 11 [e P "__static_attributes__" 260 (R 66)]) 4,
tup [],
fl [],
cd "ShortOctets" "ShortOctets" 250 11 0 0 62 false 63 N N N 253,
fk 64 61 m3,
tup [],
dc (T "dict") (pf P 255 m3 11 [e P "__static_attributes__" 260 (R 66),e P "__doc__" 261 N]) 2,
ck "ShortOctets" [(R 56)] [(R 68),(R 56),(R 44),(R 31),(T "Exception"),(T "BaseException"),(T "object")] 67 "ShortOctets" [] [some (R 59),none,some (S "ShortOctets" 248),some (S "ShortOctets" 256),some (B "Exception.__new__"),some (vb true)],
gn (T "super") [(R 68),(R 68),(R 68)],
gi 68,
tup [(R 44)],
gp,
dc (T "dict") (pq P 271 m3 "NotFound" 13 [e P "__static_attributes__" 276 (R 78)]) 4,
tup [],
fl [],
cd "NotFound" "NotFound" 266 13 0 0 74 false 75 N N N 269,
fk 76 73 m3,
tup [],
dc (T "dict") (pf P 271 m3 13 [e P "__static_attributes__" 276 (R 78),e P "__doc__" 277 N]) 2,
ck "NotFound" [(R 44)] [(R 80),(R 44),(R 31),(T "Exception"),(T "BaseException"),(T "object")] 79 "NotFound" [] [some (R 71),none,some (S "NotFound" 264),some (S "NotFound" 272),some (B "Exception.__new__"),some (vb true)],
gn (T "super") [(R 80),(R 80),(R 80)],
gi 80,
tup [(R 44)],
gp,
dc (T "dict") (pq P 287 m3 "BadOption" 15 [e P "__static_attributes__" 292 (R 90)]) 4,
tup [],
fl [],
cd "BadOption" "BadOption" 282 15 0 0 86 false 87 N N N 285,
fk 88 85 m3,
tup [],
dc (T "dict") (pf P 287 m3 15 [e P "__static_attributes__" 292 (R 90),e P "__doc__" 293 N]) 2,
ck "BadOption" [(R 44)] [(R 92),(R 44),(R 31),(T "Exception"),(T "BaseException"),(T "object")] 91 "BadOption" [] [some (R 83),none,some (S "BadOption" 280),some (S "BadOption" 288),some (B "Exception.__new__"),some (vb true)],
gn (T "super") [(R 92),(R 92),(R 92)],
gi 92,
tup [(R 44)],
gp,
dc (T "dict") (pq P 303 m3 "IterMisuse" 17 [e P "__static_attributes__" 308 (R 102)]) 4,
tup [],
fl [],
cd "IterMisuse" "IterMisuse" 298 17 0 0 98 false 99 N N N 301,
fk 100 97 m3,
tup [],
dc (T "dict") (pf P 303 m3 17 [e P "__static_attributes__" 308 (R 102),e P "__doc__" 309 N]) 2,
ck "IterMisuse" [(R 44)] [(R 104),(R 44),(R 31),(T "Exception"),(T "BaseException"),(T "object")] 103 "IterMisuse" [] [some (R 95),none,some (S "IterMisuse" 296),some (S "IterMisuse" 304),some (B "Exception.__new__"),some (vb true)],
gn (T "super") [(R 104),(R 104),(R 104)],
gi 104,
tup [(R 44)],
gp,
dc (T "dict") (pq P 319 m3 "BuildOrder" 19 [e P "__static_attributes__" 324 (R 114)]) 4,
tup [],
fl [],
cd "BuildOrder" "BuildOrder" 314 19 0 0 110 false 111 N N N 317,
fk 112 109 m3,
tup [],
dc (T "dict") (pf P 319 m3 19 [e P "__static_attributes__" 324 (R 114),e P "__doc__" 325 N]) 2,
ck "BuildOrder" [(R 44)] [(R 116),(R 44),(R 31),(T "Exception"),(T "BaseException"),(T "object")] 115 "BuildOrder" [] [some (R 107),none,some (S "BuildOrder" 312),some (S "BuildOrder" 320),some (B "Exception.__new__"),some (vb true)],
gn (T "super") [(R 116),(R 116),(R 116)],
gi 116],
g7 (st 20) "write_groups" "write_groups" N m4 348 31 2 3 119 ["n","most","out"],
g7 (st 21) "read_groups" "read_groups" N m4 357 40 4 3 126 ["data","at","octets","most","n","shift","turn","octet"],
g7 (st 22) "put_varint" "put_varint" N m4 371 57 1 3 133 ["n"],
g7 (st 23) "read_varint" "read_varint" N m4 378 61 2 3 140 ["data","at"],
g7 (st 24) "put_varint32" "put_varint32" N m4 386 65 1 3 147 ["n"],
g7 (st 25) "read_varint32" "read_varint32" N m4 393 69 2 3 154 ["data","at"],
g7 (st 26) "put_fixed32" "put_fixed32" N m4 401 73 1 3 161 ["n"],
g7 (st 27) "put_fixed64" "put_fixed64" N m4 408 77 1 3 168 ["n"],
g7 (st 28) "read_fixed32" "read_fixed32" N m4 415 81 2 3 175 ["data","at"],
g7 (st 29) "read_fixed64" "read_fixed64" N m4 423 85 2 3 182 ["data","at"],
g7 (st 30) "make_crc_table" "make_crc_table" N m4 431 89 0 3 189 ["table","c","half","low"],
[tup [(J 0 441)],
tup [],
fl [],
tup (ss 445 ["data","start","table","c","octet"]),
tup [],
fr (st 31) "crc32c" N,
cd "crc32c" "crc32c" 442 102 2 3 197 true 198 (R 199) (R 200) (R 201) 450,
fo (st 31) "crc32c" (R 196) m4 (R 202)],
g7 (st 32) "mask" "mask" N m4 453 110 1 3 204 ["c"],
g7 (st 33) "checksum" "checksum" N m4 460 112 2 3 211 ["kind","data"],
g7 (st 34) "bloom_hash" "bloom_hash" N m4 468 118 1 3 218 ["data","size","h","at","rest"],
g7 (st 41) "pack_tag" "pack_tag" N m2 491 141 2 3 225 ["seq","kind"],
g7 (st 42) "split_ikey" "split_ikey" N m2 499 147 1 3 232 ["ik","user","tag","kind"],
g7 (st 43) "user_of" "user_of" N m2 509 154 1 3 239 ["ik"],
g7 (st 44) "tag_of" "tag_of" N m2 516 158 1 3 246 ["ik"],
[tup [],
gp,
dc (T "dict") (pq P 530 m2 "Order" 162 [e P "compare" 543 (R 266),e P "separator" 552 (R 273),e P "successor" 560 (R 280),e P "name" 567 (R 287),e P "__static_attributes__" 568 (R 288)]) 8,
tup [],
fl [(I 164),(I 4),(R 265),(I 171),(I 4),(R 272),(I 174),(I 4),(R 279),(I 177),(I 4),(R 286)],
cd "Order" "Order" 525 162 0 0 256 false 257 N N N 528,
fk 258 255 m2],
g7 (mt 45 0) "compare" "Order.compare" N m2 535 164 3 3 260 ["self","a","b"],
g7 (mt 45 1) "separator" "Order.separator" N m2 544 171 3 3 267 ["self","a","b"],
g7 (mt 45 2) "successor" "Order.successor" N m2 553 174 2 3 274 ["self","a"],
g7 (mt 45 3) "name" "Order.name" N m2 561 177 1 3 281 ["self"],
[tup [],
dc (T "dict") (pf P 530 m2 162 [e P "compare" 543 (R 266),e P "separator" 552 (R 273),e P "successor" 560 (R 280),e P "name" 567 (R 287),e P "__static_attributes__" 568 (R 288),e P "__dict__" 570 (R 291),e P "__weakref__" 572 (R 292),e P "__doc__" 573 N]) 4,
ck "Order" [(T "object")] [(R 290),(T "object")] 289 "Order" [(R 325),(R 379)] [none,none,some (S "Order" 523),some (S "Order" 531),some (B "object.__new__"),some (vb true)],
gn (T "getset_descriptor") [(S "__dict__" 569),(R 290),(B "function.__dict__"),(B "function.__dict__#set")],
gn (T "getset_descriptor") [(S "__weakref__" 571),(R 290),(B "ExceptionGroup.__weakref__"),N],
gn (T "super") [(R 290),(R 290),(R 290)],
gi 290,
tup [(R 290)],
gp,
dc (T "dict") (pq P 583 m2 "BytesOrder" 179 [e P "separator" 598 (R 308),e P "successor" 607 (R 315),e P "name" 614 (R 322),e P "__static_attributes__" 615 (R 323)]) 7,
tup [],
fl [(I 181),(I 4),(R 307),(I 192),(I 4),(R 314),(I 198),(I 4),(R 321)],
cd "BytesOrder" "BytesOrder" 578 179 0 0 298 false 299 N N N 581,
fk 300 297 m2],
g7 (mt 46 0) "separator" "BytesOrder.separator" N m2 588 181 3 3 302 ["self","a","b","least","at"],
g7 (mt 46 1) "successor" "BytesOrder.successor" N m2 599 192 2 3 309 ["self","a","at"],
g7 (mt 46 2) "name" "BytesOrder.name" N m2 608 198 1 3 316 ["self"],
[tup [],
dc (T "dict") (pf P 583 m2 179 [e P "separator" 598 (R 308),e P "successor" 607 (R 315),e P "name" 614 (R 322),e P "__static_attributes__" 615 (R 323),e P "__doc__" 616 N]) 2,
ck "BytesOrder" [(R 290)] [(R 325),(R 290),(T "object")] 324 "BytesOrder" [] [some (R 295),none,some (S "BytesOrder" 576),some (S "BytesOrder" 584),some (B "object.__new__"),some (vb true)],
gn (T "super") [(R 325),(R 325),(R 325)],
gi 325,
tup [(R 290)],
gp,
dc (T "dict") (pq P 626 m2 "InternalOrder" 200 [e P "__init__" 637 (R 341),e P "compare" 649 (R 348),e P "dress" 659 (R 355),e P "separator" 669 (R 362),e P "successor" 678 (R 369),e P "name" 685 (R 376),e P "__static_attributes__" 687 (R 377)]) 10,
tup [],
fl [(I 202),(I 4),(R 340),(I 205),(I 4),(R 347),(I 217),(I 4),(R 354),(I 222),(I 4),(R 361),(I 226),(I 4),(R 368),(I 230),(I 4),(R 375)],
cd "InternalOrder" "InternalOrder" 621 200 0 0 331 false 332 N N N 624,
fk 333 330 m2],
g7 (mt 47 0) "__init__" "InternalOrder.__init__" N m2 631 202 1 3 335 ["self"],
g7 (mt 47 1) "compare" "InternalOrder.compare" N m2 638 205 3 3 342 ["self","a","b","c","tag_a","tag_b"],
g7 (mt 47 2) "dress" "InternalOrder.dress" N m2 650 217 4 3 349 ["self","a","user","short"],
g7 (mt 47 3) "separator" "InternalOrder.separator" N m2 660 222 3 3 356 ["self","a","b","user"],
g7 (mt 47 4) "successor" "InternalOrder.successor" N m2 670 226 2 3 363 ["self","a","user"],
g7 (mt 47 5) "name" "InternalOrder.name" N m2 679 230 1 3 370 ["self"],
[tup [(S "user_order" 686)],
dc (T "dict") (pf P 626 m2 200 [e P "__init__" 637 (R 341),e P "compare" 649 (R 348),e P "dress" 659 (R 355),e P "separator" 669 (R 362),e P "successor" 678 (R 369),e P "name" 685 (R 376),e P "__static_attributes__" 687 (R 377),e P "__doc__" 688 N]) 2,
ck "InternalOrder" [(R 290)] [(R 379),(R 290),(T "object")] 378 "InternalOrder" [] [some (R 328),none,some (S "InternalOrder" 619),some (S "InternalOrder" 627),some (B "object.__new__"),some (vb true)],
gn (T "super") [(R 379),(R 379),(R 379)],
gi 379,
tup [],
gp,
dc (T "dict") (pq P 698 m2 "Options" 232 [e P "__init__" 709 (R 395),e P "check_all" 716 (R 402),e P "tiny" 723 (R 409),e P "__static_attributes__" 745 (R 410)]) 7,
tup [],
fl [(I 234),(I 4),(R 394),(I 257),(I 4),(R 401),(I 260),(I 4),(R 408)],
cd "Options" "Options" 693 232 0 0 385 false 386 N N N 696,
fk 387 384 m2],
g7 (mt 48 0) "__init__" "Options.__init__" N m2 703 234 1 3 389 ["self"],
g7 (mt 48 1) "check_all" "Options.check_all" N m2 710 257 1 3 396 ["self"],
g7 (mt 48 2) "tiny" "Options.tiny" N m2 717 260 1 3 403 ["self"],
[tup (ss 724 ["base_bytes","block_size","check","create_missing","expand_factor","filter_base_lg","filter_bits","grandparent_factor","heights","l0_stop","l0_trigger","level_factor","log_block","max_file_size","max_height","max_mem_level","num_levels","paranoid","restart_interval","sync_writes","write_buffer"]),
dc (T "dict") (pf P 698 m2 232 [e P "__init__" 709 (R 395),e P "check_all" 716 (R 402),e P "tiny" 723 (R 409),e P "__static_attributes__" 745 (R 410),e P "__dict__" 747 (R 413),e P "__weakref__" 749 (R 414),e P "__doc__" 750 N]) 4,
ck "Options" [(T "object")] [(R 412),(T "object")] 411 "Options" [] [none,none,some (S "Options" 691),some (S "Options" 699),some (B "object.__new__"),some (vb true)],
gn (T "getset_descriptor") [(S "__dict__" 746),(R 412),(B "function.__dict__"),(B "function.__dict__#set")],
gn (T "getset_descriptor") [(S "__weakref__" 748),(R 412),(B "ExceptionGroup.__weakref__"),N],
gn (T "super") [(R 412),(R 412),(R 412)],
gi 412],
g7 (st 55) "shared_prefix" "shared_prefix" N m0 765 282 2 3 417 ["a","b","most","at"],
[tup [],
gp,
dc (T "dict") (pq P 782 m0 "BlockBuilder" 290 [e P "__init__" 795 (R 437),e P "reset" 802 (R 444),e P "empty" 809 (R 451),e P "estimate" 816 (R 458),e P "add" 826 (R 465),e P "finish" 835 (R 472),e P "__static_attributes__" 844 (R 473)]) 10,
tup [],
fl [(I 292),(I 4),(R 436),(I 304),(I 4),(R 443),(I 312),(I 4),(R 450),(I 315),(I 4),(R 457),(I 318),(I 4),(R 464),(I 338),(I 4),(R 471)],
cd "BlockBuilder" "BlockBuilder" 777 290 0 0 427 false 428 N N N 780,
fk 429 426 m0],
g7 (mt 56 0) "__init__" "BlockBuilder.__init__" N m0 787 292 3 3 431 ["self","interval","order"],
g7 (mt 56 1) "reset" "BlockBuilder.reset" N m0 796 304 1 3 438 ["self"],
g7 (mt 56 2) "empty" "BlockBuilder.empty" N m0 803 312 1 3 445 ["self"],
g7 (mt 56 3) "estimate" "BlockBuilder.estimate" N m0 810 315 1 3 452 ["self"],
g7 (mt 56 4) "add" "BlockBuilder.add" N m0 817 318 3 3 459 ["self","key","value","shared"],
g7 (mt 56 5) "finish" "BlockBuilder.finish" N m0 827 338 1 3 466 ["self","out","place"],
[tup (ss 836 ["buffer","entries","finished","interval","last_key","order","restarts","since"]),
dc (T "dict") (pf P 782 m0 290 [e P "__init__" 795 (R 437),e P "reset" 802 (R 444),e P "empty" 809 (R 451),e P "estimate" 816 (R 458),e P "add" 826 (R 465),e P "finish" 835 (R 472),e P "__static_attributes__" 844 (R 473),e P "__dict__" 846 (R 476),e P "__weakref__" 848 (R 477),e P "__doc__" 849 N]) 4,
ck "BlockBuilder" [(T "object")] [(R 475),(T "object")] 474 "BlockBuilder" [] [none,none,some (S "BlockBuilder" 775),some (S "BlockBuilder" 783),some (B "object.__new__"),some (vb true)],
gn (T "getset_descriptor") [(S "__dict__" 845),(R 475),(B "function.__dict__"),(B "function.__dict__#set")],
gn (T "getset_descriptor") [(S "__weakref__" 847),(R 475),(B "ExceptionGroup.__weakref__"),N],
gn (T "super") [(R 475),(R 475),(R 475)],
gi 475,
tup [],
gp,
dc (T "dict") (pq P 859 m0 "Block" 347 [e P "__init__" 876 (R 493),e P "count_restarts" 883 (R 500),e P "walk" 890 (R 507),e P "entry_at" 904 (R 514),e P "restart_key" 916 (R 521),e P "__static_attributes__" 921 (R 522)]) 9,
tup [],
fl [(I 349),(I 4),(R 492),(I 371),(I 4),(R 499),(I 374),(I 4),(R 506),(I 377),(I 4),(R 513),(I 387),(I 4),(R 520)],
cd "Block" "Block" 854 347 0 0 483 false 484 N N N 857,
fk 485 482 m0],
g7 (mt 57 0) "__init__" "Block.__init__" N m0 864 349 3 3 487 ["self","data","order","size","count","turn","place"],
g7 (mt 57 1) "count_restarts" "Block.count_restarts" N m0 877 371 1 3 494 ["self"],
g7 (mt 57 2) "walk" "Block.walk" N m0 884 374 1 3 501 ["self"],
g7 (mt 57 3) "entry_at" "Block.entry_at" N m0 891 377 2 3 508 ["self","at","shared","place","unshared","length","value_at","end"],
g7 (mt 57 4) "restart_key" "Block.restart_key" N m0 905 387 2 3 515 ["self","turn","shared","place","value_at","end"],
[tup (ss 917 ["data","limit","order","restarts"]),
dc (T "dict") (pf P 859 m0 347 [e P "__init__" 876 (R 493),e P "count_restarts" 883 (R 500),e P "walk" 890 (R 507),e P "entry_at" 904 (R 514),e P "restart_key" 916 (R 521),e P "__static_attributes__" 921 (R 522),e P "__dict__" 923 (R 525),e P "__weakref__" 925 (R 526),e P "__doc__" 926 N]) 4,
ck "Block" [(T "object")] [(R 524),(T "object")] 523 "Block" [] [none,none,some (S "Block" 852),some (S "Block" 860),some (B "object.__new__"),some (vb true)],
gn (T "getset_descriptor") [(S "__dict__" 922),(R 524),(B "function.__dict__"),(B "function.__dict__#set")],
gn (T "getset_descriptor") [(S "__weakref__" 924),(R 524),(B "ExceptionGroup.__weakref__"),N],
gn (T "super") [(R 524),(R 524),(R 524)],
gi 524,
tup [],
gp,
dc (T "dict") (pq P 936 m0 "BlockIter" 392 [e P "__init__" 948 (R 542),e P "lose" 955 (R 549),e P "need" 962 (R 556),e P "valid" 969 (R 563),e P "key" 976 (R 570),e P "value" 983 (R 577),e P "go_restart" 991 (R 584),e P "parse" 1005 (R 591),e P "seek_first" 1012 (R 598),e P "seek_last" 1019 (R 605),e P "seek" 1027 (R 612),e P "narrow" 1041 (R 619),e P "step" 1048 (R 626),e P "back" 1057 (R 633),e P "__static_attributes__" 1065 (R 634)]) 18,
tup [],
fl [(I 394),(I 4),(R 541),(I 403),(I 4),(R 548),(I 408),(I 4),(R 555),(I 412),(I 4),(R 562),(I 415),(I 4),(R 569),(I 419),(I 4),(R 576),(I 423),(I 4),(R 583),(I 428),(I 4),(R 590),(I 450),(I 4),(R 597),(I 454),(I 4),(R 604),(I 460),(I 4),(R 611),(I 467),(I 4),(R 618),(I 493),(I 4),(R 625),(I 497),(I 4),(R 632)],
cd "BlockIter" "BlockIter" 931 392 0 0 532 false 533 N N N 934,
fk 534 531 m0],
g7 (mt 58 0) "__init__" "BlockIter.__init__" N m0 941 394 2 3 536 ["self","block"],
g7 (mt 58 1) "lose" "BlockIter.lose" N m0 949 403 1 3 543 ["self"],
g7 (mt 58 2) "need" "BlockIter.need" N m0 956 408 1 3 550 ["self"],
g7 (mt 58 3) "valid" "BlockIter.valid" N m0 963 412 1 3 557 ["self"],
g7 (mt 58 4) "key" "BlockIter.key" N m0 970 415 1 3 564 ["self"],
g7 (mt 58 5) "value" "BlockIter.value" N m0 977 419 1 3 571 ["self"],
g7 (mt 58 6) "go_restart" "BlockIter.go_restart" N m0 984 423 2 3 578 ["self","turn"],
g7 (mt 58 7) "parse" "BlockIter.parse" N m0 992 428 1 3 585 ["self","start","before","shared","place","value_at","end","restarts"],
g7 (mt 58 8) "seek_first" "BlockIter.seek_first" N m0 1006 450 1 3 592 ["self"],
g7 (mt 58 9) "seek_last" "BlockIter.seek_last" N m0 1013 454 1 3 599 ["self"],
g7 (mt 58 10) "seek" "BlockIter.seek" N m0 1020 460 2 3 606 ["self","target"],
g7 (mt 58 11) "narrow" "BlockIter.narrow" N m0 1028 467 2 3 613 ["self","target","left","right","side","standing","middle","found"],
g7 (mt 58 12) "step" "BlockIter.step" N m0 1042 493 1 3 620 ["self"],
g7 (mt 58 13) "back" "BlockIter.back" N m0 1049 497 1 3 627 ["self","original","turn"],
[tup (ss 1058 ["ahead","block","current","held_key","order","turn","value_from"]),
dc (T "dict") (pf P 936 m0 392 [e P "__init__" 948 (R 542),e P "lose" 955 (R 549),e P "need" 962 (R 556),e P "valid" 969 (R 563),e P "key" 976 (R 570),e P "value" 983 (R 577),e P "go_restart" 991 (R 584),e P "parse" 1005 (R 591),e P "seek_first" 1012 (R 598),e P "seek_last" 1019 (R 605),e P "seek" 1027 (R 612),e P "narrow" 1041 (R 619),e P "step" 1048 (R 626),e P "back" 1057 (R 633),e P "__static_attributes__" 1065 (R 634),e P "__dict__" 1067 (R 637),e P "__weakref__" 1069 (R 638),e P "__doc__" 1070 N]) 4,
ck "BlockIter" [(T "object")] [(R 636),(T "object")] 635 "BlockIter" [] [none,none,some (S "BlockIter" 929),some (S "BlockIter" 937),some (B "object.__new__"),some (vb true)],
gn (T "getset_descriptor") [(S "__dict__" 1066),(R 636),(B "function.__dict__"),(B "function.__dict__#set")],
gn (T "getset_descriptor") [(S "__weakref__" 1068),(R 636),(B "ExceptionGroup.__weakref__"),N],
gn (T "super") [(R 636),(R 636),(R 636)],
gi 636,
tup [],
gp,
dc (T "dict") (pq P 1080 m0 "Handle" 510 [e P "__init__" 1093 (R 654),e P "encode" 1100 (R 661),e P "row" 1107 (R 668),e P "__static_attributes__" 1110 (R 669)]) 7,
tup [],
fl [(I 512),(I 4),(R 653),(I 516),(I 4),(R 660),(I 519),(I 4),(R 667)],
cd "Handle" "Handle" 1075 510 0 0 644 false 645 N N N 1078,
fk 646 643 m0],
g7 (mt 59 0) "__init__" "Handle.__init__" N m0 1085 512 3 3 648 ["self","offset","size"],
g7 (mt 59 1) "encode" "Handle.encode" N m0 1094 516 1 3 655 ["self"],
g7 (mt 59 2) "row" "Handle.row" N m0 1101 519 1 3 662 ["self"],
[tup (ss 1108 ["offset","size"]),
dc (T "dict") (pf P 1080 m0 510 [e P "__init__" 1093 (R 654),e P "encode" 1100 (R 661),e P "row" 1107 (R 668),e P "__static_attributes__" 1110 (R 669),e P "__dict__" 1112 (R 672),e P "__weakref__" 1114 (R 673),e P "__doc__" 1115 N]) 4,
ck "Handle" [(T "object")] [(R 671),(T "object")] 670 "Handle" [] [none,none,some (S "Handle" 1073),some (S "Handle" 1081),some (B "object.__new__"),some (vb true)],
gn (T "getset_descriptor") [(S "__dict__" 1111),(R 671),(B "function.__dict__"),(B "function.__dict__#set")],
gn (T "getset_descriptor") [(S "__weakref__" 1113),(R 671),(B "ExceptionGroup.__weakref__"),N],
gn (T "super") [(R 671),(R 671),(R 671)],
gi 671],
g7 (st 60) "read_handle" "read_handle" N m0 1118 521 2 3 676 ["data","at","offset","size"],
g7 (st 61) "seal_block" "seal_block" N m0 1128 525 2 3 683 ["content","check","body"],
g7 (st 62) "open_block" "open_block" N m0 1137 528 3 3 690 ["data","handle","check","end","body"],
[tup [],
gp,
dc (T "dict") (pq P 1155 m0 "Bloom" 538 [e P "__init__" 1168 (R 710),e P "make" 1185 (R 717),e P "may_have" 1200 (R 724),e P "__static_attributes__" 1203 (R 725)]) 7,
tup [],
fl [(I 540),(I 4),(R 709),(I 551),(I 4),(R 716),(I 568),(I 4),(R 723)],
cd "Bloom" "Bloom" 1150 538 0 0 700 false 701 N N N 1153,
fk 702 699 m0],
g7 (mt 63 0) "__init__" "Bloom.__init__" N m0 1160 540 2 3 704 ["self","bits","probes"],
g7 (mt 63 1) "make" "Bloom.make" N m0 1169 551 2 3 711 ["self","keys","wanted","length","wide","out","key","h","delta","probe","place"],
g7 (mt 63 2) "may_have" "Bloom.may_have" N m0 1186 568 3 3 718 ["self","key","held","probes","wide","h","delta","probe","place"],
[tup (ss 1201 ["bits","probes"]),
dc (T "dict") (pf P 1155 m0 538 [e P "__init__" 1168 (R 710),e P "make" 1185 (R 717),e P "may_have" 1200 (R 724),e P "__static_attributes__" 1203 (R 725),e P "__dict__" 1205 (R 728),e P "__weakref__" 1207 (R 729),e P "__doc__" 1208 N]) 4,
ck "Bloom" [(T "object")] [(R 727),(T "object")] 726 "Bloom" [] [none,none,some (S "Bloom" 1148),some (S "Bloom" 1156),some (B "object.__new__"),some (vb true)],
gn (T "getset_descriptor") [(S "__dict__" 1204),(R 727),(B "function.__dict__"),(B "function.__dict__#set")],
gn (T "getset_descriptor") [(S "__weakref__" 1206),(R 727),(B "ExceptionGroup.__weakref__"),N],
gn (T "super") [(R 727),(R 727),(R 727)],
gi 727,
tup [],
gp,
dc (T "dict") (pq P 1218 m0 "FilterBuilder" 583 [e P "__init__" 1231 (R 745),e P "start_block" 1240 (R 752),e P "add_key" 1248 (R 759),e P "close_span" 1255 (R 766),e P "finish" 1264 (R 773),e P "__static_attributes__" 1271 (R 774)]) 9,
tup [],
fl [(I 585),(I 4),(R 744),(I 595),(I 4),(R 751),(I 604),(I 4),(R 758),(I 609),(I 4),(R 765),(I 615),(I 4),(R 772)],
cd "FilterBuilder" "FilterBuilder" 1213 583 0 0 735 false 736 N N N 1216,
fk 737 734 m0],
g7 (mt 64 0) "__init__" "FilterBuilder.__init__" N m0 1223 585 3 3 739 ["self","bloom","base_lg"],
g7 (mt 64 1) "start_block" "FilterBuilder.start_block" N m0 1232 595 2 3 746 ["self","offset","span"],
g7 (mt 64 2) "add_key" "FilterBuilder.add_key" N m0 1241 604 2 3 753 ["self","key"],
g7 (mt 64 3) "close_span" "FilterBuilder.close_span" N m0 1249 609 1 3 760 ["self"],
g7 (mt 64 4) "finish" "FilterBuilder.finish" N m0 1256 615 1 3 767 ["self","out","place"],
[tup (ss 1265 ["base_lg","bloom","filters","finished","keys","offsets"]),
dc (T "dict") (pf P 1218 m0 583 [e P "__init__" 1231 (R 745),e P "start_block" 1240 (R 752),e P "add_key" 1248 (R 759),e P "close_span" 1255 (R 766),e P "finish" 1264 (R 773),e P "__static_attributes__" 1271 (R 774),e P "__dict__" 1273 (R 777),e P "__weakref__" 1275 (R 778),e P "__doc__" 1276 N]) 4,
ck "FilterBuilder" [(T "object")] [(R 776),(T "object")] 775 "FilterBuilder" [] [none,none,some (S "FilterBuilder" 1211),some (S "FilterBuilder" 1219),some (B "object.__new__"),some (vb true)],
gn (T "getset_descriptor") [(S "__dict__" 1272),(R 776),(B "function.__dict__"),(B "function.__dict__#set")],
gn (T "getset_descriptor") [(S "__weakref__" 1274),(R 776),(B "ExceptionGroup.__weakref__"),N],
gn (T "super") [(R 776),(R 776),(R 776)],
gi 776,
tup [],
gp,
dc (T "dict") (pq P 1286 m0 "FilterReader" 627 [e P "__init__" 1301 (R 794),e P "may_have" 1314 (R 801),e P "__static_attributes__" 1320 (R 802)]) 6,
tup [],
fl [(I 629),(I 4),(R 793),(I 643),(I 4),(R 800)],
cd "FilterReader" "FilterReader" 1281 627 0 0 784 false 785 N N N 1284,
fk 786 783 m0],
g7 (mt 65 0) "__init__" "FilterReader.__init__" N m0 1291 629 3 3 788 ["self","bloom","data","size","start"],
g7 (mt 65 1) "may_have" "FilterReader.may_have" N m0 1302 643 3 3 795 ["self","offset","key","span","place","low","high"],
[tup (ss 1315 ["base_lg","bloom","count","data","start"]),
dc (T "dict") (pf P 1286 m0 627 [e P "__init__" 1301 (R 794),e P "may_have" 1314 (R 801),e P "__static_attributes__" 1320 (R 802),e P "__dict__" 1322 (R 805),e P "__weakref__" 1324 (R 806),e P "__doc__" 1325 N]) 4,
ck "FilterReader" [(T "object")] [(R 804),(T "object")] 803 "FilterReader" [] [none,none,some (S "FilterReader" 1279),some (S "FilterReader" 1287),some (B "object.__new__"),some (vb true)],
gn (T "getset_descriptor") [(S "__dict__" 1321),(R 804),(B "function.__dict__"),(B "function.__dict__#set")],
gn (T "getset_descriptor") [(S "__weakref__" 1323),(R 804),(B "ExceptionGroup.__weakref__"),N],
gn (T "super") [(R 804),(R 804),(R 804)],
gi 804,
tup [],
gp,
dc (T "dict") (pq P 1345 m1 "Footer" 662 [e P "__init__" 1358 (R 822),e P "encode" 1366 (R 829),e P "row" 1373 (R 836),e P "__static_attributes__" 1376 (R 837)]) 7,
tup [],
fl [(I 664),(I 4),(R 821),(I 668),(I 4),(R 828),(I 672),(I 4),(R 835)],
cd "Footer" "Footer" 1340 662 0 0 812 false 813 N N N 1343,
fk 814 811 m1],
g7 (mt 71 0) "__init__" "Footer.__init__" N m1 1350 664 3 3 816 ["self","meta","index"],
g7 (mt 71 1) "encode" "Footer.encode" N m1 1359 668 1 3 823 ["self","handles"],
g7 (mt 71 2) "row" "Footer.row" N m1 1367 672 1 3 830 ["self"],
[tup (ss 1374 ["index","meta"]),
dc (T "dict") (pf P 1345 m1 662 [e P "__init__" 1358 (R 822),e P "encode" 1366 (R 829),e P "row" 1373 (R 836),e P "__static_attributes__" 1376 (R 837),e P "__dict__" 1378 (R 840),e P "__weakref__" 1380 (R 841),e P "__doc__" 1381 N]) 4,
ck "Footer" [(T "object")] [(R 839),(T "object")] 838 "Footer" [] [none,none,some (S "Footer" 1338),some (S "Footer" 1346),some (B "object.__new__"),some (vb true)],
gn (T "getset_descriptor") [(S "__dict__" 1377),(R 839),(B "function.__dict__"),(B "function.__dict__#set")],
gn (T "getset_descriptor") [(S "__weakref__" 1379),(R 839),(B "ExceptionGroup.__weakref__"),N],
gn (T "super") [(R 839),(R 839),(R 839)],
gi 839],
g7 (st 72) "read_footer" "read_footer" N m1 1384 674 1 3 844 ["data","tail","handles","meta","at","index"],
[tup [],
gp,
dc (T "dict") (pq P 1403 m1 "TableBuilder" 686 [e P "__init__" 1417 (R 864),e P "size" 1424 (R 871),e P "count" 1431 (R 878),e P "add" 1442 (R 885),e P "write_block" 1451 (R 892),e P "close_block" 1458 (R 899),e P "finish" 1469 (R 906),e P "abandon" 1476 (R 913),e P "__static_attributes__" 1487 (R 914)]) 12,
tup [],
fl [(I 688),(I 4),(R 863),(I 704),(I 4),(R 870),(I 707),(I 4),(R 877),(I 710),(I 4),(R 884),(I 728),(I 4),(R 891),(I 733),(I 4),(R 898),(I 741),(I 4),(R 905),(I 758),(I 4),(R 912)],
cd "TableBuilder" "TableBuilder" 1398 686 0 0 854 false 855 N N N 1401,
fk 856 853 m1],
g7 (mt 73 0) "__init__" "TableBuilder.__init__" N m1 1408 688 3 3 858 ["self","options","order","bloom"],
g7 (mt 73 1) "size" "TableBuilder.size" N m1 1418 704 1 3 865 ["self"],
g7 (mt 73 2) "count" "TableBuilder.count" N m1 1425 707 1 3 872 ["self"],
g7 (mt 73 3) "add" "TableBuilder.add" N m1 1432 710 3 3 879 ["self","ikey","value","user","between"],
g7 (mt 73 4) "write_block" "TableBuilder.write_block" N m1 1443 728 2 3 886 ["self","content","handle"],
g7 (mt 73 5) "close_block" "TableBuilder.close_block" N m1 1452 733 1 3 893 ["self"],
g7 (mt 73 6) "finish" "TableBuilder.finish" N m1 1459 741 1 3 900 ["self","metas","handle","meta","index"],
g7 (mt 73 7) "abandon" "TableBuilder.abandon" N m1 1470 758 1 3 907 ["self"],
[tup (ss 1477 ["block","closed","entries","filters","index","last_key","options","order","out","waiting"]),
dc (T "dict") (pf P 1403 m1 686 [e P "__init__" 1417 (R 864),e P "size" 1424 (R 871),e P "count" 1431 (R 878),e P "add" 1442 (R 885),e P "write_block" 1451 (R 892),e P "close_block" 1458 (R 899),e P "finish" 1469 (R 906),e P "abandon" 1476 (R 913),e P "__static_attributes__" 1487 (R 914),e P "__dict__" 1489 (R 917),e P "__weakref__" 1491 (R 918),e P "__doc__" 1492 N]) 4,
ck "TableBuilder" [(T "object")] [(R 916),(T "object")] 915 "TableBuilder" [] [none,none,some (S "TableBuilder" 1396),some (S "TableBuilder" 1404),some (B "object.__new__"),some (vb true)],
gn (T "getset_descriptor") [(S "__dict__" 1488),(R 916),(B "function.__dict__"),(B "function.__dict__#set")],
gn (T "getset_descriptor") [(S "__weakref__" 1490),(R 916),(B "ExceptionGroup.__weakref__"),N],
gn (T "super") [(R 916),(R 916),(R 916)],
gi 916,
tup [],
gp,
dc (T "dict") (pq P 1502 m1 "Table" 764 [e P "__init__" 1517 (R 934),e P "read_block" 1525 (R 941),e P "read_filters" 1535 (R 948),e P "whole_handle" 1545 (R 955),e P "block_iter" 1554 (R 962),e P "walk" 1561 (R 969),e P "get" 1573 (R 976),e P "offset_of" 1582 (R 983),e P "first_key" 1590 (R 990),e P "last_key" 1598 (R 997),e P "data_end" 1607 (R 1004),e P "verify" 1622 (R 1011),e P "verify_key" 1637 (R 1018),e P "__static_attributes__" 1645 (R 1019)]) 17,
tup [],
fl [(I 766),(I 4),(R 933),(I 780),(I 4),(R 940),(I 785),(I 4),(R 947),(I 798),(I 4),(R 954),(I 804),(I 4),(R 961),(I 808),(I 4),(R 968),(I 811),(I 4),(R 975),(I 827),(I 4),(R 982),(I 834),(I 4),(R 989),(I 841),(I 4),(R 996),(I 848),(I 4),(R 1003),(I 855),(I 4),(R 1010),(I 878),(I 4),(R 1017)],
cd "Table" "Table" 1497 764 0 0 924 false 925 N N N 1500,
fk 926 923 m1],
g7 (mt 74 0) "__init__" "Table.__init__" N m1 1507 766 4 3 928 ["self","data","options","order","metas"],
g7 (mt 74 1) "read_block" "Table.read_block" N m1 1518 780 2 3 935 ["self","handle"],
g7 (mt 74 2) "read_filters" "Table.read_filters" N m1 1526 785 2 3 942 ["self","metas","walker","content"],
g7 (mt 74 3) "whole_handle" "Table.whole_handle" N m1 1536 798 2 3 949 ["self","octets","handle","at"],
g7 (mt 74 4) "block_iter" "Table.block_iter" N m1 1546 804 2 3 956 ["self","octets","content"],
g7 (mt 74 5) "walk" "Table.walk" N m1 1555 808 1 3 963 ["self"],
g7 (mt 74 6) "get" "Table.get" N m1 1562 811 2 3 970 ["self","ikey","outer","place","handle","inner"],
g7 (mt 74 7) "offset_of" "Table.offset_of" N m1 1574 827 2 3 977 ["self","ikey","outer"],
g7 (mt 74 8) "first_key" "Table.first_key" N m1 1583 834 1 3 984 ["self","walker"],
g7 (mt 74 9) "last_key" "Table.last_key" N m1 1591 841 1 3 991 ["self","walker"],
g7 (mt 74 10) "data_end" "Table.data_end" N m1 1599 848 2 3 998 ["self","metas","walker"],
g7 (mt 74 11) "verify" "Table.verify" N m1 1608 855 2 3 1005 ["self","metas","end","last","bound","outer","handle","inner","key"],
g7 (mt 74 12) "verify_key" "Table.verify_key" N m1 1623 878 6 3 1012 ["self","key","last","bound","top","handle","user","seq","kind"],
[tup (ss 1638 ["body_end","data","filters","footer","index","options","order"]),
dc (T "dict") (pf P 1502 m1 764 [e P "__init__" 1517 (R 934),e P "read_block" 1525 (R 941),e P "read_filters" 1535 (R 948),e P "whole_handle" 1545 (R 955),e P "block_iter" 1554 (R 962),e P "walk" 1561 (R 969),e P "get" 1573 (R 976),e P "offset_of" 1582 (R 983),e P "first_key" 1590 (R 990),e P "last_key" 1598 (R 997),e P "data_end" 1607 (R 1004),e P "verify" 1622 (R 1011),e P "verify_key" 1637 (R 1018),e P "__static_attributes__" 1645 (R 1019),e P "__dict__" 1647 (R 1022),e P "__weakref__" 1649 (R 1023),e P "__doc__" 1650 N]) 4,
ck "Table" [(T "object")] [(R 1021),(T "object")] 1020 "Table" [] [none,none,some (S "Table" 1495),some (S "Table" 1503),some (B "object.__new__"),some (vb true)],
gn (T "getset_descriptor") [(S "__dict__" 1646),(R 1021),(B "function.__dict__"),(B "function.__dict__#set")],
gn (T "getset_descriptor") [(S "__weakref__" 1648),(R 1021),(B "ExceptionGroup.__weakref__"),N],
gn (T "super") [(R 1021),(R 1021),(R 1021)],
gi 1021,
tup [],
gp,
dc (T "dict") (pq P 1660 m1 "TwoLevelIter" 888 [e P "__init__" 1673 (R 1039),e P "valid" 1680 (R 1046),e P "need" 1687 (R 1053),e P "key" 1694 (R 1060),e P "value" 1701 (R 1067),e P "aside" 1709 (R 1074),e P "enter" 1718 (R 1081),e P "skip_ahead" 1726 (R 1088),e P "skip_behind" 1734 (R 1095),e P "seek_first" 1742 (R 1102),e P "seek_last" 1750 (R 1109),e P "seek" 1759 (R 1116),e P "step" 1766 (R 1123),e P "back" 1773 (R 1130),e P "__static_attributes__" 1778 (R 1131)]) 18,
tup [],
fl [(I 890),(I 4),(R 1038),(I 896),(I 4),(R 1045),(I 899),(I 4),(R 1052),(I 903),(I 4),(R 1059),(I 907),(I 4),(R 1066),(I 911),(I 4),(R 1073),(I 916),(I 4),(R 1080),(I 926),(I 4),(R 1087),(I 934),(I 4),(R 1094),(I 942),(I 4),(R 1101),(I 950),(I 4),(R 1108),(I 958),(I 4),(R 1115),(I 966),(I 4),(R 1122),(I 971),(I 4),(R 1129)],
cd "TwoLevelIter" "TwoLevelIter" 1655 888 0 0 1029 false 1030 N N N 1658,
fk 1031 1028 m1],
g7 (mt 75 0) "__init__" "TwoLevelIter.__init__" N m1 1665 890 3 3 1033 ["self","outer","maker"],
g7 (mt 75 1) "valid" "TwoLevelIter.valid" N m1 1674 896 1 3 1040 ["self"],
g7 (mt 75 2) "need" "TwoLevelIter.need" N m1 1681 899 1 3 1047 ["self"],
g7 (mt 75 3) "key" "TwoLevelIter.key" N m1 1688 903 1 3 1054 ["self"],
g7 (mt 75 4) "value" "TwoLevelIter.value" N m1 1695 907 1 3 1061 ["self"],
g7 (mt 75 5) "aside" "TwoLevelIter.aside" N m1 1702 911 1 3 1068 ["self","held"],
g7 (mt 75 6) "enter" "TwoLevelIter.enter" N m1 1710 916 2 3 1075 ["self","held","place"],
g7 (mt 75 7) "skip_ahead" "TwoLevelIter.skip_ahead" N m1 1719 926 1 3 1082 ["self","held"],
g7 (mt 75 8) "skip_behind" "TwoLevelIter.skip_behind" N m1 1727 934 1 3 1089 ["self","held"],
g7 (mt 75 9) "seek_first" "TwoLevelIter.seek_first" N m1 1735 942 1 3 1096 ["self","held"],
g7 (mt 75 10) "seek_last" "TwoLevelIter.seek_last" N m1 1743 950 1 3 1103 ["self","held"],
g7 (mt 75 11) "seek" "TwoLevelIter.seek" N m1 1751 958 2 3 1110 ["self","target","held"],
g7 (mt 75 12) "step" "TwoLevelIter.step" N m1 1760 966 1 3 1117 ["self"],
g7 (mt 75 13) "back" "TwoLevelIter.back" N m1 1767 971 1 3 1124 ["self"],
[tup (ss 1774 ["inner","maker","outer","place"]),
dc (T "dict") (pf P 1660 m1 888 [e P "__init__" 1673 (R 1039),e P "valid" 1680 (R 1046),e P "need" 1687 (R 1053),e P "key" 1694 (R 1060),e P "value" 1701 (R 1067),e P "aside" 1709 (R 1074),e P "enter" 1718 (R 1081),e P "skip_ahead" 1726 (R 1088),e P "skip_behind" 1734 (R 1095),e P "seek_first" 1742 (R 1102),e P "seek_last" 1750 (R 1109),e P "seek" 1759 (R 1116),e P "step" 1766 (R 1123),e P "back" 1773 (R 1130),e P "__static_attributes__" 1778 (R 1131),e P "__dict__" 1780 (R 1134),e P "__weakref__" 1782 (R 1135),e P "__doc__" 1783 N]) 4,
ck "TwoLevelIter" [(T "object")] [(R 1133),(T "object")] 1132 "TwoLevelIter" [] [none,none,some (S "TwoLevelIter" 1653),some (S "TwoLevelIter" 1661),some (B "object.__new__"),some (vb true)],
gn (T "getset_descriptor") [(S "__dict__" 1779),(R 1133),(B "function.__dict__"),(B "function.__dict__#set")],
gn (T "getset_descriptor") [(S "__weakref__" 1781),(R 1133),(B "ExceptionGroup.__weakref__"),N],
gn (T "super") [(R 1133),(R 1133),(R 1133)],
gi 1133],
g7 (st 77) "_law_draw" "_law_draw" N (S "law_xw0280_01" 1786) 1788 976 2 3 1138 ["nums","i"],
[tup [],
fl [],
fr (st 78) "_law_fix" N,
cd "_law_fix" "_law_fix" 1796 978 2 3 1145 true 1146 N N (R 1147) 1799,
fo (st 78) "_law_fix" N (S "law_xw0280_01" 1786) (R 1148)],
g7 (st 79) "_law_var" "_law_var" N (S "law_xw0280_01" 1786) 1802 980 1 3 1150 ["n","out"],
g7 (st 80) "_law_sealed" "_law_sealed" N (S "law_xw0280_01" 1786) 1810 986 2 3 1157 ["crc","content","body","c","octet","turn"],
g7 (st 81) "_law_block" "_law_block" N (S "law_xw0280_01" 1786) 1822 997 1 3 1164 ["rows","out","key","value"],
[tup [],
fl [],
fr (st 82) "_law_spots" N,
cd "_law_spots" "_law_spots" 1832 1002 3 3 1171 true 1172 N N (R 1173) 1835,
fo (st 82) "_law_spots" N (S "law_xw0280_01" 1786) (R 1174),
tup [],
fl [],
fr (st 83) "_law_filter" N,
cd "_law_filter" "_law_filter" 1838 1010 2 3 1176 true 1177 N N (R 1178) 1841,
fo (st 83) "_law_filter" N (S "law_xw0280_01" 1786) (R 1179)],
g7 (st 84) "_law_lets" "_law_lets" N (S "law_xw0280_01" 1786) 1844 1018 2 3 1181 ["held","key","spot"],
g7 (st 85) "_law_spans" "_law_spans" N (S "law_xw0280_01" 1786) 1853 1023 3 3 1188 ["bits","lg","spans","out","starts","keys"],
g7 (st 86) "_law_top" "_law_top" N (S "law_xw0280_01" 1786) 1865 1031 2 3 1195 ["user","tag","n"],
g7 (st 87) "_law_key" "_law_key" N (S "law_xw0280_01" 1786) 1874 1036 1 3 1202 ["head"],
g7 (st 88) "_law_table" "_law_table" N (S "law_xw0280_01" 1786) 1881 1038 2 3 1209 ["world","heads","crc","bits","lg","data","spans","index","top","content","metas","meta","foot","magic"],
g7 (st 89) "_law_told" "_law_told" N (S "law_xw0280_01" 1786) 1901 1063 3 3 1216 ["builder","what","key"],
g7 (st 90) "_law_filled" "_law_filled" N (S "law_xw0280_01" 1786) 1910 1080 3 3 1223 ["opts","heads","x","builder","short","size","head","key"],
g7 (st 91) "_law_built" "_law_built" N (S "law_xw0280_01" 1786) 1924 1099 3 3 1230 ["opts","heads","x","builder","data","what"],
g7 (st 92) "_law_nowhere" "_law_nowhere" N (S "law_xw0280_01" 1786) 1936 1115 1 3 1237 ["walk","told","turn"],
g7 (st 93) "_law_stands" "_law_stands" N (S "law_xw0280_01" 1786) 1945 1130 3 3 1244 ["walk","rows","place"],
g7 (st 94) "_law_walked" "_law_walked" N (S "law_xw0280_01" 1786) 1954 1134 5 3 1251 ["walk","rows","x","target","before","place","turn","deed"],
g7 (st 95) "_law_end" "_law_end" N (S "law_xw0280_01" 1786) 1968 1160 2 3 1258 ["table","last"],
[tup [],
fl [],
fr (st 96) "_law_opened" N,
cd "_law_opened" "_law_opened" 1976 1167 7 3 1265 true 1266 N N (R 1267) 1979,
fo (st 96) "_law_opened" N (S "law_xw0280_01" 1786) (R 1268)],
g7 (st 97) "_law_blocks" "_law_blocks" N (S "law_xw0280_01" 1786) 1982 1196 1 3 1270 ["x","order","entry","builder","turn","rows","key","value","content","block","target","before"],
g7 (st 98) "_law_lamps" "_law_lamps" N (S "law_xw0280_01" 1786) 2000 1225 2 3 1277 ["bits","x","bloom","strange","dark","lit","word","key"],
g7 (st 99) "_law_filters" "_law_filters" N (S "law_xw0280_01" 1786) 2014 1239 3 3 1284 ["bits","lg","x","builder","spans","turn","y","offset","want","data","what","reader","few","span","key"],
[tup [],
fl [],
fr (st 100) "law" N,
cd "law" "law" 2035 1274 1 3 1291 true 1292 N N (R 1293) 2038,
fo (st 100) "law" N (S "law_xw0280_01" 1786) (R 1294)]]
noncomputable def sta(P:Params)(n toks:Nat)(ov:List (Nat×Obj))(os:OsState):SharedT:=⟨bt 12 (upd ov (zH n (ob P))),n,{},#[],{},toks,os⟩
noncomputable def sa(P:Params)(os:OsState):SharedT:=sta P 15 187 [(2,dc N [] 0),(3,md P 9 (S "__main__" 164)),(12,cl 0)] os
noncomputable def z0(P:Params)(os:OsState):SharedT:=sta P 15 187 [(2,dc N [] 0),(3,md P 9 (S "__main__" 164)),(12,cl 0)] os
noncomputable def z1(P:Params)(os:OsState):SharedT:=sta P 35 216 [(3,md P 11 m3),(12,cl 6),(31,ck "KeepError" [(T "Exception")] [(R 31),(T "Exception"),(T "BaseException"),(T "object")] 30 "KeepError" [] [some (R 22),none,some (S "KeepError" 196),some (S "KeepError" 204),some (B "Exception.__new__"),some (vb true)])] os
noncomputable def z2(P:Params)(os:OsState):SharedT:=sta P 47 232 [(3,md P 12 m3),(12,cl 9),(44,ck "StoreError" [(R 31)] [(R 44),(R 31),(T "Exception"),(T "BaseException"),(T "object")] 43 "StoreError" [] [some (R 35),none,some (S "StoreError" 216),some (S "StoreError" 224),some (B "Exception.__new__"),some (vb true)])] os
noncomputable def z3(P:Params)(os:OsState):SharedT:=sta P 59 248 [(3,md P 13 m3),(12,cl 12),(44,ck "StoreError" [(R 31)] [(R 44),(R 31),(T "Exception"),(T "BaseException"),(T "object")] 43 "StoreError" [(R 56)] [some (R 35),none,some (S "StoreError" 216),some (S "StoreError" 224),some (B "Exception.__new__"),some (vb true)]),(56,ck "Corrupt" [(R 44)] [(R 56),(R 44),(R 31),(T "Exception"),(T "BaseException"),(T "object")] 55 "Corrupt" [] [some (R 47),none,some (S "Corrupt" 232),some (S "Corrupt" 240),some (B "Exception.__new__"),some (vb true)])] os
noncomputable def z4(P:Params)(os:OsState):SharedT:=sta P 71 264 [(3,md P 14 m3),(12,cl 15),(44,ck "StoreError" [(R 31)] [(R 44),(R 31),(T "Exception"),(T "BaseException"),(T "object")] 43 "StoreError" [(R 56)] [some (R 35),none,some (S "StoreError" 216),some (S "StoreError" 224),some (B "Exception.__new__"),some (vb true)])] os
noncomputable def z5(P:Params)(os:OsState):SharedT:=sta P 83 280 [(3,md P 15 m3),(12,cl 18),(44,ck "StoreError" [(R 31)] [(R 44),(R 31),(T "Exception"),(T "BaseException"),(T "object")] 43 "StoreError" [(R 56),(R 80)] [some (R 35),none,some (S "StoreError" 216),some (S "StoreError" 224),some (B "Exception.__new__"),some (vb true)])] os
noncomputable def z6(P:Params)(os:OsState):SharedT:=sta P 95 296 [(3,md P 16 m3),(12,cl 21),(44,ck "StoreError" [(R 31)] [(R 44),(R 31),(T "Exception"),(T "BaseException"),(T "object")] 43 "StoreError" [(R 56),(R 80),(R 92)] [some (R 35),none,some (S "StoreError" 216),some (S "StoreError" 224),some (B "Exception.__new__"),some (vb true)])] os
noncomputable def z7(P:Params)(os:OsState):SharedT:=sta P 107 312 [(3,md P 17 m3),(12,cl 24),(44,ck "StoreError" [(R 31)] [(R 44),(R 31),(T "Exception"),(T "BaseException"),(T "object")] 43 "StoreError" [(R 56),(R 80),(R 92),(R 104)] [some (R 35),none,some (S "StoreError" 216),some (S "StoreError" 224),some (B "Exception.__new__"),some (vb true)])] os
noncomputable def z8(P:Params)(os:OsState):SharedT:=sta P 133 371 [(3,md P 29 m4),(12,cl 33)] os
noncomputable def z9(P:Params)(os:OsState):SharedT:=sta P 225 479 [(3,md P 42 m4),(12,cl 72)] os
noncomputable def HM(P:Params)(os:OsState):SharedT:=sta P 253 523 [(3,md P 51 m2),(12,cl 84)] os
noncomputable def HL(P:Params)(os:OsState):SharedT:=sta P 295 576 [(3,md P 52 m2),(12,cl 87),(290,ck "Order" [(T "object")] [(R 290),(T "object")] 289 "Order" [] [none,none,some (S "Order" 523),some (S "Order" 531),some (B "object.__new__"),some (vb true)])] os
noncomputable def HK(P:Params)(os:OsState):SharedT:=sta P 328 619 [(3,md P 53 m2),(12,cl 90),(290,ck "Order" [(T "object")] [(R 290),(T "object")] 289 "Order" [(R 325)] [none,none,some (S "Order" 523),some (S "Order" 531),some (B "object.__new__"),some (vb true)])] os
noncomputable def HJ(P:Params)(os:OsState):SharedT:=sta P 382 691 [(3,md P 54 m2),(12,cl 93)] os
noncomputable def HI(P:Params)(os:OsState):SharedT:=sta P 424 775 [(3,md P 61 m0),(12,cl 99)] os
noncomputable def HH(P:Params)(os:OsState):SharedT:=sta P 480 852 [(3,md P 62 m0),(12,cl 102)] os
noncomputable def HG(P:Params)(os:OsState):SharedT:=sta P 529 929 [(3,md P 63 m0),(12,cl 105)] os
noncomputable def HE(P:Params)(os:OsState):SharedT:=sta P 641 1073 [(3,md P 64 m0),(12,cl 108)] os
noncomputable def HC(P:Params)(os:OsState):SharedT:=sta P 697 1148 [(3,md P 68 m0),(12,cl 120)] os
noncomputable def HB(P:Params)(os:OsState):SharedT:=sta P 732 1211 [(3,md P 69 m0),(12,cl 123)] os
noncomputable def HA(P:Params)(os:OsState):SharedT:=sta P 781 1279 [(3,md P 70 m0),(12,cl 126)] os
noncomputable def Hz(P:Params)(os:OsState):SharedT:=sta P 809 1338 [(3,md P 75 m1),(12,cl 129)] os
noncomputable def Hy(P:Params)(os:OsState):SharedT:=sta P 851 1396 [(3,md P 77 m1),(12,cl 135)] os
noncomputable def Hx(P:Params)(os:OsState):SharedT:=sta P 921 1495 [(3,md P 78 m1),(12,cl 138)] os
noncomputable def Hw(P:Params)(os:OsState):SharedT:=sta P 1026 1653 [(3,md P 79 m1),(12,cl 141)] os
noncomputable def Hv(P:Params)(os:OsState):SharedT:=sta P 1138 1786 [(3,md P 80 m1),(12,cl 144)] os
noncomputable def Hu(P:Params)(os:OsState):SharedT:=sta P 1216 1901 [(3,md P 92 (S "law_xw0280_01" 1786)),(12,cl 180)] os
noncomputable def z27(P:Params)(os:OsState):SharedT:=sta P 1296 2041 [] os
theorem Ju:∀w:World,(λos=>j3 j0 pw w 11 ann 1 235 (z0 w.params os) ⟨(j2 (S8 0 3) env).wrap O5 E7 id id,cE,⟨0,0,0,0⟩,[B5 ⟨0,0,0,0⟩]⟩)=λos=>some (.next,z1 w.params os,cE,⟨5,0,6,8⟩):=λw=>by kernel_rfl
theorem Jt:∀w:World,(λos=>j3 j0 pw w 11 ann 1 214 (z1 w.params os) ⟨(j2 (S8 3 1) env).wrap O5 E7 id id,cE,⟨5,0,6,8⟩,[B5 ⟨0,0,0,0⟩]⟩)=λos=>some (.next,z2 w.params os,cE,⟨7,0,8,8⟩):=λw=>by kernel_rfl
theorem Js:∀w:World,(λos=>j3 j0 pw w 11 ann 1 228 (z2 w.params os) ⟨(j2 (S8 4 1) env).wrap O5 E7 id id,cE,⟨7,0,8,8⟩,[B5 ⟨0,0,0,0⟩]⟩)=λos=>some (.next,z3 w.params os,cE,⟨9,0,10,8⟩):=λw=>by kernel_rfl
theorem Jr:∀w:World,(λos=>j3 j0 pw w 11 ann 1 242 (z3 w.params os) ⟨(j2 (S8 5 1) env).wrap O5 E7 id id,cE,⟨9,0,10,8⟩,[B5 ⟨0,0,0,0⟩]⟩)=λos=>some (.next,z4 w.params os,cE,⟨11,0,12,8⟩):=λw=>by kernel_rfl
theorem Jq:∀w:World,(λos=>j3 j0 pw w 11 ann 1 228 (z4 w.params os) ⟨(j2 (S8 6 1) env).wrap O5 E7 id id,cE,⟨11,0,12,8⟩,[B5 ⟨0,0,0,0⟩]⟩)=λos=>some (.next,z5 w.params os,cE,⟨13,0,14,8⟩):=λw=>by kernel_rfl
theorem Jp:∀w:World,(λos=>j3 j0 pw w 11 ann 1 228 (z5 w.params os) ⟨(j2 (S8 7 1) env).wrap O5 E7 id id,cE,⟨13,0,14,8⟩,[B5 ⟨0,0,0,0⟩]⟩)=λos=>some (.next,z6 w.params os,cE,⟨15,0,16,8⟩):=λw=>by kernel_rfl
theorem Jo:∀w:World,(λos=>j3 j0 pw w 11 ann 1 228 (z6 w.params os) ⟨(j2 (S8 8 1) env).wrap O5 E7 id id,cE,⟨15,0,16,8⟩,[B5 ⟨0,0,0,0⟩]⟩)=λos=>some (.next,z7 w.params os,cE,⟨17,0,18,8⟩):=λw=>by kernel_rfl
theorem Jn:∀w:World,(λos=>j3 j0 pw w 11 ann 1 385 (z7 w.params os) ⟨(j2 (S8 9 13) env).wrap O5 E7 id id,cE,⟨17,0,18,8⟩,[B5 ⟨0,0,0,0⟩]⟩)=λos=>some (.next,z8 w.params os,cE,⟨40,0,56,61⟩):=λw=>by kernel_rfl
theorem Jm:∀w:World,(λos=>j3 j0 pw w 11 ann 1 396 (z8 w.params os) ⟨(j2 (S8 22 13) env).wrap O5 E7 id id,cE,⟨40,0,56,61⟩,[B5 ⟨0,0,0,0⟩]⟩)=λos=>some (.next,z9 w.params os,cE,⟨118,0,134,12⟩):=λw=>by kernel_rfl
theorem Jl:∀w:World,(λos=>j3 j0 pw w 11 ann 1 175 (z9 w.params os) ⟨(j2 (S8 35 10) env).wrap O5 E7 id id,cE,⟨118,0,134,12⟩,[B5 ⟨0,0,0,0⟩]⟩)=λos=>some (.next,HM w.params os,cE,⟨158,0,161,49⟩):=λw=>by kernel_rfl
theorem Fm:∀w:World,(λos=>j3 j0 pw w 11 ann 1 319 (HM w.params os) ⟨(j2 (S8 45 1) env).wrap O5 E7 id id,cE,⟨158,0,161,49⟩,[B5 ⟨0,0,0,0⟩]⟩)=λos=>some (.next,HL w.params os,cE,⟨162,0,178,16⟩):=λw=>by kernel_rfl
theorem Fk:∀w:World,(λos=>j3 j0 pw w 11 ann 1 312 (HL w.params os) ⟨(j2 (S8 46 1) env).wrap O5 E7 id id,cE,⟨162,0,178,16⟩,[B5 ⟨0,0,0,0⟩]⟩)=λos=>some (.next,HK w.params os,cE,⟨179,0,199,16⟩):=λw=>by kernel_rfl
theorem Fj:∀w:World,(λos=>j3 j0 pw w 11 ann 1 413 (HK w.params os) ⟨(j2 (S8 47 1) env).wrap O5 E7 id id,cE,⟨179,0,199,16⟩,[B5 ⟨0,0,0,0⟩]⟩)=λos=>some (.next,HJ w.params os,cE,⟨200,0,231,16⟩):=λw=>by kernel_rfl
theorem Fi:∀w:World,(λos=>j3 j0 pw w 11 ann 1 390 (HJ w.params os) ⟨(j2 (S8 48 8) env).wrap O5 E7 id id,cE,⟨200,0,231,16⟩,[B5 ⟨0,0,0,0⟩]⟩)=λos=>some (.next,HI w.params os,cE,⟨282,0,289,13⟩):=λw=>by kernel_rfl
theorem Fh:∀w:World,(λos=>j3 j0 pw w 11 ann 1 391 (HI w.params os) ⟨(j2 (S8 56 1) env).wrap O5 E7 id id,cE,⟨282,0,289,13⟩,[B5 ⟨0,0,0,0⟩]⟩)=λos=>some (.next,HH w.params os,cE,⟨290,0,346,25⟩):=λw=>by kernel_rfl
theorem Fg:∀w:World,(λos=>j3 j0 pw w 11 ann 1 367 (HH w.params os) ⟨(j2 (S8 57 1) env).wrap O5 E7 id id,cE,⟨290,0,346,25⟩,[B5 ⟨0,0,0,0⟩]⟩)=λos=>some (.next,HG w.params os,cE,⟨347,0,391,40⟩):=λw=>by kernel_rfl
theorem Ff:∀w:World,(λos=>j3 j0 pw w 11 ann 1 650 (HG w.params os) ⟨(j2 (S8 58 1) env).wrap O5 E7 id id,cE,⟨347,0,391,40⟩,[B5 ⟨0,0,0,0⟩]⟩)=λos=>some (.next,HE w.params os,cE,⟨392,0,509,24⟩):=λw=>by kernel_rfl
theorem Fe:∀w:World,(λos=>j3 j0 pw w 11 ann 1 383 (HE w.params os) ⟨(j2 (S8 59 4) env).wrap O5 E7 id id,cE,⟨392,0,509,24⟩,[B5 ⟨0,0,0,0⟩]⟩)=λos=>some (.next,HC w.params os,cE,⟨528,0,537,29⟩):=λw=>by kernel_rfl
theorem Fd:∀w:World,(λos=>j3 j0 pw w 11 ann 1 305 (HC w.params os) ⟨(j2 (S8 63 1) env).wrap O5 E7 id id,cE,⟨528,0,537,29⟩,[B5 ⟨0,0,0,0⟩]⟩)=λos=>some (.next,HB w.params os,cE,⟨538,0,582,19⟩):=λw=>by kernel_rfl
theorem Fc:∀w:World,(λos=>j3 j0 pw w 11 ann 1 358 (HB w.params os) ⟨(j2 (S8 64 1) env).wrap O5 E7 id id,cE,⟨538,0,582,19⟩,[B5 ⟨0,0,0,0⟩]⟩)=λos=>some (.next,HA w.params os,cE,⟨583,0,626,25⟩):=λw=>by kernel_rfl
theorem Fb:∀w:World,(λos=>j3 j0 pw w 11 ann 1 312 (HA w.params os) ⟨(j2 (S8 65 6) env).wrap O5 E7 id id,cE,⟨583,0,626,25⟩,[B5 ⟨0,0,0,0⟩]⟩)=λos=>some (.next,Hz w.params os,cE,⟨661,0,661,10⟩):=λw=>by kernel_rfl
theorem EZ:∀w:World,(λos=>j3 j0 pw w 11 ann 1 322 (Hz w.params os) ⟨(j2 (S8 71 2) env).wrap O5 E7 id id,cE,⟨661,0,661,10⟩,[B5 ⟨0,0,0,0⟩]⟩)=λos=>some (.next,Hy w.params os,cE,⟨674,0,685,30⟩):=λw=>by kernel_rfl
theorem EY:∀w:World,(λos=>j3 j0 pw w 11 ann 1 461 (Hy w.params os) ⟨(j2 (S8 73 1) env).wrap O5 E7 id id,cE,⟨674,0,685,30⟩,[B5 ⟨0,0,0,0⟩]⟩)=λos=>some (.next,Hx w.params os,cE,⟨686,0,763,27⟩):=λw=>by kernel_rfl
theorem EX:∀w:World,(λos=>j3 j0 pw w 11 ann 1 640 (Hx w.params os) ⟨(j2 (S8 74 1) env).wrap O5 E7 id id,cE,⟨686,0,763,27⟩,[B5 ⟨0,0,0,0⟩]⟩)=λos=>some (.next,Hw w.params os,cE,⟨764,0,887,64⟩):=λw=>by kernel_rfl
theorem EW:∀w:World,(λos=>j3 j0 pw w 11 ann 1 639 (Hw w.params os) ⟨(j2 (S8 75 1) env).wrap O5 E7 id id,cE,⟨764,0,887,64⟩,[B5 ⟨0,0,0,0⟩]⟩)=λos=>some (.next,Hv w.params os,cE,⟨888,0,974,26⟩):=λw=>by kernel_rfl
theorem EV:∀w:World,(λos=>j3 j0 pw w 11 ann 1 381 (Hv w.params os) ⟨(j2 (S8 76 13) env).wrap O5 E7 id id,cE,⟨888,0,974,26⟩,[B5 ⟨0,0,0,0⟩]⟩)=λos=>some (.next,Hu w.params os,cE,⟨1038,0,1062,95⟩):=λw=>by kernel_rfl
theorem EU:∀w:World,(λos=>j3 j0 pw w 11 ann 1 401 (Hu w.params os) ⟨(j2 (S8 89 12) env).wrap O5 E7 id id,cE,⟨1038,0,1062,95⟩,[B5 ⟨0,0,0,0⟩]⟩)=λos=>some (.next,z27 w.params os,cE,⟨1274,0,1319,100⟩):=λw=>by kernel_rfl
theorem pre:∀w:World,(λos=>PySem.W.Fast.tw15667345088766844465 j0 pw w 11 ann 12 ⟨U7 w.params,#[],boot_drawn,boot_toks,os⟩ (topStub pw))=λos=>some ((sa w.params os).abs,⟨PySem.W.Fast.tw11892475500146522536 j0 cE,cE,⟨0,0,0,0⟩,[B5 ⟨0,0,0,0⟩]⟩):=λw=>by kernel_rfl
theorem F6:∀w:World,(λos=>segRunT bE pw w 11 ann 1 1 (sa w.params os) (blockOf (behindTheImports pw) env cE ⟨0,0,0,0⟩ [B5 ⟨0,0,0,0⟩]))=λos=>some (.next,z0 w.params os,cE,⟨0,0,0,0⟩):=λw=>by kernel_rfl
theorem fin:∀w:World,(λos=>topRun bE pw w 11 ann 2 (z27 w.params os).abs ⟨O5 .next,cE,⟨1274,0,1319,100⟩,[B5 ⟨0,0,0,0⟩]⟩)=λos=>some (z27 w.params os).abs:=λw=>by kernel_rfl
theorem CV:∀w:World,(fencedOpening bE pw w 20000).map (λs=>(s.heap,s.gens,s.drawn,s.toks))=some (U7 w.params,Array.mk [],boot_drawn,boot_toks):=boot_open (by kernel_rfl) (by kernel_rfl) (λs=>by kernel_rfl)
theorem size:∀w:World,((U7 w.params).isNs C8&&(#[]:Array GenState).size==0,(U7 w.params).objs.size,(U7 w.params).nsMap C8 "__annotations__")=(true,11,ann):=λw=>by kernel_rfl
theorem un{w:World}{n:Nat}{l:List Stmt}{c:Code}{pos q p':Pos}{s s':SharedT}(h:j3 j0 pw w 11 ann 1 n s ⟨(j2 l env).wrap O5 E7 id id,c,pos,[B5 q]⟩=some (.next,s',c,p')):
  segRun bE pw w 11 ann 1 n s.abs (piecesOf l env c pos [B5 q])=some (.next,s'.abs,c,p'):=by
 rw[←PySem.W.Fast.te10110043849684766642,←W6,←PySem.W.Fast.te12563942051412417395] at h
 exact segRun_of h
noncomputable def hp(P:Params):Heap:=absHeap (z27 P default).tree 1296 {}
theorem CU:behindTheImports pw=(S8 0 3++(S8 3 1++(S8 4 1++(S8 5 1++(S8 6 1++(S8 7 1++(S8 8 1++(S8 9 13++(S8 22 13++(S8 35 10++(S8 45 1++(S8 46 1++(S8 47 1++(S8 48 8++(S8 56 1++(S8 57 1++(S8 58 1++(S8 59 4++(S8 63 1++(S8 64 1++(S8 65 6++(S8 71 2++(S8 73 1++(S8 74 1++(S8 75 1++(S8 76 13++(S8 89 12++[]))))))))))))))))))))))))))):=by kernel_rfl
theorem ET(w:World)(os:OsState):topGo bE pw w 11 ann 12 ⟨U7 w.params,Array.mk [],boot_drawn,boot_toks,os⟩ (topStub pw)=some ((sa w.params os).abs,⟨denote bE cE,cE,⟨0,0,0,0⟩,[B5 ⟨0,0,0,0⟩]⟩):=by
 have h:=congrFun (pre w) os
 rw[←PySem.W.Fast.te15667345088766844465,←PySem.W.Fast.te11892475500146522536,←W6] at h
 exact h
theorem EM(w:World)(os:OsState):topRun bE pw w 11 ann (12+(1+(235+(214+(228+(242+(228+(228+(228+(385+(396+(175+(319+(312+(413+(390+(391+(367+(650+(383+(305+(358+(312+(322+(461+(640+(639+(381+(401+2))))))))))))))))))))))))))))) ⟨U7 w.params,Array.mk [],boot_drawn,boot_toks,os⟩ (topStub pw)=some ⟨hp w.params,#[],{},2041,os⟩:=
 go_top (ET w os) (piece_block (segRun_of (congrFun (F6 w) os)) (by
  rw[CU]
  exact B9 (un (congrFun (Ju w) os)) (B9 (un (congrFun (Jt w) os)) (B9 (un (congrFun (Js w) os)) (B9 (un (congrFun (Jr w) os)) (B9 (un (congrFun (Jq w) os)) (B9 (un (congrFun (Jp w) os)) (B9 (un (congrFun (Jo w) os)) (B9 (un (congrFun (Jn w) os)) (B9 (un (congrFun (Jm w) os)) (B9 (un (congrFun (Jl w) os)) (B9 (un (congrFun (Fm w) os)) (B9 (un (congrFun (Fk w) os)) (B9 (un (congrFun (Fj w) os)) (B9 (un (congrFun (Fi w) os)) (B9 (un (congrFun (Fh w) os)) (B9 (un (congrFun (Fg w) os)) (B9 (un (congrFun (Ff w) os)) (B9 (un (congrFun (Fe w) os)) (B9 (un (congrFun (Fd w) os)) (B9 (un (congrFun (Fc w) os)) (B9 (un (congrFun (Fb w) os)) (B9 (un (congrFun (EZ w) os)) (B9 (un (congrFun (EY w) os)) (B9 (un (congrFun (EX w) os)) (B9 (un (congrFun (EW w) os)) (B9 (un (congrFun (EV w) os)) (B9 (un (congrFun (EU w) os)) (piece_nil (congrFun (fin w) os))))))))))))))))))))))))))))))
noncomputable def q:Program:={ pw with main:={ pw.main with body:=vT 100 body } }
noncomputable def qe:List Str:=(pw.main.scope.names.map (·.1)).filter λx=>x != ("law" : Str)
theorem Di(w:World)(os:OsState):(staticsOk (importedModules pw.main.body) (U7 w.params) (hp w.params)&&namesBound pw (hp w.params)&&gensDone ⟨hp w.params,#[],{},2041,os⟩&&laidKept (U7 w.params) (hp w.params))=true:=by kernel_rfl
theorem Dh(w:World):(λos=>PySem.W.Fast.tw4187177175401517315 q qe (importedModules pw.main.body) (λ_=>true) true ⟨hp w.params,#[],{},2041,os⟩)=λ_=>openGood q qe:=by kernel_rfl
theorem left:LeftO pw q qe (λ_=>true) (λs=>s.heap) (λw=>hp w.params) 20000:=LeftO.of_pieces (H₀:=U7) (H₁:=hp) (gs₀:=Array.mk []) (gs₁:=#[]) (d₀:=boot_drawn) (d₁:={}) (k₀:=boot_toks) (k₁:=2041) (m₀:=11) (ann:=ann) CV size EM (by decide) λw=>by
 funext os
 have h2:=congrFun (Dh w) os
 rw[←PySem.W.Fast.te4187177175401517315] at h2
 exact Prod.ext (Di w os) (Prod.ext h2 rfl)
noncomputable abbrev rl:OpenLaw:=PySem.Challenge.rw_xw0280_01
noncomputable def Ac:Look:={ strict:=false,foot:=none,bare:=[] }
theorem qE{f:List Stmt→Bool}{k:Stmt→Bool}(h:∀s r,f (s::r)=(k s&&f r)){a b:List Stmt}(y:f b=true)(x:f a=true):f (a++b)=true:=by
 induction a with
 |nil=>exact y
 |cons s r ih=>
  rw[h] at x
  have x:=C5.mp x
  rw[dA,h]
  exact C5.mpr ⟨x.1,ih x.2⟩
open TablesWhole
noncomputable abbrev xm:Scope:=pw.main.scope
noncomputable abbrev ct:TablesWhole.Ctx:=⟨xm,[],[],[],none⟩
noncomputable abbrev wA{α:Type}(A:Alg α)(l:List Stmt):α:=wSs A xm ct xm l
noncomputable def al(l:List Stmt):Bool:=noRoadLSs Ac l&&((wA gather l).isEmpty&&wA holds l)
theorem fY{a b:List Stmt}(x:al a=true)(y:al b=true):al (a++b)=true:=
 have x:=C5.mp x
 have y:=C5.mp y
 have u:=C5.mp x.2
 have v:=C5.mp y.2
 u1 (qE (λ_ _=>rfl) y.1 x.1) (u1 (qE (f:=λl=>(wA gather l).isEmpty) (k:=λs=>(wS gather xm ct xm s).isEmpty) (λs r=>by show (wS gather xm ct xm s++wA gather r).isEmpty=_;cases wS gather xm ct xm s<;>rfl) v.1 u.1) (qE (λ_ _=>rfl) v.2 u.2))
theorem qv:rl.row.prog.main.body=S8 0 60++(S8 60 6++(S8 66 4++(S8 70 4++(S8 74 1++(S8 75 1++(S8 76 13++S8 89 13)))))):=by kernel_rfl
theorem Jc:al (S8 0 60)=true:=by kernel_rfl
theorem Jb:al (S8 60 6)=true:=by kernel_rfl
theorem Ja:al (S8 66 4)=true:=by kernel_rfl
theorem IZ:al (S8 70 4)=true:=by kernel_rfl
theorem IY:al (S8 74 1)=true:=by kernel_rfl
theorem IX:al (S8 75 1)=true:=by kernel_rfl
theorem IW:al (S8 76 13)=true:=by kernel_rfl
theorem IV:al (S8 89 13)=true:=by kernel_rfl
theorem DT:al pw.main.body=true:=by
 rw[show pw.main.body=_ from qv]
 exact fY Jc (fY Jb (fY Ja (fY IZ (fY IY (fY IX (fY IW IV))))))
theorem CI:noRoadLSs Ac rl.row.prog.main.body=true:=(C5.mp DT).1
theorem CC{p:Program}(a:p.modules=[])(b:p.parses=[])(c:p.harvested=[])(n:noTwice p.main.scope=true)(g:wSs gather p.main.scope ⟨p.main.scope,[],[],[],none⟩ p.main.scope p.main.body=[])(w:wSs holds p.main.scope ⟨p.main.scope,[],[],[],none⟩ p.main.scope p.main.body=true):p.tablesWhole=true:=by
 delta Program.tablesWhole wProgram wModule
 rw[a,b,c,g]
 exact u1 (u1 n (u1 w rfl)) rfl
theorem tws:pw.tablesWhole=true:=
 have q:=C5.mp (C5.mp DT).2
 CC rfl rfl rfl (by kernel_rfl) (List.isEmpty_iff.mp q.1) q.2
theorem CJ:namesResolve rl.row.prog=true:=by kernel_rfl
theorem AM:noClassBlock rl.prog rl.footing=true:=by kernel_rfl
theorem AL:noRoadLSs { strict:=true,foot:=some rl.bound',writes:=rl.writes,may:=rl.may } rl.footing=true:=by kernel_rfl
theorem AK:rl.namesIt=true:=by kernel_rfl
theorem AJ:namesMeet rl.prog rl.above (λ_ n=>!rl.own.contains n)=true:=by kernel_rfl
theorem ym{b:Bool}{r:Str→Bool}{l:List Stmt}(h:b=false)(v1:r "vars" = false)(v2:r "dir" = false)(v3:r "locals" = false)(x:noRoadLSs Ac l=true):noRoadLSs { strict:=b,foot:=none,bare:=(["vars","dir","locals"]:List Str).filter r } l=true:=by
 rw[h,Y7 (ne_true_of_eq_false v1),Y7 (ne_true_of_eq_false v2),Y7 (ne_true_of_eq_false v3)]
 exact x
theorem v1:readsOut pw pw.main.body "vars" = false:=by kernel_rfl
theorem v2:readsOut pw pw.main.body "dir" = false:=by kernel_rfl
theorem v3:readsOut pw pw.main.body "locals" = false:=by kernel_rfl
theorem v4:(namesMeet pw pw.main.body λ_ n=>attrL n)=true:=by kernel_rfl
theorem Dg:looksOpen rl.row.prog=true:=by
 unfold looksOpen
 refine u1 (u1 (u1 (u1 (u1 ?_ ?_) CJ) ?_) (ym ?_ v1 v2 v3 CI)) v4<;>kernel_rfl
theorem part:rl.row.partSaid=true:=by
 unfold OpenRow.partSaid
 refine u1 (u1 (u1 (u1 (u1 (u1 (u1 (u1 (u1 (u1 (u1 (u1 (u1 Dg ?_) ?_) ?_) ?_) ?_) ?_) ?_) ?_) ?_) ?_) ?_) ?_) ?_<;>kernel_rfl
theorem xp:rl.row.wellSaid=true:=by
 unfold OpenRow.wellSaid
 refine u1 (u1 part ?_) ?_<;>kernel_rfl
theorem said:rl.wellSaid=true:=by
 unfold OpenLaw.wellSaid
 refine u1 (u1 (u1 (u1 (u1 (u1 (u1 (u1 (u1 (u1 (u1 (u1 (u1 (u1 (u1 (u1 (u1 (u1 xp ?_) ?_) AM) ?_) ?_) AL) ?_) AK) ?_) ?_) ?_) ?_) ?_) ?_) ?_) ?_) AJ) ?_<;>kernel_rfl
end Mine.Hd
end
section
open PySem PySem.W PyProof.Rows
section
set_option maxRecDepth 100000
namespace Mine.Z
noncomputable section
noncomputable def sl(l:List String):List Str:=l.map Str.ofString
noncomputable def Im:List Nat:=[125,132,139,146,153,160,167,174,181,188,195,203,210,217,224,231,238,245,252,423,682,689,696,850,1144,1149,1156,1163,1170,1175,1180,1187,1194,1201,1208,1215,1222,1229,1236,1243,1250,1257,1264,1269,1276,1283,1290,1295,266,315,341,348,355,369,395,437,444,451,458,465,472,493,500,507,514,542,549,556,563,570,577,584,591,598,605,612,619,626,633,654,661,710,717,724,745,752,759,766,773,794,801,822,829,864,871,878,885,892,899,906,913,934,941,948,955,962,969,976,983,990,997,1004,1011,1018,1039,1046,1053,1060,1067,1074,1081,1088,1095,1102,1109,1116,1123,1130]
noncomputable def wy:List Nat:=[412,412,412,412,412,412,412,412,412,325,379,412,475,524,636,671,727,776,804,839,916,1021,1133]
noncomputable def Ew:List Nat:=[31,44,56,68,80,92,104,116]
noncomputable def Ih:List Nat:=3::0::1::(wy++(Im++[30,43,55,67,79,91,103,115,289,324,378,411,474,523,635,670,726,775,803,838,915,1020,1132]))
noncomputable def BR:List Str:=sl ["append","extend","pop","offset","size","add","finish","abandon","add_key","start_block","count","block_size","key","value","step","back","valid","seek_first","seek_last","seek","last_key","first_key","offset_of","get","walk","estimate","empty","count_restarts","reset","make","may_have","restart_interval","filter_bits","filter_base_lg","check","paranoid","user_order","compare","dress","successor","log_block","sync_writes","create_missing","write_buffer","max_height","heights","max_file_size","num_levels","l0_trigger","l0_stop","base_bytes","level_factor","max_mem_level","grandparent_factor","expand_factor","interval","order","buffer","restarts","since","entries","finished","data","limit","block","current","ahead","turn","held_key","value_from","need","lose","entry_at","go_restart","parse","narrow","bits","probes","bloom","base_lg","keys","offsets","filters","close_span","start","meta","index","encode","options","out","waiting","closed","close_block","write_block","footer","body_end","read_block","read_filters","verify","whole_handle","block_iter","verify_key","data_end","outer","maker","inner","place","aside","enter","skip_ahead","skip_behind"]
noncomputable def IC:List (List String):=[["n","most","out"],["data","at","octets","most","n","shift","turn","octet"],["n"],["data","at"],["n"],["data","at"],["n"],["n"],["data","at"],["data","at"],["table","c","half","low"],["data","start","table","c","octet"],["c"],["kind","data"],["data","size","h","at","rest"],["seq","kind"],["ik","user","tag","kind"],["ik"],["ik"],["a","b","most","at"],["data","at","offset","size"],["content","check","body"],["data","handle","check","end","body"],["data","tail","handles","meta","at","index"],["nums","i"],["n","wide","i"],["n","out"],["crc","content","body","c","octet","turn"],["rows","out","key","value"],["key","probes","wide","h","at","turned","part","i"],["bits","keys","probes","lit","key","spot","p"],["held","key","spot"],["bits","lg","spans","out","starts","keys"],["user","tag","n"],["head"],["world","heads","data","spans","index","top","metas","meta","content","foot","magic","crc","bits","lg"],["builder","what","key"],["opts","heads","x","builder","short","size","head","key"],["opts","heads","x","builder","what","data"],["walk","told","turn"],["walk","rows","place"],["walk","rows","x","target","before","place","turn","deed"],["table","last"],["opts","data","meta","top","heads","held","x","rows","ends","turn","table","y","sought","key","place","got","before","head"],["x","order","entry","builder","turn","rows","content","block","target","before","key","value"],["bits","x","bloom","strange","dark","lit","word","key"],["bits","lg","x","builder","spans","turn","data","what","reader","few","span","y","offset","want","key"],["script","nums","a","b","c","bits","lg","user","heads","turn","y","z","mine","opts","again","x","data","meta","top","gone","what","held"],["self","a","b"],["self","a","at"],["self"],["self","a","b","c","tag_a","tag_b"],["self","a","user","short"],["self","a","user"],["self"],["self","interval","order"],["self"],["self"],["self"],["self","key","value","shared"],["self","out","place"],["self","data","order","size","count","turn","place"],["self"],["self"],["self","at","value_at","end","shared","place","unshared","length"],["self","block"],["self"],["self"],["self"],["self"],["self"],["self","turn"],["self","start","before","restarts","shared","place","value_at","end"],["self"],["self"],["self","target"],["self","target","left","right","side","standing","middle","found"],["self"],["self","original","turn"],["self","offset","size"],["self"],["self","bits","probes"],["self","keys","wanted","length","wide","out","key","h","delta","probe","place"],["self","key","held","probes","wide","h","delta","probe","place"],["self","bloom","base_lg"],["self","offset","span"],["self","key"],["self"],["self","out","place"],["self","bloom","data","size","start"],["self","offset","key","span","place","low","high"],["self","meta","index"],["self","handles"],["self","options","order","bloom"],["self"],["self"],["self","ikey","value","user","between"],["self","content","handle"],["self"],["self","metas","meta","index","handle"],["self"],["self","data","options","order","metas"],["self","handle"],["self","metas","walker","content"],["self","octets","handle","at"],["self","octets","content"],["self"],["self","ikey","outer","place","inner","handle"],["self","ikey","outer"],["self","walker"],["self","walker"],["self","metas","walker"],["self","metas","end","last","bound","outer","handle","inner","key"],["self","key","last","bound","top","handle","user","seq","kind"],["self","outer","maker"],["self"],["self"],["self"],["self"],["self","held"],["self","held","place"],["self","held"],["self","held"],["self","held"],["self","held"],["self","target","held"],["self"],["self"]]
noncomputable def HP:List (List Str):=IC.map sl
noncomputable def keys:List Nat:=Ih++O3 1296
noncomputable def rT(p:Params)(a:Nat):Obj:=((Hd.z27 p default).tree.get a).getD default
noncomputable def Kf(p:Params):Frag:=keys.map λa=>(a,rT p a)
noncomputable def Pr(p:Params):Prg:=⟨Hd.pw,Kf p,Z9 0 Im,Z9 412 wy,Z9 31 Ew,Z9 "" BR,BR.length,aY⟩
noncomputable def ro(o:Obj):Bool:=match o.data with
 |.freed=>true
 |_=>false
end
noncomputable section
noncomputable def allB:Nat→(Nat→Bool)→Bool
 |0,_=>true
 |n+1,F=>F n&&allB n F
noncomputable def AU(K:Frag)(C:Addr):Bool:=plainGet K C "" && hasDictIn K C&&decide (findIn K (.ref C) "__setattr__" = some (some (.builtin "object.__setattr__")))&&plainOver K C
noncomputable def ox(P:Prg)(C f:Nat):Bool:=match P.mtab C f with
 |none=>decide (findIn P.K (.ref (P.ca C)) (P.an f)=some none)
 |some g=>decide (findIn P.K (.ref (P.ca C)) (P.an f)=some (some (.ref (P.fa g))))&&isFn P.K (.ref (P.fa g))&&keepIn P.K (.ref (P.fa g))
noncomputable def rv(h:Heap):List Str→Bool
 |[]=>true
 |n::r=>h.ownExcOk n r DJ "Exception.__new__" && rv h r
noncomputable def BF:Nat→List String
 |0=>["KeepError"]
 |1=>["StoreError","KeepError"]
 |2=>["Corrupt","StoreError","KeepError"]
 |3=>["ShortOctets","Corrupt","StoreError","KeepError"]
 |4=>["NotFound","StoreError","KeepError"]
 |5=>["BadOption","StoreError","KeepError"]
 |6=>["IterMisuse","StoreError","KeepError"]
 |_=>["BuildOrder","StoreError","KeepError"]
noncomputable def DC(p:Params)(c:Nat):Bool:=rv (Hd.hp p) (sl (BF c))&&decide ((Hd.hp p).nsMap C8 (Z9 "" (sl (BF c)) 0)=some (.ref (Z9 31 Ew c)))
end
theorem U9{F:Nat→Bool}:∀{n:Nat},allB n F=true→∀i,i<n→F i=true
 |0,_,_,h=>absurd h (R0 _)
 |n+1,c,i,h=>s7 c λa b=>(Nat.lt_succ_iff_lt_or_eq.mp h).elim (λl=>U9 b i l) λe=>e▸a
theorem jI{α:Type}{d:α}:∀{l:List α} {i:Nat},l.length≤i→Z9 d l i=d
 |[],_,_=>rfl
 |_::_,0,h=>absurd h (aK _)
 |_::r,i+1,h=>jI (l:=r) (L2 h)
theorem jJ{α:Type}{d:α}:∀{l:List α} {i:Nat},i<l.length→Z9 d l i∈l
 |[],_,h=>absurd h (R0 _)
 |_::_,0,_=>.head _
 |_::r,i+1,h=>.tail _ (jJ (l:=r) (B1 h))
theorem ux{α:Type}{d:α}{l:List α}(nd:l.Nodup){i j:Nat}(hi:i<l.length)(hj:j<l.length)(e:Z9 d l i=Z9 d l j):i=j:=by
 induction l generalizing i j with
 |nil=>cases hi
 |cons a r ih=>
  refine eX02 (I2.mp nd) λn1 n2=>?_
  cases i with
  |zero=>cases j with
   |zero=>rfl
   |succ j=>exact absurd (show a∈r from (show a=Z9 d r j from e)▸jJ (B1 hj)) n1
  |succ i=>cases j with
   |zero=>exact absurd (show a∈r from (show Z9 d r i=a from e)▸jJ (B1 hi)) n1
   |succ j=>exact congrArg (· + 1) (ih n2 (B1 hi) (B1 hj) e)
theorem oP{f:Nat→Obj}{a:Nat}:∀{l:List Nat},a∈l→(l.map λa=>(a,f a)).lookup a=some (f a)
 |b::r,h=>by
  rw[F5,L9]
  by_cases q:a=b
  ·rw[q,beq_self_eq_true]
  ·rw[show (a==b)=false by simpa using q]
   exact oP ((l5.mp h).resolve_left q)
theorem lH{f:Nat→Obj}{a:Nat}{o:Obj}:∀{l:List Nat},(l.map λa=>(a,f a)).lookup a=some o→a∈l∧o=f a
 |[],h=>by cases h
 |b::r,h=>by
  rw[F5,L9] at h
  by_cases q:a=b
  ·subst q;rw[beq_self_eq_true] at h;cases h;exact⟨.head _,rfl⟩
  ·rw[show (a==b)=false by simpa using q] at h
   have:=lH (l:=r) h
   exact⟨.tail _ this.1,this.2⟩
section
variable{p:Params}
theorem yB:(Hd.hp p).objs.size=1296:=absHeap_size _ _ _
theorem Bu:(Ih.all λa=>Nat.blt a 1296)=true:=by kernel_rfl
theorem uW:∀p:Params,(O3 1296).all (λa=>!ro (rT p a))=true:=λp=>by kernel_rfl
theorem vD{a:Nat}(h:a<1296):(Hd.hp p).get? a=some (rT p a):=by
 have l:ro (rT p a)=false:=iQ (M0.mp (uW p) a (eP.mpr h))
 unfold Heap.get?
 rw[show (Hd.hp p).objs[a]?=some (rT p a) from (absHeap_at _ _ _ _).trans (if_pos h)]
 revert l
 cases rT p a with | mk a b c d=>cases c<;>first | exact λ_=>rfl | exact λl=>nomatch l
theorem Bq{a:Nat}(h:a∈keys):a<1296:=(y6.mp h).elim (λq=>by
 have:=M0.mp Bu a q
 exact F3 this) eP.mp
theorem vj{a:Nat}{o:Obj}(h:(Hd.hp p).get? a=some o):(Kf p).lookup a=some o:=by
 have lt:a<1296:=Nat.lt_of_not_le λq=>by rw[Heap.get?_none_of_le (by rw[yB];exact q)] at h;cases h
 rw[vD lt] at h
 exact(oP (s9 _ (eP.mpr lt))).trans h
theorem kin:(Kf p).In (Hd.hp p):=λa o h=>by
 refine eX02 (lH h) λm zq1=>?_;subst zq1
 exact vD (Bq m)
theorem FL{h:Heap}(k:(Kf p).In h)(b:Addr)(o:Obj)(e:(Hd.hp p).get? b=some o):h.get? b=some o:=k b o (vj e)
theorem vR{h:Heap}{n:Str}{r:List Str}(c:rv h (n::r)=true):OwnTail h DJ ((r.map λn=>(h.nsMap C8 n).getD .none)++DJ):=by
 refine OwnTail.of_chain r λm hm=>?_
 have c1:rv h r=true:=s7 c λ_ b=>b
 clear c
 induction r with
 |nil=>cases hm
 |cons a r ih=>exact s7 c1 λa b=>(l5.mp hm).elim (λe=>e▸⟨_,_,_,a⟩) λe=>ih e b
theorem yK:∀p:Params,allB 8 (DC p)=true:=λp=>by kernel_rfl
theorem BE{c:Nat}(h:c<8):ExcOK (Pr p) c:=by
 refine s7 (U9 (yK p) c h) λx y=>?_
 have y:=of_decide_eq_true y
 revert x y
 cases sl (BF c) with
 |nil=>intro x y;exact absurd (y.symm.trans (show _=none by kernel_rfl)) nofun
 |cons n r=>
  intro x y
  refine eX41 (Heap.ownExc_of_ok (show (Hd.hp p).ownExcOk n r DJ "Exception.__new__" = true from s7 x λa _=>a)) λC N nm q zy11=>eX41 zy11 λbs hdct sn sub zn1=>?_;refine eX41 zn1 λab col dd k0 zy12=>eX44 zy12 λk1 k2 k3 k5 h1 h2 h3 h4=>?_;clear zn1
  cases h1.symm.trans y
  refine eX34 h3 λo es ep e1 e2 e3 e4=>?_;clear h3
  have T:=vR x
  exact⟨nm,q,N,bs,_,hdct,sn,sub,ab,col,dd,k0,k1,k2,k3,k5,o,es,ep,vj h2,vj e1,e2,e3,(e4 _).trans h4,T.hasType rfl,λh k=>T.keeps (FL k)⟩
theorem yC:∀p:Params,allB 8 (λc=>allB 8 λd=>decide (exmOne (Kf p) (.ref (Z9 31 Ew c)) (.ref (Z9 31 Ew d))=some (rK c d)))=true:=λp=>by kernel_rfl
theorem Bw:HdlOK (Pr p):=⟨λc d hc hd=>of_decide_eq_true (U9 (U9 (yC p) c hc) d hd)⟩
theorem ji:∀p:Params,allB 24 (λC=>AU (Kf p) (Z9 412 wy C))=true:=λp=>by kernel_rfl
theorem wI:∀p:Params,allB 24 (λC=>allB BR.length (ox (Pr p) C))=true:=λp=>by kernel_rfl
theorem DS:decide BR.Nodup=true:=by kernel_rfl
theorem nc{C:Nat}(F:Addr→Bool)(h:∀C,C<24→F (Z9 412 wy C)=true):F (Z9 412 wy C)=true:=by
 by_cases q:C<24
 ·exact h C q
 ·rw[show Z9 412 wy C=Z9 412 wy 23 from (jI (A9 (i8 (by decide:wy.length<24) (L8 q)))).trans rfl]
  exact h 23 (by decide)
theorem jH:∀{l:List (List (Nat×Nat))} {i:Nat},l.length≤i→xC l i=[]
 |[],_,_=>rfl
 |_::_,0,h=>absurd h (aK _)
 |_::r,i+1,h=>jH (l:=r) (L2 h)
theorem uf{C f:Nat}(h:f<BR.length):ox (Pr p) C f=true:=by
 by_cases q:C<24
 ·exact U9 (U9 (wI p) C q) f h
 ·have e1:Z9 412 wy C=Z9 412 wy 23:=(jI (A9 (i8 (by decide:wy.length<24) (L8 q)))).trans rfl
  have e2:aY C f=aY 23 f:=by unfold aY;rw[jH (A9 (i8 (by decide:rg.length<24) (L8 q)))];rfl
  have:=U9 (U9 (wI p) 23 (by decide)) f h
  unfold ox at this ⊢
  rw[show (Pr p).mtab C f=(Pr p).mtab 23 f from e2,show (Pr p).ca C=(Pr p).ca 23 from e1]
  exact this
theorem ye:allB 24 (λC=>(xC rg C).all λx=>Nat.blt x.1 BR.length)=true:=by kernel_rfl
theorem lK{n k:Nat}:∀{l:List (Nat×Nat)},jQ l n=some k→∃x,x∈l∧x.1=n
 |[],h=>by cases h
 |x::r,h=>by
  unfold jQ at h
  cases q:Nat.beq x.1 n with
  |true=>exact⟨x,.head _,M7 q⟩
  |false=>rw[q] at h;refine eX12 (lK (l:=r) h) λy a b=>?_;exact⟨y,.tail _ a,b⟩
theorem GX{C f k:Nat}(h:aY C f=some k):f<BR.length:=by
 refine eX12 (lK h) λx a zq2=>?_;subst zq2
 by_cases q:C<24
 ·exact F3 (M0.mp (U9 ye C q) x a)
 ·rw[jH (A9 (i8 (by decide:rg.length<24) (L8 q)))] at a;cases a
theorem Jk:POK (Pr p) where
 a0:=by kernel_rfl
 a1:=by kernel_rfl
 a2:=by kernel_rfl
 inj f g hf hg e:=ux (of_decide_eq_true DS) hf hg e
 m0 C f hf e:=by
  have:=uf (p:=p) (C:=C) hf
  unfold ox at this
  rw[e] at this;exact of_decide_eq_true this
 m1 C f g e:=by
  have:=uf (p:=p) (C:=C) (GX e)
  unfold ox at this
  rw[e] at this
  exact s7 this λa c=>s7 a λa b=>⟨of_decide_eq_true a,b,c⟩
 cg C x:=nc (λa=>plainGet (Kf p) a x) λC h=>s7 (U9 (ji p) C h) λa _=>s7 a λa _=>s7 a λa _=>a
 ch C:=nc (λa=>hasDictIn (Kf p) a) λC h=>s7 (U9 (ji p) C h) λa _=>s7 a λa _=>s7 a λ_ b=>b
 cs C:=of_decide_eq_true (nc (λa=>decide (findIn (Kf p) (.ref a) "__setattr__" = some (some (.builtin "object.__setattr__")))) λC h=>s7 (U9 (ji p) C h) λa _=>s7 a λ_ b=>b)
 cp C:=nc (λa=>plainOver (Kf p) a) λC h=>s7 (U9 (ji p) C h) λ_ b=>b
end
noncomputable section
noncomputable def dZ:Nat→Nat→(Nat→Bool)→Bool
 |_,0,_=>true
 |a,n+1,F=>F a&&dZ (a+1) n F
noncomputable def eB(P:Prg)(f:Nat):Bool:=match rU yH f with
 |some F=>BA P (P.fa f) F (Z9 [] HP f)
 |none=>true
noncomputable def vB(P:Prg):List (Nat×Nat)→Bool
 |[]=>true
 |x::r=>pB P.K (P.ca x.1) (some (P.fa x.2))&&vB P r
noncomputable abbrev sc(p:Params):Cl:=λr f=>fE (Pr p) ((Pr p).fa f) r
noncomputable abbrev IJ(p:Params):Cl:=λr k=>fE (Pr p) ((Pr p).ca k) r
end
theorem I0{F:Nat→Bool}{a n:Nat}(h:∀i,i<a→F i=true)(g:dZ a n F=true):∀i,i<a+n→F i=true:=by
 induction n generalizing a with
 |zero=>exact h
 |succ n ih=>
  refine s7 g λg1 g2 i hi=>ih (a:=a+1) (λi hi=>(Nat.lt_succ_iff_lt_or_eq.mp hi).elim (h i) λe=>e▸g1) g2 i (by rw[bY];exact hi)
theorem JL:∀p:Params,dZ 0 8 (eB (Pr p))=true:=λp=>by kernel_rfl
theorem JK:∀p:Params,dZ 8 8 (eB (Pr p))=true:=λp=>by kernel_rfl
theorem JJ:∀p:Params,dZ 16 8 (eB (Pr p))=true:=λp=>by kernel_rfl
theorem JI:∀p:Params,dZ 24 8 (eB (Pr p))=true:=λp=>by kernel_rfl
theorem JH:∀p:Params,dZ 32 8 (eB (Pr p))=true:=λp=>by kernel_rfl
theorem JG:∀p:Params,dZ 40 8 (eB (Pr p))=true:=λp=>by kernel_rfl
theorem JF:∀p:Params,dZ 48 8 (eB (Pr p))=true:=λp=>by kernel_rfl
theorem JE:∀p:Params,dZ 56 8 (eB (Pr p))=true:=λp=>by kernel_rfl
theorem JD:∀p:Params,dZ 64 8 (eB (Pr p))=true:=λp=>by kernel_rfl
theorem JC:∀p:Params,dZ 72 8 (eB (Pr p))=true:=λp=>by kernel_rfl
theorem Fw:∀p:Params,dZ 80 8 (eB (Pr p))=true:=λp=>by kernel_rfl
theorem Fv:∀p:Params,dZ 88 8 (eB (Pr p))=true:=λp=>by kernel_rfl
theorem Fu:∀p:Params,dZ 96 8 (eB (Pr p))=true:=λp=>by kernel_rfl
theorem Ft:∀p:Params,dZ 104 8 (eB (Pr p))=true:=λp=>by kernel_rfl
theorem Fs:∀p:Params,dZ 112 8 (eB (Pr p))=true:=λp=>by kernel_rfl
theorem Fq:∀p:Params,dZ 120 8 (eB (Pr p))=true:=λp=>by kernel_rfl
theorem oE:∀{l:List Fn} {i:Nat},l.length≤i→rU l i=none
 |[],_,_=>rfl
 |_::_,0,h=>absurd h (aK _)
 |_::r,i+1,h=>oE (l:=r) (L2 h)
theorem CY(p:Params){f:Nat}{F:Fn}(h:rU yH f=some F):BA (Pr p) ((Pr p).fa f) F (Z9 [] HP f)=true:=by
 have l:f<128:=Nat.lt_of_not_le λq=>by
  rw[show rU yH f=none from oE q] at h;cases h
 have:=(I0 (I0 (I0 (I0 (I0 (I0 (I0 (I0 (I0 (I0 (I0 (I0 (I0 (I0 (I0 (I0 (λ_ h=>absurd h (R0 _)) (JL p)) (JK p)) (JJ p)) (JI p)) (JH p)) (JG p)) (JF p)) (JE p)) (JD p)) (JC p)) (Fw p)) (Fv p)) (Fu p)) (Ft p)) (Fs p)) (Fq p)) f l
 unfold eB at this
 rw[h] at this;exact this
theorem Br:∀p:Params,vB (Pr p) Dv=true:=λp=>by kernel_rfl
theorem zc:∀p:Params,pB (Kf p) ((Pr p).ca 9) none=true:=λp=>by kernel_rfl
theorem vA{P:Prg}{k g:Nat}:∀{l:List (Nat×Nat)},vB P l=true→jQ l k=some g→pB P.K (P.ca k) (some (P.fa g))=true
 |[],_,h=>by cases h
 |x::r,c,h=>by
  unfold jQ at h
  refine s7 c λc1 c2=>?_
  cases q:Nat.beq x.1 k with
  |true=>rw[q] at h;cases h;obtain rfl:=M7 q;exact c1
  |false=>rw[q] at h;exact vA c2 h
theorem lv(p:Params):Lv (sc p) (IJ p) where
 call e _ _ _ _ _ h:=vO Jk (λ_ h=>BE h) Bw (CY p e) h
 cls e _ _ _ _ _ h:=sJ (vA (Br p) e) h.h
 cls9 h:=qr (zc p) h.h
inductive IntsL:List Int→List Value→Prop
 |nil:IntsL [] []
 |cons {i:Int} {l:List Int} {t:Tok} {vs:List Value}:IntsL l vs→IntsL (i::l) (.int i t::vs)
section
variable{R:WRecords}{cl:Str→Option Addr}{P:Params}{ord:List DictEntry→List DictEntry}{h:Heap}
theorem oX:∀{l:List Int} {s:Shared},∃vs tk,layAllW R cl P ord (l.map WData.int) s=some (vs,{ s with toks:=tk })∧IntsL l vs
 |[],s=>⟨[],s.toks,rfl,.nil⟩
 |i::l,s=>by
  refine eX22 (oX (l:=l) (s:={ s with toks:=s.toks+1 })) λvs tk e x=>?_
  refine⟨.int i s.toks::vs,tk,?_,.cons x⟩
  rw[F5,layAllW,layW]
  dsimp only
  rw[e]
theorem IntsL.reads{l:List Int}{vs:List Value}(x:IntsL l vs):ReadsAllW R cl h vs (l.map WData.int) []:=by
 induction x with
 |nil=>exact .nil
 |cons _ ih=>exact .cons (.int _ _) ih
theorem pa:∀{xs:List WData},WShape.hasItems R xs .int=true→∃l:List Int,xs=l.map .int
 |[],_=>⟨[],rfl⟩
 |x::xs,h=>by
  rw[WShape.hasItems,M1] at h
  refine eX11 (pa h.2) λl zq1=>?_;subst zq1
  cases x with
  |int i=>exact⟨i::l,rfl⟩
  |_=>exact dD (show false=true from h.1)
theorem ud{l:OpenLaw}(hm:l.most=some 63){args:List WData}(h:l.row.toRowW.claim.pre args=true):∃is:List Int,args=[.list (is.map .int)]∧is.length≤63:=by
 refine eX02 (pre_splitW h) λh1 h2=>?_
 refine eX23 (hasAllW_cons (show WShape.hasAll [] args [.list .int]=true from h1)) λd r zq2 a b=>?_;subst zq2
 obtain rfl:=hasAllW_nil b
 cases d with
 |list xs=>
  have a:WShape.hasItems [] xs .int=true:=(Bool.or_false _).symm.trans a
  refine eX11 (pa a) λis zq3=>?_;subst zq3
  refine⟨is,rfl,?_⟩
  have h2:l.pre.holds [] { args:=[.list (is.map .int)] }=true:=h2
  unfold OpenLaw.pre at h2
  rw[hm] at h2
  by_cases q:is.length≤63
  ·exact q
  ·have e:WTm.value [] (.not (.lt (.lit (.int (63:Nat))) (.len (.arg 0)))) { args:=[.list (is.map .int)] }=some (.bool false):=by
    have e1:WTm.value [] (.lt (.lit (.int (63:Nat))) (.len (.arg 0))) { args:=[.list (is.map .int)] }=some (.bool (decide (((63:Nat):Int)<((is.map WData.int).length:Int)))):=by kernel_rfl
    rw[WTm.value,e1,decide_eq_true (by rw[r7];omega)];rfl
   revert h2
   unfold WTm.holds
   rw[WTm.value,e]
   exact nofun
 |_=>exact dD (show false=true from a)
theorem rX:ND ⟨.builtin "claim.caller" {},none,none,[],none⟩:=⟨by show Builtin.Bytes.decodersThatHold.contains "claim.caller" = false;decide +kernel,λ_ h=>absurd h t9⟩
set_option maxHeartbeats 4000000 in
theorem qi{l:OpenLaw}{q:Program}{loose:List Str}{Ya:World→Heap}{N:Nat}{d:DefRec}{kwd:List (Str×PySem.Expr)}{A:Addr}
  (left:LeftO l.prog q loose (λ_=>true) (λs=>s.heap) Ya N) (said:l.wellSaid=true) (hm:l.most=some 63) (hbd:l.bound=none) (hwr:l.writes=false)
  (hdef:defOf q l.name=some (d,kwd)) (hp:l.prog.theDef l.name=some (d.params,d.body,d.scope)) (hk:kwWritten? d.params.kwonlyargs d.params.kw_defaults=some kwd)
  (hch:chainsOk q=true) (ho:opensWell l.prog=true) (hb:l.prog.bare) (hA:∀w,(Ya w).nsMap C8 l.name=some (.ref A))
  (call:∀(w:World) (s₁:Shared) (a:Addr) (is:List Int) (vs:List Value),is.length≤63→IntsL is vs→(∀b o,(Ya w).get? b=some o→s₁.heap.get? b=some o)→s₁.heap.NoLimit→(∃mg,s₁.heap.Ns C8 mg) →
   (∃mb,s₁.heap.Ns X6 mb)→s₁.gens = #[]→s₁.heap.get? a=some { cls:=.type "list",data:=.seq vs.toArray } →
   M5 (y8 l.prog w) callerA (.call (.ref A) ⟨[.ref a],[]⟩) (λr s'=>r = .ok (.ret (.bool true))∧(∀b o,s₁.heap.get? b=some o→s'.heap.get? b=some o)∧s'.os=s₁.os∧s'.gens = #[]) s₁):l.Holds:=by
 have pre0:l.row.toRowW.claim.pre [.list []]=true:=by
  show (WShape.hasAll [] [.list []] [.list .int]&&l.pre.holds [] _)=true
  unfold OpenLaw.pre
  rw[hm,hbd];rfl
 refine holds_law said λk1=>⟨k1,⟨_,pre0,rfl⟩,⟨hb,ho,rfl⟩,⟨_,pre0,rfl⟩,λw=>⟨(left.behind (XP:=λ_ _=>True) (λ_ _=>trivial) hch w).1,λs' hs'=>?_⟩⟩
 refine eX13 ((left.behind (XP:=λ_ _=>True) (λ_ _=>trivial) hch w).2 s' hs') λs₀ hf hg0 zn1=>?_;refine eX13 zn1 λs hT hz zy13=>eX04 zy13 λhgens hg G y=>?_;clear zn1
 have hgens:s.gens = #[]:=Array.eq_empty_of_size_eq_zero (beq_iff_eq.mp hgens)
 refine⟨s₀,hf,hg0,s,hT,λn hn=>?_,nofun,nofun,λargs hpre hlay ord hord=>?_⟩
 ·obtain rfl:n=l.name:=i6.mp hn
  exact pinned_of_view hg G hdef hp hk
 ·refine eX12 (ud hm hpre) λis zq4 hl=>?_;subst zq4
  refine D2 λ_ kk=>?_
  refine eX22 (oX (R:=[]) (cl:=classAt s.heap) (P:=w.params) (ord:=ord) (l:=is) (s:=s)) λvs tk e x=>?_
  have e':layAllW l.row.toRowW.claim.records (classAt s.heap) w.params ord [.list (is.map .int)] s=some ([.ref s.heap.objs.size],⟨s.heap.push { cls:=.type "list",data:=.seq vs.toArray },s.gens,s.drawn,tk,s.os⟩):=by
   show layAllW [] _ _ _ _ _=_
   rw[layAllW,layW,e];rfl
  have kp:∀b o,s.heap.get? b=some o→(s.heap.push { cls:=.type "list",data:=.seq vs.toArray }).get? b=some o:=λb o e=>Heap.get?_push_of_some _ e
  have gt:=Heap.get?_push_size s.heap (o:={ cls:=.type "list",data:=.seq vs.toArray }) rfl
  have cl:=call w ⟨s.heap.push { cls:=.type "list",data:=.seq vs.toArray },s.gens,s.drawn,tk,s.os⟩ s.heap.objs.size is vs hl x (λb o e=>kp b o (by rw[y];exact e)) (G.T.nolimit.keeps kp) ⟨_,G.T.g.keeps kp⟩ ⟨_,G.T.b.keeps kp⟩ hgens gt
  have tr:A4 (y8 l.prog w) callerA (callStub l.name [.ref s.heap.objs.size]).cur (λfin s'=>∃f,fin = .done f∧(f = .ret (.bool true)∧(∀b o,(s.heap.push { cls:=.type "list",data:=.seq vs.toArray }).get? b=some o→s'.heap.get? b=some o)∧s'.os=s.os∧s'.gens = #[])) (λ_ _=>False)
    ⟨s.heap.push { cls:=.type "list",data:=.seq vs.toArray },s.gens,s.drawn,tk,s.os⟩:=by
   refine j8 (v9 (wpAny_nsGet (G.T.g.keeps kp) ?_))
   rw[show s.heap.nsMap C8 l.name=some (.ref A) by rw[y];exact hA w]
   refine j8 (K3 (cS (Q:=λv s'=>v = .bool true∧(∀b o,(s.heap.push { cls:=.type "list",data:=.seq vs.toArray }).get? b=some o→s'.heap.get? b=some o)∧s'.os=s.os∧s'.gens = #[]) (E:=λ_ _=>False) (bw cl λr s' z=>?_)) (λv s' z=>?_) λ_ _ z=>z)
   ·obtain⟨rfl,z⟩:=z;exact⟨rfl,z⟩
   ·obtain⟨rfl,z⟩:=z;exact s8 ⟨_,rfl,rfl,z⟩
  refine eX44 (wp_halts_full (M:=y8 l.prog w) (p:=default) (s:=⟨s.heap.push { cls:=.type "list",data:=.seq vs.toArray },s.gens,s.drawn,tk,s.os⟩)
   (R:=λr s'=>r = .ok (.ret (.bool true))∧(∀b o,(s.heap.push { cls:=.type "list",data:=.seq vs.toArray }).get? b=some o→s'.heap.get? b=some o)∧s'.os=s.os∧s'.gens = #[])
   (Shared.asleep_of_life (s:=s) rfl hz) (Sem.wp_mono _ _ _ (λfin p' s' h'=>by
    refine eX13 h' λf zq3 zq4 zy14=>eX03 zy14 λa b c=>?_;clear h';subst zq3;subst zq4
    exact⟨⟨rfl,a,b,c⟩,by rw[c];unfold leftWithCleanup;simp⟩) (λ_ _ _ h'=>h'.elim) _ _ (tr _ default caller_in rX))) λn r s2 s3 hs hn hfo hR=>?_
  refine eX04 hR λzq9 k os gn=>?_;clear hR;subst zq9
  refine eX04 (Shared.forget_eq hfo) λeh _ _ zy15=>eX02 zy15 λeo eg=>?_
  rw[←eh] at k
  rw[←eo] at os
  have pst:l.row.toRowW.claim.post [.list (is.map .int)] (.bool true) [.list (is.map .int)]=true:=by
   show (WShape.has [] (.bool true) .bool&&WTm.holds [] (.eq .res (.lit (.bool true))) { args:=[.list (is.map .int)],res:=some (.bool true),after:=[.list (is.map .int)] })=true
   kernel_rfl
  have idn:∀x y,l.row.toRowW.claim.ident x y=true:=ident_freeW rfl rfl rfl
  have rd:ReadsAllW [] (classAt s.heap) s3.heap [.ref s.heap.objs.size] [.list (is.map .int)] [s.heap.objs.size]:=.cons (.list (k _ _ gt) rfl rfl x.reads) .nil
  have rs:∀cls,l.row.toRowW.claim.raises [.list (is.map .int)] cls=false:=λ_=>rfl
  refine kk ?_
  refine⟨_,_,e',n,_,s3,hs,.inl ⟨.bool true,rfl,rs,⟨.bool true,[.list (is.map .int)],[],[s.heap.objs.size],.bool true,rd,pst,λ_=>⟨.nil,λ_ h=>absurd h t9,λ_ h=>absurd h t9⟩,λ_ _=>idn _ _⟩,(λ_ h=>by cases h),λb o e _ _ _=>.inl (k b o e),λ_ h=>absurd h t9⟩,λ_ i x hx=>?_,λq=>?_,?_,Shared.rest_eq os⟩
  ·rw[hgens] at hx;simp at hx
  ·rw[show l.row.writes=l.writes from rfl,hwr] at q;cases q
  ·exact congrArg Life.seen (runN_life (s:=⟨s.heap.push { cls:=.type "list",data:=.seq vs.toArray },s.gens,s.drawn,tk,s.os⟩) _ _ _ hn)
end
theorem yA{P:Prg}{V:Vw}{is:List Int}{vs:List Value}(x:IntsL is vs):VRs P V (is.map .int) vs:=by
 induction x with
 |nil=>exact .nil
 |cons _ ih=>exact .cons (.int _ _) ih
theorem vg{r:Nat}{is:List Int}{vs:List Value}{w:World}{s:Shared}{a:Addr}(hr:r≤149)(hl:is.length≤63)(x:IntsL is vs)(kp:∀b o,(Hd.hp w.params).get? b=some o→s.heap.get? b=some o)(lim:s.heap.NoLimit)
  (mg:∃mg,s.heap.Ns C8 mg) (mb:∃mb,s.heap.Ns X6 mb) (gens:s.gens = #[]) (gt:s.heap.get? a=some { cls:=.type "list",data:=.seq vs.toArray })
  (spec:sc w.params r 47 [.fl (is.map .int)] [] (λv _=>v = .bool true) λ_ _=>False) :
  M5 (y8 Hd.pw w) callerA (.call (.ref 1295) ⟨[.ref a],[]⟩) (λr s'=>r = .ok (.ret (.bool true))∧(∀b o,s.heap.get? b=some o→s'.heap.get? b=some o)∧s'.os=s.os∧s'.gens = #[]) s:=by
 have T:Rm (Pr w.params) r ⟨w,s.heap,callerA,[],default,[]⟩ ⟨λb=>b=a,λ_=>0,[],s⟩:=
  ⟨⟨kin.keeps kp,lim,mg,mb,λ_ _ e=>e,λb e=>⟨_,(show b=a from e)▸gt,λvs q=>by cases q⟩,λn h=>absurd h (R0 _),λn h=>absurd h.1 (R0 _),λn _ h=>absurd h.1 (R0 _),gens⟩,
   rfl,rfl,trivial,λ_ h=>absurd h t9,λ_ h=>absurd h t9,rfl,by show 1+claimMargin+_≤_;unfold claimMargin;exact b6 (b7 (d8 _) (r9 (d8 _) hr)) (by decide),by show 4+_≤_;exact b6 (b7 (d8 _) (r9 (d8 _) hr)) (by decide)⟩
 refine bw (spec _ _ _ _ [.ref a] T (.cons (.fl _ vs a 0 rfl gt (yA x) (by rw[r7];exact b6 hl (by decide))) .nil)) λres s' z=>?_
 cases res with
 |error e=>cases z with | mk g' y r' k=>cases k with | mk _ k=>exact k.elim
 |ok f=>cases f with
  |ret v=>
   cases z with | mk g' y r' k=>cases k with | mk x k=>
   subst k
   cases x
   exact⟨rfl,r'.stays,y.os,r'.gens⟩
  |_=>exact z.elim
noncomputable def dr(s:Stmt):DefRec:=match s with
 |.FunctionDef n a b _ _ _ sc _ _ p=>⟨n,a,b,sc,p⟩
 |_=>⟨"",default,[],default,default⟩
theorem yu:defOf Hd.q "law" = some (dr (Hd.st 100),[]):=by kernel_rfl
theorem yt:Hd.pw.theDef "law" = some ((dr (Hd.st 100)).params,(dr (Hd.st 100)).body,(dr (Hd.st 100)).scope):=by kernel_rfl
theorem Bn:kwWritten? (dr (Hd.st 100)).params.kwonlyargs (dr (Hd.st 100)).params.kw_defaults=some []:=by kernel_rfl
theorem Bo:chainsOk Hd.q=true:=by kernel_rfl
theorem sy:opensWell Hd.pw=true:=by kernel_rfl
theorem vh:Hd.pw.bare:=⟨rfl,rfl,rfl,rfl,rfl,Hd.tws⟩
theorem Bp:∀w:World,(Hd.hp w.params).nsMap C8 "law" = some (.ref 1295):=λw=>by kernel_rfl
theorem law_of(said:PySem.Challenge.rw_xw0280_01.wellSaid=true)(spec:∀{c cc:Cl},Lv c cc→∀is:List Int,∃r,r≤149∧c r 47 [.fl (is.map .int)] [] (λv _=>v = .bool true) λ_ _=>False):PySem.Challenge.rw_xw0280_01.Holds:=
 qi (l:=PySem.Challenge.rw_xw0280_01) Hd.left said rfl rfl rfl yu yt Bn Bo sy vh Bp
  λw s a is vs hl x kp lim mg mb gens gt=>eX12 (spec (lv w.params) is) λr hr h=>vg hr hl x kp lim mg mb gens gt h
end Mine.Z
end
end
theorem PySem.Challenge.cw_xw0280_01_holds : PySem.Challenge.rw_xw0280_01.Holds := by
  exact Mine.Z.law_of Mine.Hd.said fun {c cc} L is => Mine.law_spec (q := (c, cc)) L is
